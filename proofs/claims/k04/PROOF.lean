import PyProof.Rows.All
import Wide.All
import OpenK.AllK
import Wide.FinOn
import KE.KStateDown
import HandS.ForMost
import HandS.ForExc
import HandS.Defaults
import HandS.MakeKw
import HandS.MakeKwOnly
import HandS.IsInst
import HandS.Flow
import HandS.Property
import HandS.Deep
import HandS.Walk
import PyProof.ReprRoads
import PyProof.InstNe
import HandS.ExcIs
import HandS.ExcField
import HandS.ExcInit
import HandS.FStr
import HandS.HeadEnd
import HandS.HeadHook4
import PySem.Challenge.RW_answerpiles_k04_wakings_told
import HandS.Head2
set_option Elab.async false
set_option linter.all false
set_option maxRecDepth 100000
set_option maxHeartbeats 0
/-! Mi0: pure data trees (PV), a small heap of mutable cells (MH), what stands for what (Rep, REL), one step (Step), readings by mirrors (tG). -/
namespace Mi
open PySem PySem.Spec PyProof.Rows L2

inductive PV where
  | non | bl (b : Bool) | int (i : Int) | str (x : Str)
  | tup (xs : List PV) | lst (xs : List PV)
  | dct (kvs : List (Key × PV))
  | obj (c : Str) (fs : List (Str × PV))
  | raw (v : V)
  | ref (i : Nat)
  | scr (ns : List Int)
  | xc (n : Str) (fs : List (Str × PV))

inductive Cell where
  | lst (xs : List PV)
  | dct (kvs : List (Key × PV))
  | obj (c : Str) (fs : List (Str × PV))

abbrev Cs := List (Nat × Cell)
def look : Cs → Nat → Option Cell
  | [], _ => none
  | (j, k) :: r, i => if i = j then some k else look r i
def putc : Cs → Nat → Cell → Cs
  | [], i, k => [(i, k)]
  | (j, k') :: r, i, k => if i = j then (j, k) :: r else (j, k') :: putc r i k
def delc : Cs → Nat → Cs
  | [], _ => []
  | (j, k) :: r, i => if i = j then delc r i else (j, k) :: delc r i
theorem look_put (l : Cs) (i j : Nat) (k : Cell) : look (putc l i k) j = if j = i then some k else look l j := by
  induction l with
  | nil => rfl
  | cons p r ih =>
    obtain ⟨a, b⟩ := p
    simp only [putc]
    by_cases h : i = a
    · subst h
      simp only [if_true, look]
      by_cases e : j = i
      · simp [e]
      · simp [e]
    · rw [if_neg h]
      simp only [look]
      by_cases e : j = a
      · subst e
        rw [if_pos rfl, if_pos rfl, if_neg (fun z => h z.symm)]
      · rw [if_neg e, if_neg e, ih]
theorem look_del (l : Cs) (i j : Nat) : look (delc l i) j = if j = i then none else look l j := by
  induction l with
  | nil => simp [delc, look]
  | cons p r ih =>
    obtain ⟨a, b⟩ := p
    simp only [delc]
    by_cases h : i = a
    · subst h
      rw [if_pos rfl, ih]
      simp only [look]
      by_cases e : j = i
      · simp [e]
      · simp [e]
    · rw [if_neg h]
      simp only [look]
      by_cases e : j = a
      · subst e
        rw [if_pos rfl, if_pos rfl, if_neg (fun z => h z.symm)]
      · rw [if_neg e, if_neg e, ih]
structure MH where
  nx : Nat
  cs : Cs
def MH.get (h : MH) (i : Nat) : Option Cell := look h.cs i
def MH.put (h : MH) (i : Nat) (k : Cell) : MH := ⟨h.nx, putc h.cs i k⟩
def MH.del (h : MH) (i : Nat) : MH := ⟨h.nx, delc h.cs i⟩
/-- a new cell -/
def MH.new (h : MH) (k : Cell) : MH := ⟨h.nx + 1, (h.nx, k) :: h.cs⟩
theorem MH.get_put (h : MH) (i j : Nat) (k : Cell) : (h.put i k).get j = if j = i then some k else h.get j := look_put _ _ _ _
theorem MH.get_del (h : MH) (i j : Nat) : (h.del i).get j = if j = i then none else h.get j := look_del _ _ _
theorem MH.get_new (h : MH) (j : Nat) (k : Cell) : (h.new k).get j = if j = h.nx then some k else h.get j := rfl

/-- the written part; where the classes stand -/
structure Wd where
  K : PySem.W.Frag
  cl : Str → Addr
  /-- within an except suite: the exception that is held, its class, its dict -/
  sx : Option (Addr × Value × Option Addr)

def KTup (K : PySem.W.Frag) (a : Addr) (xs : List V) : Prop := ∃ (o : Obj) (its : Array Value) (n : Nat), K.lookup a = some o ∧ o.cls = .type "tuple" ∧ o.data = .seq its n ∧ its.size ≤ sizeLine ∧ Vals xs its.toList
def KLst (K : PySem.W.Frag) (a : Addr) (xs : List V) : Prop := ∃ (o : Obj) (its : Array Value) (n : Nat), K.lookup a = some o ∧ o.cls = .type "list" ∧ o.dict = none ∧ o.data = .seq its n ∧ its.size ≤ sizeLine ∧ Vals xs its.toList

section
variable (c : Wd) (F : Hp) (ρ : Nat → Option Addr)
mutual
def Rep : PV → V → Prop
  | .non, x => x = .non
  | .bl b, x => x = .bl b
  | .int i, x => x = .int i
  | .str s, x => x = .str s
  | .tup xs, x => ∃ a vs, x = .ref a ∧ (F a = some (.tup vs) ∨ KTup c.K a vs) ∧ RepL xs vs
  | .lst xs, x => ∃ a vs, x = .ref a ∧ F a = some (.lst vs) ∧ RepL xs vs
  | .dct kvs, x => ∃ a ws, x = .ref a ∧ F a = some (.dK ws) ∧ RepD kvs ws
  | .obj n fs, x => ∃ a dx ws, x = .ref a ∧ F a = some (.ins (c.cl n) dx ws) ∧ RepF fs ws
  | .raw v, x => x = v
  | .ref i, x => ∃ a, x = .ref a ∧ ρ i = some a
  | .scr ns, x => ∃ a, x = .ref a ∧ ((∃ o, F a = some (.frz o (.lst (ns.map V.int)))) ∨ KLst c.K a (ns.map V.int))
  | .xc n fs, x => ∃ a dd ws, x = .ref a ∧ c.sx = some (a, .ref (c.cl n), some dd) ∧ F dd = some (.xd ws) ∧ RepF fs ws
def RepL : List PV → List V → Prop
  | [], vs => vs = []
  | p :: ps, vs => ∃ v r, vs = v :: r ∧ Rep p v ∧ RepL ps r
def RepD : List (Key × PV) → List (Key × V) → Prop
  | [], vs => vs = []
  | (k, p) :: ps, vs => ∃ v r, vs = (k, v) :: r ∧ Rep p v ∧ RepD ps r
def RepF : List (Str × PV) → List (Str × V) → Prop
  | [], vs => vs = []
  | (k, p) :: ps, vs => ∃ v r, vs = (k, v) :: r ∧ Rep p v ∧ RepF ps r
end
end

/-- F' has all of F -/
def Le (F F' : Hp) : Prop := ∀ a o, F a = some o → F' a = some o
def LeR (ρ ρ' : Nat → Option Addr) : Prop := ∀ i a, ρ i = some a → ρ' i = some a
theorem Le.refl {F : Hp} : Le F F := fun _ _ e => e
theorem Le.trans {F G H : Hp} (a : Le F G) (b : Le G H) : Le F H := fun x o e => b x o (a x o e)
theorem LeR.refl {ρ : Nat → Option Addr} : LeR ρ ρ := fun _ _ e => e
theorem LeR.trans {F G H : Nat → Option Addr} (a : LeR F G) (b : LeR G H) : LeR F H := fun x o e => b x o (a x o e)

section
variable {c : Wd} {F F' : Hp} {ρ ρ' : Nat → Option Addr}
mutual
theorem Rep.mono (hf : Le F F') (hr : LeR ρ ρ') : ∀ {p : PV} {x : V}, Rep c F ρ p x → Rep c F' ρ' p x
  | .non, _, h => h
  | .bl _, _, h => h
  | .int _, _, h => h
  | .str _, _, h => h
  | .tup _, _, ⟨a, vs, e, h, r⟩ => ⟨a, vs, e, h.imp (hf a _) id, RepL.mono hf hr r⟩
  | .lst _, _, ⟨a, vs, e, h, r⟩ => ⟨a, vs, e, hf a _ h, RepL.mono hf hr r⟩
  | .dct _, _, ⟨a, vs, e, h, r⟩ => ⟨a, vs, e, hf a _ h, RepD.mono hf hr r⟩
  | .obj _ _, _, ⟨a, dx, vs, e, h, r⟩ => ⟨a, dx, vs, e, hf a _ h, RepF.mono hf hr r⟩
  | .raw _, _, h => h
  | .ref _, _, ⟨a, e, h⟩ => ⟨a, e, hr _ _ h⟩
  | .scr _, _, ⟨a, e, h⟩ => ⟨a, e, h.imp (fun ⟨o, q⟩ => ⟨o, hf a _ q⟩) id⟩
  | .xc _ _, _, ⟨a, dd, ws, e, s, h, r⟩ => ⟨a, dd, ws, e, s, hf dd _ h, RepF.mono hf hr r⟩
theorem RepL.mono (hf : Le F F') (hr : LeR ρ ρ') : ∀ {p : List PV} {x : List V}, RepL c F ρ p x → RepL c F' ρ' p x
  | [], _, h => h
  | _ :: _, _, ⟨v, r, e, h, t⟩ => ⟨v, r, e, Rep.mono hf hr h, RepL.mono hf hr t⟩
theorem RepD.mono (hf : Le F F') (hr : LeR ρ ρ') : ∀ {p : List (Key × PV)} {x : List (Key × V)}, RepD c F ρ p x → RepD c F' ρ' p x
  | [], _, h => h
  | (_, _) :: _, _, ⟨v, r, e, h, t⟩ => ⟨v, r, e, Rep.mono hf hr h, RepD.mono hf hr t⟩
theorem RepF.mono (hf : Le F F') (hr : LeR ρ ρ') : ∀ {p : List (Str × PV)} {x : List (Str × V)}, RepF c F ρ p x → RepF c F' ρ' p x
  | [], _, h => h
  | (_, _) :: _, _, ⟨v, r, e, h, t⟩ => ⟨v, r, e, Rep.mono hf hr h, RepF.mono hf hr t⟩
end
theorem RepL.length : ∀ {p : List PV} {x : List V}, RepL c F ρ p x → p.length = x.length
  | [], _, h => by subst h; rfl
  | _ :: _, _, ⟨v, r, e, _, t⟩ => by subst e; simp [RepL.length t]
theorem RepL.append : ∀ {p q : List PV} {x y : List V}, RepL c F ρ p x → RepL c F ρ q y → RepL c F ρ (p ++ q) (x ++ y)
  | [], _, _, _, h, t => by subst h; exact t
  | _ :: _, _, _, _, ⟨v, r, e, h, t⟩, u => by subst e; exact ⟨v, _, rfl, h, RepL.append t u⟩
theorem RepL.get : ∀ {p : List PV} {x : List V} {i : Nat} {a : PV}, RepL c F ρ p x → p[i]? = some a → ∃ v, x[i]? = some v ∧ Rep c F ρ a v
  | [], _, _, _, _, e => by simp at e
  | _ :: _, _, 0, _, ⟨v, r, e, h, t⟩, q => by simp at q; subst q; subst e; exact ⟨v, rfl, h⟩
  | _ :: _, _, i + 1, _, ⟨v, r, e, h, t⟩, q => by subst e; simpa using RepL.get (i := i) t (by simpa using q)
theorem RepL.get' : ∀ {p : List PV} {x : List V} {i : Nat} {v : V}, RepL c F ρ p x → x[i]? = some v → ∃ a, p[i]? = some a ∧ Rep c F ρ a v
  | [], _, _, _, h, e => by subst h; simp at e
  | a :: _, _, 0, _, ⟨v, r, e, h, t⟩, q => by subst e; simp at q; subst q; exact ⟨a, rfl, h⟩
  | _ :: _, _, i + 1, _, ⟨v, r, e, h, t⟩, q => by subst e; simpa using RepL.get' (i := i) t (by simpa using q)
end

def lockable : HO → Prop
  | .dK _ => True
  | .dT _ => True
  | _ => False
/-- what is frozen stands, perhaps locked -/
def Sub (F H : Hp) : Prop := ∀ a o, F a = some o → H a = some o ∨ (lockable o ∧ ∃ ob, H a = some (.frz ob o))

section
variable (c : Wd) (F : Hp) (ρ : Nat → Option Addr) (H : Hp)
def CellAt (a : Addr) : Cell → Prop
  | .lst xs => ∃ vs, H a = some (.lst vs) ∧ RepL c F ρ xs vs
  | .dct kvs => ∃ ws, H a = some (.dK ws) ∧ RepD c F ρ kvs ws
  | .obj n fs => ∃ dx ws, H a = some (.ins (c.cl n) dx ws) ∧ RepF c F ρ fs ws
structure REL (h : MH) : Prop where
  sub : Sub F H
  cell : ∀ i k, h.get i = some k → ∃ a, ρ i = some a ∧ F a = none ∧ CellAt c F ρ H a k
  inj : ∀ i j a, ρ i = some a → ρ j = some a → i = j
  dom : ∀ i a, ρ i = some a → i < h.nx ∧ H a ≠ none
end
def noTbl : HO → Prop
  | .tbl _ => False
  | _ => True
/-- one step of a mirror -/
structure Step (c : Wd) (F : Hp) (ρ : Nat → Option Addr) (h : MH) (H : Hp) (F' : Hp) (ρ' : Nat → Option Addr) (h' : MH) (H' : Hp) : Prop where
  f : Le F F'
  r : LeR ρ ρ'
  rel : REL c F' ρ' H' h'
  keep : ∀ b o, H b = some o → noTbl o → (∀ i k, h.get i = some k → ρ i ≠ some b) → H' b = some o
  there : ∀ b, H b ≠ none → H' b ≠ none
  news : ∀ i k b, h'.get i = some k → ρ' i = some b → H b = none ∨ (ρ i = some b ∧ ∃ k', h.get i = some k')
  fnew : ∀ a o, F' a = some o → F a = some o ∨ H a = none ∨ ∃ i k, h.get i = some k ∧ ρ i = some a
  rnew : ∀ i a, ρ' i = some a → ρ i = some a ∨ H a = none

section
variable {c : Wd} {F F' F1 F2 : Hp} {ρ ρ' ρ1 ρ2 : Nat → Option Addr} {h h' h1 h2 : MH} {H H' H1 H2 : Hp}
theorem Step.refl (rel : REL c F ρ H h) : Step c F ρ h H F ρ h H :=
  ⟨Le.refl, LeR.refl, rel, fun _ _ e _ _ => e, fun _ e => e, fun _ k b e q => .inr ⟨q, k, e⟩, fun _ _ e => .inl e, fun _ _ e => .inl e⟩
theorem Step.trans (a : Step c F ρ h H F1 ρ1 h1 H1) (b : Step c F1 ρ1 h1 H1 F2 ρ2 h2 H2) : Step c F ρ h H F2 ρ2 h2 H2 where
  f := a.f.trans b.f
  r := a.r.trans b.r
  rel := b.rel
  keep := fun x o e n q => b.keep x o (a.keep x o e n q) n fun i k l z => by
    rcases a.news i k x l z with w | ⟨w, k', w'⟩
    · rw [e] at w; cases w
    · exact q i k' w' w
  there := fun x e => b.there x (a.there x e)
  news := fun i k x l z => by
    rcases b.news i k x l z with w | ⟨w, k', w'⟩
    · left
      cases q : H x with
      | none => rfl
      | some o => exact absurd w (a.there x (by rw [q]; exact fun z => nomatch z))
    · exact a.news i k' x w' w
  fnew := fun x o e => by
    rcases b.fnew x o e with w | w | ⟨i, k, w, z⟩
    · exact a.fnew x o w
    · right; left
      cases q : H x with
      | none => rfl
      | some o => exact absurd w (a.there x (by rw [q]; exact fun z => nomatch z))
    · rcases a.news i k x w z with w | ⟨w, k', w'⟩
      · exact .inr (.inl w)
      · exact .inr (.inr ⟨i, k', w', w⟩)
  rnew := fun i x e => by
    rcases b.rnew i x e with w | w
    · exact a.rnew i x w
    · right
      cases q : H x with
      | none => rfl
      | some o => exact absurd w (a.there x (by rw [q]; exact fun z => nomatch z))
theorem REL.ltn (r : REL c F ρ H h) {i : Nat} {k : Cell} (e : h.get i = some k) : i < h.nx := by
  obtain ⟨a, q, _⟩ := r.cell i k e
  exact (r.dom i a q).1
theorem REL.noF (r : REL c F ρ H h) {p : Addr} (hp : H p = none) : F p = none := by
  cases q : F p with
  | none => rfl
  | some o =>
    rcases r.sub p o q with z | ⟨_, ob, z⟩
    · rw [hp] at z; cases z
    · rw [hp] at z; cases z
theorem Le.upd {p : Addr} {o : HO} (hp : F p = none) : Le F (upd F p o) := fun a u e => by
  rw [upd_ne (fun z => by rw [z, hp] at e; cases e)]; exact e
theorem CellAt.mono {a : Addr} {k : Cell} (hf : Le F F') (hr : LeR ρ ρ') (hH : ∀ o, H a = some o → H' a = some o) (x : CellAt c F ρ H a k) : CellAt c F' ρ' H' a k := by
  cases k with
  | lst xs => obtain ⟨vs, e, r⟩ := x; exact ⟨vs, hH _ e, r.mono hf hr⟩
  | dct xs => obtain ⟨vs, e, r⟩ := x; exact ⟨vs, hH _ e, r.mono hf hr⟩
  | obj n xs => obtain ⟨dx, vs, e, r⟩ := x; exact ⟨dx, vs, hH _ e, r.mono hf hr⟩
/-- a new thing, known for ever -/
theorem Step.newF {p : Addr} {o : HO} (r : REL c F ρ H h) (hp : H p = none) : Step c F ρ h H (upd F p o) ρ h (upd H p o) := by
  have hF := r.noF hp
  have hne : ∀ b u, H b = some u → b ≠ p := fun b u e z => by rw [z, hp] at e; cases e
  refine ⟨Le.upd hF, LeR.refl, ⟨fun a u e => ?_, fun i k e => ?_, r.inj, fun i a e => ⟨(r.dom i a e).1, ?_⟩⟩, fun b u e _ _ => by rw [upd_ne (hne b u e)]; exact e, fun b e => ?_, fun i k b e q => .inr ⟨q, k, e⟩, fun a u e => ?_, fun _ _ e => .inl e⟩
  · by_cases hb : a = p
    · subst hb; rw [upd_same] at e ⊢; exact .inl e
    · rw [upd_ne hb] at e
      rcases r.sub a u e with z | ⟨l, ob, z⟩
      · exact .inl (by rw [upd_ne hb]; exact z)
      · exact .inr ⟨l, ob, by rw [upd_ne hb]; exact z⟩
  · obtain ⟨a, q, n, z⟩ := r.cell i k e
    have ha : a ≠ p := fun y => (r.dom i a q).2 (by rw [y, hp])
    exact ⟨a, q, by rw [upd_ne ha]; exact n, z.mono (Le.upd hF) LeR.refl fun u w => by rw [upd_ne ha]; exact w⟩
  · unfold upd; split
    · exact fun z => nomatch z
    · exact (r.dom i a e).2
  · unfold upd; split
    · exact fun z => nomatch z
    · exact e
  · by_cases hb : a = p
    · subst hb; exact .inr (.inl hp)
    · rw [upd_ne hb] at e; exact .inl e
/-- a new thing that nobody knows -/
theorem Step.newX {p : Addr} {o : HO} (r : REL c F ρ H h) (hp : H p = none) : Step c F ρ h H F ρ h (upd H p o) := by
  have hne : ∀ b u, H b = some u → b ≠ p := fun b u e z => by rw [z, hp] at e; cases e
  refine ⟨Le.refl, LeR.refl, ⟨fun a u e => ?_, fun i k e => ?_, r.inj, fun i a e => ⟨(r.dom i a e).1, ?_⟩⟩, fun b u e _ _ => by rw [upd_ne (hne b u e)]; exact e, fun b e => ?_, fun i k b e q => .inr ⟨q, k, e⟩, fun _ _ e => .inl e, fun _ _ e => .inl e⟩
  · rcases r.sub a u e with z | ⟨l, ob, z⟩
    · exact .inl (by rw [upd_ne (hne _ _ z)]; exact z)
    · exact .inr ⟨l, ob, by rw [upd_ne (hne _ _ z)]; exact z⟩
  · obtain ⟨a, q, n, z⟩ := r.cell i k e
    exact ⟨a, q, n, z.mono Le.refl LeR.refl fun u w => by rw [upd_ne (hne _ _ w)]; exact w⟩
  · unfold upd; split
    · exact fun z => nomatch z
    · exact (r.dom i a e).2
  · unfold upd; split
    · exact fun z => nomatch z
    · exact e
def updR (ρ : Nat → Option Addr) (i : Nat) (a : Addr) : Nat → Option Addr := fun j => if j = i then some a else ρ j
theorem REL.fresh (r : REL c F ρ H h) : ρ h.nx = none := by
  cases q : ρ h.nx with
  | none => rfl
  | some a => exact absurd (r.dom _ a q).1 (Nat.lt_irrefl _)
theorem LeR.updR {i : Nat} {a : Addr} (e : ρ i = none) : LeR ρ (updR ρ i a) := fun j b q => by
  unfold Mi.updR; rw [if_neg (fun z => by rw [z, e] at q; cases q)]; exact q
/-- a new cell -/
theorem Step.newC {p : Addr} {o : HO} {k : Cell} (r : REL c F ρ H h) (hp : H p = none) (hk : CellAt c F (updR ρ h.nx p) (upd H p o) p k) : Step c F ρ h H F (updR ρ h.nx p) (h.new k) (upd H p o) := by
  have hne : ∀ b u, H b = some u → b ≠ p := fun b u e z => by rw [z, hp] at e; cases e
  have hR := r.fresh
  refine ⟨Le.refl, LeR.updR hR, ⟨fun a u e => ?_, fun i k' e => ?_, fun i j a e q => ?_, fun i a e => ?_⟩, fun b u e _ _ => by rw [upd_ne (hne b u e)]; exact e, fun b e => ?_, fun i k' b e q => ?_, fun _ _ e => .inl e, fun i a e => ?_⟩
  · rcases r.sub a u e with z | ⟨l, ob, z⟩
    · exact .inl (by rw [upd_ne (hne _ _ z)]; exact z)
    · exact .inr ⟨l, ob, by rw [upd_ne (hne _ _ z)]; exact z⟩
  · rw [MH.get_new] at e
    by_cases hi : i = h.nx
    · rw [if_pos hi] at e
      cases e
      exact ⟨p, by unfold updR; rw [if_pos hi], r.noF hp, hk⟩
    · rw [if_neg hi] at e
      obtain ⟨a, q, n, z⟩ := r.cell i k' e
      exact ⟨a, LeR.updR hR i a q, n, z.mono Le.refl (LeR.updR hR) fun u w => by rw [upd_ne (hne _ _ w)]; exact w⟩
  · unfold updR at e q
    by_cases hi : i = h.nx <;> by_cases hj : j = h.nx
    · rw [hi, hj]
    · rw [if_pos hi] at e; cases e
      rw [if_neg hj] at q
      exact absurd hp (r.dom j _ q).2
    · rw [if_pos hj] at q; cases q
      rw [if_neg hi] at e
      exact absurd hp (r.dom i _ e).2
    · rw [if_neg hi] at e; rw [if_neg hj] at q
      exact r.inj i j a e q
  · unfold updR at e
    by_cases hi : i = h.nx
    · rw [if_pos hi] at e; cases e
      exact ⟨by rw [hi]; exact Nat.lt_succ_self _, by rw [upd_same]; exact fun z => nomatch z⟩
    · rw [if_neg hi] at e
      refine ⟨Nat.lt_succ_of_lt (r.dom i a e).1, ?_⟩
      unfold upd; split
      · exact fun z => nomatch z
      · exact (r.dom i a e).2
  · unfold upd; split
    · exact fun z => nomatch z
    · exact e
  · rw [MH.get_new] at e
    unfold updR at q
    by_cases hi : i = h.nx
    · rw [if_pos hi] at q; cases q
      exact .inl hp
    · rw [if_neg hi] at e q
      exact .inr ⟨q, k', e⟩
  · unfold updR at e
    by_cases hi : i = h.nx
    · rw [if_pos hi] at e; cases e
      exact .inr hp
    · rw [if_neg hi] at e
      exact .inl e
/-- a cell is changed -/
theorem Step.mut {i : Nat} {a : Addr} {k0 k : Cell} {o : HO} (r : REL c F ρ H h) (e0 : h.get i = some k0) (ea : ρ i = some a) (hk : CellAt c F ρ (upd H a o) a k) : Step c F ρ h H F ρ (h.put i k) (upd H a o) := by
  obtain ⟨a', ea', na, _⟩ := r.cell i k0 e0
  rw [ea] at ea'; cases ea'
  have notF : ∀ b u, F b = some u → b ≠ a := fun b u e z => by rw [z, na] at e; cases e
  refine ⟨Le.refl, LeR.refl, ⟨fun b u e => ?_, fun j k' e => ?_, r.inj, fun j b e => ⟨(r.dom j b e).1, ?_⟩⟩, fun b u e _ q => ?_, fun b e => ?_, fun j k' b e q => ?_, fun _ _ e => .inl e, fun _ _ e => .inl e⟩
  · rcases r.sub b u e with z | ⟨l, ob, z⟩
    · exact .inl (by rw [upd_ne (notF b u e)]; exact z)
    · exact .inr ⟨l, ob, by rw [upd_ne (notF b u e)]; exact z⟩
  · rw [MH.get_put] at e
    by_cases hj : j = i
    · rw [if_pos hj] at e; cases e
      exact ⟨a, by rw [hj]; exact ea, na, hk⟩
    · rw [if_neg hj] at e
      obtain ⟨b, q, n, z⟩ := r.cell j k' e
      have hb : b ≠ a := fun w => hj (r.inj j i a (w ▸ q) ea)
      exact ⟨b, q, n, z.mono Le.refl LeR.refl fun u w => by rw [upd_ne hb]; exact w⟩
  · unfold upd; split
    · exact fun z => nomatch z
    · exact (r.dom j b e).2
  · rw [upd_ne (fun z => q i k0 e0 (by rw [ea, z]))]; exact e
  · unfold upd; split
    · exact fun z => nomatch z
    · exact e
  · rw [MH.get_put] at e
    by_cases hj : j = i
    · exact .inr ⟨q, k0, by rw [hj]; exact e0⟩
    · rw [if_neg hj] at e
      exact .inr ⟨q, k', e⟩
/-- cells are let go -/
theorem Step.drop (r : REL c F ρ H h) (hn : h.nx ≤ h'.nx) (hs : ∀ i k, h'.get i = some k → h.get i = some k) : Step c F ρ h H F ρ h' H :=
  ⟨Le.refl, LeR.refl, ⟨r.sub, fun i k e => r.cell i k (hs i k e), r.inj, fun i a e => ⟨Nat.lt_of_lt_of_le (r.dom i a e).1 hn, (r.dom i a e).2⟩⟩, fun _ _ e _ _ => e, fun _ e => e, fun i k b e q => .inr ⟨q, k, hs i k e⟩, fun _ _ e => .inl e, fun _ _ e => .inl e⟩
/-- a cell becomes frozen -/
def frozen : Cell → PV
  | .lst xs => .lst xs
  | .dct kvs => .dct kvs
  | .obj n fs => .obj n fs
theorem Step.freeze {i : Nat} {k : Cell} {x : V} (r : REL c F ρ H h) (e0 : h.get i = some k) (rx : Rep c F ρ (.ref i) x) :
    ∃ F', Step c F ρ h H F' ρ (h.del i) H ∧ Rep c F' ρ (frozen k) x := by
  obtain ⟨a, e, ea⟩ := rx
  subst e
  obtain ⟨a', ea', na, ca⟩ := r.cell i k e0
  rw [ea] at ea'; cases ea'
  have key : ∀ o : HO, H a = some o → Step c F ρ h H (upd F a o) ρ (h.del i) H := fun o ho => by
    refine ⟨Le.upd na, LeR.refl, ⟨fun b u e => ?_, fun j k' e => ?_, r.inj, r.dom⟩, fun _ _ e _ _ => e, fun _ e => e, fun j k' b e q => ?_, fun b u e => ?_, fun _ _ e => .inl e⟩
    · by_cases hb : b = a
      · subst hb; rw [upd_same] at e; cases e; exact .inl ho
      · rw [upd_ne hb] at e; exact r.sub b u e
    · rw [MH.get_del] at e
      by_cases hj : j = i
      · rw [if_pos hj] at e; cases e
      · rw [if_neg hj] at e
        obtain ⟨b, q, n, z⟩ := r.cell j k' e
        have hb : b ≠ a := fun w => hj (r.inj j i a (w ▸ q) ea)
        exact ⟨b, q, by rw [upd_ne hb]; exact n, z.mono (Le.upd na) LeR.refl fun _ w => w⟩
    · rw [MH.get_del] at e
      by_cases hj : j = i
      · rw [if_pos hj] at e; cases e
      · rw [if_neg hj] at e
        exact .inr ⟨q, k', e⟩
    · by_cases hb : b = a
      · subst hb; exact .inr (.inr ⟨i, k, e0, ea⟩)
      · rw [upd_ne hb] at e; exact .inl e
  cases k with
  | lst xs => obtain ⟨vs, ho, q⟩ := ca; exact ⟨_, key _ ho, a, vs, rfl, upd_same, q.mono (Le.upd na) LeR.refl⟩
  | dct xs => obtain ⟨vs, ho, q⟩ := ca; exact ⟨_, key _ ho, a, vs, rfl, upd_same, q.mono (Le.upd na) LeR.refl⟩
  | obj n xs => obtain ⟨dx, vs, ho, q⟩ := ca; exact ⟨_, key _ ho, a, dx, vs, rfl, upd_same, q.mono (Le.upd na) LeR.refl⟩
/-- what nobody knows is changed -/
theorem REL.other {p : Addr} {o : HO} (r : REL c F ρ H h) (hF : F p = none) (hR : ∀ i, ρ i ≠ some p) : REL c F ρ (upd H p o) h := by
  refine ⟨fun a u e => ?_, fun i k e => ?_, r.inj, fun i a e => ⟨(r.dom i a e).1, ?_⟩⟩
  · have ha : a ≠ p := fun z => by rw [z, hF] at e; cases e
    rcases r.sub a u e with z | ⟨l, ob, z⟩
    · exact .inl (by rw [upd_ne ha]; exact z)
    · exact .inr ⟨l, ob, by rw [upd_ne ha]; exact z⟩
  · obtain ⟨a, q, n, z⟩ := r.cell i k e
    have ha : a ≠ p := fun y => hR i (by rw [q, y])
    exact ⟨a, q, n, z.mono Le.refl LeR.refl fun u w => by rw [upd_ne ha]; exact w⟩
  · have ha : a ≠ p := fun y => hR i (by rw [e, y])
    rw [upd_ne ha]; exact (r.dom i a e).2
/-- lists and tuples as HandS reads them -/
theorem REL.at (r : REL c F ρ H h) {a : Addr} {o : HO} (e : F a = some o) (n : ¬ lockable o) : H a = some o := by
  rcases r.sub a _ e with z | ⟨l, _⟩
  · exact z
  · exact absurd l n
theorem REL.sqT (r : REL c F ρ H h) {a : Addr} {vs : List V} (e : F a = some (.tup vs) ∨ KTup c.K a vs) : SqT c.K H a vs := by
  rcases e with e | e
  · exact .inl (.inl (r.at e id))
  · exact .inr e
end

/-! ### what a mirror gives -/
inductive Res (α : Type) where
  | ok (a : α) (h : MH)
  | exc (n : Str) (fs : List (Str × PV)) (h : MH)
  | stuck
def Res.bind {α β : Type} : Res α → (α → MH → Res β) → Res β
  | .ok a h, k => k a h
  | .exc n fs h, _ => .exc n fs h
  | .stuck, _ => .stuck
abbrev MEnv := List (Option PV)
def REnv (c : Wd) (F : Hp) (ρ : Nat → Option Addr) (env : MEnv) (σ : L2.St) : Prop := env.length = σ.length ∧ ∀ (i : Nat) (p : PV), env[i]? = some (some p) → ∃ x, σ[i]? = some (some x) ∧ Rep c F ρ p x
section
variable {c : Wd} {F F' F1 : Hp} {ρ ρ' ρ1 : Nat → Option Addr} {h h' h1 : MH} {H H' H1 : Hp} {env : MEnv} {σ : L2.St}
theorem REnv.mono (hf : Le F F') (hr : LeR ρ ρ') (r : REnv c F ρ env σ) : REnv c F' ρ' env σ :=
  ⟨r.1, fun i p e => let ⟨x, a, b⟩ := r.2 i p e; ⟨x, a, b.mono hf hr⟩⟩
theorem REnv.set {i : Nat} {p : PV} {x : V} (r : REnv c F ρ env σ) (hp : Rep c F ρ p x) : REnv c F ρ (env.set i (some p)) (σ.set i (some x)) := by
  refine ⟨by simp [r.1], fun j q e => ?_⟩
  by_cases hj : i = j
  · subst hj
    by_cases hl : i < env.length
    · rw [List.getElem?_set_self hl] at e
      cases e
      exact ⟨x, List.getElem?_set_self (by rw [← r.1]; exact hl), hp⟩
    · rw [List.getElem?_eq_none (by simp; omega)] at e
      cases e
  · rw [List.getElem?_set_ne hj] at e
    obtain ⟨y, a, b⟩ := r.2 j q e
    exact ⟨y, by rw [List.getElem?_set_ne hj]; exact a, b⟩
/-- what is wanted behind a mirror's result; R: how its values are told -/
def PostG {α β : Type} (c : Wd) (R : Hp → (Nat → Option Addr) → α → β → Prop) (W : WX) (F : Hp) (ρ : Nat → Option Addr) (h : MH) (H : Hp) (σ : L2.St) (Q : β → Hp → Prop) : Res α → Prop
  | .ok v h' => ∀ F' ρ' H' x, Step c F ρ h H F' ρ' h' H' → R F' ρ' v x → Q x H'
  | .exc n fs h' => ∀ F' ρ' H' d ws, Step c F ρ h H F' ρ' h' H' → H d = none → H' d = some (.xd ws) → RepF c F' ρ' fs ws → W (.ref (c.cl n)) (some d) σ H'
  | .stuck => False
theorem Step.back (s : Step c F ρ h H F1 ρ1 h1 H1) {d : Addr} (e : H1 d = none) : H d = none := by
  cases q : H d with
  | none => rfl
  | some o => exact absurd e (s.there d (by rw [q]; exact fun z => nomatch z))
theorem PostG.shift {α β : Type} {R : Hp → (Nat → Option Addr) → α → β → Prop} {W : WX} {Q : β → Hp → Prop} {r : Res α} (s : Step c F ρ h H F1 ρ1 h1 H1) (p : PostG c R W F ρ h H σ Q r) : PostG c R W F1 ρ1 h1 H1 σ Q r := by
  cases r with
  | ok v h' => exact fun F' ρ' H' x t q => p F' ρ' H' x (s.trans t) q
  | exc n fs h' => exact fun F' ρ' H' d ws t z q u => p F' ρ' H' d ws (s.trans t) (s.back z) q u
  | stuck => exact p
def tG {α β : Type} (c : Wd) (R : Hp → (Nat → Option Addr) → α → β → Prop) (W : WX) (m : MEnv → MH → Res α)   : L2.St → Hp → (β → Hp → Prop) → Prop := fun σ H Q =>
  ∃ F ρ env h, REL c F ρ H h ∧ REnv c F ρ env σ ∧ PostG c R W F ρ h H σ Q (m env h)
abbrev ME := MEnv → MH → Res PV
abbrev MT := MEnv → MH → Res Bool
abbrev MA := MEnv → MH → Res (List PV)
abbrev tE (c : Wd) (W : WX) (m : ME) : TE := tG c (Rep c) W m
abbrev tT (c : Wd) (W : WX) (m : MT) : TT := tG c (fun _ _ (b x : Bool) => x = b) W m
abbrev tA (c : Wd) (W : WX) (m : MA) : TA := tG c (RepL c) W m
/-- a first part, then the rest: the rest is asked where the first part has come to -/
theorem tG.bind {α β γ δ : Type} {R : Hp → (Nat → Option Addr) → α → β → Prop} {S : Hp → (Nat → Option Addr) → γ → δ → Prop} {W : WX} {m : MEnv → MH → Res α} {k : α → MEnv → MH → Res γ} {Q : δ → Hp → Prop} {T : β → Hp → Prop}
    (t : tG c S W (fun env h => (m env h).bind fun a h1 => k a env h1) σ H Q)
    (hk : ∀ F ρ env h a x H1, REL c F ρ H1 h → REnv c F ρ env σ → R F ρ a x → PostG c S W F ρ h H1 σ Q (k a env h) → T x H1) : tG c R W m σ H T := by
  obtain ⟨F, ρ, env, h, rel, re, p⟩ := t
  refine ⟨F, ρ, env, h, rel, re, ?_⟩
  replace p : PostG c S W F ρ h H σ Q ((m env h).bind fun a h1 => k a env h1) := p
  cases e : m env h with
  | ok a h1 =>
    rw [e] at p
    exact fun F' ρ' H' x s r => hk F' ρ' env h1 a x H' s.rel (re.mono s.f s.r) r (PostG.shift s p)
  | exc n fs h1 => rw [e] at p; exact p
  | stuck => rw [e] at p; exact p
end
end Mi

/-! Mi1: expressions by mirrors: names, constants, operators, comparisons, subscripts, displays, calls of built-ins, tests. -/
namespace Mi
open PySem PySem.Spec PyProof.Rows L2

section
variable {X : Cx} {e : Expr}
theorem peI {t t' : TE} (h : PE X e t) (i : ∀ σ H Q, t' σ H Q → t σ H Q) : PE X e t' := ⟨fun pins s σ H Q I q => h.run pins s σ H Q I (i σ H Q q)⟩
theorem pe2 {t t1 t2 : TE} (h1 : PE X e t1) (h2 : PE X e t2) (i : ∀ σ H Q, t σ H Q → t1 σ H Q ∨ t2 σ H Q) : PE X e t :=
  ⟨fun pins s σ H Q I q => (i σ H Q q).elim (h1.run pins s σ H Q I) (h2.run pins s σ H Q I)⟩
theorem ptI {t t' : TT} (h : PT X e t) (i : ∀ σ H Q, t' σ H Q → t σ H Q) : PT X e t' := ⟨fun pins s σ H Q I q => h.run pins s σ H Q I (i σ H Q q)⟩
theorem pt2 {t t1 t2 : TT} (h1 : PT X e t1) (h2 : PT X e t2) (i : ∀ σ H Q, t σ H Q → t1 σ H Q ∨ t2 σ H Q) : PT X e t :=
  ⟨fun pins s σ H Q I q => (i σ H Q q).elim (h1.run pins s σ H Q I) (h2.run pins s σ H Q I)⟩
theorem pwI {t t' : TT} (h : PW X e t) (i : ∀ σ H Q, t' σ H Q → t σ H Q) : PW X e t' := ⟨fun wh pins s σ H Q I q => h.run wh pins s σ H Q I (i σ H Q q)⟩
theorem paI {es : List Expr} {t t' : TA} (h : PA X es t) (i : ∀ σ H Q, t' σ H Q → t σ H Q) : PA X es t' := ⟨fun ps pins s σ H Q I q => h.run ps pins s σ H Q I (i σ H Q q)⟩
end

abbrev OM (α : Type) := Option (α × MH)
def liftO {α : Type} : OM α → Res α
  | some (v, h) => .ok v h
  | none => .stuck
abbrev Snd (c : Wd) (W : WX) (t : TE) (m : ME) : Prop := ∀ σ H Q, tE c W m σ H Q → t σ H Q
abbrev SndT (c : Wd) (W : WX) (t : TT) (m : MT) : Prop := ∀ σ H Q, tT c W m σ H Q → t σ H Q
abbrev SndA (c : Wd) (W : WX) (t : TA) (m : MA) : Prop := ∀ σ H Q, tA c W m σ H Q → t σ H Q

section
variable {c : Wd} {W : WX} {X : Cx} {e : Expr}
/-! ### names, constants -/
def mVar (i : Nat) : ME := fun env h => match env[i]? with
  | some (some v) => .ok v h
  | _ => .stuck
def mC (p : PV) : ME := fun _ h => .ok p h
theorem snd_var (i : Nat) : Snd c W (tVar i) (mVar i) := fun σ H Q ⟨F, ρ, env, h, rel, re, p⟩ => by
  unfold mVar at p
  cases q : env[i]? with
  | none => rw [q] at p; exact p.elim
  | some o =>
    cases o with
    | none => rw [q] at p; exact p.elim
    | some v =>
      rw [q] at p
      obtain ⟨x, ex, rx⟩ := re.2 i v q
      exact ⟨x, ex, p F ρ H x (Step.refl rel) rx⟩
theorem snd_c {v : V} {p : PV} (hp : ∀ F ρ, Rep c F ρ p v) : Snd c W (tC v) (mC p) := fun σ H Q ⟨F, ρ, env, h, rel, re, q⟩ => q F ρ H v (Step.refl rel) (hp F ρ)
theorem em_var {i : Nat} (h : PE X e (tVar i)) : PE X e (tE c W (mVar i)) := peI h (snd_var i)
theorem em_int {i : Int} (h : PE X e (tC (.int i))) : PE X e (tE c W (mC (.int i))) := peI h (snd_c fun _ _ => rfl)
theorem em_str {x : Str} (h : PE X e (tC (.str x))) : PE X e (tE c W (mC (.str x))) := peI h (snd_c fun _ _ => rfl)
theorem em_bl {b : Bool} (h : PE X e (tC (.bl b))) : PE X e (tE c W (mC (.bl b))) := peI h (snd_c fun _ _ => rfl)
theorem em_non (h : PE X e (tC .non)) : PE X e (tE c W (mC .non)) := peI h (snd_c fun _ _ => rfl)
/-- a class, a def, a built-in class as a value -/
theorem em_raw {v : V} (h : PE X e (tC v)) : PE X e (tE c W (mC (.raw v))) := peI h (snd_c fun _ _ => rfl)
/-- a tuple of the module -/
def ktup (vs : List V) : PV := .tup (vs.map PV.raw)
theorem repL_raw {F : Hp} {ρ : Nat → Option Addr} : ∀ vs : List V, RepL c F ρ (vs.map PV.raw) vs
  | [] => rfl
  | v :: vs => ⟨v, vs, rfl, rfl, repL_raw vs⟩

/-! ### operators -/
abbrev P1 := PV → MH → OM PV
abbrev P2 := PV → PV → MH → OM PV
abbrev PL := List PV → MH → OM PV
def O1 (c : Wd) (r : V → Hp → VK → Prop) (f : P1) : Prop := ∀ (F : Hp) (ρ : Nat → Option Addr) (h : MH) (H : Hp) (p : PV) (x : V) (v : PV) (h' : MH) (Q : VK), REL c F ρ H h → Rep c F ρ p x → f p h = some (v, h') →
  (∀ F' ρ' H' z, Step c F ρ h H F' ρ' h' H' → Rep c F' ρ' v z → Q z H') → r x H Q
def O2 (c : Wd) (r : R2) (f : P2) : Prop := ∀ (F : Hp) (ρ : Nat → Option Addr) (h : MH) (H : Hp) (p q : PV) (x y : V) (v : PV) (h' : MH) (Q : VK), REL c F ρ H h → Rep c F ρ p x → Rep c F ρ q y → f p q h = some (v, h') →
  (∀ F' ρ' H' z, Step c F ρ h H F' ρ' h' H' → Rep c F' ρ' v z → Q z H') → r x y H Q
def OA (c : Wd) (r : List V → Hp → VK → Prop) (f : PL) : Prop := ∀ (F : Hp) (ρ : Nat → Option Addr) (h : MH) (H : Hp) (ps : List PV) (xs : List V) (v : PV) (h' : MH) (Q : VK), REL c F ρ H h → RepL c F ρ ps xs → f ps h = some (v, h') →
  (∀ F' ρ' H' z, Step c F ρ h H F' ρ' h' H' → Rep c F' ρ' v z → Q z H') → r xs H Q
def mB1 (f : P1) (m : ME) : ME := fun env h => (m env h).bind fun p h1 => liftO (f p h1)
def mB2 (f : P2) (ma mb : ME) : ME := fun env h => (ma env h).bind fun p h1 => (mb env h1).bind fun q h2 => liftO (f p q h2)
def mBA (f : PL) (m : MA) : ME := fun env h => (m env h).bind fun p h1 => liftO (f p h1)
theorem post_lift {F : Hp} {ρ : Nat → Option Addr} {h : MH} {H : Hp} {σ : L2.St} {Q : VK} {o : OM PV} (p : PostG c (Rep c) W F ρ h H σ Q (liftO o)) : ∃ v h', o = some (v, h') ∧ ∀ F' ρ' H' z, Step c F ρ h H F' ρ' h' H' → Rep c F' ρ' v z → Q z H' := by
  cases o with
  | none => exact p.elim
  | some q => exact ⟨q.1, q.2, rfl, p⟩
theorem snd1 {r : V → Hp → VK → Prop} {f : P1} (ho : O1 c r f) {m : ME} : Snd c W (tUn r (tE c W m)) (mB1 f m) := fun σ H Q t =>
  tG.bind (R := Rep c) (k := fun p _ h1 => liftO (f p h1)) t fun F ρ env h p x H1 rel re rp post => by
    obtain ⟨v, h', e, k⟩ := post_lift post
    exact ho F ρ h H1 p x v h' Q rel rp e k
theorem snd2 {r : R2} {f : P2} (ho : O2 c r f) {ma mb : ME} : Snd c W (tOp r (tE c W ma) (tE c W mb)) (mB2 f ma mb) := fun σ H Q t =>
  tG.bind (R := Rep c) (k := fun p env h1 => (mb env h1).bind fun q h2 => liftO (f p q h2)) t fun F ρ env h p x H1 rel re rp post => by
    refine ⟨F, ρ, env, h, rel, re, ?_⟩
    cases em : mb env h with
    | stuck => rw [em] at post; exact post
    | exc n fs h2 => rw [em] at post; exact post
    | ok q h2 =>
      rw [em] at post
      intro F2 ρ2 H2 y s2 ry
      obtain ⟨v, h', e', k⟩ := post_lift (PostG.shift s2 (show PostG c (Rep c) W F ρ h H1 σ Q (liftO (f p q h2)) from post))
      exact ho F2 ρ2 h2 H2 p q x y v h' Q s2.rel (rp.mono s2.f s2.r) ry e' k
theorem sndA {r : List V → Hp → VK → Prop} {f : PL} (ho : OA c r f) {m : MA} : Snd c W (tCB r (tA c W m)) (mBA f m) := fun σ H Q t =>
  tG.bind (R := RepL c) (k := fun p _ h1 => liftO (f p h1)) t fun F ρ env h p x H1 rel re rp post => by
    obtain ⟨v, h', e, k⟩ := post_lift post
    exact ho F ρ h H1 p x v h' Q rel rp e k
theorem em1 {r : V → Hp → VK → Prop} {f : P1} (ho : O1 c r f) {m : ME} (h : PE X e (tUn r (tE c W m))) : PE X e (tE c W (mB1 f m)) := peI h (snd1 ho)
theorem em2 {r : R2} {f : P2} (ho : O2 c r f) {ma mb : ME} (h : PE X e (tOp r (tE c W ma) (tE c W mb))) : PE X e (tE c W (mB2 f ma mb)) := peI h (snd2 ho)
theorem emA {r : List V → Hp → VK → Prop} {f : PL} (ho : OA c r f) {m : MA} (h : PE X e (tCB r (tA c W m))) : PE X e (tE c W (mBA f m)) := peI h (sndA ho)
/-! ### arguments -/
def mNil : MA := fun _ h => .ok [] h
def mCons (m : ME) (r : MA) : MA := fun env h => (m env h).bind fun p h1 => (r env h1).bind fun ps h2 => .ok (p :: ps) h2
theorem am_nil : PA X [] (tA c W mNil) := paI pa_nil fun σ H Q ⟨F, ρ, env, h, rel, re, p⟩ => p F ρ H [] (Step.refl rel) rfl
theorem snd_cons {m : ME} {r : MA} : SndA c W (tCons (tE c W m) (tA c W r)) (mCons m r) := fun σ H Q t =>
  tG.bind (R := Rep c) (k := fun p env h1 => (r env h1).bind fun ps h2 => .ok (p :: ps) h2) t fun F ρ env h p x H1 rel re rp post => by
    refine ⟨F, ρ, env, h, rel, re, ?_⟩
    cases em : r env h with
    | stuck => rw [em] at post; exact post
    | exc n fs h2 => rw [em] at post; exact post
    | ok q h2 =>
      rw [em] at post
      intro F2 ρ2 H2 y s2 ry
      exact post F2 ρ2 H2 (x :: y) s2 ⟨x, y, rfl, rp.mono s2.f s2.r, ry⟩
theorem am_cons {es : List Expr} {m : ME} {r : MA} (he : PE X e (tE c W m)) (hr : PA X es (tA c W r)) (hs : starEach (e :: es) X.env = (false, eval e X.env) :: starEach es X.env := by rfl) : PA X (e :: es) (tA c W (mCons m r)) :=
  paI (pa_cons he hr hs) snd_cons
/-! ### displays: what is never changed; a list that may be -/
def kTup (ps : List PV) (h : MH) : Res PV := if ps.length ≤ sizeLine then .ok (.tup ps) h else .stuck
def kLst (ps : List PV) (h : MH) : Res PV := if ps.length ≤ sizeLine then .ok (.lst ps) h else .stuck
def kLstC (ps : List PV) (h : MH) : Res PV := if ps.length ≤ sizeLine then .ok (.ref h.nx) (h.new (.lst ps)) else .stuck
def mTup (m : MA) : ME := fun env h => (m env h).bind kTup
def mLst (m : MA) : ME := fun env h => (m env h).bind kLst
def mLstC (m : MA) : ME := fun env h => (m env h).bind kLstC
theorem em_tup {es : List Expr} {m : MA} {k : Nat} {pos : Pos} (ha : PA X es (tA c W m)) : PE X (.Tuple es k pos) (tE c W (mTup m)) := peI (pe_tup ha) fun σ H Q t =>
  tG.bind (R := RepL c) (k := fun ps _ h1 => kTup ps h1) t fun F ρ env h p x H1 rel re rp post => by
    by_cases hl : p.length ≤ sizeLine
    · dsimp only [kTup, kLst, kLstC] at post
      rw [if_pos hl] at post
      refine ⟨by rw [← rp.length]; exact hl, fun a ha => ?_⟩
      have st : Step c F ρ h H1 (upd F a (.tup x)) ρ h (upd H1 a (.tup x)) := Step.newF rel ha
      exact post _ _ _ (.ref a) st ⟨a, x, rfl, .inl upd_same, rp.mono st.f st.r⟩
    · dsimp only [kTup, kLst, kLstC] at post
      rw [if_neg hl] at post; exact post.elim
theorem em_lst {es : List Expr} {m : MA} {pos : Pos} (ha : PA X es (tA c W m)) : PE X (.List es pos) (tE c W (mLst m)) := peI (pe_lst ha) fun σ H Q t =>
  tG.bind (R := RepL c) (k := fun ps _ h1 => kLst ps h1) t fun F ρ env h p x H1 rel re rp post => by
    by_cases hl : p.length ≤ sizeLine
    · dsimp only [kTup, kLst, kLstC] at post
      rw [if_pos hl] at post
      refine ⟨by rw [← rp.length]; exact hl, fun a ha => ?_⟩
      have st : Step c F ρ h H1 (upd F a (.lst x)) ρ h (upd H1 a (.lst x)) := Step.newF rel ha
      exact post _ _ _ (.ref a) st ⟨a, x, rfl, upd_same, rp.mono st.f st.r⟩
    · dsimp only [kTup, kLst, kLstC] at post
      rw [if_neg hl] at post; exact post.elim
theorem em_lstC {es : List Expr} {m : MA} {pos : Pos} (ha : PA X es (tA c W m)) : PE X (.List es pos) (tE c W (mLstC m)) := peI (pe_lst ha) fun σ H Q t =>
  tG.bind (R := RepL c) (k := fun ps _ h1 => kLstC ps h1) t fun F ρ env h p x H1 rel re rp post => by
    by_cases hl : p.length ≤ sizeLine
    · dsimp only [kTup, kLst, kLstC] at post
      rw [if_pos hl] at post
      refine ⟨by rw [← rp.length]; exact hl, fun a ha => ?_⟩
      have hR := rel.fresh
      have st : Step c F ρ h H1 F (updR ρ h.nx a) (h.new (.lst p)) (upd H1 a (.lst x)) := Step.newC rel ha ⟨x, upd_same, rp.mono Le.refl (LeR.updR hR)⟩
      exact post _ _ _ (.ref a) st ⟨a, rfl, by unfold updR; rw [if_pos rfl]⟩
    · dsimp only [kTup, kLst, kLstC] at post
      rw [if_neg hl] at post; exact post.elim
/-- a made thing is frozen -/
def fz (p : PV) (h : MH) : Res PV := match p with
  | .ref i => (match h.get i with
    | some k => .ok (frozen k) (h.del i)
    | none => .stuck)
  | _ => .stuck
def mFz (m : ME) : ME := fun env h => (m env h).bind fz
theorem em_fz {m : ME} (h : PE X e (tE c W m)) : PE X e (tE c W (mFz m)) := peI h fun σ H Q t =>
  tG.bind (R := Rep c) (k := fun p _ h1 => fz p h1) t fun F ρ env h p x H1 rel re rp post => by
    cases p with
    | ref i =>
      unfold fz at post
      dsimp only at post
      cases q : h.get i with
      | none => rw [q] at post; exact post.elim
      | some k =>
        rw [q] at post
        obtain ⟨F', st, r'⟩ := Step.freeze rel q rp
        exact post F' ρ H1 x st r'
    | _ => exact post.elim
end
end Mi

/-! Mi2: operators for all values that they take. -/
namespace Mi
open PySem PySem.Spec PyProof.Rows L2

/-- the items of a list that is tracked; of any list; of a list or tuple -/
def asM (p : PV) (h : MH) : Option (List PV) := match p with
  | .lst xs => some xs
  | .ref i => (match h.get i with
    | some (.lst xs) => some xs
    | _ => none)
  | _ => none
def asL (p : PV) (h : MH) : Option (List PV) := match p with
  | .scr ns => some (ns.map PV.int)
  | p => asM p h
def asS (p : PV) (h : MH) : Option (List PV) := match p with
  | .tup xs => some xs
  | p => asL p h
section
variable {c : Wd} {F : Hp} {ρ : Nat → Option Addr} {h : MH} {H : Hp} {p q : PV} {x y : V}
theorem asM_ok (rel : REL c F ρ H h) (rp : Rep c F ρ p x) {xs : List PV} (e : asM p h = some xs) : ∃ a vs, x = .ref a ∧ H a = some (.lst vs) ∧ RepL c F ρ xs vs := by
  cases p with
  | lst ys =>
    cases e
    obtain ⟨a, vs, ex, ha, r⟩ := rp
    exact ⟨a, vs, ex, rel.at ha id, r⟩
  | ref i =>
    simp only [asM] at e
    cases g : h.get i with
    | none => rw [g] at e; cases e
    | some k =>
      rw [g] at e
      cases k with
      | lst ys =>
        cases e
        obtain ⟨a, ex, ea⟩ := rp
        obtain ⟨a', ea', na, vs, hv, r⟩ := rel.cell i _ g
        rw [ea] at ea'; cases ea'
        exact ⟨a, vs, ex, hv, r⟩
      | dct _ => cases e
      | obj _ _ => cases e
  | _ => cases e
theorem repL_ints (ns : List Int) : RepL c F ρ (ns.map PV.int) (ns.map V.int) := by
  induction ns with
  | nil => rfl
  | cons n r ih => exact ⟨.int n, _, rfl, rfl, ih⟩
theorem asL_ok (rel : REL c F ρ H h) (rp : Rep c F ρ p x) {xs : List PV} (e : asL p h = some xs) : ∃ a vs, x = .ref a ∧ SqL c.K H a vs ∧ RepL c F ρ xs vs := by
  have gen : asM p h = some xs → ∃ a vs, x = .ref a ∧ SqL c.K H a vs ∧ RepL c F ρ xs vs := fun e => by
    obtain ⟨a, vs, e1, e2, e3⟩ := asM_ok rel rp e
    exact ⟨a, vs, e1, SqL.of e2, e3⟩
  cases p with
  | scr ns =>
    cases e
    obtain ⟨a, ex, ha⟩ := rp
    refine ⟨a, _, ex, ?_, repL_ints ns⟩
    rcases ha with ⟨o, ha⟩ | ha
    · exact .inl (.inr ⟨o, rel.at ha id⟩)
    · exact .inr ha
  | _ => exact gen e
theorem asS_ok (rel : REL c F ρ H h) (rp : Rep c F ρ p x) {xs : List PV} (e : asS p h = some xs) : ∃ a vs, x = .ref a ∧ (SqL c.K H a vs ∨ SqT c.K H a vs) ∧ RepL c F ρ xs vs := by
  have gen : asL p h = some xs → ∃ a vs, x = .ref a ∧ (SqL c.K H a vs ∨ SqT c.K H a vs) ∧ RepL c F ρ xs vs := fun e => by
    obtain ⟨a, vs, e1, e2, e3⟩ := asL_ok rel rp e
    exact ⟨a, vs, e1, .inl e2, e3⟩
  cases p with
  | tup ys =>
    cases e
    obtain ⟨a, vs, ex, ha, r⟩ := rp
    exact ⟨a, vs, ex, .inr (rel.sqT ha), r⟩
  | _ => exact gen e
end

/-! ### arithmetic -/
section
variable {c : Wd}
def pInt2 (C : Int → Int → Bool) (g : Int → Int → PV) : P2 := fun p q h => match p, q with
  | .int i, .int j => if C i j = true then some (g i j, h) else none
  | _, _ => none
theorem o_int2 {C : Int → Int → Bool} {C' : Int → Int → Prop} {g : Int → Int → PV} {g' : Int → Int → V} (hC : ∀ i j, C i j = true → C' i j) (hg : ∀ F ρ i j, Rep c F ρ (g i j) (g' i j)) : O2 c (rI C' g') (pInt2 C g) :=
  fun F ρ h H p q x y v h' Q rel rp rq e k => by
    cases p with
    | int i =>
      cases q with
      | int j =>
        simp only [pInt2] at e
        by_cases hc : C i j = true
        · rw [if_pos hc] at e
          cases e
          cases rp
          cases rq
          exact ⟨i, j, rfl, rfl, hC i j hc, k F ρ H _ (Step.refl rel) (hg F ρ i j)⟩
        · rw [if_neg hc] at e; cases e
      | _ => cases e
    | _ => cases e
def pI0 (g : Int → Int → PV) : P2 := fun p q h => match p, q with
  | .int i, .int j => some (g i j, h)
  | _, _ => none
theorem o_int0 {g : Int → Int → PV} {g' : Int → Int → V} (hg : ∀ F ρ i j, Rep c F ρ (g i j) (g' i j)) : O2 c (rI0 g') (pI0 g) :=
  fun F ρ h H p q x y v h' Q rel rp rq e k => by
    cases p with
    | int i =>
      cases q with
      | int j =>
        cases e
        cases rp
        cases rq
        exact ⟨i, j, rfl, rfl, k F ρ H _ (Step.refl rel) (hg F ρ i j)⟩
      | _ => cases e
    | _ => cases e
def pSub : P2 := pI0 fun i j => .int (i - j)
theorem o_sub : O2 c (rI0 fun i j => .int (i - j)) pSub := o_int0 fun _ _ _ _ => rfl
def cMul (i j : Int) : Bool := (decide (-(2 ^ 64) < i) && decide (i < 2 ^ 64)) || (decide (-(2 ^ 64) < j) && decide (j < 2 ^ 64))
def pMul : P2 := fun p q h => match p, q with
  | .int i, .int j => if cMul i j = true then some (.int (i * j), h) else none
  | p, .int k => (match asM p h with
    | some xs => if -(2 ^ 63) ≤ k ∧ k < 2 ^ 63 ∧ xs.length * k.toNat ≤ sizeLine then some (.lst (List.replicate k.toNat xs).flatten, h) else none
    | none => none)
  | _, _ => none
theorem repL_flat {F : Hp} {ρ : Nat → Option Addr} {xs : List PV} {vs : List V} (r : RepL c F ρ xs vs) : ∀ k : Nat, RepL c F ρ (List.replicate k xs).flatten (List.replicate k vs).flatten
  | 0 => rfl
  | k + 1 => by
    rw [List.replicate_succ, List.replicate_succ, List.flatten_cons, List.flatten_cons]
    exact r.append (repL_flat r k)
theorem o_mul : O2 c (fun x y H Q => rI CMul (fun i j => .int (i * j)) x y H Q ∨ rRep x y H Q) pMul :=
  fun F ρ h H p q x y v h' Q rel rp rq e k => by
    have gen : ∀ kk : Int, (match asM p h with
        | some xs => if -(2 ^ 63) ≤ kk ∧ kk < 2 ^ 63 ∧ xs.length * kk.toNat ≤ sizeLine then some (PV.lst (List.replicate kk.toNat xs).flatten, h) else none
        | none => none) = some (v, h') → y = .int kk → rI CMul (fun i j => .int (i * j)) x y H Q ∨ rRep x y H Q := fun kk e ey => by
      cases g : asM p h with
      | none => rw [g] at e; cases e
      | some xs =>
        rw [g] at e
        dsimp only at e
        by_cases hc : -(2 ^ 63) ≤ kk ∧ kk < 2 ^ 63 ∧ xs.length * kk.toNat ≤ sizeLine
        · rw [if_pos hc] at e
          cases e
          obtain ⟨a, vs, ex, ha, r⟩ := asM_ok rel rp g
          refine .inr ⟨a, kk, vs, ex, ey, ha, hc.1, hc.2.1, by rw [← r.length]; exact hc.2.2, fun b hb => ?_⟩
          have st : Step c F ρ h H (upd F b (.lst (List.replicate kk.toNat vs).flatten)) ρ h (upd H b (.lst (List.replicate kk.toNat vs).flatten)) := Step.newF rel hb
          exact k _ _ _ _ st ⟨b, _, rfl, upd_same, (repL_flat r kk.toNat).mono st.f st.r⟩
        · rw [if_neg hc] at e; cases e
    cases q with
    | int j =>
      cases rq
      cases p with
      | int i =>
        cases rp
        simp only [pMul] at e
        by_cases hc : cMul i j = true
        · rw [if_pos hc] at e
          cases e
          refine .inl ⟨i, j, rfl, rfl, ?_, k F ρ H _ (Step.refl rel) rfl⟩
          simp only [cMul, Bool.or_eq_true, Bool.and_eq_true, decide_eq_true_eq] at hc
          exact hc
        · rw [if_neg hc] at e; cases e
      | _ => exact gen j e rfl
    | _ => cases p <;> cases e
def pMod : P2 := pInt2 (fun _ j => decide (0 < j)) fun i j => .int (i % j)
theorem o_mod : O2 c (rI (fun _ j => 0 < j) fun i j => .int (i % j)) pMod := o_int2 (fun _ _ e => of_decide_eq_true e) fun _ _ _ _ => rfl
def pDiv : P2 := pInt2 (fun _ j => decide (0 < j) && decide (j < 1073741824)) fun i j => .int (i / j)
theorem o_div : O2 c (rI CDiv fun i j => .int (i / j)) pDiv := o_int2 (fun i j e => by
  simp only [Bool.and_eq_true, decide_eq_true_eq] at e; exact e) fun _ _ _ _ => rfl
def pPow : P2 := pInt2 (fun i j => decide (0 ≤ j) && (decide (j ≤ 1000000) && decide (i.natAbs < 2 ^ 64))) fun i j => .int (i ^ j.toNat)
theorem o_pow : O2 c (rI CPow fun i j => .int (i ^ j.toNat)) pPow := o_int2 (fun i j e => by
  simp only [Bool.and_eq_true, decide_eq_true_eq] at e; exact e) fun _ _ _ _ => rfl
def pNeg : P1 := fun p h => match p with
  | .int i => some (.int (-i), h)
  | _ => none
theorem o_neg : O1 c (rU fun i => .int (-i)) pNeg := fun F ρ h H p x v h' Q rel rp e k => by
  cases p with
  | int i =>
    cases e
    cases rp
    exact ⟨i, rfl, k F ρ H _ (Step.refl rel) rfl⟩
  | _ => cases e
def pAdd : P2 := fun p q h => match p, q with
  | .int i, .int j => some (.int (i + j), h)
  | .str x, .str y => if x.length + y.length ≤ sizeLine then some (.str (x ++ y), h) else none
  | .tup xs, .tup ys => if xs ≠ [] ∧ ys ≠ [] ∧ xs.length + ys.length ≤ sizeLine then some (.tup (xs ++ ys), h) else none
  | p, q => (match asM p h, asM q h with
    | some xs, some ys => if xs.length + ys.length ≤ sizeLine then some (.lst (xs ++ ys), h) else none
    | _, _ => none)
def rAddU (K : PySem.W.Frag) : R2 := fun x y H Q => rI0 (fun i j => .int (i + j)) x y H Q ∨ (∃ i j, x = .str i ∧ y = .str j ∧ i.length + j.length ≤ sizeLine ∧ Q (.str (i ++ j)) H) ∨ rCat x y H Q ∨ rCatT K x y H Q
theorem op_addU {X : Cx} : OpR X (binaryOp .Add) (rAddU X.K) := op_add.or (op_add_str.or (op_cat.or op_catT))
theorem RepL.ne_nil {F : Hp} {ρ : Nat → Option Addr} {xs : List PV} {vs : List V} (r : RepL c F ρ xs vs) (n : xs ≠ []) : vs ≠ [] := fun e => n (by
  have l := r.length
  rw [e] at l
  exact List.length_eq_zero_iff.mp l)
theorem o_add : O2 c (rAddU c.K) pAdd := fun F ρ h H p q x y v h' Q rel rp rq e k => by
  have gen : (match asM p h, asM q h with
    | some xs, some ys => if xs.length + ys.length ≤ sizeLine then some (PV.lst (xs ++ ys), h) else none
    | _, _ => none) = some (v, h') → rAddU c.K x y H Q := fun e => by
    cases g : asM p h with
    | none => rw [g] at e; cases e
    | some xs =>
      cases g2 : asM q h with
      | none => rw [g, g2] at e; cases e
      | some ys =>
        rw [g, g2] at e
        dsimp only at e
        by_cases hc : xs.length + ys.length ≤ sizeLine
        · rw [if_pos hc] at e
          cases e
          obtain ⟨a, vs, ex, ha, r⟩ := asM_ok rel rp g
          obtain ⟨b, ws, ey, hb, s⟩ := asM_ok rel rq g2
          refine .inr (.inr (.inl ⟨a, b, vs, ws, ex, ey, ha, hb, by rw [← r.length, ← s.length]; exact hc, fun d hd => ?_⟩))
          have st : Step c F ρ h H (upd F d (.lst (vs ++ ws))) ρ h (upd H d (.lst (vs ++ ws))) := Step.newF rel hd
          exact k _ _ _ _ st ⟨d, _, rfl, upd_same, (r.append s).mono st.f st.r⟩
        · rw [if_neg hc] at e; cases e
  cases p with
  | int i =>
    cases q with
    | int j =>
      cases e
      cases rp
      cases rq
      exact .inl ⟨i, j, rfl, rfl, k F ρ H _ (Step.refl rel) rfl⟩
    | _ => exact gen e
  | str i =>
    cases q with
    | str j =>
      simp only [pAdd] at e
      by_cases hc : i.length + j.length ≤ sizeLine
      · rw [if_pos hc] at e
        cases e
        cases rp
        cases rq
        exact .inr (.inl ⟨i, j, rfl, rfl, hc, k F ρ H _ (Step.refl rel) rfl⟩)
      · rw [if_neg hc] at e; cases e
    | _ => exact gen e
  | tup xs =>
    cases q with
    | tup ys =>
      simp only [pAdd] at e
      by_cases hc : xs ≠ [] ∧ ys ≠ [] ∧ xs.length + ys.length ≤ sizeLine
      · rw [if_pos hc] at e
        cases e
        obtain ⟨a, vs, ex, ha, r⟩ := rp
        obtain ⟨b, ws, ey, hb, s⟩ := rq
        refine .inr (.inr (.inr ⟨a, b, vs, ws, ex, ey, rel.sqT ha, rel.sqT hb, r.ne_nil hc.1, by rw [← r.length, ← s.length]; exact hc.2.2, fun z => absurd z (s.ne_nil hc.2.1), fun _ d hd => ?_⟩))
        have st : Step c F ρ h H (upd F d (.tup (vs ++ ws))) ρ h (upd H d (.tup (vs ++ ws))) := Step.newF rel hd
        exact k _ _ _ _ st ⟨d, _, rfl, .inl upd_same, (r.append s).mono st.f st.r⟩
      · rw [if_neg hc] at e; cases e
    | _ => exact gen e
  | _ => exact gen e

/-! ### comparisons -/
def pLt : P2 := pI0 fun i j => .bl (decide (i < j))
def pLe : P2 := pI0 fun i j => .bl (decide (i ≤ j))
def pGt : P2 := pI0 fun i j => .bl (decide (j < i))
def pGe : P2 := pI0 fun i j => .bl (decide (j ≤ i))
theorem o_lt : O2 c (rI0 fun i j => .bl (decide (i < j))) pLt := o_int0 fun _ _ _ _ => rfl
theorem o_le : O2 c (rI0 fun i j => .bl (decide (i ≤ j))) pLe := o_int0 fun _ _ _ _ => rfl
theorem o_gt : O2 c (rI0 fun i j => .bl (decide (j < i))) pGt := o_int0 fun _ _ _ _ => rfl
theorem o_ge : O2 c (rI0 fun i j => .bl (decide (j ≤ i))) pGe := o_int0 fun _ _ _ _ => rfl
/-! data without dicts and objects -/
mutual
def toD : PV → Option PyData
  | .non => some .none
  | .bl b => some (.bool b)
  | .int i => some (.int i)
  | .str x => some (.str x)
  | .tup xs => (toDs xs).map PyData.tuple
  | .lst xs => (toDs xs).map PyData.list
  | .scr ns => some (.list (ns.map PyData.int))
  | _ => none
def toDs : List PV → Option (List PyData)
  | [] => some []
  | p :: ps => match toD p, toDs ps with
    | some d, some ds => some (d :: ds)
    | _, _ => none
end
def toDT (p : PV) (h : MH) : Option PyData := match p with
  | .ref i => (match h.get i with
    | some (.lst xs) => (toDs xs).map PyData.list
    | _ => none)
  | p => toD p
theorem dpAll_ints {K : PySem.W.Frag} {H : Hp} : ∀ ns : List Int, DpAll K H (ns.map V.int) (ns.map PyData.int)
  | [] => .nil
  | n :: r => .cons (.int n) (dpAll_ints r)
mutual
theorem toD_ok {F : Hp} {ρ : Nat → Option Addr} {h : MH} {H : Hp} (rel : REL c F ρ H h) : ∀ {p : PV} {x : V} {d : PyData}, Rep c F ρ p x → toD p = some d → Dp c.K H x d
  | .non, _, _, r, e => by cases e; cases r; exact .non
  | .bl b, _, _, r, e => by cases e; cases r; exact .bl b
  | .int i, _, _, r, e => by cases e; cases r; exact .int i
  | .str z, _, _, r, e => by cases e; cases r; exact .str z
  | .tup xs, _, _, ⟨a, vs, ex, ha, r⟩, e => by
    subst ex
    cases g : toDs xs with
    | none => simp only [toD, g] at e; cases e
    | some ds => simp only [toD, g] at e; cases e; exact .tup (rel.sqT ha) (toDs_ok rel r g)
  | .lst xs, _, _, ⟨a, vs, ex, ha, r⟩, e => by
    subst ex
    cases g : toDs xs with
    | none => simp only [toD, g] at e; cases e
    | some ds => simp only [toD, g] at e; cases e; exact .lst (SqL.of (rel.at ha id)) (toDs_ok rel r g)
  | .scr ns, _, _, r, e => by
    cases e
    obtain ⟨a, vs, ex, ha, _⟩ := asL_ok rel r (show asL (.scr ns) h = some (ns.map PV.int) from rfl)
    obtain ⟨a', ex', ha'⟩ := r
    subst ex
    cases ex'
    refine .lst (a := a) (xs := ns.map V.int) ?_ (dpAll_ints ns)
    rcases ha' with ⟨o, q⟩ | q
    · exact .inl (.inr ⟨o, rel.at q id⟩)
    · exact .inr q
  | .dct _, _, _, _, e => by simp only [toD] at e; cases e
  | .obj _ _, _, _, _, e => by simp only [toD] at e; cases e
  | .raw _, _, _, _, e => by simp only [toD] at e; cases e
  | .ref _, _, _, _, e => by simp only [toD] at e; cases e
  | .xc _ _, _, _, _, e => by simp only [toD] at e; cases e
theorem toDs_ok {F : Hp} {ρ : Nat → Option Addr} {h : MH} {H : Hp} (rel : REL c F ρ H h) : ∀ {p : List PV} {x : List V} {d : List PyData}, RepL c F ρ p x → toDs p = some d → DpAll c.K H x d
  | [], _, _, r, e => by cases e; cases r; exact .nil
  | p :: ps, _, _, ⟨v, vs, ex, r, rs⟩, e => by
    subst ex
    cases g : toD p with
    | none => simp only [toDs, g] at e; cases e
    | some d =>
      cases g2 : toDs ps with
      | none => simp only [toDs, g, g2] at e; cases e
      | some ds => simp only [toDs, g, g2] at e; cases e; exact .cons (toD_ok rel r g) (toDs_ok rel rs g2)
end
theorem toDT_ok {F : Hp} {ρ : Nat → Option Addr} {h : MH} {H : Hp} (rel : REL c F ρ H h) {p : PV} {x : V} {d : PyData} (r : Rep c F ρ p x) (e : toDT p h = some d) : Dp c.K H x d := by
  cases p with
  | ref i =>
    simp only [toDT] at e
    cases g : h.get i with
    | none => rw [g] at e; cases e
    | some k =>
      rw [g] at e
      cases k with
      | lst xs =>
        obtain ⟨a, vs, ex, ha, rr⟩ := asM_ok rel r (show asM (.ref i) h = some xs by simp only [asM, g])
        subst ex
        dsimp only at e
        cases g2 : toDs xs with
        | none => rw [g2] at e; cases e
        | some ds => rw [g2] at e; cases e; exact .lst (SqL.of ha) (toDs_ok rel rr g2)
      | dct _ => cases e
      | obj _ _ => cases e
  | _ => exact toD_ok rel r e
def dEq (p q : PV) (h : MH) : Option Bool := match toDT p h, toDT q h with
  | some d, some e => if SeqAt.shaped d = true ∧ SeqAt.shaped e = true then some (PyData.eqv d e) else none
  | _, _ => none
def pEq : P2 := fun p q h => (dEq p q h).map fun b => (.bl b, h)
def pNe : P2 := fun p q h => (dEq p q h).map fun b => (.bl (!b), h)
theorem dEq_ok {F : Hp} {ρ : Nat → Option Addr} {h : MH} {H : Hp} {p q : PV} {x y : V} {b : Bool} (rel : REL c F ρ H h) (rp : Rep c F ρ p x) (rq : Rep c F ρ q y) (e : dEq p q h = some b) :
    ∃ d e, Dp c.K H x d ∧ Dp c.K H y e ∧ SeqAt.shaped d = true ∧ SeqAt.shaped e = true ∧ b = PyData.eqv d e := by
  unfold dEq at e
  cases g : toDT p h with
  | none => rw [g] at e; cases e
  | some d =>
    cases g2 : toDT q h with
    | none => rw [g, g2] at e; cases e
    | some d2 =>
      rw [g, g2] at e
      dsimp only at e
      by_cases hc : SeqAt.shaped d = true ∧ SeqAt.shaped d2 = true
      · rw [if_pos hc] at e
        cases e
        exact ⟨d, d2, toDT_ok rel rp g, toDT_ok rel rq g2, hc.1, hc.2, rfl⟩
      · rw [if_neg hc] at e; cases e
theorem o_eq : O2 c (rEqD c.K) pEq := fun F ρ h H p q x y v h' Q rel rp rq e k => by
  unfold pEq at e
  cases g : dEq p q h with
  | none => rw [g] at e; cases e
  | some b =>
    rw [g] at e
    cases e
    obtain ⟨d, d2, h1, h2, s1, s2, eb⟩ := dEq_ok rel rp rq g
    exact ⟨d, d2, h1, h2, s1, s2, k F ρ H _ (Step.refl rel) (by rw [eb]; rfl)⟩
theorem o_ne : O2 c (rNeD c.K) pNe := fun F ρ h H p q x y v h' Q rel rp rq e k => by
  unfold pNe at e
  cases g : dEq p q h with
  | none => rw [g] at e; cases e
  | some b =>
    rw [g] at e
    cases e
    obtain ⟨d, d2, h1, h2, s1, s2, eb⟩ := dEq_ok rel rp rq g
    exact ⟨d, d2, h1, h2, s1, s2, k F ρ H _ (Step.refl rel) (by rw [eb]; rfl)⟩
/-- is None -/
def isNonP : PV → Option Bool
  | .non => some true
  | .raw _ => none
  | _ => some false
def pIsN : P1 := fun p h => (isNonP p).map fun b => (.bl b, h)
def pNotN : P1 := fun p h => (isNonP p).map fun b => (.bl (!b), h)
theorem isNonP_ok {F : Hp} {ρ : Nat → Option Addr} {p : PV} {x : V} {b : Bool} (r : Rep c F ρ p x) (e : isNonP p = some b) : b = decide (x = .non) := by
  cases p with
  | non => cases e; cases r; rfl
  | bl _ => cases e; cases r; rfl
  | int _ => cases e; cases r; rfl
  | str _ => cases e; cases r; rfl
  | tup _ => cases e; obtain ⟨a, vs, ex, _⟩ := r; subst ex; rfl
  | lst _ => cases e; obtain ⟨a, vs, ex, _⟩ := r; subst ex; rfl
  | dct _ => cases e; obtain ⟨a, vs, ex, _⟩ := r; subst ex; rfl
  | obj _ _ => cases e; obtain ⟨a, vs, _, ex, _⟩ := r; subst ex; rfl
  | raw _ => cases e
  | ref _ => cases e; obtain ⟨a, ex, _⟩ := r; subst ex; rfl
  | scr _ => cases e; obtain ⟨a, ex, _⟩ := r; subst ex; rfl
  | xc _ _ => cases e; obtain ⟨a, _, _, ex, _⟩ := r; subst ex; rfl
end
end Mi

/-! Mi3: tests, and, or, not, conditional expressions, chains, subscripts, in. -/
namespace Mi
open PySem PySem.Spec PyProof.Rows L2
section
variable {c : Wd} {cl : Str → Addr} {sx : Option (Addr × Value × Option Addr)} {W : WX} {X : Cx} {e a b : Expr} {pos : Pos} {rest : List Expr}

def kBool (p : PV) (h : MH) : Res Bool := match p with
  | .bl b => .ok b h
  | _ => .stuck
/-- a value that is a truth value, as a test -/
def mTst (m : ME) : MT := fun env h => (m env h).bind kBool
theorem tm_cmp {t : TE} {m : ME} (h : PT X e (tTest t)) (s : Snd c W t m) : PT X e (tT c W (mTst m)) := ptI h fun σ H Q t =>
  s σ H _ (tG.bind (R := Rep c) (k := fun p _ h1 => kBool p h1) t fun F ρ env h p x H1 rel re rp post => by
    cases p with
    | bl k => cases rp; exact ⟨k, rfl, post F ρ H1 k (Step.refl rel) rfl⟩
    | _ => exact post.elim)
/-- any value's truth -/
def truP (p : PV) (h : MH) : Option Bool := match p with
  | .non => some false
  | .bl b => some b
  | .int i => some (i != 0)
  | .str y => if y.length ≤ sizeLine then some ((y.length : Int) != 0) else none
  | p => (asS p h).map fun xs => !xs.isEmpty
def kTru (p : PV) (h : MH) : Res Bool := match truP p h with
  | some b => .ok b h
  | none => .stuck
def mTru (m : ME) : MT := fun env h => (m env h).bind kTru
theorem repL_empty {F : Hp} {ρ : Nat → Option Addr} {xs : List PV} {vs : List V} (r : RepL c F ρ xs vs) : (!vs.isEmpty) = !xs.isEmpty := by
  cases xs with
  | nil => cases r; rfl
  | cons p ps => obtain ⟨v, w, e, _⟩ := r; subst e; rfl
theorem truP_ok {F : Hp} {ρ : Nat → Option Addr} {h : MH} {H : Hp} {p : PV} {x : V} {k : Bool} (rel : REL c F ρ H h) (rp : Rep c F ρ p x) (e : truP p h = some k) : TruV c.K x H k := by
  have gen : (asS p h).map (fun xs => !xs.isEmpty) = some k → TruV c.K x H k := fun e => by
    cases g : asS p h with
    | none => rw [g] at e; cases e
    | some xs =>
      rw [g] at e
      cases e
      obtain ⟨d, vs, ex, hv, r⟩ := asS_ok rel rp g
      subst ex
      rcases hv with hv | hv
      · exact .inl ⟨vs, hv, (repL_empty r).symm⟩
      · exact .inr (.inl ⟨vs, hv, (repL_empty r).symm⟩)
  cases p with
  | non => cases e; cases rp; rfl
  | bl b => cases e; cases rp; rfl
  | int i => cases e; cases rp; rfl
  | str y =>
    simp only [truP] at e
    by_cases hc : y.length ≤ sizeLine
    · rw [if_pos hc] at e; cases e; cases rp; exact ⟨hc, rfl⟩
    · rw [if_neg hc] at e; cases e
  | _ => exact gen e
theorem tm_tru {m : ME} (h : PT X e (fun σ H Q => tE ⟨X.K, cl, sx⟩ W m σ H fun x H' => ∃ k, TruV X.K x H' k ∧ Q k H')) : PT X e (tT ⟨X.K, cl, sx⟩ W (mTru m)) := ptI h fun σ H Q t =>
  tG.bind (R := Rep ⟨X.K, cl, sx⟩) (k := fun p _ h1 => kTru p h1) t fun F ρ env h p x H1 rel re rp post => by
    unfold kTru at post
    cases g : truP p h with
    | none => rw [g] at post; exact post.elim
    | some k => rw [g] at post; exact ⟨k, truP_ok rel rp g, post F ρ H1 k (Step.refl rel) rfl⟩

/-! ### and, or, not -/
def mAnd (ma mb : MT) : MT := fun env h => (ma env h).bind fun k h1 => if k = true then mb env h1 else .ok false h1
def mOr (ma mb : MT) : MT := fun env h => (ma env h).bind fun k h1 => if k = true then .ok true h1 else mb env h1
def mNot (m : MT) : MT := fun env h => (m env h).bind fun k h1 => .ok (!k) h1
theorem tm_and1 {m : MT} (h : PT X a (tT c W m)) : PW X (.BoolOp .And [a] pos) (tT c W m) := pw_and1 h
theorem tm_or1 {m : MT} (h : PT X a (tT c W m)) : PW X (.BoolOp .Or [a] pos) (tT c W m) := pw_or1 h
theorem tm_and {ma mb : MT} (ha : PT X a (tT c W ma)) (hb : PW X (.BoolOp .And (b :: rest) pos) (tT c W mb)) : PW X (.BoolOp .And (a :: b :: rest) pos) (tT c W (mAnd ma mb)) := pwI (pw_and ha hb) fun σ H Q t =>
  tG.bind (R := fun _ _ (k x : Bool) => x = k) (k := fun k env h1 => if k = true then mb env h1 else .ok false h1) t fun F ρ env h p x H1 rel re rp post => by
    subst rp
    by_cases hk : x = true
    · rw [if_pos hk] at post ⊢
      exact ⟨F, ρ, env, h, rel, re, post⟩
    · rw [if_neg hk] at post ⊢
      exact post F ρ H1 false (Step.refl rel) rfl
theorem tm_or {ma mb : MT} (ha : PT X a (tT c W ma)) (hb : PW X (.BoolOp .Or (b :: rest) pos) (tT c W mb)) : PW X (.BoolOp .Or (a :: b :: rest) pos) (tT c W (mOr ma mb)) := pwI (pw_or ha hb) fun σ H Q t =>
  tG.bind (R := fun _ _ (k x : Bool) => x = k) (k := fun k env h1 => if k = true then .ok true h1 else mb env h1) t fun F ρ env h p x H1 rel re rp post => by
    subst rp
    by_cases hk : x = true
    · rw [if_pos hk] at post ⊢
      exact post F ρ H1 true (Step.refl rel) rfl
    · rw [if_neg hk] at post ⊢
      exact ⟨F, ρ, env, h, rel, re, post⟩
theorem tm_not {m : MT} (h : PT X a (tT c W m)) : PT X (.UnaryOp .Not a pos) (tT c W (mNot m)) := ptI (pt_not h) fun σ H Q t =>
  tG.bind (R := fun _ _ (k x : Bool) => x = k) (k := fun k env h1 => .ok (!k) h1) t fun F ρ env h p x H1 rel re rp post => by
    subst rp
    exact post F ρ H1 _ (Step.refl rel) rfl
/-- as values -/
def mAndV (ma mb : ME) : ME := fun env h => (ma env h).bind fun p h1 => match p with
  | .bl true => mb env h1
  | .bl false => .ok (.bl false) h1
  | _ => .stuck
def mOrV (ma mb : ME) : ME := fun env h => (ma env h).bind fun p h1 => match p with
  | .bl true => .ok (.bl true) h1
  | .bl false => mb env h1
  | _ => .stuck
def kNot (p : PV) (h : MH) : Res PV := match p with
  | .bl b => .ok (.bl (!b)) h
  | _ => .stuck
def mNotV (m : ME) : ME := fun env h => (m env h).bind kNot
theorem em_one {op : BoolOp} {m : ME} (h : PE X a (tE c W m)) : PE X (.BoolOp op [a] pos) (tE c W m) := pe_one h
theorem em_and {ma mb : ME} (ha : PE X a (tE c W ma)) (hb : PE X (.BoolOp .And (b :: rest) pos) (tE c W mb)) : PE X (.BoolOp .And (a :: b :: rest) pos) (tE c W (mAndV ma mb)) := peI (pe_and ha hb) fun σ H Q t =>
  tG.bind (R := Rep c) (k := fun p env h1 => match p with
    | .bl true => mb env h1
    | .bl false => .ok (.bl false) h1
    | _ => .stuck) t fun F ρ env h p x H1 rel re rp post => by
    cases p with
    | bl k =>
      cases rp
      cases k with
      | true => exact ⟨true, rfl, by rw [if_pos rfl]; exact ⟨F, ρ, env, h, rel, re, post⟩⟩
      | false => exact ⟨false, rfl, by rw [if_neg (by decide)]; exact post F ρ H1 _ (Step.refl rel) rfl⟩
    | _ => exact post.elim
theorem em_or {ma mb : ME} (ha : PE X a (tE c W ma)) (hb : PE X (.BoolOp .Or (b :: rest) pos) (tE c W mb)) : PE X (.BoolOp .Or (a :: b :: rest) pos) (tE c W (mOrV ma mb)) := peI (pe_or ha hb) fun σ H Q t =>
  tG.bind (R := Rep c) (k := fun p env h1 => match p with
    | .bl true => .ok (.bl true) h1
    | .bl false => mb env h1
    | _ => .stuck) t fun F ρ env h p x H1 rel re rp post => by
    cases p with
    | bl k =>
      cases rp
      cases k with
      | true => exact ⟨true, rfl, by rw [if_pos rfl]; exact post F ρ H1 _ (Step.refl rel) rfl⟩
      | false => exact ⟨false, rfl, by rw [if_neg (by decide)]; exact ⟨F, ρ, env, h, rel, re, post⟩⟩
    | _ => exact post.elim
theorem em_not {m : ME} (h : PE X a (tE c W m)) : PE X (.UnaryOp .Not a pos) (tE c W (mNotV m)) := peI (pe_not h) fun σ H Q t =>
  tG.bind (R := Rep c) (k := fun p _ h1 => kNot p h1) t fun F ρ env h p x H1 rel re rp post => by
    cases p with
    | bl k => cases rp; exact ⟨k, rfl, post F ρ H1 _ (Step.refl rel) rfl⟩
    | _ => exact post.elim
/-- a if t else b -/
def mIf {α : Type} (t : MT) (ma mb : MEnv → MH → Res α) : MEnv → MH → Res α := fun env h => (t env h).bind fun k h1 => if k = true then ma env h1 else mb env h1
theorem em_if {q : Expr} {t : MT} {ma mb : ME} (hc : PT X q (tT c W t)) (ha : PE X a (tE c W ma)) (hb : PE X b (tE c W mb)) : PE X (.IfExp q a b pos) (tE c W (mIf t ma mb)) := peI (pe_ifExp hc ha hb) fun σ H Q t =>
  tG.bind (R := fun _ _ (k x : Bool) => x = k) (k := fun k env h1 => if k = true then ma env h1 else mb env h1) t fun F ρ env h p x H1 rel re rp post => by
    subst rp
    by_cases hk : x = true
    · rw [if_pos hk] at post ⊢
      exact ⟨F, ρ, env, h, rel, re, post⟩
    · rw [if_neg hk] at post ⊢
      exact ⟨F, ρ, env, h, rel, re, post⟩
/-- a < b < c -/
def kChain (g : P2) (mc : ME) (q : PV) (env : MEnv) (k : PV) (h : MH) : Res PV := match k with
  | .bl true => (mc env h).bind fun r h4 => liftO (g q r h4)
  | .bl false => .ok (.bl false) h
  | _ => .stuck
def mChain (f g : P2) (ma mb mc : ME) : ME := fun env h => (ma env h).bind fun p h1 => (mb env h1).bind fun q h2 => (liftO (f p q h2)).bind (kChain g mc q env)
theorem snd_chain {r r' : R2} {f g : P2} (hf : O2 c r f) (hg : O2 c r' g) {ma mb mc : ME} : Snd c W (tChain r r' (tE c W ma) (tE c W mb) (tE c W mc)) (mChain f g ma mb mc) := fun σ H Q t =>
  tG.bind (R := Rep c) (k := fun p env h1 => (mb env h1).bind fun q h2 => (liftO (f p q h2)).bind (kChain g mc q env)) t fun F ρ env h p x H1 rel re rp post => by
    refine ⟨F, ρ, env, h, rel, re, ?_⟩
    cases em : mb env h with
    | stuck => rw [em] at post; exact post
    | exc n fs h2 => rw [em] at post; exact post
    | ok q h2 =>
      rw [em] at post
      intro F2 ρ2 H2 y s2 rq
      replace post : PostG c (Rep c) W F2 ρ2 h2 H2 σ Q ((liftO (f p q h2)).bind (kChain g mc q env)) := PostG.shift s2 post
      cases ef : f p q h2 with
      | none => rw [ef] at post; exact post.elim
      | some vh =>
        obtain ⟨k, h3⟩ := vh
        rw [ef] at post
        refine hf F2 ρ2 h2 H2 p q x y k h3 _ s2.rel (rp.mono s2.f s2.r) rq ef fun F3 ρ3 H3 z s3 rz => ?_
        replace post : PostG c (Rep c) W F3 ρ3 h3 H3 σ Q (kChain g mc q env k h3) := PostG.shift s3 post
        cases k with
        | bl kb =>
          cases rz
          cases kb with
          | true =>
            refine ⟨true, rfl, ?_⟩
            rw [if_pos rfl]
            refine ⟨F3, ρ3, env, h3, s3.rel, (re.mono s2.f s2.r).mono s3.f s3.r, ?_⟩
            dsimp only [kChain] at post
            cases ec : mc env h3 with
            | stuck => rw [ec] at post; exact post
            | exc n fs h4 => rw [ec] at post; exact post
            | ok w h4 =>
              rw [ec] at post
              intro F4 ρ4 H4 u s4 rw'
              obtain ⟨v, h', e', kk⟩ := post_lift (PostG.shift s4 (show PostG c (Rep c) W F3 ρ3 h3 H3 σ Q (liftO (g q w h4)) from post))
              exact hg F4 ρ4 h4 H4 q w y u v h' Q s4.rel ((rq.mono s3.f s3.r).mono s4.f s4.r) rw' e' kk
          | false =>
            refine ⟨false, rfl, ?_⟩
            rw [if_neg (by decide)]
            exact post F3 ρ3 H3 _ (Step.refl s3.rel) rfl
        | _ => exact post.elim

/-! ### subscripts -/
def keyP : PV → Option Key
  | .int i => some (.inl i)
  | .str x => some (.inr x)
  | _ => none
def asD (p : PV) (h : MH) : Option (List (Key × PV)) := match p with
  | .dct kvs => some kvs
  | .ref i => (match h.get i with
    | some (.dct kvs) => some kvs
    | _ => none)
  | _ => none
def valP : List (Key × PV) → Key → Option PV
  | [], _ => none
  | (k', p) :: r, k => if k' = k then some p else valP r k
theorem keyP_ok {F : Hp} {ρ : Nat → Option Addr} {p : PV} {x : V} {k : Key} (r : Rep c F ρ p x) (e : keyP p = some k) : x = kV k := by
  cases p with
  | int i => cases e; exact r
  | str z => cases e; exact r
  | _ => cases e
theorem asD_ok {F : Hp} {ρ : Nat → Option Addr} {h : MH} {H : Hp} {p : PV} {x : V} (rel : REL c F ρ H h) (rp : Rep c F ρ p x) {kvs : List (Key × PV)} (e : asD p h = some kvs) : ∃ a ws, x = .ref a ∧ Rd H a (.dK ws) ∧ RepD c F ρ kvs ws := by
  cases p with
  | dct ys =>
    cases e
    obtain ⟨a, vs, ex, ha, r⟩ := rp
    rcases rel.sub a _ ha with z | ⟨_, ob, z⟩
    · exact ⟨a, vs, ex, .inl z, r⟩
    · exact ⟨a, vs, ex, .inr ⟨ob, z⟩, r⟩
  | ref i =>
    simp only [asD] at e
    cases g : h.get i with
    | none => rw [g] at e; cases e
    | some k =>
      rw [g] at e
      cases k with
      | dct ys =>
        cases e
        obtain ⟨a, ex, ea⟩ := rp
        obtain ⟨a', ea', na, vs, hv, r⟩ := rel.cell i _ g
        rw [ea] at ea'; cases ea'
        exact ⟨a, vs, ex, .inl hv, r⟩
      | lst _ => cases e
      | obj _ _ => cases e
  | _ => cases e
theorem valP_ok {F : Hp} {ρ : Nat → Option Addr} (k : Key) : ∀ {kvs : List (Key × PV)} {ws : List (Key × V)}, RepD c F ρ kvs ws → (∀ p, valP kvs k = some p → ∃ v, valV ws k = some v ∧ Rep c F ρ p v) ∧ (valP kvs k = none → valV ws k = none)
  | [], ws, r => by
    cases r
    exact ⟨fun _ e => (nomatch e), fun _ => rfl⟩
  | (k', p) :: ps, ws, ⟨v, r, e, h, t⟩ => by
    subst e
    simp only [valP]
    by_cases hk : k' = k
    · rw [if_pos hk, valV_pos hk]
      exact ⟨fun q e => (by cases e; exact ⟨v, rfl, h⟩), fun e => nomatch e⟩
    · rw [if_neg hk, valV_neg hk]
      exact valP_ok k t
/-- o[i], o a list, a tuple, a text, a dict -/
def pIx : P2 := fun p q h => match asD p h with
  | some kvs => (match keyP q with
    | some k => (valP kvs k).map fun v => (v, h)
    | none => none)
  | none => (match q with
    | .int i => (match p with
      | .str z => if z.length ≤ sizeLine then (atI z.cps.toList i).map fun k => (.str ⟨#[k]⟩, h) else none
      | p => (match asS p h with
        | some xs => (atI xs i).map fun v => (v, h)
        | none => none))
    | _ => none)
theorem atI_ok {F : Hp} {ρ : Nat → Option Addr} {xs : List PV} {vs : List V} {i : Int} {p : PV} (r : RepL c F ρ xs vs) (e : atI xs i = some p) : ∃ v, atI vs i = some v ∧ Rep c F ρ p v := by
  unfold atI at e ⊢
  rw [← r.length]
  cases g : ixN xs.length i with
  | none => rw [g] at e; cases e
  | some j =>
    rw [g] at e
    exact r.get e
theorem em_ix {ma mb : ME} (hs : PE X e (tOp (rIx X.K) (tE ⟨X.K, cl, sx⟩ W ma) (tE ⟨X.K, cl, sx⟩ W mb))) (hd : PE X e (tDGet (tE ⟨X.K, cl, sx⟩ W ma) (tE ⟨X.K, cl, sx⟩ W mb))) : PE X e (tE ⟨X.K, cl, sx⟩ W (mB2 pIx ma mb)) := pe2 hs hd fun σ H Q t => by
  obtain ⟨F, ρ, env, h, rel, re, post⟩ := t
  unfold mB2 at post
  cases ea : ma env h with
  | stuck => rw [ea] at post; exact post.elim
  | exc n fs h1 => rw [ea] at post; exact .inl ⟨F, ρ, env, h, rel, re, by rw [ea]; exact post⟩
  | ok p h1 =>
    rw [ea] at post
    dsimp only [Res.bind] at post
    cases eb : mb env h1 with
    | stuck => rw [eb] at post; exact post.elim
    | exc n fs h2 =>
      rw [eb] at post
      refine .inl ⟨F, ρ, env, h, rel, re, ?_⟩
      rw [ea]
      intro F1 ρ1 H1 x s1 rp
      refine ⟨F1, ρ1, env, h1, s1.rel, re.mono s1.f s1.r, ?_⟩
      rw [eb]
      exact PostG.shift s1 (show PostG ⟨X.K, cl, sx⟩ (Rep ⟨X.K, cl, sx⟩) W F ρ h H σ Q (.exc n fs h2) from post)
    | ok q h2 =>
      rw [eb] at post
      dsimp only at post
      obtain ⟨v, h', ef, kk⟩ := post_lift post
      cases g : asD p h2 with
      | some kvs =>
        right
        refine ⟨F, ρ, env, h, rel, re, ?_⟩
        rw [ea]
        intro F1 ρ1 H1 x s1 rp
        refine ⟨F1, ρ1, env, h1, s1.rel, re.mono s1.f s1.r, ?_⟩
        rw [eb]
        intro F2 ρ2 H2 y s2 rq
        simp only [pIx, g] at ef
        cases gk : keyP q with
        | none => rw [gk] at ef; cases ef
        | some k =>
          rw [gk] at ef
          dsimp only at ef
          cases gv : valP kvs k with
          | none => rw [gv] at ef; cases ef
          | some w =>
            rw [gv] at ef
            cases ef
            obtain ⟨a, ws, ex, hr, rd⟩ := asD_ok s2.rel (rp.mono s2.f s2.r) g
            obtain ⟨z, ez, rz⟩ := (valP_ok k rd).1 v gv
            exact ⟨a, z, ex, .inl ⟨ws, k, hr, keyP_ok rq gk, ez.symm⟩, kk F2 ρ2 H2 z (s1.trans s2) rz⟩
      | none =>
        left
        refine ⟨F, ρ, env, h, rel, re, ?_⟩
        rw [ea]
        intro F1 ρ1 H1 x s1 rp
        refine ⟨F1, ρ1, env, h1, s1.rel, re.mono s1.f s1.r, ?_⟩
        rw [eb]
        intro F2 ρ2 H2 y s2 rq
        simp only [pIx, g] at ef
        cases q with
        | int i =>
          cases rq
          have gen : (match asS p h2 with
              | some xs => (atI xs i).map fun v => (v, h2)
              | none => none) = some (v, h') → rIx X.K x (.int i) H2 Q := fun ef => by
            cases gs : asS p h2 with
            | none => rw [gs] at ef; cases ef
            | some xs =>
              rw [gs] at ef
              dsimp only at ef
              cases gi : atI xs i with
              | none => rw [gi] at ef; cases ef
              | some w =>
                rw [gi] at ef
                cases ef
                obtain ⟨a, vs, ex, hv, r⟩ := asS_ok s2.rel (rp.mono s2.f s2.r) gs
                obtain ⟨z, ez, rz⟩ := atI_ok r gi
                rcases hv with hv | hv
                · exact .inl ⟨a, vs, i, z, ex, rfl, hv, ez, kk F2 ρ2 H2 z (s1.trans s2) rz⟩
                · exact .inr (.inl ⟨a, vs, i, z, ex, rfl, hv, ez, kk F2 ρ2 H2 z (s1.trans s2) rz⟩)
          cases p with
          | str z =>
            dsimp only at ef
            by_cases hz : z.length ≤ sizeLine
            · rw [if_pos hz] at ef
              cases gi : atI z.cps.toList i with
              | none => rw [gi] at ef; cases ef
              | some w =>
                rw [gi] at ef
                cases ef
                cases rp
                exact .inr (.inr ⟨z, i, w, rfl, rfl, hz, gi, kk F2 ρ2 H2 _ (s1.trans s2) rfl⟩)
            · rw [if_neg hz] at ef; cases ef
          | _ => exact gen ef
        | _ => cases ef
end
end Mi

/-! Mi4: statements by mirrors, what is walked, for, list comprehensions. -/
namespace Mi
open PySem PySem.Spec PyProof.Rows L2

inductive SRes where
  | nx (env : MEnv) (h : MH)
  | rt (v : PV) (h : MH)
  | bk (env : MEnv) (h : MH)
  | ct (env : MEnv) (h : MH)
  | exc (n : Str) (fs : List (Str × PV)) (env : MEnv) (h : MH)
  | stuck
abbrev MS := MEnv → MH → SRes
def PostS (c : Wd) (W : WX) (F : Hp) (ρ : Nat → Option Addr) (h : MH) (H : Hp) (D : Ends) : SRes → Prop
  | .nx env' h' => ∀ F' ρ' H' σ', Step c F ρ h H F' ρ' h' H' → REnv c F' ρ' env' σ' → D.nx σ' H'
  | .rt v h' => ∀ F' ρ' H' x, Step c F ρ h H F' ρ' h' H' → Rep c F' ρ' v x → D.rt x H'
  | .bk env' h' => ∀ F' ρ' H' σ', Step c F ρ h H F' ρ' h' H' → REnv c F' ρ' env' σ' → D.bk σ' H'
  | .ct env' h' => ∀ F' ρ' H' σ', Step c F ρ h H F' ρ' h' H' → REnv c F' ρ' env' σ' → D.ct σ' H'
  | .exc n fs env' h' => ∀ F' ρ' H' σ' d ws, Step c F ρ h H F' ρ' h' H' → REnv c F' ρ' env' σ' → H d = none → H' d = some (.xd ws) → RepF c F' ρ' fs ws → W (.ref (c.cl n)) (some d) σ' H'
  | .stuck => False
def tS (c : Wd) (W : WX) (m : MS) : TS := fun D σ H => ∃ F ρ env h, REL c F ρ H h ∧ REnv c F ρ env σ ∧ PostS c W F ρ h H D (m env h)
section
variable {c : Wd} {W : WX} {F F1 : Hp} {ρ ρ1 : Nat → Option Addr} {h h1 : MH} {H H1 : Hp} {D : Ends}
theorem PostS.shift {r : SRes} (s : Step c F ρ h H F1 ρ1 h1 H1) (p : PostS c W F ρ h H D r) : PostS c W F1 ρ1 h1 H1 D r := by
  cases r with
  | nx env h' => exact fun F' ρ' H' σ' t q => p F' ρ' H' σ' (s.trans t) q
  | rt v h' => exact fun F' ρ' H' x t q => p F' ρ' H' x (s.trans t) q
  | bk env h' => exact fun F' ρ' H' σ' t q => p F' ρ' H' σ' (s.trans t) q
  | ct env h' => exact fun F' ρ' H' σ' t q => p F' ρ' H' σ' (s.trans t) q
  | exc n fs env h' => exact fun F' ρ' H' σ' d ws t q z u w => p F' ρ' H' σ' d ws (s.trans t) q (s.back z) u w
  | stuck => exact p
end
/-- a value, then a statement's way on -/
def Res.then {α : Type} (r : Res α) (env : MEnv) (k : α → MH → SRes) : SRes := match r with
  | .ok a h => k a h
  | .exc n fs h => .exc n fs env h
  | .stuck => .stuck
section
variable {c : Wd} {cl : Str → Addr} {sx : Option (Addr × Value × Option Addr)} {W : WX} {X : Cx} {st : Stmt} {rest : List Stmt} {e a b : Expr} {pos : Pos}
theorem psI {t t' : TS} (h : PS X st t) (i : ∀ D σ H, t' D σ H → t D σ H) : PS X st t' := ⟨fun pins s σ H D I q => h.run pins s σ H D I (i D σ H q)⟩
theorem pssI {sts : List Stmt} {t t' : TS} (h : PSs X sts t) (i : ∀ D σ H, t' D σ H → t D σ H) : PSs X sts t' := ⟨fun pins s σ H D I q => h.run pins s σ H D I (i D σ H q)⟩
theorem ps2 {t t1 t2 : TS} (h1 : PS X st t1) (h2 : PS X st t2) (i : ∀ D σ H, t D σ H → t1 D σ H ∨ t2 D σ H) : PS X st t :=
  ⟨fun pins s σ H D I q => (i D σ H q).elim (h1.run pins s σ H D I) (h2.run pins s σ H D I)⟩
/-- an expression first -/
theorem tS.bind {α β : Type} {R : Hp → (Nat → Option Addr) → α → β → Prop} {m : MEnv → MH → Res α} {k : α → MEnv → MH → SRes} {D : Ends} {σ : L2.St} {H : Hp} {T : β → Hp → Prop}
    (t : tS c W (fun env h => (m env h).then env fun a h1 => k a env h1) D σ H)
    (hk : ∀ F ρ env h a x H1, REL c F ρ H1 h → REnv c F ρ env σ → R F ρ a x → PostS c W F ρ h H1 D (k a env h) → T x H1) : tG c R W m σ H T := by
  obtain ⟨F, ρ, env, h, rel, re, p⟩ := t
  refine ⟨F, ρ, env, h, rel, re, ?_⟩
  replace p : PostS c W F ρ h H D ((m env h).then env fun a h1 => k a env h1) := p
  cases e : m env h with
  | ok a h1 =>
    rw [e] at p
    exact fun F' ρ' H' x s r => hk F' ρ' env h1 a x H' s.rel (re.mono s.f s.r) r (PostS.shift s p)
  | exc n fs h1 =>
    rw [e] at p
    exact fun F' ρ' H' d ws s z q u => p F' ρ' H' σ d ws s (re.mono s.f s.r) z q u
  | stuck => rw [e] at p; exact p

/-! ### blocks -/
def mSeq (ma mb : MS) : MS := fun env h => match ma env h with
  | .nx env' h' => mb env' h'
  | r => r
def mNx : MS := fun env h => .nx env h
theorem post_nx {F : Hp} {ρ : Nat → Option Addr} {env : MEnv} {h : MH} {H : Hp} {D : Ends} {σ : L2.St} (rel : REL c F ρ H h) (re : REnv c F ρ env σ) (p : PostS c W F ρ h H D (.nx env h)) : D.nx σ H := p F ρ H σ (Step.refl rel) re
theorem sm_nil : PSs X [] (tS c W mNx) := pssI pss_nil fun D σ H ⟨F, ρ, env, h, rel, re, p⟩ => p F ρ H σ (Step.refl rel) re
theorem sm_cons {ma mb : MS} (h1 : PS X st (tS c W ma)) (h2 : PSs X rest (tS c W mb)) : PSs X (st :: rest) (tS c W (mSeq ma mb)) := pssI (pss_cons h1 h2) fun D σ H ⟨F, ρ, env, h, rel, re, p⟩ => by
  refine ⟨F, ρ, env, h, rel, re, ?_⟩
  unfold mSeq at p
  cases em : ma env h with
  | nx env' h' =>
    rw [em] at p
    exact fun F' ρ' H' σ' s q => ⟨F', ρ', env', h', s.rel, q, PostS.shift s p⟩
  | rt v h' => rw [em] at p; exact p
  | bk v h' => rw [em] at p; exact p
  | ct v h' => rw [em] at p; exact p
  | exc n fs v h' => rw [em] at p; exact p
  | stuck => rw [em] at p; exact p
theorem sm_one {m : MS} (h : PS X st (tS c W m)) : PSs X [st] (tS c W m) := pss_one h
def mPass : MS := fun env h => .nx env h
theorem sm_pass : PS X (.Pass pos) (tS c W mPass) := psI ps_pass fun D σ H ⟨F, ρ, env, h, rel, re, p⟩ => p F ρ H σ (Step.refl rel) re
def mBrk : MS := fun env h => .bk env h
def mCnt : MS := fun env h => .ct env h
theorem sm_break : PS X (.Break pos) (tS c W mBrk) := psI ps_break fun D σ H ⟨F, ρ, env, h, rel, re, p⟩ => p F ρ H σ (Step.refl rel) re
theorem sm_continue : PS X (.Continue pos) (tS c W mCnt) := psI ps_continue fun D σ H ⟨F, ρ, env, h, rel, re, p⟩ => p F ρ H σ (Step.refl rel) re
/-! ### statements of one expression -/
def mRet (m : ME) : MS := fun env h => (m env h).then env fun v h1 => .rt v h1
theorem sm_ret {m : ME} (he : PE X e (tE c W m)) : PS X (.Return (some e) pos) (tS c W (mRet m)) := psI (ps_ret he) fun D σ H t =>
  tS.bind (R := Rep c) (k := fun v _ h1 => .rt v h1) t fun F ρ env h p x H1 rel re rp post => post F ρ H1 x (Step.refl rel) rp
def mRetN : MS := fun _ h => .rt .non h
theorem sm_retN : PS X (.Return none pos) (tS c W mRetN) := psI ps_retN fun D σ H ⟨F, ρ, env, h, rel, re, p⟩ => p F ρ H .non (Step.refl rel) rfl
def mExp (m : ME) : MS := fun env h => (m env h).then env fun _ h1 => .nx env h1
theorem sm_exp {m : ME} (he : PE X e (tE c W m)) (hs : swapsWith e none pos.line X.env = pure false := by rfl) : PS X (.Expr e pos) (tS c W (mExp m)) := psI (ps_expr he hs) fun D σ H t =>
  tS.bind (R := Rep c) (k := fun _ env h1 => .nx env h1) t fun F ρ env h p x H1 rel re rp post => post F ρ H1 σ (Step.refl rel) re
def mSet (i : Nat) (m : ME) : MS := fun env h => (m env h).then env fun v h1 => .nx (env.set i (some v)) h1
theorem snd_set {i : Nat} {m : ME} : ∀ D σ H, tS c W (mSet i m) D σ H → tAsg (tE c W m) (gName i) D σ H := fun D σ H t =>
  tS.bind (R := Rep c) (k := fun v env h1 => .nx (env.set i (some v)) h1) t fun F ρ env h p x H1 rel re rp post => post F ρ H1 (σ.set i (some x)) (Step.refl rel) (re.set rp)
theorem sm_set {i : Nat} {m : ME} (h : PS X st (tAsg (tE c W m) (gName i))) : PS X st (tS c W (mSet i m)) := psI h snd_set
def mIfS (t : MT) (ma mb : MS) : MS := fun env h => (t env h).then env fun k h1 => if k = true then ma env h1 else mb env h1
theorem sm_if {q : Expr} {sa sb : List Stmt} {t : MT} {ma mb : MS} (hc : PT X q (tT c W t)) (ha : PSs X sa (tS c W ma)) (hb : PSs X sb (tS c W mb)) : PS X (.If q sa sb pos) (tS c W (mIfS t ma mb)) := psI (ps_if hc ha hb) fun D σ H t =>
  tS.bind (R := fun _ _ (k x : Bool) => x = k) (k := fun k env h1 => if k = true then ma env h1 else mb env h1) t fun F ρ env h p x H1 rel re rp post => by
    subst rp
    by_cases hk : x = true
    · rw [if_pos hk] at post ⊢
      exact ⟨F, ρ, env, h, rel, re, post⟩
    · rw [if_neg hk] at post ⊢
      exact ⟨F, ρ, env, h, rel, re, post⟩

/-! ### targets -/
abbrev MG := PV → MEnv → Option MEnv
/-- a target's reading is a change of the slots -/
def GOk (c : Wd) (is : List Nat) (g : TG) (mg : MG) : Prop := ∀ (F : Hp) (ρ : Nat → Option Addr) (h : MH) (H : Hp) (env env' : MEnv) (σ : L2.St) (p : PV) (x : V) (Q : L2.St → Hp → Prop), REL c F ρ H h → REnv c F ρ env σ → Rep c F ρ p x → mg p env = some env' →
  (∀ σ', REnv c F ρ env' σ' → (∀ vs : List Nat, (∀ i ∈ is, i ∈ vs) → wipe σ' vs = wipe σ vs) → Q σ' H) → g x σ H Q
theorem wipe_at (vs : List Nat) : ∀ (σ : L2.St) (j : Nat), (wipe σ vs)[j]? = if j ∈ vs then (σ[j]?).map (fun _ => none) else σ[j]? := by
  induction vs with
  | nil => intro σ j; simp [wipe]
  | cons v vs ih =>
    intro σ j
    unfold wipe
    by_cases hv : v = j
    · subst hv
      rw [if_pos (List.mem_cons_self ..)]
      by_cases hl : v < σ.length
      · rw [List.getElem?_set_self (by rw [wipe_length]; exact hl), List.getElem?_eq_getElem hl]
        rfl
      · rw [List.getElem?_eq_none (by rw [List.length_set, wipe_length]; omega), List.getElem?_eq_none (by omega)]
        rfl
    · rw [List.getElem?_set_ne hv, ih σ j]
      have e : (j ∈ v :: vs) ↔ j ∈ vs := by
        rw [List.mem_cons]
        exact ⟨fun z => z.elim (fun y => absurd y.symm hv) id, .inr⟩
      simp only [e]
theorem wipe_set {σ : L2.St} {i : Nat} {x : Option V} {vs : List Nat} (hi : i ∈ vs) : wipe (σ.set i x) vs = wipe σ vs := by
  apply List.ext_getElem?
  intro j
  rw [wipe_at, wipe_at]
  by_cases hj : j ∈ vs
  · rw [if_pos hj, if_pos hj]
    by_cases e : i = j
    · subst e
      by_cases hl : i < σ.length
      · rw [List.getElem?_set_self hl, List.getElem?_eq_getElem hl]
        rfl
      · rw [List.getElem?_eq_none (by rw [List.length_set]; omega), List.getElem?_eq_none (by omega)]
    · rw [List.getElem?_set_ne e]
  · rw [if_neg hj, if_neg hj, List.getElem?_set_ne (fun e => hj (by rw [← e]; exact hi))]
theorem wipe_wipe (σ : L2.St) (vs : List Nat) : wipe (wipe σ vs) vs = wipe σ vs := by
  apply List.ext_getElem?
  intro j
  rw [wipe_at, wipe_at]
  by_cases hj : j ∈ vs
  · rw [if_pos hj, if_pos hj]
    cases σ[j]? <;> rfl
  · rw [if_neg hj]
def gN (i : Nat) : MG := fun p env => some (env.set i (some p))
theorem go_name (i : Nat) : GOk c [i] (gName i) (gN i) := fun F ρ h H env env' σ p x Q rel re rp e k => by
  cases e
  exact k _ (re.set rp) fun vs hv => wipe_set (hv i (List.mem_cons_self ..))
def gNs : List Nat → List PV → MEnv → Option MEnv
  | [], [], env => some env
  | i :: is, p :: ps, env => gNs is ps (env.set i (some p))
  | _, _, _ => none
def gT (is : List Nat) : MG := fun p env => match p with
  | .tup ps => gNs is ps env
  | _ => none
def tgs : List Nat → TGs
  | [] => gNil
  | i :: is => gCons (gName i) (tgs is)
theorem gns_ok : ∀ (is : List Nat) {F : Hp} {ρ : Nat → Option Addr} {H : Hp} {env env' : MEnv} {σ : L2.St} {ps : List PV} {xs : List V} {Q : L2.St → Hp → Prop}, REnv c F ρ env σ → RepL c F ρ ps xs → gNs is ps env = some env' →
    (∀ σ', REnv c F ρ env' σ' → (∀ vs : List Nat, (∀ i ∈ is, i ∈ vs) → wipe σ' vs = wipe σ vs) → Q σ' H) → xs.length = is.length ∧ tgs is xs σ H Q
  | [], F, ρ, H, env, env', σ, [], xs, Q, re, rp, e, k => by
    cases e
    cases rp
    exact ⟨rfl, rfl, k _ re fun _ _ => rfl⟩
  | [], F, ρ, H, env, env', σ, p :: ps, xs, Q, re, rp, e, k => by cases e
  | i :: is, F, ρ, H, env, env', σ, [], xs, Q, re, rp, e, k => by cases e
  | i :: is, F, ρ, H, env, env', σ, p :: ps, xs, Q, re, ⟨v, r, ex, hv, hr⟩, e, k => by
    subst ex
    obtain ⟨h1, h2⟩ := gns_ok is (re.set (i := i) hv) hr e fun σ' a b => k σ' a fun vs z => (b vs fun j hj => z j (List.mem_cons_of_mem _ hj)).trans (wipe_set (z i (List.mem_cons_self ..)))
    exact ⟨by rw [List.length_cons, List.length_cons, h1], v, r, rfl, h2⟩
theorem go_tup (is : List Nat) : GOk c is (gTup c.K is.length (tgs is)) (gT is) := fun F ρ h H env env' σ p x Q rel re rp e k => by
  cases p with
  | tup ps =>
    obtain ⟨d, vs, ex, hd, r⟩ := rp
    obtain ⟨h1, h2⟩ := gns_ok is re r e k
    exact ⟨d, vs, ex, rel.sqT hd, h1, h2⟩
  | _ => cases e

/-! ### what is walked -/
/-- J yields what ps tells, as long as F stands -/
def WalkP (c : Wd) (F : Hp) (ρ : Nat → Option Addr) (J : It) (ps : List PV) : Prop := ∃ (G : Hp → Prop) (Y : Nat → Hp → V → Hp → Prop), L2.Walk J ps.length G Y ∧
  (∀ F1 ρ1 h1 H1, Le F F1 → LeR ρ ρ1 → REL c F1 ρ1 H1 h1 → G H1) ∧
  ∀ F1 ρ1 h1 H1 i x H2, Le F F1 → LeR ρ ρ1 → REL c F1 ρ1 H1 h1 → i < ps.length → Y i H1 x H2 → ∃ F2 p, ps[i]? = some p ∧ Step c F1 ρ1 h1 H1 F2 ρ1 h1 H2 ∧ Rep c F2 ρ1 p x
abbrev MI := MEnv → MH → Res (List PV)
abbrev tI (c : Wd) (W : WX) (m : MI) : TI := tG c (fun F ρ ps J => WalkP c F ρ J ps) W m
theorem piI {tg iter : Expr} {w w' : TI} (h : PI X tg iter w) (i : ∀ σ H R, w' σ H R → w σ H R) : PI X tg iter w' := ⟨fun pins s σ H R I q => h.run pins s σ H R I (i σ H R q)⟩
theorem pi3 {tg iter : Expr} {w w1 w2 w3 : TI} (h1 : PI X tg iter w1) (h2 : PI X tg iter w2) (h3 : PI X tg iter w3) (i : ∀ σ H R, w σ H R → w1 σ H R ∨ w2 σ H R ∨ w3 σ H R) : PI X tg iter w :=
  ⟨fun pins s σ H R I q => (i σ H R q).elim (h1.run pins s σ H R I) fun q => q.elim (h2.run pins s σ H R I) (h3.run pins s σ H R I)⟩
section
variable {F : Hp} {ρ : Nat → Option Addr}
theorem walk_at {J : It} {xs : List PV} {vs : List V} {G : Hp → Prop} (w : L2.Walk J vs.length G (YAt vs)) (hG : ∀ F1 ρ1 h1 H1, Le F F1 → LeR ρ ρ1 → REL c F1 ρ1 H1 h1 → G H1) (r : RepL c F ρ xs vs) : WalkP c F ρ J xs := by
  refine ⟨G, YAt vs, by rw [r.length]; exact w, hG, fun F1 ρ1 h1 H1 i x H2 lf lr rel hi y => ?_⟩
  obtain ⟨e, q⟩ := y
  subst e
  obtain ⟨p, ep, rp⟩ := r.get' q
  exact ⟨F1, p, ep, Step.refl rel, rp.mono lf lr⟩
theorem walkP_list {a : Addr} {xs : List PV} {vs : List V} (e : F a = some (.lst vs)) (r : RepL c F ρ xs vs) : WalkP c F ρ (Itl c.K a) xs :=
  walk_at (walk_list (K := c.K) (a := a) (xs := vs)) (fun F1 ρ1 h1 H1 lf _ rel => SqL.of (rel.at (lf _ _ e) id)) r
theorem walkP_scr {a : Addr} {ns : List Int} (e : (∃ o, F a = some (.frz o (.lst (ns.map V.int)))) ∨ KLst c.K a (ns.map V.int)) : WalkP c F ρ (Itl c.K a) (ns.map PV.int) :=
  walk_at (walk_list (K := c.K) (a := a) (xs := ns.map V.int)) (fun F1 ρ1 h1 H1 lf _ rel => by
    rcases e with ⟨o, e⟩ | e
    · exact .inl (.inr ⟨o, rel.at (lf _ _ e) id⟩)
    · exact .inr e) (repL_ints ns)
theorem walkP_tup {a : Addr} {xs : List PV} {vs : List V} (e : F a = some (.tup vs) ∨ KTup c.K a vs) (r : RepL c F ρ xs vs) : WalkP c F ρ (Itt c.K a) xs :=
  walk_at (walk_tup (K := c.K) (a := a) (xs := vs)) (fun F1 ρ1 h1 H1 lf _ rel => rel.sqT (e.imp (lf _ _) id)) r
def rangeP (lo : Int) (n : Nat) : List PV := (List.range n).map fun k => .int (lo + (k : Nat))
theorem walkP_range {lo : Int} {n : Nat} : WalkP c F ρ (Itr lo n) (rangeP lo n) := by
  have hl : (rangeP lo n).length = n := by simp [rangeP]
  refine ⟨_, _, by rw [hl]; exact walk_range, fun _ _ _ _ _ _ _ => trivial, fun F1 ρ1 h1 H1 i x H2 _ _ rel hi y => ?_⟩
  obtain ⟨e, q⟩ := y
  subst e
  subst q
  rw [hl] at hi
  refine ⟨F1, .int (lo + i), ?_, Step.refl rel, rfl⟩
  simp [rangeP, hi]
def signsP (z : Str) : List PV := z.cps.toList.map fun k => .str ⟨#[k]⟩
theorem walkP_str {z : Str} : WalkP c F ρ (Its z) (signsP z) := by
  have hl : (signsP z).length = z.cps.size := by simp [signsP]
  refine ⟨_, _, by rw [hl]; exact walk_str, fun _ _ _ _ _ _ _ => trivial, fun F1 ρ1 h1 H1 i x H2 _ _ rel hi y => ?_⟩
  obtain ⟨e, k, q, ev⟩ := y
  subst e
  subst ev
  refine ⟨F1, .str ⟨#[k]⟩, ?_, Step.refl rel, rfl⟩
  unfold signsP
  rw [List.getElem?_map, Array.getElem?_toList, q]
  rfl
def enumP (xs : List PV) : List PV := xs.zipIdx.map fun y => .tup [.int (y.2 : Nat), y.1]
theorem walkP_enum {a : Addr} {xs : List PV} {vs : List V} (e : F a = some (.lst vs)) (r : RepL c F ρ xs vs) : WalkP c F ρ (Ite c.K a) (enumP xs) := by
  have hl : (enumP xs).length = vs.length := by simp [enumP, r.length]
  refine ⟨_, _, by rw [hl]; exact walk_enum (K := c.K) (a := a) (xs := vs), fun F1 ρ1 h1 H1 lf _ rel => SqL.of (rel.at (lf _ _ e) id), fun F1 ρ1 h1 H1 i x H2 lf lr rel hi y => ?_⟩
  obtain ⟨T, x1, x2, ex, hT, eH, e1, e2⟩ := y
  subst ex
  subst eH
  cases e1
  obtain ⟨p, ep, rp⟩ := r.get' e2
  have st : Step c F1 ρ1 h1 H1 (upd F1 T (.tup [.int (i : Nat), x2])) ρ1 h1 (upd H1 T (.tup [.int (i : Nat), x2])) := Step.newF rel hT
  refine ⟨_, .tup [.int (i : Nat), p], ?_, st, T, _, rfl, .inl upd_same, .int (i : Nat), [x2], rfl, rfl, x2, [], rfl, (rp.mono lf lr).mono st.f st.r, rfl⟩
  simp [enumP, ep]
end
/-- the items of what is walked: a list or tuple that is not changed, a text -/
def iterP : PV → Option (List PV)
  | .lst xs => some xs
  | .tup xs => some xs
  | .scr ns => some (ns.map PV.int)
  | .str z => some (signsP z)
  | _ => none
def kIter (p : PV) (h : MH) : Res (List PV) := match iterP p with
  | some xs => .ok xs h
  | none => .stuck
def mIter (m : ME) : MI := fun env h => (m env h).bind kIter
theorem im_any {tg l : Expr} {m : ME} {iS : TI} (hl : PI X tg l (iList X.K (tE ⟨X.K, cl, sx⟩ W m))) (ht : PI X tg l (iTup X.K (tE ⟨X.K, cl, sx⟩ W m))) (hs : PI X tg l iS)
    (es : iS = fun σ H R => tE ⟨X.K, cl, sx⟩ W m σ H fun v H1 => ∃ x, v = .str x ∧ R (Its x) H1) : PI X tg l (tI ⟨X.K, cl, sx⟩ W (mIter m)) := pi3 hl ht hs fun σ H R t => by
  subst es
  have t0 := t
  obtain ⟨F, ρ, env, h, rel, re, post⟩ := t
  have key : ∀ T : V → Hp → Prop, (∀ F ρ env h a x H1, REL ⟨X.K, cl, sx⟩ F ρ H1 h → REnv ⟨X.K, cl, sx⟩ F ρ env σ → Rep ⟨X.K, cl, sx⟩ F ρ a x → PostG ⟨X.K, cl, sx⟩ (fun F ρ ps J => WalkP ⟨X.K, cl, sx⟩ F ρ J ps) W F ρ h H1 σ R (kIter a h) → (∃ p h2, m env h = .ok p h2) ∨ True → T x H1) → tE ⟨X.K, cl, sx⟩ W m σ H T := fun T k =>
    tG.bind (R := Rep ⟨X.K, cl, sx⟩) (k := fun p _ h1 => kIter p h1) t0 fun F ρ env h a x H1 a1 a2 a3 a4 => k F ρ env h a x H1 a1 a2 a3 a4 (.inr trivial)
  unfold mIter at post
  cases em : m env h with
  | stuck => rw [em] at post; exact post.elim
  | exc n fs h1 => rw [em] at post; exact .inl ⟨F, ρ, env, h, rel, re, by rw [em]; exact post⟩
  | ok p h1 =>
    rw [em] at post
    dsimp only [Res.bind, kIter] at post
    cases gp : iterP p with
    | none => rw [gp] at post; exact post.elim
    | some xs =>
      rw [gp] at post
      have fin : ∀ T : V → Hp → Prop, (∀ F1 ρ1 H1 x, Step ⟨X.K, cl, sx⟩ F ρ h H F1 ρ1 h1 H1 → Rep ⟨X.K, cl, sx⟩ F1 ρ1 p x → T x H1) → tE ⟨X.K, cl, sx⟩ W m σ H T := fun T k => ⟨F, ρ, env, h, rel, re, by rw [em]; exact k⟩
      cases p with
      | lst ys =>
        cases gp
        refine .inl (fin _ fun F1 ρ1 H1 x s r => ?_)
        obtain ⟨a, vs, ex, ha, rr⟩ := r
        exact ⟨a, ex, ⟨vs, SqL.of (s.rel.at ha id)⟩, post F1 ρ1 H1 _ s (walkP_list (c := ⟨X.K, cl, sx⟩) ha rr)⟩
      | scr ns =>
        cases gp
        refine .inl (fin _ fun F1 ρ1 H1 x s r => ?_)
        obtain ⟨a, vs, ex, hv, _⟩ := asL_ok s.rel r (show asL (.scr ns) h1 = some (ns.map PV.int) from rfl)
        obtain ⟨a', ex', ha'⟩ := r
        subst ex
        cases ex'
        exact ⟨a, rfl, ⟨vs, hv⟩, post F1 ρ1 H1 _ s (walkP_scr (c := ⟨X.K, cl, sx⟩) ha')⟩
      | tup ys =>
        cases gp
        refine .inr (.inl (fin _ fun F1 ρ1 H1 x s r => ?_))
        obtain ⟨a, vs, ex, ha, rr⟩ := r
        exact ⟨a, ex, ⟨vs, s.rel.sqT ha⟩, post F1 ρ1 H1 _ s (walkP_tup (c := ⟨X.K, cl, sx⟩) ha rr)⟩
      | str z =>
        cases gp
        refine .inr (.inr (fin _ fun F1 ρ1 H1 x s r => ?_))
        cases r
        exact ⟨z, rfl, post F1 ρ1 H1 _ s walkP_str⟩
      | _ => cases gp
def kRng1 (ps : List PV) (h : MH) : Res (List PV) := match ps with
  | [.int j] => if -(2 ^ 62) ≤ j ∧ j < 2 ^ 62 then .ok (rangeP 0 j.toNat) h else .stuck
  | _ => .stuck
def mRng1 (m : MA) : MI := fun env h => (m env h).bind kRng1
theorem im_range1 {tg l : Expr} {m : MA} (hl : PI X tg l (iRng1 (tA c W m))) : PI X tg l (tI c W (mRng1 m)) := piI hl fun σ H R t =>
  tG.bind (R := RepL c) (k := fun p _ h1 => kRng1 p h1) t fun F ρ env h p x H1 rel re rp post => by
    unfold kRng1 at post
    split at post
    · rename_i j
      split at post
      · rename_i hj
        obtain ⟨v, r, ex, rv, rr⟩ := rp
        cases rv
        cases rr
        subst ex
        exact ⟨j, rfl, hj.1, hj.2, post F ρ H1 _ (Step.refl rel) walkP_range⟩
      · exact post.elim
    · exact post.elim
def kRng2 (ps : List PV) (h : MH) : Res (List PV) := match ps with
  | [.int i, .int j] => if -(2 ^ 62) ≤ i ∧ i < 2 ^ 62 ∧ -(2 ^ 62) ≤ j ∧ j < 2 ^ 62 then .ok (rangeP i (j - i).toNat) h else .stuck
  | _ => .stuck
def mRng2 (m : MA) : MI := fun env h => (m env h).bind kRng2
theorem im_range2 {tg l : Expr} {m : MA} (hl : PI X tg l (iRng2 (tA c W m))) : PI X tg l (tI c W (mRng2 m)) := piI hl fun σ H R t =>
  tG.bind (R := RepL c) (k := fun p _ h1 => kRng2 p h1) t fun F ρ env h p x H1 rel re rp post => by
    unfold kRng2 at post
    split at post
    · rename_i i j
      split at post
      · rename_i hj
        obtain ⟨v, r, ex, rv, w, r2, ex2, rw2, rr⟩ := rp
        cases rv
        cases rw2
        cases rr
        subst ex2
        subst ex
        exact ⟨i, j, rfl, hj, post F ρ H1 _ (Step.refl rel) walkP_range⟩
      · exact post.elim
    · exact post.elim
def kEnum (ps : List PV) (h : MH) : Res (List PV) := match ps with
  | [.lst xs] => .ok (enumP xs) h
  | _ => .stuck
def mEnum (m : MA) : MI := fun env h => (m env h).bind kEnum
theorem im_enum {tg l : Expr} {m : MA} (hl : PI X tg l (iEnum X.K (tA ⟨X.K, cl, sx⟩ W m))) : PI X tg l (tI ⟨X.K, cl, sx⟩ W (mEnum m)) := piI hl fun σ H R t =>
  tG.bind (R := RepL ⟨X.K, cl, sx⟩) (k := fun p _ h1 => kEnum p h1) t fun F ρ env h p x H1 rel re rp post => by
    unfold kEnum at post
    split at post
    · rename_i xs
      obtain ⟨v, r, ex, ⟨a, vs, ev, ha, rr⟩, rn⟩ := rp
      cases rn
      subst ev
      subst ex
      exact ⟨a, vs, rfl, SqL.of (rel.at ha id), post F ρ H1 _ (Step.refl rel) (walkP_enum (c := ⟨X.K, cl, sx⟩) ha rr)⟩
    · exact post.elim

/-! ### for -/
def mForL (g : MG) (body : MS) : List PV → MS
  | [], env, h => .nx env h
  | p :: ps, env, h => match g p env with
    | none => .stuck
    | some env1 => (match body env1 h with
      | .nx env' h' => mForL g body ps env' h'
      | .ct env' h' => mForL g body ps env' h'
      | .bk env' h' => .nx env' h'
      | r => r)
def mFor (mi : MI) (g : MG) (body : MS) : MS := fun env h => (mi env h).then env fun ps h1 => mForL g body ps env h1
theorem sm_for {tg iter : Expr} {body : List Stmt} {mi : MI} {g : TG} {mg : MG} {is : List Nat} {mb : MS} (hp : PassesOwn (model X.prog X.w) X.A X.env X.xe) (hc : X.calm = true) (hi : PI X tg iter (tI c W mi)) (hg : PG X tg g) (ok : GOk c is g mg) (hb : PSs X body (tS c W mb))
    (h : PS X st (tFor (tI c W mi) g (tS c W mb))) : PS X st (tS c W (mFor mi mg mb)) := psI h fun D σ H t =>
  tS.bind (R := fun F ρ ps J => WalkP c F ρ J ps) (k := fun ps env h1 => mForL mg mb ps env h1) t fun F ρ env h ps J H1 rel re wk post => by
    obtain ⟨G, Y, w, hG, hY⟩ := wk
    refine for_it w (fun i σ' H' => ∃ F1 ρ1 env1 h1, Le F F1 ∧ LeR ρ ρ1 ∧ REL c F1 ρ1 H' h1 ∧ REnv c F1 ρ1 env1 σ' ∧ PostS c W F1 ρ1 h1 H' D (mForL mg mb (ps.drop i) env1 h1))
      ⟨F, ρ, env, h, Le.refl, LeR.refl, rel, re, post⟩ (fun i σ' H' _ ⟨F1, ρ1, env1, h1, lf, lr, rel1, _⟩ => hG F1 ρ1 h1 H' lf lr rel1) ?_ ?_
    · rintro i x σ' H' H'' hi ⟨F1, ρ1, env1, h1, lf, lr, rel1, re1, post1⟩ y
      obtain ⟨F2, p, ep, s2, rp⟩ := hY F1 ρ1 h1 H' i x H'' lf lr rel1 hi y
      have ed : ps.drop i = p :: ps.drop (i + 1) := by
        obtain ⟨hlt, eq⟩ := List.getElem?_eq_some_iff.mp ep
        rw [← eq]
        exact List.drop_eq_getElem_cons hlt
      rw [ed] at post1
      unfold mForL at post1
      cases eg : mg p env1 with
      | none => rw [eg] at post1; exact post1.elim
      | some env2 =>
        rw [eg] at post1
        dsimp only at post1
        refine ok F2 ρ1 h1 H'' env1 env2 σ' p x _ s2.rel (re1.mono s2.f s2.r) rp eg fun σ2 re2 _ => ?_
        refine ⟨F2, ρ1, env2, h1, s2.rel, re2, ?_⟩
        cases em : mb env2 h1 with
        | nx env' h' =>
          rw [em] at post1
          exact fun F' ρ' H3 σ3 s3 re3 => ⟨F', ρ', env', h', (lf.trans s2.f).trans s3.f, (lr.trans s2.r).trans s3.r, s3.rel, re3, PostS.shift s3 (PostS.shift s2 post1)⟩
        | ct env' h' =>
          rw [em] at post1
          exact fun F' ρ' H3 σ3 s3 re3 => ⟨F', ρ', env', h', (lf.trans s2.f).trans s3.f, (lr.trans s2.r).trans s3.r, s3.rel, re3, PostS.shift s3 (PostS.shift s2 post1)⟩
        | bk env' h' =>
          rw [em] at post1
          exact fun F' ρ' H3 σ3 s3 re3 => post1 F' ρ' H3 σ3 (s2.trans s3) re3
        | rt v h' => rw [em] at post1; exact PostS.shift (r := .rt v h') s2 post1
        | exc n fs v h' => rw [em] at post1; exact PostS.shift (r := .exc n fs v h') s2 post1
        | stuck => rw [em] at post1; exact post1
    · rintro σ' H' ⟨F1, ρ1, env1, h1, lf, lr, rel1, re1, post1⟩
      rw [List.drop_length] at post1
      exact post1 F1 ρ1 H' σ' (Step.refl rel1) re1

/-! ### list comprehensions -/
def noX {α : Type} : Res α → Res α
  | .exc _ _ _ => .stuck
  | r => r
abbrev W0 : WX := fun _ _ _ _ => False
theorem post_noX {α β : Type} {R : Hp → (Nat → Option Addr) → α → β → Prop} {S : Hp → (Nat → Option Addr) → α → β → Prop} {F : Hp} {ρ : Nat → Option Addr} {h : MH} {H : Hp} {σ : L2.St} {Q : β → Hp → Prop} {r : Res α} {a : α} {h1 : MH} (e : noX r = .ok a h1) : r = .ok a h1 := by
  cases r with
  | ok _ _ => exact e
  | exc _ _ _ => cases e
  | stuck => cases e
def wipeP (env : MEnv) : List Nat → MEnv
  | [] => env
  | v :: vs => (wipeP env vs).set v none
theorem REnv.setN {F : Hp} {ρ : Nat → Option Addr} {env : MEnv} {σ : L2.St} {i : Nat} (r : REnv c F ρ env σ) : REnv c F ρ (env.set i none) (σ.set i none) := by
  refine ⟨by simp [r.1], fun j q e => ?_⟩
  by_cases hj : i = j
  · subst hj
    by_cases hl : i < env.length
    · rw [List.getElem?_set_self hl] at e
      cases e
    · rw [List.getElem?_eq_none (by simp; omega)] at e
      cases e
  · rw [List.getElem?_set_ne hj] at e
    obtain ⟨y, a, b⟩ := r.2 j q e
    exact ⟨y, by rw [List.getElem?_set_ne hj]; exact a, b⟩
theorem REnv.wipe {F : Hp} {ρ : Nat → Option Addr} {env : MEnv} {σ : L2.St} (r : REnv c F ρ env σ) : ∀ vs : List Nat, REnv c F ρ (wipeP env vs) (L2.wipe σ vs)
  | [] => r
  | v :: vs => (REnv.wipe r vs).setN
def mLcL (g : MG) (t : MT) (el : ME) (env : MEnv) : List PV → MH → Res (List PV)
  | [], h => .ok [] h
  | p :: ps, h => match g p env with
    | none => .stuck
    | some env1 => (noX (t env1 h)).bind fun k h1 => if k = true then (noX (el env1 h1)).bind fun y h2 => (mLcL g t el env ps h2).bind fun ys h3 => .ok (y :: ys) h3 else mLcL g t el env ps h1
def mLcI (own : List Nat) (mi : MI) (g : MG) (t : MT) (el : ME) : MI := fun env h => (mi env h).bind fun ps h1 => if ps.length ≤ sizeLine then mLcL g t el (wipeP env own) ps h1 else .stuck
def mLc (own : List Nat) (mi : MI) (g : MG) (t : MT) (el : ME) : ME := fun env h => (mi env h).bind fun ps h1 => if ps.length ≤ sizeLine then (mLcL g t el (wipeP env own) ps h1).bind fun ys h2 => .ok (.lst ys) h2 else .stuck
def mYes : MT := fun _ h => .ok true h
theorem Step.other {F F1 : Hp} {ρ ρ1 : Nat → Option Addr} {h h1 : MH} {H H1 : Hp} {p : Addr} {o : HO} (s : Step c F ρ h H F1 ρ1 h1 H1) (hp : H p = none) (hF : F1 p = none) (hR : ∀ i, ρ1 i ≠ some p) : Step c F ρ h H F1 ρ1 h1 (upd H1 p o) :=
  ⟨s.f, s.r, s.rel.other hF hR, fun b u e n q => by rw [upd_ne (ne_of_none e hp)]; exact s.keep b u e n q, fun b e => by
    unfold upd
    split
    · exact fun z => nomatch z
    · exact s.there b e, s.news, s.fnew, s.rnew⟩
theorem Step.addF {F F1 : Hp} {ρ ρ1 : Nat → Option Addr} {h h1 : MH} {H H1 : Hp} {p : Addr} {o : HO} (s : Step c F ρ h H F1 ρ1 h1 H1) (hp : H p = none) (hF : F1 p = none) (hR : ∀ i k, h1.get i = some k → ρ1 i ≠ some p) (ho : H1 p = some o) : Step c F ρ h H (upd F1 p o) ρ1 h1 H1 := by
  refine ⟨s.f.trans (Le.upd hF), s.r, ⟨fun a u e => ?_, fun i k e => ?_, s.rel.inj, s.rel.dom⟩, s.keep, s.there, s.news, fun a u e => ?_, s.rnew⟩
  · by_cases ha : a = p
    · subst ha; rw [upd_same] at e; cases e; exact .inl ho
    · rw [upd_ne ha] at e; exact s.rel.sub a u e
  · obtain ⟨a, q, n, z⟩ := s.rel.cell i k e
    have ha : a ≠ p := fun y => hR i k e (by rw [q, y])
    exact ⟨a, q, by rw [upd_ne ha]; exact n, z.mono (Le.upd hF) LeR.refl fun _ w => w⟩
  · by_cases ha : a = p
    · subst ha; exact .inr (.inl hp)
    · rw [upd_ne ha] at e; exact s.fnew a u e
/-- what nobody knows stays unknown, and stays -/
theorem Step.unknown {F F1 : Hp} {ρ ρ1 : Nat → Option Addr} {h h1 : MH} {H H1 : Hp} {p : Addr} {o : HO} (s : Step c F ρ h H F1 ρ1 h1 H1) (ho : H p = some o) (nt : noTbl o) (hF : F p = none) (hR : ∀ i, ρ i ≠ some p) : H1 p = some o ∧ F1 p = none ∧ ∀ i, ρ1 i ≠ some p := by
  refine ⟨s.keep p o ho nt fun i _ _ => hR i, ?_, fun i z => ?_⟩
  · cases q : F1 p with
    | none => rfl
    | some u =>
      rcases s.fnew p u q with w | w | ⟨i, k, _, w⟩
      · rw [hF] at w; cases w
      · rw [ho] at w; cases w
      · exact absurd w (hR i)
  · rcases s.rnew i p z with w | w
    · exact hR i w
    · rw [ho] at w; cases w
theorem snd_lc {mi : MI} {g : TG} {mg : MG} {is vs : List Nat} {t : MT} {el : ME} (ok : GOk c is g mg) (sub : ∀ i ∈ is, i ∈ vs) : Snd c W (tLc (tI c W mi) g (tT c W0 t) (tE c W0 el) vs) (mLc vs mi mg t el) := fun σ H Q tt =>
  tG.bind (R := fun F ρ ps J => WalkP c F ρ J ps) (k := fun ps env h1 => if ps.length ≤ sizeLine then (mLcL mg t el (wipeP env vs) ps h1).bind fun ys h2 => Res.ok (PV.lst ys) h2 else Res.stuck) tt fun F ρ env h ps J H1 rel re wk post => by
    intro D hD
    by_cases hl : ps.length ≤ sizeLine
    · rw [if_pos hl] at post
      obtain ⟨G, Y, w, hG, hY⟩ := wk
      have s0 : Step c F ρ h H1 F ρ h (upd H1 D (.lst [])) := Step.newX rel hD
      have hF0 : F D = none := rel.noF hD
      have hR0 : ∀ i, ρ i ≠ some D := fun i z => (rel.dom i D z).2 hD
      refine lc_it w (fun i H' => ∃ F1 ρ1 h1 acc ws, Step c F ρ h H1 F1 ρ1 h1 H' ∧ H' D = some (.lst ws) ∧ RepL c F1 ρ1 acc ws ∧ acc.length ≤ i ∧ F1 D = none ∧ (∀ j, ρ1 j ≠ some D) ∧
          PostG c (Rep c) W F ρ h H1 σ Q ((mLcL mg t el (wipeP env vs) (ps.drop i) h1).bind fun ys h2 => .ok (.lst (acc ++ ys)) h2))
        ⟨F, ρ, h, [], [], s0, upd_same, rfl, Nat.le_refl _, hF0, hR0, post⟩ (fun i H' _ ⟨F1, ρ1, h1, _, _, s1, _⟩ => hG F1 ρ1 h1 H' s1.f s1.r s1.rel) ?_ ?_
      · rintro i x H' H'' hi ⟨F1, ρ1, h1, acc, ws, s1, hDw, ra, la, hF1, hR1, post1⟩ y
        obtain ⟨F2, p, ep, s2, rp⟩ := hY F1 ρ1 h1 H' i x H'' s1.f s1.r s1.rel hi y
        obtain ⟨hDw2, hF2, hR2⟩ := s2.unknown hDw trivial hF1 hR1
        have ed : ps.drop i = p :: ps.drop (i + 1) := by
          obtain ⟨hlt, eq⟩ := List.getElem?_eq_some_iff.mp ep
          rw [← eq]
          exact List.drop_eq_getElem_cons hlt
        rw [ed] at post1
        unfold mLcL at post1
        have s12 := s1.trans s2
        cases eg : mg p (wipeP env vs) with
        | none => rw [eg] at post1; exact post1.elim
        | some env2 =>
          rw [eg] at post1
          dsimp only at post1
          refine ok F2 ρ1 h1 H'' (wipeP env vs) env2 (wipe σ vs) p x _ s2.rel (((re.mono s12.f s12.r).wipe vs)) rp eg fun σ2 re2 hw => ?_
          refine ⟨(hw vs sub).trans (wipe_wipe σ vs), F2, ρ1, env2, h1, s2.rel, re2, ?_⟩
          cases et : t env2 h1 with
          | stuck => rw [et] at post1; exact post1
          | exc n fs h2 => rw [et] at post1; exact post1.elim
          | ok k h2 =>
            rw [et] at post1
            dsimp only [noX, Res.bind] at post1
            intro F3 ρ3 H3 b s3 eb
            subst eb
            obtain ⟨hDw3, hF3, hR3⟩ := s3.unknown hDw2 trivial hF2 hR2
            by_cases hk : b = true
            · rw [if_pos hk] at post1 ⊢
              refine ⟨F3, ρ3, env2, h2, s3.rel, re2.mono s3.f s3.r, ?_⟩
              cases ee : el env2 h2 with
              | stuck => rw [ee] at post1; exact post1
              | exc n fs h3 => rw [ee] at post1; exact post1.elim
              | ok yv h3 =>
                rw [ee] at post1
                dsimp only [noX, Res.bind] at post1
                intro F4 ρ4 H4 yy s4 ry
                obtain ⟨hDw4, hF4, hR4⟩ := s4.unknown hDw3 trivial hF3 hR3
                have s14 := (s12.trans s3).trans s4
                have ra4 : RepL c F4 ρ4 acc ws := ((ra.mono s2.f s2.r).mono s3.f s3.r).mono s4.f s4.r
                refine ⟨ws, hDw4, by rw [← ra.length]; exact Nat.lt_of_le_of_lt la (Nat.lt_of_lt_of_le hi hl), F4, ρ4, h3, acc ++ [yv], ws ++ [yy], s14.other hD hF4 hR4, upd_same, ra4.append ⟨yy, [], rfl, ry, rfl⟩, by rw [List.length_append]; exact Nat.succ_le_succ la, hF4, hR4, ?_⟩
                have eq : ((mLcL mg t el (wipeP env vs) (ps.drop (i + 1)) h3).bind fun ys h2 => Res.ok (PV.lst ((acc ++ [yv]) ++ ys)) h2) = (((mLcL mg t el (wipeP env vs) (ps.drop (i + 1)) h3).bind fun ys h3 => Res.ok (yv :: ys) h3).bind fun ys h2 => Res.ok (PV.lst (acc ++ ys)) h2) := by
                  cases mLcL mg t el (wipeP env vs) (ps.drop (i + 1)) h3 with
                  | ok ys h4 => simp [Res.bind]
                  | exc _ _ _ => rfl
                  | stuck => rfl
                rw [eq]
                exact post1
            · rw [if_neg hk] at post1 ⊢
              exact ⟨F3, ρ3, h2, acc, ws, s12.trans s3, hDw3, (ra.mono s2.f s2.r).mono s3.f s3.r, Nat.le_succ_of_le la, hF3, hR3, post1⟩
      · rintro H' ⟨F1, ρ1, h1, acc, ws, s1, hDw, ra, la, hF1, hR1, post1⟩
        rw [List.drop_length] at post1
        have post2 : PostG c (Rep c) W F ρ h H1 σ Q (.ok (.lst acc) h1) := by
          have e : acc ++ ([] : List PV) = acc := List.append_nil acc
          rw [← e]
          exact post1
        have s9 := s1.addF hD hF1 (fun i _ _ => hR1 i) hDw
        exact post2 _ ρ1 H' (.ref D) s9 ⟨D, ws, rfl, upd_same, ra.mono (Le.upd hF1) LeR.refl⟩
    · rw [if_neg hl] at post; exact post.elim
theorem ptsI {ifs : List Expr} {t t' : TT} (h : PTs X ifs t) (i : ∀ σ H Q, t' σ H Q → t σ H Q) : PTs X ifs t' := ⟨fun pins s σ H Q I q => h.run pins s σ H Q I (i σ H Q q)⟩
theorem tm_yes : PTs X [] (tT c W mYes) := ptsI pts_nil fun σ H Q ⟨F, ρ, env, h, rel, re, p⟩ => p F ρ H true (Step.refl rel) rfl
theorem tm_if1 {q : Expr} {t : MT} (h : PT X q (tT c W t)) : PTs X [q] (tT c W t) := pts_one h
theorem em_lc {mi : MI} {g : TG} {mg : MG} {is vs : List Nat} {t : MT} {el : ME} (ok : GOk c is g mg) (sub : ∀ i ∈ is, i ∈ vs) (h : PE X e (tLc (tI c W mi) g (tT c W0 t) (tE c W0 el) vs)) : PE X e (tE c W (mLc vs mi mg t el)) := peI h (snd_lc ok sub)
theorem sm_setLc {i : Nat} {mi : MI} {g : TG} {mg : MG} {is vs : List Nat} {t : MT} {el : ME} (ok : GOk c is g mg) (sub : ∀ i ∈ is, i ∈ vs) (h : PS X st (tAsg (tLc (tI c W mi) g (tT c W0 t) (tE c W0 el) vs) (gName i))) : PS X st (tS c W (mSet i (mLc vs mi mg t el))) :=
  psI h fun D σ H t => snd_lc ok sub σ H _ (snd_set D σ H t)
end
end Mi

/-! Mi5: defs by their mirrors, calls, own classes made. A def is told under the guard that no repr is going on (A.guards = some []). -/
namespace Mi
open PySem PySem.Spec PyProof.Rows L2

/-- what a def promises, by its mirror -/
def spM (c : Wd) (run : List PV → MH → Res PV) : Sp := fun vs H Q E => ∃ F ρ h ps, REL c F ρ H h ∧ RepL c F ρ ps vs ∧ PostG c (Rep c) (fun cls d _ H' => E cls d H') F ρ h H ([] : L2.St) Q (run ps h)
theorem post_σ {α β : Type} {c : Wd} {R : Hp → (Nat → Option Addr) → α → β → Prop} {W W' : WX} {F : Hp} {ρ : Nat → Option Addr} {h : MH} {H : Hp} {σ σ' : L2.St} {Q : β → Hp → Prop} {r : Res α} (hw : ∀ cls d H', W cls d σ H' → W' cls d σ' H') (p : PostG c R W F ρ h H σ Q r) : PostG c R W' F ρ h H σ' Q r := by
  cases r with
  | ok v h' => exact p
  | exc n fs h' => exact fun F' ρ' H' d ws s z q u => hw _ _ _ (p F' ρ' H' d ws s z q u)
  | stuck => exact p
/-- how a body's end is a call's result; cells of the call's own are let go (gc) or kept -/
def endR (keep : Bool) (n : Nat) : SRes → Res PV
  | .rt v h => .ok v (if keep then h else ⟨h.nx, h.cs.filter fun q => q.1 < n⟩)
  | .nx _ h => .ok .non (if keep then h else ⟨h.nx, h.cs.filter fun q => q.1 < n⟩)
  | .exc m fs _ h => .exc m fs (if keep then h else ⟨h.nx, h.cs.filter fun q => q.1 < n⟩)
  | _ => .stuck
def runB (keep : Bool) (np slots : Nat) (m : MS) : List PV → MH → Res PV := fun ps h =>
  if ps.length = np then endR keep h.nx (m (ps.map some ++ List.replicate (slots - ps.length) none) h) else .stuck
theorem look_filter {f : Nat × Cell → Bool} (hf : ∀ i k k', f (i, k) = f (i, k')) : ∀ {cs : Cs} {i : Nat} {k : Cell}, look (cs.filter f) i = some k → look cs i = some k
  | [], i, k, e => by cases e
  | (j, q) :: r, i, k, e => by
    rw [List.filter_cons] at e
    by_cases hc : f (j, q) = true
    · rw [if_pos hc] at e
      simp only [look] at e ⊢
      by_cases hi : i = j
      · rw [if_pos hi] at e ⊢; exact e
      · rw [if_neg hi] at e ⊢; exact look_filter hf e
    · rw [if_neg hc] at e
      have e' := look_filter hf e
      simp only [look]
      by_cases hi : i = j
      · subst hi
        exfalso
        have key : ∀ {l : Cs} {k : Cell}, look (l.filter f) i = some k → f (i, k) = true := by
          intro l
          induction l with
          | nil => intro k e; cases e
          | cons p l ih =>
            intro k e
            obtain ⟨a, b⟩ := p
            rw [List.filter_cons] at e
            by_cases hd : f (a, b) = true
            · rw [if_pos hd] at e
              simp only [look] at e
              by_cases hia : i = a
              · rw [if_pos hia] at e
                cases e
                rw [hia]; exact hd
              · rw [if_neg hia] at e; exact ih e
            · rw [if_neg hd] at e; exact ih e
        exact hc ((hf i q k).trans (key e))
      · rw [if_neg hi]; exact e'
section
variable {c : Wd} {F F' : Hp} {ρ ρ' : Nat → Option Addr} {h h' : MH} {H H' : Hp}
theorem gc_step {keep : Bool} {n : Nat} (r : REL c F ρ H h) : Step c F ρ h H F ρ (if keep then h else ⟨h.nx, h.cs.filter fun q => q.1 < n⟩) H := by
  cases keep with
  | true => exact Step.refl r
  | false => exact Step.drop r (Nat.le_refl _) fun i k e => look_filter (fun _ _ _ => rfl) e
theorem renv_start {ps : List PV} {vs : List V} {N : List Str} (r : RepL c F ρ ps vs) : REnv c F ρ (ps.map some ++ List.replicate (N.length - ps.length) none) (L2.start N vs) := by
  have hl := r.length
  refine ⟨?_, fun i p e => ?_⟩
  · unfold L2.start
    simp [hl]
  · by_cases hi : i < ps.length
    · rw [List.getElem?_append_left (by simpa using hi), List.getElem?_map] at e
      cases q : ps[i]? with
      | none => rw [q] at e; cases e
      | some p' =>
        rw [q] at e
        cases e
        obtain ⟨v, ev, rv⟩ := r.get q
        refine ⟨v, ?_, rv⟩
        unfold L2.start
        rw [List.getElem?_append_left (by simp; omega), List.getElem?_map, ev]
        rfl
    · rw [List.getElem?_append_right (by simpa using hi), List.getElem?_replicate] at e
      split at e <;> cases e
/-- a body's reading, from the def's promise -/
theorem body_of {keep : Bool} {m : MS} {N : List Str} {np : Nat} {vs : List V} {Q : VK} {E : XK} (sp : spM c (runB keep np N.length m) vs H Q E) :
    tS c (fun cls d _ H' => E cls d H') m { nx := fun _ H' => Q .non H', rt := Q } (L2.start N vs) H := by
  obtain ⟨F, ρ, h, ps, rel, rp, post⟩ := sp
  unfold runB at post
  by_cases hl : ps.length = np
  · rw [if_pos hl] at post
    refine ⟨F, ρ, _, h, rel, renv_start rp, ?_⟩
    cases em : m (ps.map some ++ List.replicate (N.length - ps.length) none) h with
    | rt v h' =>
      rw [em] at post
      exact fun F' ρ' H' x s r => post F' ρ' H' x (s.trans (gc_step s.rel)) r
    | nx env h' =>
      rw [em] at post
      exact fun F' ρ' H' σ' s r => post F' ρ' H' .non (s.trans (gc_step s.rel)) rfl
    | exc n fs env h' =>
      rw [em] at post
      exact fun F' ρ' H' σ' d ws s _ z q r => post F' ρ' H' d ws (s.trans (gc_step s.rel)) z q r
    | bk env h' => rw [em] at post; exact post.elim
    | ct env h' => rw [em] at post; exact post.elim
    | stuck => rw [em] at post; exact post.elim
  · rw [if_neg hl] at post; exact post.elim
theorem spM.len {keep : Bool} {m : MS} {slots np : Nat} {vs : List V} {Q : VK} {E : XK} (sp : spM c (runB keep np slots m) vs H Q E) : vs.length = np := by
  obtain ⟨F, ρ, h, ps, rel, rp, post⟩ := sp
  unfold runB at post
  by_cases hl : ps.length = np
  · rw [← rp.length]; exact hl
  · rw [if_neg hl] at post; exact post.elim
end

/-- a def that keeps sp wherever no repr is going on -/
structure FG (P : Program) (w : World) (K : PySem.W.Frag) (mg : Str → Option Value) (base : Heap) (k : Nat) (f : Addr) (fd : FuncData) (ps : List Str) (sp : Sp) : Prop where
  len : ∀ vs H Q E, sp vs H Q E → vs.length = ps.length
  go : ∀ (A : Around) (l : List PySem.Env) (s : Shared) (H : Hp) (as : Args) (us : List Value) (vs : List V) (Q : VK) (E : XK), A.guards = some [] → Room k A → Env0 P w K mg base A l s H → BindsTo s fd as (ps.zip us) → Vals vs us → sp vs H Q E →
    codeAny (model P w) A (.call (.ref f) as) (CR (L2.CX P w) l P w H s Q E) s
section
variable {P : Program} {w : World} {K : PySem.W.Frag} {mg : Str → Option Value} {base : Heap} {x qual : Str} {params : Arguments} {body : List Stmt} {scope : Scope} {dvs : List V} {kws : List (Str × V)} {f : Addr} {fd : FuncData}
theorem FG.mono {j k : Nat} {ps : List Str} {sp : Sp} (G : FG P w K mg base j f fd ps sp) (hjk : j ≤ k) : FG P w K mg base k f fd ps sp :=
  ⟨G.len, fun A l s H as us vs Q E g r => G.go A l s H as us vs Q E g (r.mono hjk)⟩
theorem FG.of {N ps : List Str} {k : Nat} {sp : Sp} (D : FunD K x qual params body scope dvs kws f fd) (S : FnScope N ps scope) (len : ∀ vs H Q E, sp vs H Q E → vs.length = ps.length)
    (hb : ∀ (cdv : Value) (A : Around) (l : List PySem.Env) (s : Shared) (H : Hp) (vs : List V) (Q : VK) (E : XK), A.guards = some [] → Room k (A.deeper (envOfC qual scope s.heap.objs.size f cdv)) → sp vs H Q E →
      ∃ t, PSs (cxOf (L2.CX P w) P w K mg base N qual scope f cdv A l s H E) body t ∧ t { nx := fun _ H' => Q .non H', rt := Q } (L2.start N vs) H) : FG P w K mg base (k + 1) f fd ps sp := by
  obtain ⟨oc, od, dV, kV, doc, pm, an, cdv, ct, osl, efd, lk, hcd, _, _⟩ := D.ex
  subst efd
  refine ⟨len, fun A l s H as us vs Q E gd room e0 bd rv want => ?_⟩
  have stays : ∀ b o, base.get? b = some o → s.heap.get? b = some o := fun b o q => (e0.bs b o q).1
  have kin := e0.mod.kin.keeps stays
  have kinds : ∀ y ∈ ps.zip us, scope.names.lookup y.1 = some .local ∨ (scope.names.lookup y.1 = some .cell ∧ ((cellsFrom (s.heap.objs.size + 1) scope.names []).lookup y.1).isSome = true) := by
    rintro ⟨z, u⟩ hz
    exact (S.par z (List.of_mem_zip hz).1).imp id fun q => ⟨q, PySem.W.cellsFrom_some _ _ _ (.inl q)⟩
  refine codeAny_call_function room.depth (kin _ _ lk) rfl S.co S.gen rfl (PySem.W.codeRec_of kin hcd) (bd _ _ _ _ ?_)
  refine wpAny_newFunctionEnv_cells S.kind kinds fun ev eev s1 ic => ?_
  subst eev
  refine ⟨(e0.mod.nolimit.keeps stays).keeps ic.toInCall.keep, codeAny_func ?_⟩
  obtain ⟨t, der, rd⟩ := hb cdv A l s H vs Q E gd (room.deeper _) want
  have I0 : Inv (cxOf (L2.CX P w) P w K mg base N qual scope f cdv A l s H E) [] (L2.start N vs) H s1 := inv_start S room.hd e0 (len _ _ _ _ want) rv ic
  refine wpAny_mono (der.run [] s1 (L2.start N vs) H _ I0 rd) (fun fl s' done => ?_) fun _ _ z => z
  cases fl with
  | ret u =>
    obtain ⟨v, σ', H', J, r', q⟩ := done
    exact ⟨v, H', J.os, J.bare, J.base, J.hok, r', q⟩
  | next =>
    obtain ⟨σ', H', J, q⟩ := done
    exact ⟨.non, H', J.os, J.bare, J.base, J.hok, rfl, q⟩
  | brk => obtain ⟨_, _, _, q⟩ := done; exact q.elim
  | cont => obtain ⟨_, _, _, q⟩ := done; exact q.elim
end

/-! ### calls -/
def pick {α : Type} (idx : List Nat) (xs : List α) : List α := idx.filterMap fun i => xs[i]?
theorem vals_pick {xs : List V} {us : List Value} (r : Vals xs us) : ∀ idx : List Nat, Vals (pick idx xs) (pick idx us)
  | [] => .nil
  | i :: is => by
    unfold pick
    rw [List.filterMap_cons, List.filterMap_cons]
    cases q : xs[i]? with
    | none => rw [r.none_of q]; exact vals_pick r is
    | some x =>
      obtain ⟨u, hu, ru⟩ := r.get q
      rw [hu]
      exact .cons ru (vals_pick r is)
theorem repL_pick {c : Wd} {F : Hp} {ρ : Nat → Option Addr} {ps : List PV} {xs : List V} (r : RepL c F ρ ps xs) : ∀ idx : List Nat, RepL c F ρ (pick idx ps) (pick idx xs)
  | [] => rfl
  | i :: is => by
    unfold pick
    rw [List.filterMap_cons, List.filterMap_cons]
    cases q : ps[i]? with
    | none =>
      have e : xs[i]? = none := by
        have h1 := List.getElem?_eq_none_iff.mp q
        exact List.getElem?_eq_none_iff.mpr (by rw [← r.length]; exact h1)
      rw [e]; exact repL_pick r is
    | some p =>
      obtain ⟨u, hu, ru⟩ := r.get q
      rw [hu]
      exact ⟨u, _, rfl, ru, repL_pick r is⟩
/-- how n positional values and the keywords ks come to the parameters ps: by places among us, the defaults mv, ws -/
structure BindM (K : PySem.W.Frag) (fd : FuncData) (ps : List Str) (n : Nat) (ks : List Str) (idx : List Nat) (mv : List Value) (mz : List V) : Prop where
  to : ∀ (s : Shared) (us ws : List Value), K.In s.heap → us.length = n → ws.length = ks.length → BindsTo s fd ⟨us, ks.zip ws⟩ (ps.zip (pick idx (us ++ (mv ++ ws))))
  rel : Vals mz mv
/-- what a call of fv with n values and the keywords ks does -/
def Callee (X : Cx) (c : Wd) (W : WX) (fv : Value) (n : Nat) (ks : List Str) (run : List PV → List PV → MH → Res PV) : Prop :=
  ∀ (pins : List (Addr × Obj)) (s : Shared) (σ : L2.St) (H : Hp) (vs zs : List V) (us ws : List Value) (Q : VK), Inv X pins σ H s → Vals vs us → Vals zs ws → us.length = n → ws.length = ks.length →
    (∃ F ρ h ps qs, REL c F ρ H h ∧ RepL c F ρ ps vs ∧ RepL c F ρ qs zs ∧ PostG c (Rep c) W F ρ h H σ Q (run ps qs h)) →
    wpAny (model X.prog X.w) X.A (call fv us (ks.zip ws)) (EP X pins σ Q) X.xe s
section
variable {X : Cx} {c : Wd} {W : WX} {k n : Nat} {f C : Addr} {fd : FuncData} {ps ks : List Str} {idx : List Nat} {mv : List Value} {mz : List V} {mp : List PV} {run : List PV → MH → Res PV}
theorem callee_fn (G : FG X.prog X.w X.K X.mg X.base k f fd ps (spM c run)) (gd : X.A.guards = some []) (hr : Room k X.A) (B : BindM X.K fd ps n ks idx mv mz) (hmp : ∀ F ρ, RepL c F ρ mp mz) (tk : Takes X W) :
    Callee X c W (.ref f) n ks (fun ps qs h => run (pick idx (ps ++ (mp ++ qs))) h) := by
  intro pins s σ H vs zs us ws Q I rv rz hn hk ⟨F, ρ, h, ps', qs, rel, rp, rq, post⟩
  have want : spM c run (pick idx (vs ++ (mz ++ zs))) H Q (WE W σ) := ⟨F, ρ, h, _, rel, repL_pick (rp.append ((hmp F ρ).append rq)) idx, post_σ (fun _ _ _ z => z) post⟩
  refine wpAny_call (codeAny_mono (G.go X.A X.stack s H ⟨us, ks.zip ws⟩ (pick idx (us ++ (mv ++ ws))) _ Q (WE W σ) gd hr I.env0 (B.to s us ws I.kIn hn hk) (vals_pick (rv.append (B.rel.append rz)) idx) want) fun r s' done => ?_)
  cases r with
  | error er => exact tk er s' (XE.of_call I (fun _ _ _ z => z) done)
  | ok fl =>
    cases fl with
    | ret u => exact I.after done
    | next => exact done.elim
    | brk => exact done.elim
    | cont => exact done.elim
/-- behind __init__: the instance is frozen -/
def kMade (i : Nat) (v : PV) (h : MH) : Res PV := match v with
  | .non => fz (.ref i) h
  | _ => .stuck
def runMake (cn : Str) (run : List PV → MH → Res PV) (idx : List Nat) (mp : List PV) : List PV → List PV → MH → Res PV := fun ps qs h =>
  (run (pick idx ((.ref h.nx :: ps) ++ (mp ++ qs))) (h.new (.obj cn []))).bind (kMade h.nx)
theorem callee_make {cn : Str} (hcn : c.cl cn = C) (M : Mk X.K C f) (G : FG X.prog X.w X.K X.mg X.base k f fd ps (spM c run)) (gd : X.A.guards = some []) (hr : Room (k + 1) X.A) (B : BindM X.K fd ps (n + 1) ks idx mv mz) (hmp : ∀ F ρ, RepL c F ρ mp mz) (tk : Takes X W) :
    Callee X c W (.ref C) n ks (runMake cn run idx mp) := by
  intro pins s σ H vs zs us ws Q I rv rz hn hk ⟨F, ρ, h, ps', qs, rel, rp, rq, post⟩
  have nx : H s.heap.objs.size = none := I.hok.fresh (Nat.le_refl _)
  have nx1 : H (s.heap.objs.size + 1) = none := I.hok.fresh (Nat.le_succ _)
  have J := Inv.made (C := C) I
  have rv1 : Vals (V.ref (s.heap.objs.size + 1) :: vs) (Value.ref (s.heap.objs.size + 1) :: us) := .cons rfl rv
  have s1 : Step c F ρ h H F ρ h (upd H s.heap.objs.size (.own (s.heap.objs.size + 1))) := Step.newX rel nx
  have hne : s.heap.objs.size + 1 ≠ s.heap.objs.size := Nat.succ_ne_self _
  have s2 := Step.newC (p := s.heap.objs.size + 1) (o := .ins C s.heap.objs.size []) (k := .obj cn []) s1.rel (by rw [upd_ne hne]; exact nx1) ⟨s.heap.objs.size, [], by rw [hcn]; exact upd_same, rfl⟩
  have s12 := s1.trans s2
  have r0 : Rep c F (updR ρ h.nx (s.heap.objs.size + 1)) (.ref h.nx) (.ref (s.heap.objs.size + 1)) := ⟨_, rfl, by unfold updR; rw [if_pos rfl]⟩
  have want : spM c run (pick idx ((V.ref (s.heap.objs.size + 1) :: vs) ++ (mz ++ zs))) (upd (upd H s.heap.objs.size (.own (s.heap.objs.size + 1))) (s.heap.objs.size + 1) (.ins C s.heap.objs.size [])) (fun v H3 => v = .non ∧ Q (.ref (s.heap.objs.size + 1)) H3) (WE W σ) := by
    refine ⟨F, updR ρ h.nx (s.heap.objs.size + 1), h.new (.obj cn []), _, s2.rel, repL_pick (RepL.append (p := .ref h.nx :: ps') ⟨_, _, rfl, r0, rp.mono s12.f s12.r⟩ ((hmp _ _).append (rq.mono s12.f s12.r))) idx, ?_⟩
    unfold runMake at post
    cases er : run (pick idx (PV.ref h.nx :: ps' ++ (mp ++ qs))) (h.new (.obj cn [])) with
    | stuck => rw [er] at post; exact post
    | exc m fs h2 =>
      rw [er] at post
      exact fun F' ρ' H' d w' st z q u => post F' ρ' H' d w' (s12.trans st) (s12.back z) q u
    | ok v h2 =>
      rw [er] at post
      dsimp only [Res.bind] at post
      intro F' ρ' H' xv st rx
      cases v with
      | non =>
        cases rx
        refine ⟨rfl, ?_⟩
        dsimp only [kMade, fz] at post
        cases g : h2.get h.nx with
        | none => rw [g] at post; exact post.elim
        | some q =>
          rw [g] at post
          obtain ⟨F'', st2, r2⟩ := Step.freeze st.rel g (Rep.mono st.f st.r r0)
          exact post F'' ρ' H' _ ((s12.trans st).trans st2) r2
      | _ => exact post.elim
  refine wpAny_call (make_map (f := f) I.kIn M.makes M.init (beq_iff_eq.mp M.fn) (codeAny_mono (G.go _ X.stack _ _ ⟨Value.ref (s.heap.objs.size + 1) :: us, ks.zip ws⟩ (pick idx ((Value.ref (s.heap.objs.size + 1) :: us) ++ (mv ++ ws))) _ _ (WE W σ) ?_ (hr.make C us (ks.zip ws))
    (J.env0.make C us (ks.zip ws)) (B.to _ (Value.ref (s.heap.objs.size + 1) :: us) ws J.kIn (by rw [List.length_cons, hn]) hk) (vals_pick (rv1.append (B.rel.append rz)) idx) want) fun r s' done => ?_))
  · exact gd
  · cases r with
    | error er => exact tk er s' (XE.of_call J (fun _ _ _ z => z) done)
    | ok fl =>
      cases fl with
      | ret u =>
        obtain ⟨v, H', J3, rr, ev, q3⟩ := J.after done
        subst ev
        exact ⟨rr, ⟨V.ref (s.heap.objs.size + 1), H', J3, rfl, q3⟩⟩
      | next => exact done.elim
      | brk => exact done.elim
      | cont => exact done.elim
end
/-! f(..) by a name -/
section
variable {X : Cx} {cl : Str → Addr} {sx : Option (Addr × Value × Option Addr)} {W : WX} {n : Nat} {f : Addr} {ks : List Str} {run : List PV → List PV → MH → Res PV} {x : Str} {p pos : Pos} {e : Expr} {es : List Expr} {kws : List Keyword}
def mCall (n : Nat) (run : List PV → List PV → MH → Res PV) (m : MA) : ME := fun env h => (m env h).bind fun ps h1 => if ps.length = n then run ps [] h1 else .stuck
def mCallK (n j : Nat) (run : List PV → List PV → MH → Res PV) (m mk : MA) : ME := fun env h => (m env h).bind fun ps h1 => (mk env h1).bind fun qs h2 => if ps.length = n ∧ qs.length = j then run ps qs h2 else .stuck
/-- what is left to call -/
def CallQ (c : Wd) (W : WX) (n j : Nat) (run : List PV → List PV → MH → Res PV) (σ : L2.St) (Q : VK) (vs zs : List V) (H : Hp) : Prop :=
  vs.length = n ∧ zs.length = j ∧ ∃ F ρ h ps qs, REL c F ρ H h ∧ RepL c F ρ ps vs ∧ RepL c F ρ qs zs ∧ PostG c (Rep c) W F ρ h H σ Q (run ps qs h)
theorem rd_call {c : Wd} {m : MA} {σ : L2.St} {H : Hp} {Q : VK} (t : tE c W (mCall n run m) σ H Q) : tA c W m σ H fun vs H1 => CallQ c W n 0 run σ Q vs [] H1 :=
  tG.bind (R := RepL c) (k := fun ps _ h1 => if ps.length = n then run ps [] h1 else .stuck) t fun F ρ env h ps vs H1 rel re rp post => by
    by_cases hn : ps.length = n
    · rw [if_pos hn] at post
      exact ⟨by rw [← rp.length]; exact hn, rfl, F, ρ, h, ps, [], rel, rp, rfl, post⟩
    · rw [if_neg hn] at post; exact post.elim
theorem rd_callK {c : Wd} {j : Nat} {m mk : MA} {σ : L2.St} {H : Hp} {Q : VK} (t : tE c W (mCallK n j run m mk) σ H Q) : tA c W m σ H fun vs H1 => tA c W mk σ H1 fun zs H2 => CallQ c W n j run σ Q vs zs H2 :=
  tG.bind (R := RepL c) (k := fun ps env h1 => (mk env h1).bind fun qs h2 => if ps.length = n ∧ qs.length = j then run ps qs h2 else .stuck) t fun F ρ env h ps vs H1 rel re rp post => by
    refine ⟨F, ρ, env, h, rel, re, ?_⟩
    cases em : mk env h with
    | stuck => rw [em] at post; exact post
    | exc n' fs h2 => rw [em] at post; exact post
    | ok qs h2 =>
      rw [em] at post
      dsimp only [Res.bind] at post
      intro F2 ρ2 H2 zs s2 rq
      by_cases hn : ps.length = n ∧ qs.length = j
      · rw [if_pos hn] at post
        exact ⟨by rw [← rp.length]; exact hn.1, by rw [← rq.length]; exact hn.2, F2, ρ2, h2, ps, qs, s2.rel, rp.mono s2.f s2.r, rq, PostG.shift s2 post⟩
      · rw [if_neg hn] at post; exact post.elim
theorem em_call {m : MA} (cal : Callee X ⟨X.K, cl, sx⟩ W (.ref f) n [] run) (hg : Gl X x) (hm : X.mg x = some (.ref f)) (hk : PySem.W.keepIn X.K (.ref f) = true) (ha : PA X (e :: es) (tA ⟨X.K, cl, sx⟩ W m)) (hdb : (x == ("__debug__" : Str)) = false := by decide)
    (he : starEach (e :: es) X.env = (false, eval e X.env) :: starEach es X.env := by rfl) (hpl : (backTo pos (starEach es X.env)).any (·.1) = false := by rfl) : PE X (.Call (.Name x p) (e :: es) [] pos) (tE ⟨X.K, cl, sx⟩ W (mCall n run m)) := by
  refine ⟨fun pins s σ H Q I t => ?_⟩
  refine wpAny_Call_Name_kw (ld_glob I hg hm ?_ hdb)
  refine PySem.W.callWith_K (h₀ := X.base) I.ok.mod.kin hk (thn (ha.run pos pins s σ H _ I (rd_call t)) fun us s1 ⟨vs, H1, I1, rv, hn, _, rest⟩ => ⟨I1.kIn, ?_⟩) he hpl
  exact cal pins s1 σ H1 vs [] us [] Q I1 rv .nil (by rw [← Paired.length rv]; exact hn) rfl rest
theorem em_call0 (cal : Callee X ⟨X.K, cl, sx⟩ W (.ref f) 0 [] run) (hg : Gl X x) (hm : X.mg x = some (.ref f)) (hk : PySem.W.keepIn X.K (.ref f) = true) (hdb : (x == ("__debug__" : Str)) = false := by decide) : PE X (.Call (.Name x p) [] [] pos) (tE ⟨X.K, cl, sx⟩ W (mCall 0 run mNil)) := by
  refine ⟨fun pins s σ H Q I t => ?_⟩
  refine wpAny_Call_Name_kw (ld_glob I hg hm ?_ hdb)
  obtain ⟨F, ρ, env, h, rel, re, post⟩ := t
  exact PySem.W.callWith_K0 I.kIn hk (cal pins s σ H [] [] [] [] Q I .nil .nil rfl rfl ⟨F, ρ, h, [], [], rel, rfl, rfl, post⟩)
/-- keywords -/
theorem pkI {t t' : TA} (h : PK X kws t) (i : ∀ σ H Q, t' σ H Q → t σ H Q) : PK X kws t' := ⟨fun ps pins s σ H Q I q => h.run ps pins s σ H Q I (i σ H Q q)⟩
theorem km_nil {c : Wd} : PK X [] (tA c W mNil) := pkI pk_nil fun σ H Q ⟨F, ρ, env, h, rel, re, p⟩ => p F ρ H [] (Step.refl rel) rfl
theorem km_cons {c : Wd} {nm : Option Str} {kpos : Pos} {m : ME} {r : MA} (he : PE X e (tE c W m)) (hr : PK X kws (tA c W r)) : PK X (⟨nm, e, kpos⟩ :: kws) (tA c W (mCons m r)) := pkI (pk_cons he hr) snd_cons
theorem em_callK {m mk : MA} (cal : Callee X ⟨X.K, cl, sx⟩ W (.ref f) n ks run) (hg : Gl X x) (hm : X.mg x = some (.ref f)) (hk : PySem.W.keepIn X.K (.ref f) = true) (ha : PA X (e :: es) (tA ⟨X.K, cl, sx⟩ W m)) (hkw : PK X kws (tA ⟨X.K, cl, sx⟩ W mk))
    (hall : (backToKw pos (keywordEach kws X.env)).all (·.1.isSome) = true := by rfl) (hks : (backToKw pos (keywordEach kws X.env)).filterMap (·.1) = ks := by rfl) (hdb : (x == ("__debug__" : Str)) = false := by decide)
    (he : starEach (e :: es) X.env = (false, eval e X.env) :: starEach es X.env := by rfl) (hpl : ((backTo pos (starEach (e :: es) X.env)).any (·.1) || (backToKw pos (keywordEach kws X.env)).any (·.1.isNone)) = false := by rfl) :
    PE X (.Call (.Name x p) (e :: es) kws pos) (tE ⟨X.K, cl, sx⟩ W (mCallK n ks.length run m mk)) := by
  refine ⟨fun pins s σ H Q I t => ?_⟩
  refine wpAny_Call_Name_kw (ld_glob I hg hm ?_ hdb)
  refine PySem.W.callWith_KW (h₀ := X.base) I.ok.mod.kin hk hall (thn (ha.run pos pins s σ H _ I (rd_callK t)) fun us s1 ⟨vs, H1, I1, rv, q⟩ => ?_) hpl he
  refine thn (hkw.run pos pins s1 σ H1 _ I1 q) fun ws s2 ⟨zs, H2, I2, rz, l1, l2, rest⟩ => ⟨I2.kIn, ?_⟩
  rw [hks]
  exact cal pins s2 σ H2 vs zs us ws Q I2 rv rz (by rw [← Paired.length rv]; exact l1) (by rw [← Paired.length rz]; exact l2) rest
theorem em_callK0 {mk : MA} (cal : Callee X ⟨X.K, cl, sx⟩ W (.ref f) 0 ks run) (hg : Gl X x) (hm : X.mg x = some (.ref f)) (hk : PySem.W.keepIn X.K (.ref f) = true) (hkw : PK X kws (tA ⟨X.K, cl, sx⟩ W mk))
    (hall : (backToKw pos (keywordEach kws X.env)).all (·.1.isSome) = true := by rfl) (hks : (backToKw pos (keywordEach kws X.env)).filterMap (·.1) = ks := by rfl) (hdb : (x == ("__debug__" : Str)) = false := by decide)
    (hpl : ((backTo pos (starEach [] X.env)).any (·.1) || (backToKw pos (keywordEach kws X.env)).any (·.1.isNone)) = false := by rfl) :
    PE X (.Call (.Name x p) [] kws pos) (tE ⟨X.K, cl, sx⟩ W (mCallK 0 ks.length run mNil mk)) := by
  refine ⟨fun pins s σ H Q I t => ?_⟩
  refine wpAny_Call_Name_kw (ld_glob I hg hm ?_ hdb)
  obtain ⟨F, ρ, env, h, rel, re, post⟩ := rd_callK t
  have q := post F ρ H [] (Step.refl rel) rfl
  refine PySem.W.callWith_KW0 (h₀ := X.base) I.ok.mod.kin hk hall ?_ hpl
  refine thn (hkw.run pos pins s σ H _ I q) fun ws s2 ⟨zs, H2, I2, rz, l1, l2, rest⟩ => ⟨I2.kIn, ?_⟩
  rw [hks]
  exact cal pins s2 σ H2 [] zs [] ws Q I2 .nil rz rfl (by rw [← Paired.length rz]; exact l2) rest
end
end Mi

/-! Mi6: built-ins by name, in, methods of lists, stores, attributes, slices. -/
namespace Mi
open PySem PySem.Spec PyProof.Rows L2
section
variable {c : Wd} {cl : Str → Addr} {sx : Option (Addr × Value × Option Addr)} {W : WX} {X : Cx} {e a b : Expr} {pos : Pos} {st : Stmt}
/-! ### in -/
def flatPV : PV → Option V
  | .non => some .non
  | .bl b => some (.bl b)
  | .int i => some (.int i)
  | .str x => some (.str x)
  | _ => none
def flatPVs : List PV → Option (List V)
  | [] => some []
  | p :: ps => match flatPV p, flatPVs ps with
    | some v, some vs => some (v :: vs)
    | _, _ => none
theorem flatPV_ok {F : Hp} {ρ : Nat → Option Addr} {p : PV} {x v : V} (r : Rep c F ρ p x) (e : flatPV p = some v) : x = v ∧ flatV v = true := by
  cases p with
  | non => cases e; exact ⟨r, rfl⟩
  | bl _ => cases e; exact ⟨r, rfl⟩
  | int _ => cases e; exact ⟨r, rfl⟩
  | str _ => cases e; exact ⟨r, rfl⟩
  | _ => cases e
theorem flatPVs_ok {F : Hp} {ρ : Nat → Option Addr} : ∀ {ps : List PV} {xs vs : List V}, RepL c F ρ ps xs → flatPVs ps = some vs → xs = vs ∧ vs.all flatV = true
  | [], _, _, r, e => by cases e; cases r; exact ⟨rfl, rfl⟩
  | p :: ps, _, _, ⟨v, vs, ex, r, rs⟩, e => by
    subst ex
    cases g : flatPV p with
    | none => simp only [flatPVs, g] at e; cases e
    | some u =>
      cases g2 : flatPVs ps with
      | none => simp only [flatPVs, g, g2] at e; cases e
      | some us =>
        simp only [flatPVs, g, g2] at e
        cases e
        obtain ⟨h1, h2⟩ := flatPV_ok r g
        obtain ⟨h3, h4⟩ := flatPVs_ok rs g2
        subst h1
        subst h3
        exact ⟨rfl, by simp [h2, h4]⟩
/-- x in xs: a sign in a text, a flat value in a list or tuple of such -/
def inP (p q : PV) (h : MH) : Option Bool := match q with
  | .str z => (match p with
    | .str y => (match y.cps.toList with
      | [k] => some (decide (k ∈ z.cps.toList))
      | _ => none)
    | _ => none)
  | q => (match asS q h with
    | some xs => (match flatPV p, flatPVs xs with
      | some v, some vs => some (inV v vs)
      | _, _ => none)
    | none => none)
def pIn : P2 := fun p q h => (inP p q h).map fun b => (.bl b, h)
def pNotIn : P2 := fun p q h => (inP p q h).map fun b => (.bl (!b), h)
def rInU (K : PySem.W.Frag) : R2 := fun x y H Q => (∃ (k : Nat) (z : Str), x = .str ⟨#[k]⟩ ∧ y = .str z ∧ Q (.bl (decide (k ∈ z.cps.toList))) H) ∨ rIn K false x y H Q
def rNotInU (K : PySem.W.Frag) : R2 := fun x y H Q => (∃ (k : Nat) (z : Str), x = .str ⟨#[k]⟩ ∧ y = .str z ∧ Q (.bl (!decide (k ∈ z.cps.toList))) H) ∨ rIn K true x y H Q
theorem op_inU : OpR X (compareOp .In) (rInU X.K) := op_in_sign.or op_in_seq
theorem op_notInU : OpR X (compareOp .NotIn) (rNotInU X.K) := op_notIn_sign.or op_notIn_seq
theorem str_one {y : Str} {k : Nat} (e : y.cps.toList = [k]) : y = ⟨#[k]⟩ := by
  obtain ⟨⟨l⟩⟩ := y
  simp only at e
  rw [e]
theorem inP_ok {F : Hp} {ρ : Nat → Option Addr} {h : MH} {H : Hp} {p q : PV} {x y : V} {b : Bool} (rel : REL c F ρ H h) (rp : Rep c F ρ p x) (rq : Rep c F ρ q y) (e : inP p q h = some b) :
    (∃ (k : Nat) (z : Str), x = .str ⟨#[k]⟩ ∧ y = .str z ∧ b = decide (k ∈ z.cps.toList)) ∨ ∃ d xs, y = .ref d ∧ (SqL c.K H d xs ∨ SqT c.K H d xs) ∧ flatV x = true ∧ xs.all flatV = true ∧ b = inV x xs := by
  have gen : (match asS q h with
    | some xs => (match flatPV p, flatPVs xs with
      | some v, some vs => some (inV v vs)
      | _, _ => none)
    | none => none) = some b → (∃ (k : Nat) (z : Str), x = .str ⟨#[k]⟩ ∧ y = .str z ∧ b = decide (k ∈ z.cps.toList)) ∨ ∃ d xs, y = .ref d ∧ (SqL c.K H d xs ∨ SqT c.K H d xs) ∧ flatV x = true ∧ xs.all flatV = true ∧ b = inV x xs := fun e => by
    cases g : asS q h with
    | none => rw [g] at e; cases e
    | some xs =>
      rw [g] at e
      dsimp only at e
      cases g1 : flatPV p with
      | none => rw [g1] at e; cases e
      | some v =>
        cases g2 : flatPVs xs with
        | none => rw [g1, g2] at e; cases e
        | some vs =>
          rw [g1, g2] at e
          cases e
          obtain ⟨d, ws, ey, hv, r⟩ := asS_ok rel rq g
          obtain ⟨e1, f1⟩ := flatPV_ok rp g1
          obtain ⟨e2, f2⟩ := flatPVs_ok r g2
          subst e1
          subst e2
          exact .inr ⟨d, ws, ey, hv, f1, f2, rfl⟩
  cases q with
  | str z =>
    cases p with
    | str y' =>
      simp only [inP] at e
      cases g : y'.cps.toList with
      | nil => rw [g] at e; cases e
      | cons k r =>
        cases r with
        | nil =>
          rw [g] at e
          cases e
          cases rp
          cases rq
          exact .inl ⟨k, z, by rw [str_one g], rfl, rfl⟩
        | cons _ _ => rw [g] at e; cases e
    | _ => cases e
  | _ => exact gen e
theorem o_in : O2 c (rInU c.K) pIn := fun F ρ h H p q x y v h' Q rel rp rq e k => by
  unfold pIn at e
  cases g : inP p q h with
  | none => rw [g] at e; cases e
  | some b =>
    rw [g] at e
    cases e
    rcases inP_ok rel rp rq g with ⟨k', z, ex, ey, eb⟩ | ⟨d, xs, ey, hv, f1, f2, eb⟩
    · exact .inl ⟨k', z, ex, ey, by rw [← eb]; exact k F ρ H _ (Step.refl rel) rfl⟩
    · exact .inr ⟨d, xs, ey, hv, f1, f2, by
        rw [if_neg (by decide), ← eb]
        exact k F ρ H _ (Step.refl rel) rfl⟩
theorem o_notIn : O2 c (rNotInU c.K) pNotIn := fun F ρ h H p q x y v h' Q rel rp rq e k => by
  unfold pNotIn at e
  cases g : inP p q h with
  | none => rw [g] at e; cases e
  | some b =>
    rw [g] at e
    cases e
    rcases inP_ok rel rp rq g with ⟨k', z, ex, ey, eb⟩ | ⟨d, xs, ey, hv, f1, f2, eb⟩
    · exact .inl ⟨k', z, ex, ey, by rw [← eb]; exact k F ρ H _ (Step.refl rel) rfl⟩
    · exact .inr ⟨d, xs, ey, hv, f1, f2, by
        rw [if_pos rfl, ← eb]
        exact k F ρ H _ (Step.refl rel) rfl⟩
/-! ### built-ins of values -/
def lenP (p : PV) (h : MH) : Option Nat := match p with
  | .str y => if y.length ≤ sizeLine then some y.length else none
  | p => (asS p h).map List.length
def pLen : PL := fun ps h => match ps with
  | [p] => (lenP p h).map fun n => (.int n, h)
  | _ => none
theorem o_len : OA c (fun xs H Q => ∃ x n, xs = [x] ∧ LenV c.K x H n ∧ Q (.int n) H) pLen := fun F ρ h H ps xs v h' Q rel rp e k => by
  match ps, rp, e with
  | [p], ⟨x, r, ex, rx, rn⟩, e =>
    cases rn
    subst ex
    simp only [pLen] at e
    have gen : (asS p h).map List.length = lenP p h → ∃ x' n, [x] = [x'] ∧ LenV c.K x' H n ∧ Q (.int n) H := fun el => by
      rw [← el] at e
      cases g : asS p h with
      | none => rw [g] at e; cases e
      | some ys =>
        rw [g] at e
        cases e
        obtain ⟨d, vs, ed, hv, rr⟩ := asS_ok rel rx g
        subst ed
        refine ⟨_, ys.length, rfl, ?_, k F ρ H _ (Step.refl rel) rfl⟩
        rw [rr.length]
        rcases hv with hv | hv
        · exact .inl ⟨vs, hv, rfl⟩
        · exact .inr ⟨vs, hv, rfl⟩
    cases p with
    | str y =>
      simp only [lenP] at e
      by_cases hy : y.length ≤ sizeLine
      · rw [if_pos hy] at e
        cases e
        cases rx
        exact ⟨_, y.length, rfl, ⟨hy, rfl⟩, k F ρ H _ (Step.refl rel) rfl⟩
      · rw [if_neg hy] at e; cases e
    | _ => exact gen rfl
def pMax2 : PL := fun ps h => match ps with
  | [.int i, .int j] => some (.int (if j > i then j else i), h)
  | _ => none
def pMin2 : PL := fun ps h => match ps with
  | [.int i, .int j] => some (.int (if j < i then j else i), h)
  | _ => none
theorem o_max2 : OA c (fun xs H Q => ∃ i j, xs = [.int i, .int j] ∧ Q (.int (if j > i then j else i)) H) pMax2 := fun F ρ h H ps xs v h' Q rel rp e k => by
  unfold pMax2 at e
  split at e
  · rename_i i j
    cases e
    obtain ⟨x, r, ex, rx, y, r2, ey, ry, rn⟩ := rp
    cases rx; cases ry; cases rn; subst ey; subst ex
    exact ⟨i, j, rfl, k F ρ H _ (Step.refl rel) rfl⟩
  · cases e
theorem o_min2 : OA c (fun xs H Q => ∃ i j, xs = [.int i, .int j] ∧ Q (.int (if j < i then j else i)) H) pMin2 := fun F ρ h H ps xs v h' Q rel rp e k => by
  unfold pMin2 at e
  split at e
  · rename_i i j
    cases e
    obtain ⟨x, r, ex, rx, y, r2, ey, ry, rn⟩ := rp
    cases rx; cases ry; cases rn; subst ey; subst ex
    exact ⟨i, j, rfl, k F ρ H _ (Step.refl rel) rfl⟩
  · cases e
def pInt1 : PL := fun ps h => match ps with
  | [.int i] => some (.int i, h)
  | [.bl k] => some (.int (if k then 1 else 0), h)
  | _ => none
theorem o_int1 : OA c (fun xs H Q => (∃ i, xs = [.int i] ∧ Q (.int i) H) ∨ ∃ k, xs = [.bl k] ∧ Q (.int (if k then 1 else 0)) H) pInt1 := fun F ρ h H ps xs v h' Q rel rp e k => by
  unfold pInt1 at e
  split at e
  · rename_i i
    cases e
    obtain ⟨x, r, ex, rx, rn⟩ := rp
    cases rx; cases rn; subst ex
    exact .inl ⟨i, rfl, k F ρ H _ (Step.refl rel) rfl⟩
  · rename_i i
    cases e
    obtain ⟨x, r, ex, rx, rn⟩ := rp
    cases rx; cases rn; subst ex
    exact .inr ⟨i, rfl, k F ρ H _ (Step.refl rel) rfl⟩
  · cases e
def blsP : List PV → Option (List Bool)
  | [] => some []
  | .bl b :: ps => (blsP ps).map (b :: ·)
  | _ => none
theorem blsP_ok {F : Hp} {ρ : Nat → Option Addr} : ∀ {ps : List PV} {xs : List V} {bs : List Bool}, RepL c F ρ ps xs → blsP ps = some bs → xs = bs.map V.bl
  | [], _, _, r, e => by cases e; exact r
  | p :: ps, _, _, ⟨v, vs, ex, r, rs⟩, e => by
    cases p with
    | bl b =>
      simp only [blsP] at e
      cases g : blsP ps with
      | none => rw [g] at e; cases e
      | some cs =>
        rw [g] at e
        cases e
        cases r
        subst ex
        rw [blsP_ok rs g]
        rfl
    | _ => cases e
def pAll : PL := fun ps h => match ps with
  | [p] => (match asL p h with
    | some xs => (blsP xs).map fun bs => (.bl (bs.all id), h)
    | none => none)
  | _ => none
def pAny : PL := fun ps h => match ps with
  | [p] => (match asL p h with
    | some xs => (blsP xs).map fun bs => (.bl (bs.any id), h)
    | none => none)
  | _ => none
theorem o_all : OA c (rAll c.K) pAll := fun F ρ h H ps xs v h' Q rel rp e k => by
  unfold pAll at e
  split at e
  · rename_i p
    obtain ⟨x, r, ex, rx, rn⟩ := rp
    cases rn; subst ex
    cases g : asL p h with
    | none => rw [g] at e; cases e
    | some ys =>
      rw [g] at e
      dsimp only at e
      cases g2 : blsP ys with
      | none => rw [g2] at e; cases e
      | some bs =>
        rw [g2] at e
        cases e
        obtain ⟨d, vs, ed, hv, rr⟩ := asL_ok rel rx g
        subst ed
        exact ⟨d, bs, rfl, by rw [← blsP_ok rr g2]; exact hv, k F ρ H _ (Step.refl rel) rfl⟩
  · cases e
theorem o_any : OA c (rAny c.K) pAny := fun F ρ h H ps xs v h' Q rel rp e k => by
  unfold pAny at e
  split at e
  · rename_i p
    obtain ⟨x, r, ex, rx, rn⟩ := rp
    cases rn; subst ex
    cases g : asL p h with
    | none => rw [g] at e; cases e
    | some ys =>
      rw [g] at e
      dsimp only at e
      cases g2 : blsP ys with
      | none => rw [g2] at e; cases e
      | some bs =>
        rw [g2] at e
        cases e
        obtain ⟨d, vs, ed, hv, rr⟩ := asL_ok rel rx g
        subst ed
        exact ⟨d, bs, rfl, by rw [← blsP_ok rr g2]; exact hv, k F ρ H _ (Step.refl rel) rfl⟩
  · cases e
/-! ### isinstance -/
inductive Tg where
  | ty (n : String)
  | own (n : Str)
  deriving DecidableEq
def tgV (c : Wd) : Tg → Value
  | .ty n => .type n
  | .own n => .ref (c.cl n)
def tagP (p : PV) (h : MH) : Option Tg := match p with
  | .non => some (.ty "NoneType")
  | .bl _ => some (.ty "bool")
  | .int _ => some (.ty "int")
  | .str _ => some (.ty "str")
  | .tup _ => some (.ty "tuple")
  | .lst _ => some (.ty "list")
  | .scr _ => some (.ty "list")
  | .dct _ => some (.ty "dict")
  | .obj n _ => some (.own n)
  | .ref i => (match h.get i with
    | some (.lst _) => some (.ty "list")
    | some (.dct _) => some (.ty "dict")
    | some (.obj n _) => some (.own n)
    | none => none)
  | _ => none
/-- what the written part must say of a class whose instances are asked for -/
structure ClsF (K : PySem.W.Frag) (C : Addr) : Prop where
  cl : Cls K C
  ha : PySem.W.findIn K (.ref C) "__class__" = some (some (.builtin "object.__class__"))
  hn : PySem.W.specialIn K (.builtin "object.__class__") "__get__" = some (some (.builtin "getset_descriptor.__get__"))
  htk : PySem.W.takesIn K (.builtin "object.__class__") = some true
  hm : PySem.W.mroIn K C (.type "object") = some true
/-- what isinstance tells: of whose classes, and the answers -/
structure IsK (c : Wd) where
  cls : Str → Bool
  cls_ok : ∀ n, cls n = true → ClsF c.K (c.cl n)
  isT : Tg → V → Option Bool
  isT_ok : ∀ t cv b, isT t cv = some b → ∃ u, ClsV cv u ∧ PySem.W.kitOne c.K (tgV c t) u = some b
def tgOk {c : Wd} (k : IsK c) : Tg → Bool
  | .ty _ => true
  | .own n => k.cls n
theorem tagP_ok {F : Hp} {ρ : Nat → Option Addr} {h : MH} {H : Hp} {p : PV} {x : V} {t : Tg} (kk : IsK c) (rel : REL c F ρ H h) (rp : Rep c F ρ p x) (e : tagP p h = some t) (ok : tgOk kk t = true) : TyX c.K H x (tgV c t) := by
  cases p with
  | non => cases e; cases rp; exact .base .non
  | bl b => cases e; cases rp; exact .base (.bl b)
  | int i => cases e; cases rp; exact .base (.int i)
  | str z => cases e; cases rp; exact .base (.str z)
  | tup ys =>
    cases e
    obtain ⟨d, vs, ex, hd, _⟩ := rp
    subst ex
    rcases hd with hd | ⟨o, its, n, hl, hc, _⟩
    · exact .base (.tup (rel.at hd id))
    · exact .kTuple hl hc
  | lst ys =>
    cases e
    obtain ⟨d, vs, ex, hd, _⟩ := rp
    subst ex
    exact .base (.lst (rel.at hd id))
  | scr ns =>
    cases e
    obtain ⟨d, ex, hd⟩ := rp
    subst ex
    rcases hd with ⟨o, hd⟩ | ⟨o, its, n, hl, hc, _⟩
    · exact .base (.frz (rel.at hd id))
    · exact .kList hl hc
  | dct ys =>
    cases e
    obtain ⟨d, vs, ex, hd, _⟩ := rp
    subst ex
    rcases rel.sub d _ hd with z | ⟨_, ob, z⟩
    · exact .base (.dK z)
    · exact .fDict z
  | obj n fs =>
    cases e
    obtain ⟨d, dx, vs, ex, hd, _⟩ := rp
    subst ex
    have f := kk.cls_ok n ok
    exact .base (.ins (rel.at hd id) f.cl f.ha f.hn f.htk f.hm)
  | ref i =>
    obtain ⟨d, ex, ed⟩ := rp
    subst ex
    simp only [tagP] at e
    cases g : h.get i with
    | none => rw [g] at e; cases e
    | some q =>
      rw [g] at e
      obtain ⟨d', ed', _, cd⟩ := rel.cell i q g
      rw [ed] at ed'; cases ed'
      cases q with
      | lst ys => cases e; obtain ⟨vs, hv, _⟩ := cd; exact .base (.lst hv)
      | dct ys => cases e; obtain ⟨vs, hv, _⟩ := cd; exact .base (.dK hv)
      | obj n fs =>
        cases e
        obtain ⟨dx, vs, hv, _⟩ := cd
        have f := kk.cls_ok n ok
        exact .base (.ins hv f.cl f.ha f.hn f.htk f.hm)
  | raw _ => cases e
  | xc _ _ => cases e
def pIsi {c : Wd} (kk : IsK c) : PL := fun ps h => match ps with
  | [p, .raw cv] => (match tagP p h with
    | some t => if tgOk kk t = true then (kk.isT t cv).map fun b => (.bl b, h) else none
    | none => none)
  | _ => none
theorem o_isi (kk : IsK c) : OA c (rIsi c.K) (pIsi kk) := fun F ρ h H ps xs v h' Q rel rp e k => by
  unfold pIsi at e
  split at e
  · rename_i p cv
    obtain ⟨x, r, ex, rx, y, r2, ey, ry, rn⟩ := rp
    cases ry; cases rn; subst ey; subst ex
    cases g : tagP p h with
    | none => rw [g] at e; cases e
    | some t =>
      rw [g] at e
      dsimp only at e
      by_cases ok : tgOk kk t = true
      · rw [if_pos ok] at e
        cases g2 : kk.isT t cv with
        | none => rw [g2] at e; cases e
        | some b =>
          rw [g2] at e
          cases e
          obtain ⟨u, hu, hk⟩ := kk.isT_ok t cv b g2
          exact ⟨x, cv, tgV c t, u, b, rfl, hu, tagP_ok kk rel rx g ok, hk, k F ρ H _ (Step.refl rel) rfl⟩
      · rw [if_neg ok] at e; cases e
  · cases e
end
end Mi

/-! Mi7: append, stores, attributes, slices, repr, dict(pairs). -/
namespace Mi
open PySem PySem.Spec PyProof.Rows L2
section
variable {c : Wd} {cl : Str → Addr} {sx : Option (Addr × Value × Option Addr)} {W : WX} {X : Cx} {e a b : Expr} {pos : Pos} {st : Stmt}
/-! ### xs.append(y) -/
def isRL (p : PV) (h : MH) : Bool := match p with
  | .ref i => (match h.get i with
    | some (.lst _) => true
    | _ => false)
  | _ => false
def kApp (p : PV) (ps : List PV) (h : MH) : Res PV := match p, ps with
  | .ref i, [y] => (match h.get i with
    | some (.lst xs) => if xs.length < sizeLine then .ok .non (h.put i (.lst (xs ++ [y]))) else .stuck
    | _ => .stuck)
  | _, _ => .stuck
def mApp (mo : ME) (ma : MA) : ME := fun env h => (mo env h).bind fun p h1 => if isRL p h1 = true then (ma env h1).bind (kApp p) else .stuck
theorem em_app {mo : ME} {ma : MA} (h : PE X e (tBM X.K "list" rAppend (tE ⟨X.K, cl, sx⟩ W mo) (tA ⟨X.K, cl, sx⟩ W ma))) : PE X e (tE ⟨X.K, cl, sx⟩ W (mApp mo ma)) := peI h fun σ H Q t =>
  tG.bind (R := Rep ⟨X.K, cl, sx⟩) (k := fun p env h1 => if isRL p h1 = true then (ma env h1).bind (kApp p) else .stuck) t fun F ρ env h p x H1 rel re rp post => by
    by_cases hl : isRL p h = true
    · rw [if_pos hl] at post
      refine ⟨?_, F, ρ, env, h, rel, re, ?_⟩
      · cases p with
        | ref i =>
          obtain ⟨d, ex, ed⟩ := rp
          subst ex
          simp only [isRL] at hl
          cases g : h.get i with
          | none => rw [g] at hl; cases hl
          | some q =>
            rw [g] at hl
            cases q with
            | lst ys =>
              obtain ⟨d', ed', _, vs, hv, _⟩ := rel.cell i _ g
              rw [ed] at ed'; cases ed'
              exact .inl ⟨rfl, vs, SqL.of hv⟩
            | dct _ => cases hl
            | obj _ _ => cases hl
        | _ => cases hl
      · cases em : ma env h with
        | stuck => rw [em] at post; exact post
        | exc n fs h2 => rw [em] at post; exact post
        | ok ps h2 =>
          rw [em] at post
          intro F2 ρ2 H2 xs s2 rps
          replace post : PostG ⟨X.K, cl, sx⟩ (Rep ⟨X.K, cl, sx⟩) W F2 ρ2 h2 H2 σ Q (kApp p ps h2) := PostG.shift s2 post
          unfold kApp at post
          split at post
          · rename_i i y
            cases g : h2.get i with
            | none => rw [g] at post; exact post.elim
            | some q =>
              rw [g] at post
              cases q with
              | lst ys =>
                dsimp only at post
                by_cases hz : ys.length < sizeLine
                · rw [if_pos hz] at post
                  obtain ⟨d, ex, ed⟩ := rp.mono s2.f s2.r
                  subst ex
                  obtain ⟨d', ed', _, vs, hv, rv⟩ := s2.rel.cell i _ g
                  rw [ed] at ed'; cases ed'
                  obtain ⟨v, r, exs, ry, rn⟩ := rps
                  cases rn
                  subst exs
                  refine ⟨d, vs, v, rfl, rfl, hv, by rw [← rv.length]; exact hz, ?_⟩
                  have st : Step ⟨X.K, cl, sx⟩ F2 ρ2 h2 H2 F2 ρ2 (h2.put i (.lst (ys ++ [y]))) (upd H2 d (.lst (vs ++ [v]))) := Step.mut s2.rel g ed ⟨_, upd_same, rv.append ⟨v, [], rfl, ry, rfl⟩⟩
                  exact post _ _ _ .non st rfl
                · rw [if_neg hz] at post; exact post.elim
              | dct _ => exact post.elim
              | obj _ _ => exact post.elim
          · exact post.elim
    · rw [if_neg hl] at post; exact post.elim
/-! ### o[i] = v -/
def putP (kvs : List (Key × PV)) (k : Key) (v : PV) : List (Key × PV) := if (kvs.any fun q => decide (q.1 = k)) = true then kvs.map (fun q => if q.1 = k then (q.1, v) else q) else kvs ++ [(k, v)]
theorem repD_any {F : Hp} {ρ : Nat → Option Addr} (k : Key) : ∀ {kvs : List (Key × PV)} {ws : List (Key × V)}, RepD c F ρ kvs ws → (kvs.any fun q => decide (q.1 = k)) = ws.any fun q => decide (q.1 = k)
  | [], _, r => by cases r; rfl
  | (k', p) :: ps, _, ⟨v, r, e, _, t⟩ => by
    subst e
    rw [List.any_cons, List.any_cons, repD_any k t]
theorem repD_map {F : Hp} {ρ : Nat → Option Addr} {k : Key} {p : PV} {x : V} (rx : Rep c F ρ p x) : ∀ {kvs : List (Key × PV)} {ws : List (Key × V)}, RepD c F ρ kvs ws → RepD c F ρ (kvs.map fun q => if q.1 = k then (q.1, p) else q) (ws.map fun q => if q.1 = k then (q.1, x) else q)
  | [], _, r => by cases r; rfl
  | (k', p') :: ps, _, ⟨v, r, e, hv, t⟩ => by
    subst e
    rw [List.map_cons, List.map_cons]
    by_cases hk : k' = k
    · rw [if_pos hk, if_pos hk]
      exact ⟨x, _, rfl, rx, repD_map rx t⟩
    · rw [if_neg hk, if_neg hk]
      exact ⟨v, _, rfl, hv, repD_map rx t⟩
theorem repD_app {F : Hp} {ρ : Nat → Option Addr} : ∀ {kvs ls : List (Key × PV)} {ws zs : List (Key × V)}, RepD c F ρ kvs ws → RepD c F ρ ls zs → RepD c F ρ (kvs ++ ls) (ws ++ zs)
  | [], _, _, _, r, s => by cases r; exact s
  | (k', p) :: ps, _, _, _, ⟨v, r, e, hv, t⟩, s => by subst e; exact ⟨v, _, rfl, hv, repD_app t s⟩
theorem repD_put {F : Hp} {ρ : Nat → Option Addr} {k : Key} {p : PV} {x : V} (rx : Rep c F ρ p x) {kvs : List (Key × PV)} {ws : List (Key × V)} (r : RepD c F ρ kvs ws) : RepD c F ρ (putP kvs k p) (putK ws k x) := by
  unfold putP putK
  rw [repD_any k r]
  split
  · exact repD_map rx r
  · exact repD_app r ⟨x, [], rfl, rx, rfl⟩
theorem repD_length {F : Hp} {ρ : Nat → Option Addr} : ∀ {kvs : List (Key × PV)} {ws : List (Key × V)}, RepD c F ρ kvs ws → kvs.length = ws.length
  | [], _, r => by cases r; rfl
  | (k', p) :: ps, _, ⟨v, r, e, hv, t⟩ => by subst e; rw [List.length_cons, List.length_cons, repD_length t]
theorem repL_set {F : Hp} {ρ : Nat → Option Addr} {p : PV} {x : V} (rx : Rep c F ρ p x) : ∀ {ps : List PV} {xs : List V} (j : Nat), RepL c F ρ ps xs → RepL c F ρ (ps.set j p) (xs.set j x)
  | [], _, j, r => by cases r; cases j <;> rfl
  | q :: ps, _, 0, ⟨v, r, e, hv, t⟩ => by subst e; exact ⟨x, r, rfl, rx, t⟩
  | q :: ps, _, j + 1, ⟨v, r, e, hv, t⟩ => by subst e; exact ⟨v, _, rfl, hv, repL_set rx j t⟩
/-- the heap behind o[i] = v -/
def stIx (o i v : PV) (h : MH) : Option MH := match o with
  | .ref n => (match h.get n with
    | some (.lst xs) => (match i with
      | .int k => (ixN xs.length k).map fun j => h.put n (.lst (xs.set j v))
      | _ => none)
    | some (.dct kvs) => (match keyP i with
      | some k => if kvs.length < sizeLine then some (h.put n (.dct (putP kvs k v))) else none
      | none => none)
    | _ => none)
  | _ => none
def kStIx (o i v : PV) (env : MEnv) (h : MH) : SRes := match stIx o i v h with
  | some h' => .nx env h'
  | none => .stuck
def mStIx (mv mo mi : ME) : MS := fun env h => (mv env h).then env fun v h1 => (mo env h1).then env fun o h2 => (mi env h2).then env fun i h3 => kStIx o i v env h3
/-- from the three parts to the store itself -/
theorem rd_stIx {mv mo mi : ME} {D : Ends} {σ : L2.St} {H : Hp} {T : V → V → V → Hp → Prop} (t : tS c W (mStIx mv mo mi) D σ H)
    (hk : ∀ F ρ env h o i v xo xi xv H3, REL c F ρ H3 h → REnv c F ρ env σ → Rep c F ρ o xo → Rep c F ρ i xi → Rep c F ρ v xv → PostS c W F ρ h H3 D (kStIx o i v env h) → T xo xi xv H3) :
    tE c W mv σ H fun xv H1 => tE c W mo σ H1 fun xo H2 => tE c W mi σ H2 fun xi H3 => T xo xi xv H3 :=
  tS.bind (R := Rep c) (k := fun v env h1 => (mo env h1).then env fun o h2 => (mi env h2).then env fun i h3 => kStIx o i v env h3) t fun F ρ env h v xv H1 rel re rv post => by
    refine ⟨F, ρ, env, h, rel, re, ?_⟩
    cases eo : mo env h with
    | stuck => rw [eo] at post; exact post
    | exc n fs h2 => rw [eo] at post; exact fun F' ρ' H' d ws s z q u => post F' ρ' H' σ d ws s (re.mono s.f s.r) z q u
    | ok o h2 =>
      rw [eo] at post
      dsimp only [Res.then] at post
      intro F2 ρ2 H2 xo s2 ro
      have re2 := re.mono s2.f s2.r
      refine ⟨F2, ρ2, env, h2, s2.rel, re2, ?_⟩
      replace post := PostS.shift s2 post
      cases ei : mi env h2 with
      | stuck => rw [ei] at post; exact post
      | exc n fs h3 => rw [ei] at post; exact fun F' ρ' H' d ws s z q u => post F' ρ' H' σ d ws s (re2.mono s.f s.r) z q u
      | ok i h3 =>
        rw [ei] at post
        dsimp only [Res.then] at post
        intro F3 ρ3 H3 xi s3 ri
        exact hk F3 ρ3 env h3 o i v xo xi xv H3 s3.rel (re2.mono s3.f s3.r) (ro.mono s3.f s3.r) ri ((rv.mono s2.f s2.r).mono s3.f s3.r) (PostS.shift s3 post)
theorem sm_stL {mv mo mi : ME} (h : PS X st (tAsg (tE c W mv) (gSub (tE c W mo) (tE c W mi) rSetL))) (hd : PS X st (sDPut (tE c W mo) (tE c W mi) (tE c W mv))) : PS X st (tS c W (mStIx mv mo mi)) := ps2 h hd fun D σ H t => by
  have t0 := t
  obtain ⟨F, ρ, env, h, rel, re, post⟩ := t
  -- which of the two it is, the mirror tells
  by_cases hl : ∃ v h1 o h2 i h3 n xs, mv env h = .ok v h1 ∧ mo env h1 = .ok o h2 ∧ mi env h2 = .ok i h3 ∧ o = .ref n ∧ h3.get n = some (.lst xs)
  · left
    obtain ⟨v, h1, o, h2, i, h3, n, xs, e1, e2, e3, eo, en⟩ := hl
    subst eo
    refine ⟨F, ρ, env, h, rel, re, ?_⟩
    rw [e1]
    intro F1 ρ1 H1 xv s1 rv
    refine ⟨F1, ρ1, env, h1, s1.rel, re.mono s1.f s1.r, ?_⟩
    rw [e2]
    intro F2 ρ2 H2 xo s2 ro
    refine ⟨F2, ρ2, env, h2, s2.rel, (re.mono s1.f s1.r).mono s2.f s2.r, ?_⟩
    rw [e3]
    intro F3 ρ3 H3 xi s3 ri
    unfold mStIx at post
    rw [e1] at post
    dsimp only [Res.then] at post
    rw [e2] at post
    dsimp only [Res.then] at post
    rw [e3] at post
    dsimp only [Res.then, kStIx, stIx] at post
    rw [en] at post
    dsimp only at post
    obtain ⟨d, ex, ed⟩ := ro.mono s3.f s3.r
    subst ex
    obtain ⟨d', ed', _, vs, hv, rvs⟩ := s3.rel.cell n _ en
    rw [ed] at ed'; cases ed'
    cases i with
    | int k =>
      cases ri
      dsimp only at post
      cases ej : ixN xs.length k with
      | none => rw [ej] at post; exact post.elim
      | some j =>
        rw [ej] at post
        dsimp only [Option.map] at post
        have s13 := (s1.trans s2).trans s3
        refine ⟨d, vs, k, j, rfl, rfl, hv, by rw [← rvs.length]; exact ej, ?_⟩
        have st : Step c F3 ρ3 h3 H3 F3 ρ3 (h3.put n (.lst (xs.set j v))) (upd H3 d (.lst (vs.set j xv))) := Step.mut s3.rel en ed ⟨_, upd_same, repL_set ((rv.mono s2.f s2.r).mono s3.f s3.r) j rvs⟩
        exact post _ _ _ σ (s13.trans st) (re.mono s13.f s13.r)
    | _ => exact post.elim
  · right
    unfold mStIx at post
    refine ⟨F, ρ, env, h, rel, re, ?_⟩
    cases e1 : mv env h with
    | stuck => rw [e1] at post; exact post
    | exc n fs h2 => rw [e1] at post; exact fun F' ρ' H' d ws s z q u => post F' ρ' H' σ d ws s (re.mono s.f s.r) z q u
    | ok v h1 =>
      rw [e1] at post
      dsimp only [Res.then] at post
      intro F1 ρ1 H1 xv s1 rv
      have re1 := re.mono s1.f s1.r
      replace post := PostS.shift s1 post
      refine ⟨F1, ρ1, env, h1, s1.rel, re1, ?_⟩
      cases e2 : mo env h1 with
      | stuck => rw [e2] at post; exact post
      | exc n fs h2 => rw [e2] at post; exact fun F' ρ' H' d ws s z q u => post F' ρ' H' σ d ws s (re1.mono s.f s.r) z q u
      | ok o h2 =>
        rw [e2] at post
        dsimp only [Res.then] at post
        intro F2 ρ2 H2 xo s2 ro
        have re2 := re1.mono s2.f s2.r
        replace post := PostS.shift s2 post
        refine ⟨F2, ρ2, env, h2, s2.rel, re2, ?_⟩
        cases e3 : mi env h2 with
        | stuck => rw [e3] at post; exact post
        | exc n fs h2 => rw [e3] at post; exact fun F' ρ' H' d ws s z q u => post F' ρ' H' σ d ws s (re2.mono s.f s.r) z q u
        | ok i h3 =>
          rw [e3] at post
          dsimp only [Res.then] at post
          intro F3 ρ3 H3 xi s3 ri
          have re3 := re2.mono s3.f s3.r
          replace post := PostS.shift s3 post
          replace rv := (rv.mono s2.f s2.r).mono s3.f s3.r
          replace ro := ro.mono s3.f s3.r
          have rel3 := s3.rel
          unfold kStIx stIx at post
          cases o with
          | ref n =>
            dsimp only at post
            cases en : h3.get n with
            | none => rw [en] at post; exact post.elim
            | some q =>
              rw [en] at post
              obtain ⟨d, ex, ed⟩ := ro
              subst ex
              obtain ⟨d', ed', _, cd⟩ := rel3.cell n q en
              rw [ed] at ed'; cases ed'
              cases q with
              | lst xs => exact (hl ⟨v, h1, .ref n, h2, i, h3, n, xs, e1, e2, e3, rfl, en⟩).elim
              | obj _ _ => exact post.elim
              | dct kvs =>
                obtain ⟨ws, hw, rw'⟩ := cd
                dsimp only at post
                cases ek : keyP i with
                | none => rw [ek] at post; exact post.elim
                | some k =>
                  rw [ek] at post
                  dsimp only at post
                  by_cases hz : kvs.length < sizeLine
                  · rw [if_pos hz] at post
                    have st : Step c F3 ρ3 h3 H3 F3 ρ3 (h3.put n (.dct (putP kvs k v))) (upd H3 d (.dK (putK ws k xv))) := Step.mut rel3 en ed ⟨_, upd_same, repD_put rv rw'⟩
                    exact ⟨d, _, rfl, .inl ⟨ws, k, hw, keyP_ok ri ek, by rw [← repD_length rw']; exact hz, rfl⟩, post _ _ _ σ st re3⟩
                  · rw [if_neg hz] at post; exact post.elim
          | _ => exact post.elim
/-! ### attributes -/
def lookF : List (Str × PV) → Str → Option PV
  | [], _ => none
  | (g, p) :: r, f => if f = g then some p else lookF r f
def putFP (f : Str) (v : PV) : List (Str × PV) → List (Str × PV)
  | [] => [(f, v)]
  | (g, x) :: r => if g = f then (g, v) :: r else (g, x) :: putFP f v r
theorem lookF_ok {F : Hp} {ρ : Nat → Option Addr} {f : Str} {p : PV} : ∀ {fs : List (Str × PV)} {ws : List (Str × V)}, RepF c F ρ fs ws → lookF fs f = some p → ∃ v, ws.lookup f = some v ∧ Rep c F ρ p v
  | [], _, r, e => by cases e
  | (g, q) :: ps, _, ⟨v, r, ex, hv, t⟩, e => by
    subst ex
    simp only [lookF] at e
    by_cases hf : f = g
    · rw [if_pos hf] at e
      cases e
      exact ⟨v, by rw [hf, List.lookup_cons_self], hv⟩
    · rw [if_neg hf] at e
      obtain ⟨u, h1, h2⟩ := lookF_ok t e
      refine ⟨u, ?_, h2⟩
      have q' : (f == g) = false := by simpa using hf
      rw [List.lookup_cons, q']
      exact h1
theorem lookF_none {F : Hp} {ρ : Nat → Option Addr} {f : Str} : ∀ {fs : List (Str × PV)} {ws : List (Str × V)}, RepF c F ρ fs ws → lookF fs f = none → ws.lookup f = none
  | [], _, r, e => by cases r; rfl
  | (g, q) :: ps, _, ⟨v, r, ex, hv, t⟩, e => by
    subst ex
    simp only [lookF] at e
    by_cases hf : f = g
    · rw [if_pos hf] at e; cases e
    · rw [if_neg hf] at e
      have q' : (f == g) = false := by simpa using hf
      rw [List.lookup_cons, q']
      exact lookF_none t e
theorem repF_put {F : Hp} {ρ : Nat → Option Addr} {f : Str} {p : PV} {x : V} (rx : Rep c F ρ p x) : ∀ {fs : List (Str × PV)} {ws : List (Str × V)}, RepF c F ρ fs ws → RepF c F ρ (putFP f p fs) (putF f x ws)
  | [], _, r => by cases r; exact ⟨x, [], rfl, rx, rfl⟩
  | (g, q) :: ps, _, ⟨v, r, ex, hv, t⟩ => by
    subst ex
    simp only [putFP, putF]
    by_cases hg : g = f
    · rw [if_pos hg, if_pos hg]; exact ⟨x, r, rfl, rx, t⟩
    · rw [if_neg hg, if_neg hg]; exact ⟨v, _, rfl, hv, repF_put rx t⟩
theorem repF_length {F : Hp} {ρ : Nat → Option Addr} : ∀ {fs : List (Str × PV)} {ws : List (Str × V)}, RepF c F ρ fs ws → fs.length = ws.length
  | [], _, r => by cases r; rfl
  | (g, p) :: ps, _, ⟨v, r, e, hv, t⟩ => by subst e; rw [List.length_cons, List.length_cons, repF_length t]
/-- an instance's class and fields -/
def asO (p : PV) (h : MH) : Option (Str × List (Str × PV)) := match p with
  | .obj n fs => some (n, fs)
  | .ref i => (match h.get i with
    | some (.obj n fs) => some (n, fs)
    | _ => none)
  | _ => none
theorem asO_ok {F : Hp} {ρ : Nat → Option Addr} {h : MH} {H : Hp} {p : PV} {x : V} {n : Str} {fs : List (Str × PV)} (rel : REL c F ρ H h) (rp : Rep c F ρ p x) (e : asO p h = some (n, fs)) : ∃ d dx ws, x = .ref d ∧ H d = some (.ins (c.cl n) dx ws) ∧ RepF c F ρ fs ws := by
  cases p with
  | obj m gs =>
    cases e
    obtain ⟨d, dx, ws, ex, hd, r⟩ := rp
    exact ⟨d, dx, ws, ex, rel.at hd id, r⟩
  | ref i =>
    simp only [asO] at e
    cases g : h.get i with
    | none => rw [g] at e; cases e
    | some q =>
      rw [g] at e
      cases q with
      | obj m gs =>
        cases e
        obtain ⟨d, ex, ed⟩ := rp
        obtain ⟨d', ed', _, dx, ws, hw, r⟩ := rel.cell i _ g
        rw [ed] at ed'; cases ed'
        exact ⟨d, dx, ws, ex, hw, r⟩
      | lst _ => cases e
      | dct _ => cases e
  | _ => cases e
def kFld (cn f : Str) (p : PV) (h : MH) : Res PV := match asO p h with
  | some (n, fs) => if n = cn then (match lookF fs f with
    | some v => .ok v h
    | none => .stuck) else .stuck
  | none => .stuck
def mFld (cn f : Str) (m : ME) : ME := fun env h => (m env h).bind (kFld cn f)
theorem em_fld {cn f : Str} {m : ME} (hc : Cls X.K (cl cn)) (hn : NoAttr X.K (cl cn) f) (h : PE X e (tFld X.K (tE ⟨X.K, cl, sx⟩ W m) f)) : PE X e (tE ⟨X.K, cl, sx⟩ W (mFld cn f m)) := peI h fun σ H Q t =>
  tG.bind (R := Rep ⟨X.K, cl, sx⟩) (k := fun p _ h1 => kFld cn f p h1) t fun F ρ env h p x H1 rel re rp post => by
    unfold kFld at post
    cases g : asO p h with
    | none => rw [g] at post; exact post.elim
    | some q =>
      obtain ⟨n, fs⟩ := q
      rw [g] at post
      dsimp only at post
      by_cases en : n = cn
      · rw [if_pos en] at post
        subst en
        obtain ⟨d, dx, ws, ex, hd, r⟩ := asO_ok rel rp g
        cases gl : lookF fs f with
        | none => rw [gl] at post; exact post.elim
        | some v =>
          rw [gl] at post
          obtain ⟨u, hu, ru⟩ := lookF_ok r gl
          exact ⟨d, _, dx, ws, u, ex, hd, hc, hn, hu, post F ρ H1 u (Step.refl rel) ru⟩
      · rw [if_neg en] at post; exact post.elim
/-- self.f = e, in __init__ -/
def kStF (cn f : Str) (o v : PV) (env : MEnv) (h : MH) : SRes := match o with
  | .ref i => (match h.get i with
    | some (.obj n fs) => if n = cn ∧ fs.length < 1000 then .nx env (h.put i (.obj n (putFP f v fs))) else .stuck
    | _ => .stuck)
  | _ => .stuck
def mStF (cn f : Str) (mv mo : ME) : MS := fun env h => (mv env h).then env fun v h1 => (mo env h1).then env fun o h2 => kStF cn f o v env h2
theorem sm_stF {cn f : Str} {mv mo : ME} (hc : Cls X.K (cl cn)) (hn : NoAttr X.K (cl cn) f) (h : PS X st (sFld X.K (tE ⟨X.K, cl, sx⟩ W mo) (tE ⟨X.K, cl, sx⟩ W mv) f)) : PS X st (tS ⟨X.K, cl, sx⟩ W (mStF cn f mv mo)) := psI h fun D σ H t =>
  tS.bind (R := Rep ⟨X.K, cl, sx⟩) (k := fun v env h1 => (mo env h1).then env fun o h2 => kStF cn f o v env h2) t fun F ρ env h v xv H1 rel re rv post => by
    refine ⟨F, ρ, env, h, rel, re, ?_⟩
    cases eo : mo env h with
    | stuck => rw [eo] at post; exact post
    | exc n fs h2 => rw [eo] at post; exact fun F' ρ' H' d ws s z q u => post F' ρ' H' σ d ws s (re.mono s.f s.r) z q u
    | ok o h2 =>
      rw [eo] at post
      dsimp only [Res.then] at post
      intro F2 ρ2 H2 xo s2 ro
      replace post := PostS.shift s2 post
      unfold kStF at post
      cases o with
      | ref i =>
        dsimp only at post
        cases g : h2.get i with
        | none => rw [g] at post; exact post.elim
        | some q =>
          rw [g] at post
          cases q with
          | obj n fs =>
            dsimp only at post
            by_cases hz : n = cn ∧ fs.length < 1000
            · rw [if_pos hz] at post
              obtain ⟨en, hz⟩ := hz
              subst en
              obtain ⟨d, ex, ed⟩ := ro
              subst ex
              obtain ⟨d', ed', _, dx, ws, hw, r⟩ := s2.rel.cell i _ g
              rw [ed] at ed'; cases ed'
              refine ⟨d, _, dx, ws, rfl, hw, hc, hn, by rw [← repF_length r]; exact hz, ?_⟩
              have st : Step ⟨X.K, cl, sx⟩ F2 ρ2 h2 H2 F2 ρ2 (h2.put i (.obj n (putFP f v fs))) (upd H2 d (.ins (cl n) dx (putF f xv ws))) := Step.mut s2.rel g ed ⟨dx, _, upd_same, repF_put (rv.mono s2.f s2.r) r⟩
              exact post _ _ _ σ st (re.mono s2.f s2.r)
            · rw [if_neg hz] at post; exact post.elim
          | lst _ => exact post.elim
          | dct _ => exact post.elim
      | _ => exact post.elim
end
end Mi

/-! Mi8: == and != by an own __eq__, slices, repr, dict(pairs). -/
namespace Mi
open PySem PySem.Spec PyProof.Rows L2
/-! ### != where a class has __eq__ alone -/
section
variable {prog : Program} {w : World} {A : Around} {E : Value → Shared → Prop} {s : Shared} {K : PySem.W.Frag} {x C f : Addr} {ox : Obj} {od : Option Obj} {b tb : Value}
open PySem.W in
theorem ne_by_eq {Q : Value → Shared → Prop} (hu : A.units + 1 < cLine) (kin : K.In s.heap) (I : InstAt s.heap x ox C od) (hb : Looks (model prog w) s.heap (typeOf b) tb) (hn : notFirst K C tb = true)
    (hs : findIn K (.ref C) "__ne__" = some (some (.builtin "object.__ne__"))) (he : findIn K (.ref C) "__eq__" = some (some (.ref f))) (hf : isFn K (.ref f) = true) (hm : mroIn K C (.type "object") = some true)
    (h : wpAny (model prog w) A.in1 (call (.ref f) [.ref x, b]) (fun v s' => ∃ k, v = .bool k ∧ Q (.bool (!k)) s') E s) : wpAny (model prog w) A (richCompare .NotEq (.ref x) b) Q E s := by
  have hbs : bindSpecial (.builtin "object.__ne__") (.ref x) = pure (.builtin "object.__ne__", [.ref x]) := by rfl
  have inner : wpAny (model prog w) A.in1 (Builtin.«object.__ne__» ⟨[.ref x, b], []⟩) (fun fin s' => ∃ k, fin = .done (.ret (.bool (!k))) ∧ Q (.bool (!k)) s') E s := by
    unfold Builtin.«object.__ne__»
    repeat (first
      | with_reducible refine wpAny_cRoomFor (show A.in1.units < cLine from hu) ?_
      | (refine wpAny_bind (m := callSpecialIfBound? (.ref x) (Str.ofString "__eq__") [b]) (ifBound_K kin I he hf (wpAny_mono h (fun r s' hr => by
          obtain ⟨k, rfl, hq⟩ := hr
          repeat (first | exact ⟨k, rfl, hq⟩ | exact wpAny_pure ⟨k, rfl, hq⟩ | (refine wpAny_bind (m := truthy (.bool _)) (wpAny_truthy_bool ?_)) | wp_step)) fun _ _ e => e)))
      | wp_step)
  have sub : Looks (model prog w) s.heap (isInstance (.ref x) (.type "object")) true := I.type.andThen (looks_mroIn kin hm)
  have one : wpAny (model prog w) A (tryCompare (.ref x) "__ne__" b) (fun r s' => ∃ k, r = some (.bool k) ∧ Q (.bool k) s') E s := by
    simp only [tryCompare, callSpecialIfBound?, bindSpecialIfBound?]
    refine wpAny_bind (wpAny_holding (wpAny_bind (wpAny_bind (wpAny_bind (I.type.here ((looks_findIn kin hs).here ?_))))))
    refine wpAny_bind (wpAny_askSetting (wpAny_ite ?_))
    have fin : wpAny (model prog w) A (call (.builtin "object.__ne__") ([.ref x] ++ [b]) >>= fun v => pure (some v)) (fun r s' => ∃ k, r = some (.bool k) ∧ Q (.bool k) s') E s := by
      refine wpAny_bind (wpAny_call (codeAny_call_builtin (by decide +kernel) F.cmpEntry_ne (check_slot F.cmpKind_ne F.cmpSplit_ne sub (F.cmpArgs_ne _ _) (wpAny_mono inner (fun fi s' q => ?_) fun _ _ z => z))))
      obtain ⟨k, rfl, q⟩ := q
      exact wpAny_pure ⟨!k, rfl, q⟩
    split
    · rw [hbs]
      exact wpAny_bind (wpAny_pure (wpAny_pure (wpAny_mono fin (fun r s' q => by
        obtain ⟨k, rfl, q⟩ := q
        exact wpAny_pure ⟨k, rfl, q⟩) fun _ _ z => z)))
    · rw [hbs]
      exact wpAny_tryCatch (wpAny_bind (wpAny_pure (wpAny_pure (wpAny_mono fin (fun r s' q => by
        obtain ⟨k, rfl, q⟩ := q
        exact wpAny_pure ⟨k, rfl, q⟩) fun _ _ z => z))))
  unfold richCompare
  simp only [oneThing_ref]
  refine wpAny_holding (wpAny_bind (wpAny_cRoomFor (Nat.lt_of_succ_lt hu) ?_))
  rw [cmpInfo_NotEq]
  dsimp only
  refine wpAny_bind (I.type.here (wpAny_bind (hb.here ?_)))
  have tail : wpAny (model prog w) A (tryCompare (.ref x) "__ne__" b) (fun r s' => ∃ k, r = some (.bool k) ∧ Q (.bool k) s') E s := one
  split
  · rename_i q
    have e : subIn K tb (.ref C) = some false := by
      rcases Bool.or_eq_true_iff.mp hn with e | e
      · rw [beq_iff_eq.mp e] at q; simp at q
      · exact beq_iff_eq.mp e
    refine wpAny_bind ((looks_subIn kin e).here ?_)
    simp only [Bool.false_eq_true, if_false]
    refine wpAny_bind (wpAny_mono tail (fun r s' z => ?_) fun _ _ z => z)
    obtain ⟨k, rfl, z⟩ := z
    exact wpAny_pure z
  · refine wpAny_bind (wpAny_pure ?_)
    simp only [Bool.false_eq_true, if_false]
    refine wpAny_bind (wpAny_mono tail (fun r s' z => ?_) fun _ _ z => z)
    obtain ⟨k, rfl, z⟩ := z
    exact wpAny_pure z
end

/-! ### == and != of an instance -/
section
variable {X : Cx} {cl : Str → Addr} {sx : Option (Addr × Value × Option Addr)} {c : Wd} {W : WX} {n : Nat} {f C : Addr} {run : List PV → List PV → MH → Res PV} {e a b : Expr}
/-- a value's type is not of a class under C: then C's own == is asked first -/
def firstOk (K : PySem.W.Frag) (C : Addr) (tb : Value) : Bool := PySem.W.notFirst K C tb
/-- calls at one unit deeper -/
def CalleeD (X : Cx) (c : Wd) (W : WX) (fv : Value) (n : Nat) (run : List PV → MH → Res PV) : Prop :=
  ∀ (A : Around) (pins : List (Addr × Obj)) (s : Shared) (σ : L2.St) (H : Hp) (vs : List V) (us : List Value) (Q : VK), (A = X.A ∨ A = X.A.in1) → Inv X pins σ H s → Vals vs us → us.length = n →
    (∃ F ρ h ps, REL c F ρ H h ∧ RepL c F ρ ps vs ∧ PostG c (Rep c) W F ρ h H σ Q (run ps h)) →
    wpAny (model X.prog X.w) A (call fv us) (EP X pins σ Q) X.xe s
theorem pick_all {α : Type} : ∀ l : List α, pick (List.range l.length) l = l
  | [] => rfl
  | x :: r => by
    unfold pick
    rw [List.length_cons, List.range_succ_eq_map, List.filterMap_cons]
    simp only [List.getElem?_cons_zero, List.filterMap_map]
    have e : ((fun i => (x :: r)[i]?) ∘ Nat.succ) = fun i => r[i]? := by
      funext i
      simp
    rw [e]
    exact congrArg (x :: ·) (pick_all r)
theorem calleeD_fn {k : Nat} {fd : FuncData} {ps : List Str} {run : List PV → MH → Res PV} (G : FG X.prog X.w X.K X.mg X.base k f fd ps (spM c run)) (gd : X.A.guards = some []) (hr : Room (k + 1) X.A) (B : BindM X.K fd ps n [] (List.range n) [] []) (hn : ps.length = n) (tk : Takes X W) :
    CalleeD X c W (.ref f) n run := by
  intro A pins s σ H vs us Q hA I rv hl ⟨F, ρ, h, ps', rel, rp, post⟩
  have gA : A.guards = some [] := by rcases hA with e | e <;> (rw [e]; exact gd)
  have rA : Room k A := by
    rcases hA with e | e
    · rw [e]; exact hr.mono (Nat.le_succ _)
    · rw [e]; exact hr.in1
  have e0 : Env0 X.prog X.w X.K X.mg X.base A X.stack s H := by
    have z := I.env0
    refine ⟨?_, z.mod, z.bs, z.bsz, z.funs, z.frf, z.hok, z.bare⟩
    rcases hA with e | e <;> (rw [e]; exact z.frames)
  have pk : pick (List.range n) (us ++ ([] ++ [])) = us := by
    rw [List.append_nil, List.append_nil, ← hl]
    exact pick_all us
  have bd := B.to s us [] I.kIn hl rfl
  rw [pk] at bd
  have want : spM c run vs H Q (WE W σ) := ⟨F, ρ, h, ps', rel, rp, post_σ (fun _ _ _ z => z) post⟩
  refine wpAny_call (codeAny_mono (G.go A X.stack s H ⟨us, []⟩ us vs Q (WE W σ) gA rA e0 bd rv want) fun r s' done => ?_)
  cases r with
  | error er => exact tk er s' (XE.of_call I (fun _ _ _ z => z) done)
  | ok fl =>
    cases fl with
    | ret u => exact I.after done
    | next => exact done.elim
    | brk => exact done.elim
    | cont => exact done.elim
/-- what the class at C says of its == -/
structure EqF (K : PySem.W.Frag) (C f : Addr) : Prop where
  eq : PySem.W.findIn K (.ref C) "__eq__" = some (some (.ref f))
  fn : PySem.W.isFn K (.ref f) = true
  ne : PySem.W.findIn K (.ref C) "__ne__" = some (some (.builtin "object.__ne__"))
  mo : PySem.W.mroIn K C (.type "object") = some true
/-- the classes of the right side that do not come first -/
structure FstK (c : Wd) (cn : Str) where
  ok : Tg → Bool
  sound : ∀ t, ok t = true → PySem.W.notFirst c.K (c.cl cn) (tgV c t) = true

/-- x == y, x an instance of cn: by its own __eq__, whose answer is a truth value -/
def kTrue (neg : Bool) (v : PV) (h : MH) : Res PV := match v with
  | .bl k => .ok (.bl (if neg then !k else k)) h
  | _ => .stuck
def kEqO (cn : Str) (ok : Tg → Bool) (run : List PV → MH → Res PV) (neg : Bool) (p q : PV) (h : MH) : Res PV := match asO p h, tagP q h with
  | some (n, _), some t => if n = cn ∧ ok t = true then (run [p, q] h).bind (kTrue neg) else .stuck
  | _, _ => .stuck
def mEqO (cn : Str) (ok : Tg → Bool) (run : List PV → MH → Res PV) (neg : Bool) (ma mb : ME) : ME := fun env h => (ma env h).bind fun p h1 => (mb env h1).bind fun q h2 => kEqO cn ok run neg p q h2
/-- what == of such values wants -/
def rEqO (c : Wd) (W : WX) (σ : L2.St) (cn : Str) (ok : Tg → Bool) (run : List PV → MH → Res PV) (neg : Bool) : R2 := fun x y H Q => ∃ F ρ h p q, REL c F ρ H h ∧ Rep c F ρ p x ∧ Rep c F ρ q y ∧ PostG c (Rep c) W F ρ h H σ Q (kEqO cn ok run neg p q h)
theorem snd_eqO {cn : Str} {ok : Tg → Bool} {run : List PV → MH → Res PV} {neg : Bool} {ma mb : ME} (σ : L2.St) (H : Hp) (Q : VK) (t : tE c W (mEqO cn ok run neg ma mb) σ H Q) : tOp (rEqO c W σ cn ok run neg) (tE c W ma) (tE c W mb) σ H Q :=
  tG.bind (R := Rep c) (k := fun p env h1 => (mb env h1).bind fun q h2 => kEqO cn ok run neg p q h2) t fun F ρ env h p x H1 rel re rp post => by
    refine ⟨F, ρ, env, h, rel, re, ?_⟩
    cases em : mb env h with
    | stuck => rw [em] at post; exact post
    | exc n fs h2 => rw [em] at post; exact post
    | ok q h2 =>
      rw [em] at post
      intro F2 ρ2 H2 y s2 rq
      exact ⟨F2, ρ2, h2, p, q, s2.rel, rp.mono s2.f s2.r, rq, PostG.shift s2 post⟩
theorem run_eqO {cn : Str} {fE : Addr} {run : List PV → MH → Res PV} {neg : Bool} (kk : IsK ⟨X.K, cl, sx⟩) (fk : FstK ⟨X.K, cl, sx⟩ cn) (T : EqF X.K (cl cn) fE) (cal : CalleeD X ⟨X.K, cl, sx⟩ W (.ref fE) 2 run) (hu : X.A.units + 1 < cLine)
    {pins : List (Addr × Obj)} {s : Shared} {σ : L2.St} {H : Hp} {x y : V} {v u : Value} {Q : VK} (I : Inv X pins σ H s) (rx : RelV x v) (ry : RelV y u) (h : rEqO ⟨X.K, cl, sx⟩ W σ cn (fun t => fk.ok t && tgOk kk t) run neg x y H Q) :
    wpAny (model X.prog X.w) X.A (compareOp (if neg then .NotEq else .Eq) v u) (EP X pins σ Q) X.xe s := by
  obtain ⟨F, ρ, h, p, q, rel, rp, rq, post⟩ := h
  unfold kEqO at post
  cases ga : asO p h with
  | none => rw [ga] at post; exact post.elim
  | some nf =>
    obtain ⟨n, fs⟩ := nf
    cases gt : tagP q h with
    | none => rw [ga, gt] at post; exact post.elim
    | some t =>
      rw [ga, gt] at post
      dsimp only at post
      by_cases hc : n = cn ∧ (fk.ok t && tgOk kk t) = true
      · rw [if_pos hc] at post
        obtain ⟨en, hok⟩ := hc
        obtain ⟨ho1, ho2⟩ := Bool.and_eq_true_iff.mp hok
        subst en
        obtain ⟨d, dx, ws, ex, hd, _⟩ := asO_ok rel rp ga
        subst ex
        obtain rfl : v = Value.ref d := rx
        obtain ⟨mA, J, _⟩ := ins_get I.hok hd
        obtain ⟨od, J, _⟩ := J.look
        obtain ⟨P, Z, hp, _⟩ := kit_of I ry (tagP_ok kk rel rq gt ho2)
        have tl := Z.ty (model X.prog X.w) s.heap I.kIn hp
        have rr : Vals [V.ref d, y] [Value.ref d, u] := .cons rfl (.cons ry .nil)
        have want : ∀ (Q' : VK), (∀ k H', Q (.bl (if neg then !k else k)) H' → Q' (.bl k) H') → (∃ F ρ h ps, REL ⟨X.K, cl, sx⟩ F ρ H h ∧ RepL ⟨X.K, cl, sx⟩ F ρ ps [V.ref d, y] ∧ PostG ⟨X.K, cl, sx⟩ (Rep ⟨X.K, cl, sx⟩) W F ρ h H σ Q' (run ps h)) := fun Q' hq => by
          refine ⟨F, ρ, h, [p, q], rel, ⟨_, _, rfl, rp, _, _, rfl, rq, rfl⟩, ?_⟩
          cases er : run [p, q] h with
          | stuck => rw [er] at post; exact post
          | exc m gs h2 => rw [er] at post; exact post
          | ok w h2 =>
            rw [er] at post
            intro F' ρ' H' z st rz
            cases w with
            | bl k => cases rz; exact hq k H' (post F' ρ' H' _ st rfl)
            | _ => exact post.elim
        have both : ∀ A, (A = X.A ∨ A = X.A.in1) → wpAny (model X.prog X.w) A (call (.ref fE) [.ref d, u]) (fun r s' => ∃ k, r = .bool k ∧ EP X pins σ Q (.bool (if neg then !k else k)) s') X.xe s := fun A hA => by
          refine thn (cal A pins s σ H _ _ (fun z H' => ∃ k, z = .bl k ∧ Q (.bl (if neg then !k else k)) H') hA I rr rfl (want _ fun k H' q => ⟨k, rfl, q⟩)) fun r s' hz => ?_
          obtain ⟨z, H', I', rz, k, ez, q'⟩ := hz
          subst ez
          cases rz
          exact ⟨k, rfl, .bl _, H', I', rfl, q'⟩
        cases neg with
        | false =>
          obtain ⟨m, hF⟩ := I.fr
          refine PySem.W.cmp_K (op := .Eq) (Nat.lt_of_succ_lt hu) hF I.ok.mod.kin J tl (fk.sound t ho1) T.eq T.fn (thn (both X.A (.inl rfl)) fun r s' hz => ?_)
          obtain ⟨k, er, q'⟩ := hz
          subst er
          exact q'
        | true =>
          refine ne_by_eq hu I.kIn J tl (fk.sound t ho1) T.ne T.eq T.fn T.mo (thn (both X.A.in1 (.inr rfl)) fun r s' hz => ?_)
          obtain ⟨k, er, q'⟩ := hz
          exact ⟨k, er, q'⟩
      · rw [if_neg hc] at post; exact post.elim
theorem em_eqO {cn : Str} {fE : Addr} {run : List PV → MH → Res PV} {ma mb : ME} {pos : Pos} (kk : IsK ⟨X.K, cl, sx⟩) (fk : FstK ⟨X.K, cl, sx⟩ cn) (T : EqF X.K (cl cn) fE) (cal : CalleeD X ⟨X.K, cl, sx⟩ W (.ref fE) 2 run) (hu : X.A.units + 1 < cLine) (ha : PE X a (tE ⟨X.K, cl, sx⟩ W ma)) (hb : PE X b (tE ⟨X.K, cl, sx⟩ W mb)) :
    PE X (.Compare a [.Eq] [b] pos) (tE ⟨X.K, cl, sx⟩ W (mEqO cn (fun t => fk.ok t && tgOk kk t) run false ma mb)) := by
  refine ⟨fun pins s σ H Q I t => ?_⟩
  refine wpAny_Compare1 (bin ha hb I (snd_eqO σ H Q t) fun v u s2 x y H2 I2 rx ry q => ?_) (nomark _)
  exact run_eqO (neg := false) kk fk T cal hu I2 rx ry q
theorem em_neO {cn : Str} {fE : Addr} {run : List PV → MH → Res PV} {ma mb : ME} {pos : Pos} (kk : IsK ⟨X.K, cl, sx⟩) (fk : FstK ⟨X.K, cl, sx⟩ cn) (T : EqF X.K (cl cn) fE) (cal : CalleeD X ⟨X.K, cl, sx⟩ W (.ref fE) 2 run) (hu : X.A.units + 1 < cLine) (ha : PE X a (tE ⟨X.K, cl, sx⟩ W ma)) (hb : PE X b (tE ⟨X.K, cl, sx⟩ W mb)) :
    PE X (.Compare a [.NotEq] [b] pos) (tE ⟨X.K, cl, sx⟩ W (mEqO cn (fun t => fk.ok t && tgOk kk t) run true ma mb)) := by
  refine ⟨fun pins s σ H Q I t => ?_⟩
  refine wpAny_Compare1 (bin ha hb I (snd_eqO σ H Q t) fun v u s2 x y H2 I2 rx ry q => ?_) (nomark _)
  exact run_eqO (neg := true) kk fk T cal hu I2 rx ry q
/-- as tests -/
theorem tm_eqO {cn : Str} {fE : Addr} {run : List PV → MH → Res PV} {ma mb : ME} {pos : Pos} {neg : Bool} (kk : IsK ⟨X.K, cl, sx⟩) (fk : FstK ⟨X.K, cl, sx⟩ cn) (T : EqF X.K (cl cn) fE) (cal : CalleeD X ⟨X.K, cl, sx⟩ W (.ref fE) 2 run) (hu : X.A.units + 1 < cLine) (ha : PE X a (tE ⟨X.K, cl, sx⟩ W ma)) (hb : PE X b (tE ⟨X.K, cl, sx⟩ W mb)) :
    PT X (.Compare a [if neg then .NotEq else .Eq] [b] pos) (tT ⟨X.K, cl, sx⟩ W (mTst (mEqO cn (fun t => fk.ok t && tgOk kk t) run neg ma mb))) := by
  refine ⟨fun pins s σ H Q I t => ?_⟩
  have t' : tE ⟨X.K, cl, sx⟩ W (mEqO cn (fun t => fk.ok t && tgOk kk t) run neg ma mb) σ H fun x H' => ∃ k, x = .bl k ∧ Q k H' :=
    tG.bind (R := Rep ⟨X.K, cl, sx⟩) (k := fun p _ h1 => kBool p h1) t fun F ρ env h p x H1 rel re rp post => by
      cases p with
      | bl k => cases rp; exact ⟨k, rfl, post F ρ H1 k (Step.refl rel) rfl⟩
      | _ => exact post.elim
  have mk : behindInMarks (if neg then CmpOp.NotEq else .Eq) b = false := by cases neg <;> exact nomark _
  refine wpAny_isTrue_Compare1 (bin ha hb I (snd_eqO σ H _ t') fun v u s2 x y H2 I2 rx ry q => thn (run_eqO kk fk T cal hu I2 rx ry q) fun r s3 hz => ?_) mk
  obtain ⟨z, H3, I3, rz, k, ez, q'⟩ := hz
  subst ez
  cases rz
  exact wpAny_truthy_bool ⟨H3, I3, q'⟩
end
end Mi

/-! Mi9: slices, repr, dict(pairs), dict displays. -/
namespace Mi
open PySem PySem.Spec PyProof.Rows L2
section
variable {X : Cx} {cl : Str → Addr} {sx : Option (Addr × Value × Option Addr)} {c : Wd} {W : WX} {e a b : Expr} {pos : Pos}
/-! ### slices of lists -/
abbrev MO := MEnv → MH → Res (Option Int)
abbrev tO (c : Wd) (W : WX) (m : MO) : TO := tG c (fun _ _ (o x : Option Int) => x = o) W m
theorem poI {oe : Option Expr} {t t' : TO} (h : PO X oe t) (i : ∀ σ H Q, t' σ H Q → t σ H Q) : PO X oe t' := ⟨fun pins s σ H Q I q => h.run pins s σ H Q I (i σ H Q q)⟩
def moN : MO := fun _ h => .ok none h
theorem om_none : PO X none (tO c W moN) := poI po_none fun σ H Q ⟨F, ρ, env, h, rel, re, p⟩ => p F ρ H none (Step.refl rel) rfl
def kPart (p : PV) (h : MH) : Res (Option Int) := match p with
  | .int i => .ok (some i) h
  | _ => .stuck
def moS (m : ME) : MO := fun env h => (m env h).bind kPart
theorem om_some {m : ME} (he : PE X e (tE c W m)) : PO X (some e) (tO c W (moS m)) := poI (po_some he) fun σ H Q t =>
  tG.bind (R := Rep c) (k := fun p _ h1 => kPart p h1) t fun F ρ env h p x H1 rel re rp post => by
    cases p with
    | int i => cases rp; exact ⟨i, rfl, post F ρ H1 _ (Step.refl rel) rfl⟩
    | _ => exact post.elim
def cutP (xs : List PV) (lo hi : Option Int) : List PV := (xs.drop (HT.sIx xs.length 0 lo)).take (HT.sIx xs.length xs.length hi - HT.sIx xs.length 0 lo)
theorem RepL.drop {F : Hp} {ρ : Nat → Option Addr} : ∀ {ps : List PV} {xs : List V} (n : Nat), RepL c F ρ ps xs → RepL c F ρ (ps.drop n) (xs.drop n)
  | [], _, n, r => by cases r; simp; rfl
  | p :: ps, _, 0, r => r
  | p :: ps, _, n + 1, ⟨v, r, e, _, t⟩ => by subst e; exact RepL.drop n t
theorem RepL.take {F : Hp} {ρ : Nat → Option Addr} : ∀ {ps : List PV} {xs : List V} (n : Nat), RepL c F ρ ps xs → RepL c F ρ (ps.take n) (xs.take n)
  | [], _, n, r => by cases r; simp; rfl
  | p :: ps, _, 0, ⟨v, r, e, _, t⟩ => by subst e; rfl
  | p :: ps, _, n + 1, ⟨v, r, e, h, t⟩ => by subst e; exact ⟨v, _, rfl, h, RepL.take n t⟩
theorem repL_cut {F : Hp} {ρ : Nat → Option Addr} {ps : List PV} {xs : List V} {lo hi : Option Int} (r : RepL c F ρ ps xs) : RepL c F ρ (cutP ps lo hi) (cutV xs lo hi) := by
  unfold cutP cutV
  rw [r.length]
  exact (r.drop _).take _
def kSl (p : PV) (lo hi : Option Int) (h : MH) : Res PV := match asL p h with
  | some xs => .ok (.lst (cutP xs lo hi)) h
  | none => .stuck
def mSl (m : ME) (ml mh : MO) : ME := fun env h => (m env h).bind fun p h1 => (ml env h1).bind fun lo h2 => (mh env h2).bind fun hi h3 => kSl p lo hi h3
theorem em_sl {m : ME} {ml mh : MO} (hh : PE X e (tSl (rSlL X.K) (tE ⟨X.K, cl, sx⟩ W m) (tO ⟨X.K, cl, sx⟩ W ml) (tO ⟨X.K, cl, sx⟩ W mh))) : PE X e (tE ⟨X.K, cl, sx⟩ W (mSl m ml mh)) := peI hh fun σ H Q t =>
  tG.bind (R := Rep ⟨X.K, cl, sx⟩) (k := fun p env h1 => (ml env h1).bind fun lo h2 => (mh env h2).bind fun hi h3 => kSl p lo hi h3) t fun F ρ env h p x H1 rel re rp post => by
    refine ⟨F, ρ, env, h, rel, re, ?_⟩
    cases e1 : ml env h with
    | stuck => rw [e1] at post; exact post
    | exc n fs h2 => rw [e1] at post; exact post
    | ok lo h2 =>
      rw [e1] at post
      dsimp only [Res.bind] at post
      intro F2 ρ2 H2 lo' s2 el
      subst el
      have re2 := re.mono s2.f s2.r
      replace post := PostG.shift s2 post
      refine ⟨F2, ρ2, env, h2, s2.rel, re2, ?_⟩
      cases e2 : mh env h2 with
      | stuck => rw [e2] at post; exact post
      | exc n fs h3 => rw [e2] at post; exact post
      | ok hi h3 =>
        rw [e2] at post
        dsimp only [Res.bind] at post
        intro F3 ρ3 H3 hi' s3 eh
        subst eh
        replace post := PostG.shift s3 post
        unfold kSl at post
        cases g : asL p h3 with
        | none => rw [g] at post; exact post.elim
        | some xs =>
          rw [g] at post
          obtain ⟨d, vs, ex, hv, r⟩ := asL_ok s3.rel ((rp.mono s2.f s2.r).mono s3.f s3.r) g
          refine ⟨d, vs, ex, hv, fun q hq => ?_⟩
          have st : Step ⟨X.K, cl, sx⟩ F3 ρ3 h3 H3 (upd F3 q (.lst (cutV vs lo' hi'))) ρ3 h3 (upd H3 q (.lst (cutV vs lo' hi'))) := Step.newF s3.rel hq
          exact post _ _ _ _ st ⟨q, _, rfl, upd_same, (repL_cut r).mono st.f st.r⟩
/-! ### repr of data -/
def reprP (p : PV) (h : MH) : Option Str := match p with
  | .lst xs => (toDs xs).bind fun ds => if PyData.showable (.list ds) = true ∧ PyData.hasDict (.list ds) = false ∧ PyData.depth (.list ds) ≤ 60 ∧ (PyData.shown (.list ds)).length ≤ sizeLine then some (PyData.shown (.list ds)) else none
  | _ => none
def pRepr : PL := fun ps h => match ps with
  | [p] => (reprP p h).map fun t => (.str t, h)
  | _ => none
def rRepr (K : PySem.W.Frag) : List V → Hp → VK → Prop := fun xs H Q => ∃ (d : Addr) (y : PyData), xs = [.ref d] ∧ Dp K H (.ref d) y ∧ y.showable = true ∧ y.hasDict = false ∧ y.depth ≤ 60 ∧ y.shown.length ≤ sizeLine ∧ Q (.str y.shown) H
theorem call_repr_data {k : Nat} (gd : X.A.guards = some []) (hr : Room k X.A) : CallR X (.builtin "repr") (rRepr X.K) := by
  intro pins s σ H xs us Q I r h
  obtain ⟨d, y, rfl, hd, h1, h2, h3, h4, q⟩ := h
  obtain ⟨u, rfl, ru⟩ := vals1 r
  obtain rfl : u = Value.ref d := ru
  obtain ⟨as, rd⟩ := Dp.reads I y (.ref d) (.ref d) hd rfl
  have un := hr.units
  exact repr_of_reads' rd h1 (PyData.noDict_hsm h2) gd (by omega) (fun _ _ z => z) (fun h' t tk kp => ⟨.str y.shown, H, I.kept (t' := tk) kp, ⟨t, rfl⟩, q⟩) h4
theorem o_repr : OA c (rRepr c.K) pRepr := fun F ρ h H ps xs v h' Q rel rp e k => by
  unfold pRepr at e
  split at e
  · rename_i p
    obtain ⟨x, r, ex, rx, rn⟩ := rp
    cases rn; subst ex
    cases p with
    | lst ys =>
      simp only [reprP] at e
      cases g : toDs ys with
      | none => rw [g] at e; cases e
      | some ds =>
        rw [g] at e
        dsimp only [Option.bind] at e
        split at e
        · rename_i hc
          cases e
          have dp := toD_ok rel rx (show toD (.lst ys) = some (.list ds) by simp only [toD, g]; rfl)
          obtain ⟨d, vs, ed, _⟩ := rx
          subst ed
          exact ⟨d, _, rfl, dp, hc.1, hc.2.1, hc.2.2.1, hc.2.2.2, k F ρ H _ (Step.refl rel) rfl⟩
        · cases e
    | _ => cases e
  · cases e
/-! ### dict(pairs) -/
def pairsP : List PV → Option (List (Key × PV))
  | [] => some []
  | .tup [k, v] :: ps => (match keyP k, pairsP ps with
    | some k, some r => some ((k, v) :: r)
    | _, _ => none)
  | _ => none
def mergeP (kvs more : List (Key × PV)) : List (Key × PV) := more.foldl (fun acc q => putP acc q.1 q.2) kvs
theorem repD_merge {F : Hp} {ρ : Nat → Option Addr} : ∀ {more : List (Key × PV)} {zs : List (Key × V)} {kvs : List (Key × PV)} {ws : List (Key × V)}, RepD c F ρ more zs → RepD c F ρ kvs ws → RepD c F ρ (mergeP kvs more) (mergeK ws zs)
  | [], _, _, _, r, s => by cases r; exact s
  | (k, p) :: ps, _, kvs, ws, ⟨v, r, e, hv, t⟩, s => by
    subst e
    have z : RepD c F ρ (mergeP (putP kvs k p) ps) (mergeK (putK ws k v) r) := repD_merge t (repD_put hv s)
    exact z
theorem pairsP_ok {F : Hp} {ρ : Nat → Option Addr} {h : MH} {H : Hp} (rel : REL c F ρ H h) : ∀ {ps : List PV} {xs : List V} {kvs : List (Key × PV)}, RepL c F ρ ps xs → pairsP ps = some kvs → ∃ (as : List Addr) (ws : List (Key × V)), xs = as.map V.ref ∧ Paired (fun p kv => SqT c.K H p [kV kv.1, kv.2]) as ws ∧ RepD c F ρ kvs ws
  | [], _, _, r, e => by cases e; cases r; exact ⟨[], [], rfl, .nil, rfl⟩
  | p :: ps, _, kvs, ⟨v, vs, ex, r, rs⟩, e => by
    subst ex
    unfold pairsP at e
    split at e
    · rename_i eq
      cases eq
    · rename_i k w ps' eq
      cases eq
      cases gk : keyP k with
      | none => rw [gk] at e; cases e
      | some k' =>
        cases gr : pairsP ps with
        | none => rw [gk, gr] at e; cases e
        | some kr =>
          rw [gk, gr] at e
          cases e
          obtain ⟨d, us, ev, hd, u1, r1, e1, rk, u2, r2, e2, rw2, rn⟩ := r
          cases rn
          subst e2
          subst e1
          subst ev
          obtain ⟨as, ws, h1, h2, h3⟩ := pairsP_ok rel rs gr
          have kk := keyP_ok rk gk
          refine ⟨d :: as, (k', u2) :: ws, by rw [h1]; rfl, .cons ?_ h2, u2, ws, rfl, rw2, h3⟩
          have := rel.sqT hd
          rw [kk] at this
          exact this
    · cases e
def kDictP (ps : List PV) (h : MH) : Option (List (Key × PV)) := match ps with
  | [p] => (match asL p h with
    | some xs => (pairsP xs).map (mergeP [])
    | none => none)
  | _ => none
def pDictP : PL := fun ps h => (kDictP ps h).map fun kvs => (.dct kvs, h)
def pDictPC : PL := fun ps h => (kDictP ps h).map fun kvs => (.ref h.nx, h.new (.dct kvs))
theorem kDictP_ok {F : Hp} {ρ : Nat → Option Addr} {h : MH} {H : Hp} {ps : List PV} {xs : List V} {kvs : List (Key × PV)} (rel : REL c F ρ H h) (rp : RepL c F ρ ps xs) (e : kDictP ps h = some kvs) :
    ∃ (d : Addr) (as : List Addr) (ws : List (Key × V)), xs = [.ref d] ∧ SqL c.K H d (as.map V.ref) ∧ Paired (fun p kv => SqT c.K H p [kV kv.1, kv.2]) as ws ∧ RepD c F ρ kvs (mergeK [] ws) := by
  unfold kDictP at e
  split at e
  · rename_i p
    obtain ⟨x, r, ex, rx, rn⟩ := rp
    cases rn; subst ex
    cases g : asL p h with
    | none => rw [g] at e; cases e
    | some ys =>
      rw [g] at e
      dsimp only at e
      cases g2 : pairsP ys with
      | none => rw [g2] at e; cases e
      | some kr =>
        rw [g2] at e
        cases e
        obtain ⟨d, vs, ed, hv, rr⟩ := asL_ok rel rx g
        obtain ⟨as, ws, h1, h2, h3⟩ := pairsP_ok rel rr g2
        subst ed
        rw [h1] at hv
        exact ⟨d, as, ws, rfl, hv, h2, repD_merge h3 rfl⟩
  · cases e
def rDictP (K : PySem.W.Frag) : List V → Hp → VK → Prop := fun xs H Q => ∃ (a : Addr) (ps : List Addr) (kvs : List (Key × V)), xs = [.ref a] ∧ SqL K H a (ps.map V.ref) ∧ Paired (fun p kv => SqT K H p [kV kv.1, kv.2]) ps kvs ∧ ∀ p, H p = none → Q (.ref p) (upd H p (.dK (mergeK [] kvs)))
theorem o_dictP : OA c (rDictP c.K) pDictP := fun F ρ h H ps xs v h' Q rel rp e k => by
  unfold pDictP at e
  cases g : kDictP ps h with
  | none => rw [g] at e; cases e
  | some kvs =>
    rw [g] at e
    cases e
    obtain ⟨d, as, ws, ex, hv, hp, r⟩ := kDictP_ok rel rp g
    refine ⟨d, as, ws, ex, hv, hp, fun q hq => ?_⟩
    have st : Step c F ρ h H (upd F q (.dK (mergeK [] ws))) ρ h (upd H q (.dK (mergeK [] ws))) := Step.newF rel hq
    exact k _ _ _ _ st ⟨q, _, rfl, upd_same, r.mono st.f st.r⟩
theorem o_dictPC : OA c (rDictP c.K) pDictPC := fun F ρ h H ps xs v h' Q rel rp e k => by
  unfold pDictPC at e
  cases g : kDictP ps h with
  | none => rw [g] at e; cases e
  | some kvs =>
    rw [g] at e
    cases e
    obtain ⟨d, as, ws, ex, hv, hp, r⟩ := kDictP_ok rel rp g
    refine ⟨d, as, ws, ex, hv, hp, fun q hq => ?_⟩
    have hR := rel.fresh
    have st : Step c F ρ h H F (updR ρ h.nx q) (h.new (.dct kvs)) (upd H q (.dK (mergeK [] ws))) := Step.newC rel hq ⟨_, upd_same, r.mono Le.refl (LeR.updR hR)⟩
    exact k _ _ _ _ st ⟨q, rfl, by unfold updR; rw [if_pos rfl]⟩
end
end Mi

/-! MiX: own exceptions with a field: raise, try .. except .. as, the field, isinstance of what is held. -/
namespace Mi
open PySem PySem.Spec PyProof.Rows L2

/-! ### the class of an exception that has its dict -/
section
open PySem.W
variable {prog : Program} {w : World} {A : Around} {E : Value → Shared → Prop} {s : Shared} {K : Frag} {x D : Addr} {ox od : Obj}
theorem class_of_exc {Q : Option Value → Shared → Prop} (C : ExcC K D) (kin : K.In s.heap) (I : InstAt s.heap x ox D (some od)) (hq : Q (some (.ref D)) { s with toks := s.toks + 1 }) : wpAny (model prog w) A (getAttr? (.ref x) "__class__") Q E s := by
  have isC : (clsIn K D).isSome = true := by
    obtain ⟨cd, hc, _⟩ := any_some C.hd
    rw [hc]; rfl
  have fo := findObj_data (od := od) isC C.ha C.hn C.ht
  obtain ⟨hp, gg, dd, tt, oo⟩ := s
  have la := I.type (M := model prog w)
  have lb := looks_findIn (M := model prog w) kin C.hg
  have lc := looks_findIn (M := model prog w) kin C.hk
  have ld := looks_find (M := model prog w) kin I fo
  have isB : Looks (model prog w) hp (isInstance (.ref x) (.type "BaseException")) true := la.andThen (looks_subIn kin C.hs)
  have n1 : (Value.builtin "BaseException.__getattribute__" == Value.builtin "object.__getattribute__") = false := by decide +kernel
  have n2 : (onTheHeap (Value.ref D) && Value.builtin "BaseException.__getattribute__" == Value.builtin "object.__getattribute__") = false := by rw [n1] <;> rfl
  unfold getAttr? getAttrBy?; unfold getAttrBy
  refine wpAny_bind (wpAny_mkText (wpAny_bind (wpAny_attempt (wpAny_holding (wpAny_bind (la.at (wpAny_bind (lb.at ?_))))))))
  show wpAny _ _ (if (onTheHeap (Value.ref D) && Value.builtin "BaseException.__getattribute__" == Value.builtin "object.__getattribute__") = true then _ else _) _ _ _
  rw [n2, if_neg Bool.false_ne_true]
  unfold getAttrByItsOwn; unfold hookBefore
  refine wpAny_bind ?_
  rw [if_pos (show onTheHeap (Value.ref D) = true from rfl)]
  refine lc.at (wpAny_bind (wpAny_attempt (wpAny_holding ?_)))
  unfold callGetattribute
  rw [show (false && onTheHeap (Value.builtin "BaseException.__getattribute__")) = false from rfl, if_neg Bool.false_ne_true]
  unfold boundAndCalled
  rw [PySem.F.excAttr_ValueError.ga.bind (.ref x)]
  refine wpAny_bind (wpAny_pure ?_)
  show wpAny _ _ (call (.builtin "BaseException.__getattribute__") [.ref x, .str "__class__" tt]) _ _ _
  refine wpAny_call (codeAny_call_builtin PySem.F.excAttr_ValueError.ga.plain PySem.F.entry_bexc_ga (@check_slot (model prog w) _ _ ⟨hp, gg, dd, tt + 1, oo⟩ "BaseException.__getattribute__" "BaseException" "__getattribute__" (.ref x) [.str "__class__" tt] [] _ (by decide +kernel) (by decide +kernel) isB (PySem.F.args_bexc_ga (.ref x) (.str "__class__" tt)) ?_))
  unfold Builtin.«object.__getattribute__»
  refine wpAny_bind (wpAny_of_eq (a := ((Value.ref x : Value), [Value.str "__class__" tt])) (by first | rfl | (simp only [slotArgs]; rfl)) ?_)
  refine wpAny_bind (wpAny_pure (wpAny_bind (la.at (wpAny_bind (ld.at ?_)))))
  show wpAny _ _ (holding [Value.builtin "object.__class__"] (call (.builtin "getset_descriptor.__get__") [.builtin "object.__class__", .ref x, .ref D]) >>= ret) _ _ _
  refine wpAny_bind (wpAny_holding (wpAny_call (class_get (s := ⟨hp, gg, dd, tt + 1, oo⟩) (ox := ox) (od := some od) kin I C.hm (wpAny_pure ?_))))
  show wpAny _ _ (handedOut (.ref D)) _ _ _
  rw [handedOut_of (v := .ref D) rfl]
  first
    | exact wpAny_pure (wpAny_pure hq)
    | exact wpAny_pure hq
    | exact wpAny_pure (wpAny_bind (wpAny_pure (wpAny_pure hq)))
theorem kit_exc (C : ExcC K D) : KitX K (.ref x) (.ref D) (fun h => InstAt h x ox D (some od)) where
  ty := fun _ _ _ I => I.type
  it := fun M h kin I => (handS_kitx_exc (x := x) (ox := { cls := .ref D, data := .fields #[] }) C.hg C.hk C.hs C.hd C.ha C.hn C.ht C.hm).it M h kin |> fun f => by
    obtain ⟨cdD, hcD, _⟩ := any_some C.hd
    unfold clsIn at hcD
    split at hcD
    · rename_i ho
      intro A' Q' E' s' kp q
      unfold isType; unfold loadHead
      exact wpAny_bind (wpAny_loadPart (kp _ _ (kin _ _ ho)) (wpAny_pure q))
    · cases hcD
  ne := (handS_kitx_exc (x := x) (ox := ox) C.hg C.hk C.hs C.hd C.ha C.hn C.ht C.hm).ne
  ca := fun kin I k => class_of_exc C kin I k
end

/-! ### nothing of the held exception is left -/
mutual
def cleanP : PV → Bool
  | .tup xs => cleanL xs
  | .lst xs => cleanL xs
  | .dct kvs => cleanD kvs
  | .obj _ fs => cleanF fs
  | .xc _ _ => false
  | _ => true
def cleanL : List PV → Bool
  | [] => true
  | p :: ps => cleanP p && cleanL ps
def cleanD : List (Key × PV) → Bool
  | [] => true
  | (_, p) :: ps => cleanP p && cleanD ps
def cleanF : List (Str × PV) → Bool
  | [] => true
  | (_, p) :: ps => cleanP p && cleanF ps
end
def cleanC : Cell → Bool
  | .lst xs => cleanL xs
  | .dct kvs => cleanD kvs
  | .obj _ fs => cleanF fs
def cleanH (h : MH) : Bool := h.cs.all fun q => cleanC q.2
def cleanE (env : MEnv) : Bool := env.all fun o => match o with
  | some p => cleanP p
  | none => true
section
variable {K : PySem.W.Frag} {cl : Str → Addr} {sx sy : Option (Addr × Value × Option Addr)} {F : Hp} {ρ : Nat → Option Addr}
mutual
theorem Rep.clean : ∀ {p : PV} {x : V}, cleanP p = true → Rep ⟨K, cl, sx⟩ F ρ p x → Rep ⟨K, cl, sy⟩ F ρ p x
  | .non, _, _, h => h
  | .bl _, _, _, h => h
  | .int _, _, _, h => h
  | .str _, _, _, h => h
  | .tup _, _, e, ⟨a, vs, ex, h, r⟩ => ⟨a, vs, ex, h, RepL.clean (by simpa only [cleanP] using e) r⟩
  | .lst _, _, e, ⟨a, vs, ex, h, r⟩ => ⟨a, vs, ex, h, RepL.clean (by simpa only [cleanP] using e) r⟩
  | .dct _, _, e, ⟨a, vs, ex, h, r⟩ => ⟨a, vs, ex, h, RepD.clean (by simpa only [cleanP] using e) r⟩
  | .obj _ _, _, e, ⟨a, dx, vs, ex, h, r⟩ => ⟨a, dx, vs, ex, h, RepF.clean (by simpa only [cleanP] using e) r⟩
  | .raw _, _, _, h => h
  | .ref _, _, _, h => h
  | .scr _, _, _, h => h
  | .xc _ _, _, e, _ => by simp only [cleanP] at e; cases e
theorem RepL.clean : ∀ {p : List PV} {x : List V}, cleanL p = true → RepL ⟨K, cl, sx⟩ F ρ p x → RepL ⟨K, cl, sy⟩ F ρ p x
  | [], _, _, h => h
  | _ :: _, _, e, ⟨v, r, ex, h, t⟩ => by
    simp only [cleanL, Bool.and_eq_true] at e
    exact ⟨v, r, ex, Rep.clean e.1 h, RepL.clean e.2 t⟩
theorem RepD.clean : ∀ {p : List (Key × PV)} {x : List (Key × V)}, cleanD p = true → RepD ⟨K, cl, sx⟩ F ρ p x → RepD ⟨K, cl, sy⟩ F ρ p x
  | [], _, _, h => h
  | (_, _) :: _, _, e, ⟨v, r, ex, h, t⟩ => by
    simp only [cleanD, Bool.and_eq_true] at e
    exact ⟨v, r, ex, Rep.clean e.1 h, RepD.clean e.2 t⟩
theorem RepF.clean : ∀ {p : List (Str × PV)} {x : List (Str × V)}, cleanF p = true → RepF ⟨K, cl, sx⟩ F ρ p x → RepF ⟨K, cl, sy⟩ F ρ p x
  | [], _, _, h => h
  | (_, _) :: _, _, e, ⟨v, r, ex, h, t⟩ => by
    simp only [cleanF, Bool.and_eq_true] at e
    exact ⟨v, r, ex, Rep.clean e.1 h, RepF.clean e.2 t⟩
end
mutual
/-- outside of a suite nothing held is told of -/
theorem Rep.enter : ∀ {p : PV} {x : V}, Rep ⟨K, cl, none⟩ F ρ p x → Rep ⟨K, cl, sy⟩ F ρ p x
  | .non, _, h => h
  | .bl _, _, h => h
  | .int _, _, h => h
  | .str _, _, h => h
  | .tup _, _, ⟨a, vs, ex, h, r⟩ => ⟨a, vs, ex, h, RepL.enter r⟩
  | .lst _, _, ⟨a, vs, ex, h, r⟩ => ⟨a, vs, ex, h, RepL.enter r⟩
  | .dct _, _, ⟨a, vs, ex, h, r⟩ => ⟨a, vs, ex, h, RepD.enter r⟩
  | .obj _ _, _, ⟨a, dx, vs, ex, h, r⟩ => ⟨a, dx, vs, ex, h, RepF.enter r⟩
  | .raw _, _, h => h
  | .ref _, _, h => h
  | .scr _, _, h => h
  | .xc _ _, _, ⟨_, _, _, _, e, _⟩ => by cases e
theorem RepL.enter : ∀ {p : List PV} {x : List V}, RepL ⟨K, cl, none⟩ F ρ p x → RepL ⟨K, cl, sy⟩ F ρ p x
  | [], _, h => h
  | _ :: _, _, ⟨v, r, ex, h, t⟩ => ⟨v, r, ex, Rep.enter h, RepL.enter t⟩
theorem RepD.enter : ∀ {p : List (Key × PV)} {x : List (Key × V)}, RepD ⟨K, cl, none⟩ F ρ p x → RepD ⟨K, cl, sy⟩ F ρ p x
  | [], _, h => h
  | (_, _) :: _, _, ⟨v, r, ex, h, t⟩ => ⟨v, r, ex, Rep.enter h, RepD.enter t⟩
theorem RepF.enter : ∀ {p : List (Str × PV)} {x : List (Str × V)}, RepF ⟨K, cl, none⟩ F ρ p x → RepF ⟨K, cl, sy⟩ F ρ p x
  | [], _, h => h
  | (_, _) :: _, _, ⟨v, r, ex, h, t⟩ => ⟨v, r, ex, Rep.enter h, RepF.enter t⟩
end
theorem look_mem : ∀ {l : Cs} {i : Nat} {k : Cell}, look l i = some k → (i, k) ∈ l
  | [], _, _, e => by cases e
  | (j, q) :: r, i, k, e => by
    simp only [look] at e
    by_cases h : i = j
    · rw [if_pos h] at e; cases e; subst h; exact List.mem_cons_self ..
    · rw [if_neg h] at e; exact List.mem_cons_of_mem _ (look_mem e)
theorem REL.clean {H : Hp} {h : MH} (e : cleanH h = true) (r : REL ⟨K, cl, sx⟩ F ρ H h) : REL ⟨K, cl, sy⟩ F ρ H h :=
  ⟨r.sub, fun i k q => by
    obtain ⟨a, h1, h2, h3⟩ := r.cell i k q
    have ck : cleanC k = true := (List.all_eq_true.mp e) _ (look_mem q)
    refine ⟨a, h1, h2, ?_⟩
    cases k with
    | lst xs => obtain ⟨vs, z, w⟩ := h3; exact ⟨vs, z, w.clean ck⟩
    | dct xs => obtain ⟨vs, z, w⟩ := h3; exact ⟨vs, z, w.clean ck⟩
    | obj n xs => obtain ⟨dx, vs, z, w⟩ := h3; exact ⟨dx, vs, z, w.clean ck⟩, r.inj, r.dom⟩
theorem REL.enter {H : Hp} {h : MH} (r : REL ⟨K, cl, none⟩ F ρ H h) : REL ⟨K, cl, sy⟩ F ρ H h :=
  ⟨r.sub, fun i k q => by
    obtain ⟨a, h1, h2, h3⟩ := r.cell i k q
    refine ⟨a, h1, h2, ?_⟩
    cases k with
    | lst xs => obtain ⟨vs, z, w⟩ := h3; exact ⟨vs, z, w.enter⟩
    | dct xs => obtain ⟨vs, z, w⟩ := h3; exact ⟨vs, z, w.enter⟩
    | obj n xs => obtain ⟨dx, vs, z, w⟩ := h3; exact ⟨dx, vs, z, w.enter⟩, r.inj, r.dom⟩
theorem REnv.clean {env : MEnv} {σ : L2.St} (e : cleanE env = true) (r : REnv ⟨K, cl, sx⟩ F ρ env σ) : REnv ⟨K, cl, sy⟩ F ρ env σ :=
  ⟨r.1, fun i p q => by
    obtain ⟨x, h1, h2⟩ := r.2 i p q
    have cp : cleanP p = true := (List.all_eq_true.mp e) (some p) (List.mem_of_getElem? q)
    exact ⟨x, h1, h2.clean cp⟩⟩
theorem REnv.enter {env : MEnv} {σ : L2.St} (r : REnv ⟨K, cl, none⟩ F ρ env σ) : REnv ⟨K, cl, sy⟩ F ρ env σ :=
  ⟨r.1, fun i p q => by
    obtain ⟨x, h1, h2⟩ := r.2 i p q
    exact ⟨x, h1, h2.enter⟩⟩
theorem Step.clean {F' : Hp} {ρ' : Nat → Option Addr} {h h' : MH} {H H' : Hp} (e : cleanH h' = true) (s : Step ⟨K, cl, sx⟩ F ρ h H F' ρ' h' H') : Step ⟨K, cl, sy⟩ F ρ h H F' ρ' h' H' :=
  ⟨s.f, s.r, s.rel.clean e, s.keep, s.there, s.news, s.fnew, s.rnew⟩
end
/-! ### try .. except X as n -/
def endSuite (i : Nat) : SRes → SRes
  | .rt v h => if cleanP v = true ∧ cleanH h = true then .rt v h else .stuck
  | .nx env h => if cleanE (env.set i none) = true ∧ cleanH h = true then .nx (env.set i none) h else .stuck
  | .bk env h => if cleanE (env.set i none) = true ∧ cleanH h = true then .bk (env.set i none) h else .stuck
  | .ct env h => if cleanE (env.set i none) = true ∧ cleanH h = true then .ct (env.set i none) h else .stuck
  | _ => .stuck
def mTry (mt : Str → Option Bool) (i : Nat) (mb ms : MS) : MS := fun env h => match mb env h with
  | .exc n fs env' h' => (match mt n with
    | some true => endSuite i (ms (env'.set i (some (.xc n fs))) h')
    | some false => .exc n fs env' h'
    | none => .stuck)
  | r => r
section
variable {X : Cx} {cl : Str → Addr} {W : WX} {st : Stmt}
theorem sm_try {i : Nat} {cv : Value} {mt : Str → Option Bool} {mb ms : MS} (hmt : ∀ n b, mt n = some b → PySem.W.exmOne X.K (.ref (cl n)) cv = some b)
    (hh : PS X st (fun D σ H => tS ⟨X.K, cl, none⟩ (wAs X.K cv i (fun a cls d => tS ⟨X.K, cl, some (a, cls, d)⟩ W0 ms) W D) mb D σ H)) : PS X st (tS ⟨X.K, cl, none⟩ W (mTry mt i mb ms)) := psI hh fun D σ H t => by
  obtain ⟨F, ρ, env, h, rel, re, post⟩ := t
  refine ⟨F, ρ, env, h, rel, re, ?_⟩
  unfold mTry at post
  cases em : mb env h with
  | nx env' h' => rw [em] at post; exact post
  | rt v h' => rw [em] at post; exact post
  | bk v h' => rw [em] at post; exact post
  | ct v h' => rw [em] at post; exact post
  | stuck => rw [em] at post; exact post
  | exc n fs env' h' =>
    rw [em] at post
    dsimp only at post
    intro F' ρ' H' σ' d ws s1 re1 nd hd rf
    cases gm : mt n with
    | none => rw [gm] at post; exact post.elim
    | some b =>
      rw [gm] at post
      cases b with
      | false => exact ⟨false, hmt n false gm, (fun z => nomatch z), fun _ => post F' ρ' H' σ' d ws s1 re1 nd hd rf⟩
      | true =>
        refine ⟨true, hmt n true gm, fun _ a ha => ?_, (fun z => nomatch z)⟩
        dsimp only at post
        -- the exception's dict is known from here on
        have nocell : ∀ j k, h'.get j = some k → ρ' j ≠ some d := fun j k e z => by
          obtain ⟨a', e1, _, cd⟩ := s1.rel.cell j k e
          rw [z] at e1
          cases e1
          cases k with
          | lst _ => obtain ⟨_, w, _⟩ := cd; rw [hd] at w; cases w
          | dct _ => obtain ⟨_, w, _⟩ := cd; rw [hd] at w; cases w
          | obj _ _ => obtain ⟨_, _, w, _⟩ := cd; rw [hd] at w; cases w
        have key : ∃ F2, Step ⟨X.K, cl, none⟩ F ρ h H F2 ρ' h' H' ∧ Le F' F2 ∧ F2 d = some (.xd ws) := by
          cases q : F' d with
          | none => exact ⟨_, s1.addF nd q nocell hd, Le.upd q, upd_same⟩
          | some u =>
            rcases s1.rel.sub d u q with z | ⟨l, ob, z⟩
            · rw [hd] at z; cases z; exact ⟨F', s1, Le.refl, q⟩
            · rw [hd] at z; cases z
        obtain ⟨F2, s2, lf, fd⟩ := key
        have r2 : REnv ⟨X.K, cl, some (a, .ref (cl n), some d)⟩ F2 ρ' (env'.set i (some (.xc n fs))) (σ'.set i (some (.ref a))) :=
          (re1.mono lf LeR.refl).enter.set ⟨a, d, ws, rfl, rfl, fd, (rf.mono lf LeR.refl).enter⟩
        refine ⟨F2, ρ', env'.set i (some (.xc n fs)), h', s2.rel.enter, r2, ?_⟩
        cases es : ms (env'.set i (some (.xc n fs))) h' with
        | stuck => rw [es] at post; exact post
        | exc _ _ _ _ => rw [es] at post; exact post.elim
        | rt v h3 =>
          rw [es] at post
          dsimp only [endSuite] at post
          split at post
          · rename_i hc
            exact fun F3 ρ3 H3 x s3 rx => post F3 ρ3 H3 x (s2.trans (s3.clean hc.2)) (rx.clean hc.1)
          · exact post.elim
        | nx e3 h3 =>
          rw [es] at post
          dsimp only [endSuite] at post
          split at post
          · rename_i hc
            exact fun F3 ρ3 H3 σ3 s3 r3 => post F3 ρ3 H3 (σ3.set i none) (s2.trans (s3.clean hc.2)) ((r3.setN).clean hc.1)
          · exact post.elim
        | bk e3 h3 =>
          rw [es] at post
          dsimp only [endSuite] at post
          split at post
          · rename_i hc
            exact fun F3 ρ3 H3 σ3 s3 r3 => post F3 ρ3 H3 (σ3.set i none) (s2.trans (s3.clean hc.2)) ((r3.setN).clean hc.1)
          · exact post.elim
        | ct e3 h3 =>
          rw [es] at post
          dsimp only [endSuite] at post
          split at post
          · rename_i hc
            exact fun F3 ρ3 H3 σ3 s3 r3 => post F3 ρ3 H3 (σ3.set i none) (s2.trans (s3.clean hc.2)) ((r3.setN).clean hc.1)
          · exact post.elim
end
/-! ### what the suite asks of the exception that it holds -/
section
variable {X : Cx} {cl : Str → Addr} {a : Addr} {oe : Obj} {cls : Value} {d : Option Addr} {pn : List (Addr × Obj)} {e : Expr} {pos : Pos} {W : WX}
def kXf (cn f : Str) (p : PV) (h : MH) : Res PV := match p with
  | .xc n fs => if n = cn then (match lookF fs f with
    | some v => .ok v h
    | none => .stuck) else .stuck
  | _ => .stuck
def mXf (cn f : Str) (m : ME) : ME := fun env h => (m env h).bind (kXf cn f)
theorem em_xf {cn f : Str} {m : ME} (T : XfC X.K (cl cn)) (hno : PySem.W.findIn X.K (.ref (cl cn)) f = some none) (hz : Zc cls d oe) (hf : ∃ vs, oe.data = .fields vs)
    (he : PE (X.suite a ((a, oe) :: pn)) e (tE ⟨X.K, cl, some (a, cls, d)⟩ W m)) (hb : attributeBase e f X.env (eval e X.env) = eval e X.env := by rfl) :
    PE (X.suite a ((a, oe) :: pn)) (.Attribute e f pos) (tE ⟨X.K, cl, some (a, cls, d)⟩ W (mXf cn f m)) := peI (pe_xf T hno hz hf he hb) fun σ H Q t =>
  tG.bind (R := Rep ⟨X.K, cl, some (a, cls, d)⟩) (k := fun p _ h1 => kXf cn f p h1) t fun F ρ env h p x H1 rel re rp post => by
    unfold kXf at post
    cases p with
    | xc n fs =>
      dsimp only at post
      by_cases en : n = cn
      · rw [if_pos en] at post
        subst en
        cases gl : lookF fs f with
        | none => rw [gl] at post; exact post.elim
        | some v =>
          rw [gl] at post
          obtain ⟨a', dd, ws, ex, es, fd, r⟩ := rp
          simp only [Option.some.injEq, Prod.mk.injEq] at es
          obtain ⟨e1, e2, e3⟩ := es
          subst e1
          obtain ⟨u, hu, ru⟩ := lookF_ok r gl
          exact ⟨ex, e2, dd, ws, u, e3, rel.at fd id, hu, post F ρ H1 u (Step.refl rel) ru⟩
      · rw [if_neg en] at post; exact post.elim
    | _ => exact post.elim
/-- isinstance(e, c) -/
def rIsX (K : PySem.W.Frag) (a : Addr) (cls : Value) (d : Option Addr) : List V → Hp → VK → Prop := fun xs H Q => ∃ (D dd : Addr) (ws : List (Str × V)) (cv : V) (u : Value) (b : Bool), xs = [.ref a, cv] ∧ cls = .ref D ∧ d = some dd ∧ H dd = some (.xd ws) ∧ ExcC K D ∧ ClsV cv u ∧ PySem.W.kitOne K (.ref D) u = some b ∧ Q (.bl b) H
theorem call_isX (hz : Zc cls d oe) (hf : ∃ vs, oe.data = .fields vs) : CallR (X.suite a ((a, oe) :: pn)) (.builtin "isinstance") (rIsX X.K a cls d) := by
  intro pins s σ H xs us Q I r h
  obtain ⟨D, dd, ws, cv, u, b, rfl, ec, ed, hd, C, hu, hk, q⟩ := h
  subst ec
  subst ed
  obtain ⟨u1, u2, rfl, r1, r2⟩ := vals2 r
  obtain rfl : u1 = Value.ref a := r1
  have e2 := hu.eq r2
  subst e2
  obtain ⟨hget, _⟩ := I.pin (a, oe) (List.mem_append_left _ List.mem_cons_self)
  obtain ⟨vs, hv⟩ := hf
  obtain ⟨mA, hns, _⟩ := (show ObjOk X.prog X.w H s.heap dd (.xd ws) from I.hok dd _ hd)
  obtain ⟨od, ho, _⟩ := lookIn_ns hns
  have J : PySem.W.InstAt s.heap a oe D (some od) := ⟨hget, hz.1, by unfold PySem.W.notCls; rw [hv] <;> rfl, by rw [hz.2]; exact ho⟩
  exact PySem.W.kia_one (kit_exc C) I.kIn J hk (fun z => nomatch z) fun tk => ⟨.bl b, H, I.tok tk, rfl, q⟩
def pIsX (isx : Str → V → Option Bool) : PL := fun ps h => match ps with
  | [.xc n _, .raw cv] => (isx n cv).map fun b => (.bl b, h)
  | _ => none
theorem o_isX {isx : Str → V → Option Bool} (ok : ∀ n cv b, isx n cv = some b → ExcC X.K (cl n) ∧ ∃ u, ClsV cv u ∧ PySem.W.kitOne X.K (.ref (cl n)) u = some b) : OA ⟨X.K, cl, some (a, cls, d)⟩ (rIsX X.K a cls d) (pIsX isx) := fun F ρ h H ps xs v h' Q rel rp e k => by
  unfold pIsX at e
  split at e
  · rename_i n fs cv
    obtain ⟨x, r, ex, ⟨a', dd, ws, ea, es, fd, rf⟩, y, r2, ey, ry, rn⟩ := rp
    cases ry; cases rn; subst ey; subst ea; subst ex
    simp only [Option.some.injEq, Prod.mk.injEq] at es
    obtain ⟨e1, e2, e3⟩ := es
    subst e1
    cases g : isx n cv with
    | none => rw [g] at e; cases e
    | some b =>
      rw [g] at e
      cases e
      obtain ⟨C, u, hu, hk⟩ := ok n cv b g
      exact ⟨cl n, dd, ws, cv, u, b, rfl, e2, e3, rel.at fd id, C, hu, hk, k F ρ H _ (Step.refl rel) rfl⟩
  · cases e
end
/-! ### raise C(e) -/
/-- what __init__(self, v) leaves: the field f -/
def spX (C : Addr) (f : Str) (ok : V → Prop) : Sp := fun vs H Q _ => ∃ (d : Addr) (v : V), vs = [.ref d, v] ∧ ok v ∧ H d = some (exo d C none) ∧ ∀ dx, H dx = none → dx ≠ d → Q .non (upd (upd H dx (exd dx [(f, v)])) d (exo d C (some dx)))
section
variable {X : Cx} {cl : Str → Addr} {sx : Option (Addr × Value × Option Addr)} {W : WX} {e : Expr} {st : Stmt} {c : Wd}
def mRaise (cn f : Str) (ok : PV → Bool) (m : ME) : MS := fun env h => (m env h).then env fun p h1 => if ok p = true then .exc cn [(f, p)] env h1 else .stuck
def kArg1 (ps : List PV) : Option PV := match ps with
  | [p] => some p
  | _ => none
def mRaiseA (cn f : Str) (ok : PV → Bool) (m : MA) : MS := fun env h => (m env h).then env fun ps h1 => match kArg1 ps with
  | some p => if ok p = true then .exc cn [(f, p)] env h1 else .stuck
  | none => .stuck
theorem sm_raise {cn f : Str} {ok : PV → Bool} {okV : V → Prop} {m : MA} (hok : ∀ F ρ p x, Rep c F ρ p x → ok p = true → okV x)
    (hh : PS X st (fun _ σ H => tMkO (c.cl cn) (spX (c.cl cn) f okV) [] (tA c W m) σ H fun cls d H' => W cls d σ H')) : PS X st (tS c W (mRaiseA cn f ok m)) := psI hh fun D σ H t =>
  tS.bind (R := RepL c) (k := fun ps env h1 => match kArg1 ps with
  | some p => if ok p = true then .exc cn [(f, p)] env h1 else .stuck
  | none => .stuck) t fun F ρ env h ps xs H1 rel re rp post => by
    match ps, rp, post with
    | [p], ⟨x, r, ex, rx, rn⟩, post =>
      cases rn
      subst ex
      dsimp only [kArg1] at post
      by_cases hk : ok p = true
      · rw [if_pos hk] at post
        refine ⟨Nat.le_of_ble_eq_true rfl, fun d hd => ⟨d, x, rfl, hok F ρ p x rx hk, upd_same, fun dx hx hne => ⟨rfl, dx, [(f, x)], upd_same, ?_, ?_, ?_⟩⟩⟩
        · rw [upd_ne hne]; exact upd_same
        · rw [upd_ne hne] at hx; exact hx
        · have hx1 : H1 dx = none := by rw [upd_ne hne] at hx; exact hx
          have eq : upd (del (upd (upd (upd H1 d (exo d (c.cl cn) none)) dx (exd dx [(f, x)])) d (exo d (c.cl cn) (some dx))) d) dx (.xd [(f, x)]) = upd H1 dx (.xd [(f, x)]) := by
            funext b
            by_cases hb : b = dx
            · subst hb; rw [upd_same, upd_same]
            · rw [upd_ne hb, upd_ne hb]
              by_cases hbd : b = d
              · subst hbd; rw [del_same, hd]
              · rw [del_ne hbd, upd_ne hbd, upd_ne hb, upd_ne hbd]
          rw [eq]
          have st : Step c F ρ h H1 F ρ h (upd H1 dx (.xd [(f, x)])) := Step.newX rel hx1
          exact post F ρ _ σ dx _ st re hx1 upd_same ⟨x, [], rfl, rx, rfl⟩
      · rw [if_neg hk] at post; exact post.elim
    | [], rp, post => exact post.elim
    | _ :: _ :: _, rp, post => exact post.elim
end
end Mi

/-! MiY: methods, how parameters are bound, own exceptions' __init__, the law's end. -/
namespace Mi
open PySem PySem.Spec PyProof.Rows L2
/-! ### o.m(..) -/
section
variable {X : Cx} {cl : Str → Addr} {sx : Option (Addr × Value × Option Addr)} {W : WX} {n : Nat} {f : Addr} {ks : List Str} {run : List PV → List PV → MH → Res PV} {m : Str} {apos pos : Pos} {e o : Expr} {es : List Expr}
def kMeth (cn m : Str) (n : Nat) (run : List PV → List PV → MH → Res PV) (ma : MA) (p : PV) (env : MEnv) (h1 : MH) : Res PV := match asO p h1 with
  | some q => if q.1 = cn ∧ (lookF q.2 m).isNone = true then (ma env h1).bind fun ps h2 => if ps.length = n then run (p :: ps) [] h2 else .stuck else .stuck
  | none => .stuck
def mMeth (cn m : Str) (n : Nat) (run : List PV → List PV → MH → Res PV) (mo : ME) (ma : MA) : ME := fun env h => (mo env h).bind fun p h1 => kMeth cn m n run ma p env h1
theorem rd_meth {c : Wd} {cn : Str} {mo : ME} {ma : MA} {σ : L2.St} {H : Hp} {Q : VK} (t : tE c W (mMeth cn m n run mo ma) σ H Q) : tE c W mo σ H fun x H1 => ∃ a dx fs, x = .ref a ∧ H1 a = some (.ins (c.cl cn) dx fs) ∧ fs.lookup m = none ∧
    tA c W ma σ H1 fun vs H2 => CallQ c W (n + 1) 0 run σ Q (x :: vs) [] H2 :=
  tG.bind (R := Rep c) (k := fun p env h1 => kMeth cn m n run ma p env h1) t fun F ρ env h p x H1 rel re rp post => by
    unfold kMeth at post
    cases g : asO p h with
    | none => rw [g] at post; exact post.elim
    | some q =>
      obtain ⟨cn', fs⟩ := q
      rw [g] at post
      dsimp only at post
      by_cases hq : cn' = cn ∧ (lookF fs m).isNone = true
      · rw [if_pos hq] at post
        obtain ⟨e1, e2⟩ := hq
        subst e1
        obtain ⟨d, dx, ws, ex, hd, r⟩ := asO_ok rel rp g
        refine ⟨d, dx, ws, ex, hd, lookF_none r (Option.isNone_iff_eq_none.mp e2), F, ρ, env, h, rel, re, ?_⟩
        cases em : ma env h with
        | stuck => rw [em] at post; exact post
        | exc _ _ _ => rw [em] at post; exact post
        | ok ps h2 =>
          rw [em] at post
          dsimp only [Res.bind] at post
          intro F2 ρ2 H2 vs s2 rq
          by_cases hn : ps.length = n
          · rw [if_pos hn] at post
            exact ⟨by rw [List.length_cons, ← rq.length, hn], rfl, F2, ρ2, h2, p :: ps, [], s2.rel, ⟨x, vs, rfl, rp.mono s2.f s2.r, rq⟩, rfl, PostG.shift s2 post⟩
          · rw [if_neg hn] at post; exact post.elim
      · rw [if_neg hq] at post; exact post.elim
theorem em_meth {cn : Str} {mo : ME} {ma : MA} {pl : Sem Bool} (he : PE X o (tE ⟨X.K, cl, sx⟩ W mo)) (c : Cls X.K (cl cn)) (hm : Meth X.K (cl cn) m f) (cal : Callee X ⟨X.K, cl, sx⟩ W (.ref f) (n + 1) [] run) (ha : PA X (e :: es) (tA ⟨X.K, cl, sx⟩ W ma))
    (hst : starEach (e :: es) X.env = (false, eval e X.env) :: starEach es X.env := by rfl) (hpl : (backTo pos (starEach es X.env)).any (·.1) = false := by rfl)
    (ht : eval (.Call (.Attribute o m apos) (e :: es) [] pos) X.env = (do
      let ov ← eval o X.env
      standAt apos.atName
      let (g, one) ← holding [ov] (getMethod ov m pl)
      callWith pos g one (backTo pos (starEach (e :: es) X.env)) (backToKw pos (keywordEach [] X.env))) := by rfl) :
    PE X (.Call (.Attribute o m apos) (e :: es) [] pos) (tE ⟨X.K, cl, sx⟩ W (mMeth cn m n run mo ma)) := by
  refine ⟨fun pins s σ H Q I t => ?_⟩
  refine PySem.W.methodCall_KW (pl := pl) (thn (he.run pins s σ H _ I (rd_meth t)) fun u s1 ⟨x, H1, I1, rx, a, dx, fs, ex, ea, l, q⟩ => ?_) ht
  subst ex
  obtain rfl : u = Value.ref a := rx
  refine getmeth_ok I1 ea c hm l ?_
  refine PySem.W.callWith_K (first := [.ref a]) (h₀ := X.base) I.ok.mod.kin hm.kp (thn (ha.run pos pins s1 σ H1 _ I1 q) fun us s2 ⟨vs, H2, I2, r, l1, _, rest⟩ => ⟨I2.kIn, ?_⟩) hst hpl
  exact cal pins s2 σ H2 (.ref a :: vs) [] (.ref a :: us) [] Q I2 (.cons rfl r) .nil (by rw [List.length_cons, ← Paired.length r]; exact l1) rfl rest
theorem em_meth0 {cn : Str} {mo : ME} {pl : Sem Bool} (he : PE X o (tE ⟨X.K, cl, sx⟩ W mo)) (c : Cls X.K (cl cn)) (hm : Meth X.K (cl cn) m f) (cal : Callee X ⟨X.K, cl, sx⟩ W (.ref f) 1 [] run)
    (ht : eval (.Call (.Attribute o m apos) [] [] pos) X.env = (do
      let ov ← eval o X.env
      standAt apos.atName
      let (g, one) ← holding [ov] (getMethod ov m pl)
      callWith pos g one (backTo pos (starEach [] X.env)) (backToKw pos (keywordEach [] X.env))) := by rfl) :
    PE X (.Call (.Attribute o m apos) [] [] pos) (tE ⟨X.K, cl, sx⟩ W (mMeth cn m 0 run mo mNil)) := by
  refine ⟨fun pins s σ H Q I t => ?_⟩
  refine PySem.W.methodCall_KW (pl := pl) (thn (he.run pins s σ H _ I (rd_meth t)) fun u s1 ⟨x, H1, I1, rx, a, dx, fs, ex, ea, l, q⟩ => ?_) ht
  subst ex
  obtain rfl : u = Value.ref a := rx
  refine getmeth_ok I1 ea c hm l ?_
  obtain ⟨F, ρ, env, h, rel, re, post⟩ := q
  obtain ⟨_, _, rest⟩ := post F ρ H1 [] (Step.refl rel) rfl
  exact PySem.W.callWith_K0 (first := [.ref a]) I1.kIn hm.kp (cal pins s1 σ H1 [.ref a] [] [.ref a] [] Q I1 (.cons rfl .nil) .nil rfl rfl rest)
end
/-! ### binding -/
section
variable {K : PySem.W.Frag} {x qual : Str} {params : Arguments} {body : List Stmt} {scope : Scope} {dvs : List V} {kws : List (Str × V)} {f : Addr} {fd : FuncData} {ps ks : List Str} {n : Nat} {idx : List Nat}
/-- nothing lacks -/
theorem bindM0 (D : FunD K x qual params body scope dvs kws f fd) (h : ∀ (dV kV doc pm : Value) (an : Option Addr) (cdv ct : Value) (us ws : List Value), us.length = n → ws.length = ks.length →
      bindArgs (PySem.W.fnOf x qual params body scope dV kV doc pm an cdv ct) ⟨us, ks.zip ws⟩ = pure (ps.zip (pick idx (us ++ ([] ++ ws))))) : BindM K fd ps n ks idx [] [] := by
  obtain ⟨oc, od, dV, kV, doc, pm, an, cdv, ct, osl, efd, lk, hcd, hD, hK⟩ := D.ex
  subst efd
  exact ⟨fun s us ws X l1 l2 => .of_eq (h dV kV doc pm an cdv ct us ws l1 l2), .nil⟩
/-- no positional defaults: nothing of these lacks -/
theorem bindM1 (D : FunD K x qual params body scope [] kws f fd) (h : ∀ (kV doc pm : Value) (an : Option Addr) (cdv ct : Value) (us ws : List Value), us.length = n → ws.length = ks.length →
      bindArgs (PySem.W.fnOf x qual params body scope .none kV doc pm an cdv ct) ⟨us, ks.zip ws⟩ = pure (ps.zip (pick idx (us ++ ([] ++ ws))))) : BindM K fd ps n ks idx [] [] := by
  obtain ⟨oc, od, dV, kV, doc, pm, an, cdv, ct, osl, efd, lk, hcd, hD, hK⟩ := D.ex
  subst efd
  rcases hD with ⟨_, e⟩ | ⟨e, _⟩
  · subst e
    exact ⟨fun s us ws X l1 l2 => .of_eq (h kV doc pm an cdv ct us ws l1 l2), .nil⟩
  · exact absurd rfl e
/-- keyword-only ones lack -/
theorem bindMK (D : FunD K x qual params body scope [] kws f fd) (ms : List (Str × V)) (hk : kws ≠ []) (hms : ∀ q ∈ ms, q ∈ kws)
    (h : ∀ (Dk : Addr) (doc pm : Value) (an : Option Addr) (cdv ct : Value) (us mv ws : List Value), us.length = n → mv.length = ms.length → ws.length = ks.length →
      KwChain Dk ((ms.map (·.1)).zip mv) (bindArgs (PySem.W.fnOf x qual params body scope .none (.ref Dk) doc pm an cdv ct) ⟨us, ks.zip ws⟩) (ps.zip (pick idx (us ++ (mv ++ ws))))) :
    ∃ mv, BindM K fd ps n ks idx mv (ms.map (·.2)) := by
  obtain ⟨oc, od, dV, kV, doc, pm, an, cdv, ct, osl, efd, lk, hcd, hD, hK⟩ := D.ex
  subst efd
  rcases hD with ⟨_, e⟩ | ⟨e, _⟩
  · subst e
    rcases hK with e | ⟨Dk, e, hq⟩
    · exact absurd e hk
    · subst e
      obtain ⟨mv, hl, rk, hks⟩ := kwd_vals (ms := ms) fun q hm => hq q (hms q hm)
      exact ⟨mv, fun s us ws X l1 l2 => BindsTo.of_looks fun M => KwChain.looks X hks (h Dk doc pm an cdv ct us mv ws l1 hl l2), rk⟩
  · exact absurd rfl e
/-- positional ones lack, and keyword-only ones -/
theorem bindMD (D : FunD K x qual params body scope dvs kws f fd) (ms : List (Str × V)) (hd : dvs ≠ []) (hk : kws ≠ []) (hms : ∀ q ∈ ms, q ∈ kws)
    (h : ∀ (T Dk : Addr) (doc pm : Value) (an : Option Addr) (cdv ct : Value) (us its mv ws : List Value), us.length = n → its.length = dvs.length → mv.length = ms.length → ws.length = ks.length →
      ∃ k, bindArgs (PySem.W.fnOf x qual params body scope (.ref T) (.ref Dk) doc pm an cdv ct) ⟨us, ks.zip ws⟩ = seqItems? (.ref T) >>= k ∧ KwChain Dk ((ms.map (·.1)).zip mv) (k (some its.toArray)) (ps.zip (pick idx (us ++ ((its ++ mv) ++ ws))))) :
    ∃ mv, BindM K fd ps n ks idx mv (dvs ++ ms.map (·.2)) := by
  obtain ⟨oc, od, dV, kV, doc, pm, an, cdv, ct, osl, efd, lk, hcd, hD, hK⟩ := D.ex
  subst efd
  rcases hD with ⟨e, _⟩ | ⟨_, T, o, its, mm, e, lT, oT, rT⟩
  · exact absurd e hd
  · subst e
    rcases hK with e | ⟨Dk, e, hq⟩
    · exact absurd e hk
    · subst e
      obtain ⟨mv, hl, rk, hks⟩ := kwd_vals (ms := ms) fun q hm => hq q (hms q hm)
      refine ⟨its ++ mv, fun s us ws X l1 l2 => ?_, rT.append rk⟩
      obtain ⟨k, e1, e2⟩ := h T Dk doc pm an cdv ct us its mv ws l1 rT.length.symm hl l2
      refine BindsTo.of_looks fun M => ?_
      rw [e1]
      exact looks_items X lT oT (KwChain.looks X hks e2)
/-- positional ones lack; no keyword-only ones -/
theorem bindMP (D : FunD K x qual params body scope dvs kws f fd) (hd : dvs ≠ [])
    (h : ∀ (T : Addr) (kV doc pm : Value) (an : Option Addr) (cdv ct : Value) (us its ws : List Value), us.length = n → its.length = dvs.length → ws.length = ks.length →
      ∃ k, bindArgs (PySem.W.fnOf x qual params body scope (.ref T) kV doc pm an cdv ct) ⟨us, ks.zip ws⟩ = seqItems? (.ref T) >>= k ∧ k (some its.toArray) = pure (ps.zip (pick idx (us ++ (its ++ ws))))) :
    ∃ mv, BindM K fd ps n ks idx mv dvs := by
  obtain ⟨oc, od, dV, kV, doc, pm, an, cdv, ct, osl, efd, lk, hcd, hD, hK⟩ := D.ex
  subst efd
  rcases hD with ⟨e, _⟩ | ⟨_, T, o, its, mm, e, lT, oT, rT⟩
  · exact absurd e hd
  · subst e
    refine ⟨its, fun s us ws X l1 l2 => ?_, rT⟩
    obtain ⟨k, e1, e2⟩ := h T kV doc pm an cdv ct us its ws l1 rT.length.symm l2
    refine BindsTo.of_looks fun M => ?_
    rw [e1]
    exact looks_items X lT oT (PySem.W.Looks.of_pure e2)
end
end Mi

/-! MiZ: own exceptions' __init__, the law's end. -/
namespace Mi
open PySem PySem.Spec PyProof.Rows L2
/-! ### B.__init__(self, ..), B a class of the program's own above ValueError -/
/-- what the written part says of B -/
structure BaseC (K : PySem.W.Frag) (B : Addr) : Prop where
  ga : PySem.W.specialIn K (.ref B) "__getattribute__" = some (some (.builtin "type.__getattribute__"))
  rd : PySem.W.readsIn K B (.type "type") = true
  fi : PySem.W.findCls K (.ref B) (.type "type") "__init__" = some (.val (.builtin "ValueError.__init__"))
section
variable {X : Cx} {e : Expr} {es : List Expr} {ta : TA} {x : Str} {B : Addr} {p1 p2 pos : Pos}
theorem pe_binit {pl : Sem Bool} (hg : Gl X x) (hm : X.mg x = some (.ref B)) (T : BaseC X.K B) (ha : PA X (e :: es) ta) (hdb : (x == ("__debug__" : Str)) = false := by decide)
    (hc : eval (.Call (.Attribute (.Name x p1) "__init__" p2) (e :: es) [] pos) X.env = (do
      let ov ← eval (.Name x p1) X.env
      standAt p2.atName
      let (g, one) ← holding [ov] (getMethod ov "__init__" pl)
      callWith pos g one (backTo pos (starEach (e :: es) X.env)) (backToKw pos (keywordEach [] X.env))) := by rfl)
    (hst : starEach (e :: es) X.env = (false, eval e X.env) :: starEach es X.env := by rfl) (hpl : (backTo pos (starEach es X.env)).any (·.1) = false := by rfl) :
    PE X (.Call (.Attribute (.Name x p1) "__init__" p2) (e :: es) [] pos) (tVeI X.K ta) := by
  refine ⟨fun pins s σ H Q I t => ?_⟩
  refine PySem.W.methodCall_KW (ld_glob I hg hm ?_ hdb) hc
  refine PySem.W.method_cls I.kIn T.ga (PySem.W.cls_value I.kIn T.rd T.fi (by decide +kernel) ?_)
  show wpAny _ _ (callWith pos (Value.builtin "ValueError.__init__") [] (backTo pos (starEach (e :: es) X.env)) []) _ _ _
  refine PyProof.Rows.callWith_method1 (thn (ha.run pos pins _ σ H _ (I.tok _) t) fun us s1 ⟨vs, H1, I1, r1, a, C, ws, ev, hl, T', ea, q⟩ => ?_) hst hpl
  subst ev
  cases r1 with
  | @cons _ u0 _ ur ra rr =>
    obtain rfl : u0 = Value.ref a := ra
    exact oinit_ok T' I1 ea (by rw [← Paired.length rr, sizeLine_eq]; omega) fun s' J => ⟨.non, H1, J, rfl, q⟩
end
/-- the body of such an __init__(self, v): B.__init__(self, message); self.f = v -/
def tXi (K : PySem.W.Frag) (tm : TE) (f : Str) : TS := tSeq (tDrop (tVeI K (tCons (tVar 0) (tCons tm tNil)))) (tOst K f (tVar 0) (tVar 1))
section
variable {P : Program} {w : World} {K : PySem.W.Frag} {mg : Str → Option Value} {base : Heap} {x qual : Str} {params : Arguments} {body : List Stmt} {scope : Scope} {dvs : List V} {kws : List (Str × V)} {fI C : Addr} {fd : FuncData} {N : List Str} {f : Str} {ok : V → Prop} {tm : TE} {k : Nat}
theorem xinit (D : FunD K x qual params body scope dvs kws fI fd) (S : FnScope N N scope) (hN : N.length = 2) (T : OexC K C) (hno : PySem.W.findIn K (.ref C) f = some none)
    (msg : ∀ (d : Addr) (v : V) (H : Hp) (Q : VK), ok v → (∀ z, Q z H) → tm [some (.ref d), some v] H Q)
    (hb : ∀ (cdv : Value) (A : Around) (l : List PySem.Env) (s : Shared) (H : Hp) (E : XK), Room k (A.deeper (envOfC qual scope s.heap.objs.size fI cdv)) → PSs (cxOf CX0 P w K mg base N qual scope fI cdv A l s H E) body (tXi K tm f)) :
    FnOk P w K mg base CX0 (k + 1) fI fd N (spX C f ok) := by
  refine D.ok S (fun vs H Q E h => ?_) fun cdv A l s H vs Q E hr h => ⟨_, hb cdv A l s H E hr, ?_⟩
  · obtain ⟨d, v, rfl, _⟩ := h
    rw [hN]; rfl
  · obtain ⟨d, v, rfl, hv, hd, q⟩ := h
    have es : L2.start N [V.ref d, v] = [some (.ref d), some v] := by
      unfold L2.start
      rw [hN]
      rfl
    rw [es]
    refine ⟨.ref d, rfl, msg d v H _ hv fun z => ?_⟩
    refine ⟨d, C, [z], rfl, Nat.le_of_ble_eq_true rfl, T, hd, ?_⟩
    exact ⟨v, rfl, .ref d, rfl, d, C, rfl, T, hno, Or.inl ⟨hd, fun dx h1 h2 => q dx h1 h2⟩⟩
/-- messages: a text; a text with a text put in -/
def okS (v : V) : Prop := ∃ y : Str, v = .str y ∧ y.length ≤ 1000
theorem msg_c {z : V} : ∀ (d : Addr) (v : V) (H : Hp) (Q : VK), ok v → (∀ z, Q z H) → tC z [some (.ref d), some v] H Q := fun _ _ _ _ _ q => q _
theorem msg_f {y : Str} (hy : y.length ≤ 1000 := by decide +kernel) : ∀ (d : Addr) (v : V) (H : Hp) (Q : VK), okS v → (∀ z, Q z H) → (fun σ H Q => tJs [tC (.str y), tFmt (tVar 1)] Str.empty σ H fun out H1 => Q (.str out) H1 : TE) [some (.ref d), some v] H Q := fun d v H Q ⟨z, ev, hz⟩ q => by
  subst ev
  have l1 : (Str.empty ++ y).length ≤ 1000 := by rw [Str.length_append, show Str.empty.length = 0 from rfl, Nat.zero_add]; exact hy
  refine ⟨y, rfl, Nat.le_trans l1 (by rw [sizeLine_eq]; omega), .str z, rfl, Or.inl ⟨z, rfl, Nat.le_trans hz (by rw [sizeLine_eq]; omega), z, rfl, ?_, q _⟩⟩
  rw [Str.length_append, sizeLine_eq]
  omega
end
/-! ### the law's end -/
/-- law_call for a def that is told where no repr is going on -/
theorem lawG {P : Program} {w : World} {K : PySem.W.Frag} {mg mb : Str → Option Value} {k : Nat} {fl at_ : Addr} {fd : FuncData} {x : Str} {sp : Sp} {t : Shared} {us : List Value} {ns : List Int}
    (inK : K.In t.heap) (nsG : t.heap.Ns mainGlobals mg) (nsB : t.heap.Ns builtinsNs mb) (boot : ∀ y : Str, y ≠ "__name__" → mb y = bootBuiltins y) (nolim : t.heap.NoLimit) (nog : t.gens = #[])
    (scr : t.heap.get? at_ = some { cls := .type "list", data := .seq us.toArray }) (whole : IntsAre us ns) (few : ns.length ≤ sizeLine) (room : Room k callerA)
    (G : ∀ base : Heap, K.In base → base.Ns mainGlobals mg → FG P w K mg base k fl fd [x] sp) (bnd : ∀ (s : Shared) (u : Value), BindsTo s fd ⟨[u], []⟩ [(x, u)])
    (want : ∀ H : Hp, Only H → SqL K H at_ (ns.map V.int) → sp [.ref at_] H (fun v _ => v = .bl true) fun _ _ _ => False) :
    codeAny (model P w) callerA (.call (.ref fl) ⟨[.ref at_], []⟩) (fun r s' => r = .ok (.ret (.bool true)) ∧ OldK t.heap s'.heap ∧ s'.os = t.os ∧ AllBare s'.gens) t := by
  have vals := vals_ints whole
  have many := whole.length
  have main : ∀ H : Hp, Only H → SqL K H at_ (ns.map V.int) → HOk P w H t.heap → (∀ b, H b ≠ none → b = at_) → (H at_ ≠ none → K.lookup at_ = none) →
      codeAny (model P w) callerA (.call (.ref fl) ⟨[.ref at_], []⟩) (fun r s' => r = .ok (.ret (.bool true)) ∧ OldK t.heap s'.heap ∧ s'.os = t.os ∧ AllBare s'.gens) t := by
    intro H only sq hok just notK
    have stay : ∀ {b : Addr} {o : Obj}, t.heap.get? b = some o → H b = none → (hidT t.heap H).get? b = some o := fun g z => hidT_get g z
    have dictNo : ∀ {b : Addr} {o : Obj} {es : Array DictEntry} {ep : Nat}, t.heap.get? b = some o → o.data = .dict es ep → H b = none := fun {b o es ep} g d => by
      cases hb : H b with
      | none => rfl
      | some z =>
        obtain rfl := just b (by rw [hb]; exact fun y => nomatch y)
        rw [scr] at g; cases g
        exact nomatch (show Data.seq us.toArray _ = Data.dict es ep from d)
    have nsH : ∀ {b : Addr} {m : Str → Option Value}, t.heap.Ns b m → (hidT t.heap H).Ns b m := fun {b m} ⟨o, es, ep, g, d, rest⟩ => ⟨o, es, ep, stay g (dictNo g d), d, rest⟩
    have kH : K.In (hidT t.heap H) := fun b o g => stay (inK b o g) (by
      cases hb : H b with
      | none => rfl
      | some z =>
        obtain rfl := just b (by rw [hb]; exact fun y => nomatch y)
        rw [notK (by rw [hb]; exact fun y => nomatch y)] at g; cases g)
    have mod : Mod K mg (hidT t.heap H) := ⟨kH, nsH nsG, ⟨mb, nsH nsB, boot⟩, let ⟨mc, p, q⟩ := nolim; ⟨mc, nsH p, q⟩⟩
    have env0 : Env0 P w K mg (hidT t.heap H) callerA [] t H := ⟨rfl, mod, fun b o g => of_hidT g, Nat.le_of_eq (hidT_size _ _), trivial, fun b z => absurd (show b ∈ ([] : List Addr) from z) (by simp), hok, .of_eq nog⟩
    refine codeAny_mono ((G _ kH (nsH nsG)).go callerA [] t H ⟨[.ref at_], []⟩ [.ref at_] [.ref at_] _ _ rfl room env0 (bnd t (.ref at_)) (.cons rfl .nil) (want H only sq)) fun r s' done => ?_
    cases r with
    | error er => obtain ⟨_, _, _, _, _, _, _, _, _, _, _, _, no⟩ := done; exact no.elim
    | ok flw =>
      cases flw with
      | next => exact done.elim
      | brk => exact done.elim
      | cont => exact done.elim
      | ret u =>
        obtain ⟨v, H', os, bare, un, hok', rv, ev⟩ := done
        obtain rfl : v = .bl true := ev
        obtain rfl : u = Value.bool true := rv
        refine ⟨rfl, OldK.of_keep fun b o g => ?_, os, bare⟩
        cases hb : H b with
        | none => exact un.keep b o g hb (by intro z; exact absurd (show b ∈ ([] : List Addr) from z) (by simp)) (by simp)
        | some z =>
          rcases only b with y | ⟨ob, xs, y⟩
          · rw [hb] at y; cases y
          · have y2 := un.frzs b ob _ y
            obtain ⟨e1, _⟩ := hok b _ y
            obtain ⟨e2, _⟩ := hok' b _ y2
            rw [g] at e1; cases e1
            exact e2
  cases own : K.lookup at_ with
  | some o =>
    have g := inK at_ o own
    rw [scr] at g
    cases g
    exact main (fun _ => none) (fun _ => .inl rfl) (.inr ⟨_, us.toArray, _, own, rfl, rfl, rfl, by rw [List.size_toArray, many]; exact few, by simpa using vals⟩) (fun b z y => nomatch (show (none : Option HO) = some z from y)) (fun b z => absurd rfl z) fun z => absurd rfl z
  | none =>
    refine main (fun b => if b = at_ then some (.frz { cls := .type "list", data := .seq us.toArray } (.lst (ns.map V.int))) else none) (fun b => ?_) (.inl (.inr ⟨{ cls := .type "list", data := .seq us.toArray }, if_pos rfl⟩)) (fun b z y => ?_) (fun b z => ?_) fun _ => own
    · by_cases hb : b = at_
      · exact .inr ⟨_, _, if_pos hb⟩
      · exact .inl (if_neg hb)
    · by_cases hb : b = at_
      · have y' := (if_pos hb).symm.trans y
        cases y'
        subst hb
        exact ⟨scr, by rw [List.length_map]; exact few, us, _, vals, scr⟩
      · have y' := (if_neg hb).symm.trans y
        cases y'
    · by_cases hb : b = at_
      · exact hb
      · exact absurd (if_neg hb) z
/-- what the law's mirror is asked: at every script the answer True -/
theorem walkG {l : PySem.W.OpenLaw} {n k : Nat} {q : Program} {loose : List Str} {XP : (Str → Option Value) → Heap → Prop} {YP : World → Heap → Prop} {d : DefRec} {x : Str} {run : List PV → MH → Res PV}
    (hn : l.most = some n) (hn2 : n ≤ sizeLine) (hdf : d.params.defaults = []) (hr : Room k callerA)
    (pure_ : ∀ ns : List Int, ns.length ≤ n → ∃ h, run [.scr ns] ⟨0, []⟩ = .ok (.bl true) h)
    (get : ∀ (w : World) (mg : Str → Option Value) (fl : Addr) (h : Heap), YP w h → h.Ns mainGlobals mg → mg d.name = some (.ref fl) →
      ∃ (K : PySem.W.Frag) (fd : FuncData) (c : Wd), c.K = K ∧ c.sx = none ∧ K.In h ∧ (∀ (s : Shared) (u : Value), BindsTo s fd ⟨[u], []⟩ [(x, u)]) ∧
        ∀ base : Heap, K.In base → base.Ns mainGlobals mg → FG l.prog w K mg base k fl fd [x] (spM c run)) :
    PySem.W.WalkO q loose XP YP l.row.toRowW d [] (fun f vs => PySem.call f vs) := by
  refine Att.attach_call hn hdf fun w s₀ t mg mb fl o pm cd doc at_ us ns T Y ho hd hcd hmg hobj hints hlen hg => ?_
  obtain ⟨K, fd, c, eK, esx, KX, hb, hF⟩ := get w mg fl _ Y T.T.g hmg
  subst eK
  refine lawG KX T.T.g T.T.b T.T.builtins T.T.nolimit hg hobj hints (Nat.le_trans hlen hn2) hr hF hb fun H only sq => ?_
  obtain ⟨h', e⟩ := pure_ ns hlen
  have rs : Rep c H (fun _ => none) (.scr ns) (.ref at_) := by
    refine ⟨at_, rfl, ?_⟩
    rcases sq with (z | ⟨o, z⟩) | ⟨o, its, j, z⟩
    · rcases only at_ with y | ⟨_, _, y⟩
      · rw [y] at z; cases z
      · rw [y] at z; cases z
    · exact .inl ⟨o, z⟩
    · exact .inr ⟨o, its, j, z⟩
  have rel : REL c H (fun _ => none) H ⟨0, []⟩ := ⟨fun a u z => .inl z, fun i k z => (nomatch z), fun _ _ _ z => (nomatch z), fun _ _ z => (nomatch z)⟩
  refine ⟨H, fun _ => none, ⟨0, []⟩, [.scr ns], rel, ⟨_, [], rfl, rs, rfl⟩, ?_⟩
  rw [e]
  exact fun F' ρ' H' v _ r => r
end Mi

/-! MiR: rules in short, for printed derivations. -/
namespace Mi
open PySem PySem.Spec PyProof.Rows L2
/-! ### what is not reached -/
def mStk : ME := fun _ _ => .stuck
def mStkT : MT := fun _ _ => .stuck
def mStkA : MA := fun _ _ => .stuck
def mStkI : MI := fun _ _ => .stuck
def mStkS : MS := fun _ _ => .stuck
section
variable {X : Cx} {c : Wd} {W : WX} {e : Expr} {es : List Expr} {st : Stmt} {sts : List Stmt} {tg : Expr}
theorem e_stk : PE X e (tE c W mStk) := ⟨fun _ _ _ _ _ _ ⟨_, _, _, _, _, _, p⟩ => p.elim⟩
theorem t_stk : PT X e (tT c W mStkT) := ⟨fun _ _ _ _ _ _ ⟨_, _, _, _, _, _, p⟩ => p.elim⟩
theorem w_stk : PW X e (tT c W mStkT) := ⟨fun _ _ _ _ _ _ _ ⟨_, _, _, _, _, _, p⟩ => p.elim⟩
theorem a_stk : PA X es (tA c W mStkA) := ⟨fun _ _ _ _ _ _ _ ⟨_, _, _, _, _, _, p⟩ => p.elim⟩
theorem s_stk : PS X st (tS c W mStkS) := ⟨fun _ _ _ _ _ _ ⟨_, _, _, _, _, _, p⟩ => p.elim⟩
theorem ss_stk : PSs X sts (tS c W mStkS) := ⟨fun _ _ _ _ _ _ ⟨_, _, _, _, _, _, p⟩ => p.elim⟩
theorem takes0 : Takes X W0 := fun u s' ⟨a, B, sI, pins, σ, H, cls, d, e, I, nb, up, sky, na, os, ag, w⟩ => w.elim
theorem e_eq {m m' : ME} (q : m' = m) (h : PE X e (tE c W m)) : PE X e (tE c W m') := q ▸ h
end
section
variable {X : Cx} {cl : Str → Addr} {sx : Option (Addr × Value × Option Addr)} {W : WX} {a b e o : Expr} {es : List Expr} {st : Stmt} {tg : Expr} {pos pos' apos : Pos} {f : Str}
theorem r_ix {ma mb : ME} (hu : X.A.units + 1 < cLine) (ha : PE X a (tE ⟨X.K, cl, sx⟩ W ma)) (hb : PE X b (tE ⟨X.K, cl, sx⟩ W mb)) (hs : PlainIx b := by intro _ _; rfl) : PE X (.Subscript a b pos) (tE ⟨X.K, cl, sx⟩ W (mB2 pIx ma mb)) :=
  em_ix (pe_ix ix_seq ha hb hs) (pe_dget hu ha hb hs)
theorem r_it {m : ME} (h : PE X e (tE ⟨X.K, cl, sx⟩ W m)) : PI X tg e (tI ⟨X.K, cl, sx⟩ W (mIter m)) := im_any (pi_list h) (pi_tup h) (pi_str h) rfl
theorem r_fld {cn : Str} {m : ME} (hc : Cls X.K (cl cn)) (hn : NoAttr X.K (cl cn) f) (h : PE X e (tE ⟨X.K, cl, sx⟩ W m)) (hb : attributeBase e f X.env (eval e X.env) = eval e X.env := by rfl) : PE X (.Attribute e f pos) (tE ⟨X.K, cl, sx⟩ W (mFld cn f m)) :=
  em_fld hc hn (pe_fld h hb)
theorem r_stF {cn : Str} {mv mo : ME} (hc : Cls X.K (cl cn)) (hn : NoAttr X.K (cl cn) f) (ho : PE X o (tE ⟨X.K, cl, sx⟩ W mo)) (hv : PE X e (tE ⟨X.K, cl, sx⟩ W mv)) (hs : swapsWith e (some (.Attribute o f pos')) pos.line X.env = pure false := by rfl) :
    PS X (.Assign [.Attribute o f pos'] e pos) (tS ⟨X.K, cl, sx⟩ W (mStF cn f mv mo)) := sm_stF hc hn (ps_fld ho hv hs)
theorem r_stI {mv mo mi : ME} (hu : X.A.units + 1 < cLine) (ho : PE X a (tE ⟨X.K, cl, sx⟩ W mo)) (hi : PE X b (tE ⟨X.K, cl, sx⟩ W mi)) (hv : PE X e (tE ⟨X.K, cl, sx⟩ W mv)) (hs : swapsWith e (some (.Subscript a b pos')) pos.line X.env = pure false := by rfl)
    (hs1 : swapsWithSole [.Subscript a b pos'] e pos.line X.env = pure false := by rfl) (hw : swappedStores [.Subscript a b pos'] e X.env = pure none := by rfl) (h1 : (assignEach [.Subscript a b pos'] X.env).map (·.2) = [assign (.Subscript a b pos') X.env] := by rfl)
    (hg : ∀ v, assign (.Subscript a b pos') X.env v = (do
      let ov ← holding [v] (eval a X.env)
      let iv ← holding [v, ov] (eval b X.env)
      standAt pos'
      holding [v, ov, iv] (setItem ov iv v)
      release [v, ov, iv] []) := by intro _; rfl) :
    PS X (.Assign [.Subscript a b pos'] e pos) (tS ⟨X.K, cl, sx⟩ W (mStIx mv mo mi)) := sm_stL (ps_asg hv (pg_sub ho hi set_list hg) hs1 hw h1) (ps_dput hu ho hi hv hs)
/-! ### isinstance of an own class, a built-in one -/
def mIs (tbl : Tg → Option Bool) (m : ME) : ME := fun env h => (m env h).bind fun p h1 => match tagP p h1 with
  | some t => (match tbl t with
    | some b => .ok (.bl b) h1
    | none => .stuck)
  | none => .stuck
open Classical in
noncomputable def kkT (c : Wd) (tbl : Tg → Option Bool) (cv : V) (hc : ∀ n b, tbl (.own n) = some b → ClsF c.K (c.cl n)) (hk : ∀ t b, tbl t = some b → ∃ u, ClsV cv u ∧ PySem.W.kitOne c.K (tgV c t) u = some b) : IsK c where
  cls := fun n => (tbl (.own n)).isSome
  cls_ok := fun n h => by
    obtain ⟨b, e⟩ := Option.isSome_iff_exists.mp h
    exact hc n b e
  isT := fun t v => if v = cv then tbl t else none
  isT_ok := fun t v b e => by
    by_cases q : v = cv
    · rw [if_pos q] at e; subst q; exact hk t b e
    · rw [if_neg q] at e; cases e
theorem mIs_eq {c : Wd} {tbl : Tg → Option Bool} {cv : V} (hc : ∀ n b, tbl (.own n) = some b → ClsF c.K (c.cl n)) (hk : ∀ t b, tbl t = some b → ∃ u, ClsV cv u ∧ PySem.W.kitOne c.K (tgV c t) u = some b) (m : ME) :
    mIs tbl m = mBA (pIsi (kkT c tbl cv hc hk)) (mCons m (mCons (mC (.raw cv)) mNil)) := by
  funext env h
  unfold mIs mBA mCons mC mNil
  cases m env h with
  | stuck => rfl
  | exc n fs h1 => rfl
  | ok p h1 =>
    dsimp only [Res.bind]
    unfold pIsi
    dsimp only
    cases tagP p h1 with
    | none => rfl
    | some t =>
      dsimp only
      have ei : (kkT c tbl cv hc hk).isT t cv = tbl t := by
        show (if cv = cv then tbl t else none) = tbl t
        rw [if_pos rfl]
      cases q : tbl t with
      | none =>
        rw [ei, q]
        cases tgOk (kkT c tbl cv hc hk) t <;> rfl
      | some b =>
        have ok : tgOk (kkT c tbl cv hc hk) t = true := by
          cases t with
          | ty n => rfl
          | own n => show (tbl (.own n)).isSome = true; rw [q]; rfl
        rw [if_pos ok, ei, q]
        rfl
theorem r_is {tbl : Tg → Option Bool} {cv : V} {m : ME} {p : Pos} (hc : ∀ n b, tbl (.own n) = some b → ClsF X.K (cl n)) (hk : ∀ t b, tbl t = some b → ∃ u, ClsV cv u ∧ PySem.W.kitOne X.K (tgV ⟨X.K, cl, sx⟩ t) u = some b) (hg : Gl X "isinstance") (hm : X.mg "isinstance" = none)
    (h : PE X a (tE ⟨X.K, cl, sx⟩ W m)) (hb : PE X b (tC cv)) (hs : starEach [a, b] X.env = (false, eval a X.env) :: starEach [b] X.env := by rfl) (hs2 : starEach [b] X.env = (false, eval b X.env) :: starEach [] X.env := by rfl) (hpl : (backTo pos (starEach [b] X.env)).any (·.1) = false := by rfl) :
    PE X (.Call (.Name "isinstance" p) [a, b] [] pos) (tE ⟨X.K, cl, sx⟩ W (mIs tbl m)) :=
  e_eq (mIs_eq (c := ⟨X.K, cl, sx⟩) hc hk m) (emA (o_isi _) (pe_callB call_isi hg hm (by decide +kernel) (am_cons h (am_cons (em_raw hb) am_nil hs2) hs) (by decide) (by decide) hs hpl))
end
section
variable {X : Cx} {cl : Str → Addr} {x : Addr} {oe : Obj} {cls : Value} {d : Option Addr} {pn : List (Addr × Obj)} {W : WX} {a b : Expr} {p pos : Pos}
/-- isinstance(e, C) of the exception held -/
def mIsX (tbl : Str → Option Bool) (m : ME) : ME := fun env h => (m env h).bind fun p h1 => match p with
  | .xc n _ => (match tbl n with
    | some b => .ok (.bl b) h1
    | none => .stuck)
  | _ => .stuck
open Classical in
noncomputable def isxT (tbl : Str → Option Bool) (cv : V) : Str → V → Option Bool := fun n v => if v = cv then tbl n else none
theorem mIsX_eq {tbl : Str → Option Bool} {cv : V} (m : ME) : mIsX tbl m = mBA (pIsX (isxT tbl cv)) (mCons m (mCons (mC (.raw cv)) mNil)) := by
  funext env h
  unfold mIsX mBA mCons mC mNil
  cases m env h with
  | stuck => rfl
  | exc n fs h1 => rfl
  | ok p h1 =>
    dsimp only [Res.bind]
    cases p with
    | xc n fs =>
      dsimp only [pIsX, isxT]
      rw [if_pos rfl]
      cases tbl n <;> rfl
    | _ => rfl
theorem r_isX {tbl : Str → Option Bool} {cv : V} {m : ME} (hk : ∀ n k, tbl n = some k → ExcC X.K (cl n) ∧ ∃ u, ClsV cv u ∧ PySem.W.kitOne X.K (.ref (cl n)) u = some k) (hz : Zc cls d oe) (hf : ∃ vs, oe.data = .fields vs) (hg : Gl (X.suite x ((x, oe) :: pn)) "isinstance") (hm : X.mg "isinstance" = none)
    (h : PE (X.suite x ((x, oe) :: pn)) a (tE ⟨X.K, cl, some (x, cls, d)⟩ W m)) (hb : PE (X.suite x ((x, oe) :: pn)) b (tC cv)) (hs : starEach [a, b] X.env = (false, eval a X.env) :: starEach [b] X.env := by rfl) (hs2 : starEach [b] X.env = (false, eval b X.env) :: starEach [] X.env := by rfl) (hpl : (backTo pos (starEach [b] X.env)).any (·.1) = false := by rfl) :
    PE (X.suite x ((x, oe) :: pn)) (.Call (.Name "isinstance" p) [a, b] [] pos) (tE ⟨X.K, cl, some (x, cls, d)⟩ W (mIsX tbl m)) := by
  refine e_eq (mIsX_eq (cv := cv) m) (emA (o_isX fun n v k e => ?_) (pe_callB (call_isX hz hf) hg hm (by decide +kernel) (am_cons h (am_cons (em_raw hb) am_nil hs2) hs) (by decide) (by decide) hs hpl))
  unfold isxT at e
  by_cases q : v = cv
  · rw [if_pos q] at e; subst q; exact hk n k e
  · rw [if_neg q] at e; cases e
end
/-! ### tables of answers, by rows -/
def tblOf {α : Type} [DecidableEq α] (rows : List (α × Bool)) (t : α) : Option Bool := match rows with
  | [] => none
  | (a, b) :: r => if t = a then some b else tblOf r t
theorem tblOf_mem {α : Type} [DecidableEq α] {t : α} {b : Bool} : ∀ {rows : List (α × Bool)}, tblOf rows t = some b → (t, b) ∈ rows
  | [], e => by cases e
  | (a, k) :: r, e => by
    simp only [tblOf] at e
    by_cases h : t = a
    · rw [if_pos h] at e; cases e; subst h; exact List.mem_cons_self ..
    · rw [if_neg h] at e; exact List.mem_cons_of_mem _ (tblOf_mem e)
/-! ### facts that the head tells, as truth values -/
abbrev wd (K : PySem.W.Frag) : Wd := ⟨K, He.ga K, none⟩
def clsFB (K : PySem.W.Frag) (x : Str) : Bool := (He.Fa.cls x).ok K && (decide (PySem.W.findIn K (.ref (He.ga K x)) "__class__" = some (some (.builtin "object.__class__"))) && (decide (PySem.W.specialIn K (.builtin "object.__class__") "__get__" = some (some (.builtin "getset_descriptor.__get__"))) &&
  (decide (PySem.W.takesIn K (.builtin "object.__class__") = some true) && decide (PySem.W.mroIn K (He.ga K x) (.type "object") = some true))))
theorem clsFB_ok {K : PySem.W.Frag} {x : Str} (h : clsFB K x = true) : ClsF K (He.ga K x) := by
  obtain ⟨h1, h⟩ := He.ba h
  obtain ⟨h2, h⟩ := He.ba h
  obtain ⟨h3, h⟩ := He.ba h
  obtain ⟨h4, h5⟩ := He.ba h
  exact ⟨He.cls_ok h1, of_decide_eq_true h2, of_decide_eq_true h3, of_decide_eq_true h4, of_decide_eq_true h5⟩
def eqFB (K : PySem.W.Frag) (x : Str) : Bool := decide (PySem.W.findIn K (.ref (He.ga K x)) "__eq__" = some (some (.ref (He.ma K (He.ga K x) "__eq__")))) && (PySem.W.isFn K (.ref (He.ma K (He.ga K x) "__eq__")) && (decide (PySem.W.findIn K (.ref (He.ga K x)) "__ne__" = some (some (.builtin "object.__ne__"))) &&
  decide (PySem.W.mroIn K (He.ga K x) (.type "object") = some true)))
theorem eqFB_ok {K : PySem.W.Frag} {x : Str} (h : eqFB K x = true) : EqF K (He.ga K x) (He.ma K (He.ga K x) "__eq__") := by
  obtain ⟨h1, h⟩ := He.ba h
  obtain ⟨h2, h⟩ := He.ba h
  obtain ⟨h3, h4⟩ := He.ba h
  exact ⟨of_decide_eq_true h1, h2, of_decide_eq_true h3, of_decide_eq_true h4⟩
/-- kitOne by rows -/
def kitB (K : PySem.W.Frag) (u : PySem.W.Frag → Value) (rows : List (Tg × Bool)) : Bool := rows.all fun r => decide (PySem.W.kitOne K (tgV (wd K) r.1) (u K) = some r.2)
theorem kitB_ok {K : PySem.W.Frag} {u : PySem.W.Frag → Value} {rows : List (Tg × Bool)} (h : kitB K u rows = true) {t : Tg} {b : Bool} (e : tblOf rows t = some b) : PySem.W.kitOne K (tgV (wd K) t) (u K) = some b :=
  of_decide_eq_true (List.all_eq_true.mp h _ (tblOf_mem e))
/-- notFirst by rows -/
def fstB (K : PySem.W.Frag) (x : Str) (ts : List Tg) : Bool := ts.all fun t => PySem.W.notFirst K (He.ga K x) (tgV (wd K) t)
def fstK {K : PySem.W.Frag} {x : Str} {ts : List Tg} (h : fstB K x ts = true) : FstK (wd K) x := ⟨fun t => decide (t ∈ ts), fun t e => List.all_eq_true.mp h _ (of_decide_eq_true e)⟩
def kkC (c : Wd) (cls : List Str) (h : ∀ n ∈ cls, ClsF c.K (c.cl n)) : IsK c := ⟨fun n => decide (n ∈ cls), fun n e => h n (of_decide_eq_true e), fun _ _ => none, fun _ _ _ e => nomatch e⟩
/-- which right sides == may have -/
def okTg (ts : List Tg) (cls : List Str) (t : Tg) : Bool := decide (t ∈ ts) && (match t with
  | .ty _ => true
  | .own n => decide (n ∈ cls))
/-- own exceptions -/
def oexB (K : PySem.W.Frag) (C : Addr) : Bool := (match K.lookup C with
  | some ⟨.type "type", _, .cls cd, sl⟩ => (match cd.mro, sl.toList with
    | .ref C' :: bm, [_, _, _, _, some (.builtin n), _] => C' == C && n == "ValueError.__new__" && !cd.hasDel && cd.hasDict && PySem.HandSPX.refsVE bm
    | _, _ => false)
  | _ => false) && (decide (PySem.W.findIn K (.ref C) "__setattr__" = some (some (.builtin "object.__setattr__"))) && (decide (PySem.W.subIn K (.ref C) (.type "BaseException") = some true) && (decide (PySem.W.typeIn K (.ref C) = some (.type "type")) && PySem.W.keepIn K (.ref C))))
theorem oexB_ok {K : PySem.W.Frag} {C : Addr} (h : oexB K C = true) : OexC K C := by
  obtain ⟨h1, h⟩ := He.ba h
  obtain ⟨h2, h⟩ := He.ba h
  obtain ⟨h3, h⟩ := He.ba h
  obtain ⟨h4, h5⟩ := He.ba h
  refine ⟨?_, of_decide_eq_true h2, of_decide_eq_true h3, of_decide_eq_true h4, h5⟩
  split at h1
  · rename_i dd cd sl ho
    split at h1
    · rename_i C' bm k0 k1 k2 k3 n k5 hm hs
      simp only [Bool.and_eq_true, beq_iff_eq, Bool.not_eq_true'] at h1
      obtain ⟨⟨⟨⟨e1, e2⟩, hdel⟩, hdct⟩, hr⟩ := h1
      subst e1
      subst e2
      obtain ⟨nm, bs, mro, ns, qn, hd, sn, sub, ab, col, del⟩ := cd
      dsimp only at hm hdel hdct
      subst hm hdel hdct
      have hsl : sl = #[k0, k1, k2, k3, some (.builtin "ValueError.__new__"), k5] := by
        obtain ⟨l⟩ := sl
        simp only at hs
        rw [hs]
      subst hsl
      exact ⟨nm, qn, ns, bs, bm, sn, sub, ab, col, dd, k0, k1, k2, k3, k5, ho, hr⟩
    · cases h1
  · cases h1
def excCB (K : PySem.W.Frag) (D : Addr) : Bool := xfB K D && (decide (PySem.W.findIn K (.ref D) "__class__" = some (some (.builtin "object.__class__"))) && (decide (PySem.W.specialIn K (.builtin "object.__class__") "__get__" = some (some (.builtin "getset_descriptor.__get__"))) &&
  (decide (PySem.W.takesIn K (.builtin "object.__class__") = some true) && decide (PySem.W.mroIn K D (.type "object") = some true))))
theorem excCB_ok {K : PySem.W.Frag} {D : Addr} (h : excCB K D = true) : XfC K D ∧ ExcC K D := by
  obtain ⟨h1, h⟩ := He.ba h
  obtain ⟨h2, h⟩ := He.ba h
  obtain ⟨h3, h⟩ := He.ba h
  obtain ⟨h4, h5⟩ := He.ba h
  have x := xfB_ok h1
  exact ⟨x, x.ga, x.gg, x.exC, x.hdC, of_decide_eq_true h2, of_decide_eq_true h3, of_decide_eq_true h4, of_decide_eq_true h5⟩
/-- the base class of the program's own exceptions; its __init__ is ValueError's -/
def baseB (K : PySem.W.Frag) (B : Addr) : Bool := decide (PySem.W.specialIn K (.ref B) "__getattribute__" = some (some (.builtin "type.__getattribute__"))) && (PySem.W.readsIn K B (.type "type") && (match PySem.W.findCls K (.ref B) (.type "type") "__init__" with
  | some (.val (.builtin n)) => n == "ValueError.__init__"
  | _ => false))
theorem baseB_ok {K : PySem.W.Frag} {B : Addr} (h : baseB K B = true) : BaseC K B := by
  obtain ⟨h1, h⟩ := He.ba h
  obtain ⟨h2, h3⟩ := He.ba h
  refine ⟨of_decide_eq_true h1, h2, ?_⟩
  split at h3
  · rename_i n e
    rw [e, eq_of_beq h3]
  · cases h3
/-- its own __init__ -/
def xiniB (K : PySem.W.Frag) (x f : Str) : Bool := decide (PySem.W.findIn K (.ref (He.ga K x)) "__init__" = some (some (.ref (He.ma K (He.ga K x) "__init__")))) && (decide (PySem.W.typeIn K (.ref (He.ma K (He.ga K x) "__init__")) = some (.type "function")) && decide (PySem.W.findIn K (.ref (He.ga K x)) f = some none))
theorem xiniB_ok {K : PySem.W.Frag} {x f : Str} (h : xiniB K x f = true) : PySem.W.findIn K (.ref (He.ga K x)) "__init__" = some (some (.ref (He.ma K (He.ga K x) "__init__"))) ∧ PySem.W.typeIn K (.ref (He.ma K (He.ga K x) "__init__")) = some (.type "function") ∧ PySem.W.findIn K (.ref (He.ga K x)) f = some none := by
  obtain ⟨h1, h⟩ := He.ba h
  obtain ⟨h2, h3⟩ := He.ba h
  exact ⟨of_decide_eq_true h1, of_decide_eq_true h2, of_decide_eq_true h3⟩
/-- which exceptions an except clause takes, by rows -/
def exmB (K : PySem.W.Frag) (y : Str) (rows : List (Str × Bool)) : Bool := rows.all fun r => decide (PySem.W.exmOne K (.ref (He.ga K r.1)) (.ref (He.ga K y)) = some r.2)
theorem exmB_ok {K : PySem.W.Frag} {y : Str} {rows : List (Str × Bool)} (h : exmB K y rows = true) (n : Str) (b : Bool) (e : tblOf rows n = some b) : PySem.W.exmOne K (.ref (He.ga K n)) (.ref (He.ga K y)) = some b :=
  of_decide_eq_true (List.all_eq_true.mp h _ (tblOf_mem e))
/-- isinstance of exceptions, by rows -/
def kitXB (K : PySem.W.Frag) (u : PySem.W.Frag → Value) (rows : List (Str × Bool)) : Bool := rows.all fun r => excCB K (He.ga K r.1) && decide (PySem.W.kitOne K (.ref (He.ga K r.1)) (u K) = some r.2)
theorem kitXB_ok {K : PySem.W.Frag} {u : PySem.W.Frag → Value} {rows : List (Str × Bool)} {cv : V} (h : kitXB K u rows = true) (hu : ClsV cv (u K)) (n : Str) (b : Bool) (e : tblOf rows n = some b) : ExcC K (He.ga K n) ∧ ∃ v, ClsV cv v ∧ PySem.W.kitOne K (.ref (He.ga K n)) v = some b := by
  obtain ⟨h1, h2⟩ := He.ba (List.all_eq_true.mp h _ (tblOf_mem e))
  exact ⟨(excCB_ok h1).2, u K, hu, of_decide_eq_true h2⟩
/-- a tuple of the module -/
theorem r_ktup {X : Cx} {cl : Str → Addr} {sx : Option (Addr × Value × Option Addr)} {W : WX} {x : Str} {ps : List PV} {pos : Pos} {vs : List He.Dv} (hg : Gl X x) (hm : X.mg x = some (.ref (He.ga X.K x))) (h : He.tupB X.K x vs = true) (hv : ∀ F ρ, RepL ⟨X.K, cl, sx⟩ F ρ ps (vs.map (He.Dv.v X.K)))
    (hd : (x == ("__debug__" : Str)) = false := by decide) : PE X (.Name x pos) (tE ⟨X.K, cl, sx⟩ W (mC (.tup ps))) := by
  refine peI (pe_glob (v := .ref (He.ga X.K x)) hg hm rfl hd) (snd_c fun F ρ => ?_)
  have q := He.tupB_ok h (fun _ => none)
  refine ⟨He.ga X.K x, _, rfl, .inr ?_, hv F ρ⟩
  rcases q with q | q
  · rcases q with q | ⟨o, q⟩ <;> exact (nomatch q)
  · exact q
section
variable {X : Cx} {c : Wd} {W : WX} {tg iter : Expr} {body : List Stmt} {pos : Pos}
theorem r_for {mi : MI} {g : TG} {mg : MG} {is : List Nat} {mb : MS} (hp : PassesOwn (model X.prog X.w) X.A X.env X.xe) (hc : X.calm = true) (hi : PI X tg iter (tI c W mi)) (hg : PG X tg g) (ok : GOk c is g mg) (hb : PSs X body (tS c W mb)) (hs : ∀ x, foldedSetIterable iter X.env x = pure x := by intro _; rfl) :
    PS X (.For tg iter body [] pos) (tS c W (mFor mi mg mb)) := sm_for hp hc hi hg ok hb (ps_for hp hc hi hg hb hs)
end
def okSP : PV → Bool
  | .str y => decide (y.length ≤ 1000)
  | _ => false
theorem okSP_ok {c : Wd} (F : Hp) (ρ : Nat → Option Addr) (p : PV) (x : V) (r : Rep c F ρ p x) (e : okSP p = true) : okS x := by
  cases p with
  | str y => exact ⟨y, r, of_decide_eq_true e⟩
  | _ => cases e
/-- a def's object -/
def DD (d : He.DefD) (K : PySem.W.Frag) (fd : FuncData) : Prop := FunD K d.name d.qual d.params d.body d.scope (d.dvs K) (d.kws K) (He.fAd K d.at_) fd
theorem DD.kp {d : He.DefD} {K : PySem.W.Frag} {fd : FuncData} (D : DD d K fd) : PySem.W.keepIn K (.ref (He.fAd K d.at_)) = true := FunD.kp D
theorem DD_same {d : He.DefD} {K : PySem.W.Frag} {fd fd' : FuncData} (D : DD d K fd) (D' : DD d K fd') : fd = fd' := by
  obtain ⟨_, _, _, _, _, _, _, _, _, _, _, l, _⟩ := FunD.ex D
  obtain ⟨_, _, _, _, _, _, _, _, _, _, _, l', _⟩ := FunD.ex D'
  rw [l] at l'
  injection l' with z
  injection z with _ _ z
  injection z
/-- a comprehension's block, by a truth value -/
def blkB (N : List Str) (sc scope : Scope) (own : List (Str × Nat)) : Bool := decide (scope.kind = .function) && (decide (∀ y ∈ scope.names, scope.names.lookup y.1 = some y.2) && (decide (∀ p ∈ own, N[p.2]? = some p.1) &&
  (decide (∀ y ∈ scope.names, y.2 = .free → sc.names.lookup y.1 = some .cell ∨ sc.names.lookup y.1 = some .free) && decide (∀ y ∈ scope.names, y.2 = .local ∨ y.2 = .cell → y.1 ∈ own.map (·.1) ∨ y.1 ∉ N))))
theorem blkOk {N : List Str} {sc scope : Scope} {own : List (Str × Nat)} (h : blkB N sc scope own = true) : BlkOk N sc scope own := by
  obtain ⟨h1, h⟩ := He.ba h
  obtain ⟨h2, h⟩ := He.ba h
  obtain ⟨h3, h⟩ := He.ba h
  obtain ⟨h4, h5⟩ := He.ba h
  exact ⟨of_decide_eq_true h1, of_decide_eq_true h2, of_decide_eq_true h3, of_decide_eq_true h4, of_decide_eq_true h5⟩
section
variable {X : Cx} {cl : Str → Addr} {sx : Option (Addr × Value × Option Addr)} {W : WX} {n j : Nat} {f : Addr} {ks : List Str} {run : List PV → List PV → MH → Res PV} {x : Str} {p pos : Pos} {e : Expr} {es : List Expr} {kws : List Keyword}
theorem r_callK {m mk : MA} (cal : Callee X ⟨X.K, cl, sx⟩ W (.ref f) n ks run) (hg : Gl X x) (hm : X.mg x = some (.ref f)) (hk : PySem.W.keepIn X.K (.ref f) = true) (ha : PA X (e :: es) (tA ⟨X.K, cl, sx⟩ W m)) (hkw : PK X kws (tA ⟨X.K, cl, sx⟩ W mk)) (hj : ks.length = j := by rfl)
    (hall : (backToKw pos (keywordEach kws X.env)).all (·.1.isSome) = true := by rfl) (hks : (backToKw pos (keywordEach kws X.env)).filterMap (·.1) = ks := by rfl) (hdb : (x == ("__debug__" : Str)) = false := by decide)
    (he : starEach (e :: es) X.env = (false, eval e X.env) :: starEach es X.env := by rfl) (hpl : ((backTo pos (starEach (e :: es) X.env)).any (·.1) || (backToKw pos (keywordEach kws X.env)).any (·.1.isNone)) = false := by rfl) :
    PE X (.Call (.Name x p) (e :: es) kws pos) (tE ⟨X.K, cl, sx⟩ W (mCallK n j run m mk)) := by
  subst hj
  exact em_callK cal hg hm hk ha hkw hall hks hdb he hpl
theorem r_callK0 {mk : MA} (cal : Callee X ⟨X.K, cl, sx⟩ W (.ref f) 0 ks run) (hg : Gl X x) (hm : X.mg x = some (.ref f)) (hk : PySem.W.keepIn X.K (.ref f) = true) (hkw : PK X kws (tA ⟨X.K, cl, sx⟩ W mk)) (hj : ks.length = j := by rfl)
    (hall : (backToKw pos (keywordEach kws X.env)).all (·.1.isSome) = true := by rfl) (hks : (backToKw pos (keywordEach kws X.env)).filterMap (·.1) = ks := by rfl) (hdb : (x == ("__debug__" : Str)) = false := by decide)
    (hpl : ((backTo pos (starEach [] X.env)).any (·.1) || (backToKw pos (keywordEach kws X.env)).any (·.1.isNone)) = false := by rfl) :
    PE X (.Call (.Name x p) [] kws pos) (tE ⟨X.K, cl, sx⟩ W (mCallK 0 j run mNil mk)) := by
  subst hj
  exact em_callK0 cal hg hm hk hkw hall hks hdb hpl
end
section
variable {X : Cx} {W : WX} {cn : Str} {ts : List Tg} {cls : List Str} {fE : Addr} {run : List PV → MH → Res PV} {ma mb : ME} {a b : Expr} {pos : Pos}
theorem okTg_eq {K : PySem.W.Frag} (hk : ∀ n ∈ cls, ClsF (wd K).K ((wd K).cl n)) (hf : fstB K cn ts = true) : okTg ts cls = fun t => (fstK hf).ok t && tgOk (kkC (wd K) cls hk) t := by
  funext t
  cases t <;> rfl
theorem r_eqT (hk : ∀ n ∈ cls, ClsF (wd X.K).K ((wd X.K).cl n)) (hf : fstB X.K cn ts = true) (T : EqF X.K (He.ga X.K cn) fE) (cal : CalleeD X (wd X.K) W (.ref fE) 2 run) (hu : X.A.units + 1 < cLine) (ha : PE X a (tE (wd X.K) W ma)) (hb : PE X b (tE (wd X.K) W mb)) :
    PT X (.Compare a [.Eq] [b] pos) (tT (wd X.K) W (mTst (mEqO cn (okTg ts cls) run false ma mb))) := by
  rw [okTg_eq hk hf]
  exact tm_eqO (neg := false) (kkC (wd X.K) cls hk) (fstK hf) T cal hu ha hb
theorem r_neT (hk : ∀ n ∈ cls, ClsF (wd X.K).K ((wd X.K).cl n)) (hf : fstB X.K cn ts = true) (T : EqF X.K (He.ga X.K cn) fE) (cal : CalleeD X (wd X.K) W (.ref fE) 2 run) (hu : X.A.units + 1 < cLine) (ha : PE X a (tE (wd X.K) W ma)) (hb : PE X b (tE (wd X.K) W mb)) :
    PT X (.Compare a [.NotEq] [b] pos) (tT (wd X.K) W (mTst (mEqO cn (okTg ts cls) run true ma mb))) := by
  rw [okTg_eq hk hf]
  exact tm_eqO (neg := true) (kkC (wd X.K) cls hk) (fstK hf) T cal hu ha hb
theorem r_eqE (hk : ∀ n ∈ cls, ClsF (wd X.K).K ((wd X.K).cl n)) (hf : fstB X.K cn ts = true) (T : EqF X.K (He.ga X.K cn) fE) (cal : CalleeD X (wd X.K) W (.ref fE) 2 run) (hu : X.A.units + 1 < cLine) (ha : PE X a (tE (wd X.K) W ma)) (hb : PE X b (tE (wd X.K) W mb)) :
    PE X (.Compare a [.Eq] [b] pos) (tE (wd X.K) W (mEqO cn (okTg ts cls) run false ma mb)) := by
  rw [okTg_eq hk hf]
  exact em_eqO (kkC (wd X.K) cls hk) (fstK hf) T cal hu ha hb
theorem r_neE (hk : ∀ n ∈ cls, ClsF (wd X.K).K ((wd X.K).cl n)) (hf : fstB X.K cn ts = true) (T : EqF X.K (He.ga X.K cn) fE) (cal : CalleeD X (wd X.K) W (.ref fE) 2 run) (hu : X.A.units + 1 < cLine) (ha : PE X a (tE (wd X.K) W ma)) (hb : PE X b (tE (wd X.K) W mb)) :
    PE X (.Compare a [.NotEq] [b] pos) (tE (wd X.K) W (mEqO cn (okTg ts cls) run true ma mb)) := by
  rw [okTg_eq hk hf]
  exact em_neO (kkC (wd X.K) cls hk) (fstK hf) T cal hu ha hb
end
/-! ### the head's hook: what the module's names reach, and the interpreter's own statics -/
def frM (n : Nat) (g : Addr → Option Obj) : PySem.W.Frag := He.frG g (cStatics :: He.asD g n)
structure SaysM (fa : List He.Fa) (fn : List He.DefD) (ex : PySem.W.Frag → Bool) (K : PySem.W.Frag) : Prop where
  d : He.SaysD fa fn K
  more : ex K = true
abbrev AlM : Type := He.AlD × Bool
def obsM (n : Nat) (fa : List He.Fa) (fn : List He.DefD) (ex : PySem.W.Frag → Bool) (g : Addr → Option Obj) : AlM := (He.obsD fa fn (frM n g), ex (frM n g))
def hookM (n : Nat) (fa : List He.Fa) (fn : List He.DefD) (ex : PySem.W.Frag → Bool) : PySem.W.Hook where
  α := AlM
  obs := fun t => obsM n fa fn ex t.heap.get?
  val := fun _ => (He.valD fn, true)
  says := fun _ h => ∃ K : PySem.W.Frag, K.In h ∧ SaysM fa fn ex K
  of := fun _ _ e => ⟨_, He.frG_in, congrArg (fun z : AlM => z.1) e, congrArg (fun z : AlM => z.2) e⟩
  keeps := fun _ _ _ ⟨K, inK, c⟩ k => ⟨K, PySem.W.Frag.In.keeps inK k, c⟩
theorem obsM_eq {n : Nat} {fa : List He.Fa} {fn : List He.DefD} {ex : PySem.W.Frag → Bool} {g : Addr → Option Obj} {t : Shared} (h : ∀ a, g a = t.heap.get? a) : obsM n fa fn ex g = (hookM n fa fn ex).obs t := by
  obtain rfl : g = t.heap.get? := funext h
  rfl
end Mi

/-! MiV: what a mirror comes to, step by step. -/
namespace Mi
open PySem PySem.Spec PyProof.Rows L2
section
variable {α : Type} {env e1 : MEnv} {h h1 h2 h3 h4 : MH} {m ma mb mc mo mv mi_ : ME} {a r_ mk : MA} {t ta tb : MT} {p q v : PV} {ps qs : List PV} {i n j : Nat} {b k : Bool} {r : Res PV} {sr : SRes} {sa sb : MS}
theorem ev_var (e : env[i]? = some (some v)) : mVar i env h = .ok v h := by unfold mVar; rw [e]
theorem ev_c : mC v env h = .ok v h := rfl
theorem ev_nil : mNil env h = .ok [] h := rfl
theorem ev_cons (e : m env h = .ok v h1) (f : r_ env h1 = .ok ps h2) : mCons m r_ env h = .ok (v :: ps) h2 := by unfold mCons; rw [e]; dsimp only [Res.bind]; rw [f]
theorem ev_tup (e : a env h = .ok ps h1) (z : ps.length ≤ sizeLine) : mTup a env h = .ok (.tup ps) h1 := by unfold mTup; rw [e]; dsimp only [Res.bind, kTup]; rw [if_pos z]
theorem ev_lst (e : a env h = .ok ps h1) (z : ps.length ≤ sizeLine) : mLst a env h = .ok (.lst ps) h1 := by unfold mLst; rw [e]; dsimp only [Res.bind, kLst]; rw [if_pos z]
theorem ev_lstC (e : a env h = .ok ps h1) (z : ps.length ≤ sizeLine) : mLstC a env h = .ok (.ref h1.nx) (h1.new (.lst ps)) := by unfold mLstC; rw [e]; dsimp only [Res.bind, kLstC]; rw [if_pos z]
theorem ev_b1 {f : P1} (e : m env h = .ok p h1) (g : f p h1 = some (v, h2)) : mB1 f m env h = .ok v h2 := by unfold mB1; rw [e]; dsimp only [Res.bind]; rw [g]; rfl
theorem ev_b2 {f : P2} (e : ma env h = .ok p h1) (e' : mb env h1 = .ok q h2) (g : f p q h2 = some (v, h3)) : mB2 f ma mb env h = .ok v h3 := by unfold mB2; rw [e]; dsimp only [Res.bind]; rw [e']; dsimp only; rw [g]; rfl
theorem ev_ba {f : PL} (e : a env h = .ok ps h1) (g : f ps h1 = some (v, h2)) : mBA f a env h = .ok v h2 := by unfold mBA; rw [e]; dsimp only [Res.bind]; rw [g]; rfl
theorem ev_call {run : List PV → List PV → MH → Res PV} (e : a env h = .ok ps h1) (z : ps.length = n) (g : run ps [] h1 = r) : mCall n run a env h = r := by unfold mCall; rw [e]; dsimp only [Res.bind]; rw [if_pos z]; exact g
theorem ev_callK {run : List PV → List PV → MH → Res PV} (e : a env h = .ok ps h1) (e' : mk env h1 = .ok qs h2) (z : ps.length = n ∧ qs.length = j) (g : run ps qs h2 = r) : mCallK n j run a mk env h = r := by unfold mCallK; rw [e]; dsimp only [Res.bind]; rw [e']; dsimp only; rw [if_pos z]; exact g
theorem ev_fld {cn f : Str} {fs : List (Str × PV)} (e : m env h = .ok p h1) (g : asO p h1 = some (cn, fs)) (l : lookF fs f = some v) : mFld cn f m env h = .ok v h1 := by unfold mFld; rw [e]; dsimp only [Res.bind, kFld]; rw [g]; dsimp only; rw [if_pos rfl, l]
theorem ev_meth {cn nm : Str} {run : List PV → List PV → MH → Res PV} {fs : List (Str × PV)} (e : mo env h = .ok p h1) (g : asO p h1 = some (cn, fs)) (l : (lookF fs nm).isNone = true) (e' : a env h1 = .ok ps h2) (z : ps.length = n) (k : run (p :: ps) [] h2 = r) : mMeth cn nm n run mo a env h = r := by
  unfold mMeth; rw [e]; dsimp only [Res.bind, kMeth]; rw [g]; dsimp only; rw [if_pos ⟨rfl, l⟩, e']; dsimp only [Res.bind]; rw [if_pos z]; exact k
theorem ev_is {tbl : Tg → Option Bool} {tg : Tg} (e : m env h = .ok p h1) (g : tagP p h1 = some tg) (l : tbl tg = some b) : mIs tbl m env h = .ok (.bl b) h1 := by unfold mIs; rw [e]; dsimp only [Res.bind]; rw [g]; dsimp only; rw [l]
theorem ev_andF (e : ma env h = .ok (.bl false) h1) : mAndV ma mb env h = .ok (.bl false) h1 := by unfold mAndV; rw [e]; rfl
theorem ev_andT (e : ma env h = .ok (.bl true) h1) (g : mb env h1 = r) : mAndV ma mb env h = r := by unfold mAndV; rw [e]; exact g
theorem ev_notV (e : m env h = .ok (.bl b) h1) : mNotV m env h = .ok (.bl (!b)) h1 := by unfold mNotV; rw [e]; rfl
theorem ev_ifT (e : t env h = .ok true h1) (g : ma env h1 = r) : mIf t ma mb env h = r := by unfold mIf; rw [e]; exact g
theorem ev_ifF (e : t env h = .ok false h1) (g : mb env h1 = r) : mIf t ma mb env h = r := by unfold mIf; rw [e]; exact g
theorem ev_tst (e : m env h = .ok (.bl b) h1) : mTst m env h = .ok b h1 := by unfold mTst; rw [e]; rfl
theorem ev_tru (e : m env h = .ok p h1) (g : truP p h1 = some b) : mTru m env h = .ok b h1 := by unfold mTru; rw [e]; dsimp only [Res.bind, kTru]; rw [g]
theorem ev_not (e : t env h = .ok b h1) : mNot t env h = .ok (!b) h1 := by unfold mNot; rw [e]; rfl
theorem ev_tandF (e : ta env h = .ok false h1) : mAnd ta tb env h = .ok false h1 := by unfold mAnd; rw [e]; rfl
theorem ev_tandT {tr : Res Bool} (e : ta env h = .ok true h1) (g : tb env h1 = tr) : mAnd ta tb env h = tr := by unfold mAnd; rw [e]; exact g
theorem ev_torT (e : ta env h = .ok true h1) : mOr ta tb env h = .ok true h1 := by unfold mOr; rw [e]; rfl
theorem ev_torF {tr : Res Bool} (e : ta env h = .ok false h1) (g : tb env h1 = tr) : mOr ta tb env h = tr := by unfold mOr; rw [e]; exact g
theorem ev_sl {ml mh : MO} {lo hi : Option Int} {xs : List PV} (e : m env h = .ok p h1) (e1 : ml env h1 = .ok lo h2) (e2 : mh env h2 = .ok hi h3) (g : asL p h3 = some xs) : mSl m ml mh env h = .ok (.lst (cutP xs lo hi)) h3 := by
  unfold mSl; rw [e]; dsimp only [Res.bind]; rw [e1]; dsimp only [Res.bind]; rw [e2]; dsimp only [kSl]; rw [g]
theorem ev_moN : moN env h = .ok none h := rfl
theorem ev_moS {x : Int} (e : m env h = .ok (.int x) h1) : moS m env h = .ok (some x) h1 := by unfold moS; rw [e]; rfl
theorem ev_yes : mYes env h = .ok true h := rfl
theorem ev_lc {own : List Nat} {mi : MI} {g : MG} {el : ME} {ys : List PV} (e : mi env h = .ok ps h1) (z : ps.length ≤ sizeLine) (f : mLcL g t el (wipeP env own) ps h1 = .ok ys h2) : mLc own mi g t el env h = .ok (.lst ys) h2 := by
  unfold mLc; rw [e]; dsimp only [Res.bind]; rw [if_pos z, f]
theorem ev_lcN {g : MG} {el : ME} : mLcL g t el env [] h = .ok [] h := rfl
theorem ev_lcY {g : MG} {el : ME} {ys : List PV} (e : g p env = some e1) (f : t e1 h = .ok true h1) (w : el e1 h1 = .ok v h2) (r : mLcL g t el env ps h2 = .ok ys h3) : mLcL g t el env (p :: ps) h = .ok (v :: ys) h3 := by
  simp only [mLcL]; rw [e]; dsimp only; rw [f]; dsimp only [noX, Res.bind]; rw [if_pos rfl, w]; dsimp only [noX, Res.bind]; rw [r]
theorem ev_lcS {g : MG} {el : ME} {rr : Res (List PV)} (e : g p env = some e1) (f : t e1 h = .ok false h1) (r : mLcL g t el env ps h1 = rr) : mLcL g t el env (p :: ps) h = rr := by
  simp only [mLcL]; rw [e]; dsimp only; rw [f]; dsimp only [noX, Res.bind]; rw [if_neg Bool.false_ne_true]; exact r
theorem ev_iter {xs : List PV} (e : m env h = .ok p h1) (g : iterP p = some xs) : mIter m env h = .ok xs h1 := by unfold mIter; rw [e]; dsimp only [Res.bind, kIter]; rw [g]
theorem ev_enum {xs : List PV} (e : a env h = .ok [.lst xs] h1) : mEnum a env h = .ok (enumP xs) h1 := by unfold mEnum; rw [e]; rfl
theorem ev_rng1 {x : Int} (e : a env h = .ok [.int x] h1) (z : -(2 ^ 62) ≤ x ∧ x < 2 ^ 62) : mRng1 a env h = .ok (rangeP 0 x.toNat) h1 := by unfold mRng1; rw [e]; dsimp only [Res.bind, kRng1]; rw [if_pos z]
theorem ev_eqO {cn : Str} {ok : Tg → Bool} {run : List PV → MH → Res PV} {neg : Bool} {fs : List (Str × PV)} {tg : Tg} (e : ma env h = .ok p h1) (e' : mb env h1 = .ok q h2) (g : asO p h2 = some (cn, fs)) (g' : tagP q h2 = some tg) (z : ok tg = true) (f : run [p, q] h2 = .ok (.bl b) h3) : mEqO cn ok run neg ma mb env h = .ok (.bl (if neg then !b else b)) h3 := by
  unfold mEqO; rw [e]; dsimp only [Res.bind]; rw [e']; dsimp only [kEqO]; rw [g, g']; dsimp only; rw [if_pos ⟨rfl, z⟩, f]; rfl
-- statements
theorem ev_seq (e : sa env h = .nx e1 h1) (g : sb e1 h1 = sr) : mSeq sa sb env h = sr := by unfold mSeq; rw [e]; exact g
theorem ev_seqR (e : sa env h = .rt v h1) : mSeq sa sb env h = .rt v h1 := by unfold mSeq; rw [e]
theorem ev_seqX {nm : Str} {fs : List (Str × PV)} (e : sa env h = .exc nm fs e1 h1) : mSeq sa sb env h = .exc nm fs e1 h1 := by unfold mSeq; rw [e]
theorem ev_set (e : m env h = .ok v h1) : mSet i m env h = .nx (env.set i (some v)) h1 := by unfold mSet; rw [e]; rfl
theorem ev_ret (e : m env h = .ok v h1) : mRet m env h = .rt v h1 := by unfold mRet; rw [e]; rfl
theorem ev_exp (e : m env h = .ok v h1) : mExp m env h = .nx env h1 := by unfold mExp; rw [e]; rfl
theorem ev_expX {nm : Str} {fs : List (Str × PV)} (e : m env h = .exc nm fs h1) : mExp m env h = .exc nm fs env h1 := by unfold mExp; rw [e]; rfl
theorem ev_ifsT (e : t env h = .ok true h1) (g : sa env h1 = sr) : mIfS t sa sb env h = sr := by unfold mIfS; rw [e]; exact g
theorem ev_ifsF (e : t env h = .ok false h1) (g : sb env h1 = sr) : mIfS t sa sb env h = sr := by unfold mIfS; rw [e]; exact g
theorem ev_nx : mNx env h = .nx env h := rfl
theorem ev_for {mi : MI} {g : MG} (e : mi env h = .ok ps h1) (f : mForL g sa ps env h1 = sr) : mFor mi g sa env h = sr := by unfold mFor; rw [e]; exact f
theorem ev_forN {g : MG} : mForL g sa [] env h = .nx env h := rfl
theorem ev_forC {g : MG} {e2 : MEnv} (e : g p env = some e1) (f : sa e1 h = .nx e2 h1) (k : mForL g sa ps e2 h1 = sr) : mForL g sa (p :: ps) env h = sr := by simp only [mForL]; rw [e]; dsimp only; rw [f]; exact k
theorem ev_forX {g : MG} {e2 : MEnv} {nm : Str} {fs : List (Str × PV)} (e : g p env = some e1) (f : sa e1 h = .exc nm fs e2 h1) : mForL g sa (p :: ps) env h = .exc nm fs e2 h1 := by simp only [mForL]; rw [e]; dsimp only; rw [f]
theorem ev_stF {cn f : Str} {x : Nat} {fs : List (Str × PV)} (e : mv env h = .ok v h1) (e' : mo env h1 = .ok (.ref x) h2) (g : h2.get x = some (.obj cn fs)) (z : fs.length < 1000) : mStF cn f mv mo env h = .nx env (h2.put x (.obj cn (putFP f v fs))) := by
  unfold mStF; rw [e]; dsimp only [Res.then]; rw [e']; dsimp only [kStF]; rw [g]; dsimp only; rw [if_pos ⟨rfl, z⟩]
theorem ev_stI (e : mv env h = .ok v h1) (e' : mo env h1 = .ok p h2) (e2 : mi_ env h2 = .ok q h3) (g : stIx p q v h3 = some h4) : mStIx mv mo mi_ env h = .nx env h4 := by
  unfold mStIx; rw [e]; dsimp only [Res.then]; rw [e']; dsimp only; rw [e2]; dsimp only [kStIx]; rw [g]
theorem ev_raise {cn f : Str} {ok : PV → Bool} (e : a env h = .ok [p] h1) (z : ok p = true) : mRaiseA cn f ok a env h = .exc cn [(f, p)] env h1 := by unfold mRaiseA; rw [e]; dsimp only [Res.then, kArg1]; rw [if_pos z]
theorem ev_ifs (e : t env h = .ok b h1) (g : (if b = true then sa env h1 else sb env h1) = sr) : mIfS t sa sb env h = sr := by unfold mIfS; rw [e]; exact g
theorem ev_if (e : t env h = .ok b h1) (g : (if b = true then ma env h1 else mb env h1) = r) : mIf t ma mb env h = r := by unfold mIf; rw [e]; exact g
theorem ev_and (e : ma env h = .ok (.bl b) h1) (g : (if b = true then mb env h1 else .ok (.bl false) h1) = r) : mAndV ma mb env h = r := by unfold mAndV; rw [e]; cases b <;> exact g
theorem ev_tand {tr : Res Bool} (e : ta env h = .ok b h1) (g : (if b = true then tb env h1 else .ok false h1) = tr) : mAnd ta tb env h = tr := by unfold mAnd; rw [e]; exact g
theorem ev_tor {tr : Res Bool} (e : ta env h = .ok b h1) (g : (if b = true then .ok true h1 else tb env h1) = tr) : mOr ta tb env h = tr := by unfold mOr; rw [e]; exact g
def seqK (s : SRes) (sb : MS) : SRes := match s with
  | .nx e h => sb e h
  | s => s
theorem ev_seq' {s1 : SRes} (e : sa env h = s1) (g : seqK s1 sb = sr) : mSeq sa sb env h = sr := by subst e; exact g
theorem k_nx (g : sb env h = sr) : seqK (.nx env h) sb = sr := g
theorem k_rt : seqK (.rt v h) sb = .rt v h := rfl
theorem k_xc {nm : Str} {fs : List (Str × PV)} : seqK (.exc nm fs env h) sb = .exc nm fs env h := rfl
def forK (s : SRes) (rest : MS) : SRes := match s with
  | .nx e h => rest e h
  | .ct e h => rest e h
  | .bk e h => .nx e h
  | s => s
theorem ev_for' {g : MG} {s1 : SRes} (e : g p env = some e1) (f : sa e1 h = s1) (k : forK s1 (mForL g sa ps) = sr) : mForL g sa (p :: ps) env h = sr := by simp only [mForL]; rw [e]; dsimp only; rw [f]; exact k
theorem f_nx {rest : MS} (g : rest env h = sr) : forK (.nx env h) rest = sr := g
theorem f_rt {rest : MS} : forK (.rt v h) rest = .rt v h := rfl
theorem f_xc {rest : MS} {nm : Str} {fs : List (Str × PV)} : forK (.exc nm fs env h) rest = .exc nm fs env h := rfl
theorem t_ok {β : Type} {x : β} {k : β → MH → SRes} (g : k x h = sr) : Res.then (.ok x h) env k = sr := g
theorem t_xc {β : Type} {nm : Str} {fs : List (Str × PV)} {k : β → MH → SRes} : Res.then (.exc nm fs h) env k = .exc nm fs env h := rfl
theorem ev_exp' {r1 : Res PV} (e : m env h = r1) (g : Res.then r1 env (fun _ h1 => SRes.nx env h1) = sr) : mExp m env h = sr := by subst e; exact g
theorem ev_runB {keep : Bool} {np slots : Nat} {m : MS} {s1 : SRes} (env : MEnv) (z : ps.length = np) (ee : ps.map some ++ List.replicate (slots - ps.length) none = env) (e : m env h = s1) (g : endR keep h.nx s1 = r) : runB keep np slots m ps h = r := by
  unfold runB; rw [if_pos z, ee, e]; exact g
theorem if_t {β : Type} {x y z : β} (e : b = true) (g : x = z) : (if b = true then x else y) = z := (if_pos e).trans g
theorem if_f {β : Type} {x y z : β} (e : ¬ b = true) (g : y = z) : (if b = true then x else y) = z := (if_neg e).trans g
theorem app_c {xs ys zs : List PV} (e : xs ++ ys = zs) : (p :: xs) ++ ys = p :: zs := by rw [List.cons_append, e]
theorem app_n {ys : List PV} : [] ++ ys = ys := rfl
theorem ev_add {xs ys zs : List PV} (e : ma env h = .ok (.lst xs) h1) (e' : mb env h1 = .ok (.lst ys) h2) (g : xs ++ ys = zs) (z : zs.length ≤ sizeLine) : mB2 pAdd ma mb env h = .ok (.lst zs) h2 := by
  refine ev_b2 e e' ?_
  subst g
  dsimp only [pAdd, asM]
  rw [if_pos (by rw [← List.length_append]; exact z)]
theorem ev_stFh {cn f : Str} {x y : Nat} {cs : Cs} {fs : List (Str × PV)} (e : mv env h = .ok v h1) (e' : mo env h1 = .ok (.ref x) ⟨y, (x, .obj cn fs) :: cs⟩) (z : fs.length < 1000) : mStF cn f mv mo env h = .nx env ⟨y, (x, .obj cn (putFP f v fs)) :: cs⟩ := by
  rw [ev_stF e e' (if_pos rfl) z]
  unfold MH.put
  simp only [putc, if_true]
theorem ev_tryN {mt : Str → Option Bool} {ms : MS} (e : sa env h = .nx e1 h1) : mTry mt i sa ms env h = .nx e1 h1 := by unfold mTry; rw [e]
theorem ev_tryR {mt : Str → Option Bool} {ms : MS} (e : sa env h = .rt v h1) : mTry mt i sa ms env h = .rt v h1 := by unfold mTry; rw [e]
theorem ev_tryX {mt : Str → Option Bool} {ms : MS} {nm : Str} {fs : List (Str × PV)} (e : sa env h = .exc nm fs e1 h1) (g : mt nm = some true) (f : ms (e1.set i (some (.xc nm fs))) h1 = .rt v h2) (c1 : cleanP v = true) (c2 : cleanH h2 = true) : mTry mt i sa ms env h = .rt v h2 := by
  unfold mTry; rw [e]; dsimp only; rw [g]; dsimp only; rw [f]; dsimp only [endSuite]; rw [if_pos ⟨c1, c2⟩]
theorem ev_xf {cn f : Str} {fs : List (Str × PV)} (e : m env h = .ok (.xc cn fs) h1) (l : lookF fs f = some v) : mXf cn f m env h = .ok v h1 := by unfold mXf; rw [e]; dsimp only [Res.bind, kXf]; rw [if_pos rfl, l]
theorem ev_isX {tbl : Str → Option Bool} {nm : Str} {fs : List (Str × PV)} (e : m env h = .ok (.xc nm fs) h1) (l : tbl nm = some b) : mIsX tbl m env h = .ok (.bl b) h1 := by unfold mIsX; rw [e]; dsimp only [Res.bind]; rw [l]
theorem pIx_d {x : Nat} {kvs : List (Key × PV)} {ky : Key} (g : h.get x = some (.dct kvs)) (kp : keyP q = some ky) (l : valP kvs ky = some v) : pIx (.ref x) q h = some (v, h) := by
  unfold pIx; dsimp only [asD]; rw [g]; dsimp only; rw [kp]; dsimp only; rw [l]; rfl
theorem pIx_l {x : Nat} {xs : List PV} {z : Int} (g : h.get x = some (.lst xs)) (l : atI xs z = some v) : pIx (.ref x) (.int z) h = some (v, h) := by
  unfold pIx; dsimp only [asD]; rw [g]; dsimp only [asS, asL, asM]; rw [g]; dsimp only; rw [l]; rfl
theorem ev_apph {x y : Nat} {cs : Cs} {xs : List PV} (e : mo env h = .ok (.ref x) ⟨y, (x, .lst xs) :: cs⟩) (e' : a env ⟨y, (x, .lst xs) :: cs⟩ = .ok [v] ⟨y, (x, .lst xs) :: cs⟩) (z : xs.length < sizeLine) : mApp mo a env h = .ok .non ⟨y, (x, .lst (xs ++ [v])) :: cs⟩ := by
  have g : (⟨y, (x, .lst xs) :: cs⟩ : MH).get x = some (.lst xs) := if_pos rfl
  unfold mApp; rw [e]; dsimp only [Res.bind]
  have r1 : isRL (.ref x) ⟨y, (x, .lst xs) :: cs⟩ = true := by unfold isRL; dsimp only; rw [g]
  rw [if_pos r1, e']
  dsimp only [Res.bind, kApp]
  rw [g]
  dsimp only
  rw [if_pos z]
  unfold MH.put
  simp only [putc, if_true]
theorem pMul_l {i j : Int} (z : -(2 ^ 64) < i ∧ i < 2 ^ 64) : pMul (.int i) (.int j) h = some (.int (i * j), h) := by
  show (if cMul i j = true then _ else _) = _
  rw [if_pos (by unfold cMul; rw [decide_eq_true z.1, decide_eq_true z.2]; rfl)]
theorem pMul_r {i j : Int} (z : -(2 ^ 64) < j ∧ j < 2 ^ 64) : pMul (.int i) (.int j) h = some (.int (i * j), h) := by
  show (if cMul i j = true then _ else _) = _
  rw [if_pos (by unfold cMul; rw [decide_eq_true z.1, decide_eq_true z.2]; simp)]
theorem pPow_ok {i j : Int} (z : 0 ≤ j ∧ j ≤ 1000000 ∧ i.natAbs < 2 ^ 64) : pPow (.int i) (.int j) h = some (.int (i ^ j.toNat), h) := by
  show (if (decide (0 ≤ j) && (decide (j ≤ 1000000) && decide (i.natAbs < 2 ^ 64))) = true then _ else _) = _
  rw [if_pos (by simp only [decide_eq_true z.1, decide_eq_true z.2.1, decide_eq_true z.2.2, Bool.and_self])]
/-- every turn keeps an invariant -/
theorem forL_inv {g : MG} {I : MEnv → MH → Prop} : ∀ {xs : List PV} {env : MEnv} {h : MH}, (∀ x ∈ xs, ∀ env h, I env h → ∃ e1 e2 h2, g x env = some e1 ∧ sa e1 h = .nx e2 h2 ∧ I e2 h2) → I env h → ∃ e2 h2, mForL g sa xs env h = .nx e2 h2 ∧ I e2 h2
  | [], env, h, _, i => ⟨env, h, rfl, i⟩
  | x :: xs, env, h, st, i => by
    obtain ⟨e1, e2, h2, a1, a2, a3⟩ := st x (List.mem_cons_self ..) env h i
    obtain ⟨e3, h3, b1, b2⟩ := forL_inv (xs := xs) (fun y m => st y (List.mem_cons_of_mem _ m)) a3
    exact ⟨e3, h3, ev_forC a1 a2 b1, b2⟩
end
end Mi

namespace K04
open PySem PySem.Spec PyProof.Rows L2 Mi
def top (i : Nat) : Stmt := PySem.Challenge.pw_answerpiles_k04_wakings_told.main.body.getD i (.Pass ⟨0, 0, 0, 0⟩)
abbrev s_law_numbers : Stmt := top 10
abbrev s_law_opened : Stmt := top 11
abbrev s_law_draw : Stmt := top 12
abbrev s_law_pick : Stmt := top 13
abbrev s_is_one_of : Stmt := top 7
abbrev s_is_word : Stmt := top 6
abbrev s_BadWaking_init : Stmt := inClass (top 2) 0
abbrev s_Waking_init : Stmt := inClass (top 8) 0
abbrev s_law_told : Stmt := top 16
abbrev s_Waking_row : Stmt := inClass (top 8) 1
abbrev s_Waking_eq : Stmt := inClass (top 8) 2
abbrev s_law_odds : Stmt := top 14
abbrev s_law_tried : Stmt := top 15
abbrev s_law : Stmt := top 17
def tgs : List Tg := [.ty "NoneType", .ty "bool", .ty "int", .ty "str", .ty "tuple", .ty "list", .ty "dict", .own "Waking"]
def clss : List Str := ["Waking"]
def is_bool : List (Tg × Bool) := [(.ty "NoneType", false), (.ty "bool", true), (.ty "int", false), (.ty "str", false), (.ty "tuple", false), (.ty "list", false), (.ty "dict", false), (.own "Waking", false)]
def is_str : List (Tg × Bool) := [(.ty "NoneType", false), (.ty "bool", false), (.ty "int", false), (.ty "str", true), (.ty "tuple", false), (.ty "list", false), (.ty "dict", false), (.own "Waking", false)]
def is_Waking : List (Tg × Bool) := [(.ty "NoneType", false), (.ty "bool", false), (.ty "int", false), (.ty "str", false), (.ty "tuple", false), (.ty "list", false), (.ty "dict", false), (.own "Waking", true)]
/-! ### the mirrors -/
def m_law_numbers : MS := mSeq (mSet 3 (mBA pMax2 (mCons (mBA pInt1 (mCons (mVar 0) (mNil))) (mCons (mBA pInt1 (mCons (mB2 pSub (mB1 pNeg (mC (.int 1))) (mVar 0)) (mNil))) (mNil)))))
    (mSeq (mSet 4 (mVar 3))
    (mSeq (mSet 5 (mLstC (mNil)))
    (mSeq (mFor (mRng1 (mCons (mVar 2) (mNil))) (gN 6)
    (mIfS (mAnd (mTst (mB2 pGe (mVar 3) (mB2 pPow (mC (.int 10)) (mC (.int 18))))) (mTst (mB2 pGt (mVar 4) (mC (.int 0)))))
    (mSeq (mExp (mApp (mVar 5) (mCons (mB2 pMod (mBA pInt1 (mCons (mVar 4) (mNil))) (mC (.int 840))) (mNil))))
    (mSet 4 (mB2 pDiv (mVar 4) (mC (.int 840)))))
    (mSeq (mSet 7 (mB2 pMod (mBA pInt1 (mCons (mB2 pPow (mB2 pAdd (mB2 pAdd (mB2 pMod (mBA pInt1 (mCons (mVar 3) (mNil))) (mC (.int 2147483629))) (mB2 pMul (mC (.int 7717)) (mVar 1))) (mC (.int 3))) (mC (.int 3))) (mNil))) (mC (.int 2147483647))))
    (mSeq (mSet 7 (mB2 pMod (mBA pInt1 (mCons (mB2 pMul (mB2 pAdd (mVar 7) (mB2 pMul (mC (.int 99991)) (mB2 pAdd (mVar 6) (mC (.int 1))))) (mB2 pAdd (mVar 6) (mC (.int 5)))) (mNil))) (mC (.int 2147483629))))
    (mSeq (mSet 7 (mB2 pMod (mBA pInt1 (mCons (mB2 pMul (mB2 pMod (mBA pInt1 (mCons (mB2 pPow (mVar 7) (mC (.int 5))) (mNil))) (mC (.int 2147483647))) (mC (.int 48271))) (mNil))) (mC (.int 2147483629))))
    (mExp (mApp (mVar 5) (mCons (mB2 pMod (mBA pInt1 (mCons (mB2 pDiv (mVar 7) (mC (.int 16))) (mNil))) (mC (.int 840))) (mNil)))))))))
    (mRet (mFz (mVar 5))))))
def r_law_numbers : List PV → MH → Res PV := runB false 3 8 m_law_numbers
def m_law_opened : MS := mSeq (mSet 3 (mIf (mTst (mB2 pNe (mVar 0) (mLst (mNil)))) (mB2 pIx (mVar 0) (mVar 1)) (mC (.int 5))))
    (mRet (mLstC (mCons (mCall 3 (fun ps qs h => r_law_numbers (pick [0, 1, 2] (ps ++ ([] ++ qs))) h) (mCons (mVar 3) (mCons (mVar 1) (mCons (mVar 2) (mNil))))) (mCons (mC (.int 0)) (mNil)))))
def r_law_opened : List PV → MH → Res PV := runB true 3 4 m_law_opened
def m_law_draw : MS := mSeq (mSet 2 (mB2 pIx (mVar 0) (mC (.int 1))))
    (mSeq (mStIx (mB2 pAdd (mVar 2) (mC (.int 1))) (mVar 0) (mC (.int 1)))
    (mRet (mIf (mTst (mB2 pLt (mVar 2) (mBA pLen (mCons (mB2 pIx (mVar 0) (mC (.int 0))) (mNil))))) (mB2 pMod (mBA pInt1 (mCons (mB2 pIx (mB2 pIx (mVar 0) (mC (.int 0))) (mVar 2)) (mNil))) (mVar 1)) (mC (.int 0)))))
def r_law_draw : List PV → MH → Res PV := runB false 2 3 m_law_draw
def m_law_pick : MS := mRet (mB2 pIx (mVar 1) (mCall 2 (fun ps qs h => r_law_draw (pick [0, 1] (ps ++ ([] ++ qs))) h) (mCons (mVar 0) (mCons (mBA pLen (mCons (mVar 1) (mNil))) (mNil)))))
def r_law_pick : List PV → MH → Res PV := runB false 2 2 m_law_pick
def m_is_one_of : MS := mRet (mAndV (mIs (tblOf is_str) (mVar 0)) (mB2 pIn (mVar 0) (mVar 1)))
def r_is_one_of : List PV → MH → Res PV := runB false 2 2 m_is_one_of
def m_is_word : MS := mSeq (mIfS (mOr (mNot (mTru (mIs (tblOf is_str) (mVar 0)))) (mNot (mTst (mChain pLe pLe (mC (.int 1)) (mBA pLen (mCons (mVar 0) (mNil))) (mC (.int 8))))))
    (mRet (mC (.bl false)))
    (mNx))
    (mRet (mBA pAll (mCons (mLc [1] (mIter (mVar 0)) (gN 1) (mYes) (mB2 pIn (mVar 1) (mC (.str "abcdefghijklmnopqrstuvwxyz")))) (mNil))))
def r_is_word : List PV → MH → Res PV := runB false 1 2 m_is_word
def m_Waking_init : MS := mSeq (mSet 6 (mLst (mCons (mTup (mCons (mC (.str "event")) (mCons (mCall 2 (fun ps qs h => r_is_one_of (pick [0, 1] (ps ++ ([] ++ qs))) h) (mCons (mVar 1) (mCons (mC (.tup [.str "laid", .str "done", .str "struck", .str "instead"])) (mNil)))) (mNil)))) (mCons (mTup (mCons (mC (.str "deed")) (mCons (mCall 1 (fun ps qs h => r_is_word (pick [0] (ps ++ ([] ++ qs))) h) (mCons (mVar 2) (mNil))) (mNil)))) (mCons (mTup (mCons (mC (.str "call")) (mCons (mCall 1 (fun ps qs h => r_is_word (pick [0] (ps ++ ([] ++ qs))) h) (mCons (mVar 3) (mNil))) (mNil)))) (mNil))))))
    (mSeq (mFor (mIter (mB2 pAdd (mVar 6) (mLst (mCons (mTup (mCons (mC (.str "by")) (mCons (mCall 2 (fun ps qs h => r_is_one_of (pick [0, 1] (ps ++ ([] ++ qs))) h) (mCons (mVar 4) (mCons (mTup (mCons (mC (.str "own")) (mCons (mC (.str "next")) (mNil)))) (mNil)))) (mNil)))) (mCons (mTup (mCons (mC (.str "may")) (mCons (mIs (tblOf is_bool) (mVar 5)) (mNil)))) (mNil)))))) (gT [7, 8])
    (mIfS (mNot (mTru (mVar 8)))
    (mRaiseA "BadWaking" "part" okSP (mCons (mVar 7) (mNil)))
    (mNx)))
    (mSeq (mStF "Waking" "event" (mVar 1) (mVar 0))
    (mSeq (mStF "Waking" "deed" (mVar 2) (mVar 0))
    (mSeq (mStF "Waking" "call" (mVar 3) (mVar 0))
    (mSeq (mStF "Waking" "by" (mVar 4) (mVar 0))
    (mStF "Waking" "may" (mVar 5) (mVar 0)))))))
def r_Waking_init : List PV → MH → Res PV := runB false 6 9 m_Waking_init
def m_law_told : MS := mRet (mLst (mCons (mFld "Waking" "event" (mVar 0)) (mCons (mFld "Waking" "deed" (mVar 0)) (mCons (mFld "Waking" "call" (mVar 0)) (mCons (mFld "Waking" "by" (mVar 0)) (mCons (mFld "Waking" "may" (mVar 0)) (mNil)))))))
def r_law_told : List PV → MH → Res PV := runB false 1 1 m_law_told
def m_Waking_row : MS := mRet (mTup (mCons (mFld "Waking" "event" (mVar 0)) (mCons (mFld "Waking" "deed" (mVar 0)) (mCons (mFld "Waking" "call" (mVar 0)) (mCons (mFld "Waking" "by" (mVar 0)) (mNil))))))
def r_Waking_row : List PV → MH → Res PV := runB false 1 1 m_Waking_row
def m_Waking_eq : MS := mRet (mAndV (mIs (tblOf is_Waking) (mVar 1)) (mAndV (mB2 pEq (mMeth "Waking" "row" 0 (fun ps qs h => r_Waking_row (pick [0] (ps ++ ([] ++ qs))) h) (mVar 0) mNil) (mMeth "Waking" "row" 0 (fun ps qs h => r_Waking_row (pick [0] (ps ++ ([] ++ qs))) h) (mVar 1) mNil)) (mB2 pEq (mFld "Waking" "may" (mVar 0)) (mFld "Waking" "may" (mVar 1)))))
def r_Waking_eq : List PV → MH → Res PV := runB false 2 2 m_Waking_eq
def m_law_odds : MS := mSeq (mIfS (mTst (mB2 pEq (mVar 0) (mC (.str "event"))))
    (mRet (mLst (mCons (mC .non) (mCons (mC (.str "")) (mCons (mC (.str "Laid")) (mCons (mC (.str "passed")) (mCons (mC (.int 5)) (mCons (mTup (mCons (mC (.str "laid")) (mNil))) (mCons (mLst (mCons (mC (.str "done")) (mNil))) (mCons (mC (.bl true)) (mNil)))))))))))
    (mNx))
    (mSeq (mIfS (mTst (mB2 pIn (mVar 0) (mTup (mCons (mC (.str "deed")) (mCons (mC (.str "call")) (mNil))))))
    (mRet (mLst (mCons (mC .non) (mCons (mC (.str "")) (mCons (mC (.str "A")) (mCons (mC (.str "abcdefghi")) (mCons (mC (.int 5)) (mCons (mTup (mCons (mC (.str "a")) (mNil))) (mCons (mLst (mCons (mC (.str "a")) (mNil))) (mCons (mC (.bl true)) (mCons (mC (.str "a b")) (mNil))))))))))))
    (mNx))
    (mSeq (mIfS (mTst (mB2 pEq (mVar 0) (mC (.str "by"))))
    (mRet (mLst (mCons (mC .non) (mCons (mC (.str "")) (mCons (mC (.str "Own")) (mCons (mC (.str "other")) (mCons (mC (.int 0)) (mCons (mTup (mCons (mC (.str "own")) (mNil))) (mCons (mLst (mCons (mC (.str "next")) (mNil))) (mCons (mC (.bl true)) (mNil)))))))))))
    (mNx))
    (mRet (mLst (mCons (mC .non) (mCons (mC (.int 0)) (mCons (mC (.int 1)) (mCons (mC (.str "may")) (mCons (mC (.str "must")) (mCons (mLst (mNil)) (mCons (mTup (mNil)) (mNil))))))))))))
def r_law_odds : List PV → MH → Res PV := runB false 1 1 m_law_odds
def m_law_tried : MS := mSeq (mTry (tblOf [("PileError", false), ("BadWaking", true)]) 1
    (mExp (mCallK 3 2 (runMake "Waking" r_Waking_init [0, 1, 2, 3, 4, 5] []) (mCons (mB2 pIx (mVar 0) (mC (.str "event"))) (mCons (mB2 pIx (mVar 0) (mC (.str "deed"))) (mCons (mB2 pIx (mVar 0) (mC (.str "call"))) (mNil)))) (mCons (mB2 pIx (mVar 0) (mC (.str "by"))) (mCons (mB2 pIx (mVar 0) (mC (.str "may"))) (mNil)))))
    (mRet (mLst (mCons (mXf "BadWaking" "part" (mVar 1)) (mCons (mIsX (tblOf [("BadWaking", true)]) (mVar 1)) (mNil))))))
    (mRet (mC (.str "taken")))
def r_law_tried : List PV → MH → Res PV := runB false 1 2 m_law_tried
def m_law : MS := mSeq (mSet 1 (mLst (mCons (mC (.str "event")) (mCons (mC (.str "deed")) (mCons (mC (.str "call")) (mCons (mC (.str "by")) (mCons (mC (.str "may")) (mNil))))))))
    (mSeq (mFor (mRng1 (mCons (mBA pMax2 (mCons (mC (.int 1)) (mCons (mBA pMin2 (mCons (mBA pLen (mCons (mVar 0) (mNil))) (mCons (mC (.int 4)) (mNil)))) (mNil)))) (mNil))) (gN 2)
    (mSeq (mSet 3 (mCall 3 (fun ps qs h => r_law_opened (pick [0, 1, 2] (ps ++ ([] ++ qs))) h) (mCons (mVar 0) (mCons (mVar 2) (mCons (mC (.int 120)) (mNil))))))
    (mSeq (mSet 4 (mLst (mCons (mLst (mCons (mC (.str "laid")) (mCons (mC (.str "done")) (mCons (mC (.str "struck")) (mCons (mC (.str "instead")) (mNil)))))) (mCons (mLst (mCons (mC (.str "a")) (mCons (mC (.str "bb")) (mCons (mC (.str "goal")) (mCons (mC (.str "abcdefgh")) (mNil)))))) (mCons (mLst (mCons (mC (.str "a")) (mCons (mC (.str "bb")) (mCons (mC (.str "abcdefgh")) (mNil))))) (mNil))))))
    (mSeq (mSet 4 (mB2 pAdd (mVar 4) (mLst (mCons (mLst (mCons (mC (.str "own")) (mCons (mC (.str "next")) (mNil)))) (mCons (mLst (mCons (mC (.bl true)) (mCons (mC (.bl false)) (mNil)))) (mNil))))))
    (mSeq (mSet 5 (mBA pDictP (mCons (mLc [9, 10] (mEnum (mCons (mVar 1) (mNil))) (gT [9, 10]) (mYes) (mTup (mCons (mVar 10) (mCons (mCall 2 (fun ps qs h => r_law_pick (pick [0, 1] (ps ++ ([] ++ qs))) h) (mCons (mVar 3) (mCons (mB2 pIx (mVar 4) (mVar 9)) (mNil)))) (mNil))))) (mNil))))
    (mSeq (mSet 6 (mCallK 3 2 (runMake "Waking" r_Waking_init [0, 1, 2, 3, 4, 5] []) (mCons (mB2 pIx (mVar 5) (mC (.str "event"))) (mCons (mB2 pIx (mVar 5) (mC (.str "deed"))) (mCons (mB2 pIx (mVar 5) (mC (.str "call"))) (mNil)))) (mCons (mB2 pIx (mVar 5) (mC (.str "by"))) (mCons (mB2 pIx (mVar 5) (mC (.str "may"))) (mNil)))))
    (mSeq (mSet 7 (mCallK 0 5 (runMake "Waking" r_Waking_init [0, 4, 5, 3, 2, 1] []) mNil (mCons (mB2 pIx (mVar 5) (mC (.str "may"))) (mCons (mB2 pIx (mVar 5) (mC (.str "by"))) (mCons (mB2 pIx (mVar 5) (mC (.str "call"))) (mCons (mB2 pIx (mVar 5) (mC (.str "event"))) (mCons (mB2 pIx (mVar 5) (mC (.str "deed"))) (mNil))))))))
    (mSeq (mIfS (mOr (mTst (mB2 pNe (mBA pRepr (mCons (mCall 1 (fun ps qs h => r_law_told (pick [0] (ps ++ ([] ++ qs))) h) (mCons (mVar 6) (mNil))) (mNil))) (mBA pRepr (mCons (mLc [10] (mIter (mVar 1)) (gN 10) (mYes) (mB2 pIx (mVar 5) (mVar 10))) (mNil))))) (mOr (mTst (mEqO "Waking" (okTg tgs clss) r_Waking_eq true (mVar 6) (mVar 7))) (mTst (mEqO "Waking" (okTg tgs clss) r_Waking_eq false (mVar 6) (mB2 pIx (mVar 5) (mC (.str "event")))))))
    (mRet (mC (.bl false)))
    (mNx))
    (mSeq (mSet 8 (mCall 3 (runMake "Waking" r_Waking_init [0, 1, 2, 3, 4, 5] [.str "own", .bl false]) (mCons (mB2 pIx (mVar 5) (mC (.str "event"))) (mCons (mB2 pIx (mVar 5) (mC (.str "deed"))) (mCons (mB2 pIx (mVar 5) (mC (.str "call"))) (mNil))))))
    (mSeq (mIfS (mTst (mB2 pNe (mBA pRepr (mCons (mCall 1 (fun ps qs h => r_law_told (pick [0] (ps ++ ([] ++ qs))) h) (mCons (mVar 8) (mNil))) (mNil))) (mBA pRepr (mCons (mB2 pAdd (mLc [10] (mIter (mSl (mVar 1) (moN) (moS (mC (.int 3))))) (gN 10) (mYes) (mB2 pIx (mVar 5) (mVar 10))) (mLst (mCons (mC (.str "own")) (mCons (mC (.bl false)) (mNil))))) (mNil)))))
    (mRet (mC (.bl false)))
    (mNx))
    (mSeq (mIfS (mTst (mB2 pNe (mEqO "Waking" (okTg tgs clss) r_Waking_eq false (mVar 6) (mVar 8)) (mAndV (mB2 pEq (mB2 pIx (mVar 5) (mC (.str "by"))) (mC (.str "own"))) (mNotV (mB2 pIx (mVar 5) (mC (.str "may")))))))
    (mRet (mC (.bl false)))
    (mNx))
    (mFor (mEnum (mCons (mVar 1) (mNil))) (gT [9, 10])
    (mSeq (mFor (mIter (mLc [11] (mIter (mB2 pIx (mVar 4) (mVar 9))) (gN 11) (mTst (mB2 pNe (mVar 11) (mB2 pIx (mVar 5) (mVar 10)))) (mVar 11))) (gN 11)
    (mSeq (mSet 13 (mBA pDictPC (mCons (mLc [15] (mIter (mVar 1)) (gN 15) (mYes) (mTup (mCons (mVar 15) (mCons (mB2 pIx (mVar 5) (mVar 15)) (mNil))))) (mNil))))
    (mSeq (mStIx (mVar 11) (mVar 13) (mVar 10))
    (mIfS (mTst (mEqO "Waking" (okTg tgs clss) r_Waking_eq false (mCallK 3 2 (runMake "Waking" r_Waking_init [0, 1, 2, 3, 4, 5] []) (mCons (mB2 pIx (mVar 13) (mC (.str "event"))) (mCons (mB2 pIx (mVar 13) (mC (.str "deed"))) (mCons (mB2 pIx (mVar 13) (mC (.str "call"))) (mNil)))) (mCons (mB2 pIx (mVar 13) (mC (.str "by"))) (mCons (mB2 pIx (mVar 13) (mC (.str "may"))) (mNil)))) (mVar 6)))
    (mRet (mC (.bl false)))
    (mNx)))))
    (mFor (mIter (mCall 1 (fun ps qs h => r_law_odds (pick [0] (ps ++ ([] ++ qs))) h) (mCons (mVar 10) (mNil)))) (gN 12)
    (mSeq (mSet 13 (mBA pDictPC (mCons (mLc [15] (mIter (mVar 1)) (gN 15) (mYes) (mTup (mCons (mVar 15) (mCons (mB2 pIx (mVar 5) (mVar 15)) (mNil))))) (mNil))))
    (mSeq (mStIx (mVar 12) (mVar 13) (mVar 10))
    (mSeq (mIfS (mTst (mB2 pNe (mCall 1 (fun ps qs h => r_law_tried (pick [0] (ps ++ ([] ++ qs))) h) (mCons (mVar 13) (mNil))) (mLst (mCons (mVar 10) (mCons (mC (.bl true)) (mNil))))))
    (mRet (mC (.bl false)))
    (mNx))
    (mSeq (mSet 14 (mCall 2 (fun ps qs h => r_law_pick (pick [0, 1] (ps ++ ([] ++ qs))) h) (mCons (mVar 3) (mCons (mSl (mVar 1) (moS (mVar 9)) (moN)) (mNil)))))
    (mSeq (mIfS (mTst (mB2 pNe (mVar 14) (mVar 10)))
    (mStIx (mCall 2 (fun ps qs h => r_law_pick (pick [0, 1] (ps ++ ([] ++ qs))) h) (mCons (mVar 3) (mCons (mCall 1 (fun ps qs h => r_law_odds (pick [0] (ps ++ ([] ++ qs))) h) (mCons (mVar 14) (mNil))) (mNil)))) (mVar 13) (mVar 14))
    (mNx))
    (mIfS (mTst (mB2 pNe (mCall 1 (fun ps qs h => r_law_tried (pick [0] (ps ++ ([] ++ qs))) h) (mCons (mVar 13) (mNil))) (mLst (mCons (mVar 10) (mCons (mC (.bl true)) (mNil))))))
    (mRet (mC (.bl false)))
    (mNx)))))))))))))))))))))
    (mRet (mC (.bl true))))
def r_law : List PV → MH → Res PV := runB false 1 16 m_law
end K04

namespace K04
open PySem PySem.Spec PyProof.Rows L2 Mi
/-! ### the head's facts -/
def d_law_numbers : He.DefD := ⟨("_law_numbers", none), "_law_numbers", "_law_numbers", defArgs s_law_numbers, defBody s_law_numbers, defScope s_law_numbers, [], []⟩
def d_law_opened : He.DefD := ⟨("_law_opened", none), "_law_opened", "_law_opened", defArgs s_law_opened, defBody s_law_opened, defScope s_law_opened, [], []⟩
def d_law_draw : He.DefD := ⟨("_law_draw", none), "_law_draw", "_law_draw", defArgs s_law_draw, defBody s_law_draw, defScope s_law_draw, [], []⟩
def d_law_pick : He.DefD := ⟨("_law_pick", none), "_law_pick", "_law_pick", defArgs s_law_pick, defBody s_law_pick, defScope s_law_pick, [], []⟩
def d_is_one_of : He.DefD := ⟨("is_one_of", none), "is_one_of", "is_one_of", defArgs s_is_one_of, defBody s_is_one_of, defScope s_is_one_of, [], []⟩
def d_is_word : He.DefD := ⟨("is_word", none), "is_word", "is_word", defArgs s_is_word, defBody s_is_word, defScope s_is_word, [], []⟩
def d_BadWaking_init : He.DefD := ⟨("BadWaking", some "__init__"), "__init__", "BadWaking.__init__", defArgs s_BadWaking_init, defBody s_BadWaking_init, defScope s_BadWaking_init, [], []⟩
def d_Waking_init : He.DefD := ⟨("Waking", some "__init__"), "__init__", "Waking.__init__", defArgs s_Waking_init, defBody s_Waking_init, defScope s_Waking_init, [], [("by", .str "own"), ("may", .bl false)]⟩
def d_law_told : He.DefD := ⟨("_law_told", none), "_law_told", "_law_told", defArgs s_law_told, defBody s_law_told, defScope s_law_told, [], []⟩
def d_Waking_row : He.DefD := ⟨("Waking", some "row"), "row", "Waking.row", defArgs s_Waking_row, defBody s_Waking_row, defScope s_Waking_row, [], []⟩
def d_Waking_eq : He.DefD := ⟨("Waking", some "__eq__"), "__eq__", "Waking.__eq__", defArgs s_Waking_eq, defBody s_Waking_eq, defScope s_Waking_eq, [], []⟩
def d_law_odds : He.DefD := ⟨("_law_odds", none), "_law_odds", "_law_odds", defArgs s_law_odds, defBody s_law_odds, defScope s_law_odds, [], []⟩
def d_law_tried : He.DefD := ⟨("_law_tried", none), "_law_tried", "_law_tried", defArgs s_law_tried, defBody s_law_tried, defScope s_law_tried, [], []⟩
def d_law : He.DefD := ⟨("law", none), "law", "law", defArgs s_law, defBody s_law, defScope s_law, [], []⟩
def fn : List He.DefD := [d_law_numbers, d_law_opened, d_law_draw, d_law_pick, d_is_one_of, d_is_word, d_BadWaking_init, d_Waking_init, d_law_told, d_Waking_row, d_Waking_eq, d_law_odds, d_law_tried, d_law]
def fa : List He.Fa := [.glo "PileError", .glo "BadWaking", .glo "is_word", .glo "is_one_of", .glo "Waking", .glo "_law_numbers", .glo "_law_opened", .glo "_law_draw", .glo "_law_pick", .glo "_law_odds", .glo "_law_tried", .glo "_law_told", .glo "law", .free "ValueError", .free "all", .free "bool", .free "dict", .free "enumerate", .free "int", .free "isinstance", .free "len", .free "max", .free "min", .free "range", .free "repr", .free "str", .str "LETTERS" "abcdefghijklmnopqrstuvwxyz"]
def exs : List (PySem.W.Frag → Bool) := [fun K => (He.Fa.mkr "Waking").ok K,
  fun K => fstB K "Waking" tgs,
  fun K => eqFB K "Waking",
  fun K => He.tupB K "EVENTS" [.str "laid", .str "done", .str "struck", .str "instead"],
  fun K => (He.Fa.glo "EVENTS").ok K,
  fun K => kitB K (fun _ => .type "bool") is_bool,
  fun K => xiniB K "BadWaking" "part",
  fun K => oexB K (He.ga K "BadWaking"),
  fun K => clsFB K "Waking",
  fun K => (He.Fa.noat "Waking" "event").ok K,
  fun K => (He.Fa.noat "Waking" "deed").ok K,
  fun K => (He.Fa.noat "Waking" "call").ok K,
  fun K => (He.Fa.noat "Waking" "by").ok K,
  fun K => (He.Fa.noat "Waking" "may").ok K,
  fun K => kitB K (fun _ => .type "str") is_str,
  fun K => kitB K (fun K => .ref (He.ga K "Waking")) is_Waking,
  fun K => (He.Fa.meth "Waking" "row").ok K,
  fun K => excCB K (He.ga K "BadWaking"),
  fun K => kitXB K (fun K => .ref (He.ga K "PileError")) [("BadWaking", true)],
  fun K => exmB K "BadWaking" [("PileError", false), ("BadWaking", true)],
  fun K => baseB K (He.ga K "PileError")]
def ex (K : PySem.W.Frag) : Bool := exs.all fun t => t K
abbrev Says (w : World) (h : Heap) (K : PySem.W.Frag) : Prop := SaysM fa fn ex K
theorem ex_at {w : World} {h : Heap} {K : PySem.W.Frag} (S : Says w h K) (i : Nat) {t : PySem.W.Frag → Bool} (e : exs[i]? = some t) : t K = true := List.all_eq_true.mp S.more t (List.mem_of_getElem? e)
section
variable {P : Program} {w : World} {K : PySem.W.Frag} {mg : Str → Option Value} {base h : Heap}
theorem x0 (S : Says w h K) : ((He.Fa.mkr "Waking").ok K) = true := ex_at S 0 (t := fun K => (He.Fa.mkr "Waking").ok K) rfl
theorem x1 (S : Says w h K) : (fstB K "Waking" tgs) = true := ex_at S 1 (t := fun K => fstB K "Waking" tgs) rfl
theorem x2 (S : Says w h K) : (eqFB K "Waking") = true := ex_at S 2 (t := fun K => eqFB K "Waking") rfl
theorem x3 (S : Says w h K) : (He.tupB K "EVENTS" [.str "laid", .str "done", .str "struck", .str "instead"]) = true := ex_at S 3 (t := fun K => He.tupB K "EVENTS" [.str "laid", .str "done", .str "struck", .str "instead"]) rfl
theorem x4 (S : Says w h K) : ((He.Fa.glo "EVENTS").ok K) = true := ex_at S 4 (t := fun K => (He.Fa.glo "EVENTS").ok K) rfl
theorem x5 (S : Says w h K) : (kitB K (fun _ => .type "bool") is_bool) = true := ex_at S 5 (t := fun K => kitB K (fun _ => .type "bool") is_bool) rfl
theorem x6 (S : Says w h K) : (xiniB K "BadWaking" "part") = true := ex_at S 6 (t := fun K => xiniB K "BadWaking" "part") rfl
theorem x7 (S : Says w h K) : (oexB K (He.ga K "BadWaking")) = true := ex_at S 7 (t := fun K => oexB K (He.ga K "BadWaking")) rfl
theorem x8 (S : Says w h K) : (clsFB K "Waking") = true := ex_at S 8 (t := fun K => clsFB K "Waking") rfl
theorem x9 (S : Says w h K) : ((He.Fa.noat "Waking" "event").ok K) = true := ex_at S 9 (t := fun K => (He.Fa.noat "Waking" "event").ok K) rfl
theorem x10 (S : Says w h K) : ((He.Fa.noat "Waking" "deed").ok K) = true := ex_at S 10 (t := fun K => (He.Fa.noat "Waking" "deed").ok K) rfl
theorem x11 (S : Says w h K) : ((He.Fa.noat "Waking" "call").ok K) = true := ex_at S 11 (t := fun K => (He.Fa.noat "Waking" "call").ok K) rfl
theorem x12 (S : Says w h K) : ((He.Fa.noat "Waking" "by").ok K) = true := ex_at S 12 (t := fun K => (He.Fa.noat "Waking" "by").ok K) rfl
theorem x13 (S : Says w h K) : ((He.Fa.noat "Waking" "may").ok K) = true := ex_at S 13 (t := fun K => (He.Fa.noat "Waking" "may").ok K) rfl
theorem x14 (S : Says w h K) : (kitB K (fun _ => .type "str") is_str) = true := ex_at S 14 (t := fun K => kitB K (fun _ => .type "str") is_str) rfl
theorem x15 (S : Says w h K) : (kitB K (fun K => .ref (He.ga K "Waking")) is_Waking) = true := ex_at S 15 (t := fun K => kitB K (fun K => .ref (He.ga K "Waking")) is_Waking) rfl
theorem x16 (S : Says w h K) : ((He.Fa.meth "Waking" "row").ok K) = true := ex_at S 16 (t := fun K => (He.Fa.meth "Waking" "row").ok K) rfl
theorem x17 (S : Says w h K) : (excCB K (He.ga K "BadWaking")) = true := ex_at S 17 (t := fun K => excCB K (He.ga K "BadWaking")) rfl
theorem x18 (S : Says w h K) : (kitXB K (fun K => .ref (He.ga K "PileError")) [("BadWaking", true)]) = true := ex_at S 18 (t := fun K => kitXB K (fun K => .ref (He.ga K "PileError")) [("BadWaking", true)]) rfl
theorem x19 (S : Says w h K) : (exmB K "BadWaking" [("PileError", false), ("BadWaking", true)]) = true := ex_at S 19 (t := fun K => exmB K "BadWaking" [("PileError", false), ("BadWaking", true)]) rfl
theorem x20 (S : Says w h K) : (baseB K (He.ga K "PileError")) = true := ex_at S 20 (t := fun K => baseB K (He.ga K "PileError")) rfl
theorem gl_PileError (X : K.In h) (G : h.Ns mainGlobals mg) (S : Says w h K) : mg "PileError" = some (.ref (He.ga K "PileError")) := He.glo_ok X G (S.d.fact 0 (f := .glo "PileError") rfl)
theorem gl_BadWaking (X : K.In h) (G : h.Ns mainGlobals mg) (S : Says w h K) : mg "BadWaking" = some (.ref (He.ga K "BadWaking")) := He.glo_ok X G (S.d.fact 1 (f := .glo "BadWaking") rfl)
theorem gl_is_word (X : K.In h) (G : h.Ns mainGlobals mg) (S : Says w h K) : mg "is_word" = some (.ref (He.ga K "is_word")) := He.glo_ok X G (S.d.fact 2 (f := .glo "is_word") rfl)
theorem gl_is_one_of (X : K.In h) (G : h.Ns mainGlobals mg) (S : Says w h K) : mg "is_one_of" = some (.ref (He.ga K "is_one_of")) := He.glo_ok X G (S.d.fact 3 (f := .glo "is_one_of") rfl)
theorem gl_Waking (X : K.In h) (G : h.Ns mainGlobals mg) (S : Says w h K) : mg "Waking" = some (.ref (He.ga K "Waking")) := He.glo_ok X G (S.d.fact 4 (f := .glo "Waking") rfl)
theorem gl_law_numbers (X : K.In h) (G : h.Ns mainGlobals mg) (S : Says w h K) : mg "_law_numbers" = some (.ref (He.ga K "_law_numbers")) := He.glo_ok X G (S.d.fact 5 (f := .glo "_law_numbers") rfl)
theorem gl_law_opened (X : K.In h) (G : h.Ns mainGlobals mg) (S : Says w h K) : mg "_law_opened" = some (.ref (He.ga K "_law_opened")) := He.glo_ok X G (S.d.fact 6 (f := .glo "_law_opened") rfl)
theorem gl_law_draw (X : K.In h) (G : h.Ns mainGlobals mg) (S : Says w h K) : mg "_law_draw" = some (.ref (He.ga K "_law_draw")) := He.glo_ok X G (S.d.fact 7 (f := .glo "_law_draw") rfl)
theorem gl_law_pick (X : K.In h) (G : h.Ns mainGlobals mg) (S : Says w h K) : mg "_law_pick" = some (.ref (He.ga K "_law_pick")) := He.glo_ok X G (S.d.fact 8 (f := .glo "_law_pick") rfl)
theorem gl_law_odds (X : K.In h) (G : h.Ns mainGlobals mg) (S : Says w h K) : mg "_law_odds" = some (.ref (He.ga K "_law_odds")) := He.glo_ok X G (S.d.fact 9 (f := .glo "_law_odds") rfl)
theorem gl_law_tried (X : K.In h) (G : h.Ns mainGlobals mg) (S : Says w h K) : mg "_law_tried" = some (.ref (He.ga K "_law_tried")) := He.glo_ok X G (S.d.fact 10 (f := .glo "_law_tried") rfl)
theorem gl_law_told (X : K.In h) (G : h.Ns mainGlobals mg) (S : Says w h K) : mg "_law_told" = some (.ref (He.ga K "_law_told")) := He.glo_ok X G (S.d.fact 11 (f := .glo "_law_told") rfl)
theorem gl_law (X : K.In h) (G : h.Ns mainGlobals mg) (S : Says w h K) : mg "law" = some (.ref (He.ga K "law")) := He.glo_ok X G (S.d.fact 12 (f := .glo "law") rfl)
theorem fr_ValueError (X : K.In h) (G : h.Ns mainGlobals mg) (S : Says w h K) : mg "ValueError" = none := He.free_ok X G (S.d.fact 13 (f := .free "ValueError") rfl)
theorem fr_all (X : K.In h) (G : h.Ns mainGlobals mg) (S : Says w h K) : mg "all" = none := He.free_ok X G (S.d.fact 14 (f := .free "all") rfl)
theorem fr_bool (X : K.In h) (G : h.Ns mainGlobals mg) (S : Says w h K) : mg "bool" = none := He.free_ok X G (S.d.fact 15 (f := .free "bool") rfl)
theorem fr_dict (X : K.In h) (G : h.Ns mainGlobals mg) (S : Says w h K) : mg "dict" = none := He.free_ok X G (S.d.fact 16 (f := .free "dict") rfl)
theorem fr_enumerate (X : K.In h) (G : h.Ns mainGlobals mg) (S : Says w h K) : mg "enumerate" = none := He.free_ok X G (S.d.fact 17 (f := .free "enumerate") rfl)
theorem fr_int (X : K.In h) (G : h.Ns mainGlobals mg) (S : Says w h K) : mg "int" = none := He.free_ok X G (S.d.fact 18 (f := .free "int") rfl)
theorem fr_isinstance (X : K.In h) (G : h.Ns mainGlobals mg) (S : Says w h K) : mg "isinstance" = none := He.free_ok X G (S.d.fact 19 (f := .free "isinstance") rfl)
theorem fr_len (X : K.In h) (G : h.Ns mainGlobals mg) (S : Says w h K) : mg "len" = none := He.free_ok X G (S.d.fact 20 (f := .free "len") rfl)
theorem fr_max (X : K.In h) (G : h.Ns mainGlobals mg) (S : Says w h K) : mg "max" = none := He.free_ok X G (S.d.fact 21 (f := .free "max") rfl)
theorem fr_min (X : K.In h) (G : h.Ns mainGlobals mg) (S : Says w h K) : mg "min" = none := He.free_ok X G (S.d.fact 22 (f := .free "min") rfl)
theorem fr_range (X : K.In h) (G : h.Ns mainGlobals mg) (S : Says w h K) : mg "range" = none := He.free_ok X G (S.d.fact 23 (f := .free "range") rfl)
theorem fr_repr (X : K.In h) (G : h.Ns mainGlobals mg) (S : Says w h K) : mg "repr" = none := He.free_ok X G (S.d.fact 24 (f := .free "repr") rfl)
theorem fr_str (X : K.In h) (G : h.Ns mainGlobals mg) (S : Says w h K) : mg "str" = none := He.free_ok X G (S.d.fact 25 (f := .free "str") rfl)
theorem st_LETTERS (X : K.In h) (G : h.Ns mainGlobals mg) (S : Says w h K) : ∃ t, mg "LETTERS" = some (.str "abcdefghijklmnopqrstuvwxyz" t) := He.str_ok X G (S.d.fact 26 (f := .str "LETTERS" "abcdefghijklmnopqrstuvwxyz") rfl)
theorem clss_ok (S : Says w h K) : ∀ n ∈ clss, ClsF (wd K).K ((wd K).cl n) := by
  intro n hn
  simp only [clss, List.mem_cons, List.not_mem_nil, or_false] at hn
  subst hn
  exact clsFB_ok (x8 S)
theorem is_bool_c (S : Says w h K) : ∀ n b, tblOf is_bool (.own n) = some b → ClsF (wd K).K ((wd K).cl n) := by
  intro n b e
  refine clss_ok S n ?_
  have z := tblOf_mem e
  simp [is_bool] at z
  simp [clss]
  exact z.1
theorem is_str_c (S : Says w h K) : ∀ n b, tblOf is_str (.own n) = some b → ClsF (wd K).K ((wd K).cl n) := by
  intro n b e
  refine clss_ok S n ?_
  have z := tblOf_mem e
  simp [is_str] at z
  simp [clss]
  exact z.1
theorem is_Waking_c (S : Says w h K) : ∀ n b, tblOf is_Waking (.own n) = some b → ClsF (wd K).K ((wd K).cl n) := by
  intro n b e
  refine clss_ok S n ?_
  have z := tblOf_mem e
  simp [is_Waking] at z
  simp [clss]
  exact z.1
/-! ### each def keeps its mirror -/
theorem sc_law_numbers : FnScope ["_law_cell", "_law_salt", "_law_many", "_law_whole", "_law_left", "_law_result", "_law_k", "_law_one"] ["_law_cell", "_law_salt", "_law_many"] (defScope s_law_numbers) := ⟨rfl, rfl, rfl, by decide +kernel, rfl, by decide +kernel, by decide +kernel⟩
theorem ok_law_numbers (X : K.In h) (G : h.Ns mainGlobals mg) (S : Says w h K) : ∃ fd, FG P w K mg base 1 (He.fAd K d_law_numbers.at_) fd ["_law_cell", "_law_salt", "_law_many"] (spM (wd K) r_law_numbers) ∧ DD d_law_numbers K fd ∧ (BindM K fd ["_law_cell", "_law_salt", "_law_many"] 3 [] [0, 1, 2] [] []) := by
  obtain ⟨fd, D⟩ := S.d.def_ 0 (d := d_law_numbers) rfl
  have sc := sc_law_numbers
  refine ⟨fd, FG.of D sc (fun _ _ _ _ z => spM.len z) (fun cdv A l s H vs Q E gd hr want => ⟨_, ?_, body_of want⟩), D, bindM1 D fun _ _ _ _ _ _ us ws h1 h2 => (match us, ws, h1, h2 with | [_, _, _], [], _, _ => rfl)⟩
  have tk := takes_of (X := cxOf (L2.CX P w) P w K mg base ["_law_cell", "_law_salt", "_law_many", "_law_whole", "_law_left", "_law_result", "_law_k", "_law_one"] "_law_numbers" (defScope s_law_numbers) (He.fAd K d_law_numbers.at_) cdv A l s H E) (E := E) rfl rfl rfl rfl
  have hp := passes_of (X := cxOf (L2.CX P w) P w K mg base ["_law_cell", "_law_salt", "_law_many", "_law_whole", "_law_left", "_law_result", "_law_k", "_law_one"] "_law_numbers" (defScope s_law_numbers) (He.fAd K d_law_numbers.at_) cdv A l s H E) rfl
  exact sm_cons (by exact sm_set (ps_set (i := 3) sc.nd rfl (by first | exact Or.inl rfl | exact Or.inr rfl) (emA o_max2 (pe_callB (call_max2 rfl) rfl (fr_max X G S) (by decide +kernel) (am_cons (emA o_int1 (pe_callTy call_int1 rfl (fr_int X G S) (by decide +kernel) (am_cons (em_var (pv 0)) (am_nil)))) (am_cons (emA o_int1 (pe_callTy call_int1 rfl (fr_int X G S) (by decide +kernel) (am_cons (em2 o_sub (pe_op op_sub (em1 o_neg (pe_un un_neg (em_int pe_int))) (em_var (pv 0)))) (am_nil)))) (am_nil))))))) (sm_cons (by exact sm_set (ps_set (i := 4) sc.nd rfl (by first | exact Or.inl rfl | exact Or.inr rfl) (em_var (pv 3)))) (sm_cons (by exact sm_set (ps_set (i := 5) sc.nd rfl (by first | exact Or.inl rfl | exact Or.inr rfl) (em_lstC (am_nil)))) (sm_cons (by exact r_for hp rfl (im_range1 (pi_range1 rfl (fr_range X G S) (am_cons (em_var (pv 2)) (am_nil)))) (pg_name sc.nd rfl (by first | exact Or.inl rfl | exact Or.inr rfl)) (go_name 6) (sm_one (by exact sm_if (PW.pt (tm_and (tm_cmp (pt_cmpR op_ge (em_var (pv 3)) (em2 o_pow (pe_op op_pow (em_int pe_int) (em_int pe_int))) (nomark _)) (snd2 o_ge)) (tm_and1 (tm_cmp (pt_cmpR op_gt (em_var (pv 4)) (em_int pe_int) (nomark _)) (snd2 o_gt))))) (sm_cons (by exact sm_exp (em_app (pe_bm PySem.F.plainAttrs_list PySem.F.slot_list_append PySem.F.type_list_append mt_append (em_var (pv 5)) (am_cons (em2 o_mod (pe_op op_mod (emA o_int1 (pe_callTy call_int1 rfl (fr_int X G S) (by decide +kernel) (am_cons (em_var (pv 4)) (am_nil)))) (em_int pe_int))) (am_nil))))) (sm_one (by exact sm_set (ps_set (i := 4) sc.nd rfl (by first | exact Or.inl rfl | exact Or.inr rfl) (em2 o_div (pe_op op_fdiv (em_var (pv 4)) (em_int pe_int))))))) (sm_cons (by exact sm_set (ps_set (i := 7) sc.nd rfl (by first | exact Or.inl rfl | exact Or.inr rfl) (em2 o_mod (pe_op op_mod (emA o_int1 (pe_callTy call_int1 rfl (fr_int X G S) (by decide +kernel) (am_cons (em2 o_pow (pe_op op_pow (em2 o_add (pe_op op_addU (em2 o_add (pe_op op_addU (em2 o_mod (pe_op op_mod (emA o_int1 (pe_callTy call_int1 rfl (fr_int X G S) (by decide +kernel) (am_cons (em_var (pv 3)) (am_nil)))) (em_int pe_int))) (em2 o_mul (pe_op (op_mul.or op_rep) (em_int pe_int) (em_var (pv 1)))))) (em_int pe_int))) (em_int pe_int))) (am_nil)))) (em_int pe_int))))) (sm_cons (by exact sm_set (ps_set (i := 7) sc.nd rfl (by first | exact Or.inl rfl | exact Or.inr rfl) (em2 o_mod (pe_op op_mod (emA o_int1 (pe_callTy call_int1 rfl (fr_int X G S) (by decide +kernel) (am_cons (em2 o_mul (pe_op (op_mul.or op_rep) (em2 o_add (pe_op op_addU (em_var (pv 7)) (em2 o_mul (pe_op (op_mul.or op_rep) (em_int pe_int) (em2 o_add (pe_op op_addU (em_var (pv 6)) (em_int pe_int))))))) (em2 o_add (pe_op op_addU (em_var (pv 6)) (em_int pe_int))))) (am_nil)))) (em_int pe_int))))) (sm_cons (by exact sm_set (ps_set (i := 7) sc.nd rfl (by first | exact Or.inl rfl | exact Or.inr rfl) (em2 o_mod (pe_op op_mod (emA o_int1 (pe_callTy call_int1 rfl (fr_int X G S) (by decide +kernel) (am_cons (em2 o_mul (pe_op (op_mul.or op_rep) (em2 o_mod (pe_op op_mod (emA o_int1 (pe_callTy call_int1 rfl (fr_int X G S) (by decide +kernel) (am_cons (em2 o_pow (pe_op op_pow (em_var (pv 7)) (em_int pe_int))) (am_nil)))) (em_int pe_int))) (em_int pe_int))) (am_nil)))) (em_int pe_int))))) (sm_one (by exact sm_exp (em_app (pe_bm PySem.F.plainAttrs_list PySem.F.slot_list_append PySem.F.type_list_append mt_append (em_var (pv 5)) (am_cons (em2 o_mod (pe_op op_mod (emA o_int1 (pe_callTy call_int1 rfl (fr_int X G S) (by decide +kernel) (am_cons (em2 o_div (pe_op op_fdiv (em_var (pv 7)) (em_int pe_int))) (am_nil)))) (em_int pe_int))) (am_nil)))))))))))) (sm_one (by exact sm_ret (em_fz (em_var (pv 5))))))))
theorem sc_law_opened : FnScope ["_law_script", "_law_k", "_law_many", "_law_cell"] ["_law_script", "_law_k", "_law_many"] (defScope s_law_opened) := ⟨rfl, rfl, rfl, by decide +kernel, rfl, by decide +kernel, by decide +kernel⟩
theorem ok_law_opened (X : K.In h) (G : h.Ns mainGlobals mg) (S : Says w h K) : ∃ fd, FG P w K mg base 2 (He.fAd K d_law_opened.at_) fd ["_law_script", "_law_k", "_law_many"] (spM (wd K) r_law_opened) ∧ DD d_law_opened K fd ∧ (BindM K fd ["_law_script", "_law_k", "_law_many"] 3 [] [0, 1, 2] [] []) := by
  obtain ⟨fd, D⟩ := S.d.def_ 1 (d := d_law_opened) rfl
  obtain ⟨fd_law_numbers, G_law_numbers, D_law_numbers, B_law_numbers_0⟩ := ok_law_numbers (P := P) (base := base) X G S
  have sc := sc_law_opened
  refine ⟨fd, FG.of D sc (fun _ _ _ _ z => spM.len z) (fun cdv A l s H vs Q E gd hr want => ⟨_, ?_, body_of want⟩), D, bindM1 D fun _ _ _ _ _ _ us ws h1 h2 => (match us, ws, h1, h2 with | [_, _, _], [], _, _ => rfl)⟩
  have tk := takes_of (X := cxOf (L2.CX P w) P w K mg base ["_law_script", "_law_k", "_law_many", "_law_cell"] "_law_opened" (defScope s_law_opened) (He.fAd K d_law_opened.at_) cdv A l s H E) (E := E) rfl rfl rfl rfl
  have hp := passes_of (X := cxOf (L2.CX P w) P w K mg base ["_law_script", "_law_k", "_law_many", "_law_cell"] "_law_opened" (defScope s_law_opened) (He.fAd K d_law_opened.at_) cdv A l s H E) rfl
  exact sm_cons (by exact sm_set (ps_set (i := 3) sc.nd rfl (by first | exact Or.inl rfl | exact Or.inr rfl) (em_if (tm_cmp (pt_cmpR (op_neD hr.units) (em_var (pv 0)) (em_lst (am_nil)) (nomark _)) (snd2 o_ne)) (r_ix (hu_of hr) (em_var (pv 0)) (em_var (pv 1))) (em_int pe_int)))) (sm_one (by exact sm_ret (em_lstC (am_cons (em_call (callee_fn (mp := []) G_law_numbers gd (hr.mono (by decide)) B_law_numbers_0 (fun _ _ => rfl) tk) rfl (gl_law_numbers X G S) D_law_numbers.kp (am_cons (em_var (pv 3)) (am_cons (em_var (pv 1)) (am_cons (em_var (pv 2)) (am_nil))))) (am_cons (em_int pe_int) (am_nil))))))
theorem sc_law_draw : FnScope ["_law_pool", "_law_many", "_law_at"] ["_law_pool", "_law_many"] (defScope s_law_draw) := ⟨rfl, rfl, rfl, by decide +kernel, rfl, by decide +kernel, by decide +kernel⟩
theorem ok_law_draw (X : K.In h) (G : h.Ns mainGlobals mg) (S : Says w h K) : ∃ fd, FG P w K mg base 1 (He.fAd K d_law_draw.at_) fd ["_law_pool", "_law_many"] (spM (wd K) r_law_draw) ∧ DD d_law_draw K fd ∧ (BindM K fd ["_law_pool", "_law_many"] 2 [] [0, 1] [] []) := by
  obtain ⟨fd, D⟩ := S.d.def_ 2 (d := d_law_draw) rfl
  have sc := sc_law_draw
  refine ⟨fd, FG.of D sc (fun _ _ _ _ z => spM.len z) (fun cdv A l s H vs Q E gd hr want => ⟨_, ?_, body_of want⟩), D, bindM1 D fun _ _ _ _ _ _ us ws h1 h2 => (match us, ws, h1, h2 with | [_, _], [], _, _ => rfl)⟩
  have tk := takes_of (X := cxOf (L2.CX P w) P w K mg base ["_law_pool", "_law_many", "_law_at"] "_law_draw" (defScope s_law_draw) (He.fAd K d_law_draw.at_) cdv A l s H E) (E := E) rfl rfl rfl rfl
  have hp := passes_of (X := cxOf (L2.CX P w) P w K mg base ["_law_pool", "_law_many", "_law_at"] "_law_draw" (defScope s_law_draw) (He.fAd K d_law_draw.at_) cdv A l s H E) rfl
  exact sm_cons (by exact sm_set (ps_set (i := 2) sc.nd rfl (by first | exact Or.inl rfl | exact Or.inr rfl) (r_ix (hu_of hr) (em_var (pv 0)) (em_int pe_int)))) (sm_cons (by exact r_stI (hu_of hr) (em_var (pv 0)) (em_int pe_int) (em2 o_add (pe_op op_addU (em_var (pv 2)) (em_int pe_int)))) (sm_one (by exact sm_ret (em_if (tm_cmp (pt_cmpR op_lt (em_var (pv 2)) (emA o_len (pe_callB call_len rfl (fr_len X G S) (by decide +kernel) (am_cons (r_ix (hu_of hr) (em_var (pv 0)) (em_int pe_int)) (am_nil)))) (nomark _)) (snd2 o_lt)) (em2 o_mod (pe_op op_mod (emA o_int1 (pe_callTy call_int1 rfl (fr_int X G S) (by decide +kernel) (am_cons (r_ix (hu_of hr) (r_ix (hu_of hr) (em_var (pv 0)) (em_int pe_int)) (em_var (pv 2))) (am_nil)))) (em_var (pv 1)))) (em_int pe_int)))))
theorem sc_law_pick : FnScope ["_law_pool", "_law_some"] ["_law_pool", "_law_some"] (defScope s_law_pick) := ⟨rfl, rfl, rfl, by decide +kernel, rfl, by decide +kernel, by decide +kernel⟩
theorem ok_law_pick (X : K.In h) (G : h.Ns mainGlobals mg) (S : Says w h K) : ∃ fd, FG P w K mg base 2 (He.fAd K d_law_pick.at_) fd ["_law_pool", "_law_some"] (spM (wd K) r_law_pick) ∧ DD d_law_pick K fd ∧ (BindM K fd ["_law_pool", "_law_some"] 2 [] [0, 1] [] []) := by
  obtain ⟨fd, D⟩ := S.d.def_ 3 (d := d_law_pick) rfl
  obtain ⟨fd_law_draw, G_law_draw, D_law_draw, B_law_draw_0⟩ := ok_law_draw (P := P) (base := base) X G S
  have sc := sc_law_pick
  refine ⟨fd, FG.of D sc (fun _ _ _ _ z => spM.len z) (fun cdv A l s H vs Q E gd hr want => ⟨_, ?_, body_of want⟩), D, bindM1 D fun _ _ _ _ _ _ us ws h1 h2 => (match us, ws, h1, h2 with | [_, _], [], _, _ => rfl)⟩
  have tk := takes_of (X := cxOf (L2.CX P w) P w K mg base ["_law_pool", "_law_some"] "_law_pick" (defScope s_law_pick) (He.fAd K d_law_pick.at_) cdv A l s H E) (E := E) rfl rfl rfl rfl
  have hp := passes_of (X := cxOf (L2.CX P w) P w K mg base ["_law_pool", "_law_some"] "_law_pick" (defScope s_law_pick) (He.fAd K d_law_pick.at_) cdv A l s H E) rfl
  exact sm_one (by exact sm_ret (r_ix (hu_of hr) (em_var (pv 1)) (em_call (callee_fn (mp := []) G_law_draw gd (hr.mono (by decide)) B_law_draw_0 (fun _ _ => rfl) tk) rfl (gl_law_draw X G S) D_law_draw.kp (am_cons (em_var (pv 0)) (am_cons (emA o_len (pe_callB call_len rfl (fr_len X G S) (by decide +kernel) (am_cons (em_var (pv 1)) (am_nil)))) (am_nil))))))
theorem sc_is_one_of : FnScope ["value", "words"] ["value", "words"] (defScope s_is_one_of) := ⟨rfl, rfl, rfl, by decide +kernel, rfl, by decide +kernel, by decide +kernel⟩
theorem ok_is_one_of (X : K.In h) (G : h.Ns mainGlobals mg) (S : Says w h K) : ∃ fd, FG P w K mg base 1 (He.fAd K d_is_one_of.at_) fd ["value", "words"] (spM (wd K) r_is_one_of) ∧ DD d_is_one_of K fd ∧ (BindM K fd ["value", "words"] 2 [] [0, 1] [] []) := by
  obtain ⟨fd, D⟩ := S.d.def_ 4 (d := d_is_one_of) rfl
  have sc := sc_is_one_of
  refine ⟨fd, FG.of D sc (fun _ _ _ _ z => spM.len z) (fun cdv A l s H vs Q E gd hr want => ⟨_, ?_, body_of want⟩), D, bindM1 D fun _ _ _ _ _ _ us ws h1 h2 => (match us, ws, h1, h2 with | [_, _], [], _, _ => rfl)⟩
  have tk := takes_of (X := cxOf (L2.CX P w) P w K mg base ["value", "words"] "is_one_of" (defScope s_is_one_of) (He.fAd K d_is_one_of.at_) cdv A l s H E) (E := E) rfl rfl rfl rfl
  have hp := passes_of (X := cxOf (L2.CX P w) P w K mg base ["value", "words"] "is_one_of" (defScope s_is_one_of) (He.fAd K d_is_one_of.at_) cdv A l s H E) rfl
  exact sm_one (by exact sm_ret (em_and (r_is (cl := He.ga K) (cv := (.ty "str")) (is_str_c S) (fun t b z => ⟨_, (.ty _), kitB_ok (x14 S) z⟩) rfl (fr_isinstance X G S) (em_var (pv 0)) (pe_bltn (v := (.ty "str")) rfl (fr_str X G S) (by decide +kernel) rfl)) (em_one (em2 o_in (pe_cmpR op_inU (em_var (pv 0)) (em_var (pv 1)) (by with_unfolding_all rfl))))))
theorem sc_is_word : FnScope ["value", "letter"] ["value"] (defScope s_is_word) := ⟨rfl, rfl, rfl, by decide +kernel, rfl, by decide +kernel, by decide +kernel⟩
theorem ok_is_word (X : K.In h) (G : h.Ns mainGlobals mg) (S : Says w h K) : ∃ fd, FG P w K mg base 1 (He.fAd K d_is_word.at_) fd ["value"] (spM (wd K) r_is_word) ∧ DD d_is_word K fd ∧ (BindM K fd ["value"] 1 [] [0] [] []) := by
  obtain ⟨fd, D⟩ := S.d.def_ 5 (d := d_is_word) rfl
  have sc := sc_is_word
  refine ⟨fd, FG.of D sc (fun _ _ _ _ z => spM.len z) (fun cdv A l s H vs Q E gd hr want => ⟨_, ?_, body_of want⟩), D, bindM1 D fun _ _ _ _ _ _ us ws h1 h2 => (match us, ws, h1, h2 with | [_], [], _, _ => rfl)⟩
  have tk := takes_of (X := cxOf (L2.CX P w) P w K mg base ["value", "letter"] "is_word" (defScope s_is_word) (He.fAd K d_is_word.at_) cdv A l s H E) (E := E) rfl rfl rfl rfl
  have hp := passes_of (X := cxOf (L2.CX P w) P w K mg base ["value", "letter"] "is_word" (defScope s_is_word) (He.fAd K d_is_word.at_) cdv A l s H E) rfl
  exact sm_cons (by exact sm_if (PW.pt (tm_or (tm_not (tm_tru (pt_truth (r_is (cl := He.ga K) (cv := (.ty "str")) (is_str_c S) (fun t b z => ⟨_, (.ty _), kitB_ok (x14 S) z⟩) rfl (fr_isinstance X G S) (em_var (pv 0)) (pe_bltn (v := (.ty "str")) rfl (fr_str X G S) (by decide +kernel) rfl)) (fun _ => rfl)))) (tm_or1 (tm_not (tm_cmp (pt_chain op_le op_le (em_int pe_int) (emA o_len (pe_callB call_len rfl (fr_len X G S) (by decide +kernel) (am_cons (em_var (pv 0)) (am_nil)))) (em_int pe_int)) (snd_chain o_le o_le)))))) (sm_one (by exact sm_ret (em_bl pe_bl))) (sm_nil)) (sm_one (by exact sm_ret (emA o_all (pe_callB (cr_all rfl) rfl (fr_all X G S) (by decide +kernel) (am_cons (em_lc (go_name 1) (by decide) (pe_lc (own := [("letter", 1)]) rfl sc.nd (r_it (em_var (pv 0))) (blkOk (by kernel_rfl)) (by intro s0 H0 C0 cl0 fp0; exact pg_name sc.nd rfl (by first | exact Or.inl rfl | exact Or.inr rfl)) (by intro s0 H0 C0 cl0 fp0; exact tm_yes) (by intro s0 H0 C0 cl0 fp0; exact em2 o_in (pe_cmpR op_inU (em_var (pv 1)) (em_str (pe_glob rfl (st_LETTERS X G S).choose_spec ⟨_, rfl⟩)) (by with_unfolding_all rfl))))) (am_nil))))))
theorem sc_BadWaking_init : FnScope ["self", "part"] ["self", "part"] (defScope s_BadWaking_init) := ⟨rfl, rfl, rfl, by decide +kernel, rfl, by decide +kernel, by decide +kernel⟩
theorem ok_BadWaking_init (X : K.In h) (G : h.Ns mainGlobals mg) (S : Says w h K) : ∃ fd, FnOk P w K mg base CX0 1 (He.fAd K d_BadWaking_init.at_) fd ["self", "part"] (spX (He.ga K "BadWaking") "part" okS) ∧ Binds K fd ["self", "part"] [] := by
  obtain ⟨fd, D⟩ := S.d.def_ 6 (d := d_BadWaking_init) rfl
  have sc := sc_BadWaking_init
  refine ⟨fd, xinit (tm := (fun σ H Q => tJs [tC (.str "a waking cannot have such a part: "), tFmt (tVar 1)] Str.empty σ H fun out H1 => Q (.str out) H1)) D sc rfl (oexB_ok (x7 S)) (xiniB_ok (x6 S)).2.2 msg_f (fun cdv A l s H E hr => PSs.nox ?_), D.bindsN fun _ _ _ _ _ _ us hl => match us, hl with | [_, _], _ => rfl⟩
  exact pss_cons (ps_expr (pe_binit rfl (gl_PileError X G S) (baseB_ok (x20 S)) (pa_cons (pv 0) (pa_cons (pe_joined (.cons pe_str (.cons (pe_fmt (pv 1)) .nil))) pa_nil)))) (pss_one (ps_ost (pv 0) (pv 1)))
theorem sc_Waking_init : FnScope ["self", "event", "deed", "call", "by", "may", "rows", "part", "is_right"] ["self", "event", "deed", "call", "by", "may"] (defScope s_Waking_init) := ⟨rfl, rfl, rfl, by decide +kernel, rfl, by decide +kernel, by decide +kernel⟩
theorem ok_Waking_init (X : K.In h) (G : h.Ns mainGlobals mg) (S : Says w h K) : ∃ fd, FG P w K mg base 3 (He.fAd K d_Waking_init.at_) fd ["self", "event", "deed", "call", "by", "may"] (spM (wd K) r_Waking_init) ∧ DD d_Waking_init K fd ∧ (BindM K fd ["self", "event", "deed", "call", "by", "may"] 4 ["by", "may"] [0, 1, 2, 3, 4, 5] [] []) ∧ (BindM K fd ["self", "event", "deed", "call", "by", "may"] 1 ["may", "by", "call", "event", "deed"] [0, 4, 5, 3, 2, 1] [] []) ∧ (∃ mv, BindM K fd ["self", "event", "deed", "call", "by", "may"] 4 [] [0, 1, 2, 3, 4, 5] mv [.str "own", .bl false]) := by
  obtain ⟨fd, D⟩ := S.d.def_ 7 (d := d_Waking_init) rfl
  obtain ⟨fd_is_one_of, G_is_one_of, D_is_one_of, B_is_one_of_0⟩ := ok_is_one_of (P := P) (base := base) X G S
  obtain ⟨fd_is_word, G_is_word, D_is_word, B_is_word_0⟩ := ok_is_word (P := P) (base := base) X G S
  obtain ⟨fd_BadWaking_init, G_BadWaking_init, B_BadWaking_init⟩ := ok_BadWaking_init (P := P) (base := base) X G S
  have sc := sc_Waking_init
  refine ⟨fd, FG.of D sc (fun _ _ _ _ z => spM.len z) (fun cdv A l s H vs Q E gd hr want => ⟨_, ?_, body_of want⟩), D, bindM1 D fun _ _ _ _ _ _ us ws h1 h2 => (match us, ws, h1, h2 with | [_, _, _, _], [_, _], _, _ => rfl), bindM1 D fun _ _ _ _ _ _ us ws h1 h2 => (match us, ws, h1, h2 with | [_], [_, _, _, _, _], _, _ => rfl), bindMK D [("by", .str "own"), ("may", .bl false)] (by intro z; cases z) (fun q hq => List.Sublist.subset (l₁ := ([("by", .str "own"), ("may", .bl false)] : List (Str × V))) (.cons₂ _ (.cons₂ _ .slnil)) hq) fun _ _ _ _ _ _ us mv ws h1 h2 h3 => (match us, mv, ws, h1, h2, h3 with | [_, _, _, _], [_, _], [], _, _, _ => ⟨_, _, _, _, _, _, rfl, rfl, ⟨_, _, _, _, _, _, rfl, rfl, rfl⟩⟩)⟩
  have tk := takes_of (X := cxOf (L2.CX P w) P w K mg base ["self", "event", "deed", "call", "by", "may", "rows", "part", "is_right"] "Waking.__init__" (defScope s_Waking_init) (He.fAd K d_Waking_init.at_) cdv A l s H E) (E := E) rfl rfl rfl rfl
  have hp := passes_of (X := cxOf (L2.CX P w) P w K mg base ["self", "event", "deed", "call", "by", "may", "rows", "part", "is_right"] "Waking.__init__" (defScope s_Waking_init) (He.fAd K d_Waking_init.at_) cdv A l s H E) rfl
  exact sm_cons (by exact sm_set (ps_set (i := 6) sc.nd rfl (by first | exact Or.inl rfl | exact Or.inr rfl) (em_lst (am_cons (em_tup (am_cons (em_str pe_str) (am_cons (em_call (callee_fn (mp := []) G_is_one_of gd (hr.mono (by decide)) B_is_one_of_0 (fun _ _ => rfl) tk) rfl (gl_is_one_of X G S) D_is_one_of.kp (am_cons (em_var (pv 1)) (am_cons (r_ktup rfl (He.glo_ok X G (x4 S)) (x3 S) (fun _ _ => ⟨_, _, rfl, rfl, ⟨_, _, rfl, rfl, ⟨_, _, rfl, rfl, ⟨_, _, rfl, rfl, rfl⟩⟩⟩⟩)) (am_nil)))) (am_nil)))) (am_cons (em_tup (am_cons (em_str pe_str) (am_cons (em_call (callee_fn (mp := []) G_is_word gd (hr.mono (by decide)) B_is_word_0 (fun _ _ => rfl) tk) rfl (gl_is_word X G S) D_is_word.kp (am_cons (em_var (pv 2)) (am_nil))) (am_nil)))) (am_cons (em_tup (am_cons (em_str pe_str) (am_cons (em_call (callee_fn (mp := []) G_is_word gd (hr.mono (by decide)) B_is_word_0 (fun _ _ => rfl) tk) rfl (gl_is_word X G S) D_is_word.kp (am_cons (em_var (pv 3)) (am_nil))) (am_nil)))) (am_nil))))))) (sm_cons (by exact r_for hp rfl (r_it (em2 o_add (pe_op op_addU (em_var (pv 6)) (em_lst (am_cons (em_tup (am_cons (em_str pe_str) (am_cons (em_call (callee_fn (mp := []) G_is_one_of gd (hr.mono (by decide)) B_is_one_of_0 (fun _ _ => rfl) tk) rfl (gl_is_one_of X G S) D_is_one_of.kp (am_cons (em_var (pv 4)) (am_cons (em_tup (am_cons (em_str pe_str) (am_cons (em_str pe_str) (am_nil)))) (am_nil)))) (am_nil)))) (am_cons (em_tup (am_cons (em_str pe_str) (am_cons (r_is (cl := He.ga K) (cv := (.ty "bool")) (is_bool_c S) (fun t b z => ⟨_, (.ty _), kitB_ok (x5 S) z⟩) rfl (fr_isinstance X G S) (em_var (pv 5)) (pe_bltn (v := (.ty "bool")) rfl (fr_bool X G S) (by decide +kernel) rfl)) (am_nil)))) (am_nil))))))) (pg_tup rfl (pgs_cons (pg_name sc.nd rfl (by first | exact Or.inl rfl | exact Or.inr rfl)) (pgs_cons (pg_name sc.nd rfl (by first | exact Or.inl rfl | exact Or.inr rfl)) (pgs_nil)))) (go_tup [7, 8]) (sm_one (by exact sm_if (tm_not (tm_tru (pt_truth (em_var (pv 8)) (fun _ => rfl)))) (sm_one (by exact sm_raise (okV := okS) okSP_ok (ps_raise rfl tk (pmk_oex (oexB_ok (x7 S)) (xiniB_ok (x6 S)).1 (xiniB_ok (x6 S)).2.1 G_BadWaking_init (hr.mono (by decide)) B_BadWaking_init .nil pass0 rfl (gl_BadWaking X G S) (am_cons (em_var (pv 7)) (am_nil)))))) (sm_nil)))) (sm_cons (by exact r_stF (clsFB_ok (x8 S)).cl (He.noat_ok (x9 S)) (em_var (pv 0)) (em_var (pv 1))) (sm_cons (by exact r_stF (clsFB_ok (x8 S)).cl (He.noat_ok (x10 S)) (em_var (pv 0)) (em_var (pv 2))) (sm_cons (by exact r_stF (clsFB_ok (x8 S)).cl (He.noat_ok (x11 S)) (em_var (pv 0)) (em_var (pv 3))) (sm_cons (by exact r_stF (clsFB_ok (x8 S)).cl (He.noat_ok (x12 S)) (em_var (pv 0)) (em_var (pv 4))) (sm_one (by exact r_stF (clsFB_ok (x8 S)).cl (He.noat_ok (x13 S)) (em_var (pv 0)) (em_var (pv 5)))))))))
theorem sc_law_told : FnScope ["_law_one"] ["_law_one"] (defScope s_law_told) := ⟨rfl, rfl, rfl, by decide +kernel, rfl, by decide +kernel, by decide +kernel⟩
theorem ok_law_told (X : K.In h) (G : h.Ns mainGlobals mg) (S : Says w h K) : ∃ fd, FG P w K mg base 1 (He.fAd K d_law_told.at_) fd ["_law_one"] (spM (wd K) r_law_told) ∧ DD d_law_told K fd ∧ (BindM K fd ["_law_one"] 1 [] [0] [] []) := by
  obtain ⟨fd, D⟩ := S.d.def_ 8 (d := d_law_told) rfl
  have sc := sc_law_told
  refine ⟨fd, FG.of D sc (fun _ _ _ _ z => spM.len z) (fun cdv A l s H vs Q E gd hr want => ⟨_, ?_, body_of want⟩), D, bindM1 D fun _ _ _ _ _ _ us ws h1 h2 => (match us, ws, h1, h2 with | [_], [], _, _ => rfl)⟩
  have tk := takes_of (X := cxOf (L2.CX P w) P w K mg base ["_law_one"] "_law_told" (defScope s_law_told) (He.fAd K d_law_told.at_) cdv A l s H E) (E := E) rfl rfl rfl rfl
  have hp := passes_of (X := cxOf (L2.CX P w) P w K mg base ["_law_one"] "_law_told" (defScope s_law_told) (He.fAd K d_law_told.at_) cdv A l s H E) rfl
  exact sm_one (by exact sm_ret (em_lst (am_cons (r_fld (clsFB_ok (x8 S)).cl (He.noat_ok (x9 S)) (em_var (pv 0))) (am_cons (r_fld (clsFB_ok (x8 S)).cl (He.noat_ok (x10 S)) (em_var (pv 0))) (am_cons (r_fld (clsFB_ok (x8 S)).cl (He.noat_ok (x11 S)) (em_var (pv 0))) (am_cons (r_fld (clsFB_ok (x8 S)).cl (He.noat_ok (x12 S)) (em_var (pv 0))) (am_cons (r_fld (clsFB_ok (x8 S)).cl (He.noat_ok (x13 S)) (em_var (pv 0))) (am_nil))))))))
theorem sc_Waking_row : FnScope ["self"] ["self"] (defScope s_Waking_row) := ⟨rfl, rfl, rfl, by decide +kernel, rfl, by decide +kernel, by decide +kernel⟩
theorem ok_Waking_row (X : K.In h) (G : h.Ns mainGlobals mg) (S : Says w h K) : ∃ fd, FG P w K mg base 1 (He.fAd K d_Waking_row.at_) fd ["self"] (spM (wd K) r_Waking_row) ∧ DD d_Waking_row K fd ∧ (BindM K fd ["self"] 1 [] [0] [] []) := by
  obtain ⟨fd, D⟩ := S.d.def_ 9 (d := d_Waking_row) rfl
  have sc := sc_Waking_row
  refine ⟨fd, FG.of D sc (fun _ _ _ _ z => spM.len z) (fun cdv A l s H vs Q E gd hr want => ⟨_, ?_, body_of want⟩), D, bindM1 D fun _ _ _ _ _ _ us ws h1 h2 => (match us, ws, h1, h2 with | [_], [], _, _ => rfl)⟩
  have tk := takes_of (X := cxOf (L2.CX P w) P w K mg base ["self"] "Waking.row" (defScope s_Waking_row) (He.fAd K d_Waking_row.at_) cdv A l s H E) (E := E) rfl rfl rfl rfl
  have hp := passes_of (X := cxOf (L2.CX P w) P w K mg base ["self"] "Waking.row" (defScope s_Waking_row) (He.fAd K d_Waking_row.at_) cdv A l s H E) rfl
  exact sm_one (by exact sm_ret (em_tup (am_cons (r_fld (clsFB_ok (x8 S)).cl (He.noat_ok (x9 S)) (em_var (pv 0))) (am_cons (r_fld (clsFB_ok (x8 S)).cl (He.noat_ok (x10 S)) (em_var (pv 0))) (am_cons (r_fld (clsFB_ok (x8 S)).cl (He.noat_ok (x11 S)) (em_var (pv 0))) (am_cons (r_fld (clsFB_ok (x8 S)).cl (He.noat_ok (x12 S)) (em_var (pv 0))) (am_nil)))))))
theorem sc_Waking_eq : FnScope ["self", "other"] ["self", "other"] (defScope s_Waking_eq) := ⟨rfl, rfl, rfl, by decide +kernel, rfl, by decide +kernel, by decide +kernel⟩
theorem ok_Waking_eq (X : K.In h) (G : h.Ns mainGlobals mg) (S : Says w h K) : ∃ fd, FG P w K mg base 2 (He.fAd K d_Waking_eq.at_) fd ["self", "other"] (spM (wd K) r_Waking_eq) ∧ DD d_Waking_eq K fd ∧ (BindM K fd ["self", "other"] 2 [] (List.range 2) [] []) := by
  obtain ⟨fd, D⟩ := S.d.def_ 10 (d := d_Waking_eq) rfl
  obtain ⟨fd_Waking_row, G_Waking_row, D_Waking_row, B_Waking_row_0⟩ := ok_Waking_row (P := P) (base := base) X G S
  have sc := sc_Waking_eq
  refine ⟨fd, FG.of D sc (fun _ _ _ _ z => spM.len z) (fun cdv A l s H vs Q E gd hr want => ⟨_, ?_, body_of want⟩), D, bindM1 D fun _ _ _ _ _ _ us ws h1 h2 => (match us, ws, h1, h2 with | [_, _], [], _, _ => rfl)⟩
  have tk := takes_of (X := cxOf (L2.CX P w) P w K mg base ["self", "other"] "Waking.__eq__" (defScope s_Waking_eq) (He.fAd K d_Waking_eq.at_) cdv A l s H E) (E := E) rfl rfl rfl rfl
  have hp := passes_of (X := cxOf (L2.CX P w) P w K mg base ["self", "other"] "Waking.__eq__" (defScope s_Waking_eq) (He.fAd K d_Waking_eq.at_) cdv A l s H E) rfl
  exact sm_one (by exact sm_ret (em_and (r_is (cl := He.ga K) (cv := (.ref (He.ga K "Waking"))) (is_Waking_c S) (fun t b z => ⟨_, (.own _), kitB_ok (x15 S) z⟩) rfl (fr_isinstance X G S) (em_var (pv 1)) (pe_glob (v := (.ref (He.ga K "Waking"))) rfl (gl_Waking X G S) rfl)) (em_and (em2 o_eq (pe_cmpR (op_eqD hr.units) (em_meth0 (em_var (pv 0)) (clsFB_ok (x8 S)).cl (He.meth_ok (x16 S)) (callee_fn (mp := []) G_Waking_row gd (hr.mono (by decide)) B_Waking_row_0 (fun _ _ => rfl) tk)) (em_meth0 (em_var (pv 1)) (clsFB_ok (x8 S)).cl (He.meth_ok (x16 S)) (callee_fn (mp := []) G_Waking_row gd (hr.mono (by decide)) B_Waking_row_0 (fun _ _ => rfl) tk)) (nomark _))) (em_one (em2 o_eq (pe_cmpR (op_eqD hr.units) (r_fld (clsFB_ok (x8 S)).cl (He.noat_ok (x13 S)) (em_var (pv 0))) (r_fld (clsFB_ok (x8 S)).cl (He.noat_ok (x13 S)) (em_var (pv 1))) (nomark _)))))))
theorem sc_law_odds : FnScope ["_law_part"] ["_law_part"] (defScope s_law_odds) := ⟨rfl, rfl, rfl, by decide +kernel, rfl, by decide +kernel, by decide +kernel⟩
theorem ok_law_odds (X : K.In h) (G : h.Ns mainGlobals mg) (S : Says w h K) : ∃ fd, FG P w K mg base 1 (He.fAd K d_law_odds.at_) fd ["_law_part"] (spM (wd K) r_law_odds) ∧ DD d_law_odds K fd ∧ (BindM K fd ["_law_part"] 1 [] [0] [] []) := by
  obtain ⟨fd, D⟩ := S.d.def_ 11 (d := d_law_odds) rfl
  have sc := sc_law_odds
  refine ⟨fd, FG.of D sc (fun _ _ _ _ z => spM.len z) (fun cdv A l s H vs Q E gd hr want => ⟨_, ?_, body_of want⟩), D, bindM1 D fun _ _ _ _ _ _ us ws h1 h2 => (match us, ws, h1, h2 with | [_], [], _, _ => rfl)⟩
  have tk := takes_of (X := cxOf (L2.CX P w) P w K mg base ["_law_part"] "_law_odds" (defScope s_law_odds) (He.fAd K d_law_odds.at_) cdv A l s H E) (E := E) rfl rfl rfl rfl
  have hp := passes_of (X := cxOf (L2.CX P w) P w K mg base ["_law_part"] "_law_odds" (defScope s_law_odds) (He.fAd K d_law_odds.at_) cdv A l s H E) rfl
  exact sm_cons (by exact sm_if (tm_cmp (pt_cmpR (op_eqD hr.units) (em_var (pv 0)) (em_str pe_str) (nomark _)) (snd2 o_eq)) (sm_one (by exact sm_ret (em_lst (am_cons (em_non pe_non) (am_cons (em_str pe_str) (am_cons (em_str pe_str) (am_cons (em_str pe_str) (am_cons (em_int pe_int) (am_cons (em_tup (am_cons (em_str pe_str) (am_nil))) (am_cons (em_lst (am_cons (em_str pe_str) (am_nil))) (am_cons (em_bl pe_bl) (am_nil)))))))))))) (sm_nil)) (sm_cons (by exact sm_if (tm_cmp (pt_cmpR op_inU (em_var (pv 0)) (em_tup (am_cons (em_str pe_str) (am_cons (em_str pe_str) (am_nil)))) (by with_unfolding_all rfl)) (snd2 o_in)) (sm_one (by exact sm_ret (em_lst (am_cons (em_non pe_non) (am_cons (em_str pe_str) (am_cons (em_str pe_str) (am_cons (em_str pe_str) (am_cons (em_int pe_int) (am_cons (em_tup (am_cons (em_str pe_str) (am_nil))) (am_cons (em_lst (am_cons (em_str pe_str) (am_nil))) (am_cons (em_bl pe_bl) (am_cons (em_str pe_str) (am_nil))))))))))))) (sm_nil)) (sm_cons (by exact sm_if (tm_cmp (pt_cmpR (op_eqD hr.units) (em_var (pv 0)) (em_str pe_str) (nomark _)) (snd2 o_eq)) (sm_one (by exact sm_ret (em_lst (am_cons (em_non pe_non) (am_cons (em_str pe_str) (am_cons (em_str pe_str) (am_cons (em_str pe_str) (am_cons (em_int pe_int) (am_cons (em_tup (am_cons (em_str pe_str) (am_nil))) (am_cons (em_lst (am_cons (em_str pe_str) (am_nil))) (am_cons (em_bl pe_bl) (am_nil)))))))))))) (sm_nil)) (sm_one (by exact sm_ret (em_lst (am_cons (em_non pe_non) (am_cons (em_int pe_int) (am_cons (em_int pe_int) (am_cons (em_str pe_str) (am_cons (em_str pe_str) (am_cons (em_lst (am_nil)) (am_cons (em_tup (am_nil)) (am_nil)))))))))))))
theorem sc_law_tried : FnScope ["_law_values", "e"] ["_law_values"] (defScope s_law_tried) := ⟨rfl, rfl, rfl, by decide +kernel, rfl, by decide +kernel, by decide +kernel⟩
theorem ok_law_tried (X : K.In h) (G : h.Ns mainGlobals mg) (S : Says w h K) : ∃ fd, FG P w K mg base 5 (He.fAd K d_law_tried.at_) fd ["_law_values"] (spM (wd K) r_law_tried) ∧ DD d_law_tried K fd ∧ (BindM K fd ["_law_values"] 1 [] [0] [] []) := by
  obtain ⟨fd, D⟩ := S.d.def_ 12 (d := d_law_tried) rfl
  obtain ⟨fd_Waking_init, G_Waking_init, D_Waking_init, B_Waking_init_0, B_Waking_init_1, ⟨mv_Waking_init_2, B_Waking_init_2⟩⟩ := ok_Waking_init (P := P) (base := base) X G S
  have sc := sc_law_tried
  refine ⟨fd, FG.of D sc (fun _ _ _ _ z => spM.len z) (fun cdv A l s H vs Q E gd hr want => ⟨_, ?_, body_of want⟩), D, bindM1 D fun _ _ _ _ _ _ us ws h1 h2 => (match us, ws, h1, h2 with | [_], [], _, _ => rfl)⟩
  have tk := takes_of (X := cxOf (L2.CX P w) P w K mg base ["_law_values", "e"] "_law_tried" (defScope s_law_tried) (He.fAd K d_law_tried.at_) cdv A l s H E) (E := E) rfl rfl rfl rfl
  have hp := passes_of (X := cxOf (L2.CX P w) P w K mg base ["_law_values", "e"] "_law_tried" (defScope s_law_tried) (He.fAd K d_law_tried.at_) cdv A l s H E) rfl
  exact sm_cons (by exact sm_try (fun n b z => exmB_ok (x19 S) n b z) (ps_try_as (tb := fun W => tS _ W _) (ts := fun a cls d => tS ⟨_, _, some (a, cls, d)⟩ W0 _) rfl rfl sc.nd (i := 1) rfl rfl ⟨rfl, by decide, .inl (gl_BadWaking X G S)⟩ tk (by intro W1 pn1 xe1 tk1 hp1; exact sm_one (by exact sm_exp (r_callK (callee_make (mp := []) rfl (He.mkr_ok (x0 S)) G_Waking_init gd (hr.mono (by decide)) B_Waking_init_0 (fun _ _ => rfl) tk1) rfl (gl_Waking X G S) (He.mkr_ok (x0 S)).kp (am_cons (r_ix (hu_of hr) (em_var (pv 0)) (em_str pe_str)) (am_cons (r_ix (hu_of hr) (em_var (pv 0)) (em_str pe_str)) (am_cons (r_ix (hu_of hr) (em_var (pv 0)) (em_str pe_str)) (am_nil)))) (km_cons (r_ix (hu_of hr) (em_var (pv 0)) (em_str pe_str)) (km_cons (r_ix (hu_of hr) (em_var (pv 0)) (em_str pe_str)) (km_nil)))))) (by intro a1 oe1 cls1 d1 pn1 hz hf; exact sm_one (by exact sm_ret (em_lst (am_cons (em_xf (X := _) (excCB_ok (x17 S)).1 (xiniB_ok (x6 S)).2.2 hz hf (em_var (pv 1))) (am_cons (r_isX (X := _) (cl := He.ga K) (cv := (.ref (He.ga K "PileError"))) (fun n k z => kitXB_ok (x18 S) (.own _) n k z) hz hf rfl (fr_isinstance X G S) (em_var (pv 1)) (pe_glob (v := (.ref (He.ga K "PileError"))) rfl (gl_PileError X G S) rfl)) (am_nil)))))))) (sm_one (by exact sm_ret (em_str pe_str)))
end
end K04

namespace K04
open PySem PySem.Spec PyProof.Rows L2 Mi

section
variable {P : Program} {w : World} {K : PySem.W.Frag} {mg : Str → Option Value} {base h : Heap}
theorem sc_law : FnScope ["_law_script", "_law_names", "_law_k", "_law_pool", "_law_menu", "_law_good", "_law_one", "_law_other", "_law_short", "_law_at", "_law_part", "_law_value", "_law_odd", "_law_bent", "_law_later", "_law_name"] ["_law_script"] (defScope s_law) := ⟨rfl, rfl, rfl, by decide +kernel, rfl, by decide +kernel, by decide +kernel⟩
theorem ok_law (X : K.In h) (G : h.Ns mainGlobals mg) (S : Says w h K) : ∃ fd, FG P w K mg base 6 (He.fAd K d_law.at_) fd ["_law_script"] (spM (wd K) r_law) ∧ DD d_law K fd := by
  obtain ⟨fd, D⟩ := S.d.def_ 13 (d := d_law) rfl
  obtain ⟨fd_law_opened, G_law_opened, D_law_opened, B_law_opened_0⟩ := ok_law_opened (P := P) (base := base) X G S
  obtain ⟨fd_law_pick, G_law_pick, D_law_pick, B_law_pick_0⟩ := ok_law_pick (P := P) (base := base) X G S
  obtain ⟨fd_Waking_init, G_Waking_init, D_Waking_init, B_Waking_init_0, B_Waking_init_1, ⟨mv_Waking_init_2, B_Waking_init_2⟩⟩ := ok_Waking_init (P := P) (base := base) X G S
  obtain ⟨fd_law_told, G_law_told, D_law_told, B_law_told_0⟩ := ok_law_told (P := P) (base := base) X G S
  obtain ⟨fd_Waking_eq, G_Waking_eq, D_Waking_eq, B_Waking_eq_0⟩ := ok_Waking_eq (P := P) (base := base) X G S
  obtain ⟨fd_law_odds, G_law_odds, D_law_odds, B_law_odds_0⟩ := ok_law_odds (P := P) (base := base) X G S
  obtain ⟨fd_law_tried, G_law_tried, D_law_tried, B_law_tried_0⟩ := ok_law_tried (P := P) (base := base) X G S
  have sc := sc_law
  refine ⟨fd, FG.of D sc (fun _ _ _ _ z => spM.len z) (fun cdv A l s H vs Q E gd hr want => ⟨_, ?_, body_of want⟩), D⟩
  have tk := takes_of (X := cxOf (L2.CX P w) P w K mg base ["_law_script", "_law_names", "_law_k", "_law_pool", "_law_menu", "_law_good", "_law_one", "_law_other", "_law_short", "_law_at", "_law_part", "_law_value", "_law_odd", "_law_bent", "_law_later", "_law_name"] "law" (defScope s_law) (He.fAd K d_law.at_) cdv A l s H E) (E := E) rfl rfl rfl rfl
  have hp := passes_of (X := cxOf (L2.CX P w) P w K mg base ["_law_script", "_law_names", "_law_k", "_law_pool", "_law_menu", "_law_good", "_law_one", "_law_other", "_law_short", "_law_at", "_law_part", "_law_value", "_law_odd", "_law_bent", "_law_later", "_law_name"] "law" (defScope s_law) (He.fAd K d_law.at_) cdv A l s H E) rfl
  exact sm_cons (by exact sm_set (ps_set (i := 1) sc.nd rfl (by first | exact Or.inl rfl | exact Or.inr rfl) (em_lst (am_cons (em_str pe_str) (am_cons (em_str pe_str) (am_cons (em_str pe_str) (am_cons (em_str pe_str) (am_cons (em_str pe_str) (am_nil))))))))) (sm_cons (by exact r_for hp rfl (im_range1 (pi_range1 rfl (fr_range X G S) (am_cons (emA o_max2 (pe_callB (call_max2 rfl) rfl (fr_max X G S) (by decide +kernel) (am_cons (em_int pe_int) (am_cons (emA o_min2 (pe_callB (call_min2 rfl) rfl (fr_min X G S) (by decide +kernel) (am_cons (emA o_len (pe_callB call_len rfl (fr_len X G S) (by decide +kernel) (am_cons (em_var (pv 0)) (am_nil)))) (am_cons (em_int pe_int) (am_nil))))) (am_nil))))) (am_nil)))) (pg_name sc.nd rfl (by first | exact Or.inl rfl | exact Or.inr rfl)) (go_name 2) (sm_cons (by exact sm_set (ps_set (i := 3) sc.nd rfl (by first | exact Or.inl rfl | exact Or.inr rfl) (em_call (callee_fn (mp := []) G_law_opened gd (hr.mono (by decide)) B_law_opened_0 (fun _ _ => rfl) tk) rfl (gl_law_opened X G S) D_law_opened.kp (am_cons (em_var (pv 0)) (am_cons (em_var (pv 2)) (am_cons (em_int pe_int) (am_nil))))))) (sm_cons (by exact sm_set (ps_set (i := 4) sc.nd rfl (by first | exact Or.inl rfl | exact Or.inr rfl) (em_lst (am_cons (em_lst (am_cons (em_str pe_str) (am_cons (em_str pe_str) (am_cons (em_str pe_str) (am_cons (em_str pe_str) (am_nil)))))) (am_cons (em_lst (am_cons (em_str pe_str) (am_cons (em_str pe_str) (am_cons (em_str pe_str) (am_cons (em_str pe_str) (am_nil)))))) (am_cons (em_lst (am_cons (em_str pe_str) (am_cons (em_str pe_str) (am_cons (em_str pe_str) (am_nil))))) (am_nil))))))) (sm_cons (by exact sm_set (ps_set (i := 4) sc.nd rfl (by first | exact Or.inl rfl | exact Or.inr rfl) (em2 o_add (pe_op op_addU (em_var (pv 4)) (em_lst (am_cons (em_lst (am_cons (em_str pe_str) (am_cons (em_str pe_str) (am_nil)))) (am_cons (em_lst (am_cons (em_bl pe_bl) (am_cons (em_bl pe_bl) (am_nil)))) (am_nil)))))))) (sm_cons (by exact sm_set (ps_set (i := 5) sc.nd rfl (by first | exact Or.inl rfl | exact Or.inr rfl) (emA o_dictP (pe_callTy (call_dictP rfl) rfl (fr_dict X G S) (by decide +kernel) (am_cons (em_lc (go_tup [9, 10]) (by decide) (pe_lc (own := [("_law_at", 9), ("_law_part", 10)]) rfl sc.nd (im_enum (pi_enum rfl (fr_enumerate X G S) (am_cons (em_var (pv 1)) (am_nil)))) (blkOk (by kernel_rfl)) (by intro s0 H0 C0 cl0 fp0; exact pg_tup rfl (pgs_cons (pg_name sc.nd rfl (by first | exact Or.inl rfl | exact Or.inr rfl)) (pgs_cons (pg_name sc.nd rfl (by first | exact Or.inl rfl | exact Or.inr rfl)) (pgs_nil)))) (by intro s0 H0 C0 cl0 fp0; exact tm_yes) (by intro s0 H0 C0 cl0 fp0; exact em_tup (am_cons (em_var (pv 10)) (am_cons (em_call (callee_fn (mp := []) G_law_pick gd (hr.mono (by decide)) B_law_pick_0 (fun _ _ => rfl) Mi.takes0) rfl (gl_law_pick X G S) D_law_pick.kp (am_cons (em_var (pv 3)) (am_cons (r_ix (hu_of hr) (em_var (pv 4)) (em_var (pv 9))) (am_nil)))) (am_nil)))))) (am_nil)))))) (sm_cons (by exact sm_set (ps_set (i := 6) sc.nd rfl (by first | exact Or.inl rfl | exact Or.inr rfl) (r_callK (callee_make (mp := []) rfl (He.mkr_ok (x0 S)) G_Waking_init gd (hr.mono (by decide)) B_Waking_init_0 (fun _ _ => rfl) tk) rfl (gl_Waking X G S) (He.mkr_ok (x0 S)).kp (am_cons (r_ix (hu_of hr) (em_var (pv 5)) (em_str pe_str)) (am_cons (r_ix (hu_of hr) (em_var (pv 5)) (em_str pe_str)) (am_cons (r_ix (hu_of hr) (em_var (pv 5)) (em_str pe_str)) (am_nil)))) (km_cons (r_ix (hu_of hr) (em_var (pv 5)) (em_str pe_str)) (km_cons (r_ix (hu_of hr) (em_var (pv 5)) (em_str pe_str)) (km_nil)))))) (sm_cons (by exact sm_set (ps_set (i := 7) sc.nd rfl (by first | exact Or.inl rfl | exact Or.inr rfl) (r_callK0 (callee_make (mp := []) rfl (He.mkr_ok (x0 S)) G_Waking_init gd (hr.mono (by decide)) B_Waking_init_1 (fun _ _ => rfl) tk) rfl (gl_Waking X G S) (He.mkr_ok (x0 S)).kp (km_cons (r_ix (hu_of hr) (em_var (pv 5)) (em_str pe_str)) (km_cons (r_ix (hu_of hr) (em_var (pv 5)) (em_str pe_str)) (km_cons (r_ix (hu_of hr) (em_var (pv 5)) (em_str pe_str)) (km_cons (r_ix (hu_of hr) (em_var (pv 5)) (em_str pe_str)) (km_cons (r_ix (hu_of hr) (em_var (pv 5)) (em_str pe_str)) (km_nil))))))))) (sm_cons (by exact sm_if (PW.pt (tm_or (tm_cmp (pt_cmpR (op_neD hr.units) (emA o_repr (pe_callB (call_repr_data gd hr) rfl (fr_repr X G S) (by decide +kernel) (am_cons (em_call (callee_fn (mp := []) G_law_told gd (hr.mono (by decide)) B_law_told_0 (fun _ _ => rfl) tk) rfl (gl_law_told X G S) D_law_told.kp (am_cons (em_var (pv 6)) (am_nil))) (am_nil)))) (emA o_repr (pe_callB (call_repr_data gd hr) rfl (fr_repr X G S) (by decide +kernel) (am_cons (em_lc (go_name 10) (by decide) (pe_lc (own := [("_law_part", 10)]) rfl sc.nd (r_it (em_var (pv 1))) (blkOk (by kernel_rfl)) (by intro s0 H0 C0 cl0 fp0; exact pg_name sc.nd rfl (by first | exact Or.inl rfl | exact Or.inr rfl)) (by intro s0 H0 C0 cl0 fp0; exact tm_yes) (by intro s0 H0 C0 cl0 fp0; exact r_ix (hu_of hr) (em_var (pv 5)) (em_var (pv 10))))) (am_nil)))) (nomark _)) (snd2 o_ne)) (tm_or (r_neT (clss_ok S) (x1 S) (eqFB_ok (x2 S)) (calleeD_fn G_Waking_eq gd (hr.mono (by decide)) B_Waking_eq_0 rfl tk) (hu_of hr) (em_var (pv 6)) (em_var (pv 7))) (tm_or1 (r_eqT (clss_ok S) (x1 S) (eqFB_ok (x2 S)) (calleeD_fn G_Waking_eq gd (hr.mono (by decide)) B_Waking_eq_0 rfl tk) (hu_of hr) (em_var (pv 6)) (r_ix (hu_of hr) (em_var (pv 5)) (em_str pe_str))))))) (sm_one (by exact sm_ret (em_bl pe_bl))) (sm_nil)) (sm_cons (by exact sm_set (ps_set (i := 8) sc.nd rfl (by first | exact Or.inl rfl | exact Or.inr rfl) (em_call (callee_make (mp := [.str "own", .bl false]) rfl (He.mkr_ok (x0 S)) G_Waking_init gd (hr.mono (by decide)) B_Waking_init_2 (fun _ _ => ⟨_, _, rfl, rfl, ⟨_, _, rfl, rfl, rfl⟩⟩) tk) rfl (gl_Waking X G S) (He.mkr_ok (x0 S)).kp (am_cons (r_ix (hu_of hr) (em_var (pv 5)) (em_str pe_str)) (am_cons (r_ix (hu_of hr) (em_var (pv 5)) (em_str pe_str)) (am_cons (r_ix (hu_of hr) (em_var (pv 5)) (em_str pe_str)) (am_nil))))))) (sm_cons (by exact sm_if (tm_cmp (pt_cmpR (op_neD hr.units) (emA o_repr (pe_callB (call_repr_data gd hr) rfl (fr_repr X G S) (by decide +kernel) (am_cons (em_call (callee_fn (mp := []) G_law_told gd (hr.mono (by decide)) B_law_told_0 (fun _ _ => rfl) tk) rfl (gl_law_told X G S) D_law_told.kp (am_cons (em_var (pv 8)) (am_nil))) (am_nil)))) (emA o_repr (pe_callB (call_repr_data gd hr) rfl (fr_repr X G S) (by decide +kernel) (am_cons (em2 o_add (pe_op op_addU (em_lc (go_name 10) (by decide) (pe_lc (own := [("_law_part", 10)]) rfl sc.nd (r_it (em_sl (pe_slice sl_list (em_var (pv 1)) (om_none) (om_some (em_int pe_int))))) (blkOk (by kernel_rfl)) (by intro s0 H0 C0 cl0 fp0; exact pg_name sc.nd rfl (by first | exact Or.inl rfl | exact Or.inr rfl)) (by intro s0 H0 C0 cl0 fp0; exact tm_yes) (by intro s0 H0 C0 cl0 fp0; exact r_ix (hu_of hr) (em_var (pv 5)) (em_var (pv 10))))) (em_lst (am_cons (em_str pe_str) (am_cons (em_bl pe_bl) (am_nil)))))) (am_nil)))) (nomark _)) (snd2 o_ne)) (sm_one (by exact sm_ret (em_bl pe_bl))) (sm_nil)) (sm_cons (by exact sm_if (tm_cmp (pt_cmpR (op_neD hr.units) (r_eqE (clss_ok S) (x1 S) (eqFB_ok (x2 S)) (calleeD_fn G_Waking_eq gd (hr.mono (by decide)) B_Waking_eq_0 rfl tk) (hu_of hr) (em_var (pv 6)) (em_var (pv 8))) (em_and (em2 o_eq (pe_cmpR (op_eqD hr.units) (r_ix (hu_of hr) (em_var (pv 5)) (em_str pe_str)) (em_str pe_str) (nomark _))) (em_one (em_not (r_ix (hu_of hr) (em_var (pv 5)) (em_str pe_str))))) (nomark _)) (snd2 o_ne)) (sm_one (by exact sm_ret (em_bl pe_bl))) (sm_nil)) (sm_one (by exact r_for hp rfl (im_enum (pi_enum rfl (fr_enumerate X G S) (am_cons (em_var (pv 1)) (am_nil)))) (pg_tup rfl (pgs_cons (pg_name sc.nd rfl (by first | exact Or.inl rfl | exact Or.inr rfl)) (pgs_cons (pg_name sc.nd rfl (by first | exact Or.inl rfl | exact Or.inr rfl)) (pgs_nil)))) (go_tup [9, 10]) (sm_cons (by exact r_for hp rfl (r_it (em_lc (go_name 11) (by decide) (pe_lc (own := [("_law_value", 11)]) rfl sc.nd (r_it (r_ix (hu_of hr) (em_var (pv 4)) (em_var (pv 9)))) (blkOk (by kernel_rfl)) (by intro s0 H0 C0 cl0 fp0; exact pg_name sc.nd rfl (by first | exact Or.inl rfl | exact Or.inr rfl)) (by intro s0 H0 C0 cl0 fp0; exact tm_if1 (tm_cmp (pt_cmpR (op_neD hr.units) (em_var (pv 11)) (r_ix (hu_of hr) (em_var (pv 5)) (em_var (pv 10))) (nomark _)) (snd2 o_ne))) (by intro s0 H0 C0 cl0 fp0; exact em_var (pv 11))))) (pg_name sc.nd rfl (by first | exact Or.inl rfl | exact Or.inr rfl)) (go_name 11) (sm_cons (by exact sm_set (ps_set (i := 13) sc.nd rfl (by first | exact Or.inl rfl | exact Or.inr rfl) (emA o_dictPC (pe_callTy (call_dictP rfl) rfl (fr_dict X G S) (by decide +kernel) (am_cons (em_lc (go_name 15) (by decide) (pe_lc (own := [("_law_name", 15)]) rfl sc.nd (r_it (em_var (pv 1))) (blkOk (by kernel_rfl)) (by intro s0 H0 C0 cl0 fp0; exact pg_name sc.nd rfl (by first | exact Or.inl rfl | exact Or.inr rfl)) (by intro s0 H0 C0 cl0 fp0; exact tm_yes) (by intro s0 H0 C0 cl0 fp0; exact em_tup (am_cons (em_var (pv 15)) (am_cons (r_ix (hu_of hr) (em_var (pv 5)) (em_var (pv 15))) (am_nil)))))) (am_nil)))))) (sm_cons (by exact r_stI (hu_of hr) (em_var (pv 13)) (em_var (pv 10)) (em_var (pv 11))) (sm_one (by exact sm_if (r_eqT (clss_ok S) (x1 S) (eqFB_ok (x2 S)) (calleeD_fn G_Waking_eq gd (hr.mono (by decide)) B_Waking_eq_0 rfl tk) (hu_of hr) (r_callK (callee_make (mp := []) rfl (He.mkr_ok (x0 S)) G_Waking_init gd (hr.mono (by decide)) B_Waking_init_0 (fun _ _ => rfl) tk) rfl (gl_Waking X G S) (He.mkr_ok (x0 S)).kp (am_cons (r_ix (hu_of hr) (em_var (pv 13)) (em_str pe_str)) (am_cons (r_ix (hu_of hr) (em_var (pv 13)) (em_str pe_str)) (am_cons (r_ix (hu_of hr) (em_var (pv 13)) (em_str pe_str)) (am_nil)))) (km_cons (r_ix (hu_of hr) (em_var (pv 13)) (em_str pe_str)) (km_cons (r_ix (hu_of hr) (em_var (pv 13)) (em_str pe_str)) (km_nil)))) (em_var (pv 6))) (sm_one (by exact sm_ret (em_bl pe_bl))) (sm_nil)))))) (sm_one (by exact r_for hp rfl (r_it (em_call (callee_fn (mp := []) G_law_odds gd (hr.mono (by decide)) B_law_odds_0 (fun _ _ => rfl) tk) rfl (gl_law_odds X G S) D_law_odds.kp (am_cons (em_var (pv 10)) (am_nil)))) (pg_name sc.nd rfl (by first | exact Or.inl rfl | exact Or.inr rfl)) (go_name 12) (sm_cons (by exact sm_set (ps_set (i := 13) sc.nd rfl (by first | exact Or.inl rfl | exact Or.inr rfl) (emA o_dictPC (pe_callTy (call_dictP rfl) rfl (fr_dict X G S) (by decide +kernel) (am_cons (em_lc (go_name 15) (by decide) (pe_lc (own := [("_law_name", 15)]) rfl sc.nd (r_it (em_var (pv 1))) (blkOk (by kernel_rfl)) (by intro s0 H0 C0 cl0 fp0; exact pg_name sc.nd rfl (by first | exact Or.inl rfl | exact Or.inr rfl)) (by intro s0 H0 C0 cl0 fp0; exact tm_yes) (by intro s0 H0 C0 cl0 fp0; exact em_tup (am_cons (em_var (pv 15)) (am_cons (r_ix (hu_of hr) (em_var (pv 5)) (em_var (pv 15))) (am_nil)))))) (am_nil)))))) (sm_cons (by exact r_stI (hu_of hr) (em_var (pv 13)) (em_var (pv 10)) (em_var (pv 12))) (sm_cons (by exact sm_if (tm_cmp (pt_cmpR (op_neD hr.units) (em_call (callee_fn (mp := []) G_law_tried gd (hr.mono (by decide)) B_law_tried_0 (fun _ _ => rfl) tk) rfl (gl_law_tried X G S) D_law_tried.kp (am_cons (em_var (pv 13)) (am_nil))) (em_lst (am_cons (em_var (pv 10)) (am_cons (em_bl pe_bl) (am_nil)))) (nomark _)) (snd2 o_ne)) (sm_one (by exact sm_ret (em_bl pe_bl))) (sm_nil)) (sm_cons (by exact sm_set (ps_set (i := 14) sc.nd rfl (by first | exact Or.inl rfl | exact Or.inr rfl) (em_call (callee_fn (mp := []) G_law_pick gd (hr.mono (by decide)) B_law_pick_0 (fun _ _ => rfl) tk) rfl (gl_law_pick X G S) D_law_pick.kp (am_cons (em_var (pv 3)) (am_cons (em_sl (pe_slice sl_list (em_var (pv 1)) (om_some (em_var (pv 9))) (om_none))) (am_nil)))))) (sm_cons (by exact sm_if (tm_cmp (pt_cmpR (op_neD hr.units) (em_var (pv 14)) (em_var (pv 10)) (nomark _)) (snd2 o_ne)) (sm_one (by exact r_stI (hu_of hr) (em_var (pv 13)) (em_var (pv 14)) (em_call (callee_fn (mp := []) G_law_pick gd (hr.mono (by decide)) B_law_pick_0 (fun _ _ => rfl) tk) rfl (gl_law_pick X G S) D_law_pick.kp (am_cons (em_var (pv 3)) (am_cons (em_call (callee_fn (mp := []) G_law_odds gd (hr.mono (by decide)) B_law_odds_0 (fun _ _ => rfl) tk) rfl (gl_law_odds X G S) D_law_odds.kp (am_cons (em_var (pv 14)) (am_nil))) (am_nil)))))) (sm_nil)) (sm_one (by exact sm_if (tm_cmp (pt_cmpR (op_neD hr.units) (em_call (callee_fn (mp := []) G_law_tried gd (hr.mono (by decide)) B_law_tried_0 (fun _ _ => rfl) tk) rfl (gl_law_tried X G S) D_law_tried.kp (am_cons (em_var (pv 13)) (am_nil))) (em_lst (am_cons (em_var (pv 10)) (am_cons (em_bl pe_bl) (am_nil)))) (nomark _)) (snd2 o_ne)) (sm_one (by exact sm_ret (em_bl pe_bl))) (sm_nil)))))))))))))))))))))))) (sm_one (by exact sm_ret (em_bl pe_bl))))
end
end K04

namespace K04
open PySem PySem.Spec PyProof.Rows L2 Mi
/-! ### the head, the end -/
abbrev R : PySem.W.OpenRow := PySem.W.OpenLaw.row PySem.Challenge.rw_answerpiles_k04_wakings_told
abbrev hk : PySem.W.Hook := hookM 5 fa fn ex
def ob (s : PySem.W.SharedT) : AlM := obsM 5 fa fn ex (HandSHeadRun.getT s)
theorem ob_eq (s : PySem.W.SharedT) : ob s = hk.obs s.abs := obsM_eq (HandSHeadRun.getT_eq s)
def loo : List Str := ["PileError", "BadWaking", "LETTERS", "EVENTS", "is_word", "is_one_of", "Waking", "_law_numbers", "_law_opened", "_law_draw", "_law_pick", "_law_odds", "_law_tried", "_law_told"]
theorem run (w : World) : HandSHeadRun.RunEq R (PySem.W.view R.prog [17]) hk ob 20000 loo w := by
  intro os
  kernel_rfl
theorem end_of (pure_ : ∀ ns : List Int, ns.length ≤ 63 → ∃ h, r_law [.scr ns] ⟨0, []⟩ = .ok (.bl true) h) : (PySem.Challenge.rw_answerpiles_k04_wakings_told).Holds := by
  w_on; o_law
  refine HandSHeadRun.head_any (r := PySem.W.OpenLaw.row PySem.Challenge.rw_answerpiles_k04_wakings_told) (q := PySem.W.view (PySem.W.OpenLaw.row PySem.Challenge.rw_answerpiles_k04_wakings_told).prog [17]) (H := hk) (ob := ob) (M := 20000) (loose := loo) (d := HandSHeadRun.topDef (PySem.W.OpenLaw.row PySem.Challenge.rw_answerpiles_k04_wakings_told).prog 17) (kwd := []) ob_eq
    (by kernel_rfl) (fun s => by kernel_rfl) run (by kernel_rfl) (by kernel_rfl) (by kernel_rfl) (by rfl) (by first | assumption | decide +kernel) (by decide +kernel) ⟨rfl, rfl, rfl, rfl, rfl, by decide +kernel⟩ ?hw ?hc
  case hw => w_witness2
  case hc =>
    refine walkG (l := PySem.Challenge.rw_answerpiles_k04_wakings_told) (n := 63) (k := 6) (x := "_law_script") (run := r_law) rfl (by decide) (by kernel_rfl) ⟨rfl, by decide, by decide⟩ pure_ ?_
    intro w mg fl h Y G hmg0
    obtain ⟨K, KX, S⟩ := Y
    have hmg : mg ("law" : PySem.Str) = some (.ref fl) := by
      have e : (HandSHeadRun.topDef (PySem.W.OpenLaw.row PySem.Challenge.rw_answerpiles_k04_wakings_told).prog 17).name = ("law" : PySem.Str) := by kernel_rfl
      rw [← e]
      exact hmg0
    have e := hmg.symm.trans (gl_law (w := w) KX G S)
    cases e
    obtain ⟨fd, D⟩ := S.d.def_ 13 (d := d_law) rfl
    have b := FunD.bindsA (ps := ["_law_script"]) D fun _ _ _ _ _ _ us hl => match us, hl with | [_], _ => rfl
    refine ⟨K, fd, wd K, rfl, rfl, KX, fun s u => b s [u] rfl, fun base _ _ => ?_⟩
    obtain ⟨fd', F, D'⟩ := ok_law (P := (PySem.Challenge.rw_answerpiles_k04_wakings_told).prog) (w := w) (base := base) KX G S
    obtain rfl : fd' = fd := DD_same D' D
    exact F
end K04

namespace K04
open PySem PySem.Spec PyProof.Rows L2 Mi
def WF (h : MH) : Prop := ∀ q ∈ h.cs, q.1 < h.nx
def gc (h : MH) : MH := ⟨h.nx, h.cs.filter fun q => q.1 < h.nx⟩
theorem gc_wf {h : MH} (w : WF h) : gc h = h := by
  unfold gc
  rw [List.filter_eq_self.mpr fun q m => decide_eq_true (w q m)]
theorem wf_new {n : Nat} {cs : Cs} {k : Cell} (w : WF ⟨n, cs⟩) : WF ⟨n + 1, (n, k) :: cs⟩ := by
  intro q m
  rcases List.mem_cons.mp m with e | m
  · rw [e]; exact Nat.lt_succ_self _
  · exact Nat.lt_succ_of_lt (w q m)
theorem wf_up {n : Nat} {cs : Cs} (w : WF ⟨n, cs⟩) : WF ⟨n + 1, cs⟩ := fun q m => Nat.lt_succ_of_lt (w q m)
theorem filt {n : Nat} {cs : Cs} (w : WF ⟨n, cs⟩) : (cs.filter fun q => decide (q.1 < n)) = cs := List.filter_eq_self.mpr fun q m => decide_eq_true (w q m)
theorem delc_wf {n : Nat} : ∀ {cs : Cs}, WF ⟨n, cs⟩ → delc cs n = cs
  | [], _ => rfl
  | (j, k) :: r, w => by
    have hj : j < n := w (j, k) (List.mem_cons_self ..)
    simp only [delc]
    rw [if_neg (by omega), delc_wf (cs := r) (n := n) fun q m => w q (List.mem_cons_of_mem _ m)]
abbrev EV : PV := .tup [.str "laid", .str "done", .str "struck", .str "instead"]
abbrev BY : PV := .tup [.str "own", .str "next"]
def VE (p : PV) (b : Bool) : Prop := ∀ h, r_is_one_of [p, EV] h = .ok (.bl b) (gc h)
def VB (p : PV) (b : Bool) : Prop := ∀ h, r_is_one_of [p, BY] h = .ok (.bl b) (gc h)
def VW (p : PV) (b : Bool) : Prop := ∀ h, r_is_word [p] h = .ok (.bl b) (gc h)
def VM (p : PV) (b : Bool) : Prop := ∃ t, (∀ h, tagP p h = some t) ∧ tblOf is_bool t = some b
def menuE : List PV := [.str "laid", .str "done", .str "struck", .str "instead"]
def menuD : List PV := [.str "a", .str "bb", .str "goal", .str "abcdefgh"]
def menuC : List PV := [.str "a", .str "bb", .str "abcdefgh"]
def menuB : List PV := [.str "own", .str "next"]
def menuM : List PV := [.bl true, .bl false]
def oddE : List PV := [.non, .str "", .str "Laid", .str "passed", .int 5, .tup [.str "laid"], .lst [.str "done"], .bl true]
def oddW : List PV := [.non, .str "", .str "A", .str "abcdefghi", .int 5, .tup [.str "a"], .lst [.str "a"], .bl true, .str "a b"]
def oddB : List PV := [.non, .str "", .str "Own", .str "other", .int 0, .tup [.str "own"], .lst [.str "next"], .bl true]
def oddM : List PV := [.non, .int 0, .int 1, .str "may", .str "must", .lst [], .tup []]
theorem goodE : ∀ p ∈ menuE, VE p true := by
  intro p hp
  simp only [menuE, List.mem_cons, List.not_mem_nil, or_false] at hp
  rcases hp with rfl | rfl | rfl | rfl <;> (intro h; kernel_rfl)
theorem goodD : ∀ p ∈ menuD, VW p true := by
  intro p hp
  simp only [menuD, List.mem_cons, List.not_mem_nil, or_false] at hp
  rcases hp with rfl | rfl | rfl | rfl <;> (intro h; kernel_rfl)
theorem goodC : ∀ p ∈ menuC, VW p true := by
  intro p hp
  simp only [menuC, List.mem_cons, List.not_mem_nil, or_false] at hp
  rcases hp with rfl | rfl | rfl <;> (intro h; kernel_rfl)
theorem goodB : ∀ p ∈ menuB, VB p true := by
  intro p hp
  simp only [menuB, List.mem_cons, List.not_mem_nil, or_false] at hp
  rcases hp with rfl | rfl <;> (intro h; kernel_rfl)
theorem goodM : ∀ p ∈ menuM, VM p true := by
  intro p hp
  simp only [menuM, List.mem_cons, List.not_mem_nil, or_false] at hp
  rcases hp with rfl | rfl <;> exact ⟨.ty "bool", fun _ => rfl, by decide +kernel⟩
theorem badE : ∀ p ∈ oddE, VE p false := by
  intro p hp
  simp only [oddE, List.mem_cons, List.not_mem_nil, or_false] at hp
  rcases hp with rfl | rfl | rfl | rfl | rfl | rfl | rfl | rfl <;> (intro h; kernel_rfl)
theorem badW : ∀ p ∈ oddW, VW p false := by
  intro p hp
  simp only [oddW, List.mem_cons, List.not_mem_nil, or_false] at hp
  rcases hp with rfl | rfl | rfl | rfl | rfl | rfl | rfl | rfl | rfl <;> (intro h; kernel_rfl)
theorem badB : ∀ p ∈ oddB, VB p false := by
  intro p hp
  simp only [oddB, List.mem_cons, List.not_mem_nil, or_false] at hp
  rcases hp with rfl | rfl | rfl | rfl | rfl | rfl | rfl | rfl <;> (intro h; kernel_rfl)
theorem badM : ∀ p ∈ oddM, VM p false := by
  intro p hp
  simp only [oddM, List.mem_cons, List.not_mem_nil, or_false] at hp
  rcases hp with rfl | rfl | rfl | rfl | rfl | rfl | rfl
  · exact ⟨.ty "NoneType", fun _ => rfl, by decide +kernel⟩
  · exact ⟨.ty "int", fun _ => rfl, by decide +kernel⟩
  · exact ⟨.ty "int", fun _ => rfl, by decide +kernel⟩
  · exact ⟨.ty "str", fun _ => rfl, by decide +kernel⟩
  · exact ⟨.ty "str", fun _ => rfl, by decide +kernel⟩
  · exact ⟨.ty "list", fun _ => rfl, by decide +kernel⟩
  · exact ⟨.ty "tuple", fun _ => rfl, by decide +kernel⟩
def flds (a b c d e : PV) : List (Str × PV) := [("event", a), ("deed", b), ("call", c), ("by", d), ("may", e)]
def wrong (b1 b2 b3 b4 : Bool) : PV := if b1 = false then .str "event" else if b2 = false then .str "deed" else if b3 = false then .str "call" else if b4 = false then .str "by" else .str "may"
section
variable {p1 p2 p3 p4 p5 : PV} {b1 b2 b3 b4 b5 : Bool} {n : Nat} {cs : Cs}
theorem init_loop (v1 : VE p1 b1) (v2 : VW p2 b2) (v3 : VW p3 b3) (v4 : VB p4 b4) (v5 : VM p5 b5) (w : WF ⟨n, cs⟩) :
    r_Waking_init [.ref n, p1, p2, p3, p4, p5] ⟨n + 1, (n, .obj "Waking" []) :: cs⟩ =
      if (b1 && (b2 && (b3 && (b4 && b5)))) = true then .ok .non ⟨n + 1, (n, .obj "Waking" (flds p1 p2 p3 p4 p5)) :: cs⟩ else .exc "BadWaking" [("part", wrong b1 b2 b3 b4)] ⟨n + 1, (n, .obj "Waking" []) :: cs⟩ := by
  have w1 := wf_new (k := .obj "Waking" []) w
  have w2 := wf_new (k := .obj "Waking" (flds p1 p2 p3 p4 p5)) w
  have e1 : r_is_one_of (pick [0, 1] ([p1, EV] ++ ([] ++ []))) ⟨n + 1, (n, .obj "Waking" []) :: cs⟩ = _ := v1 ⟨n + 1, (n, .obj "Waking" []) :: cs⟩
  have e2 : r_is_word (pick [0] ([p2] ++ ([] ++ []))) ⟨n + 1, (n, .obj "Waking" []) :: cs⟩ = _ := v2 ⟨n + 1, (n, .obj "Waking" []) :: cs⟩
  have e3 : r_is_word (pick [0] ([p3] ++ ([] ++ []))) ⟨n + 1, (n, .obj "Waking" []) :: cs⟩ = _ := v3 ⟨n + 1, (n, .obj "Waking" []) :: cs⟩
  have e4 : r_is_one_of (pick [0, 1] ([p4, BY] ++ ([] ++ []))) ⟨n + 1, (n, .obj "Waking" []) :: cs⟩ = _ := v4 ⟨n + 1, (n, .obj "Waking" []) :: cs⟩
  obtain ⟨t5, e5, e6⟩ := v5
  rw [gc_wf w1] at e1 e2 e3 e4
  have k1 := filt w1
  have k2 := filt w2
  cases b1 with
  | false =>
    refine ev_runB [some (.ref n), some p1, some p2, some p3, some p4, some p5, none, none, none] rfl rfl (by unfold m_Waking_init; repeat (first | with_reducible exact app_n | with_reducible exact ev_c | with_reducible exact ev_nil | with_reducible exact ev_nx | with_reducible exact ev_yes | with_reducible exact ev_moN | with_reducible exact ev_lcN | with_reducible exact ev_forN | with_reducible exact k_rt | with_reducible exact k_xc | with_reducible exact f_rt | with_reducible exact f_xc | with_reducible exact t_xc | with_reducible apply ev_add | with_reducible apply app_c | with_reducible apply ev_cons | with_reducible apply ev_tup | with_reducible apply ev_lst | with_reducible apply ev_lstC | with_reducible apply ev_b1 | with_reducible apply ev_b2 | with_reducible apply ev_ba | with_reducible apply ev_call | with_reducible apply ev_callK | with_reducible apply ev_fld | with_reducible apply ev_meth | with_reducible apply ev_is | with_reducible apply ev_and | with_reducible apply ev_notV | with_reducible apply ev_if | with_reducible apply ev_tst | with_reducible apply ev_tru | with_reducible apply ev_not | with_reducible apply ev_tand | with_reducible apply ev_tor | with_reducible apply ev_sl | with_reducible apply ev_moS | with_reducible apply ev_lc | with_reducible apply ev_iter | with_reducible apply ev_enum | with_reducible apply ev_rng1 | with_reducible apply ev_eqO | with_reducible apply ev_seq' | with_reducible apply ev_set | with_reducible apply ev_ret | with_reducible apply ev_exp' | with_reducible apply ev_ifs | with_reducible apply ev_for | with_reducible apply ev_for' | with_reducible apply ev_stFh | with_reducible apply ev_stI | with_reducible apply ev_raise | with_reducible apply ev_xf | with_reducible apply ev_isX | with_reducible apply k_nx | with_reducible apply f_nx | with_reducible apply t_ok | with_reducible apply ev_var | with_reducible exact e1 | with_reducible exact e2 | with_reducible exact e3 | with_reducible exact e4 | with_reducible exact (e5 _) | with_reducible exact e6 | exact Nat.le_of_ble_eq_true rfl | ((with_reducible apply if_t); focus (exact rfl)) | ((with_reducible apply if_f); focus decide) | exact ⟨rfl, rfl⟩ | exact rfl)) ?_
    simp [endR, k1, wrong]
  | true =>
    cases b2 with
    | false =>
      refine ev_runB [some (.ref n), some p1, some p2, some p3, some p4, some p5, none, none, none] rfl rfl (by unfold m_Waking_init; repeat (first | with_reducible exact app_n | with_reducible exact ev_c | with_reducible exact ev_nil | with_reducible exact ev_nx | with_reducible exact ev_yes | with_reducible exact ev_moN | with_reducible exact ev_lcN | with_reducible exact ev_forN | with_reducible exact k_rt | with_reducible exact k_xc | with_reducible exact f_rt | with_reducible exact f_xc | with_reducible exact t_xc | with_reducible apply ev_add | with_reducible apply app_c | with_reducible apply ev_cons | with_reducible apply ev_tup | with_reducible apply ev_lst | with_reducible apply ev_lstC | with_reducible apply ev_b1 | with_reducible apply ev_b2 | with_reducible apply ev_ba | with_reducible apply ev_call | with_reducible apply ev_callK | with_reducible apply ev_fld | with_reducible apply ev_meth | with_reducible apply ev_is | with_reducible apply ev_and | with_reducible apply ev_notV | with_reducible apply ev_if | with_reducible apply ev_tst | with_reducible apply ev_tru | with_reducible apply ev_not | with_reducible apply ev_tand | with_reducible apply ev_tor | with_reducible apply ev_sl | with_reducible apply ev_moS | with_reducible apply ev_lc | with_reducible apply ev_iter | with_reducible apply ev_enum | with_reducible apply ev_rng1 | with_reducible apply ev_eqO | with_reducible apply ev_seq' | with_reducible apply ev_set | with_reducible apply ev_ret | with_reducible apply ev_exp' | with_reducible apply ev_ifs | with_reducible apply ev_for | with_reducible apply ev_for' | with_reducible apply ev_stFh | with_reducible apply ev_stI | with_reducible apply ev_raise | with_reducible apply ev_xf | with_reducible apply ev_isX | with_reducible apply k_nx | with_reducible apply f_nx | with_reducible apply t_ok | with_reducible apply ev_var | with_reducible exact e1 | with_reducible exact e2 | with_reducible exact e3 | with_reducible exact e4 | with_reducible exact (e5 _) | with_reducible exact e6 | exact Nat.le_of_ble_eq_true rfl | ((with_reducible apply if_t); focus (exact rfl)) | ((with_reducible apply if_f); focus decide) | exact ⟨rfl, rfl⟩ | exact rfl)) ?_
      simp [endR, k1, wrong]
    | true =>
      cases b3 with
      | false =>
        refine ev_runB [some (.ref n), some p1, some p2, some p3, some p4, some p5, none, none, none] rfl rfl (by unfold m_Waking_init; repeat (first | with_reducible exact app_n | with_reducible exact ev_c | with_reducible exact ev_nil | with_reducible exact ev_nx | with_reducible exact ev_yes | with_reducible exact ev_moN | with_reducible exact ev_lcN | with_reducible exact ev_forN | with_reducible exact k_rt | with_reducible exact k_xc | with_reducible exact f_rt | with_reducible exact f_xc | with_reducible exact t_xc | with_reducible apply ev_add | with_reducible apply app_c | with_reducible apply ev_cons | with_reducible apply ev_tup | with_reducible apply ev_lst | with_reducible apply ev_lstC | with_reducible apply ev_b1 | with_reducible apply ev_b2 | with_reducible apply ev_ba | with_reducible apply ev_call | with_reducible apply ev_callK | with_reducible apply ev_fld | with_reducible apply ev_meth | with_reducible apply ev_is | with_reducible apply ev_and | with_reducible apply ev_notV | with_reducible apply ev_if | with_reducible apply ev_tst | with_reducible apply ev_tru | with_reducible apply ev_not | with_reducible apply ev_tand | with_reducible apply ev_tor | with_reducible apply ev_sl | with_reducible apply ev_moS | with_reducible apply ev_lc | with_reducible apply ev_iter | with_reducible apply ev_enum | with_reducible apply ev_rng1 | with_reducible apply ev_eqO | with_reducible apply ev_seq' | with_reducible apply ev_set | with_reducible apply ev_ret | with_reducible apply ev_exp' | with_reducible apply ev_ifs | with_reducible apply ev_for | with_reducible apply ev_for' | with_reducible apply ev_stFh | with_reducible apply ev_stI | with_reducible apply ev_raise | with_reducible apply ev_xf | with_reducible apply ev_isX | with_reducible apply k_nx | with_reducible apply f_nx | with_reducible apply t_ok | with_reducible apply ev_var | with_reducible exact e1 | with_reducible exact e2 | with_reducible exact e3 | with_reducible exact e4 | with_reducible exact (e5 _) | with_reducible exact e6 | exact Nat.le_of_ble_eq_true rfl | ((with_reducible apply if_t); focus (exact rfl)) | ((with_reducible apply if_f); focus decide) | exact ⟨rfl, rfl⟩ | exact rfl)) ?_
        simp [endR, k1, wrong]
      | true =>
        cases b4 with
        | false =>
          refine ev_runB [some (.ref n), some p1, some p2, some p3, some p4, some p5, none, none, none] rfl rfl (by unfold m_Waking_init; repeat (first | with_reducible exact app_n | with_reducible exact ev_c | with_reducible exact ev_nil | with_reducible exact ev_nx | with_reducible exact ev_yes | with_reducible exact ev_moN | with_reducible exact ev_lcN | with_reducible exact ev_forN | with_reducible exact k_rt | with_reducible exact k_xc | with_reducible exact f_rt | with_reducible exact f_xc | with_reducible exact t_xc | with_reducible apply ev_add | with_reducible apply app_c | with_reducible apply ev_cons | with_reducible apply ev_tup | with_reducible apply ev_lst | with_reducible apply ev_lstC | with_reducible apply ev_b1 | with_reducible apply ev_b2 | with_reducible apply ev_ba | with_reducible apply ev_call | with_reducible apply ev_callK | with_reducible apply ev_fld | with_reducible apply ev_meth | with_reducible apply ev_is | with_reducible apply ev_and | with_reducible apply ev_notV | with_reducible apply ev_if | with_reducible apply ev_tst | with_reducible apply ev_tru | with_reducible apply ev_not | with_reducible apply ev_tand | with_reducible apply ev_tor | with_reducible apply ev_sl | with_reducible apply ev_moS | with_reducible apply ev_lc | with_reducible apply ev_iter | with_reducible apply ev_enum | with_reducible apply ev_rng1 | with_reducible apply ev_eqO | with_reducible apply ev_seq' | with_reducible apply ev_set | with_reducible apply ev_ret | with_reducible apply ev_exp' | with_reducible apply ev_ifs | with_reducible apply ev_for | with_reducible apply ev_for' | with_reducible apply ev_stFh | with_reducible apply ev_stI | with_reducible apply ev_raise | with_reducible apply ev_xf | with_reducible apply ev_isX | with_reducible apply k_nx | with_reducible apply f_nx | with_reducible apply t_ok | with_reducible apply ev_var | with_reducible exact e1 | with_reducible exact e2 | with_reducible exact e3 | with_reducible exact e4 | with_reducible exact (e5 _) | with_reducible exact e6 | exact Nat.le_of_ble_eq_true rfl | ((with_reducible apply if_t); focus (exact rfl)) | ((with_reducible apply if_f); focus decide) | exact ⟨rfl, rfl⟩ | exact rfl)) ?_
          simp [endR, k1, wrong]
        | true =>
          cases b5 with
          | false =>
            refine ev_runB [some (.ref n), some p1, some p2, some p3, some p4, some p5, none, none, none] rfl rfl (by unfold m_Waking_init; repeat (first | with_reducible exact app_n | with_reducible exact ev_c | with_reducible exact ev_nil | with_reducible exact ev_nx | with_reducible exact ev_yes | with_reducible exact ev_moN | with_reducible exact ev_lcN | with_reducible exact ev_forN | with_reducible exact k_rt | with_reducible exact k_xc | with_reducible exact f_rt | with_reducible exact f_xc | with_reducible exact t_xc | with_reducible apply ev_add | with_reducible apply app_c | with_reducible apply ev_cons | with_reducible apply ev_tup | with_reducible apply ev_lst | with_reducible apply ev_lstC | with_reducible apply ev_b1 | with_reducible apply ev_b2 | with_reducible apply ev_ba | with_reducible apply ev_call | with_reducible apply ev_callK | with_reducible apply ev_fld | with_reducible apply ev_meth | with_reducible apply ev_is | with_reducible apply ev_and | with_reducible apply ev_notV | with_reducible apply ev_if | with_reducible apply ev_tst | with_reducible apply ev_tru | with_reducible apply ev_not | with_reducible apply ev_tand | with_reducible apply ev_tor | with_reducible apply ev_sl | with_reducible apply ev_moS | with_reducible apply ev_lc | with_reducible apply ev_iter | with_reducible apply ev_enum | with_reducible apply ev_rng1 | with_reducible apply ev_eqO | with_reducible apply ev_seq' | with_reducible apply ev_set | with_reducible apply ev_ret | with_reducible apply ev_exp' | with_reducible apply ev_ifs | with_reducible apply ev_for | with_reducible apply ev_for' | with_reducible apply ev_stFh | with_reducible apply ev_stI | with_reducible apply ev_raise | with_reducible apply ev_xf | with_reducible apply ev_isX | with_reducible apply k_nx | with_reducible apply f_nx | with_reducible apply t_ok | with_reducible apply ev_var | with_reducible exact e1 | with_reducible exact e2 | with_reducible exact e3 | with_reducible exact e4 | with_reducible exact (e5 _) | with_reducible exact e6 | exact Nat.le_of_ble_eq_true rfl | ((with_reducible apply if_t); focus (exact rfl)) | ((with_reducible apply if_f); focus decide) | exact ⟨rfl, rfl⟩ | exact rfl)) ?_
            simp [endR, k1, wrong]
          | true =>
            refine ev_runB [some (.ref n), some p1, some p2, some p3, some p4, some p5, none, none, none] rfl rfl (by unfold m_Waking_init; repeat (first | with_reducible exact app_n | with_reducible exact ev_c | with_reducible exact ev_nil | with_reducible exact ev_nx | with_reducible exact ev_yes | with_reducible exact ev_moN | with_reducible exact ev_lcN | with_reducible exact ev_forN | with_reducible exact k_rt | with_reducible exact k_xc | with_reducible exact f_rt | with_reducible exact f_xc | with_reducible exact t_xc | with_reducible apply ev_add | with_reducible apply app_c | with_reducible apply ev_cons | with_reducible apply ev_tup | with_reducible apply ev_lst | with_reducible apply ev_lstC | with_reducible apply ev_b1 | with_reducible apply ev_b2 | with_reducible apply ev_ba | with_reducible apply ev_call | with_reducible apply ev_callK | with_reducible apply ev_fld | with_reducible apply ev_meth | with_reducible apply ev_is | with_reducible apply ev_and | with_reducible apply ev_notV | with_reducible apply ev_if | with_reducible apply ev_tst | with_reducible apply ev_tru | with_reducible apply ev_not | with_reducible apply ev_tand | with_reducible apply ev_tor | with_reducible apply ev_sl | with_reducible apply ev_moS | with_reducible apply ev_lc | with_reducible apply ev_iter | with_reducible apply ev_enum | with_reducible apply ev_rng1 | with_reducible apply ev_eqO | with_reducible apply ev_seq' | with_reducible apply ev_set | with_reducible apply ev_ret | with_reducible apply ev_exp' | with_reducible apply ev_ifs | with_reducible apply ev_for | with_reducible apply ev_for' | with_reducible apply ev_stFh | with_reducible apply ev_stI | with_reducible apply ev_raise | with_reducible apply ev_xf | with_reducible apply ev_isX | with_reducible apply k_nx | with_reducible apply f_nx | with_reducible apply t_ok | with_reducible apply ev_var | with_reducible exact e1 | with_reducible exact e2 | with_reducible exact e3 | with_reducible exact e4 | with_reducible exact (e5 _) | with_reducible exact e6 | exact Nat.le_of_ble_eq_true rfl | ((with_reducible apply if_t); focus (exact rfl)) | ((with_reducible apply if_f); focus decide) | exact ⟨rfl, rfl⟩ | exact rfl)) ?_
            have e : putFP "may" p5 (putFP "by" p4 (putFP "call" p3 (putFP "deed" p2 (putFP "event" p1 [])))) = flds p1 p2 p3 p4 p5 := rfl
            rw [e]
            simp [endR, k2]
end
end K04

namespace K04
open PySem PySem.Spec PyProof.Rows L2 Mi
section
variable {p1 p2 p3 p4 p5 : PV} {b1 b2 b3 b4 b5 : Bool} {n : Nat} {cs : Cs}
/-- what Waking(..) comes to -/
def made (b1 b2 b3 b4 b5 : Bool) (p1 p2 p3 p4 p5 : PV) (n : Nat) (cs : Cs) : Res PV :=
  if (b1 && (b2 && (b3 && (b4 && b5)))) = true then .ok (.obj "Waking" (flds p1 p2 p3 p4 p5)) ⟨n + 1, cs⟩ else .exc "BadWaking" [("part", wrong b1 b2 b3 b4)] ⟨n + 1, (n, .obj "Waking" []) :: cs⟩
theorem make0 (v1 : VE p1 b1) (v2 : VW p2 b2) (v3 : VW p3 b3) (v4 : VB p4 b4) (v5 : VM p5 b5) (w : WF ⟨n, cs⟩) :
    (r_Waking_init [.ref n, p1, p2, p3, p4, p5] ⟨n + 1, (n, .obj "Waking" []) :: cs⟩).bind (kMade n) = made b1 b2 b3 b4 b5 p1 p2 p3 p4 p5 n cs := by
  rw [init_loop v1 v2 v3 v4 v5 w]
  unfold made
  by_cases q : (b1 && (b2 && (b3 && (b4 && b5)))) = true
  · rw [if_pos q, if_pos q]
    simp only [Res.bind, kMade, fz, MH.get, look, if_true, frozen, MH.del, delc, delc_wf w]
  · rw [if_neg q, if_neg q]
    rfl
theorem make1 (v1 : VE p1 b1) (v2 : VW p2 b2) (v3 : VW p3 b3) (v4 : VB p4 b4) (v5 : VM p5 b5) (w : WF ⟨n, cs⟩) :
    runMake "Waking" r_Waking_init [0, 1, 2, 3, 4, 5] [] [p1, p2, p3] [p4, p5] ⟨n, cs⟩ = made b1 b2 b3 b4 b5 p1 p2 p3 p4 p5 n cs := make0 v1 v2 v3 v4 v5 w
theorem make2 (v1 : VE p1 b1) (v2 : VW p2 b2) (v3 : VW p3 b3) (v4 : VB p4 b4) (v5 : VM p5 b5) (w : WF ⟨n, cs⟩) :
    runMake "Waking" r_Waking_init [0, 4, 5, 3, 2, 1] [] [] [p5, p4, p3, p1, p2] ⟨n, cs⟩ = made b1 b2 b3 b4 b5 p1 p2 p3 p4 p5 n cs := make0 v1 v2 v3 v4 v5 w
theorem make3 (v1 : VE p1 b1) (v2 : VW p2 b2) (v3 : VW p3 b3) (w : WF ⟨n, cs⟩) :
    runMake "Waking" r_Waking_init [0, 1, 2, 3, 4, 5] [.str "own", .bl false] [p1, p2, p3] [] ⟨n, cs⟩ = made b1 b2 b3 true true p1 p2 p3 (.str "own") (.bl false) n cs :=
  make0 v1 v2 v3 (goodB _ (by simp [menuB])) (goodM _ (by simp [menuM])) w
theorem told_ok (w : WF ⟨n, cs⟩) : r_law_told (pick [0] ([.obj "Waking" (flds p1 p2 p3 p4 p5)] ++ ([] ++ []))) ⟨n, cs⟩ = .ok (.lst [p1, p2, p3, p4, p5]) ⟨n, cs⟩ := by
  show r_law_told [.obj "Waking" (flds p1 p2 p3 p4 p5)] ⟨n, cs⟩ = _
  unfold r_law_told
  refine ev_runB [some (.obj "Waking" (flds p1 p2 p3 p4 p5))] rfl rfl (by unfold m_law_told; repeat (first | with_reducible exact app_n | with_reducible exact ev_c | with_reducible exact ev_nil | with_reducible exact ev_nx | with_reducible exact ev_yes | with_reducible exact ev_moN | with_reducible exact ev_lcN | with_reducible exact ev_forN | with_reducible exact k_rt | with_reducible exact k_xc | with_reducible exact f_rt | with_reducible exact f_xc | with_reducible exact t_xc | with_reducible apply ev_cons | with_reducible apply ev_tup | with_reducible apply ev_lst | with_reducible apply ev_lstC | with_reducible apply ev_b1 | with_reducible apply ev_b2 | with_reducible apply ev_ba | with_reducible apply ev_call | with_reducible apply ev_callK | with_reducible apply ev_fld | with_reducible apply ev_meth | with_reducible apply ev_is | with_reducible apply ev_and | with_reducible apply ev_notV | with_reducible apply ev_if | with_reducible apply ev_tst | with_reducible apply ev_tru | with_reducible apply ev_not | with_reducible apply ev_tand | with_reducible apply ev_tor | with_reducible apply ev_sl | with_reducible apply ev_moS | with_reducible apply ev_lc | with_reducible apply ev_iter | with_reducible apply ev_enum | with_reducible apply ev_rng1 | with_reducible apply ev_eqO | with_reducible apply ev_seq' | with_reducible apply ev_set | with_reducible apply ev_ret | with_reducible apply ev_exp' | with_reducible apply ev_ifs | with_reducible apply ev_for | with_reducible apply ev_for' | with_reducible apply ev_stFh | with_reducible apply ev_stI | with_reducible apply ev_raise | with_reducible apply ev_xf | with_reducible apply ev_isX | with_reducible apply k_nx | with_reducible apply f_nx | with_reducible apply t_ok | with_reducible apply ev_var | exact Nat.le_of_ble_eq_true rfl | ((with_reducible apply if_t); focus (exact rfl)) | ((with_reducible apply if_f); focus decide) | exact ⟨rfl, rfl⟩ | exact rfl)) ?_
  simp [endR, filt w]
def dct5 (p1 p2 p3 p4 p5 : PV) : List (Key × PV) := [(.inr "event", p1), (.inr "deed", p2), (.inr "call", p3), (.inr "by", p4), (.inr "may", p5)]
theorem tried_ok {x : Nat} (v1 : VE p1 b1) (v2 : VW p2 b2) (v3 : VW p3 b3) (v4 : VB p4 b4) (v5 : VM p5 b5) (w : WF ⟨n, cs⟩) (cl : cleanH ⟨n, cs⟩ = true) (g : (⟨n, cs⟩ : MH).get x = some (.dct (dct5 p1 p2 p3 p4 p5))) (bad : (b1 && (b2 && (b3 && (b4 && b5)))) = false) :
    r_law_tried (pick [0] ([.ref x] ++ ([] ++ []))) ⟨n, cs⟩ = .ok (.lst [wrong b1 b2 b3 b4, .bl true]) ⟨n + 1, cs⟩ := by
  show r_law_tried [.ref x] ⟨n, cs⟩ = _
  have d1 : pIx (.ref x) (.str "event") ⟨n, cs⟩ = some (p1, ⟨n, cs⟩) := pIx_d g rfl rfl
  have d2 : pIx (.ref x) (.str "deed") ⟨n, cs⟩ = some (p2, ⟨n, cs⟩) := pIx_d g rfl rfl
  have d3 : pIx (.ref x) (.str "call") ⟨n, cs⟩ = some (p3, ⟨n, cs⟩) := pIx_d g rfl rfl
  have d4 : pIx (.ref x) (.str "by") ⟨n, cs⟩ = some (p4, ⟨n, cs⟩) := pIx_d g rfl rfl
  have d5 : pIx (.ref x) (.str "may") ⟨n, cs⟩ = some (p5, ⟨n, cs⟩) := pIx_d g rfl rfl
  have mk := make1 v1 v2 v3 v4 v5 w
  unfold made at mk
  rw [if_neg (by rw [bad]; exact Bool.false_ne_true)] at mk
  have wr : cleanP (wrong b1 b2 b3 b4) = true := by
    unfold wrong
    split
    · rfl
    · split
      · rfl
      · split
        · rfl
        · split <;> rfl
  unfold r_law_tried
  refine ev_runB [some (.ref x), none] rfl rfl (s1 := .rt (.lst [wrong b1 b2 b3 b4, .bl true]) ⟨n + 1, (n, .obj "Waking" []) :: cs⟩) ?_ ?_
  · unfold m_law_tried
    refine ev_seqR (ev_tryX (nm := "BadWaking") (fs := [("part", wrong b1 b2 b3 b4)]) (e1 := [some (.ref x), none]) (h1 := ⟨n + 1, (n, .obj "Waking" []) :: cs⟩) ?_ (by decide +kernel) ?_ ?_ ?_)
    · repeat (first | with_reducible exact app_n | with_reducible exact ev_c | with_reducible exact ev_nil | with_reducible exact ev_nx | with_reducible exact ev_yes | with_reducible exact ev_moN | with_reducible exact ev_lcN | with_reducible exact ev_forN | with_reducible exact k_rt | with_reducible exact k_xc | with_reducible exact f_rt | with_reducible exact f_xc | with_reducible exact t_xc | with_reducible apply ev_cons | with_reducible apply ev_tup | with_reducible apply ev_lst | with_reducible apply ev_lstC | with_reducible apply ev_b1 | with_reducible apply ev_b2 | with_reducible apply ev_ba | with_reducible apply ev_call | with_reducible apply ev_callK | with_reducible apply ev_fld | with_reducible apply ev_meth | with_reducible apply ev_is | with_reducible apply ev_and | with_reducible apply ev_notV | with_reducible apply ev_if | with_reducible apply ev_tst | with_reducible apply ev_tru | with_reducible apply ev_not | with_reducible apply ev_tand | with_reducible apply ev_tor | with_reducible apply ev_sl | with_reducible apply ev_moS | with_reducible apply ev_lc | with_reducible apply ev_iter | with_reducible apply ev_enum | with_reducible apply ev_rng1 | with_reducible apply ev_eqO | with_reducible apply ev_seq' | with_reducible apply ev_set | with_reducible apply ev_ret | with_reducible apply ev_exp' | with_reducible apply ev_ifs | with_reducible apply ev_for | with_reducible apply ev_for' | with_reducible apply ev_stFh | with_reducible apply ev_stI | with_reducible apply ev_raise | with_reducible apply ev_xf | with_reducible apply ev_isX | with_reducible apply k_nx | with_reducible apply f_nx | with_reducible apply t_ok | with_reducible apply ev_var | with_reducible exact d1 | with_reducible exact d2 | with_reducible exact d3 | with_reducible exact d4 | with_reducible exact d5 | with_reducible exact mk | exact Nat.le_of_ble_eq_true rfl | ((with_reducible apply if_t); focus (exact rfl)) | ((with_reducible apply if_f); focus decide) | exact ⟨rfl, rfl⟩ | exact rfl)
    · repeat (first | with_reducible exact app_n | with_reducible exact ev_c | with_reducible exact ev_nil | with_reducible exact ev_nx | with_reducible exact ev_yes | with_reducible exact ev_moN | with_reducible exact ev_lcN | with_reducible exact ev_forN | with_reducible exact k_rt | with_reducible exact k_xc | with_reducible exact f_rt | with_reducible exact f_xc | with_reducible exact t_xc | with_reducible apply ev_cons | with_reducible apply ev_tup | with_reducible apply ev_lst | with_reducible apply ev_lstC | with_reducible apply ev_b1 | with_reducible apply ev_b2 | with_reducible apply ev_ba | with_reducible apply ev_call | with_reducible apply ev_callK | with_reducible apply ev_fld | with_reducible apply ev_meth | with_reducible apply ev_is | with_reducible apply ev_and | with_reducible apply ev_notV | with_reducible apply ev_if | with_reducible apply ev_tst | with_reducible apply ev_tru | with_reducible apply ev_not | with_reducible apply ev_tand | with_reducible apply ev_tor | with_reducible apply ev_sl | with_reducible apply ev_moS | with_reducible apply ev_lc | with_reducible apply ev_iter | with_reducible apply ev_enum | with_reducible apply ev_rng1 | with_reducible apply ev_eqO | with_reducible apply ev_seq' | with_reducible apply ev_set | with_reducible apply ev_ret | with_reducible apply ev_exp' | with_reducible apply ev_ifs | with_reducible apply ev_for | with_reducible apply ev_for' | with_reducible apply ev_stFh | with_reducible apply ev_stI | with_reducible apply ev_raise | with_reducible apply ev_xf | with_reducible apply ev_isX | with_reducible apply k_nx | with_reducible apply f_nx | with_reducible apply t_ok | with_reducible apply ev_var | exact Nat.le_of_ble_eq_true rfl | ((with_reducible apply if_t); focus (exact rfl)) | ((with_reducible apply if_f); focus decide) | exact ⟨rfl, rfl⟩ | exact rfl)
    · simp [cleanP, cleanL, wr]
    · have z : cleanH ⟨n + 1, (n, .obj "Waking" []) :: cs⟩ = cleanH ⟨n, cs⟩ := rfl
      rw [z]; exact cl
  · have w2 : (cs.filter fun q => decide (q.1 < n)) = cs := filt w
    simp [endR, w2]
end
end K04

namespace K04
open PySem PySem.Spec PyProof.Rows L2 Mi
section
variable {a1 a2 a3 a4 c1 c2 c3 c4 : Str} {m m' : Bool} {p1 p2 p3 p4 p5 : PV} {n : Nat} {cs : Cs}
theorem row_ok (w : WF ⟨n, cs⟩) : r_Waking_row (pick [0] ([.obj "Waking" (flds p1 p2 p3 p4 p5)] ++ ([] ++ []))) ⟨n, cs⟩ = .ok (.tup [p1, p2, p3, p4]) ⟨n, cs⟩ := by
  show r_Waking_row [.obj "Waking" (flds p1 p2 p3 p4 p5)] ⟨n, cs⟩ = _
  unfold r_Waking_row
  refine ev_runB [some (.obj "Waking" (flds p1 p2 p3 p4 p5))] rfl rfl (by unfold m_Waking_row; repeat (first | with_reducible exact app_n | with_reducible exact ev_c | with_reducible exact ev_nil | with_reducible exact ev_nx | with_reducible exact ev_yes | with_reducible exact ev_moN | with_reducible exact ev_lcN | with_reducible exact ev_forN | with_reducible exact k_rt | with_reducible exact k_xc | with_reducible exact f_rt | with_reducible exact f_xc | with_reducible exact t_xc | with_reducible apply ev_cons | with_reducible apply ev_tup | with_reducible apply ev_lst | with_reducible apply ev_lstC | with_reducible apply ev_b1 | with_reducible apply ev_b2 | with_reducible apply ev_ba | with_reducible apply ev_call | with_reducible apply ev_callK | with_reducible apply ev_fld | with_reducible apply ev_meth | with_reducible apply ev_is | with_reducible apply ev_and | with_reducible apply ev_notV | with_reducible apply ev_if | with_reducible apply ev_tst | with_reducible apply ev_tru | with_reducible apply ev_not | with_reducible apply ev_tand | with_reducible apply ev_tor | with_reducible apply ev_sl | with_reducible apply ev_moS | with_reducible apply ev_lc | with_reducible apply ev_iter | with_reducible apply ev_enum | with_reducible apply ev_rng1 | with_reducible apply ev_eqO | with_reducible apply ev_seq' | with_reducible apply ev_set | with_reducible apply ev_ret | with_reducible apply ev_exp' | with_reducible apply ev_ifs | with_reducible apply ev_for | with_reducible apply ev_for' | with_reducible apply ev_stFh | with_reducible apply ev_stI | with_reducible apply ev_raise | with_reducible apply ev_xf | with_reducible apply ev_isX | with_reducible apply k_nx | with_reducible apply f_nx | with_reducible apply t_ok | with_reducible apply ev_var | exact Nat.le_of_ble_eq_true rfl | ((with_reducible apply if_t); focus (exact rfl)) | ((with_reducible apply if_f); focus decide) | exact ⟨rfl, rfl⟩ | exact rfl)) ?_
  simp [endR, filt w]
def sk (a : Str) : Prop := PyData.canLay0 (.str a) = true
theorem shp {x1 x2 x3 x4 : Str} (s1 : sk x1) (s2 : sk x2) (s3 : sk x3) (s4 : sk x4) : SeqAt.shaped (.tuple [.str x1, .str x2, .str x3, .str x4]) = true := by
  have e : PyData.canLay0 (.tuple [.str x1, .str x2, .str x3, .str x4]) = (PyData.canLay0 (.str x1) && (PyData.canLay0 (.str x2) && (PyData.canLay0 (.str x3) && (PyData.canLay0 (.str x4) && true)))) := by simp only [PyData.canLay0, PyData.canLayAll0]
  unfold SeqAt.shaped
  rw [e, s1, s2, s3, s4]
  rfl
abbrev wk (a1 a2 a3 a4 : Str) (m : Bool) : PV := .obj "Waking" (flds (.str a1) (.str a2) (.str a3) (.str a4) (.bl m))
def same (a1 a2 a3 a4 c1 c2 c3 c4 : Str) : Bool := a1 == c1 && (a2 == c2 && (a3 == c3 && (a4 == c4 && true)))
theorem eq_ok (s1 : sk a1) (s2 : sk a2) (s3 : sk a3) (s4 : sk a4) (t1 : sk c1) (t2 : sk c2) (t3 : sk c3) (t4 : sk c4) (w : WF ⟨n, cs⟩) : r_Waking_eq [wk a1 a2 a3 a4 m, wk c1 c2 c3 c4 m'] ⟨n, cs⟩ = .ok (.bl (same a1 a2 a3 a4 c1 c2 c3 c4 && (m == m'))) ⟨n, cs⟩ := by
  have e1 := row_ok (p1 := .str a1) (p2 := .str a2) (p3 := .str a3) (p4 := .str a4) (p5 := .bl m) w
  have e2 := row_ok (p1 := .str c1) (p2 := .str c2) (p3 := .str c3) (p4 := .str c4) (p5 := .bl m') w
  have q : pEq (.tup [.str a1, .str a2, .str a3, .str a4]) (.tup [.str c1, .str c2, .str c3, .str c4]) ⟨n, cs⟩ = some (.bl (same a1 a2 a3 a4 c1 c2 c3 c4), ⟨n, cs⟩) := by
    show ((if SeqAt.shaped (.tuple [.str a1, .str a2, .str a3, .str a4]) = true ∧ SeqAt.shaped (.tuple [.str c1, .str c2, .str c3, .str c4]) = true then some (PyData.eqv (.tuple [.str a1, .str a2, .str a3, .str a4]) (.tuple [.str c1, .str c2, .str c3, .str c4])) else none).map fun b => (PV.bl b, (⟨n, cs⟩ : MH))) = _
    rw [if_pos ⟨shp s1 s2 s3 s4, shp t1 t2 t3 t4⟩]
    simp [PyData.eqv, PyData.eqvAll, same]
  unfold r_Waking_eq
  cases hs : same a1 a2 a3 a4 c1 c2 c3 c4 with
  | false =>
    rw [hs] at q
    refine ev_runB [some (wk a1 a2 a3 a4 m), some (wk c1 c2 c3 c4 m')] rfl rfl (s1 := .rt (.bl false) ⟨n, cs⟩) (by unfold m_Waking_eq; repeat (first | with_reducible exact app_n | with_reducible exact ev_c | with_reducible exact ev_nil | with_reducible exact ev_nx | with_reducible exact ev_yes | with_reducible exact ev_moN | with_reducible exact ev_lcN | with_reducible exact ev_forN | with_reducible exact k_rt | with_reducible exact k_xc | with_reducible exact f_rt | with_reducible exact f_xc | with_reducible exact t_xc | with_reducible apply ev_cons | with_reducible apply ev_tup | with_reducible apply ev_lst | with_reducible apply ev_lstC | with_reducible apply ev_b1 | with_reducible apply ev_b2 | with_reducible apply ev_ba | with_reducible apply ev_call | with_reducible apply ev_callK | with_reducible apply ev_fld | with_reducible apply ev_meth | with_reducible apply ev_is | with_reducible apply ev_and | with_reducible apply ev_notV | with_reducible apply ev_if | with_reducible apply ev_tst | with_reducible apply ev_tru | with_reducible apply ev_not | with_reducible apply ev_tand | with_reducible apply ev_tor | with_reducible apply ev_sl | with_reducible apply ev_moS | with_reducible apply ev_lc | with_reducible apply ev_iter | with_reducible apply ev_enum | with_reducible apply ev_rng1 | with_reducible apply ev_eqO | with_reducible apply ev_seq' | with_reducible apply ev_set | with_reducible apply ev_ret | with_reducible apply ev_exp' | with_reducible apply ev_ifs | with_reducible apply ev_for | with_reducible apply ev_for' | with_reducible apply ev_stFh | with_reducible apply ev_stI | with_reducible apply ev_raise | with_reducible apply ev_xf | with_reducible apply ev_isX | with_reducible apply k_nx | with_reducible apply f_nx | with_reducible apply t_ok | with_reducible apply ev_var | with_reducible exact e1 | with_reducible exact e2 | with_reducible exact q | exact Nat.le_of_ble_eq_true rfl | ((with_reducible apply if_t); focus (exact rfl)) | ((with_reducible apply if_f); focus decide) | exact ⟨rfl, rfl⟩ | exact rfl)) ?_
    simp [endR, filt w]
  | true =>
    rw [hs] at q
    refine ev_runB [some (wk a1 a2 a3 a4 m), some (wk c1 c2 c3 c4 m')] rfl rfl (s1 := .rt (.bl (m == m')) ⟨n, cs⟩) (by unfold m_Waking_eq; repeat (first | with_reducible exact app_n | with_reducible exact ev_c | with_reducible exact ev_nil | with_reducible exact ev_nx | with_reducible exact ev_yes | with_reducible exact ev_moN | with_reducible exact ev_lcN | with_reducible exact ev_forN | with_reducible exact k_rt | with_reducible exact k_xc | with_reducible exact f_rt | with_reducible exact f_xc | with_reducible exact t_xc | with_reducible apply ev_cons | with_reducible apply ev_tup | with_reducible apply ev_lst | with_reducible apply ev_lstC | with_reducible apply ev_b1 | with_reducible apply ev_b2 | with_reducible apply ev_ba | with_reducible apply ev_call | with_reducible apply ev_callK | with_reducible apply ev_fld | with_reducible apply ev_meth | with_reducible apply ev_is | with_reducible apply ev_and | with_reducible apply ev_notV | with_reducible apply ev_if | with_reducible apply ev_tst | with_reducible apply ev_tru | with_reducible apply ev_not | with_reducible apply ev_tand | with_reducible apply ev_tor | with_reducible apply ev_sl | with_reducible apply ev_moS | with_reducible apply ev_lc | with_reducible apply ev_iter | with_reducible apply ev_enum | with_reducible apply ev_rng1 | with_reducible apply ev_eqO | with_reducible apply ev_seq' | with_reducible apply ev_set | with_reducible apply ev_ret | with_reducible apply ev_exp' | with_reducible apply ev_ifs | with_reducible apply ev_for | with_reducible apply ev_for' | with_reducible apply ev_stFh | with_reducible apply ev_stI | with_reducible apply ev_raise | with_reducible apply ev_xf | with_reducible apply ev_isX | with_reducible apply k_nx | with_reducible apply f_nx | with_reducible apply t_ok | with_reducible apply ev_var | with_reducible exact e1 | with_reducible exact e2 | with_reducible exact q | exact Nat.le_of_ble_eq_true rfl | ((with_reducible apply if_t); focus (exact rfl)) | ((with_reducible apply if_f); focus decide) | exact ⟨rfl, rfl⟩ | exact rfl)) ?_
    simp [endR, filt w]
theorem eqS_ok {a : Str} (w : WF ⟨n, cs⟩) : r_Waking_eq [.obj "Waking" (flds p1 p2 p3 p4 p5), .str a] ⟨n, cs⟩ = .ok (.bl false) ⟨n, cs⟩ := by
  unfold r_Waking_eq
  refine ev_runB [some (.obj "Waking" (flds p1 p2 p3 p4 p5)), some (.str a)] rfl rfl (s1 := .rt (.bl false) ⟨n, cs⟩) (by unfold m_Waking_eq; repeat (first | with_reducible exact app_n | with_reducible exact ev_c | with_reducible exact ev_nil | with_reducible exact ev_nx | with_reducible exact ev_yes | with_reducible exact ev_moN | with_reducible exact ev_lcN | with_reducible exact ev_forN | with_reducible exact k_rt | with_reducible exact k_xc | with_reducible exact f_rt | with_reducible exact f_xc | with_reducible exact t_xc | with_reducible apply ev_cons | with_reducible apply ev_tup | with_reducible apply ev_lst | with_reducible apply ev_lstC | with_reducible apply ev_b1 | with_reducible apply ev_b2 | with_reducible apply ev_ba | with_reducible apply ev_call | with_reducible apply ev_callK | with_reducible apply ev_fld | with_reducible apply ev_meth | with_reducible apply ev_is | with_reducible apply ev_and | with_reducible apply ev_notV | with_reducible apply ev_if | with_reducible apply ev_tst | with_reducible apply ev_tru | with_reducible apply ev_not | with_reducible apply ev_tand | with_reducible apply ev_tor | with_reducible apply ev_sl | with_reducible apply ev_moS | with_reducible apply ev_lc | with_reducible apply ev_iter | with_reducible apply ev_enum | with_reducible apply ev_rng1 | with_reducible apply ev_eqO | with_reducible apply ev_seq' | with_reducible apply ev_set | with_reducible apply ev_ret | with_reducible apply ev_exp' | with_reducible apply ev_ifs | with_reducible apply ev_for | with_reducible apply ev_for' | with_reducible apply ev_stFh | with_reducible apply ev_stI | with_reducible apply ev_raise | with_reducible apply ev_xf | with_reducible apply ev_isX | with_reducible apply k_nx | with_reducible apply f_nx | with_reducible apply t_ok | with_reducible apply ev_var | exact Nat.le_of_ble_eq_true rfl | ((with_reducible apply if_t); focus (exact rfl)) | ((with_reducible apply if_f); focus decide) | exact ⟨rfl, rfl⟩ | exact rfl)) ?_
  simp [endR, filt w]
end
/-! ### the pool -/
theorem putc_mem {x : Nat} {k : Cell} : ∀ {cs : Cs} {q : Nat × Cell}, q ∈ putc cs x k → q = (x, k) ∨ q ∈ cs
  | [], q, m => by simp [putc] at m; exact .inl m
  | (j, c) :: r, q, m => by
    simp only [putc] at m
    by_cases h : x = j
    · rw [if_pos h] at m
      rcases List.mem_cons.mp m with e | m
      · subst h; exact .inl e
      · exact .inr (List.mem_cons_of_mem _ m)
    · rw [if_neg h] at m
      rcases List.mem_cons.mp m with e | m
      · exact .inr (e ▸ List.mem_cons_self ..)
      · rcases putc_mem m with e | m
        · exact .inl e
        · exact .inr (List.mem_cons_of_mem _ m)
theorem wf_lt {h : MH} {x : Nat} {k : Cell} (w : WF h) (g : h.get x = some k) : x < h.nx := w _ (look_mem g)
theorem wf_put {h : MH} {x : Nat} {k : Cell} (w : WF h) (l : x < h.nx) : WF (h.put x k) := fun q m => by
  rcases putc_mem m with e | m
  · rw [e]; exact l
  · exact w q m
theorem cl_put {h : MH} {x : Nat} {k : Cell} (c : cleanH h = true) (l : cleanC k = true) : cleanH (h.put x k) = true := by
  refine List.all_eq_true.mpr fun q m => ?_
  rcases putc_mem m with e | m
  · rw [e]; exact l
  · exact List.all_eq_true.mp c q m
structure SI (x : Nat) (h : MH) : Prop where
  wf : WF h
  cl : cleanH h = true
  pool : ∃ (L : List Int) (k : Nat), h.get x = some (.lst [.lst (L.map PV.int), .int k])
theorem clean_ints : ∀ L : List Int, cleanL (L.map PV.int) = true
  | [] => rfl
  | _ :: r => by simp only [List.map_cons, cleanL, cleanP, Bool.true_and]; exact clean_ints r
theorem stIx_l {h : MH} {x j : Nat} {xs : List PV} {z : Int} {v : PV} (g : h.get x = some (.lst xs)) (l : ixN xs.length z = some j) : stIx (.ref x) (.int z) v h = some (h.put x (.lst (xs.set j v))) := by
  unfold stIx; dsimp only; rw [g]; dsimp only; rw [l]; rfl
theorem stIx_d {h : MH} {x : Nat} {kvs : List (Key × PV)} {q v : PV} {ky : Key} (g : h.get x = some (.dct kvs)) (kp : keyP q = some ky) (z : kvs.length < sizeLine) : stIx (.ref x) q v h = some (h.put x (.dct (putP kvs ky v))) := by
  unfold stIx; dsimp only; rw [g]; dsimp only; rw [kp]; dsimp only; rw [if_pos z]
theorem draw_ok {x : Nat} {h : MH} {m : Int} (s : SI x h) (hm : 0 < m) : ∃ (r : Int) (h' : MH), 0 ≤ r ∧ r < m ∧ r_law_draw (pick [0, 1] ([.ref x, .int m] ++ ([] ++ []))) h = .ok (.int r) h' ∧ SI x h' ∧ h'.nx = h.nx ∧ ∀ y, y ≠ x → h'.get y = h.get y := by
  obtain ⟨w, cl, L, k, g⟩ := s
  have lt := wf_lt w g
  let c' : Cell := .lst [.lst (L.map PV.int), .int ((k : Int) + 1)]
  have w' : WF (h.put x c') := wf_put w lt
  have g' : (h.put x c').get x = some c' := by rw [MH.get_put, if_pos rfl]
  have d1 : pIx (.ref x) (.int 1) h = some (.int (k : Int), h) := pIx_l g rfl
  have d2 : stIx (.ref x) (.int 1) (.int ((k : Int) + 1)) h = some (h.put x c') := stIx_l (j := 1) g rfl
  have d3 : pIx (.ref x) (.int 0) (h.put x c') = some (.lst (L.map PV.int), h.put x c') := pIx_l g' rfl
  have si : SI x (h.put x c') := ⟨w', cl_put cl (by simp [c', cleanC, cleanL, cleanP, clean_ints]), L, k + 1, g'⟩
  have fl : (putc h.cs x c').filter (fun q => decide (q.1 < h.nx)) = putc h.cs x c' := List.filter_eq_self.mpr fun q m => decide_eq_true (w' q m)
  by_cases hk : k < L.length
  · have d4 : pIx (.lst (L.map PV.int)) (.int (k : Int)) (h.put x c') = some (.int L[k], h.put x c') := by
      have a : atI (L.map PV.int) (k : Int) = some (.int L[k]) := by
        have i : ixN (L.map PV.int).length (k : Int) = some k := by
          unfold ixN
          rw [if_pos (by omega), if_pos (by rw [List.length_map]; omega)]
          simp
        unfold atI
        rw [i]
        simp [hk]
      unfold pIx
      dsimp only [asD, asS, asL, asM]
      rw [a]
      rfl
    have d5 : pLt (.int (k : Int)) (.int ((L.map PV.int).length : Nat)) (h.put x c') = some (.bl true, h.put x c') := by
      have : decide ((k : Int) < ((L.map PV.int).length : Nat)) = true := by simp [hk]
      show some (PV.bl (decide ((k : Int) < ((L.map PV.int).length : Nat))), _) = _
      rw [this]
    have d6 : pMod (.int L[k]) (.int m) (h.put x c') = some (.int (L[k] % m), h.put x c') := by
      show (if decide (0 < m) = true then _ else _) = _
      rw [if_pos (decide_eq_true hm)]
    refine ⟨L[k] % m, h.put x c', Int.emod_nonneg _ (by omega), Int.emod_lt_of_pos _ hm, ?_, si, rfl, fun y hy => by rw [MH.get_put, if_neg hy]⟩
    show r_law_draw [.ref x, .int m] h = _
    unfold r_law_draw
    refine ev_runB [some (.ref x), some (.int m), none] rfl rfl (s1 := .rt (.int (L[k] % m)) (h.put x c')) (by unfold m_law_draw; repeat (first | with_reducible exact app_n | with_reducible exact ev_c | with_reducible exact ev_nil | with_reducible exact ev_nx | with_reducible exact ev_yes | with_reducible exact ev_moN | with_reducible exact ev_lcN | with_reducible exact ev_forN | with_reducible exact k_rt | with_reducible exact k_xc | with_reducible exact f_rt | with_reducible exact f_xc | with_reducible exact t_xc | with_reducible apply ev_cons | with_reducible apply ev_tup | with_reducible apply ev_lst | with_reducible apply ev_lstC | with_reducible apply ev_b1 | with_reducible apply ev_b2 | with_reducible apply ev_ba | with_reducible apply ev_call | with_reducible apply ev_callK | with_reducible apply ev_fld | with_reducible apply ev_meth | with_reducible apply ev_is | with_reducible apply ev_and | with_reducible apply ev_notV | with_reducible apply ev_if | with_reducible apply ev_tst | with_reducible apply ev_tru | with_reducible apply ev_not | with_reducible apply ev_tand | with_reducible apply ev_tor | with_reducible apply ev_sl | with_reducible apply ev_moS | with_reducible apply ev_lc | with_reducible apply ev_iter | with_reducible apply ev_enum | with_reducible apply ev_rng1 | with_reducible apply ev_eqO | with_reducible apply ev_seq' | with_reducible apply ev_set | with_reducible apply ev_ret | with_reducible apply ev_exp' | with_reducible apply ev_ifs | with_reducible apply ev_for | with_reducible apply ev_for' | with_reducible apply ev_stFh | with_reducible apply ev_stI | with_reducible apply ev_raise | with_reducible apply ev_xf | with_reducible apply ev_isX | with_reducible apply k_nx | with_reducible apply f_nx | with_reducible apply t_ok | with_reducible apply ev_var | with_reducible exact d1 | with_reducible exact d2 | with_reducible exact d3 | with_reducible exact d4 | with_reducible exact d5 | with_reducible exact d6 | exact Nat.le_of_ble_eq_true rfl | ((with_reducible apply if_t); focus (exact rfl)) | ((with_reducible apply if_f); focus decide) | exact ⟨rfl, rfl⟩ | exact rfl)) ?_
    show Res.ok _ ⟨h.nx, (putc h.cs x c').filter _⟩ = _
    rw [fl]; rfl
  · have d5 : pLt (.int (k : Int)) (.int ((L.map PV.int).length : Nat)) (h.put x c') = some (.bl false, h.put x c') := by
      have : decide ((k : Int) < ((L.map PV.int).length : Nat)) = false := by simp; omega
      show some (PV.bl (decide ((k : Int) < ((L.map PV.int).length : Nat))), _) = _
      rw [this]
    refine ⟨0, h.put x c', by omega, hm, ?_, si, rfl, fun y hy => by rw [MH.get_put, if_neg hy]⟩
    show r_law_draw [.ref x, .int m] h = _
    unfold r_law_draw
    refine ev_runB [some (.ref x), some (.int m), none] rfl rfl (s1 := .rt (.int 0) (h.put x c')) (by unfold m_law_draw; repeat (first | with_reducible exact app_n | with_reducible exact ev_c | with_reducible exact ev_nil | with_reducible exact ev_nx | with_reducible exact ev_yes | with_reducible exact ev_moN | with_reducible exact ev_lcN | with_reducible exact ev_forN | with_reducible exact k_rt | with_reducible exact k_xc | with_reducible exact f_rt | with_reducible exact f_xc | with_reducible exact t_xc | with_reducible apply ev_cons | with_reducible apply ev_tup | with_reducible apply ev_lst | with_reducible apply ev_lstC | with_reducible apply ev_b1 | with_reducible apply ev_b2 | with_reducible apply ev_ba | with_reducible apply ev_call | with_reducible apply ev_callK | with_reducible apply ev_fld | with_reducible apply ev_meth | with_reducible apply ev_is | with_reducible apply ev_and | with_reducible apply ev_notV | with_reducible apply ev_if | with_reducible apply ev_tst | with_reducible apply ev_tru | with_reducible apply ev_not | with_reducible apply ev_tand | with_reducible apply ev_tor | with_reducible apply ev_sl | with_reducible apply ev_moS | with_reducible apply ev_lc | with_reducible apply ev_iter | with_reducible apply ev_enum | with_reducible apply ev_rng1 | with_reducible apply ev_eqO | with_reducible apply ev_seq' | with_reducible apply ev_set | with_reducible apply ev_ret | with_reducible apply ev_exp' | with_reducible apply ev_ifs | with_reducible apply ev_for | with_reducible apply ev_for' | with_reducible apply ev_stFh | with_reducible apply ev_stI | with_reducible apply ev_raise | with_reducible apply ev_xf | with_reducible apply ev_isX | with_reducible apply k_nx | with_reducible apply f_nx | with_reducible apply t_ok | with_reducible apply ev_var | with_reducible exact d1 | with_reducible exact d2 | with_reducible exact d3 | with_reducible exact d5 | exact Nat.le_of_ble_eq_true rfl | ((with_reducible apply if_t); focus (exact rfl)) | ((with_reducible apply if_f); focus decide) | exact ⟨rfl, rfl⟩ | exact rfl)) ?_
    show Res.ok _ ⟨h.nx, (putc h.cs x c').filter _⟩ = _
    rw [fl]; rfl
theorem pick_ok {x : Nat} {h : MH} {ys : List PV} (s : SI x h) (hy : ys ≠ []) : ∃ (v : PV) (h' : MH), v ∈ ys ∧ r_law_pick (pick [0, 1] ([.ref x, .lst ys] ++ ([] ++ []))) h = .ok v h' ∧ SI x h' ∧ h'.nx = h.nx ∧ ∀ y, y ≠ x → h'.get y = h.get y := by
  have hm : (0 : Int) < (ys.length : Nat) := by
    have := List.length_pos_iff.mpr hy
    omega
  obtain ⟨r, h', r0, r1, e, si, nx, oth⟩ := draw_ok s hm
  have hr : r.toNat < ys.length := by omega
  have d : pIx (.lst ys) (.int r) h' = some (ys[r.toNat], h') := by
    have a : atI ys r = some ys[r.toNat] := by
      have i : ixN ys.length r = some r.toNat := by
        unfold ixN
        rw [if_pos r0, if_pos r1]
      unfold atI
      rw [i]
      simp [hr]
    unfold pIx
    dsimp only [asD, asS, asL, asM]
    rw [a]
    rfl
  refine ⟨ys[r.toNat], h', List.getElem_mem hr, ?_, si, nx, oth⟩
  show r_law_pick [.ref x, .lst ys] h = _
  unfold r_law_pick
  refine ev_runB [some (.ref x), some (.lst ys)] rfl rfl (s1 := .rt ys[r.toNat] h') (by unfold m_law_pick; repeat (first | with_reducible exact app_n | with_reducible exact ev_c | with_reducible exact ev_nil | with_reducible exact ev_nx | with_reducible exact ev_yes | with_reducible exact ev_moN | with_reducible exact ev_lcN | with_reducible exact ev_forN | with_reducible exact k_rt | with_reducible exact k_xc | with_reducible exact f_rt | with_reducible exact f_xc | with_reducible exact t_xc | with_reducible apply ev_cons | with_reducible apply ev_tup | with_reducible apply ev_lst | with_reducible apply ev_lstC | with_reducible apply ev_b1 | with_reducible apply ev_b2 | with_reducible apply ev_ba | with_reducible apply ev_call | with_reducible apply ev_callK | with_reducible apply ev_fld | with_reducible apply ev_meth | with_reducible apply ev_is | with_reducible apply ev_and | with_reducible apply ev_notV | with_reducible apply ev_if | with_reducible apply ev_tst | with_reducible apply ev_tru | with_reducible apply ev_not | with_reducible apply ev_tand | with_reducible apply ev_tor | with_reducible apply ev_sl | with_reducible apply ev_moS | with_reducible apply ev_lc | with_reducible apply ev_iter | with_reducible apply ev_enum | with_reducible apply ev_rng1 | with_reducible apply ev_eqO | with_reducible apply ev_seq' | with_reducible apply ev_set | with_reducible apply ev_ret | with_reducible apply ev_exp' | with_reducible apply ev_ifs | with_reducible apply ev_for | with_reducible apply ev_for' | with_reducible apply ev_stFh | with_reducible apply ev_stI | with_reducible apply ev_raise | with_reducible apply ev_xf | with_reducible apply ev_isX | with_reducible apply k_nx | with_reducible apply f_nx | with_reducible apply t_ok | with_reducible apply ev_var | with_reducible exact e | with_reducible exact d | exact Nat.le_of_ble_eq_true rfl | ((with_reducible apply if_t); focus (exact rfl)) | ((with_reducible apply if_f); focus decide) | exact ⟨rfl, rfl⟩ | exact rfl)) ?_
  show Res.ok _ ⟨h'.nx, h'.cs.filter _⟩ = _
  rw [show h.nx = h'.nx from nx.symm, filt si.wf]
end K04

namespace K04
open PySem PySem.Spec PyProof.Rows L2 Mi
abbrev bodyN : MS := mIfS (mAnd (mTst (mB2 pGe (mVar 3) (mB2 pPow (mC (.int 10)) (mC (.int 18))))) (mTst (mB2 pGt (mVar 4) (mC (.int 0)))))
    (mSeq (mExp (mApp (mVar 5) (mCons (mB2 pMod (mBA pInt1 (mCons (mVar 4) (mNil))) (mC (.int 840))) (mNil))))
    (mSet 4 (mB2 pDiv (mVar 4) (mC (.int 840)))))
    (mSeq (mSet 7 (mB2 pMod (mBA pInt1 (mCons (mB2 pPow (mB2 pAdd (mB2 pAdd (mB2 pMod (mBA pInt1 (mCons (mVar 3) (mNil))) (mC (.int 2147483629))) (mB2 pMul (mC (.int 7717)) (mVar 1))) (mC (.int 3))) (mC (.int 3))) (mNil))) (mC (.int 2147483647))))
    (mSeq (mSet 7 (mB2 pMod (mBA pInt1 (mCons (mB2 pMul (mB2 pAdd (mVar 7) (mB2 pMul (mC (.int 99991)) (mB2 pAdd (mVar 6) (mC (.int 1))))) (mB2 pAdd (mVar 6) (mC (.int 5)))) (mNil))) (mC (.int 2147483629))))
    (mSeq (mSet 7 (mB2 pMod (mBA pInt1 (mCons (mB2 pMul (mB2 pMod (mBA pInt1 (mCons (mB2 pPow (mVar 7) (mC (.int 5))) (mNil))) (mC (.int 2147483647))) (mC (.int 48271))) (mNil))) (mC (.int 2147483629))))
    (mExp (mApp (mVar 5) (mCons (mB2 pMod (mBA pInt1 (mCons (mB2 pDiv (mVar 7) (mC (.int 16))) (mNil))) (mC (.int 840))) (mNil)))))))
theorem body_ok {cell salt W left k : Int} {n : Nat} {cs : Cs} {xs : List PV} {o6 o7 : Option PV} (hs : 0 ≤ salt ∧ salt ≤ 3) (hk : 0 ≤ k ∧ k < 120) (hx : xs.length < 1000) :
    ∃ (left' v : Int) (o : Option PV), bodyN [some (.int cell), some (.int salt), some (.int 120), some (.int W), some (.int left), some (.ref n), some (.int k), o7] ⟨n + 1, (n, .lst xs) :: cs⟩ =
      .nx [some (.int cell), some (.int salt), some (.int 120), some (.int W), some (.int left'), some (.ref n), some (.int k), o] ⟨n + 1, (n, .lst (xs ++ [.int v])) :: cs⟩ := by
  have hz : xs.length < sizeLine := Nat.lt_trans hx (by decide)
  have pw : pPow (.int 10) (.int 18) ⟨n + 1, (n, .lst xs) :: cs⟩ = some (.int 1000000000000000000, ⟨n + 1, (n, .lst xs) :: cs⟩) := rfl
  by_cases c1 : (1000000000000000000 : Int) ≤ W ∧ 0 < left
  · have g1 : pGe (.int W) (.int 1000000000000000000) ⟨n + 1, (n, .lst xs) :: cs⟩ = some (.bl true, ⟨n + 1, (n, .lst xs) :: cs⟩) := by
      show some (PV.bl (decide ((1000000000000000000 : Int) ≤ W)), _) = _
      rw [decide_eq_true c1.1]
    have g2 : pGt (.int left) (.int 0) ⟨n + 1, (n, .lst xs) :: cs⟩ = some (.bl true, ⟨n + 1, (n, .lst xs) :: cs⟩) := by
      show some (PV.bl (decide ((0 : Int) < left)), _) = _
      rw [decide_eq_true c1.2]
    exact ⟨_, _, _, by repeat (first | with_reducible exact app_n | with_reducible exact ev_c | with_reducible exact ev_nil | with_reducible exact ev_nx | with_reducible exact ev_yes | with_reducible exact ev_moN | with_reducible exact ev_lcN | with_reducible exact ev_forN | with_reducible exact k_rt | with_reducible exact k_xc | with_reducible exact f_rt | with_reducible exact f_xc | with_reducible exact t_xc | with_reducible apply ev_cons | with_reducible apply ev_tup | with_reducible apply ev_lst | with_reducible apply ev_lstC | with_reducible apply ev_b1 | with_reducible apply ev_b2 | with_reducible apply ev_ba | with_reducible apply ev_call | with_reducible apply ev_callK | with_reducible apply ev_fld | with_reducible apply ev_meth | with_reducible apply ev_is | with_reducible apply ev_and | with_reducible apply ev_notV | with_reducible apply ev_if | with_reducible apply ev_tst | with_reducible apply ev_tru | with_reducible apply ev_not | with_reducible apply ev_tand | with_reducible apply ev_tor | with_reducible apply ev_sl | with_reducible apply ev_moS | with_reducible apply ev_lc | with_reducible apply ev_iter | with_reducible apply ev_enum | with_reducible apply ev_rng1 | with_reducible apply ev_eqO | with_reducible apply ev_seq' | with_reducible apply ev_set | with_reducible apply ev_ret | with_reducible apply ev_exp' | with_reducible apply ev_ifs | with_reducible apply ev_for | with_reducible apply ev_for' | with_reducible apply ev_stFh | with_reducible apply ev_stI | with_reducible apply ev_raise | with_reducible apply ev_apph | with_reducible apply ev_xf | with_reducible apply ev_isX | with_reducible apply k_nx | with_reducible apply f_nx | with_reducible apply t_ok | with_reducible apply ev_var | with_reducible exact pw | with_reducible exact g1 | with_reducible exact g2 | with_reducible exact hz | exact Nat.le_of_ble_eq_true rfl | ((with_reducible apply if_t); focus (exact rfl)) | ((with_reducible apply if_f); focus decide) | exact ⟨rfl, rfl⟩ | exact rfl)⟩
  · have tst : mAnd (mTst (mB2 pGe (mVar 3) (mB2 pPow (mC (.int 10)) (mC (.int 18))))) (mTst (mB2 pGt (mVar 4) (mC (.int 0)))) [some (.int cell), some (.int salt), some (.int 120), some (.int W), some (.int left), some (.ref n), some (.int k), o7] ⟨n + 1, (n, .lst xs) :: cs⟩ = .ok false ⟨n + 1, (n, .lst xs) :: cs⟩ := by
      have g1 : pGe (.int W) (.int 1000000000000000000) ⟨n + 1, (n, .lst xs) :: cs⟩ = some (.bl (decide ((1000000000000000000 : Int) ≤ W)), ⟨n + 1, (n, .lst xs) :: cs⟩) := rfl
      by_cases c2 : (1000000000000000000 : Int) ≤ W
      · rw [decide_eq_true c2] at g1
        have g2 : pGt (.int left) (.int 0) ⟨n + 1, (n, .lst xs) :: cs⟩ = some (.bl false, ⟨n + 1, (n, .lst xs) :: cs⟩) := by
          show some (PV.bl (decide ((0 : Int) < left)), _) = _
          rw [decide_eq_false (fun z => c1 ⟨c2, z⟩)]
        repeat (first | with_reducible exact app_n | with_reducible exact ev_c | with_reducible exact ev_nil | with_reducible exact ev_nx | with_reducible exact ev_yes | with_reducible exact ev_moN | with_reducible exact ev_lcN | with_reducible exact ev_forN | with_reducible exact k_rt | with_reducible exact k_xc | with_reducible exact f_rt | with_reducible exact f_xc | with_reducible exact t_xc | with_reducible apply ev_cons | with_reducible apply ev_tup | with_reducible apply ev_lst | with_reducible apply ev_lstC | with_reducible apply ev_b1 | with_reducible apply ev_b2 | with_reducible apply ev_ba | with_reducible apply ev_call | with_reducible apply ev_callK | with_reducible apply ev_fld | with_reducible apply ev_meth | with_reducible apply ev_is | with_reducible apply ev_and | with_reducible apply ev_notV | with_reducible apply ev_if | with_reducible apply ev_tst | with_reducible apply ev_tru | with_reducible apply ev_not | with_reducible apply ev_tand | with_reducible apply ev_tor | with_reducible apply ev_sl | with_reducible apply ev_moS | with_reducible apply ev_lc | with_reducible apply ev_iter | with_reducible apply ev_enum | with_reducible apply ev_rng1 | with_reducible apply ev_eqO | with_reducible apply ev_seq' | with_reducible apply ev_set | with_reducible apply ev_ret | with_reducible apply ev_exp' | with_reducible apply ev_ifs | with_reducible apply ev_for | with_reducible apply ev_for' | with_reducible apply ev_stFh | with_reducible apply ev_stI | with_reducible apply ev_raise | with_reducible apply ev_apph | with_reducible apply ev_xf | with_reducible apply ev_isX | with_reducible apply k_nx | with_reducible apply f_nx | with_reducible apply t_ok | with_reducible apply ev_var | with_reducible exact pw | with_reducible exact g1 | with_reducible exact g2 | exact Nat.le_of_ble_eq_true rfl | ((with_reducible apply if_t); focus (exact rfl)) | ((with_reducible apply if_f); focus decide) | exact ⟨rfl, rfl⟩ | exact rfl)
      · rw [decide_eq_false c2] at g1
        repeat (first | with_reducible exact app_n | with_reducible exact ev_c | with_reducible exact ev_nil | with_reducible exact ev_nx | with_reducible exact ev_yes | with_reducible exact ev_moN | with_reducible exact ev_lcN | with_reducible exact ev_forN | with_reducible exact k_rt | with_reducible exact k_xc | with_reducible exact f_rt | with_reducible exact f_xc | with_reducible exact t_xc | with_reducible apply ev_cons | with_reducible apply ev_tup | with_reducible apply ev_lst | with_reducible apply ev_lstC | with_reducible apply ev_b1 | with_reducible apply ev_b2 | with_reducible apply ev_ba | with_reducible apply ev_call | with_reducible apply ev_callK | with_reducible apply ev_fld | with_reducible apply ev_meth | with_reducible apply ev_is | with_reducible apply ev_and | with_reducible apply ev_notV | with_reducible apply ev_if | with_reducible apply ev_tst | with_reducible apply ev_tru | with_reducible apply ev_not | with_reducible apply ev_tand | with_reducible apply ev_tor | with_reducible apply ev_sl | with_reducible apply ev_moS | with_reducible apply ev_lc | with_reducible apply ev_iter | with_reducible apply ev_enum | with_reducible apply ev_rng1 | with_reducible apply ev_eqO | with_reducible apply ev_seq' | with_reducible apply ev_set | with_reducible apply ev_ret | with_reducible apply ev_exp' | with_reducible apply ev_ifs | with_reducible apply ev_for | with_reducible apply ev_for' | with_reducible apply ev_stFh | with_reducible apply ev_stI | with_reducible apply ev_raise | with_reducible apply ev_apph | with_reducible apply ev_xf | with_reducible apply ev_isX | with_reducible apply k_nx | with_reducible apply f_nx | with_reducible apply t_ok | with_reducible apply ev_var | with_reducible exact pw | with_reducible exact g1 | exact Nat.le_of_ble_eq_true rfl | ((with_reducible apply if_t); focus (exact rfl)) | ((with_reducible apply if_f); focus decide) | exact ⟨rfl, rfl⟩ | exact rfl)
    have a0 : 0 ≤ W % 2147483629 := Int.emod_nonneg _ (by decide)
    have a1 : W % 2147483629 < 2147483629 := Int.emod_lt_of_pos _ (by decide)
    have q1 : pPow (.int (W % 2147483629 + 7717 * salt + 3)) (.int 3) ⟨n + 1, (n, .lst xs) :: cs⟩ = some (.int ((W % 2147483629 + 7717 * salt + 3) ^ (3 : Int).toNat), ⟨n + 1, (n, .lst xs) :: cs⟩) := pPow_ok ⟨by decide, by decide, by omega⟩
    let B : Int := (W % 2147483629 + 7717 * salt + 3) ^ (3 : Int).toNat % 2147483647
    have b0 : 0 ≤ B := Int.emod_nonneg _ (by decide)
    have b1 : B < 2147483647 := Int.emod_lt_of_pos _ (by decide)
    have q2 : pMul (.int (B + 99991 * (k + 1))) (.int (k + 5)) ⟨n + 1, (n, .lst xs) :: cs⟩ = some (.int ((B + 99991 * (k + 1)) * (k + 5)), ⟨n + 1, (n, .lst xs) :: cs⟩) := pMul_r ⟨by omega, by omega⟩
    let C : Int := (B + 99991 * (k + 1)) * (k + 5) % 2147483629
    have d0 : 0 ≤ C := Int.emod_nonneg _ (by decide)
    have d1 : C < 2147483629 := Int.emod_lt_of_pos _ (by decide)
    have q3 : pPow (.int C) (.int 5) ⟨n + 1, (n, .lst xs) :: cs⟩ = some (.int (C ^ (5 : Int).toNat), ⟨n + 1, (n, .lst xs) :: cs⟩) := pPow_ok ⟨by decide, by decide, by omega⟩
    have q4 : pMul (.int (C ^ (5 : Int).toNat % 2147483647)) (.int 48271) ⟨n + 1, (n, .lst xs) :: cs⟩ = some (.int (C ^ (5 : Int).toNat % 2147483647 * 48271), ⟨n + 1, (n, .lst xs) :: cs⟩) := pMul_r ⟨by decide, by decide⟩
    exact ⟨left, C ^ (5 : Int).toNat % 2147483647 * 48271 % 2147483629 / 16 % 840, _, ev_ifsF tst (by repeat (first | with_reducible exact app_n | with_reducible exact ev_c | with_reducible exact ev_nil | with_reducible exact ev_nx | with_reducible exact ev_yes | with_reducible exact ev_moN | with_reducible exact ev_lcN | with_reducible exact ev_forN | with_reducible exact k_rt | with_reducible exact k_xc | with_reducible exact f_rt | with_reducible exact f_xc | with_reducible exact t_xc | with_reducible apply ev_cons | with_reducible apply ev_tup | with_reducible apply ev_lst | with_reducible apply ev_lstC | with_reducible apply ev_b1 | with_reducible apply ev_b2 | with_reducible apply ev_ba | with_reducible apply ev_call | with_reducible apply ev_callK | with_reducible apply ev_fld | with_reducible apply ev_meth | with_reducible apply ev_is | with_reducible apply ev_and | with_reducible apply ev_notV | with_reducible apply ev_if | with_reducible apply ev_tst | with_reducible apply ev_tru | with_reducible apply ev_not | with_reducible apply ev_tand | with_reducible apply ev_tor | with_reducible apply ev_sl | with_reducible apply ev_moS | with_reducible apply ev_lc | with_reducible apply ev_iter | with_reducible apply ev_enum | with_reducible apply ev_rng1 | with_reducible apply ev_eqO | with_reducible apply ev_seq' | with_reducible apply ev_set | with_reducible apply ev_ret | with_reducible apply ev_exp' | with_reducible apply ev_ifs | with_reducible apply ev_for | with_reducible apply ev_for' | with_reducible apply ev_stFh | with_reducible apply ev_stI | with_reducible apply ev_raise | with_reducible apply ev_apph | with_reducible apply ev_xf | with_reducible apply ev_isX | with_reducible apply k_nx | with_reducible apply f_nx | with_reducible apply t_ok | with_reducible apply ev_var | with_reducible exact pw | with_reducible exact q1 | with_reducible exact q2 | with_reducible exact q3 | with_reducible exact q4 | with_reducible exact hz | exact Nat.le_of_ble_eq_true rfl | ((with_reducible apply if_t); focus (exact rfl)) | ((with_reducible apply if_f); focus decide) | exact ⟨rfl, rfl⟩ | exact rfl))⟩
theorem loop_ok {cell salt W : Int} {n : Nat} {cs : Cs} (hs : 0 ≤ salt ∧ salt ≤ 3) : ∀ (ks : List Int) (xs : List Int) (left : Int) (o6 o7 : Option PV), (∀ k ∈ ks, 0 ≤ k ∧ k < 120) → xs.length + ks.length < 1000 →
    ∃ (L : List Int) (left' : Int) (o o' : Option PV), mForL (gN 6) bodyN (ks.map PV.int) [some (.int cell), some (.int salt), some (.int 120), some (.int W), some (.int left), some (.ref n), o6, o7] ⟨n + 1, (n, .lst (xs.map PV.int)) :: cs⟩ =
      .nx [some (.int cell), some (.int salt), some (.int 120), some (.int W), some (.int left'), some (.ref n), o, o'] ⟨n + 1, (n, .lst (L.map PV.int)) :: cs⟩
  | [], xs, left, o6, o7, _, _ => ⟨xs, left, o6, o7, rfl⟩
  | k :: ks, xs, left, o6, o7, hk, hl => by
    obtain ⟨left', v, o, e⟩ := body_ok (cell := cell) (W := W) (left := left) (n := n) (cs := cs) (xs := xs.map PV.int) (o6 := o6) (o7 := o7) hs (hk k (List.mem_cons_self ..)) (by simp only [List.length_map, List.length_cons] at hl ⊢; omega)
    obtain ⟨L, l2, o1, o2, f⟩ := loop_ok hs ks (xs ++ [v]) left' (some (.int k)) o (fun y m => hk y (List.mem_cons_of_mem _ m)) (by simp only [List.length_append, List.length_cons, List.length_nil] at hl ⊢; omega)
    refine ⟨L, l2, o1, o2, ?_⟩
    have ex : xs.map PV.int ++ [PV.int v] = (xs ++ [v]).map PV.int := by simp
    rw [ex] at e
    exact ev_forC rfl e f
theorem numbers_ok {cell salt : Int} {n : Nat} {cs : Cs} (hs : 0 ≤ salt ∧ salt ≤ 3) (w : WF ⟨n, cs⟩) : ∃ L : List Int, r_law_numbers (pick [0, 1, 2] ([.int cell, .int salt, .int 120] ++ ([] ++ []))) ⟨n, cs⟩ = .ok (.lst (L.map PV.int)) ⟨n + 1, cs⟩ := by
  let W : Int := if (-1 - cell) > cell then -1 - cell else cell
  obtain ⟨L, l2, o1, o2, f⟩ := loop_ok (cell := cell) (W := W) (n := n) (cs := cs) hs ((List.range 120).map fun (j : Nat) => (j : Int)) [] W none none (fun k m => by
    simp only [List.mem_map, List.mem_range] at m
    obtain ⟨j, hj, e⟩ := m
    omega) (by simp)
  have er : rangeP 0 (120 : Int).toNat = ((List.range 120).map fun (j : Nat) => (j : Int)).map PV.int := by
    unfold rangeP
    simp
  rw [← er] at f
  refine ⟨L, ?_⟩
  show r_law_numbers [.int cell, .int salt, .int 120] ⟨n, cs⟩ = _
  unfold r_law_numbers
  refine ev_runB [some (.int cell), some (.int salt), some (.int 120), none, none, none, none, none] rfl rfl (s1 := .rt (.lst (L.map PV.int)) ⟨n + 1, cs⟩) ?_ ?_
  · unfold m_law_numbers
    have mx : pMax2 [.int cell, .int (-1 - cell)] ⟨n, cs⟩ = some (.int W, ⟨n, cs⟩) := rfl
    refine ev_seq (ev_set (v := .int W) (h1 := ⟨n, cs⟩) (by repeat (first | with_reducible exact app_n | with_reducible exact ev_c | with_reducible exact ev_nil | with_reducible exact ev_nx | with_reducible exact ev_yes | with_reducible exact ev_moN | with_reducible exact ev_lcN | with_reducible exact ev_forN | with_reducible exact k_rt | with_reducible exact k_xc | with_reducible exact f_rt | with_reducible exact f_xc | with_reducible exact t_xc | with_reducible apply ev_cons | with_reducible apply ev_tup | with_reducible apply ev_lst | with_reducible apply ev_lstC | with_reducible apply ev_b1 | with_reducible apply ev_b2 | with_reducible apply ev_ba | with_reducible apply ev_call | with_reducible apply ev_callK | with_reducible apply ev_fld | with_reducible apply ev_meth | with_reducible apply ev_is | with_reducible apply ev_and | with_reducible apply ev_notV | with_reducible apply ev_if | with_reducible apply ev_tst | with_reducible apply ev_tru | with_reducible apply ev_not | with_reducible apply ev_tand | with_reducible apply ev_tor | with_reducible apply ev_sl | with_reducible apply ev_moS | with_reducible apply ev_lc | with_reducible apply ev_iter | with_reducible apply ev_enum | with_reducible apply ev_rng1 | with_reducible apply ev_eqO | with_reducible apply ev_seq' | with_reducible apply ev_set | with_reducible apply ev_ret | with_reducible apply ev_exp' | with_reducible apply ev_ifs | with_reducible apply ev_for | with_reducible apply ev_for' | with_reducible apply ev_stFh | with_reducible apply ev_stI | with_reducible apply ev_raise | with_reducible apply ev_apph | with_reducible apply ev_xf | with_reducible apply ev_isX | with_reducible apply k_nx | with_reducible apply f_nx | with_reducible apply t_ok | with_reducible apply ev_var | with_reducible exact mx | exact Nat.le_of_ble_eq_true rfl | ((with_reducible apply if_t); focus (exact rfl)) | ((with_reducible apply if_f); focus decide) | exact ⟨rfl, rfl⟩ | exact rfl))) (ev_seq (ev_set (v := .int W) (h1 := ⟨n, cs⟩) (by repeat (first | with_reducible exact app_n | with_reducible exact ev_c | with_reducible exact ev_nil | with_reducible exact ev_nx | with_reducible exact ev_yes | with_reducible exact ev_moN | with_reducible exact ev_lcN | with_reducible exact ev_forN | with_reducible exact k_rt | with_reducible exact k_xc | with_reducible exact f_rt | with_reducible exact f_xc | with_reducible exact t_xc | with_reducible apply ev_cons | with_reducible apply ev_tup | with_reducible apply ev_lst | with_reducible apply ev_lstC | with_reducible apply ev_b1 | with_reducible apply ev_b2 | with_reducible apply ev_ba | with_reducible apply ev_call | with_reducible apply ev_callK | with_reducible apply ev_fld | with_reducible apply ev_meth | with_reducible apply ev_is | with_reducible apply ev_and | with_reducible apply ev_notV | with_reducible apply ev_if | with_reducible apply ev_tst | with_reducible apply ev_tru | with_reducible apply ev_not | with_reducible apply ev_tand | with_reducible apply ev_tor | with_reducible apply ev_sl | with_reducible apply ev_moS | with_reducible apply ev_lc | with_reducible apply ev_iter | with_reducible apply ev_enum | with_reducible apply ev_rng1 | with_reducible apply ev_eqO | with_reducible apply ev_seq' | with_reducible apply ev_set | with_reducible apply ev_ret | with_reducible apply ev_exp' | with_reducible apply ev_ifs | with_reducible apply ev_for | with_reducible apply ev_for' | with_reducible apply ev_stFh | with_reducible apply ev_stI | with_reducible apply ev_raise | with_reducible apply ev_apph | with_reducible apply ev_xf | with_reducible apply ev_isX | with_reducible apply k_nx | with_reducible apply f_nx | with_reducible apply t_ok | with_reducible apply ev_var | exact Nat.le_of_ble_eq_true rfl | ((with_reducible apply if_t); focus (exact rfl)) | ((with_reducible apply if_f); focus decide) | exact ⟨rfl, rfl⟩ | exact rfl))) (ev_seq (ev_set (ev_lstC ev_nil (Nat.le_of_ble_eq_true rfl))) (ev_seq (ev_for (ev_rng1 (x := 120) (by repeat (first | with_reducible exact app_n | with_reducible exact ev_c | with_reducible exact ev_nil | with_reducible exact ev_nx | with_reducible exact ev_yes | with_reducible exact ev_moN | with_reducible exact ev_lcN | with_reducible exact ev_forN | with_reducible exact k_rt | with_reducible exact k_xc | with_reducible exact f_rt | with_reducible exact f_xc | with_reducible exact t_xc | with_reducible apply ev_cons | with_reducible apply ev_tup | with_reducible apply ev_lst | with_reducible apply ev_lstC | with_reducible apply ev_b1 | with_reducible apply ev_b2 | with_reducible apply ev_ba | with_reducible apply ev_call | with_reducible apply ev_callK | with_reducible apply ev_fld | with_reducible apply ev_meth | with_reducible apply ev_is | with_reducible apply ev_and | with_reducible apply ev_notV | with_reducible apply ev_if | with_reducible apply ev_tst | with_reducible apply ev_tru | with_reducible apply ev_not | with_reducible apply ev_tand | with_reducible apply ev_tor | with_reducible apply ev_sl | with_reducible apply ev_moS | with_reducible apply ev_lc | with_reducible apply ev_iter | with_reducible apply ev_enum | with_reducible apply ev_rng1 | with_reducible apply ev_eqO | with_reducible apply ev_seq' | with_reducible apply ev_set | with_reducible apply ev_ret | with_reducible apply ev_exp' | with_reducible apply ev_ifs | with_reducible apply ev_for | with_reducible apply ev_for' | with_reducible apply ev_stFh | with_reducible apply ev_stI | with_reducible apply ev_raise | with_reducible apply ev_apph | with_reducible apply ev_xf | with_reducible apply ev_isX | with_reducible apply k_nx | with_reducible apply f_nx | with_reducible apply t_ok | with_reducible apply ev_var | exact Nat.le_of_ble_eq_true rfl | ((with_reducible apply if_t); focus (exact rfl)) | ((with_reducible apply if_f); focus decide) | exact ⟨rfl, rfl⟩ | exact rfl)) (by decide)) f) ?_)))
    refine ev_ret ?_
    unfold mFz
    show (fz (.ref n) ⟨n + 1, (n, .lst (L.map PV.int)) :: cs⟩) = _
    simp only [fz, MH.get, look, if_true, frozen, MH.del, delc, delc_wf w]
  · simp [endR, filt w]
end K04

namespace K04
open PySem PySem.Spec PyProof.Rows L2 Mi
theorem lay_ints : ∀ ns : List Int, PyData.canLayAll0 (ns.map PyData.int) = true
  | [] => rfl
  | _ :: r => by simp only [List.map_cons, PyData.canLayAll0, PyData.canLay0, Bool.true_and]; exact lay_ints r
theorem dep_ints : ∀ ns : List Int, PyData.depthAll (ns.map PyData.int) = 0
  | [] => rfl
  | _ :: r => by simp only [List.map_cons, PyData.depthAll, PyData.depth, dep_ints r]; rfl
theorem shp_ints (ns : List Int) : SeqAt.shaped (.list (ns.map PyData.int)) = true := by
  have e1 : PyData.canLay0 (.list (ns.map PyData.int)) = true := by simp only [PyData.canLay0]; exact lay_ints ns
  have e2 : PyData.depth (.list (ns.map PyData.int)) ≤ 64 := by simp only [PyData.depth, dep_ints]; decide
  unfold SeqAt.shaped
  rw [e1, decide_eq_true e2]; rfl
theorem neN (ns : List Int) (h : MH) : pNe (.scr ns) (.lst []) h = some (.bl (!ns.isEmpty), h) := by
  show ((if SeqAt.shaped (.list (ns.map PyData.int)) = true ∧ SeqAt.shaped (.list []) = true then some (PyData.eqv (.list (ns.map PyData.int)) (.list [])) else none).map fun b => (PV.bl (!b), h)) = _
  rw [if_pos ⟨shp_ints ns, rfl⟩]
  cases ns <;> simp [PyData.eqv, PyData.eqvAll]
theorem opened_ok {ns : List Int} {k n : Nat} {cs : Cs} (hk : k ≤ 3) (hn : ns = [] ∨ k < ns.length) (w : WF ⟨n, cs⟩) :
    ∃ L : List Int, r_law_opened (pick [0, 1, 2] ([.scr ns, .int k, .int 120] ++ ([] ++ []))) ⟨n, cs⟩ = .ok (.ref (n + 1)) ⟨n + 2, (n + 1, .lst [.lst (L.map PV.int), .int 0]) :: cs⟩ := by
  have ne := neN ns ⟨n, cs⟩
  have key : ∀ cell : Int, mIf (mTst (mB2 pNe (mVar 0) (mLst (mNil)))) (mB2 pIx (mVar 0) (mVar 1)) (mC (.int 5)) [some (.scr ns), some (.int k), some (.int 120), none] ⟨n, cs⟩ = .ok (.int cell) ⟨n, cs⟩ →
      ∃ L : List Int, r_law_opened (pick [0, 1, 2] ([.scr ns, .int k, .int 120] ++ ([] ++ []))) ⟨n, cs⟩ = .ok (.ref (n + 1)) ⟨n + 2, (n + 1, .lst [.lst (L.map PV.int), .int 0]) :: cs⟩ := fun cell e => by
    obtain ⟨L, f⟩ := numbers_ok (cell := cell) (salt := (k : Int)) (n := n) (cs := cs) ⟨by omega, by omega⟩ w
    refine ⟨L, ?_⟩
    show r_law_opened [.scr ns, .int k, .int 120] ⟨n, cs⟩ = _
    unfold r_law_opened
    refine ev_runB [some (.scr ns), some (.int k), some (.int 120), none] rfl rfl (s1 := .rt (.ref (n + 1)) ⟨n + 2, (n + 1, .lst [.lst (L.map PV.int), .int 0]) :: cs⟩) ?_ rfl
    unfold m_law_opened
    refine ev_seq (ev_set e) (ev_ret ?_)
    have z : mCons (mCall 3 (fun ps qs h => r_law_numbers (pick [0, 1, 2] (ps ++ ([] ++ qs))) h) (mCons (mVar 3) (mCons (mVar 1) (mCons (mVar 2) (mNil))))) (mCons (mC (.int 0)) (mNil)) ([some (.scr ns), some (.int k), some (.int 120), none].set 3 (some (.int cell))) ⟨n, cs⟩ = .ok [.lst (L.map PV.int), .int 0] ⟨n + 1, cs⟩ := by
      repeat (first | with_reducible exact app_n | with_reducible exact ev_c | with_reducible exact ev_nil | with_reducible exact ev_nx | with_reducible exact ev_yes | with_reducible exact ev_moN | with_reducible exact ev_lcN | with_reducible exact ev_forN | with_reducible exact k_rt | with_reducible exact k_xc | with_reducible exact f_rt | with_reducible exact f_xc | with_reducible exact t_xc | with_reducible apply ev_cons | with_reducible apply ev_tup | with_reducible apply ev_lst | with_reducible apply ev_lstC | with_reducible apply ev_b1 | with_reducible apply ev_b2 | with_reducible apply ev_ba | with_reducible apply ev_call | with_reducible apply ev_callK | with_reducible apply ev_fld | with_reducible apply ev_meth | with_reducible apply ev_is | with_reducible apply ev_and | with_reducible apply ev_notV | with_reducible apply ev_if | with_reducible apply ev_tst | with_reducible apply ev_tru | with_reducible apply ev_not | with_reducible apply ev_tand | with_reducible apply ev_tor | with_reducible apply ev_sl | with_reducible apply ev_moS | with_reducible apply ev_lc | with_reducible apply ev_iter | with_reducible apply ev_enum | with_reducible apply ev_rng1 | with_reducible apply ev_eqO | with_reducible apply ev_seq' | with_reducible apply ev_set | with_reducible apply ev_ret | with_reducible apply ev_exp' | with_reducible apply ev_ifs | with_reducible apply ev_for | with_reducible apply ev_for' | with_reducible apply ev_stFh | with_reducible apply ev_stI | with_reducible apply ev_raise | with_reducible apply ev_apph | with_reducible apply ev_xf | with_reducible apply ev_isX | with_reducible apply k_nx | with_reducible apply f_nx | with_reducible apply t_ok | with_reducible apply ev_var | with_reducible exact f | exact Nat.le_of_ble_eq_true rfl | ((with_reducible apply if_t); focus (exact rfl)) | ((with_reducible apply if_f); focus decide) | exact ⟨rfl, rfl⟩ | exact rfl)
    exact ev_lstC z (Nat.le_of_ble_eq_true rfl)
  cases ns with
  | nil => exact key 5 (by repeat (first | with_reducible exact app_n | with_reducible exact ev_c | with_reducible exact ev_nil | with_reducible exact ev_nx | with_reducible exact ev_yes | with_reducible exact ev_moN | with_reducible exact ev_lcN | with_reducible exact ev_forN | with_reducible exact k_rt | with_reducible exact k_xc | with_reducible exact f_rt | with_reducible exact f_xc | with_reducible exact t_xc | with_reducible apply ev_cons | with_reducible apply ev_tup | with_reducible apply ev_lst | with_reducible apply ev_lstC | with_reducible apply ev_b1 | with_reducible apply ev_b2 | with_reducible apply ev_ba | with_reducible apply ev_call | with_reducible apply ev_callK | with_reducible apply ev_fld | with_reducible apply ev_meth | with_reducible apply ev_is | with_reducible apply ev_and | with_reducible apply ev_notV | with_reducible apply ev_if | with_reducible apply ev_tst | with_reducible apply ev_tru | with_reducible apply ev_not | with_reducible apply ev_tand | with_reducible apply ev_tor | with_reducible apply ev_sl | with_reducible apply ev_moS | with_reducible apply ev_lc | with_reducible apply ev_iter | with_reducible apply ev_enum | with_reducible apply ev_rng1 | with_reducible apply ev_eqO | with_reducible apply ev_seq' | with_reducible apply ev_set | with_reducible apply ev_ret | with_reducible apply ev_exp' | with_reducible apply ev_ifs | with_reducible apply ev_for | with_reducible apply ev_for' | with_reducible apply ev_stFh | with_reducible apply ev_stI | with_reducible apply ev_raise | with_reducible apply ev_apph | with_reducible apply ev_xf | with_reducible apply ev_isX | with_reducible apply k_nx | with_reducible apply f_nx | with_reducible apply t_ok | with_reducible apply ev_var | with_reducible exact ne | exact Nat.le_of_ble_eq_true rfl | ((with_reducible apply if_t); focus (exact rfl)) | ((with_reducible apply if_f); focus decide) | exact ⟨rfl, rfl⟩ | exact rfl))
  | cons x r =>
    have hk2 : k < (x :: r).length := by
      rcases hn with e | e
      · cases e
      · exact e
    have d : pIx (.scr (x :: r)) (.int (k : Int)) ⟨n, cs⟩ = some (.int (x :: r)[k], ⟨n, cs⟩) := by
      have a : atI ((x :: r).map PV.int) (k : Int) = some (.int (x :: r)[k]) := by
        have i : ixN ((x :: r).map PV.int).length (k : Int) = some k := by
          unfold ixN
          rw [if_pos (by omega), if_pos (by rw [List.length_map]; omega)]
          simp
        unfold atI
        rw [i]
        show ((x :: r).map PV.int)[k]? = _
        rw [List.getElem?_map, List.getElem?_eq_getElem hk2]
        rfl
      unfold pIx
      dsimp only [asD, asS, asL]
      rw [a]
      rfl
    exact key (x :: r)[k] (by repeat (first | with_reducible exact app_n | with_reducible exact ev_c | with_reducible exact ev_nil | with_reducible exact ev_nx | with_reducible exact ev_yes | with_reducible exact ev_moN | with_reducible exact ev_lcN | with_reducible exact ev_forN | with_reducible exact k_rt | with_reducible exact k_xc | with_reducible exact f_rt | with_reducible exact f_xc | with_reducible exact t_xc | with_reducible apply ev_cons | with_reducible apply ev_tup | with_reducible apply ev_lst | with_reducible apply ev_lstC | with_reducible apply ev_b1 | with_reducible apply ev_b2 | with_reducible apply ev_ba | with_reducible apply ev_call | with_reducible apply ev_callK | with_reducible apply ev_fld | with_reducible apply ev_meth | with_reducible apply ev_is | with_reducible apply ev_and | with_reducible apply ev_notV | with_reducible apply ev_if | with_reducible apply ev_tst | with_reducible apply ev_tru | with_reducible apply ev_not | with_reducible apply ev_tand | with_reducible apply ev_tor | with_reducible apply ev_sl | with_reducible apply ev_moS | with_reducible apply ev_lc | with_reducible apply ev_iter | with_reducible apply ev_enum | with_reducible apply ev_rng1 | with_reducible apply ev_eqO | with_reducible apply ev_seq' | with_reducible apply ev_set | with_reducible apply ev_ret | with_reducible apply ev_exp' | with_reducible apply ev_ifs | with_reducible apply ev_for | with_reducible apply ev_for' | with_reducible apply ev_stFh | with_reducible apply ev_stI | with_reducible apply ev_raise | with_reducible apply ev_apph | with_reducible apply ev_xf | with_reducible apply ev_isX | with_reducible apply k_nx | with_reducible apply f_nx | with_reducible apply t_ok | with_reducible apply ev_var | with_reducible exact ne | with_reducible exact d | exact Nat.le_of_ble_eq_true rfl | ((with_reducible apply if_t); focus (exact rfl)) | ((with_reducible apply if_f); focus decide) | exact ⟨rfl, rfl⟩ | exact rfl))
end K04

namespace K04
open PySem PySem.Spec PyProof.Rows L2 Mi
abbrev NM : List PV := [.str "event", .str "deed", .str "call", .str "by", .str "may"]
theorem odds_E (h : MH) : r_law_odds (pick [0] ([.str "event"] ++ ([] ++ []))) h = .ok (.lst oddE) (gc h) := by kernel_rfl
theorem odds_D (h : MH) : r_law_odds (pick [0] ([.str "deed"] ++ ([] ++ []))) h = .ok (.lst oddW) (gc h) := by kernel_rfl
theorem odds_C (h : MH) : r_law_odds (pick [0] ([.str "call"] ++ ([] ++ []))) h = .ok (.lst oddW) (gc h) := by kernel_rfl
theorem odds_B (h : MH) : r_law_odds (pick [0] ([.str "by"] ++ ([] ++ []))) h = .ok (.lst oddB) (gc h) := by kernel_rfl
theorem odds_M (h : MH) : r_law_odds (pick [0] ([.str "may"] ++ ([] ++ []))) h = .ok (.lst oddM) (gc h) := by kernel_rfl
theorem cl_odds {p : PV} (h : p ∈ oddE ∨ p ∈ oddW ∨ p ∈ oddB ∨ p ∈ oddM) : cleanP p = true := by
  have e : ∀ l : List PV, cleanL l = true → p ∈ l → cleanP p = true := by
    intro l
    induction l with
    | nil => intro _ z; cases z
    | cons q r ih =>
      intro c z
      simp only [cleanL, Bool.and_eq_true] at c
      rcases List.mem_cons.mp z with rfl | z
      · exact c.1
      · exact ih c.2 z
  rcases h with h | h | h | h
  · exact e oddE rfl h
  · exact e oddW rfl h
  · exact e oddB rfl h
  · exact e oddM rfl h
/-- a valid waking's parts -/
structure GoodP (a1 a2 a3 a4 : Str) (m : Bool) : Prop where
  v1 : VE (.str a1) true
  v2 : VW (.str a2) true
  v3 : VW (.str a3) true
  v4 : VB (.str a4) true
theorem GoodP.v5 {a1 a2 a3 a4 : Str} {m : Bool} (g : GoodP a1 a2 a3 a4 m) : VM (.bl m) true := ⟨.ty "bool", fun _ => rfl, by decide +kernel⟩
abbrev gd (a1 a2 a3 a4 : Str) (m : Bool) : PV := .dct (dct5 (.str a1) (.str a2) (.str a3) (.str a4) (.bl m))
theorem SI.newD {x n : Nat} {cs : Cs} {d : List (Key × PV)} (s : SI x ⟨n, cs⟩) (c : cleanD d = true) (j : Nat) : SI x ⟨n + 1 + j, (n, .dct d) :: cs⟩ := by
  obtain ⟨w, cl, L, k, g⟩ := s
  have lt := wf_lt w g
  refine ⟨fun q m => ?_, ?_, L, k, ?_⟩
  · rcases List.mem_cons.mp m with e | m
    · rw [e]; show n < n + 1 + j; omega
    · have := w q m
      show q.1 < n + 1 + j
      have : q.1 < n := this
      omega
  · show (cleanD d && _) = true
    rw [c]; exact cl
  · show look ((n, .dct d) :: cs) x = _
    simp only [look]
    rw [if_neg (by have : x < n := lt; omega)]
    exact g
theorem SI.putD {x y : Nat} {h : MH} {d e : List (Key × PV)} (s : SI x h) (g : h.get y = some (.dct e)) (c : cleanD d = true) : SI x (h.put y (.dct d)) ∧ (h.put y (.dct d)).get y = some (.dct d) := by
  obtain ⟨w, cl, L, k, gx⟩ := s
  have ne : x ≠ y := fun z => by rw [z, g] at gx; cases gx
  exact ⟨⟨wf_put w (wf_lt w g), cl_put cl c, L, k, by rw [MH.get_put, if_neg ne]; exact gx⟩, by rw [MH.get_put, if_pos rfl]⟩
theorem SI.up {x : Nat} {h : MH} (s : SI x h) : SI x ⟨h.nx + 1, h.cs⟩ := ⟨fun q m => Nat.lt_succ_of_lt (s.wf q m), s.cl, s.pool⟩
abbrev bodyO : MS := (mSeq (mSet 13 (mBA pDictPC (mCons (mLc [15] (mIter (mVar 1)) (gN 15) (mYes) (mTup (mCons (mVar 15) (mCons (mB2 pIx (mVar 5) (mVar 15)) (mNil))))) (mNil))))
    (mSeq (mStIx (mVar 12) (mVar 13) (mVar 10))
    (mSeq (mIfS (mTst (mB2 pNe (mCall 1 (fun ps qs h => r_law_tried (pick [0] (ps ++ ([] ++ qs))) h) (mCons (mVar 13) (mNil))) (mLst (mCons (mVar 10) (mCons (mC (.bl true)) (mNil))))))
    (mRet (mC (.bl false)))
    (mNx))
    (mSeq (mSet 14 (mCall 2 (fun ps qs h => r_law_pick (pick [0, 1] (ps ++ ([] ++ qs))) h) (mCons (mVar 3) (mCons (mSl (mVar 1) (moS (mVar 9)) (moN)) (mNil)))))
    (mSeq (mIfS (mTst (mB2 pNe (mVar 14) (mVar 10)))
    (mStIx (mCall 2 (fun ps qs h => r_law_pick (pick [0, 1] (ps ++ ([] ++ qs))) h) (mCons (mVar 3) (mCons (mCall 1 (fun ps qs h => r_law_odds (pick [0] (ps ++ ([] ++ qs))) h) (mCons (mVar 14) (mNil))) (mNil)))) (mVar 13) (mVar 14))
    (mNx))
    (mIfS (mTst (mB2 pNe (mCall 1 (fun ps qs h => r_law_tried (pick [0] (ps ++ ([] ++ qs))) h) (mCons (mVar 13) (mNil))) (mLst (mCons (mVar 10) (mCons (mC (.bl true)) (mNil))))))
    (mRet (mC (.bl false)))
    (mNx)))))))
section
variable {a1 a2 a3 a4 : Str} {m : Bool} {x : Nat} {h : MH} {o0 o2 o4 o6 o7 o8 o11 o13 o14 o15 : Option PV}

theorem nl_event (h : MH) : pNe (.lst [.str "event", .bl true]) (.lst [.str "event", .bl true]) h = some (.bl false, h) := by kernel_rfl
theorem ns_event_event (h : MH) : pNe (.str "event") (.str "event") h = some (.bl false, h) := by kernel_rfl
theorem ns_deed_event (h : MH) : pNe (.str "deed") (.str "event") h = some (.bl true, h) := by kernel_rfl
theorem ns_call_event (h : MH) : pNe (.str "call") (.str "event") h = some (.bl true, h) := by kernel_rfl
theorem ns_by_event (h : MH) : pNe (.str "by") (.str "event") h = some (.bl true, h) := by kernel_rfl
theorem ns_may_event (h : MH) : pNe (.str "may") (.str "event") h = some (.bl true, h) := by kernel_rfl
theorem nl_deed (h : MH) : pNe (.lst [.str "deed", .bl true]) (.lst [.str "deed", .bl true]) h = some (.bl false, h) := by kernel_rfl
theorem ns_deed_deed (h : MH) : pNe (.str "deed") (.str "deed") h = some (.bl false, h) := by kernel_rfl
theorem ns_call_deed (h : MH) : pNe (.str "call") (.str "deed") h = some (.bl true, h) := by kernel_rfl
theorem ns_by_deed (h : MH) : pNe (.str "by") (.str "deed") h = some (.bl true, h) := by kernel_rfl
theorem ns_may_deed (h : MH) : pNe (.str "may") (.str "deed") h = some (.bl true, h) := by kernel_rfl
theorem nl_call (h : MH) : pNe (.lst [.str "call", .bl true]) (.lst [.str "call", .bl true]) h = some (.bl false, h) := by kernel_rfl
theorem ns_call_call (h : MH) : pNe (.str "call") (.str "call") h = some (.bl false, h) := by kernel_rfl
theorem ns_by_call (h : MH) : pNe (.str "by") (.str "call") h = some (.bl true, h) := by kernel_rfl
theorem ns_may_call (h : MH) : pNe (.str "may") (.str "call") h = some (.bl true, h) := by kernel_rfl
theorem nl_by (h : MH) : pNe (.lst [.str "by", .bl true]) (.lst [.str "by", .bl true]) h = some (.bl false, h) := by kernel_rfl
theorem ns_by_by (h : MH) : pNe (.str "by") (.str "by") h = some (.bl false, h) := by kernel_rfl
theorem ns_may_by (h : MH) : pNe (.str "may") (.str "by") h = some (.bl true, h) := by kernel_rfl
theorem nl_may (h : MH) : pNe (.lst [.str "may", .bl true]) (.lst [.str "may", .bl true]) h = some (.bl false, h) := by kernel_rfl
theorem ns_may_may (h : MH) : pNe (.str "may") (.str "may") h = some (.bl false, h) := by kernel_rfl
theorem turn_event (g : GoodP a1 a2 a3 a4 m) (s : SI x h) {od : PV} (ho : od ∈ oddE) : ∃ (q13 q14 : Option PV) (h' : MH), bodyO [o0, some (.lst NM), o2, some (.ref x), o4, some (gd a1 a2 a3 a4 m), o6, o7, o8, some (.int 0), some (.str "event"), o11, some od, o13, o14, o15] h = .nx [o0, some (.lst NM), o2, some (.ref x), o4, some (gd a1 a2 a3 a4 m), o6, o7, o8, some (.int 0), some (.str "event"), o11, some od, q13, q14, o15] h' ∧ SI x h' := by
  obtain ⟨n, cs⟩ := h
  have co : cleanP od = true := cl_odds (.inl ho)
  have cd : cleanD (dct5 (od) (.str a2) (.str a3) (.str a4) (.bl m)) = true := by simp [dct5, cleanD, cleanP, co]
  have dk : pDictPC [.lst [.tup [.str "event", .str a1], .tup [.str "deed", .str a2], .tup [.str "call", .str a3], .tup [.str "by", .str a4], .tup [.str "may", .bl m]]] ⟨n, cs⟩ = some (.ref n, ⟨n + 1, (n, .dct (dct5 (.str a1) (.str a2) (.str a3) (.str a4) (.bl m))) :: cs⟩) := rfl
  have st : stIx (.ref n) (.str "event") od ⟨n + 1, (n, .dct (dct5 (.str a1) (.str a2) (.str a3) (.str a4) (.bl m))) :: cs⟩ = some ⟨n + 1, (n, .dct (dct5 (od) (.str a2) (.str a3) (.str a4) (.bl m))) :: cs⟩ := by
    have gh : (⟨n + 1, (n, .dct (dct5 (.str a1) (.str a2) (.str a3) (.str a4) (.bl m))) :: cs⟩ : MH).get n = some (.dct (dct5 (.str a1) (.str a2) (.str a3) (.str a4) (.bl m))) := if_pos rfl
    rw [stIx_d (q := .str "event") (v := od) (ky := .inr "event") gh rfl (Nat.le_of_ble_eq_true rfl)]
    unfold MH.put
    simp only [putc, if_true]
    rfl
  have s1 := s.newD cd 0
  have t1 : r_law_tried (pick [0] ([.ref n] ++ ([] ++ []))) ⟨n + 1, (n, .dct (dct5 (od) (.str a2) (.str a3) (.str a4) (.bl m))) :: cs⟩ = .ok (.lst [.str "event", .bl true]) ⟨n + 1 + 1, (n, .dct (dct5 (od) (.str a2) (.str a3) (.str a4) (.bl m))) :: cs⟩ := tried_ok (badE od ho) g.v2 g.v3 g.v4 g.v5 s1.wf s1.cl (if_pos rfl) rfl
  have s2 := s.newD cd 1
  obtain ⟨v, h3, hv, pk, s3, nx3, oth⟩ := pick_ok (ys := cutP NM (some 0) none) s2 (by decide)
  have nx_ : n ≠ x := by
    obtain ⟨L, k, gx⟩ := s.pool
    have := wf_lt s.wf gx
    have : x < n := this
    omega
  have gn : h3.get n = some (.dct (dct5 (od) (.str a2) (.str a3) (.str a4) (.bl m))) := by rw [oth n nx_]; exact if_pos rfl
  obtain ⟨n3, c3⟩ := h3
  have ev : cutP NM (some 0) none = [.str "event", .str "deed", .str "call", .str "by", .str "may"] := rfl
  rw [ev] at hv
  simp only [List.mem_cons, List.not_mem_nil, or_false] at hv
  rcases hv with rfl | rfl | rfl | rfl | rfl
  · have t2 : r_law_tried (pick [0] ([.ref n] ++ ([] ++ []))) ⟨n3, c3⟩ = .ok (.lst [.str "event", .bl true]) ⟨n3 + 1, c3⟩ := tried_ok (badE od ho) g.v2 g.v3 g.v4 g.v5 s3.wf s3.cl gn rfl
    exact ⟨_, _, ⟨n3 + 1, c3⟩, by repeat (first | with_reducible exact app_n | with_reducible exact ev_c | with_reducible exact ev_nil | with_reducible exact ev_nx | with_reducible exact ev_yes | with_reducible exact ev_moN | with_reducible exact ev_lcN | with_reducible exact ev_forN | with_reducible exact k_rt | with_reducible exact k_xc | with_reducible exact f_rt | with_reducible exact f_xc | with_reducible exact t_xc | with_reducible apply ev_cons | with_reducible apply ev_tup | with_reducible apply ev_lst | with_reducible apply ev_lstC | with_reducible apply ev_b1 | with_reducible apply ev_b2 | with_reducible apply ev_ba | with_reducible apply ev_call | with_reducible apply ev_callK | with_reducible apply ev_fld | with_reducible apply ev_meth | with_reducible apply ev_is | with_reducible apply ev_and | with_reducible apply ev_notV | with_reducible apply ev_if | with_reducible apply ev_tst | with_reducible apply ev_tru | with_reducible apply ev_not | with_reducible apply ev_tand | with_reducible apply ev_tor | with_reducible apply ev_sl | with_reducible apply ev_moS | with_reducible apply ev_lc | with_reducible apply ev_iter | with_reducible apply ev_enum | with_reducible apply ev_rng1 | with_reducible apply ev_eqO | with_reducible apply ev_seq' | with_reducible apply ev_set | with_reducible apply ev_ret | with_reducible apply ev_exp' | with_reducible apply ev_ifs | with_reducible apply ev_for | with_reducible apply ev_for' | with_reducible apply ev_stFh | with_reducible apply ev_stI | with_reducible apply ev_raise | with_reducible apply ev_apph | with_reducible apply ev_xf | with_reducible apply ev_isX | with_reducible apply k_nx | with_reducible apply f_nx | with_reducible apply t_ok | with_reducible apply ev_var | with_reducible exact dk | with_reducible exact st | with_reducible exact t1 | with_reducible exact pk | with_reducible exact t2 | with_reducible exact nl_event _ | with_reducible exact ns_event_event _ | exact Nat.le_of_ble_eq_true rfl | ((with_reducible apply if_t); focus (exact rfl)) | ((with_reducible apply if_f); focus decide) | exact ⟨rfl, rfl⟩ | exact rfl), s3.up⟩
  · have od2 := odds_D ⟨n3, c3⟩
    rw [gc_wf s3.wf] at od2
    obtain ⟨v2, h4, hv2, pk2, s4, nx4, oth4⟩ := pick_ok (ys := oddW) s3 (by unfold oddW; exact List.cons_ne_nil _ _)
    have gn4 : h4.get n = some (.dct (dct5 (od) (.str a2) (.str a3) (.str a4) (.bl m))) := by rw [oth4 n nx_]; exact gn
    have cd2 : cleanD (dct5 (od) (v2) (.str a3) (.str a4) (.bl m)) = true := by simp [dct5, cleanD, cleanP, co, cl_odds (p := v2) (.inr (.inl hv2))]
    have st2 : stIx (.ref n) (.str "deed") v2 h4 = some (h4.put n (.dct (dct5 (od) (v2) (.str a3) (.str a4) (.bl m)))) := stIx_d (ky := .inr "deed") gn4 rfl (Nat.le_of_ble_eq_true rfl)
    obtain ⟨s5, gn5⟩ := s4.putD gn4 cd2
    have t2 : r_law_tried (pick [0] ([.ref n] ++ ([] ++ []))) (h4.put n (.dct (dct5 (od) (v2) (.str a3) (.str a4) (.bl m)))) = .ok (.lst [.str "event", .bl true]) ⟨(h4.put n (.dct (dct5 (od) (v2) (.str a3) (.str a4) (.bl m)))).nx + 1, (h4.put n (.dct (dct5 (od) (v2) (.str a3) (.str a4) (.bl m)))).cs⟩ := tried_ok (badE od ho) (badW v2 hv2) g.v3 g.v4 g.v5 s5.wf s5.cl gn5 rfl
    exact ⟨_, _, _, by repeat (first | with_reducible exact app_n | with_reducible exact ev_c | with_reducible exact ev_nil | with_reducible exact ev_nx | with_reducible exact ev_yes | with_reducible exact ev_moN | with_reducible exact ev_lcN | with_reducible exact ev_forN | with_reducible exact k_rt | with_reducible exact k_xc | with_reducible exact f_rt | with_reducible exact f_xc | with_reducible exact t_xc | with_reducible apply ev_cons | with_reducible apply ev_tup | with_reducible apply ev_lst | with_reducible apply ev_lstC | with_reducible apply ev_b1 | with_reducible apply ev_b2 | with_reducible apply ev_ba | with_reducible apply ev_call | with_reducible apply ev_callK | with_reducible apply ev_fld | with_reducible apply ev_meth | with_reducible apply ev_is | with_reducible apply ev_and | with_reducible apply ev_notV | with_reducible apply ev_if | with_reducible apply ev_tst | with_reducible apply ev_tru | with_reducible apply ev_not | with_reducible apply ev_tand | with_reducible apply ev_tor | with_reducible apply ev_sl | with_reducible apply ev_moS | with_reducible apply ev_lc | with_reducible apply ev_iter | with_reducible apply ev_enum | with_reducible apply ev_rng1 | with_reducible apply ev_eqO | with_reducible apply ev_seq' | with_reducible apply ev_set | with_reducible apply ev_ret | with_reducible apply ev_exp' | with_reducible apply ev_ifs | with_reducible apply ev_for | with_reducible apply ev_for' | with_reducible apply ev_stFh | with_reducible apply ev_stI | with_reducible apply ev_raise | with_reducible apply ev_apph | with_reducible apply ev_xf | with_reducible apply ev_isX | with_reducible apply k_nx | with_reducible apply f_nx | with_reducible apply t_ok | with_reducible apply ev_var | with_reducible exact dk | with_reducible exact st | with_reducible exact t1 | with_reducible exact pk | with_reducible exact od2 | with_reducible exact pk2 | with_reducible exact st2 | with_reducible exact t2 | with_reducible exact nl_event _ | with_reducible exact ns_deed_event _ | exact Nat.le_of_ble_eq_true rfl | ((with_reducible apply if_t); focus (exact rfl)) | ((with_reducible apply if_f); focus decide) | exact ⟨rfl, rfl⟩ | exact rfl), s5.up⟩
  · have od2 := odds_C ⟨n3, c3⟩
    rw [gc_wf s3.wf] at od2
    obtain ⟨v2, h4, hv2, pk2, s4, nx4, oth4⟩ := pick_ok (ys := oddW) s3 (by unfold oddW; exact List.cons_ne_nil _ _)
    have gn4 : h4.get n = some (.dct (dct5 (od) (.str a2) (.str a3) (.str a4) (.bl m))) := by rw [oth4 n nx_]; exact gn
    have cd2 : cleanD (dct5 (od) (.str a2) (v2) (.str a4) (.bl m)) = true := by simp [dct5, cleanD, cleanP, co, cl_odds (p := v2) (.inr (.inl hv2))]
    have st2 : stIx (.ref n) (.str "call") v2 h4 = some (h4.put n (.dct (dct5 (od) (.str a2) (v2) (.str a4) (.bl m)))) := stIx_d (ky := .inr "call") gn4 rfl (Nat.le_of_ble_eq_true rfl)
    obtain ⟨s5, gn5⟩ := s4.putD gn4 cd2
    have t2 : r_law_tried (pick [0] ([.ref n] ++ ([] ++ []))) (h4.put n (.dct (dct5 (od) (.str a2) (v2) (.str a4) (.bl m)))) = .ok (.lst [.str "event", .bl true]) ⟨(h4.put n (.dct (dct5 (od) (.str a2) (v2) (.str a4) (.bl m)))).nx + 1, (h4.put n (.dct (dct5 (od) (.str a2) (v2) (.str a4) (.bl m)))).cs⟩ := tried_ok (badE od ho) g.v2 (badW v2 hv2) g.v4 g.v5 s5.wf s5.cl gn5 rfl
    exact ⟨_, _, _, by repeat (first | with_reducible exact app_n | with_reducible exact ev_c | with_reducible exact ev_nil | with_reducible exact ev_nx | with_reducible exact ev_yes | with_reducible exact ev_moN | with_reducible exact ev_lcN | with_reducible exact ev_forN | with_reducible exact k_rt | with_reducible exact k_xc | with_reducible exact f_rt | with_reducible exact f_xc | with_reducible exact t_xc | with_reducible apply ev_cons | with_reducible apply ev_tup | with_reducible apply ev_lst | with_reducible apply ev_lstC | with_reducible apply ev_b1 | with_reducible apply ev_b2 | with_reducible apply ev_ba | with_reducible apply ev_call | with_reducible apply ev_callK | with_reducible apply ev_fld | with_reducible apply ev_meth | with_reducible apply ev_is | with_reducible apply ev_and | with_reducible apply ev_notV | with_reducible apply ev_if | with_reducible apply ev_tst | with_reducible apply ev_tru | with_reducible apply ev_not | with_reducible apply ev_tand | with_reducible apply ev_tor | with_reducible apply ev_sl | with_reducible apply ev_moS | with_reducible apply ev_lc | with_reducible apply ev_iter | with_reducible apply ev_enum | with_reducible apply ev_rng1 | with_reducible apply ev_eqO | with_reducible apply ev_seq' | with_reducible apply ev_set | with_reducible apply ev_ret | with_reducible apply ev_exp' | with_reducible apply ev_ifs | with_reducible apply ev_for | with_reducible apply ev_for' | with_reducible apply ev_stFh | with_reducible apply ev_stI | with_reducible apply ev_raise | with_reducible apply ev_apph | with_reducible apply ev_xf | with_reducible apply ev_isX | with_reducible apply k_nx | with_reducible apply f_nx | with_reducible apply t_ok | with_reducible apply ev_var | with_reducible exact dk | with_reducible exact st | with_reducible exact t1 | with_reducible exact pk | with_reducible exact od2 | with_reducible exact pk2 | with_reducible exact st2 | with_reducible exact t2 | with_reducible exact nl_event _ | with_reducible exact ns_call_event _ | exact Nat.le_of_ble_eq_true rfl | ((with_reducible apply if_t); focus (exact rfl)) | ((with_reducible apply if_f); focus decide) | exact ⟨rfl, rfl⟩ | exact rfl), s5.up⟩
  · have od2 := odds_B ⟨n3, c3⟩
    rw [gc_wf s3.wf] at od2
    obtain ⟨v2, h4, hv2, pk2, s4, nx4, oth4⟩ := pick_ok (ys := oddB) s3 (by unfold oddB; exact List.cons_ne_nil _ _)
    have gn4 : h4.get n = some (.dct (dct5 (od) (.str a2) (.str a3) (.str a4) (.bl m))) := by rw [oth4 n nx_]; exact gn
    have cd2 : cleanD (dct5 (od) (.str a2) (.str a3) (v2) (.bl m)) = true := by simp [dct5, cleanD, cleanP, co, cl_odds (p := v2) (.inr (.inr (.inl hv2)))]
    have st2 : stIx (.ref n) (.str "by") v2 h4 = some (h4.put n (.dct (dct5 (od) (.str a2) (.str a3) (v2) (.bl m)))) := stIx_d (ky := .inr "by") gn4 rfl (Nat.le_of_ble_eq_true rfl)
    obtain ⟨s5, gn5⟩ := s4.putD gn4 cd2
    have t2 : r_law_tried (pick [0] ([.ref n] ++ ([] ++ []))) (h4.put n (.dct (dct5 (od) (.str a2) (.str a3) (v2) (.bl m)))) = .ok (.lst [.str "event", .bl true]) ⟨(h4.put n (.dct (dct5 (od) (.str a2) (.str a3) (v2) (.bl m)))).nx + 1, (h4.put n (.dct (dct5 (od) (.str a2) (.str a3) (v2) (.bl m)))).cs⟩ := tried_ok (badE od ho) g.v2 g.v3 (badB v2 hv2) g.v5 s5.wf s5.cl gn5 rfl
    exact ⟨_, _, _, by repeat (first | with_reducible exact app_n | with_reducible exact ev_c | with_reducible exact ev_nil | with_reducible exact ev_nx | with_reducible exact ev_yes | with_reducible exact ev_moN | with_reducible exact ev_lcN | with_reducible exact ev_forN | with_reducible exact k_rt | with_reducible exact k_xc | with_reducible exact f_rt | with_reducible exact f_xc | with_reducible exact t_xc | with_reducible apply ev_cons | with_reducible apply ev_tup | with_reducible apply ev_lst | with_reducible apply ev_lstC | with_reducible apply ev_b1 | with_reducible apply ev_b2 | with_reducible apply ev_ba | with_reducible apply ev_call | with_reducible apply ev_callK | with_reducible apply ev_fld | with_reducible apply ev_meth | with_reducible apply ev_is | with_reducible apply ev_and | with_reducible apply ev_notV | with_reducible apply ev_if | with_reducible apply ev_tst | with_reducible apply ev_tru | with_reducible apply ev_not | with_reducible apply ev_tand | with_reducible apply ev_tor | with_reducible apply ev_sl | with_reducible apply ev_moS | with_reducible apply ev_lc | with_reducible apply ev_iter | with_reducible apply ev_enum | with_reducible apply ev_rng1 | with_reducible apply ev_eqO | with_reducible apply ev_seq' | with_reducible apply ev_set | with_reducible apply ev_ret | with_reducible apply ev_exp' | with_reducible apply ev_ifs | with_reducible apply ev_for | with_reducible apply ev_for' | with_reducible apply ev_stFh | with_reducible apply ev_stI | with_reducible apply ev_raise | with_reducible apply ev_apph | with_reducible apply ev_xf | with_reducible apply ev_isX | with_reducible apply k_nx | with_reducible apply f_nx | with_reducible apply t_ok | with_reducible apply ev_var | with_reducible exact dk | with_reducible exact st | with_reducible exact t1 | with_reducible exact pk | with_reducible exact od2 | with_reducible exact pk2 | with_reducible exact st2 | with_reducible exact t2 | with_reducible exact nl_event _ | with_reducible exact ns_by_event _ | exact Nat.le_of_ble_eq_true rfl | ((with_reducible apply if_t); focus (exact rfl)) | ((with_reducible apply if_f); focus decide) | exact ⟨rfl, rfl⟩ | exact rfl), s5.up⟩
  · have od2 := odds_M ⟨n3, c3⟩
    rw [gc_wf s3.wf] at od2
    obtain ⟨v2, h4, hv2, pk2, s4, nx4, oth4⟩ := pick_ok (ys := oddM) s3 (by unfold oddM; exact List.cons_ne_nil _ _)
    have gn4 : h4.get n = some (.dct (dct5 (od) (.str a2) (.str a3) (.str a4) (.bl m))) := by rw [oth4 n nx_]; exact gn
    have cd2 : cleanD (dct5 (od) (.str a2) (.str a3) (.str a4) (v2)) = true := by simp [dct5, cleanD, cleanP, co, cl_odds (p := v2) (.inr (.inr (.inr hv2)))]
    have st2 : stIx (.ref n) (.str "may") v2 h4 = some (h4.put n (.dct (dct5 (od) (.str a2) (.str a3) (.str a4) (v2)))) := stIx_d (ky := .inr "may") gn4 rfl (Nat.le_of_ble_eq_true rfl)
    obtain ⟨s5, gn5⟩ := s4.putD gn4 cd2
    have t2 : r_law_tried (pick [0] ([.ref n] ++ ([] ++ []))) (h4.put n (.dct (dct5 (od) (.str a2) (.str a3) (.str a4) (v2)))) = .ok (.lst [.str "event", .bl true]) ⟨(h4.put n (.dct (dct5 (od) (.str a2) (.str a3) (.str a4) (v2)))).nx + 1, (h4.put n (.dct (dct5 (od) (.str a2) (.str a3) (.str a4) (v2)))).cs⟩ := tried_ok (badE od ho) g.v2 g.v3 g.v4 (badM v2 hv2) s5.wf s5.cl gn5 rfl
    exact ⟨_, _, _, by repeat (first | with_reducible exact app_n | with_reducible exact ev_c | with_reducible exact ev_nil | with_reducible exact ev_nx | with_reducible exact ev_yes | with_reducible exact ev_moN | with_reducible exact ev_lcN | with_reducible exact ev_forN | with_reducible exact k_rt | with_reducible exact k_xc | with_reducible exact f_rt | with_reducible exact f_xc | with_reducible exact t_xc | with_reducible apply ev_cons | with_reducible apply ev_tup | with_reducible apply ev_lst | with_reducible apply ev_lstC | with_reducible apply ev_b1 | with_reducible apply ev_b2 | with_reducible apply ev_ba | with_reducible apply ev_call | with_reducible apply ev_callK | with_reducible apply ev_fld | with_reducible apply ev_meth | with_reducible apply ev_is | with_reducible apply ev_and | with_reducible apply ev_notV | with_reducible apply ev_if | with_reducible apply ev_tst | with_reducible apply ev_tru | with_reducible apply ev_not | with_reducible apply ev_tand | with_reducible apply ev_tor | with_reducible apply ev_sl | with_reducible apply ev_moS | with_reducible apply ev_lc | with_reducible apply ev_iter | with_reducible apply ev_enum | with_reducible apply ev_rng1 | with_reducible apply ev_eqO | with_reducible apply ev_seq' | with_reducible apply ev_set | with_reducible apply ev_ret | with_reducible apply ev_exp' | with_reducible apply ev_ifs | with_reducible apply ev_for | with_reducible apply ev_for' | with_reducible apply ev_stFh | with_reducible apply ev_stI | with_reducible apply ev_raise | with_reducible apply ev_apph | with_reducible apply ev_xf | with_reducible apply ev_isX | with_reducible apply k_nx | with_reducible apply f_nx | with_reducible apply t_ok | with_reducible apply ev_var | with_reducible exact dk | with_reducible exact st | with_reducible exact t1 | with_reducible exact pk | with_reducible exact od2 | with_reducible exact pk2 | with_reducible exact st2 | with_reducible exact t2 | with_reducible exact nl_event _ | with_reducible exact ns_may_event _ | exact Nat.le_of_ble_eq_true rfl | ((with_reducible apply if_t); focus (exact rfl)) | ((with_reducible apply if_f); focus decide) | exact ⟨rfl, rfl⟩ | exact rfl), s5.up⟩
theorem turn_deed (g : GoodP a1 a2 a3 a4 m) (s : SI x h) {od : PV} (ho : od ∈ oddW) : ∃ (q13 q14 : Option PV) (h' : MH), bodyO [o0, some (.lst NM), o2, some (.ref x), o4, some (gd a1 a2 a3 a4 m), o6, o7, o8, some (.int 1), some (.str "deed"), o11, some od, o13, o14, o15] h = .nx [o0, some (.lst NM), o2, some (.ref x), o4, some (gd a1 a2 a3 a4 m), o6, o7, o8, some (.int 1), some (.str "deed"), o11, some od, q13, q14, o15] h' ∧ SI x h' := by
  obtain ⟨n, cs⟩ := h
  have co : cleanP od = true := cl_odds (.inr (.inl ho))
  have cd : cleanD (dct5 (.str a1) (od) (.str a3) (.str a4) (.bl m)) = true := by simp [dct5, cleanD, cleanP, co]
  have dk : pDictPC [.lst [.tup [.str "event", .str a1], .tup [.str "deed", .str a2], .tup [.str "call", .str a3], .tup [.str "by", .str a4], .tup [.str "may", .bl m]]] ⟨n, cs⟩ = some (.ref n, ⟨n + 1, (n, .dct (dct5 (.str a1) (.str a2) (.str a3) (.str a4) (.bl m))) :: cs⟩) := rfl
  have st : stIx (.ref n) (.str "deed") od ⟨n + 1, (n, .dct (dct5 (.str a1) (.str a2) (.str a3) (.str a4) (.bl m))) :: cs⟩ = some ⟨n + 1, (n, .dct (dct5 (.str a1) (od) (.str a3) (.str a4) (.bl m))) :: cs⟩ := by
    have gh : (⟨n + 1, (n, .dct (dct5 (.str a1) (.str a2) (.str a3) (.str a4) (.bl m))) :: cs⟩ : MH).get n = some (.dct (dct5 (.str a1) (.str a2) (.str a3) (.str a4) (.bl m))) := if_pos rfl
    rw [stIx_d (q := .str "deed") (v := od) (ky := .inr "deed") gh rfl (Nat.le_of_ble_eq_true rfl)]
    unfold MH.put
    simp only [putc, if_true]
    rfl
  have s1 := s.newD cd 0
  have t1 : r_law_tried (pick [0] ([.ref n] ++ ([] ++ []))) ⟨n + 1, (n, .dct (dct5 (.str a1) (od) (.str a3) (.str a4) (.bl m))) :: cs⟩ = .ok (.lst [.str "deed", .bl true]) ⟨n + 1 + 1, (n, .dct (dct5 (.str a1) (od) (.str a3) (.str a4) (.bl m))) :: cs⟩ := tried_ok g.v1 (badW od ho) g.v3 g.v4 g.v5 s1.wf s1.cl (if_pos rfl) rfl
  have s2 := s.newD cd 1
  obtain ⟨v, h3, hv, pk, s3, nx3, oth⟩ := pick_ok (ys := cutP NM (some 1) none) s2 (by decide)
  have nx_ : n ≠ x := by
    obtain ⟨L, k, gx⟩ := s.pool
    have := wf_lt s.wf gx
    have : x < n := this
    omega
  have gn : h3.get n = some (.dct (dct5 (.str a1) (od) (.str a3) (.str a4) (.bl m))) := by rw [oth n nx_]; exact if_pos rfl
  obtain ⟨n3, c3⟩ := h3
  have ev : cutP NM (some 1) none = [.str "deed", .str "call", .str "by", .str "may"] := rfl
  rw [ev] at hv
  simp only [List.mem_cons, List.not_mem_nil, or_false] at hv
  rcases hv with rfl | rfl | rfl | rfl
  · have t2 : r_law_tried (pick [0] ([.ref n] ++ ([] ++ []))) ⟨n3, c3⟩ = .ok (.lst [.str "deed", .bl true]) ⟨n3 + 1, c3⟩ := tried_ok g.v1 (badW od ho) g.v3 g.v4 g.v5 s3.wf s3.cl gn rfl
    exact ⟨_, _, ⟨n3 + 1, c3⟩, by repeat (first | with_reducible exact app_n | with_reducible exact ev_c | with_reducible exact ev_nil | with_reducible exact ev_nx | with_reducible exact ev_yes | with_reducible exact ev_moN | with_reducible exact ev_lcN | with_reducible exact ev_forN | with_reducible exact k_rt | with_reducible exact k_xc | with_reducible exact f_rt | with_reducible exact f_xc | with_reducible exact t_xc | with_reducible apply ev_cons | with_reducible apply ev_tup | with_reducible apply ev_lst | with_reducible apply ev_lstC | with_reducible apply ev_b1 | with_reducible apply ev_b2 | with_reducible apply ev_ba | with_reducible apply ev_call | with_reducible apply ev_callK | with_reducible apply ev_fld | with_reducible apply ev_meth | with_reducible apply ev_is | with_reducible apply ev_and | with_reducible apply ev_notV | with_reducible apply ev_if | with_reducible apply ev_tst | with_reducible apply ev_tru | with_reducible apply ev_not | with_reducible apply ev_tand | with_reducible apply ev_tor | with_reducible apply ev_sl | with_reducible apply ev_moS | with_reducible apply ev_lc | with_reducible apply ev_iter | with_reducible apply ev_enum | with_reducible apply ev_rng1 | with_reducible apply ev_eqO | with_reducible apply ev_seq' | with_reducible apply ev_set | with_reducible apply ev_ret | with_reducible apply ev_exp' | with_reducible apply ev_ifs | with_reducible apply ev_for | with_reducible apply ev_for' | with_reducible apply ev_stFh | with_reducible apply ev_stI | with_reducible apply ev_raise | with_reducible apply ev_apph | with_reducible apply ev_xf | with_reducible apply ev_isX | with_reducible apply k_nx | with_reducible apply f_nx | with_reducible apply t_ok | with_reducible apply ev_var | with_reducible exact dk | with_reducible exact st | with_reducible exact t1 | with_reducible exact pk | with_reducible exact t2 | with_reducible exact nl_deed _ | with_reducible exact ns_deed_deed _ | exact Nat.le_of_ble_eq_true rfl | ((with_reducible apply if_t); focus (exact rfl)) | ((with_reducible apply if_f); focus decide) | exact ⟨rfl, rfl⟩ | exact rfl), s3.up⟩
  · have od2 := odds_C ⟨n3, c3⟩
    rw [gc_wf s3.wf] at od2
    obtain ⟨v2, h4, hv2, pk2, s4, nx4, oth4⟩ := pick_ok (ys := oddW) s3 (by unfold oddW; exact List.cons_ne_nil _ _)
    have gn4 : h4.get n = some (.dct (dct5 (.str a1) (od) (.str a3) (.str a4) (.bl m))) := by rw [oth4 n nx_]; exact gn
    have cd2 : cleanD (dct5 (.str a1) (od) (v2) (.str a4) (.bl m)) = true := by simp [dct5, cleanD, cleanP, co, cl_odds (p := v2) (.inr (.inl hv2))]
    have st2 : stIx (.ref n) (.str "call") v2 h4 = some (h4.put n (.dct (dct5 (.str a1) (od) (v2) (.str a4) (.bl m)))) := stIx_d (ky := .inr "call") gn4 rfl (Nat.le_of_ble_eq_true rfl)
    obtain ⟨s5, gn5⟩ := s4.putD gn4 cd2
    have t2 : r_law_tried (pick [0] ([.ref n] ++ ([] ++ []))) (h4.put n (.dct (dct5 (.str a1) (od) (v2) (.str a4) (.bl m)))) = .ok (.lst [.str "deed", .bl true]) ⟨(h4.put n (.dct (dct5 (.str a1) (od) (v2) (.str a4) (.bl m)))).nx + 1, (h4.put n (.dct (dct5 (.str a1) (od) (v2) (.str a4) (.bl m)))).cs⟩ := tried_ok g.v1 (badW od ho) (badW v2 hv2) g.v4 g.v5 s5.wf s5.cl gn5 rfl
    exact ⟨_, _, _, by repeat (first | with_reducible exact app_n | with_reducible exact ev_c | with_reducible exact ev_nil | with_reducible exact ev_nx | with_reducible exact ev_yes | with_reducible exact ev_moN | with_reducible exact ev_lcN | with_reducible exact ev_forN | with_reducible exact k_rt | with_reducible exact k_xc | with_reducible exact f_rt | with_reducible exact f_xc | with_reducible exact t_xc | with_reducible apply ev_cons | with_reducible apply ev_tup | with_reducible apply ev_lst | with_reducible apply ev_lstC | with_reducible apply ev_b1 | with_reducible apply ev_b2 | with_reducible apply ev_ba | with_reducible apply ev_call | with_reducible apply ev_callK | with_reducible apply ev_fld | with_reducible apply ev_meth | with_reducible apply ev_is | with_reducible apply ev_and | with_reducible apply ev_notV | with_reducible apply ev_if | with_reducible apply ev_tst | with_reducible apply ev_tru | with_reducible apply ev_not | with_reducible apply ev_tand | with_reducible apply ev_tor | with_reducible apply ev_sl | with_reducible apply ev_moS | with_reducible apply ev_lc | with_reducible apply ev_iter | with_reducible apply ev_enum | with_reducible apply ev_rng1 | with_reducible apply ev_eqO | with_reducible apply ev_seq' | with_reducible apply ev_set | with_reducible apply ev_ret | with_reducible apply ev_exp' | with_reducible apply ev_ifs | with_reducible apply ev_for | with_reducible apply ev_for' | with_reducible apply ev_stFh | with_reducible apply ev_stI | with_reducible apply ev_raise | with_reducible apply ev_apph | with_reducible apply ev_xf | with_reducible apply ev_isX | with_reducible apply k_nx | with_reducible apply f_nx | with_reducible apply t_ok | with_reducible apply ev_var | with_reducible exact dk | with_reducible exact st | with_reducible exact t1 | with_reducible exact pk | with_reducible exact od2 | with_reducible exact pk2 | with_reducible exact st2 | with_reducible exact t2 | with_reducible exact nl_deed _ | with_reducible exact ns_call_deed _ | exact Nat.le_of_ble_eq_true rfl | ((with_reducible apply if_t); focus (exact rfl)) | ((with_reducible apply if_f); focus decide) | exact ⟨rfl, rfl⟩ | exact rfl), s5.up⟩
  · have od2 := odds_B ⟨n3, c3⟩
    rw [gc_wf s3.wf] at od2
    obtain ⟨v2, h4, hv2, pk2, s4, nx4, oth4⟩ := pick_ok (ys := oddB) s3 (by unfold oddB; exact List.cons_ne_nil _ _)
    have gn4 : h4.get n = some (.dct (dct5 (.str a1) (od) (.str a3) (.str a4) (.bl m))) := by rw [oth4 n nx_]; exact gn
    have cd2 : cleanD (dct5 (.str a1) (od) (.str a3) (v2) (.bl m)) = true := by simp [dct5, cleanD, cleanP, co, cl_odds (p := v2) (.inr (.inr (.inl hv2)))]
    have st2 : stIx (.ref n) (.str "by") v2 h4 = some (h4.put n (.dct (dct5 (.str a1) (od) (.str a3) (v2) (.bl m)))) := stIx_d (ky := .inr "by") gn4 rfl (Nat.le_of_ble_eq_true rfl)
    obtain ⟨s5, gn5⟩ := s4.putD gn4 cd2
    have t2 : r_law_tried (pick [0] ([.ref n] ++ ([] ++ []))) (h4.put n (.dct (dct5 (.str a1) (od) (.str a3) (v2) (.bl m)))) = .ok (.lst [.str "deed", .bl true]) ⟨(h4.put n (.dct (dct5 (.str a1) (od) (.str a3) (v2) (.bl m)))).nx + 1, (h4.put n (.dct (dct5 (.str a1) (od) (.str a3) (v2) (.bl m)))).cs⟩ := tried_ok g.v1 (badW od ho) g.v3 (badB v2 hv2) g.v5 s5.wf s5.cl gn5 rfl
    exact ⟨_, _, _, by repeat (first | with_reducible exact app_n | with_reducible exact ev_c | with_reducible exact ev_nil | with_reducible exact ev_nx | with_reducible exact ev_yes | with_reducible exact ev_moN | with_reducible exact ev_lcN | with_reducible exact ev_forN | with_reducible exact k_rt | with_reducible exact k_xc | with_reducible exact f_rt | with_reducible exact f_xc | with_reducible exact t_xc | with_reducible apply ev_cons | with_reducible apply ev_tup | with_reducible apply ev_lst | with_reducible apply ev_lstC | with_reducible apply ev_b1 | with_reducible apply ev_b2 | with_reducible apply ev_ba | with_reducible apply ev_call | with_reducible apply ev_callK | with_reducible apply ev_fld | with_reducible apply ev_meth | with_reducible apply ev_is | with_reducible apply ev_and | with_reducible apply ev_notV | with_reducible apply ev_if | with_reducible apply ev_tst | with_reducible apply ev_tru | with_reducible apply ev_not | with_reducible apply ev_tand | with_reducible apply ev_tor | with_reducible apply ev_sl | with_reducible apply ev_moS | with_reducible apply ev_lc | with_reducible apply ev_iter | with_reducible apply ev_enum | with_reducible apply ev_rng1 | with_reducible apply ev_eqO | with_reducible apply ev_seq' | with_reducible apply ev_set | with_reducible apply ev_ret | with_reducible apply ev_exp' | with_reducible apply ev_ifs | with_reducible apply ev_for | with_reducible apply ev_for' | with_reducible apply ev_stFh | with_reducible apply ev_stI | with_reducible apply ev_raise | with_reducible apply ev_apph | with_reducible apply ev_xf | with_reducible apply ev_isX | with_reducible apply k_nx | with_reducible apply f_nx | with_reducible apply t_ok | with_reducible apply ev_var | with_reducible exact dk | with_reducible exact st | with_reducible exact t1 | with_reducible exact pk | with_reducible exact od2 | with_reducible exact pk2 | with_reducible exact st2 | with_reducible exact t2 | with_reducible exact nl_deed _ | with_reducible exact ns_by_deed _ | exact Nat.le_of_ble_eq_true rfl | ((with_reducible apply if_t); focus (exact rfl)) | ((with_reducible apply if_f); focus decide) | exact ⟨rfl, rfl⟩ | exact rfl), s5.up⟩
  · have od2 := odds_M ⟨n3, c3⟩
    rw [gc_wf s3.wf] at od2
    obtain ⟨v2, h4, hv2, pk2, s4, nx4, oth4⟩ := pick_ok (ys := oddM) s3 (by unfold oddM; exact List.cons_ne_nil _ _)
    have gn4 : h4.get n = some (.dct (dct5 (.str a1) (od) (.str a3) (.str a4) (.bl m))) := by rw [oth4 n nx_]; exact gn
    have cd2 : cleanD (dct5 (.str a1) (od) (.str a3) (.str a4) (v2)) = true := by simp [dct5, cleanD, cleanP, co, cl_odds (p := v2) (.inr (.inr (.inr hv2)))]
    have st2 : stIx (.ref n) (.str "may") v2 h4 = some (h4.put n (.dct (dct5 (.str a1) (od) (.str a3) (.str a4) (v2)))) := stIx_d (ky := .inr "may") gn4 rfl (Nat.le_of_ble_eq_true rfl)
    obtain ⟨s5, gn5⟩ := s4.putD gn4 cd2
    have t2 : r_law_tried (pick [0] ([.ref n] ++ ([] ++ []))) (h4.put n (.dct (dct5 (.str a1) (od) (.str a3) (.str a4) (v2)))) = .ok (.lst [.str "deed", .bl true]) ⟨(h4.put n (.dct (dct5 (.str a1) (od) (.str a3) (.str a4) (v2)))).nx + 1, (h4.put n (.dct (dct5 (.str a1) (od) (.str a3) (.str a4) (v2)))).cs⟩ := tried_ok g.v1 (badW od ho) g.v3 g.v4 (badM v2 hv2) s5.wf s5.cl gn5 rfl
    exact ⟨_, _, _, by repeat (first | with_reducible exact app_n | with_reducible exact ev_c | with_reducible exact ev_nil | with_reducible exact ev_nx | with_reducible exact ev_yes | with_reducible exact ev_moN | with_reducible exact ev_lcN | with_reducible exact ev_forN | with_reducible exact k_rt | with_reducible exact k_xc | with_reducible exact f_rt | with_reducible exact f_xc | with_reducible exact t_xc | with_reducible apply ev_cons | with_reducible apply ev_tup | with_reducible apply ev_lst | with_reducible apply ev_lstC | with_reducible apply ev_b1 | with_reducible apply ev_b2 | with_reducible apply ev_ba | with_reducible apply ev_call | with_reducible apply ev_callK | with_reducible apply ev_fld | with_reducible apply ev_meth | with_reducible apply ev_is | with_reducible apply ev_and | with_reducible apply ev_notV | with_reducible apply ev_if | with_reducible apply ev_tst | with_reducible apply ev_tru | with_reducible apply ev_not | with_reducible apply ev_tand | with_reducible apply ev_tor | with_reducible apply ev_sl | with_reducible apply ev_moS | with_reducible apply ev_lc | with_reducible apply ev_iter | with_reducible apply ev_enum | with_reducible apply ev_rng1 | with_reducible apply ev_eqO | with_reducible apply ev_seq' | with_reducible apply ev_set | with_reducible apply ev_ret | with_reducible apply ev_exp' | with_reducible apply ev_ifs | with_reducible apply ev_for | with_reducible apply ev_for' | with_reducible apply ev_stFh | with_reducible apply ev_stI | with_reducible apply ev_raise | with_reducible apply ev_apph | with_reducible apply ev_xf | with_reducible apply ev_isX | with_reducible apply k_nx | with_reducible apply f_nx | with_reducible apply t_ok | with_reducible apply ev_var | with_reducible exact dk | with_reducible exact st | with_reducible exact t1 | with_reducible exact pk | with_reducible exact od2 | with_reducible exact pk2 | with_reducible exact st2 | with_reducible exact t2 | with_reducible exact nl_deed _ | with_reducible exact ns_may_deed _ | exact Nat.le_of_ble_eq_true rfl | ((with_reducible apply if_t); focus (exact rfl)) | ((with_reducible apply if_f); focus decide) | exact ⟨rfl, rfl⟩ | exact rfl), s5.up⟩
theorem turn_call (g : GoodP a1 a2 a3 a4 m) (s : SI x h) {od : PV} (ho : od ∈ oddW) : ∃ (q13 q14 : Option PV) (h' : MH), bodyO [o0, some (.lst NM), o2, some (.ref x), o4, some (gd a1 a2 a3 a4 m), o6, o7, o8, some (.int 2), some (.str "call"), o11, some od, o13, o14, o15] h = .nx [o0, some (.lst NM), o2, some (.ref x), o4, some (gd a1 a2 a3 a4 m), o6, o7, o8, some (.int 2), some (.str "call"), o11, some od, q13, q14, o15] h' ∧ SI x h' := by
  obtain ⟨n, cs⟩ := h
  have co : cleanP od = true := cl_odds (.inr (.inl ho))
  have cd : cleanD (dct5 (.str a1) (.str a2) (od) (.str a4) (.bl m)) = true := by simp [dct5, cleanD, cleanP, co]
  have dk : pDictPC [.lst [.tup [.str "event", .str a1], .tup [.str "deed", .str a2], .tup [.str "call", .str a3], .tup [.str "by", .str a4], .tup [.str "may", .bl m]]] ⟨n, cs⟩ = some (.ref n, ⟨n + 1, (n, .dct (dct5 (.str a1) (.str a2) (.str a3) (.str a4) (.bl m))) :: cs⟩) := rfl
  have st : stIx (.ref n) (.str "call") od ⟨n + 1, (n, .dct (dct5 (.str a1) (.str a2) (.str a3) (.str a4) (.bl m))) :: cs⟩ = some ⟨n + 1, (n, .dct (dct5 (.str a1) (.str a2) (od) (.str a4) (.bl m))) :: cs⟩ := by
    have gh : (⟨n + 1, (n, .dct (dct5 (.str a1) (.str a2) (.str a3) (.str a4) (.bl m))) :: cs⟩ : MH).get n = some (.dct (dct5 (.str a1) (.str a2) (.str a3) (.str a4) (.bl m))) := if_pos rfl
    rw [stIx_d (q := .str "call") (v := od) (ky := .inr "call") gh rfl (Nat.le_of_ble_eq_true rfl)]
    unfold MH.put
    simp only [putc, if_true]
    rfl
  have s1 := s.newD cd 0
  have t1 : r_law_tried (pick [0] ([.ref n] ++ ([] ++ []))) ⟨n + 1, (n, .dct (dct5 (.str a1) (.str a2) (od) (.str a4) (.bl m))) :: cs⟩ = .ok (.lst [.str "call", .bl true]) ⟨n + 1 + 1, (n, .dct (dct5 (.str a1) (.str a2) (od) (.str a4) (.bl m))) :: cs⟩ := tried_ok g.v1 g.v2 (badW od ho) g.v4 g.v5 s1.wf s1.cl (if_pos rfl) rfl
  have s2 := s.newD cd 1
  obtain ⟨v, h3, hv, pk, s3, nx3, oth⟩ := pick_ok (ys := cutP NM (some 2) none) s2 (by decide)
  have nx_ : n ≠ x := by
    obtain ⟨L, k, gx⟩ := s.pool
    have := wf_lt s.wf gx
    have : x < n := this
    omega
  have gn : h3.get n = some (.dct (dct5 (.str a1) (.str a2) (od) (.str a4) (.bl m))) := by rw [oth n nx_]; exact if_pos rfl
  obtain ⟨n3, c3⟩ := h3
  have ev : cutP NM (some 2) none = [.str "call", .str "by", .str "may"] := rfl
  rw [ev] at hv
  simp only [List.mem_cons, List.not_mem_nil, or_false] at hv
  rcases hv with rfl | rfl | rfl
  · have t2 : r_law_tried (pick [0] ([.ref n] ++ ([] ++ []))) ⟨n3, c3⟩ = .ok (.lst [.str "call", .bl true]) ⟨n3 + 1, c3⟩ := tried_ok g.v1 g.v2 (badW od ho) g.v4 g.v5 s3.wf s3.cl gn rfl
    exact ⟨_, _, ⟨n3 + 1, c3⟩, by repeat (first | with_reducible exact app_n | with_reducible exact ev_c | with_reducible exact ev_nil | with_reducible exact ev_nx | with_reducible exact ev_yes | with_reducible exact ev_moN | with_reducible exact ev_lcN | with_reducible exact ev_forN | with_reducible exact k_rt | with_reducible exact k_xc | with_reducible exact f_rt | with_reducible exact f_xc | with_reducible exact t_xc | with_reducible apply ev_cons | with_reducible apply ev_tup | with_reducible apply ev_lst | with_reducible apply ev_lstC | with_reducible apply ev_b1 | with_reducible apply ev_b2 | with_reducible apply ev_ba | with_reducible apply ev_call | with_reducible apply ev_callK | with_reducible apply ev_fld | with_reducible apply ev_meth | with_reducible apply ev_is | with_reducible apply ev_and | with_reducible apply ev_notV | with_reducible apply ev_if | with_reducible apply ev_tst | with_reducible apply ev_tru | with_reducible apply ev_not | with_reducible apply ev_tand | with_reducible apply ev_tor | with_reducible apply ev_sl | with_reducible apply ev_moS | with_reducible apply ev_lc | with_reducible apply ev_iter | with_reducible apply ev_enum | with_reducible apply ev_rng1 | with_reducible apply ev_eqO | with_reducible apply ev_seq' | with_reducible apply ev_set | with_reducible apply ev_ret | with_reducible apply ev_exp' | with_reducible apply ev_ifs | with_reducible apply ev_for | with_reducible apply ev_for' | with_reducible apply ev_stFh | with_reducible apply ev_stI | with_reducible apply ev_raise | with_reducible apply ev_apph | with_reducible apply ev_xf | with_reducible apply ev_isX | with_reducible apply k_nx | with_reducible apply f_nx | with_reducible apply t_ok | with_reducible apply ev_var | with_reducible exact dk | with_reducible exact st | with_reducible exact t1 | with_reducible exact pk | with_reducible exact t2 | with_reducible exact nl_call _ | with_reducible exact ns_call_call _ | exact Nat.le_of_ble_eq_true rfl | ((with_reducible apply if_t); focus (exact rfl)) | ((with_reducible apply if_f); focus decide) | exact ⟨rfl, rfl⟩ | exact rfl), s3.up⟩
  · have od2 := odds_B ⟨n3, c3⟩
    rw [gc_wf s3.wf] at od2
    obtain ⟨v2, h4, hv2, pk2, s4, nx4, oth4⟩ := pick_ok (ys := oddB) s3 (by unfold oddB; exact List.cons_ne_nil _ _)
    have gn4 : h4.get n = some (.dct (dct5 (.str a1) (.str a2) (od) (.str a4) (.bl m))) := by rw [oth4 n nx_]; exact gn
    have cd2 : cleanD (dct5 (.str a1) (.str a2) (od) (v2) (.bl m)) = true := by simp [dct5, cleanD, cleanP, co, cl_odds (p := v2) (.inr (.inr (.inl hv2)))]
    have st2 : stIx (.ref n) (.str "by") v2 h4 = some (h4.put n (.dct (dct5 (.str a1) (.str a2) (od) (v2) (.bl m)))) := stIx_d (ky := .inr "by") gn4 rfl (Nat.le_of_ble_eq_true rfl)
    obtain ⟨s5, gn5⟩ := s4.putD gn4 cd2
    have t2 : r_law_tried (pick [0] ([.ref n] ++ ([] ++ []))) (h4.put n (.dct (dct5 (.str a1) (.str a2) (od) (v2) (.bl m)))) = .ok (.lst [.str "call", .bl true]) ⟨(h4.put n (.dct (dct5 (.str a1) (.str a2) (od) (v2) (.bl m)))).nx + 1, (h4.put n (.dct (dct5 (.str a1) (.str a2) (od) (v2) (.bl m)))).cs⟩ := tried_ok g.v1 g.v2 (badW od ho) (badB v2 hv2) g.v5 s5.wf s5.cl gn5 rfl
    exact ⟨_, _, _, by repeat (first | with_reducible exact app_n | with_reducible exact ev_c | with_reducible exact ev_nil | with_reducible exact ev_nx | with_reducible exact ev_yes | with_reducible exact ev_moN | with_reducible exact ev_lcN | with_reducible exact ev_forN | with_reducible exact k_rt | with_reducible exact k_xc | with_reducible exact f_rt | with_reducible exact f_xc | with_reducible exact t_xc | with_reducible apply ev_cons | with_reducible apply ev_tup | with_reducible apply ev_lst | with_reducible apply ev_lstC | with_reducible apply ev_b1 | with_reducible apply ev_b2 | with_reducible apply ev_ba | with_reducible apply ev_call | with_reducible apply ev_callK | with_reducible apply ev_fld | with_reducible apply ev_meth | with_reducible apply ev_is | with_reducible apply ev_and | with_reducible apply ev_notV | with_reducible apply ev_if | with_reducible apply ev_tst | with_reducible apply ev_tru | with_reducible apply ev_not | with_reducible apply ev_tand | with_reducible apply ev_tor | with_reducible apply ev_sl | with_reducible apply ev_moS | with_reducible apply ev_lc | with_reducible apply ev_iter | with_reducible apply ev_enum | with_reducible apply ev_rng1 | with_reducible apply ev_eqO | with_reducible apply ev_seq' | with_reducible apply ev_set | with_reducible apply ev_ret | with_reducible apply ev_exp' | with_reducible apply ev_ifs | with_reducible apply ev_for | with_reducible apply ev_for' | with_reducible apply ev_stFh | with_reducible apply ev_stI | with_reducible apply ev_raise | with_reducible apply ev_apph | with_reducible apply ev_xf | with_reducible apply ev_isX | with_reducible apply k_nx | with_reducible apply f_nx | with_reducible apply t_ok | with_reducible apply ev_var | with_reducible exact dk | with_reducible exact st | with_reducible exact t1 | with_reducible exact pk | with_reducible exact od2 | with_reducible exact pk2 | with_reducible exact st2 | with_reducible exact t2 | with_reducible exact nl_call _ | with_reducible exact ns_by_call _ | exact Nat.le_of_ble_eq_true rfl | ((with_reducible apply if_t); focus (exact rfl)) | ((with_reducible apply if_f); focus decide) | exact ⟨rfl, rfl⟩ | exact rfl), s5.up⟩
  · have od2 := odds_M ⟨n3, c3⟩
    rw [gc_wf s3.wf] at od2
    obtain ⟨v2, h4, hv2, pk2, s4, nx4, oth4⟩ := pick_ok (ys := oddM) s3 (by unfold oddM; exact List.cons_ne_nil _ _)
    have gn4 : h4.get n = some (.dct (dct5 (.str a1) (.str a2) (od) (.str a4) (.bl m))) := by rw [oth4 n nx_]; exact gn
    have cd2 : cleanD (dct5 (.str a1) (.str a2) (od) (.str a4) (v2)) = true := by simp [dct5, cleanD, cleanP, co, cl_odds (p := v2) (.inr (.inr (.inr hv2)))]
    have st2 : stIx (.ref n) (.str "may") v2 h4 = some (h4.put n (.dct (dct5 (.str a1) (.str a2) (od) (.str a4) (v2)))) := stIx_d (ky := .inr "may") gn4 rfl (Nat.le_of_ble_eq_true rfl)
    obtain ⟨s5, gn5⟩ := s4.putD gn4 cd2
    have t2 : r_law_tried (pick [0] ([.ref n] ++ ([] ++ []))) (h4.put n (.dct (dct5 (.str a1) (.str a2) (od) (.str a4) (v2)))) = .ok (.lst [.str "call", .bl true]) ⟨(h4.put n (.dct (dct5 (.str a1) (.str a2) (od) (.str a4) (v2)))).nx + 1, (h4.put n (.dct (dct5 (.str a1) (.str a2) (od) (.str a4) (v2)))).cs⟩ := tried_ok g.v1 g.v2 (badW od ho) g.v4 (badM v2 hv2) s5.wf s5.cl gn5 rfl
    exact ⟨_, _, _, by repeat (first | with_reducible exact app_n | with_reducible exact ev_c | with_reducible exact ev_nil | with_reducible exact ev_nx | with_reducible exact ev_yes | with_reducible exact ev_moN | with_reducible exact ev_lcN | with_reducible exact ev_forN | with_reducible exact k_rt | with_reducible exact k_xc | with_reducible exact f_rt | with_reducible exact f_xc | with_reducible exact t_xc | with_reducible apply ev_cons | with_reducible apply ev_tup | with_reducible apply ev_lst | with_reducible apply ev_lstC | with_reducible apply ev_b1 | with_reducible apply ev_b2 | with_reducible apply ev_ba | with_reducible apply ev_call | with_reducible apply ev_callK | with_reducible apply ev_fld | with_reducible apply ev_meth | with_reducible apply ev_is | with_reducible apply ev_and | with_reducible apply ev_notV | with_reducible apply ev_if | with_reducible apply ev_tst | with_reducible apply ev_tru | with_reducible apply ev_not | with_reducible apply ev_tand | with_reducible apply ev_tor | with_reducible apply ev_sl | with_reducible apply ev_moS | with_reducible apply ev_lc | with_reducible apply ev_iter | with_reducible apply ev_enum | with_reducible apply ev_rng1 | with_reducible apply ev_eqO | with_reducible apply ev_seq' | with_reducible apply ev_set | with_reducible apply ev_ret | with_reducible apply ev_exp' | with_reducible apply ev_ifs | with_reducible apply ev_for | with_reducible apply ev_for' | with_reducible apply ev_stFh | with_reducible apply ev_stI | with_reducible apply ev_raise | with_reducible apply ev_apph | with_reducible apply ev_xf | with_reducible apply ev_isX | with_reducible apply k_nx | with_reducible apply f_nx | with_reducible apply t_ok | with_reducible apply ev_var | with_reducible exact dk | with_reducible exact st | with_reducible exact t1 | with_reducible exact pk | with_reducible exact od2 | with_reducible exact pk2 | with_reducible exact st2 | with_reducible exact t2 | with_reducible exact nl_call _ | with_reducible exact ns_may_call _ | exact Nat.le_of_ble_eq_true rfl | ((with_reducible apply if_t); focus (exact rfl)) | ((with_reducible apply if_f); focus decide) | exact ⟨rfl, rfl⟩ | exact rfl), s5.up⟩
theorem turn_by (g : GoodP a1 a2 a3 a4 m) (s : SI x h) {od : PV} (ho : od ∈ oddB) : ∃ (q13 q14 : Option PV) (h' : MH), bodyO [o0, some (.lst NM), o2, some (.ref x), o4, some (gd a1 a2 a3 a4 m), o6, o7, o8, some (.int 3), some (.str "by"), o11, some od, o13, o14, o15] h = .nx [o0, some (.lst NM), o2, some (.ref x), o4, some (gd a1 a2 a3 a4 m), o6, o7, o8, some (.int 3), some (.str "by"), o11, some od, q13, q14, o15] h' ∧ SI x h' := by
  obtain ⟨n, cs⟩ := h
  have co : cleanP od = true := cl_odds (.inr (.inr (.inl ho)))
  have cd : cleanD (dct5 (.str a1) (.str a2) (.str a3) (od) (.bl m)) = true := by simp [dct5, cleanD, cleanP, co]
  have dk : pDictPC [.lst [.tup [.str "event", .str a1], .tup [.str "deed", .str a2], .tup [.str "call", .str a3], .tup [.str "by", .str a4], .tup [.str "may", .bl m]]] ⟨n, cs⟩ = some (.ref n, ⟨n + 1, (n, .dct (dct5 (.str a1) (.str a2) (.str a3) (.str a4) (.bl m))) :: cs⟩) := rfl
  have st : stIx (.ref n) (.str "by") od ⟨n + 1, (n, .dct (dct5 (.str a1) (.str a2) (.str a3) (.str a4) (.bl m))) :: cs⟩ = some ⟨n + 1, (n, .dct (dct5 (.str a1) (.str a2) (.str a3) (od) (.bl m))) :: cs⟩ := by
    have gh : (⟨n + 1, (n, .dct (dct5 (.str a1) (.str a2) (.str a3) (.str a4) (.bl m))) :: cs⟩ : MH).get n = some (.dct (dct5 (.str a1) (.str a2) (.str a3) (.str a4) (.bl m))) := if_pos rfl
    rw [stIx_d (q := .str "by") (v := od) (ky := .inr "by") gh rfl (Nat.le_of_ble_eq_true rfl)]
    unfold MH.put
    simp only [putc, if_true]
    rfl
  have s1 := s.newD cd 0
  have t1 : r_law_tried (pick [0] ([.ref n] ++ ([] ++ []))) ⟨n + 1, (n, .dct (dct5 (.str a1) (.str a2) (.str a3) (od) (.bl m))) :: cs⟩ = .ok (.lst [.str "by", .bl true]) ⟨n + 1 + 1, (n, .dct (dct5 (.str a1) (.str a2) (.str a3) (od) (.bl m))) :: cs⟩ := tried_ok g.v1 g.v2 g.v3 (badB od ho) g.v5 s1.wf s1.cl (if_pos rfl) rfl
  have s2 := s.newD cd 1
  obtain ⟨v, h3, hv, pk, s3, nx3, oth⟩ := pick_ok (ys := cutP NM (some 3) none) s2 (by decide)
  have nx_ : n ≠ x := by
    obtain ⟨L, k, gx⟩ := s.pool
    have := wf_lt s.wf gx
    have : x < n := this
    omega
  have gn : h3.get n = some (.dct (dct5 (.str a1) (.str a2) (.str a3) (od) (.bl m))) := by rw [oth n nx_]; exact if_pos rfl
  obtain ⟨n3, c3⟩ := h3
  have ev : cutP NM (some 3) none = [.str "by", .str "may"] := rfl
  rw [ev] at hv
  simp only [List.mem_cons, List.not_mem_nil, or_false] at hv
  rcases hv with rfl | rfl
  · have t2 : r_law_tried (pick [0] ([.ref n] ++ ([] ++ []))) ⟨n3, c3⟩ = .ok (.lst [.str "by", .bl true]) ⟨n3 + 1, c3⟩ := tried_ok g.v1 g.v2 g.v3 (badB od ho) g.v5 s3.wf s3.cl gn rfl
    exact ⟨_, _, ⟨n3 + 1, c3⟩, by repeat (first | with_reducible exact app_n | with_reducible exact ev_c | with_reducible exact ev_nil | with_reducible exact ev_nx | with_reducible exact ev_yes | with_reducible exact ev_moN | with_reducible exact ev_lcN | with_reducible exact ev_forN | with_reducible exact k_rt | with_reducible exact k_xc | with_reducible exact f_rt | with_reducible exact f_xc | with_reducible exact t_xc | with_reducible apply ev_cons | with_reducible apply ev_tup | with_reducible apply ev_lst | with_reducible apply ev_lstC | with_reducible apply ev_b1 | with_reducible apply ev_b2 | with_reducible apply ev_ba | with_reducible apply ev_call | with_reducible apply ev_callK | with_reducible apply ev_fld | with_reducible apply ev_meth | with_reducible apply ev_is | with_reducible apply ev_and | with_reducible apply ev_notV | with_reducible apply ev_if | with_reducible apply ev_tst | with_reducible apply ev_tru | with_reducible apply ev_not | with_reducible apply ev_tand | with_reducible apply ev_tor | with_reducible apply ev_sl | with_reducible apply ev_moS | with_reducible apply ev_lc | with_reducible apply ev_iter | with_reducible apply ev_enum | with_reducible apply ev_rng1 | with_reducible apply ev_eqO | with_reducible apply ev_seq' | with_reducible apply ev_set | with_reducible apply ev_ret | with_reducible apply ev_exp' | with_reducible apply ev_ifs | with_reducible apply ev_for | with_reducible apply ev_for' | with_reducible apply ev_stFh | with_reducible apply ev_stI | with_reducible apply ev_raise | with_reducible apply ev_apph | with_reducible apply ev_xf | with_reducible apply ev_isX | with_reducible apply k_nx | with_reducible apply f_nx | with_reducible apply t_ok | with_reducible apply ev_var | with_reducible exact dk | with_reducible exact st | with_reducible exact t1 | with_reducible exact pk | with_reducible exact t2 | with_reducible exact nl_by _ | with_reducible exact ns_by_by _ | exact Nat.le_of_ble_eq_true rfl | ((with_reducible apply if_t); focus (exact rfl)) | ((with_reducible apply if_f); focus decide) | exact ⟨rfl, rfl⟩ | exact rfl), s3.up⟩
  · have od2 := odds_M ⟨n3, c3⟩
    rw [gc_wf s3.wf] at od2
    obtain ⟨v2, h4, hv2, pk2, s4, nx4, oth4⟩ := pick_ok (ys := oddM) s3 (by unfold oddM; exact List.cons_ne_nil _ _)
    have gn4 : h4.get n = some (.dct (dct5 (.str a1) (.str a2) (.str a3) (od) (.bl m))) := by rw [oth4 n nx_]; exact gn
    have cd2 : cleanD (dct5 (.str a1) (.str a2) (.str a3) (od) (v2)) = true := by simp [dct5, cleanD, cleanP, co, cl_odds (p := v2) (.inr (.inr (.inr hv2)))]
    have st2 : stIx (.ref n) (.str "may") v2 h4 = some (h4.put n (.dct (dct5 (.str a1) (.str a2) (.str a3) (od) (v2)))) := stIx_d (ky := .inr "may") gn4 rfl (Nat.le_of_ble_eq_true rfl)
    obtain ⟨s5, gn5⟩ := s4.putD gn4 cd2
    have t2 : r_law_tried (pick [0] ([.ref n] ++ ([] ++ []))) (h4.put n (.dct (dct5 (.str a1) (.str a2) (.str a3) (od) (v2)))) = .ok (.lst [.str "by", .bl true]) ⟨(h4.put n (.dct (dct5 (.str a1) (.str a2) (.str a3) (od) (v2)))).nx + 1, (h4.put n (.dct (dct5 (.str a1) (.str a2) (.str a3) (od) (v2)))).cs⟩ := tried_ok g.v1 g.v2 g.v3 (badB od ho) (badM v2 hv2) s5.wf s5.cl gn5 rfl
    exact ⟨_, _, _, by repeat (first | with_reducible exact app_n | with_reducible exact ev_c | with_reducible exact ev_nil | with_reducible exact ev_nx | with_reducible exact ev_yes | with_reducible exact ev_moN | with_reducible exact ev_lcN | with_reducible exact ev_forN | with_reducible exact k_rt | with_reducible exact k_xc | with_reducible exact f_rt | with_reducible exact f_xc | with_reducible exact t_xc | with_reducible apply ev_cons | with_reducible apply ev_tup | with_reducible apply ev_lst | with_reducible apply ev_lstC | with_reducible apply ev_b1 | with_reducible apply ev_b2 | with_reducible apply ev_ba | with_reducible apply ev_call | with_reducible apply ev_callK | with_reducible apply ev_fld | with_reducible apply ev_meth | with_reducible apply ev_is | with_reducible apply ev_and | with_reducible apply ev_notV | with_reducible apply ev_if | with_reducible apply ev_tst | with_reducible apply ev_tru | with_reducible apply ev_not | with_reducible apply ev_tand | with_reducible apply ev_tor | with_reducible apply ev_sl | with_reducible apply ev_moS | with_reducible apply ev_lc | with_reducible apply ev_iter | with_reducible apply ev_enum | with_reducible apply ev_rng1 | with_reducible apply ev_eqO | with_reducible apply ev_seq' | with_reducible apply ev_set | with_reducible apply ev_ret | with_reducible apply ev_exp' | with_reducible apply ev_ifs | with_reducible apply ev_for | with_reducible apply ev_for' | with_reducible apply ev_stFh | with_reducible apply ev_stI | with_reducible apply ev_raise | with_reducible apply ev_apph | with_reducible apply ev_xf | with_reducible apply ev_isX | with_reducible apply k_nx | with_reducible apply f_nx | with_reducible apply t_ok | with_reducible apply ev_var | with_reducible exact dk | with_reducible exact st | with_reducible exact t1 | with_reducible exact pk | with_reducible exact od2 | with_reducible exact pk2 | with_reducible exact st2 | with_reducible exact t2 | with_reducible exact nl_by _ | with_reducible exact ns_may_by _ | exact Nat.le_of_ble_eq_true rfl | ((with_reducible apply if_t); focus (exact rfl)) | ((with_reducible apply if_f); focus decide) | exact ⟨rfl, rfl⟩ | exact rfl), s5.up⟩
theorem turn_may (g : GoodP a1 a2 a3 a4 m) (s : SI x h) {od : PV} (ho : od ∈ oddM) : ∃ (q13 q14 : Option PV) (h' : MH), bodyO [o0, some (.lst NM), o2, some (.ref x), o4, some (gd a1 a2 a3 a4 m), o6, o7, o8, some (.int 4), some (.str "may"), o11, some od, o13, o14, o15] h = .nx [o0, some (.lst NM), o2, some (.ref x), o4, some (gd a1 a2 a3 a4 m), o6, o7, o8, some (.int 4), some (.str "may"), o11, some od, q13, q14, o15] h' ∧ SI x h' := by
  obtain ⟨n, cs⟩ := h
  have co : cleanP od = true := cl_odds (.inr (.inr (.inr ho)))
  have cd : cleanD (dct5 (.str a1) (.str a2) (.str a3) (.str a4) (od)) = true := by simp [dct5, cleanD, cleanP, co]
  have dk : pDictPC [.lst [.tup [.str "event", .str a1], .tup [.str "deed", .str a2], .tup [.str "call", .str a3], .tup [.str "by", .str a4], .tup [.str "may", .bl m]]] ⟨n, cs⟩ = some (.ref n, ⟨n + 1, (n, .dct (dct5 (.str a1) (.str a2) (.str a3) (.str a4) (.bl m))) :: cs⟩) := rfl
  have st : stIx (.ref n) (.str "may") od ⟨n + 1, (n, .dct (dct5 (.str a1) (.str a2) (.str a3) (.str a4) (.bl m))) :: cs⟩ = some ⟨n + 1, (n, .dct (dct5 (.str a1) (.str a2) (.str a3) (.str a4) (od))) :: cs⟩ := by
    have gh : (⟨n + 1, (n, .dct (dct5 (.str a1) (.str a2) (.str a3) (.str a4) (.bl m))) :: cs⟩ : MH).get n = some (.dct (dct5 (.str a1) (.str a2) (.str a3) (.str a4) (.bl m))) := if_pos rfl
    rw [stIx_d (q := .str "may") (v := od) (ky := .inr "may") gh rfl (Nat.le_of_ble_eq_true rfl)]
    unfold MH.put
    simp only [putc, if_true]
    rfl
  have s1 := s.newD cd 0
  have t1 : r_law_tried (pick [0] ([.ref n] ++ ([] ++ []))) ⟨n + 1, (n, .dct (dct5 (.str a1) (.str a2) (.str a3) (.str a4) (od))) :: cs⟩ = .ok (.lst [.str "may", .bl true]) ⟨n + 1 + 1, (n, .dct (dct5 (.str a1) (.str a2) (.str a3) (.str a4) (od))) :: cs⟩ := tried_ok g.v1 g.v2 g.v3 g.v4 (badM od ho) s1.wf s1.cl (if_pos rfl) rfl
  have s2 := s.newD cd 1
  obtain ⟨v, h3, hv, pk, s3, nx3, oth⟩ := pick_ok (ys := cutP NM (some 4) none) s2 (by decide)
  have nx_ : n ≠ x := by
    obtain ⟨L, k, gx⟩ := s.pool
    have := wf_lt s.wf gx
    have : x < n := this
    omega
  have gn : h3.get n = some (.dct (dct5 (.str a1) (.str a2) (.str a3) (.str a4) (od))) := by rw [oth n nx_]; exact if_pos rfl
  obtain ⟨n3, c3⟩ := h3
  have ev : cutP NM (some 4) none = [.str "may"] := rfl
  rw [ev] at hv
  simp only [List.mem_cons, List.not_mem_nil, or_false] at hv
  subst hv
  have t2 : r_law_tried (pick [0] ([.ref n] ++ ([] ++ []))) ⟨n3, c3⟩ = .ok (.lst [.str "may", .bl true]) ⟨n3 + 1, c3⟩ := tried_ok g.v1 g.v2 g.v3 g.v4 (badM od ho) s3.wf s3.cl gn rfl
  exact ⟨_, _, ⟨n3 + 1, c3⟩, by repeat (first | with_reducible exact app_n | with_reducible exact ev_c | with_reducible exact ev_nil | with_reducible exact ev_nx | with_reducible exact ev_yes | with_reducible exact ev_moN | with_reducible exact ev_lcN | with_reducible exact ev_forN | with_reducible exact k_rt | with_reducible exact k_xc | with_reducible exact f_rt | with_reducible exact f_xc | with_reducible exact t_xc | with_reducible apply ev_cons | with_reducible apply ev_tup | with_reducible apply ev_lst | with_reducible apply ev_lstC | with_reducible apply ev_b1 | with_reducible apply ev_b2 | with_reducible apply ev_ba | with_reducible apply ev_call | with_reducible apply ev_callK | with_reducible apply ev_fld | with_reducible apply ev_meth | with_reducible apply ev_is | with_reducible apply ev_and | with_reducible apply ev_notV | with_reducible apply ev_if | with_reducible apply ev_tst | with_reducible apply ev_tru | with_reducible apply ev_not | with_reducible apply ev_tand | with_reducible apply ev_tor | with_reducible apply ev_sl | with_reducible apply ev_moS | with_reducible apply ev_lc | with_reducible apply ev_iter | with_reducible apply ev_enum | with_reducible apply ev_rng1 | with_reducible apply ev_eqO | with_reducible apply ev_seq' | with_reducible apply ev_set | with_reducible apply ev_ret | with_reducible apply ev_exp' | with_reducible apply ev_ifs | with_reducible apply ev_for | with_reducible apply ev_for' | with_reducible apply ev_stFh | with_reducible apply ev_stI | with_reducible apply ev_raise | with_reducible apply ev_apph | with_reducible apply ev_xf | with_reducible apply ev_isX | with_reducible apply k_nx | with_reducible apply f_nx | with_reducible apply t_ok | with_reducible apply ev_var | with_reducible exact dk | with_reducible exact st | with_reducible exact t1 | with_reducible exact pk | with_reducible exact t2 | with_reducible exact nl_may _ | with_reducible exact ns_may_may _ | exact Nat.le_of_ble_eq_true rfl | ((with_reducible apply if_t); focus (exact rfl)) | ((with_reducible apply if_f); focus decide) | exact ⟨rfl, rfl⟩ | exact rfl), s3.up⟩
end
end K04

namespace K04
open PySem PySem.Spec PyProof.Rows L2 Mi
structure GoodK (a1 a2 a3 a4 : Str) : Prop where
  k1 : sk a1
  k2 : sk a2
  k3 : sk a3
  k4 : sk a4
theorem okW : okTg tgs clss (.own "Waking") = true := by decide +kernel
abbrev bodyV : MS := (mSeq (mSet 13 (mBA pDictPC (mCons (mLc [15] (mIter (mVar 1)) (gN 15) (mYes) (mTup (mCons (mVar 15) (mCons (mB2 pIx (mVar 5) (mVar 15)) (mNil))))) (mNil))))
    (mSeq (mStIx (mVar 11) (mVar 13) (mVar 10))
    (mIfS (mTst (mEqO "Waking" (okTg tgs clss) r_Waking_eq false (mCallK 3 2 (runMake "Waking" r_Waking_init [0, 1, 2, 3, 4, 5] []) (mCons (mB2 pIx (mVar 13) (mC (.str "event"))) (mCons (mB2 pIx (mVar 13) (mC (.str "deed"))) (mCons (mB2 pIx (mVar 13) (mC (.str "call"))) (mNil)))) (mCons (mB2 pIx (mVar 13) (mC (.str "by"))) (mCons (mB2 pIx (mVar 13) (mC (.str "may"))) (mNil)))) (mVar 6)))
    (mRet (mC (.bl false)))
    (mNx))))
section
variable {a1 a2 a3 a4 : Str} {m : Bool} {x : Nat} {h : MH} {o0 o2 o4 o7 o8 o12 o13 o14 o15 : Option PV}

theorem val_event (g : GoodP a1 a2 a3 a4 m) (k : GoodK a1 a2 a3 a4) (s : SI x h) {b : Str} (vb : VE (.str b) true) (kb : sk b) (ne : (b == a1) = false) : ∃ (q13 : Option PV) (h' : MH), bodyV [o0, some (.lst NM), o2, some (.ref x), o4, some (gd a1 a2 a3 a4 m), some (wk a1 a2 a3 a4 m), o7, o8, some (.int 0), some (.str "event"), some (.str b), o12, o13, o14, o15] h = .nx [o0, some (.lst NM), o2, some (.ref x), o4, some (gd a1 a2 a3 a4 m), some (wk a1 a2 a3 a4 m), o7, o8, some (.int 0), some (.str "event"), some (.str b), o12, q13, o14, o15] h' ∧ SI x h' := by
  obtain ⟨n, cs⟩ := h
  have cd : cleanD (dct5 (.str b) (.str a2) (.str a3) (.str a4) (.bl m)) = true := by simp [dct5, cleanD, cleanP]
  have dk : pDictPC [.lst [.tup [.str "event", .str a1], .tup [.str "deed", .str a2], .tup [.str "call", .str a3], .tup [.str "by", .str a4], .tup [.str "may", .bl m]]] ⟨n, cs⟩ = some (.ref n, ⟨n + 1, (n, .dct (dct5 (.str a1) (.str a2) (.str a3) (.str a4) (.bl m))) :: cs⟩) := rfl
  have st : stIx (.ref n) (.str "event") (.str b) ⟨n + 1, (n, .dct (dct5 (.str a1) (.str a2) (.str a3) (.str a4) (.bl m))) :: cs⟩ = some ⟨n + 1, (n, .dct (dct5 (.str b) (.str a2) (.str a3) (.str a4) (.bl m))) :: cs⟩ := by
    have gh : (⟨n + 1, (n, .dct (dct5 (.str a1) (.str a2) (.str a3) (.str a4) (.bl m))) :: cs⟩ : MH).get n = some (.dct (dct5 (.str a1) (.str a2) (.str a3) (.str a4) (.bl m))) := if_pos rfl
    rw [stIx_d (q := .str "event") (v := .str b) (ky := .inr "event") gh rfl (Nat.le_of_ble_eq_true rfl)]
    unfold MH.put
    simp only [putc, if_true]
    rfl
  have s1 := s.newD cd 0
  have s2 := s.newD cd 1
  have gn : (⟨n + 1, (n, .dct (dct5 (.str b) (.str a2) (.str a3) (.str a4) (.bl m))) :: cs⟩ : MH).get n = some (.dct (dct5 (.str b) (.str a2) (.str a3) (.str a4) (.bl m))) := if_pos rfl
  have d1 : pIx (.ref n) (.str "event") ⟨n + 1, (n, .dct (dct5 (.str b) (.str a2) (.str a3) (.str a4) (.bl m))) :: cs⟩ = some (.str b, ⟨n + 1, (n, .dct (dct5 (.str b) (.str a2) (.str a3) (.str a4) (.bl m))) :: cs⟩) := pIx_d gn rfl rfl
  have d2 : pIx (.ref n) (.str "deed") ⟨n + 1, (n, .dct (dct5 (.str b) (.str a2) (.str a3) (.str a4) (.bl m))) :: cs⟩ = some (.str a2, ⟨n + 1, (n, .dct (dct5 (.str b) (.str a2) (.str a3) (.str a4) (.bl m))) :: cs⟩) := pIx_d gn rfl rfl
  have d3 : pIx (.ref n) (.str "call") ⟨n + 1, (n, .dct (dct5 (.str b) (.str a2) (.str a3) (.str a4) (.bl m))) :: cs⟩ = some (.str a3, ⟨n + 1, (n, .dct (dct5 (.str b) (.str a2) (.str a3) (.str a4) (.bl m))) :: cs⟩) := pIx_d gn rfl rfl
  have d4 : pIx (.ref n) (.str "by") ⟨n + 1, (n, .dct (dct5 (.str b) (.str a2) (.str a3) (.str a4) (.bl m))) :: cs⟩ = some (.str a4, ⟨n + 1, (n, .dct (dct5 (.str b) (.str a2) (.str a3) (.str a4) (.bl m))) :: cs⟩) := pIx_d gn rfl rfl
  have d5 : pIx (.ref n) (.str "may") ⟨n + 1, (n, .dct (dct5 (.str b) (.str a2) (.str a3) (.str a4) (.bl m))) :: cs⟩ = some (.bl m, ⟨n + 1, (n, .dct (dct5 (.str b) (.str a2) (.str a3) (.str a4) (.bl m))) :: cs⟩) := pIx_d gn rfl rfl
  have mk : runMake "Waking" r_Waking_init [0, 1, 2, 3, 4, 5] [] [.str b, .str a2, .str a3] [.str a4, .bl m] ⟨n + 1, (n, .dct (dct5 (.str b) (.str a2) (.str a3) (.str a4) (.bl m))) :: cs⟩ = .ok (wk b a2 a3 a4 m) ⟨n + 1 + 1, (n, .dct (dct5 (.str b) (.str a2) (.str a3) (.str a4) (.bl m))) :: cs⟩ := make1 (b5 := true) vb g.v2 g.v3 g.v4 g.v5 s1.wf
  have eq := eq_ok (m := m) (m' := m) kb k.k2 k.k3 k.k4 k.k1 k.k2 k.k3 k.k4 s2.wf
  have z : (same b a2 a3 a4 a1 a2 a3 a4 && (m == m)) = false := by
    unfold same
    simp only [ne, Bool.and_false, Bool.false_and, Bool.and_true]
  rw [z] at eq
  exact ⟨_, _, by repeat (first | with_reducible exact app_n | with_reducible exact ev_c | with_reducible exact ev_nil | with_reducible exact ev_nx | with_reducible exact ev_yes | with_reducible exact ev_moN | with_reducible exact ev_lcN | with_reducible exact ev_forN | with_reducible exact k_rt | with_reducible exact k_xc | with_reducible exact f_rt | with_reducible exact f_xc | with_reducible exact t_xc | with_reducible apply ev_cons | with_reducible apply ev_tup | with_reducible apply ev_lst | with_reducible apply ev_lstC | with_reducible apply ev_b1 | with_reducible apply ev_b2 | with_reducible apply ev_ba | with_reducible apply ev_call | with_reducible apply ev_callK | with_reducible apply ev_fld | with_reducible apply ev_meth | with_reducible apply ev_is | with_reducible apply ev_and | with_reducible apply ev_notV | with_reducible apply ev_if | with_reducible apply ev_tst | with_reducible apply ev_tru | with_reducible apply ev_not | with_reducible apply ev_tand | with_reducible apply ev_tor | with_reducible apply ev_sl | with_reducible apply ev_moS | with_reducible apply ev_lc | with_reducible apply ev_iter | with_reducible apply ev_enum | with_reducible apply ev_rng1 | with_reducible apply ev_eqO | with_reducible apply ev_seq' | with_reducible apply ev_set | with_reducible apply ev_ret | with_reducible apply ev_exp' | with_reducible apply ev_ifs | with_reducible apply ev_for | with_reducible apply ev_for' | with_reducible apply ev_stFh | with_reducible apply ev_stI | with_reducible apply ev_raise | with_reducible apply ev_apph | with_reducible apply ev_xf | with_reducible apply ev_isX | with_reducible apply k_nx | with_reducible apply f_nx | with_reducible apply t_ok | with_reducible apply ev_var | with_reducible exact dk | with_reducible exact st | with_reducible exact d1 | with_reducible exact d2 | with_reducible exact d3 | with_reducible exact d4 | with_reducible exact d5 | with_reducible exact mk | with_reducible exact eq | with_reducible exact okW | exact Nat.le_of_ble_eq_true rfl | ((with_reducible apply if_t); focus (exact rfl)) | ((with_reducible apply if_f); focus decide) | exact ⟨rfl, rfl⟩ | exact rfl), s2⟩
theorem val_deed (g : GoodP a1 a2 a3 a4 m) (k : GoodK a1 a2 a3 a4) (s : SI x h) {b : Str} (vb : VW (.str b) true) (kb : sk b) (ne : (b == a2) = false) : ∃ (q13 : Option PV) (h' : MH), bodyV [o0, some (.lst NM), o2, some (.ref x), o4, some (gd a1 a2 a3 a4 m), some (wk a1 a2 a3 a4 m), o7, o8, some (.int 1), some (.str "deed"), some (.str b), o12, o13, o14, o15] h = .nx [o0, some (.lst NM), o2, some (.ref x), o4, some (gd a1 a2 a3 a4 m), some (wk a1 a2 a3 a4 m), o7, o8, some (.int 1), some (.str "deed"), some (.str b), o12, q13, o14, o15] h' ∧ SI x h' := by
  obtain ⟨n, cs⟩ := h
  have cd : cleanD (dct5 (.str a1) (.str b) (.str a3) (.str a4) (.bl m)) = true := by simp [dct5, cleanD, cleanP]
  have dk : pDictPC [.lst [.tup [.str "event", .str a1], .tup [.str "deed", .str a2], .tup [.str "call", .str a3], .tup [.str "by", .str a4], .tup [.str "may", .bl m]]] ⟨n, cs⟩ = some (.ref n, ⟨n + 1, (n, .dct (dct5 (.str a1) (.str a2) (.str a3) (.str a4) (.bl m))) :: cs⟩) := rfl
  have st : stIx (.ref n) (.str "deed") (.str b) ⟨n + 1, (n, .dct (dct5 (.str a1) (.str a2) (.str a3) (.str a4) (.bl m))) :: cs⟩ = some ⟨n + 1, (n, .dct (dct5 (.str a1) (.str b) (.str a3) (.str a4) (.bl m))) :: cs⟩ := by
    have gh : (⟨n + 1, (n, .dct (dct5 (.str a1) (.str a2) (.str a3) (.str a4) (.bl m))) :: cs⟩ : MH).get n = some (.dct (dct5 (.str a1) (.str a2) (.str a3) (.str a4) (.bl m))) := if_pos rfl
    rw [stIx_d (q := .str "deed") (v := .str b) (ky := .inr "deed") gh rfl (Nat.le_of_ble_eq_true rfl)]
    unfold MH.put
    simp only [putc, if_true]
    rfl
  have s1 := s.newD cd 0
  have s2 := s.newD cd 1
  have gn : (⟨n + 1, (n, .dct (dct5 (.str a1) (.str b) (.str a3) (.str a4) (.bl m))) :: cs⟩ : MH).get n = some (.dct (dct5 (.str a1) (.str b) (.str a3) (.str a4) (.bl m))) := if_pos rfl
  have d1 : pIx (.ref n) (.str "event") ⟨n + 1, (n, .dct (dct5 (.str a1) (.str b) (.str a3) (.str a4) (.bl m))) :: cs⟩ = some (.str a1, ⟨n + 1, (n, .dct (dct5 (.str a1) (.str b) (.str a3) (.str a4) (.bl m))) :: cs⟩) := pIx_d gn rfl rfl
  have d2 : pIx (.ref n) (.str "deed") ⟨n + 1, (n, .dct (dct5 (.str a1) (.str b) (.str a3) (.str a4) (.bl m))) :: cs⟩ = some (.str b, ⟨n + 1, (n, .dct (dct5 (.str a1) (.str b) (.str a3) (.str a4) (.bl m))) :: cs⟩) := pIx_d gn rfl rfl
  have d3 : pIx (.ref n) (.str "call") ⟨n + 1, (n, .dct (dct5 (.str a1) (.str b) (.str a3) (.str a4) (.bl m))) :: cs⟩ = some (.str a3, ⟨n + 1, (n, .dct (dct5 (.str a1) (.str b) (.str a3) (.str a4) (.bl m))) :: cs⟩) := pIx_d gn rfl rfl
  have d4 : pIx (.ref n) (.str "by") ⟨n + 1, (n, .dct (dct5 (.str a1) (.str b) (.str a3) (.str a4) (.bl m))) :: cs⟩ = some (.str a4, ⟨n + 1, (n, .dct (dct5 (.str a1) (.str b) (.str a3) (.str a4) (.bl m))) :: cs⟩) := pIx_d gn rfl rfl
  have d5 : pIx (.ref n) (.str "may") ⟨n + 1, (n, .dct (dct5 (.str a1) (.str b) (.str a3) (.str a4) (.bl m))) :: cs⟩ = some (.bl m, ⟨n + 1, (n, .dct (dct5 (.str a1) (.str b) (.str a3) (.str a4) (.bl m))) :: cs⟩) := pIx_d gn rfl rfl
  have mk : runMake "Waking" r_Waking_init [0, 1, 2, 3, 4, 5] [] [.str a1, .str b, .str a3] [.str a4, .bl m] ⟨n + 1, (n, .dct (dct5 (.str a1) (.str b) (.str a3) (.str a4) (.bl m))) :: cs⟩ = .ok (wk a1 b a3 a4 m) ⟨n + 1 + 1, (n, .dct (dct5 (.str a1) (.str b) (.str a3) (.str a4) (.bl m))) :: cs⟩ := make1 (b5 := true) g.v1 vb g.v3 g.v4 g.v5 s1.wf
  have eq := eq_ok (m := m) (m' := m) k.k1 kb k.k3 k.k4 k.k1 k.k2 k.k3 k.k4 s2.wf
  have z : (same a1 b a3 a4 a1 a2 a3 a4 && (m == m)) = false := by
    unfold same
    simp only [ne, Bool.and_false, Bool.false_and, Bool.and_true]
  rw [z] at eq
  exact ⟨_, _, by repeat (first | with_reducible exact app_n | with_reducible exact ev_c | with_reducible exact ev_nil | with_reducible exact ev_nx | with_reducible exact ev_yes | with_reducible exact ev_moN | with_reducible exact ev_lcN | with_reducible exact ev_forN | with_reducible exact k_rt | with_reducible exact k_xc | with_reducible exact f_rt | with_reducible exact f_xc | with_reducible exact t_xc | with_reducible apply ev_cons | with_reducible apply ev_tup | with_reducible apply ev_lst | with_reducible apply ev_lstC | with_reducible apply ev_b1 | with_reducible apply ev_b2 | with_reducible apply ev_ba | with_reducible apply ev_call | with_reducible apply ev_callK | with_reducible apply ev_fld | with_reducible apply ev_meth | with_reducible apply ev_is | with_reducible apply ev_and | with_reducible apply ev_notV | with_reducible apply ev_if | with_reducible apply ev_tst | with_reducible apply ev_tru | with_reducible apply ev_not | with_reducible apply ev_tand | with_reducible apply ev_tor | with_reducible apply ev_sl | with_reducible apply ev_moS | with_reducible apply ev_lc | with_reducible apply ev_iter | with_reducible apply ev_enum | with_reducible apply ev_rng1 | with_reducible apply ev_eqO | with_reducible apply ev_seq' | with_reducible apply ev_set | with_reducible apply ev_ret | with_reducible apply ev_exp' | with_reducible apply ev_ifs | with_reducible apply ev_for | with_reducible apply ev_for' | with_reducible apply ev_stFh | with_reducible apply ev_stI | with_reducible apply ev_raise | with_reducible apply ev_apph | with_reducible apply ev_xf | with_reducible apply ev_isX | with_reducible apply k_nx | with_reducible apply f_nx | with_reducible apply t_ok | with_reducible apply ev_var | with_reducible exact dk | with_reducible exact st | with_reducible exact d1 | with_reducible exact d2 | with_reducible exact d3 | with_reducible exact d4 | with_reducible exact d5 | with_reducible exact mk | with_reducible exact eq | with_reducible exact okW | exact Nat.le_of_ble_eq_true rfl | ((with_reducible apply if_t); focus (exact rfl)) | ((with_reducible apply if_f); focus decide) | exact ⟨rfl, rfl⟩ | exact rfl), s2⟩
theorem val_call (g : GoodP a1 a2 a3 a4 m) (k : GoodK a1 a2 a3 a4) (s : SI x h) {b : Str} (vb : VW (.str b) true) (kb : sk b) (ne : (b == a3) = false) : ∃ (q13 : Option PV) (h' : MH), bodyV [o0, some (.lst NM), o2, some (.ref x), o4, some (gd a1 a2 a3 a4 m), some (wk a1 a2 a3 a4 m), o7, o8, some (.int 2), some (.str "call"), some (.str b), o12, o13, o14, o15] h = .nx [o0, some (.lst NM), o2, some (.ref x), o4, some (gd a1 a2 a3 a4 m), some (wk a1 a2 a3 a4 m), o7, o8, some (.int 2), some (.str "call"), some (.str b), o12, q13, o14, o15] h' ∧ SI x h' := by
  obtain ⟨n, cs⟩ := h
  have cd : cleanD (dct5 (.str a1) (.str a2) (.str b) (.str a4) (.bl m)) = true := by simp [dct5, cleanD, cleanP]
  have dk : pDictPC [.lst [.tup [.str "event", .str a1], .tup [.str "deed", .str a2], .tup [.str "call", .str a3], .tup [.str "by", .str a4], .tup [.str "may", .bl m]]] ⟨n, cs⟩ = some (.ref n, ⟨n + 1, (n, .dct (dct5 (.str a1) (.str a2) (.str a3) (.str a4) (.bl m))) :: cs⟩) := rfl
  have st : stIx (.ref n) (.str "call") (.str b) ⟨n + 1, (n, .dct (dct5 (.str a1) (.str a2) (.str a3) (.str a4) (.bl m))) :: cs⟩ = some ⟨n + 1, (n, .dct (dct5 (.str a1) (.str a2) (.str b) (.str a4) (.bl m))) :: cs⟩ := by
    have gh : (⟨n + 1, (n, .dct (dct5 (.str a1) (.str a2) (.str a3) (.str a4) (.bl m))) :: cs⟩ : MH).get n = some (.dct (dct5 (.str a1) (.str a2) (.str a3) (.str a4) (.bl m))) := if_pos rfl
    rw [stIx_d (q := .str "call") (v := .str b) (ky := .inr "call") gh rfl (Nat.le_of_ble_eq_true rfl)]
    unfold MH.put
    simp only [putc, if_true]
    rfl
  have s1 := s.newD cd 0
  have s2 := s.newD cd 1
  have gn : (⟨n + 1, (n, .dct (dct5 (.str a1) (.str a2) (.str b) (.str a4) (.bl m))) :: cs⟩ : MH).get n = some (.dct (dct5 (.str a1) (.str a2) (.str b) (.str a4) (.bl m))) := if_pos rfl
  have d1 : pIx (.ref n) (.str "event") ⟨n + 1, (n, .dct (dct5 (.str a1) (.str a2) (.str b) (.str a4) (.bl m))) :: cs⟩ = some (.str a1, ⟨n + 1, (n, .dct (dct5 (.str a1) (.str a2) (.str b) (.str a4) (.bl m))) :: cs⟩) := pIx_d gn rfl rfl
  have d2 : pIx (.ref n) (.str "deed") ⟨n + 1, (n, .dct (dct5 (.str a1) (.str a2) (.str b) (.str a4) (.bl m))) :: cs⟩ = some (.str a2, ⟨n + 1, (n, .dct (dct5 (.str a1) (.str a2) (.str b) (.str a4) (.bl m))) :: cs⟩) := pIx_d gn rfl rfl
  have d3 : pIx (.ref n) (.str "call") ⟨n + 1, (n, .dct (dct5 (.str a1) (.str a2) (.str b) (.str a4) (.bl m))) :: cs⟩ = some (.str b, ⟨n + 1, (n, .dct (dct5 (.str a1) (.str a2) (.str b) (.str a4) (.bl m))) :: cs⟩) := pIx_d gn rfl rfl
  have d4 : pIx (.ref n) (.str "by") ⟨n + 1, (n, .dct (dct5 (.str a1) (.str a2) (.str b) (.str a4) (.bl m))) :: cs⟩ = some (.str a4, ⟨n + 1, (n, .dct (dct5 (.str a1) (.str a2) (.str b) (.str a4) (.bl m))) :: cs⟩) := pIx_d gn rfl rfl
  have d5 : pIx (.ref n) (.str "may") ⟨n + 1, (n, .dct (dct5 (.str a1) (.str a2) (.str b) (.str a4) (.bl m))) :: cs⟩ = some (.bl m, ⟨n + 1, (n, .dct (dct5 (.str a1) (.str a2) (.str b) (.str a4) (.bl m))) :: cs⟩) := pIx_d gn rfl rfl
  have mk : runMake "Waking" r_Waking_init [0, 1, 2, 3, 4, 5] [] [.str a1, .str a2, .str b] [.str a4, .bl m] ⟨n + 1, (n, .dct (dct5 (.str a1) (.str a2) (.str b) (.str a4) (.bl m))) :: cs⟩ = .ok (wk a1 a2 b a4 m) ⟨n + 1 + 1, (n, .dct (dct5 (.str a1) (.str a2) (.str b) (.str a4) (.bl m))) :: cs⟩ := make1 (b5 := true) g.v1 g.v2 vb g.v4 g.v5 s1.wf
  have eq := eq_ok (m := m) (m' := m) k.k1 k.k2 kb k.k4 k.k1 k.k2 k.k3 k.k4 s2.wf
  have z : (same a1 a2 b a4 a1 a2 a3 a4 && (m == m)) = false := by
    unfold same
    simp only [ne, Bool.and_false, Bool.false_and, Bool.and_true]
  rw [z] at eq
  exact ⟨_, _, by repeat (first | with_reducible exact app_n | with_reducible exact ev_c | with_reducible exact ev_nil | with_reducible exact ev_nx | with_reducible exact ev_yes | with_reducible exact ev_moN | with_reducible exact ev_lcN | with_reducible exact ev_forN | with_reducible exact k_rt | with_reducible exact k_xc | with_reducible exact f_rt | with_reducible exact f_xc | with_reducible exact t_xc | with_reducible apply ev_cons | with_reducible apply ev_tup | with_reducible apply ev_lst | with_reducible apply ev_lstC | with_reducible apply ev_b1 | with_reducible apply ev_b2 | with_reducible apply ev_ba | with_reducible apply ev_call | with_reducible apply ev_callK | with_reducible apply ev_fld | with_reducible apply ev_meth | with_reducible apply ev_is | with_reducible apply ev_and | with_reducible apply ev_notV | with_reducible apply ev_if | with_reducible apply ev_tst | with_reducible apply ev_tru | with_reducible apply ev_not | with_reducible apply ev_tand | with_reducible apply ev_tor | with_reducible apply ev_sl | with_reducible apply ev_moS | with_reducible apply ev_lc | with_reducible apply ev_iter | with_reducible apply ev_enum | with_reducible apply ev_rng1 | with_reducible apply ev_eqO | with_reducible apply ev_seq' | with_reducible apply ev_set | with_reducible apply ev_ret | with_reducible apply ev_exp' | with_reducible apply ev_ifs | with_reducible apply ev_for | with_reducible apply ev_for' | with_reducible apply ev_stFh | with_reducible apply ev_stI | with_reducible apply ev_raise | with_reducible apply ev_apph | with_reducible apply ev_xf | with_reducible apply ev_isX | with_reducible apply k_nx | with_reducible apply f_nx | with_reducible apply t_ok | with_reducible apply ev_var | with_reducible exact dk | with_reducible exact st | with_reducible exact d1 | with_reducible exact d2 | with_reducible exact d3 | with_reducible exact d4 | with_reducible exact d5 | with_reducible exact mk | with_reducible exact eq | with_reducible exact okW | exact Nat.le_of_ble_eq_true rfl | ((with_reducible apply if_t); focus (exact rfl)) | ((with_reducible apply if_f); focus decide) | exact ⟨rfl, rfl⟩ | exact rfl), s2⟩
theorem val_by (g : GoodP a1 a2 a3 a4 m) (k : GoodK a1 a2 a3 a4) (s : SI x h) {b : Str} (vb : VB (.str b) true) (kb : sk b) (ne : (b == a4) = false) : ∃ (q13 : Option PV) (h' : MH), bodyV [o0, some (.lst NM), o2, some (.ref x), o4, some (gd a1 a2 a3 a4 m), some (wk a1 a2 a3 a4 m), o7, o8, some (.int 3), some (.str "by"), some (.str b), o12, o13, o14, o15] h = .nx [o0, some (.lst NM), o2, some (.ref x), o4, some (gd a1 a2 a3 a4 m), some (wk a1 a2 a3 a4 m), o7, o8, some (.int 3), some (.str "by"), some (.str b), o12, q13, o14, o15] h' ∧ SI x h' := by
  obtain ⟨n, cs⟩ := h
  have cd : cleanD (dct5 (.str a1) (.str a2) (.str a3) (.str b) (.bl m)) = true := by simp [dct5, cleanD, cleanP]
  have dk : pDictPC [.lst [.tup [.str "event", .str a1], .tup [.str "deed", .str a2], .tup [.str "call", .str a3], .tup [.str "by", .str a4], .tup [.str "may", .bl m]]] ⟨n, cs⟩ = some (.ref n, ⟨n + 1, (n, .dct (dct5 (.str a1) (.str a2) (.str a3) (.str a4) (.bl m))) :: cs⟩) := rfl
  have st : stIx (.ref n) (.str "by") (.str b) ⟨n + 1, (n, .dct (dct5 (.str a1) (.str a2) (.str a3) (.str a4) (.bl m))) :: cs⟩ = some ⟨n + 1, (n, .dct (dct5 (.str a1) (.str a2) (.str a3) (.str b) (.bl m))) :: cs⟩ := by
    have gh : (⟨n + 1, (n, .dct (dct5 (.str a1) (.str a2) (.str a3) (.str a4) (.bl m))) :: cs⟩ : MH).get n = some (.dct (dct5 (.str a1) (.str a2) (.str a3) (.str a4) (.bl m))) := if_pos rfl
    rw [stIx_d (q := .str "by") (v := .str b) (ky := .inr "by") gh rfl (Nat.le_of_ble_eq_true rfl)]
    unfold MH.put
    simp only [putc, if_true]
    rfl
  have s1 := s.newD cd 0
  have s2 := s.newD cd 1
  have gn : (⟨n + 1, (n, .dct (dct5 (.str a1) (.str a2) (.str a3) (.str b) (.bl m))) :: cs⟩ : MH).get n = some (.dct (dct5 (.str a1) (.str a2) (.str a3) (.str b) (.bl m))) := if_pos rfl
  have d1 : pIx (.ref n) (.str "event") ⟨n + 1, (n, .dct (dct5 (.str a1) (.str a2) (.str a3) (.str b) (.bl m))) :: cs⟩ = some (.str a1, ⟨n + 1, (n, .dct (dct5 (.str a1) (.str a2) (.str a3) (.str b) (.bl m))) :: cs⟩) := pIx_d gn rfl rfl
  have d2 : pIx (.ref n) (.str "deed") ⟨n + 1, (n, .dct (dct5 (.str a1) (.str a2) (.str a3) (.str b) (.bl m))) :: cs⟩ = some (.str a2, ⟨n + 1, (n, .dct (dct5 (.str a1) (.str a2) (.str a3) (.str b) (.bl m))) :: cs⟩) := pIx_d gn rfl rfl
  have d3 : pIx (.ref n) (.str "call") ⟨n + 1, (n, .dct (dct5 (.str a1) (.str a2) (.str a3) (.str b) (.bl m))) :: cs⟩ = some (.str a3, ⟨n + 1, (n, .dct (dct5 (.str a1) (.str a2) (.str a3) (.str b) (.bl m))) :: cs⟩) := pIx_d gn rfl rfl
  have d4 : pIx (.ref n) (.str "by") ⟨n + 1, (n, .dct (dct5 (.str a1) (.str a2) (.str a3) (.str b) (.bl m))) :: cs⟩ = some (.str b, ⟨n + 1, (n, .dct (dct5 (.str a1) (.str a2) (.str a3) (.str b) (.bl m))) :: cs⟩) := pIx_d gn rfl rfl
  have d5 : pIx (.ref n) (.str "may") ⟨n + 1, (n, .dct (dct5 (.str a1) (.str a2) (.str a3) (.str b) (.bl m))) :: cs⟩ = some (.bl m, ⟨n + 1, (n, .dct (dct5 (.str a1) (.str a2) (.str a3) (.str b) (.bl m))) :: cs⟩) := pIx_d gn rfl rfl
  have mk : runMake "Waking" r_Waking_init [0, 1, 2, 3, 4, 5] [] [.str a1, .str a2, .str a3] [.str b, .bl m] ⟨n + 1, (n, .dct (dct5 (.str a1) (.str a2) (.str a3) (.str b) (.bl m))) :: cs⟩ = .ok (wk a1 a2 a3 b m) ⟨n + 1 + 1, (n, .dct (dct5 (.str a1) (.str a2) (.str a3) (.str b) (.bl m))) :: cs⟩ := make1 (b5 := true) g.v1 g.v2 g.v3 vb g.v5 s1.wf
  have eq := eq_ok (m := m) (m' := m) k.k1 k.k2 k.k3 kb k.k1 k.k2 k.k3 k.k4 s2.wf
  have z : (same a1 a2 a3 b a1 a2 a3 a4 && (m == m)) = false := by
    unfold same
    simp only [ne, Bool.and_false, Bool.false_and, Bool.and_true]
  rw [z] at eq
  exact ⟨_, _, by repeat (first | with_reducible exact app_n | with_reducible exact ev_c | with_reducible exact ev_nil | with_reducible exact ev_nx | with_reducible exact ev_yes | with_reducible exact ev_moN | with_reducible exact ev_lcN | with_reducible exact ev_forN | with_reducible exact k_rt | with_reducible exact k_xc | with_reducible exact f_rt | with_reducible exact f_xc | with_reducible exact t_xc | with_reducible apply ev_cons | with_reducible apply ev_tup | with_reducible apply ev_lst | with_reducible apply ev_lstC | with_reducible apply ev_b1 | with_reducible apply ev_b2 | with_reducible apply ev_ba | with_reducible apply ev_call | with_reducible apply ev_callK | with_reducible apply ev_fld | with_reducible apply ev_meth | with_reducible apply ev_is | with_reducible apply ev_and | with_reducible apply ev_notV | with_reducible apply ev_if | with_reducible apply ev_tst | with_reducible apply ev_tru | with_reducible apply ev_not | with_reducible apply ev_tand | with_reducible apply ev_tor | with_reducible apply ev_sl | with_reducible apply ev_moS | with_reducible apply ev_lc | with_reducible apply ev_iter | with_reducible apply ev_enum | with_reducible apply ev_rng1 | with_reducible apply ev_eqO | with_reducible apply ev_seq' | with_reducible apply ev_set | with_reducible apply ev_ret | with_reducible apply ev_exp' | with_reducible apply ev_ifs | with_reducible apply ev_for | with_reducible apply ev_for' | with_reducible apply ev_stFh | with_reducible apply ev_stI | with_reducible apply ev_raise | with_reducible apply ev_apph | with_reducible apply ev_xf | with_reducible apply ev_isX | with_reducible apply k_nx | with_reducible apply f_nx | with_reducible apply t_ok | with_reducible apply ev_var | with_reducible exact dk | with_reducible exact st | with_reducible exact d1 | with_reducible exact d2 | with_reducible exact d3 | with_reducible exact d4 | with_reducible exact d5 | with_reducible exact mk | with_reducible exact eq | with_reducible exact okW | exact Nat.le_of_ble_eq_true rfl | ((with_reducible apply if_t); focus (exact rfl)) | ((with_reducible apply if_f); focus decide) | exact ⟨rfl, rfl⟩ | exact rfl), s2⟩
theorem val_may (g : GoodP a1 a2 a3 a4 m) (k : GoodK a1 a2 a3 a4) (s : SI x h) {b : Bool} (ne : (b == m) = false) : ∃ (q13 : Option PV) (h' : MH), bodyV [o0, some (.lst NM), o2, some (.ref x), o4, some (gd a1 a2 a3 a4 m), some (wk a1 a2 a3 a4 m), o7, o8, some (.int 4), some (.str "may"), some (.bl b), o12, o13, o14, o15] h = .nx [o0, some (.lst NM), o2, some (.ref x), o4, some (gd a1 a2 a3 a4 m), some (wk a1 a2 a3 a4 m), o7, o8, some (.int 4), some (.str "may"), some (.bl b), o12, q13, o14, o15] h' ∧ SI x h' := by
  obtain ⟨n, cs⟩ := h
  have cd : cleanD (dct5 (.str a1) (.str a2) (.str a3) (.str a4) (.bl b)) = true := by simp [dct5, cleanD, cleanP]
  have dk : pDictPC [.lst [.tup [.str "event", .str a1], .tup [.str "deed", .str a2], .tup [.str "call", .str a3], .tup [.str "by", .str a4], .tup [.str "may", .bl m]]] ⟨n, cs⟩ = some (.ref n, ⟨n + 1, (n, .dct (dct5 (.str a1) (.str a2) (.str a3) (.str a4) (.bl m))) :: cs⟩) := rfl
  have st : stIx (.ref n) (.str "may") (.bl b) ⟨n + 1, (n, .dct (dct5 (.str a1) (.str a2) (.str a3) (.str a4) (.bl m))) :: cs⟩ = some ⟨n + 1, (n, .dct (dct5 (.str a1) (.str a2) (.str a3) (.str a4) (.bl b))) :: cs⟩ := by
    have gh : (⟨n + 1, (n, .dct (dct5 (.str a1) (.str a2) (.str a3) (.str a4) (.bl m))) :: cs⟩ : MH).get n = some (.dct (dct5 (.str a1) (.str a2) (.str a3) (.str a4) (.bl m))) := if_pos rfl
    rw [stIx_d (q := .str "may") (v := .bl b) (ky := .inr "may") gh rfl (Nat.le_of_ble_eq_true rfl)]
    unfold MH.put
    simp only [putc, if_true]
    rfl
  have s1 := s.newD cd 0
  have s2 := s.newD cd 1
  have gn : (⟨n + 1, (n, .dct (dct5 (.str a1) (.str a2) (.str a3) (.str a4) (.bl b))) :: cs⟩ : MH).get n = some (.dct (dct5 (.str a1) (.str a2) (.str a3) (.str a4) (.bl b))) := if_pos rfl
  have d1 : pIx (.ref n) (.str "event") ⟨n + 1, (n, .dct (dct5 (.str a1) (.str a2) (.str a3) (.str a4) (.bl b))) :: cs⟩ = some (.str a1, ⟨n + 1, (n, .dct (dct5 (.str a1) (.str a2) (.str a3) (.str a4) (.bl b))) :: cs⟩) := pIx_d gn rfl rfl
  have d2 : pIx (.ref n) (.str "deed") ⟨n + 1, (n, .dct (dct5 (.str a1) (.str a2) (.str a3) (.str a4) (.bl b))) :: cs⟩ = some (.str a2, ⟨n + 1, (n, .dct (dct5 (.str a1) (.str a2) (.str a3) (.str a4) (.bl b))) :: cs⟩) := pIx_d gn rfl rfl
  have d3 : pIx (.ref n) (.str "call") ⟨n + 1, (n, .dct (dct5 (.str a1) (.str a2) (.str a3) (.str a4) (.bl b))) :: cs⟩ = some (.str a3, ⟨n + 1, (n, .dct (dct5 (.str a1) (.str a2) (.str a3) (.str a4) (.bl b))) :: cs⟩) := pIx_d gn rfl rfl
  have d4 : pIx (.ref n) (.str "by") ⟨n + 1, (n, .dct (dct5 (.str a1) (.str a2) (.str a3) (.str a4) (.bl b))) :: cs⟩ = some (.str a4, ⟨n + 1, (n, .dct (dct5 (.str a1) (.str a2) (.str a3) (.str a4) (.bl b))) :: cs⟩) := pIx_d gn rfl rfl
  have d5 : pIx (.ref n) (.str "may") ⟨n + 1, (n, .dct (dct5 (.str a1) (.str a2) (.str a3) (.str a4) (.bl b))) :: cs⟩ = some (.bl b, ⟨n + 1, (n, .dct (dct5 (.str a1) (.str a2) (.str a3) (.str a4) (.bl b))) :: cs⟩) := pIx_d gn rfl rfl
  have mk : runMake "Waking" r_Waking_init [0, 1, 2, 3, 4, 5] [] [.str a1, .str a2, .str a3] [.str a4, .bl b] ⟨n + 1, (n, .dct (dct5 (.str a1) (.str a2) (.str a3) (.str a4) (.bl b))) :: cs⟩ = .ok (wk a1 a2 a3 a4 b) ⟨n + 1 + 1, (n, .dct (dct5 (.str a1) (.str a2) (.str a3) (.str a4) (.bl b))) :: cs⟩ := make1 (b5 := true) g.v1 g.v2 g.v3 g.v4 ⟨.ty "bool", fun _ => rfl, (by decide +kernel : tblOf is_bool (.ty "bool") = some true)⟩ s1.wf
  have eq := eq_ok (m := b) (m' := m) k.k1 k.k2 k.k3 k.k4 k.k1 k.k2 k.k3 k.k4 s2.wf
  have z : (same a1 a2 a3 a4 a1 a2 a3 a4 && (b == m)) = false := by
    unfold same
    simp only [ne, Bool.and_false, Bool.false_and, Bool.and_true]
  rw [z] at eq
  exact ⟨_, _, by repeat (first | with_reducible exact app_n | with_reducible exact ev_c | with_reducible exact ev_nil | with_reducible exact ev_nx | with_reducible exact ev_yes | with_reducible exact ev_moN | with_reducible exact ev_lcN | with_reducible exact ev_forN | with_reducible exact k_rt | with_reducible exact k_xc | with_reducible exact f_rt | with_reducible exact f_xc | with_reducible exact t_xc | with_reducible apply ev_cons | with_reducible apply ev_tup | with_reducible apply ev_lst | with_reducible apply ev_lstC | with_reducible apply ev_b1 | with_reducible apply ev_b2 | with_reducible apply ev_ba | with_reducible apply ev_call | with_reducible apply ev_callK | with_reducible apply ev_fld | with_reducible apply ev_meth | with_reducible apply ev_is | with_reducible apply ev_and | with_reducible apply ev_notV | with_reducible apply ev_if | with_reducible apply ev_tst | with_reducible apply ev_tru | with_reducible apply ev_not | with_reducible apply ev_tand | with_reducible apply ev_tor | with_reducible apply ev_sl | with_reducible apply ev_moS | with_reducible apply ev_lc | with_reducible apply ev_iter | with_reducible apply ev_enum | with_reducible apply ev_rng1 | with_reducible apply ev_eqO | with_reducible apply ev_seq' | with_reducible apply ev_set | with_reducible apply ev_ret | with_reducible apply ev_exp' | with_reducible apply ev_ifs | with_reducible apply ev_for | with_reducible apply ev_for' | with_reducible apply ev_stFh | with_reducible apply ev_stI | with_reducible apply ev_raise | with_reducible apply ev_apph | with_reducible apply ev_xf | with_reducible apply ev_isX | with_reducible apply k_nx | with_reducible apply f_nx | with_reducible apply t_ok | with_reducible apply ev_var | with_reducible exact dk | with_reducible exact st | with_reducible exact d1 | with_reducible exact d2 | with_reducible exact d3 | with_reducible exact d4 | with_reducible exact d5 | with_reducible exact mk | with_reducible exact eq | with_reducible exact okW | exact Nat.le_of_ble_eq_true rfl | ((with_reducible apply if_t); focus (exact rfl)) | ((with_reducible apply if_f); focus decide) | exact ⟨rfl, rfl⟩ | exact rfl), s2⟩
end
end K04

namespace K04
open PySem PySem.Spec PyProof.Rows L2 Mi
theorem lc_filter {g : MG} {t : MT} {el : ME} {env : MEnv} {h : MH} (tt : PV → Bool) : ∀ ps : List PV, (∀ p ∈ ps, ∃ e1, g p env = some e1 ∧ t e1 h = .ok (tt p) h ∧ el e1 h = .ok p h) → mLcL g t el env ps h = .ok (ps.filter tt) h
  | [], _ => rfl
  | p :: ps, hp => by
    obtain ⟨e1, x1, x2, x3⟩ := hp p (List.mem_cons_self ..)
    have ih := lc_filter tt ps fun q m => hp q (List.mem_cons_of_mem _ m)
    cases q : tt p with
    | true =>
      rw [q] at x2
      rw [List.filter_cons_of_pos q]
      exact ev_lcY x1 x2 x3 ih
    | false =>
      rw [q] at x2
      rw [List.filter_cons_of_neg (by rw [q]; exact Bool.false_ne_true)]
      exact ev_lcS x1 x2 ih
theorem sk_shape {a : Str} (k : sk a) : SeqAt.shaped (.str a) = true := by
  unfold SeqAt.shaped
  rw [show PyData.canLay0 (.str a) = true from k]
  rfl
theorem ne_str {a b : Str} (ka : sk a) (kb : sk b) (h : MH) : pNe (.str a) (.str b) h = some (.bl (!(a == b)), h) := by
  show ((if SeqAt.shaped (.str a) = true ∧ SeqAt.shaped (.str b) = true then some (PyData.eqv (.str a) (.str b)) else none).map fun b => (PV.bl (!b), h)) = _
  rw [if_pos ⟨sk_shape ka, sk_shape kb⟩]
  simp [PyData.eqv]
theorem ne_bl (a b : Bool) (h : MH) : pNe (.bl a) (.bl b) h = some (.bl (!(a == b)), h) := by
  cases a <;> cases b <;> rfl
def tS_ (a : Str) : PV → Bool
  | .str c => !(c == a)
  | _ => true
def tB_ (a : Bool) : PV → Bool
  | .bl c => !(c == a)
  | _ => true
abbrev MENU : List PV := [.lst menuE, .lst menuD, .lst menuC, .lst menuB, .lst menuM]

theorem str_menuE : ∀ p ∈ menuE, ∃ c, p = .str c ∧ VE (.str c) true ∧ sk c := by
  intro p hp
  have v := goodE p hp
  simp only [menuE, List.mem_cons, List.not_mem_nil, or_false] at hp
  rcases hp with rfl | rfl | rfl | rfl <;> exact ⟨_, rfl, v, by unfold sk; decide +kernel⟩
theorem str_menuD : ∀ p ∈ menuD, ∃ c, p = .str c ∧ VW (.str c) true ∧ sk c := by
  intro p hp
  have v := goodD p hp
  simp only [menuD, List.mem_cons, List.not_mem_nil, or_false] at hp
  rcases hp with rfl | rfl | rfl | rfl <;> exact ⟨_, rfl, v, by unfold sk; decide +kernel⟩
theorem str_menuC : ∀ p ∈ menuC, ∃ c, p = .str c ∧ VW (.str c) true ∧ sk c := by
  intro p hp
  have v := goodC p hp
  simp only [menuC, List.mem_cons, List.not_mem_nil, or_false] at hp
  rcases hp with rfl | rfl | rfl <;> exact ⟨_, rfl, v, by unfold sk; decide +kernel⟩
theorem str_menuB : ∀ p ∈ menuB, ∃ c, p = .str c ∧ VB (.str c) true ∧ sk c := by
  intro p hp
  have v := goodB p hp
  simp only [menuB, List.mem_cons, List.not_mem_nil, or_false] at hp
  rcases hp with rfl | rfl <;> exact ⟨_, rfl, v, by unfold sk; decide +kernel⟩
abbrev bodyP : MS := (mSeq (mFor (mIter (mLc [11] (mIter (mB2 pIx (mVar 4) (mVar 9))) (gN 11) (mTst (mB2 pNe (mVar 11) (mB2 pIx (mVar 5) (mVar 10)))) (mVar 11))) (gN 11) bodyV)
    (mFor (mIter (mCall 1 (fun ps qs h => r_law_odds (pick [0] (ps ++ ([] ++ qs))) h) (mCons (mVar 10) (mNil)))) (gN 12) bodyO))
section
variable {a1 a2 a3 a4 : Str} {m : Bool} {x : Nat} {h : MH} {o0 o2 o7 o8 o11 o12 o13 o14 o15 : Option PV}

theorem part_event (g : GoodP a1 a2 a3 a4 m) (k : GoodK a1 a2 a3 a4) (s : SI x h) : ∃ (r11 r12 r13 r14 r15 : Option PV) (h' : MH), bodyP [o0, some (.lst NM), o2, some (.ref x), some (.lst MENU), some (gd a1 a2 a3 a4 m), some (wk a1 a2 a3 a4 m), o7, o8, some (.int 0), some (.str "event"), o11, o12, o13, o14, o15] h = .nx [o0, some (.lst NM), o2, some (.ref x), some (.lst MENU), some (gd a1 a2 a3 a4 m), some (wk a1 a2 a3 a4 m), o7, o8, some (.int 0), some (.str "event"), r11, r12, r13, r14, r15] h' ∧ SI x h' := by
  have lc : mLcL (gN 11) (mTst (mB2 pNe (mVar 11) (mB2 pIx (mVar 5) (mVar 10)))) (mVar 11) (wipeP [o0, some (.lst NM), o2, some (.ref x), some (.lst MENU), some (gd a1 a2 a3 a4 m), some (wk a1 a2 a3 a4 m), o7, o8, some (.int 0), some (.str "event"), o11, o12, o13, o14, o15] [11]) menuE h = .ok (menuE.filter (tS_ a1)) h := lc_filter (tS_ a1) menuE fun p hp => by
    obtain ⟨c, rfl, vc, kc⟩ := str_menuE p hp
    exact ⟨_, rfl, by have nn : pNe (.str c) (.str a1) h = some (.bl (tS_ a1 (.str c)), h) := ne_str kc k.k1 h; repeat (first | with_reducible exact app_n | with_reducible exact ev_c | with_reducible exact ev_nil | with_reducible exact ev_nx | with_reducible exact ev_yes | with_reducible exact ev_moN | with_reducible exact ev_lcN | with_reducible exact ev_forN | with_reducible exact k_rt | with_reducible exact k_xc | with_reducible exact f_rt | with_reducible exact f_xc | with_reducible exact t_xc | with_reducible apply ev_cons | with_reducible apply ev_tup | with_reducible apply ev_lst | with_reducible apply ev_lstC | with_reducible apply ev_b1 | with_reducible apply ev_b2 | with_reducible apply ev_ba | with_reducible apply ev_call | with_reducible apply ev_callK | with_reducible apply ev_fld | with_reducible apply ev_meth | with_reducible apply ev_is | with_reducible apply ev_and | with_reducible apply ev_notV | with_reducible apply ev_if | with_reducible apply ev_tst | with_reducible apply ev_tru | with_reducible apply ev_not | with_reducible apply ev_tand | with_reducible apply ev_tor | with_reducible apply ev_sl | with_reducible apply ev_moS | with_reducible apply ev_lc | with_reducible apply ev_iter | with_reducible apply ev_enum | with_reducible apply ev_rng1 | with_reducible apply ev_eqO | with_reducible apply ev_seq' | with_reducible apply ev_set | with_reducible apply ev_ret | with_reducible apply ev_exp' | with_reducible apply ev_ifs | with_reducible apply ev_for | with_reducible apply ev_for' | with_reducible apply ev_stFh | with_reducible apply ev_stI | with_reducible apply ev_raise | with_reducible apply ev_apph | with_reducible apply ev_xf | with_reducible apply ev_isX | with_reducible apply k_nx | with_reducible apply f_nx | with_reducible apply t_ok | with_reducible apply ev_var | with_reducible exact nn | exact Nat.le_of_ble_eq_true rfl | ((with_reducible apply if_t); focus (exact rfl)) | ((with_reducible apply if_f); focus decide) | exact ⟨rfl, rfl⟩ | exact rfl), by repeat (first | with_reducible exact app_n | with_reducible exact ev_c | with_reducible exact ev_nil | with_reducible exact ev_nx | with_reducible exact ev_yes | with_reducible exact ev_moN | with_reducible exact ev_lcN | with_reducible exact ev_forN | with_reducible exact k_rt | with_reducible exact k_xc | with_reducible exact f_rt | with_reducible exact f_xc | with_reducible exact t_xc | with_reducible apply ev_cons | with_reducible apply ev_tup | with_reducible apply ev_lst | with_reducible apply ev_lstC | with_reducible apply ev_b1 | with_reducible apply ev_b2 | with_reducible apply ev_ba | with_reducible apply ev_call | with_reducible apply ev_callK | with_reducible apply ev_fld | with_reducible apply ev_meth | with_reducible apply ev_is | with_reducible apply ev_and | with_reducible apply ev_notV | with_reducible apply ev_if | with_reducible apply ev_tst | with_reducible apply ev_tru | with_reducible apply ev_not | with_reducible apply ev_tand | with_reducible apply ev_tor | with_reducible apply ev_sl | with_reducible apply ev_moS | with_reducible apply ev_lc | with_reducible apply ev_iter | with_reducible apply ev_enum | with_reducible apply ev_rng1 | with_reducible apply ev_eqO | with_reducible apply ev_seq' | with_reducible apply ev_set | with_reducible apply ev_ret | with_reducible apply ev_exp' | with_reducible apply ev_ifs | with_reducible apply ev_for | with_reducible apply ev_for' | with_reducible apply ev_stFh | with_reducible apply ev_stI | with_reducible apply ev_raise | with_reducible apply ev_apph | with_reducible apply ev_xf | with_reducible apply ev_isX | with_reducible apply k_nx | with_reducible apply f_nx | with_reducible apply t_ok | with_reducible apply ev_var | exact Nat.le_of_ble_eq_true rfl | ((with_reducible apply if_t); focus (exact rfl)) | ((with_reducible apply if_f); focus decide) | exact ⟨rfl, rfl⟩ | exact rfl)⟩
  have it : mIter (mLc [11] (mIter (mB2 pIx (mVar 4) (mVar 9))) (gN 11) (mTst (mB2 pNe (mVar 11) (mB2 pIx (mVar 5) (mVar 10)))) (mVar 11)) [o0, some (.lst NM), o2, some (.ref x), some (.lst MENU), some (gd a1 a2 a3 a4 m), some (wk a1 a2 a3 a4 m), o7, o8, some (.int 0), some (.str "event"), o11, o12, o13, o14, o15] h = .ok (menuE.filter (tS_ a1)) h :=
    ev_iter (ev_lc (ev_iter (p := .lst menuE) (h1 := h) (by repeat (first | with_reducible exact app_n | with_reducible exact ev_c | with_reducible exact ev_nil | with_reducible exact ev_nx | with_reducible exact ev_yes | with_reducible exact ev_moN | with_reducible exact ev_lcN | with_reducible exact ev_forN | with_reducible exact k_rt | with_reducible exact k_xc | with_reducible exact f_rt | with_reducible exact f_xc | with_reducible exact t_xc | with_reducible apply ev_cons | with_reducible apply ev_tup | with_reducible apply ev_lst | with_reducible apply ev_lstC | with_reducible apply ev_b1 | with_reducible apply ev_b2 | with_reducible apply ev_ba | with_reducible apply ev_call | with_reducible apply ev_callK | with_reducible apply ev_fld | with_reducible apply ev_meth | with_reducible apply ev_is | with_reducible apply ev_and | with_reducible apply ev_notV | with_reducible apply ev_if | with_reducible apply ev_tst | with_reducible apply ev_tru | with_reducible apply ev_not | with_reducible apply ev_tand | with_reducible apply ev_tor | with_reducible apply ev_sl | with_reducible apply ev_moS | with_reducible apply ev_lc | with_reducible apply ev_iter | with_reducible apply ev_enum | with_reducible apply ev_rng1 | with_reducible apply ev_eqO | with_reducible apply ev_seq' | with_reducible apply ev_set | with_reducible apply ev_ret | with_reducible apply ev_exp' | with_reducible apply ev_ifs | with_reducible apply ev_for | with_reducible apply ev_for' | with_reducible apply ev_stFh | with_reducible apply ev_stI | with_reducible apply ev_raise | with_reducible apply ev_apph | with_reducible apply ev_xf | with_reducible apply ev_isX | with_reducible apply k_nx | with_reducible apply f_nx | with_reducible apply t_ok | with_reducible apply ev_var | exact Nat.le_of_ble_eq_true rfl | ((with_reducible apply if_t); focus (exact rfl)) | ((with_reducible apply if_f); focus decide) | exact ⟨rfl, rfl⟩ | exact rfl)) rfl) (Nat.le_of_ble_eq_true rfl) lc) rfl
  obtain ⟨e2, h2, f1, r11, r12, r13, r14, r15, ee, s2⟩ := forL_inv (sa := bodyV) (g := gN 11) (I := fun env h => ∃ r11 r12 r13 r14 r15, env = [o0, some (.lst NM), o2, some (.ref x), some (.lst MENU), some (gd a1 a2 a3 a4 m), some (wk a1 a2 a3 a4 m), o7, o8, some (.int 0), some (.str "event"), r11, r12, r13, r14, r15] ∧ SI x h) (xs := menuE.filter (tS_ a1)) (env := [o0, some (.lst NM), o2, some (.ref x), some (.lst MENU), some (gd a1 a2 a3 a4 m), some (wk a1 a2 a3 a4 m), o7, o8, some (.int 0), some (.str "event"), o11, o12, o13, o14, o15]) (h := h) (by
    intro y hy env hh hI
    obtain ⟨r11, r12, r13, r14, r15, rfl, sh⟩ := hI
    obtain ⟨hy1, hy2⟩ := List.mem_filter.mp hy
    obtain ⟨c, rfl, vc, kc⟩ := str_menuE y hy1
    have ne : (c == a1) = false := by
      have z : (!(c == a1)) = true := hy2
      simpa using z
    obtain ⟨q13, h', e1, s'⟩ := val_event (o0 := o0) (o2 := o2) (o4 := some (.lst MENU)) (o7 := o7) (o8 := o8) (o12 := r12) (o13 := r13) (o14 := r14) (o15 := r15) g k sh vc kc ne
    exact ⟨_, _, _, rfl, e1, _, _, _, _, _, rfl, s'⟩) ⟨o11, o12, o13, o14, o15, rfl, s⟩
  subst ee
  have od := odds_E h2
  rw [gc_wf s2.wf] at od
  have it2 : mIter (mCall 1 (fun ps qs h => r_law_odds (pick [0] (ps ++ ([] ++ qs))) h) (mCons (mVar 10) (mNil))) [o0, some (.lst NM), o2, some (.ref x), some (.lst MENU), some (gd a1 a2 a3 a4 m), some (wk a1 a2 a3 a4 m), o7, o8, some (.int 0), some (.str "event"), r11, r12, r13, r14, r15] h2 = .ok oddE h2 := by
    refine ev_iter (p := .lst oddE) ?_ rfl
    repeat (first | with_reducible exact app_n | with_reducible exact ev_c | with_reducible exact ev_nil | with_reducible exact ev_nx | with_reducible exact ev_yes | with_reducible exact ev_moN | with_reducible exact ev_lcN | with_reducible exact ev_forN | with_reducible exact k_rt | with_reducible exact k_xc | with_reducible exact f_rt | with_reducible exact f_xc | with_reducible exact t_xc | with_reducible apply ev_cons | with_reducible apply ev_tup | with_reducible apply ev_lst | with_reducible apply ev_lstC | with_reducible apply ev_b1 | with_reducible apply ev_b2 | with_reducible apply ev_ba | with_reducible apply ev_call | with_reducible apply ev_callK | with_reducible apply ev_fld | with_reducible apply ev_meth | with_reducible apply ev_is | with_reducible apply ev_and | with_reducible apply ev_notV | with_reducible apply ev_if | with_reducible apply ev_tst | with_reducible apply ev_tru | with_reducible apply ev_not | with_reducible apply ev_tand | with_reducible apply ev_tor | with_reducible apply ev_sl | with_reducible apply ev_moS | with_reducible apply ev_lc | with_reducible apply ev_iter | with_reducible apply ev_enum | with_reducible apply ev_rng1 | with_reducible apply ev_eqO | with_reducible apply ev_seq' | with_reducible apply ev_set | with_reducible apply ev_ret | with_reducible apply ev_exp' | with_reducible apply ev_ifs | with_reducible apply ev_for | with_reducible apply ev_for' | with_reducible apply ev_stFh | with_reducible apply ev_stI | with_reducible apply ev_raise | with_reducible apply ev_apph | with_reducible apply ev_xf | with_reducible apply ev_isX | with_reducible apply k_nx | with_reducible apply f_nx | with_reducible apply t_ok | with_reducible apply ev_var | with_reducible exact od | exact Nat.le_of_ble_eq_true rfl | ((with_reducible apply if_t); focus (exact rfl)) | ((with_reducible apply if_f); focus decide) | exact ⟨rfl, rfl⟩ | exact rfl)
  obtain ⟨e3, h3, f2, t11, t12, t13, t14, t15, ee, s3⟩ := forL_inv (sa := bodyO) (g := gN 12) (I := fun env h => ∃ r11 r12 r13 r14 r15, env = [o0, some (.lst NM), o2, some (.ref x), some (.lst MENU), some (gd a1 a2 a3 a4 m), some (wk a1 a2 a3 a4 m), o7, o8, some (.int 0), some (.str "event"), r11, r12, r13, r14, r15] ∧ SI x h) (xs := oddE) (env := [o0, some (.lst NM), o2, some (.ref x), some (.lst MENU), some (gd a1 a2 a3 a4 m), some (wk a1 a2 a3 a4 m), o7, o8, some (.int 0), some (.str "event"), r11, r12, r13, r14, r15]) (h := h2) (by
    intro y hy env hh hI
    obtain ⟨r11, r12, r13, r14, r15, rfl, sh⟩ := hI
    obtain ⟨q13, q14, h', e1, s'⟩ := turn_event (o0 := o0) (o2 := o2) (o4 := some (.lst MENU)) (o6 := some (wk a1 a2 a3 a4 m)) (o7 := o7) (o8 := o8) (o11 := r11) (o13 := r13) (o14 := r14) (o15 := r15) g sh hy
    exact ⟨_, _, _, rfl, e1, _, _, _, _, _, rfl, s'⟩) ⟨r11, r12, r13, r14, r15, rfl, s2⟩
  subst ee
  exact ⟨t11, t12, t13, t14, t15, h3, ev_seq (ev_for it f1) (ev_for it2 f2), s3⟩
theorem part_deed (g : GoodP a1 a2 a3 a4 m) (k : GoodK a1 a2 a3 a4) (s : SI x h) : ∃ (r11 r12 r13 r14 r15 : Option PV) (h' : MH), bodyP [o0, some (.lst NM), o2, some (.ref x), some (.lst MENU), some (gd a1 a2 a3 a4 m), some (wk a1 a2 a3 a4 m), o7, o8, some (.int 1), some (.str "deed"), o11, o12, o13, o14, o15] h = .nx [o0, some (.lst NM), o2, some (.ref x), some (.lst MENU), some (gd a1 a2 a3 a4 m), some (wk a1 a2 a3 a4 m), o7, o8, some (.int 1), some (.str "deed"), r11, r12, r13, r14, r15] h' ∧ SI x h' := by
  have lc : mLcL (gN 11) (mTst (mB2 pNe (mVar 11) (mB2 pIx (mVar 5) (mVar 10)))) (mVar 11) (wipeP [o0, some (.lst NM), o2, some (.ref x), some (.lst MENU), some (gd a1 a2 a3 a4 m), some (wk a1 a2 a3 a4 m), o7, o8, some (.int 1), some (.str "deed"), o11, o12, o13, o14, o15] [11]) menuD h = .ok (menuD.filter (tS_ a2)) h := lc_filter (tS_ a2) menuD fun p hp => by
    obtain ⟨c, rfl, vc, kc⟩ := str_menuD p hp
    exact ⟨_, rfl, by have nn : pNe (.str c) (.str a2) h = some (.bl (tS_ a2 (.str c)), h) := ne_str kc k.k2 h; repeat (first | with_reducible exact app_n | with_reducible exact ev_c | with_reducible exact ev_nil | with_reducible exact ev_nx | with_reducible exact ev_yes | with_reducible exact ev_moN | with_reducible exact ev_lcN | with_reducible exact ev_forN | with_reducible exact k_rt | with_reducible exact k_xc | with_reducible exact f_rt | with_reducible exact f_xc | with_reducible exact t_xc | with_reducible apply ev_cons | with_reducible apply ev_tup | with_reducible apply ev_lst | with_reducible apply ev_lstC | with_reducible apply ev_b1 | with_reducible apply ev_b2 | with_reducible apply ev_ba | with_reducible apply ev_call | with_reducible apply ev_callK | with_reducible apply ev_fld | with_reducible apply ev_meth | with_reducible apply ev_is | with_reducible apply ev_and | with_reducible apply ev_notV | with_reducible apply ev_if | with_reducible apply ev_tst | with_reducible apply ev_tru | with_reducible apply ev_not | with_reducible apply ev_tand | with_reducible apply ev_tor | with_reducible apply ev_sl | with_reducible apply ev_moS | with_reducible apply ev_lc | with_reducible apply ev_iter | with_reducible apply ev_enum | with_reducible apply ev_rng1 | with_reducible apply ev_eqO | with_reducible apply ev_seq' | with_reducible apply ev_set | with_reducible apply ev_ret | with_reducible apply ev_exp' | with_reducible apply ev_ifs | with_reducible apply ev_for | with_reducible apply ev_for' | with_reducible apply ev_stFh | with_reducible apply ev_stI | with_reducible apply ev_raise | with_reducible apply ev_apph | with_reducible apply ev_xf | with_reducible apply ev_isX | with_reducible apply k_nx | with_reducible apply f_nx | with_reducible apply t_ok | with_reducible apply ev_var | with_reducible exact nn | exact Nat.le_of_ble_eq_true rfl | ((with_reducible apply if_t); focus (exact rfl)) | ((with_reducible apply if_f); focus decide) | exact ⟨rfl, rfl⟩ | exact rfl), by repeat (first | with_reducible exact app_n | with_reducible exact ev_c | with_reducible exact ev_nil | with_reducible exact ev_nx | with_reducible exact ev_yes | with_reducible exact ev_moN | with_reducible exact ev_lcN | with_reducible exact ev_forN | with_reducible exact k_rt | with_reducible exact k_xc | with_reducible exact f_rt | with_reducible exact f_xc | with_reducible exact t_xc | with_reducible apply ev_cons | with_reducible apply ev_tup | with_reducible apply ev_lst | with_reducible apply ev_lstC | with_reducible apply ev_b1 | with_reducible apply ev_b2 | with_reducible apply ev_ba | with_reducible apply ev_call | with_reducible apply ev_callK | with_reducible apply ev_fld | with_reducible apply ev_meth | with_reducible apply ev_is | with_reducible apply ev_and | with_reducible apply ev_notV | with_reducible apply ev_if | with_reducible apply ev_tst | with_reducible apply ev_tru | with_reducible apply ev_not | with_reducible apply ev_tand | with_reducible apply ev_tor | with_reducible apply ev_sl | with_reducible apply ev_moS | with_reducible apply ev_lc | with_reducible apply ev_iter | with_reducible apply ev_enum | with_reducible apply ev_rng1 | with_reducible apply ev_eqO | with_reducible apply ev_seq' | with_reducible apply ev_set | with_reducible apply ev_ret | with_reducible apply ev_exp' | with_reducible apply ev_ifs | with_reducible apply ev_for | with_reducible apply ev_for' | with_reducible apply ev_stFh | with_reducible apply ev_stI | with_reducible apply ev_raise | with_reducible apply ev_apph | with_reducible apply ev_xf | with_reducible apply ev_isX | with_reducible apply k_nx | with_reducible apply f_nx | with_reducible apply t_ok | with_reducible apply ev_var | exact Nat.le_of_ble_eq_true rfl | ((with_reducible apply if_t); focus (exact rfl)) | ((with_reducible apply if_f); focus decide) | exact ⟨rfl, rfl⟩ | exact rfl)⟩
  have it : mIter (mLc [11] (mIter (mB2 pIx (mVar 4) (mVar 9))) (gN 11) (mTst (mB2 pNe (mVar 11) (mB2 pIx (mVar 5) (mVar 10)))) (mVar 11)) [o0, some (.lst NM), o2, some (.ref x), some (.lst MENU), some (gd a1 a2 a3 a4 m), some (wk a1 a2 a3 a4 m), o7, o8, some (.int 1), some (.str "deed"), o11, o12, o13, o14, o15] h = .ok (menuD.filter (tS_ a2)) h :=
    ev_iter (ev_lc (ev_iter (p := .lst menuD) (h1 := h) (by repeat (first | with_reducible exact app_n | with_reducible exact ev_c | with_reducible exact ev_nil | with_reducible exact ev_nx | with_reducible exact ev_yes | with_reducible exact ev_moN | with_reducible exact ev_lcN | with_reducible exact ev_forN | with_reducible exact k_rt | with_reducible exact k_xc | with_reducible exact f_rt | with_reducible exact f_xc | with_reducible exact t_xc | with_reducible apply ev_cons | with_reducible apply ev_tup | with_reducible apply ev_lst | with_reducible apply ev_lstC | with_reducible apply ev_b1 | with_reducible apply ev_b2 | with_reducible apply ev_ba | with_reducible apply ev_call | with_reducible apply ev_callK | with_reducible apply ev_fld | with_reducible apply ev_meth | with_reducible apply ev_is | with_reducible apply ev_and | with_reducible apply ev_notV | with_reducible apply ev_if | with_reducible apply ev_tst | with_reducible apply ev_tru | with_reducible apply ev_not | with_reducible apply ev_tand | with_reducible apply ev_tor | with_reducible apply ev_sl | with_reducible apply ev_moS | with_reducible apply ev_lc | with_reducible apply ev_iter | with_reducible apply ev_enum | with_reducible apply ev_rng1 | with_reducible apply ev_eqO | with_reducible apply ev_seq' | with_reducible apply ev_set | with_reducible apply ev_ret | with_reducible apply ev_exp' | with_reducible apply ev_ifs | with_reducible apply ev_for | with_reducible apply ev_for' | with_reducible apply ev_stFh | with_reducible apply ev_stI | with_reducible apply ev_raise | with_reducible apply ev_apph | with_reducible apply ev_xf | with_reducible apply ev_isX | with_reducible apply k_nx | with_reducible apply f_nx | with_reducible apply t_ok | with_reducible apply ev_var | exact Nat.le_of_ble_eq_true rfl | ((with_reducible apply if_t); focus (exact rfl)) | ((with_reducible apply if_f); focus decide) | exact ⟨rfl, rfl⟩ | exact rfl)) rfl) (Nat.le_of_ble_eq_true rfl) lc) rfl
  obtain ⟨e2, h2, f1, r11, r12, r13, r14, r15, ee, s2⟩ := forL_inv (sa := bodyV) (g := gN 11) (I := fun env h => ∃ r11 r12 r13 r14 r15, env = [o0, some (.lst NM), o2, some (.ref x), some (.lst MENU), some (gd a1 a2 a3 a4 m), some (wk a1 a2 a3 a4 m), o7, o8, some (.int 1), some (.str "deed"), r11, r12, r13, r14, r15] ∧ SI x h) (xs := menuD.filter (tS_ a2)) (env := [o0, some (.lst NM), o2, some (.ref x), some (.lst MENU), some (gd a1 a2 a3 a4 m), some (wk a1 a2 a3 a4 m), o7, o8, some (.int 1), some (.str "deed"), o11, o12, o13, o14, o15]) (h := h) (by
    intro y hy env hh hI
    obtain ⟨r11, r12, r13, r14, r15, rfl, sh⟩ := hI
    obtain ⟨hy1, hy2⟩ := List.mem_filter.mp hy
    obtain ⟨c, rfl, vc, kc⟩ := str_menuD y hy1
    have ne : (c == a2) = false := by
      have z : (!(c == a2)) = true := hy2
      simpa using z
    obtain ⟨q13, h', e1, s'⟩ := val_deed (o0 := o0) (o2 := o2) (o4 := some (.lst MENU)) (o7 := o7) (o8 := o8) (o12 := r12) (o13 := r13) (o14 := r14) (o15 := r15) g k sh vc kc ne
    exact ⟨_, _, _, rfl, e1, _, _, _, _, _, rfl, s'⟩) ⟨o11, o12, o13, o14, o15, rfl, s⟩
  subst ee
  have od := odds_D h2
  rw [gc_wf s2.wf] at od
  have it2 : mIter (mCall 1 (fun ps qs h => r_law_odds (pick [0] (ps ++ ([] ++ qs))) h) (mCons (mVar 10) (mNil))) [o0, some (.lst NM), o2, some (.ref x), some (.lst MENU), some (gd a1 a2 a3 a4 m), some (wk a1 a2 a3 a4 m), o7, o8, some (.int 1), some (.str "deed"), r11, r12, r13, r14, r15] h2 = .ok oddW h2 := by
    refine ev_iter (p := .lst oddW) ?_ rfl
    repeat (first | with_reducible exact app_n | with_reducible exact ev_c | with_reducible exact ev_nil | with_reducible exact ev_nx | with_reducible exact ev_yes | with_reducible exact ev_moN | with_reducible exact ev_lcN | with_reducible exact ev_forN | with_reducible exact k_rt | with_reducible exact k_xc | with_reducible exact f_rt | with_reducible exact f_xc | with_reducible exact t_xc | with_reducible apply ev_cons | with_reducible apply ev_tup | with_reducible apply ev_lst | with_reducible apply ev_lstC | with_reducible apply ev_b1 | with_reducible apply ev_b2 | with_reducible apply ev_ba | with_reducible apply ev_call | with_reducible apply ev_callK | with_reducible apply ev_fld | with_reducible apply ev_meth | with_reducible apply ev_is | with_reducible apply ev_and | with_reducible apply ev_notV | with_reducible apply ev_if | with_reducible apply ev_tst | with_reducible apply ev_tru | with_reducible apply ev_not | with_reducible apply ev_tand | with_reducible apply ev_tor | with_reducible apply ev_sl | with_reducible apply ev_moS | with_reducible apply ev_lc | with_reducible apply ev_iter | with_reducible apply ev_enum | with_reducible apply ev_rng1 | with_reducible apply ev_eqO | with_reducible apply ev_seq' | with_reducible apply ev_set | with_reducible apply ev_ret | with_reducible apply ev_exp' | with_reducible apply ev_ifs | with_reducible apply ev_for | with_reducible apply ev_for' | with_reducible apply ev_stFh | with_reducible apply ev_stI | with_reducible apply ev_raise | with_reducible apply ev_apph | with_reducible apply ev_xf | with_reducible apply ev_isX | with_reducible apply k_nx | with_reducible apply f_nx | with_reducible apply t_ok | with_reducible apply ev_var | with_reducible exact od | exact Nat.le_of_ble_eq_true rfl | ((with_reducible apply if_t); focus (exact rfl)) | ((with_reducible apply if_f); focus decide) | exact ⟨rfl, rfl⟩ | exact rfl)
  obtain ⟨e3, h3, f2, t11, t12, t13, t14, t15, ee, s3⟩ := forL_inv (sa := bodyO) (g := gN 12) (I := fun env h => ∃ r11 r12 r13 r14 r15, env = [o0, some (.lst NM), o2, some (.ref x), some (.lst MENU), some (gd a1 a2 a3 a4 m), some (wk a1 a2 a3 a4 m), o7, o8, some (.int 1), some (.str "deed"), r11, r12, r13, r14, r15] ∧ SI x h) (xs := oddW) (env := [o0, some (.lst NM), o2, some (.ref x), some (.lst MENU), some (gd a1 a2 a3 a4 m), some (wk a1 a2 a3 a4 m), o7, o8, some (.int 1), some (.str "deed"), r11, r12, r13, r14, r15]) (h := h2) (by
    intro y hy env hh hI
    obtain ⟨r11, r12, r13, r14, r15, rfl, sh⟩ := hI
    obtain ⟨q13, q14, h', e1, s'⟩ := turn_deed (o0 := o0) (o2 := o2) (o4 := some (.lst MENU)) (o6 := some (wk a1 a2 a3 a4 m)) (o7 := o7) (o8 := o8) (o11 := r11) (o13 := r13) (o14 := r14) (o15 := r15) g sh hy
    exact ⟨_, _, _, rfl, e1, _, _, _, _, _, rfl, s'⟩) ⟨r11, r12, r13, r14, r15, rfl, s2⟩
  subst ee
  exact ⟨t11, t12, t13, t14, t15, h3, ev_seq (ev_for it f1) (ev_for it2 f2), s3⟩
theorem part_call (g : GoodP a1 a2 a3 a4 m) (k : GoodK a1 a2 a3 a4) (s : SI x h) : ∃ (r11 r12 r13 r14 r15 : Option PV) (h' : MH), bodyP [o0, some (.lst NM), o2, some (.ref x), some (.lst MENU), some (gd a1 a2 a3 a4 m), some (wk a1 a2 a3 a4 m), o7, o8, some (.int 2), some (.str "call"), o11, o12, o13, o14, o15] h = .nx [o0, some (.lst NM), o2, some (.ref x), some (.lst MENU), some (gd a1 a2 a3 a4 m), some (wk a1 a2 a3 a4 m), o7, o8, some (.int 2), some (.str "call"), r11, r12, r13, r14, r15] h' ∧ SI x h' := by
  have lc : mLcL (gN 11) (mTst (mB2 pNe (mVar 11) (mB2 pIx (mVar 5) (mVar 10)))) (mVar 11) (wipeP [o0, some (.lst NM), o2, some (.ref x), some (.lst MENU), some (gd a1 a2 a3 a4 m), some (wk a1 a2 a3 a4 m), o7, o8, some (.int 2), some (.str "call"), o11, o12, o13, o14, o15] [11]) menuC h = .ok (menuC.filter (tS_ a3)) h := lc_filter (tS_ a3) menuC fun p hp => by
    obtain ⟨c, rfl, vc, kc⟩ := str_menuC p hp
    exact ⟨_, rfl, by have nn : pNe (.str c) (.str a3) h = some (.bl (tS_ a3 (.str c)), h) := ne_str kc k.k3 h; repeat (first | with_reducible exact app_n | with_reducible exact ev_c | with_reducible exact ev_nil | with_reducible exact ev_nx | with_reducible exact ev_yes | with_reducible exact ev_moN | with_reducible exact ev_lcN | with_reducible exact ev_forN | with_reducible exact k_rt | with_reducible exact k_xc | with_reducible exact f_rt | with_reducible exact f_xc | with_reducible exact t_xc | with_reducible apply ev_cons | with_reducible apply ev_tup | with_reducible apply ev_lst | with_reducible apply ev_lstC | with_reducible apply ev_b1 | with_reducible apply ev_b2 | with_reducible apply ev_ba | with_reducible apply ev_call | with_reducible apply ev_callK | with_reducible apply ev_fld | with_reducible apply ev_meth | with_reducible apply ev_is | with_reducible apply ev_and | with_reducible apply ev_notV | with_reducible apply ev_if | with_reducible apply ev_tst | with_reducible apply ev_tru | with_reducible apply ev_not | with_reducible apply ev_tand | with_reducible apply ev_tor | with_reducible apply ev_sl | with_reducible apply ev_moS | with_reducible apply ev_lc | with_reducible apply ev_iter | with_reducible apply ev_enum | with_reducible apply ev_rng1 | with_reducible apply ev_eqO | with_reducible apply ev_seq' | with_reducible apply ev_set | with_reducible apply ev_ret | with_reducible apply ev_exp' | with_reducible apply ev_ifs | with_reducible apply ev_for | with_reducible apply ev_for' | with_reducible apply ev_stFh | with_reducible apply ev_stI | with_reducible apply ev_raise | with_reducible apply ev_apph | with_reducible apply ev_xf | with_reducible apply ev_isX | with_reducible apply k_nx | with_reducible apply f_nx | with_reducible apply t_ok | with_reducible apply ev_var | with_reducible exact nn | exact Nat.le_of_ble_eq_true rfl | ((with_reducible apply if_t); focus (exact rfl)) | ((with_reducible apply if_f); focus decide) | exact ⟨rfl, rfl⟩ | exact rfl), by repeat (first | with_reducible exact app_n | with_reducible exact ev_c | with_reducible exact ev_nil | with_reducible exact ev_nx | with_reducible exact ev_yes | with_reducible exact ev_moN | with_reducible exact ev_lcN | with_reducible exact ev_forN | with_reducible exact k_rt | with_reducible exact k_xc | with_reducible exact f_rt | with_reducible exact f_xc | with_reducible exact t_xc | with_reducible apply ev_cons | with_reducible apply ev_tup | with_reducible apply ev_lst | with_reducible apply ev_lstC | with_reducible apply ev_b1 | with_reducible apply ev_b2 | with_reducible apply ev_ba | with_reducible apply ev_call | with_reducible apply ev_callK | with_reducible apply ev_fld | with_reducible apply ev_meth | with_reducible apply ev_is | with_reducible apply ev_and | with_reducible apply ev_notV | with_reducible apply ev_if | with_reducible apply ev_tst | with_reducible apply ev_tru | with_reducible apply ev_not | with_reducible apply ev_tand | with_reducible apply ev_tor | with_reducible apply ev_sl | with_reducible apply ev_moS | with_reducible apply ev_lc | with_reducible apply ev_iter | with_reducible apply ev_enum | with_reducible apply ev_rng1 | with_reducible apply ev_eqO | with_reducible apply ev_seq' | with_reducible apply ev_set | with_reducible apply ev_ret | with_reducible apply ev_exp' | with_reducible apply ev_ifs | with_reducible apply ev_for | with_reducible apply ev_for' | with_reducible apply ev_stFh | with_reducible apply ev_stI | with_reducible apply ev_raise | with_reducible apply ev_apph | with_reducible apply ev_xf | with_reducible apply ev_isX | with_reducible apply k_nx | with_reducible apply f_nx | with_reducible apply t_ok | with_reducible apply ev_var | exact Nat.le_of_ble_eq_true rfl | ((with_reducible apply if_t); focus (exact rfl)) | ((with_reducible apply if_f); focus decide) | exact ⟨rfl, rfl⟩ | exact rfl)⟩
  have it : mIter (mLc [11] (mIter (mB2 pIx (mVar 4) (mVar 9))) (gN 11) (mTst (mB2 pNe (mVar 11) (mB2 pIx (mVar 5) (mVar 10)))) (mVar 11)) [o0, some (.lst NM), o2, some (.ref x), some (.lst MENU), some (gd a1 a2 a3 a4 m), some (wk a1 a2 a3 a4 m), o7, o8, some (.int 2), some (.str "call"), o11, o12, o13, o14, o15] h = .ok (menuC.filter (tS_ a3)) h :=
    ev_iter (ev_lc (ev_iter (p := .lst menuC) (h1 := h) (by repeat (first | with_reducible exact app_n | with_reducible exact ev_c | with_reducible exact ev_nil | with_reducible exact ev_nx | with_reducible exact ev_yes | with_reducible exact ev_moN | with_reducible exact ev_lcN | with_reducible exact ev_forN | with_reducible exact k_rt | with_reducible exact k_xc | with_reducible exact f_rt | with_reducible exact f_xc | with_reducible exact t_xc | with_reducible apply ev_cons | with_reducible apply ev_tup | with_reducible apply ev_lst | with_reducible apply ev_lstC | with_reducible apply ev_b1 | with_reducible apply ev_b2 | with_reducible apply ev_ba | with_reducible apply ev_call | with_reducible apply ev_callK | with_reducible apply ev_fld | with_reducible apply ev_meth | with_reducible apply ev_is | with_reducible apply ev_and | with_reducible apply ev_notV | with_reducible apply ev_if | with_reducible apply ev_tst | with_reducible apply ev_tru | with_reducible apply ev_not | with_reducible apply ev_tand | with_reducible apply ev_tor | with_reducible apply ev_sl | with_reducible apply ev_moS | with_reducible apply ev_lc | with_reducible apply ev_iter | with_reducible apply ev_enum | with_reducible apply ev_rng1 | with_reducible apply ev_eqO | with_reducible apply ev_seq' | with_reducible apply ev_set | with_reducible apply ev_ret | with_reducible apply ev_exp' | with_reducible apply ev_ifs | with_reducible apply ev_for | with_reducible apply ev_for' | with_reducible apply ev_stFh | with_reducible apply ev_stI | with_reducible apply ev_raise | with_reducible apply ev_apph | with_reducible apply ev_xf | with_reducible apply ev_isX | with_reducible apply k_nx | with_reducible apply f_nx | with_reducible apply t_ok | with_reducible apply ev_var | exact Nat.le_of_ble_eq_true rfl | ((with_reducible apply if_t); focus (exact rfl)) | ((with_reducible apply if_f); focus decide) | exact ⟨rfl, rfl⟩ | exact rfl)) rfl) (Nat.le_of_ble_eq_true rfl) lc) rfl
  obtain ⟨e2, h2, f1, r11, r12, r13, r14, r15, ee, s2⟩ := forL_inv (sa := bodyV) (g := gN 11) (I := fun env h => ∃ r11 r12 r13 r14 r15, env = [o0, some (.lst NM), o2, some (.ref x), some (.lst MENU), some (gd a1 a2 a3 a4 m), some (wk a1 a2 a3 a4 m), o7, o8, some (.int 2), some (.str "call"), r11, r12, r13, r14, r15] ∧ SI x h) (xs := menuC.filter (tS_ a3)) (env := [o0, some (.lst NM), o2, some (.ref x), some (.lst MENU), some (gd a1 a2 a3 a4 m), some (wk a1 a2 a3 a4 m), o7, o8, some (.int 2), some (.str "call"), o11, o12, o13, o14, o15]) (h := h) (by
    intro y hy env hh hI
    obtain ⟨r11, r12, r13, r14, r15, rfl, sh⟩ := hI
    obtain ⟨hy1, hy2⟩ := List.mem_filter.mp hy
    obtain ⟨c, rfl, vc, kc⟩ := str_menuC y hy1
    have ne : (c == a3) = false := by
      have z : (!(c == a3)) = true := hy2
      simpa using z
    obtain ⟨q13, h', e1, s'⟩ := val_call (o0 := o0) (o2 := o2) (o4 := some (.lst MENU)) (o7 := o7) (o8 := o8) (o12 := r12) (o13 := r13) (o14 := r14) (o15 := r15) g k sh vc kc ne
    exact ⟨_, _, _, rfl, e1, _, _, _, _, _, rfl, s'⟩) ⟨o11, o12, o13, o14, o15, rfl, s⟩
  subst ee
  have od := odds_C h2
  rw [gc_wf s2.wf] at od
  have it2 : mIter (mCall 1 (fun ps qs h => r_law_odds (pick [0] (ps ++ ([] ++ qs))) h) (mCons (mVar 10) (mNil))) [o0, some (.lst NM), o2, some (.ref x), some (.lst MENU), some (gd a1 a2 a3 a4 m), some (wk a1 a2 a3 a4 m), o7, o8, some (.int 2), some (.str "call"), r11, r12, r13, r14, r15] h2 = .ok oddW h2 := by
    refine ev_iter (p := .lst oddW) ?_ rfl
    repeat (first | with_reducible exact app_n | with_reducible exact ev_c | with_reducible exact ev_nil | with_reducible exact ev_nx | with_reducible exact ev_yes | with_reducible exact ev_moN | with_reducible exact ev_lcN | with_reducible exact ev_forN | with_reducible exact k_rt | with_reducible exact k_xc | with_reducible exact f_rt | with_reducible exact f_xc | with_reducible exact t_xc | with_reducible apply ev_cons | with_reducible apply ev_tup | with_reducible apply ev_lst | with_reducible apply ev_lstC | with_reducible apply ev_b1 | with_reducible apply ev_b2 | with_reducible apply ev_ba | with_reducible apply ev_call | with_reducible apply ev_callK | with_reducible apply ev_fld | with_reducible apply ev_meth | with_reducible apply ev_is | with_reducible apply ev_and | with_reducible apply ev_notV | with_reducible apply ev_if | with_reducible apply ev_tst | with_reducible apply ev_tru | with_reducible apply ev_not | with_reducible apply ev_tand | with_reducible apply ev_tor | with_reducible apply ev_sl | with_reducible apply ev_moS | with_reducible apply ev_lc | with_reducible apply ev_iter | with_reducible apply ev_enum | with_reducible apply ev_rng1 | with_reducible apply ev_eqO | with_reducible apply ev_seq' | with_reducible apply ev_set | with_reducible apply ev_ret | with_reducible apply ev_exp' | with_reducible apply ev_ifs | with_reducible apply ev_for | with_reducible apply ev_for' | with_reducible apply ev_stFh | with_reducible apply ev_stI | with_reducible apply ev_raise | with_reducible apply ev_apph | with_reducible apply ev_xf | with_reducible apply ev_isX | with_reducible apply k_nx | with_reducible apply f_nx | with_reducible apply t_ok | with_reducible apply ev_var | with_reducible exact od | exact Nat.le_of_ble_eq_true rfl | ((with_reducible apply if_t); focus (exact rfl)) | ((with_reducible apply if_f); focus decide) | exact ⟨rfl, rfl⟩ | exact rfl)
  obtain ⟨e3, h3, f2, t11, t12, t13, t14, t15, ee, s3⟩ := forL_inv (sa := bodyO) (g := gN 12) (I := fun env h => ∃ r11 r12 r13 r14 r15, env = [o0, some (.lst NM), o2, some (.ref x), some (.lst MENU), some (gd a1 a2 a3 a4 m), some (wk a1 a2 a3 a4 m), o7, o8, some (.int 2), some (.str "call"), r11, r12, r13, r14, r15] ∧ SI x h) (xs := oddW) (env := [o0, some (.lst NM), o2, some (.ref x), some (.lst MENU), some (gd a1 a2 a3 a4 m), some (wk a1 a2 a3 a4 m), o7, o8, some (.int 2), some (.str "call"), r11, r12, r13, r14, r15]) (h := h2) (by
    intro y hy env hh hI
    obtain ⟨r11, r12, r13, r14, r15, rfl, sh⟩ := hI
    obtain ⟨q13, q14, h', e1, s'⟩ := turn_call (o0 := o0) (o2 := o2) (o4 := some (.lst MENU)) (o6 := some (wk a1 a2 a3 a4 m)) (o7 := o7) (o8 := o8) (o11 := r11) (o13 := r13) (o14 := r14) (o15 := r15) g sh hy
    exact ⟨_, _, _, rfl, e1, _, _, _, _, _, rfl, s'⟩) ⟨r11, r12, r13, r14, r15, rfl, s2⟩
  subst ee
  exact ⟨t11, t12, t13, t14, t15, h3, ev_seq (ev_for it f1) (ev_for it2 f2), s3⟩
theorem part_by (g : GoodP a1 a2 a3 a4 m) (k : GoodK a1 a2 a3 a4) (s : SI x h) : ∃ (r11 r12 r13 r14 r15 : Option PV) (h' : MH), bodyP [o0, some (.lst NM), o2, some (.ref x), some (.lst MENU), some (gd a1 a2 a3 a4 m), some (wk a1 a2 a3 a4 m), o7, o8, some (.int 3), some (.str "by"), o11, o12, o13, o14, o15] h = .nx [o0, some (.lst NM), o2, some (.ref x), some (.lst MENU), some (gd a1 a2 a3 a4 m), some (wk a1 a2 a3 a4 m), o7, o8, some (.int 3), some (.str "by"), r11, r12, r13, r14, r15] h' ∧ SI x h' := by
  have lc : mLcL (gN 11) (mTst (mB2 pNe (mVar 11) (mB2 pIx (mVar 5) (mVar 10)))) (mVar 11) (wipeP [o0, some (.lst NM), o2, some (.ref x), some (.lst MENU), some (gd a1 a2 a3 a4 m), some (wk a1 a2 a3 a4 m), o7, o8, some (.int 3), some (.str "by"), o11, o12, o13, o14, o15] [11]) menuB h = .ok (menuB.filter (tS_ a4)) h := lc_filter (tS_ a4) menuB fun p hp => by
    obtain ⟨c, rfl, vc, kc⟩ := str_menuB p hp
    exact ⟨_, rfl, by have nn : pNe (.str c) (.str a4) h = some (.bl (tS_ a4 (.str c)), h) := ne_str kc k.k4 h; repeat (first | with_reducible exact app_n | with_reducible exact ev_c | with_reducible exact ev_nil | with_reducible exact ev_nx | with_reducible exact ev_yes | with_reducible exact ev_moN | with_reducible exact ev_lcN | with_reducible exact ev_forN | with_reducible exact k_rt | with_reducible exact k_xc | with_reducible exact f_rt | with_reducible exact f_xc | with_reducible exact t_xc | with_reducible apply ev_cons | with_reducible apply ev_tup | with_reducible apply ev_lst | with_reducible apply ev_lstC | with_reducible apply ev_b1 | with_reducible apply ev_b2 | with_reducible apply ev_ba | with_reducible apply ev_call | with_reducible apply ev_callK | with_reducible apply ev_fld | with_reducible apply ev_meth | with_reducible apply ev_is | with_reducible apply ev_and | with_reducible apply ev_notV | with_reducible apply ev_if | with_reducible apply ev_tst | with_reducible apply ev_tru | with_reducible apply ev_not | with_reducible apply ev_tand | with_reducible apply ev_tor | with_reducible apply ev_sl | with_reducible apply ev_moS | with_reducible apply ev_lc | with_reducible apply ev_iter | with_reducible apply ev_enum | with_reducible apply ev_rng1 | with_reducible apply ev_eqO | with_reducible apply ev_seq' | with_reducible apply ev_set | with_reducible apply ev_ret | with_reducible apply ev_exp' | with_reducible apply ev_ifs | with_reducible apply ev_for | with_reducible apply ev_for' | with_reducible apply ev_stFh | with_reducible apply ev_stI | with_reducible apply ev_raise | with_reducible apply ev_apph | with_reducible apply ev_xf | with_reducible apply ev_isX | with_reducible apply k_nx | with_reducible apply f_nx | with_reducible apply t_ok | with_reducible apply ev_var | with_reducible exact nn | exact Nat.le_of_ble_eq_true rfl | ((with_reducible apply if_t); focus (exact rfl)) | ((with_reducible apply if_f); focus decide) | exact ⟨rfl, rfl⟩ | exact rfl), by repeat (first | with_reducible exact app_n | with_reducible exact ev_c | with_reducible exact ev_nil | with_reducible exact ev_nx | with_reducible exact ev_yes | with_reducible exact ev_moN | with_reducible exact ev_lcN | with_reducible exact ev_forN | with_reducible exact k_rt | with_reducible exact k_xc | with_reducible exact f_rt | with_reducible exact f_xc | with_reducible exact t_xc | with_reducible apply ev_cons | with_reducible apply ev_tup | with_reducible apply ev_lst | with_reducible apply ev_lstC | with_reducible apply ev_b1 | with_reducible apply ev_b2 | with_reducible apply ev_ba | with_reducible apply ev_call | with_reducible apply ev_callK | with_reducible apply ev_fld | with_reducible apply ev_meth | with_reducible apply ev_is | with_reducible apply ev_and | with_reducible apply ev_notV | with_reducible apply ev_if | with_reducible apply ev_tst | with_reducible apply ev_tru | with_reducible apply ev_not | with_reducible apply ev_tand | with_reducible apply ev_tor | with_reducible apply ev_sl | with_reducible apply ev_moS | with_reducible apply ev_lc | with_reducible apply ev_iter | with_reducible apply ev_enum | with_reducible apply ev_rng1 | with_reducible apply ev_eqO | with_reducible apply ev_seq' | with_reducible apply ev_set | with_reducible apply ev_ret | with_reducible apply ev_exp' | with_reducible apply ev_ifs | with_reducible apply ev_for | with_reducible apply ev_for' | with_reducible apply ev_stFh | with_reducible apply ev_stI | with_reducible apply ev_raise | with_reducible apply ev_apph | with_reducible apply ev_xf | with_reducible apply ev_isX | with_reducible apply k_nx | with_reducible apply f_nx | with_reducible apply t_ok | with_reducible apply ev_var | exact Nat.le_of_ble_eq_true rfl | ((with_reducible apply if_t); focus (exact rfl)) | ((with_reducible apply if_f); focus decide) | exact ⟨rfl, rfl⟩ | exact rfl)⟩
  have it : mIter (mLc [11] (mIter (mB2 pIx (mVar 4) (mVar 9))) (gN 11) (mTst (mB2 pNe (mVar 11) (mB2 pIx (mVar 5) (mVar 10)))) (mVar 11)) [o0, some (.lst NM), o2, some (.ref x), some (.lst MENU), some (gd a1 a2 a3 a4 m), some (wk a1 a2 a3 a4 m), o7, o8, some (.int 3), some (.str "by"), o11, o12, o13, o14, o15] h = .ok (menuB.filter (tS_ a4)) h :=
    ev_iter (ev_lc (ev_iter (p := .lst menuB) (h1 := h) (by repeat (first | with_reducible exact app_n | with_reducible exact ev_c | with_reducible exact ev_nil | with_reducible exact ev_nx | with_reducible exact ev_yes | with_reducible exact ev_moN | with_reducible exact ev_lcN | with_reducible exact ev_forN | with_reducible exact k_rt | with_reducible exact k_xc | with_reducible exact f_rt | with_reducible exact f_xc | with_reducible exact t_xc | with_reducible apply ev_cons | with_reducible apply ev_tup | with_reducible apply ev_lst | with_reducible apply ev_lstC | with_reducible apply ev_b1 | with_reducible apply ev_b2 | with_reducible apply ev_ba | with_reducible apply ev_call | with_reducible apply ev_callK | with_reducible apply ev_fld | with_reducible apply ev_meth | with_reducible apply ev_is | with_reducible apply ev_and | with_reducible apply ev_notV | with_reducible apply ev_if | with_reducible apply ev_tst | with_reducible apply ev_tru | with_reducible apply ev_not | with_reducible apply ev_tand | with_reducible apply ev_tor | with_reducible apply ev_sl | with_reducible apply ev_moS | with_reducible apply ev_lc | with_reducible apply ev_iter | with_reducible apply ev_enum | with_reducible apply ev_rng1 | with_reducible apply ev_eqO | with_reducible apply ev_seq' | with_reducible apply ev_set | with_reducible apply ev_ret | with_reducible apply ev_exp' | with_reducible apply ev_ifs | with_reducible apply ev_for | with_reducible apply ev_for' | with_reducible apply ev_stFh | with_reducible apply ev_stI | with_reducible apply ev_raise | with_reducible apply ev_apph | with_reducible apply ev_xf | with_reducible apply ev_isX | with_reducible apply k_nx | with_reducible apply f_nx | with_reducible apply t_ok | with_reducible apply ev_var | exact Nat.le_of_ble_eq_true rfl | ((with_reducible apply if_t); focus (exact rfl)) | ((with_reducible apply if_f); focus decide) | exact ⟨rfl, rfl⟩ | exact rfl)) rfl) (Nat.le_of_ble_eq_true rfl) lc) rfl
  obtain ⟨e2, h2, f1, r11, r12, r13, r14, r15, ee, s2⟩ := forL_inv (sa := bodyV) (g := gN 11) (I := fun env h => ∃ r11 r12 r13 r14 r15, env = [o0, some (.lst NM), o2, some (.ref x), some (.lst MENU), some (gd a1 a2 a3 a4 m), some (wk a1 a2 a3 a4 m), o7, o8, some (.int 3), some (.str "by"), r11, r12, r13, r14, r15] ∧ SI x h) (xs := menuB.filter (tS_ a4)) (env := [o0, some (.lst NM), o2, some (.ref x), some (.lst MENU), some (gd a1 a2 a3 a4 m), some (wk a1 a2 a3 a4 m), o7, o8, some (.int 3), some (.str "by"), o11, o12, o13, o14, o15]) (h := h) (by
    intro y hy env hh hI
    obtain ⟨r11, r12, r13, r14, r15, rfl, sh⟩ := hI
    obtain ⟨hy1, hy2⟩ := List.mem_filter.mp hy
    obtain ⟨c, rfl, vc, kc⟩ := str_menuB y hy1
    have ne : (c == a4) = false := by
      have z : (!(c == a4)) = true := hy2
      simpa using z
    obtain ⟨q13, h', e1, s'⟩ := val_by (o0 := o0) (o2 := o2) (o4 := some (.lst MENU)) (o7 := o7) (o8 := o8) (o12 := r12) (o13 := r13) (o14 := r14) (o15 := r15) g k sh vc kc ne
    exact ⟨_, _, _, rfl, e1, _, _, _, _, _, rfl, s'⟩) ⟨o11, o12, o13, o14, o15, rfl, s⟩
  subst ee
  have od := odds_B h2
  rw [gc_wf s2.wf] at od
  have it2 : mIter (mCall 1 (fun ps qs h => r_law_odds (pick [0] (ps ++ ([] ++ qs))) h) (mCons (mVar 10) (mNil))) [o0, some (.lst NM), o2, some (.ref x), some (.lst MENU), some (gd a1 a2 a3 a4 m), some (wk a1 a2 a3 a4 m), o7, o8, some (.int 3), some (.str "by"), r11, r12, r13, r14, r15] h2 = .ok oddB h2 := by
    refine ev_iter (p := .lst oddB) ?_ rfl
    repeat (first | with_reducible exact app_n | with_reducible exact ev_c | with_reducible exact ev_nil | with_reducible exact ev_nx | with_reducible exact ev_yes | with_reducible exact ev_moN | with_reducible exact ev_lcN | with_reducible exact ev_forN | with_reducible exact k_rt | with_reducible exact k_xc | with_reducible exact f_rt | with_reducible exact f_xc | with_reducible exact t_xc | with_reducible apply ev_cons | with_reducible apply ev_tup | with_reducible apply ev_lst | with_reducible apply ev_lstC | with_reducible apply ev_b1 | with_reducible apply ev_b2 | with_reducible apply ev_ba | with_reducible apply ev_call | with_reducible apply ev_callK | with_reducible apply ev_fld | with_reducible apply ev_meth | with_reducible apply ev_is | with_reducible apply ev_and | with_reducible apply ev_notV | with_reducible apply ev_if | with_reducible apply ev_tst | with_reducible apply ev_tru | with_reducible apply ev_not | with_reducible apply ev_tand | with_reducible apply ev_tor | with_reducible apply ev_sl | with_reducible apply ev_moS | with_reducible apply ev_lc | with_reducible apply ev_iter | with_reducible apply ev_enum | with_reducible apply ev_rng1 | with_reducible apply ev_eqO | with_reducible apply ev_seq' | with_reducible apply ev_set | with_reducible apply ev_ret | with_reducible apply ev_exp' | with_reducible apply ev_ifs | with_reducible apply ev_for | with_reducible apply ev_for' | with_reducible apply ev_stFh | with_reducible apply ev_stI | with_reducible apply ev_raise | with_reducible apply ev_apph | with_reducible apply ev_xf | with_reducible apply ev_isX | with_reducible apply k_nx | with_reducible apply f_nx | with_reducible apply t_ok | with_reducible apply ev_var | with_reducible exact od | exact Nat.le_of_ble_eq_true rfl | ((with_reducible apply if_t); focus (exact rfl)) | ((with_reducible apply if_f); focus decide) | exact ⟨rfl, rfl⟩ | exact rfl)
  obtain ⟨e3, h3, f2, t11, t12, t13, t14, t15, ee, s3⟩ := forL_inv (sa := bodyO) (g := gN 12) (I := fun env h => ∃ r11 r12 r13 r14 r15, env = [o0, some (.lst NM), o2, some (.ref x), some (.lst MENU), some (gd a1 a2 a3 a4 m), some (wk a1 a2 a3 a4 m), o7, o8, some (.int 3), some (.str "by"), r11, r12, r13, r14, r15] ∧ SI x h) (xs := oddB) (env := [o0, some (.lst NM), o2, some (.ref x), some (.lst MENU), some (gd a1 a2 a3 a4 m), some (wk a1 a2 a3 a4 m), o7, o8, some (.int 3), some (.str "by"), r11, r12, r13, r14, r15]) (h := h2) (by
    intro y hy env hh hI
    obtain ⟨r11, r12, r13, r14, r15, rfl, sh⟩ := hI
    obtain ⟨q13, q14, h', e1, s'⟩ := turn_by (o0 := o0) (o2 := o2) (o4 := some (.lst MENU)) (o6 := some (wk a1 a2 a3 a4 m)) (o7 := o7) (o8 := o8) (o11 := r11) (o13 := r13) (o14 := r14) (o15 := r15) g sh hy
    exact ⟨_, _, _, rfl, e1, _, _, _, _, _, rfl, s'⟩) ⟨r11, r12, r13, r14, r15, rfl, s2⟩
  subst ee
  exact ⟨t11, t12, t13, t14, t15, h3, ev_seq (ev_for it f1) (ev_for it2 f2), s3⟩
theorem part_may (g : GoodP a1 a2 a3 a4 m) (k : GoodK a1 a2 a3 a4) (s : SI x h) : ∃ (r11 r12 r13 r14 r15 : Option PV) (h' : MH), bodyP [o0, some (.lst NM), o2, some (.ref x), some (.lst MENU), some (gd a1 a2 a3 a4 m), some (wk a1 a2 a3 a4 m), o7, o8, some (.int 4), some (.str "may"), o11, o12, o13, o14, o15] h = .nx [o0, some (.lst NM), o2, some (.ref x), some (.lst MENU), some (gd a1 a2 a3 a4 m), some (wk a1 a2 a3 a4 m), o7, o8, some (.int 4), some (.str "may"), r11, r12, r13, r14, r15] h' ∧ SI x h' := by
  have lc : mLcL (gN 11) (mTst (mB2 pNe (mVar 11) (mB2 pIx (mVar 5) (mVar 10)))) (mVar 11) (wipeP [o0, some (.lst NM), o2, some (.ref x), some (.lst MENU), some (gd a1 a2 a3 a4 m), some (wk a1 a2 a3 a4 m), o7, o8, some (.int 4), some (.str "may"), o11, o12, o13, o14, o15] [11]) menuM h = .ok (menuM.filter (tB_ m)) h := lc_filter (tB_ m) menuM fun p hp => by
    simp only [menuM, List.mem_cons, List.not_mem_nil, or_false] at hp
    rcases hp with rfl | rfl
    · exact ⟨_, rfl, by have nn : pNe (.bl true) (.bl m) h = some (.bl (tB_ m (.bl true)), h) := ne_bl true m h; repeat (first | with_reducible exact app_n | with_reducible exact ev_c | with_reducible exact ev_nil | with_reducible exact ev_nx | with_reducible exact ev_yes | with_reducible exact ev_moN | with_reducible exact ev_lcN | with_reducible exact ev_forN | with_reducible exact k_rt | with_reducible exact k_xc | with_reducible exact f_rt | with_reducible exact f_xc | with_reducible exact t_xc | with_reducible apply ev_cons | with_reducible apply ev_tup | with_reducible apply ev_lst | with_reducible apply ev_lstC | with_reducible apply ev_b1 | with_reducible apply ev_b2 | with_reducible apply ev_ba | with_reducible apply ev_call | with_reducible apply ev_callK | with_reducible apply ev_fld | with_reducible apply ev_meth | with_reducible apply ev_is | with_reducible apply ev_and | with_reducible apply ev_notV | with_reducible apply ev_if | with_reducible apply ev_tst | with_reducible apply ev_tru | with_reducible apply ev_not | with_reducible apply ev_tand | with_reducible apply ev_tor | with_reducible apply ev_sl | with_reducible apply ev_moS | with_reducible apply ev_lc | with_reducible apply ev_iter | with_reducible apply ev_enum | with_reducible apply ev_rng1 | with_reducible apply ev_eqO | with_reducible apply ev_seq' | with_reducible apply ev_set | with_reducible apply ev_ret | with_reducible apply ev_exp' | with_reducible apply ev_ifs | with_reducible apply ev_for | with_reducible apply ev_for' | with_reducible apply ev_stFh | with_reducible apply ev_stI | with_reducible apply ev_raise | with_reducible apply ev_apph | with_reducible apply ev_xf | with_reducible apply ev_isX | with_reducible apply k_nx | with_reducible apply f_nx | with_reducible apply t_ok | with_reducible apply ev_var | with_reducible exact nn | exact Nat.le_of_ble_eq_true rfl | ((with_reducible apply if_t); focus (exact rfl)) | ((with_reducible apply if_f); focus decide) | exact ⟨rfl, rfl⟩ | exact rfl), by repeat (first | with_reducible exact app_n | with_reducible exact ev_c | with_reducible exact ev_nil | with_reducible exact ev_nx | with_reducible exact ev_yes | with_reducible exact ev_moN | with_reducible exact ev_lcN | with_reducible exact ev_forN | with_reducible exact k_rt | with_reducible exact k_xc | with_reducible exact f_rt | with_reducible exact f_xc | with_reducible exact t_xc | with_reducible apply ev_cons | with_reducible apply ev_tup | with_reducible apply ev_lst | with_reducible apply ev_lstC | with_reducible apply ev_b1 | with_reducible apply ev_b2 | with_reducible apply ev_ba | with_reducible apply ev_call | with_reducible apply ev_callK | with_reducible apply ev_fld | with_reducible apply ev_meth | with_reducible apply ev_is | with_reducible apply ev_and | with_reducible apply ev_notV | with_reducible apply ev_if | with_reducible apply ev_tst | with_reducible apply ev_tru | with_reducible apply ev_not | with_reducible apply ev_tand | with_reducible apply ev_tor | with_reducible apply ev_sl | with_reducible apply ev_moS | with_reducible apply ev_lc | with_reducible apply ev_iter | with_reducible apply ev_enum | with_reducible apply ev_rng1 | with_reducible apply ev_eqO | with_reducible apply ev_seq' | with_reducible apply ev_set | with_reducible apply ev_ret | with_reducible apply ev_exp' | with_reducible apply ev_ifs | with_reducible apply ev_for | with_reducible apply ev_for' | with_reducible apply ev_stFh | with_reducible apply ev_stI | with_reducible apply ev_raise | with_reducible apply ev_apph | with_reducible apply ev_xf | with_reducible apply ev_isX | with_reducible apply k_nx | with_reducible apply f_nx | with_reducible apply t_ok | with_reducible apply ev_var | exact Nat.le_of_ble_eq_true rfl | ((with_reducible apply if_t); focus (exact rfl)) | ((with_reducible apply if_f); focus decide) | exact ⟨rfl, rfl⟩ | exact rfl)⟩
    · exact ⟨_, rfl, by have nn : pNe (.bl false) (.bl m) h = some (.bl (tB_ m (.bl false)), h) := ne_bl false m h; repeat (first | with_reducible exact app_n | with_reducible exact ev_c | with_reducible exact ev_nil | with_reducible exact ev_nx | with_reducible exact ev_yes | with_reducible exact ev_moN | with_reducible exact ev_lcN | with_reducible exact ev_forN | with_reducible exact k_rt | with_reducible exact k_xc | with_reducible exact f_rt | with_reducible exact f_xc | with_reducible exact t_xc | with_reducible apply ev_cons | with_reducible apply ev_tup | with_reducible apply ev_lst | with_reducible apply ev_lstC | with_reducible apply ev_b1 | with_reducible apply ev_b2 | with_reducible apply ev_ba | with_reducible apply ev_call | with_reducible apply ev_callK | with_reducible apply ev_fld | with_reducible apply ev_meth | with_reducible apply ev_is | with_reducible apply ev_and | with_reducible apply ev_notV | with_reducible apply ev_if | with_reducible apply ev_tst | with_reducible apply ev_tru | with_reducible apply ev_not | with_reducible apply ev_tand | with_reducible apply ev_tor | with_reducible apply ev_sl | with_reducible apply ev_moS | with_reducible apply ev_lc | with_reducible apply ev_iter | with_reducible apply ev_enum | with_reducible apply ev_rng1 | with_reducible apply ev_eqO | with_reducible apply ev_seq' | with_reducible apply ev_set | with_reducible apply ev_ret | with_reducible apply ev_exp' | with_reducible apply ev_ifs | with_reducible apply ev_for | with_reducible apply ev_for' | with_reducible apply ev_stFh | with_reducible apply ev_stI | with_reducible apply ev_raise | with_reducible apply ev_apph | with_reducible apply ev_xf | with_reducible apply ev_isX | with_reducible apply k_nx | with_reducible apply f_nx | with_reducible apply t_ok | with_reducible apply ev_var | with_reducible exact nn | exact Nat.le_of_ble_eq_true rfl | ((with_reducible apply if_t); focus (exact rfl)) | ((with_reducible apply if_f); focus decide) | exact ⟨rfl, rfl⟩ | exact rfl), by repeat (first | with_reducible exact app_n | with_reducible exact ev_c | with_reducible exact ev_nil | with_reducible exact ev_nx | with_reducible exact ev_yes | with_reducible exact ev_moN | with_reducible exact ev_lcN | with_reducible exact ev_forN | with_reducible exact k_rt | with_reducible exact k_xc | with_reducible exact f_rt | with_reducible exact f_xc | with_reducible exact t_xc | with_reducible apply ev_cons | with_reducible apply ev_tup | with_reducible apply ev_lst | with_reducible apply ev_lstC | with_reducible apply ev_b1 | with_reducible apply ev_b2 | with_reducible apply ev_ba | with_reducible apply ev_call | with_reducible apply ev_callK | with_reducible apply ev_fld | with_reducible apply ev_meth | with_reducible apply ev_is | with_reducible apply ev_and | with_reducible apply ev_notV | with_reducible apply ev_if | with_reducible apply ev_tst | with_reducible apply ev_tru | with_reducible apply ev_not | with_reducible apply ev_tand | with_reducible apply ev_tor | with_reducible apply ev_sl | with_reducible apply ev_moS | with_reducible apply ev_lc | with_reducible apply ev_iter | with_reducible apply ev_enum | with_reducible apply ev_rng1 | with_reducible apply ev_eqO | with_reducible apply ev_seq' | with_reducible apply ev_set | with_reducible apply ev_ret | with_reducible apply ev_exp' | with_reducible apply ev_ifs | with_reducible apply ev_for | with_reducible apply ev_for' | with_reducible apply ev_stFh | with_reducible apply ev_stI | with_reducible apply ev_raise | with_reducible apply ev_apph | with_reducible apply ev_xf | with_reducible apply ev_isX | with_reducible apply k_nx | with_reducible apply f_nx | with_reducible apply t_ok | with_reducible apply ev_var | exact Nat.le_of_ble_eq_true rfl | ((with_reducible apply if_t); focus (exact rfl)) | ((with_reducible apply if_f); focus decide) | exact ⟨rfl, rfl⟩ | exact rfl)⟩
  have it : mIter (mLc [11] (mIter (mB2 pIx (mVar 4) (mVar 9))) (gN 11) (mTst (mB2 pNe (mVar 11) (mB2 pIx (mVar 5) (mVar 10)))) (mVar 11)) [o0, some (.lst NM), o2, some (.ref x), some (.lst MENU), some (gd a1 a2 a3 a4 m), some (wk a1 a2 a3 a4 m), o7, o8, some (.int 4), some (.str "may"), o11, o12, o13, o14, o15] h = .ok (menuM.filter (tB_ m)) h :=
    ev_iter (ev_lc (ev_iter (p := .lst menuM) (h1 := h) (by repeat (first | with_reducible exact app_n | with_reducible exact ev_c | with_reducible exact ev_nil | with_reducible exact ev_nx | with_reducible exact ev_yes | with_reducible exact ev_moN | with_reducible exact ev_lcN | with_reducible exact ev_forN | with_reducible exact k_rt | with_reducible exact k_xc | with_reducible exact f_rt | with_reducible exact f_xc | with_reducible exact t_xc | with_reducible apply ev_cons | with_reducible apply ev_tup | with_reducible apply ev_lst | with_reducible apply ev_lstC | with_reducible apply ev_b1 | with_reducible apply ev_b2 | with_reducible apply ev_ba | with_reducible apply ev_call | with_reducible apply ev_callK | with_reducible apply ev_fld | with_reducible apply ev_meth | with_reducible apply ev_is | with_reducible apply ev_and | with_reducible apply ev_notV | with_reducible apply ev_if | with_reducible apply ev_tst | with_reducible apply ev_tru | with_reducible apply ev_not | with_reducible apply ev_tand | with_reducible apply ev_tor | with_reducible apply ev_sl | with_reducible apply ev_moS | with_reducible apply ev_lc | with_reducible apply ev_iter | with_reducible apply ev_enum | with_reducible apply ev_rng1 | with_reducible apply ev_eqO | with_reducible apply ev_seq' | with_reducible apply ev_set | with_reducible apply ev_ret | with_reducible apply ev_exp' | with_reducible apply ev_ifs | with_reducible apply ev_for | with_reducible apply ev_for' | with_reducible apply ev_stFh | with_reducible apply ev_stI | with_reducible apply ev_raise | with_reducible apply ev_apph | with_reducible apply ev_xf | with_reducible apply ev_isX | with_reducible apply k_nx | with_reducible apply f_nx | with_reducible apply t_ok | with_reducible apply ev_var | exact Nat.le_of_ble_eq_true rfl | ((with_reducible apply if_t); focus (exact rfl)) | ((with_reducible apply if_f); focus decide) | exact ⟨rfl, rfl⟩ | exact rfl)) rfl) (Nat.le_of_ble_eq_true rfl) lc) rfl
  obtain ⟨e2, h2, f1, r11, r12, r13, r14, r15, ee, s2⟩ := forL_inv (sa := bodyV) (g := gN 11) (I := fun env h => ∃ r11 r12 r13 r14 r15, env = [o0, some (.lst NM), o2, some (.ref x), some (.lst MENU), some (gd a1 a2 a3 a4 m), some (wk a1 a2 a3 a4 m), o7, o8, some (.int 4), some (.str "may"), r11, r12, r13, r14, r15] ∧ SI x h) (xs := menuM.filter (tB_ m)) (env := [o0, some (.lst NM), o2, some (.ref x), some (.lst MENU), some (gd a1 a2 a3 a4 m), some (wk a1 a2 a3 a4 m), o7, o8, some (.int 4), some (.str "may"), o11, o12, o13, o14, o15]) (h := h) (by
    intro y hy env hh hI
    obtain ⟨r11, r12, r13, r14, r15, rfl, sh⟩ := hI
    obtain ⟨hy1, hy2⟩ := List.mem_filter.mp hy
    obtain ⟨c, rfl⟩ : ∃ c, y = .bl c := by
      simp only [menuM, List.mem_cons, List.not_mem_nil, or_false] at hy1
      rcases hy1 with rfl | rfl <;> exact ⟨_, rfl⟩
    have ne : (c == m) = false := by
      have z : (!(c == m)) = true := hy2
      simpa using z
    obtain ⟨q13, h', e1, s'⟩ := val_may (o0 := o0) (o2 := o2) (o4 := some (.lst MENU)) (o7 := o7) (o8 := o8) (o12 := r12) (o13 := r13) (o14 := r14) (o15 := r15) g k sh ne
    exact ⟨_, _, _, rfl, e1, _, _, _, _, _, rfl, s'⟩) ⟨o11, o12, o13, o14, o15, rfl, s⟩
  subst ee
  have od := odds_M h2
  rw [gc_wf s2.wf] at od
  have it2 : mIter (mCall 1 (fun ps qs h => r_law_odds (pick [0] (ps ++ ([] ++ qs))) h) (mCons (mVar 10) (mNil))) [o0, some (.lst NM), o2, some (.ref x), some (.lst MENU), some (gd a1 a2 a3 a4 m), some (wk a1 a2 a3 a4 m), o7, o8, some (.int 4), some (.str "may"), r11, r12, r13, r14, r15] h2 = .ok oddM h2 := by
    refine ev_iter (p := .lst oddM) ?_ rfl
    repeat (first | with_reducible exact app_n | with_reducible exact ev_c | with_reducible exact ev_nil | with_reducible exact ev_nx | with_reducible exact ev_yes | with_reducible exact ev_moN | with_reducible exact ev_lcN | with_reducible exact ev_forN | with_reducible exact k_rt | with_reducible exact k_xc | with_reducible exact f_rt | with_reducible exact f_xc | with_reducible exact t_xc | with_reducible apply ev_cons | with_reducible apply ev_tup | with_reducible apply ev_lst | with_reducible apply ev_lstC | with_reducible apply ev_b1 | with_reducible apply ev_b2 | with_reducible apply ev_ba | with_reducible apply ev_call | with_reducible apply ev_callK | with_reducible apply ev_fld | with_reducible apply ev_meth | with_reducible apply ev_is | with_reducible apply ev_and | with_reducible apply ev_notV | with_reducible apply ev_if | with_reducible apply ev_tst | with_reducible apply ev_tru | with_reducible apply ev_not | with_reducible apply ev_tand | with_reducible apply ev_tor | with_reducible apply ev_sl | with_reducible apply ev_moS | with_reducible apply ev_lc | with_reducible apply ev_iter | with_reducible apply ev_enum | with_reducible apply ev_rng1 | with_reducible apply ev_eqO | with_reducible apply ev_seq' | with_reducible apply ev_set | with_reducible apply ev_ret | with_reducible apply ev_exp' | with_reducible apply ev_ifs | with_reducible apply ev_for | with_reducible apply ev_for' | with_reducible apply ev_stFh | with_reducible apply ev_stI | with_reducible apply ev_raise | with_reducible apply ev_apph | with_reducible apply ev_xf | with_reducible apply ev_isX | with_reducible apply k_nx | with_reducible apply f_nx | with_reducible apply t_ok | with_reducible apply ev_var | with_reducible exact od | exact Nat.le_of_ble_eq_true rfl | ((with_reducible apply if_t); focus (exact rfl)) | ((with_reducible apply if_f); focus decide) | exact ⟨rfl, rfl⟩ | exact rfl)
  obtain ⟨e3, h3, f2, t11, t12, t13, t14, t15, ee, s3⟩ := forL_inv (sa := bodyO) (g := gN 12) (I := fun env h => ∃ r11 r12 r13 r14 r15, env = [o0, some (.lst NM), o2, some (.ref x), some (.lst MENU), some (gd a1 a2 a3 a4 m), some (wk a1 a2 a3 a4 m), o7, o8, some (.int 4), some (.str "may"), r11, r12, r13, r14, r15] ∧ SI x h) (xs := oddM) (env := [o0, some (.lst NM), o2, some (.ref x), some (.lst MENU), some (gd a1 a2 a3 a4 m), some (wk a1 a2 a3 a4 m), o7, o8, some (.int 4), some (.str "may"), r11, r12, r13, r14, r15]) (h := h2) (by
    intro y hy env hh hI
    obtain ⟨r11, r12, r13, r14, r15, rfl, sh⟩ := hI
    obtain ⟨q13, q14, h', e1, s'⟩ := turn_may (o0 := o0) (o2 := o2) (o4 := some (.lst MENU)) (o6 := some (wk a1 a2 a3 a4 m)) (o7 := o7) (o8 := o8) (o11 := r11) (o13 := r13) (o14 := r14) (o15 := r15) g sh hy
    exact ⟨_, _, _, rfl, e1, _, _, _, _, _, rfl, s'⟩) ⟨r11, r12, r13, r14, r15, rfl, s2⟩
  subst ee
  exact ⟨t11, t12, t13, t14, t15, h3, ev_seq (ev_for it f1) (ev_for it2 f2), s3⟩
end
end K04

namespace K04
open PySem PySem.Spec PyProof.Rows L2 Mi
abbrev LE : List Str := ["laid", "done", "struck", "instead"]
abbrev LD : List Str := ["a", "bb", "goal", "abcdefgh"]
abbrev LC : List Str := ["a", "bb", "abcdefgh"]
abbrev LB : List Str := ["own", "next"]
def rpOk (a1 a2 a3 a4 : Str) (m : Bool) : Bool := match reprP (.lst [.str a1, .str a2, .str a3, .str a4, .bl m]) ⟨0, []⟩ with
  | some t => PyData.canLay0 (.str t)
  | none => false
theorem rp_all : ∀ a1 ∈ LE, ∀ a2 ∈ LD, ∀ a3 ∈ LC, ∀ a4 ∈ LB, ∀ m : Bool, rpOk a1 a2 a3 a4 m = true := by decide +kernel
theorem rp_ok {a1 a2 a3 a4 : Str} {m : Bool} (e : rpOk a1 a2 a3 a4 m = true) : ∃ t : Str, sk t ∧ ∀ h : MH, pRepr [.lst [.str a1, .str a2, .str a3, .str a4, .bl m]] h = some (.str t, h) := by
  unfold rpOk at e
  cases q : reprP (.lst [.str a1, .str a2, .str a3, .str a4, .bl m]) ⟨0, []⟩ with
  | none => rw [q] at e; cases e
  | some t =>
    rw [q] at e
    refine ⟨t, e, fun h => ?_⟩
    have z : reprP (.lst [.str a1, .str a2, .str a3, .str a4, .bl m]) h = some t := q
    unfold pRepr
    dsimp only
    rw [z]
    rfl
end K04

namespace K04
open PySem PySem.Spec PyProof.Rows L2 Mi

abbrev S3 : MS := (mSet 3 (mCall 3 (fun ps qs h => r_law_opened (pick [0, 1, 2] (ps ++ ([] ++ qs))) h) (mCons (mVar 0) (mCons (mVar 2) (mCons (mC (.int 120)) (mNil))))))
abbrev S4 : MS := (mSet 4 (mLst (mCons (mLst (mCons (mC (.str "laid")) (mCons (mC (.str "done")) (mCons (mC (.str "struck")) (mCons (mC (.str "instead")) (mNil)))))) (mCons (mLst (mCons (mC (.str "a")) (mCons (mC (.str "bb")) (mCons (mC (.str "goal")) (mCons (mC (.str "abcdefgh")) (mNil)))))) (mCons (mLst (mCons (mC (.str "a")) (mCons (mC (.str "bb")) (mCons (mC (.str "abcdefgh")) (mNil))))) (mNil))))))
abbrev S4b : MS := (mSet 4 (mB2 pAdd (mVar 4) (mLst (mCons (mLst (mCons (mC (.str "own")) (mCons (mC (.str "next")) (mNil)))) (mCons (mLst (mCons (mC (.bl true)) (mCons (mC (.bl false)) (mNil)))) (mNil))))))
abbrev S5 : MS := (mSet 5 (mBA pDictP (mCons (mLc [9, 10] (mEnum (mCons (mVar 1) (mNil))) (gT [9, 10]) (mYes) (mTup (mCons (mVar 10) (mCons (mCall 2 (fun ps qs h => r_law_pick (pick [0, 1] (ps ++ ([] ++ qs))) h) (mCons (mVar 3) (mCons (mB2 pIx (mVar 4) (mVar 9)) (mNil)))) (mNil))))) (mNil))))
abbrev S6 : MS := (mSet 6 (mCallK 3 2 (runMake "Waking" r_Waking_init [0, 1, 2, 3, 4, 5] []) (mCons (mB2 pIx (mVar 5) (mC (.str "event"))) (mCons (mB2 pIx (mVar 5) (mC (.str "deed"))) (mCons (mB2 pIx (mVar 5) (mC (.str "call"))) (mNil)))) (mCons (mB2 pIx (mVar 5) (mC (.str "by"))) (mCons (mB2 pIx (mVar 5) (mC (.str "may"))) (mNil)))))
abbrev S7 : MS := (mSet 7 (mCallK 0 5 (runMake "Waking" r_Waking_init [0, 4, 5, 3, 2, 1] []) mNil (mCons (mB2 pIx (mVar 5) (mC (.str "may"))) (mCons (mB2 pIx (mVar 5) (mC (.str "by"))) (mCons (mB2 pIx (mVar 5) (mC (.str "call"))) (mCons (mB2 pIx (mVar 5) (mC (.str "event"))) (mCons (mB2 pIx (mVar 5) (mC (.str "deed"))) (mNil))))))))
abbrev I1 : MS := (mIfS (mOr (mTst (mB2 pNe (mBA pRepr (mCons (mCall 1 (fun ps qs h => r_law_told (pick [0] (ps ++ ([] ++ qs))) h) (mCons (mVar 6) (mNil))) (mNil))) (mBA pRepr (mCons (mLc [10] (mIter (mVar 1)) (gN 10) (mYes) (mB2 pIx (mVar 5) (mVar 10))) (mNil))))) (mOr (mTst (mEqO "Waking" (okTg tgs clss) r_Waking_eq true (mVar 6) (mVar 7))) (mTst (mEqO "Waking" (okTg tgs clss) r_Waking_eq false (mVar 6) (mB2 pIx (mVar 5) (mC (.str "event")))))))
    (mRet (mC (.bl false)))
    (mNx))
abbrev S8 : MS := (mSet 8 (mCall 3 (runMake "Waking" r_Waking_init [0, 1, 2, 3, 4, 5] [.str "own", .bl false]) (mCons (mB2 pIx (mVar 5) (mC (.str "event"))) (mCons (mB2 pIx (mVar 5) (mC (.str "deed"))) (mCons (mB2 pIx (mVar 5) (mC (.str "call"))) (mNil))))))
abbrev I2 : MS := (mIfS (mTst (mB2 pNe (mBA pRepr (mCons (mCall 1 (fun ps qs h => r_law_told (pick [0] (ps ++ ([] ++ qs))) h) (mCons (mVar 8) (mNil))) (mNil))) (mBA pRepr (mCons (mB2 pAdd (mLc [10] (mIter (mSl (mVar 1) (moN) (moS (mC (.int 3))))) (gN 10) (mYes) (mB2 pIx (mVar 5) (mVar 10))) (mLst (mCons (mC (.str "own")) (mCons (mC (.bl false)) (mNil))))) (mNil)))))
    (mRet (mC (.bl false)))
    (mNx))
abbrev I3 : MS := (mIfS (mTst (mB2 pNe (mEqO "Waking" (okTg tgs clss) r_Waking_eq false (mVar 6) (mVar 8)) (mAndV (mB2 pEq (mB2 pIx (mVar 5) (mC (.str "by"))) (mC (.str "own"))) (mNotV (mB2 pIx (mVar 5) (mC (.str "may")))))))
    (mRet (mC (.bl false)))
    (mNx))
abbrev FP : MS := mFor (mEnum (mCons (mVar 1) (mNil))) (gT [9, 10]) bodyP
abbrev bodyC : MS := mSeq S3 (mSeq S4 (mSeq S4b (mSeq S5 (mSeq S6 (mSeq S7 (mSeq I1 (mSeq S8 (mSeq I2 (mSeq I3 (FP))))))))))
theorem SI.start {n : Nat} {cs : Cs} {L : List Int} (w : WF ⟨n, cs⟩) (c : cleanH ⟨n, cs⟩ = true) : SI (n + 1) ⟨n + 2, (n + 1, .lst [.lst (L.map PV.int), .int 0]) :: cs⟩ := by
  refine ⟨fun q m => ?_, ?_, L, 0, if_pos rfl⟩
  · rcases List.mem_cons.mp m with e | m
    · rw [e]; exact Nat.lt_succ_self _
    · have : q.1 < n := w q m
      show q.1 < n + 2
      omega
  · show (cleanC (.lst [.lst (L.map PV.int), .int 0]) && _) = true
    rw [show cleanC (.lst [.lst (L.map PV.int), .int 0]) = true by simp [cleanC, cleanL, cleanP, clean_ints]]
    exact c
theorem en_ok {e0 : Option PV} {er : MEnv} {h : MH} : mEnum (mCons (mVar 1) (mNil)) (e0 :: some (.lst NM) :: er) h = .ok [.tup [.int 0, .str "event"], .tup [.int 1, .str "deed"], .tup [.int 2, .str "call"], .tup [.int 3, .str "by"], .tup [.int 4, .str "may"]] h := rfl
theorem ev_lcM {g : MG} {el : ME} {env e1 : MEnv} {p v : PV} {ps ys : List PV} {h h2 h3 : MH} (e : g p env = some e1) (w : el e1 h = .ok v h2) (r : mLcL g mYes el env ps h2 = .ok ys h3) : mLcL g mYes el env (p :: ps) h = .ok (v :: ys) h3 := ev_lcY e ev_yes w r
theorem inE {v : PV} (h : v ∈ menuE) : ∃ a, v = .str a ∧ a ∈ LE := by
  simp only [menuE, List.mem_cons, List.not_mem_nil, or_false] at h
  rcases h with rfl | rfl | rfl | rfl <;> exact ⟨_, rfl, by simp⟩
theorem inD {v : PV} (h : v ∈ menuD) : ∃ a, v = .str a ∧ a ∈ LD := by
  simp only [menuD, List.mem_cons, List.not_mem_nil, or_false] at h
  rcases h with rfl | rfl | rfl | rfl <;> exact ⟨_, rfl, by simp⟩
theorem inC {v : PV} (h : v ∈ menuC) : ∃ a, v = .str a ∧ a ∈ LC := by
  simp only [menuC, List.mem_cons, List.not_mem_nil, or_false] at h
  rcases h with rfl | rfl | rfl <;> exact ⟨_, rfl, by simp⟩
theorem inB {v : PV} (h : v ∈ menuB) : ∃ a, v = .str a ∧ a ∈ LB := by
  simp only [menuB, List.mem_cons, List.not_mem_nil, or_false] at h
  rcases h with rfl | rfl <;> exact ⟨_, rfl, by simp⟩
theorem inM {v : PV} (h : v ∈ menuM) : ∃ a, v = .bl a := by
  simp only [menuM, List.mem_cons, List.not_mem_nil, or_false] at h
  rcases h with rfl | rfl <;> exact ⟨_, rfl⟩
section
variable {o0 o2 o6 o7 o8 o9 o10 o11 o12 o13 o14 o15 o3 o4 o5 : Option PV} {x : Nat} {h : MH}
/-- the five draws -/
theorem drawn_ok (s : SI x h) : ∃ (a1 a2 a3 a4 : Str) (m : Bool) (h' : MH), a1 ∈ LE ∧ a2 ∈ LD ∧ a3 ∈ LC ∧ a4 ∈ LB ∧ SI x h' ∧ GoodP a1 a2 a3 a4 m ∧ GoodK a1 a2 a3 a4 ∧
    S5 [o0, some (.lst NM), o2, some (.ref x), some (.lst MENU), o5, o6, o7, o8, o9, o10, o11, o12, o13, o14, o15] h = .nx [o0, some (.lst NM), o2, some (.ref x), some (.lst MENU), some (gd a1 a2 a3 a4 m), o6, o7, o8, o9, o10, o11, o12, o13, o14, o15] h' := by
  obtain ⟨v1, h1, w1, p1, s1, _⟩ := pick_ok (ys := menuE) s (by decide)
  obtain ⟨v2, h2, w2, p2, s2, _⟩ := pick_ok (ys := menuD) s1 (by decide)
  obtain ⟨v3, h3, w3, p3, s3, _⟩ := pick_ok (ys := menuC) s2 (by decide)
  obtain ⟨v4, h4, w4, p4, s4, _⟩ := pick_ok (ys := menuB) s3 (by decide)
  obtain ⟨v5, h5, w5, p5, s5, _⟩ := pick_ok (ys := menuM) s4 (by decide)
  obtain ⟨a1, rfl, i1⟩ := inE w1
  obtain ⟨a2, rfl, i2⟩ := inD w2
  obtain ⟨a3, rfl, i3⟩ := inC w3
  obtain ⟨a4, rfl, i4⟩ := inB w4
  obtain ⟨m, rfl⟩ := inM w5
  obtain ⟨c1, z1, y1, k1⟩ := str_menuE _ w1
  obtain ⟨c2, z2, y2, k2⟩ := str_menuD _ w2
  obtain ⟨c3, z3, y3, k3⟩ := str_menuC _ w3
  obtain ⟨c4, z4, y4, k4⟩ := str_menuB _ w4
  cases z1; cases z2; cases z3; cases z4
  have dk : pDictP [.lst [.tup [.str "event", .str a1], .tup [.str "deed", .str a2], .tup [.str "call", .str a3], .tup [.str "by", .str a4], .tup [.str "may", .bl m]]] h5 = some (gd a1 a2 a3 a4 m, h5) := rfl
  have lc : mLc [9, 10] (mEnum (mCons (mVar 1) (mNil))) (gT [9, 10]) (mYes) (mTup (mCons (mVar 10) (mCons (mCall 2 (fun ps qs h => r_law_pick (pick [0, 1] (ps ++ ([] ++ qs))) h) (mCons (mVar 3) (mCons (mB2 pIx (mVar 4) (mVar 9)) (mNil)))) (mNil)))) [o0, some (.lst NM), o2, some (.ref x), some (.lst MENU), o5, o6, o7, o8, o9, o10, o11, o12, o13, o14, o15] h = .ok (.lst [.tup [.str "event", .str a1], .tup [.str "deed", .str a2], .tup [.str "call", .str a3], .tup [.str "by", .str a4], .tup [.str "may", .bl m]]) h5 :=
    ev_lc en_ok (Nat.le_of_ble_eq_true rfl) (ev_lcM rfl (by repeat (first | with_reducible exact app_n | with_reducible exact ev_c | with_reducible exact ev_nil | with_reducible exact ev_nx | with_reducible exact ev_yes | with_reducible exact ev_moN | with_reducible exact ev_lcN | with_reducible exact ev_forN | with_reducible exact k_rt | with_reducible exact k_xc | with_reducible exact f_rt | with_reducible exact f_xc | with_reducible exact t_xc | with_reducible apply ev_cons | with_reducible apply ev_tup | with_reducible apply ev_lst | with_reducible apply ev_lstC | with_reducible apply ev_b1 | with_reducible apply ev_b2 | with_reducible apply ev_ba | with_reducible apply ev_call | with_reducible apply ev_callK | with_reducible apply ev_fld | with_reducible apply ev_meth | with_reducible apply ev_is | with_reducible apply ev_and | with_reducible apply ev_notV | with_reducible apply ev_if | with_reducible apply ev_tst | with_reducible apply ev_tru | with_reducible apply ev_not | with_reducible apply ev_tand | with_reducible apply ev_tor | with_reducible apply ev_sl | with_reducible apply ev_moS | with_reducible apply ev_lc | with_reducible apply ev_iter | with_reducible apply ev_enum | with_reducible apply ev_rng1 | with_reducible apply ev_eqO | with_reducible apply ev_seq' | with_reducible apply ev_set | with_reducible apply ev_ret | with_reducible apply ev_exp' | with_reducible apply ev_ifs | with_reducible apply ev_for | with_reducible apply ev_for' | with_reducible apply ev_stFh | with_reducible apply ev_stI | with_reducible apply ev_raise | with_reducible apply ev_apph | with_reducible apply ev_xf | with_reducible apply ev_isX | with_reducible apply k_nx | with_reducible apply f_nx | with_reducible apply t_ok | with_reducible apply ev_var | with_reducible exact p1 | exact Nat.le_of_ble_eq_true rfl | ((with_reducible apply if_t); focus (exact rfl)) | ((with_reducible apply if_f); focus decide) | exact ⟨rfl, rfl⟩ | exact rfl)) (ev_lcM rfl (by repeat (first | with_reducible exact app_n | with_reducible exact ev_c | with_reducible exact ev_nil | with_reducible exact ev_nx | with_reducible exact ev_yes | with_reducible exact ev_moN | with_reducible exact ev_lcN | with_reducible exact ev_forN | with_reducible exact k_rt | with_reducible exact k_xc | with_reducible exact f_rt | with_reducible exact f_xc | with_reducible exact t_xc | with_reducible apply ev_cons | with_reducible apply ev_tup | with_reducible apply ev_lst | with_reducible apply ev_lstC | with_reducible apply ev_b1 | with_reducible apply ev_b2 | with_reducible apply ev_ba | with_reducible apply ev_call | with_reducible apply ev_callK | with_reducible apply ev_fld | with_reducible apply ev_meth | with_reducible apply ev_is | with_reducible apply ev_and | with_reducible apply ev_notV | with_reducible apply ev_if | with_reducible apply ev_tst | with_reducible apply ev_tru | with_reducible apply ev_not | with_reducible apply ev_tand | with_reducible apply ev_tor | with_reducible apply ev_sl | with_reducible apply ev_moS | with_reducible apply ev_lc | with_reducible apply ev_iter | with_reducible apply ev_enum | with_reducible apply ev_rng1 | with_reducible apply ev_eqO | with_reducible apply ev_seq' | with_reducible apply ev_set | with_reducible apply ev_ret | with_reducible apply ev_exp' | with_reducible apply ev_ifs | with_reducible apply ev_for | with_reducible apply ev_for' | with_reducible apply ev_stFh | with_reducible apply ev_stI | with_reducible apply ev_raise | with_reducible apply ev_apph | with_reducible apply ev_xf | with_reducible apply ev_isX | with_reducible apply k_nx | with_reducible apply f_nx | with_reducible apply t_ok | with_reducible apply ev_var | with_reducible exact p2 | exact Nat.le_of_ble_eq_true rfl | ((with_reducible apply if_t); focus (exact rfl)) | ((with_reducible apply if_f); focus decide) | exact ⟨rfl, rfl⟩ | exact rfl)) (ev_lcM rfl (by repeat (first | with_reducible exact app_n | with_reducible exact ev_c | with_reducible exact ev_nil | with_reducible exact ev_nx | with_reducible exact ev_yes | with_reducible exact ev_moN | with_reducible exact ev_lcN | with_reducible exact ev_forN | with_reducible exact k_rt | with_reducible exact k_xc | with_reducible exact f_rt | with_reducible exact f_xc | with_reducible exact t_xc | with_reducible apply ev_cons | with_reducible apply ev_tup | with_reducible apply ev_lst | with_reducible apply ev_lstC | with_reducible apply ev_b1 | with_reducible apply ev_b2 | with_reducible apply ev_ba | with_reducible apply ev_call | with_reducible apply ev_callK | with_reducible apply ev_fld | with_reducible apply ev_meth | with_reducible apply ev_is | with_reducible apply ev_and | with_reducible apply ev_notV | with_reducible apply ev_if | with_reducible apply ev_tst | with_reducible apply ev_tru | with_reducible apply ev_not | with_reducible apply ev_tand | with_reducible apply ev_tor | with_reducible apply ev_sl | with_reducible apply ev_moS | with_reducible apply ev_lc | with_reducible apply ev_iter | with_reducible apply ev_enum | with_reducible apply ev_rng1 | with_reducible apply ev_eqO | with_reducible apply ev_seq' | with_reducible apply ev_set | with_reducible apply ev_ret | with_reducible apply ev_exp' | with_reducible apply ev_ifs | with_reducible apply ev_for | with_reducible apply ev_for' | with_reducible apply ev_stFh | with_reducible apply ev_stI | with_reducible apply ev_raise | with_reducible apply ev_apph | with_reducible apply ev_xf | with_reducible apply ev_isX | with_reducible apply k_nx | with_reducible apply f_nx | with_reducible apply t_ok | with_reducible apply ev_var | with_reducible exact p3 | exact Nat.le_of_ble_eq_true rfl | ((with_reducible apply if_t); focus (exact rfl)) | ((with_reducible apply if_f); focus decide) | exact ⟨rfl, rfl⟩ | exact rfl)) (ev_lcM rfl (by repeat (first | with_reducible exact app_n | with_reducible exact ev_c | with_reducible exact ev_nil | with_reducible exact ev_nx | with_reducible exact ev_yes | with_reducible exact ev_moN | with_reducible exact ev_lcN | with_reducible exact ev_forN | with_reducible exact k_rt | with_reducible exact k_xc | with_reducible exact f_rt | with_reducible exact f_xc | with_reducible exact t_xc | with_reducible apply ev_cons | with_reducible apply ev_tup | with_reducible apply ev_lst | with_reducible apply ev_lstC | with_reducible apply ev_b1 | with_reducible apply ev_b2 | with_reducible apply ev_ba | with_reducible apply ev_call | with_reducible apply ev_callK | with_reducible apply ev_fld | with_reducible apply ev_meth | with_reducible apply ev_is | with_reducible apply ev_and | with_reducible apply ev_notV | with_reducible apply ev_if | with_reducible apply ev_tst | with_reducible apply ev_tru | with_reducible apply ev_not | with_reducible apply ev_tand | with_reducible apply ev_tor | with_reducible apply ev_sl | with_reducible apply ev_moS | with_reducible apply ev_lc | with_reducible apply ev_iter | with_reducible apply ev_enum | with_reducible apply ev_rng1 | with_reducible apply ev_eqO | with_reducible apply ev_seq' | with_reducible apply ev_set | with_reducible apply ev_ret | with_reducible apply ev_exp' | with_reducible apply ev_ifs | with_reducible apply ev_for | with_reducible apply ev_for' | with_reducible apply ev_stFh | with_reducible apply ev_stI | with_reducible apply ev_raise | with_reducible apply ev_apph | with_reducible apply ev_xf | with_reducible apply ev_isX | with_reducible apply k_nx | with_reducible apply f_nx | with_reducible apply t_ok | with_reducible apply ev_var | with_reducible exact p4 | exact Nat.le_of_ble_eq_true rfl | ((with_reducible apply if_t); focus (exact rfl)) | ((with_reducible apply if_f); focus decide) | exact ⟨rfl, rfl⟩ | exact rfl)) (ev_lcM rfl (by repeat (first | with_reducible exact app_n | with_reducible exact ev_c | with_reducible exact ev_nil | with_reducible exact ev_nx | with_reducible exact ev_yes | with_reducible exact ev_moN | with_reducible exact ev_lcN | with_reducible exact ev_forN | with_reducible exact k_rt | with_reducible exact k_xc | with_reducible exact f_rt | with_reducible exact f_xc | with_reducible exact t_xc | with_reducible apply ev_cons | with_reducible apply ev_tup | with_reducible apply ev_lst | with_reducible apply ev_lstC | with_reducible apply ev_b1 | with_reducible apply ev_b2 | with_reducible apply ev_ba | with_reducible apply ev_call | with_reducible apply ev_callK | with_reducible apply ev_fld | with_reducible apply ev_meth | with_reducible apply ev_is | with_reducible apply ev_and | with_reducible apply ev_notV | with_reducible apply ev_if | with_reducible apply ev_tst | with_reducible apply ev_tru | with_reducible apply ev_not | with_reducible apply ev_tand | with_reducible apply ev_tor | with_reducible apply ev_sl | with_reducible apply ev_moS | with_reducible apply ev_lc | with_reducible apply ev_iter | with_reducible apply ev_enum | with_reducible apply ev_rng1 | with_reducible apply ev_eqO | with_reducible apply ev_seq' | with_reducible apply ev_set | with_reducible apply ev_ret | with_reducible apply ev_exp' | with_reducible apply ev_ifs | with_reducible apply ev_for | with_reducible apply ev_for' | with_reducible apply ev_stFh | with_reducible apply ev_stI | with_reducible apply ev_raise | with_reducible apply ev_apph | with_reducible apply ev_xf | with_reducible apply ev_isX | with_reducible apply k_nx | with_reducible apply f_nx | with_reducible apply t_ok | with_reducible apply ev_var | with_reducible exact p5 | exact Nat.le_of_ble_eq_true rfl | ((with_reducible apply if_t); focus (exact rfl)) | ((with_reducible apply if_f); focus decide) | exact ⟨rfl, rfl⟩ | exact rfl)) ev_lcN)))))
  exact ⟨a1, a2, a3, a4, m, h5, i1, i2, i3, i4, s5, ⟨y1, y2, y3, y4⟩, ⟨k1, k2, k3, k4⟩, ev_set (ev_ba (ev_cons lc ev_nil) dk)⟩
end
end K04

namespace K04
open PySem PySem.Spec PyProof.Rows L2 Mi
section
variable {a1 a2 a3 a4 : Str} {m : Bool}
theorem gx1 (h : MH) : pIx (gd a1 a2 a3 a4 m) (.str "event") h = some (.str a1, h) := rfl
theorem gx2 (h : MH) : pIx (gd a1 a2 a3 a4 m) (.str "deed") h = some (.str a2, h) := rfl
theorem gx3 (h : MH) : pIx (gd a1 a2 a3 a4 m) (.str "call") h = some (.str a3, h) := rfl
theorem gx4 (h : MH) : pIx (gd a1 a2 a3 a4 m) (.str "by") h = some (.str a4, h) := rfl
theorem gx5 (h : MH) : pIx (gd a1 a2 a3 a4 m) (.str "may") h = some (.bl m, h) := rfl
theorem eq_str {a b : Str} (ka : sk a) (kb : sk b) (h : MH) : pEq (.str a) (.str b) h = some (.bl (a == b), h) := by
  show ((if SeqAt.shaped (.str a) = true ∧ SeqAt.shaped (.str b) = true then some (PyData.eqv (.str a) (.str b)) else none).map fun b => (PV.bl b, h)) = _
  rw [if_pos ⟨sk_shape ka, sk_shape kb⟩]
  simp [PyData.eqv]
theorem same_self : same a1 a2 a3 a4 a1 a2 a3 a4 = true := by simp [same]
theorem same_own : same a1 a2 a3 a4 a1 a2 a3 "own" = (a4 == "own") := by simp [same]
theorem sk_own : sk "own" := by unfold sk; decide +kernel
variable {o0 o2 o6 o7 o8 o9 o10 o11 o12 o13 o14 o15 : Option PV} {x : Nat} {h : MH}
abbrev envM (a1 a2 a3 a4 : Str) (m : Bool) (x : Nat) (o0 o2 q6 q7 q8 o9 o10 o11 o12 o13 o14 o15 : Option PV) : MEnv := [o0, some (.lst NM), o2, some (.ref x), some (.lst MENU), some (gd a1 a2 a3 a4 m), q6, q7, q8, o9, o10, o11, o12, o13, o14, o15]
theorem mid_ok (s : SI x h) (g : GoodP a1 a2 a3 a4 m) (k : GoodK a1 a2 a3 a4) (i1 : a1 ∈ LE) (i2 : a2 ∈ LD) (i3 : a3 ∈ LC) (i4 : a4 ∈ LB) : ∃ (q7 q8 : Option PV) (h' : MH), SI x h' ∧
    mSeq S6 (mSeq S7 (mSeq I1 (mSeq S8 (mSeq I2 (mSeq I3 FP))))) (envM a1 a2 a3 a4 m x o0 o2 o6 o7 o8 o9 o10 o11 o12 o13 o14 o15) h = FP (envM a1 a2 a3 a4 m x o0 o2 (some (wk a1 a2 a3 a4 m)) q7 q8 o9 o10 o11 o12 o13 o14 o15) h' := by
  obtain ⟨n, cs⟩ := h
  have s1 := s.up
  have s2 := s1.up
  have s3 := s2.up
  dsimp only at s1 s2 s3
  have mk1 : runMake "Waking" r_Waking_init [0, 1, 2, 3, 4, 5] [] [.str a1, .str a2, .str a3] [.str a4, .bl m] ⟨n, cs⟩ = .ok (wk a1 a2 a3 a4 m) ⟨n + 1, cs⟩ := make1 g.v1 g.v2 g.v3 g.v4 g.v5 s.wf
  have mk2 : runMake "Waking" r_Waking_init [0, 4, 5, 3, 2, 1] [] [] [.bl m, .str a4, .str a3, .str a1, .str a2] ⟨n + 1, cs⟩ = .ok (wk a1 a2 a3 a4 m) ⟨n + 1 + 1, cs⟩ := make2 g.v1 g.v2 g.v3 g.v4 g.v5 s1.wf
  have mk3 : runMake "Waking" r_Waking_init [0, 1, 2, 3, 4, 5] [.str "own", .bl false] [.str a1, .str a2, .str a3] [] ⟨n + 1 + 1, cs⟩ = .ok (wk a1 a2 a3 "own" false) ⟨n + 1 + 1 + 1, cs⟩ := make3 g.v1 g.v2 g.v3 s2.wf
  obtain ⟨t, kt, rp⟩ := rp_ok (rp_all a1 i1 a2 i2 a3 i3 a4 i4 m)
  obtain ⟨t', kt', rp'⟩ := rp_ok (rp_all a1 i1 a2 i2 a3 i3 "own" (by simp) false)
  have nt : pNe (.str t) (.str t) ⟨n + 1 + 1, cs⟩ = some (.bl false, ⟨n + 1 + 1, cs⟩) := by rw [ne_str kt kt]; simp
  have nt' : pNe (.str t') (.str t') ⟨n + 1 + 1 + 1, cs⟩ = some (.bl false, ⟨n + 1 + 1 + 1, cs⟩) := by rw [ne_str kt' kt']; simp
  have td := told_ok (p1 := .str a1) (p2 := .str a2) (p3 := .str a3) (p4 := .str a4) (p5 := .bl m) s2.wf
  have td' := told_ok (p1 := .str a1) (p2 := .str a2) (p3 := .str a3) (p4 := .str "own") (p5 := .bl false) s3.wf
  have eq1 : r_Waking_eq [wk a1 a2 a3 a4 m, wk a1 a2 a3 a4 m] ⟨n + 1 + 1, cs⟩ = .ok (.bl true) ⟨n + 1 + 1, cs⟩ := by
    rw [eq_ok k.k1 k.k2 k.k3 k.k4 k.k1 k.k2 k.k3 k.k4 s2.wf, same_self]; simp
  have eqs : r_Waking_eq [wk a1 a2 a3 a4 m, .str a1] ⟨n + 1 + 1, cs⟩ = .ok (.bl false) ⟨n + 1 + 1, cs⟩ := eqS_ok s2.wf
  have okS_ : okTg tgs clss (.ty "str") = true := by decide +kernel
  have eq3 : r_Waking_eq [wk a1 a2 a3 a4 m, wk a1 a2 a3 "own" false] ⟨n + 1 + 1 + 1, cs⟩ = .ok (.bl ((a4 == "own") && (m == false))) ⟨n + 1 + 1 + 1, cs⟩ := by
    rw [eq_ok k.k1 k.k2 k.k3 k.k4 k.k1 k.k2 k.k3 sk_own s3.wf, same_own]
  have by_ := eq_str k.k4 sk_own ⟨n + 1 + 1 + 1, cs⟩
  have e6 : S6 (envM a1 a2 a3 a4 m x o0 o2 o6 o7 o8 o9 o10 o11 o12 o13 o14 o15) ⟨n, cs⟩ = .nx (envM a1 a2 a3 a4 m x o0 o2 (some (wk a1 a2 a3 a4 m)) o7 o8 o9 o10 o11 o12 o13 o14 o15) ⟨n + 1, cs⟩ := ev_set (by repeat (first | with_reducible exact app_n | with_reducible exact ev_c | with_reducible exact ev_nil | with_reducible exact ev_nx | with_reducible exact ev_yes | with_reducible exact ev_moN | with_reducible exact ev_lcN | with_reducible exact ev_forN | with_reducible exact k_rt | with_reducible exact k_xc | with_reducible exact f_rt | with_reducible exact f_xc | with_reducible exact t_xc | with_reducible apply ev_cons | with_reducible apply ev_tup | with_reducible apply ev_lst | with_reducible apply ev_lstC | with_reducible apply ev_b1 | with_reducible apply ev_b2 | with_reducible apply ev_ba | with_reducible apply ev_call | with_reducible apply ev_callK | with_reducible apply ev_fld | with_reducible apply ev_meth | with_reducible apply ev_is | with_reducible apply ev_and | with_reducible apply ev_notV | with_reducible apply ev_if | with_reducible apply ev_tst | with_reducible apply ev_tru | with_reducible apply ev_not | with_reducible apply ev_tand | with_reducible apply ev_tor | with_reducible apply ev_sl | with_reducible apply ev_moS | with_reducible apply ev_lc | with_reducible apply ev_iter | with_reducible apply ev_enum | with_reducible apply ev_rng1 | with_reducible apply ev_eqO | with_reducible apply ev_seq' | with_reducible apply ev_set | with_reducible apply ev_ret | with_reducible apply ev_exp' | with_reducible apply ev_ifs | with_reducible apply ev_for | with_reducible apply ev_for' | with_reducible apply ev_stFh | with_reducible apply ev_stI | with_reducible apply ev_raise | with_reducible apply ev_apph | with_reducible apply ev_xf | with_reducible apply ev_isX | with_reducible apply k_nx | with_reducible apply f_nx | with_reducible apply t_ok | with_reducible apply ev_var | with_reducible exact gx1 _ | with_reducible exact gx2 _ | with_reducible exact gx3 _ | with_reducible exact gx4 _ | with_reducible exact gx5 _ | with_reducible exact mk1 | exact Nat.le_of_ble_eq_true rfl | ((with_reducible apply if_t); focus (exact rfl)) | ((with_reducible apply if_f); focus decide) | exact ⟨rfl, rfl⟩ | exact rfl))
  have e7 : S7 (envM a1 a2 a3 a4 m x o0 o2 (some (wk a1 a2 a3 a4 m)) o7 o8 o9 o10 o11 o12 o13 o14 o15) ⟨n + 1, cs⟩ = .nx (envM a1 a2 a3 a4 m x o0 o2 (some (wk a1 a2 a3 a4 m)) (some (wk a1 a2 a3 a4 m)) o8 o9 o10 o11 o12 o13 o14 o15) ⟨n + 1 + 1, cs⟩ := ev_set (by repeat (first | with_reducible exact app_n | with_reducible exact ev_c | with_reducible exact ev_nil | with_reducible exact ev_nx | with_reducible exact ev_yes | with_reducible exact ev_moN | with_reducible exact ev_lcN | with_reducible exact ev_forN | with_reducible exact k_rt | with_reducible exact k_xc | with_reducible exact f_rt | with_reducible exact f_xc | with_reducible exact t_xc | with_reducible apply ev_cons | with_reducible apply ev_tup | with_reducible apply ev_lst | with_reducible apply ev_lstC | with_reducible apply ev_b1 | with_reducible apply ev_b2 | with_reducible apply ev_ba | with_reducible apply ev_call | with_reducible apply ev_callK | with_reducible apply ev_fld | with_reducible apply ev_meth | with_reducible apply ev_is | with_reducible apply ev_and | with_reducible apply ev_notV | with_reducible apply ev_if | with_reducible apply ev_tst | with_reducible apply ev_tru | with_reducible apply ev_not | with_reducible apply ev_tand | with_reducible apply ev_tor | with_reducible apply ev_sl | with_reducible apply ev_moS | with_reducible apply ev_lc | with_reducible apply ev_iter | with_reducible apply ev_enum | with_reducible apply ev_rng1 | with_reducible apply ev_eqO | with_reducible apply ev_seq' | with_reducible apply ev_set | with_reducible apply ev_ret | with_reducible apply ev_exp' | with_reducible apply ev_ifs | with_reducible apply ev_for | with_reducible apply ev_for' | with_reducible apply ev_stFh | with_reducible apply ev_stI | with_reducible apply ev_raise | with_reducible apply ev_apph | with_reducible apply ev_xf | with_reducible apply ev_isX | with_reducible apply k_nx | with_reducible apply f_nx | with_reducible apply t_ok | with_reducible apply ev_var | with_reducible exact gx1 _ | with_reducible exact gx2 _ | with_reducible exact gx3 _ | with_reducible exact gx4 _ | with_reducible exact gx5 _ | with_reducible exact mk2 | exact Nat.le_of_ble_eq_true rfl | ((with_reducible apply if_t); focus (exact rfl)) | ((with_reducible apply if_f); focus decide) | exact ⟨rfl, rfl⟩ | exact rfl))
  have l1 : mLc [10] (mIter (mVar 1)) (gN 10) (mYes) (mB2 pIx (mVar 5) (mVar 10)) (envM a1 a2 a3 a4 m x o0 o2 (some (wk a1 a2 a3 a4 m)) (some (wk a1 a2 a3 a4 m)) o8 o9 o10 o11 o12 o13 o14 o15) ⟨n + 1 + 1, cs⟩ = .ok (.lst [.str a1, .str a2, .str a3, .str a4, .bl m]) ⟨n + 1 + 1, cs⟩ := rfl
  have e1 : I1 (envM a1 a2 a3 a4 m x o0 o2 (some (wk a1 a2 a3 a4 m)) (some (wk a1 a2 a3 a4 m)) o8 o9 o10 o11 o12 o13 o14 o15) ⟨n + 1 + 1, cs⟩ = .nx (envM a1 a2 a3 a4 m x o0 o2 (some (wk a1 a2 a3 a4 m)) (some (wk a1 a2 a3 a4 m)) o8 o9 o10 o11 o12 o13 o14 o15) ⟨n + 1 + 1, cs⟩ := by
    refine ev_ifsF (h1 := ⟨n + 1 + 1, cs⟩) (ev_torF (h1 := ⟨n + 1 + 1, cs⟩) (ev_tst (ev_b2 (p := .str t) (q := .str t) (h1 := ⟨n + 1 + 1, cs⟩) (h2 := ⟨n + 1 + 1, cs⟩) (ev_ba (ev_cons (by repeat (first | with_reducible exact app_n | with_reducible exact ev_c | with_reducible exact ev_nil | with_reducible exact ev_nx | with_reducible exact ev_yes | with_reducible exact ev_moN | with_reducible exact ev_lcN | with_reducible exact ev_forN | with_reducible exact k_rt | with_reducible exact k_xc | with_reducible exact f_rt | with_reducible exact f_xc | with_reducible exact t_xc | with_reducible apply ev_cons | with_reducible apply ev_tup | with_reducible apply ev_lst | with_reducible apply ev_lstC | with_reducible apply ev_b1 | with_reducible apply ev_b2 | with_reducible apply ev_ba | with_reducible apply ev_call | with_reducible apply ev_callK | with_reducible apply ev_fld | with_reducible apply ev_meth | with_reducible apply ev_is | with_reducible apply ev_and | with_reducible apply ev_notV | with_reducible apply ev_if | with_reducible apply ev_tst | with_reducible apply ev_tru | with_reducible apply ev_not | with_reducible apply ev_tand | with_reducible apply ev_tor | with_reducible apply ev_sl | with_reducible apply ev_moS | with_reducible apply ev_lc | with_reducible apply ev_iter | with_reducible apply ev_enum | with_reducible apply ev_rng1 | with_reducible apply ev_eqO | with_reducible apply ev_seq' | with_reducible apply ev_set | with_reducible apply ev_ret | with_reducible apply ev_exp' | with_reducible apply ev_ifs | with_reducible apply ev_for | with_reducible apply ev_for' | with_reducible apply ev_stFh | with_reducible apply ev_stI | with_reducible apply ev_raise | with_reducible apply ev_apph | with_reducible apply ev_xf | with_reducible apply ev_isX | with_reducible apply k_nx | with_reducible apply f_nx | with_reducible apply t_ok | with_reducible apply ev_var | with_reducible exact td | exact Nat.le_of_ble_eq_true rfl | ((with_reducible apply if_t); focus (exact rfl)) | ((with_reducible apply if_f); focus decide) | exact ⟨rfl, rfl⟩ | exact rfl)) ev_nil) (rp _)) (ev_ba (ev_cons l1 ev_nil) (rp _)) nt)) ?_) ev_nx
    exact ev_torF (h1 := ⟨n + 1 + 1, cs⟩) (ev_tst (b := false) (ev_eqO (b := true) (neg := true) (h3 := ⟨n + 1 + 1, cs⟩) (by repeat (first | with_reducible exact app_n | with_reducible exact ev_c | with_reducible exact ev_nil | with_reducible exact ev_nx | with_reducible exact ev_yes | with_reducible exact ev_moN | with_reducible exact ev_lcN | with_reducible exact ev_forN | with_reducible exact k_rt | with_reducible exact k_xc | with_reducible exact f_rt | with_reducible exact f_xc | with_reducible exact t_xc | with_reducible apply ev_cons | with_reducible apply ev_tup | with_reducible apply ev_lst | with_reducible apply ev_lstC | with_reducible apply ev_b1 | with_reducible apply ev_b2 | with_reducible apply ev_ba | with_reducible apply ev_call | with_reducible apply ev_callK | with_reducible apply ev_fld | with_reducible apply ev_meth | with_reducible apply ev_is | with_reducible apply ev_and | with_reducible apply ev_notV | with_reducible apply ev_if | with_reducible apply ev_tst | with_reducible apply ev_tru | with_reducible apply ev_not | with_reducible apply ev_tand | with_reducible apply ev_tor | with_reducible apply ev_sl | with_reducible apply ev_moS | with_reducible apply ev_lc | with_reducible apply ev_iter | with_reducible apply ev_enum | with_reducible apply ev_rng1 | with_reducible apply ev_eqO | with_reducible apply ev_seq' | with_reducible apply ev_set | with_reducible apply ev_ret | with_reducible apply ev_exp' | with_reducible apply ev_ifs | with_reducible apply ev_for | with_reducible apply ev_for' | with_reducible apply ev_stFh | with_reducible apply ev_stI | with_reducible apply ev_raise | with_reducible apply ev_apph | with_reducible apply ev_xf | with_reducible apply ev_isX | with_reducible apply k_nx | with_reducible apply f_nx | with_reducible apply t_ok | with_reducible apply ev_var | exact Nat.le_of_ble_eq_true rfl | ((with_reducible apply if_t); focus (exact rfl)) | ((with_reducible apply if_f); focus decide) | exact ⟨rfl, rfl⟩ | exact rfl)) (by repeat (first | with_reducible exact app_n | with_reducible exact ev_c | with_reducible exact ev_nil | with_reducible exact ev_nx | with_reducible exact ev_yes | with_reducible exact ev_moN | with_reducible exact ev_lcN | with_reducible exact ev_forN | with_reducible exact k_rt | with_reducible exact k_xc | with_reducible exact f_rt | with_reducible exact f_xc | with_reducible exact t_xc | with_reducible apply ev_cons | with_reducible apply ev_tup | with_reducible apply ev_lst | with_reducible apply ev_lstC | with_reducible apply ev_b1 | with_reducible apply ev_b2 | with_reducible apply ev_ba | with_reducible apply ev_call | with_reducible apply ev_callK | with_reducible apply ev_fld | with_reducible apply ev_meth | with_reducible apply ev_is | with_reducible apply ev_and | with_reducible apply ev_notV | with_reducible apply ev_if | with_reducible apply ev_tst | with_reducible apply ev_tru | with_reducible apply ev_not | with_reducible apply ev_tand | with_reducible apply ev_tor | with_reducible apply ev_sl | with_reducible apply ev_moS | with_reducible apply ev_lc | with_reducible apply ev_iter | with_reducible apply ev_enum | with_reducible apply ev_rng1 | with_reducible apply ev_eqO | with_reducible apply ev_seq' | with_reducible apply ev_set | with_reducible apply ev_ret | with_reducible apply ev_exp' | with_reducible apply ev_ifs | with_reducible apply ev_for | with_reducible apply ev_for' | with_reducible apply ev_stFh | with_reducible apply ev_stI | with_reducible apply ev_raise | with_reducible apply ev_apph | with_reducible apply ev_xf | with_reducible apply ev_isX | with_reducible apply k_nx | with_reducible apply f_nx | with_reducible apply t_ok | with_reducible apply ev_var | exact Nat.le_of_ble_eq_true rfl | ((with_reducible apply if_t); focus (exact rfl)) | ((with_reducible apply if_f); focus decide) | exact ⟨rfl, rfl⟩ | exact rfl)) rfl rfl okW eq1)) (ev_tst (b := false) (ev_eqO (b := false) (neg := false) (h3 := ⟨n + 1 + 1, cs⟩) (by repeat (first | with_reducible exact app_n | with_reducible exact ev_c | with_reducible exact ev_nil | with_reducible exact ev_nx | with_reducible exact ev_yes | with_reducible exact ev_moN | with_reducible exact ev_lcN | with_reducible exact ev_forN | with_reducible exact k_rt | with_reducible exact k_xc | with_reducible exact f_rt | with_reducible exact f_xc | with_reducible exact t_xc | with_reducible apply ev_cons | with_reducible apply ev_tup | with_reducible apply ev_lst | with_reducible apply ev_lstC | with_reducible apply ev_b1 | with_reducible apply ev_b2 | with_reducible apply ev_ba | with_reducible apply ev_call | with_reducible apply ev_callK | with_reducible apply ev_fld | with_reducible apply ev_meth | with_reducible apply ev_is | with_reducible apply ev_and | with_reducible apply ev_notV | with_reducible apply ev_if | with_reducible apply ev_tst | with_reducible apply ev_tru | with_reducible apply ev_not | with_reducible apply ev_tand | with_reducible apply ev_tor | with_reducible apply ev_sl | with_reducible apply ev_moS | with_reducible apply ev_lc | with_reducible apply ev_iter | with_reducible apply ev_enum | with_reducible apply ev_rng1 | with_reducible apply ev_eqO | with_reducible apply ev_seq' | with_reducible apply ev_set | with_reducible apply ev_ret | with_reducible apply ev_exp' | with_reducible apply ev_ifs | with_reducible apply ev_for | with_reducible apply ev_for' | with_reducible apply ev_stFh | with_reducible apply ev_stI | with_reducible apply ev_raise | with_reducible apply ev_apph | with_reducible apply ev_xf | with_reducible apply ev_isX | with_reducible apply k_nx | with_reducible apply f_nx | with_reducible apply t_ok | with_reducible apply ev_var | exact Nat.le_of_ble_eq_true rfl | ((with_reducible apply if_t); focus (exact rfl)) | ((with_reducible apply if_f); focus decide) | exact ⟨rfl, rfl⟩ | exact rfl)) (by repeat (first | with_reducible exact app_n | with_reducible exact ev_c | with_reducible exact ev_nil | with_reducible exact ev_nx | with_reducible exact ev_yes | with_reducible exact ev_moN | with_reducible exact ev_lcN | with_reducible exact ev_forN | with_reducible exact k_rt | with_reducible exact k_xc | with_reducible exact f_rt | with_reducible exact f_xc | with_reducible exact t_xc | with_reducible apply ev_cons | with_reducible apply ev_tup | with_reducible apply ev_lst | with_reducible apply ev_lstC | with_reducible apply ev_b1 | with_reducible apply ev_b2 | with_reducible apply ev_ba | with_reducible apply ev_call | with_reducible apply ev_callK | with_reducible apply ev_fld | with_reducible apply ev_meth | with_reducible apply ev_is | with_reducible apply ev_and | with_reducible apply ev_notV | with_reducible apply ev_if | with_reducible apply ev_tst | with_reducible apply ev_tru | with_reducible apply ev_not | with_reducible apply ev_tand | with_reducible apply ev_tor | with_reducible apply ev_sl | with_reducible apply ev_moS | with_reducible apply ev_lc | with_reducible apply ev_iter | with_reducible apply ev_enum | with_reducible apply ev_rng1 | with_reducible apply ev_eqO | with_reducible apply ev_seq' | with_reducible apply ev_set | with_reducible apply ev_ret | with_reducible apply ev_exp' | with_reducible apply ev_ifs | with_reducible apply ev_for | with_reducible apply ev_for' | with_reducible apply ev_stFh | with_reducible apply ev_stI | with_reducible apply ev_raise | with_reducible apply ev_apph | with_reducible apply ev_xf | with_reducible apply ev_isX | with_reducible apply k_nx | with_reducible apply f_nx | with_reducible apply t_ok | with_reducible apply ev_var | with_reducible exact gx1 _ | exact Nat.le_of_ble_eq_true rfl | ((with_reducible apply if_t); focus (exact rfl)) | ((with_reducible apply if_f); focus decide) | exact ⟨rfl, rfl⟩ | exact rfl)) rfl rfl okS_ eqs))
  have e8 : S8 (envM a1 a2 a3 a4 m x o0 o2 (some (wk a1 a2 a3 a4 m)) (some (wk a1 a2 a3 a4 m)) o8 o9 o10 o11 o12 o13 o14 o15) ⟨n + 1 + 1, cs⟩ = .nx (envM a1 a2 a3 a4 m x o0 o2 (some (wk a1 a2 a3 a4 m)) (some (wk a1 a2 a3 a4 m)) (some (wk a1 a2 a3 "own" false)) o9 o10 o11 o12 o13 o14 o15) ⟨n + 1 + 1 + 1, cs⟩ := ev_set (by repeat (first | with_reducible exact app_n | with_reducible exact ev_c | with_reducible exact ev_nil | with_reducible exact ev_nx | with_reducible exact ev_yes | with_reducible exact ev_moN | with_reducible exact ev_lcN | with_reducible exact ev_forN | with_reducible exact k_rt | with_reducible exact k_xc | with_reducible exact f_rt | with_reducible exact f_xc | with_reducible exact t_xc | with_reducible apply ev_cons | with_reducible apply ev_tup | with_reducible apply ev_lst | with_reducible apply ev_lstC | with_reducible apply ev_b1 | with_reducible apply ev_b2 | with_reducible apply ev_ba | with_reducible apply ev_call | with_reducible apply ev_callK | with_reducible apply ev_fld | with_reducible apply ev_meth | with_reducible apply ev_is | with_reducible apply ev_and | with_reducible apply ev_notV | with_reducible apply ev_if | with_reducible apply ev_tst | with_reducible apply ev_tru | with_reducible apply ev_not | with_reducible apply ev_tand | with_reducible apply ev_tor | with_reducible apply ev_sl | with_reducible apply ev_moS | with_reducible apply ev_lc | with_reducible apply ev_iter | with_reducible apply ev_enum | with_reducible apply ev_rng1 | with_reducible apply ev_eqO | with_reducible apply ev_seq' | with_reducible apply ev_set | with_reducible apply ev_ret | with_reducible apply ev_exp' | with_reducible apply ev_ifs | with_reducible apply ev_for | with_reducible apply ev_for' | with_reducible apply ev_stFh | with_reducible apply ev_stI | with_reducible apply ev_raise | with_reducible apply ev_apph | with_reducible apply ev_xf | with_reducible apply ev_isX | with_reducible apply k_nx | with_reducible apply f_nx | with_reducible apply t_ok | with_reducible apply ev_var | with_reducible exact gx1 _ | with_reducible exact gx2 _ | with_reducible exact gx3 _ | with_reducible exact mk3 | exact Nat.le_of_ble_eq_true rfl | ((with_reducible apply if_t); focus (exact rfl)) | ((with_reducible apply if_f); focus decide) | exact ⟨rfl, rfl⟩ | exact rfl))
  have l2 : mB2 pAdd (mLc [10] (mIter (mSl (mVar 1) (moN) (moS (mC (.int 3))))) (gN 10) (mYes) (mB2 pIx (mVar 5) (mVar 10))) (mLst (mCons (mC (.str "own")) (mCons (mC (.bl false)) (mNil)))) (envM a1 a2 a3 a4 m x o0 o2 (some (wk a1 a2 a3 a4 m)) (some (wk a1 a2 a3 a4 m)) (some (wk a1 a2 a3 "own" false)) o9 o10 o11 o12 o13 o14 o15) ⟨n + 1 + 1 + 1, cs⟩ = .ok (.lst [.str a1, .str a2, .str a3, .str "own", .bl false]) ⟨n + 1 + 1 + 1, cs⟩ := rfl
  have e2 : I2 (envM a1 a2 a3 a4 m x o0 o2 (some (wk a1 a2 a3 a4 m)) (some (wk a1 a2 a3 a4 m)) (some (wk a1 a2 a3 "own" false)) o9 o10 o11 o12 o13 o14 o15) ⟨n + 1 + 1 + 1, cs⟩ = .nx (envM a1 a2 a3 a4 m x o0 o2 (some (wk a1 a2 a3 a4 m)) (some (wk a1 a2 a3 a4 m)) (some (wk a1 a2 a3 "own" false)) o9 o10 o11 o12 o13 o14 o15) ⟨n + 1 + 1 + 1, cs⟩ :=
    ev_ifsF (h1 := ⟨n + 1 + 1 + 1, cs⟩) (ev_tst (ev_b2 (p := .str t') (q := .str t') (h1 := ⟨n + 1 + 1 + 1, cs⟩) (h2 := ⟨n + 1 + 1 + 1, cs⟩) (ev_ba (ev_cons (by repeat (first | with_reducible exact app_n | with_reducible exact ev_c | with_reducible exact ev_nil | with_reducible exact ev_nx | with_reducible exact ev_yes | with_reducible exact ev_moN | with_reducible exact ev_lcN | with_reducible exact ev_forN | with_reducible exact k_rt | with_reducible exact k_xc | with_reducible exact f_rt | with_reducible exact f_xc | with_reducible exact t_xc | with_reducible apply ev_cons | with_reducible apply ev_tup | with_reducible apply ev_lst | with_reducible apply ev_lstC | with_reducible apply ev_b1 | with_reducible apply ev_b2 | with_reducible apply ev_ba | with_reducible apply ev_call | with_reducible apply ev_callK | with_reducible apply ev_fld | with_reducible apply ev_meth | with_reducible apply ev_is | with_reducible apply ev_and | with_reducible apply ev_notV | with_reducible apply ev_if | with_reducible apply ev_tst | with_reducible apply ev_tru | with_reducible apply ev_not | with_reducible apply ev_tand | with_reducible apply ev_tor | with_reducible apply ev_sl | with_reducible apply ev_moS | with_reducible apply ev_lc | with_reducible apply ev_iter | with_reducible apply ev_enum | with_reducible apply ev_rng1 | with_reducible apply ev_eqO | with_reducible apply ev_seq' | with_reducible apply ev_set | with_reducible apply ev_ret | with_reducible apply ev_exp' | with_reducible apply ev_ifs | with_reducible apply ev_for | with_reducible apply ev_for' | with_reducible apply ev_stFh | with_reducible apply ev_stI | with_reducible apply ev_raise | with_reducible apply ev_apph | with_reducible apply ev_xf | with_reducible apply ev_isX | with_reducible apply k_nx | with_reducible apply f_nx | with_reducible apply t_ok | with_reducible apply ev_var | with_reducible exact td' | exact Nat.le_of_ble_eq_true rfl | ((with_reducible apply if_t); focus (exact rfl)) | ((with_reducible apply if_f); focus decide) | exact ⟨rfl, rfl⟩ | exact rfl)) ev_nil) (rp' _)) (ev_ba (ev_cons l2 ev_nil) (rp' _)) nt')) ev_nx
  have e3 : I3 (envM a1 a2 a3 a4 m x o0 o2 (some (wk a1 a2 a3 a4 m)) (some (wk a1 a2 a3 a4 m)) (some (wk a1 a2 a3 "own" false)) o9 o10 o11 o12 o13 o14 o15) ⟨n + 1 + 1 + 1, cs⟩ = .nx (envM a1 a2 a3 a4 m x o0 o2 (some (wk a1 a2 a3 a4 m)) (some (wk a1 a2 a3 a4 m)) (some (wk a1 a2 a3 "own" false)) o9 o10 o11 o12 o13 o14 o15) ⟨n + 1 + 1 + 1, cs⟩ := by
    refine ev_ifsF (h1 := ⟨n + 1 + 1 + 1, cs⟩) ?_ ev_nx
    have nb : ∀ b : Bool, pNe (.bl b) (.bl b) ⟨n + 1 + 1 + 1, cs⟩ = some (.bl false, ⟨n + 1 + 1 + 1, cs⟩) := fun b => by rw [ne_bl]; simp
    cases q : (a4 == "own") with
    | false =>
      rw [q] at eq3 by_
      refine ev_tst (ev_b2 (p := .bl false) (q := .bl false) (h1 := ⟨n + 1 + 1 + 1, cs⟩) (h2 := ⟨n + 1 + 1 + 1, cs⟩) (ev_eqO (b := false) (neg := false) (h3 := ⟨n + 1 + 1 + 1, cs⟩) (by repeat (first | with_reducible exact app_n | with_reducible exact ev_c | with_reducible exact ev_nil | with_reducible exact ev_nx | with_reducible exact ev_yes | with_reducible exact ev_moN | with_reducible exact ev_lcN | with_reducible exact ev_forN | with_reducible exact k_rt | with_reducible exact k_xc | with_reducible exact f_rt | with_reducible exact f_xc | with_reducible exact t_xc | with_reducible apply ev_cons | with_reducible apply ev_tup | with_reducible apply ev_lst | with_reducible apply ev_lstC | with_reducible apply ev_b1 | with_reducible apply ev_b2 | with_reducible apply ev_ba | with_reducible apply ev_call | with_reducible apply ev_callK | with_reducible apply ev_fld | with_reducible apply ev_meth | with_reducible apply ev_is | with_reducible apply ev_and | with_reducible apply ev_notV | with_reducible apply ev_if | with_reducible apply ev_tst | with_reducible apply ev_tru | with_reducible apply ev_not | with_reducible apply ev_tand | with_reducible apply ev_tor | with_reducible apply ev_sl | with_reducible apply ev_moS | with_reducible apply ev_lc | with_reducible apply ev_iter | with_reducible apply ev_enum | with_reducible apply ev_rng1 | with_reducible apply ev_eqO | with_reducible apply ev_seq' | with_reducible apply ev_set | with_reducible apply ev_ret | with_reducible apply ev_exp' | with_reducible apply ev_ifs | with_reducible apply ev_for | with_reducible apply ev_for' | with_reducible apply ev_stFh | with_reducible apply ev_stI | with_reducible apply ev_raise | with_reducible apply ev_apph | with_reducible apply ev_xf | with_reducible apply ev_isX | with_reducible apply k_nx | with_reducible apply f_nx | with_reducible apply t_ok | with_reducible apply ev_var | exact Nat.le_of_ble_eq_true rfl | ((with_reducible apply if_t); focus (exact rfl)) | ((with_reducible apply if_f); focus decide) | exact ⟨rfl, rfl⟩ | exact rfl)) (by repeat (first | with_reducible exact app_n | with_reducible exact ev_c | with_reducible exact ev_nil | with_reducible exact ev_nx | with_reducible exact ev_yes | with_reducible exact ev_moN | with_reducible exact ev_lcN | with_reducible exact ev_forN | with_reducible exact k_rt | with_reducible exact k_xc | with_reducible exact f_rt | with_reducible exact f_xc | with_reducible exact t_xc | with_reducible apply ev_cons | with_reducible apply ev_tup | with_reducible apply ev_lst | with_reducible apply ev_lstC | with_reducible apply ev_b1 | with_reducible apply ev_b2 | with_reducible apply ev_ba | with_reducible apply ev_call | with_reducible apply ev_callK | with_reducible apply ev_fld | with_reducible apply ev_meth | with_reducible apply ev_is | with_reducible apply ev_and | with_reducible apply ev_notV | with_reducible apply ev_if | with_reducible apply ev_tst | with_reducible apply ev_tru | with_reducible apply ev_not | with_reducible apply ev_tand | with_reducible apply ev_tor | with_reducible apply ev_sl | with_reducible apply ev_moS | with_reducible apply ev_lc | with_reducible apply ev_iter | with_reducible apply ev_enum | with_reducible apply ev_rng1 | with_reducible apply ev_eqO | with_reducible apply ev_seq' | with_reducible apply ev_set | with_reducible apply ev_ret | with_reducible apply ev_exp' | with_reducible apply ev_ifs | with_reducible apply ev_for | with_reducible apply ev_for' | with_reducible apply ev_stFh | with_reducible apply ev_stI | with_reducible apply ev_raise | with_reducible apply ev_apph | with_reducible apply ev_xf | with_reducible apply ev_isX | with_reducible apply k_nx | with_reducible apply f_nx | with_reducible apply t_ok | with_reducible apply ev_var | exact Nat.le_of_ble_eq_true rfl | ((with_reducible apply if_t); focus (exact rfl)) | ((with_reducible apply if_f); focus decide) | exact ⟨rfl, rfl⟩ | exact rfl)) rfl rfl okW eq3) ?_ (nb false))
      repeat (first | with_reducible exact app_n | with_reducible exact ev_c | with_reducible exact ev_nil | with_reducible exact ev_nx | with_reducible exact ev_yes | with_reducible exact ev_moN | with_reducible exact ev_lcN | with_reducible exact ev_forN | with_reducible exact k_rt | with_reducible exact k_xc | with_reducible exact f_rt | with_reducible exact f_xc | with_reducible exact t_xc | with_reducible apply ev_cons | with_reducible apply ev_tup | with_reducible apply ev_lst | with_reducible apply ev_lstC | with_reducible apply ev_b1 | with_reducible apply ev_b2 | with_reducible apply ev_ba | with_reducible apply ev_call | with_reducible apply ev_callK | with_reducible apply ev_fld | with_reducible apply ev_meth | with_reducible apply ev_is | with_reducible apply ev_and | with_reducible apply ev_notV | with_reducible apply ev_if | with_reducible apply ev_tst | with_reducible apply ev_tru | with_reducible apply ev_not | with_reducible apply ev_tand | with_reducible apply ev_tor | with_reducible apply ev_sl | with_reducible apply ev_moS | with_reducible apply ev_lc | with_reducible apply ev_iter | with_reducible apply ev_enum | with_reducible apply ev_rng1 | with_reducible apply ev_eqO | with_reducible apply ev_seq' | with_reducible apply ev_set | with_reducible apply ev_ret | with_reducible apply ev_exp' | with_reducible apply ev_ifs | with_reducible apply ev_for | with_reducible apply ev_for' | with_reducible apply ev_stFh | with_reducible apply ev_stI | with_reducible apply ev_raise | with_reducible apply ev_apph | with_reducible apply ev_xf | with_reducible apply ev_isX | with_reducible apply k_nx | with_reducible apply f_nx | with_reducible apply t_ok | with_reducible apply ev_var | with_reducible exact gx4 _ | with_reducible exact by_ | exact Nat.le_of_ble_eq_true rfl | ((with_reducible apply if_t); focus (exact rfl)) | ((with_reducible apply if_f); focus decide) | exact ⟨rfl, rfl⟩ | exact rfl)
    | true =>
      rw [q] at eq3 by_
      refine ev_tst (ev_b2 (p := .bl (m == false)) (q := .bl (m == false)) (h1 := ⟨n + 1 + 1 + 1, cs⟩) (h2 := ⟨n + 1 + 1 + 1, cs⟩) (ev_eqO (b := (m == false)) (neg := false) (h3 := ⟨n + 1 + 1 + 1, cs⟩) (by repeat (first | with_reducible exact app_n | with_reducible exact ev_c | with_reducible exact ev_nil | with_reducible exact ev_nx | with_reducible exact ev_yes | with_reducible exact ev_moN | with_reducible exact ev_lcN | with_reducible exact ev_forN | with_reducible exact k_rt | with_reducible exact k_xc | with_reducible exact f_rt | with_reducible exact f_xc | with_reducible exact t_xc | with_reducible apply ev_cons | with_reducible apply ev_tup | with_reducible apply ev_lst | with_reducible apply ev_lstC | with_reducible apply ev_b1 | with_reducible apply ev_b2 | with_reducible apply ev_ba | with_reducible apply ev_call | with_reducible apply ev_callK | with_reducible apply ev_fld | with_reducible apply ev_meth | with_reducible apply ev_is | with_reducible apply ev_and | with_reducible apply ev_notV | with_reducible apply ev_if | with_reducible apply ev_tst | with_reducible apply ev_tru | with_reducible apply ev_not | with_reducible apply ev_tand | with_reducible apply ev_tor | with_reducible apply ev_sl | with_reducible apply ev_moS | with_reducible apply ev_lc | with_reducible apply ev_iter | with_reducible apply ev_enum | with_reducible apply ev_rng1 | with_reducible apply ev_eqO | with_reducible apply ev_seq' | with_reducible apply ev_set | with_reducible apply ev_ret | with_reducible apply ev_exp' | with_reducible apply ev_ifs | with_reducible apply ev_for | with_reducible apply ev_for' | with_reducible apply ev_stFh | with_reducible apply ev_stI | with_reducible apply ev_raise | with_reducible apply ev_apph | with_reducible apply ev_xf | with_reducible apply ev_isX | with_reducible apply k_nx | with_reducible apply f_nx | with_reducible apply t_ok | with_reducible apply ev_var | exact Nat.le_of_ble_eq_true rfl | ((with_reducible apply if_t); focus (exact rfl)) | ((with_reducible apply if_f); focus decide) | exact ⟨rfl, rfl⟩ | exact rfl)) (by repeat (first | with_reducible exact app_n | with_reducible exact ev_c | with_reducible exact ev_nil | with_reducible exact ev_nx | with_reducible exact ev_yes | with_reducible exact ev_moN | with_reducible exact ev_lcN | with_reducible exact ev_forN | with_reducible exact k_rt | with_reducible exact k_xc | with_reducible exact f_rt | with_reducible exact f_xc | with_reducible exact t_xc | with_reducible apply ev_cons | with_reducible apply ev_tup | with_reducible apply ev_lst | with_reducible apply ev_lstC | with_reducible apply ev_b1 | with_reducible apply ev_b2 | with_reducible apply ev_ba | with_reducible apply ev_call | with_reducible apply ev_callK | with_reducible apply ev_fld | with_reducible apply ev_meth | with_reducible apply ev_is | with_reducible apply ev_and | with_reducible apply ev_notV | with_reducible apply ev_if | with_reducible apply ev_tst | with_reducible apply ev_tru | with_reducible apply ev_not | with_reducible apply ev_tand | with_reducible apply ev_tor | with_reducible apply ev_sl | with_reducible apply ev_moS | with_reducible apply ev_lc | with_reducible apply ev_iter | with_reducible apply ev_enum | with_reducible apply ev_rng1 | with_reducible apply ev_eqO | with_reducible apply ev_seq' | with_reducible apply ev_set | with_reducible apply ev_ret | with_reducible apply ev_exp' | with_reducible apply ev_ifs | with_reducible apply ev_for | with_reducible apply ev_for' | with_reducible apply ev_stFh | with_reducible apply ev_stI | with_reducible apply ev_raise | with_reducible apply ev_apph | with_reducible apply ev_xf | with_reducible apply ev_isX | with_reducible apply k_nx | with_reducible apply f_nx | with_reducible apply t_ok | with_reducible apply ev_var | exact Nat.le_of_ble_eq_true rfl | ((with_reducible apply if_t); focus (exact rfl)) | ((with_reducible apply if_f); focus decide) | exact ⟨rfl, rfl⟩ | exact rfl)) rfl rfl okW eq3) ?_ (nb _))
      have nm : (!m) = (m == false) := by cases m <;> rfl
      rw [← nm]
      refine ev_andT (h1 := ⟨n + 1 + 1 + 1, cs⟩) (by repeat (first | with_reducible exact app_n | with_reducible exact ev_c | with_reducible exact ev_nil | with_reducible exact ev_nx | with_reducible exact ev_yes | with_reducible exact ev_moN | with_reducible exact ev_lcN | with_reducible exact ev_forN | with_reducible exact k_rt | with_reducible exact k_xc | with_reducible exact f_rt | with_reducible exact f_xc | with_reducible exact t_xc | with_reducible apply ev_cons | with_reducible apply ev_tup | with_reducible apply ev_lst | with_reducible apply ev_lstC | with_reducible apply ev_b1 | with_reducible apply ev_b2 | with_reducible apply ev_ba | with_reducible apply ev_call | with_reducible apply ev_callK | with_reducible apply ev_fld | with_reducible apply ev_meth | with_reducible apply ev_is | with_reducible apply ev_and | with_reducible apply ev_notV | with_reducible apply ev_if | with_reducible apply ev_tst | with_reducible apply ev_tru | with_reducible apply ev_not | with_reducible apply ev_tand | with_reducible apply ev_tor | with_reducible apply ev_sl | with_reducible apply ev_moS | with_reducible apply ev_lc | with_reducible apply ev_iter | with_reducible apply ev_enum | with_reducible apply ev_rng1 | with_reducible apply ev_eqO | with_reducible apply ev_seq' | with_reducible apply ev_set | with_reducible apply ev_ret | with_reducible apply ev_exp' | with_reducible apply ev_ifs | with_reducible apply ev_for | with_reducible apply ev_for' | with_reducible apply ev_stFh | with_reducible apply ev_stI | with_reducible apply ev_raise | with_reducible apply ev_apph | with_reducible apply ev_xf | with_reducible apply ev_isX | with_reducible apply k_nx | with_reducible apply f_nx | with_reducible apply t_ok | with_reducible apply ev_var | with_reducible exact gx4 _ | with_reducible exact by_ | exact Nat.le_of_ble_eq_true rfl | ((with_reducible apply if_t); focus (exact rfl)) | ((with_reducible apply if_f); focus decide) | exact ⟨rfl, rfl⟩ | exact rfl)) (ev_notV (by repeat (first | with_reducible exact app_n | with_reducible exact ev_c | with_reducible exact ev_nil | with_reducible exact ev_nx | with_reducible exact ev_yes | with_reducible exact ev_moN | with_reducible exact ev_lcN | with_reducible exact ev_forN | with_reducible exact k_rt | with_reducible exact k_xc | with_reducible exact f_rt | with_reducible exact f_xc | with_reducible exact t_xc | with_reducible apply ev_cons | with_reducible apply ev_tup | with_reducible apply ev_lst | with_reducible apply ev_lstC | with_reducible apply ev_b1 | with_reducible apply ev_b2 | with_reducible apply ev_ba | with_reducible apply ev_call | with_reducible apply ev_callK | with_reducible apply ev_fld | with_reducible apply ev_meth | with_reducible apply ev_is | with_reducible apply ev_and | with_reducible apply ev_notV | with_reducible apply ev_if | with_reducible apply ev_tst | with_reducible apply ev_tru | with_reducible apply ev_not | with_reducible apply ev_tand | with_reducible apply ev_tor | with_reducible apply ev_sl | with_reducible apply ev_moS | with_reducible apply ev_lc | with_reducible apply ev_iter | with_reducible apply ev_enum | with_reducible apply ev_rng1 | with_reducible apply ev_eqO | with_reducible apply ev_seq' | with_reducible apply ev_set | with_reducible apply ev_ret | with_reducible apply ev_exp' | with_reducible apply ev_ifs | with_reducible apply ev_for | with_reducible apply ev_for' | with_reducible apply ev_stFh | with_reducible apply ev_stI | with_reducible apply ev_raise | with_reducible apply ev_apph | with_reducible apply ev_xf | with_reducible apply ev_isX | with_reducible apply k_nx | with_reducible apply f_nx | with_reducible apply t_ok | with_reducible apply ev_var | with_reducible exact gx5 _ | exact Nat.le_of_ble_eq_true rfl | ((with_reducible apply if_t); focus (exact rfl)) | ((with_reducible apply if_f); focus decide) | exact ⟨rfl, rfl⟩ | exact rfl)))
  exact ⟨_, _, ⟨n + 1 + 1 + 1, cs⟩, s3, ev_seq e6 (ev_seq e7 (ev_seq e1 (ev_seq e8 (ev_seq e2 (ev_seq e3 rfl)))))⟩
end
end K04

namespace K04
open PySem PySem.Spec PyProof.Rows L2 Mi
section
variable {a1 a2 a3 a4 : Str} {m : Bool} {o0 o2 o3 o4 o5 o6 o7 o8 o9 o10 o11 o12 o13 o14 o15 : Option PV} {x : Nat} {h : MH}
theorem fp_ok (g : GoodP a1 a2 a3 a4 m) (k : GoodK a1 a2 a3 a4) (s : SI x h) : ∃ (r9 r10 r11 r12 r13 r14 r15 : Option PV) (h' : MH), SI x h' ∧
    FP (envM a1 a2 a3 a4 m x o0 o2 (some (wk a1 a2 a3 a4 m)) o7 o8 o9 o10 o11 o12 o13 o14 o15) h = .nx (envM a1 a2 a3 a4 m x o0 o2 (some (wk a1 a2 a3 a4 m)) o7 o8 r9 r10 r11 r12 r13 r14 r15) h' := by
  obtain ⟨b11, b12, b13, b14, b15, h1, e1, s1⟩ := part_event (o0 := o0) (o2 := o2) (o7 := o7) (o8 := o8) (o11 := o11) (o12 := o12) (o13 := o13) (o14 := o14) (o15 := o15) g k s
  obtain ⟨c11, c12, c13, c14, c15, h2, e2, s2⟩ := part_deed (o0 := o0) (o2 := o2) (o7 := o7) (o8 := o8) (o11 := b11) (o12 := b12) (o13 := b13) (o14 := b14) (o15 := b15) g k s1
  obtain ⟨d11, d12, d13, d14, d15, h3, e3, s3⟩ := part_call (o0 := o0) (o2 := o2) (o7 := o7) (o8 := o8) (o11 := c11) (o12 := c12) (o13 := c13) (o14 := c14) (o15 := c15) g k s2
  obtain ⟨f11, f12, f13, f14, f15, h4, e4, s4⟩ := part_by (o0 := o0) (o2 := o2) (o7 := o7) (o8 := o8) (o11 := d11) (o12 := d12) (o13 := d13) (o14 := d14) (o15 := d15) g k s3
  obtain ⟨g11, g12, g13, g14, g15, h5, e5, s5⟩ := part_may (o0 := o0) (o2 := o2) (o7 := o7) (o8 := o8) (o11 := f11) (o12 := f12) (o13 := f13) (o14 := f14) (o15 := f15) g k s4
  exact ⟨_, _, _, _, _, _, _, h5, s5, ev_for en_ok (ev_forC rfl e1 (ev_forC rfl e2 (ev_forC rfl e3 (ev_forC rfl e4 (ev_forC rfl e5 ev_forN)))))⟩
theorem cell_ok {ns : List Int} {j : Nat} (hj : j ≤ 3) (hn : ns = [] ∨ j < ns.length) (w : WF h) (c : cleanH h = true) : ∃ (r3 r4 r5 r6 r7 r8 r9 r10 r11 r12 r13 r14 r15 : Option PV) (h' : MH), (WF h' ∧ cleanH h' = true) ∧
    bodyC [some (.scr ns), some (.lst NM), some (.int j), o3, o4, o5, o6, o7, o8, o9, o10, o11, o12, o13, o14, o15] h = .nx [some (.scr ns), some (.lst NM), some (.int j), r3, r4, r5, r6, r7, r8, r9, r10, r11, r12, r13, r14, r15] h' := by
  obtain ⟨n, cs⟩ := h
  obtain ⟨L, op⟩ := opened_ok (k := j) hj hn w
  have s := SI.start (L := L) w c
  have e3 : S3 [some (.scr ns), some (.lst NM), some (.int j), o3, o4, o5, o6, o7, o8, o9, o10, o11, o12, o13, o14, o15] ⟨n, cs⟩ = .nx [some (.scr ns), some (.lst NM), some (.int j), some (.ref (n + 1)), o4, o5, o6, o7, o8, o9, o10, o11, o12, o13, o14, o15] ⟨n + 2, (n + 1, .lst [.lst (L.map PV.int), .int 0]) :: cs⟩ := ev_set (by repeat (first | with_reducible exact app_n | with_reducible exact ev_c | with_reducible exact ev_nil | with_reducible exact ev_nx | with_reducible exact ev_yes | with_reducible exact ev_moN | with_reducible exact ev_lcN | with_reducible exact ev_forN | with_reducible exact k_rt | with_reducible exact k_xc | with_reducible exact f_rt | with_reducible exact f_xc | with_reducible exact t_xc | with_reducible apply ev_cons | with_reducible apply ev_tup | with_reducible apply ev_lst | with_reducible apply ev_lstC | with_reducible apply ev_b1 | with_reducible apply ev_b2 | with_reducible apply ev_ba | with_reducible apply ev_call | with_reducible apply ev_callK | with_reducible apply ev_fld | with_reducible apply ev_meth | with_reducible apply ev_is | with_reducible apply ev_and | with_reducible apply ev_notV | with_reducible apply ev_if | with_reducible apply ev_tst | with_reducible apply ev_tru | with_reducible apply ev_not | with_reducible apply ev_tand | with_reducible apply ev_tor | with_reducible apply ev_sl | with_reducible apply ev_moS | with_reducible apply ev_lc | with_reducible apply ev_iter | with_reducible apply ev_enum | with_reducible apply ev_rng1 | with_reducible apply ev_eqO | with_reducible apply ev_seq' | with_reducible apply ev_set | with_reducible apply ev_ret | with_reducible apply ev_exp' | with_reducible apply ev_ifs | with_reducible apply ev_for | with_reducible apply ev_for' | with_reducible apply ev_stFh | with_reducible apply ev_stI | with_reducible apply ev_raise | with_reducible apply ev_apph | with_reducible apply ev_xf | with_reducible apply ev_isX | with_reducible apply k_nx | with_reducible apply f_nx | with_reducible apply t_ok | with_reducible apply ev_var | with_reducible exact op | exact Nat.le_of_ble_eq_true rfl | ((with_reducible apply if_t); focus (exact rfl)) | ((with_reducible apply if_f); focus decide) | exact ⟨rfl, rfl⟩ | exact rfl))
  have e4 : mSeq S4 S4b [some (.scr ns), some (.lst NM), some (.int j), some (.ref (n + 1)), o4, o5, o6, o7, o8, o9, o10, o11, o12, o13, o14, o15] ⟨n + 2, (n + 1, .lst [.lst (L.map PV.int), .int 0]) :: cs⟩ = .nx [some (.scr ns), some (.lst NM), some (.int j), some (.ref (n + 1)), some (.lst MENU), o5, o6, o7, o8, o9, o10, o11, o12, o13, o14, o15] ⟨n + 2, (n + 1, .lst [.lst (L.map PV.int), .int 0]) :: cs⟩ := rfl
  obtain ⟨a1, a2, a3, a4, m, h1, i1, i2, i3, i4, s1, g, k, e5⟩ := drawn_ok (o0 := some (.scr ns)) (o2 := some (.int j)) (o5 := o5) (o6 := o6) (o7 := o7) (o8 := o8) (o9 := o9) (o10 := o10) (o11 := o11) (o12 := o12) (o13 := o13) (o14 := o14) (o15 := o15) s
  obtain ⟨q7, q8, h2, s2, e6⟩ := mid_ok (o0 := some (.scr ns)) (o2 := some (.int j)) (o6 := o6) (o7 := o7) (o8 := o8) (o9 := o9) (o10 := o10) (o11 := o11) (o12 := o12) (o13 := o13) (o14 := o14) (o15 := o15) s1 g k i1 i2 i3 i4
  obtain ⟨r9, r10, r11, r12, r13, r14, r15, h3, s3, e7⟩ := fp_ok (o0 := some (.scr ns)) (o2 := some (.int j)) (o7 := q7) (o8 := q8) (o9 := o9) (o10 := o10) (o11 := o11) (o12 := o12) (o13 := o13) (o14 := o14) (o15 := o15) g k s2
  have e4' : mSeq S4 (mSeq S4b (mSeq S5 (mSeq S6 (mSeq S7 (mSeq I1 (mSeq S8 (mSeq I2 (mSeq I3 FP)))))))) [some (.scr ns), some (.lst NM), some (.int j), some (.ref (n + 1)), o4, o5, o6, o7, o8, o9, o10, o11, o12, o13, o14, o15] ⟨n + 2, (n + 1, .lst [.lst (L.map PV.int), .int 0]) :: cs⟩ = mSeq S5 (mSeq S6 (mSeq S7 (mSeq I1 (mSeq S8 (mSeq I2 (mSeq I3 FP)))))) [some (.scr ns), some (.lst NM), some (.int j), some (.ref (n + 1)), some (.lst MENU), o5, o6, o7, o8, o9, o10, o11, o12, o13, o14, o15] ⟨n + 2, (n + 1, .lst [.lst (L.map PV.int), .int 0]) :: cs⟩ := rfl
  exact ⟨_, _, _, _, _, _, _, _, _, _, _, _, _, h3, ⟨s3.wf, s3.cl⟩, ev_seq e3 (e4'.trans (ev_seq e5 (e6.trans e7)))⟩
end
theorem pure_ (ns : List Int) (_hl : ns.length ≤ 63) : ∃ h, r_law [.scr ns] ⟨0, []⟩ = .ok (.bl true) h := by
  let T : Int := if (if (4 : Int) < (ns.length : Nat) then 4 else ((ns.length : Nat) : Int)) > 1 then (if (4 : Int) < (ns.length : Nat) then 4 else ((ns.length : Nat) : Int)) else 1
  have hT : 1 ≤ T ∧ T ≤ 4 ∧ (T ≤ (ns.length : Nat) ∨ ns = []) := by
    have key : T ≤ (ns.length : Nat) ∨ ns.length = 0 := by
      show (if (if (4 : Int) < (ns.length : Nat) then 4 else ((ns.length : Nat) : Int)) > 1 then (if (4 : Int) < (ns.length : Nat) then 4 else ((ns.length : Nat) : Int)) else 1) ≤ (ns.length : Nat) ∨ _
      split <;> split at * <;> omega
    refine ⟨?_, ?_, key.imp id List.eq_nil_of_length_eq_zero⟩
    · show 1 ≤ (if (if (4 : Int) < (ns.length : Nat) then 4 else ((ns.length : Nat) : Int)) > 1 then (if (4 : Int) < (ns.length : Nat) then 4 else ((ns.length : Nat) : Int)) else 1)
      split <;> omega
    · show (if (if (4 : Int) < (ns.length : Nat) then 4 else ((ns.length : Nat) : Int)) > 1 then (if (4 : Int) < (ns.length : Nat) then 4 else ((ns.length : Nat) : Int)) else 1) ≤ 4
      split
      · split <;> omega
      · omega
  obtain ⟨e2, h2, f, r2, r3, r4, r5, r6, r7, r8, r9, r10, r11, r12, r13, r14, r15, ee, w2⟩ := forL_inv (sa := bodyC) (g := gN 2) (I := fun env h => ∃ r2 r3 r4 r5 r6 r7 r8 r9 r10 r11 r12 r13 r14 r15, env = [some (.scr ns), some (.lst NM), r2, r3, r4, r5, r6, r7, r8, r9, r10, r11, r12, r13, r14, r15] ∧ WF h ∧ cleanH h = true) (xs := rangeP 0 T.toNat) (env := [some (.scr ns), some (.lst NM), none, none, none, none, none, none, none, none, none, none, none, none, none, none]) (h := ⟨0, []⟩) (by
    intro y hy env hh hI
    obtain ⟨r2, r3, r4, r5, r6, r7, r8, r9, r10, r11, r12, r13, r14, r15, rfl, w, c⟩ := hI
    obtain ⟨j, hj, rfl⟩ : ∃ j : Nat, j < T.toNat ∧ y = .int (j : Nat) := by
      unfold rangeP at hy
      simp only [List.mem_map, List.mem_range] at hy
      obtain ⟨j, hj, rfl⟩ := hy
      exact ⟨j, hj, by simp⟩
    obtain ⟨t3, t4, t5, t6, t7, t8, t9, t10, t11, t12, t13, t14, t15, h', wc, e⟩ := cell_ok (o3 := r3) (o4 := r4) (o5 := r5) (o6 := r6) (o7 := r7) (o8 := r8) (o9 := r9) (o10 := r10) (o11 := r11) (o12 := r12) (o13 := r13) (o14 := r14) (o15 := r15) (ns := ns) (j := j) (by omega) (by rcases hT.2.2 with z | z; exact .inr (by omega); exact .inl z) w c
    exact ⟨_, _, _, rfl, e, _, _, _, _, _, _, _, _, _, _, _, _, _, _, rfl, wc⟩) ⟨_, _, _, _, _, _, _, _, _, _, _, _, _, _, rfl, (fun q m => by cases m), rfl⟩
  subst ee
  refine ⟨⟨h2.nx, h2.cs.filter fun q => q.1 < 0⟩, ?_⟩
  unfold r_law
  refine ev_runB [some (.scr ns), none, none, none, none, none, none, none, none, none, none, none, none, none, none, none] rfl rfl (s1 := .rt (.bl true) h2) ?_ rfl
  unfold m_law
  have ln : pLen [.scr ns] ⟨0, []⟩ = some (.int ((ns.length : Nat) : Int), ⟨0, []⟩) := by
    show some (PV.int (((ns.map PV.int).length : Nat) : Int), _) = _
    rw [List.length_map]
  have mn : pMin2 [.int ((ns.length : Nat) : Int), .int 4] ⟨0, []⟩ = some (.int (if (4 : Int) < (ns.length : Nat) then 4 else ((ns.length : Nat) : Int)), ⟨0, []⟩) := rfl
  have mx : pMax2 [.int 1, .int (if (4 : Int) < (ns.length : Nat) then 4 else ((ns.length : Nat) : Int))] ⟨0, []⟩ = some (.int T, ⟨0, []⟩) := rfl
  have rg : mRng1 (mCons (mBA pMax2 (mCons (mC (.int 1)) (mCons (mBA pMin2 (mCons (mBA pLen (mCons (mVar 0) (mNil))) (mCons (mC (.int 4)) (mNil)))) (mNil)))) (mNil)) [some (.scr ns), some (.lst NM), none, none, none, none, none, none, none, none, none, none, none, none, none, none] ⟨0, []⟩ = .ok (rangeP 0 T.toNat) ⟨0, []⟩ := by
    refine ev_rng1 (ev_cons ?_ ev_nil) ⟨by omega, by omega⟩
    repeat (first | with_reducible exact app_n | with_reducible exact ev_c | with_reducible exact ev_nil | with_reducible exact ev_nx | with_reducible exact ev_yes | with_reducible exact ev_moN | with_reducible exact ev_lcN | with_reducible exact ev_forN | with_reducible exact k_rt | with_reducible exact k_xc | with_reducible exact f_rt | with_reducible exact f_xc | with_reducible exact t_xc | with_reducible apply ev_cons | with_reducible apply ev_tup | with_reducible apply ev_lst | with_reducible apply ev_lstC | with_reducible apply ev_b1 | with_reducible apply ev_b2 | with_reducible apply ev_ba | with_reducible apply ev_call | with_reducible apply ev_callK | with_reducible apply ev_fld | with_reducible apply ev_meth | with_reducible apply ev_is | with_reducible apply ev_and | with_reducible apply ev_notV | with_reducible apply ev_if | with_reducible apply ev_tst | with_reducible apply ev_tru | with_reducible apply ev_not | with_reducible apply ev_tand | with_reducible apply ev_tor | with_reducible apply ev_sl | with_reducible apply ev_moS | with_reducible apply ev_lc | with_reducible apply ev_iter | with_reducible apply ev_enum | with_reducible apply ev_rng1 | with_reducible apply ev_eqO | with_reducible apply ev_seq' | with_reducible apply ev_set | with_reducible apply ev_ret | with_reducible apply ev_exp' | with_reducible apply ev_ifs | with_reducible apply ev_for | with_reducible apply ev_for' | with_reducible apply ev_stFh | with_reducible apply ev_stI | with_reducible apply ev_raise | with_reducible apply ev_apph | with_reducible apply ev_xf | with_reducible apply ev_isX | with_reducible apply k_nx | with_reducible apply f_nx | with_reducible apply t_ok | with_reducible apply ev_var | with_reducible exact ln | with_reducible exact mn | with_reducible exact mx | exact Nat.le_of_ble_eq_true rfl | ((with_reducible apply if_t); focus (exact rfl)) | ((with_reducible apply if_f); focus decide) | exact ⟨rfl, rfl⟩ | exact rfl)
  refine ev_seq (e1 := [some (.scr ns), some (.lst NM), none, none, none, none, none, none, none, none, none, none, none, none, none, none]) (h1 := ⟨0, []⟩) rfl (ev_seq (ev_for rg f) (ev_ret ev_c))
end K04

theorem PySem.Challenge.cw_answerpiles_k04_wakings_told_holds : PySem.Challenge.rw_answerpiles_k04_wakings_told.Holds :=
  K04.end_of K04.pure_
