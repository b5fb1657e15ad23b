import PyProof.Rows.All
import Wide.All
import OpenK.AllK
import Wide.FinOn
import HandS.ForMost
import HandS.ForExc
import HandS.ExcCtx
import HandS.Defaults
import HandS.CallSlots
import HandS.IsInst
import HandS.More
import HandS.Text
import HandS.Deep
import HandS.WordsDict
import HandS.ListItems
import HandS.OwnEq
import HandS.IterVal
import KE.KExcSuper
import HandS.ExcField
import HandS.ExcIs
import HandS.ExcInit
import KE.KExcIs
import HandS.HotCalls
import PySem.Challenge.RW_copiesfollow_k51_store_pairs
set_option Elab.async false
set_option linter.all false
set_option maxRecDepth 100000
set_option maxHeartbeats 4000000
/-! Mini: a small functional semantics of the program's defs. Values, cells, what stands for what. -/
namespace Mi
open PySem L2

/-- a value: a scalar, a frozen tree, or a mutable cell by its number; loc i: the cell that slot i owns -/
inductive Val where
  | non | bl (b : Bool) | int (i : Int) | str (s : Str)
  | tup (l : List Val) | lst (l : List Val) | dic (l : List (Key × Val)) | obj (C : Nat) (fs : List (Nat × Val))
  | frl (l : List Val) | ref (n : Nat) | loc (i : Nat)
/-- a mutable cell -/
inductive Cell where
  | lst (l : List Val) | dic (l : List (Key × Val)) | ins (C : Nat) (fs : List (Nat × Val))
/-- the cell as a frozen value -/
def frzV : Cell → Val
  | .lst l => .lst l
  | .dic l => .dic l
  | .ins C fs => .obj C fs
/-- a slot of a frame -/
inductive Slot where
  | un | va (v : Val) | ow (c : Cell) | ex (C : Nat) (fs : List (Nat × Val))
abbrev SEnv := List Slot
abbrev Hep := List Cell
/-- an expression's outcome -/
inductive Re (α : Type) where
  | ok (a : α) (h : Hep) | exc (C : Nat) (fs : List (Nat × Val)) (h : Hep) | bad
/-- a statement's outcome -/
inductive SO where
  | nx (e : SEnv) (h : Hep) | rt (v : Val) (h : Hep) | bk (e : SEnv) (h : Hep) | ct (e : SEnv) (h : Hep) | rc (c : Cell) (h : Hep)
  | exc (C : Nat) (fs : List (Nat × Val)) (e : SEnv) (h : Hep) | bad
abbrev Ex1 := SEnv → Hep → Re Val
abbrev ExL := SEnv → Hep → Re (List Val)
abbrev Stm := SEnv → Hep → SO
abbrev Fn := List Val → Hep → Re Val

/-- the names of classes and fields -/
structure Gm where
  cl : Nat → Addr
  fl : Nat → Str
  /-- the error that is handled: where it stands, its class, its dict -/
  xa : Option (Addr × Nat × Option Addr) := none
  inj : ∀ i j, fl i = fl j → i = j

/-- the abstract heap grows -/
def Ex (H H' : Hp) : Prop := ∀ a o, H a = some o → H' a = some o
theorem Ex.refl (H : Hp) : Ex H H := fun _ _ h => h
theorem Ex.trans {H H1 H2 : Hp} (a : Ex H H1) (b : Ex H1 H2) : Ex H H2 := fun x o h => b x o (a x o h)
theorem Ex.new {H : Hp} {p : Addr} {o : HO} (h : H p = none) : Ex H (upd H p o) := fun a u e => by
  rw [upd_ne (ne_of_none e h)]
  exact e
theorem ex_rd {H H' : Hp} {a : Addr} {u : HO} (e : Ex H H') (h : Rd H a u) : Rd H' a u := by
  rcases h with h | ⟨o, h⟩
  · exact Or.inl (e a _ h)
  · exact Or.inr ⟨o, e a _ h⟩
theorem ex_l {K : PySem.W.Frag} {H H' : Hp} {a : Addr} {xs : List V} (e : Ex H H') (h : SqL K H a xs) : SqL K H' a xs := by
  rcases h with h | h
  · exact Or.inl (ex_rd e h)
  · exact Or.inr h
theorem ex_t {K : PySem.W.Frag} {H H' : Hp} {a : Addr} {xs : List V} (e : Ex H H') (h : SqT K H a xs) : SqT K H' a xs := by
  rcases h with h | h
  · exact Or.inl (ex_rd e h)
  · exact Or.inr h

mutual
/-- v stands for x, the frozen part I, the cells at ρ -/
inductive RepV (G : Gm) (K : PySem.W.Frag) (I : Hp) (ρ : List Addr) : V → Val → Prop
  | non : RepV G K I ρ .non .non
  | bl (b : Bool) : RepV G K I ρ (.bl b) (.bl b)
  | int (i : Int) : RepV G K I ρ (.int i) (.int i)
  | str (s : Str) : RepV G K I ρ (.str s) (.str s)
  | tup {a : Addr} {xs : List V} {l : List Val} : SqT K I a xs → RepL G K I ρ xs l → RepV G K I ρ (.ref a) (.tup l)
  | lst {a : Addr} {xs : List V} {l : List Val} : I a = some (.lst xs) → RepL G K I ρ xs l → RepV G K I ρ (.ref a) (.lst l)
  | frl {a : Addr} {xs : List V} {l : List Val} : SqL K I a xs → RepL G K I ρ xs l → RepV G K I ρ (.ref a) (.frl l)
  | dic {a : Addr} {kvs : List (Key × V)} {l : List (Key × Val)} : I a = some (.dK kvs) → RepK G K I ρ kvs l → RepV G K I ρ (.ref a) (.dic l)
  | obj {a dx : Addr} {C : Nat} {gs : List (Str × V)} {fs : List (Nat × Val)} : I a = some (.ins (G.cl C) dx gs) → RepF G K I ρ gs fs → RepV G K I ρ (.ref a) (.obj C fs)
  | ref {a : Addr} {n : Nat} : ρ[n]? = some a → RepV G K I ρ (.ref a) (.ref n)
inductive RepL (G : Gm) (K : PySem.W.Frag) (I : Hp) (ρ : List Addr) : List V → List Val → Prop
  | nil : RepL G K I ρ [] []
  | cons {x : V} {v : Val} {xs : List V} {l : List Val} : RepV G K I ρ x v → RepL G K I ρ xs l → RepL G K I ρ (x :: xs) (v :: l)
inductive RepK (G : Gm) (K : PySem.W.Frag) (I : Hp) (ρ : List Addr) : List (Key × V) → List (Key × Val) → Prop
  | nil : RepK G K I ρ [] []
  | cons {k : Key} {x : V} {v : Val} {xs : List (Key × V)} {l : List (Key × Val)} : RepV G K I ρ x v → RepK G K I ρ xs l → RepK G K I ρ ((k, x) :: xs) ((k, v) :: l)
inductive RepF (G : Gm) (K : PySem.W.Frag) (I : Hp) (ρ : List Addr) : List (Str × V) → List (Nat × Val) → Prop
  | nil : RepF G K I ρ [] []
  | cons {k : Nat} {x : V} {v : Val} {xs : List (Str × V)} {l : List (Nat × Val)} : RepV G K I ρ x v → RepF G K I ρ xs l → RepF G K I ρ ((G.fl k, x) :: xs) ((k, v) :: l)
end

theorem pre_get {α : Type} {l l' : List α} {n : Nat} {a : α} (p : l <+: l') (h : l[n]? = some a) : l'[n]? = some a := by
  obtain ⟨t, rfl⟩ := p
  have hl : n < l.length := (List.getElem?_eq_some_iff.mp h).1
  rw [List.getElem?_append_left hl]
  exact h
section
variable {G : Gm} {K : PySem.W.Frag} {I I' : Hp} {ρ ρ' : List Addr}
mutual
theorem RepV.mono (e : Ex I I') (p : ρ <+: ρ') : ∀ {x : V} {v : Val}, RepV G K I ρ x v → RepV G K I' ρ' x v
  | _, _, .non => .non
  | _, _, .bl b => .bl b
  | _, _, .int i => .int i
  | _, _, .str s => .str s
  | _, _, .tup h r => .tup (ex_t e h) (RepL.mono e p r)
  | _, _, .lst h r => .lst (e _ _ h) (RepL.mono e p r)
  | _, _, .frl h r => .frl (ex_l e h) (RepL.mono e p r)
  | _, _, .dic h r => .dic (e _ _ h) (RepK.mono e p r)
  | _, _, .obj h r => .obj (e _ _ h) (RepF.mono e p r)
  | _, _, .ref h => .ref (pre_get p h)
theorem RepL.mono (e : Ex I I') (p : ρ <+: ρ') : ∀ {x : List V} {v : List Val}, RepL G K I ρ x v → RepL G K I' ρ' x v
  | _, _, .nil => .nil
  | _, _, .cons h r => .cons (RepV.mono e p h) (RepL.mono e p r)
theorem RepK.mono (e : Ex I I') (p : ρ <+: ρ') : ∀ {x : List (Key × V)} {v : List (Key × Val)}, RepK G K I ρ x v → RepK G K I' ρ' x v
  | _, _, .nil => .nil
  | _, _, .cons h r => .cons (RepV.mono e p h) (RepK.mono e p r)
theorem RepF.mono (e : Ex I I') (p : ρ <+: ρ') : ∀ {x : List (Str × V)} {v : List (Nat × Val)}, RepF G K I ρ x v → RepF G K I' ρ' x v
  | _, _, .nil => .nil
  | _, _, .cons h r => .cons (RepV.mono e p h) (RepF.mono e p r)
end
theorem RepL.length : ∀ {x : List V} {v : List Val}, RepL G K I ρ x v → x.length = v.length
  | _, _, .nil => rfl
  | _, _, .cons _ r => by rw [List.length_cons, List.length_cons, RepL.length r]
theorem RepL.get : ∀ {xs : List V} {l : List Val} {i : Nat} {v : Val}, RepL G K I ρ xs l → l[i]? = some v → ∃ x, xs[i]? = some x ∧ RepV G K I ρ x v
  | _, _, _, _, .nil, e => by simp at e
  | _, _, 0, _, .cons r _, e => by
    have e' : _ = _ := Option.some.inj e
    subst e'
    exact ⟨_, rfl, r⟩
  | _, _, i + 1, v, .cons _ t, e => by
    obtain ⟨x, h1, h2⟩ := RepL.get (i := i) (v := v) t (by simpa using e)
    exact ⟨x, by simpa using h1, h2⟩
theorem RepL.get' : ∀ {xs : List V} {l : List Val} {i : Nat} {x : V}, RepL G K I ρ xs l → xs[i]? = some x → ∃ v, l[i]? = some v ∧ RepV G K I ρ x v
  | _, _, _, _, .nil, e => by simp at e
  | _, _, 0, _, .cons r _, e => by
    have e' : _ = _ := Option.some.inj e
    subst e'
    exact ⟨_, rfl, r⟩
  | _, _, i + 1, x, .cons _ t, e => by
    obtain ⟨v, h1, h2⟩ := RepL.get' (i := i) (x := x) t (by simpa using e)
    exact ⟨v, by simpa using h1, h2⟩
theorem RepL.append : ∀ {xs ys : List V} {l m : List Val}, RepL G K I ρ xs l → RepL G K I ρ ys m → RepL G K I ρ (xs ++ ys) (l ++ m)
  | _, _, _, _, .nil, s => s
  | _, _, _, _, .cons r t, s => .cons r (RepL.append t s)
theorem RepL.set {x : V} {v : Val} (r : RepV G K I ρ x v) : ∀ {xs : List V} {l : List Val} (i : Nat), RepL G K I ρ xs l → RepL G K I ρ (xs.set i x) (l.set i v)
  | _, _, _, .nil => .nil
  | _, _, 0, .cons _ t => .cons r t
  | _, _, i + 1, .cons q t => .cons q (RepL.set r i t)
theorem RepL.take : ∀ {xs : List V} {l : List Val} (n : Nat), RepL G K I ρ xs l → RepL G K I ρ (xs.take n) (l.take n)
  | _, _, 0, _ => .nil
  | _, _, _ + 1, .nil => .nil
  | _, _, n + 1, .cons r t => .cons r (RepL.take n t)
theorem RepL.drop : ∀ {xs : List V} {l : List Val} (n : Nat), RepL G K I ρ xs l → RepL G K I ρ (xs.drop n) (l.drop n)
  | _, _, 0, r => r
  | _, _, _ + 1, .nil => .nil
  | _, _, n + 1, .cons _ t => RepL.drop n t

/-! ### cells, the heap, the frame -/
/-- the cell that stands at a -/
def CellOk (G : Gm) (K : PySem.W.Frag) (I : Hp) (ρ : List Addr) (H : Hp) (a : Addr) : Cell → Prop
  | .lst l => ∃ xs, H a = some (.lst xs) ∧ RepL G K I ρ xs l
  | .dic l => ∃ kvs, H a = some (.dK kvs) ∧ RepK G K I ρ kvs l
  | .ins C fs => ∃ dx gs, H a = some (.ins (G.cl C) dx gs) ∧ RepF G K I ρ gs fs
theorem CellOk.mono {H H' : Hp} {a : Addr} {c : Cell} (e : Ex I I') (p : ρ <+: ρ') (k : ∀ o, H a = some o → H' a = some o) (h : CellOk G K I ρ H a c) : CellOk G K I' ρ' H' a c := by
  cases c with
  | lst l => obtain ⟨xs, h1, h2⟩ := h; exact ⟨xs, k _ h1, h2.mono e p⟩
  | dic l => obtain ⟨xs, h1, h2⟩ := h; exact ⟨xs, k _ h1, h2.mono e p⟩
  | ins C fs => obtain ⟨dx, gs, h1, h2⟩ := h; exact ⟨dx, gs, k _ h1, h2.mono e p⟩
theorem CellOk.some {H : Hp} {a : Addr} {c : Cell} (h : CellOk G K I ρ H a c) : ∃ o, H a = some o := by
  cases c with
  | lst l => obtain ⟨xs, h1, h2⟩ := h; exact ⟨_, h1⟩
  | dic l => obtain ⟨xs, h1, h2⟩ := h; exact ⟨_, h1⟩
  | ins C fs => obtain ⟨dx, gs, h1, h2⟩ := h; exact ⟨_, h1⟩

/-- the addresses of the slots that own a cell -/
abbrev Own := List (Option Addr)
structure HpOk (G : Gm) (K : PySem.W.Frag) (I : Hp) (ρ : List Addr) (h : Hep) (H : Hp) : Prop where
  ex : Ex I H
  nd : ρ.Nodup
  len : ρ.length = h.length
  off : ∀ a ∈ ρ, I a = none
  cell : ∀ (n : Nat) (c : Cell) (a : Addr), h[n]? = some c → ρ[n]? = some a → CellOk G K I ρ H a c
/-- what is known of an exception: its fields -/
def ExOk (G : Gm) (K : PySem.W.Frag) (I : Hp) (ρ : List Addr) (H : Hp) (d : Option Addr) (fs : List (Nat × Val)) : Prop :=
  (fs = [] ∧ d = none) ∨ ∃ dd gs, d = some dd ∧ I dd = some (.xd gs) ∧ ∀ k v, fs.lookup k = some v → ∃ x, gs.lookup (G.fl k) = some x ∧ RepV G K I ρ x v

def SlotOk (G : Gm) (K : PySem.W.Frag) (I : Hp) (ρ : List Addr) (H : Hp) (o : Option Addr) (x : Option V) : Slot → Prop
  | .un => o = none
  | .va v => o = none ∧ ∃ y, x = some y ∧ RepV G K I ρ y v
  | .ow c => ∃ a, o = some a ∧ x = some (.ref a) ∧ CellOk G K I ρ H a c
  | .ex C fs => o = none ∧ ∃ a d, G.xa = some (a, C, d) ∧ x = some (.ref a) ∧ ExOk G K I ρ H d fs
structure EnvOk (G : Gm) (K : PySem.W.Frag) (I : Hp) (ρ : List Addr) (as : Own) (env : SEnv) (σ : St) (H : Hp) : Prop where
  l1 : as.length = env.length
  l2 : σ.length = env.length
  inj : ∀ (i j : Nat) (a : Addr), as[i]? = some (some a) → as[j]? = some (some a) → i = j
  off : ∀ a, some a ∈ as → I a = none ∧ a ∉ ρ
  slot : ∀ (i : Nat) (s : Slot) (o : Option Addr) (x : Option V), env[i]? = some s → as[i]? = some o → σ[i]? = some x → SlotOk G K I ρ H o x s
structure Good (G : Gm) (K : PySem.W.Frag) (I : Hp) (ρ : List Addr) (as : Own) (env : SEnv) (h : Hep) (σ : St) (H : Hp) : Prop where
  hp : HpOk G K I ρ h H
  env : EnvOk G K I ρ as env σ H
theorem ExOk.mono {H H' : Hp} {d : Option Addr} {fs : List (Nat × Val)} (e : Ex I I') (p : ρ <+: ρ') (h : ExOk G K I ρ H d fs) : ExOk G K I' ρ' H' d fs := by
  rcases h with h | ⟨dd, gs, h1, h2, h3⟩
  · exact .inl h
  · exact .inr ⟨dd, gs, h1, e _ _ h2, fun k v hv => let ⟨x, h4, h5⟩ := h3 k v hv; ⟨x, h4, h5.mono e p⟩⟩
/-- a step: the frozen part and the cells grow, what is none of ours stands -/
structure Go (I : Hp) (ρ : List Addr) (as : Own) (H : Hp) (I' : Hp) (ρ' : List Addr) (as' : Own) (H' : Hp) : Prop where
  ex : Ex I I'
  pre : ρ <+: ρ'
  fr : ∀ a o, H a = some o → I a = none → a ∉ ρ → some a ∉ as → H' a = some o ∧ I' a = none ∧ a ∉ ρ' ∧ some a ∉ as'
  dom : ∀ a o, H a = some o → ∃ o', H' a = some o'
theorem Go.refl {as : Own} {H : Hp} : Go I ρ as H I ρ as H := ⟨Ex.refl _, List.prefix_rfl, fun _ _ h i r s => ⟨h, i, r, s⟩, fun _ o h => ⟨o, h⟩⟩
theorem Go.trans {as as1 as2 : Own} {I1 I2 : Hp} {ρ1 ρ2 : List Addr} {H H1 H2 : Hp} (g : Go I ρ as H I1 ρ1 as1 H1) (k : Go I1 ρ1 as1 H1 I2 ρ2 as2 H2) : Go I ρ as H I2 ρ2 as2 H2 where
  ex := g.ex.trans k.ex
  pre := g.pre.trans k.pre
  fr := fun a o h i r s => by
    obtain ⟨h1, i1, r1, s1⟩ := g.fr a o h i r s
    exact k.fr a o h1 i1 r1 s1
  dom := fun a o h => by
    obtain ⟨o1, h1⟩ := g.dom a o h
    exact k.dom a o1 h1
/-- an operand: a value, or the cell that a slot owns -/
def RepX (G : Gm) (K : PySem.W.Frag) (I : Hp) (ρ : List Addr) (as : Own) (x : V) (v : Val) : Prop :=
  RepV G K I ρ x v ∨ ∃ i a, v = .loc i ∧ as[i]? = some (some a) ∧ x = .ref a
theorem RepX.mono {as : Own} {x : V} {v : Val} (e : Ex I I') (p : ρ <+: ρ') (h : RepX G K I ρ as x v) : RepX G K I' ρ' as x v := by
  rcases h with h | h
  · exact .inl (h.mono e p)
  · exact .inr h
/-! ### what is wanted behind an expression, a statement -/
/-- behind an expression -/
def PoE (G : Gm) (K : PySem.W.Frag) (W : WX) (Q : VK) (I : Hp) (ρ : List Addr) (as : Own) (env : SEnv) (σ : St) (H : Hp) : Re Val → Prop
  | .ok v h' => ∀ I' ρ' H' x, Go I ρ as H I' ρ' as H' → Good G K I' ρ' as env h' σ H' → RepX G K I' ρ' as x v → Q x H'
  | .exc C fs h' => ∀ I' ρ' H' d, Go I ρ as H I' ρ' as H' → Good G K I' ρ' as env h' σ H' → ExOk G K I' ρ' H' d fs → W (.ref (G.cl C)) d σ H'
  | .bad => False
/-- .. that makes a list -/
def PoL (G : Gm) (K : PySem.W.Frag) (W : WX) (Q : VK) (I : Hp) (ρ : List Addr) (as : Own) (env : SEnv) (σ : St) (H : Hp) : Re (List Val) → Prop
  | .ok l h' => ∀ I' ρ' H' p xs, Go I ρ as H I' ρ' as H' → Good G K I' ρ' as env h' σ H' → H p = none → H' p = some (.lst xs) → I' p = none → p ∉ ρ' → some p ∉ as → RepL G K I' ρ' xs l → Q (.ref p) H'
  | .exc C fs h' => ∀ I' ρ' H' d, Go I ρ as H I' ρ' as H' → Good G K I' ρ' as env h' σ H' → ExOk G K I' ρ' H' d fs → W (.ref (G.cl C)) d σ H'
  | .bad => False
/-- behind arguments -/
def PoA (G : Gm) (K : PySem.W.Frag) (W : WX) (Q : List V → Hp → Prop) (I : Hp) (ρ : List Addr) (as : Own) (env : SEnv) (σ : St) (H : Hp) : Re (List Val) → Prop
  | .ok l h' => ∀ I' ρ' H' xs, Go I ρ as H I' ρ' as H' → Good G K I' ρ' as env h' σ H' → RepL G K I' ρ' xs l → Q xs H'
  | .exc C fs h' => ∀ I' ρ' H' d, Go I ρ as H I' ρ' as H' → Good G K I' ρ' as env h' σ H' → ExOk G K I' ρ' H' d fs → W (.ref (G.cl C)) d σ H'
  | .bad => False
/-- behind a test -/
def PoT (G : Gm) (K : PySem.W.Frag) (W : WX) (Q : Bool → Hp → Prop) (I : Hp) (ρ : List Addr) (as : Own) (env : SEnv) (σ : St) (H : Hp) : Re Val → Prop
  | .ok (.bl b) h' => ∀ I' ρ' H', Go I ρ as H I' ρ' as H' → Good G K I' ρ' as env h' σ H' → Q b H'
  | .ok _ _ => False
  | .exc C fs h' => ∀ I' ρ' H' d, Go I ρ as H I' ρ' as H' → Good G K I' ρ' as env h' σ H' → ExOk G K I' ρ' H' d fs → W (.ref (G.cl C)) d σ H'
  | .bad => False
/-- behind a statement -/
def PoS (G : Gm) (K : PySem.W.Frag) (W : WX) (D : Ends) (I : Hp) (ρ : List Addr) (as : Own) (H : Hp) : SO → Prop
  | .nx e h' => ∀ I' ρ' as' σ' H', Go I ρ as H I' ρ' as' H' → Good G K I' ρ' as' e h' σ' H' → D.nx σ' H'
  | .rt v h' => ∀ I' ρ' as' H' x, Go I ρ as H I' ρ' as' H' → HpOk G K I' ρ' h' H' → RepV G K I' ρ' x v → D.rt x H'
  | .rc c h' => ∀ I' ρ' as' H' p, Go I ρ as H I' ρ' as' H' → HpOk G K I' ρ' h' H' → (H p = none ∨ some p ∈ as) → CellOk G K I' ρ' H' p c → I' p = none → p ∉ ρ' → some p ∉ as' → D.rt (.ref p) H'
  | .bk e h' => ∀ I' ρ' as' σ' H', Go I ρ as H I' ρ' as' H' → Good G K I' ρ' as' e h' σ' H' → D.bk σ' H'
  | .ct e h' => ∀ I' ρ' as' σ' H', Go I ρ as H I' ρ' as' H' → Good G K I' ρ' as' e h' σ' H' → D.ct σ' H'
  | .exc C fs e h' => ∀ I' ρ' as' σ' H' d, Go I ρ as H I' ρ' as' H' → Good G K I' ρ' as' e h' σ' H' → ExOk G K I' ρ' H' d fs → W (.ref (G.cl C)) d σ' H'
  | .bad => False

variable {W : WX} {as as' : Own} {env : SEnv} {σ : St} {H H' : Hp}
theorem PoE.go {Q : VK} {r : Re Val} (g : Go I ρ as H I' ρ' as H') (h : PoE G K W Q I ρ as env σ H r) : PoE G K W Q I' ρ' as env σ H' r := by
  cases r with
  | ok v h' => exact fun _ _ _ x k gd rp => h _ _ _ x (g.trans k) gd rp
  | exc C fs h' => exact fun _ _ _ d k gd rp => h _ _ _ d (g.trans k) gd rp
  | bad => exact h
theorem PoS.go {D : Ends} {r : SO} (g : Go I ρ as H I' ρ' as' H') (h : PoS G K W D I ρ as H r) : PoS G K W D I' ρ' as' H' r := by
  cases r with
  | nx e h' => exact fun _ _ _ _ _ k gd => h _ _ _ _ _ (g.trans k) gd
  | rt v h' => exact fun _ _ _ _ x k gd rp => h _ _ _ _ x (g.trans k) gd rp
  | rc c h' => exact fun I2 ρ2 as2 H2 p k gd hp hc i2 n2 s2 => h I2 ρ2 as2 H2 p (g.trans k) gd (by
      cases e : H p with
      | none => exact .inl rfl
      | some o =>
        by_cases s : some p ∈ as
        · exact .inr s
        · exfalso
          have iI : I p = none := by
            cases z : I p with
            | none => rfl
            | some u => rw [(g.ex.trans k.ex) _ _ z] at i2; cases i2
          have nI : p ∉ ρ := fun m => n2 ((g.pre.trans k.pre).subset m)
          obtain ⟨e', _, _, s'⟩ := g.fr p o e iI nI s
          rcases hp with hp | hp
          · rw [e'] at hp; cases hp
          · exact s' hp) hc i2 n2 s2
  | bk e h' => exact fun _ _ _ _ _ k gd => h _ _ _ _ _ (g.trans k) gd
  | ct e h' => exact fun _ _ _ _ _ k gd => h _ _ _ _ _ (g.trans k) gd
  | exc C fs e h' => exact fun _ _ _ _ _ d k gd rp => h _ _ _ _ _ d (g.trans k) gd rp
  | bad => exact h
end

/-! ### the judgements -/
def rdE (G : Gm) (K : PySem.W.Frag) (W : WX) (m : Ex1) : TE := fun σ H Q => ∃ I ρ as env h, Good G K I ρ as env h σ H ∧ PoE G K W Q I ρ as env σ H (m env h)
def rdL (G : Gm) (K : PySem.W.Frag) (W : WX) (m : ExL) : TE := fun σ H Q => ∃ I ρ as env h, Good G K I ρ as env h σ H ∧ PoL G K W Q I ρ as env σ H (m env h)
def rdA (G : Gm) (K : PySem.W.Frag) (W : WX) (m : ExL) : TA := fun σ H Q => ∃ I ρ as env h, Good G K I ρ as env h σ H ∧ PoA G K W Q I ρ as env σ H (m env h)
def rdT (G : Gm) (K : PySem.W.Frag) (W : WX) (m : Ex1) : TT := fun σ H Q => ∃ I ρ as env h, Good G K I ρ as env h σ H ∧ PoT G K W Q I ρ as env σ H (m env h)
def rdS (G : Gm) (K : PySem.W.Frag) (W : WX) (m : Stm) : TS := fun D σ H => ∃ I ρ as env h, Good G K I ρ as env h σ H ∧ PoS G K W D I ρ as H (m env h)
/-- e computes m; a list-making e; arguments; a test; a statement; a block -/
abbrev CE (G : Gm) (X : Cx) (W : WX) (e : Expr) (m : Ex1) : Prop := PE X e (rdE G X.K W m)
abbrev CL (G : Gm) (X : Cx) (W : WX) (e : Expr) (m : ExL) : Prop := PE X e (rdL G X.K W m)
abbrev CA (G : Gm) (X : Cx) (W : WX) (es : List Expr) (m : ExL) : Prop := PA X es (rdA G X.K W m)
abbrev CT (G : Gm) (X : Cx) (W : WX) (e : Expr) (m : Ex1) : Prop := PT X e (rdT G X.K W m)
abbrev CW (G : Gm) (X : Cx) (W : WX) (e : Expr) (m : Ex1) : Prop := PW X e (rdT G X.K W m)
abbrev CS (G : Gm) (X : Cx) (W : WX) (s : Stmt) (m : Stm) : Prop := PS X s (rdS G X.K W m)
abbrev CB (G : Gm) (X : Cx) (W : WX) (s : List Stmt) (m : Stm) : Prop := PSs X s (rdS G X.K W m)
theorem PE.imp {X : Cx} {e : Expr} {t t' : TE} (h : PE X e t) (k : ∀ σ H Q, t' σ H Q → t σ H Q) : PE X e t' := ⟨fun p s σ H Q I q => h.run p s σ H Q I (k _ _ _ q)⟩
theorem PT.imp {X : Cx} {e : Expr} {t t' : TT} (h : PT X e t) (k : ∀ σ H Q, t' σ H Q → t σ H Q) : PT X e t' := ⟨fun p s σ H Q I q => h.run p s σ H Q I (k _ _ _ q)⟩
theorem PW.imp {X : Cx} {e : Expr} {t t' : TT} (h : PW X e t) (k : ∀ σ H Q, t' σ H Q → t σ H Q) : PW X e t' := ⟨fun w p s σ H Q I q => h.run w p s σ H Q I (k _ _ _ q)⟩
theorem PA.imp {X : Cx} {e : List Expr} {t t' : TA} (h : PA X e t) (k : ∀ σ H Q, t' σ H Q → t σ H Q) : PA X e t' := ⟨fun w p s σ H Q I q => h.run w p s σ H Q I (k _ _ _ q)⟩
theorem PS.imp {X : Cx} {e : Stmt} {t t' : TS} (h : PS X e t) (k : ∀ D σ H, t' D σ H → t D σ H) : PS X e t' := ⟨fun p s σ H Q I q => h.run p s σ H Q I (k _ _ _ q)⟩
theorem PSs.imp {X : Cx} {e : List Stmt} {t t' : TS} (h : PSs X e t) (k : ∀ D σ H, t' D σ H → t D σ H) : PSs X e t' := ⟨fun p s σ H Q I q => h.run p s σ H Q I (k _ _ _ q)⟩
end Mi
namespace Mi
open PySem L2

/-! ### contents -/
/-- a list's items -/
def lstOf (env : SEnv) (h : Hep) : Val → Option (List Val)
  | .lst l => some l
  | .ref n => match h[n]? with | some (.lst l) => some l | _ => none
  | .loc i => match env[i]? with | some (.ow (.lst l)) => some l | _ => none
  | _ => none
def rlstOf (env : SEnv) (h : Hep) : Val → Option (List Val)
  | .frl l => some l
  | v => lstOf env h v
def tupOf : Val → Option (List Val)
  | .tup l => some l
  | _ => none
def seqOf (env : SEnv) (h : Hep) : Val → Option (List Val)
  | .tup l => some l
  | .frl l => some l
  | v => lstOf env h v
def dicOf (env : SEnv) (h : Hep) : Val → Option (List (Key × Val))
  | .dic l => some l
  | .ref n => match h[n]? with | some (.dic l) => some l | _ => none
  | .loc i => match env[i]? with | some (.ow (.dic l)) => some l | _ => none
  | _ => none
def insOf (h : Hep) : Val → Option (Nat × List (Nat × Val))
  | .obj C fs => some (C, fs)
  | .ref n => match h[n]? with | some (.ins C fs) => some (C, fs) | _ => none
  | _ => none
/-- a scalar -/
def scaV : Val → Option V
  | .non => some .non
  | .bl b => some (.bl b)
  | .int i => some (.int i)
  | .str s => some (.str s)
  | _ => none

section
variable {G : Gm} {K : PySem.W.Frag} {I : Hp} {ρ : List Addr} {as : Own} {env : SEnv} {h : Hep} {σ : St} {H : Hp} {x : V} {v : Val}
theorem HpOk.at (g : HpOk G K I ρ h H) {n : Nat} {c : Cell} {a : Addr} (e : h[n]? = some c) (r : ρ[n]? = some a) : CellOk G K I ρ H a c := g.cell n c a e r
theorem Good.own (g : Good G K I ρ as env h σ H) {i : Nat} {c : Cell} {a : Addr} (e : env[i]? = some (.ow c)) (r : as[i]? = some (some a)) : CellOk G K I ρ H a c := by
  have hl : i < σ.length := by
    rw [g.env.l2]
    exact (List.getElem?_eq_some_iff.mp e).1
  obtain ⟨b, e1, _, e2⟩ := g.env.slot i _ _ _ e r (List.getElem?_eq_getElem hl)
  cases e1
  exact e2
theorem lstOf_ok (g : Good G K I ρ as env h σ H) (r : RepX G K I ρ as x v) {l : List Val} (e : lstOf env h v = some l) : ∃ a xs, x = .ref a ∧ H a = some (.lst xs) ∧ RepL G K I ρ xs l := by
  rcases r with r | ⟨i, a, rfl, ha, rfl⟩
  · cases r <;> try (cases e; done)
    · rename_i a xs l' hs hr
      cases e
      exact ⟨a, xs, rfl, g.hp.ex _ _ hs, hr⟩
    · rename_i a n hn
      change (match h[n]? with | some (.lst l) => some l | _ => none) = some l at e
      split at e <;> try (cases e; done)
      rename_i l' hc
      cases e
      obtain ⟨xs, h1, h2⟩ := g.hp.at hc hn
      exact ⟨a, xs, rfl, h1, h2⟩
  · change (match env[i]? with | some (.ow (.lst l)) => some l | _ => none) = some l at e
    split at e <;> try (cases e; done)
    rename_i l' hc
    cases e
    obtain ⟨xs, h1, h2⟩ := g.own hc ha
    exact ⟨a, xs, rfl, h1, h2⟩
theorem rlstOf_ok (g : Good G K I ρ as env h σ H) (r : RepX G K I ρ as x v) {l : List Val} (e : rlstOf env h v = some l) : ∃ a xs, x = .ref a ∧ SqL K H a xs ∧ RepL G K I ρ xs l := by
  have go : lstOf env h v = some l → ∃ a xs, x = .ref a ∧ SqL K H a xs ∧ RepL G K I ρ xs l := fun q => by
    obtain ⟨a, xs, h1, h2, h3⟩ := lstOf_ok g r q
    exact ⟨a, xs, h1, SqL.of h2, h3⟩
  rcases r with r | r
  · cases r
    case frl a xs l' hs hr =>
      cases e
      exact ⟨a, xs, rfl, ex_l g.hp.ex hs, hr⟩
    all_goals exact go e
  · obtain ⟨i, a, rfl, ha, rfl⟩ := r
    exact go e
theorem tupOf_ok (g : Good G K I ρ as env h σ H) (r : RepX G K I ρ as x v) {l : List Val} (e : tupOf v = some l) : ∃ a xs, x = .ref a ∧ SqT K H a xs ∧ RepL G K I ρ xs l := by
  rcases r with r | ⟨i, a, rfl, ha, rfl⟩
  · cases r <;> try (cases e; done)
    rename_i a xs l' hs hr
    cases e
    exact ⟨a, xs, rfl, ex_t g.hp.ex hs, hr⟩
  · cases e
theorem seqOf_ok (g : Good G K I ρ as env h σ H) (r : RepX G K I ρ as x v) {l : List Val} (e : seqOf env h v = some l) : ∃ a xs, x = .ref a ∧ (SqL K H a xs ∨ SqT K H a xs) ∧ RepL G K I ρ xs l := by
  have go : rlstOf env h v = some l → ∃ a xs, x = .ref a ∧ (SqL K H a xs ∨ SqT K H a xs) ∧ RepL G K I ρ xs l := fun q => by
    obtain ⟨a, xs, h1, h2, h3⟩ := rlstOf_ok g r q
    exact ⟨a, xs, h1, .inl h2, h3⟩
  rcases r with r | r
  · cases r
    case tup a xs l' hs hr =>
      cases e
      exact ⟨a, xs, rfl, .inr (ex_t g.hp.ex hs), hr⟩
    all_goals exact go e
  · obtain ⟨i, a, rfl, ha, rfl⟩ := r
    exact go e
theorem dicOf_ok (g : Good G K I ρ as env h σ H) (r : RepX G K I ρ as x v) {l : List (Key × Val)} (e : dicOf env h v = some l) : ∃ a kvs, x = .ref a ∧ H a = some (.dK kvs) ∧ RepK G K I ρ kvs l := by
  rcases r with r | ⟨i, a, rfl, ha, rfl⟩
  · cases r <;> try (cases e; done)
    · rename_i a xs l' hs hr
      cases e
      exact ⟨a, xs, rfl, g.hp.ex _ _ hs, hr⟩
    · rename_i a n hn
      change (match h[n]? with | some (.dic l) => some l | _ => none) = some l at e
      split at e <;> try (cases e; done)
      rename_i l' hc
      cases e
      obtain ⟨xs, h1, h2⟩ := g.hp.at hc hn
      exact ⟨a, xs, rfl, h1, h2⟩
  · change (match env[i]? with | some (.ow (.dic l)) => some l | _ => none) = some l at e
    split at e <;> try (cases e; done)
    rename_i l' hc
    cases e
    obtain ⟨xs, h1, h2⟩ := g.own hc ha
    exact ⟨a, xs, rfl, h1, h2⟩
theorem insOf_ok (g : HpOk G K I ρ h H) (r : RepX G K I ρ as x v) {C : Nat} {fs : List (Nat × Val)} (e : insOf h v = some (C, fs)) : ∃ a dx gs, x = .ref a ∧ H a = some (.ins (G.cl C) dx gs) ∧ RepF G K I ρ gs fs := by
  rcases r with r | ⟨i, a, rfl, ha, rfl⟩
  · cases r <;> try (cases e; done)
    · rename_i a dx C' gs fs' hs hr
      cases e
      exact ⟨a, dx, gs, rfl, g.ex _ _ hs, hr⟩
    · rename_i a n hn
      change (match h[n]? with | some (.ins C fs) => some (C, fs) | _ => none) = some (C, fs) at e
      split at e <;> try (cases e; done)
      rename_i C' fs' hc
      cases e
      obtain ⟨dx, gs, h1, h2⟩ := g.at hc hn
      exact ⟨a, dx, gs, rfl, h1, h2⟩
  · cases e
theorem scaV_ok (r : RepX G K I ρ as x v) {y : V} (e : scaV v = some y) : x = y := by
  rcases r with r | ⟨i, a, rfl, ha, rfl⟩
  · cases r <;> first | (cases e; rfl) | cases e
  · cases e
theorem repV_of_sca {y : V} (e : scaV v = some y) : RepV G K I ρ y v := by
  cases v <;> first | (cases e; constructor) | cases e
theorem RepX.int {i : Int} (r : RepX G K I ρ as x (.int i)) : x = .int i := scaV_ok r rfl
theorem RepX.bl {b : Bool} (r : RepX G K I ρ as x (.bl b)) : x = .bl b := scaV_ok r rfl
theorem RepX.str {s : Str} (r : RepX G K I ρ as x (.str s)) : x = .str s := scaV_ok r rfl
theorem RepX.non (r : RepX G K I ρ as x .non) : x = .non := scaV_ok r rfl
/-- a value that is no owned cell -/
def clean : Val → Bool
  | .loc _ => false
  | _ => true
theorem RepX.cl (r : RepX G K I ρ as x v) (c : clean v = true) : RepV G K I ρ x v := by
  rcases r with r | ⟨i, a, rfl, ha, rfl⟩
  · exact r
  · cases c
end

/-! ### names, constants -/
def mVar (i : Nat) : Ex1 := fun env h => match env[i]? with
  | some (.va v) => .ok v h
  | some (.ow _) => .ok (.loc i) h
  | _ => .bad
def mC (v : Val) : Ex1 := fun _ h => .ok v h
section
variable {G : Gm} {X : Cx} {W : WX} {e a b c : Expr} {m m1 m2 m3 : Ex1} {pos : Pos}
theorem ce_var (i : Nat) {x : Str} (hN : X.N[i]? = some x := by rfl) (hv : Vis X.env.scope x := by first | exact Or.inl rfl | exact Or.inr (Or.inl rfl) | exact Or.inr (Or.inr rfl)) (hd : (x == ("__debug__" : Str)) = false := by decide)
    (hcd : (x == ("__classdict__" : Str)) = false := by decide) : CE G X W (.Name x pos) (mVar i) := by
  refine PE.imp (pe_var hN hv hd hcd) fun σ H Q ⟨I, ρ, as, env, h, g, q⟩ => ?_
  unfold mVar at q
  split at q
  · rename_i v hv
    have hl : i < env.length := (List.getElem?_eq_some_iff.mp hv).1
    have l1 : i < as.length := by rw [g.env.l1]; exact hl
    have l2 : i < σ.length := by rw [g.env.l2]; exact hl
    obtain ⟨_, y, e1, r⟩ := g.env.slot i _ _ _ hv (List.getElem?_eq_getElem l1) (List.getElem?_eq_getElem l2)
    exact ⟨y, by rw [List.getElem?_eq_getElem l2, e1], q I ρ H y Go.refl g (.inl r)⟩
  · rename_i c hv
    have hl : i < env.length := (List.getElem?_eq_some_iff.mp hv).1
    have l1 : i < as.length := by rw [g.env.l1]; exact hl
    have l2 : i < σ.length := by rw [g.env.l2]; exact hl
    obtain ⟨a, e0, e1, r⟩ := g.env.slot i _ _ _ hv (List.getElem?_eq_getElem l1) (List.getElem?_eq_getElem l2)
    exact ⟨.ref a, by rw [List.getElem?_eq_getElem l2, e1], q I ρ H _ Go.refl g (.inr ⟨i, a, rfl, by rw [List.getElem?_eq_getElem l1, e0], rfl⟩)⟩
  · exact q.elim
theorem ce_sca {v : Val} {y : V} (h : PE X e (tC y)) (hs : scaV v = some y) : CE G X W e (mC v) :=
  PE.imp h fun σ H Q ⟨I, ρ, as, env, h, g, q⟩ => q I ρ H y Go.refl g (.inl (repV_of_sca hs))
theorem ce_int {i j} : CE G X W (.Constant (.int i) j pos) (mC (.int i)) := ce_sca pe_int rfl
theorem ce_bl {i j} : CE G X W (.Constant (.bool i) j pos) (mC (.bl i)) := ce_sca pe_bl rfl
theorem ce_non {j} : CE G X W (.Constant .none j pos) (mC .non) := ce_sca pe_non rfl
theorem ce_str {i j} : CE G X W (.Constant (.str i) j pos) (mC (.str i)) := ce_sca pe_str rfl

/-! ### one and two operands -/
def Re.bind {α β : Type} (r : Re α) (f : α → Hep → Re β) : Re β := match r with
  | .ok v h => f v h
  | .exc C fs h => .exc C fs h
  | .bad => .bad
def reO {α : Type} (o : Option α) (h : Hep) : Re α := match o with
  | some v => .ok v h
  | none => .bad
abbrev Op2 := SEnv → Hep → Val → Val → Option Val
abbrev Op1 := SEnv → Hep → Val → Option Val
def mBin (f : Op2) (m1 m2 : Ex1) : Ex1 := fun env h => (m1 env h).bind fun v h1 => (m2 env h1).bind fun u h2 => reO (f env h2 v u) h2
def mUn (f : Op1) (m1 : Ex1) : Ex1 := fun env h => (m1 env h).bind fun v h1 => reO (f env h1 v) h1
/-- r, on values, does what f does -/
def Op2Ok (G : Gm) (K : PySem.W.Frag) (r : R2) (f : Op2) : Prop := ∀ {I : Hp} {ρ : List Addr} {as : Own} {env : SEnv} {h : Hep} {σ : St} {H : Hp} {x y : V} {v u w : Val} {Q : VK},
  Good G K I ρ as env h σ H → RepX G K I ρ as x v → RepX G K I ρ as y u → f env h v u = some w → (∀ z, RepX G K I ρ as z w → Q z H) → r x y H Q
def Op1Ok (G : Gm) (K : PySem.W.Frag) (r : V → Hp → VK → Prop) (f : Op1) : Prop := ∀ {I : Hp} {ρ : List Addr} {as : Own} {env : SEnv} {h : Hep} {σ : St} {H : Hp} {x : V} {v w : Val} {Q : VK},
  Good G K I ρ as env h σ H → RepX G K I ρ as x v → f env h v = some w → (∀ z, RepX G K I ρ as z w → Q z H) → r x H Q
theorem rd_bin {f : Op2} {r : R2} (hf : Op2Ok G X.K r f) {σ : St} {H : Hp} {Q : VK} (q : rdE G X.K W (mBin f m1 m2) σ H Q) : tOp r (rdE G X.K W m1) (rdE G X.K W m2) σ H Q := by
  obtain ⟨I, ρ, as, env, h, g, q⟩ := q
  refine ⟨I, ρ, as, env, h, g, ?_⟩
  unfold mBin at q
  cases e1 : m1 env h with
  | bad => rw [e1] at q; exact q
  | exc C fs h1 => rw [e1] at q; exact q
  | ok v h1 =>
    rw [e1] at q
    intro I1 ρ1 H1 x g1 d1 r1
    refine ⟨I1, ρ1, as, env, h1, d1, ?_⟩
    have q := PoE.go g1 q
    change PoE G X.K W Q I1 ρ1 as env σ H1 ((m2 env h1).bind fun u h2 => reO (f env h2 v u) h2) at q
    cases e2 : m2 env h1 with
    | bad => rw [e2] at q; exact q
    | exc C fs h2 => rw [e2] at q; exact q
    | ok u h2 =>
      rw [e2] at q
      intro I2 ρ2 H2 y g2 d2 r2
      have q := PoE.go g2 q
      change PoE G X.K W Q I2 ρ2 as env σ H2 (reO (f env h2 v u) h2) at q
      cases e3 : f env h2 v u with
      | none => rw [e3] at q; exact q.elim
      | some w =>
        rw [e3] at q
        exact hf d2 (r1.mono g2.ex g2.pre) r2 e3 fun z rz => q I2 ρ2 H2 z Go.refl d2 rz
theorem rd_un {f : Op1} {r : V → Hp → VK → Prop} (hf : Op1Ok G X.K r f) {σ : St} {H : Hp} {Q : VK} (q : rdE G X.K W (mUn f m1) σ H Q) : tUn r (rdE G X.K W m1) σ H Q := by
  obtain ⟨I, ρ, as, env, h, g, q⟩ := q
  refine ⟨I, ρ, as, env, h, g, ?_⟩
  unfold mUn at q
  cases e1 : m1 env h with
  | bad => rw [e1] at q; exact q
  | exc C fs h1 => rw [e1] at q; exact q
  | ok v h1 =>
    rw [e1] at q
    intro I1 ρ1 H1 x g1 d1 r1
    have q := PoE.go g1 q
    change PoE G X.K W Q I1 ρ1 as env σ H1 (reO (f env h1 v) h1) at q
    cases e3 : f env h1 v with
    | none => rw [e3] at q; exact q.elim
    | some w =>
      rw [e3] at q
      exact hf d1 r1 e3 fun z rz => q I1 ρ1 H1 z Go.refl d1 rz
/-- an operator whose operands are told apart by their values: either rule -/
theorem OpR.or {f : Value → Value → Sem Value} {r r' : R2} (h : OpR X f r) (h' : OpR X f r') : OpR X f (fun x y H Q => r x y H Q ∨ r' x y H Q) := by
  intro pins s σ H x y v u Q I rx ry q
  rcases q with q | q
  · exact h pins s σ H x y v u Q I rx ry q
  · exact h' pins s σ H x y v u Q I rx ry q
theorem ce_op {op : Operator} {r : R2} {f : Op2} (ho : OpR X (binaryOp op) r) (hf : Op2Ok G X.K r f) (ha : CE G X W a m1) (hb : CE G X W b m2) : CE G X W (.BinOp a op b pos) (mBin f m1 m2) := PE.imp (pe_op ho ha hb) fun _ _ _ q => rd_bin hf q
theorem ce_cmp {op : CmpOp} {r : R2} {f : Op2} (ho : OpR X (compareOp op) r) (hf : Op2Ok G X.K r f) (ha : CE G X W a m1) (hb : CE G X W b m2) (hm : behindInMarks op b = false := by first | exact nobehind _ (by decide) (by decide) | rfl) : CE G X W (.Compare a [op] [b] pos) (mBin f m1 m2) :=
  PE.imp (pe_cmpR ho ha hb hm) fun _ _ _ q => rd_bin hf q
theorem ce_un {op : UnaryOp} {r : V → Hp → VK → Prop} {f : Op1} (ho : UnR X (unaryOp op) r) (hf : Op1Ok G X.K r f) (ha : CE G X W a m1) : CE G X W (.UnaryOp op a pos) (mUn f m1) := PE.imp (pe_un ho ha) fun _ _ _ q => rd_un hf q
end

/-! ### arithmetic -/
def smx : Nat := 1000000
theorem smx_line {n : Nat} (h : n ≤ smx) : n ≤ sizeLine := Nat.le_trans h (by rw [sizeLine_eq]; decide)
def fAdd : Op2 := fun _ _ v u => match v, u with
  | .int i, .int j => some (.int (i + j))
  | .str s, .str t => if s.length + t.length ≤ smx then some (.str (s ++ t)) else none
  | _, _ => none
def fI (g : Int → Int → Int) : Op2 := fun _ _ v u => match v, u with
  | .int i, .int j => some (.int (g i j))
  | _, _ => none
def fIc (c : Int → Int → Bool) (g : Int → Int → Int) : Op2 := fun _ _ v u => match v, u with
  | .int i, .int j => if c i j then some (.int (g i j)) else none
  | _, _ => none
def fIb (g : Int → Int → Bool) : Op2 := fun _ _ v u => match v, u with
  | .int i, .int j => some (.bl (g i j))
  | _, _ => none
def fSub : Op2 := fI fun i j => i - j
def fMul : Op2 := fIc (fun i j => decide ((-(2 ^ 64) < i ∧ i < 2 ^ 64) ∨ (-(2 ^ 64) < j ∧ j < 2 ^ 64))) fun i j => i * j
def fMod : Op2 := fIc (fun _ j => decide (0 < j)) fun i j => i % j
def fDiv : Op2 := fIc (fun _ j => decide (0 < j) && decide (j < 1073741824)) fun i j => i / j
def fPow : Op2 := fIc (fun i j => decide (0 ≤ j) && decide (j ≤ 1000000) && decide (i.natAbs < 2 ^ 64)) fun i j => i ^ j.toNat
def fLt : Op2 := fIb fun i j => decide (i < j)
def fLe : Op2 := fIb fun i j => decide (i ≤ j)
def fGt : Op2 := fIb fun i j => decide (j < i)
def fGe : Op2 := fIb fun i j => decide (j ≤ i)
section
variable {G : Gm} {X : Cx}
theorem fAdd_ok {K : PySem.W.Frag} : Op2Ok G K (fun x y H Q => rI0 (fun i j => .int (i + j)) x y H Q ∨ (∃ i j, x = .str i ∧ y = .str j ∧ i.length + j.length ≤ sizeLine ∧ Q (.str (i ++ j)) H)) fAdd := by
  intro I ρ as env h σ H x y v u w Q g rx ry e q
  unfold fAdd at e
  split at e
  · cases e
    exact .inl ⟨_, _, rx.int, ry.int, q _ (.inl (.int _))⟩
  · split at e
    · rename_i hz
      cases e
      exact .inr ⟨_, _, rx.str, ry.str, smx_line hz, q _ (.inl (.str _))⟩
    · cases e
  · cases e
theorem op_addM : OpR X (binaryOp .Add) (fun x y H Q => rI0 (fun i j => .int (i + j)) x y H Q ∨ (∃ i j, x = .str i ∧ y = .str j ∧ i.length + j.length ≤ sizeLine ∧ Q (.str (i ++ j)) H)) := OpR.or op_add op_add_str
theorem fI_ok {K : PySem.W.Frag} {f : Int → Int → Int} : Op2Ok G K (rI0 fun i j => .int (f i j)) (fI f) := by
  intro I ρ as env h σ H x y v u w Q g rx ry e q
  unfold fI at e
  split at e
  · cases e
    exact ⟨_, _, rx.int, ry.int, q _ (.inl (.int _))⟩
  · cases e
theorem fIb_ok {K : PySem.W.Frag} {f : Int → Int → Bool} : Op2Ok G K (rI0 fun i j => .bl (f i j)) (fIb f) := by
  intro I ρ as env h σ H x y v u w Q g rx ry e q
  unfold fIb at e
  split at e
  · cases e
    exact ⟨_, _, rx.int, ry.int, q _ (.inl (.bl _))⟩
  · cases e
theorem fIc_ok {K : PySem.W.Frag} {c : Int → Int → Bool} {C : Int → Int → Prop} {f : Int → Int → Int} (hc : ∀ i j, c i j = true → C i j) : Op2Ok G K (rI C fun i j => .int (f i j)) (fIc c f) := by
  intro I ρ as env h σ H x y v u w Q g rx ry e q
  unfold fIc at e
  split at e
  · split at e
    · rename_i hh
      cases e
      exact ⟨_, _, rx.int, ry.int, hc _ _ hh, q _ (.inl (.int _))⟩
    · cases e
  · cases e
variable {W : WX} {e a b c : Expr} {m m1 m2 m3 : Ex1} {pos : Pos}
theorem ce_add (ha : CE G X W a m1) (hb : CE G X W b m2) : CE G X W (.BinOp a .Add b pos) (mBin fAdd m1 m2) := ce_op op_addM fAdd_ok ha hb
theorem ce_sub (ha : CE G X W a m1) (hb : CE G X W b m2) : CE G X W (.BinOp a .Sub b pos) (mBin fSub m1 m2) := ce_op op_sub fI_ok ha hb
theorem ce_mul (ha : CE G X W a m1) (hb : CE G X W b m2) : CE G X W (.BinOp a .Mult b pos) (mBin fMul m1 m2) := ce_op op_mul (fIc_ok fun i j hh => of_decide_eq_true hh) ha hb
theorem ce_mod (ha : CE G X W a m1) (hb : CE G X W b m2) : CE G X W (.BinOp a .Mod b pos) (mBin fMod m1 m2) := ce_op op_mod (fIc_ok fun i j hh => of_decide_eq_true hh) ha hb
theorem ce_div (ha : CE G X W a m1) (hb : CE G X W b m2) : CE G X W (.BinOp a .FloorDiv b pos) (mBin fDiv m1 m2) := ce_op op_fdiv (fIc_ok fun i j hh => by simpa [CDiv] using hh) ha hb
theorem ce_pow (ha : CE G X W a m1) (hb : CE G X W b m2) : CE G X W (.BinOp a .Pow b pos) (mBin fPow m1 m2) := ce_op op_pow (fIc_ok fun i j hh => by simpa [CPow, and_assoc] using hh) ha hb
theorem ce_lt (ha : CE G X W a m1) (hb : CE G X W b m2) : CE G X W (.Compare a [.Lt] [b] pos) (mBin fLt m1 m2) := ce_cmp op_lt fIb_ok ha hb
theorem ce_le (ha : CE G X W a m1) (hb : CE G X W b m2) : CE G X W (.Compare a [.LtE] [b] pos) (mBin fLe m1 m2) := ce_cmp op_le fIb_ok ha hb
theorem ce_gt (ha : CE G X W a m1) (hb : CE G X W b m2) : CE G X W (.Compare a [.Gt] [b] pos) (mBin fGt m1 m2) := ce_cmp op_gt fIb_ok ha hb
theorem ce_ge (ha : CE G X W a m1) (hb : CE G X W b m2) : CE G X W (.Compare a [.GtE] [b] pos) (mBin fGe m1 m2) := ce_cmp op_ge fIb_ok ha hb
end
def fNeg : Op1 := fun _ _ v => match v with | .int i => some (.int (-i)) | _ => none
end Mi
namespace Mi
open PySem L2

/-! ### == , in -/
mutual
def toPD : Val → Option PyData
  | .non => some .none
  | .bl b => some (.bool b)
  | .int i => some (.int i)
  | .str s => some (.str s)
  | .tup l => (toPDs l).map .tuple
  | .lst l => (toPDs l).map .list
  | _ => none
def toPDs : List Val → Option (List PyData)
  | [] => some []
  | v :: r => match toPD v, toPDs r with
    | some d, some ds => some (d :: ds)
    | _, _ => none
end
section
variable {G : Gm} {K : PySem.W.Frag} {I : Hp} {ρ : List Addr} {H : Hp}
mutual
theorem toPD_ok (e : Ex I H) : ∀ {x : V} {v : Val} {d : PyData}, RepV G K I ρ x v → toPD v = some d → Dp K H x d
  | _, _, _, .non, h => by cases h; exact .non
  | _, _, _, .bl b, h => by cases h; exact .bl b
  | _, _, _, .int i, h => by cases h; exact .int i
  | _, _, _, .str s, h => by cases h; exact .str s
  | _, _, _, .tup hs r, h => by
    unfold toPD at h
    obtain ⟨ds, h1, h2⟩ := Option.map_eq_some_iff.mp h
    subst h2
    exact .tup (ex_t e hs) (toPDs_ok e r h1)
  | _, _, _, .lst hs r, h => by
    unfold toPD at h
    obtain ⟨ds, h1, h2⟩ := Option.map_eq_some_iff.mp h
    subst h2
    exact .lst (SqL.of (e _ _ hs)) (toPDs_ok e r h1)
  | _, _, _, .frl hs r, h => by simp [toPD] at h
  | _, _, _, .dic hs r, h => by simp [toPD] at h
  | _, _, _, .obj hs r, h => by simp [toPD] at h
  | _, _, _, .ref hs, h => by simp [toPD] at h
theorem toPDs_ok (e : Ex I H) : ∀ {xs : List V} {l : List Val} {ds : List PyData}, RepL G K I ρ xs l → toPDs l = some ds → DpAll K H xs ds
  | _, _, _, .nil, h => by
    unfold toPDs at h
    cases h
    exact .nil
  | _, _, _, .cons r t, h => by
    unfold toPDs at h
    split at h
    · rename_i d ds h1 h2
      cases h
      exact .cons (toPD_ok e r h1) (toPDs_ok e t h2)
    · cases h
end
end
def veq (v u : Val) : Option Bool := match scaV v, scaV u with
  | some x, some y => if scal x y = true then some (decide (x = y)) else none
  | _, _ => match toPD v, toPD u with
    | some d, some e => if (SeqAt.shaped d && SeqAt.shaped e) = true then some (PyData.eqv d e) else none
    | _, _ => none
def fEq : Op2 := fun _ _ v u => (veq v u).map .bl
def fNe : Op2 := fun _ _ v u => (veq v u).map fun b => .bl (!b)
def scaL : List Val → Option (List V)
  | [] => some []
  | v :: r => match scaV v, scaL r with
    | some x, some xs => some (x :: xs)
    | _, _ => none
/-- x in c: c a list or tuple of scalars, a dict, a text -/
def vin (env : SEnv) (h : Hep) (v u : Val) : Option Bool := match seqOf env h u with
  | some l => match scaV v, scaL l with
    | some x, some xs => some (inV x xs)
    | _, _ => none
  | none => match dicOf env h u with
    | some kvs => match v with
      | .int i => some (valV (kvs) (.inl i)).isSome
      | .str s => some (valV kvs (.inr s)).isSome
      | _ => none
    | none => match v, u with
      | .str s, .str t => some (!(Builtin.Str.occurrences t s 0 t.length 1).isEmpty)
      | _, _ => none
where valV (kvs : List (Key × Val)) (k : Key) : Option Val := (kvs.find? fun kv => decide (kv.1 = k)).map (·.2)
def fIn : Op2 := fun env h v u => (vin env h v u).map .bl
def fNin : Op2 := fun env h v u => (vin env h v u).map fun b => .bl (!b)
/-- a dict's value at a key -/
abbrev dval (kvs : List (Key × Val)) (k : Key) : Option Val := vin.valV kvs k
def dput (kvs : List (Key × Val)) (k : Key) (v : Val) : List (Key × Val) :=
  if (kvs.any fun kv => decide (kv.1 = k)) = true then kvs.map (fun kv => if kv.1 = k then (kv.1, v) else kv) else kvs ++ [(k, v)]
def keyOf : Val → Option Key
  | .int i => some (.inl i)
  | .str s => some (.inr s)
  | _ => none
section
variable {G : Gm} {K : PySem.W.Frag} {I : Hp} {ρ : List Addr} {as : Own} {env : SEnv} {h : Hep} {σ : St} {H : Hp} {x : V} {v : Val}
theorem RepK.val : ∀ {kvs : List (Key × V)} {l : List (Key × Val)} (k : Key), RepK G K I ρ kvs l → (valV kvs k = none ∧ dval l k = none) ∨ ∃ x v, valV kvs k = some x ∧ dval l k = some v ∧ RepV G K I ρ x v
  | _, _, k, .nil => .inl ⟨rfl, rfl⟩
  | _, _, k, .cons (k := k') (x := x) (v := v) (xs := xs) (l := l) r t => by
    by_cases e : k' = k
    · exact .inr ⟨x, v, valV_pos (p := (k', x)) e, by simp [dval, vin.valV, List.find?_cons, e], r⟩
    · rcases RepK.val k t with ⟨h1, h2⟩ | ⟨y, u, h1, h2, h3⟩
      · exact .inl ⟨by rw [valV_neg (p := (k', x)) e, h1], by simpa [dval, vin.valV, List.find?_cons, e] using h2⟩
      · exact .inr ⟨y, u, by rw [valV_neg (p := (k', x)) e, h1], by simpa [dval, vin.valV, List.find?_cons, e] using h2, h3⟩
theorem RepK.any {kvs : List (Key × V)} {l : List (Key × Val)} (k : Key) (r : RepK G K I ρ kvs l) : (kvs.any fun kv => decide (kv.1 = k)) = (l.any fun kv => decide (kv.1 = k)) := by
  induction l generalizing kvs with
  | nil => cases r; rfl
  | cons p l ih => cases r with | cons r t => rw [List.any_cons, List.any_cons, ih t]
theorem RepK.put {x : V} {v : Val} (rx : RepV G K I ρ x v) {kvs : List (Key × V)} {l : List (Key × Val)} (k : Key) (r : RepK G K I ρ kvs l) : RepK G K I ρ (putK kvs k x) (dput l k v) := by
  unfold putK dput
  rw [r.any k]
  split
  · rename_i hh
    clear hh
    induction l generalizing kvs with
    | nil => cases r; exact .nil
    | cons p l ih =>
      cases r with
      | @cons k' y u xs _ r t =>
        rw [List.map_cons, List.map_cons]
        by_cases e : k' = k
        · simp only [e, if_true]
          exact .cons rx (ih t)
        · simp only [e, if_false]
          exact .cons r (ih t)
  · rename_i hh
    clear hh
    induction l generalizing kvs with
    | nil => cases r; exact .cons rx .nil
    | cons p l ih => cases r with | cons r t => exact .cons r (ih t)
theorem RepK.length : ∀ {kvs : List (Key × V)} {l : List (Key × Val)}, RepK G K I ρ kvs l → kvs.length = l.length
  | _, _, .nil => rfl
  | _, _, .cons _ r => by rw [List.length_cons, List.length_cons, RepK.length r]
theorem scaL_ok {xs : List V} {l : List Val} (r : RepL G K I ρ xs l) {ys : List V} (e : scaL l = some ys) : xs = ys := by
  induction l generalizing xs ys with
  | nil => cases r; cases e; rfl
  | cons v l ih =>
    cases r with
    | cons r t =>
      unfold scaL at e
      split at e
      · rename_i x zs h1 h2
        cases e
        rw [scaV_ok (as := []) (.inl r) h1, ih t h2]
      · cases e
theorem scaV_flat {y : V} (e : scaV v = some y) : flatV y = true := by
  cases v <;> first | (cases e; rfl) | cases e
theorem scaL_flat {l : List Val} {ys : List V} (e : scaL l = some ys) : ys.all flatV = true := by
  induction l generalizing ys with
  | nil => cases e; rfl
  | cons v l ih =>
    unfold scaL at e
    split at e
    · rename_i x zs h1 h2
      cases e
      rw [List.all_cons, scaV_flat h1, ih h2]; rfl
    · cases e
theorem keyOf_ok (r : RepX G K I ρ as x v) {k : Key} (e : keyOf v = some k) : x = kV k := by
  cases v <;> first | (cases e; exact scaV_ok r rfl) | cases e
end
abbrev rEqM (K : PySem.W.Frag) : R2 := fun x y H Q => rEq x y H Q ∨ rEqD K x y H Q
abbrev rNeM (K : PySem.W.Frag) : R2 := fun x y H Q => rNe x y H Q ∨ rNeD K x y H Q
def rDin (neg : Bool) : R2 := fun y x H Q => ∃ a o, x = .ref a ∧ DGet H a y o ∧ Q (.bl (if neg then !o.isSome else o.isSome)) H
abbrev rSin (neg : Bool) : R2 := fun x y H Q => ∃ i j, x = .str i ∧ y = .str j ∧ Q (.bl (if neg then !(!(Builtin.Str.occurrences j i 0 j.length 1).isEmpty) else !(Builtin.Str.occurrences j i 0 j.length 1).isEmpty)) H
abbrev rInM (K : PySem.W.Frag) (neg : Bool) : R2 := fun x y H Q => rIn K neg x y H Q ∨ (rDin neg x y H Q ∨ rSin neg x y H Q)
section
variable {G : Gm} {X : Cx} {W : WX} {e a b c : Expr} {m m1 m2 m3 : Ex1} {pos : Pos}
theorem veq_ok {K : PySem.W.Frag} {I : Hp} {ρ : List Addr} {as : Own} {env : SEnv} {h : Hep} {σ : St} {H : Hp} {x y : V} {v u : Val} {k : Bool} (g : Good G K I ρ as env h σ H) (rx : RepX G K I ρ as x v) (ry : RepX G K I ρ as y u) (e : veq v u = some k) :
    (scal x y = true ∧ k = decide (x = y)) ∨ ∃ d e, Dp K H x d ∧ Dp K H y e ∧ SeqAt.shaped d = true ∧ SeqAt.shaped e = true ∧ k = PyData.eqv d e := by
  unfold veq at e
  split at e
  · rename_i x' y' h1 h2
    split at e
    · rename_i hs
      cases e
      rw [scaV_ok rx h1, scaV_ok ry h2]
      exact .inl ⟨hs, rfl⟩
    · cases e
  · split at e
    · rename_i d e' h1 h2
      split at e
      · rename_i hs
        cases e
        rw [Bool.and_eq_true] at hs
        have c1 : clean v = true := by cases v <;> first | rfl | cases h1
        have c2 : clean u = true := by cases u <;> first | rfl | cases h2
        exact .inr ⟨d, e', toPD_ok g.hp.ex (rx.cl c1) h1, toPD_ok g.hp.ex (ry.cl c2) h2, hs.1, hs.2, rfl⟩
      · cases e
    · cases e
theorem fEq_ok {K : PySem.W.Frag} : Op2Ok G K (rEqM K) fEq := by
  intro I ρ as env h σ H x y v u w Q g rx ry e q
  obtain ⟨k, h1, h2⟩ := Option.map_eq_some_iff.mp e
  subst h2
  rcases veq_ok g rx ry h1 with ⟨hs, rfl⟩ | ⟨d, e, h3, h4, h5, h6, rfl⟩
  · exact .inl ⟨hs, q _ (.inl (.bl _))⟩
  · exact .inr ⟨d, _, h3, h4, h5, h6, q _ (.inl (.bl _))⟩
theorem fNe_ok {K : PySem.W.Frag} : Op2Ok G K (rNeM K) fNe := by
  intro I ρ as env h σ H x y v u w Q g rx ry e q
  obtain ⟨k, h1, h2⟩ := Option.map_eq_some_iff.mp e
  subst h2
  rcases veq_ok g rx ry h1 with ⟨hs, rfl⟩ | ⟨d, e, h3, h4, h5, h6, rfl⟩
  · exact .inl ⟨hs, q _ (.inl (.bl _))⟩
  · exact .inr ⟨d, _, h3, h4, h5, h6, q _ (.inl (.bl _))⟩
theorem ce_eq (hu : X.A.units + 64 < cLine) (ha : CE G X W a m1) (hb : CE G X W b m2) : CE G X W (.Compare a [.Eq] [b] pos) (mBin fEq m1 m2) := ce_cmp (OpR.or op_eq (op_eqD hu)) fEq_ok ha hb
theorem ce_ne (hu : X.A.units + 64 < cLine) (ha : CE G X W a m1) (hb : CE G X W b m2) : CE G X W (.Compare a [.NotEq] [b] pos) (mBin fNe m1 m2) := ce_cmp (OpR.or op_ne (op_neD hu)) fNe_ok ha hb
theorem op_din (hu : X.A.units + 64 < cLine) : OpR X (compareOp .In) (rDin false) := by
  intro pins s σ H y x u v Q I ry rx ⟨a, o, ex, g, q⟩
  subst ex
  obtain rfl : v = Value.ref a := rx
  exact d_in (by omega) I g ry fun s3 I3 => ⟨.bl o.isSome, H, I3, rfl, q⟩
theorem op_dnin (hu : X.A.units + 64 < cLine) : OpR X (compareOp .NotIn) (rDin true) := by
  intro pins s σ H y x u v Q I ry rx ⟨a, o, ex, g, q⟩
  subst ex
  obtain rfl : v = Value.ref a := rx
  exact d_notIn (by omega) I g ry fun s3 I3 => ⟨.bl (!o.isSome), H, I3, rfl, q⟩
theorem vin_ok {K : PySem.W.Frag} (neg : Bool) {I : Hp} {ρ : List Addr} {as : Own} {env : SEnv} {h : Hep} {σ : St} {H : Hp} {x y : V} {v u : Val} {k : Bool} {Q : VK} (g : Good G K I ρ as env h σ H) (rx : RepX G K I ρ as x v) (ry : RepX G K I ρ as y u) (e : vin env h v u = some k)
    (q : Q (.bl (if neg then !k else k)) H) : rInM K neg x y H Q := by
  unfold vin at e
  split at e
  · rename_i l hl
    split at e
    · rename_i x' xs h1 h2
      cases e
      obtain ⟨p, ys, rfl, hq, r⟩ := seqOf_ok g ry hl
      have e2 := scaL_ok r h2
      subst e2
      rw [scaV_ok rx h1]
      exact .inl ⟨p, _, rfl, hq, scaV_flat h1, scaL_flat h2, q⟩
    · cases e
  · split at e
    · rename_i kvs hl
      obtain ⟨p, ys, rfl, hq, r⟩ := dicOf_ok g ry hl
      split at e
      · rename_i i
        cases e
        rw [rx.int]
        refine .inr (.inl ⟨p, _, rfl, DGet.k (k := .inl i) hq, ?_⟩)
        rcases r.val (.inl i) with ⟨h1, h2⟩ | ⟨a, b, h1, h2, _⟩ <;> (rw [h1]; simp only [dval] at h2; rw [h2] at q; exact q)
      · rename_i s
        cases e
        rw [rx.str]
        refine .inr (.inl ⟨p, _, rfl, DGet.k (k := .inr s) hq, ?_⟩)
        rcases r.val (.inr s) with ⟨h1, h2⟩ | ⟨a, b, h1, h2, _⟩ <;> (rw [h1]; simp only [dval] at h2; rw [h2] at q; exact q)
      · cases e
    · split at e
      · cases e
        exact .inr (.inr ⟨_, _, rx.str, ry.str, q⟩)
      · cases e
theorem fIn_ok {K : PySem.W.Frag} : Op2Ok G K (rInM K false) fIn := by
  intro I ρ as env h σ H x y v u w Q g rx ry e q
  obtain ⟨k, h1, h2⟩ := Option.map_eq_some_iff.mp e
  subst h2
  exact vin_ok false g rx ry h1 (q _ (.inl (.bl _)))
theorem fNin_ok {K : PySem.W.Frag} : Op2Ok G K (rInM K true) fNin := by
  intro I ρ as env h σ H x y v u w Q g rx ry e q
  obtain ⟨k, h1, h2⟩ := Option.map_eq_some_iff.mp e
  subst h2
  exact vin_ok true g rx ry h1 (q _ (.inl (.bl _)))
theorem ce_in (hu : X.A.units + 64 < cLine) (ha : CE G X W a m1) (hb : CE G X W b m2) (hm : behindInMarks .In b = false := by rfl) : CE G X W (.Compare a [.In] [b] pos) (mBin fIn m1 m2) :=
  ce_cmp (OpR.or op_in_seq (OpR.or (op_din hu) op_in_str)) fIn_ok ha hb hm
theorem ce_nin (hu : X.A.units + 64 < cLine) (ha : CE G X W a m1) (hb : CE G X W b m2) (hm : behindInMarks .NotIn b = false := by rfl) : CE G X W (.Compare a [.NotIn] [b] pos) (mBin fNin m1 m2) :=
  ce_cmp (OpR.or op_notIn_seq (OpR.or (op_dnin hu) op_notin_str)) fNin_ok ha hb hm
/-- is None -/
def isN : Val → Bool
  | .non => true
  | _ => false
def fIsN : Op1 := fun _ _ v => some (.bl (isN v))
def fNotN : Op1 := fun _ _ v => some (.bl (!isN v))
theorem isN_ok {K : PySem.W.Frag} {I : Hp} {ρ : List Addr} {as : Own} {x : V} {v : Val} (r : RepX G K I ρ as x v) : decide (x = .non) = isN v := by
  rcases r with r | ⟨i, a, rfl, ha, rfl⟩
  · cases r <;> simp [isN]
  · simp [isN]
theorem ce_isN {j pos'} (ha : CE G X W a m1) : CE G X W (.Compare a [.Is] [.Constant .none j pos'] pos) (mUn fIsN m1) :=
  PE.imp (pe_cmp (pc_isN ha)) fun σ H Q q => rd_un (r := fun x H Q => Q (.bl (decide (x = .non))) H) (fun g rx e q => by
    cases e
    rw [isN_ok rx]
    exact q _ (.inl (.bl _))) q
theorem ce_notN {j pos'} (ha : CE G X W a m1) : CE G X W (.Compare a [.IsNot] [.Constant .none j pos'] pos) (mUn fNotN m1) :=
  PE.imp (pe_cmp (pc_notN ha)) fun σ H Q q => rd_un (r := fun x H Q => Q (.bl (!decide (x = .non))) H) (fun g rx e q => by
    cases e
    rw [isN_ok rx]
    exact q _ (.inl (.bl _))) q
end
end Mi
namespace Mi
open PySem L2

/-! ### the heap grows -/
section
variable {G : Gm} {K : PySem.W.Frag} {I I' I0 : Hp} {ρ ρ' ρ0 : List Addr} {as as' as0 : Own} {env : SEnv} {h h' : Hep} {σ : St} {H H' H0 : Hp} {p : Addr} {o : HO}
theorem HpOk.there (g : HpOk G K I ρ h H) {a : Addr} (ha : a ∈ ρ) : ∃ o, H a = some o := by
  obtain ⟨n, hn⟩ := List.mem_iff_getElem?.mp ha
  have hl : n < h.length := by
    rw [← g.len]
    exact (List.getElem?_eq_some_iff.mp hn).1
  exact (g.at (List.getElem?_eq_getElem hl) hn).some
theorem EnvOk.there (g : EnvOk G K I ρ as env σ H) {a : Addr} (ha : some a ∈ as) : ∃ o, H a = some o := by
  obtain ⟨n, hn⟩ := List.mem_iff_getElem?.mp ha
  have hl : n < as.length := (List.getElem?_eq_some_iff.mp hn).1
  have l1 : n < env.length := by rw [← g.l1]; exact hl
  have l2 : n < σ.length := by rw [g.l2]; exact l1
  have q := g.slot n _ _ _ (List.getElem?_eq_getElem l1) hn (List.getElem?_eq_getElem l2)
  cases e : env[n] with
  | un => rw [e] at q; cases (show some a = none from q)
  | va v => rw [e] at q; cases (show some a = none from q.1)
  | ow c =>
    rw [e] at q
    obtain ⟨b, e1, _, e2⟩ := q
    cases e1
    exact e2.some
  | ex C fs => rw [e] at q; cases (show some a = none from q.1)
theorem HpOk.fr (g : HpOk G K I ρ h H) (hp : H p = none) : I p = none := by
  cases e : I p with
  | none => rfl
  | some o => rw [g.ex _ _ e] at hp; cases hp
theorem HpOk.nin (g : HpOk G K I ρ h H) (hp : H p = none) : p ∉ ρ := fun ha => by
  obtain ⟨o, e⟩ := g.there ha
  rw [e] at hp; cases hp
theorem EnvOk.nin (g : EnvOk G K I ρ as env σ H) (hp : H p = none) : some p ∉ as := fun ha => by
  obtain ⟨o, e⟩ := g.there ha
  rw [e] at hp; cases hp
theorem HpOk.mono (g : HpOk G K I ρ h H) (e : Ex I I') (e2 : Ex I' H') (off : ∀ a ∈ ρ, I' a = none) (k : ∀ a ∈ ρ, ∀ o, H a = some o → H' a = some o) : HpOk G K I' ρ h H' :=
  ⟨e2, g.nd, g.len, off, fun n c a hc ha => (g.cell n c a hc ha).mono e List.prefix_rfl (k a (List.mem_of_getElem? ha))⟩
theorem SlotOk.mono {ow : Option Addr} {x : Option V} {s : Slot} (e : Ex I I') (q : ρ <+: ρ') (k : ∀ a, ow = some a → ∀ o, H a = some o → H' a = some o) (g : SlotOk G K I ρ H ow x s) : SlotOk G K I' ρ' H' ow x s := by
  cases s with
  | un => exact g
  | va v => obtain ⟨h1, y, h2, h3⟩ := g; exact ⟨h1, y, h2, h3.mono e q⟩
  | ow c => obtain ⟨a, h1, h2, h3⟩ := g; exact ⟨a, h1, h2, h3.mono e q (k a h1)⟩
  | ex C fs => obtain ⟨h1, a, d, h2, h3, h4⟩ := g; exact ⟨h1, a, d, h2, h3, h4.mono e q⟩
theorem EnvOk.mono (g : EnvOk G K I ρ as env σ H) (e : Ex I I') (q : ρ <+: ρ') (off : ∀ a, some a ∈ as → I' a = none ∧ a ∉ ρ') (k : ∀ a, some a ∈ as → ∀ o, H a = some o → H' a = some o) : EnvOk G K I' ρ' as env σ H' :=
  ⟨g.l1, g.l2, g.inj, off, fun i s o x h1 h2 h3 => (g.slot i s o x h1 h2 h3).mono e q fun a ea => k a (by rw [← ea]; exact List.mem_of_getElem? h2)⟩
/-- a new object is laid; it is frozen at once -/
theorem Good.new (g : Good G K I ρ as env h σ H) (hp : H p = none) : Good G K (upd I p o) ρ as env h σ (upd H p o) := by
  have e1 : Ex I (upd I p o) := Ex.new (g.hp.fr hp)
  have ne : ∀ {a : Addr}, a ∈ ρ → a ≠ p := fun ha z => g.hp.nin hp (z ▸ ha)
  have ns : ∀ {a : Addr}, some a ∈ as → a ≠ p := fun ha z => g.env.nin hp (z ▸ ha)
  refine ⟨g.hp.mono e1 ?_ (fun a ha => by rw [upd_ne (ne ha)]; exact g.hp.off a ha) fun a ha o e => by rw [upd_ne (ne ha)]; exact e,
    g.env.mono e1 List.prefix_rfl (fun a ha => ⟨by rw [upd_ne (ns ha)]; exact (g.env.off a ha).1, (g.env.off a ha).2⟩) fun a ha o e => by rw [upd_ne (ns ha)]; exact e⟩
  intro a u e
  by_cases z : a = p
  · subst z
    rw [upd_same] at e ⊢
    exact e
  · rw [upd_ne z] at e ⊢
    exact g.hp.ex _ _ e
theorem Go.new (g : Good G K I ρ as env h σ H) (hp : H p = none) : Go I ρ as H (upd I p o) ρ as (upd H p o) where
  ex := Ex.new (g.hp.fr hp)
  pre := List.prefix_rfl
  fr := fun a u e i r s => by
    have z : a ≠ p := ne_of_none e hp
    exact ⟨by rw [upd_ne z]; exact e, by rw [upd_ne z]; exact i, r, s⟩
  dom := fun a u e => ⟨u, by rw [upd_ne (ne_of_none e hp)]; exact e⟩
/-- .. it is left loose -/
theorem Good.loose (g : Good G K I ρ as env h σ H) (hp : H p = none) : Good G K I ρ as env h σ (upd H p o) := by
  have ne : ∀ {a : Addr}, a ∈ ρ → a ≠ p := fun ha z => g.hp.nin hp (z ▸ ha)
  have ns : ∀ {a : Addr}, some a ∈ as → a ≠ p := fun ha z => g.env.nin hp (z ▸ ha)
  exact ⟨g.hp.mono (Ex.refl _) (g.hp.ex.trans (Ex.new hp)) g.hp.off fun a ha o e => by rw [upd_ne (ne ha)]; exact e,
    g.env.mono (Ex.refl _) List.prefix_rfl g.env.off fun a ha o e => by rw [upd_ne (ns ha)]; exact e⟩
theorem Go.loose (g : Good G K I ρ as env h σ H) (hp : H p = none) : Go I ρ as H I ρ as (upd H p o) where
  ex := Ex.refl _
  pre := List.prefix_rfl
  fr := fun a u e i r s => ⟨by rw [upd_ne (ne_of_none e hp)]; exact e, i, r, s⟩
  dom := fun a u e => ⟨u, by rw [upd_ne (ne_of_none e hp)]; exact e⟩
/-- a loose object is frozen -/
theorem Good.freeze (g : Good G K I ρ as env h σ H) (hp : H p = some o) (h1 : I p = none) (h2 : p ∉ ρ) (h3 : some p ∉ as) : Good G K (upd I p o) ρ as env h σ H := by
  have e1 : Ex I (upd I p o) := Ex.new h1
  have ne : ∀ {a : Addr}, a ∈ ρ → a ≠ p := fun ha z => h2 (z ▸ ha)
  have ns : ∀ {a : Addr}, some a ∈ as → a ≠ p := fun ha z => h3 (z ▸ ha)
  refine ⟨g.hp.mono e1 ?_ (fun a ha => by rw [upd_ne (ne ha)]; exact g.hp.off a ha) fun a ha o e => e,
    g.env.mono e1 List.prefix_rfl (fun a ha => ⟨by rw [upd_ne (ns ha)]; exact (g.env.off a ha).1, (g.env.off a ha).2⟩) fun a ha o e => e⟩
  intro a u e
  by_cases z : a = p
  · subst z
    rw [upd_same] at e
    rw [hp]; exact e
  · rw [upd_ne z] at e
    exact g.hp.ex _ _ e
theorem Go.freeze (g : Go I0 ρ0 as0 H0 I ρ as H) (hp : H0 p = none) (h1 : I p = none) : Go I0 ρ0 as0 H0 (upd I p o) ρ as H where
  ex := g.ex.trans (Ex.new h1)
  pre := g.pre
  fr := fun a u e i r s => by
    obtain ⟨e1, e2, e3, e4⟩ := g.fr a u e i r s
    exact ⟨e1, by rw [upd_ne (ne_of_none e hp)]; exact e2, e3, e4⟩
  dom := g.dom
/-- a loose object becomes a cell -/
theorem Good.cell {c : Cell} (g : Good G K I ρ as env h σ H) (h1 : I p = none) (h2 : p ∉ ρ) (h3 : some p ∉ as) (hc : CellOk G K I ρ H p c) : Good G K I (ρ ++ [p]) as env (h ++ [c]) σ H := by
  have pr : ρ <+: ρ ++ [p] := List.prefix_append _ _
  refine ⟨⟨g.hp.ex, ?_, by rw [List.length_append, List.length_append, g.hp.len]; rfl, fun a ha => ?_, fun n d a hd ha => ?_⟩, g.env.mono (Ex.refl _) pr (fun a ha => ⟨(g.env.off a ha).1, fun hm => ?_⟩) fun a ha o e => e⟩
  · rw [List.nodup_append]
    exact ⟨g.hp.nd, by simp, fun a ha b hb z => by
      have : b = p := by simpa using hb
      exact h2 (this ▸ z ▸ ha)⟩
  · rcases List.mem_append.mp ha with ha | ha
    · exact g.hp.off a ha
    · have : a = p := by simpa using ha
      rw [this]; exact h1
  · by_cases hn : n < ρ.length
    · rw [List.getElem?_append_left hn] at ha
      rw [List.getElem?_append_left (by rw [← g.hp.len]; exact hn)] at hd
      exact (g.hp.cell n d a hd ha).mono (Ex.refl _) pr fun _ e => e
    · rw [List.getElem?_append_right (by omega)] at ha
      rw [List.getElem?_append_right (by rw [← g.hp.len]; omega), ← g.hp.len] at hd
      have hz : n - ρ.length = 0 := by
        have := (List.getElem?_eq_some_iff.mp ha).1
        simp at this; omega
      rw [hz] at ha hd
      have e1 : p = a := by simpa using ha
      have e2 : c = d := by simpa using hd
      subst e1; subst e2
      exact hc.mono (Ex.refl _) pr fun _ e => e
  · rcases List.mem_append.mp hm with hm | hm
    · exact (g.env.off a ha).2 hm
    · have : a = p := by simpa using hm
      exact h3 (this ▸ ha)
theorem Go.cell (g : Go I0 ρ0 as0 H0 I ρ as H) (hp : H0 p = none) : Go I0 ρ0 as0 H0 I (ρ ++ [p]) as H where
  ex := g.ex
  pre := g.pre.trans (List.prefix_append _ _)
  fr := fun a u e i r s => by
    obtain ⟨e1, e2, e3, e4⟩ := g.fr a u e i r s
    refine ⟨e1, e2, fun hm => ?_, e4⟩
    rcases List.mem_append.mp hm with hm | hm
    · exact e3 hm
    · have : a = p := by simpa using hm
      exact ne_of_none e hp this
  dom := g.dom
/-- behind a callee -/
theorem Go.framed (g : Good G K I ρ as env h σ H) (k : Go I ρ [] H I' ρ' [] H') (x : HpOk G K I' ρ' h' H') : Go I ρ as H I' ρ' as H' ∧ Good G K I' ρ' as env h' σ H' := by
  have fa : ∀ a, some a ∈ as → ∀ o, H a = some o → H' a = some o ∧ I' a = none ∧ a ∉ ρ' := fun a ha o e => by
    obtain ⟨i, r⟩ := g.env.off a ha
    obtain ⟨e1, e2, e3, _⟩ := k.fr a o e i r (by simp)
    exact ⟨e1, e2, e3⟩
  refine ⟨⟨k.ex, k.pre, fun a u e i r s => ?_, k.dom⟩, x, g.env.mono k.ex k.pre (fun a ha => ?_) fun a ha o e => (fa a ha o e).1⟩
  · obtain ⟨e1, e2, e3, _⟩ := k.fr a u e i r (by simp)
    exact ⟨e1, e2, e3, s⟩
  · obtain ⟨o, e⟩ := g.env.there ha
    exact (fa a ha o e).2
end

/-! ### arguments, displays -/
def mNil : ExL := fun _ h => .ok [] h
def mCons (m : Ex1) (ms : ExL) : ExL := fun env h => (m env h).bind fun v h1 => if clean v then (ms env h1).bind fun vs h2 => .ok (v :: vs) h2 else .bad
def mTup (ms : ExL) : Ex1 := fun env h => (ms env h).bind fun vs h1 => if vs.length ≤ smx then .ok (.tup vs) h1 else .bad
def mLst (ms : ExL) : ExL := fun env h => (ms env h).bind fun vs h1 => if vs.length ≤ smx then .ok vs h1 else .bad
/-- a new list, frozen; a new list, a cell -/
def mFrz (m : ExL) : Ex1 := fun env h => (m env h).bind fun l h1 => .ok (.lst l) h1
def mCel (m : ExL) : Ex1 := fun env h => (m env h).bind fun l h1 => .ok (.ref h1.length) (h1 ++ [.lst l])
section
variable {G : Gm} {X : Cx} {W : WX} {e a b c : Expr} {es : List Expr} {m m1 m2 m3 : Ex1} {ms ml : ExL} {pos : Pos}
theorem ca_nil : CA G X W [] mNil := PA.imp pa_nil fun σ H Q ⟨I, ρ, as, env, h, g, q⟩ => q I ρ H [] Go.refl g .nil
theorem PoL.go {K : PySem.W.Frag} {I I' : Hp} {ρ ρ' : List Addr} {as : Own} {env : SEnv} {σ : St} {H H' : Hp} {Q : VK} {r : Re (List Val)} (g : Go I ρ as H I' ρ' as H') (h : PoL G K W Q I ρ as env σ H r) : PoL G K W Q I' ρ' as env σ H' r := by
  cases r with
  | ok v h' => exact fun _ _ _ p xs k gd hp => h _ _ _ p xs (g.trans k) gd (by
      cases e : H p with
      | none => rfl
      | some o => obtain ⟨o', e'⟩ := g.dom p o e; rw [e'] at hp; cases hp)
  | exc C fs h' => exact fun _ _ _ d k gd rp => h _ _ _ d (g.trans k) gd rp
  | bad => exact h
theorem PoA.go {K : PySem.W.Frag} {I I' : Hp} {ρ ρ' : List Addr} {as : Own} {env : SEnv} {σ : St} {H H' : Hp} {Q : List V → Hp → Prop} {r : Re (List Val)} (g : Go I ρ as H I' ρ' as H') (h : PoA G K W Q I ρ as env σ H r) : PoA G K W Q I' ρ' as env σ H' r := by
  cases r with
  | ok v h' => exact fun _ _ _ x k gd rp => h _ _ _ x (g.trans k) gd rp
  | exc C fs h' => exact fun _ _ _ d k gd rp => h _ _ _ d (g.trans k) gd rp
  | bad => exact h
theorem PoT.go {K : PySem.W.Frag} {I I' : Hp} {ρ ρ' : List Addr} {as : Own} {env : SEnv} {σ : St} {H H' : Hp} {Q : Bool → Hp → Prop} {r : Re Val} (g : Go I ρ as H I' ρ' as H') (h : PoT G K W Q I ρ as env σ H r) : PoT G K W Q I' ρ' as env σ H' r := by
  cases r with
  | ok v h' =>
    cases v <;> first | exact h.elim | exact fun _ _ _ k gd => h _ _ _ (g.trans k) gd
  | exc C fs h' => exact fun _ _ _ d k gd rp => h _ _ _ d (g.trans k) gd rp
  | bad => exact h
theorem ca_cons (ha : CE G X W e m) (hr : CA G X W es ms) (hs : starEach (e :: es) X.env = (false, eval e X.env) :: starEach es X.env := by rfl) : CA G X W (e :: es) (mCons m ms) := by
  refine PA.imp (pa_cons ha hr hs) fun σ H Q ⟨I, ρ, as, env, h, g, q⟩ => ?_
  refine ⟨I, ρ, as, env, h, g, ?_⟩
  unfold mCons at q
  cases e1 : m env h with
  | bad => rw [e1] at q; exact q
  | exc C fs h1 => rw [e1] at q; exact q
  | ok v h1 =>
    rw [e1] at q
    change PoA G X.K W Q I ρ as env σ H (if clean v then (ms env h1).bind fun vs h2 => .ok (v :: vs) h2 else .bad) at q
    intro I1 ρ1 H1 x g1 d1 r1
    have q := PoA.go g1 q
    refine ⟨I1, ρ1, as, env, h1, d1, ?_⟩
    by_cases hc : clean v = true
    · rw [if_pos hc] at q
      cases e2 : ms env h1 with
      | bad => rw [e2] at q; exact q
      | exc C fs h2 => rw [e2] at q; exact q
      | ok vs h2 =>
        rw [e2] at q
        intro I2 ρ2 H2 xs g2 d2 r2
        exact q I2 ρ2 H2 _ g2 d2 (.cons ((r1.cl hc).mono g2.ex g2.pre) r2)
    · rw [if_neg hc] at q
      exact q.elim
theorem ce_tup {x1} (h : CA G X W es ms) : CE G X W (.Tuple es x1 pos) (mTup ms) := by
  refine PE.imp (pe_tup h) fun σ H Q ⟨I, ρ, as, env, h, g, q⟩ => ?_
  refine ⟨I, ρ, as, env, h, g, ?_⟩
  unfold mTup at q
  cases e1 : ms env h with
  | bad => rw [e1] at q; exact q
  | exc C fs h1 => rw [e1] at q; exact q
  | ok v h1 =>
    rw [e1] at q
    change PoE G X.K W Q I ρ as env σ H (if v.length ≤ smx then .ok (.tup v) h1 else .bad) at q
    intro I1 ρ1 H1 xs g1 d1 r1
    have q := PoE.go g1 q
    by_cases hc : v.length ≤ smx
    · rw [if_pos hc] at q
      refine ⟨by rw [r1.length]; exact smx_line hc, fun p hp => ?_⟩
      exact q _ ρ1 _ (.ref p) (Go.new d1 hp) (d1.new hp) (.inl (.tup (SqT.of upd_same) (r1.mono (Ex.new (d1.hp.fr hp)) List.prefix_rfl)))
    · rw [if_neg hc] at q
      exact q.elim
theorem cl_lst (h : CA G X W es ms) : CL G X W (.List es pos) (mLst ms) := by
  refine PE.imp (pe_lst h) fun σ H Q ⟨I, ρ, as, env, h, g, q⟩ => ?_
  refine ⟨I, ρ, as, env, h, g, ?_⟩
  unfold mLst at q
  cases e1 : ms env h with
  | bad => rw [e1] at q; exact q
  | exc C fs h1 => rw [e1] at q; exact q
  | ok v h1 =>
    rw [e1] at q
    change PoL G X.K W Q I ρ as env σ H (if v.length ≤ smx then .ok v h1 else .bad) at q
    intro I1 ρ1 H1 xs g1 d1 r1
    have q := PoL.go g1 q
    by_cases hc : v.length ≤ smx
    · rw [if_pos hc] at q
      refine ⟨by rw [r1.length]; exact smx_line hc, fun p hp => ?_⟩
      exact q I1 ρ1 _ p xs (Go.loose d1 hp) (d1.loose hp) hp upd_same (d1.hp.fr hp) (d1.hp.nin hp) (d1.env.nin hp) r1
    · rw [if_neg hc] at q
      exact q.elim
theorem ce_frz (h : CL G X W e ml) : CE G X W e (mFrz ml) := by
  refine PE.imp h fun σ H Q ⟨I, ρ, as, env, h, g, q⟩ => ?_
  refine ⟨I, ρ, as, env, h, g, ?_⟩
  unfold mFrz at q
  cases e1 : ml env h with
  | bad => rw [e1] at q; exact q
  | exc C fs h1 => rw [e1] at q; exact q
  | ok l h1 =>
    rw [e1] at q
    intro I1 ρ1 H1 p xs g1 d1 hp0 hp i1 n1 s1 r1
    refine q _ ρ1 H1 (.ref p) (g1.freeze hp0 i1) (d1.freeze hp i1 n1 s1) (.inl (.lst upd_same (r1.mono (Ex.new i1) List.prefix_rfl)))
theorem ce_cel (h : CL G X W e ml) : CE G X W e (mCel ml) := by
  refine PE.imp h fun σ H Q ⟨I, ρ, as, env, h, g, q⟩ => ?_
  refine ⟨I, ρ, as, env, h, g, ?_⟩
  unfold mCel at q
  cases e1 : ml env h with
  | bad => rw [e1] at q; exact q
  | exc C fs h1 => rw [e1] at q; exact q
  | ok l h1 =>
    rw [e1] at q
    intro I1 ρ1 H1 p xs g1 d1 hp0 hp i1 n1 s1 r1
    refine q I1 (ρ1 ++ [p]) H1 (.ref p) (g1.cell hp0) (d1.cell i1 n1 s1 ⟨xs, hp, r1⟩) (.inl (.ref ?_))
    rw [← d1.hp.len, List.getElem?_append_right (Nat.le_refl _)]
    simp
end

/-! ### tests, and, or, not, if -/
def mNot (m : Ex1) : Ex1 := fun env h => (m env h).bind fun v h1 => match v with
  | .bl b => .ok (.bl (!b)) h1
  | _ => .bad
def mAnd (m1 m2 : Ex1) : Ex1 := fun env h => (m1 env h).bind fun v h1 => match v with
  | .bl true => m2 env h1
  | .bl false => .ok (.bl false) h1
  | _ => .bad
def mOr (m1 m2 : Ex1) : Ex1 := fun env h => (m1 env h).bind fun v h1 => match v with
  | .bl true => .ok (.bl true) h1
  | .bl false => m2 env h1
  | _ => .bad
def mIte (c m1 m2 : Ex1) : Ex1 := fun env h => (c env h).bind fun v h1 => match v with
  | .bl true => m1 env h1
  | .bl false => m2 env h1
  | _ => .bad
def fTru : Op1 := fun env h v => match v with
  | .non => some (.bl false)
  | .bl b => some (.bl b)
  | .int i => some (.bl (i != 0))
  | .str s => if s.length ≤ smx then some (.bl ((s.length : Int) != 0)) else none
  | v => match seqOf env h v with
    | some l => some (.bl (!l.isEmpty))
    | none => (dicOf env h v).map fun l => .bl (!l.isEmpty)
section
variable {G : Gm} {X : Cx} {W : WX} {e a b c : Expr} {rest : List Expr} {m m1 m2 m3 mc : Ex1} {pos : Pos}
theorem rdT_E {K : PySem.W.Frag} {σ : St} {H : Hp} {Q : Bool → Hp → Prop} (q : rdT G K W m σ H Q) : rdE G K W m σ H (fun x H' => ∃ k, x = .bl k ∧ Q k H') := by
  obtain ⟨I, ρ, as, env, h, g, q⟩ := q
  refine ⟨I, ρ, as, env, h, g, ?_⟩
  cases e : m env h with
  | bad => rw [e] at q; exact q
  | exc C fs h1 => rw [e] at q; exact q
  | ok v h1 =>
    rw [e] at q
    cases v <;> try (exact q.elim)
    intro I1 ρ1 H1 x g1 d1 r1
    exact ⟨_, r1.bl, q _ _ _ g1 d1⟩
theorem ct_val (h : CE G X W e m) (he : ∀ whole, isTrue e X.env whole = (do let v ← whole; standAt e.pos; holding [v] (truthy v)) := by intro _; rfl) : CT G X W e m := PT.imp (pt_val h he) fun _ _ _ q => rdT_E q
theorem ct_cmp {op : CmpOp} {r : R2} {f : Op2} (ho : OpR X (compareOp op) r) (hf : Op2Ok G X.K r f) (ha : CE G X W a m1) (hb : CE G X W b m2) (hm : behindInMarks op b = false := by first | exact nobehind _ (by decide) (by decide) | rfl) : CT G X W (.Compare a [op] [b] pos) (mBin f m1 m2) :=
  PT.imp (pt_cmpR ho ha hb hm) fun _ _ _ q => rd_bin hf (rdT_E q)
theorem ct_lt (ha : CE G X W a m1) (hb : CE G X W b m2) : CT G X W (.Compare a [.Lt] [b] pos) (mBin fLt m1 m2) := ct_cmp op_lt fIb_ok ha hb
theorem ct_le (ha : CE G X W a m1) (hb : CE G X W b m2) : CT G X W (.Compare a [.LtE] [b] pos) (mBin fLe m1 m2) := ct_cmp op_le fIb_ok ha hb
theorem ct_gt (ha : CE G X W a m1) (hb : CE G X W b m2) : CT G X W (.Compare a [.Gt] [b] pos) (mBin fGt m1 m2) := ct_cmp op_gt fIb_ok ha hb
theorem ct_ge (ha : CE G X W a m1) (hb : CE G X W b m2) : CT G X W (.Compare a [.GtE] [b] pos) (mBin fGe m1 m2) := ct_cmp op_ge fIb_ok ha hb
theorem ct_eq (hu : X.A.units + 64 < cLine) (ha : CE G X W a m1) (hb : CE G X W b m2) : CT G X W (.Compare a [.Eq] [b] pos) (mBin fEq m1 m2) := ct_cmp (OpR.or op_eq (op_eqD hu)) fEq_ok ha hb
theorem ct_ne (hu : X.A.units + 64 < cLine) (ha : CE G X W a m1) (hb : CE G X W b m2) : CT G X W (.Compare a [.NotEq] [b] pos) (mBin fNe m1 m2) := ct_cmp (OpR.or op_ne (op_neD hu)) fNe_ok ha hb
theorem ct_in (hu : X.A.units + 64 < cLine) (ha : CE G X W a m1) (hb : CE G X W b m2) (hm : behindInMarks .In b = false := by rfl) : CT G X W (.Compare a [.In] [b] pos) (mBin fIn m1 m2) :=
  ct_cmp (OpR.or op_in_seq (OpR.or (op_din hu) op_in_str)) fIn_ok ha hb hm
theorem ct_nin (hu : X.A.units + 64 < cLine) (ha : CE G X W a m1) (hb : CE G X W b m2) (hm : behindInMarks .NotIn b = false := by rfl) : CT G X W (.Compare a [.NotIn] [b] pos) (mBin fNin m1 m2) :=
  ct_cmp (OpR.or op_notIn_seq (OpR.or (op_dnin hu) op_notin_str)) fNin_ok ha hb hm
theorem ct_isN {j pos'} (ha : CE G X W a m1) : CT G X W (.Compare a [.Is] [.Constant .none j pos'] pos) (mUn fIsN m1) :=
  PT.imp (pt_cmp (pc_isN ha)) fun σ H Q q => rd_un (r := fun x H Q => Q (.bl (decide (x = .non))) H) (fun g rx e q => by
    cases e
    rw [isN_ok rx]
    exact q _ (.inl (.bl _))) (rdT_E q)
theorem ct_notN {j pos'} (ha : CE G X W a m1) : CT G X W (.Compare a [.IsNot] [.Constant .none j pos'] pos) (mUn fNotN m1) :=
  PT.imp (pt_cmp (pc_notN ha)) fun σ H Q q => rd_un (r := fun x H Q => Q (.bl (!decide (x = .non))) H) (fun g rx e q => by
    cases e
    rw [isN_ok rx]
    exact q _ (.inl (.bl _))) (rdT_E q)
theorem ct_of (h : CW G X W e m) : CT G X W e m := h.pt
theorem cw_and1 (h : CT G X W a m) : CW G X W (.BoolOp .And [a] pos) m := pw_and1 h
theorem cw_or1 (h : CT G X W a m) : CW G X W (.BoolOp .Or [a] pos) m := pw_or1 h
theorem rd_and {K : PySem.W.Frag} {σ : St} {H : Hp} {Q : Bool → Hp → Prop} (q : rdT G K W (mAnd m1 m2) σ H Q) : tAnd (rdT G K W m1) (rdT G K W m2) σ H Q := by
  obtain ⟨I, ρ, as, env, h, g, q⟩ := q
  refine ⟨I, ρ, as, env, h, g, ?_⟩
  unfold mAnd at q
  cases e : m1 env h with
  | bad => rw [e] at q; exact q
  | exc C fs h1 => rw [e] at q; exact q
  | ok v h1 =>
    rw [e] at q
    cases v <;> try (exact q.elim)
    rename_i b
    cases b with
    | true =>
      intro I1 ρ1 H1 g1 d1
      rw [if_pos rfl]
      exact ⟨I1, ρ1, as, env, h1, d1, PoT.go g1 q⟩
    | false =>
      intro I1 ρ1 H1 g1 d1
      rw [if_neg Bool.false_ne_true]
      exact q _ _ _ g1 d1
theorem rd_or {K : PySem.W.Frag} {σ : St} {H : Hp} {Q : Bool → Hp → Prop} (q : rdT G K W (mOr m1 m2) σ H Q) : tOr (rdT G K W m1) (rdT G K W m2) σ H Q := by
  obtain ⟨I, ρ, as, env, h, g, q⟩ := q
  refine ⟨I, ρ, as, env, h, g, ?_⟩
  unfold mOr at q
  cases e : m1 env h with
  | bad => rw [e] at q; exact q
  | exc C fs h1 => rw [e] at q; exact q
  | ok v h1 =>
    rw [e] at q
    cases v <;> try (exact q.elim)
    rename_i b
    cases b with
    | false =>
      intro I1 ρ1 H1 g1 d1
      rw [if_neg Bool.false_ne_true]
      exact ⟨I1, ρ1, as, env, h1, d1, PoT.go g1 q⟩
    | true =>
      intro I1 ρ1 H1 g1 d1
      rw [if_pos rfl]
      exact q _ _ _ g1 d1
theorem cw_and (ha : CT G X W a m1) (hb : CW G X W (.BoolOp .And (b :: rest) pos) m2) : CW G X W (.BoolOp .And (a :: b :: rest) pos) (mAnd m1 m2) := PW.imp (pw_and ha hb) fun _ _ _ q => rd_and q
theorem cw_or (ha : CT G X W a m1) (hb : CW G X W (.BoolOp .Or (b :: rest) pos) m2) : CW G X W (.BoolOp .Or (a :: b :: rest) pos) (mOr m1 m2) := PW.imp (pw_or ha hb) fun _ _ _ q => rd_or q
theorem rd_not {K : PySem.W.Frag} {σ : St} {H : Hp} {Q : Bool → Hp → Prop} (q : rdT G K W (mNot m1) σ H Q) : tNot (rdT G K W m1) σ H Q := by
  obtain ⟨I, ρ, as, env, h, g, q⟩ := q
  refine ⟨I, ρ, as, env, h, g, ?_⟩
  unfold mNot at q
  cases e : m1 env h with
  | bad => rw [e] at q; exact q
  | exc C fs h1 => rw [e] at q; exact q
  | ok v h1 =>
    rw [e] at q
    cases v <;> try (exact q.elim)
    intro I1 ρ1 H1 g1 d1
    exact q _ _ _ g1 d1
theorem ct_not (ha : CT G X W a m1) : CT G X W (.UnaryOp .Not a pos) (mNot m1) := PT.imp (pt_not ha) fun _ _ _ q => rd_not q
/-- .. as values -/
theorem ce_one {op} (h : CE G X W a m) : CE G X W (.BoolOp op [a] pos) m := pe_one h
theorem ce_and (ha : CE G X W a m1) (hb : CE G X W (.BoolOp .And (b :: rest) pos) m2) : CE G X W (.BoolOp .And (a :: b :: rest) pos) (mAnd m1 m2) := by
  refine PE.imp (pe_and ha hb) fun σ H Q ⟨I, ρ, as, env, h, g, q⟩ => ?_
  refine ⟨I, ρ, as, env, h, g, ?_⟩
  unfold mAnd at q
  cases e : m1 env h with
  | bad => rw [e] at q; exact q
  | exc C fs h1 => rw [e] at q; exact q
  | ok v h1 =>
    rw [e] at q
    cases v <;> try (exact q.elim)
    rename_i b
    intro I1 ρ1 H1 x g1 d1 r1
    refine ⟨b, r1.bl, ?_⟩
    cases b with
    | true => rw [if_pos rfl]; exact ⟨I1, ρ1, as, env, h1, d1, PoE.go g1 q⟩
    | false => rw [if_neg Bool.false_ne_true]; exact q _ _ _ _ g1 d1 (.inl (.bl _))
theorem ce_or (ha : CE G X W a m1) (hb : CE G X W (.BoolOp .Or (b :: rest) pos) m2) : CE G X W (.BoolOp .Or (a :: b :: rest) pos) (mOr m1 m2) := by
  refine PE.imp (pe_or ha hb) fun σ H Q ⟨I, ρ, as, env, h, g, q⟩ => ?_
  refine ⟨I, ρ, as, env, h, g, ?_⟩
  unfold mOr at q
  cases e : m1 env h with
  | bad => rw [e] at q; exact q
  | exc C fs h1 => rw [e] at q; exact q
  | ok v h1 =>
    rw [e] at q
    cases v <;> try (exact q.elim)
    rename_i b
    intro I1 ρ1 H1 x g1 d1 r1
    refine ⟨b, r1.bl, ?_⟩
    cases b with
    | false => rw [if_neg Bool.false_ne_true]; exact ⟨I1, ρ1, as, env, h1, d1, PoE.go g1 q⟩
    | true => rw [if_pos rfl]; exact q _ _ _ _ g1 d1 (.inl (.bl _))
theorem ce_not (ha : CE G X W a m1) : CE G X W (.UnaryOp .Not a pos) (mNot m1) := by
  refine PE.imp (pe_not ha) fun σ H Q ⟨I, ρ, as, env, h, g, q⟩ => ?_
  refine ⟨I, ρ, as, env, h, g, ?_⟩
  unfold mNot at q
  cases e : m1 env h with
  | bad => rw [e] at q; exact q
  | exc C fs h1 => rw [e] at q; exact q
  | ok v h1 =>
    rw [e] at q
    cases v <;> try (exact q.elim)
    rename_i b
    intro I1 ρ1 H1 x g1 d1 r1
    exact ⟨b, r1.bl, q _ _ _ _ g1 d1 (.inl (.bl _))⟩
theorem ce_ite (hc : CT G X W c mc) (ha : CE G X W a m1) (hb : CE G X W b m2) : CE G X W (.IfExp c a b pos) (mIte mc m1 m2) := by
  refine PE.imp (pe_ifExp hc ha hb) fun σ H Q ⟨I, ρ, as, env, h, g, q⟩ => ?_
  refine ⟨I, ρ, as, env, h, g, ?_⟩
  unfold mIte at q
  cases e : mc env h with
  | bad => rw [e] at q; exact q
  | exc C fs h1 => rw [e] at q; exact q
  | ok v h1 =>
    rw [e] at q
    cases v <;> try (exact q.elim)
    rename_i b
    intro I1 ρ1 H1 g1 d1
    cases b with
    | true => rw [if_pos rfl]; exact ⟨I1, ρ1, as, env, h1, d1, PoE.go g1 q⟩
    | false => rw [if_neg Bool.false_ne_true]; exact ⟨I1, ρ1, as, env, h1, d1, PoE.go g1 q⟩
theorem RepL.isEmpty {K : PySem.W.Frag} {I : Hp} {ρ : List Addr} {xs : List V} {l : List Val} (r : RepL G K I ρ xs l) : xs.isEmpty = l.isEmpty := by cases r <;> rfl
theorem RepK.isEmpty {K : PySem.W.Frag} {I : Hp} {ρ : List Addr} {xs : List (Key × V)} {l : List (Key × Val)} (r : RepK G K I ρ xs l) : xs.isEmpty = l.isEmpty := by cases r <;> rfl
theorem ct_tru (ha : CE G X W a m) (he : ∀ whole, isTrue a X.env whole = (do let v ← whole; standAt a.pos; holding [v] (truthy v)) := by intro _; rfl) : CT G X W a (mUn fTru m) := by
  refine PT.imp (pt_truth ha he) fun σ H Q ⟨I, ρ, as, env, h, g, q⟩ => ?_
  refine ⟨I, ρ, as, env, h, g, ?_⟩
  unfold mUn at q
  cases e : m env h with
  | bad => rw [e] at q; exact q
  | exc C fs h1 => rw [e] at q; exact q
  | ok v h1 =>
    rw [e] at q
    change PoT G X.K W Q I ρ as env σ H (reO (fTru env h1 v) h1) at q
    intro I1 ρ1 H1 x g1 d1 r1
    have q := PoT.go g1 q
    have sq : (match seqOf env h1 v with | some l => some (Val.bl (!l.isEmpty)) | none => (dicOf env h1 v).map fun l => .bl (!l.isEmpty)) = fTru env h1 v → ∃ k, TruV X.K x H1 k ∧ Q k H1 := fun ev => by
      rw [← ev] at q
      cases e1 : seqOf env h1 v with
      | some l =>
        rw [e1] at q
        obtain ⟨p, ys, rfl, hq, r⟩ := seqOf_ok d1 r1 e1
        refine ⟨!l.isEmpty, ?_, q _ _ _ Go.refl d1⟩
        rw [← r.isEmpty]
        rcases hq with hq | hq
        · exact .inl ⟨ys, hq, rfl⟩
        · exact .inr (.inl ⟨ys, hq, rfl⟩)
      | none =>
        rw [e1] at q
        cases e2 : dicOf env h1 v with
        | none => rw [e2] at q; exact q.elim
        | some l =>
          rw [e2] at q
          obtain ⟨p, ys, rfl, hq, r⟩ := dicOf_ok d1 r1 e2
          refine ⟨!l.isEmpty, ?_, q _ _ _ Go.refl d1⟩
          rw [← r.isEmpty]
          exact .inr (.inr ⟨ys, hq, rfl⟩)
    cases v with
    | non => rw [r1.non]; exact ⟨false, rfl, q _ _ _ Go.refl d1⟩
    | bl b => rw [r1.bl]; exact ⟨b, rfl, q _ _ _ Go.refl d1⟩
    | int i => rw [r1.int]; exact ⟨_, rfl, q _ _ _ Go.refl d1⟩
    | str s =>
      rw [r1.str]
      by_cases hz : s.length ≤ smx
      · have ef : fTru env h1 (.str s) = some (.bl ((s.length : Int) != 0)) := if_pos hz
        rw [ef] at q
        exact ⟨_, ⟨smx_line hz, rfl⟩, q _ _ _ Go.refl d1⟩
      · have ef : fTru env h1 (.str s) = none := if_neg hz
        rw [ef] at q
        exact q.elim
    | tup l => exact sq rfl
    | lst l => exact sq rfl
    | dic l => exact sq rfl
    | obj C l => exact sq rfl
    | frl l => exact sq rfl
    | ref l => exact sq rfl
    | loc l => exact sq rfl
end
end Mi
namespace Mi
open PySem L2

/-! ### a def's promise -/
theorem HpOk.freeze {G : Gm} {K : PySem.W.Frag} {I : Hp} {ρ : List Addr} {h : Hep} {H : Hp} {p : Addr} {o : HO} (g : HpOk G K I ρ h H) (hp : H p = some o) (h1 : I p = none) (h2 : p ∉ ρ) : HpOk G K (upd I p o) ρ h H := by
  have ne : ∀ {a : Addr}, a ∈ ρ → a ≠ p := fun ha z => h2 (z ▸ ha)
  refine g.mono (Ex.new h1) ?_ (fun a ha => by rw [upd_ne (ne ha)]; exact g.off a ha) fun a ha o e => e
  intro a u e
  by_cases z : a = p
  · subst z
    rw [upd_same] at e
    rw [hp]; exact e
  · rw [upd_ne z] at e
    exact g.ex _ _ e
theorem cell_frz {G : Gm} {K : PySem.W.Frag} {I : Hp} {ρ : List Addr} {H : Hp} {p : Addr} {c : Cell} (h : CellOk G K I ρ H p c) (h1 : I p = none) : ∃ o, H p = some o ∧ RepV G K (upd I p o) ρ (.ref p) (frzV c) := by
  cases c with
  | lst l => obtain ⟨xs, e, r⟩ := h; exact ⟨_, e, .lst upd_same (r.mono (Ex.new h1) List.prefix_rfl)⟩
  | dic l => obtain ⟨xs, e, r⟩ := h; exact ⟨_, e, .dic upd_same (r.mono (Ex.new h1) List.prefix_rfl)⟩
  | ins C fs => obtain ⟨dx, gs, e, r⟩ := h; exact ⟨_, e, .obj upd_same (r.mono (Ex.new h1) List.prefix_rfl)⟩
def PoF (G : Gm) (K : PySem.W.Frag) (Q : VK) (E : XK) (I : Hp) (ρ : List Addr) (H : Hp) : Re Val → Prop
  | .ok v h' => ∀ I' ρ' H' x, Go I ρ [] H I' ρ' [] H' → HpOk G K I' ρ' h' H' → RepV G K I' ρ' x v → Q x H'
  | .exc C fs h' => ∀ I' ρ' H' d, Go I ρ [] H I' ρ' [] H' → HpOk G K I' ρ' h' H' → ExOk G K I' ρ' H' d fs → E (.ref (G.cl C)) d H'
  | .bad => False
/-- called with n values the def does what f does -/
def spM (G : Gm) (K : PySem.W.Frag) (n : Nat) (f : Fn) : Sp := fun vs H Q E => vs.length = n ∧ ∃ I ρ h args, HpOk G K I ρ h H ∧ RepL G K I ρ vs args ∧ PoF G K Q E I ρ H (f args h)
/-- a def's function from its body: n parameters, N slots -/
def fnM (n N : Nat) (m : Stm) : Fn := fun args h => if args.length = n then
    match m (args.map .va ++ List.replicate (N - n) .un) h with
    | .nx _ h' => .ok .non h'
    | .rt v h' => .ok v h'
    | .rc c h' => .ok (frzV c) h'
    | .exc C fs _ h' => .exc C fs h'
    | _ => .bad
  else .bad
/-! ### a def that makes a new cell -/
abbrev FnC := List Val → Hep → Re Cell
def PoFC (G : Gm) (K : PySem.W.Frag) (Q : VK) (E : XK) (I : Hp) (ρ : List Addr) (H : Hp) : Re Cell → Prop
  | .ok c h' => ∀ I' ρ' H' p, Go I ρ [] H I' ρ' [] H' → HpOk G K I' ρ' h' H' → H p = none → CellOk G K I' ρ' H' p c → I' p = none → p ∉ ρ' → Q (.ref p) H'
  | .exc C fs h' => ∀ I' ρ' H' d, Go I ρ [] H I' ρ' [] H' → HpOk G K I' ρ' h' H' → ExOk G K I' ρ' H' d fs → E (.ref (G.cl C)) d H'
  | .bad => False
def spC (G : Gm) (K : PySem.W.Frag) (n : Nat) (f : FnC) : Sp := fun vs H Q E => vs.length = n ∧ ∃ I ρ h args, HpOk G K I ρ h H ∧ RepL G K I ρ vs args ∧ PoFC G K Q E I ρ H (f args h)
def fnC (n N : Nat) (m : Stm) : FnC := fun args h => if args.length = n then
    match m (args.map .va ++ List.replicate (N - n) .un) h with
    | .rc c h' => .ok c h'
    | .exc C fs _ h' => .exc C fs h'
    | _ => .bad
  else .bad
section
variable {G : Gm} {K : PySem.W.Frag} {I : Hp} {ρ : List Addr} {h : Hep} {H : Hp}
theorem start_env : ∀ {vs : List V} {args : List Val} (k : Nat), RepL G K I ρ vs args → EnvOk G K I ρ (List.replicate (args.length + k) none) (args.map .va ++ List.replicate k .un) (vs.map some ++ List.replicate k none) H := by
  intro vs args k r
  have hl := r.length
  refine ⟨by simp, by simp [hl], fun i j a e => ?_, fun a e => ?_, fun i s o x e1 e2 e3 => ?_⟩
  · have := List.mem_of_getElem? e
    simp at this
  · simp at e
  · have eo : o = none := by
      have := List.mem_of_getElem? e2
      simpa using (List.mem_replicate.mp this).2
    subst eo
    by_cases hi : i < args.length
    · rw [List.getElem?_append_left (by simpa using hi), List.getElem?_map] at e1
      rw [List.getElem?_append_left (by simp [hl, hi]), List.getElem?_map] at e3
      cases ea : args[i]? with
      | none => rw [ea] at e1; cases e1
      | some v =>
        rw [ea] at e1
        cases e1
        obtain ⟨y, ey, ry⟩ := r.get ea
        rw [ey] at e3
        cases e3
        exact ⟨rfl, y, rfl, ry⟩
    · rw [List.getElem?_append_right (by simp; omega), List.getElem?_replicate] at e1
      split at e1
      · cases e1; rfl
      · cases e1
end

/-! ### a def keeps its promise -/
section
variable {P : Program} {w : World} {K : PySem.W.Frag} {mg : Str → Option Value} {base : Heap} {G : Gm}
/-- what a body's derivation is given: the wish, the room, calm -/
structure Bd (X : Cx) (W : WX) (k : Nat) : Prop where
  tk : L2N.Takes X W
  room : Room k X.A
  calm : X.calm = true
  po : PassesOwn (model X.prog X.w) X.A X.env X.xe
theorem Bd.hu {X : Cx} {W : WX} {k : Nat} (b : Bd X W k) : X.A.units + 64 < cLine := b.room.units
abbrev wE (E : XK) : WX := fun cls d _ H => E cls d H
abbrev cxM (P : Program) (w : World) (K : PySem.W.Frag) (mg : Str → Option Value) (base : Heap) (N : List Str) (qual : Str) (st : Stmt) (f : Addr) (cdv : Value) (A : Around) (outer : List Env) (s : Shared) (H : Hp) (E : XK) : Cx := cxOf (L2N.CX P w) P w K mg base N qual (defScope st) f cdv A outer s H E
theorem Fun.okM {x qual : Str} {st : Stmt} {f : Addr} {fd : FuncData} {N ps : List Str} {k : Nat} {m : Stm} (F : Fun K x qual st f fd) (S : FnScope N ps (defScope st))
    (hbody : ∀ (cdv : Value) (A : Around) (outer : List Env) (s : Shared) (H : Hp) (E : XK), Bd (cxM P w K mg base N qual st f cdv A outer s H E) (wE E) k → CB G (cxM P w K mg base N qual st f cdv A outer s H E) (wE E) (defBody st) m) :
    FnOk P w K mg base (L2N.CX P w) (k + 1) f fd ps (spM G K ps.length (fnM ps.length N.length m)) := by
  obtain ⟨oc, od, kV, doc, pm, an, cdv, ct, osl, rfl, lk, hcd⟩ := F.ex
  refine fn_of lk hcd S (fun vs H Q E h => h.1) fun A outer s H vs Q E hr hsp => ?_
  obtain ⟨hl, I, ρ, h, args, g, r, q⟩ := hsp
  refine ⟨_, hbody cdv A outer s H E ⟨?_, hr, rfl, ?_⟩, ?_⟩
  · exact L2N.takes_of rfl rfl rfl rfl
  · exact passes_of rfl
  · have hpl : ps.length ≤ N.length := by have := congrArg List.length S.pre; rw [List.length_take] at this; omega
    have hal : args.length = ps.length := by rw [← r.length]; exact hl
    have er := start_env (H := H) (N.length - ps.length) r
    have eN : L2.start N vs = vs.map some ++ List.replicate (N.length - ps.length) none := by unfold L2.start; rw [hl]
    rw [eN]
    refine ⟨I, ρ, (List.replicate (args.length + (N.length - ps.length)) none : Own), args.map Slot.va ++ List.replicate (N.length - ps.length) Slot.un, h, (Good.mk g er : Good G K _ _ _ _ _ _ _), ?_⟩
    unfold fnM at q
    rw [if_pos hal] at q
    have wk : ∀ {I' : Hp} {ρ' : List Addr} {as' : Own} {H' : Hp}, Go I ρ (List.replicate (args.length + (N.length - ps.length)) none) H I' ρ' as' H' → Go I ρ [] H I' ρ' [] H' := fun {I' ρ' as' H'} k =>
      ⟨k.ex, k.pre, fun a o e i r s => by
        obtain ⟨h1, h2, h3, _⟩ := k.fr a o e i r (by simp)
        exact ⟨h1, h2, h3, by simp⟩, k.dom⟩
    generalize he : m (args.map Slot.va ++ List.replicate (N.length - ps.length) Slot.un) h = o at q ⊢
    cases o with
    | nx e' h' => exact fun I' ρ' as' σ' H' k gd => q I' ρ' H' .non (wk k) gd.hp .non
    | rt v h' => exact fun I' ρ' as' H' x k gd rx => q I' ρ' H' x (wk k) gd rx
    | rc c h' =>
        intro I' ρ' as' H' p k gd hp hc i2 n2 s2
        obtain ⟨o, e1, e2⟩ := cell_frz hc i2
        have hp' : H p = none := hp.resolve_right fun m => by have := List.eq_of_mem_replicate m; cases this
        exact q _ ρ' H' _ ((wk k).freeze hp' i2) (gd.freeze e1 i2 n2) e2
    | bk e' h' => exact q.elim
    | ct e' h' => exact q.elim
    | exc C fs e' h' => exact fun I' ρ' as' σ' H' d k gd rx => q I' ρ' H' d (wk k) gd.hp rx
    | bad => exact q.elim
theorem Fun.okC {x qual : Str} {st : Stmt} {f : Addr} {fd : FuncData} {N ps : List Str} {k : Nat} {m : Stm} (F : Fun K x qual st f fd) (S : FnScope N ps (defScope st))
    (hbody : ∀ (cdv : Value) (A : Around) (outer : List Env) (s : Shared) (H : Hp) (E : XK), Bd (cxM P w K mg base N qual st f cdv A outer s H E) (wE E) k → CB G (cxM P w K mg base N qual st f cdv A outer s H E) (wE E) (defBody st) m) :
    FnOk P w K mg base (L2N.CX P w) (k + 1) f fd ps (spC G K ps.length (fnC ps.length N.length m)) := by
  obtain ⟨oc, od, kV, doc, pm, an, cdv, ct, osl, rfl, lk, hcd⟩ := F.ex
  refine fn_of lk hcd S (fun vs H Q E h => h.1) fun A outer s H vs Q E hr hsp => ?_
  obtain ⟨hl, I, ρ, h, args, g, r, q⟩ := hsp
  refine ⟨_, hbody cdv A outer s H E ⟨?_, hr, rfl, ?_⟩, ?_⟩
  · exact L2N.takes_of rfl rfl rfl rfl
  · exact passes_of rfl
  · have hpl : ps.length ≤ N.length := by have := congrArg List.length S.pre; rw [List.length_take] at this; omega
    have hal : args.length = ps.length := by rw [← r.length]; exact hl
    have er := start_env (H := H) (N.length - ps.length) r
    have eN : L2.start N vs = vs.map some ++ List.replicate (N.length - ps.length) none := by unfold L2.start; rw [hl]
    rw [eN]
    refine ⟨I, ρ, (List.replicate (args.length + (N.length - ps.length)) none : Own), args.map Slot.va ++ List.replicate (N.length - ps.length) Slot.un, h, (Good.mk g er : Good G K _ _ _ _ _ _ _), ?_⟩
    unfold fnC at q
    rw [if_pos hal] at q
    have wk : ∀ {I' : Hp} {ρ' : List Addr} {as' : Own} {H' : Hp}, Go I ρ (List.replicate (args.length + (N.length - ps.length)) none) H I' ρ' as' H' → Go I ρ [] H I' ρ' [] H' := fun {I' ρ' as' H'} k =>
      ⟨k.ex, k.pre, fun a o e i r s => by
        obtain ⟨h1, h2, h3, _⟩ := k.fr a o e i r (by simp)
        exact ⟨h1, h2, h3, by simp⟩, k.dom⟩
    generalize he : m (args.map Slot.va ++ List.replicate (N.length - ps.length) Slot.un) h = o at q ⊢
    cases o with
    | nx e' h' => exact q.elim
    | rt v h' => exact q.elim
    | rc c h' =>
        intro I' ρ' as' H' p k gd hp hc i2 n2 s2
        have hp' : H p = none := hp.resolve_right fun m => by have := List.eq_of_mem_replicate m; cases this
        exact q I' ρ' H' p (wk k) gd hp' hc i2 n2
    | bk e' h' => exact q.elim
    | ct e' h' => exact q.elim
    | exc C fs e' h' => exact fun I' ρ' as' σ' H' d k gd rx => q I' ρ' H' d (wk k) gd.hp rx
    | bad => exact q.elim
end

/-! ### a call -/
/-- a def of the module, by its name -/
structure DfS (P : Program) (w : World) (K : PySem.W.Frag) (mg : Str → Option Value) (base : Heap) (x : Str) (k : Nat) (sp : Sp) : Prop where
  ex : ∃ fa fd ps, FnOk P w K mg base (L2N.CX P w) k fa fd ps sp ∧ mg x = some (.ref fa) ∧ PySem.W.keepIn K (.ref fa) = true ∧ Binds K fd ps []
abbrev Df (P : Program) (w : World) (K : PySem.W.Frag) (mg : Str → Option Value) (base : Heap) (G : Gm) (x : Str) (k n : Nat) (f : Fn) : Prop := DfS P w K mg base x k (spM G K n f)
abbrev DfC (P : Program) (w : World) (K : PySem.W.Frag) (mg : Str → Option Value) (base : Heap) (G : Gm) (x : Str) (k n : Nat) (f : FnC) : Prop := DfS P w K mg base x k (spC G K n f)
def mCall (f : Fn) (ms : ExL) : Ex1 := fun env h => (ms env h).bind fun vs h1 => f vs h1
section
variable {G : Gm} {X : Cx} {W : WX} {x : Str} {e : Expr} {es : List Expr} {ms : ExL} {p pos : Pos} {k n kk : Nat} {f : Fn}
theorem spM_use {K : PySem.W.Frag} {E : XK} {I : Hp} {ρ : List Addr} {as : Own} {env : SEnv} {h : Hep} {σ : St} {H : Hp} {Q : VK} {vs : List V} {l : List Val} (g : Good G K I ρ as env h σ H) (r : RepL G K I ρ vs l) (hn : l.length = n) (hE : ∀ c d H', W c d σ H' → E c d H')
    (q : PoE G K W Q I ρ as env σ H (f l h)) : spM G K n f vs H Q E := by
  refine ⟨by rw [r.length]; exact hn, I, ρ, h, l, g.hp, r, ?_⟩
  cases e : f l h with
  | bad => rw [e] at q; exact q
  | exc C fs h1 =>
    rw [e] at q
    intro I' ρ' H' d k gd rx
    obtain ⟨k1, g1⟩ := Go.framed g k gd
    exact hE _ _ _ (q I' ρ' H' d k1 g1 rx)
  | ok v h1 =>
    rw [e] at q
    intro I' ρ' H' x k gd rx
    obtain ⟨k1, g1⟩ := Go.framed g k gd
    exact q I' ρ' H' x k1 g1 (.inl rx)
/-- the arity is right -/
def ar (n : Nat) (f : Fn) : Fn := fun vs h => if vs.length = n then f vs h else .bad
theorem rd_call {K : PySem.W.Frag} {E : St → XK} (hE : ∀ σ c d H', W c d σ H' → E σ c d H') {σ : St} {H : Hp} {Q : VK} (q : rdE G K W (mCall (ar n f) ms) σ H Q) : tCallS (spM G K n f) E (rdA G K W ms) σ H Q := by
  obtain ⟨I, ρ, as, env, h, g, q⟩ := q
  refine ⟨I, ρ, as, env, h, g, ?_⟩
  unfold mCall at q
  cases e : ms env h with
  | bad => rw [e] at q; exact q
  | exc C fs h1 => rw [e] at q; exact q
  | ok vs h1 =>
    rw [e] at q
    intro I1 ρ1 H1 xs g1 d1 r1
    have q := PoE.go g1 q
    change PoE G K W Q I1 ρ1 as env σ H1 (if vs.length = n then f vs h1 else .bad) at q
    by_cases hn : vs.length = n
    · rw [if_pos hn] at q
      exact spM_use d1 r1 hn (hE σ) q
    · rw [if_neg hn] at q
      exact q.elim
theorem ce_call (D : Df X.prog X.w X.K X.mg X.base G x k n f) (b : Bd X W kk) (hk : k ≤ kk) (ha : CA G X W (e :: es) ms) (hg : Gl X x := by rfl)
    (hdb : (x == ("__debug__" : Str)) = false := by decide) (he : starEach (e :: es) X.env = (false, eval e X.env) :: starEach es X.env := by rfl) (hpl : (backTo pos (starEach es X.env)).any (·.1) = false := by rfl) :
    CE G X W (.Call (.Name x p) (e :: es) [] pos) (mCall (ar n f) ms) := by
  obtain ⟨fa, fd, ps, F, hm, kp, hb⟩ := D.ex
  exact PE.imp (pe_callS (E := WE W) F (b.room.mono hk) hg hm kp hb (fun σ => L2N.passAt b.tk σ) ha hdb he hpl) fun _ _ _ q => rd_call (fun _ _ _ _ z => z) q
theorem ce_call0 (D : Df X.prog X.w X.K X.mg X.base G x k 0 f) (b : Bd X (fun _ _ _ _ => False) kk) (hk : k ≤ kk) (hg : Gl X x := by rfl)
    (hdb : (x == ("__debug__" : Str)) = false := by decide) : CE G X (fun _ _ _ _ => False) (.Call (.Name x p) [] [] pos) (mCall (ar 0 f) mNil) := by
  obtain ⟨fa, fd, ps, F, hm, kp, hb⟩ := D.ex
  refine PE.imp (pe_call0 (E := E0) F (b.room.mono hk) hg hm kp hb .nil (fun pins σ H s e s' I c => L2N.passAt (W := fun _ _ _ _ => False) b.tk σ pins H s e s' I c) hdb) fun σ H Q q => ?_
  have := rd_call (E := fun _ => E0) (fun _ _ _ _ z => z) q
  obtain ⟨I, ρ, as, env, h, g, q⟩ := q
  exact spM_use (E := E0) (W := fun _ _ _ _ => False) g .nil rfl (fun _ _ _ z => z) q
end
end Mi
namespace Mi
open PySem L2

/-! ### frames change -/
section
variable {G : Gm} {K : PySem.W.Frag} {I I' I0 : Hp} {ρ ρ' ρ0 : List Addr} {as as' as0 : Own} {env : SEnv} {h h' : Hep} {σ : St} {H H' H0 : Hp} {p : Addr} {o : HO}
theorem lset {α : Type} {l : List α} {i j : Nat} {x y : α} (e : (l.set i x)[j]? = some y) : (j = i ∧ y = x) ∨ (j ≠ i ∧ l[j]? = some y) := by
  by_cases z : i = j
  · subst z
    by_cases hl : i < l.length
    · rw [List.getElem?_set_self hl] at e
      cases e
      exact .inl ⟨rfl, rfl⟩
    · rw [List.set_eq_of_length_le (by omega)] at e
      have := (List.getElem?_eq_some_iff.mp e).1
      omega
  · rw [List.getElem?_set_ne z] at e
    exact .inr ⟨fun q => z q.symm, e⟩
theorem mem_set_none {as : Own} {i : Nat} {a : Addr} (h : some a ∈ as.set i none) : some a ∈ as := by
  obtain ⟨n, hn⟩ := List.mem_iff_getElem?.mp h
  rcases lset hn with ⟨_, e⟩ | ⟨_, e⟩
  · cases e
  · exact List.mem_of_getElem? e
/-- a slot gets a value -/
theorem Good.set {x : V} {v : Val} (g : Good G K I ρ as env h σ H) (i : Nat) (r : RepV G K I ρ x v) : Good G K I ρ (as.set i none) (env.set i (.va v)) h (σ.set i (some x)) H := by
  refine ⟨g.hp, by simp [g.env.l1], by simp [g.env.l2], fun j k a e1 e2 => ?_, fun a ha => g.env.off a (mem_set_none ha), fun j s o y e1 e2 e3 => ?_⟩
  · rcases lset e1 with ⟨_, e⟩ | ⟨_, e1⟩
    · cases e
    · rcases lset e2 with ⟨_, e⟩ | ⟨_, e2⟩
      · cases e
      · exact g.env.inj j k a e1 e2
  · rcases lset e1 with ⟨z, e⟩ | ⟨z, e1⟩
    · subst z; subst e
      rcases lset e2 with ⟨_, e⟩ | ⟨z, _⟩
      · subst e
        rcases lset e3 with ⟨_, e⟩ | ⟨z, _⟩
        · subst e; exact ⟨rfl, x, rfl, r⟩
        · exact absurd rfl z
      · exact absurd rfl z
    · rcases lset e2 with ⟨z', _⟩ | ⟨_, e2⟩
      · exact absurd z' z
      · rcases lset e3 with ⟨z', _⟩ | ⟨_, e3⟩
        · exact absurd z' z
        · exact g.env.slot j s o y e1 e2 e3
theorem Go.set (i : Nat) : Go I ρ as H I ρ (as.set i none) H := ⟨Ex.refl _, List.prefix_rfl, fun a o e i' r s => ⟨e, i', r, fun hm => s (mem_set_none hm)⟩, fun _ o e => ⟨o, e⟩⟩
/-- a slot is forgotten -/
theorem Good.unset {y : Option V} (g : Good G K I ρ as env h σ H) (i : Nat) : Good G K I ρ (as.set i none) (env.set i .un) h (σ.set i y) H := by
  refine ⟨g.hp, by simp [g.env.l1], by simp [g.env.l2], fun j k a e1 e2 => ?_, fun a ha => g.env.off a (mem_set_none ha), fun j s o y e1 e2 e3 => ?_⟩
  · rcases lset e1 with ⟨_, e⟩ | ⟨_, e1⟩
    · cases e
    · rcases lset e2 with ⟨_, e⟩ | ⟨_, e2⟩
      · cases e
      · exact g.env.inj j k a e1 e2
  · rcases lset e1 with ⟨z, e⟩ | ⟨z, e1⟩
    · subst z; subst e
      rcases lset e2 with ⟨_, e⟩ | ⟨z, _⟩
      · subst e; exact rfl
      · exact absurd rfl z
    · rcases lset e2 with ⟨z', _⟩ | ⟨_, e2⟩
      · exact absurd z' z
      · rcases lset e3 with ⟨z', _⟩ | ⟨_, e3⟩
        · exact absurd z' z
        · exact g.env.slot j s o y e1 e2 e3
/-- a slot gets a loose object for its own -/
theorem Good.own_ {c : Cell} (g : Good G K I ρ as env h σ H) (i : Nat) (h1 : I p = none) (h2 : p ∉ ρ) (h3 : some p ∉ as) (hc : CellOk G K I ρ H p c) : Good G K I ρ (as.set i (some p)) (env.set i (.ow c)) h (σ.set i (some (.ref p))) H := by
  refine ⟨g.hp, by simp [g.env.l1], by simp [g.env.l2], fun j k a e1 e2 => ?_, fun a ha => ?_, fun j s o y e1 e2 e3 => ?_⟩
  · rcases lset e1 with ⟨z1, e⟩ | ⟨z1, e1⟩
    · rcases lset e2 with ⟨z2, e'⟩ | ⟨z2, e2⟩
      · rw [z1, z2]
      · cases e
        exact absurd (List.mem_of_getElem? e2) h3
    · rcases lset e2 with ⟨_, e⟩ | ⟨_, e2⟩
      · cases e
        exact absurd (List.mem_of_getElem? e1) h3
      · exact g.env.inj j k a e1 e2
  · obtain ⟨n, hn⟩ := List.mem_iff_getElem?.mp ha
    rcases lset hn with ⟨_, e⟩ | ⟨_, e⟩
    · cases e; exact ⟨h1, h2⟩
    · exact g.env.off a (List.mem_of_getElem? e)
  · rcases lset e1 with ⟨z, e⟩ | ⟨z, e1⟩
    · subst z; subst e
      rcases lset e2 with ⟨_, e⟩ | ⟨z, _⟩
      · subst e
        rcases lset e3 with ⟨_, e⟩ | ⟨z, _⟩
        · subst e; exact ⟨p, rfl, rfl, hc⟩
        · exact absurd rfl z
      · exact absurd rfl z
    · rcases lset e2 with ⟨z', _⟩ | ⟨_, e2⟩
      · exact absurd z' z
      · rcases lset e3 with ⟨z', _⟩ | ⟨_, e3⟩
        · exact absurd z' z
        · exact g.env.slot j s o y e1 e2 e3
theorem Go.own_ (g : Go I0 ρ0 as0 H0 I ρ as H) (i : Nat) (hp : H0 p = none) : Go I0 ρ0 as0 H0 I ρ (as.set i (some p)) H where
  ex := g.ex
  pre := g.pre
  fr := fun a u e i' r s => by
    obtain ⟨e1, e2, e3, e4⟩ := g.fr a u e i' r s
    refine ⟨e1, e2, e3, fun hm => ?_⟩
    obtain ⟨n, hn⟩ := List.mem_iff_getElem?.mp hm
    rcases lset hn with ⟨_, z⟩ | ⟨_, z⟩
    · cases z
      exact ne_of_none e hp rfl
    · exact e4 (List.mem_of_getElem? z)
  dom := g.dom
/-- a slot's own list is frozen where it stands -/
theorem Good.thaw {a : Addr} {l : List Val} {xs : List V} (g : Good G K I ρ as env h σ H) {i : Nat} (ei : as[i]? = some (some a)) (es : σ[i]? = some (some (.ref a))) (hH : H a = some (.lst xs)) (r : RepL G K I ρ xs l) :
    Good G K (upd I a (.lst xs)) ρ (as.set i none) (env.set i (.va (.lst l))) h σ H ∧ Go I ρ as H (upd I a (.lst xs)) ρ (as.set i none) H := by
  obtain ⟨i1, n1⟩ := g.env.off a (List.mem_of_getElem? ei)
  have g1 := (g.unset (y := some (.ref a)) i)
  have e1 : σ.set i (some (.ref a)) = σ := by
    refine List.ext_getElem? fun j => ?_
    by_cases z : i = j
    · subst z
      have hl : i < σ.length := (List.getElem?_eq_some_iff.mp es).1
      rw [List.getElem?_set_self hl, es]
    · rw [List.getElem?_set_ne z]
  rw [e1] at g1
  have n2 : some a ∉ as.set i none := fun hm => by
    obtain ⟨n, hn⟩ := List.mem_iff_getElem?.mp hm
    rcases lset hn with ⟨_, z⟩ | ⟨z, hz⟩
    · cases z
    · exact z (g.env.inj n i a hz ei)
  have g2 := g1.freeze hH i1 n1 n2
  have g3 := g2.set (x := .ref a) (v := .lst l) i (.lst upd_same (r.mono (Ex.new i1) List.prefix_rfl))
  rw [e1] at g3
  have e2 : (as.set i none).set i none = as.set i none := by simp
  have e3 : (env.set i Slot.un).set i (.va (.lst l)) = env.set i (.va (.lst l)) := by simp
  rw [e2, e3] at g3
  refine ⟨g3, Ex.new i1, List.prefix_rfl, fun b o e i' r' s => ?_, fun _ o e => ⟨o, e⟩⟩
  have nb : b ≠ a := fun z => s (z ▸ List.mem_of_getElem? ei)
  exact ⟨e, by rw [upd_ne nb]; exact i', r', fun hm => s (mem_set_none hm)⟩
end

/-! ### small statements -/
def mSeq (m1 m2 : Stm) : Stm := fun env h => match m1 env h with
  | .nx e h' => m2 e h'
  | o => o
def mNext : Stm := fun env h => .nx env h
def mBad : Stm := fun _ _ => .bad
def exS (env : SEnv) {α : Type} (r : Re α) (f : α → Hep → SO) : SO := match r with
  | .ok v h => f v h
  | .exc C fs h => .exc C fs env h
  | .bad => .bad
def mDrop (m : Ex1) : Stm := fun env h => exS env (m env h) fun _ h1 => .nx env h1
def mRet (m : Ex1) : Stm := fun env h => exS env (m env h) fun v h1 => match v with
  | .loc i => match env[i]? with
    | some (.ow c) => .rc c h1
    | _ => .bad
  | v => .rt v h1
def mRetN : Stm := fun _ h => .rt .non h
def mSet (i : Nat) (m : Ex1) : Stm := fun env h => exS env (m env h) fun v h1 => if clean v then .nx (env.set i (.va v)) h1 else .bad
def mOwn (i : Nat) (m : ExL) : Stm := fun env h => exS env (m env h) fun l h1 => .nx (env.set i (.ow (.lst l))) h1
def mFz (i : Nat) : Stm := fun env h => match env[i]? with
  | some (.ow (.lst l)) => .nx (env.set i (.va (.lst l))) h
  | _ => .bad
def mIf (c : Ex1) (m1 m2 : Stm) : Stm := fun env h => exS env (c env h) fun v h1 => match v with
  | .bl true => m1 env h1
  | .bl false => m2 env h1
  | _ => .bad
def mBrk : Stm := fun env h => .bk env h
def mCont : Stm := fun env h => .ct env h
section
variable {G : Gm} {X : Cx} {W : WX} {e a b c : Expr} {st : Stmt} {rest sa sb : List Stmt} {m m1 m2 m3 mc : Ex1} {ml : ExL} {s1 s2 : Stm} {pos : Pos}
theorem cb_nil : CB G X W [] mNext := PSs.imp pss_nil fun D σ H ⟨I, ρ, as, env, h, g, q⟩ => q I ρ as σ H Go.refl g
theorem rd_seq {K : PySem.W.Frag} {D : Ends} {σ : St} {H : Hp} (q : rdS G K W (mSeq s1 s2) D σ H) : tSeq (rdS G K W s1) (rdS G K W s2) D σ H := by
  obtain ⟨I, ρ, as, env, h, g, q⟩ := q
  refine ⟨I, ρ, as, env, h, g, ?_⟩
  unfold mSeq at q
  cases e : s1 env h with
  | nx e1 h1 =>
    rw [e] at q
    intro I1 ρ1 as1 σ1 H1 g1 d1
    exact ⟨I1, ρ1, as1, e1, h1, d1, PoS.go g1 q⟩
  | rt v h1 => rw [e] at q; exact q
  | rc v h1 => rw [e] at q; exact q
  | bk e1 h1 => rw [e] at q; exact q
  | ct e1 h1 => rw [e] at q; exact q
  | exc C fs e1 h1 => rw [e] at q; exact q
  | bad => rw [e] at q; exact q
theorem cb_cons (h1 : CS G X W st s1) (h2 : CB G X W rest s2) : CB G X W (st :: rest) (mSeq s1 s2) := PSs.imp (pss_cons h1 h2) fun _ _ _ q => rd_seq q
theorem cb_one (h1 : CS G X W st s1) : CB G X W [st] s1 := pss_one h1
theorem cs_never : CS G X W st mBad := PS.imp ps_never fun D σ H ⟨I, ρ, as, env, h, g, q⟩ => q.elim
theorem cb_never {sts : List Stmt} : CB G X W sts mBad := PSs.imp pss_never fun D σ H ⟨I, ρ, as, env, h, g, q⟩ => q.elim
theorem cs_pass : CS G X W (.Pass pos) mNext := PS.imp ps_pass fun D σ H ⟨I, ρ, as, env, h, g, q⟩ => q I ρ as σ H Go.refl g
theorem cs_brk : CS G X W (.Break pos) mBrk := PS.imp ps_break fun D σ H ⟨I, ρ, as, env, h, g, q⟩ => q I ρ as σ H Go.refl g
theorem cs_cont : CS G X W (.Continue pos) mCont := PS.imp ps_continue fun D σ H ⟨I, ρ, as, env, h, g, q⟩ => q I ρ as σ H Go.refl g
/-- from an expression's end to a statement's -/
theorem exS_use {K : PySem.W.Frag} {D : Ends} {I : Hp} {ρ : List Addr} {as : Own} {env : SEnv} {σ : St} {H : Hp} {r : Re Val} {f : Val → Hep → SO} {Q : VK} (q : PoS G K W D I ρ as H (exS env r f))
    (k : ∀ v h', (∀ I' ρ' H' x, Go I ρ as H I' ρ' as H' → Good G K I' ρ' as env h' σ H' → RepX G K I' ρ' as x v → PoS G K W D I' ρ' as H' (f v h') → Q x H')) : PoE G K W Q I ρ as env σ H r := by
  cases r with
  | bad => exact q
  | exc C fs h1 => exact fun I' ρ' H' d g1 d1 x1 => q I' ρ' as σ H' d g1 d1 x1
  | ok v h1 => exact fun I' ρ' H' x g1 d1 r1 => k v h1 I' ρ' H' x g1 d1 r1 (PoS.go g1 q)
theorem exS_useL {K : PySem.W.Frag} {D : Ends} {I : Hp} {ρ : List Addr} {as : Own} {env : SEnv} {σ : St} {H : Hp} {r : Re (List Val)} {f : List Val → Hep → SO} {Q : VK} (q : PoS G K W D I ρ as H (exS env r f))
    (k : ∀ l h', (∀ I' ρ' H' p xs, Go I ρ as H I' ρ' as H' → Good G K I' ρ' as env h' σ H' → H p = none → H' p = some (.lst xs) → I' p = none → p ∉ ρ' → some p ∉ as → RepL G K I' ρ' xs l → PoS G K W D I ρ as H (f l h') → Q (.ref p) H')) : PoL G K W Q I ρ as env σ H r := by
  cases r with
  | bad => exact q
  | exc C fs h1 => exact fun I' ρ' H' d g1 d1 x1 => q I' ρ' as σ H' d g1 d1 x1
  | ok v h1 => exact fun I' ρ' H' p xs g1 d1 e1 e2 e3 e4 e5 r1 => k v h1 I' ρ' H' p xs g1 d1 e1 e2 e3 e4 e5 r1 q
theorem exS_useT {K : PySem.W.Frag} {D : Ends} {I : Hp} {ρ : List Addr} {as : Own} {env : SEnv} {σ : St} {H : Hp} {r : Re Val} {f : Bool → Hep → SO} {Q : Bool → Hp → Prop}
    (q : PoS G K W D I ρ as H (exS env r fun v h1 => match v with | .bl b => f b h1 | _ => .bad))
    (k : ∀ b h', (∀ I' ρ' H', Go I ρ as H I' ρ' as H' → Good G K I' ρ' as env h' σ H' → PoS G K W D I' ρ' as H' (f b h') → Q b H')) : PoT G K W Q I ρ as env σ H r := by
  cases r with
  | bad => exact q
  | exc C fs h1 => exact fun I' ρ' H' d g1 d1 x1 => q I' ρ' as σ H' d g1 d1 x1
  | ok v h1 =>
    cases v <;> try (exact q.elim)
    exact fun I' ρ' H' g1 d1 => k _ h1 I' ρ' H' g1 d1 (PoS.go g1 q)
theorem cs_expr (he : CE G X W e m) (hs : swapsWith e none pos.line X.env = pure false := by rfl) : CS G X W (.Expr e pos) (mDrop m) :=
  PS.imp (ps_expr he hs) fun D σ H ⟨I, ρ, as, env, h, g, q⟩ => ⟨I, ρ, as, env, h, g, exS_use q fun v h1 I1 ρ1 H1 x g1 d1 r1 q1 => q1 I1 ρ1 as σ H1 Go.refl d1⟩
theorem cs_doc {x j pos'} : CS G X W (.Expr (.Constant (.str x) j pos) pos') mNext := PS.imp ps_doc fun D σ H ⟨I, ρ, as, env, h, g, q⟩ => q I ρ as σ H Go.refl g
theorem cs_ret (he : CE G X W e m) : CS G X W (.Return (some e) pos) (mRet m) :=
  PS.imp (ps_ret he) fun D σ H ⟨I, ρ, as, env, h, g, q⟩ => ⟨I, ρ, as, env, h, g, exS_use q fun v h1 I1 ρ1 H1 x g1 d1 r1 q1 => by
    rcases r1 with r1 | ⟨i, a, rfl, ha, rfl⟩
    · cases r1 <;> exact q1 I1 ρ1 as H1 _ Go.refl d1.hp (by constructor <;> assumption)
    · change PoS G X.K W D I1 ρ1 as H1 (match env[i]? with | some (.ow c) => .rc c h1 | _ => .bad) at q1
      split at q1
      · rename_i c hl
        have hx := d1.own hl ha
        obtain ⟨i1, n1⟩ := d1.env.off a (List.mem_of_getElem? ha)
        exact q1 I1 ρ1 (as.set i none) H1 a (Go.set i) d1.hp (.inr (List.mem_of_getElem? ha)) hx i1 n1 fun hm => by
          obtain ⟨n, hn⟩ := List.mem_iff_getElem?.mp hm
          rcases lset hn with ⟨_, z⟩ | ⟨z, hz⟩
          · cases z
          · exact z (d1.env.inj n i a hz ha)
      · exact q1.elim⟩
theorem cs_retN : CS G X W (.Return none pos) mRetN := PS.imp ps_retN fun D σ H ⟨I, ρ, as, env, h, g, q⟩ => q I ρ as H .non Go.refl g.hp .non
theorem cs_if (hc : CT G X W c mc) (ha : CB G X W sa s1) (hb : CB G X W sb s2) : CS G X W (.If c sa sb pos) (mIf mc s1 s2) :=
  PS.imp (ps_if hc ha hb) fun D σ H ⟨I, ρ, as, env, h, g, q⟩ => ⟨I, ρ, as, env, h, g, by
    refine exS_useT (D := D) (f := fun b h1 => if b = true then s1 env h1 else s2 env h1) ?_ fun b h1 I1 ρ1 H1 g1 d1 q1 => ?_
    · refine cast (congrArg _ ?_) q
      unfold mIf
      congr 1
      funext v h1
      cases v <;> try rfl
      rename_i b
      cases b <;> rfl
    · cases b with
      | true => rw [if_pos rfl]; exact ⟨I1, ρ1, as, env, h1, d1, by rw [if_pos rfl] at q1; exact q1⟩
      | false => rw [if_neg Bool.false_ne_true]; exact ⟨I1, ρ1, as, env, h1, d1, by rw [if_neg Bool.false_ne_true] at q1; exact q1⟩⟩
theorem cs_set (i : Nat) {x : Str} {pos' : Pos} (hN : X.N.Nodup) (hi : X.N[i]? = some x) (hx : Loc X.env.scope x) (he : CE G X W e m) (hs : swapsWith e (some (.Name x pos')) pos.line X.env = pure false := by rfl)
    (hf : X.fn x = true ∨ X.env.scope.names.lookup x = some .local := by first | exact .inl rfl | exact .inr rfl | assumption) : CS G X W (.Assign [.Name x pos'] e pos) (mSet i m) :=
  PS.imp (ps_set hN hi hx he hs hf) fun D σ H ⟨I, ρ, as, env, h, g, q⟩ => ⟨I, ρ, as, env, h, g, exS_use q fun v h1 I1 ρ1 H1 x g1 d1 r1 q1 => by
    by_cases hc : clean v = true
    · rw [if_pos hc] at q1
      exact q1 I1 ρ1 _ _ H1 (Go.set i) (d1.set i (r1.cl hc))
    · rw [if_neg hc] at q1
      exact q1.elim⟩
theorem cs_own (i : Nat) {x : Str} {pos' : Pos} (hN : X.N.Nodup) (hi : X.N[i]? = some x) (hx : Loc X.env.scope x) (he : CL G X W e ml) (hs : swapsWith e (some (.Name x pos')) pos.line X.env = pure false := by rfl)
    (hf : X.fn x = true ∨ X.env.scope.names.lookup x = some .local := by first | exact .inl rfl | exact .inr rfl | assumption) : CS G X W (.Assign [.Name x pos'] e pos) (mOwn i ml) :=
  PS.imp (ps_set hN hi hx he hs hf) fun D σ H ⟨I, ρ, as, env, h, g, q⟩ => ⟨I, ρ, as, env, h, g, exS_useL q fun l h1 I1 ρ1 H1 p xs g1 d1 e1 e2 e3 e4 e5 r1 q1 =>
    q1 I1 ρ1 _ _ H1 (g1.own_ i e1) (d1.own_ i e3 e4 e5 ⟨xs, e2, r1⟩)⟩
/-- the slot's list is frozen: nothing of the program -/
theorem cb_fz (i : Nat) (h1 : CB G X W sa s1) : CB G X W sa (mSeq (mFz i) s1) := PSs.imp h1 fun D σ H ⟨I, ρ, as, env, h, g, q⟩ => by
  have q : PoS G X.K W D I ρ as H (match env[i]? with | some (.ow (.lst l)) => s1 (env.set i (.va (.lst l))) h | _ => .bad) := by
    refine cast (congrArg _ ?_) q
    unfold mSeq mFz
    cases hs : env[i]? with
    | none => rfl
    | some s =>
      cases s with
      | ow c => cases c <;> rfl
      | _ => rfl
  split at q
  · rename_i l hl
    · have l1 : i < as.length := by rw [g.env.l1]; exact (List.getElem?_eq_some_iff.mp hl).1
      have l2 : i < σ.length := by rw [g.env.l2]; exact (List.getElem?_eq_some_iff.mp hl).1
      obtain ⟨b, e1, e2, xs, hx, r⟩ := g.env.slot i _ _ _ hl (List.getElem?_eq_getElem l1) (List.getElem?_eq_getElem l2)
      obtain ⟨g2, k2⟩ := g.thaw (by rw [List.getElem?_eq_getElem l1, e1]) (by rw [List.getElem?_eq_getElem l2, e2]) hx r
      exact ⟨_, ρ, _, _, h, g2, PoS.go k2 q⟩
  · exact q.elim
end
end Mi
namespace Mi
open PySem L2

theorem RepV.tup_inv {G : Gm} {K : PySem.W.Frag} {I : Hp} {ρ : List Addr} {x : V} {l : List Val} (r : RepV G K I ρ x (.tup l)) : ∃ a xs, x = .ref a ∧ SqT K I a xs ∧ RepL G K I ρ xs l := by
  cases r with | tup h1 h2 => exact ⟨_, _, rfl, h1, h2⟩
theorem RepV.lst_inv {G : Gm} {K : PySem.W.Frag} {I : Hp} {ρ : List Addr} {x : V} {l : List Val} (r : RepV G K I ρ x (.lst l)) : ∃ a xs, x = .ref a ∧ I a = some (.lst xs) ∧ RepL G K I ρ xs l := by
  cases r with | lst h1 h2 => exact ⟨_, _, rfl, h1, h2⟩
theorem RepV.frl_inv {G : Gm} {K : PySem.W.Frag} {I : Hp} {ρ : List Addr} {x : V} {l : List Val} (r : RepV G K I ρ x (.frl l)) : ∃ a xs, x = .ref a ∧ SqL K I a xs ∧ RepL G K I ρ xs l := by
  cases r with | frl h1 h2 => exact ⟨_, _, rfl, h1, h2⟩
/-! ### targets -/
abbrev Tg := Val → SEnv → Option SEnv
def tgN (i : Nat) : Tg := fun v env => some (env.set i (.va v))
def tgs : List Tg → List Val → SEnv → Option SEnv
  | [], [], env => some env
  | t :: ts, v :: vs, env => (t v env).bind fun e => tgs ts vs e
  | _, _, _ => none
def tgT (ts : List Tg) : Tg := fun v env => match v with
  | .tup l => tgs ts l env
  | _ => none
theorem tgs_len : ∀ {ts : List Tg} {l : List Val} {env env' : SEnv}, tgs ts l env = some env' → l.length = ts.length
  | [], [], _, _, _ => rfl
  | [], _ :: _, _, _, e => by cases e
  | _ :: _, [], _, _, e => by cases e
  | t :: ts, v :: l, env, env', e => by
    obtain ⟨e1, h3, h4⟩ := Option.bind_eq_some_iff.mp (show (t v env).bind (fun e => tgs ts l e) = some env' from e)
    rw [List.length_cons, List.length_cons, tgs_len h4]
/-- all but the slots js stands -/
structure Off (js : List Nat) (σ σ' : St) (env env' : SEnv) (as as' : Own) : Prop where
  l : σ'.length = σ.length
  la : as'.length = as.length
  n : ∀ j ∈ js, ∀ o, as'[j]? = some o → o = none
  s : ∀ j, j ∉ js → σ'[j]? = σ[j]?
  e : ∀ j, j ∉ js → env'[j]? = env[j]?
  a : ∀ j, j ∉ js → as'[j]? = as[j]?
/-- the target t, which stores at the slots js -/
def rdG (G : Gm) (K : PySem.W.Frag) (js : List Nat) (t : Tg) : TG := fun x σ H Q => ∃ I ρ as env h v env', Good G K I ρ as env h σ H ∧ RepV G K I ρ x v ∧ t v env = some env' ∧
  ∀ as' σ', Go I ρ as H I ρ as' H → Good G K I ρ as' env' h σ' H → Off js σ σ' env env' as as' → Q σ' H
def rdGs (G : Gm) (K : PySem.W.Frag) (js : List Nat) (ts : List Tg) : TGs := fun xs σ H Q => ∃ I ρ as env h l env', Good G K I ρ as env h σ H ∧ RepL G K I ρ xs l ∧ tgs ts l env = some env' ∧
  ∀ as' σ', Go I ρ as H I ρ as' H → Good G K I ρ as' env' h σ' H → Off js σ σ' env env' as as' → Q σ' H
abbrev CG (G : Gm) (X : Cx) (js : List Nat) (tg : Expr) (t : Tg) : Prop := PG X tg (rdG G X.K js t)
theorem PG.imp {X : Cx} {e : Expr} {t t' : TG} (h : PG X e t) (k : ∀ v σ H Q, t' v σ H Q → t v σ H Q) : PG X e t' := ⟨fun p s σ H v u Q I r q => h.run p s σ H v u Q I r (k _ _ _ _ q)⟩
theorem PGs.imp {X : Cx} {e : List Expr} {t t' : TGs} (h : PGs X e t) (k : ∀ v σ H Q, t' v σ H Q → t v σ H Q) : PGs X e t' := ⟨fun p s σ H v u Q I r q => h.run p s σ H v u Q I r (k _ _ _ _ q)⟩
section
variable {G : Gm} {X : Cx} {pos : Pos} {js js2 : List Nat} {e : Expr} {es : List Expr} {t : Tg} {ts : List Tg}
theorem set_off {α : Type} {l : List α} {i j : Nat} {x : α} (h : j ∉ [i]) : (l.set i x)[j]? = l[j]? := List.getElem?_set_ne fun z => h (by simp [z])
theorem cg_name (i : Nat) {x : Str} (hN : X.N.Nodup) (hi : X.N[i]? = some x) (hx : Loc X.env.scope x) (hf : X.fn x = true ∨ X.env.scope.names.lookup x = some .local := by first | exact .inl rfl | exact .inr rfl | assumption) : CG G X [i] (.Name x pos) (tgN i) := by
  refine PG.imp (pg_name hN hi hx hf) fun v σ H Q ⟨I, ρ, as, env, h, w, env', g, r, e, q⟩ => ?_
  cases e
  refine q _ _ (Go.set i) (g.set i r) ⟨by simp, by simp, fun j hj o e => ?_, fun j hj => set_off hj, fun j hj => set_off hj, fun j hj => set_off hj⟩
  have : j = i := by simpa using hj
  subst this
  rcases lset e with ⟨_, z⟩ | ⟨z, _⟩
  · exact z
  · exact absurd rfl z
theorem cgs_nil : PGs X [] (rdGs G X.K [] []) := PGs.imp pgs_nil fun xs σ H Q ⟨I, ρ, as, env, h, l, env', g, r, e, q⟩ => by
  cases r with
  | nil => cases e; exact ⟨rfl, q _ _ Go.refl g ⟨rfl, rfl, fun j hj => by simp at hj, fun _ _ => rfl, fun _ _ => rfl, fun _ _ => rfl⟩⟩
  | cons _ _ => cases e
theorem cgs_cons (h1 : CG G X js e t) (h2 : PGs X es (rdGs G X.K js2 ts)) (hs : (assignEach (e :: es) X.env).map (·.2) = assign e X.env :: (assignEach es X.env).map (·.2) := by rfl) : PGs X (e :: es) (rdGs G X.K (js ++ js2) (t :: ts)) := by
  refine PGs.imp (pgs_cons h1 h2 hs) fun xs σ H Q ⟨I, ρ, as, env, h, l, env', g, r, e, q⟩ => ?_
  cases r with
  | nil => cases e
  | @cons x v xs l rx rl =>
    obtain ⟨e1, h3, h4⟩ := Option.bind_eq_some_iff.mp (show (t v env).bind (fun e => tgs ts l e) = some env' from e)
    refine ⟨x, xs, rfl, I, ρ, as, env, h, v, e1, g, rx, h3, fun as1 σ1 k1 g1 a1 => ?_⟩
    refine ⟨I, ρ, as1, e1, h, l, env', g1, rl, h4, fun as2 σ2 k2 g2 b1 => q as2 σ2 (k1.trans k2) g2 ⟨b1.l.trans a1.l, b1.la.trans a1.la, fun j hj o e => ?_, fun j hj => ?_, fun j hj => ?_, fun j hj => ?_⟩⟩
    · by_cases h2 : j ∈ js2
      · exact b1.n j h2 o e
      · rw [b1.a j h2] at e
        exact a1.n j ((List.mem_append.mp hj).resolve_right h2) o e
    all_goals rw [List.mem_append, not_or] at hj
    · rw [b1.s j hj.2, a1.s j hj.1]
    · rw [b1.e j hj.2, a1.e j hj.1]
    · rw [b1.a j hj.2, a1.a j hj.1]
theorem cg_tup {k n : Nat} (hc : X.calm = true) (h : PGs X es (rdGs G X.K js ts)) (hl : ts.length = n := by rfl)
    (hn : (assignEach es X.env).length = n := by rfl) (hst : (assignEach es X.env).findIdx? (·.1) = none := by rfl) : CG G X js (.Tuple es k pos) (tgT ts) := by
  refine PG.imp (pg_tup hc h hn hst) fun x σ H Q ⟨I, ρ, as, env, hh, w, env', g, r, e, q⟩ => ?_
  cases w <;> try (cases e; done)
  rename_i l
  obtain ⟨a, xs, rfl, hs, hr⟩ := r.tup_inv
  refine ⟨_, _, rfl, ex_t g.hp.ex hs, ?_, I, ρ, as, env, hh, l, env', g, hr, e, q⟩
  rw [hr.length, ← hl]
  exact tgs_len e
end

/-! ### what a loop goes over: a list of values, fixed -/
/-- J yields l, one after the other, in every state beyond I₀, ρ₀ -/
def Walks0 (G : Gm) (K : PySem.W.Frag) (J : It) (I0 : Hp) (ρ0 : List Addr) (l : List Val) : Prop := ∀ I ρ as env h σ H, Ex I0 I → ρ0 <+: ρ → Good G K I ρ as env h σ H →
  (∀ i v, l[i]? = some v → J.go i H ∧ ∀ x H', J.yld i H x H' → ∃ I', Go I ρ as H I' ρ as H' ∧ Good G K I' ρ as env h σ H' ∧ RepV G K I' ρ x v) ∧ ∀ i, l.length ≤ i → J.stop i H
def PoI (G : Gm) (K : PySem.W.Frag) (W : WX) (R : It → Hp → Prop) (I : Hp) (ρ : List Addr) (as : Own) (env : SEnv) (σ : St) (H : Hp) : Re (List Val) → Prop
  | .ok l h' => ∀ I' ρ' H' J, Go I ρ as H I' ρ' as H' → Good G K I' ρ' as env h' σ H' → Walks0 G K J I' ρ' l → R J H'
  | .exc C fs h' => ∀ I' ρ' H' d, Go I ρ as H I' ρ' as H' → Good G K I' ρ' as env h' σ H' → ExOk G K I' ρ' H' d fs → W (.ref (G.cl C)) d σ H'
  | .bad => False
def rdI (G : Gm) (K : PySem.W.Frag) (W : WX) (m : ExL) : TI := fun σ H R => ∃ I ρ as env h, Good G K I ρ as env h σ H ∧ PoI G K W R I ρ as env σ H (m env h)
abbrev CI (G : Gm) (X : Cx) (W : WX) (tg it : Expr) (m : ExL) : Prop := PI X tg it (rdI G X.K W m)
theorem PI.imp {X : Cx} {tg e : Expr} {t t' : TI} (h : PI X tg e t) (k : ∀ σ H Q, t' σ H Q → t σ H Q) : PI X tg e t' := ⟨fun p s σ H Q I q => h.run p s σ H Q I (k _ _ _ q)⟩
/-- a list or a tuple -/
theorem pi_seq {X : Cx} {tg l : Expr} {tl : TE} (hl : PE X l tl) : PI X tg l (fun σ H R => tl σ H fun x H1 => ∃ a, x = .ref a ∧ (((∃ xs, SqL X.K H1 a xs) ∧ R (Itl X.K a) H1) ∨ ((∃ xs, SqT X.K H1 a xs) ∧ R (Itt X.K a) H1))) := by
  refine ⟨fun pins s σ H R I h => ?_⟩
  refine thn (hl.run pins s σ H _ I h) fun v s1 ⟨x, H1, I1, r1, q1⟩ => ?_
  obtain ⟨a, e, q⟩ := q1
  subst e
  rcases q with ⟨⟨xs, hq⟩, q⟩ | ⟨⟨xs, hq⟩, q⟩
  · cases r1
    obtain ⟨its, rv, p, hz⟩ := I1.list hq
    refine wpAny_pyIter_list p.isList ?_
    refine ⟨s1.heap.objs.size, [s1.heap.objs.size], _, _, H1, rfl, I1.kept (t' := s1.toks) fun b o e => Heap.get?_push_of_some _ e, turn_list a _, ⟨_, Heap.get?_push_size _ rfl, rfl, rfl⟩, fun b hb => ?_, q⟩
    have e : b = s1.heap.objs.size := by simpa using hb
    subst e
    exact I1.fpOk (Nat.le_refl _) (I1.hok.fresh (Nat.le_refl _))
  · cases r1
    obtain ⟨its, rv, p, hz⟩ := I1.tuple hq
    refine wpAny_pyIter_tuple (show s1.heap.IsTuple a its.toArray from p) ?_
    refine ⟨s1.heap.objs.size, [s1.heap.objs.size], _, _, H1, rfl, I1.kept (t' := s1.toks) fun b o e => Heap.get?_push_of_some _ e, turn_tuple a _, ⟨_, Heap.get?_push_size _ rfl, rfl, rfl⟩, fun b hb => ?_, q⟩
    have e : b = s1.heap.objs.size := by simpa using hb
    subst e
    exact I1.fpOk (Nat.le_refl _) (I1.hok.fresh (Nat.le_refl _))
/-- the items of a frozen list or tuple -/
def mSeqV (m : Ex1) : ExL := fun env h => (m env h).bind fun v h1 => match v with
  | .lst l => .ok l h1
  | .frl l => .ok l h1
  | .tup l => .ok l h1
  | _ => .bad
/-- range(n), range(a, b) -/
def rangeV (a b : Int) : List Val := (List.range (b - a).toNat).map fun (i : Nat) => .int (a + i)
def rng1Of : Val → Option (List Val)
  | .int n => if -(2 ^ 62) ≤ n ∧ n < 2 ^ 62 then some (rangeV 0 n) else none
  | _ => none
def rng2Of : Val → Val → Option (List Val)
  | .int a, .int b => if (-(2 ^ 62) ≤ a ∧ a < 2 ^ 62) ∧ -(2 ^ 62) ≤ b ∧ b < 2 ^ 62 then some (rangeV a b) else none
  | _, _ => none
def mRng1 (m : Ex1) : ExL := fun env h => (m env h).bind fun v h1 => reO (rng1Of v) h1
def mRng2 (m1 m2 : Ex1) : ExL := fun env h => (m1 env h).bind fun v h1 => (m2 env h1).bind fun u h2 => reO (rng2Of v u) h2
section
variable {G : Gm} {X : Cx} {W : WX} {tg e a b c : Expr} {m m1 m2 m3 mc me : Ex1} {ml : ExL} {pos p : Pos}
theorem PoI.go {K : PySem.W.Frag} {I I' : Hp} {ρ ρ' : List Addr} {as : Own} {env : SEnv} {σ : St} {H H' : Hp} {R : It → Hp → Prop} {r : Re (List Val)} (g : Go I ρ as H I' ρ' as H') (h : PoI G K W R I ρ as env σ H r) : PoI G K W R I' ρ' as env σ H' r := by
  cases r with
  | ok v h' => exact fun _ _ _ J k gd w => h _ _ _ J (g.trans k) gd w
  | exc C fs h' => exact fun _ _ _ d k gd rp => h _ _ _ d (g.trans k) gd rp
  | bad => exact h
theorem walks_list {K : PySem.W.Frag} {I0 : Hp} {ρ0 : List Addr} {a : Addr} {xs : List V} {l : List Val} (hs : SqL K I0 a xs) (r : RepL G K I0 ρ0 xs l) : Walks0 G K (Itl K a) I0 ρ0 l := fun I ρ as env h σ H e p g => by
  have hs2 := ex_l (e.trans g.hp.ex) hs
  refine ⟨fun i v hv => ?_, fun i hi => ⟨xs, hs2, by rw [r.length]; exact hi⟩⟩
  obtain ⟨x, hx, rx⟩ := r.get hv
  refine ⟨⟨xs, x, hs2, hx⟩, fun y H' ⟨e1, hy⟩ => ⟨I, ?_, ?_, ?_⟩⟩
  · rw [e1]; exact Go.refl
  · rw [e1]; exact g
  · have := hy xs hs2
    rw [hx] at this
    cases this
    exact rx.mono e p
theorem walks_tup {K : PySem.W.Frag} {I0 : Hp} {ρ0 : List Addr} {a : Addr} {xs : List V} {l : List Val} (hs : SqT K I0 a xs) (r : RepL G K I0 ρ0 xs l) : Walks0 G K (Itt K a) I0 ρ0 l := fun I ρ as env h σ H e p g => by
  have hs2 := ex_t (e.trans g.hp.ex) hs
  refine ⟨fun i v hv => ?_, fun i hi => ⟨xs, hs2, by rw [r.length]; exact hi⟩⟩
  obtain ⟨x, hx, rx⟩ := r.get hv
  refine ⟨⟨xs, x, hs2, hx⟩, fun y H' ⟨e1, hy⟩ => ⟨I, ?_, ?_, ?_⟩⟩
  · rw [e1]; exact Go.refl
  · rw [e1]; exact g
  · have := hy xs hs2
    rw [hx] at this
    cases this
    exact rx.mono e p
theorem walks_rng {K : PySem.W.Frag} {I0 : Hp} {ρ0 : List Addr} {lo : Int} {n : Nat} : Walks0 G K (Itr lo n) I0 ρ0 ((List.range n).map fun (i : Nat) => .int (lo + i)) := fun I ρ as env h σ H e p g => by
  refine ⟨fun i v hv => ?_, fun i hi => (by simpa using hi : n ≤ i)⟩
  rw [List.getElem?_map] at hv
  obtain ⟨j, h1, h2⟩ := Option.map_eq_some_iff.mp hv
  obtain ⟨hl, h3⟩ := List.getElem?_eq_some_iff.mp h1
  have hj : j = i := by rw [List.getElem_range] at h3; exact h3.symm
  subst hj
  subst h2
  refine ⟨(by simpa using hl : j < n), fun y H' ⟨e1, hy⟩ => ⟨I, ?_, ?_, ?_⟩⟩
  · rw [e1]; exact Go.refl
  · rw [e1]; exact g
  · rw [hy]; exact .int _
theorem ci_seq (he : CE G X W e m) : CI G X W tg e (mSeqV m) := by
  refine PI.imp (pi_seq he) fun σ H R ⟨I, ρ, as, env, h, g, q⟩ => ?_
  refine ⟨I, ρ, as, env, h, g, ?_⟩
  unfold mSeqV at q
  cases e1 : m env h with
  | bad => rw [e1] at q; exact q
  | exc C fs h1 => rw [e1] at q; exact q
  | ok v h1 =>
    rw [e1] at q
    intro I1 ρ1 H1 x g1 d1 r1
    have q := PoI.go g1 q
    rcases r1 with r1 | ⟨i, a, rfl, _, _⟩
    · cases v <;> try (exact q.elim)
      · obtain ⟨a, xs, rfl, hs, hr⟩ := r1.tup_inv
        exact ⟨_, rfl, .inr ⟨⟨_, ex_t d1.hp.ex hs⟩, q I1 ρ1 H1 _ Go.refl d1 (walks_tup hs hr)⟩⟩
      · obtain ⟨a, xs, rfl, hs, hr⟩ := r1.lst_inv
        exact ⟨_, rfl, .inl ⟨⟨_, SqL.of (d1.hp.ex _ _ hs)⟩, q I1 ρ1 H1 _ Go.refl d1 (walks_list (SqL.of hs) hr)⟩⟩
      · obtain ⟨a, xs, rfl, hs, hr⟩ := r1.frl_inv
        exact ⟨_, rfl, .inl ⟨⟨_, ex_l d1.hp.ex hs⟩, q I1 ρ1 H1 _ Go.refl d1 (walks_list hs hr)⟩⟩
    · exact q.elim
theorem rd_rng1 {K : PySem.W.Frag} {σ : St} {H : Hp} {R : It → Hp → Prop} (q : rdI G K W (mRng1 m) σ H R) : iRng1 (tCons (rdE G K W m) tNil) σ H R := by
  obtain ⟨I, ρ, as, env, h, g, q⟩ := q
  refine ⟨I, ρ, as, env, h, g, ?_⟩
  unfold mRng1 at q
  cases e1 : m env h with
  | bad => rw [e1] at q; exact q
  | exc C fs h1 => rw [e1] at q; exact q
  | ok v h1 =>
    rw [e1] at q
    intro I1 ρ1 H1 x g1 d1 r1
    have q := PoI.go g1 q
    change PoI G K W R I1 ρ1 as env σ H1 (reO (rng1Of v) h1) at q
    cases e2 : rng1Of v with
    | none => rw [e2] at q; exact q.elim
    | some l =>
      rw [e2] at q
      unfold rng1Of at e2
      split at e2
      · split at e2
        · rename_i hz
          cases e2
          refine ⟨_, by rw [r1.int], hz.1, hz.2, q I1 ρ1 H1 _ Go.refl d1 ?_⟩
          unfold rangeV
          rw [Int.sub_zero]
          exact walks_rng
        · cases e2
      · cases e2
theorem ci_rng1 (hm : X.mg "range" = none) (he : CE G X W a m) (hg : Gl X "range" := by rfl) (hs : starEach [a] X.env = [(false, eval a X.env)] := by rfl) : CI G X W tg (.Call (.Name "range" p) [a] [] pos) (mRng1 m) :=
  PI.imp (pi_range1 hg hm (pa_cons he pa_nil hs) hs) fun _ _ _ q => rd_rng1 q
theorem ci_rng2 (hm : X.mg "range" = none) (ha : CE G X W a m1) (hb : CE G X W b m2) (hg : Gl X "range" := by rfl) (hs : starEach [a, b] X.env = [(false, eval a X.env), (false, eval b X.env)] := by rfl) (hs2 : starEach [b] X.env = [(false, eval b X.env)] := by rfl) :
    CI G X W tg (.Call (.Name "range" p) [a, b] [] pos) (mRng2 m1 m2) := by
  refine PI.imp (pi_range2 hg hm (pa_cons ha (pa_cons hb pa_nil hs2) (by rw [hs, hs2])) hs hs2) fun σ H R ⟨I, ρ, as, env, h, g, q⟩ => ?_
  refine ⟨I, ρ, as, env, h, g, ?_⟩
  unfold mRng2 at q
  cases e1 : m1 env h with
  | bad => rw [e1] at q; exact q
  | exc C fs h1 => rw [e1] at q; exact q
  | ok v h1 =>
    rw [e1] at q
    intro I1 ρ1 H1 x g1 d1 r1
    have q := PoI.go g1 q
    refine ⟨I1, ρ1, as, env, h1, d1, ?_⟩
    change PoI G X.K W R I1 ρ1 as env σ H1 ((m2 env h1).bind fun u h2 => reO (rng2Of v u) h2) at q
    cases e2 : m2 env h1 with
    | bad => rw [e2] at q; exact q
    | exc C fs h2 => rw [e2] at q; exact q
    | ok u h2 =>
      rw [e2] at q
      intro I2 ρ2 H2 y g2 d2 r2
      have q := PoI.go g2 q
      change PoI G X.K W R I2 ρ2 as env σ H2 (reO (rng2Of v u) h2) at q
      cases e3 : rng2Of v u with
      | none => rw [e3] at q; exact q.elim
      | some l =>
        rw [e3] at q
        unfold rng2Of at e3
        split at e3
        · split at e3
          · rename_i hz
            cases e3
            exact ⟨_, _, by rw [r1.int, r2.int], ⟨hz.1.1, hz.1.2, hz.2.1, hz.2.2⟩, q I2 ρ2 H2 _ Go.refl d2 walks_rng⟩
          · cases e3
        · cases e3
end

/-! ### for, while -/
def forL (t : Tg) (body : Stm) : List Val → Stm
  | [] => mNext
  | v :: r => fun env h => match t v env with
    | none => .bad
    | some e1 => match body e1 h with
      | .nx e h' => forL t body r e h'
      | .ct e h' => forL t body r e h'
      | .bk e h' => .nx e h'
      | o => o
def mFor (ms : ExL) (t : Tg) (body : Stm) : Stm := fun env h => exS env (ms env h) fun l h1 => forL t body l env h1
def whileF (c : Ex1) (body : Stm) : Nat → Stm
  | 0 => mBad
  | n + 1 => fun env h => exS env (c env h) fun v h1 => match v with
    | .bl b => if b = true then match body env h1 with
      | .nx e h' => whileF c body n e h'
      | .ct e h' => whileF c body n e h'
      | .bk e h' => .nx e h'
      | o => o
      else .nx env h1
    | _ => .bad
section
variable {G : Gm} {X : Cx} {W : WX} {tg it e a b c : Expr} {sb : List Stmt} {m m1 m2 m3 mc me : Ex1} {ml : ExL} {t : Tg} {js : List Nat} {body : Stm} {pos p : Pos} {k : Nat}
/-- from what is wanted behind the rest of a loop to what is wanted behind its body -/
theorem turn_of {K : PySem.W.Frag} {D : Ends} {N : St → Hp → Prop} {I : Hp} {ρ : List Addr} {as : Own} {H : Hp} {o : SO} {rest : Stm}
    (q : PoS G K W D I ρ as H (match o with | .nx e h' => rest e h' | .ct e h' => rest e h' | .bk e h' => .nx e h' | o => o))
    (hN : ∀ I' ρ' as' σ' H' e h', Go I ρ as H I' ρ' as' H' → Good G K I' ρ' as' e h' σ' H' → PoS G K W D I' ρ' as' H' (rest e h') → N σ' H') : PoS G K W { D with nx := N, ct := N, bk := D.nx } I ρ as H o := by
  cases o with
  | nx e h' => exact fun I' ρ' as' σ' H' g d => hN I' ρ' as' σ' H' e h' g d (PoS.go g q)
  | ct e h' => exact fun I' ρ' as' σ' H' g d => hN I' ρ' as' σ' H' e h' g d (PoS.go g q)
  | bk e h' => exact q
  | rt v h' => exact q
  | rc v h' => exact q
  | exc C fs e h' => exact q
  | bad => exact q
theorem rd_for {K : PySem.W.Frag} {D : Ends} {σ : St} {H : Hp} (q : rdS G K W (mFor ml t body) D σ H) : tFor (rdI G K W ml) (rdG G K js t) (rdS G K W body) D σ H := by
  obtain ⟨I, ρ, as, env, h, g, q⟩ := q
  refine ⟨I, ρ, as, env, h, g, ?_⟩
  unfold mFor at q
  cases e1 : ml env h with
  | bad => rw [e1] at q; exact q
  | exc C fs h1 =>
    rw [e1] at q
    exact fun I' ρ' H' d g1 d1 x1 => q I' ρ' as σ H' d g1 d1 x1
  | ok l h1 =>
    rw [e1] at q
    intro I1 ρ1 H1 J g1 d1 w1
    have q : PoS G K W D I1 ρ1 as H1 (forL t body l env h1) := PoS.go g1 q
    refine ⟨fun i m σ H => ∃ I ρ as env h, Ex I1 I ∧ ρ1 <+: ρ ∧ Good G K I ρ as env h σ H ∧ PoS G K W D I ρ as H (forL t body (l.drop i) env h) ∧ m = l.length - i ∧ i ≤ l.length,
      ⟨l.length, I1, ρ1, as, env, h1, Ex.refl _, List.prefix_rfl, d1, by rw [List.drop_zero]; exact q, by omega, by omega⟩, ?_⟩
    rintro i m σ2 H2 ⟨I2, ρ2, as2, env2, h2, x2, p2, d2, q2, hm, hi⟩
    obtain ⟨wk1, wk2⟩ := w1 I2 ρ2 as2 env2 h2 σ2 H2 x2 p2 d2
    by_cases hz : i = l.length
    · subst hz
      rw [List.drop_length] at q2
      exact .inl ⟨wk2 _ (Nat.le_refl _), q2 I2 ρ2 as2 σ2 H2 Go.refl d2⟩
    · have hl : i < l.length := by omega
      rw [List.drop_eq_getElem_cons hl] at q2
      obtain ⟨go, yl⟩ := wk1 i _ (List.getElem?_eq_getElem hl)
      refine .inr ⟨go, _, fun σ' H' w => ⟨l.length - (i + 1), by omega, w⟩, fun x H3 hy => ?_⟩
      obtain ⟨I3, g3, d3, r3⟩ := yl x H3 hy
      change PoS G K W D I2 ρ2 as2 H2 (match t l[i] env2 with | none => .bad | some e1 => match body e1 h2 with | .nx e h' => forL t body (l.drop (i + 1)) e h' | .ct e h' => forL t body (l.drop (i + 1)) e h' | .bk e h' => .nx e h' | o => o) at q2
      cases et : t l[i] env2 with
      | none => rw [et] at q2; exact q2.elim
      | some env3 =>
        rw [et] at q2
        refine ⟨I3, ρ2, as2, env2, h2, l[i], env3, d3, r3, et, fun as4 σ4 g4 d4 _ => ?_⟩
        refine ⟨I3, ρ2, as4, env3, h2, d4, turn_of (PoS.go (g3.trans g4) q2) fun I' ρ' as' σ' H' e h' g5 d5 q5 => ?_⟩
        exact ⟨I', ρ', as', e, h', (x2.trans g3.ex).trans g5.ex, p2.trans g5.pre, d5, q5, rfl, by omega⟩
theorem cs_for (bd : Bd X W k) (hi : CI G X W tg it ml) (hg : CG G X js tg t) (hb : CB G X W sb body) (hs : ∀ x, foldedSetIterable it X.env x = pure x := by intro _; rfl) : CS G X W (.For tg it sb [] pos) (mFor ml t body) :=
  PS.imp (ps_for bd.po bd.calm hi hg hb hs) fun _ _ _ q => rd_for q
theorem cs_while (bd : Bd X W k) (n : Nat) (hc : CT G X W c mc) (hb : CB G X W sb body) : CS G X W (.While c sb [] pos) (whileF mc body n) := by
  refine PS.imp (ps_while bd.po hc hb) fun D σ H ⟨I, ρ, as, env, h, g, q⟩ => ?_
  refine ⟨fun m σ H => ∃ I ρ as env h, Good G X.K I ρ as env h σ H ∧ PoS G X.K W D I ρ as H (whileF mc body m env h), ⟨n, I, ρ, as, env, h, g, q⟩, ?_⟩
  rintro m σ2 H2 ⟨I2, ρ2, as2, env2, h2, d2, q2⟩
  refine ⟨I2, ρ2, as2, env2, h2, d2, ?_⟩
  cases m with
  | zero => exact q2.elim
  | succ m =>
    unfold whileF at q2
    refine exS_useT q2 fun b h3 I3 ρ3 H3 g3 d3 q3 => ?_
    cases b with
    | false =>
      rw [if_neg Bool.false_ne_true] at q3 ⊢
      exact q3 I3 ρ3 as2 σ2 H3 Go.refl d3
    | true =>
      rw [if_pos rfl] at q3 ⊢
      refine ⟨_, fun σ' H' w => ⟨m, Nat.lt_succ_self m, w⟩, I3, ρ3, as2, env2, h3, d3, turn_of q3 fun I' ρ' as' σ' H' e h' g5 d5 q5 => ⟨I', ρ', as', e, h', d5, q5⟩⟩
end
end Mi
namespace Mi
open PySem L2

/-! ### comprehensions -/
def wipeE (env : SEnv) : List Nat → SEnv
  | [] => env
  | v :: vs => (wipeE env vs).set v .un
/-- none of the slots owns a cell -/
def noOw (env : SEnv) (vs : List Nat) : Bool := vs.all fun v => match env[v]? with
  | some (.ow _) => false
  | _ => true
def lcL (t : Tg) (c e : Ex1) (env : SEnv) : List Val → Hep → List Val → Re (List Val)
  | [], h, acc => .ok acc h
  | v :: r, h, acc => match t v env with
    | none => .bad
    | some e1 => match c e1 h with
      | .ok (.bl b) h1 => if b = true then match e e1 h1 with
        | .ok y h2 => if clean y = true ∧ acc.length < smx then lcL t c e env r h2 (acc ++ [y]) else .bad
        | _ => .bad
        else lcL t c e env r h1 acc
      | _ => .bad
def mLc (ms : ExL) (t : Tg) (c e : Ex1) (vs : List Nat) : ExL := fun env h => (ms env h).bind fun l h1 => if noOw env vs = true then lcL t c e (wipeE env vs) l h1 [] else .bad
abbrev W0 : WX := fun _ _ _ _ => False
section
variable {G : Gm} {K : PySem.W.Frag} {I I' : Hp} {ρ ρ' : List Addr} {as : Own} {env : SEnv} {h h' : Hep} {σ : St} {H H' : Hp}
theorem own_none (g : Good G K I ρ as env h σ H) {v : Nat} (hv : ∀ c, env[v]? ≠ some (.ow c)) : as.set v none = as := by
  refine List.ext_getElem? fun j => ?_
  by_cases z : v = j
  · subst z
    by_cases hl : v < as.length
    · rw [List.getElem?_set_self hl]
      have l1 : v < env.length := by rw [← g.env.l1]; exact hl
      have l2 : v < σ.length := by rw [g.env.l2]; exact l1
      have q := g.env.slot v _ _ _ (List.getElem?_eq_getElem l1) (List.getElem?_eq_getElem hl) (List.getElem?_eq_getElem l2)
      rw [List.getElem?_eq_getElem hl]
      cases e : env[v] with
      | un => rw [e] at q; rw [show as[v] = none from q]
      | va w => rw [e] at q; rw [show as[v] = none from q.1]
      | ow c => exact absurd (by rw [List.getElem?_eq_getElem l1, e]) (hv c)
      | ex C fs => rw [e] at q; rw [show as[v] = none from q.1]
    · rw [List.set_eq_of_length_le (by omega)]
  · rw [List.getElem?_set_ne z]
theorem wipeE_get {vs : List Nat} {j : Nat} (hj : j ∉ vs) : (wipeE env vs)[j]? = env[j]? := by
  induction vs with
  | nil => rfl
  | cons v vs ih =>
    rw [List.mem_cons, not_or] at hj
    unfold wipeE
    rw [List.getElem?_set_ne (Ne.symm hj.1), ih hj.2]
theorem wipe_get {vs : List Nat} {j : Nat} (hj : j ∉ vs) : (wipe σ vs)[j]? = σ[j]? := by
  induction vs with
  | nil => rfl
  | cons v vs ih =>
    rw [List.mem_cons, not_or] at hj
    unfold wipe
    rw [List.getElem?_set_ne (Ne.symm hj.1), ih hj.2]
theorem wipe_mem {vs : List Nat} {j : Nat} (hj : j ∈ vs) : (wipe σ vs)[j]? = if j < σ.length then some none else none := by
  induction vs with
  | nil => cases hj
  | cons v vs ih =>
    unfold wipe
    by_cases z : v = j
    · subst z
      by_cases hl : v < σ.length
      · rw [if_pos hl, List.getElem?_set_self (by rw [wipe_length]; exact hl)]
      · rw [if_neg hl, List.getElem?_eq_none (by simp [wipe_length]; omega)]
    · rw [List.getElem?_set_ne z]
      rcases List.mem_cons.mp hj with e | e
      · exact absurd e.symm z
      · exact ih e
theorem wipe_eq {σ' : St} {vs js : List Nat} (hs : ∀ j ∈ js, j ∈ vs) (hl : σ'.length = (wipe σ vs).length) (hσ : ∀ j, j ∉ js → σ'[j]? = (wipe σ vs)[j]?) : wipe σ' vs = wipe σ vs := by
  refine List.ext_getElem? fun j => ?_
  by_cases hj : j ∈ vs
  · rw [wipe_length] at hl
    rw [wipe_mem hj, wipe_mem hj, hl]
  · rw [wipe_get hj, hσ j fun z => hj (hs j z)]
theorem noOw_mem {vs : List Nat} (hn : noOw env vs = true) {v : Nat} (hv : v ∈ vs) (c : Cell) : env[v]? ≠ some (.ow c) := fun e => by
  have := List.all_eq_true.mp hn v hv
  rw [e] at this
  cases this
theorem Good.wiped (g : Good G K I ρ as env h σ H) : ∀ {vs : List Nat}, noOw env vs = true → Good G K I ρ as (wipeE env vs) h (wipe σ vs) H
  | [], _ => g
  | v :: vs, hn => by
    have hn2 : noOw env vs = true := by
      unfold noOw at hn ⊢
      rw [List.all_cons, Bool.and_eq_true] at hn
      exact hn.2
    have g1 := Good.wiped g hn2
    have g2 := g1.unset (y := none) v
    have hv : ∀ c, (wipeE env vs)[v]? ≠ some (.ow c) := fun c e => by
      by_cases hm : v ∈ vs
      · have := wipe_mem (σ := env.map fun _ => (none : Option V)) hm
        have key : ∀ {ws : List Nat}, v ∈ ws → (wipeE env ws)[v]? ≠ some (.ow c) := by
          intro ws
          induction ws with
          | nil => intro hw; cases hw
          | cons u us ih =>
            intro hw e
            unfold wipeE at e
            rcases lset e with ⟨_, z⟩ | ⟨z, e⟩
            · cases z
            · rcases List.mem_cons.mp hw with y | y
              · exact z y
              · exact ih y e
        exact key hm e
      · rw [wipeE_get hm] at e
        exact noOw_mem hn List.mem_cons_self c e
    rw [own_none g1 hv] at g2
    exact g2
/-- the frame of ahead, behind a block that left the owned cells -/
theorem Good.back {envB : SEnv} {σB : St} (g : Good G K I ρ as env h σ H) (k : Good G K I' ρ' as envB h' σB H') (e : Ex I I') (p : ρ <+: ρ') (hc : ∀ (j : Nat) (c : Cell), env[j]? = some (Slot.ow c) → envB[j]? = some (Slot.ow c) ∧ σB[j]? = σ[j]?) : Good G K I' ρ' as env h' σ H' := by
  refine ⟨k.hp, g.env.l1, g.env.l2, g.env.inj, k.env.off, fun i s o x h1 h2 h3 => ?_⟩
  cases s with
  | un => exact g.env.slot i _ o x h1 h2 h3
  | va v =>
    obtain ⟨a1, y, a2, a3⟩ := g.env.slot i _ o x h1 h2 h3
    exact ⟨a1, y, a2, a3.mono e p⟩
  | ow c =>
    obtain ⟨e1, e2⟩ := hc i c h1
    exact k.env.slot i _ o x e1 h2 (by rw [e2]; exact h3)
  | ex C fs =>
    obtain ⟨a1, a, d, a2, a3, a4⟩ := g.env.slot i _ o x h1 h2 h3
    exact ⟨a1, a, d, a2, a3, a4.mono e p⟩
theorem Good.unwipe {vs : List Nat} (g : Good G K I ρ as env h σ H) (hn : noOw env vs = true) (k : Good G K I' ρ' as (wipeE env vs) h' (wipe σ vs) H') (e : Ex I I') (p : ρ <+: ρ') : Good G K I' ρ' as env h' σ H' :=
  g.back k e p fun j c h1 => by
    have hi : j ∉ vs := fun z => noOw_mem hn z c h1
    exact ⟨by rw [wipeE_get hi]; exact h1, wipe_get hi⟩
/-- a loose object is changed -/
theorem Good.poke {D : Addr} {o o' : HO} (g : Good G K I ρ as env h σ H) (h0 : H D = some o) (h1 : I D = none) (h2 : D ∉ ρ) (h3 : some D ∉ as) : Good G K I ρ as env h σ (upd H D o') := by
  have ne : ∀ {a : Addr}, a ∈ ρ → a ≠ D := fun ha z => h2 (z ▸ ha)
  have ns : ∀ {a : Addr}, some a ∈ as → a ≠ D := fun ha z => h3 (z ▸ ha)
  refine ⟨g.hp.mono (Ex.refl _) (fun a u e => ?_) g.hp.off fun a ha o e => by rw [upd_ne (ne ha)]; exact e,
    g.env.mono (Ex.refl _) List.prefix_rfl g.env.off fun a ha o e => by rw [upd_ne (ns ha)]; exact e⟩
  have : a ≠ D := fun z => by rw [z, h1] at e; cases e
  rw [upd_ne this]
  exact g.hp.ex _ _ e
theorem Go.poke {I0 : Hp} {ρ0 : List Addr} {as0 : Own} {H0 : Hp} {D : Addr} {o' : HO} (g : Go I0 ρ0 as0 H0 I ρ as H) (hD : H0 D = none) : Go I0 ρ0 as0 H0 I ρ as (upd H D o') where
  ex := g.ex
  pre := g.pre
  fr := fun a u e i r s => by
    obtain ⟨e1, e2, e3, e4⟩ := g.fr a u e i r s
    exact ⟨by rw [upd_ne (ne_of_none e hD)]; exact e1, e2, e3, e4⟩
  dom := fun a u e => by
    obtain ⟨o, h⟩ := g.dom a u e
    exact ⟨o, by rw [upd_ne (ne_of_none e hD)]; exact h⟩
theorem wipeE_un {vs : List Nat} {j : Nat} (hj : j ∈ vs) {s : Slot} (e : (wipeE env vs)[j]? = some s) : s = .un := by
  induction vs with
  | nil => cases hj
  | cons u us ih =>
    unfold wipeE at e
    rcases lset e with ⟨_, z⟩ | ⟨z, e⟩
    · exact z
    · rcases List.mem_cons.mp hj with y | y
      · exact absurd y z
      · exact ih y e
end
/-- the tests of a comprehension: none, one -/
abbrev CTs (G : Gm) (X : Cx) (ifs : List Expr) (m : Ex1) : Prop := PTs X ifs (rdT G X.K W0 m)
def mYes : Ex1 := mC (.bl true)
section
variable {G : Gm} {X : Cx} {W : WX} {tg it e : Expr} {ifs : List Expr} {c me : Ex1} {ml : ExL} {t : Tg} {js : List Nat} {pos : Pos} {k : Nat}
theorem cts_nil : CTs G X [] mYes := ⟨fun pins s σ H Q I ⟨J, ρ, as, env, h, g, q⟩ => pts_nil.run pins s σ H Q I (q J ρ H Go.refl g)⟩
theorem cts_one {a : Expr} (h : CT G X W0 a c) : CTs G X [a] c := pts_one h
theorem rd_lc {K : PySem.W.Frag} {vs : List Nat} {σ : St} {H : Hp} {Q : VK} (hj : ∀ j ∈ js, j ∈ vs) (q : rdL G K W (mLc ml t c me vs) σ H Q) : tLc (rdI G K W ml) (rdG G K js t) (rdT G K W0 c) (rdE G K W0 me) vs σ H Q := by
  obtain ⟨I, ρ, as, env, h, g, q⟩ := q
  refine ⟨I, ρ, as, env, h, g, ?_⟩
  unfold mLc at q
  cases e1 : ml env h with
  | bad => rw [e1] at q; exact q
  | exc C fs h1 => rw [e1] at q; exact q
  | ok l h1 =>
    rw [e1] at q
    intro I1 ρ1 H1 J g1 d1 w1
    have q := PoL.go g1 q
    change PoL G K W Q I1 ρ1 as env σ H1 (if noOw env vs = true then lcL t c me (wipeE env vs) l h1 [] else .bad) at q
    by_cases hn : noOw env vs = true
    · rw [if_pos hn] at q
      intro D hD
      refine ⟨fun i m H => ∃ I ρ h acc xs, Go I1 ρ1 as H1 I ρ as H ∧ Good G K I ρ as (wipeE env vs) h (wipe σ vs) H ∧ H D = some (.lst xs) ∧ I D = none ∧ D ∉ ρ ∧ some D ∉ as ∧ RepL G K I ρ xs acc ∧
        lcL t c me (wipeE env vs) (l.drop i) h acc = lcL t c me (wipeE env vs) l h1 [] ∧ m = l.length - i ∧ i ≤ l.length,
        ⟨l.length, I1, ρ1, h1, [], [], Go.loose d1 hD, (d1.wiped hn).loose hD, upd_same, d1.hp.fr hD, d1.hp.nin hD, d1.env.nin hD, .nil, by rw [List.drop_zero], by omega, by omega⟩, ?_⟩
      rintro i m H2 ⟨I2, ρ2, h2, acc, xs, g2, d2, e2, i2, n2, s2, r2, eq, hm, hi2⟩
      obtain ⟨wk1, wk2⟩ := w1 I2 ρ2 as _ h2 _ H2 g2.ex g2.pre d2
      by_cases hz : i = l.length
      · subst hz
        rw [List.drop_length] at eq
        rw [← eq] at q
        exact .inl ⟨wk2 _ (Nat.le_refl _), q I2 ρ2 H2 D xs g2 (d1.unwipe hn d2 g2.ex g2.pre) hD e2 i2 n2 s2 r2⟩
      · have hl : i < l.length := by omega
        rw [List.drop_eq_getElem_cons hl] at eq
        obtain ⟨go, yl⟩ := wk1 i _ (List.getElem?_eq_getElem hl)
        refine .inr ⟨go, _, fun H' w => ⟨l.length - (i + 1), by omega, w⟩, fun x H3 hy => ?_⟩
        obtain ⟨I3, g3, d3, r3⟩ := yl x H3 hy
        have eq2 : (match t l[i] (wipeE env vs) with
          | none => .bad
          | some e1 => match c e1 h2 with
            | .ok (.bl b) h1 => if b = true then match me e1 h1 with
              | .ok y h2 => if clean y = true ∧ acc.length < smx then lcL t c me (wipeE env vs) (l.drop (i + 1)) h2 (acc ++ [y]) else .bad
              | _ => .bad
              else lcL t c me (wipeE env vs) (l.drop (i + 1)) h1 acc
            | _ => .bad) = lcL t c me (wipeE env vs) l h1 [] := eq
        rw [← eq2] at q
        cases et : t l[i] (wipeE env vs) with
        | none => rw [et] at q; exact q.elim
        | some env3 =>
          simp only [et] at q eq2
          obtain ⟨b1, b2, b3, b4⟩ := g3.fr D _ e2 i2 n2 s2
          refine ⟨I3, ρ2, as, wipeE env vs, h2, l[i], env3, d3, r3, et, fun as4 σ4 g4 d4 off => ?_⟩
          refine ⟨wipe_eq hj off.l off.s, I3, ρ2, as4, env3, h2, d4, ?_⟩
          have ea : as4 = as := by
            refine List.ext_getElem? fun j => ?_
            by_cases hjj : j ∈ js
            · have q1 : ∀ o, as[j]? = some o → o = none := fun o e => by
                have l1 : j < (wipeE env vs).length := by rw [← d2.env.l1]; exact (List.getElem?_eq_some_iff.mp e).1
                have l2 : j < (wipe σ vs).length := by rw [d2.env.l2]; exact l1
                have := d2.env.slot j _ _ _ (List.getElem?_eq_getElem l1) e (List.getElem?_eq_getElem l2)
                rw [wipeE_un (hj j hjj) (List.getElem?_eq_getElem l1)] at this
                exact this
              by_cases hlt : j < as.length
              · have hlt4 : j < as4.length := by rw [off.la]; exact hlt
                rw [List.getElem?_eq_getElem hlt, List.getElem?_eq_getElem hlt4, q1 _ (List.getElem?_eq_getElem hlt), off.n j hjj _ (List.getElem?_eq_getElem hlt4)]
              · rw [List.getElem?_eq_none (l := as) (by omega), List.getElem?_eq_none (l := as4) (by rw [off.la]; omega)]
            · exact off.a j hjj
          subst ea
          have bk : ∀ {I' : Hp} {ρ' : List Addr} {h' : Hep} {H' : Hp}, Good G K I' ρ' as4 env3 h' σ4 H' → Ex I2 I' → ρ2 <+: ρ' → Good G K I' ρ' as4 (wipeE env vs) h' (wipe σ vs) H' := fun {I' ρ' h' H'} k e p =>
            d2.back k e p fun j c h1 => by
              have hjj : j ∉ js := fun z => by
                have := wipeE_un (hj j z) h1
                cases this
              exact ⟨by rw [off.e j hjj]; exact h1, off.s j hjj⟩
          have sD : some D ∉ as4 := (g4.fr D _ b1 b2 b3 b4).2.2.2
          cases ec : c env3 h2 with
          | bad => rw [ec] at q; exact q.elim
          | exc C fs h3 => rw [ec] at q; exact q.elim
          | ok v h3 =>
            rw [ec] at q eq2
            cases v <;> try (exact q.elim)
            rename_i b
            simp only at q eq2
            intro I5 ρ5 H5 g5 d5
            obtain ⟨f1, f2, f3, f4⟩ := g5.fr D _ b1 b2 b3 sD
            have gg := ((g2.trans g3).trans g4).trans g5
            have ex5 := (g3.ex.trans g4.ex).trans g5.ex
            have pr5 := (g3.pre.trans g4.pre).trans g5.pre
            cases b with
            | false =>
              rw [if_neg Bool.false_ne_true] at q eq2 ⊢
              exact ⟨I5, ρ5, h3, acc, xs, gg, bk d5 ex5 pr5, f1, f2, f3, f4, r2.mono ex5 pr5, eq2, rfl, by omega⟩
            | true =>
              rw [if_pos rfl] at q eq2 ⊢
              refine ⟨I5, ρ5, as4, env3, h3, d5, ?_⟩
              cases ee : me env3 h3 with
              | bad => rw [ee] at q; exact q.elim
              | exc C fs h4 => rw [ee] at q; exact q.elim
              | ok y h4 =>
                rw [ee] at q eq2
                simp only at q eq2
                by_cases hcl : clean y = true ∧ acc.length < smx
                · rw [if_pos hcl] at q eq2
                  intro I6 ρ6 H6 x6 g6 d6 r6
                  obtain ⟨k1, k2, k3, k4⟩ := g6.fr D _ f1 f2 f3 f4
                  have hlen : xs.length < sizeLine := by
                    rw [r2.length]
                    have := smx_line (n := acc.length + 1) (by omega)
                    omega
                  refine ⟨xs, k1, hlen, I6, ρ6, h4, acc ++ [y], xs ++ [x6], (gg.trans g6).poke hD, (bk d6 (ex5.trans g6.ex) (pr5.trans g6.pre)).poke k1 k2 k3 k4, upd_same, k2, k3, k4, ?_, eq2, rfl, by omega⟩
                  exact (r2.mono (ex5.trans g6.ex) (pr5.trans g6.pre)).append (.cons (r6.cl hcl.1) .nil)
                · rw [if_neg hcl] at q
                  exact q.elim
    · rw [if_neg hn] at q
      exact q.elim
theorem cl_lc {scope : Scope} {own : List (Str × Nat)} (bd : Bd X W k) (hN : X.N.Nodup) (hi : CI G X W tg it ml) (ok : BlkOk X.N X.env.scope scope own)
    (hg : ∀ (s : Shared) (H : Hp) (C : Addr) (cl : List (Str × Addr)) (fp : List Addr), CG G (X.blk s H scope (compEnvC scope cl C X.env) fp) js tg t)
    (ht : ∀ (s : Shared) (H : Hp) (C : Addr) (cl : List (Str × Addr)) (fp : List Addr), CTs G (X.blk s H scope (compEnvC scope cl C X.env) fp) ifs c)
    (he : ∀ (s : Shared) (H : Hp) (C : Addr) (cl : List (Str × Addr)) (fp : List Addr), CE G (X.blk s H scope (compEnvC scope cl C X.env) fp) W0 e me)
    (hj : ∀ j ∈ js, j ∈ own.map (·.2) := by decide) (hs : ∀ x, foldedSetIterable it X.env x = pure x := by intro _; rfl) :
    CL G X W (.ListComp e [⟨tg, it, ifs, 0⟩] scope pos) (mLc ml t c me (own.map (·.2))) :=
  PE.imp (pe_lc (g := rdG G X.K js t) (tt := rdT G X.K W0 c) (te := rdE G X.K W0 me) bd.calm hN hi ok hg ht he hs) fun _ _ _ q => rd_lc hj q
/-- name = [..], the name a local that no block takes -/
theorem cs_ownLc (i : Nat) {y : Str} {py spos : Pos} {scope : Scope} {own : List (Str × Nat)} (bd : Bd X W k) (hN : X.N.Nodup) (hy : X.N[i]? = some y) (hyl : X.env.scope.names.lookup y = some .local) (hk : X.env.scope.kind = .function) (hln : (py.line == pos.line) = true)
    (ha : (scope.names.any fun (n, k) => n == y && (k == .local || k == .cell)) = false) (hi : CI G X W tg it ml) (ok : BlkOk X.N X.env.scope scope own)
    (hg : ∀ (s : Shared) (H : Hp) (C : Addr) (cl : List (Str × Addr)) (fp : List Addr), CG G (X.blk s H scope (compEnvC scope cl C X.env) fp) js tg t)
    (ht : ∀ (s : Shared) (H : Hp) (C : Addr) (cl : List (Str × Addr)) (fp : List Addr), CTs G (X.blk s H scope (compEnvC scope cl C X.env) fp) ifs c)
    (he : ∀ (s : Shared) (H : Hp) (C : Addr) (cl : List (Str × Addr)) (fp : List Addr), CE G (X.blk s H scope (compEnvC scope cl C X.env) fp) W0 e me)
    (hj : ∀ j ∈ js, j ∈ own.map (·.2) := by decide) (hs : ∀ x, foldedSetIterable it X.env x = pure x := by intro _; rfl) :
    CS G X W (.Assign [.Name y py] (.ListComp e [⟨tg, it, ifs, 0⟩] scope pos) spos) (mOwn i (mLc ml t c me (own.map (·.2)))) :=
  PS.imp (ps_setLc (g := rdG G X.K js t) (tt := rdT G X.K W0 c) (te := rdE G X.K W0 me) bd.calm hN hy hyl (sw_true hk hyl hln ha) hi ok hg ht he hs) fun D σ H ⟨I, ρ, as, env, h, g, q⟩ =>
    rd_lc hj ⟨I, ρ, as, env, h, g, exS_useL q fun l h1 I1 ρ1 H1 p xs g1 d1 e1 e2 e3 e4 e5 r1 q1 => q1 I1 ρ1 _ _ H1 (g1.own_ i e1) (d1.own_ i e3 e4 e5 ⟨xs, e2, r1⟩)⟩
theorem cs_setLc (i : Nat) {y : Str} {py spos : Pos} {scope : Scope} {own : List (Str × Nat)} (bd : Bd X W k) (hN : X.N.Nodup) (hy : X.N[i]? = some y) (hyl : X.env.scope.names.lookup y = some .local) (hk : X.env.scope.kind = .function) (hln : (py.line == pos.line) = true)
    (ha : (scope.names.any fun (n, k) => n == y && (k == .local || k == .cell)) = false) (hi : CI G X W tg it ml) (ok : BlkOk X.N X.env.scope scope own)
    (hg : ∀ (s : Shared) (H : Hp) (C : Addr) (cl : List (Str × Addr)) (fp : List Addr), CG G (X.blk s H scope (compEnvC scope cl C X.env) fp) js tg t)
    (ht : ∀ (s : Shared) (H : Hp) (C : Addr) (cl : List (Str × Addr)) (fp : List Addr), CTs G (X.blk s H scope (compEnvC scope cl C X.env) fp) ifs c)
    (he : ∀ (s : Shared) (H : Hp) (C : Addr) (cl : List (Str × Addr)) (fp : List Addr), CE G (X.blk s H scope (compEnvC scope cl C X.env) fp) W0 e me)
    (hj : ∀ j ∈ js, j ∈ own.map (·.2) := by decide) (hs : ∀ x, foldedSetIterable it X.env x = pure x := by intro _; rfl) :
    CS G X W (.Assign [.Name y py] (.ListComp e [⟨tg, it, ifs, 0⟩] scope pos) spos) (mSet i (mFrz (mLc ml t c me (own.map (·.2))))) := by
  refine PS.imp (ps_setLc (g := rdG G X.K js t) (tt := rdT G X.K W0 c) (te := rdE G X.K W0 me) bd.calm hN hy hyl (sw_true hk hyl hln ha) hi ok hg ht he hs) fun D σ H ⟨I, ρ, as, env, h, g, q⟩ => rd_lc hj ⟨I, ρ, as, env, h, g, ?_⟩
  unfold mSet mFrz at q
  cases e1 : mLc ml t c me (own.map (·.2)) env h with
  | bad => rw [e1] at q; exact q
  | exc C fs h1 => rw [e1] at q; exact fun I' ρ' H' d g1 d1 x1 => q I' ρ' as σ H' d g1 d1 x1
  | ok l h1 =>
    rw [e1] at q
    intro I1 ρ1 H1 p xs g1 d1 hp0 hp i1 n1 s1 r1
    exact q _ ρ1 _ _ H1 ((g1.freeze hp0 i1).trans (Go.set i)) ((d1.freeze hp i1 n1 s1).set i (.lst upd_same (r1.mono (Ex.new i1) List.prefix_rfl)))
end
end Mi
namespace Mi
open PySem L2

/-! ### built-in functions of one argument -/
theorem CallR.or {X : Cx} {f : Value} {r r' : List V → Hp → VK → Prop} (h : CallR X f r) (h' : CallR X f r') : CallR X f (fun xs H Q => r xs H Q ∨ r' xs H Q) := by
  intro pins s σ H xs us Q I rx q
  rcases q with q | q
  · exact h pins s σ H xs us Q I rx q
  · exact h' pins s σ H xs us Q I rx q
section
variable {G : Gm} {X : Cx} {W : WX} {e a b c : Expr} {m m1 m2 m3 : Ex1} {ml : ExL} {x : Str} {id T : String} {r : List V → Hp → VK → Prop} {f : Op1} {p pos : Pos}
theorem ce_fnB (hc : CallR X (.builtin id) r) (hf : Op1Ok G X.K (fun x H Q => r [x] H Q) f) (hm : X.mg x = none) (hv : bootBuiltins x = some (.builtin id)) (ha : CE G X W a m) (hg : Gl X x := by rfl) (hn : x ≠ "__name__" := by decide) (hdb : (x == ("__debug__" : Str)) = false := by decide)
    (he : starEach [a] X.env = [(false, eval a X.env)] := by rfl) (hpl : (backTo pos (starEach [] X.env)).any (·.1) = false := by rfl) : CE G X W (.Call (.Name x p) [a] [] pos) (mUn f m) :=
  PE.imp (pe_callB hc hg hm hv (pa_cons ha pa_nil he) hn hdb he hpl) fun σ H Q q => rd_un hf q
theorem ce_fnT (hc : CallR X (.type T) r) (hf : Op1Ok G X.K (fun x H Q => r [x] H Q) f) (hm : X.mg x = none) (hv : bootBuiltins x = some (.type T)) (ha : CE G X W a m) (hg : Gl X x := by rfl) (hn : x ≠ "__name__" := by decide) (hdb : (x == ("__debug__" : Str)) = false := by decide)
    (he : starEach [a] X.env = [(false, eval a X.env)] := by rfl) (hpl : (backTo pos (starEach [] X.env)).any (·.1) = false := by rfl) : CE G X W (.Call (.Name x p) [a] [] pos) (mUn f m) :=
  PE.imp (pe_callTy hc hg hm hv (pa_cons ha pa_nil he) hn hdb he hpl) fun σ H Q q => rd_un hf q
def fLen : Op1 := fun env h v => match v with
  | .str s => if s.length ≤ smx then some (.int s.length) else none
  | v => match seqOf env h v with
    | some l => some (.int l.length)
    | none => (dicOf env h v).map fun l => .int l.length
theorem fLen_ok {K : PySem.W.Frag} : Op1Ok G K (fun x H Q => (∃ y n, [x] = [y] ∧ LenV K y H n ∧ Q (.int n) H) ∨ ∃ a kvs, [x] = [V.ref a] ∧ H a = some (.dK kvs) ∧ Q (.int kvs.length) H) fLen := by
  intro I ρ as env h σ H x v w Q g rx e q
  have sq : (match seqOf env h v with | some l => some (Val.int l.length) | none => (dicOf env h v).map fun l => .int l.length) = some w → ((∃ y n, [x] = [y] ∧ LenV K y H n ∧ Q (.int n) H) ∨ ∃ a kvs, [x] = [V.ref a] ∧ H a = some (.dK kvs) ∧ Q (.int kvs.length) H) := fun ev => by
    split at ev
    · rename_i l hl
      cases ev
      obtain ⟨p, ys, rfl, hq, r⟩ := seqOf_ok g rx hl
      refine Or.inl ⟨_, ys.length, rfl, ?_, by rw [r.length]; exact q _ (.inl (.int _))⟩
      rcases hq with hq | hq
      · exact .inl ⟨ys, hq, rfl⟩
      · exact .inr ⟨ys, hq, rfl⟩
    · obtain ⟨l, h1, h2⟩ := Option.map_eq_some_iff.mp ev
      subst h2
      obtain ⟨p, ys, rfl, hq, r⟩ := dicOf_ok g rx h1
      exact .inr ⟨p, ys, rfl, hq, by rw [r.length]; exact q _ (.inl (.int _))⟩
  cases v with
  | str s =>
    by_cases hz : s.length ≤ smx
    · have ef : fLen env h (.str s) = some (.int s.length) := if_pos hz
      rw [ef] at e
      cases e
      rw [rx.str]
      exact .inl ⟨_, s.length, rfl, ⟨smx_line hz, rfl⟩, q _ (.inl (.int _))⟩
    · have ef : fLen env h (.str s) = none := if_neg hz
      rw [ef] at e
      cases e
  | _ => exact sq e
theorem ce_len (hm : X.mg "len" = none) (ha : CE G X W a m) (hg : Gl X "len" := by rfl) (he : starEach [a] X.env = [(false, eval a X.env)] := by rfl) (hpl : (backTo pos (starEach [] X.env)).any (·.1) = false := by rfl) : CE G X W (.Call (.Name "len" p) [a] [] pos) (mUn fLen m) :=
  ce_fnB (CallR.or call_len call_lenD) fLen_ok hm PySem.boot_len ha hg (by decide) (by decide) he hpl
def fInt : Op1 := fun _ _ v => match v with
  | .int i => some (.int i)
  | .bl k => some (.int (if k then 1 else 0))
  | _ => none
theorem ce_int1 (hm : X.mg "int" = none) (ha : CE G X W a m) (hg : Gl X "int" := by rfl) (he : starEach [a] X.env = [(false, eval a X.env)] := by rfl) (hpl : (backTo pos (starEach [] X.env)).any (·.1) = false := by rfl) : CE G X W (.Call (.Name "int" p) [a] [] pos) (mUn fInt m) :=
  ce_fnT call_int1 (fun g rx e q => by
    unfold fInt at e
    split at e
    · cases e; exact .inl ⟨_, by rw [rx.int], q _ (.inl (.int _))⟩
    · cases e; exact .inr ⟨_, by rw [rx.bl], q _ (.inl (.int _))⟩
    · cases e) hm (by decide +kernel) ha hg (by decide) (by decide) he hpl
/-- list(xs): a new one -/
def mList (m : Ex1) : ExL := fun env h => (m env h).bind fun v h1 => reO (seqOf env h1 v) h1
theorem cl_list (hm : X.mg "list" = none) (ha : CE G X W a m) (hg : Gl X "list" := by rfl) (he : starEach [a] X.env = [(false, eval a X.env)] := by rfl) (hpl : (backTo pos (starEach [] X.env)).any (·.1) = false := by rfl) : CL G X W (.Call (.Name "list" p) [a] [] pos) (mList m) := by
  refine PE.imp (pe_callTy call_list_of hg hm (by decide +kernel) (pa_cons ha pa_nil he) (by decide) (by decide) he hpl) fun σ H Q ⟨I, ρ, as, env, h, g, q⟩ => ?_
  refine ⟨I, ρ, as, env, h, g, ?_⟩
  unfold mList at q
  cases e1 : m env h with
  | bad => rw [e1] at q; exact q
  | exc C fs h1 => rw [e1] at q; exact q
  | ok v h1 =>
    rw [e1] at q
    intro I1 ρ1 H1 x g1 d1 r1
    have q := PoL.go g1 q
    change PoL G X.K W Q I1 ρ1 as env σ H1 (reO (seqOf env h1 v) h1) at q
    cases e2 : seqOf env h1 v with
    | none => rw [e2] at q; exact q.elim
    | some l =>
      rw [e2] at q
      obtain ⟨a, xs, rfl, hq, r⟩ := seqOf_ok d1 r1 e2
      exact ⟨a, xs, rfl, hq, fun p hp => q I1 ρ1 _ p xs (Go.loose d1 hp) (d1.loose hp) hp upd_same (d1.hp.fr hp) (d1.hp.nin hp) (d1.env.nin hp) r⟩
end

/-! ### isinstance -/
inductive Ty where
  | b (n : String) | c (C : Nat)
def tyOf (env : SEnv) (h : Hep) : Val → Option Ty
  | .non => some (.b "NoneType")
  | .bl _ => some (.b "bool")
  | .int _ => some (.b "int")
  | .str _ => some (.b "str")
  | .obj C _ => some (.c C)
  | v => match tupOf v with
    | some _ => some (.b "tuple")
    | none => match rlstOf env h v with
      | some _ => some (.b "list")
      | none => match dicOf env h v with
        | some _ => some (.b "dict")
        | none => (insOf h v).map fun p => .c p.1
/-- what the written part says of a class that is asked for its type -/
structure ClsT (K : PySem.W.Frag) (C : Addr) : Prop where
  cl : Cls K C
  ha : PySem.W.findIn K (.ref C) "__class__" = some (some (.builtin "object.__class__"))
  hn : PySem.W.specialIn K (.builtin "object.__class__") "__get__" = some (some (.builtin "getset_descriptor.__get__"))
  htk : PySem.W.takesIn K (.builtin "object.__class__") = some true
  hm : PySem.W.mroIn K C (.type "object") = some true
def tyV (G : Gm) : Ty → Value
  | .b n => .type n
  | .c C => .ref (G.cl C)
theorem SqL.tyx {K : PySem.W.Frag} {H : Hp} {a : Addr} {xs : List V} (h : SqL K H a xs) : TyX K H (.ref a) (.type "list") := by
  rcases h with (h | ⟨o, h⟩) | ⟨o, its, n, h1, h2, _⟩
  · exact .base (.lst h)
  · exact .base (.frz h)
  · exact .kList h1 h2
theorem SqT.tyx {K : PySem.W.Frag} {H : Hp} {a : Addr} {xs : List V} (h : SqT K H a xs) : TyX K H (.ref a) (.type "tuple") := by
  rcases h with (h | ⟨o, h⟩) | ⟨o, its, n, h1, h2, _⟩
  · exact .base (.tup h)
  · exact .fTuple h
  · exact .kTuple h1 h2
section
variable {G : Gm} {K : PySem.W.Frag} {I : Hp} {ρ : List Addr} {as : Own} {env : SEnv} {h : Hep} {σ : St} {H : Hp} {x : V} {v : Val}
theorem tyOf_ok (g : Good G K I ρ as env h σ H) (r : RepX G K I ρ as x v) {t : Ty} (e : tyOf env h v = some t) (hc : ∀ C, t = .c C → ClsT K (G.cl C)) : TyX K H x (tyV G t) := by
  have ins : insOf h v = some (match t with | .c C => C | _ => 0, (insOf h v).map (·.2) |>.getD []) → (∃ C, t = .c C) → TyX K H x (tyV G t) := fun e ⟨C, ht⟩ => by
    subst ht
    obtain ⟨a, dx, gs, rfl, h1, h2⟩ := insOf_ok g.hp r e
    have T := hc C rfl
    exact .base (.ins h1 T.cl T.ha T.hn T.htk T.hm)
  have rest : (match tupOf v with | some _ => some (Ty.b "tuple") | none => match rlstOf env h v with | some _ => some (.b "list") | none => match dicOf env h v with | some _ => some (.b "dict") | none => (insOf h v).map fun p => .c p.1) = some t → TyX K H x (tyV G t) := fun e => by
    split at e
    · rename_i l hl
      cases e
      obtain ⟨a, xs, rfl, hq, _⟩ := tupOf_ok g r hl
      exact SqT.tyx hq
    · split at e
      · rename_i l hl
        cases e
        obtain ⟨a, xs, rfl, hq, _⟩ := rlstOf_ok g r hl
        exact SqL.tyx hq
      · split at e
        · rename_i l hl
          cases e
          obtain ⟨a, xs, rfl, hq, _⟩ := dicOf_ok g r hl
          exact .base (.dK hq)
        · obtain ⟨p, h1, h2⟩ := Option.map_eq_some_iff.mp e
          subst h2
          exact ins (by rw [h1]; rfl) ⟨p.1, rfl⟩
  cases v with
  | non => cases e; rw [r.non]; exact .base .non
  | bl b => cases e; rw [r.bl]; exact .base (.bl b)
  | int i => cases e; rw [r.int]; exact .base (.int i)
  | str s => cases e; rw [r.str]; exact .base (.str s)
  | obj C fs => cases e; exact ins rfl ⟨C, rfl⟩
  | tup l => exact rest e
  | lst l => exact rest e
  | dic l => exact rest e
  | frl l => exact rest e
  | ref l => exact rest e
  | loc l => exact rest e
end
/-- isinstance(x, T), T built in, n its name -/
def isiB (n : String) : Ty → Option Bool
  | .b m => some (m == n || (m == "bool" && n == "int"))
  | .c _ => none
def fIsi (ans : Ty → Option Bool) : Op1 := fun env h v => ((tyOf env h v).bind ans).map .bl
def tyNames : List String := ["NoneType", "bool", "int", "str", "tuple", "list", "dict"]
section
variable {G : Gm} {X : Cx} {W : WX} {e a b c : Expr} {m m1 m2 m3 : Ex1} {x : Str} {n : String} {p p2 pos : Pos}
theorem tyOf_name {env : SEnv} {h : Hep} {v : Val} {n : String} (e : tyOf env h v = some (.b n)) : n ∈ tyNames := by
  have rest : (match tupOf v with | some _ => some (Ty.b "tuple") | none => match rlstOf env h v with | some _ => some (.b "list") | none => match dicOf env h v with | some _ => some (.b "dict") | none => (insOf h v).map fun p => .c p.1) = some (Ty.b n) → n ∈ tyNames := fun e => by
    split at e
    · cases e; decide
    · split at e
      · cases e; decide
      · split at e
        · cases e; decide
        · obtain ⟨p, _, h2⟩ := Option.map_eq_some_iff.mp e
          cases h2
  cases v <;> first | (cases e; decide) | cases e | exact rest e
theorem kit_table : ∀ n ∈ tyNames, ∀ t ∈ ["bool", "int", "str", "tuple", "list", "dict"], kitB n t = some (n == t || (n == "bool" && t == "int")) := by decide +kernel
theorem ce_isiB (hm : X.mg "isinstance" = none) (hm2 : X.mg x = none) (hv : bootBuiltins x = some (.type n)) (hn : n ∈ ["bool", "int", "str", "tuple", "list", "dict"]) (ha : CE G X W a m) (hg : Gl X "isinstance" := by rfl) (hg2 : Gl X x := by rfl)
    (hnn : x ≠ "__name__" := by decide) (hdb : (x == ("__debug__" : Str)) = false := by decide)
    (he : starEach [a, .Name x p2] X.env = (false, eval a X.env) :: starEach [.Name x p2] X.env := by rfl) (hpl : (backTo pos (starEach [.Name x p2] X.env)).any (·.1) = false := by rfl) :
    CE G X W (.Call (.Name "isinstance" p) [a, .Name x p2] [] pos) (mUn (fIsi (isiB n)) m) := by
  refine PE.imp (pe_callB call_isi hg hm (by decide +kernel) (pa_cons ha (pa_cons (pe_bltn (v := .ty n) hg2 hm2 hv rfl hnn hdb) pa_nil) he) (by decide) (by decide) he hpl) fun σ H Q q => ?_
  refine rd_un (r := fun x H Q => rIsi X.K [x, .ty n] H Q) (fun {I ρ as env h σ H x v w Q} g rx e q => ?_) q
  obtain ⟨k, h1, h2⟩ := Option.map_eq_some_iff.mp e
  subst h2
  obtain ⟨t, h3, h4⟩ := Option.bind_eq_some_iff.mp h1
  cases t with
  | c C => cases h4
  | b m =>
    cases h4
    exact ⟨x, .ty n, .type m, .type n, _, rfl, .ty n, tyOf_ok g rx h3 (fun C z => by cases z), kit_ty (kit_table m (tyOf_name h3) n hn), q _ (.inl (.bl _))⟩
end

/-! ### an item -/
def fIx : Op2 := fun env h v u => match seqOf env h v with
  | some l => match u with
    | .int i => atI l i
    | _ => none
  | none => match dicOf env h v with
    | some kvs => (keyOf u).bind fun k => dval kvs k
    | none => match v, u with
      | .str z, .int i => if z.length ≤ smx then (atI z.cps.toList i).map fun c => .str ⟨#[c]⟩ else none
      | _, _ => none
def rDIx : R2 := fun x y H Q => ∃ a v, x = .ref a ∧ DGet H a y (some v) ∧ Q v H
theorem RepL.atI {G : Gm} {K : PySem.W.Frag} {I : Hp} {ρ : List Addr} {xs : List V} {l : List Val} (r : RepL G K I ρ xs l) {i : Int} {v : Val} (e : L2.atI l i = some v) : ∃ x, L2.atI xs i = some x ∧ RepV G K I ρ x v := by
  unfold L2.atI at e ⊢
  rw [r.length]
  obtain ⟨j, h1, h2⟩ := Option.bind_eq_some_iff.mp e
  obtain ⟨x, h3, h4⟩ := r.get h2
  exact ⟨x, by rw [h1]; exact h3, h4⟩
section
variable {G : Gm} {X : Cx} {W : WX} {e a b c : Expr} {m m1 m2 m3 : Ex1} {pos : Pos}
theorem ix_dict (hu : X.A.units + 64 < cLine) : IxR X rDIx := by
  intro value slice pins s σ H x y v u Q I rx ry h hs
  obtain ⟨a, z, rfl, g, q⟩ := h
  cases rx
  exact PyProof.Rows.tail_any (dict_typeIs I g) PySem.F.slot_dict_getitem.lookup (d_getItem (by omega) I g ry fun w' s3 I3 rw' => ⟨z, H, I3, rw', q⟩) hs
theorem fIx_ok {K : PySem.W.Frag} : Op2Ok G K (fun x y H Q => rIx K x y H Q ∨ rDIx x y H Q) fIx := by
  intro I ρ as env h σ H x y v u w Q g rx ry e q
  unfold fIx at e
  split at e
  · rename_i l hl
    split at e
    · rename_i i
      obtain ⟨a, xs, rfl, hq, r⟩ := seqOf_ok g rx hl
      obtain ⟨z, h1, h2⟩ := r.atI e
      rcases hq with hq | hq
      · exact .inl (.inl ⟨a, xs, i, z, rfl, ry.int, hq, h1, q _ (.inl h2)⟩)
      · exact .inl (.inr (.inl ⟨a, xs, i, z, rfl, ry.int, hq, h1, q _ (.inl h2)⟩))
    · cases e
  · split at e
    · rename_i kvs hl
      obtain ⟨a, xs, rfl, hq, r⟩ := dicOf_ok g rx hl
      obtain ⟨k, h1, h2⟩ := Option.bind_eq_some_iff.mp e
      rcases r.val k with ⟨h3, h4⟩ | ⟨z, w', h3, h4, h5⟩
      · rw [h4] at h2; cases h2
      · rw [h4] at h2
        cases h2
        rw [keyOf_ok ry h1]
        exact .inr ⟨a, z, rfl, by rw [← h3]; exact DGet.k hq, q _ (.inl h5)⟩
    · split at e
      · split at e
        · rename_i hz
          obtain ⟨c, h1, h2⟩ := Option.map_eq_some_iff.mp e
          subst h2
          exact .inl (.inr (.inr ⟨_, _, c, rx.str, ry.int, smx_line hz, h1, q _ (.inl (.str _))⟩))
        · cases e
      · cases e
theorem ce_ix (hu : X.A.units + 64 < cLine) (ha : CE G X W a m1) (hb : CE G X W b m2) (hs : PlainIx b := by exact fun _ _ => rfl) : CE G X W (.Subscript a b pos) (mBin fIx m1 m2) :=
  PE.imp (pe_ix (IxR.or ix_seq (ix_dict hu)) ha hb hs) fun _ _ _ q => rd_bin fIx_ok q
end

/-! ### cells change -/
def cellOf (env : SEnv) (h : Hep) : Val → Option Cell
  | .ref n => h[n]?
  | .loc i => match env[i]? with | some (.ow c) => some c | _ => none
  | _ => none
def storeC (env : SEnv) (h : Hep) (v : Val) (c : Cell) : SEnv × Hep := match v with
  | .ref n => (env, h.set n c)
  | .loc i => (env.set i (.ow c), h)
  | _ => (env, h)
section
variable {G : Gm} {K : PySem.W.Frag} {I : Hp} {ρ : List Addr} {as : Own} {env : SEnv} {h : Hep} {σ : St} {H : Hp} {x : V} {v : Val}
theorem nodup_get {α : Type} {l : List α} (hl : l.Nodup) {i j : Nat} {a : α} (h1 : l[i]? = some a) (h2 : l[j]? = some a) : i = j := by
  obtain ⟨l1, e1⟩ := List.getElem?_eq_some_iff.mp h1
  obtain ⟨l2, e2⟩ := List.getElem?_eq_some_iff.mp h2
  exact (List.getElem_inj hl).mp (e1.trans e2.symm)
theorem cell_store (g : Good G K I ρ as env h σ H) (r : RepX G K I ρ as x v) {c : Cell} (e : cellOf env h v = some c) : ∃ a, x = .ref a ∧ CellOk G K I ρ H a c ∧
    ∀ o c', CellOk G K I ρ (upd H a o) a c' → Good G K I ρ as (storeC env h v c').1 (storeC env h v c').2 σ (upd H a o) ∧ Go I ρ as H I ρ as (upd H a o) := by
  rcases r with r | ⟨i, a, rfl, ha, rfl⟩
  · cases v <;> try (cases e; done)
    · rename_i n
      cases r with
      | @ref a _ hn =>
        have hc : h[n]? = some c := e
        have ok := g.hp.at hc hn
        refine ⟨a, rfl, ok, fun o c' hc' => ?_⟩
        have ha : a ∈ ρ := List.mem_of_getElem? hn
        have hI := g.hp.off a ha
        refine ⟨⟨⟨?_, g.hp.nd, by show _ = (h.set n c').length; rw [List.length_set]; exact g.hp.len, g.hp.off, fun m d b hm hb => ?_⟩, g.env.mono (Ex.refl _) List.prefix_rfl g.env.off fun b hb o' e' => ?_⟩, Ex.refl _, List.prefix_rfl, fun b u e' i' r' s' => ?_, fun b u e' => ?_⟩
        · intro b u e'
          have : b ≠ a := fun z => by rw [z, hI] at e'; cases e'
          rw [upd_ne this]
          exact g.hp.ex _ _ e'
        · rcases lset (show (h.set n c')[m]? = some d from hm) with ⟨z, z2⟩ | ⟨z, hm⟩
          · subst z; subst z2
            rw [hn] at hb
            cases hb
            exact hc'
          · have : b ≠ a := fun y => z (nodup_get g.hp.nd hb (y ▸ hn))
            exact (g.hp.at hm hb).mono (Ex.refl _) List.prefix_rfl fun o' e' => by rw [upd_ne this]; exact e'
        · have : b ≠ a := fun z => (g.env.off b hb).2 (z ▸ ha)
          rw [upd_ne this]; exact e'
        · have : b ≠ a := fun z => r' (z ▸ ha)
          exact ⟨by rw [upd_ne this]; exact e', i', r', s'⟩
        · by_cases z : b = a
          · exact ⟨o, by rw [z, upd_same]⟩
          · exact ⟨u, by rw [upd_ne z]; exact e'⟩
    · cases r
  · have hc : env[i]? = some (.ow c) := by
      change (match env[i]? with | some (.ow c) => some c | _ => none) = some c at e
      split at e
      · rename_i c2 h2
        cases e
        exact h2
      · cases e
    have ok := g.own hc ha
    refine ⟨a, rfl, ok, fun o c' hc' => ?_⟩
    have ham : some a ∈ as := List.mem_of_getElem? ha
    obtain ⟨hI, hρ⟩ := g.env.off a ham
    have hx : ∀ {b : Addr}, b ∈ ρ → b ≠ a := fun hb z => hρ (z ▸ hb)
    refine ⟨⟨g.hp.mono (Ex.refl _) (fun b u e' => ?_) g.hp.off fun b hb o' e' => by rw [upd_ne (hx hb)]; exact e', by show as.length = (env.set i (.ow c')).length; rw [List.length_set]; exact g.env.l1, by show σ.length = (env.set i (.ow c')).length; rw [List.length_set]; exact g.env.l2, g.env.inj, g.env.off, fun j s o' y h1 h2 h3 => ?_⟩, Ex.refl _, List.prefix_rfl, fun b u e' i' r' s' => ?_, fun b u e' => ?_⟩
    · have : b ≠ a := fun z => by rw [z, hI] at e'; cases e'
      rw [upd_ne this]
      exact g.hp.ex _ _ e'
    · rcases lset (show (env.set i (.ow c'))[j]? = some s from h1) with ⟨z, z2⟩ | ⟨z, h1⟩
      · subst z; subst z2
        rw [ha] at h2
        cases h2
        obtain ⟨b, b1, b2, _⟩ := g.env.slot j _ _ _ hc ha h3
        cases b1
        exact ⟨a, rfl, b2, hc'⟩
      · refine (g.env.slot j s o' y h1 h2 h3).mono (Ex.refl _) List.prefix_rfl fun b hb u e' => ?_
        subst hb
        have : b ≠ a := fun y => z (g.env.inj j i a (y ▸ h2) ha)
        rw [upd_ne this]; exact e'
    · have : b ≠ a := fun z => s' (z ▸ ham)
      exact ⟨by rw [upd_ne this]; exact e', i', r', s'⟩
    · by_cases z : b = a
      · exact ⟨o, by rw [z, upd_same]⟩
      · exact ⟨u, by rw [upd_ne z]; exact e'⟩
end
end Mi
namespace Mi
open PySem L2

/-! ### an expression that makes a new cell, loose -/
abbrev ExC := SEnv → Hep → Re Cell
def PoC (G : Gm) (K : PySem.W.Frag) (W : WX) (Q : VK) (I : Hp) (ρ : List Addr) (as : Own) (env : SEnv) (σ : St) (H : Hp) : Re Cell → Prop
  | .ok c h' => ∀ I' ρ' H' p, Go I ρ as H I' ρ' as H' → Good G K I' ρ' as env h' σ H' → H p = none → CellOk G K I' ρ' H' p c → I' p = none → p ∉ ρ' → some p ∉ as → Q (.ref p) H'
  | .exc C fs h' => ∀ I' ρ' H' d, Go I ρ as H I' ρ' as H' → Good G K I' ρ' as env h' σ H' → ExOk G K I' ρ' H' d fs → W (.ref (G.cl C)) d σ H'
  | .bad => False
def rdC (G : Gm) (K : PySem.W.Frag) (W : WX) (m : ExC) : TE := fun σ H Q => ∃ I ρ as env h, Good G K I ρ as env h σ H ∧ PoC G K W Q I ρ as env σ H (m env h)
abbrev CC (G : Gm) (X : Cx) (W : WX) (e : Expr) (m : ExC) : Prop := PE X e (rdC G X.K W m)
def mLC (m : ExL) : ExC := fun env h => (m env h).bind fun l h1 => .ok (.lst l) h1
/-- a slot owns the new cell; the new cell is frozen; it becomes one of the heap -/
def mOwnC (i : Nat) (m : ExC) : Stm := fun env h => exS env (m env h) fun c h1 => .nx (env.set i (.ow c)) h1
def mFrzC (m : ExC) : Ex1 := fun env h => (m env h).bind fun c h1 => .ok (frzV c) h1
def mCelC (m : ExC) : Ex1 := fun env h => (m env h).bind fun c h1 => .ok (.ref h1.length) (h1 ++ [c])
section
variable {G : Gm} {X : Cx} {W : WX} {e a b c : Expr} {es : List Expr} {m m1 m2 m3 : Ex1} {ms ml : ExL} {mc : ExC} {pos : Pos}
theorem PoC.go {K : PySem.W.Frag} {I I' : Hp} {ρ ρ' : List Addr} {as : Own} {env : SEnv} {σ : St} {H H' : Hp} {Q : VK} {r : Re Cell} (g : Go I ρ as H I' ρ' as H') (h : PoC G K W Q I ρ as env σ H r) : PoC G K W Q I' ρ' as env σ H' r := by
  cases r with
  | ok v h' => exact fun _ _ _ p k gd hp => h _ _ _ p (g.trans k) gd (by
      cases e : H p with
      | none => rfl
      | some o => obtain ⟨o', e'⟩ := g.dom p o e; rw [e'] at hp; cases hp)
  | exc C fs h' => exact fun _ _ _ d k gd rp => h _ _ _ d (g.trans k) gd rp
  | bad => exact h
theorem cc_lst (h : CL G X W e ml) : CC G X W e (mLC ml) := by
  refine PE.imp h fun σ H Q ⟨I, ρ, as, env, h, g, q⟩ => ⟨I, ρ, as, env, h, g, ?_⟩
  unfold mLC at q
  cases e1 : ml env h with
  | bad => rw [e1] at q; exact q
  | exc C fs h1 => rw [e1] at q; exact q
  | ok l h1 =>
    rw [e1] at q
    exact fun I1 ρ1 H1 p xs g1 d1 hp0 hp i1 n1 s1 r1 => q I1 ρ1 H1 p g1 d1 hp0 ⟨xs, hp, r1⟩ i1 n1 s1
theorem exS_useC {K : PySem.W.Frag} {D : Ends} {I : Hp} {ρ : List Addr} {as : Own} {env : SEnv} {σ : St} {H : Hp} {r : Re Cell} {f : Cell → Hep → SO} {Q : VK} (q : PoS G K W D I ρ as H (exS env r f))
    (k : ∀ c h', (∀ I' ρ' H' p, Go I ρ as H I' ρ' as H' → Good G K I' ρ' as env h' σ H' → H p = none → CellOk G K I' ρ' H' p c → I' p = none → p ∉ ρ' → some p ∉ as → PoS G K W D I ρ as H (f c h') → Q (.ref p) H')) : PoC G K W Q I ρ as env σ H r := by
  cases r with
  | bad => exact q
  | exc C fs h1 => exact fun I' ρ' H' d g1 d1 x1 => q I' ρ' as σ H' d g1 d1 x1
  | ok v h1 => exact fun I' ρ' H' p g1 d1 e1 e2 e3 e4 e5 => k v h1 I' ρ' H' p g1 d1 e1 e2 e3 e4 e5 q
theorem exS_useA {K : PySem.W.Frag} {D : Ends} {I : Hp} {ρ : List Addr} {as : Own} {env : SEnv} {σ : St} {H : Hp} {r : Re (List Val)} {f : List Val → Hep → SO} {Q : List V → Hp → Prop} (q : PoS G K W D I ρ as H (exS env r f))
    (k : ∀ l h', (∀ I' ρ' H' xs, Go I ρ as H I' ρ' as H' → Good G K I' ρ' as env h' σ H' → RepL G K I' ρ' xs l → PoS G K W D I' ρ' as H' (f l h') → Q xs H')) : PoA G K W Q I ρ as env σ H r := by
  cases r with
  | bad => exact q
  | exc C fs h1 => exact fun I' ρ' H' d g1 d1 x1 => q I' ρ' as σ H' d g1 d1 x1
  | ok v h1 => exact fun I' ρ' H' xs g1 d1 r1 => k v h1 I' ρ' H' xs g1 d1 r1 (PoS.go g1 q)
theorem cs_ownC (i : Nat) {x : Str} {pos' : Pos} (hN : X.N.Nodup) (hi : X.N[i]? = some x) (hx : Loc X.env.scope x) (he : CC G X W e mc) (hs : swapsWith e (some (.Name x pos')) pos.line X.env = pure false := by rfl)
    (hf : X.fn x = true ∨ X.env.scope.names.lookup x = some .local := by first | exact .inl rfl | exact .inr rfl | assumption) : CS G X W (.Assign [.Name x pos'] e pos) (mOwnC i mc) :=
  PS.imp (ps_set hN hi hx he hs hf) fun D σ H ⟨I, ρ, as, env, h, g, q⟩ => ⟨I, ρ, as, env, h, g, exS_useC q fun c h1 I1 ρ1 H1 p g1 d1 e1 e2 e3 e4 e5 q1 =>
    q1 I1 ρ1 _ _ H1 (g1.own_ i e1) (d1.own_ i e3 e4 e5 e2)⟩
theorem ce_frzC (h : CC G X W e mc) : CE G X W e (mFrzC mc) := by
  refine PE.imp h fun σ H Q ⟨I, ρ, as, env, h, g, q⟩ => ⟨I, ρ, as, env, h, g, ?_⟩
  unfold mFrzC at q
  cases e1 : mc env h with
  | bad => rw [e1] at q; exact q
  | exc C fs h1 => rw [e1] at q; exact q
  | ok c h1 =>
    rw [e1] at q
    intro I1 ρ1 H1 p g1 d1 hp0 hc i1 n1 s1
    cases c with
    | lst l =>
      obtain ⟨xs, hp, r1⟩ := hc
      exact q _ ρ1 H1 (.ref p) (g1.freeze hp0 i1) (d1.freeze hp i1 n1 s1) (.inl (.lst upd_same (r1.mono (Ex.new i1) List.prefix_rfl)))
    | dic l =>
      obtain ⟨xs, hp, r1⟩ := hc
      exact q _ ρ1 H1 (.ref p) (g1.freeze hp0 i1) (d1.freeze hp i1 n1 s1) (.inl (.dic upd_same (r1.mono (Ex.new i1) List.prefix_rfl)))
    | ins C fs =>
      obtain ⟨dx, gs, hp, r1⟩ := hc
      exact q _ ρ1 H1 (.ref p) (g1.freeze hp0 i1) (d1.freeze hp i1 n1 s1) (.inl (.obj upd_same (r1.mono (Ex.new i1) List.prefix_rfl)))
theorem ce_celC (h : CC G X W e mc) : CE G X W e (mCelC mc) := by
  refine PE.imp h fun σ H Q ⟨I, ρ, as, env, h, g, q⟩ => ⟨I, ρ, as, env, h, g, ?_⟩
  unfold mCelC at q
  cases e1 : mc env h with
  | bad => rw [e1] at q; exact q
  | exc C fs h1 => rw [e1] at q; exact q
  | ok c h1 =>
    rw [e1] at q
    intro I1 ρ1 H1 p g1 d1 hp0 hc i1 n1 s1
    refine q I1 (ρ1 ++ [p]) H1 (.ref p) (g1.cell hp0) (d1.cell i1 n1 s1 hc) (.inl (.ref ?_))
    rw [← d1.hp.len, List.getElem?_append_right (Nat.le_refl _)]
    simp
/-- {} -/
def mDnew : ExC := fun _ h => .ok (.dic []) h
theorem cc_dnew : CC G X W (.Dict [] [] pos) mDnew := PE.imp pe_dnewK fun σ H Q ⟨I, ρ, as, env, h, g, q⟩ => fun p hp =>
  q I ρ _ p (Go.loose g hp) (g.loose hp) hp ⟨[], upd_same, .nil⟩ (g.hp.fr hp) (g.hp.nin hp) (g.env.nin hp)

/-! ### a cell changes: o.m(..), o[i] = v -/
def mMut (ok : Cell → Bool) (f : Cell → List Val → Option Cell) (mo : Ex1) (ms : ExL) : Stm := fun env h => exS env (mo env h) fun v h1 => match cellOf env h1 v with
  | some c => if ok c = true then exS env (ms env h1) fun l h2 => match cellOf env h2 v with
      | some c => match f c l with
        | some c' => .nx (storeC env h2 v c').1 (storeC env h2 v c').2
        | none => .bad
      | none => .bad
    else .bad
  | none => .bad
structure MutOk (G : Gm) (K : PySem.W.Frag) (T : String) (r : V → List V → Hp → VK → Prop) (ok : Cell → Bool) (f : Cell → List Val → Option Cell) : Prop where
  ty : ∀ {I : Hp} {ρ : List Addr} {H : Hp} {a : Addr} {c : Cell}, CellOk G K I ρ H a c → ok c = true → L2.tyV K T (.ref a) H
  run : ∀ {I : Hp} {ρ : List Addr} {H : Hp} {a : Addr} {c c' : Cell} {xs : List V} {l : List Val} {Q : VK}, CellOk G K I ρ H a c → RepL G K I ρ xs l → f c l = some c' → (∀ o, CellOk G K I ρ (upd H a o) a c' → Q .non (upd H a o)) → r (.ref a) xs H Q
variable {o : Expr} {mo mi mv : Ex1} {name : Str} {apos cpos : Pos} {T id : String} {r : V → List V → Hp → VK → Prop} {okc : Cell → Bool} {f : Cell → List Val → Option Cell}
theorem cs_mut (mk : MutOk G X.K T r okc f) (pa : PlainAttrs T) (slot : PySem.Slot T name id) (hty : typeOf (.builtin id) = pure (.type "method_descriptor")) (hm : MtR X id r) (ho : CE G X W o mo) (ha : CA G X W (e :: es) ms)
    (hbase : attributeBase o name X.env (eval o X.env) = eval o X.env := by rfl)
    (hfew : ((backTo cpos (starEach (e :: es) X.env)).all (fun x => !x.1) && (backToKw cpos (keywordEach [] X.env)).all (fun x => x.1.isSome)
      && decide ((e :: es).length + ([] : List Keyword).length + (if ([] : List Keyword).isEmpty then 0 else 1) < 30)) = true := by rfl)
    (hline : (apos.endLine == cpos.line) = true := by rfl) (hs : starEach (e :: es) X.env = (false, eval e X.env) :: starEach es X.env := by rfl) (hplain : (backTo cpos (starEach es X.env)).any (·.1) = false := by rfl)
    (hsw : swapsWith (.Call (.Attribute o name apos) (e :: es) [] cpos) none pos.line X.env = pure false := by rfl) :
    CS G X W (.Expr (.Call (.Attribute o name apos) (e :: es) [] cpos) pos) (mMut okc f mo ms) := by
  refine PS.imp (ps_expr (pe_bm pa slot hty hm ho ha hbase hfew hline hs hplain) hsw) fun D σ H ⟨I, ρ, as, env, h, g, q⟩ => ⟨I, ρ, as, env, h, g, exS_use q fun v h1 I1 ρ1 H1 x g1 d1 r1 q1 => ?_⟩
  cases e1 : cellOf env h1 v with
  | none => rw [e1] at q1; exact q1.elim
  | some c =>
    rw [e1] at q1
    change PoS G X.K W D I1 ρ1 as H1 (if okc c = true then _ else .bad) at q1
    by_cases hok : okc c = true
    · rw [if_pos hok] at q1
      obtain ⟨a, rfl, hc, _⟩ := cell_store d1 r1 e1
      refine ⟨mk.ty hc hok, I1, ρ1, as, env, h1, d1, exS_useA q1 fun l h2 I2 ρ2 H2 xs g2 d2 r2 q2 => ?_⟩
      cases e2 : cellOf env h2 v with
      | none => rw [e2] at q2; exact q2.elim
      | some c2 =>
        rw [e2] at q2
        change PoS G X.K W D I2 ρ2 as H2 (match f c2 l with | some c' => .nx (storeC env h2 v c').1 (storeC env h2 v c').2 | none => .bad) at q2
        cases e3 : f c2 l with
        | none => rw [e3] at q2; exact q2.elim
        | some c' =>
          rw [e3] at q2
          obtain ⟨a', ea, hc2, st⟩ := cell_store d2 (r1.mono g2.ex g2.pre) e2
          cases ea
          exact mk.run hc2 r2 e3 fun o ho => q2 _ _ _ _ _ (st o c' ho).2 (st o c' ho).1
    · rw [if_neg hok] at q1; exact q1.elim
def isLc : Cell → Bool
  | .lst _ => true
  | _ => false
theorem ty_lst {K : PySem.W.Frag} {I : Hp} {ρ : List Addr} {H : Hp} {a : Addr} {c : Cell} (h : CellOk G K I ρ H a c) (k : isLc c = true) : L2.tyV K "list" (.ref a) H := by
  cases c <;> try (cases k; done)
  obtain ⟨xs, h1, h2⟩ := h
  exact .inl ⟨rfl, _, SqL.of h1⟩
def fAppend : Cell → List Val → Option Cell
  | .lst l, [y] => if l.length < smx then some (.lst (l ++ [y])) else none
  | _, _ => none
def fInsert : Cell → List Val → Option Cell
  | .lst l, [.int i, y] => if l.length < smx ∧ 0 ≤ i ∧ i < 2 ^ 62 then some (.lst (l.take i.toNat ++ [y] ++ l.drop i.toNat)) else none
  | _, _ => none
theorem smx_lt {n : Nat} (h : n < smx) : n < sizeLine := Nat.lt_of_lt_of_le h (smx_line (Nat.le_refl _))
theorem append_ok {K : PySem.W.Frag} : MutOk G K "list" rAppend isLc fAppend := by
  refine ⟨ty_lst, fun {I ρ H a c c' xs l Q} hc rl e q => ?_⟩
  unfold fAppend at e
  split at e
  · rename_i l y
    split at e
    · rename_i hz
      cases e
      obtain ⟨ys, h1, h2⟩ := hc
      cases rl with | @cons x _ _ _ rx t =>
      cases t
      exact ⟨a, ys, x, rfl, rfl, h1, by rw [h2.length]; exact smx_lt hz, q _ ⟨_, upd_same, h2.append (.cons rx .nil)⟩⟩
    · cases e
  · cases e
theorem insert_ok {K : PySem.W.Frag} : MutOk G K "list" (fun x vs H Q => ∃ (l : Addr) (xs : List V) (i : Int) (y : V), x = .ref l ∧ vs = [.int i, y] ∧ H l = some (.lst xs) ∧ xs.length < sizeLine ∧ 0 ≤ i ∧ i < 2 ^ 63 ∧
    Q .non (upd H l (.lst (xs.take i.toNat ++ [y] ++ xs.drop i.toNat)))) isLc fInsert := by
  refine ⟨ty_lst, fun {I ρ H a c c' xs l Q} hc rl e q => ?_⟩
  unfold fInsert at e
  split at e
  · rename_i l i y
    split at e
    · rename_i hz
      cases e
      obtain ⟨ys, h1, h2⟩ := hc
      cases rl with | @cons x _ _ _ rx t =>
      cases rx
      cases t with | @cons x2 _ _ _ rx2 t2 =>
      cases t2
      exact ⟨a, ys, i, x2, rfl, rfl, h1, by rw [h2.length]; exact smx_lt hz.1, hz.2.1, by have := hz.2.2; omega, q _ ⟨_, upd_same, ((h2.take _).append (.cons rx2 .nil)).append (h2.drop _)⟩⟩
    · cases e
  · cases e
theorem cs_append (ho : CE G X W o mo) (ha : CE G X W e m)
    (hbase : attributeBase o "append" X.env (eval o X.env) = eval o X.env := by rfl)
    (hfew : ((backTo cpos (starEach [e] X.env)).all (fun x => !x.1) && (backToKw cpos (keywordEach [] X.env)).all (fun x => x.1.isSome)
      && decide (([e] : List Expr).length + ([] : List Keyword).length + (if ([] : List Keyword).isEmpty then 0 else 1) < 30)) = true := by rfl)
    (hline : (apos.endLine == cpos.line) = true := by rfl) (hs : starEach [e] X.env = (false, eval e X.env) :: starEach [] X.env := by rfl) (hplain : (backTo cpos (starEach [] X.env)).any (·.1) = false := by rfl)
    (hsw : swapsWith (.Call (.Attribute o "append" apos) [e] [] cpos) none pos.line X.env = pure false := by rfl) :
    CS G X W (.Expr (.Call (.Attribute o "append" apos) [e] [] cpos) pos) (mMut isLc fAppend mo (mCons m mNil)) :=
  cs_mut append_ok PySem.F.plainAttrs_list PySem.F.slot_list_append PySem.F.type_list_append mt_append ho (ca_cons ha ca_nil hs) hbase hfew hline hs hplain hsw

/-- o[i] = v -/
def fSetI : Cell → Val → Val → Option Cell
  | .lst l, .int k, v => (ixN l.length k).map fun j => .lst (l.set j v)
  | .dic kvs, i, v => (keyOf i).bind fun k => if kvs.length < smx then some (.dic (dput kvs k v)) else none
  | _, _, _ => none
def mSetI (me mo mi : Ex1) : Stm := fun env h => exS env (me env h) fun v h1 => if clean v then exS env (mo env h1) fun w h2 => exS env (mi env h2) fun i h3 => match cellOf env h3 w with
    | some c => match fSetI c i v with
      | some c' => .nx (storeC env h3 w c').1 (storeC env h3 w c').2
      | none => .bad
    | none => .bad
  else .bad
def rSetD : TSet := fun o i v H Q => ∃ a H', o = .ref a ∧ DPut H a i v H' ∧ Q H'
theorem set_dict (hu : X.A.units + 64 < cLine) : PSet X rSetD := by
  intro pins s σ H o i v ov iv u Q I ro ri rv ⟨a, H', e, g, q⟩
  subst e
  cases ro
  exact d_setItem (by omega) I g ri rv fun s' I' => ⟨H', I', q⟩
def rSetM : TSet := fun o i v H Q => rSetL o i v H Q ∨ rSetD o i v H Q
theorem set_m (hu : X.A.units + 64 < cLine) : PSet X rSetM := by
  intro pins s σ H o i v ov iv u Q I ro ri rv h
  rcases h with h | h
  · exact set_list pins s σ H o i v ov iv u Q I ro ri rv h
  · exact set_dict hu pins s σ H o i v ov iv u Q I ro ri rv h
theorem fSetI_ok {K : PySem.W.Frag} {I : Hp} {ρ : List Addr} {as : Own} {H : Hp} {a : Addr} {c c' : Cell} {xi xv : V} {i v : Val} {Q : Hp → Prop} (hc : CellOk G K I ρ H a c) (ri : RepX G K I ρ as xi i) (rv : RepV G K I ρ xv v) (e : fSetI c i v = some c') (q : ∀ o, CellOk G K I ρ (upd H a o) a c' → Q (upd H a o)) : rSetM (.ref a) xi xv H Q := by
  unfold fSetI at e
  split at e
  · rename_i l k v
    obtain ⟨j, h1, h2⟩ := Option.map_eq_some_iff.mp e
    subst h2
    obtain ⟨ys, h3, h4⟩ := hc
    exact .inl ⟨a, ys, _, j, rfl, ri.int, h3, by rw [h4.length]; exact h1, q _ ⟨_, upd_same, h4.set rv j⟩⟩
  · rename_i kvs i v
    obtain ⟨k, h1, h2⟩ := Option.bind_eq_some_iff.mp e
    split at h2
    · rename_i hz
      cases h2
      obtain ⟨ys, h3, h4⟩ := hc
      refine .inr ⟨a, _, rfl, ?_, q (.dK (putK ys k xv)) ⟨_, upd_same, h4.put rv k⟩⟩
      rw [keyOf_ok ri h1]
      exact DPut.k h3 (by rw [h4.length]; exact smx_lt hz)
    · cases h2
  · cases e
theorem cs_setI {i : Expr} {me : Ex1} {tpos : Pos} (hu : X.A.units + 64 < cLine) (he : CE G X W e me) (ho : CE G X W o mo) (hi : CE G X W i mi)
    (ha : ∀ v, assign (.Subscript o i tpos) X.env v = (do
      let ov ← holding [v] (eval o X.env)
      let iv ← holding [v, ov] (eval i X.env)
      standAt tpos
      holding [v, ov, iv] (setItem ov iv v)
      release [v, ov, iv] []) := by intro _; rfl)
    (hs : swapsWithSole [.Subscript o i tpos] e pos.line X.env = pure false := by rfl) (hw : swappedStores [.Subscript o i tpos] e X.env = pure none := by rfl)
    (h1 : (assignEach [.Subscript o i tpos] X.env).map (·.2) = [assign (.Subscript o i tpos) X.env] := by rfl) : CS G X W (.Assign [.Subscript o i tpos] e pos) (mSetI me mo mi) := by
  refine PS.imp (ps_asg he (pg_sub ho hi (set_m hu) ha) hs hw h1) fun D σ H ⟨I, ρ, as, env, h, g, q⟩ => ⟨I, ρ, as, env, h, g, exS_use q fun v h1 I1 ρ1 H1 x g1 d1 r1 q1 => ?_⟩
  by_cases hc : clean v = true
  · rw [if_pos hc] at q1
    refine ⟨I1, ρ1, as, env, h1, d1, exS_use q1 fun w h2 I2 ρ2 H2 y g2 d2 r2 q2 => ⟨I2, ρ2, as, env, h2, d2, exS_use q2 fun i h3 I3 ρ3 H3 z g3 d3 r3 q3 => ?_⟩⟩
    cases e1 : cellOf env h3 w with
    | none => rw [e1] at q3; exact q3.elim
    | some c =>
      rw [e1] at q3
      change PoS G X.K W D I3 ρ3 as H3 (match fSetI c i v with | some c' => .nx (storeC env h3 w c').1 (storeC env h3 w c').2 | none => .bad) at q3
      cases e2 : fSetI c i v with
      | none => rw [e2] at q3; exact q3.elim
      | some c' =>
        rw [e2] at q3
        obtain ⟨a, ea, hc2, st⟩ := cell_store d3 (r2.mono g3.ex g3.pre) e1
        subst ea
        exact fSetI_ok hc2 r3 (((r1.cl hc).mono g2.ex g2.pre).mono g3.ex g3.pre) e2 fun o ho => q3 _ _ _ _ _ (st o c' ho).2 (st o c' ho).1
  · rw [if_neg hc] at q1; exact q1.elim

/-! ### xs + ys -/
def mCat (m1 m2 : Ex1) : ExL := fun env h => (m1 env h).bind fun v h1 => (m2 env h1).bind fun u h2 => match lstOf env h2 v, lstOf env h2 u with
  | some l, some k => if l.length + k.length ≤ smx then .ok (l ++ k) h2 else .bad
  | _, _ => .bad
theorem cl_cat (ha : CE G X W a m1) (hb : CE G X W b m2) : CL G X W (.BinOp a .Add b pos) (mCat m1 m2) := by
  refine PE.imp (pe_op op_cat ha hb) fun σ H Q ⟨I, ρ, as, env, h, g, q⟩ => ⟨I, ρ, as, env, h, g, ?_⟩
  unfold mCat at q
  cases e1 : m1 env h with
  | bad => rw [e1] at q; exact q
  | exc C fs h1 => rw [e1] at q; exact q
  | ok v h1 =>
    rw [e1] at q
    intro I1 ρ1 H1 x g1 d1 r1
    have q := PoL.go g1 q
    refine ⟨I1, ρ1, as, env, h1, d1, ?_⟩
    change PoL G X.K W Q I1 ρ1 as env σ H1 ((m2 env h1).bind fun u h2 => match lstOf env h2 v, lstOf env h2 u with
      | some l, some k => if l.length + k.length ≤ smx then .ok (l ++ k) h2 else .bad
      | _, _ => .bad) at q
    cases e2 : m2 env h1 with
    | bad => rw [e2] at q; exact q
    | exc C fs h2 => rw [e2] at q; exact q
    | ok u h2 =>
      rw [e2] at q
      intro I2 ρ2 H2 y g2 d2 r2
      have q := PoL.go g2 q
      change PoL G X.K W Q I2 ρ2 as env σ H2 (match lstOf env h2 v, lstOf env h2 u with
      | some l, some k => if l.length + k.length ≤ smx then .ok (l ++ k) h2 else .bad
      | _, _ => .bad) at q
      cases e3 : lstOf env h2 v with
      | none => rw [e3] at q; exact q.elim
      | some l =>
        cases e4 : lstOf env h2 u with
        | none => rw [e3, e4] at q; exact q.elim
        | some k =>
          rw [e3, e4] at q
          change PoL G X.K W Q I2 ρ2 as env σ H2 (if l.length + k.length ≤ smx then .ok (l ++ k) h2 else .bad) at q
          by_cases hz : l.length + k.length ≤ smx
          · rw [if_pos hz] at q
            obtain ⟨a1, xs, rfl, h1, s1⟩ := lstOf_ok d2 (r1.mono g2.ex g2.pre) e3
            obtain ⟨a2, ys, rfl, h2, s2⟩ := lstOf_ok d2 r2 e4
            exact ⟨a1, a2, xs, ys, rfl, rfl, h1, h2, by rw [s1.length, s2.length]; exact smx_line hz, fun p hp =>
              q I2 ρ2 _ p _ (Go.loose d2 hp) (d2.loose hp) hp upd_same (d2.hp.fr hp) (d2.hp.nin hp) (d2.env.nin hp) (s1.append s2)⟩
          · rw [if_neg hz] at q; exact q.elim
end
end Mi
namespace Mi
open PySem L2

/-! ### defs that make cells, called -/
def arC (n : Nat) (f : FnC) : FnC := fun vs h => if vs.length = n then f vs h else .bad
def mCallC (f : FnC) (ms : ExL) : ExC := fun env h => (ms env h).bind fun vs h1 => f vs h1
section
variable {G : Gm} {X : Cx} {W : WX} {x : Str} {e : Expr} {es : List Expr} {ms : ExL} {p pos : Pos} {k n kk : Nat} {f : Fn} {fc : FnC}
theorem spC_use {K : PySem.W.Frag} {E : XK} {I : Hp} {ρ : List Addr} {as : Own} {env : SEnv} {h : Hep} {σ : St} {H : Hp} {Q : VK} {vs : List V} {l : List Val} (g : Good G K I ρ as env h σ H) (r : RepL G K I ρ vs l) (hn : l.length = n) (hE : ∀ c d H', W c d σ H' → E c d H')
    (q : PoC G K W Q I ρ as env σ H (fc l h)) : spC G K n fc vs H Q E := by
  refine ⟨by rw [r.length]; exact hn, I, ρ, h, l, g.hp, r, ?_⟩
  cases e : fc l h with
  | bad => rw [e] at q; exact q
  | exc C fs h1 =>
    rw [e] at q
    intro I' ρ' H' d k gd rx
    obtain ⟨k1, g1⟩ := Go.framed g k gd
    exact hE _ _ _ (q I' ρ' H' d k1 g1 rx)
  | ok v h1 =>
    rw [e] at q
    intro I' ρ' H' p k gd hp hc i n
    obtain ⟨k1, g1⟩ := Go.framed g k gd
    exact q I' ρ' H' p k1 g1 hp hc i n (g.env.nin hp)
theorem run_fnS0 {X : Cx} {CX : CXT} {k : Nat} {f : Addr} {fd : FuncData} {ps : List Str} {sp : Sp} {E : St → XK} {x : Str} {q pos : Pos} (F : FnOk X.prog X.w X.K X.mg X.base CX k f fd ps sp) (hr : Room k X.A) (hg : Gl X x) (hm : X.mg x = some (.ref f)) (hk : PySem.W.keepIn X.K (.ref f) = true) (hb : Binds X.K fd ps []) (hx : ∀ σ, PassesAt CX X σ (E σ))
    (hdb : (x == ("__debug__" : Str)) = false := by decide) : PE X (.Call (.Name x q) [] [] pos) (fun σ H Q => sp [] H Q (E σ)) := by
  refine ⟨fun pins s σ H Q I h => ?_⟩
  refine wpAny_Call_Name_kw (ld_glob I hg hm ?_ hdb)
  exact PySem.W.callWith_K0 I.kIn hk (run_fnS (us := []) F hr hb (hx σ) I .nil h)
theorem ce_callN (D : Df X.prog X.w X.K X.mg X.base G x k 0 f) (b : Bd X W kk) (hk : k ≤ kk) (hg : Gl X x := by rfl) (hdb : (x == ("__debug__" : Str)) = false := by decide) : CE G X W (.Call (.Name x p) [] [] pos) (mCall (ar 0 f) mNil) := by
  obtain ⟨fa, fd, ps, F, hm, kp, hb⟩ := D.ex
  exact PE.imp (run_fnS0 (E := WE W) F (b.room.mono hk) hg hm kp hb (fun σ => L2N.passAt b.tk σ) hdb) fun σ H Q ⟨I, ρ, as, env, h, g, q⟩ => spM_use g .nil rfl (fun _ _ _ z => z) q
theorem cc_call (D : DfC X.prog X.w X.K X.mg X.base G x k n fc) (b : Bd X W kk) (hk : k ≤ kk) (ha : CA G X W (e :: es) ms) (hg : Gl X x := by rfl)
    (hdb : (x == ("__debug__" : Str)) = false := by decide) (he : starEach (e :: es) X.env = (false, eval e X.env) :: starEach es X.env := by rfl) (hpl : (backTo pos (starEach es X.env)).any (·.1) = false := by rfl) :
    CC G X W (.Call (.Name x p) (e :: es) [] pos) (mCallC (arC n fc) ms) := by
  obtain ⟨fa, fd, ps, F, hm, kp, hb⟩ := D.ex
  refine PE.imp (pe_callS (E := WE W) F (b.room.mono hk) hg hm kp hb (fun σ => L2N.passAt b.tk σ) ha hdb he hpl) fun σ H Q ⟨I, ρ, as, env, h, g, q⟩ => ?_
  refine ⟨I, ρ, as, env, h, g, ?_⟩
  unfold mCallC at q
  cases e : ms env h with
  | bad => rw [e] at q; exact q
  | exc C fs h1 => rw [e] at q; exact q
  | ok vs h1 =>
    rw [e] at q
    intro I1 ρ1 H1 xs g1 d1 r1
    have q := PoC.go g1 q
    change PoC G X.K W Q I1 ρ1 as env σ H1 (if vs.length = n then fc vs h1 else .bad) at q
    by_cases hn : vs.length = n
    · rw [if_pos hn] at q
      exact spC_use d1 r1 hn (fun _ _ _ z => z) q
    · rw [if_neg hn] at q
      exact q.elim
/-- return of a new cell -/
def mRetC (m : ExC) : Stm := fun env h => exS env (m env h) fun c h1 => .rc c h1
theorem cs_retC {mc : ExC} (he : CC G X W e mc) : CS G X W (.Return (some e) pos) (mRetC mc) :=
  PS.imp (ps_ret he) fun D σ H ⟨I, ρ, as, env, h, g, q⟩ => ⟨I, ρ, as, env, h, g, exS_useC q fun c h1 I1 ρ1 H1 p g1 d1 e1 e2 e3 e4 e5 q1 => q1 I1 ρ1 as H1 p g1 d1.hp (.inl e1) e2 e3 e4 e5⟩
end

/-! ### fields -/
structure FldOk (G : Gm) (K : PySem.W.Frag) (C f : Nat) : Prop where
  cls : Cls K (G.cl C)
  no : NoAttr K (G.cl C) (G.fl f)
def putN (f : Nat) (v : Val) : List (Nat × Val) → List (Nat × Val)
  | [] => [(f, v)]
  | (g, x) :: r => if g = f then (g, v) :: r else (g, x) :: putN f v r
def fldOf (Cs : List Nat) (f : Nat) (h : Hep) (v : Val) : Option Val := (insOf h v).bind fun p => if Cs.contains p.1 then p.2.lookup f else none
def fFld (Cs : List Nat) (f : Nat) : Op1 := fun _ h v => fldOf Cs f h v
section
variable {G : Gm} {K : PySem.W.Frag} {I : Hp} {ρ : List Addr}
theorem RepF.lookup : ∀ {gs : List (Str × V)} {fs : List (Nat × Val)} (k : Nat), RepF G K I ρ gs fs → (gs.lookup (G.fl k) = none ∧ fs.lookup k = none) ∨ ∃ x v, gs.lookup (G.fl k) = some x ∧ fs.lookup k = some v ∧ RepV G K I ρ x v
  | _, _, k, .nil => .inl ⟨rfl, rfl⟩
  | _, _, k, .cons (k := k') (x := x) (v := v) (xs := xs) (l := l) r t => by
    by_cases e : k = k'
    · subst e
      exact .inr ⟨x, v, by simp [List.lookup], by simp [List.lookup], r⟩
    · have e1 : (k == k') = false := beq_eq_false_iff_ne.mpr e
      have e2 : (G.fl k == G.fl k') = false := beq_eq_false_iff_ne.mpr fun z => e (G.inj _ _ z)
      rcases RepF.lookup k t with ⟨h1, h2⟩ | ⟨y, u, h1, h2, h3⟩
      · exact .inl ⟨by simp only [List.lookup, e2, h1], by simp only [List.lookup, e1, h2]⟩
      · exact .inr ⟨y, u, by simp only [List.lookup, e2, h1], by simp only [List.lookup, e1, h2], h3⟩
theorem RepF.put {y : V} {w : Val} (ry : RepV G K I ρ y w) : ∀ {gs : List (Str × V)} {fs : List (Nat × Val)} (k : Nat), RepF G K I ρ gs fs → RepF G K I ρ (putF (G.fl k) y gs) (putN k w fs)
  | _, _, k, .nil => .cons ry .nil
  | _, _, k, .cons (k := k') (x := x) (v := v) (xs := xs) (l := l) r t => by
    by_cases e : k' = k
    · subst e
      simp only [putF, putN, if_true]
      exact .cons ry t
    · have e2 : ¬ G.fl k' = G.fl k := fun z => e (G.inj _ _ z)
      simp only [putF, putN, if_neg e, if_neg e2]
      exact .cons r (RepF.put ry k t)
theorem RepF.length : ∀ {gs : List (Str × V)} {fs : List (Nat × Val)}, RepF G K I ρ gs fs → gs.length = fs.length
  | _, _, .nil => rfl
  | _, _, .cons _ r => by rw [List.length_cons, List.length_cons, RepF.length r]
end
def setF (Cs : List Nat) (f : Nat) (h : Hep) (w v : Val) : Option Hep := match w with
  | .ref n => match h[n]? with
    | some (.ins C fs) => if Cs.contains C = true ∧ fs.length < 1000 then some (h.set n (.ins C (putN f v fs))) else none
    | _ => none
  | _ => none
theorem setF_some {Cs : List Nat} {f : Nat} {h h' : Hep} {w v : Val} (e : setF Cs f h w v = some h') : ∃ n C fs, w = .ref n ∧ h[n]? = some (.ins C fs) ∧ Cs.contains C = true ∧ fs.length < 1000 ∧ h' = h.set n (.ins C (putN f v fs)) := by
  unfold setF at e
  split at e
  · rename_i n
    split at e
    · rename_i C fs hc
      split at e
      · rename_i hh
        cases e
        exact ⟨n, C, fs, rfl, hc, hh.1, hh.2, rfl⟩
      · cases e
    · cases e
  · cases e
def mSetF (Cs : List Nat) (f : Nat) (me mo : Ex1) : Stm := fun env h => exS env (me env h) fun v h1 => if clean v then exS env (mo env h1) fun w h2 => match setF Cs f h2 w v with
    | some h3 => .nx env h3
    | none => .bad
  else .bad
section
variable {G : Gm} {X : Cx} {W : WX} {x : Str} {e o : Expr} {es : List Expr} {m me mo : Ex1} {ms : ExL} {p pos pos' tpos apos : Pos} {k n kk f : Nat} {Cs : List Nat}
theorem ce_fld (hC : ∀ C ∈ Cs, FldOk G X.K C f) (he : CE G X W e m) (hf : x = G.fl f := by rfl) (hb : attributeBase e x X.env (eval e X.env) = eval e X.env := by rfl) : CE G X W (.Attribute e x pos) (mUn (fFld Cs f) m) := by
  subst hf
  refine PE.imp (pe_fld he hb) fun σ H Q q => ?_
  refine rd_un (r := fun x H1 Q => ∃ a C dx fs v, x = .ref a ∧ H1 a = some (.ins C dx fs) ∧ Cls X.K C ∧ NoAttr X.K C (G.fl f) ∧ fs.lookup (G.fl f) = some v ∧ Q v H1) (fun {I ρ as env h σ H x v w Q} g rx e q => ?_) q
  obtain ⟨⟨C, fs⟩, h1, h2⟩ := Option.bind_eq_some_iff.mp (show (insOf h v).bind _ = some w from e)
  split at h2
  · rename_i hc
    obtain ⟨a, dx, gs, rfl, h3, h4⟩ := insOf_ok g.hp rx h1
    have F := hC C (by simpa using hc)
    rcases h4.lookup f with ⟨_, h5⟩ | ⟨y, u, h5, h6, h7⟩
    · rw [h5] at h2; cases h2
    · rw [h6] at h2; cases h2
      exact ⟨a, _, dx, gs, y, rfl, h3, F.cls, F.no, h5, q _ (.inl h7)⟩
  · cases h2
theorem cs_setF (hC : ∀ C ∈ Cs, FldOk G X.K C f) (he : CE G X W e me) (ho : CE G X W o mo) (hf : x = G.fl f := by rfl) (hs : swapsWith e (some (.Attribute o x pos')) pos.line X.env = pure false := by rfl) : CS G X W (.Assign [.Attribute o x pos'] e pos) (mSetF Cs f me mo) := by
  subst hf
  refine PS.imp (ps_fld ho he hs) fun D σ H ⟨I, ρ, as, env, h, g, q⟩ => ⟨I, ρ, as, env, h, g, exS_use q fun v h1 I1 ρ1 H1 x g1 d1 r1 q1 => ?_⟩
  by_cases hc : clean v = true
  · rw [if_pos hc] at q1
    refine ⟨I1, ρ1, as, env, h1, d1, exS_use q1 fun w h2 I2 ρ2 H2 y g2 d2 r2 q2 => ?_⟩
    cases e1 : setF Cs f h2 w v with
    | none => rw [e1] at q2; exact q2.elim
    | some h3 =>
      rw [e1] at q2
      obtain ⟨n, C, fs, rfl, hn, hh, hl, rfl⟩ := setF_some e1
      have F := hC C (by simpa using hh)
      obtain ⟨a, ea, ⟨dx, gs, h3, h4⟩, st⟩ := cell_store d2 r2 (show cellOf env h2 (.ref n) = some (.ins C fs) from hn)
      subst ea
      refine ⟨a, _, dx, gs, rfl, h3, F.cls, F.no, by rw [h4.length]; exact hl, ?_⟩
      have rv := (r1.cl hc).mono g2.ex g2.pre
      obtain ⟨s1, s2⟩ := st (.ins (G.cl C) dx (putF (G.fl f) x gs)) (.ins C (putN f v fs)) ⟨dx, _, upd_same, h4.put rv f⟩
      exact q2 _ _ _ _ _ s2 s1
  · rw [if_neg hc] at q1; exact q1.elim
end

/-! ### methods -/
structure MetOk (P : Program) (w : World) (K : PySem.W.Frag) (mg : Str → Option Value) (base : Heap) (G : Gm) (k j n : Nat) (C : Nat) (f : Fn) : Prop where
  cls : Cls K (G.cl C)
  ex : ∃ fa fd ps, Meth K (G.cl C) (G.fl j) fa ∧ FnOk P w K mg base (L2N.CX P w) k fa fd ps (spM G K n f) ∧ Binds K fd ps []
structure MetC (P : Program) (w : World) (K : PySem.W.Frag) (mg : Str → Option Value) (base : Heap) (G : Gm) (k j n : Nat) (C : Nat) (f : FnC) : Prop where
  cls : Cls K (G.cl C)
  ex : ∃ fa fd ps, Meth K (G.cl C) (G.fl j) fa ∧ FnOk P w K mg base (L2N.CX P w) k fa fd ps (spC G K n f) ∧ Binds K fd ps []
/-- who answers: by the class, no field of that name -/
def whoM {α : Type} (tbl : List (Nat × α)) (j : Nat) (h : Hep) (v : Val) : Option α := match insOf h v with
  | some (C, fs) => if (fs.lookup j).isNone = true then tbl.lookup C else none
  | none => none
def mMeth (tbl : List (Nat × Fn)) (j : Nat) (mo : Ex1) (ms : ExL) : Ex1 := fun env h => (mo env h).bind fun v h1 => if clean v then match whoM tbl j h1 v with
    | some f => (ms env h1).bind fun vs h2 => f (v :: vs) h2
    | none => .bad
  else .bad
def mMethC (tbl : List (Nat × FnC)) (j : Nat) (mo : Ex1) (ms : ExL) : ExC := fun env h => (mo env h).bind fun v h1 => if clean v then match whoM tbl j h1 v with
    | some f => (ms env h1).bind fun vs h2 => f (v :: vs) h2
    | none => .bad
  else .bad
/-- o.m(..), the method found at the run -/
def tMethD (X : Cx) (W : WX) (m : Str) (to : TE) (t : TA) : TE := fun σ H Q => to σ H fun x H1 => ∃ a C dx fs fa, x = .ref a ∧ H1 a = some (.ins C dx fs) ∧ Cls X.K C ∧ Meth X.K C m fa ∧ fs.lookup m = none ∧
  t σ H1 fun vs H2 => ∃ k fd ps sp, FnOk X.prog X.w X.K X.mg X.base (L2N.CX X.prog X.w) k fa fd ps sp ∧ Room k X.A ∧ Binds X.K fd ps [] ∧ sp (x :: vs) H2 Q (WE W σ)
section
variable {G : Gm} {X : Cx} {W : WX} {x m : Str} {e o : Expr} {es : List Expr} {me mo : Ex1} {ms : ExL} {p pos pos' tpos apos : Pos} {k n kk j : Nat} {tbl : List (Nat × Fn)} {tblC : List (Nat × FnC)} {to : TE} {t : TA}
theorem pe_methD {pl : Sem Bool} (tk : L2N.Takes X W) (he : PE X o to) (ha : PA X (e :: es) t)
    (hst : starEach (e :: es) X.env = (false, eval e X.env) :: starEach es X.env := by rfl) (hpl : (backTo pos (starEach es X.env)).any (·.1) = false := by rfl)
    (ht : eval (.Call (.Attribute o m apos) (e :: es) [] pos) X.env = (do
      let ov ← eval o X.env
      standAt apos.atName
      let (f, first) ← holding [ov] (getMethod ov m pl)
      callWith pos f first (backTo pos (starEach (e :: es) X.env)) (backToKw pos (keywordEach [] X.env))) := by rfl) :
    PE X (.Call (.Attribute o m apos) (e :: es) [] pos) (tMethD X W m to t) := by
  refine ⟨fun pins s σ H Q I h => ?_⟩
  refine PySem.W.methodCall_KW (pl := pl) (thn (he.run pins s σ H _ I h) fun u s1 ⟨x, H1, I1, rx, a, C, dx, fs, fa, ex, ea, c, hm, l, q⟩ => ?_) ht
  subst ex
  obtain rfl : u = Value.ref a := rx
  refine getmeth_ok I1 ea c hm l ?_
  refine PySem.W.callWith_K (first := [.ref a]) (h₀ := X.base) I.ok.mod.kin hm.kp (thn (ha.run pos pins s1 σ H1 _ I1 q) fun us s2 ⟨vs, H2, I2, r, k, fd, ps, sp, F, hr, hb, q2⟩ => ⟨I2.kIn, ?_⟩) hst hpl
  exact run_fnS (E := WE W) (us := .ref a :: us) (vs := .ref a :: vs) F hr hb (L2N.passAt tk σ) I2 (.cons rfl r) q2
theorem pe_methD0 {pl : Sem Bool} (tk : L2N.Takes X W) (he : PE X o to)
    (ht : eval (.Call (.Attribute o m apos) [] [] pos) X.env = (do
      let ov ← eval o X.env
      standAt apos.atName
      let (f, first) ← holding [ov] (getMethod ov m pl)
      callWith pos f first (backTo pos (starEach [] X.env)) (backToKw pos (keywordEach [] X.env))) := by rfl) :
    PE X (.Call (.Attribute o m apos) [] [] pos) (tMethD X W m to tNil) := by
  refine ⟨fun pins s σ H Q I h => ?_⟩
  refine PySem.W.methodCall_KW (pl := pl) (thn (he.run pins s σ H _ I h) fun u s1 ⟨x, H1, I1, rx, a, C, dx, fs, fa, ex, ea, c, hm, l, k, fd, ps, sp, F, hr, hb, q⟩ => ?_) ht
  subst ex
  obtain rfl : u = Value.ref a := rx
  refine getmeth_ok I1 ea c hm l ?_
  exact PySem.W.callWith_K0 (first := [.ref a]) I1.kIn hm.kp (run_fnS (E := WE W) (us := [.ref a]) (vs := [.ref a]) F hr hb (L2N.passAt tk σ) I1 (.cons rfl .nil) q)
theorem lookup_mem {α : Type} : ∀ {l : List (Nat × α)} {k : Nat} {v : α}, l.lookup k = some v → (k, v) ∈ l
  | [], _, _, h => by cases h
  | (a, b) :: r, k, v, h => by
    by_cases e : k = a
    · subst e
      simp only [List.lookup, beq_self_eq_true] at h
      cases h
      exact List.mem_cons_self
    · have e1 : (k == a) = false := beq_eq_false_iff_ne.mpr e
      simp only [List.lookup, e1] at h
      exact List.mem_cons_of_mem _ (lookup_mem h)
theorem whoM_ok {α : Type} {K : PySem.W.Frag} {I : Hp} {ρ : List Addr} {as : Own} {env : SEnv} {h : Hep} {σ : St} {H : Hp} {y : V} {v : Val} {tbl : List (Nat × α)} {f : α} (g : Good G K I ρ as env h σ H) (r : RepX G K I ρ as y v) (e : whoM tbl j h v = some f) :
    ∃ a C dx gs, y = .ref a ∧ H a = some (.ins (G.cl C) dx gs) ∧ gs.lookup (G.fl j) = none ∧ (C, f) ∈ tbl := by
  unfold whoM at e
  split at e
  · rename_i C fs h1
    split at e
    · rename_i hn
      obtain ⟨a, dx, gs, rfl, h3, h4⟩ := insOf_ok g.hp r h1
      refine ⟨a, C, dx, gs, rfl, h3, ?_, lookup_mem e⟩
      rcases h4.lookup j with ⟨h5, _⟩ | ⟨y, u, h5, h6, h7⟩
      · exact h5
      · rw [h6] at hn; cases hn
    · cases e
  · cases e
theorem ce_meth {pl : Sem Bool} (b : Bd X W kk) (hT : ∀ p ∈ tbl, MetOk X.prog X.w X.K X.mg X.base G k j n p.1 p.2) (hk : k ≤ kk) (hn : (e :: es).length + 1 = n) (ho : CE G X W o mo) (ha : CA G X W (e :: es) ms) (hj : m = G.fl j := by rfl)
    (hst : starEach (e :: es) X.env = (false, eval e X.env) :: starEach es X.env := by rfl) (hpl : (backTo pos (starEach es X.env)).any (·.1) = false := by rfl)
    (ht : eval (.Call (.Attribute o m apos) (e :: es) [] pos) X.env = (do
      let ov ← eval o X.env
      standAt apos.atName
      let (f, first) ← holding [ov] (getMethod ov m pl)
      callWith pos f first (backTo pos (starEach (e :: es) X.env)) (backToKw pos (keywordEach [] X.env))) := by rfl) :
    CE G X W (.Call (.Attribute o m apos) (e :: es) [] pos) (mMeth (tbl.map fun p => (p.1, ar n p.2)) j mo ms) := by
  subst hj
  refine PE.imp (pe_methD b.tk ho ha hst hpl ht) fun σ H Q ⟨I, ρ, as, env, h, g, q⟩ => ⟨I, ρ, as, env, h, g, ?_⟩
  unfold mMeth at q
  cases e1 : mo env h with
  | bad => rw [e1] at q; exact q
  | exc C fs h1 => rw [e1] at q; exact q
  | ok v h1 =>
    rw [e1] at q
    intro I1 ρ1 H1 x g1 d1 r1
    have q := PoE.go g1 q
    change PoE G X.K W Q I1 ρ1 as env σ H1 (if clean v = true then (match whoM (tbl.map fun p => (p.1, ar n p.2)) j h1 v with | some f => (ms env h1).bind fun vs h2 => f (v :: vs) h2 | none => .bad) else .bad) at q
    by_cases hc : clean v = true
    · rw [if_pos hc] at q
      cases e2 : whoM (tbl.map fun p => (p.1, ar n p.2)) j h1 v with
      | none => rw [e2] at q; exact q.elim
      | some f =>
        rw [e2] at q
        obtain ⟨a, C, dx, gs, rfl, h3, h4, h5⟩ := whoM_ok d1 r1 e2
        obtain ⟨⟨C', f'⟩, h6, h7⟩ := List.mem_map.mp h5
        cases h7
        obtain ⟨fa, fd, ps, M, F, hb⟩ := (hT _ h6).ex
        refine ⟨a, _, dx, gs, fa, rfl, h3, (hT _ h6).cls, M, h4, I1, ρ1, as, env, h1, d1, ?_⟩
        change PoE G X.K W Q I1 ρ1 as env σ H1 ((ms env h1).bind fun vs h2 => ar n f' (v :: vs) h2) at q
        cases e3 : ms env h1 with
        | bad => rw [e3] at q; exact q
        | exc C fs h2 => rw [e3] at q; exact q
        | ok vs h2 =>
          rw [e3] at q
          intro I2 ρ2 H2 xs g2 d2 r2
          have q := PoE.go g2 q
          change PoE G X.K W Q I2 ρ2 as env σ H2 (if (v :: vs).length = n then f' (v :: vs) h2 else .bad) at q
          by_cases hz : (v :: vs).length = n
          · rw [if_pos hz] at q
            exact ⟨k, fd, ps, _, F, b.room.mono hk, hb, spM_use d2 (.cons ((r1.cl hc).mono g2.ex g2.pre) r2) hz (fun _ _ _ z => z) q⟩
          · rw [if_neg hz] at q
            exact q.elim
    · rw [if_neg hc] at q; exact q.elim
theorem ce_meth0 {pl : Sem Bool} (b : Bd X W kk) (hT : ∀ p ∈ tbl, MetOk X.prog X.w X.K X.mg X.base G k j 1 p.1 p.2) (hk : k ≤ kk) (ho : CE G X W o mo) (hj : m = G.fl j := by rfl)
    (ht : eval (.Call (.Attribute o m apos) [] [] pos) X.env = (do
      let ov ← eval o X.env
      standAt apos.atName
      let (f, first) ← holding [ov] (getMethod ov m pl)
      callWith pos f first (backTo pos (starEach [] X.env)) (backToKw pos (keywordEach [] X.env))) := by rfl) :
    CE G X W (.Call (.Attribute o m apos) [] [] pos) (mMeth tbl j mo mNil) := by
  subst hj
  refine PE.imp (pe_methD0 b.tk ho ht) fun σ H Q ⟨I, ρ, as, env, h, g, q⟩ => ⟨I, ρ, as, env, h, g, ?_⟩
  unfold mMeth at q
  cases e1 : mo env h with
  | bad => rw [e1] at q; exact q
  | exc C fs h1 => rw [e1] at q; exact q
  | ok v h1 =>
    rw [e1] at q
    intro I1 ρ1 H1 x g1 d1 r1
    have q := PoE.go g1 q
    change PoE G X.K W Q I1 ρ1 as env σ H1 (if clean v = true then (match whoM tbl j h1 v with | some f => f [v] h1 | none => .bad) else .bad) at q
    by_cases hc : clean v = true
    · rw [if_pos hc] at q
      cases e2 : whoM tbl j h1 v with
      | none => rw [e2] at q; exact q.elim
      | some f =>
        rw [e2] at q
        obtain ⟨a, C, dx, gs, rfl, h3, h4, h5⟩ := whoM_ok d1 r1 e2
        obtain ⟨fa, fd, ps, M, F, hb⟩ := (hT _ h5).ex
        exact ⟨a, _, dx, gs, fa, rfl, h3, (hT _ h5).cls, M, h4, k, fd, ps, _, F, b.room.mono hk, hb, spM_use d1 (.cons (r1.cl hc) .nil) rfl (fun _ _ _ z => z) q⟩
    · rw [if_neg hc] at q; exact q.elim
theorem cc_meth0 {pl : Sem Bool} (b : Bd X W kk) (hT : ∀ p ∈ tblC, MetC X.prog X.w X.K X.mg X.base G k j 1 p.1 p.2) (hk : k ≤ kk) (ho : CE G X W o mo) (hj : m = G.fl j := by rfl)
    (ht : eval (.Call (.Attribute o m apos) [] [] pos) X.env = (do
      let ov ← eval o X.env
      standAt apos.atName
      let (f, first) ← holding [ov] (getMethod ov m pl)
      callWith pos f first (backTo pos (starEach [] X.env)) (backToKw pos (keywordEach [] X.env))) := by rfl) :
    CC G X W (.Call (.Attribute o m apos) [] [] pos) (mMethC tblC j mo mNil) := by
  subst hj
  refine PE.imp (pe_methD0 b.tk ho ht) fun σ H Q ⟨I, ρ, as, env, h, g, q⟩ => ⟨I, ρ, as, env, h, g, ?_⟩
  unfold mMethC at q
  cases e1 : mo env h with
  | bad => rw [e1] at q; exact q
  | exc C fs h1 => rw [e1] at q; exact q
  | ok v h1 =>
    rw [e1] at q
    intro I1 ρ1 H1 x g1 d1 r1
    have q := PoC.go g1 q
    change PoC G X.K W Q I1 ρ1 as env σ H1 (if clean v = true then (match whoM tblC j h1 v with | some f => f [v] h1 | none => .bad) else .bad) at q
    by_cases hc : clean v = true
    · rw [if_pos hc] at q
      cases e2 : whoM tblC j h1 v with
      | none => rw [e2] at q; exact q.elim
      | some f =>
        rw [e2] at q
        obtain ⟨a, C, dx, gs, rfl, h3, h4, h5⟩ := whoM_ok d1 r1 e2
        obtain ⟨fa, fd, ps, M, F, hb⟩ := (hT _ h5).ex
        exact ⟨a, _, dx, gs, fa, rfl, h3, (hT _ h5).cls, M, h4, k, fd, ps, _, F, b.room.mono hk, hb, spC_use d1 (.cons (r1.cl hc) .nil) rfl (fun _ _ _ z => z) q⟩
    · rw [if_neg hc] at q; exact q.elim
end

/-! ### new instances -/
structure ClsOk (P : Program) (w : World) (K : PySem.W.Frag) (mg : Str → Option Value) (base : Heap) (G : Gm) (x : Str) (C k n : Nat) (f : Fn) : Prop where
  ex : ∃ fa fd ps, Mk K (G.cl C) fa ∧ FnOk P w K mg base (L2N.CX P w) k fa fd ps (spM G K (n + 1) f) ∧ mg x = some (.ref (G.cl C)) ∧ Binds K fd ps []
def newC (C : Nat) (f : Fn) : Fn := fun vs h => match f (.ref h.length :: vs) (h ++ [.ins C []]) with
  | .ok .non h2 => .ok (.ref h.length) h2
  | .exc D fs h2 => .exc D fs h2
  | _ => .bad
section
variable {G : Gm} {X : Cx} {W : WX} {x m : Str} {e o : Expr} {es : List Expr} {me mo : Ex1} {ms : ExL} {p pos pos' tpos apos : Pos} {k n kk C : Nat} {f : Fn}
theorem run_makeS {pins : List (Addr × Obj)} {CX : CXT} {σ : St} {H : Hp} {s : Shared} {Q : VK} {us : List Value} {vs : List V} {C fa : Addr} {fd : FuncData} {ps : List Str} {sp : Sp} {E : St → XK} (M : Mk X.K C fa) (F : FnOk X.prog X.w X.K X.mg X.base CX k fa fd ps sp) (hr : Room (k + 1) X.A) (hb : Binds X.K fd ps [])
    (hx : PassesAt CX X σ (E σ)) (I : Inv X pins σ H s) (r : Vals vs us)
    (h : ∀ x dx, H x = none → H dx = none → dx ≠ x → sp (.ref x :: vs) (upd (upd H dx (.own x)) x (.ins C dx [])) (fun v H2 => v = .non ∧ Q (.ref x) H2) (E σ)) :
    wpAny (model X.prog X.w) X.A (call (.ref C) us) (EP X pins σ Q) X.xe s := by
  have hq := h (s.heap.objs.size + 1) s.heap.objs.size (I.hok.fresh (Nat.le_succ _)) (I.hok.fresh (Nat.le_refl _)) (Nat.ne_of_lt (Nat.lt_succ_self _))
  have I2 := Inv.made (C := C) I
  have r2 : Vals (V.ref (s.heap.objs.size + 1) :: vs) (Value.ref (s.heap.objs.size + 1) :: us) := .cons rfl r
  have hl : (Value.ref (s.heap.objs.size + 1) :: us).length = ps.length := by
    have e := r2.length
    rw [F.len _ _ _ _ hq] at e
    exact e.symm
  have hb' := hb _ (Value.ref (s.heap.objs.size + 1) :: us) I2.kIn (by rw [List.append_nil]; exact hl)
  rw [List.append_nil] at hb'
  refine wpAny_call (make_map (f := fa) I.kIn M.makes M.init (beq_iff_eq.mp M.fn) (codeAny_mono (F.run _ X.stack _ _ ⟨Value.ref (s.heap.objs.size + 1) :: us, []⟩ (Value.ref (s.heap.objs.size + 1) :: us) _ _ (E σ) (hr.make C us [])
    (I2.env0.make C us []) hb' r2 hq) fun r s' hq' => ?_))
  cases r with
  | error e => exact hx pins _ _ e s' I2 hq'
  | ok fl =>
    cases fl with
    | ret u =>
      obtain ⟨v, H', I3, rv, ev, q3⟩ := I2.after hq'
      subst ev
      exact ⟨rv, ⟨V.ref (s.heap.objs.size + 1), H', I3, rfl, q3⟩⟩
    | next => exact False.elim hq'
    | brk => exact False.elim hq'
    | cont => exact False.elim hq'
/-- the new instance, a cell from the start -/
theorem new_use {K : PySem.W.Frag} {E : XK} {I : Hp} {ρ : List Addr} {as : Own} {env : SEnv} {h : Hep} {σ : St} {H : Hp} {Q : VK} {vs : List V} {l : List Val} (g : Good G K I ρ as env h σ H) (r : RepL G K I ρ vs l) (hn : l.length = n) (hE : ∀ c d H', W c d σ H' → E c d H')
    (q : PoE G K W Q I ρ as env σ H (newC C f l h)) (x dx : Addr) (hx : H x = none) (hdx : H dx = none) (hne : dx ≠ x) : spM G K (n + 1) f (.ref x :: vs) (upd (upd H dx (.own x)) x (.ins (G.cl C) dx [])) (fun v H2 => v = .non ∧ Q (.ref x) H2) E := by
  have hx1 : upd H dx (.own x) x = none := by rw [upd_ne (fun z => hne z.symm)]; exact hx
  have g1 := g.loose (o := .own x) hdx
  have k1 : Go I ρ as H I ρ as (upd H dx (.own x)) := Go.loose g hdx
  have g2 := g1.loose (o := .ins (G.cl C) dx []) hx1
  have k2 := k1.trans (Go.loose g1 (o := .ins (G.cl C) dx []) hx1)
  have g3 := g2.cell (p := x) (c := .ins C []) (g1.hp.fr hx1) (g1.hp.nin hx1) (g1.env.nin hx1) ⟨dx, [], upd_same, .nil⟩
  have k3 := k2.cell hx
  have r3 : RepL G K I (ρ ++ [x]) (.ref x :: vs) (.ref h.length :: l) := .cons (.ref (by rw [← g.hp.len, List.getElem?_append_right (Nat.le_refl _)]; simp)) (r.mono (Ex.refl _) (List.prefix_append _ _))
  refine spM_use (W := fun c d _ H' => W c d σ H') g3 r3 (by rw [List.length_cons, hn]) (fun c d H' z => hE c d H' z) ?_
  have q := PoE.go k3 q
  unfold newC at q
  cases e : f (.ref h.length :: l) (h ++ [.ins C []]) with
  | bad => rw [e] at q; exact q
  | exc D fs h2 => rw [e] at q; exact q
  | ok v h2 =>
    rw [e] at q
    cases v <;> try (exact q.elim)
    intro I' ρ' H' y k gd ry
    exact ⟨ry.non, q I' ρ' H' _ k gd (.inl (r3 |> fun | .cons a _ => a.mono k.ex k.pre))⟩
theorem ce_new (D : ClsOk X.prog X.w X.K X.mg X.base G x C k n f) (b : Bd X W kk) (hk : k + 1 ≤ kk) (ha : CA G X W (e :: es) ms) (hg : Gl X x := by rfl)
    (hdb : (x == ("__debug__" : Str)) = false := by decide) (he : starEach (e :: es) X.env = (false, eval e X.env) :: starEach es X.env := by rfl) (hpl : (backTo pos (starEach es X.env)).any (·.1) = false := by rfl) :
    CE G X W (.Call (.Name x p) (e :: es) [] pos) (mCall (ar n (newC C f)) ms) := by
  obtain ⟨fa, fd, ps, M, F, hm, hb⟩ := D.ex
  refine ⟨fun pins s σ H Q I h => ?_⟩
  obtain ⟨I0, ρ, as, env, hh, g, q⟩ := h
  refine wpAny_Call_Name_kw (ld_glob I hg hm ?_ hdb)
  have hA : rdA G X.K W ms σ H (fun vs H1 => ∀ x dx, H1 x = none → H1 dx = none → dx ≠ x → spM G X.K (n + 1) f (.ref x :: vs) (upd (upd H1 dx (.own x)) x (.ins (G.cl C) dx [])) (fun v H2 => v = .non ∧ Q (.ref x) H2) (WE W σ)) := by
    refine ⟨I0, ρ, as, env, hh, g, ?_⟩
    unfold mCall at q
    cases e : ms env hh with
    | bad => rw [e] at q; exact q
    | exc C fs h1 => rw [e] at q; exact q
    | ok vs h1 =>
      rw [e] at q
      intro I1 ρ1 H1 xs g1 d1 r1
      have q := PoE.go g1 q
      change PoE G X.K W Q I1 ρ1 as env σ H1 (if vs.length = n then newC C f vs h1 else .bad) at q
      by_cases hn : vs.length = n
      · rw [if_pos hn] at q
        exact new_use d1 r1 hn (fun _ _ _ z => z) q
      · rw [if_neg hn] at q
        exact q.elim
  refine PySem.W.callWith_K (h₀ := X.base) I.ok.mod.kin M.kp (thn (ha.run pos pins s σ H _ I hA) fun us s1 ⟨vs, H1, I1, r, q⟩ => ⟨I1.kIn, ?_⟩) he hpl
  exact run_makeS (E := WE W) M F (b.room.mono hk) hb (L2N.passAt b.tk σ) I1 r q
theorem ce_new0 (D : ClsOk X.prog X.w X.K X.mg X.base G x C k 0 f) (b : Bd X W kk) (hk : k + 1 ≤ kk) (hg : Gl X x := by rfl) (hdb : (x == ("__debug__" : Str)) = false := by decide) :
    CE G X W (.Call (.Name x p) [] [] pos) (mCall (newC C f) mNil) := by
  obtain ⟨fa, fd, ps, M, F, hm, hb⟩ := D.ex
  refine ⟨fun pins s σ H Q I h => ?_⟩
  obtain ⟨I0, ρ, as, env, hh, g, q⟩ := h
  refine wpAny_Call_Name_kw (ld_glob I hg hm ?_ hdb)
  exact PySem.W.callWith_K0 I.kIn M.kp (run_makeS (us := []) (E := WE W) M F (b.room.mono hk) hb (L2N.passAt b.tk σ) I .nil (new_use g .nil rfl (fun _ _ _ z => z) q))
end
end Mi
namespace Mi
open PySem PySem.Spec PyProof.Rows L2
abbrev St := L2.St

/-! ### own special methods -/
/-- the class's special method nm -/
structure DunAt (K : PySem.W.Frag) (nm : Str) (C fa : Addr) : Prop where
  at_ : PySem.W.findIn K (.ref C) nm = some (some (.ref fa))
  fn : PySem.W.isFn K (.ref fa) = true
  fi : PySem.W.fnIn K fa = true
  ns : PySem.W.noSeq K C = true
structure DunS (P : Program) (w : World) (K : PySem.W.Frag) (mg : Str → Option Value) (base : Heap) (G : Gm) (k : Nat) (nm : Str) (C : Nat) (sp : Sp) : Prop where
  ex : ∃ fa fd ps, DunAt K nm (G.cl C) fa ∧ FnOk P w K mg base (L2N.CX P w) k fa fd ps sp ∧ Binds K fd ps []
abbrev DunOk (P : Program) (w : World) (K : PySem.W.Frag) (mg : Str → Option Value) (base : Heap) (G : Gm) (k : Nat) (nm : Str) (n : Nat) (C : Nat) (f : Fn) : Prop := DunS P w K mg base G k nm C (spM G K n f)
/-- some def that runs with room -/
def Runs (X : Cx) (k : Nat) (fa : Addr) (sp : Sp) : Prop := ∃ fd ps, FnOk X.prog X.w X.K X.mg X.base (L2N.CX X.prog X.w) k fa fd ps sp ∧ Binds X.K fd ps []
section
variable {G : Gm} {X : Cx} {W : WX} {pins : List (Addr × Obj)} {σ : St} {H : Hp} {s : Shared} {Q : VK} {k : Nat} {C fa a dx : Addr} {fs : List (Str × V)} {sp : Sp} {A : Around} {us : List Value} {vs : List V}
theorem own_run (R : Runs X k fa sp) (sb : Sub X k A) (tk : L2N.Takes X W) (I : Inv X pins σ H s) (r : Vals vs us) (h : sp vs H Q (WE W σ)) : wpAny (model X.prog X.w) A (call (.ref fa) us) (EP X pins σ Q) X.xe s := by
  obtain ⟨fd, ps, F, hb⟩ := R
  have e0 : Env0 X.prog X.w X.K X.mg X.base A X.stack s H := by
    have e := I.env0
    exact ⟨by rw [sb.fr]; exact e.frames, e.mod, e.bs, e.bsz, e.funs, e.frf, e.hok, e.bare⟩
  have hl : us.length = ps.length := by rw [← r.length]; exact F.len _ _ _ _ h
  have b := hb s us I.kIn (by rw [List.append_nil]; exact hl)
  rw [List.append_nil] at b
  refine wpAny_call (codeAny_mono (F.run A X.stack s H ⟨us, []⟩ us vs Q (WE W σ) sb.room e0 b r h) fun r s' hq => ?_)
  cases r with
  | error e => exact L2N.passAt tk σ pins H s e s' I hq
  | ok fl =>
    cases fl with
    | ret u => exact I.after hq
    | next => exact False.elim hq
    | brk => exact False.elim hq
    | cont => exact False.elim hq
theorem inst_at (I : Inv X pins σ H s) (ha : H a = some (.ins C dx fs)) : ∃ ox od, PySem.W.InstAt s.heap a ox C od := by
  obtain ⟨mA, J, _⟩ := ins_get I.hok ha
  obtain ⟨od, J, _⟩ := J.look
  exact ⟨_, _, J⟩
/-- a[b] -/
theorem pe_ownIx {a b : Expr} {ta tb : TE} {pos : Pos} (tk : L2N.Takes X W) (hr : Room (k + 1) X.A) (ha : PE X a ta) (hb : PE X b tb) (hs : ∀ v u, subscripted b true v u = runValue (.builtin "lifetime.subscript" ⟨[v, u], []⟩) := by intros; rfl) :
    PE X (.Subscript a b pos) (fun σ H Q => ta σ H fun x H1 => tb σ H1 fun y H2 => ∃ p C dx fs fa sp, x = .ref p ∧ H2 p = some (.ins C dx fs) ∧ DunAt X.K "__getitem__" C fa ∧ Runs X k fa sp ∧ sp [x, y] H2 Q (WE W σ)) := by
  refine ⟨fun pins s σ H Q I h => ?_⟩
  refine Subscript_ (binT (R := fun x y H2 => ∃ p C dx fs fa sp, x = .ref p ∧ H2 p = some (.ins C dx fs) ∧ DunAt X.K "__getitem__" C fa ∧ Runs X k fa sp ∧ sp [x, y] H2 Q (WE W σ)) ha hb I h fun v u s2 x y H2 I2 rx ry ⟨p, C, dx, fs, fa, sp, ex, hp, D, R, q⟩ => ?_)
  subst ex
  obtain rfl : v = Value.ref p := rx
  obtain ⟨ox, od, J⟩ := inst_at I2 hp
  obtain ⟨m, hF⟩ := I2.fr
  exact PySem.W.sub_K hF I.ok.mod.kin J D.at_ D.fi D.fn (own_run (vs := [.ref p, y]) R (Sub.in1 ⟨hr, rfl⟩) tk I2 (.cons rfl (.cons ry .nil)) q) (hs _ _)
/-- a in b -/
def rOwnIn (X : Cx) (W : WX) (k : Nat) (neg : Bool) (σ : St) : R2 := fun x y H2 Q => ∃ p C dx fs fa sp, y = .ref p ∧ H2 p = some (.ins C dx fs) ∧ DunAt X.K "__contains__" C fa ∧ Runs X k fa sp ∧ sp [y, x] H2 (fun z H3 => ∃ c, z = .bl c ∧ Q (.bl (if neg then !c else c)) H3) (WE W σ)
theorem own_in {x y : V} {v u : Value} (tk : L2N.Takes X W) (hr : Room k X.A) (I : Inv X pins σ H s) (rx : RelV x v) (ry : RelV y u) (h : rOwnIn X W k false σ x y H Q) : wpAny (model X.prog X.w) X.A (compareOp .In v u) (EP X pins σ Q) X.xe s := by
  obtain ⟨p, C, dx, fs, fa, sp, ey, hp, D, R, q⟩ := h
  subst ey
  obtain rfl : u = Value.ref p := ry
  obtain ⟨ox, od, J⟩ := inst_at I hp
  obtain ⟨m, hF⟩ := I.fr
  refine PySem.W.in_K hF I.ok.mod.kin J D.at_ D.fn (wpAny_mono (own_run (vs := [.ref p, x]) R ⟨hr, rfl⟩ tk I (.cons rfl (.cons rx .nil)) q) (fun r s' ⟨z, H', I', rz, c, ez, qz⟩ => ?_) fun _ _ x => x)
  subst ez
  obtain rfl : r = Value.bool c := rz
  exact wpAny_truthy_bool ⟨.bl c, H', I', rfl, qz⟩
theorem own_nin {x y : V} {v u : Value} (tk : L2N.Takes X W) (hr : Room k X.A) (I : Inv X pins σ H s) (rx : RelV x v) (ry : RelV y u) (h : rOwnIn X W k true σ x y H Q) : wpAny (model X.prog X.w) X.A (compareOp .NotIn v u) (EP X pins σ Q) X.xe s := by
  obtain ⟨p, C, dx, fs, fa, sp, ey, hp, D, R, q⟩ := h
  subst ey
  obtain rfl : u = Value.ref p := ry
  obtain ⟨ox, od, J⟩ := inst_at I hp
  obtain ⟨m, hF⟩ := I.fr
  refine PySem.W.notIn_K hF I.ok.mod.kin J D.at_ D.fn (wpAny_mono (own_run (vs := [.ref p, x]) R ⟨hr, rfl⟩ tk I (.cons rfl (.cons rx .nil)) q) (fun r s' ⟨z, H', I', rz, c, ez, qz⟩ => ?_) fun _ _ x => x)
  subst ez
  obtain rfl : r = Value.bool c := rz
  exact wpAny_truthy_bool ⟨.bl (!c), H', I', rfl, qz⟩
theorem pe_ownIn {a b : Expr} {ta tb : TE} {pos : Pos} (tk : L2N.Takes X W) (hr : Room k X.A) (ha : PE X a ta) (hb : PE X b tb) (hm : behindInMarks .In b = false := by rfl) :
    PE X (.Compare a [.In] [b] pos) (fun σ H Q => ta σ H fun x H1 => tb σ H1 fun y H2 => rOwnIn X W k false σ x y H2 Q) :=
  ⟨fun pins s σ H Q I h => wpAny_Compare1 (binT (R := fun x y H2 => rOwnIn X W k false σ x y H2 Q) ha hb I h fun v u s2 x y H2 I2 rx ry q => own_in tk hr I2 rx ry q) hm⟩
theorem pe_ownNin {a b : Expr} {ta tb : TE} {pos : Pos} (tk : L2N.Takes X W) (hr : Room k X.A) (ha : PE X a ta) (hb : PE X b tb) (hm : behindInMarks .NotIn b = false := by rfl) :
    PE X (.Compare a [.NotIn] [b] pos) (fun σ H Q => ta σ H fun x H1 => tb σ H1 fun y H2 => rOwnIn X W k true σ x y H2 Q) :=
  ⟨fun pins s σ H Q I h => wpAny_Compare1 (binT (R := fun x y H2 => rOwnIn X W k true σ x y H2 Q) ha hb I h fun v u s2 x y H2 I2 rx ry q => own_nin tk hr I2 rx ry q) hm⟩
/-- len(a) -/
def rOwnLen (X : Cx) (W : WX) (k : Nat) (σ : St) (x : V) (H : Hp) (Q : VK) : Prop := ∃ p C dx fs fa sp, x = .ref p ∧ H p = some (.ins C dx fs) ∧ DunAt X.K "__len__" C fa ∧ Runs X k fa sp ∧ sp [x] H (fun z H3 => ∃ c : Int, z = .int c ∧ 0 ≤ c ∧ c < 2 ^ 62 ∧ Q (.int c) H3) (WE W σ)
theorem own_len {A : Around} {x : V} {v : Value} (tk : L2N.Takes X W) (sb : Sub X (k + 1) A) (I : Inv X pins σ H s) (rx : RelV x v) (h : rOwnLen X W k σ x H Q) : wpAny (model X.prog X.w) A (call (.builtin "len") [v]) (EP X pins σ Q) X.xe s := by
  obtain ⟨p, C, dx, fs, fa, sp, ey, hp, D, R, q⟩ := h
  subst ey
  obtain rfl : v = Value.ref p := rx
  obtain ⟨ox, od, J⟩ := inst_at I hp
  obtain ⟨m, hF⟩ := I.fr
  refine PySem.W.len_K hF I.ok.mod.kin J D.at_ D.fn (wpAny_mono (own_run (vs := [.ref p]) R sb.in1 tk I (.cons rfl .nil) q) (fun r s' ⟨z, H', I', rz, c, ez, h0, h1, qz⟩ => ?_) fun _ _ x => x)
  subst ez
  obtain ⟨t, rfl⟩ := (show ∃ t, r = Value.int c t from rz)
  exact ⟨⟨h0, by omega⟩, .int c, H', I'.tok _, ⟨_, rfl⟩, qz⟩
theorem pe_ownLen {a : Expr} {ta : TE} {p pos : Pos} (tk : L2N.Takes X W) (hr : Room (k + 1) X.A) (hm : X.mg "len" = none) (ha : PE X a ta) (hg : Gl X "len" := by rfl) (he : starEach [a] X.env = (false, eval a X.env) :: starEach [] X.env := by rfl) (hpl : (backTo pos (starEach [] X.env)).any (·.1) = false := by rfl) :
    PE X (.Call (.Name "len" p) [a] [] pos) (fun σ H Q => ta σ H fun x H1 => rOwnLen X W k σ x H1 Q) := by
  refine ⟨fun pins s σ H Q I h => ?_⟩
  refine wpAny_Call_Name_kw (ld_blt I hg hm PySem.boot_len ?_ (by decide) (by decide))
  refine PyProof.Rows.callWith_builtin1 (thn ((pa_cons ha pa_nil he).run pos pins s σ H (fun vs H1 => match vs with | [x] => rOwnLen X W k σ x H1 Q | _ => False) I h) fun us s1 ⟨vs, H1, I1, r1, q1⟩ => ?_) he hpl
  cases r1 with
  | nil => exact q1.elim
  | cons r1 t =>
    cases t with
    | nil => exact own_len tk ⟨hr, rfl⟩ I1 r1 q1
    | cons _ _ => exact q1.elim
/-- o[i] = e -/
theorem ps_ownSet {o i e : Expr} {te to ti : TE} {tpos pos : Pos} (tk : L2N.Takes X W) (hr : Room k X.A) (he : PE X e te) (ho : PE X o to) (hi : PE X i ti)
    (ha : ∀ v, assign (.Subscript o i tpos) X.env v = (do
      let ov ← holding [v] (eval o X.env)
      let iv ← holding [v, ov] (eval i X.env)
      standAt tpos
      holding [v, ov, iv] (setItem ov iv v)
      release [v, ov, iv] []) := by intro _; rfl)
    (hs : swapsWithSole [.Subscript o i tpos] e pos.line X.env = pure false := by rfl) (hw : swappedStores [.Subscript o i tpos] e X.env = pure none := by rfl)
    (h1 : (assignEach [.Subscript o i tpos] X.env).map (·.2) = [assign (.Subscript o i tpos) X.env] := by rfl) :
    PS X (.Assign [.Subscript o i tpos] e pos) (fun D σ H => te σ H fun v H1 => to σ H1 fun x H2 => ti σ H2 fun y H3 => ∃ p C dx fs fa sp, x = .ref p ∧ H3 p = some (.ins C dx fs) ∧ DunAt X.K "__setitem__" C fa ∧ Runs X k fa sp ∧ sp [x, y, v] H3 (fun _ H4 => D.nx σ H4) (WE W σ)) := by
  refine ⟨fun pins s σ H D I h => ?_⟩
  refine wpAny_Assign_stores (thn (he.run pins s σ H _ I h) fun v s1 ⟨x, H1, I1, r1, q1⟩ => ?_) hs hw
  rw [h1]
  show wpAny _ _ (assign (.Subscript o i tpos) X.env v) _ _ _
  rw [ha]
  refine wpAny_bind (wpAny_holding (thn (ho.run pins s1 σ H1 _ I1 q1) fun ov s2 ⟨y, H2, I2, r2, q2⟩ => ?_))
  refine wpAny_bind (wpAny_holding (thn (hi.run pins s2 σ H2 _ I2 q2) fun iv s3 ⟨z, H3, I3, r3, p, C, dx, fs, fa, sp, ey, hp, D', R, q⟩ => ?_))
  subst ey
  obtain rfl : ov = Value.ref p := r2
  obtain ⟨ox, od, J⟩ := inst_at I3 hp
  obtain ⟨m, hF⟩ := I3.fr
  refine wpAny_bind (wpAny_standAt (wpAny_bind (wpAny_holding (PySem.W.ksp_setItem hF I.ok.mod.kin J D'.ns D'.at_ D'.fn (wpAny_mono (own_run (vs := [.ref p, z, x]) R ⟨hr, rfl⟩ tk I3 (.cons rfl (.cons r3 (.cons r1 .nil))) q) (fun _ s4 ⟨w, H4, I4, rw4, q4⟩ => ?_) fun _ _ x => x)))))
  exact wpAny_release ⟨σ, H4, I4, q4⟩
end

/-! ### .. in Mini -/
def who {α : Type} (tbl : List (Nat × α)) (h : Hep) (v : Val) : Option α := match insOf h v with
  | some (C, _) => tbl.lookup C
  | none => none
def mOwnIx (tbl : List (Nat × Fn)) (mo mi : Ex1) : Ex1 := fun env h => (mo env h).bind fun v h1 => (mi env h1).bind fun u h2 => if (clean v && clean u) = true then match who tbl h2 v with
    | some f => f [v, u] h2
    | none => .bad
  else .bad
/-- the answer's truth: a bool -/
def reB (neg : Bool) (r : Re Val) : Re Val := r.bind fun v h => match v with
  | .bl b => .ok (.bl (if neg then !b else b)) h
  | _ => .bad
def mOwnIn (neg : Bool) (tbl : List (Nat × Fn)) (mi mo : Ex1) : Ex1 := fun env h => (mi env h).bind fun u h1 => (mo env h1).bind fun v h2 => if (clean v && clean u) = true then match who tbl h2 v with
    | some f => reB neg (f [v, u] h2)
    | none => .bad
  else .bad
def reLen (r : Re Val) : Re Val := r.bind fun v h => match v with
  | .int c => if 0 ≤ c ∧ c < 2 ^ 62 then .ok (.int c) h else .bad
  | _ => .bad
def mOwnLen (tbl : List (Nat × Fn)) (mo : Ex1) : Ex1 := fun env h => (mo env h).bind fun v h1 => if clean v = true then match who tbl h1 v with
    | some f => reLen (f [v] h1)
    | none => .bad
  else .bad
def mOwnSet (tbl : List (Nat × Fn)) (me mo mi : Ex1) : Stm := fun env h => exS env (me env h) fun x h1 => exS env (mo env h1) fun v h2 => exS env (mi env h2) fun u h3 => if (clean x && (clean v && clean u)) = true then match who tbl h3 v with
    | some f => exS env (f [v, u, x] h3) fun _ h4 => .nx env h4
    | none => .bad
  else .bad
section
variable {G : Gm} {X : Cx} {W : WX} {e a b o i : Expr} {m m1 m2 me mo mi : Ex1} {pos p tpos : Pos} {k kk : Nat} {tbl : List (Nat × Fn)} {nm : Str}
theorem who_ok {α : Type} {K : PySem.W.Frag} {I : Hp} {ρ : List Addr} {as : Own} {env : SEnv} {h : Hep} {σ : St} {H : Hp} {y : V} {v : Val} {tbl : List (Nat × α)} {f : α} (g : Good G K I ρ as env h σ H) (r : RepX G K I ρ as y v) (e : who tbl h v = some f) :
    ∃ a C dx gs, y = .ref a ∧ H a = some (.ins (G.cl C) dx gs) ∧ (C, f) ∈ tbl := by
  unfold who at e
  split at e
  · rename_i C fs h1
    obtain ⟨a, dx, gs, rfl, h3, h4⟩ := insOf_ok g.hp r h1
    exact ⟨a, C, dx, gs, rfl, h3, lookup_mem e⟩
  · cases e
theorem PoE.imp {K : PySem.W.Frag} {Q Q' : VK} {I : Hp} {ρ : List Addr} {as : Own} {env : SEnv} {σ : St} {H : Hp} {r : Re Val} (h : PoE G K W Q I ρ as env σ H r) (k : ∀ x H, Q x H → Q' x H) : PoE G K W Q' I ρ as env σ H r := by
  cases r with
  | ok v h' => exact fun I' ρ' H' x a b c => k _ _ (h I' ρ' H' x a b c)
  | exc C fs h' => exact h
  | bad => exact h
theorem ce_ownIx {n : Nat} (bd : Bd X W kk) (hT : ∀ p ∈ tbl, DunOk X.prog X.w X.K X.mg X.base G k "__getitem__" 2 p.1 p.2) (hk : k + 1 ≤ kk) (ha : CE G X W a m1) (hb : CE G X W b m2) (hs : ∀ v u, subscripted b true v u = runValue (.builtin "lifetime.subscript" ⟨[v, u], []⟩) := by intros; rfl) : CE G X W (.Subscript a b pos) (mOwnIx tbl m1 m2) := by
  refine PE.imp (pe_ownIx (k := k) bd.tk (bd.room.mono hk) ha hb hs) fun σ H Q ⟨I, ρ, as, env, h, g, q⟩ => ⟨I, ρ, as, env, h, g, ?_⟩
  unfold mOwnIx at q
  cases e1 : m1 env h with
  | bad => rw [e1] at q; exact q
  | exc C fs h1 => rw [e1] at q; exact q
  | ok v h1 =>
    rw [e1] at q
    intro I1 ρ1 H1 x g1 d1 r1
    have q := PoE.go g1 q
    refine ⟨I1, ρ1, as, env, h1, d1, ?_⟩
    change PoE G X.K W Q I1 ρ1 as env σ H1 ((m2 env h1).bind fun u h2 => if (clean v && clean u) = true then (match who tbl h2 v with | some f => f [v, u] h2 | none => .bad) else .bad) at q
    cases e2 : m2 env h1 with
    | bad => rw [e2] at q; exact q
    | exc C fs h2 => rw [e2] at q; exact q
    | ok u h2 =>
      rw [e2] at q
      intro I2 ρ2 H2 y g2 d2 r2
      have q := PoE.go g2 q
      change PoE G X.K W Q I2 ρ2 as env σ H2 (if (clean v && clean u) = true then (match who tbl h2 v with | some f => f [v, u] h2 | none => .bad) else .bad) at q
      by_cases hc : (clean v && clean u) = true
      · rw [if_pos hc] at q
        obtain ⟨hc1, hc2⟩ := Bool.and_eq_true_iff.mp hc
        cases e3 : who tbl h2 v with
        | none => rw [e3] at q; exact q.elim
        | some f =>
          rw [e3] at q
          have r1' := r1.mono g2.ex g2.pre
          obtain ⟨a, C, dx, gs, rfl, h3, h5⟩ := who_ok d2 r1' e3
          obtain ⟨fa, fd, ps, D, F, hb⟩ := (hT _ h5).ex
          exact ⟨a, _, dx, gs, fa, _, rfl, h3, D, ⟨fd, ps, F, hb⟩, spM_use d2 (.cons (r1'.cl hc1) (.cons (r2.cl hc2) .nil)) rfl (fun _ _ _ z => z) q⟩
      · rw [if_neg hc] at q; exact q.elim
theorem rd_ownIn {neg : Bool} (hT : ∀ p ∈ tbl, DunOk X.prog X.w X.K X.mg X.base G k "__contains__" 2 p.1 p.2) {σ : St} {H : Hp} {Q : VK} (q : rdE G X.K W (mOwnIn neg tbl m1 m2) σ H Q) : rdE G X.K W m1 σ H fun x H1 => rdE G X.K W m2 σ H1 fun y H2 => rOwnIn X W k neg σ x y H2 Q := by
  obtain ⟨I, ρ, as, env, h, g, q⟩ := q
  refine ⟨I, ρ, as, env, h, g, ?_⟩
  unfold mOwnIn at q
  cases e1 : m1 env h with
  | bad => rw [e1] at q; exact q
  | exc C fs h1 => rw [e1] at q; exact q
  | ok u h1 =>
    rw [e1] at q
    intro I1 ρ1 H1 x g1 d1 r1
    have q := PoE.go g1 q
    refine ⟨I1, ρ1, as, env, h1, d1, ?_⟩
    change PoE G X.K W Q I1 ρ1 as env σ H1 ((m2 env h1).bind fun v h2 => if (clean v && clean u) = true then (match who tbl h2 v with | some f => reB neg (f [v, u] h2) | none => .bad) else .bad) at q
    cases e2 : m2 env h1 with
    | bad => rw [e2] at q; exact q
    | exc C fs h2 => rw [e2] at q; exact q
    | ok v h2 =>
      rw [e2] at q
      intro I2 ρ2 H2 y g2 d2 r2
      have q := PoE.go g2 q
      change PoE G X.K W Q I2 ρ2 as env σ H2 (if (clean v && clean u) = true then (match who tbl h2 v with | some f => reB neg (f [v, u] h2) | none => .bad) else .bad) at q
      by_cases hc : (clean v && clean u) = true
      · rw [if_pos hc] at q
        obtain ⟨hc1, hc2⟩ := Bool.and_eq_true_iff.mp hc
        cases e3 : who tbl h2 v with
        | none => rw [e3] at q; exact q.elim
        | some f =>
          rw [e3] at q
          obtain ⟨a, C, dx, gs, rfl, h3, h5⟩ := who_ok d2 r2 e3
          obtain ⟨fa, fd, ps, D, F, hb⟩ := (hT _ h5).ex
          refine ⟨a, _, dx, gs, fa, _, rfl, h3, D, ⟨fd, ps, F, hb⟩, spM_use d2 (.cons (r2.cl hc1) (.cons ((r1.mono g2.ex g2.pre).cl hc2) .nil)) rfl (fun _ _ _ z => z) ?_⟩
          change PoE G X.K W Q I2 ρ2 as env σ H2 (reB neg (f [v, u] h2)) at q
          unfold reB at q
          show PoE G X.K W _ I2 ρ2 as env σ H2 (f [v, u] h2)
          cases e4 : f [v, u] h2 with
          | bad => rw [e4] at q; exact q
          | exc C fs h4 => rw [e4] at q; exact q
          | ok z h4 =>
            rw [e4] at q
            cases z <;> try (exact q.elim)
            rename_i c
            exact fun I' ρ' H' z k1 d3 rz => ⟨c, rz.bl, q I' ρ' H' _ k1 d3 (.inl (.bl _))⟩
      · rw [if_neg hc] at q; exact q.elim
theorem ce_ownIn (bd : Bd X W kk) (hT : ∀ p ∈ tbl, DunOk X.prog X.w X.K X.mg X.base G k "__contains__" 2 p.1 p.2) (hk : k ≤ kk) (ha : CE G X W a m1) (hb : CE G X W b m2) (hm : behindInMarks .In b = false := by rfl) : CE G X W (.Compare a [.In] [b] pos) (mOwnIn false tbl m1 m2) :=
  PE.imp (pe_ownIn (k := k) bd.tk (bd.room.mono hk) ha hb hm) fun _ _ _ q => rd_ownIn hT q
theorem ce_ownNin (bd : Bd X W kk) (hT : ∀ p ∈ tbl, DunOk X.prog X.w X.K X.mg X.base G k "__contains__" 2 p.1 p.2) (hk : k ≤ kk) (ha : CE G X W a m1) (hb : CE G X W b m2) (hm : behindInMarks .NotIn b = false := by rfl) : CE G X W (.Compare a [.NotIn] [b] pos) (mOwnIn true tbl m1 m2) :=
  PE.imp (pe_ownNin (k := k) bd.tk (bd.room.mono hk) ha hb hm) fun _ _ _ q => rd_ownIn hT q
theorem ce_ownLen (bd : Bd X W kk) (hT : ∀ p ∈ tbl, DunOk X.prog X.w X.K X.mg X.base G k "__len__" 1 p.1 p.2) (hk : k + 1 ≤ kk) (hm : X.mg "len" = none) (ha : CE G X W a m) (hg : Gl X "len" := by rfl) (he : starEach [a] X.env = (false, eval a X.env) :: starEach [] X.env := by rfl) (hpl : (backTo pos (starEach [] X.env)).any (·.1) = false := by rfl) :
    CE G X W (.Call (.Name "len" p) [a] [] pos) (mOwnLen tbl m) := by
  refine PE.imp (pe_ownLen (k := k) bd.tk (bd.room.mono hk) hm ha hg he hpl) fun σ H Q ⟨I, ρ, as, env, h, g, q⟩ => ⟨I, ρ, as, env, h, g, ?_⟩
  unfold mOwnLen at q
  cases e1 : m env h with
  | bad => rw [e1] at q; exact q
  | exc C fs h1 => rw [e1] at q; exact q
  | ok v h1 =>
    rw [e1] at q
    intro I1 ρ1 H1 x g1 d1 r1
    have q := PoE.go g1 q
    change PoE G X.K W Q I1 ρ1 as env σ H1 (if clean v = true then (match who tbl h1 v with | some f => reLen (f [v] h1) | none => .bad) else .bad) at q
    by_cases hc : clean v = true
    · rw [if_pos hc] at q
      cases e3 : who tbl h1 v with
      | none => rw [e3] at q; exact q.elim
      | some f =>
        rw [e3] at q
        obtain ⟨a, C, dx, gs, rfl, h3, h5⟩ := who_ok d1 r1 e3
        obtain ⟨fa, fd, ps, D, F, hb⟩ := (hT _ h5).ex
        refine ⟨a, _, dx, gs, fa, _, rfl, h3, D, ⟨fd, ps, F, hb⟩, spM_use d1 (.cons (r1.cl hc) .nil) rfl (fun _ _ _ z => z) ?_⟩
        change PoE G X.K W Q I1 ρ1 as env σ H1 (reLen (f [v] h1)) at q
        unfold reLen at q
        show PoE G X.K W _ I1 ρ1 as env σ H1 (f [v] h1)
        cases e4 : f [v] h1 with
        | bad => rw [e4] at q; exact q
        | exc C fs h4 => rw [e4] at q; exact q
        | ok z h4 =>
          rw [e4] at q
          cases z <;> try (exact q.elim)
          rename_i c
          change PoE G X.K W Q I1 ρ1 as env σ H1 (if 0 ≤ c ∧ c < 2 ^ 62 then .ok (.int c) h4 else .bad) at q
          by_cases hz : 0 ≤ c ∧ c < 2 ^ 62
          · rw [if_pos hz] at q
            exact fun I' ρ' H' z k1 d3 rz => ⟨c, rz.int, hz.1, hz.2, q I' ρ' H' _ k1 d3 (.inl (.int _))⟩
          · rw [if_neg hz] at q; exact q.elim
    · rw [if_neg hc] at q; exact q.elim
theorem cs_ownSet (bd : Bd X W kk) (hT : ∀ p ∈ tbl, DunOk X.prog X.w X.K X.mg X.base G k "__setitem__" 3 p.1 p.2) (hk : k ≤ kk) (he : CE G X W e me) (ho : CE G X W o mo) (hi : CE G X W i mi)
    (ha : ∀ v, assign (.Subscript o i tpos) X.env v = (do
      let ov ← holding [v] (eval o X.env)
      let iv ← holding [v, ov] (eval i X.env)
      standAt tpos
      holding [v, ov, iv] (setItem ov iv v)
      release [v, ov, iv] []) := by intro _; rfl)
    (hs : swapsWithSole [.Subscript o i tpos] e pos.line X.env = pure false := by rfl) (hw : swappedStores [.Subscript o i tpos] e X.env = pure none := by rfl)
    (h1 : (assignEach [.Subscript o i tpos] X.env).map (·.2) = [assign (.Subscript o i tpos) X.env] := by rfl) : CS G X W (.Assign [.Subscript o i tpos] e pos) (mOwnSet tbl me mo mi) := by
  refine PS.imp (ps_ownSet (k := k) bd.tk (bd.room.mono hk) he ho hi ha hs hw h1) fun D σ H ⟨I, ρ, as, env, h, g, q⟩ => ⟨I, ρ, as, env, h, g, exS_use q fun x h1 I1 ρ1 H1 y1 g1 d1 r1 q1 => ⟨I1, ρ1, as, env, h1, d1, exS_use q1 fun v h2 I2 ρ2 H2 y2 g2 d2 r2 q2 =>
    ⟨I2, ρ2, as, env, h2, d2, exS_use q2 fun u h3 I3 ρ3 H3 y3 g3 d3 r3 q3 => ?_⟩⟩⟩
  by_cases hc : (clean x && (clean v && clean u)) = true
  · rw [if_pos hc] at q3
    obtain ⟨hc0, hc⟩ := Bool.and_eq_true_iff.mp hc
    obtain ⟨hc1, hc2⟩ := Bool.and_eq_true_iff.mp hc
    cases e3 : who tbl h3 v with
    | none => rw [e3] at q3; exact q3.elim
    | some f =>
      rw [e3] at q3
      have r2' := r2.mono g3.ex g3.pre
      obtain ⟨a, C, dx, gs, rfl, h3', h5⟩ := who_ok d3 r2' e3
      obtain ⟨fa, fd, ps, D', F, hb⟩ := (hT _ h5).ex
      exact ⟨a, _, dx, gs, fa, _, rfl, h3', D', ⟨fd, ps, F, hb⟩, spM_use d3 (.cons (r2'.cl hc1) (.cons (r3.cl hc2) (.cons (((r1.mono g2.ex g2.pre).mono g3.ex g3.pre).cl hc0) .nil))) rfl (fun _ _ _ z => z)
        (exS_use q3 fun _ h4 I4 ρ4 H4 y4 g4 d4 r4 q4 => q4 I4 ρ4 as σ H4 Go.refl d4)⟩
  · rw [if_neg hc] at q3; exact q3.elim
end
end Mi
namespace Mi
open PySem PySem.Spec PyProof.Rows L2

/-! ### list(d.items()) -/
def kval : Key → Val
  | .inl i => .int i
  | .inr s => .str s
def itemsV (l : List (Key × Val)) : List Val := l.map fun p => .tup [kval p.1, p.2]
def IsPairs (H : Hp) (ts : List Addr) (kvs : List (Key × V)) : Prop := Paired (fun (t : Addr) (q : Key × V) => H t = some (.tup [kV q.1, q.2])) ts kvs
section
variable {G : Gm} {K : PySem.W.Frag} {I : Hp} {ρ : List Addr} {as : Own} {env : SEnv} {h : Hep} {σ : St} {H H' : Hp}
theorem repV_key (k : Key) : RepV G K I ρ (kV k) (kval k) := by
  cases k with
  | inl i => exact .int i
  | inr s => exact .str s
theorem Good.pairs {ts : List Addr} {kvs : List (Key × V)} {l : List (Key × Val)} (g : Good G K I ρ as env h σ H) (e : Ex H H') (hts : ∀ t ∈ ts, H t = none) (pr : IsPairs H' ts kvs) (r : RepK G K I ρ kvs l) :
    ∃ I', Good G K I' ρ as env h σ H' ∧ Go I ρ as H I' ρ as H' ∧ RepL G K I' ρ (ts.map V.ref) (itemsV l) ∧ ∀ b, b ∉ ts → I' b = I b := by
  have nI : ∀ t ∈ ts, I t = none := fun t ht => g.hp.fr (hts t ht)
  have x1 : Ex I (fun b => if b ∈ ts then H' b else I b) := fun b o eb => by
    have : b ∉ ts := fun z => by rw [nI b z] at eb; cases eb
    show (if b ∈ ts then H' b else I b) = some o
    rw [if_neg this]; exact eb
  have off : ∀ b, b ∉ ts → (fun b => if b ∈ ts then H' b else I b) b = I b := fun b hb => if_neg hb
  have nt : ∀ {b : Addr} {o : HO}, H b = some o → b ∉ ts := fun {b o} eb z => by rw [hts b z] at eb; cases eb
  refine ⟨fun b => if b ∈ ts then H' b else I b, ⟨g.hp.mono x1 (fun b o eb => ?_) (fun a ha => ?_) fun a ha o ea => e _ _ ea, g.env.mono x1 List.prefix_rfl (fun a ha => ?_) fun a ha o ea => e _ _ ea⟩, ⟨x1, List.prefix_rfl, fun a o ea i r' s => ⟨e _ _ ea, (off a (nt ea)).trans i, r', s⟩, fun a o ea => ⟨o, e _ _ ea⟩⟩, ?_, off⟩
  · have eb : (if b ∈ ts then H' b else I b) = some o := eb
    by_cases hb : b ∈ ts
    · rw [if_pos hb] at eb; exact eb
    · rw [if_neg hb] at eb; exact e _ _ (g.hp.ex _ _ eb)
  · obtain ⟨o, ea⟩ := g.hp.there ha
    exact (off a (nt ea)).trans (g.hp.off a ha)
  · obtain ⟨o, ea⟩ := g.env.there ha
    exact ⟨(off a (nt ea)).trans (g.env.off a ha).1, (g.env.off a ha).2⟩
  · have key : ∀ (ts2 : List Addr) (kvs2 : List (Key × V)) (l2 : List (Key × Val)), (∀ t ∈ ts2, t ∈ ts) → Paired (fun (t : Addr) (q : Key × V) => H' t = some (.tup [kV q.1, q.2])) ts2 kvs2 → RepK G K I ρ kvs2 l2 →
        RepL G K (fun b => if b ∈ ts then H' b else I b) ρ (ts2.map V.ref) (itemsV l2) := by
      intro ts2
      induction ts2 with
      | nil =>
        intro kvs2 l2 _ p q
        cases p
        cases q
        exact .nil
      | cons t ts2 ih =>
        intro kvs2 l2 hs p q
        cases p with
        | @cons _ b _ bs hd tl =>
          cases q with
          | @cons k x v xs l3 rv rt =>
            have ht : (fun b => if b ∈ ts then H' b else I b) t = some (.tup [kV k, x]) := by
              show (if t ∈ ts then H' t else I t) = _
              rw [if_pos (hs t List.mem_cons_self)]
              exact hd
            exact .cons (.tup (SqT.of ht) (.cons (repV_key k) (.cons (rv.mono x1 List.prefix_rfl) .nil))) (ih _ _ (fun t' h' => hs t' (List.mem_cons_of_mem _ h')) tl rt)
    exact key ts kvs l (fun _ h => h) pr r
end
def mItems (m : Ex1) : ExL := fun env h => (m env h).bind fun v h1 => match dicOf env h1 v with
  | some l => .ok (itemsV l) h1
  | none => .bad
section
variable {G : Gm} {X : Cx} {W : WX} {e : Expr} {m : Ex1} {p pos apos cpos : Pos} {kk : Nat}
theorem cl_items (bd : Bd X W kk) (hm : X.mg "list" = none) (he : CE G X W e m) (hg : Gl X "list" := by rfl) (hbase : attributeBase e "items" X.env (eval e X.env) = eval e X.env := by rfl) (hline : (apos.endLine == cpos.line) = true := by rfl)
    (hs : starEach [.Call (.Attribute e "items" apos) [] [] cpos] X.env = (false, eval (.Call (.Attribute e "items" apos) [] [] cpos) X.env) :: starEach [] X.env := by rfl) :
    CL G X W (.Call (.Name "list" p) [.Call (.Attribute e "items" apos) [] [] cpos] [] pos) (mItems m) := by
  refine PE.imp (LiI.pe_listItems bd.calm he hg hm (by decide +kernel) hbase hline hs) fun σ H Q ⟨I, ρ, as, env, h, g, q⟩ => ⟨I, ρ, as, env, h, g, ?_⟩
  unfold mItems at q
  cases e1 : m env h with
  | bad => rw [e1] at q; exact q
  | exc C fs h1 => rw [e1] at q; exact q
  | ok v h1 =>
    rw [e1] at q
    intro I1 ρ1 H1 x g1 d1 r1
    have q := PoL.go g1 q
    change PoL G X.K W Q I1 ρ1 as env σ H1 (match dicOf env h1 v with | some l => .ok (itemsV l) h1 | none => .bad) at q
    cases e2 : dicOf env h1 v with
    | none => rw [e2] at q; exact q.elim
    | some l =>
      rw [e2] at q
      obtain ⟨d, kvs, rfl, hd, r⟩ := dicOf_ok d1 r1 e2
      refine ⟨d, kvs, rfl, hd, fun H' p ts ex hp hts hpn hp' pr => ?_⟩
      obtain ⟨I', g2, k2, rl, off⟩ := d1.pairs ex hts pr r
      have nI : I' p = none := by rw [off p hpn]; exact d1.hp.fr hp
      exact q I' ρ1 H' p _ k2 g2 hp hp' nI (d1.hp.nin hp) (d1.env.nin hp) rl
end

/-! ### iter(e.items()), the dict locked -/
def itemsAt (it d : Addr) (o : Obj) (n : Nat) : HO := .ext fun h => ∃ es ep ok ov, o.data = .dict es ep ∧ IsItemIter h it d 0 n ep ok ov
section
variable {X : Cx} {td : TE} {e : Expr} {p pos apos cpos : Pos}
theorem itemsAt_ok {P : Program} {w : World} {H : Hp} {h : Heap} {it d : Addr} {o : Obj} {n : Nat} {es : Array DictEntry} {ep : Nat} {ok ov : Value} (hd : o.data = .dict es ep) (hi : IsItemIter h it d 0 n ep ok ov) : ObjOk P w H h it (itemsAt it d o n) :=
  ⟨⟨es, ep, ok, ov, hd, hi⟩, ⟨_, hi⟩, fun h1 h2 ⟨es, ep, ok, ov, a, b⟩ k => ⟨es, ep, ok, ov, a, k _ b⟩⟩
theorem pe_iterItems (he : PE X e td) (hm : X.mg "iter" = none) (hg : Gl X "iter" := by rfl) (hbase : attributeBase e "items" X.env (eval e X.env) = eval e X.env := by rfl) (hline : (apos.endLine == cpos.line) = true := by rfl)
    (hs : starEach [.Call (.Attribute e "items" apos) [] [] cpos] X.env = (false, eval (.Call (.Attribute e "items" apos) [] [] cpos) X.env) :: starEach [] X.env := by rfl) :
    PE X (.Call (.Name "iter" p) [.Call (.Attribute e "items" apos) [] [] cpos] [] pos) (fun σ H Q => td σ H fun x H1 => ∃ d o kvs, x = .ref d ∧ H1 d = some (.frz o (.dK kvs)) ∧
      ∀ it, H1 it = none → (∀ b u, H1 b = some u → b < it) → Q (.ref it) (upd H1 it (itemsAt it d o kvs.length))) := by
  refine ⟨fun pins s σ H Q I h => ?_⟩
  refine wpAny_Call_Name_kw (ld_blt (u := .builtin "iter") I hg hm (by decide +kernel) ?_ (by decide) (by decide))
  refine PyProof.Rows.callWith_builtin1 ?_ hs rfl
  rw [hs]
  show wpAny _ _ (spliced ((false, eval (.Call (.Attribute e "items" apos) [] [] cpos) X.env) :: backTo pos (starEach [] X.env))) _ _ s
  refine Calls.spliced_cons ?_
  refine wpAny_Call_method (T := "dict") (id := "dict.items") hbase rfl hline F.plainAttrs_dict F.slot_dict_items F.type_dict_items (thn (he.run pins s σ H _ I h) fun u s1 ⟨x, H1, I1, rx, d, o, kvs, ex, hd, q⟩ => ?_)
  subst ex
  obtain rfl : u = Value.ref d := rx
  obtain ⟨hs0, hgd, hx, es, ep, vs, hdt, hsz, kv, hm'⟩ := I1.frzK hd
  have lk : kvs.length = vs.length := Paired.length kv
  have I2 : Inv X pins σ H1 { s1 with heap := s1.heap.push { cls := .type "dict_items", data := .fields #[.ref d] } } := I1.kept (t' := s1.toks) fun b ob q => Heap.get?_push_of_some _ q
  refine ⟨hm'.dictOf.typeIs, hm'.dictOf.mapOf.noDict, ?_⟩
  show wpAny _ _ (callWith cpos (.builtin "dict.items") [.ref d] [] []) _ X.xe s1
  refine method_meetsIn F.slot_dict_items F.entry_dict_items rfl (PySem.evalArgs_none ⟨rfl, hm'.dictOf.typeIs, F.args_dict_items_1 _, _, meets_dict_items (mixKind X.prog X.w) d hs0, ⟨vs, hm'.dictOf⟩, ?_⟩)
  refine Calls.spliced_nil ?_
  refine Calls.call_function_entry (by decide +kernel) (by decide +kernel) PySem.W.kdk_entry_iter (PySem.W.kdk_args_iter _) ?_
  unfold Builtin.«iter»
  refine wpAny_bind (m := someArgs "iter" 1 2 _) (wpAny_of_eq (a := [Value.ref s1.heap.objs.size]) (by first | rfl | kernel_rfl!) ?_)
  show wpAny _ _ (pyIter (.ref s1.heap.objs.size) >>= _) _ _ _
  refine wpAny_bind (wpAny_pyIter_items (d := d) (knd := mixKind X.prog X.w) ⟨_, Heap.get?_push_size _ rfl, rfl, rfl⟩ (hm'.push _) ?_)
  refine wpAny_pure ⟨_, rfl, ?_⟩
  have I3 := I2.laid (a := (s1.heap.push { cls := .type "dict_items", data := .fields #[.ref d] }).objs.size) (o := itemsAt (s1.heap.push { cls := .type "dict_items", data := .fields #[.ref d] }).objs.size d o kvs.length) (t' := s1.toks)
    (h' := (s1.heap.push { cls := .type "dict_items", data := .fields #[.ref d] }).push { cls := .type "dict_itemiterator", data := .fields #[.none, .bool false, .ref d, .int 0 0, .int vs.length 0, .int ep 0, .none, .none] })
    (fun b ob q => Heap.get?_push_of_some _ q) (Nat.le_refl _) (itemsAt_ok (ok := .none) (ov := .none) hdt (by rw [lk]; exact Heap.get?_push_size _ rfl))
  exact ⟨.ref _, _, I3, rfl, q _ (I2.hok.fresh (Nat.le_refl _)) fun b u eb => by
    rcases Nat.lt_or_ge b (s1.heap.push { cls := .type "dict_items", data := .fields #[.ref d] }).objs.size with z | z
    · exact z
    · have := I2.hok.fresh z
      rw [this] at eb; cases eb⟩
end

/-! ### list(o) of an own __iter__ that gives iter(self.f.items()) -/
section
variable {X : Cx} {pins : List (Addr × Obj)} {σ : St} {H H0 : Hp} {s : Shared} {S it d : Addr} {od : Obj} {es : Array DictEntry} {ep : Nat} {kvs : List (Key × V)} {A1 : Around} {Rs : Result → Shared → Prop}
theorem paired_snoc {α β : Type} {R : α → β → Prop} {xs : List α} {ys : List β} {x : α} {y : β} (h : Paired R xs ys) (k : R x y) : Paired R (xs ++ [x]) (ys ++ [y]) := by
  induction h with
  | nil => exact .cons k .nil
  | cons a _ ih => exact .cons a ih
theorem paired_imp {α β : Type} {R R' : α → β → Prop} {xs : List α} {ys : List β} (h : Paired R xs ys) (k : ∀ x ∈ xs, ∀ y, R x y → R' x y) : Paired R' xs ys := by
  induction h with
  | nil => exact .nil
  | cons a _ ih => exact .cons (k _ List.mem_cons_self _ a) (ih fun x hx => k x (List.mem_cons_of_mem _ hx))
theorem push_inv {h : Heap} {o u : Obj} {b : Addr} (e : (h.push o).get? b = some u) (hb : b ≠ h.objs.size) : h.get? b = some u := by
  have hl := Heap.lt_size e
  rw [Heap.size_push] at hl
  have hlt : b < h.objs.size := Nat.lt_of_le_of_ne (Nat.le_of_lt_succ hl) hb
  cases z : h.get? b with
  | some v =>
    have := Heap.get?_push_of_some o z
    rw [this] at e
    exact e
  | none =>
    exfalso
    unfold Heap.get? at e z
    simp only [Heap.push] at e
    simp [Array.getElem?_push, Nat.ne_of_lt hlt] at e z
    simp_all
theorem items_loop (hc : X.calm = true) (hh : A1.handled = none) (hod : od.data = .dict es ep) (hSi : S < it) (hz : kvs.length ≤ sizeLine)
    (hR : ∀ (H' : Hp) (s' : Shared) (ts : List Addr), Inv X pins σ H' s' → H' S = some (.lst (ts.map V.ref)) → IsPairs H' ts kvs → (∀ t ∈ ts, H0 t = none ∧ t ≠ S ∧ t ≠ it) → (∀ b o, b ≠ S → b ≠ it → H0 b = some o → H' b = some o) → Rs (.ok (.ret .none)) s') :
    ∀ (m i : Nat) (ts : List Addr) (H : Hp) (s : Shared), Inv X pins σ H s → kvs.length - i = m → i ≤ kvs.length → H d = some (.frz od (.dK kvs)) → H S = some (.lst (ts.map V.ref)) → FpOk X pins H it → PySem.W.KdxSt s.heap it d S i kvs.length ep → ts.length = i →
      IsPairs H ts (kvs.take i) → (∀ t ∈ ts, H0 t = none ∧ t ≠ S ∧ t ≠ it) → (∀ b o, b ≠ S → b ≠ it → H0 b = some o → H b = some o) → (∀ b, H b = none → b ≠ it → b ≠ S → H0 b = none) →
      codeAny (model X.prog X.w) A1 (.builtin "list.extend.loop" ⟨[.ref S, .ref it, .none], []⟩) Rs s := by
  intro m
  induction m with
  | zero =>
    intro i ts H s I hm hi hd hS hfp hst htl hp h0 hk hk0
    have hin : i = kvs.length := by omega
    subst hin
    obtain ⟨hs0, hgd, hx, es', ep', vs, hdt, hsz, kv, hD⟩ := I.frzK hd
    obtain ⟨rfl, rfl⟩ := dict_ep hod hdt
    have lk : kvs.length = vs.length := Paired.length kv
    refine codeAny_builtin PySem.F.entry_extend_loop ?_
    rw [Around.under_plainId PySem.F.plain_extend_loop _]
    show wpAny _ A1.in1 (pyNext (.ref it) >>= _) _ _ s
    rw [lk] at hst
    refine wpAny_bind (PySem.W.kdx_done (A := A1.in1) hh hst hD (List.getElem?_eq_none (by omega)) fun h' he => ?_)
    refine wpAny_pure ?_
    have I2 : Inv X pins σ H { s with heap := h', toks := s.toks } := I.turned (t' := s.toks) (fun b o hb e => he b o hb e) hfp.1 hfp.2.1 hfp.2.2.2.1 hfp.2.2.2.2.1 hfp.2.2.2.2.2
    rw [List.take_length] at hp
    exact hR H _ ts I2 hS hp h0 hk
  | succ m ih =>
    intro i ts H s I hm hi hd hS hfp hst htl hp h0 hk hk0
    have hlt : i < kvs.length := by omega
    obtain ⟨hs0, hgd, hx, es', ep', vs, hdt, hsz, kv, hD⟩ := I.frzK hd
    obtain ⟨rfl, rfl⟩ := dict_ep hod hdt
    have lk : kvs.length = vs.length := Paired.length kv
    obtain ⟨⟨k, v⟩, hkv⟩ : ∃ p, kvs[i]? = some p := ⟨kvs[i], List.getElem?_eq_getElem hlt⟩
    obtain ⟨u, hu, ru⟩ := kv_get kv hkv
    have hSl : S < s.heap.objs.size := by
      obtain ⟨_, its, n, _, e⟩ := I.hok S _ hS
      exact Heap.lt_size e
    have hil : it < s.heap.objs.size := by
      rcases hst with ⟨_, ok, ov, e⟩ | ⟨ok, ov, a, f, oa, e, _⟩
      · exact Heap.lt_size e
      · exact Heap.lt_size e
    refine codeAny_builtin PySem.F.entry_extend_loop ?_
    rw [Around.under_plainId PySem.F.plain_extend_loop _]
    show wpAny _ A1.in1 (pyNext (.ref it) >>= _) _ _ s
    rw [lk] at hst
    refine wpAny_bind (PySem.W.kdx_item (A := A1.in1) (S := S) hst hSl hD hu fun key h' hkey hst' ht hzz hkp => ?_)
    have hT : H s.heap.objs.size = none := I.hok.fresh (Nat.le_refl _)
    have new : ObjOk X.prog X.w (upd H s.heap.objs.size (.tup [kV k, v])) h' s.heap.objs.size (.tup [kV k, v]) :=
      ⟨by show 2 ≤ sizeLine; decide, [key, u], .cons (relV_key (show keyIs k key = true from hkey)) (.cons ru .nil), ⟨_, ht, rfl, _, rfl⟩⟩
    have I1 : Inv X pins σ (upd H s.heap.objs.size (.tup [kV k, v])) { s with heap := h', toks := s.toks } :=
      I.turnedNew (t' := s.toks) (ch := [it]) (fun b ob hb e => hkp b ob (by simpa using hb) e) (fun b hb => by
        have : b = it := by simpa using hb
        subst this; exact hfp) (Nat.le_refl _) new
    have hST : S ≠ s.heap.objs.size := Nat.ne_of_lt hSl
    have hS1 : upd H s.heap.objs.size (.tup [kV k, v]) S = some (.lst (ts.map V.ref)) := by rw [upd_ne hST]; exact hS
    obtain ⟨zz, its, n, r2, hl2, e2⟩ := I1.lstM hS1
    have hl3 : its.length = ts.length := by rw [← hl2, List.length_map]
    show wpAny _ A1.in1 (updateSeq S (·.push (Value.ref s.heap.objs.size)) >>= _) _ _ _
    have I2 := I1.lset (f := (·.push (Value.ref s.heap.objs.size))) (its' := its ++ [.ref s.heap.objs.size]) (ys := ts.map V.ref ++ [.ref s.heap.objs.size]) (t' := s.toks) hS1 e2 (by simp) (r2.append (.cons (show RelV (V.ref s.heap.objs.size) (Value.ref s.heap.objs.size) from rfl) .nil))
      (by rw [List.length_append, List.length_map]; show ts.length + 1 ≤ _; omega)
    refine wpAny_bind (wpAny_updateSeq e2 rfl (wpAny_pure ⟨plainId_quiet PySem.F.plain_extend_loop _, ?_⟩) (by rw [List.size_toArray]; omega) (by show (its.toArray.push _).size ≤ sizeLine + 1; rw [Array.size_push, List.size_toArray]; omega))
    have hdS : d ≠ S := fun z => by rw [z, hS] at hd; cases hd
    have hdT : d ≠ s.heap.objs.size := fun z => by rw [z, hT] at hd; cases hd
    have hne : it ≠ S := Ne.symm (Nat.ne_of_lt hSi)
    have hiT : it ≠ s.heap.objs.size := Nat.ne_of_lt hil
    refine ih (i + 1) (ts ++ [s.heap.objs.size]) _ _ I2 (by omega) hlt ?_ ?_ ?_ ?_ ?_ ?_ ?_ ?_ ?_
    · rw [upd_ne hdS, upd_ne hdT]; exact hd
    · rw [upd_same, List.map_append]; rfl
    · refine ⟨?_, hfp.2⟩
      rw [upd_ne hne, upd_ne hiT]; exact hfp.1
    · rw [lk]
      exact hst'.keep (fun b o hb e => (Heap.get?_update_other _ _ (Ne.symm hb)).trans e) hne
    · rw [List.length_append, htl]; rfl
    · have et : kvs.take (i + 1) = kvs.take i ++ [(k, v)] := by
        rw [List.take_succ, hkv]; rfl
      rw [et]
      refine paired_snoc (paired_imp hp fun t ht' q e => ?_) ?_
      · have nT : t ≠ s.heap.objs.size := fun z => by rw [z, hT] at e; cases e
        rw [upd_ne (h0 t ht').2.1, upd_ne nT]; exact e
      · rw [upd_ne (Ne.symm hST), upd_same]
    · intro t ht'
      rcases List.mem_append.mp ht' with ht' | ht'
      · exact h0 t ht'
      · have : t = s.heap.objs.size := by simpa using ht'
        subst this
        exact ⟨hk0 _ hT (Ne.symm hiT) (Ne.symm hST), Ne.symm hST, Ne.symm hiT⟩
    · intro b o h1 h2 e
      have e' := hk b o h1 h2 e
      have nT : b ≠ s.heap.objs.size := fun z => by rw [z, hT] at e'; cases e'
      rw [upd_ne h1, upd_ne nT]; exact e'
    · intro b hb h1 h2
      rw [upd_ne h2] at hb
      by_cases z : b = s.heap.objs.size
      · rw [z, upd_same] at hb; cases hb
      · rw [upd_ne z] at hb
        exact hk0 b hb h1 h2
end
end Mi
namespace Mi
open PySem PySem.Spec PyProof.Rows L2

def spIterD (C : Addr) (f : Str) : Sp := fun vs H Q _ => ∃ a dx fs d o kvs, vs = [.ref a] ∧ H a = some (.ins C dx fs) ∧ fs.lookup f = some (.ref d) ∧ H d = some (.frz o (.dK kvs)) ∧ ∀ it, H it = none → (∀ b u, H b = some u → b < it) → Q (.ref it) (upd H it (itemsAt it d o kvs.length))
def spLenD (C : Addr) (f : Str) : Sp := fun vs H Q _ => ∃ a dx fs d o kvs, vs = [.ref a] ∧ H a = some (.ins C dx fs) ∧ fs.lookup f = some (.ref d) ∧ H d = some (.frz o (.dK kvs)) ∧ Q (.int kvs.length) H
section
variable {X : Cx} {W : WX} {pins : List (Addr × Obj)} {σ : St} {H : Hp} {s : Shared} {k : Nat} {C fa fi fl a dx d : Addr} {fs : List (Str × V)} {f : Str} {A : Around} {Q : VK} {kvs : List (Key × V)}
theorem own_run0 {E' : Value → Shared → Prop} {sp : Sp} {us : List Value} {vs : List V} (R : Runs X k fa sp) (sb : Sub X k A) (I : Inv X pins σ H s) (r : Vals vs us) (h : sp vs H Q (fun _ _ _ => False)) : wpAny (model X.prog X.w) A (call (.ref fa) us) (EP X pins σ Q) E' s := by
  obtain ⟨fd, ps, F, hb⟩ := R
  have e0 : Env0 X.prog X.w X.K X.mg X.base A X.stack s H := by
    have e := I.env0
    exact ⟨by rw [sb.fr]; exact e.frames, e.mod, e.bs, e.bsz, e.funs, e.frf, e.hok, e.bare⟩
  have hl : us.length = ps.length := by rw [← r.length]; exact F.len _ _ _ _ h
  have b := hb s us I.kIn (by rw [List.append_nil]; exact hl)
  rw [List.append_nil] at b
  refine wpAny_call (codeAny_mono (F.run A X.stack s H ⟨us, []⟩ us vs Q (fun _ _ _ => False) sb.room e0 b r h) fun r s' hq => ?_)
  cases r with
  | error e =>
    obtain ⟨_, _, _, _, _, _, _, _, _, _, _, _, hE⟩ := hq
    exact hE.elim
  | ok fl =>
    cases fl with
    | ret u => exact I.after hq
    | next => exact False.elim hq
    | brk => exact False.elim hq
    | cont => exact False.elim hq
theorem own_len0 {E' : Value → Shared → Prop} {sp : Sp} (D : DunAt X.K "__len__" C fl) (R : Runs X k fl sp) (sb : Sub X (k + 1) A) (I : Inv X pins σ H s) (ha : H a = some (.ins C dx fs)) (h : sp [.ref a] H (fun z H3 => ∃ c : Int, z = .int c ∧ 0 ≤ c ∧ c < 2 ^ 62 ∧ Q (.int c) H3) (fun _ _ _ => False)) :
    wpAny (model X.prog X.w) A (call (.builtin "len") [.ref a]) (EP X pins σ Q) E' s := by
  obtain ⟨ox, od, J⟩ := inst_at I ha
  obtain ⟨m, hF⟩ := I.fr
  refine PySem.W.len_K hF I.ok.mod.kin J D.at_ D.fn (wpAny_mono (own_run0 (vs := [.ref a]) R sb.in1 I (.cons rfl .nil) h) (fun r s' ⟨z, H', I', rz, c, ez, h0, h1, qz⟩ => ?_) fun _ _ x => x)
  subst ez
  obtain ⟨t, rfl⟩ := (show ∃ t, r = Value.int c t from rz)
  exact ⟨⟨h0, by omega⟩, .int c, H', I'.tok _, ⟨_, rfl⟩, qz⟩
theorem hint_own (D : DunAt X.K "__len__" C fl) (R : Runs X k fl (spLenD C f)) (sb : Sub X (k + 1) A) (I : Inv X pins σ H s) {o : Obj} (ha : H a = some (.ins C dx fs)) (hf : fs.lookup f = some (.ref d)) (hd : H d = some (.frz o (.dK kvs))) (hz : kvs.length ≤ sizeLine)
    {Q : Bool → Shared → Prop} {E' : Value → Shared → Prop} (h : ∀ b s', Inv X pins σ H s' → Q b s') : wpAny (model X.prog X.w) A (Builtin.List.listLengthHint (.ref a)) Q E' s := by
  obtain ⟨ox, od, J⟩ := inst_at I ha
  unfold Builtin.List.listLengthHint
  refine wpAny_bind (wpAny_bind (J.type.here ((PySem.W.looks_findIn I.kIn D.at_).here ?_)))
  refine PySem.W.KFB.if_not rfl ?_
  refine wpAny_ite_split (fun _ => ?_) (fun hab => absurd rfl hab)
  refine wpAny_bind (wpAny_rule ?_)
  refine wpAny_bind (wpAny_attempt (wpAny_mono (own_len0 (k := k) (Q := fun v H' => v = .int kvs.length ∧ H' = H) (E' := fun _ _ => False) D R sb I ha ⟨a, dx, fs, d, o, kvs, rfl, ha, hf, hd, _, rfl, by omega, by have := sizeLine_eq; omega, rfl, rfl⟩) (fun r s' ⟨v, H', I', rv, ev, eH⟩ => ?_) fun e s' he => he.elim))
  subst ev
  subst eH
  obtain ⟨t, rfl⟩ := (show ∃ t, r = Value.int kvs.length t from rv)
  dsimp only
  refine wpAny_bind (wpAny_of_eq (a := some (kvs.length : Int)) rfl ?_)
  dsimp only
  have e1 : Builtin.List.listTooLong (kvs.length : Int).toNat = false := by rw [Int.toNat_natCast]; exact notLongL hz
  refine PySem.W.KFB.if_not e1 ?_
  exact wpAny_pure (h _ _ I')
theorem upd_id {H : Hp} {a : Addr} {o : HO} (h : H a = some o) : upd H a o = H := by
  funext b
  by_cases hb : b = a
  · rw [hb, upd_same, h]
  · rw [upd_ne hb]
/-- list(o) -/
def rOwnL (C : Addr) (f : Str) (x : V) (H1 : Hp) (Q : VK) : Prop := ∃ a dx fs d kvs, x = .ref a ∧ H1 a = some (.ins C dx fs) ∧ fs.lookup f = some (.ref d) ∧ H1 d = some (.dK kvs) ∧
  ∀ (H' : Hp) (p : Addr) (ts : List Addr), Ex H1 H' → H1 p = none → (∀ t ∈ ts, H1 t = none) → p ∉ ts → H' p = some (.lst (ts.map V.ref)) → IsPairs H' ts kvs → Q (.ref p) H'
def rOwnLs (C : Addr) (f : Str) (vs : List V) (H1 : Hp) (Q : VK) : Prop := match vs with
  | [x] => rOwnL C f x H1 Q
  | _ => False
theorem pe_ownList {e : Expr} {ta : TE} {p pos : Pos} (hc : X.calm = true) (hr : Room (k + 3) X.A) (hI : DunAt X.K "__iter__" C fi) (RI : Runs X k fi (spIterD C f)) (hL : DunAt X.K "__len__" C fl) (RL : Runs X k fl (spLenD C f)) (hm : X.mg "list" = none)
    (ha : PE X e ta) (hg : Gl X "list" := by rfl) (he : starEach [e] X.env = (false, eval e X.env) :: starEach [] X.env := by rfl) (hpl : (backTo pos (starEach [] X.env)).any (·.1) = false := by rfl) :
    PE X (.Call (.Name "list" p) [e] [] pos) (fun σ H Q => ta σ H fun x H1 => rOwnL C f x H1 Q) := by
  refine ⟨fun pins s σ H Q I h => ?_⟩
  refine wpAny_Call_Name_kw (ld_blt (u := .type "list") I hg hm (by decide +kernel) ?_ (by decide) (by decide))
  refine PyProof.Rows.callWith_type1 (thn ((pa_cons ha pa_nil he).run pos pins s σ H (fun vs H1 => rOwnLs C f vs H1 Q) I h) fun us s1 ⟨vs, H1, I1, r1, q1⟩ => ?_) he hpl
  cases r1 with
  | nil => exact q1.elim
  | cons r1 t =>
    cases t with
    | cons _ _ => exact q1.elim
    | nil =>
      obtain ⟨a, dx, fs, d, kvs, ex, hH, hf, hd, q⟩ := q1
      subst ex
      rename_i u0 _
      obtain rfl : _ = Value.ref a := r1
      have had : a ≠ d := ne_of hH hd (fun z => nomatch z)
      obtain ⟨od, IL⟩ := I1.lock hd trivial
      have nofz := I1.nofrz hd trivial
      have hz : kvs.length ≤ sizeLine := (I1.hok d _ hd).1
      have hH2 : upd H1 d (.frz od (.dK kvs)) a = some (.ins C dx fs) := by rw [upd_ne had]; exact hH
      have hd2 : upd H1 d (.frz od (.dK kvs)) d = some (.frz od (.dK kvs)) := upd_same
      generalize hHL : upd H1 d (.frz od (.dK kvs)) = HL at IL hH2 hd2
      refine callType_codes (Q₁ := fun obj s₁ => obj = .ref s1.heap.objs.size ∧ s₁ = { s1 with heap := s1.heap.push { cls := .type "list", data := .seq #[] } }) PySem.F.called_list (PySem.F.typeCall_list_1 _) PySem.F.entry_list_init
        (code_list_new _ ⟨rfl, rfl⟩) fun obj s₁ h₁ => ?_
      obtain ⟨rfl, rfl⟩ := h₁
      generalize hS : s1.heap.objs.size = S
      have hSo : (s1.heap.push { cls := .type "list", data := .seq #[] }).get? S = some { cls := .type "list", data := .seq #[] } := by rw [← hS]; exact Heap.get?_push_size _ rfl
      refine ⟨⟨_, hSo, rfl⟩, PySem.F.args_list_init_2 _ _, ?_⟩
      have fr : HL S = none := by rw [← hS]; exact IL.hok.fresh (Nat.le_refl _)
      have I2 : Inv X pins σ (upd HL S (.lst [])) { s1 with heap := s1.heap.push { cls := .type "list", data := .seq #[] } } := by
        rw [← hS]; exact IL.lnew (its := []) (t' := s1.toks) .nil (Nat.zero_le _)
      show wpAny _ _ (do let old ← Builtin.List.listItems (.ref S); Builtin.List.listUpdate (.ref S) (fun _ => #[]); letGo old.toList.reverse; Builtin.List.listExtendWith (.ref S) (.ref a) .none) _ _ _
      refine wpAny_bind ?_
      unfold Builtin.List.listItems
      refine wpAny_bind (wpAny_seqItems hSo rfl (wpAny_pure ?_))
      show wpAny _ _ (updateSeq S (fun _ => #[]) >>= fun _ => letGo (#[] : Array Value).toList.reverse >>= fun _ => Builtin.List.listExtendWith (.ref S) (.ref a) .none) _ _ _
      refine wpAny_bind (wpAny_updateSeq hSo rfl ?_)
      have I3 := I2.lset (f := fun _ => #[]) (its := []) (its' := []) (ys := []) (t' := s1.toks) upd_same hSo rfl .nil (Nat.zero_le _)
      rw [upd_upd] at I3
      refine wpAny_bind (wpAny_letGo ?_)
      generalize hs3 : ({ s1 with heap := (s1.heap.push { cls := .type "list", data := .seq #[] }).update S (Obj.mapSeq fun _ => #[]), toks := s1.toks } : Shared) = s3 at I3
      have haS : a ≠ S := ne_of_none hH2 fr
      have hdS : d ≠ S := ne_of_none hd2 fr
      have hH3 : upd HL S (.lst []) a = some (.ins C dx fs) := by rw [upd_ne haS]; exact hH2
      have hd3 : upd HL S (.lst []) d = some (.frz od (.dK kvs)) := by rw [upd_ne hdS]; exact hd2
      have sb : Sub X k X.A.in1.in1 := Sub.mono (Sub.in1 (Sub.in1 ⟨hr, rfl⟩)) (Nat.le_succ k)
      have sb1 : Sub X (k + 1) X.A.in1.in1 := Sub.in1 (Sub.in1 ⟨hr, rfl⟩)
      obtain ⟨ox, od1, J⟩ := inst_at I3 hH3
      obtain ⟨m0, hF⟩ := I3.fr
      unfold Builtin.List.listExtendWith
      refine wpAny_bind (J.type.here ?_)
      have h1 : Builtin.List.listSameRef (.ref S) (.ref a) = false := by simp [Builtin.List.listSameRef, Ne.symm haS]
      have h2 : (Value.ref C == Value.type "list") = false := rfl
      have h3 : (Value.ref C == Value.type "tuple") = false := rfl
      simp only [h1, h2, h3, Bool.or_false, Bool.false_eq_true, if_false]
      refine wpAny_bind (PySem.W.owit_iter hF I.ok.mod.kin J hI.at_ hI.fn ?_)
      refine wpAny_mono (own_run0 (vs := [.ref a]) (Q := fun v H' => ∃ it, v = .ref it ∧ upd HL S (.lst []) it = none ∧ S < it ∧ H' = upd (upd HL S (.lst [])) it (itemsAt it d od kvs.length)) RI sb I3 (.cons rfl .nil) ⟨a, dx, fs, d, od, kvs, rfl, hH3, hf, hd3, fun it h4 h5 => ⟨it, rfl, h4, h5 S _ upd_same, rfl⟩⟩)
        (fun r s4 ⟨v, H4, I4, rv, it, ev, hit, hSi, eH⟩ => ?_) fun _ _ x => x
      subst ev
      subst eH
      obtain rfl : r = Value.ref it := rv
      have hi4 : upd (upd HL S (.lst [])) it (itemsAt it d od kvs.length) it = some (itemsAt it d od kvs.length) := upd_same
      obtain ⟨⟨es, ep, ok, ov, hod, hII⟩, _, _⟩ := (show ObjOk X.prog X.w _ s4.heap it (itemsAt it d od kvs.length) from I4.hok it _ hi4)
      unfold PySem.W.OwitIt
      refine wpAny_specialOf ⟨_, hII, rfl⟩ F.slot_dict_itemiterator_next.lookup ?_
      have ne1 : a ≠ it := ne_of_none hH3 hit
      have ne2 : d ≠ it := ne_of_none hd3 hit
      refine wpAny_bind (wpAny_holding (hint_own (k := k) (f := f) hL RL sb1 I4 (by rw [upd_ne ne1]; exact hH3) hf (by rw [upd_ne ne2]; exact hd3) hz fun b s5 I5 => ?_))
      obtain ⟨⟨es', ep', ok', ov', hod', hII'⟩, _, _⟩ := (show ObjOk X.prog X.w _ s5.heap it (itemsAt it d od kvs.length) from I5.hok it _ hi4)
      have hSit : S ≠ it := Nat.ne_of_lt hSi
      have hsz : X.s_0.heap.objs.size ≤ S := by rw [← hS]; exact I1.sz
      have key : ∀ s6, Inv X pins σ (upd (upd HL S (.lst [])) it (itemsAt it d od kvs.length)) s6 → codeAny (model X.prog X.w) X.A.in1 (.builtin "list.extend.loop" ⟨[.ref S, .ref it, .none], []⟩) (wants (fun r s₂ => r = .none ∧ EP X pins σ Q (.ref S) s₂) X.xe) s6 := by
        intro s6 I6
        obtain ⟨⟨es6, ep6, ok6, ov6, hod6, hII6⟩, _, _⟩ := (show ObjOk X.prog X.w _ s6.heap it (itemsAt it d od kvs.length) from I6.hok it _ hi4)
        have I7 := ItX.inv_drop I6 hi4
        have fp := ItX.inv_fp I6 hi4 (Nat.le_trans hsz (Nat.le_of_lt hSi))
        rw [ItX.dropH_upd hit] at I7 fp
        refine items_loop (H0 := HL) (A1 := X.A.in1) hc (I.ok.hd hc) hod6 hSi hz (fun H' s' ts I8 e1 e2 e3 e4 => ⟨rfl, ?_⟩) kvs.length 0 [] _ s6 I7 (Nat.sub_zero _) (Nat.zero_le _) hd3 upd_same fp (.inl ⟨rfl, ok6, ov6, hII6⟩) rfl (by rw [List.take_zero]; exact .nil) (fun t ht => by simp at ht)
          (fun b o h1 h2 e => by rw [upd_ne h1]; exact e) (fun b hb h1 h2 => by rw [upd_ne h2] at hb; exact hb)
        have hdt : H' d = some (.frz od (.dK kvs)) := e4 d _ hdS (by rw [← hHL] at fr; exact ne2) hd2
        refine ⟨.ref S, upd H' d (.dK kvs), I8.unlock hdt nofz, rfl, q _ S ts (fun b o e => ?_) (by rw [← hS]; exact I1.hok.fresh (Nat.le_refl _)) (fun t ht => ?_) (fun hm' => (e3 S hm').2.1 rfl) (by rw [upd_ne (Ne.symm hdS)]; exact e1) (paired_imp e2 fun t ht y e => ?_)⟩
        · by_cases hb : b = d
          · subst hb
            rw [hd] at e
            cases e
            exact upd_same
          · have eL : HL b = some o := by rw [← hHL, upd_ne hb]; exact e
            have b1 : b ≠ S := fun z => by rw [z, fr] at eL; cases eL
            have b2 : b ≠ it := fun z => by
              rw [z] at eL
              rw [upd_ne (Ne.symm hSit)] at hit
              rw [hit] at eL; cases eL
            rw [upd_ne hb]
            exact e4 b o b1 b2 eL
        · have := (e3 t ht).1
          rw [← hHL] at this
          by_cases hb : t = d
          · rw [hb, upd_same] at this; cases this
          · rw [upd_ne hb] at this; exact this
        · have hb : t ≠ d := fun z => by rw [z, hdt] at e; cases e
          rw [upd_ne hb]; exact e
      refine wpAny_ite_split (fun _ => ?_) (fun _ => wpAny_pure ⟨plainId_quiet PySem.F.plain_extend_loop _, key s5 I5⟩)
      refine wpAny_bind (wpAny_rule ?_)
      refine wpAny_bind ?_
      show wpAny _ _ (updateSeq S (·.push .none) >>= fun _ => updateSeq S (·.pop)) _ _ _
      have hq5 : upd (upd HL S (.lst [])) it (itemsAt it d od kvs.length) S = some (.lst []) := by rw [upd_ne hSit, upd_same]
      obtain ⟨z3, its3, k3, r3, hl3, e3⟩ := I5.lstM hq5
      cases r3
      refine wpAny_bind (wpAny_updateSeq e3 rfl ?_)
      have I6 := I5.lset (f := (·.push Value.none)) (its' := [Value.none]) (ys := [.non]) (t' := s5.toks) hq5 e3 (by simp) (.cons rfl .nil) (by rw [List.length_singleton, sizeLine_eq]; decide)
      obtain ⟨z4, its4, k4, r4, hl4, e4⟩ := I6.lstM upd_same
      obtain ⟨u4, rfl, ru4⟩ := r4.one
      refine wpAny_updateSeq e4 rfl ?_ (by show 1 ≤ sizeLine; rw [sizeLine_eq]; decide) (by show 0 ≤ sizeLine + 1; exact Nat.zero_le _)
      refine wpAny_pure ⟨plainId_quiet PySem.F.plain_extend_loop _, key _ ?_⟩
      have I7 := I6.lset (f := (·.pop)) (its := [u4]) (its' := []) (ys := []) (t' := s5.toks) upd_same e4 (by rfl) .nil (Nat.zero_le _)
      rw [upd_upd, upd_id hq5] at I7
      exact I7
end
end Mi
namespace Mi
open PySem PySem.Spec PyProof.Rows L2

/-- a def whose promise is told by a reading of its body -/
theorem Fun.okG {P : Program} {w : World} {K : PySem.W.Frag} {mg : Str → Option Value} {base : Heap} {x qual : Str} {st : Stmt} {f : Addr} {fd : FuncData} {N ps : List Str} {k : Nat} {sp : Sp} {t : Cx → TS} (F : Fun K x qual st f fd) (S : FnScope N ps (defScope st))
    (len : ∀ vs H Q E, sp vs H Q E → vs.length = ps.length)
    (hbody : ∀ (cdv : Value) (A : Around) (outer : List Env) (s : Shared) (H : Hp) (E : XK), Bd (cxM P w K mg base N qual st f cdv A outer s H E) (wE E) k → PSs (cxM P w K mg base N qual st f cdv A outer s H E) (defBody st) (t (cxM P w K mg base N qual st f cdv A outer s H E)))
    (hsp : ∀ (X : Cx) vs H Q E, X.K = K → sp vs H Q E → t X { nx := fun _ H' => Q .non H', rt := Q } (L2.start N vs) H) :
    FnOk P w K mg base (L2N.CX P w) (k + 1) f fd ps sp := by
  obtain ⟨oc, od, kV, doc, pm, an, cdv, ct, osl, rfl, lk, hcd⟩ := F.ex
  refine fn_of lk hcd S len fun A outer s H vs Q E hr h => ?_
  refine ⟨_, hbody cdv A outer s H E ⟨?_, hr, rfl, ?_⟩, ?_⟩
  · exact L2N.takes_of rfl rfl rfl rfl
  · exact passes_of rfl
  · exact hsp _ vs H Q E rfl h
def tIterI (td : TE) : TE := fun σ H Q => td σ H fun x H1 => ∃ d o kvs, x = .ref d ∧ H1 d = some (.frz o (.dK kvs)) ∧ ∀ it, H1 it = none → (∀ b u, H1 b = some u → b < it) → Q (.ref it) (upd H1 it (itemsAt it d o kvs.length))
def tLenD (td : TE) : TE := fun σ H Q => td σ H fun x H1 => ∃ d o kvs, x = .ref d ∧ H1 d = some (.frz o (.dK kvs)) ∧ Q (.int kvs.length) H1
section
variable {P : Program} {w : World} {K : PySem.W.Frag} {mg : Str → Option Value} {base : Heap} {x qual : Str} {st : Stmt} {fa : Addr} {fd : FuncData} {N ps : List Str} {k : Nat} {C : Addr} {f : Str}
/-- return iter(self.f.items()) -/
theorem Fun.okIter (F : Fun K x qual st fa fd) (S : FnScope N ps (defScope st)) (hps : ps.length = 1) (cls : Cls K C) (no : NoAttr K C f)
    (hB : ∀ (cdv : Value) (A : Around) (outer : List Env) (s : Shared) (H : Hp) (E : XK), Bd (cxM P w K mg base N qual st fa cdv A outer s H E) (wE E) k → PSs (cxM P w K mg base N qual st fa cdv A outer s H E) (defBody st) (tRet (tIterI (tFld K (tVar 0) f)))) :
    FnOk P w K mg base (L2N.CX P w) (k + 1) fa fd ps (spIterD C f) := by
  refine Fun.okG (t := fun X => tRet (tIterI (tFld X.K (tVar 0) f))) F S (fun vs H Q E ⟨a, dx, fs, d, o, kvs, e, _⟩ => by rw [e, hps]; rfl) hB fun X vs H Q E eK ⟨a, dx, fs, d, o, kvs, e, h1, h2, h3, q⟩ => ?_
  subst e
  rw [eK]
  exact ⟨.ref a, rfl, a, C, dx, fs, .ref d, rfl, h1, cls, no, h2, d, o, kvs, rfl, h3, q⟩
/-- return len(self.f) -/
theorem Fun.okLenD (F : Fun K x qual st fa fd) (S : FnScope N ps (defScope st)) (hps : ps.length = 1) (cls : Cls K C) (no : NoAttr K C f)
    (hB : ∀ (cdv : Value) (A : Around) (outer : List Env) (s : Shared) (H : Hp) (E : XK), Bd (cxM P w K mg base N qual st fa cdv A outer s H E) (wE E) k → PSs (cxM P w K mg base N qual st fa cdv A outer s H E) (defBody st) (tRet (tLenD (tFld K (tVar 0) f)))) :
    FnOk P w K mg base (L2N.CX P w) (k + 1) fa fd ps (spLenD C f) := by
  refine Fun.okG (t := fun X => tRet (tLenD (tFld X.K (tVar 0) f))) F S (fun vs H Q E ⟨a, dx, fs, d, o, kvs, e, _⟩ => by rw [e, hps]; rfl) hB fun X vs H Q E eK ⟨a, dx, fs, d, o, kvs, e, h1, h2, h3, q⟩ => ?_
  subst e
  rw [eK]
  exact ⟨.ref a, rfl, a, C, dx, fs, .ref d, rfl, h1, cls, no, h2, d, o, kvs, rfl, h3, q⟩
end
section
variable {X : Cx} {td : TE} {e : Expr} {p pos : Pos}
def rLenF (xs : List V) (H : Hp) (Q : VK) : Prop := match xs with
  | [x] => ∃ d o kvs, x = .ref d ∧ H d = some (.frz o (.dK kvs)) ∧ Q (.int kvs.length) H
  | _ => False
theorem call_lenF : CallR X (.builtin "len") rLenF := by
  intro pins s σ H xs us Q I r h
  cases r with
  | nil => exact h.elim
  | cons r t =>
    cases t with
    | cons _ _ => exact h.elim
    | nil =>
      obtain ⟨a, o, kvs, rfl, ha, q⟩ := h
      cases r
      exact d_len I (.inr ⟨o, ha⟩) fun t s' I' => ⟨.int kvs.length, H, I', ⟨t, rfl⟩, q⟩
theorem pe_lenD (he : PE X e td) (hm : X.mg "len" = none) (hg : Gl X "len" := by rfl) (hs : starEach [e] X.env = (false, eval e X.env) :: starEach [] X.env := by rfl) (hpl : (backTo pos (starEach [] X.env)).any (·.1) = false := by rfl) : PE X (.Call (.Name "len" p) [e] [] pos) (tLenD td) :=
  PE.imp (pe_callB call_lenF hg hm PySem.boot_len (pa_cons he pa_nil hs) (by decide) (by decide) hs hpl) fun σ H Q q => q
end

/-! ### .. in Mini -/
/-- list(o) of the class C, whose pairs the field f holds -/
structure LstOk (P : Program) (w : World) (K : PySem.W.Frag) (mg : Str → Option Value) (base : Heap) (G : Gm) (k C f : Nat) : Prop where
  ex : ∃ fi fdi psi fl fdl psl, DunAt K "__iter__" (G.cl C) fi ∧ FnOk P w K mg base (L2N.CX P w) k fi fdi psi (spIterD (G.cl C) (G.fl f)) ∧ Binds K fdi psi [] ∧ DunAt K "__len__" (G.cl C) fl ∧ FnOk P w K mg base (L2N.CX P w) k fl fdl psl (spLenD (G.cl C) (G.fl f)) ∧ Binds K fdl psl []
def ownD (C f : Nat) (env : SEnv) (h : Hep) (v : Val) : Option (List Val) := match insOf h v with
  | some (D, fs) => if D = C then (fs.lookup f).bind fun u => if clean u = true then (dicOf env h u).map itemsV else none else none
  | none => none
def mOwnList (C f : Nat) (m : Ex1) : ExL := fun env h => (m env h).bind fun v h1 => reO (ownD C f env h1 v) h1
section
variable {G : Gm} {X : Cx} {W : WX} {e : Expr} {m : Ex1} {p pos : Pos} {k kk C f : Nat}
theorem cl_ownList (bd : Bd X W kk) (D : LstOk X.prog X.w X.K X.mg X.base G k C f) (hk : k + 3 ≤ kk) (hm : X.mg "list" = none) (ha : CE G X W e m) (hg : Gl X "list" := by rfl) (he : starEach [e] X.env = (false, eval e X.env) :: starEach [] X.env := by rfl) (hpl : (backTo pos (starEach [] X.env)).any (·.1) = false := by rfl) :
    CL G X W (.Call (.Name "list" p) [e] [] pos) (mOwnList C f m) := by
  obtain ⟨fi, fdi, psi, fl, fdl, psl, D1, F1, B1, D2, F2, B2⟩ := D.ex
  refine PE.imp (pe_ownList (k := k) bd.calm (bd.room.mono hk) D1 ⟨_, _, F1, B1⟩ D2 ⟨_, _, F2, B2⟩ hm ha hg he hpl) fun σ H Q ⟨I, ρ, as, env, h, g, q⟩ => ⟨I, ρ, as, env, h, g, ?_⟩
  unfold mOwnList at q
  cases e1 : m env h with
  | bad => rw [e1] at q; exact q
  | exc C fs h1 => rw [e1] at q; exact q
  | ok v h1 =>
    rw [e1] at q
    intro I1 ρ1 H1 x g1 d1 r1
    have q := PoL.go g1 q
    change PoL G X.K W Q I1 ρ1 as env σ H1 (reO (ownD C f env h1 v) h1) at q
    cases e2 : ownD C f env h1 v with
    | none => rw [e2] at q; exact q.elim
    | some l =>
      rw [e2] at q
      unfold ownD at e2
      split at e2
      · rename_i D' fs hi
        split at e2
        · rename_i hD
          subst hD
          obtain ⟨u, hu, e3⟩ := Option.bind_eq_some_iff.mp e2
          split at e3
          · rename_i hc
            obtain ⟨l', hl', e4⟩ := Option.map_eq_some_iff.mp e3
            subst e4
            obtain ⟨a, dx, gs, rfl, h3, h4⟩ := insOf_ok d1.hp r1 hi
            rcases h4.lookup f with ⟨_, h5⟩ | ⟨y, u', h5, h6, h7⟩
            · rw [h5] at hu; cases hu
            · rw [h6] at hu; cases hu
              obtain ⟨d, kvs, rfl, hd, r⟩ := dicOf_ok d1 (.inl h7) hl'
              refine ⟨a, dx, gs, d, kvs, rfl, h3, h5, hd, fun H' p ts ex hp hts hpn hp' pr => ?_⟩
              obtain ⟨I', g2, k2, rl, off⟩ := d1.pairs ex hts pr r
              have nI : I' p = none := by rw [off p hpn]; exact d1.hp.fr hp
              exact q I' ρ1 H' p _ k2 g2 hp hp' nI (d1.hp.nin hp) (d1.env.nin hp) rl
          · cases e3
        · cases e2
      · cases e2
end
end Mi
namespace Mi
open PySem PySem.Spec PyProof.Rows L2
open PySem.W (Frag)

/-! ### an own error: def __init__(self, pn): super().__init__(msg); self.fld = pn -/
def xA (pn : Str) (p1 p2 : Pos) : Arguments := { posonlyargs := [], args := [{ arg := "self", annotation := none, pos := p1 }, { arg := pn, annotation := none, pos := p2 }], vararg := none, kwonlyargs := [], kw_defaults := [], kwarg := none, defaults := [] }
def xB (pn fld msg : Str) (a1 a2 a3 a4 a5 a6 q1 q2 q3 q4 : Pos) : List Stmt :=
  [.Expr (.Call (.Attribute (.Call (.Name "super" a1) [] [] a2) "__init__" a3) [.Constant (.str msg) 0 a4] [] a5) a6, .Assign [.Attribute (.Name "self" q1) fld q2] (.Name pn q3) q4]
def xS (pn : Str) : Scope := { kind := .function, names := [(PySem.Str.ofString "self", .local), (pn, .local), (PySem.Str.ofString "__class__", .free), (PySem.Str.ofString "super", .globalImplicit)], isGenerator := false, isCoroutine := false, more := [] }
/-- what the written part says of the error class at C, whose __init__ (at fI) stands in the class at D -/
structure ExT (prog : Program) (K : Frag) (mg : Str → Option Value) (C D fI : Addr) (pn fld : Str) : Prop where
  cls : ∃ nm q N bs bm sn sub ab col dd k0 k1 k2 k3 k5, K.lookup C = some (excClassObj nm q C N bs bm true sn sub ab col dd k0 k1 k2 k3 k5 "ValueError.__new__") ∧ PySem.HandSPX.refsVE bm = true
  sa : PySem.W.findIn K (.ref C) "__setattr__" = some (some (.builtin "object.__setattr__"))
  noN : PySem.W.findIn K (.ref C) fld = some none
  iC : PySem.W.findIn K (.ref C) "__init__" = some (some (.ref fI))
  tC : PySem.W.typeIn K (.ref fI) = some (.type "function")
  kC : PySem.W.keepIn K (.ref C) = true
  exC : PySem.W.subIn K (.ref C) (.type "BaseException") = some true
  veC : PySem.W.subIn K (.ref C) (.type "ValueError") = some true
  tyC : PySem.W.typeIn K (.ref C) = some (.type "type")
  clD : (PySem.W.clsIn K D).isSome = true
  mro : PySem.W.mroIn K C (.ref D) = some true
  sup : PySem.W.ks_superIn K C D "__init__" = some (some (.builtin "ValueError.__init__"))
  opq : PySem.W.nsIn K cStatics "thirdparty.any" = some none
  nsup : mg "super" = none
  init : PySem.W.excInitIn K C PySem.HandSPX.veTail "ValueError.__new__" = true
  p1 : (pn == ("self" : Str)) = false
  p2 : (pn == ("__debug__" : Str)) = false
  p3 : (("__class__" : Str) == pn) = false
  p4 : (("super" : Str) == pn) = false
  p5 : (("self" : Str) == pn) = false
  fn : ∃ (oc ct : Value) (od : Option Addr) (doc pm : Value) (an : Option Addr) (cda cc : Addr) (osl : Array (Option Value)) (qual msg : Str) (p1 p2 a1 a2 a3 a4 a5 a6 q1 q2 q3 q4 : Pos) (vs : Array Value) (file : Str) (tf : Tok) (ccl cl : Value) (cdd cld : Option Addr) (ccs csl : Array (Option Value)),
    K.lookup fI = some ⟨oc, od, .func (PySem.W.ksFn "__init__" qual (xA pn p1 p2) (xB pn fld msg a1 a2 a3 a4 a5 a6 q1 q2 q3 q4) (xS pn) .none .none doc pm an (.ref cda) ct cc), osl⟩ ∧ PySem.W.codeIn K (.ref cda) qual = true ∧
    K.lookup cc = some ⟨cl, cld, .cell (some (.ref D)), csl⟩ ∧ K.lookup cda = some ⟨ccl, cdd, .fields vs, ccs⟩ ∧ vs[2]? = some (.str file tf) ∧ ((prog.main.file : Str) == file) = true ∧
    (∀ (s : Shared) (x v : Value), BindsTo s (PySem.W.ksFn "__init__" qual (xA pn p1 p2) (xB pn fld msg a1 a2 a3 a4 a5 a6 q1 q2 q3 q4) (xS pn) .none .none doc pm an (.ref cda) ct cc) ⟨[x, v], []⟩ [("self", x), (pn, v)]) ∧
    ∀ L : Addr, ∃ pl : Sem Bool, eval (.Call (.Attribute (.Call (.Name "super" a1) [] [] a2) "__init__" a3) [.Constant (.str msg) 0 a4] [] a5) (PySem.W.ksEnv qual (xS pn) L fI (.ref cda) cc) = (do
      let ov ← attributeBase (.Call (.Name "super" a1) [] [] a2) "__init__" (PySem.W.ksEnv qual (xS pn) L fI (.ref cda) cc) (eval (.Call (.Name "super" a1) [] [] a2) (PySem.W.ksEnv qual (xS pn) L fI (.ref cda) cc))
      standAt a3.atName
      let (f, first) ← holding [ov] (getMethod ov "__init__" pl)
      callWith a5 f first (backTo a5 (starEach [.Constant (.str msg) 0 a4] (PySem.W.ksEnv qual (xS pn) L fI (.ref cda) cc))) [])
  top : (prog.main.scope.names.lookup ("super" : Str)).isSome = false
section
open PySem.W PySem.Calls PySem.HandSPX
variable {prog : Program} {w : World} {A : Around} {R : Result → Shared → Prop} {s : Shared} {K : Frag} {mg mb : Str → Option Value} {C D fI : Addr} {pn fld : Str}
theorem ldX {M : Model} {E : Value → Shared → Prop} {env : Env} {m : Str → Option Value} {x : Str} {pos : Pos} {v : Value} {Q : Value → Shared → Prop} (hn : s.heap.Ns env.locals m) (hv : m x = some v) (h : Q v s)
    (hk : env.scope.kind = .function) (hl : env.kindOf x = some .local) (hd : (x == ("__debug__" : Str)) = false) : wpAny M A (eval (.Name x pos) env) Q E s := wpAny_Name (wpAny_loadName_local hk hl hn hv h) hd
theorem exc_init (T : ExT prog K mg C D fI pn fld) {h₀ : Heap} {x t0 : Addr} {v : Value} (X₀ : K.In h₀) (hg : h₀.Ns mainGlobals mg) (hb : h₀.Ns builtinsNs mb) (hbs : mb "super" = some (.type "super")) (kp : ∀ b o, h₀.get? b = some o → s.heap.get? b = some o) (hsz : h₀.objs.size ≤ s.heap.objs.size)
    (hlim : s.heap.NoLimit) (hx : s.heap.get? x = some (excO C t0)) (hx0 : h₀.get? x = none) (hroom : A.depth < recursionLimit)
    (hq : ∀ h' tk dx t1, (∀ b o, b ≠ x → h₀.get? b = some o → h'.get? b = some o) → h'.get? x = some { cls := .ref C, dict := some dx, data := .fields #[.ref t1, .none, .none, .none, .bool false, .none] } → h₀.objs.size ≤ dx → dx ≠ x → h'.Ns1 dx (fun y => if y = fld then some v else none) → R (.ok (.ret .none)) { s with heap := h', toks := tk }) :
    codeAny (model prog w) A (.call (.ref fI) ⟨[.ref x, v], []⟩) R s := by
  obtain ⟨oc, ct, od, doc, pm, an, cda, cc, osl, qual, msg, p1, p2, a1, a2, a3, a4, a5, a6, q1, q2, q3, q4, vs, file, tf, ccl, cl, cdd, cld, ccs, csl, ho, hcd, hcc, hcda, hvs, hfile, hbind, hmc⟩ := T.fn
  have X : K.In s.heap := X₀.keeps kp
  have e1 : (pn == PySem.Str.ofString "self") = false := T.p1
  refine ks_codeAny_call_defAt (fd := ksFn "__init__" qual (xA pn p1 p2) (xB pn fld msg a1 a2 a3 a4 a5 a6 q1 q2 q3 q4) (xS pn) .none .none doc pm an (.ref cda) ct cc) (body := xB pn fld msg a1 a2 a3 a4 a5 a6 q1 q2 q3 q4) (binds := [("self", .ref x), (pn, v)]) hroom (X _ _ ho) rfl hlim (codeRec_of X hcd) rfl (hbind s _ _) ?_ ?_ (fun h₁ hns hk₁ => ?_)
  · intro y hy
    simp only [xS, List.mem_cons, List.mem_nil_iff, or_false] at hy
    rcases hy with rfl | rfl | rfl | rfl <;> simp
  · intro y hy
    simp only [List.mem_cons, List.mem_nil_iff, or_false] at hy
    rcases hy with rfl | rfl
    · rfl
    · show List.lookup pn [(PySem.Str.ofString "self", NameKind.local), (pn, .local), (PySem.Str.ofString "__class__", .free), (PySem.Str.ofString "super", .globalImplicit)] = _
      simp only [List.lookup, e1, beq_self_eq_true]
  · have hxL : x ≠ s.heap.objs.size := Nat.ne_of_lt (Heap.lt_size hx)
    have F : Fr h₀ s.heap.objs.size h₁ (fun y => ([(("self" : Str), Value.ref x), (pn, v)] : List (Str × Value)).reverse.lookup y) := ⟨hns, fun b o e => hk₁ b o (kp b o e), hsz⟩
    have N : News h₀ s.heap.objs.size h₁ [(x, excO C t0)] := fun p hp => by
      have : p = (x, excO C t0) := by simpa using hp
      subst this
      exact ⟨hk₁ _ _ hx, hxL, hx0⟩
    have hns' := hns
    generalize hL : s.heap.objs.size = L at F N hns' hxL
    obtain ⟨pl, hev⟩ := hmc L
    show _root_.PySem.wpAt _ _ _ (execs (xB pn fld msg a1 a2 a3 a4 a5 a6 q1 q2 q3 q4) (ksEnv qual (xS pn) L fI (.ref cda) cc)) _ _ _
    refine ks_wpAt_execs_cons (ks_wpAt_Expr_any (ks_wpAt_MethodCall (pl := pl) ?_ hev) rfl rfl)
    have X1 : K.In h₁ := X₀.keeps F.keep
    obtain ⟨cdD, hD⟩ := Option.isSome_iff_exists.mp T.clD
    obtain ⟨oD, hD1, hD2⟩ : ∃ oD, h₁.get? D = some oD ∧ oD.data = .cls cdD := by
      unfold clsIn at hD
      split at hD
      · rename_i c d cd' sl ho
        cases hD
        exact ⟨_, X1 _ _ ho, rfl⟩
      · cases hD
    have l1 : (xS pn).names.lookup ("super" : Str) = some .globalImplicit := by
      show List.lookup ("super" : Str) [(PySem.Str.ofString "self", NameKind.local), (pn, .local), (PySem.Str.ofString "__class__", .free), (PySem.Str.ofString "super", .globalImplicit)] = _
      have h := T.p4
      simp only [List.lookup, h]
      rfl
    have l2 : (xS pn).names.lookup ("__class__" : Str) = some .free := by
      show List.lookup ("__class__" : Str) [(PySem.Str.ofString "self", NameKind.local), (pn, .local), (PySem.Str.ofString "__class__", .free), (PySem.Str.ofString "super", .globalImplicit)] = _
      have h := T.p3
      simp only [List.lookup, h]
      rfl
    have l3 : (xS pn).names.lookup ("self" : Str) = some .local := by rfl
    have I1 : InstAt h₁ x (excO C t0) C none := ⟨(N _ List.mem_cons_self).1, rfl, rfl, trivial⟩
    refine ks_wpAt_super_base (env := ksEnv qual (xS pn) L fI (.ref cda) cc) l1 l2 rfl rfl (X1 _ _ ho) rfl rfl rfl (X1 _ _ hcda) rfl hvs hfile T.top ?_
    refine ks_loadName_global rfl l1 (Calls.loadGlobal_builtin (env := ksEnv qual (xS pn) L fI (.ref cda) cc) (hg.keeps F.keep) T.nsup (hb.keeps F.keep) hbs ⟨rfl, ?_⟩)
    refine wpAny_loadName_free rfl l2 rfl ⟨_, X1 _ _ hcc, rfl⟩ ?_
    have l4 : ([(("self" : Str), Value.ref x), (pn, v)] : List (Str × Value)).reverse.lookup ("self" : Str) = some (.ref x) := by
      show List.lookup ("self" : Str) [(pn, v), (("self" : Str), Value.ref x)] = _
      have h := T.p5
      simp only [List.lookup, h]
      rfl
    have l5 : ([(("self" : Str), Value.ref x), (pn, v)] : List (Str × Value)).reverse.lookup pn = some v := by
      show List.lookup pn [(pn, v), (("self" : Str), Value.ref x)] = _
      simp only [List.lookup, beq_self_eq_true]
    have l6 : (xS pn).names.lookup pn = some .local := by
      show List.lookup pn [(PySem.Str.ofString "self", NameKind.local), (pn, .local), (PySem.Str.ofString "__class__", .free), (PySem.Str.ofString "super", .globalImplicit)] = _
      simp only [List.lookup, e1, beq_self_eq_true]
    refine wpAny_loadName_local rfl l3 F.ns l4 ?_
    refine ks_wpAny_isType_cls hD1 hD2 ⟨rfl, ?_⟩
    refine ks_wpAny_call_super hD1 hD2 I1.at_ I1.cls (fun c e => by cases e) (looks_mroIn X1 T.mro) (fun h2 e2 k2 => ?_)
    obtain ⟨F2, N2, lt2⟩ := ks_newsPush (s := { s with heap := h₁, toks := s.toks + 2 }) (o := ks_superObj D x C) F N rfl e2 k2
    have I2 : InstAt h2 x (excO C t0) C none := ⟨(N2 _ (.tail _ List.mem_cons_self)).1, rfl, rfl, trivial⟩
    refine kxs_method (s := { s with heap := h2, toks := s.toks + 2 }) kxs_ValueError F2 X₀ N2 List.mem_cons_self I2 T.opq T.sup T.veC rfl (fun q3' h3 F3 N3 lt3 => ?_)
    refine kxs_callWith1 (i := "ValueError.__init__") (x := x) N3 List.mem_cons_self ?_
    refine Calls.spliced_cons ?_
    show wpAny _ _ (eval (.Constant (.str msg) 0 a4) (ksEnv qual (xS pn) L fI (.ref cda) cc)) _ _ _
    refine Calls.Constant_str (Calls.spliced_nil ?_)
    have ne3 : ∀ p ∈ [(s.heap.objs.size, ks_superObj D x C)], True := fun _ _ => trivial
    have hq3 : q3' ≠ x := Ne.symm (Nat.ne_of_lt (lt3 (x, excO C t0) (.tail _ List.mem_cons_self)))
    have hq2 : h₁.objs.size ≠ x := Ne.symm (Nat.ne_of_lt (lt2 (x, excO C t0) List.mem_cons_self))
    refine ⟨kxs_at N3 List.mem_cons_self, kxs_call F3 X₀ N3 PySem.F.excBase_ValueError T.init List.mem_cons_self (t := t0) (dv := none) (c2 := .none) (UpdF.tail hq3 (.tail hq2 (.head (fun _ h => nomatch h)))) ?_ fun t' h4 F4 N4 lt4 => ?_⟩
    · show 1 ≤ sizeLine
      rw [sizeLine_eq]; decide
    · show _root_.PySem.wpAt _ _ _ (execs [.Assign [.Attribute (.Name "self" q1) fld q2] (.Name pn q3) q4] (ksEnv qual (xS pn) L fI (.ref cda) cc)) _ _ _
      have X4 : K.In h4 := X₀.keeps F4.keep
      have hx4 : h4.get? x = some { cls := .ref C, data := .fields #[.ref t', .none, .none, .none, .bool false, .none] } := (N4 (x, excObj C t' none .none) (.tail _ (.tail _ (.tail _ List.mem_cons_self)))).1
      obtain ⟨nm, qq, N', bs, bm, sn, sub, ab, col, dd, k0, k1, k2, k3, k5, hC, hbm⟩ := T.cls
      have hcl : clsIn K C = some { name := nm, bases := bs, mro := .ref C :: bm, ns := N', qualname := qq, hasDict := true, slotNames := sn, subclasses := sub, abstract := ab, collection := col, hasDel := false } := by unfold clsIn; rw [hC] <;> rfl
      refine ks_wpAt_execs_cons (ks_wpAt_Assign_Attr ?_ rfl)
      have l6' : (ksEnv qual (xS pn) L fI (.ref cda) cc).kindOf pn = some .local := l6
      have l3' : (ksEnv qual (xS pn) L fI (.ref cda) cc).kindOf ("self" : Str) = some .local := l3
      refine wpAt_of_wpAny ?_
      refine ldX (m := fun y => ([(("self" : Str), Value.ref x), (pn, v)] : List (Str × Value)).reverse.lookup y) F4.ns l5 ?_ rfl l6' T.p2
      refine ldX (m := fun y => ([(("self" : Str), Value.ref x), (pn, v)] : List (Str × Value)).reverse.lookup y) F4.ns l4 ?_ rfl l3' (by decide)
      refine set_plain X4 (ox := { cls := .ref C, data := .fields #[.ref t', .none, .none, .none, .bool false, .none] }) (od := none) ⟨hx4, rfl, rfl, trivial⟩ T.sa ?_
      refine exc_osa X4 hx4 hcl (show refsVE (.ref C :: bm) = true from hbm) rfl T.noN (fun h5 tk5 dx k5' dn dne hx5 hn5 => ?_)
      show _root_.PySem.wpAt _ _ _ (execs [] (ksEnv qual (xS pn) L fI (.ref cda) cc)) _ _ _
      refine wpAt_of_wpAny (wpAny_execs_nil ?_)
      exact hq h5 tk5 dx t' (fun b o hb e => k5' b o hb (F4.keep b o e)) hx5 (Nat.le_trans (Nat.le_of_lt (Nat.lt_of_le_of_lt F4.above (let ⟨o, _, _, e, _⟩ := F4.ns; Heap.lt_size e))) dn) dne hn5
structure EMade (h h' : Heap) (e C d : Addr) (fld : Str) (v : Value) : Prop where
  keep : ∀ b o, h.get? b = some o → h'.get? b = some o
  new : h.objs.size ≤ e
  obj : ∃ t1 : Addr, h'.get? e = some { cls := .ref C, dict := some d, data := .fields #[.ref t1, .none, .none, .none, .bool false, .none] }
  dbig : h.objs.size ≤ d
  dne : d ≠ e
  ns : h'.Ns1 d (fun y => if y = fld then some v else none)
theorem exc_made (T : ExT prog K mg C D fI pn fld) {v : Value} (X : K.In s.heap) (hg : s.heap.Ns mainGlobals mg) (hb : s.heap.Ns builtinsNs mb) (hbs : mb "super" = some (.type "super")) (hlim : s.heap.NoLimit) (hroom : A.depth + 1 < recursionLimit)
    (hq : ∀ h' tk e d, EMade s.heap h' e C d fld v → R (.ok (.ret (.ref e))) { s with heap := h', toks := tk }) : codeAny (model prog w) A (.call (.ref C) ⟨[v], []⟩) R s := by
  obtain ⟨nm, q, N, bs, bm, sn, sub, ab, col, dd, k0, k1, k2, k3, k5, hC, hbm⟩ := T.cls
  obtain ⟨hp, g, dr, tk, os⟩ := s
  have k : ∀ b o, hp.get? b = some o → ((hp.push (kdv_tup [v])).push (excO C hp.objs.size)).get? b = some o := fun b o e => Heap.get?_push_of_some _ (Heap.get?_push_of_some _ e)
  have hget : ((hp.push (kdv_tup [v])).push (excO C hp.objs.size)).get? (hp.objs.size + 1) = some (excO C hp.objs.size) := by heap_get
  have hn0 : hp.get? (hp.objs.size + 1) = none := by
    cases e : hp.get? (hp.objs.size + 1) with
    | none => rfl
    | some o => exact absurd (Nat.lt_of_succ_lt (Heap.lt_size e)) (Nat.lt_irrefl _)
  refine call_own PySem.F.excBase_ValueError (fun X => refsVE_contains X bm hbm) (X _ _ hC) (looks_findIn X T.iC) (fun self => bind_fn X self T.tC) (by show 1 ≤ sizeLine; rw [sizeLine_eq]; decide) ?_
  refine exc_init (s := ⟨(hp.push (kdv_tup [v])).push (excO C hp.objs.size), g, dr, tk, os⟩) T (h₀ := hp) X hg hb hbs k (by show hp.objs.size ≤ _; rw [Heap.size_push, Heap.size_push]; omega) (hlim.keeps k) hget hn0 ?_ fun h' tk' dx t1 k' hx dn dne hns => ?_
  · show A.depth + 1 < recursionLimit
    exact hroom
  · exact ⟨rfl, hq h' tk' (hp.objs.size + 1) dx ⟨fun b o e => k' b o (fun z => by rw [z, hn0] at e; cases e) e, Nat.le_succ _, ⟨t1, hx⟩, dn, dne, hns⟩⟩
end
theorem relO_one {v : V} {v' : Value} {fld : Str} (r : RelV v v') (f : Str) : RelO (List.lookup f [(fld, v)]) (if f = fld then some v' else none) := by
  by_cases hw : f = fld
  · subst hw
    rw [if_pos rfl]
    have q : List.lookup f [(f, v)] = some v := by simp [List.lookup]
    rw [q]
    exact r
  · rw [if_neg hw]
    have qw : (f == fld) = false := by simpa using hw
    have q2 : List.lookup f [(fld, v)] = none := by simp [List.lookup, qw]
    rw [q2]
    trivial
section
variable {X : Cx} {C D fI : Addr} {pn fld nm : Str}
/-- Nm(e) -/
def tMkE (C : Addr) (fld : Str) (te : TE) : L2.St → Hp → XK → Prop := fun σ H Q => te σ H fun v H1 => ∀ d, H1 d = none → Q (.ref C) (some d) (upd H1 d (.xd [(fld, v)]))
def mk1 (C : Addr) (fld : Str) (Q : XK) (vs : List V) (H1 : Hp) : Prop := match vs with
  | [v] => ∀ d, H1 d = none → Q (.ref C) (some d) (upd H1 d (.xd [(fld, v)]))
  | _ => False
theorem pmk_e {a : Expr} {te : TE} {p pos : Pos} {k : Nat} (T : ExT X.prog X.K X.mg C D fI pn fld) (gC : X.mg nm = some (.ref C)) (hr : Room k X.A) (ha : PE X a te) (hg : Gl X nm := by rfl) (hdb : (nm == ("__debug__" : Str)) = false := by decide)
    (he : starEach (a :: []) X.env = (false, eval a X.env) :: starEach [] X.env := by rfl) (hpl : (backTo pos (starEach [] X.env)).any (·.1) = false := by rfl) :
    L2N.PMk X (.Call (.Name nm p) [a] [] pos) (tMkE C fld te) := by
  intro pins s σ H Q I h
  refine wpAny_Call_Name_kw (ld_glob I hg gC ?_ hdb)
  refine PySem.W.callWith_K (h₀ := X.base) I.ok.mod.kin T.kC (thn ((pa_cons ha pa_nil he).run pos pins s σ H (mk1 C fld Q) I h) fun us s1 hh => ?_) he hpl
  obtain ⟨vs, H1, I1, r1, q1⟩ := hh
  refine ⟨I1.kIn, ?_⟩
  cases r1 with
  | nil => exact q1.elim
  | cons rv rn =>
    cases rn with
    | cons _ _ => exact q1.elim
    | nil =>
      rename_i v v'
      show wpAny _ _ (call (.ref C) [v']) _ _ _
      have hlim := I1.nolimit
      obtain ⟨mb, hb1, hb2⟩ := I1.mod.blt
      have hg1 := I1.mod.glob.keeps I1.bk
      have hbk := hb1.keeps I1.bk
      obtain ⟨hp, g, dr, tk, os⟩ := s1
      refine wpAny_call (exc_made T I1.kIn hg1 hbk ((hb2 "super" (by decide)).trans (by decide +kernel)) hlim (by have := hr.dp; omega) fun h' tk' e d M => ?_)
      show L2N.MkP X pins σ Q (.ref e) ⟨h', g, dr, tk', os⟩
      obtain ⟨t1, hoe⟩ := M.obj
      obtain ⟨G', g1, g2⟩ := restrict h' fun b => decide (b ≠ e)
      have gk : ∀ b, b ≠ e → G'.get? b = h'.get? b := fun b hb => g1 b (decide_eq_true hb)
      have ge : G'.get? e = none := g2 e (by simp)
      have old : ∀ b o, hp.get? b = some o → G'.get? b = some o := fun b o q => (gk b (Nat.ne_of_lt (Nat.lt_of_lt_of_le (Heap.lt_size q) M.new))).trans (M.keep b o q)
      have ob : ObjOk X.prog X.w (upd H1 d (.xd [(fld, v)])) G' d (.xd [(fld, v)]) := ⟨_, M.ns.at (fun o q => (gk d M.dne).trans q), fun f => relO_one rv f⟩
      have J : Inv X pins σ (upd H1 d (.xd [(fld, v)])) ⟨G', g, dr, tk', os⟩ := I1.laid (t' := tk') old M.dbig ob
      refine ⟨e, _, _, ⟨G', g, dr, tk', os⟩, _, .ref C, some d, rfl, J, fun b o q => ?_, ge, hoe, ⟨rfl, rfl, fun vs e => ?_⟩, rfl, rfl, ?_, rfl, I1.bare, raises_own T.exC T.tyC, q1 d (I1.hok.fresh M.dbig)⟩
      · by_cases hb : b = e
        · have q' : G'.get? b = some o := q
          rw [hb, ge] at q'; cases q'
        · exact (gk b hb).symm.trans q
      · cases e
        rfl
      · rw [upd_ne (Ne.symm M.dne)]
        exact I1.hok.fresh M.new
end
/-! ### raise, in Mini -/
def mRaise (C f : Nat) (m : Ex1) : Stm := fun env h => exS env (m env h) fun v h1 => if clean v = true then .exc C [(f, v)] env h1 else .bad
structure ErrOk (prog : Program) (K : Frag) (mg : Str → Option Value) (G : Gm) (nm : Str) (C f : Nat) : Prop where
  ex : ∃ D fI pn, ExT prog K mg (G.cl C) D fI pn (G.fl f)
  gC : mg nm = some (.ref (G.cl C))
section
variable {G : Gm} {X : Cx} {W : WX} {e : Expr} {m : Ex1} {p pos pos2 : Pos} {kk C f : Nat} {nm : Str}
theorem cs_raise (bd : Bd X W kk) (T : ErrOk X.prog X.K X.mg G nm C f) (ha : CE G X W e m) (hg : Gl X nm := by rfl) (hdb : (nm == ("__debug__" : Str)) = false := by decide)
    (he : starEach (e :: []) X.env = (false, eval e X.env) :: starEach [] X.env := by rfl) (hpl : (backTo pos (starEach [] X.env)).any (·.1) = false := by rfl) :
    CS G X W (.Raise (some (.Call (.Name nm p) [e] [] pos)) none pos2) (mRaise C f m) := by
  obtain ⟨D, fI, pn, T'⟩ := T.ex
  refine PS.imp (L2N.ps_raise bd.calm bd.tk (pmk_e T' T.gC bd.room ha hg hdb he hpl)) fun D' σ H ⟨I, ρ, as, env, h, g, q⟩ => ⟨I, ρ, as, env, h, g, exS_use q fun v h1 I1 ρ1 H1 x g1 d1 r1 q1 => ?_⟩
  by_cases hc : clean v = true
  · rw [if_pos hc] at q1
    intro d hd
    have e1 := Ex.new (o := .xd [(G.fl f, x)]) (d1.hp.fr hd)
    refine q1 _ ρ1 as σ _ (some d) (Go.new d1 hd) (d1.new hd) (.inr ⟨d, _, rfl, upd_same, fun k w hw => ?_⟩)
    by_cases hk : k = f
    · subst hk
      have : some v = some w := by simpa [List.lookup] using hw
      cases this
      exact ⟨x, by simp [List.lookup], (r1.cl hc).mono e1 List.prefix_rfl⟩
    · have : (k == f) = false := beq_eq_false_iff_ne.mpr hk
      simp [List.lookup, this] at hw
  · rw [if_neg hc] at q1; exact q1.elim
end
end Mi
namespace Mi
open PySem PySem.Spec PyProof.Rows L2
open PySem.W (Frag)

/-! ### the same names, another handled error -/
abbrev Gm.at (G : Gm) (x : Option (Addr × Nat × Option Addr)) : Gm := { G with xa := x }
section
variable {G : Gm} {K : Frag} {I : Hp} {ρ : List Addr} {x : Option (Addr × Nat × Option Addr)}
mutual
theorem RepV.at : ∀ {y : V} {v : Val}, RepV G K I ρ y v → RepV (G.at x) K I ρ y v
  | _, _, .non => .non
  | _, _, .bl b => .bl b
  | _, _, .int i => .int i
  | _, _, .str s => .str s
  | _, _, .tup h r => .tup h (RepL.at r)
  | _, _, .lst h r => .lst h (RepL.at r)
  | _, _, .frl h r => .frl h (RepL.at r)
  | _, _, .dic h r => .dic h (RepK.at r)
  | _, _, .obj (C := C) h r => .obj (C := C) (G := G.at x) h (RepF.at r)
  | _, _, .ref h => .ref h
theorem RepL.at : ∀ {y : List V} {v : List Val}, RepL G K I ρ y v → RepL (G.at x) K I ρ y v
  | _, _, .nil => .nil
  | _, _, .cons h r => .cons (RepV.at h) (RepL.at r)
theorem RepK.at : ∀ {y : List (Key × V)} {v : List (Key × Val)}, RepK G K I ρ y v → RepK (G.at x) K I ρ y v
  | _, _, .nil => .nil
  | _, _, .cons h r => .cons (RepV.at h) (RepK.at r)
theorem RepF.at : ∀ {y : List (Str × V)} {v : List (Nat × Val)}, RepF G K I ρ y v → RepF (G.at x) K I ρ y v
  | _, _, .nil => .nil
  | _, _, .cons (k := k) h r => .cons (G := G.at x) (k := k) (RepV.at h) (RepF.at r)
end
theorem at_at {G : Gm} {x y : Option (Addr × Nat × Option Addr)} : (G.at x).at y = G.at y := rfl
theorem RepV.un {y : V} {v : Val} (h : RepV (G.at x) K I ρ y v) : RepV G K I ρ y v := RepV.at (G := G.at x) (x := G.xa) h
theorem RepL.un {y : List V} {v : List Val} (h : RepL (G.at x) K I ρ y v) : RepL G K I ρ y v := RepL.at (G := G.at x) (x := G.xa) h
theorem CellOk.at {H : Hp} {a : Addr} {c : Cell} (h : CellOk G K I ρ H a c) : CellOk (G.at x) K I ρ H a c := by
  cases c with
  | lst l => obtain ⟨xs, h1, h2⟩ := h; exact ⟨xs, h1, h2.at⟩
  | dic l => obtain ⟨xs, h1, h2⟩ := h; exact ⟨xs, h1, h2.at⟩
  | ins C fs => obtain ⟨dx, gs, h1, h2⟩ := h; exact ⟨dx, gs, h1, h2.at⟩
theorem CellOk.un {H : Hp} {a : Addr} {c : Cell} (h : CellOk (G.at x) K I ρ H a c) : CellOk G K I ρ H a c := CellOk.at (G := G.at x) (x := G.xa) h
theorem HpOk.sw {h : Hep} {H : Hp} (g : HpOk G K I ρ h H) : HpOk (G.at x) K I ρ h H := ⟨g.ex, g.nd, g.len, g.off, fun n c a h1 h2 => (g.cell n c a h1 h2).at⟩
theorem HpOk.un {h : Hep} {H : Hp} (g : HpOk (G.at x) K I ρ h H) : HpOk G K I ρ h H := HpOk.sw (G := G.at x) (x := G.xa) g
theorem ExOk.at {H : Hp} {d : Option Addr} {fs : List (Nat × Val)} (h : ExOk G K I ρ H d fs) : ExOk (G.at x) K I ρ H d fs := by
  rcases h with h | ⟨dd, gs, h1, h2, h3⟩
  · exact .inl h
  · exact .inr ⟨dd, gs, h1, h2, fun k v hv => let ⟨y, h4, h5⟩ := h3 k v hv; ⟨y, h4, h5.at⟩⟩
theorem ExOk.un {H : Hp} {d : Option Addr} {fs : List (Nat × Val)} (h : ExOk (G.at x) K I ρ H d fs) : ExOk G K I ρ H d fs := ExOk.at (G := G.at x) (x := G.xa) h
/-- a frame that holds no handled error -/
def noEx (env : SEnv) : Bool := env.all fun s => match s with
  | .ex _ _ => false
  | _ => true
theorem SlotOk.at {H : Hp} {o : Option Addr} {y : Option V} {s : Slot} (hs : ∀ C fs, s ≠ .ex C fs) (h : SlotOk G K I ρ H o y s) : SlotOk (G.at x) K I ρ H o y s := by
  cases s with
  | un => exact h
  | va v => obtain ⟨h1, z, h2, h3⟩ := h; exact ⟨h1, z, h2, h3.at⟩
  | ow c => obtain ⟨a, h1, h2, h3⟩ := h; exact ⟨a, h1, h2, h3.at⟩
  | ex C fs => exact absurd rfl (hs C fs)
theorem noEx_get {env : SEnv} (hn : noEx env = true) {i : Nat} {s : Slot} (e : env[i]? = some s) (C : Nat) (fs : List (Nat × Val)) : s ≠ .ex C fs := fun z => by
  have := List.all_eq_true.mp hn s (List.mem_of_getElem? e)
  rw [z] at this
  cases this
theorem Good.at {as : Own} {env : SEnv} {h : Hep} {σ : St} {H : Hp} (hn : noEx env = true) (g : Good G K I ρ as env h σ H) : Good (G.at x) K I ρ as env h σ H :=
  ⟨g.hp.sw, g.env.l1, g.env.l2, g.env.inj, g.env.off, fun i s o y h1 h2 h3 => (g.env.slot i s o y h1 h2 h3).at (noEx_get hn h1)⟩
theorem Good.un {as : Own} {env : SEnv} {h : Hep} {σ : St} {H : Hp} (hn : noEx env = true) (g : Good (G.at x) K I ρ as env h σ H) : Good G K I ρ as env h σ H := Good.at (G := G.at x) (x := G.xa) hn g
/-- a slot gets the handled error -/
theorem Good.setEx {as : Own} {env : SEnv} {h : Hep} {σ : St} {H : Hp} {a : Addr} {C : Nat} {d : Option Addr} {fs : List (Nat × Val)} (g : Good G K I ρ as env h σ H) (hx : G.xa = some (a, C, d)) (i : Nat) (r : ExOk G K I ρ H d fs) : Good G K I ρ (as.set i none) (env.set i (.ex C fs)) h (σ.set i (some (.ref a))) H := by
  have g1 := g.unset (y := some (.ref a)) i
  refine ⟨g1.hp, by simp [g.env.l1], by simp [g.env.l2], g1.env.inj, g1.env.off, fun j s o y e1 e2 e3 => ?_⟩
  rcases lset e1 with ⟨z, e⟩ | ⟨z, e1⟩
  · subst z; subst e
    rcases lset e2 with ⟨_, e⟩ | ⟨z, _⟩
    · subst e
      rcases lset e3 with ⟨_, e⟩ | ⟨z, _⟩
      · subst e; exact ⟨rfl, a, d, hx, rfl, r⟩
      · exact absurd rfl z
    · exact absurd rfl z
  · rcases lset e2 with ⟨z', _⟩ | ⟨_, e2⟩
    · exact absurd z' z
    · rcases lset e3 with ⟨z', _⟩ | ⟨_, e3⟩
      · exact absurd z' z
      · exact g.env.slot j s o y e1 e2 e3
end

/-! ### try: body, except N as e: suite -/
def endS (i : Nat) : SO → SO
  | .nx e h => if noEx (e.set i .un) = true then .nx (e.set i .un) h else .bad
  | .bk e h => if noEx (e.set i .un) = true then .bk (e.set i .un) h else .bad
  | .ct e h => if noEx (e.set i .un) = true then .ct (e.set i .un) h else .bad
  | .rt v h => .rt v h
  | .rc c h => .rc c h
  | _ => .bad
def mTry (body : Stm) (cs : Nat → Option Bool) (i : Nat) (suite : Stm) : Stm := fun env h => match body env h with
  | .exc C fs e h' => match cs C with
    | some true => if noEx e = true then endS i (suite (e.set i (.ex C fs)) h') else .bad
    | some false => .exc C fs e h'
    | none => .bad
  | o => o
/-- what a suite's derivation is given -/
structure BdS (X : Cx) (k : Nat) : Prop where
  room : L2H.RoomH k X.A
  hot : L2H.HotC X
abbrev WN : WX := fun _ _ _ _ => False
section
variable {G : Gm} {X : Cx} {W : WX} {x n : Str} {c : Value} {i kk : Nat} {body suite : List Stmt} {b₀ : Stmt} {np pos pos' : Pos} {m ms : Stm} {cs : Nat → Option Bool}
theorem cs_try (bd : Bd X W kk) (hs : X.stack = X.env :: X.outer) (hf : X.env.frame = some X.env.locals) (hN : X.N.Nodup) (hi : X.N[i]? = some n) (hln : X.env.kindOf n = some .local) (hc : Names X x c) (hcs : ∀ C b, cs C = some b → PySem.W.exmOne X.K (.ref (G.cl C)) c = some b)
    (hb : ∀ (pn : List (Addr × Obj)) (xe : Value → Shared → Prop) (W' : WX), Bd (X.tr pn xe) W' kk → CB G (X.tr pn xe) W' body m)
    (hsu : ∀ (a : Addr) (oe : Obj) (C : Nat) (d : Option Addr) (pn : List (Addr × Obj)), L2N.Zn (.ref (G.cl C)) d oe → (∃ vs, oe.data = .fields vs) → BdS (X.suite a ((a, oe) :: pn)) kk → CB (G.at (some (a, C, d))) (X.suite a ((a, oe) :: pn)) WN (b₀ :: suite) ms) :
    CS G X W (.Try body [.ExceptHandler (some (.Name x np)) (some n) (b₀ :: suite) pos'] [] [] pos) (mTry m cs i ms) := by
  refine PS.imp (L2N.ps_try_as (tb := fun W' => rdS G X.K W' m) (ts := fun a cls d => fun D σ H => ∃ C, cls = .ref (G.cl C) ∧ rdS (G.at (some (a, C, d))) X.K WN ms D σ H) hs hf hN hi hln hc bd.tk
    (fun W' pn xe tk po => hb pn xe W' ⟨tk, bd.room, bd.calm, po⟩) (fun a oe cls d pn hz hd => ⟨fun pins s σ H D I ⟨C, ec, q⟩ => ?_⟩)) fun D σ H ⟨I, ρ, as, env, h, g, q⟩ => ?_
  · subst ec
    obtain ⟨vs, hv⟩ := id hd
    refine (hsu a oe C d pn hz hd ⟨?_, ⟨(a, oe), ⟨rfl, vs, hv, hz.2.2 vs hv⟩, List.mem_cons_self⟩⟩).run pins s σ H D I q
    have := bd.room
    exact ⟨this.dp, this.un⟩
  · refine ⟨I, ρ, as, env, h, g, ?_⟩
    unfold mTry at q
    cases e : m env h with
    | nx e' h' => rw [e] at q; exact q
    | rt v h' => rw [e] at q; exact q
    | rc v h' => rw [e] at q; exact q
    | bk e' h' => rw [e] at q; exact q
    | ct e' h' => rw [e] at q; exact q
    | bad => rw [e] at q; exact q
    | exc C fs e1 h1 =>
      rw [e] at q
      intro I1 ρ1 as1 σ1 H1 d g1 d1 x1
      have q := PoS.go g1 q
      change PoS G X.K W D I1 ρ1 as1 H1 (match cs C with | some true => if noEx e1 = true then endS i (ms (e1.set i (.ex C fs)) h1) else .bad | some false => .exc C fs e1 h1 | none => .bad) at q
      cases ec : cs C with
      | none => rw [ec] at q; exact q.elim
      | some b =>
        rw [ec] at q
        refine ⟨b, hcs C b ec, fun hb' a ha => ?_, fun hb' => ?_⟩
        · subst hb'
          change PoS G X.K W D I1 ρ1 as1 H1 (if noEx e1 = true then endS i (ms (e1.set i (.ex C fs)) h1) else .bad) at q
          by_cases hn : noEx e1 = true
          · rw [if_pos hn] at q
            refine ⟨C, rfl, I1, ρ1, as1.set i none, e1.set i (.ex C fs), h1, (d1.at hn).setEx rfl i x1.at, ?_⟩
            have gs : ∀ {I' : Hp} {ρ' : List Addr} {as' : Own} {H' : Hp}, Go I1 ρ1 (as1.set i none) H1 I' ρ' as' H' → Go I1 ρ1 as1 H1 I' ρ' as' H' := fun k => (Go.set i).trans k
            generalize ho : ms (e1.set i (.ex C fs)) h1 = o at q ⊢
            cases o with
            | nx e2 h2 =>
              intro I2 ρ2 as2 σ2 H2 k2 d2
              change PoS G X.K W D I1 ρ1 as1 H1 (if noEx (e2.set i .un) = true then .nx (e2.set i .un) h2 else .bad) at q
              by_cases hn2 : noEx (e2.set i .un) = true
              · rw [if_pos hn2] at q
                exact q I2 ρ2 _ _ H2 ((gs k2).trans (Go.set i)) ((d2.unset (y := none) i).un hn2)
              · rw [if_neg hn2] at q; exact q.elim
            | bk e2 h2 =>
              intro I2 ρ2 as2 σ2 H2 k2 d2
              change PoS G X.K W D I1 ρ1 as1 H1 (if noEx (e2.set i .un) = true then .bk (e2.set i .un) h2 else .bad) at q
              by_cases hn2 : noEx (e2.set i .un) = true
              · rw [if_pos hn2] at q
                exact q I2 ρ2 _ _ H2 ((gs k2).trans (Go.set i)) ((d2.unset (y := none) i).un hn2)
              · rw [if_neg hn2] at q; exact q.elim
            | ct e2 h2 =>
              intro I2 ρ2 as2 σ2 H2 k2 d2
              change PoS G X.K W D I1 ρ1 as1 H1 (if noEx (e2.set i .un) = true then .ct (e2.set i .un) h2 else .bad) at q
              by_cases hn2 : noEx (e2.set i .un) = true
              · rw [if_pos hn2] at q
                exact q I2 ρ2 _ _ H2 ((gs k2).trans (Go.set i)) ((d2.unset (y := none) i).un hn2)
              · rw [if_neg hn2] at q; exact q.elim
            | rt v h2 => exact fun I2 ρ2 as2 H2 y k2 d2 r2 => q I2 ρ2 as2 H2 y (gs k2) d2.un r2.un
            | rc v h2 =>
              intro I2 ρ2 as2 H2 p k2 d2 hp hc2 i2 n2 s2
              refine q I2 ρ2 as2 H2 p (gs k2) d2.un ?_ hc2.un i2 n2 s2
              rcases hp with hp | hp
              · exact .inl hp
              · exact .inr (mem_set_none hp)
            | exc C2 fs2 e2 h2 => exact q.elim
            | bad => exact q.elim
          · rw [if_neg hn] at q; exact q.elim
        · subst hb'
          exact q I1 ρ1 as1 σ1 H1 d Go.refl d1 x1
end
end Mi
namespace Mi
open PySem PySem.Spec PyProof.Rows L2
open PySem.W (Frag)

/-! ### e.f and isinstance(e, C), e the handled error -/
def mExF (i f : Nat) (Cs : List Nat) : Ex1 := fun env h => match env[i]? with
  | some (.ex C fs) => if Cs.contains C = true then reO (fs.lookup f) h else .bad
  | _ => .bad
def mExI (i : Nat) (ans : Nat → Option Bool) : Ex1 := fun env h => match env[i]? with
  | some (.ex C _) => match ans C with
    | some b => .ok (.bl b) h
    | none => .bad
  | _ => .bad
/-- what the class of a handled error must say -/
structure ExCl (K : Frag) (C : Addr) : Prop where
  xf : XfC K C
  cl : (PySem.W.clsIn K C).isSome = true
  ha : PySem.W.findIn K (.ref C) "__class__" = some (some (.builtin "object.__class__"))
  hn : PySem.W.specialIn K (.builtin "object.__class__") "__get__" = some (some (.builtin "getset_descriptor.__get__"))
  ht : PySem.W.takesIn K (.builtin "object.__class__") = some true
  hm : PySem.W.mroIn K C (.type "object") = some true
section
variable {G : Gm} {X : Cx} {a : Addr} {oe : Obj} {C : Nat} {d : Option Addr} {pn : List (Addr × Obj)} {i f : Nat} {Cs : List Nat} {n x y : Str} {np pos p p2 : Pos}
theorem ex_slot {K : Frag} {I : Hp} {ρ : List Addr} {as : Own} {env : SEnv} {h : Hep} {σ : St} {H : Hp} {C' : Nat} {fs : List (Nat × Val)} (g : Good (G.at (some (a, C, d))) K I ρ as env h σ H) (e : env[i]? = some (.ex C' fs)) : C' = C ∧ σ[i]? = some (some (.ref a)) ∧ ExOk (G.at (some (a, C, d))) K I ρ H d fs := by
  have l0 : i < env.length := (List.getElem?_eq_some_iff.mp e).1
  have l1 : i < as.length := by rw [g.env.l1]; exact l0
  have l2 : i < σ.length := by rw [g.env.l2]; exact l0
  obtain ⟨_, a', d', h1, h2, h3⟩ := g.env.slot i _ _ _ e (List.getElem?_eq_getElem l1) (List.getElem?_eq_getElem l2)
  have h1' : some (a, C, d) = some (a', C', d') := h1
  cases h1'
  exact ⟨rfl, by rw [List.getElem?_eq_getElem l2]; exact congrArg some h2, h3⟩
theorem ce_exF (hz : L2N.Zn (.ref (G.cl C)) d oe) (hd : ∃ vs, oe.data = .fields vs) (hC : ∀ C ∈ Cs, XfC X.K (G.cl C) ∧ PySem.W.findIn X.K (.ref (G.cl C)) (G.fl f) = some none) (hN : X.N[i]? = some n) (hv : Vis X.env.scope n := by first | exact Or.inl rfl | exact Or.inr (Or.inl rfl) | exact Or.inr (Or.inr rfl)) (hx : x = G.fl f := by rfl)
    (hdb : (n == ("__debug__" : Str)) = false := by decide) (hcd : (n == ("__classdict__" : Str)) = false := by decide) (hb : attributeBase (.Name n p) (G.fl f) X.env (eval (.Name n p) X.env) = eval (.Name n p) X.env := by rfl) :
    CE (G.at (some (a, C, d))) (X.suite a ((a, oe) :: pn)) WN (.Attribute (.Name n p) x pos) (mExF i f Cs) := by
  subst hx
  refine ⟨fun pins s σ H Q I ⟨I0, ρ, as, env, h, g, q⟩ => ?_⟩
  unfold mExF at q
  split at q
  · rename_i C' fs hs
    split at q
    · rename_i hc
      obtain ⟨rfl, e1, e2⟩ := ex_slot g hs
      obtain ⟨t1, t2⟩ := hC C' (by simpa using hc)
      cases e3 : fs.lookup f with
      | none => rw [e3] at q; exact q.elim
      | some v =>
        rw [e3] at q
        refine (pe_xf (C := G.cl C') (n := G.fl f) t1 t2 hz.zc hd (pe_var (X := X.suite a ((a, oe) :: pn)) hN hv hdb hcd) hb).run pins s σ H Q I ⟨.ref a, e1, rfl, rfl, ?_⟩
        rcases e2 with ⟨rfl, _⟩ | ⟨dd, gs, rfl, h2, h3⟩
        · cases e3
        · obtain ⟨z, h4, h5⟩ := h3 f v e3
          exact ⟨dd, gs, z, rfl, g.hp.ex _ _ h2, h4, q _ _ _ z Go.refl g (.inl h5)⟩
    · exact q.elim
  · exact q.elim
def rIsX (K : Frag) (C a : Addr) (d : Option Addr) (xs : List V) (H : Hp) (Q : VK) : Prop := ∃ (cD : Addr) (b : Bool), xs = [.ref a, .ref cD] ∧ (d = none ∨ ∃ dd fs, d = some dd ∧ H dd = some (.xd fs)) ∧ PySem.W.kitOne K (.ref C) (.ref cD) = some b ∧ Q (.bl b) H
theorem call_isX {C : Addr} (T : ExCl X.K C) (hz : Zc (.ref C) d oe) (hd : ∃ vs, oe.data = .fields vs) : CallR (X.suite a ((a, oe) :: pn)) (.builtin "isinstance") (rIsX X.K C a d) := by
  intro pins s σ H xs us Q I r ⟨cD, b, exs, hdd, e, q⟩
  subst exs
  cases r with | cons rx rr =>
  cases rr with | cons rt rr =>
  cases rr
  cases rx
  cases rt
  obtain ⟨hget, _⟩ := I.pin (a, oe) (List.mem_append.mpr (.inl List.mem_cons_self))
  obtain ⟨vs, hv⟩ := hd
  have J : ∃ od, PySem.W.InstAt s.heap a oe C od := by
    rcases hdd with hdd | ⟨dd, fs, hdd, hH⟩
    · refine ⟨none, hget, hz.1, by unfold PySem.W.notCls; rw [hv] <;> rfl, ?_⟩
      rw [hz.2, hdd]; trivial
    · obtain ⟨mA, hns, _⟩ := (show ObjOk X.prog X.w H s.heap dd (.xd fs) from I.hok dd _ hH)
      obtain ⟨od, ho, _⟩ := lookIn_ns hns
      refine ⟨some od, hget, hz.1, by unfold PySem.W.notCls; rw [hv] <;> rfl, ?_⟩
      rw [hz.2, hdd]; exact ho
  obtain ⟨od, J⟩ := J
  exact PySem.W.kia_one (PySem.W.kitx_exc T.cl T.xf.ga T.xf.gg T.xf.exC T.ha T.hn T.ht T.hm) I.kIn J e (fun z => nomatch z) fun tk => ⟨.bl b, H, I.kept (t' := tk) fun _ _ z => z, rfl, q⟩
theorem ce_exI {ans : Nat → Option Bool} {cD : Addr} (hz : L2N.Zn (.ref (G.cl C)) d oe) (hd : ∃ vs, oe.data = .fields vs) (hans : ∀ C b, ans C = some b → ExCl X.K (G.cl C) ∧ PySem.W.kitOne X.K (.ref (G.cl C)) (.ref cD) = some b) (hN : X.N[i]? = some n) (hm : X.mg "isinstance" = none) (hD : X.mg y = some (.ref cD)) (hg : Gl X "isinstance" := by rfl) (hg2 : Gl X y := by rfl)
    (hv : Vis X.env.scope n := by first | exact Or.inl rfl | exact Or.inr (Or.inl rfl) | exact Or.inr (Or.inr rfl)) (hdb : (n == ("__debug__" : Str)) = false := by decide) (hcd : (n == ("__classdict__" : Str)) = false := by decide) (hdb2 : (y == ("__debug__" : Str)) = false := by decide)
    (he : starEach [.Name n p, .Name y p2] X.env = (false, eval (.Name n p) X.env) :: starEach [.Name y p2] X.env := by rfl) (hpl : (backTo pos (starEach [.Name y p2] X.env)).any (·.1) = false := by rfl) {pf : Pos} :
    CE (G.at (some (a, C, d))) (X.suite a ((a, oe) :: pn)) WN (.Call (.Name "isinstance" pf) [.Name n p, .Name y p2] [] pos) (mExI i ans) := by
  refine ⟨fun pins s σ H Q I ⟨I0, ρ, as, env, h, g, q⟩ => ?_⟩
  unfold mExI at q
  split at q
  · rename_i C' fs hs
    obtain ⟨rfl, e1, e2⟩ := ex_slot g hs
    cases e3 : ans C' with
    | none => rw [e3] at q; exact q.elim
    | some b =>
      rw [e3] at q
      obtain ⟨t1, t2⟩ := hans C' b e3
      refine (pe_callB (X := X.suite a ((a, oe) :: pn)) (call_isX t1 hz.zc hd) hg hm (by decide +kernel) (pa_cons (pe_var hN hv hdb hcd) (pa_cons (pe_glob (v := .ref cD) hg2 hD rfl hdb2) pa_nil) he) (by decide) (by decide) he hpl).run pins s σ H Q I ⟨.ref a, e1, cD, b, rfl, ?_, t2, q _ _ _ _ Go.refl g (.inl (.bl _))⟩
      rcases e2 with ⟨_, h1⟩ | ⟨dd, gs, h1, h2, _⟩
      · exact .inl h1
      · exact .inr ⟨dd, gs, h1, g.hp.ex _ _ h2⟩
  · exact q.elim
end

/-! ### defs called within a suite -/
structure BdH (X : Cx) (W : WX) (k : Nat) : Prop where
  tk : L2N.Takes X W
  room : L2H.RoomH k X.A
  hot : L2H.HotC X
  po : PassesOwn (model X.prog X.w) X.A X.env X.xe
theorem BdH.hu {X : Cx} {W : WX} {k : Nat} (b : BdH X W k) : X.A.units + 64 < cLine := by have := b.room.un; omega
theorem BdS.hu {X : Cx} {k : Nat} (b : BdS X k) : X.A.units + 64 < cLine := by have := b.room.un; omega
structure DfH (P : Program) (w : World) (K : Frag) (mg : Str → Option Value) (base : Heap) (x : Str) (k : Nat) (sp : Sp) : Prop where
  ex : ∃ fa fd ps, L2H.FnH P w K mg base (L2N.CX P w) k fa fd ps sp ∧ mg x = some (.ref fa) ∧ PySem.W.keepIn K (.ref fa) = true ∧ Binds K fd ps []
section
variable {P : Program} {w : World} {K : Frag} {mg : Str → Option Value} {base : Heap} {G : Gm}
abbrev cxMH (P : Program) (w : World) (K : PySem.W.Frag) (mg : Str → Option Value) (base : Heap) (N : List Str) (qual : Str) (st : Stmt) (f : Addr) (cdv : Value) (A : Around) (outer : List Env) (s : Shared) (H : Hp) (E : XK) (p : Addr × Obj) : Cx := L2H.cxH (L2N.CX P w) P w K mg base N qual (defScope st) f cdv A outer s H E p
theorem Fun.okMH {x qual : Str} {st : Stmt} {f : Addr} {fd : FuncData} {N ps : List Str} {k : Nat} {m : Stm} (F : Fun K x qual st f fd) (S : FnScope N ps (defScope st))
    (hbody : ∀ (cdv : Value) (A : Around) (outer : List Env) (s : Shared) (H : Hp) (E : XK) (p : Addr × Obj), BdH (cxMH P w K mg base N qual st f cdv A outer s H E p) (wE E) k → CB G (cxMH P w K mg base N qual st f cdv A outer s H E p) (wE E) (defBody st) m) :
    L2H.FnH P w K mg base (L2N.CX P w) (k + 1) f fd ps (spM G K ps.length (fnM ps.length N.length m)) := by
  obtain ⟨oc, od, kV, doc, pm, an, cdv, ct, osl, rfl, lk, hcd⟩ := F.ex
  refine L2H.fn_ofH lk hcd S (fun vs H Q E h => h.1) fun A outer s H vs Q E p hot hr hsp => ?_
  obtain ⟨hl, I, ρ, h, args, g, r, q⟩ := hsp
  refine ⟨_, hbody cdv A outer s H E p ⟨?_, hr, ⟨p, hot, List.mem_cons_self⟩, ?_⟩, ?_⟩
  · exact L2N.takes_of rfl rfl rfl rfl
  · exact passes_of rfl
  · have hpl : ps.length ≤ N.length := by have := congrArg List.length S.pre; rw [List.length_take] at this; omega
    have hal : args.length = ps.length := by rw [← r.length]; exact hl
    have er := start_env (H := H) (N.length - ps.length) r
    have eN : L2.start N vs = vs.map some ++ List.replicate (N.length - ps.length) none := by unfold L2.start; rw [hl]
    rw [eN]
    refine ⟨I, ρ, (List.replicate (args.length + (N.length - ps.length)) none : Own), args.map Slot.va ++ List.replicate (N.length - ps.length) Slot.un, h, (Good.mk g er : Good G K _ _ _ _ _ _ _), ?_⟩
    unfold fnM at q
    rw [if_pos hal] at q
    have wk : ∀ {I' : Hp} {ρ' : List Addr} {as' : Own} {H' : Hp}, Go I ρ (List.replicate (args.length + (N.length - ps.length)) none) H I' ρ' as' H' → Go I ρ [] H I' ρ' [] H' := fun {I' ρ' as' H'} k =>
      ⟨k.ex, k.pre, fun a o e i r s => by
        obtain ⟨h1, h2, h3, _⟩ := k.fr a o e i r (by simp)
        exact ⟨h1, h2, h3, by simp⟩, k.dom⟩
    generalize he : m (args.map Slot.va ++ List.replicate (N.length - ps.length) Slot.un) h = o at q ⊢
    cases o with
    | nx e' h' => exact fun I' ρ' as' σ' H' k gd => q I' ρ' H' .non (wk k) gd.hp .non
    | rt v h' => exact fun I' ρ' as' H' x k gd rx => q I' ρ' H' x (wk k) gd rx
    | rc c h' =>
        intro I' ρ' as' H' p k gd hp hc i2 n2 s2
        obtain ⟨o, e1, e2⟩ := cell_frz hc i2
        have hp' : H p = none := hp.resolve_right fun m => by have := List.eq_of_mem_replicate m; cases this
        exact q _ ρ' H' _ ((wk k).freeze hp' i2) (gd.freeze e1 i2 n2) e2
    | bk e' h' => exact q.elim
    | ct e' h' => exact q.elim
    | exc C fs e' h' => exact fun I' ρ' as' σ' H' d k gd rx => q I' ρ' H' d (wk k) gd.hp rx
    | bad => exact q.elim
end
section
variable {G : Gm} {X : Cx} {W : WX} {x : Str} {e a : Expr} {es : List Expr} {ms : ExL} {m : Ex1} {p pos : Pos} {k n kk : Nat} {f : Fn} {xx : Option (Addr × Nat × Option Addr)}
theorem ce_callHot (tk : L2N.Takes X W) (D : DfH X.prog X.w X.K X.mg X.base x k (spM G X.K n f)) (hr : L2H.RoomH kk X.A) (hc : L2H.HotC X) (hk : k ≤ kk) (ha : CA G X W (e :: es) ms) (hg : Gl X x := by rfl)
    (hdb : (x == ("__debug__" : Str)) = false := by decide) (he : starEach (e :: es) X.env = (false, eval e X.env) :: starEach es X.env := by rfl) (hpl : (backTo pos (starEach es X.env)).any (·.1) = false := by rfl) :
    CE G X W (.Call (.Name x p) (e :: es) [] pos) (mCall (ar n f) ms) := by
  obtain ⟨fa, fd, ps, F, hm, kp, hb⟩ := D.ex
  exact PE.imp (L2H.pe_callH (E := WE W) F (hr.mono hk) hc hg hm kp hb (fun σ => L2N.passAt tk σ) ha hdb he hpl) fun _ _ _ q => rd_call (fun _ _ _ _ z => z) q
theorem ce_callH (D : DfH X.prog X.w X.K X.mg X.base x k (spM G X.K n f)) (b : BdH X W kk) (hk : k ≤ kk) (ha : CA G X W (e :: es) ms) (hg : Gl X x := by rfl)
    (hdb : (x == ("__debug__" : Str)) = false := by decide) (he : starEach (e :: es) X.env = (false, eval e X.env) :: starEach es X.env := by rfl) (hpl : (backTo pos (starEach es X.env)).any (·.1) = false := by rfl) :
    CE G X W (.Call (.Name x p) (e :: es) [] pos) (mCall (ar n f) ms) := ce_callHot b.tk D b.room b.hot hk ha hg hdb he hpl
/-- a promise under another handled error -/
theorem spM_at {K : Frag} {vs : List V} {H : Hp} {Q : VK} {E : XK} (h : spM (G.at xx) K n f vs H Q E) : spM G K n f vs H Q E := by
  obtain ⟨hl, I, ρ, h', args, g, r, q⟩ := h
  refine ⟨hl, I, ρ, h', args, g.un, r.un, ?_⟩
  cases e : f args h' with
  | bad => rw [e] at q; exact q
  | ok v h1 => rw [e] at q; exact fun I' ρ' H' x k gd rx => q I' ρ' H' x k gd.sw rx.at
  | exc C fs h1 => rw [e] at q; exact fun I' ρ' H' d k gd rx => q I' ρ' H' d k gd.sw rx.at
theorem DfH.at {P : Program} {w : World} {K : Frag} {mg : Str → Option Value} {base : Heap} (D : DfH P w K mg base x k (spM G K n f)) : DfH P w K mg base x k (spM (G.at xx) K n f) := by
  obtain ⟨fa, fd, ps, F, r⟩ := D.ex
  exact ⟨fa, fd, ps, ⟨fun vs H Q E h => F.len vs H Q E (spM_at h), fun A outer s H args us vs Q E p hr hot hp e0 hb hv h => F.run A outer s H args us vs Q E p hr hot hp e0 hb hv (spM_at h)⟩, r⟩
theorem takes_suite {a : Addr} {pn : List (Addr × Obj)} : L2N.Takes (X.suite a pn) WN := fun _ _ h => by
  obtain ⟨_, _, _, _, _, _, _, _, _, _, _, _, _, _, _, _, w⟩ := h
  exact w.elim
theorem ce_callS {a : Addr} {pn : List (Addr × Obj)} (D : DfH X.prog X.w X.K X.mg X.base x k (spM G X.K n f)) (b : BdS (X.suite a pn) kk) (hk : k ≤ kk) (ha : CA (G.at xx) (X.suite a pn) WN (e :: es) ms) (hg : Gl X x := by rfl)
    (hdb : (x == ("__debug__" : Str)) = false := by decide) (he : starEach (e :: es) X.env = (false, eval e X.env) :: starEach es X.env := by rfl) (hpl : (backTo pos (starEach es X.env)).any (·.1) = false := by rfl) :
    CE (G.at xx) (X.suite a pn) WN (.Call (.Name x p) (e :: es) [] pos) (mCall (ar n f) ms) := ce_callHot takes_suite D.at b.room b.hot hk ha hg hdb he hpl
/-! ### for k in range(n), there -/
abbrev CIH (G : Gm) (X : Cx) (W : WX) (tg it : Expr) (m : ExL) : Prop := L2H.PIH X tg it (rdI G X.K W m)
theorem ci_rng1H {tg : Expr} (hm : X.mg "range" = none) (he : CE G X W a m) (hg : Gl X "range" := by rfl) (hs : starEach [a] X.env = [(false, eval a X.env)] := by rfl) : CIH G X W tg (.Call (.Name "range" p) [a] [] pos) (mRng1 m) :=
  ⟨fun pins s σ H R I q => (L2H.pi_range1H hg hm (pa_cons he pa_nil hs) hs).run pins s σ H R I (rd_rng1 q)⟩
theorem cs_forH {tg it : Expr} {sb : List Stmt} {ml : ExL} {t : Tg} {js : List Nat} {body : Stm} (bd : BdH X W k) (hi : CIH G X W tg it ml) (hg : CG G X js tg t) (hb : CB G X W sb body) (hs : ∀ x, foldedSetIterable it X.env x = pure x := by intro _; rfl) : CS G X W (.For tg it sb [] pos) (mFor ml t body) :=
  PS.imp (L2H.ps_forH bd.po bd.hot hi hg hb hs) fun _ _ _ q => rd_for q
end

theorem takes_never {X : Cx} : L2N.Takes X W0 := fun _ _ h => by
  obtain ⟨_, _, _, _, _, _, _, _, _, _, _, _, _, _, _, _, w⟩ := h
  exact w.elim
theorem Bd.blk {X : Cx} {W : WX} {k : Nat} (bd : Bd X W k) (s : Shared) (H : Hp) (scope : Scope) (cenv : Env) (fp : List Addr) : Bd (X.blk s H scope cenv fp) W0 k := ⟨takes_never, bd.room, bd.calm, PassesOwn.never⟩
/-- a def that is not to be called -/
theorem fn_never {P : Program} {w : World} {K : Frag} {mg : Str → Option Value} {base : Heap} {G : Gm} {k : Nat} {fa : Addr} {fd : FuncData} {ps : List Str} : FnOk P w K mg base (L2N.CX P w) k fa fd ps (spM G K ps.length fun _ _ => .bad) :=
  ⟨fun vs H Q E h => h.1, fun A outer s H args us vs Q E hr e0 hb hv h => by
    obtain ⟨_, I, ρ, h', a', _, _, q⟩ := h
    exact q.elim⟩
theorem fn_neverH {P : Program} {w : World} {K : Frag} {mg : Str → Option Value} {base : Heap} {G : Gm} {k : Nat} {fa : Addr} {fd : FuncData} {ps : List Str} : L2H.FnH P w K mg base (L2N.CX P w) k fa fd ps (spM G K ps.length fun _ _ => .bad) :=
  ⟨fun vs H Q E h => h.1, fun A outer s H args us vs Q E p hr hot hp e0 hb hv h => by
    obtain ⟨_, I, ρ, h', a', _, _, q⟩ := h
    exact q.elim⟩
/-- names of fields -/
def mkFl (names : List Str) (i : Nat) : Str := (names[i]?).getD ⟨Array.replicate (1000 + i) 95⟩
theorem mkFl_inj {names : List Str} (nd : names.Nodup) (short : ∀ s ∈ names, s.length < 1000) (i j : Nat) (h : mkFl names i = mkFl names j) : i = j := by
  unfold mkFl at h
  have big : ∀ k : Nat, (⟨Array.replicate (1000 + k) 95⟩ : Str).length = 1000 + k := fun k => by
    show (Array.replicate (1000 + k) _).size = _
    simp
  cases e1 : names[i]? with
  | some a =>
    cases e2 : names[j]? with
    | some b =>
      rw [e1, e2] at h
      obtain ⟨l1, f1⟩ := List.getElem?_eq_some_iff.mp e1
      obtain ⟨l2, f2⟩ := List.getElem?_eq_some_iff.mp e2
      exact (List.getElem_inj nd).mp (f1.trans ((show a = b from h).trans f2.symm))
    | none =>
      rw [e1, e2] at h
      have := short a (List.mem_of_getElem? e1)
      rw [show a = _ from h] at this
      have := big j
      simp only [Option.getD_none] at *
      omega
  | none =>
    cases e2 : names[j]? with
    | some b =>
      rw [e1, e2] at h
      have := short b (List.mem_of_getElem? e2)
      rw [show b = _ from h.symm] at this
      have := big i
      simp only [Option.getD_none] at *
      omega
    | none =>
      rw [e1, e2] at h
      have b1 := big i
      have b2 := big j
      simp only [Option.getD_none] at h
      rw [h] at b1
      omega
end Mi
namespace Mi
open PySem L2
/-! ### running Mini's functions -/
section
variable {α β : Type} {env : SEnv} {h h1 : Hep} {C : Nat} {fs : List (Nat × Val)} {v u : Val} {m m1 m2 m3 me mo mi : Ex1} {ms ml : ExL} {mc : ExC} {s1 s2 s : Stm} {i n : Nat}
@[simp] theorem bind_ok (a : α) (f : α → Hep → Re β) : (Re.ok a h).bind f = f a h := rfl
@[simp] theorem bind_exc (f : α → Hep → Re β) : (Re.exc C fs h : Re α).bind f = .exc C fs h := rfl
@[simp] theorem bind_bad (f : α → Hep → Re β) : (Re.bad : Re α).bind f = .bad := rfl
@[simp] theorem reO_some (a : α) : reO (some a) h = .ok a h := rfl
@[simp] theorem reO_none : (reO none h : Re α) = .bad := rfl
@[simp] theorem exS_ok (a : α) (f : α → Hep → SO) : exS env (.ok a h) f = f a h := rfl
@[simp] theorem exS_exc (f : α → Hep → SO) : exS env (.exc C fs h : Re α) f = .exc C fs env h := rfl
@[simp] theorem exS_bad (f : α → Hep → SO) : exS env (.bad : Re α) f = .bad := rfl
@[simp] theorem mC_e : mC v env h = .ok v h := rfl
theorem mVar_va (e : env[i]? = some (.va v)) : mVar i env h = .ok v h := by unfold mVar; rw [e]
theorem mVar_ow {c : Cell} (e : env[i]? = some (.ow c)) : mVar i env h = .ok (.loc i) h := by unfold mVar; rw [e]
@[simp] theorem mVar_e : mVar i env h = match env[i]? with | some (.va v) => .ok v h | some (.ow _) => .ok (.loc i) h | _ => .bad := rfl
@[simp] theorem mBin_e {f : Op2} : mBin f m1 m2 env h = (m1 env h).bind fun v h1 => (m2 env h1).bind fun u h2 => reO (f env h2 v u) h2 := rfl
@[simp] theorem mUn_e {f : Op1} : mUn f m env h = (m env h).bind fun v h1 => reO (f env h1 v) h1 := rfl
@[simp] theorem mNil_e : mNil env h = .ok [] h := rfl
@[simp] theorem mCons_e : mCons m ms env h = (m env h).bind fun v h1 => if clean v then (ms env h1).bind fun vs h2 => .ok (v :: vs) h2 else .bad := rfl
@[simp] theorem mTup_e : mTup ms env h = (ms env h).bind fun vs h1 => if vs.length ≤ smx then .ok (.tup vs) h1 else .bad := rfl
@[simp] theorem mLst_e : mLst ms env h = (ms env h).bind fun vs h1 => if vs.length ≤ smx then .ok vs h1 else .bad := rfl
@[simp] theorem mFrz_e : mFrz ml env h = (ml env h).bind fun l h1 => .ok (.lst l) h1 := rfl
@[simp] theorem mLC_e : mLC ml env h = (ml env h).bind fun l h1 => .ok (.lst l) h1 := rfl
@[simp] theorem mFrzC_e : mFrzC mc env h = (mc env h).bind fun c h1 => .ok (frzV c) h1 := rfl
@[simp] theorem mCelC_e : mCelC mc env h = (mc env h).bind fun c h1 => .ok (.ref h1.length) (h1 ++ [c]) := rfl
@[simp] theorem mDnew_e : mDnew env h = .ok (.dic []) h := rfl
@[simp] theorem mNot_e : mNot m env h = (m env h).bind fun v h1 => match v with | .bl b => .ok (.bl (!b)) h1 | _ => .bad := rfl
@[simp] theorem mAnd_e : mAnd m1 m2 env h = (m1 env h).bind fun v h1 => match v with | .bl true => m2 env h1 | .bl false => .ok (.bl false) h1 | _ => .bad := rfl
@[simp] theorem mOr_e : mOr m1 m2 env h = (m1 env h).bind fun v h1 => match v with | .bl true => .ok (.bl true) h1 | .bl false => m2 env h1 | _ => .bad := rfl
@[simp] theorem mIte_e : mIte m m1 m2 env h = (m env h).bind fun v h1 => match v with | .bl true => m1 env h1 | .bl false => m2 env h1 | _ => .bad := rfl
@[simp] theorem mCall_e {f : Fn} : mCall f ms env h = (ms env h).bind fun vs h1 => f vs h1 := rfl
@[simp] theorem mCallC_e {f : FnC} : mCallC f ms env h = (ms env h).bind fun vs h1 => f vs h1 := rfl
@[simp] theorem ar_e {f : Fn} {vs : List Val} : ar n f vs h = if vs.length = n then f vs h else .bad := rfl
@[simp] theorem arC_e {f : FnC} {vs : List Val} : arC n f vs h = if vs.length = n then f vs h else .bad := rfl
@[simp] theorem mNext_e : mNext env h = .nx env h := rfl
@[simp] theorem mBad_e : mBad env h = .bad := rfl
@[simp] theorem mSeq_e : mSeq s1 s2 env h = match s1 env h with | .nx e h' => s2 e h' | o => o := rfl
@[simp] theorem mDrop_e : mDrop m env h = exS env (m env h) fun _ h1 => .nx env h1 := rfl
@[simp] theorem mRet_e : mRet m env h = exS env (m env h) fun v h1 => match v with | .loc i => (match env[i]? with | some (.ow c) => .rc c h1 | _ => .bad) | v => .rt v h1 := rfl
@[simp] theorem mRetC_e : mRetC mc env h = exS env (mc env h) fun c h1 => .rc c h1 := rfl
@[simp] theorem mSet_e : mSet i m env h = exS env (m env h) fun v h1 => if clean v then .nx (env.set i (.va v)) h1 else .bad := rfl
@[simp] theorem mOwn_e : mOwn i ml env h = exS env (ml env h) fun l h1 => .nx (env.set i (.ow (.lst l))) h1 := rfl
@[simp] theorem mIf_e : mIf m s1 s2 env h = exS env (m env h) fun v h1 => match v with | .bl true => s1 env h1 | .bl false => s2 env h1 | _ => .bad := rfl
@[simp] theorem mRaise_e {f : Nat} : mRaise C f m env h = exS env (m env h) fun v h1 => if clean v = true then .exc C [(f, v)] env h1 else .bad := rfl
@[simp] theorem cl1 {b : Bool} : clean (.bl b) = true := rfl
@[simp] theorem cl2 {b : Int} : clean (.int b) = true := rfl
@[simp] theorem cl3 {b : Str} : clean (.str b) = true := rfl
@[simp] theorem cl4 : clean .non = true := rfl
@[simp] theorem cl5 {l : List Val} : clean (.tup l) = true := rfl
@[simp] theorem cl6 {l : List Val} : clean (.lst l) = true := rfl
@[simp] theorem cl7 {l : List (Key × Val)} : clean (.dic l) = true := rfl
@[simp] theorem cl8 : clean (.obj C fs) = true := rfl
@[simp] theorem cl9 {l : List Val} : clean (.frl l) = true := rfl
@[simp] theorem cl10 : clean (.ref n) = true := rfl
@[simp] theorem cl11 : clean (.loc n) = false := rfl
@[simp] theorem smx2 : (2 ≤ smx) = True := eq_true (by decide)
@[simp] theorem smx0 : (0 ≤ smx) = True := eq_true (by decide)
end
end Mi
namespace Kx
open PySem L2 Mi
def top (i : Nat) : Stmt := PySem.Challenge.pw_copiesfollow_k51_store_pairs.main.body.getD i (.Pass ⟨0, 0, 0, 0⟩)
def flds : List Str := ["_pairs", "key", "rows"]
def Gk (c : List Addr) : Gm := { cl := fun i => c.getD i 0, fl := mkFl flds, inj := mkFl_inj (by decide +kernel) (by decide +kernel) }
theorem mem1 {p : Nat → Prop} {a : Nat} (h : p a) : ∀ C ∈ [a], p C := fun C hC => by
  have : C = a := by simpa using hC
  subst this; exact h
theorem tb1 {α : Type} {p : Nat × α → Prop} {a : Nat × α} (h : p a) : ∀ x ∈ [a], p x := fun x hx => by
  have : x = a := by simpa using hx
  subst this; exact h
def cs_NoKey : Nat → Option Bool
  | 1 => some true
  | _ => none
def xi_SlotError : Nat → Option Bool
  | 1 => some true
  | _ => none
structure Tx (P : Program) (K : PySem.W.Frag) (mg : Str → Option Value) (c : List Addr) : Prop where
  n_len : mg "len" = none
  n_int : mg "int" = none
  n_list : mg "list" = none
  n_range : mg "range" = none
  n_isinstance : mg "isinstance" = none
  n_bool : mg "bool" = none
  n_str : mg "str" = none
  n_tuple : mg "tuple" = none
  n_dict : mg "dict" = none
  n_iter : mg "iter" = none
  f_Store__pairs : FldOk (Gk c) K 2 0
  c_SlotError : mg "SlotError" = some (.ref ((Gk c).cl 0))
  c_NoKey : mg "NoKey" = some (.ref ((Gk c).cl 1))
  e_NoKey : ErrOk P K mg (Gk c) "NoKey" 1 1
  xf_NoKey_key : XfC K ((Gk c).cl 1) ∧ PySem.W.findIn K (.ref ((Gk c).cl 1)) ((Gk c).fl 1) = some none
  xi_SlotError : ∀ C b, xi_SlotError C = some b → ExCl K ((Gk c).cl C) ∧ PySem.W.kitOne K (.ref ((Gk c).cl C)) (.ref ((Gk c).cl 0)) = some b
  cs_NoKey : ∀ C b, cs_NoKey C = some b → PySem.W.exmOne K (.ref ((Gk c).cl C)) (.ref ((Gk c).cl 1)) = some b
/-! ### Store.__init__ -/
abbrev s_Store___init__ : Stmt := inClass (top 4) 0
theorem sc_Store___init__ : FnScope ["self"] ["self"] (defScope s_Store___init__) := ⟨rfl, rfl, rfl, by decide +kernel, rfl, by decide +kernel, by decide +kernel⟩
def b_Store___init__ : Stm := mSetF [2] 0 (mCelC (mDnew)) (mVar 0)
def f_Store___init__ : Fn := fnM 1 1 b_Store___init__
theorem w_Store___init__ {P : Program} {w : World} {K : PySem.W.Frag} {mg : Str → Option Value} {base : Heap} {c : List Addr} {fa : Addr} {fd : FuncData} (F : Fun K "__init__" "Store.__init__" s_Store___init__ fa fd) (T : Tx P K mg c)  : FnOk P w K mg base (L2N.CX P w) 1 fa fd ["self"] (spM (Gk c) K 1 f_Store___init__) :=
  Fun.okM F sc_Store___init__ fun cdv A outer s H E bd => cb_one (cs_setF (mem1 T.f_Store__pairs) (ce_celC (cc_dnew)) (ce_var 0))
/-! ### Store.__setitem__ -/
abbrev s_Store___setitem__ : Stmt := inClass (top 4) 1
theorem sc_Store___setitem__ : FnScope ["self", "at", "worth"] ["self", "at", "worth"] (defScope s_Store___setitem__) := ⟨rfl, rfl, rfl, by decide +kernel, rfl, by decide +kernel, by decide +kernel⟩
def b_Store___setitem__ : Stm := mSetI (mVar 2) (mUn (fFld [2] 0) (mVar 0)) (mVar 1)
def f_Store___setitem__ : Fn := fnM 3 3 b_Store___setitem__
theorem w_Store___setitem__ {P : Program} {w : World} {K : PySem.W.Frag} {mg : Str → Option Value} {base : Heap} {c : List Addr} {fa : Addr} {fd : FuncData} (F : Fun K "__setitem__" "Store.__setitem__" s_Store___setitem__ fa fd) (T : Tx P K mg c)  : FnOk P w K mg base (L2N.CX P w) 1 fa fd ["self", "at", "worth"] (spM (Gk c) K 3 f_Store___setitem__) :=
  Fun.okM F sc_Store___setitem__ fun cdv A outer s H E bd => cb_one (cs_setI bd.hu (ce_var 2) (ce_fld (mem1 T.f_Store__pairs) (ce_var 0)) (ce_var 1))
/-! ### Store.__getitem__ -/
abbrev s_Store___getitem__ : Stmt := inClass (top 4) 2
theorem sc_Store___getitem__ : FnScope ["self", "at"] ["self", "at"] (defScope s_Store___getitem__) := ⟨rfl, rfl, rfl, by decide +kernel, rfl, by decide +kernel, by decide +kernel⟩
def b_Store___getitem__ : Stm := mSeq (mIf (mBin fNin (mVar 1) (mUn (fFld [2] 0) (mVar 0))) (mRaise 1 1 (mVar 1)) (mNext)) (mRet (mBin fIx (mUn (fFld [2] 0) (mVar 0)) (mVar 1)))
def f_Store___getitem__ : Fn := fnM 2 2 b_Store___getitem__
theorem w_Store___getitem__ {P : Program} {w : World} {K : PySem.W.Frag} {mg : Str → Option Value} {base : Heap} {c : List Addr} {fa : Addr} {fd : FuncData} (F : Fun K "__getitem__" "Store.__getitem__" s_Store___getitem__ fa fd) (T : Tx P K mg c)  : FnOk P w K mg base (L2N.CX P w) 1 fa fd ["self", "at"] (spM (Gk c) K 2 f_Store___getitem__) :=
  Fun.okM F sc_Store___getitem__ fun cdv A outer s H E bd => cb_cons (cs_if (ct_nin bd.hu (ce_var 1) (ce_fld (mem1 T.f_Store__pairs) (ce_var 0))) (cb_one (cs_raise bd T.e_NoKey (ce_var 1))) (cb_nil)) (cb_one (cs_ret (ce_ix bd.hu (ce_fld (mem1 T.f_Store__pairs) (ce_var 0)) (ce_var 1))))
/-! ### Store.__contains__ -/
abbrev s_Store___contains__ : Stmt := inClass (top 4) 3
theorem sc_Store___contains__ : FnScope ["self", "x"] ["self", "x"] (defScope s_Store___contains__) := ⟨rfl, rfl, rfl, by decide +kernel, rfl, by decide +kernel, by decide +kernel⟩
def b_Store___contains__ : Stm := mRet (mBin fIn (mVar 1) (mUn (fFld [2] 0) (mVar 0)))
def f_Store___contains__ : Fn := fnM 2 2 b_Store___contains__
theorem w_Store___contains__ {P : Program} {w : World} {K : PySem.W.Frag} {mg : Str → Option Value} {base : Heap} {c : List Addr} {fa : Addr} {fd : FuncData} (F : Fun K "__contains__" "Store.__contains__" s_Store___contains__ fa fd) (T : Tx P K mg c)  : FnOk P w K mg base (L2N.CX P w) 1 fa fd ["self", "x"] (spM (Gk c) K 2 f_Store___contains__) :=
  Fun.okM F sc_Store___contains__ fun cdv A outer s H E bd => cb_one (cs_ret (ce_in bd.hu (ce_var 1) (ce_fld (mem1 T.f_Store__pairs) (ce_var 0))))
/-! ### Store.__len__ -/
abbrev s_Store___len__ : Stmt := inClass (top 4) 4
theorem sc_Store___len__ : FnScope ["self"] ["self"] (defScope s_Store___len__) := ⟨rfl, rfl, rfl, by decide +kernel, rfl, by decide +kernel, by decide +kernel⟩
def b_Store___len__ : Stm := mRet (mUn fLen (mUn (fFld [2] 0) (mVar 0)))
def f_Store___len__ : Fn := fnM 1 1 b_Store___len__
theorem w_Store___len__ {P : Program} {w : World} {K : PySem.W.Frag} {mg : Str → Option Value} {base : Heap} {c : List Addr} {fa : Addr} {fd : FuncData} (F : Fun K "__len__" "Store.__len__" s_Store___len__ fa fd) (T : Tx P K mg c)  : FnOk P w K mg base (L2N.CX P w) 1 fa fd ["self"] (spM (Gk c) K 1 f_Store___len__) :=
  Fun.okM F sc_Store___len__ fun cdv A outer s H E bd => cb_one (cs_ret (ce_len T.n_len (ce_fld (mem1 T.f_Store__pairs) (ce_var 0))))
abbrev s_Store___iter__ : Stmt := inClass (top 4) 5
theorem sc_Store___iter__ : FnScope ["self"] ["self"] (defScope s_Store___iter__) := ⟨rfl, rfl, rfl, by decide +kernel, rfl, by decide +kernel, by decide +kernel⟩
theorem i_Store___iter___ {P : Program} {w : World} {K : PySem.W.Frag} {mg : Str → Option Value} {base : Heap} {c : List Addr} {fa : Addr} {fd : FuncData} (F : Fun K "__iter__" "Store.__iter__" s_Store___iter__ fa fd) (T : Tx P K mg c) : FnOk P w K mg base (L2N.CX P w) 1 fa fd ["self"] (spIterD ((Gk c).cl 2) ((Gk c).fl 0)) :=
  Fun.okIter F sc_Store___iter__ rfl T.f_Store__pairs.cls T.f_Store__pairs.no fun cdv A outer s H E bd => pss_one (ps_ret (pe_iterItems (pe_fld (pe_var rfl (by first | exact Or.inl rfl | exact Or.inr (Or.inl rfl) | exact Or.inr (Or.inr rfl))) rfl) T.n_iter))
theorem l_Store___len___ {P : Program} {w : World} {K : PySem.W.Frag} {mg : Str → Option Value} {base : Heap} {c : List Addr} {fa : Addr} {fd : FuncData} (F : Fun K "__len__" "Store.__len__" s_Store___len__ fa fd) (T : Tx P K mg c) : FnOk P w K mg base (L2N.CX P w) 1 fa fd ["self"] (spLenD ((Gk c).cl 2) ((Gk c).fl 0)) :=
  Fun.okLenD F sc_Store___len__ rfl T.f_Store__pairs.cls T.f_Store__pairs.no fun cdv A outer s H E bd => pss_one (ps_ret (pe_lenD (pe_fld (pe_var rfl (by first | exact Or.inl rfl | exact Or.inr (Or.inl rfl) | exact Or.inr (Or.inr rfl))) rfl) T.n_len))
/-! ### Store.rows -/
abbrev s_Store_rows : Stmt := inClass (top 4) 6
theorem sc_Store_rows : FnScope ["self"] ["self"] (defScope s_Store_rows) := ⟨rfl, rfl, rfl, by decide +kernel, rfl, by decide +kernel, by decide +kernel⟩
def b_Store_rows : Stm := mRetC (mLC (mItems (mUn (fFld [2] 0) (mVar 0))))
def fc_Store_rows : FnC := fnC 1 1 b_Store_rows
theorem wc_Store_rows {P : Program} {w : World} {K : PySem.W.Frag} {mg : Str → Option Value} {base : Heap} {c : List Addr} {fa : Addr} {fd : FuncData} (F : Fun K "rows" "Store.rows" s_Store_rows fa fd) (T : Tx P K mg c)  : FnOk P w K mg base (L2N.CX P w) 1 fa fd ["self"] (spC (Gk c) K 1 fc_Store_rows) :=
  Fun.okC F sc_Store_rows fun cdv A outer s H E bd => cb_one (cs_retC (cc_lst (cl_items bd T.n_list (ce_fld (mem1 T.f_Store__pairs) (ce_var 0)))))
/-! ### _law_same -/
abbrev s__law_same : Stmt := top 6
theorem sc__law_same : FnScope ["here", "there", "key", "k"] ["here", "there"] (defScope s__law_same) := ⟨rfl, rfl, rfl, by decide +kernel, rfl, by decide +kernel, by decide +kernel⟩
def b__law_same (rec : Fn) : Stm := mSeq (mIf (mOr (mUn fIsN (mVar 0)) (mUn fIsN (mVar 1))) (mRet (mAnd (mUn fIsN (mVar 0)) (mUn fIsN (mVar 1)))) (mNext)) (mSeq (mIf (mOr (mUn (fIsi (isiB "bool")) (mVar 0)) (mUn (fIsi (isiB "bool")) (mVar 1))) (mRet (mAnd (mUn (fIsi (isiB "bool")) (mVar 0)) (mAnd (mUn (fIsi (isiB "bool")) (mVar 1)) (mBin fEq (mVar 0) (mVar 1))))) (mNext)) (mSeq (mIf (mOr (mUn (fIsi (isiB "int")) (mVar 0)) (mUn (fIsi (isiB "int")) (mVar 1))) (mRet (mAnd (mUn (fIsi (isiB "int")) (mVar 0)) (mAnd (mUn (fIsi (isiB "int")) (mVar 1)) (mBin fEq (mVar 0) (mVar 1))))) (mNext)) (mSeq (mIf (mOr (mUn (fIsi (isiB "str")) (mVar 0)) (mUn (fIsi (isiB "str")) (mVar 1))) (mRet (mAnd (mUn (fIsi (isiB "str")) (mVar 0)) (mAnd (mUn (fIsi (isiB "str")) (mVar 1)) (mBin fEq (mVar 0) (mVar 1))))) (mNext)) (mSeq (mIf (mAnd (mUn (fIsi (isiB "dict")) (mVar 0)) (mUn (fIsi (isiB "dict")) (mVar 1))) (mBad) (mNext)) (mSeq (mIf (mOr (mBin fNe (mUn (fIsi (isiB "tuple")) (mVar 0)) (mUn (fIsi (isiB "tuple")) (mVar 1))) (mBin fNe (mUn (fIsi (isiB "list")) (mVar 0)) (mUn (fIsi (isiB "list")) (mVar 1)))) (mRet (mC (.bl false))) (mNext)) (mSeq (mIf (mAnd (mNot (mUn (fIsi (isiB "tuple")) (mVar 0))) (mNot (mUn (fIsi (isiB "list")) (mVar 0)))) (mRet (mC (.bl false))) (mNext)) (mSeq (mIf (mBin fNe (mUn fLen (mVar 0)) (mUn fLen (mVar 1))) (mRet (mC (.bl false))) (mNext)) (mSeq (mFor (mRng1 (mUn fLen (mVar 0))) (tgN 3) (mIf (mNot (mCall (ar 2 rec) (mCons (mBin fIx (mVar 0) (mVar 3)) (mCons (mBin fIx (mVar 1) (mVar 3)) (mNil))))) (mRet (mC (.bl false))) (mNext))) (mRet (mC (.bl true)))))))))))
def f__law_same : Nat → Fn
  | 0 => fun _ _ => .bad
  | d + 1 => fnM 2 4 (b__law_same (f__law_same d))
theorem w__law_same {P : Program} {w : World} {K : PySem.W.Frag} {mg : Str → Option Value} {base : Heap} {c : List Addr} {fa : Addr} {fd : FuncData} (F : Fun K "_law_same" "_law_same" s__law_same fa fd) (T : Tx P K mg c)  {r : Fn} {j : Nat} (hj : 0 ≤ j) (R : Df P w K mg base (Gk c) "_law_same" j 2 r) : FnOk P w K mg base (L2N.CX P w) (j + 1) fa fd ["here", "there"] (spM (Gk c) K 2 (fnM 2 4 (b__law_same r))) :=
  Fun.okM F sc__law_same fun cdv A outer s H E bd => cb_cons (cs_if (ct_of (cw_or (ct_isN (ce_var 0)) (cw_or1 (ct_isN (ce_var 1))))) (cb_one (cs_ret (ce_and (ce_isN (ce_var 0)) (ce_one (ce_isN (ce_var 1)))))) (cb_nil)) (cb_cons (cs_if (ct_of (cw_or (ct_val (ce_isiB T.n_isinstance T.n_bool (by decide +kernel) (by decide) (ce_var 0))) (cw_or1 (ct_val (ce_isiB T.n_isinstance T.n_bool (by decide +kernel) (by decide) (ce_var 1)))))) (cb_one (cs_ret (ce_and (ce_isiB T.n_isinstance T.n_bool (by decide +kernel) (by decide) (ce_var 0)) (ce_and (ce_isiB T.n_isinstance T.n_bool (by decide +kernel) (by decide) (ce_var 1)) (ce_one (ce_eq bd.hu (ce_var 0) (ce_var 1))))))) (cb_nil)) (cb_cons (cs_if (ct_of (cw_or (ct_val (ce_isiB T.n_isinstance T.n_int (by decide +kernel) (by decide) (ce_var 0))) (cw_or1 (ct_val (ce_isiB T.n_isinstance T.n_int (by decide +kernel) (by decide) (ce_var 1)))))) (cb_one (cs_ret (ce_and (ce_isiB T.n_isinstance T.n_int (by decide +kernel) (by decide) (ce_var 0)) (ce_and (ce_isiB T.n_isinstance T.n_int (by decide +kernel) (by decide) (ce_var 1)) (ce_one (ce_eq bd.hu (ce_var 0) (ce_var 1))))))) (cb_nil)) (cb_cons (cs_if (ct_of (cw_or (ct_val (ce_isiB T.n_isinstance T.n_str (by decide +kernel) (by decide) (ce_var 0))) (cw_or1 (ct_val (ce_isiB T.n_isinstance T.n_str (by decide +kernel) (by decide) (ce_var 1)))))) (cb_one (cs_ret (ce_and (ce_isiB T.n_isinstance T.n_str (by decide +kernel) (by decide) (ce_var 0)) (ce_and (ce_isiB T.n_isinstance T.n_str (by decide +kernel) (by decide) (ce_var 1)) (ce_one (ce_eq bd.hu (ce_var 0) (ce_var 1))))))) (cb_nil)) (cb_cons (cs_if (ct_of (cw_and (ct_val (ce_isiB T.n_isinstance T.n_dict (by decide +kernel) (by decide) (ce_var 0))) (cw_and1 (ct_val (ce_isiB T.n_isinstance T.n_dict (by decide +kernel) (by decide) (ce_var 1)))))) (cb_never) (cb_nil)) (cb_cons (cs_if (ct_of (cw_or (ct_ne bd.hu (ce_isiB T.n_isinstance T.n_tuple (by decide +kernel) (by decide) (ce_var 0)) (ce_isiB T.n_isinstance T.n_tuple (by decide +kernel) (by decide) (ce_var 1))) (cw_or1 (ct_ne bd.hu (ce_isiB T.n_isinstance T.n_list (by decide +kernel) (by decide) (ce_var 0)) (ce_isiB T.n_isinstance T.n_list (by decide +kernel) (by decide) (ce_var 1)))))) (cb_one (cs_ret (ce_bl))) (cb_nil)) (cb_cons (cs_if (ct_of (cw_and (ct_not (ct_val (ce_isiB T.n_isinstance T.n_tuple (by decide +kernel) (by decide) (ce_var 0)))) (cw_and1 (ct_not (ct_val (ce_isiB T.n_isinstance T.n_list (by decide +kernel) (by decide) (ce_var 0))))))) (cb_one (cs_ret (ce_bl))) (cb_nil)) (cb_cons (cs_if (ct_ne bd.hu (ce_len T.n_len (ce_var 0)) (ce_len T.n_len (ce_var 1))) (cb_one (cs_ret (ce_bl))) (cb_nil)) (cb_cons (cs_for bd (ci_rng1 T.n_range (ce_len T.n_len (ce_var 0))) (cg_name 3 sc__law_same.nd rfl (by first | exact Or.inl rfl | exact Or.inr rfl)) (cb_one (cs_if (ct_not (ct_val (ce_call R bd (by omega) (ca_cons (ce_ix bd.hu (ce_var 0) (ce_var 3)) (ca_cons (ce_ix bd.hu (ce_var 1) (ce_var 3)) (ca_nil)))))) (cb_one (cs_ret (ce_bl))) (cb_nil)))) (cb_one (cs_ret (ce_bl)))))))))))
theorem h__law_same {P : Program} {w : World} {K : PySem.W.Frag} {mg : Str → Option Value} {base : Heap} {c : List Addr} {fa : Addr} {fd : FuncData} (F : Fun K "_law_same" "_law_same" s__law_same fa fd) (T : Tx P K mg c) {r : Fn} {j : Nat} (hj : 0 ≤ j) (R : DfH P w K mg base "_law_same" j (spM (Gk c) K 2 r)) : L2H.FnH P w K mg base (L2N.CX P w) (j + 1) fa fd ["here", "there"] (spM (Gk c) K 2 (fnM 2 4 (b__law_same r))) :=
  Fun.okMH F sc__law_same fun cdv A outer s H E p bd => cb_cons (cs_if (ct_of (cw_or (ct_isN (ce_var 0)) (cw_or1 (ct_isN (ce_var 1))))) (cb_one (cs_ret (ce_and (ce_isN (ce_var 0)) (ce_one (ce_isN (ce_var 1)))))) (cb_nil)) (cb_cons (cs_if (ct_of (cw_or (ct_val (ce_isiB T.n_isinstance T.n_bool (by decide +kernel) (by decide) (ce_var 0))) (cw_or1 (ct_val (ce_isiB T.n_isinstance T.n_bool (by decide +kernel) (by decide) (ce_var 1)))))) (cb_one (cs_ret (ce_and (ce_isiB T.n_isinstance T.n_bool (by decide +kernel) (by decide) (ce_var 0)) (ce_and (ce_isiB T.n_isinstance T.n_bool (by decide +kernel) (by decide) (ce_var 1)) (ce_one (ce_eq bd.hu (ce_var 0) (ce_var 1))))))) (cb_nil)) (cb_cons (cs_if (ct_of (cw_or (ct_val (ce_isiB T.n_isinstance T.n_int (by decide +kernel) (by decide) (ce_var 0))) (cw_or1 (ct_val (ce_isiB T.n_isinstance T.n_int (by decide +kernel) (by decide) (ce_var 1)))))) (cb_one (cs_ret (ce_and (ce_isiB T.n_isinstance T.n_int (by decide +kernel) (by decide) (ce_var 0)) (ce_and (ce_isiB T.n_isinstance T.n_int (by decide +kernel) (by decide) (ce_var 1)) (ce_one (ce_eq bd.hu (ce_var 0) (ce_var 1))))))) (cb_nil)) (cb_cons (cs_if (ct_of (cw_or (ct_val (ce_isiB T.n_isinstance T.n_str (by decide +kernel) (by decide) (ce_var 0))) (cw_or1 (ct_val (ce_isiB T.n_isinstance T.n_str (by decide +kernel) (by decide) (ce_var 1)))))) (cb_one (cs_ret (ce_and (ce_isiB T.n_isinstance T.n_str (by decide +kernel) (by decide) (ce_var 0)) (ce_and (ce_isiB T.n_isinstance T.n_str (by decide +kernel) (by decide) (ce_var 1)) (ce_one (ce_eq bd.hu (ce_var 0) (ce_var 1))))))) (cb_nil)) (cb_cons (cs_if (ct_of (cw_and (ct_val (ce_isiB T.n_isinstance T.n_dict (by decide +kernel) (by decide) (ce_var 0))) (cw_and1 (ct_val (ce_isiB T.n_isinstance T.n_dict (by decide +kernel) (by decide) (ce_var 1)))))) (cb_never) (cb_nil)) (cb_cons (cs_if (ct_of (cw_or (ct_ne bd.hu (ce_isiB T.n_isinstance T.n_tuple (by decide +kernel) (by decide) (ce_var 0)) (ce_isiB T.n_isinstance T.n_tuple (by decide +kernel) (by decide) (ce_var 1))) (cw_or1 (ct_ne bd.hu (ce_isiB T.n_isinstance T.n_list (by decide +kernel) (by decide) (ce_var 0)) (ce_isiB T.n_isinstance T.n_list (by decide +kernel) (by decide) (ce_var 1)))))) (cb_one (cs_ret (ce_bl))) (cb_nil)) (cb_cons (cs_if (ct_of (cw_and (ct_not (ct_val (ce_isiB T.n_isinstance T.n_tuple (by decide +kernel) (by decide) (ce_var 0)))) (cw_and1 (ct_not (ct_val (ce_isiB T.n_isinstance T.n_list (by decide +kernel) (by decide) (ce_var 0))))))) (cb_one (cs_ret (ce_bl))) (cb_nil)) (cb_cons (cs_if (ct_ne bd.hu (ce_len T.n_len (ce_var 0)) (ce_len T.n_len (ce_var 1))) (cb_one (cs_ret (ce_bl))) (cb_nil)) (cb_cons (cs_forH bd (ci_rng1H T.n_range (ce_len T.n_len (ce_var 0))) (cg_name 3 sc__law_same.nd rfl (by first | exact Or.inl rfl | exact Or.inr rfl)) (cb_one (cs_if (ct_not (ct_val (ce_callH R bd (by omega) (ca_cons (ce_ix bd.hu (ce_var 0) (ce_var 3)) (ca_cons (ce_ix bd.hu (ce_var 1) (ce_var 3)) (ca_nil)))))) (cb_one (cs_ret (ce_bl))) (cb_nil)))) (cb_one (cs_ret (ce_bl)))))))))))
/-! ### _law_start -/
abbrev s__law_start : Stmt := top 7
theorem sc__law_start : FnScope ["script"] ["script"] (defScope s__law_start) := ⟨rfl, rfl, rfl, by decide +kernel, rfl, by decide +kernel, by decide +kernel⟩
def b__law_start : Stm := mRetC (mLC (mLst (mCons (mFrz (mList (mVar 0))) (mCons (mC (.int 0)) (mCons (mC (.int 0)) (mCons (mC (.int 0)) (mCons (mC (.int 0)) (mCons (mC (.int 0)) (mNil)))))))))
def fc__law_start : FnC := fnC 1 1 b__law_start
theorem wc__law_start {P : Program} {w : World} {K : PySem.W.Frag} {mg : Str → Option Value} {base : Heap} {c : List Addr} {fa : Addr} {fd : FuncData} (F : Fun K "_law_start" "_law_start" s__law_start fa fd) (T : Tx P K mg c)  : FnOk P w K mg base (L2N.CX P w) 1 fa fd ["script"] (spC (Gk c) K 1 fc__law_start) :=
  Fun.okC F sc__law_start fun cdv A outer s H E bd => cb_one (cs_retC (cc_lst (cl_lst (ca_cons (ce_frz (cl_list T.n_list (ce_var 0))) (ca_cons (ce_int) (ca_cons (ce_int) (ca_cons (ce_int) (ca_cons (ce_int) (ca_cons (ce_int) (ca_nil))))))))))
/-! ### _law_mixed -/
abbrev s__law_mixed : Stmt := top 8
theorem sc__law_mixed : FnScope ["cell", "turn", "limit", "once"] ["cell", "turn", "limit"] (defScope s__law_mixed) := ⟨rfl, rfl, rfl, by decide +kernel, rfl, by decide +kernel, by decide +kernel⟩
def b__law_mixed : Stm := mSeq (mSet 3 (mBin fMod (mUn fInt (mBin fAdd (mBin fAdd (mBin fMul (mVar 0) (mC (.int 48271))) (mBin fMul (mVar 1) (mC (.int 69621)))) (mC (.int 11)))) (mC (.int 2147483647)))) (mRet (mBin fMod (mBin fMod (mUn fInt (mBin fAdd (mBin fAdd (mBin fMul (mVar 3) (mC (.int 16807))) (mBin fMul (mVar 1) (mC (.int 40692)))) (mC (.int 7)))) (mC (.int 2147483629))) (mVar 2)))
def f__law_mixed : Fn := fnM 3 4 b__law_mixed
theorem w__law_mixed {P : Program} {w : World} {K : PySem.W.Frag} {mg : Str → Option Value} {base : Heap} {c : List Addr} {fa : Addr} {fd : FuncData} (F : Fun K "_law_mixed" "_law_mixed" s__law_mixed fa fd) (T : Tx P K mg c)  : FnOk P w K mg base (L2N.CX P w) 1 fa fd ["cell", "turn", "limit"] (spM (Gk c) K 3 f__law_mixed) :=
  Fun.okM F sc__law_mixed fun cdv A outer s H E bd => cb_cons (cs_set 3 sc__law_mixed.nd rfl (by first | exact Or.inl rfl | exact Or.inr rfl) (ce_mod (ce_int1 T.n_int (ce_add (ce_add (ce_mul (ce_var 0) (ce_int)) (ce_mul (ce_var 1) (ce_int))) (ce_int))) (ce_int))) (cb_one (cs_ret (ce_mod (ce_mod (ce_int1 T.n_int (ce_add (ce_add (ce_mul (ce_var 3) (ce_int)) (ce_mul (ce_var 1) (ce_int))) (ce_int))) (ce_int)) (ce_var 2))))
/-! ### _law_draw -/
abbrev s__law_draw : Stmt := top 9
theorem sc__law_draw : FnScope ["state", "limit", "digit", "cell"] ["state", "limit"] (defScope s__law_draw) := ⟨rfl, rfl, rfl, by decide +kernel, rfl, by decide +kernel, by decide +kernel⟩
def b__law_draw : Stm := mSeq (mIf (mBin fGt (mBin fIx (mVar 0) (mC (.int 2))) (mC (.int 0))) (mSeq (mSet 2 (mBin fMod (mUn fInt (mBin fIx (mVar 0) (mC (.int 2)))) (mVar 1))) (mSeq (mSetI (mBin fDiv (mBin fIx (mVar 0) (mC (.int 2))) (mVar 1)) (mVar 0) (mC (.int 2))) (mRet (mVar 2)))) (mNext)) (mSeq (mIf (mBin fGt (mBin fIx (mVar 0) (mC (.int 4))) (mC (.int 0))) (mSeq (mSetI (mBin fSub (mBin fIx (mVar 0) (mC (.int 4))) (mC (.int 1))) (mVar 0) (mC (.int 4))) (mSeq (mSetI (mBin fAdd (mBin fIx (mVar 0) (mC (.int 5))) (mC (.int 1))) (mVar 0) (mC (.int 5))) (mRet (mCall (ar 3 f__law_mixed) (mCons (mBin fIx (mVar 0) (mC (.int 3))) (mCons (mBin fIx (mVar 0) (mC (.int 5))) (mCons (mVar 1) (mNil)))))))) (mNext)) (mSeq (mIf (mBin fGe (mBin fIx (mVar 0) (mC (.int 1))) (mUn fLen (mBin fIx (mVar 0) (mC (.int 0))))) (mRet (mC (.int 0))) (mNext)) (mSeq (mSet 3 (mBin fIx (mBin fIx (mVar 0) (mC (.int 0))) (mBin fIx (mVar 0) (mC (.int 1))))) (mSeq (mSetI (mBin fAdd (mBin fIx (mVar 0) (mC (.int 1))) (mC (.int 1))) (mVar 0) (mC (.int 1))) (mSeq (mIf (mBin fGe (mVar 3) (mBin fPow (mC (.int 10)) (mC (.int 18)))) (mSeq (mSetI (mBin fDiv (mVar 3) (mVar 1)) (mVar 0) (mC (.int 2))) (mRet (mBin fMod (mUn fInt (mVar 3)) (mVar 1)))) (mNext)) (mSeq (mSetI (mVar 3) (mVar 0) (mC (.int 3))) (mSeq (mSetI (mC (.int 3)) (mVar 0) (mC (.int 4))) (mSeq (mSetI (mBin fAdd (mBin fIx (mVar 0) (mC (.int 5))) (mC (.int 1))) (mVar 0) (mC (.int 5))) (mRet (mCall (ar 3 f__law_mixed) (mCons (mVar 3) (mCons (mBin fIx (mVar 0) (mC (.int 5))) (mCons (mVar 1) (mNil))))))))))))))
def f__law_draw : Fn := fnM 2 4 b__law_draw
theorem w__law_draw {P : Program} {w : World} {K : PySem.W.Frag} {mg : Str → Option Value} {base : Heap} {c : List Addr} {fa : Addr} {fd : FuncData} (F : Fun K "_law_draw" "_law_draw" s__law_draw fa fd) (T : Tx P K mg c) (D0 : Df P w K mg base (Gk c) "_law_mixed" 1 3 f__law_mixed) : FnOk P w K mg base (L2N.CX P w) 2 fa fd ["state", "limit"] (spM (Gk c) K 2 f__law_draw) :=
  Fun.okM F sc__law_draw fun cdv A outer s H E bd => cb_cons (cs_if (ct_gt (ce_ix bd.hu (ce_var 0) (ce_int)) (ce_int)) (cb_cons (cs_set 2 sc__law_draw.nd rfl (by first | exact Or.inl rfl | exact Or.inr rfl) (ce_mod (ce_int1 T.n_int (ce_ix bd.hu (ce_var 0) (ce_int))) (ce_var 1))) (cb_cons (cs_setI bd.hu (ce_div (ce_ix bd.hu (ce_var 0) (ce_int)) (ce_var 1)) (ce_var 0) (ce_int)) (cb_one (cs_ret (ce_var 2))))) (cb_nil)) (cb_cons (cs_if (ct_gt (ce_ix bd.hu (ce_var 0) (ce_int)) (ce_int)) (cb_cons (cs_setI bd.hu (ce_sub (ce_ix bd.hu (ce_var 0) (ce_int)) (ce_int)) (ce_var 0) (ce_int)) (cb_cons (cs_setI bd.hu (ce_add (ce_ix bd.hu (ce_var 0) (ce_int)) (ce_int)) (ce_var 0) (ce_int)) (cb_one (cs_ret (ce_call D0 bd (by decide) (ca_cons (ce_ix bd.hu (ce_var 0) (ce_int)) (ca_cons (ce_ix bd.hu (ce_var 0) (ce_int)) (ca_cons (ce_var 1) (ca_nil))))))))) (cb_nil)) (cb_cons (cs_if (ct_ge (ce_ix bd.hu (ce_var 0) (ce_int)) (ce_len T.n_len (ce_ix bd.hu (ce_var 0) (ce_int)))) (cb_one (cs_ret (ce_int))) (cb_nil)) (cb_cons (cs_set 3 sc__law_draw.nd rfl (by first | exact Or.inl rfl | exact Or.inr rfl) (ce_ix bd.hu (ce_ix bd.hu (ce_var 0) (ce_int)) (ce_ix bd.hu (ce_var 0) (ce_int)))) (cb_cons (cs_setI bd.hu (ce_add (ce_ix bd.hu (ce_var 0) (ce_int)) (ce_int)) (ce_var 0) (ce_int)) (cb_cons (cs_if (ct_ge (ce_var 3) (ce_pow (ce_int) (ce_int))) (cb_cons (cs_setI bd.hu (ce_div (ce_var 3) (ce_var 1)) (ce_var 0) (ce_int)) (cb_one (cs_ret (ce_mod (ce_int1 T.n_int (ce_var 3)) (ce_var 1))))) (cb_nil)) (cb_cons (cs_setI bd.hu (ce_var 3) (ce_var 0) (ce_int)) (cb_cons (cs_setI bd.hu (ce_int) (ce_var 0) (ce_int)) (cb_cons (cs_setI bd.hu (ce_add (ce_ix bd.hu (ce_var 0) (ce_int)) (ce_int)) (ce_var 0) (ce_int)) (cb_one (cs_ret (ce_call D0 bd (by decide) (ca_cons (ce_var 3) (ca_cons (ce_ix bd.hu (ce_var 0) (ce_int)) (ca_cons (ce_var 1) (ca_nil)))))))))))))))
/-! ### _law_word -/
abbrev s__law_word : Stmt := top 10
theorem sc__law_word : FnScope ["state", "letters", "many", "alike", "sign", "spot", "word", "k"] ["state"] (defScope s__law_word) := ⟨rfl, rfl, rfl, by decide +kernel, rfl, by decide +kernel, by decide +kernel⟩
def b__law_word : Stm := mSeq (mSet 1 (mC (.str "abcdefghijklmnopqrstuvwxyz"))) (mSeq (mSet 2 (mBin fAdd (mC (.int 1)) (mCall (ar 2 f__law_draw) (mCons (mVar 0) (mCons (mC (.int 8)) (mNil)))))) (mSeq (mSet 3 (mCall (ar 2 f__law_draw) (mCons (mVar 0) (mCons (mC (.int 2)) (mNil))))) (mSeq (mSet 4 (mBin fIx (mVar 1) (mCall (ar 2 f__law_draw) (mCons (mVar 0) (mCons (mC (.int 26)) (mNil)))))) (mSeq (mSet 5 (mCall (ar 2 f__law_draw) (mCons (mVar 0) (mCons (mVar 2) (mNil))))) (mSeq (mSet 6 (mC (.str ""))) (mSeq (mFor (mRng1 (mVar 2)) (tgN 7) (mIf (mOr (mBin fEq (mVar 3) (mC (.int 0))) (mBin fEq (mVar 7) (mVar 5))) (mSet 6 (mBin fAdd (mVar 6) (mBin fIx (mVar 1) (mCall (ar 2 f__law_draw) (mCons (mVar 0) (mCons (mC (.int 26)) (mNil))))))) (mSet 6 (mBin fAdd (mVar 6) (mVar 4))))) (mRet (mVar 6))))))))
def f__law_word : Fn := fnM 1 8 b__law_word
theorem w__law_word {P : Program} {w : World} {K : PySem.W.Frag} {mg : Str → Option Value} {base : Heap} {c : List Addr} {fa : Addr} {fd : FuncData} (F : Fun K "_law_word" "_law_word" s__law_word fa fd) (T : Tx P K mg c) (D0 : Df P w K mg base (Gk c) "_law_draw" 2 2 f__law_draw) : FnOk P w K mg base (L2N.CX P w) 3 fa fd ["state"] (spM (Gk c) K 1 f__law_word) :=
  Fun.okM F sc__law_word fun cdv A outer s H E bd => cb_cons (cs_set 1 sc__law_word.nd rfl (by first | exact Or.inl rfl | exact Or.inr rfl) (ce_str)) (cb_cons (cs_set 2 sc__law_word.nd rfl (by first | exact Or.inl rfl | exact Or.inr rfl) (ce_add (ce_int) (ce_call D0 bd (by decide) (ca_cons (ce_var 0) (ca_cons (ce_int) (ca_nil)))))) (cb_cons (cs_set 3 sc__law_word.nd rfl (by first | exact Or.inl rfl | exact Or.inr rfl) (ce_call D0 bd (by decide) (ca_cons (ce_var 0) (ca_cons (ce_int) (ca_nil))))) (cb_cons (cs_set 4 sc__law_word.nd rfl (by first | exact Or.inl rfl | exact Or.inr rfl) (ce_ix bd.hu (ce_var 1) (ce_call D0 bd (by decide) (ca_cons (ce_var 0) (ca_cons (ce_int) (ca_nil)))))) (cb_cons (cs_set 5 sc__law_word.nd rfl (by first | exact Or.inl rfl | exact Or.inr rfl) (ce_call D0 bd (by decide) (ca_cons (ce_var 0) (ca_cons (ce_var 2) (ca_nil))))) (cb_cons (cs_set 6 sc__law_word.nd rfl (by first | exact Or.inl rfl | exact Or.inr rfl) (ce_str)) (cb_cons (cs_for bd (ci_rng1 T.n_range (ce_var 2)) (cg_name 7 sc__law_word.nd rfl (by first | exact Or.inl rfl | exact Or.inr rfl)) (cb_one (cs_if (ct_of (cw_or (ct_eq bd.hu (ce_var 3) (ce_int)) (cw_or1 (ct_eq bd.hu (ce_var 7) (ce_var 5))))) (cb_one (cs_set 6 sc__law_word.nd rfl (by first | exact Or.inl rfl | exact Or.inr rfl) (ce_add (ce_var 6) (ce_ix bd.hu (ce_var 1) (ce_call D0 bd (by decide) (ca_cons (ce_var 0) (ca_cons (ce_int) (ca_nil)))))))) (cb_one (cs_set 6 sc__law_word.nd rfl (by first | exact Or.inl rfl | exact Or.inr rfl) (ce_add (ce_var 6) (ce_var 4))))))) (cb_one (cs_ret (ce_var 6)))))))))
/-! ### _law_value -/
abbrev s__law_value : Stmt := top 11
theorem sc__law_value : FnScope ["state", "pick"] ["state"] (defScope s__law_value) := ⟨rfl, rfl, rfl, by decide +kernel, rfl, by decide +kernel, by decide +kernel⟩
def b__law_value : Stm := mSeq (mSet 1 (mCall (ar 2 f__law_draw) (mCons (mVar 0) (mCons (mC (.int 4)) (mNil))))) (mSeq (mIf (mBin fEq (mVar 1) (mC (.int 0))) (mRet (mBin fSub (mCall (ar 2 f__law_draw) (mCons (mVar 0) (mCons (mC (.int 101)) (mNil)))) (mC (.int 50)))) (mNext)) (mSeq (mIf (mBin fEq (mVar 1) (mC (.int 1))) (mRet (mBin fSub (mBin fSub (mBin fPow (mC (.int 10)) (mC (.int 40))) (mC (.int 1))) (mCall (ar 2 f__law_draw) (mCons (mVar 0) (mCons (mC (.int 3)) (mNil)))))) (mNext)) (mSeq (mIf (mBin fEq (mVar 1) (mC (.int 2))) (mRet (mBin fSub (mC (.int 0)) (mBin fSub (mBin fSub (mBin fPow (mC (.int 10)) (mC (.int 40))) (mC (.int 1))) (mCall (ar 2 f__law_draw) (mCons (mVar 0) (mCons (mC (.int 3)) (mNil))))))) (mNext)) (mRet (mBin fSub (mCall (ar 2 f__law_draw) (mCons (mVar 0) (mCons (mBin fPow (mC (.int 10)) (mC (.int 9))) (mNil)))) (mBin fMul (mC (.int 5)) (mBin fPow (mC (.int 10)) (mC (.int 8)))))))))
def f__law_value : Fn := fnM 1 2 b__law_value
theorem w__law_value {P : Program} {w : World} {K : PySem.W.Frag} {mg : Str → Option Value} {base : Heap} {c : List Addr} {fa : Addr} {fd : FuncData} (F : Fun K "_law_value" "_law_value" s__law_value fa fd) (T : Tx P K mg c) (D0 : Df P w K mg base (Gk c) "_law_draw" 2 2 f__law_draw) : FnOk P w K mg base (L2N.CX P w) 3 fa fd ["state"] (spM (Gk c) K 1 f__law_value) :=
  Fun.okM F sc__law_value fun cdv A outer s H E bd => cb_cons (cs_set 1 sc__law_value.nd rfl (by first | exact Or.inl rfl | exact Or.inr rfl) (ce_call D0 bd (by decide) (ca_cons (ce_var 0) (ca_cons (ce_int) (ca_nil))))) (cb_cons (cs_if (ct_eq bd.hu (ce_var 1) (ce_int)) (cb_one (cs_ret (ce_sub (ce_call D0 bd (by decide) (ca_cons (ce_var 0) (ca_cons (ce_int) (ca_nil)))) (ce_int)))) (cb_nil)) (cb_cons (cs_if (ct_eq bd.hu (ce_var 1) (ce_int)) (cb_one (cs_ret (ce_sub (ce_sub (ce_pow (ce_int) (ce_int)) (ce_int)) (ce_call D0 bd (by decide) (ca_cons (ce_var 0) (ca_cons (ce_int) (ca_nil))))))) (cb_nil)) (cb_cons (cs_if (ct_eq bd.hu (ce_var 1) (ce_int)) (cb_one (cs_ret (ce_sub (ce_int) (ce_sub (ce_sub (ce_pow (ce_int) (ce_int)) (ce_int)) (ce_call D0 bd (by decide) (ca_cons (ce_var 0) (ca_cons (ce_int) (ca_nil)))))))) (cb_nil)) (cb_one (cs_ret (ce_sub (ce_call D0 bd (by decide) (ca_cons (ce_var 0) (ca_cons (ce_pow (ce_int) (ce_int)) (ca_nil)))) (ce_mul (ce_int) (ce_pow (ce_int) (ce_int)))))))))
/-! ### _law_set -/
abbrev s__law_set : Stmt := top 12
theorem sc__law_set : FnScope ["rows", "key", "worth", "found", "row"] ["rows", "key", "worth"] (defScope s__law_set) := ⟨rfl, rfl, rfl, by decide +kernel, rfl, by decide +kernel, by decide +kernel⟩
def b__law_set : Stm := mSeq (mOwn 3 (mLc (mSeqV (mVar 0)) (tgN 4) (mYes) (mTup (mCons (mBin fIx (mVar 4) (mC (.int 0))) (mCons (mIte (mBin fEq (mBin fIx (mVar 4) (mC (.int 0))) (mVar 1)) (mVar 2) (mBin fIx (mVar 4) (mC (.int 1)))) (mNil)))) [4])) (mSeq (mIf (mBin fNin (mVar 1) (mFrz (mLc (mSeqV (mVar 0)) (tgN 4) (mYes) (mBin fIx (mVar 4) (mC (.int 0))) [4]))) (mMut isLc fAppend (mVar 3) (mCons (mTup (mCons (mVar 1) (mCons (mVar 2) (mNil)))) mNil)) (mNext)) (mRet (mVar 3)))
def f__law_set : Fn := fnM 3 5 b__law_set
theorem w__law_set {P : Program} {w : World} {K : PySem.W.Frag} {mg : Str → Option Value} {base : Heap} {c : List Addr} {fa : Addr} {fd : FuncData} (F : Fun K "_law_set" "_law_set" s__law_set fa fd) (T : Tx P K mg c)  : FnOk P w K mg base (L2N.CX P w) 1 fa fd ["rows", "key", "worth"] (spM (Gk c) K 3 f__law_set) :=
  Fun.okM F sc__law_set fun cdv A outer s H E bd => cb_cons (cs_ownLc 3 (own := [("row", 4)]) bd sc__law_set.nd rfl rfl rfl rfl (by decide +kernel) (ci_seq (ce_var 0)) (blkOk_by (N := ["rows", "key", "worth", "found", "row"]) (sc := defScope s__law_set) (by decide +kernel)) (fun _ _ _ _ _ => cg_name 4 sc__law_set.nd rfl (by first | exact Or.inl rfl | exact Or.inr rfl)) (fun _ _ _ _ _ => cts_nil) (fun _ _ _ _ _ => ce_tup (ca_cons (ce_ix (bd.blk _ _ _ _ _).hu (ce_var 4) (ce_int)) (ca_cons (ce_ite (ct_eq (bd.blk _ _ _ _ _).hu (ce_ix (bd.blk _ _ _ _ _).hu (ce_var 4) (ce_int)) (ce_var 1)) (ce_var 2) (ce_ix (bd.blk _ _ _ _ _).hu (ce_var 4) (ce_int))) (ca_nil))))) (cb_cons (cs_if (ct_nin bd.hu (ce_var 1) (ce_frz (cl_lc (own := [("row", 4)]) bd sc__law_set.nd (ci_seq (ce_var 0)) (blkOk_by (N := ["rows", "key", "worth", "found", "row"]) (sc := defScope s__law_set) (by decide +kernel)) (fun _ _ _ _ _ => cg_name 4 sc__law_set.nd rfl (by first | exact Or.inl rfl | exact Or.inr rfl)) (fun _ _ _ _ _ => cts_nil) (fun _ _ _ _ _ => ce_ix (bd.blk _ _ _ _ _).hu (ce_var 4) (ce_int))))) (cb_one (cs_append (ce_var 3) (ce_tup (ca_cons (ce_var 1) (ca_cons (ce_var 2) (ca_nil)))))) (cb_nil)) (cb_one (cs_ret (ce_var 3))))
/-! ### _law_found -/
abbrev s__law_found : Stmt := top 13
theorem sc__law_found : FnScope ["store", "key", "e"] ["store", "key"] (defScope s__law_found) := ⟨rfl, rfl, rfl, by decide +kernel, rfl, by decide +kernel, by decide +kernel⟩
def b__law_found : Stm := mSeq (mTry (mRetC (mLC (mLst (mCons (mOwnIx [(2, f_Store___getitem__)] (mVar 0) (mVar 1)) (mNil))))) cs_NoKey 2 (mIf (mAnd (mExI 2 xi_SlotError) (mCall (ar 2 (f__law_same 4)) (mCons (mExF 2 1 [1]) (mCons (mVar 1) (mNil))))) (mRetC (mLC (mLst (mNil)))) (mNext))) (mRetC (mLC (mLst (mCons (mC (.str "another error")) (mNil)))))
def f__law_found : Fn := fnM 2 3 b__law_found
theorem w__law_found {P : Program} {w : World} {K : PySem.W.Frag} {mg : Str → Option Value} {base : Heap} {c : List Addr} {fa : Addr} {fd : FuncData} (F : Fun K "_law_found" "_law_found" s__law_found fa fd) (T : Tx P K mg c) (D0 : DunOk P w K mg base (Gk c) 1 "__getitem__" 2 2 f_Store___getitem__) (D1 : DfH P w K mg base "_law_same" 4 (spM (Gk c) K 2 (f__law_same 4))) : FnOk P w K mg base (L2N.CX P w) 5 fa fd ["store", "key"] (spM (Gk c) K 2 f__law_found) :=
  Fun.okM F sc__law_found fun cdv A outer s H E bd => cb_cons (cs_try bd rfl rfl sc__law_found.nd rfl rfl ⟨rfl, by decide, .inl T.c_NoKey⟩ T.cs_NoKey (fun pn xe W bd => cb_one (cs_retC (cc_lst (cl_lst (ca_cons (ce_ownIx (n := 0) bd (tb1 D0) (by decide) (ce_var 0) (ce_var 1)) (ca_nil)))))) (fun a oe C d pn hz hd bs => cb_one (cs_if (ct_of (cw_and (ct_val (ce_exI hz hd T.xi_SlotError rfl T.n_isinstance T.c_SlotError)) (cw_and1 (ct_val (ce_callS D1 bs (by decide) (ca_cons (ce_exF hz hd (mem1 T.xf_NoKey_key) rfl) (ca_cons (ce_var 1) (ca_nil)))))))) (cb_one (cs_retC (cc_lst (cl_lst (ca_nil))))) (cb_nil)))) (cb_one (cs_retC (cc_lst (cl_lst (ca_cons (ce_str) (ca_nil))))))
/-! ### _law_tells -/
abbrev s__law_tells : Stmt := top 14
theorem sc__law_tells : FnScope ["store", "rows", "keys", "seen", "key", "due", "row"] ["store", "rows", "keys"] (defScope s__law_tells) := ⟨rfl, rfl, rfl, by decide +kernel, rfl, by decide +kernel, by decide +kernel⟩
def b__law_tells : Stm := mSeq (mSet 3 (mCelC (mMethC [(2, fc_Store_rows)] 2 (mVar 0) mNil))) (mSeq (mIf (mNot (mCall (ar 2 (f__law_same 4)) (mCons (mVar 3) (mCons (mVar 1) (mNil))))) (mRet (mC (.bl false))) (mNext)) (mSeq (mMut isLc fAppend (mVar 3) (mCons (mTup (mCons (mC (.str "q")) (mCons (mC (.int 1)) (mNil)))) mNil)) (mSeq (mSetI (mTup (mCons (mC (.str "zz")) (mCons (mC (.int 2)) (mNil)))) (mVar 3) (mC (.int 0))) (mSeq (mIf (mOr (mNot (mCall (ar 2 (f__law_same 4)) (mCons (mFrzC (mMethC [(2, fc_Store_rows)] 2 (mVar 0) mNil)) (mCons (mVar 1) (mNil))))) (mOr (mNot (mCall (ar 2 (f__law_same 4)) (mCons (mFrz (mOwnList 2 0 (mVar 0))) (mCons (mVar 1) (mNil))))) (mBin fNe (mOwnLen [(2, f_Store___len__)] (mVar 0)) (mUn fLen (mVar 1))))) (mRet (mC (.bl false))) (mNext)) (mSeq (mFor (mSeqV (mVar 2)) (tgN 4) (mSeq (mSet 5 (mFrz (mLc (mSeqV (mVar 1)) (tgN 6) (mBin fEq (mBin fIx (mVar 6) (mC (.int 0))) (mVar 4)) (mBin fIx (mVar 6) (mC (.int 1))) [6]))) (mIf (mOr (mNot (mCall (ar 2 (f__law_same 4)) (mCons (mOwnIn false [(2, f_Store___contains__)] (mVar 4) (mVar 0)) (mCons (mBin fEq (mUn fLen (mVar 5)) (mC (.int 1))) (mNil))))) (mNot (mCall (ar 2 (f__law_same 4)) (mCons (mCall (ar 2 f__law_found) (mCons (mVar 0) (mCons (mVar 4) (mNil)))) (mCons (mVar 5) (mNil)))))) (mRet (mC (.bl false))) (mNext)))) (mRet (mC (.bl true))))))))
def f__law_tells : Fn := fnM 3 7 b__law_tells
theorem w__law_tells {P : Program} {w : World} {K : PySem.W.Frag} {mg : Str → Option Value} {base : Heap} {c : List Addr} {fa : Addr} {fd : FuncData} (F : Fun K "_law_tells" "_law_tells" s__law_tells fa fd) (T : Tx P K mg c) (D0 : MetC P w K mg base (Gk c) 1 2 1 2 fc_Store_rows) (D1 : Df P w K mg base (Gk c) "_law_same" 4 2 (f__law_same 4)) (D2 : LstOk P w K mg base (Gk c) 1 2 0) (D3 : DunOk P w K mg base (Gk c) 1 "__len__" 1 2 f_Store___len__) (D4 : DunOk P w K mg base (Gk c) 1 "__contains__" 2 2 f_Store___contains__) (D5 : Df P w K mg base (Gk c) "_law_found" 5 2 f__law_found) : FnOk P w K mg base (L2N.CX P w) 6 fa fd ["store", "rows", "keys"] (spM (Gk c) K 3 f__law_tells) :=
  Fun.okM F sc__law_tells fun cdv A outer s H E bd => cb_cons (cs_set 3 sc__law_tells.nd rfl (by first | exact Or.inl rfl | exact Or.inr rfl) (ce_celC (cc_meth0 bd (tb1 D0) (by decide) (ce_var 0)))) (cb_cons (cs_if (ct_not (ct_val (ce_call D1 bd (by decide) (ca_cons (ce_var 3) (ca_cons (ce_var 1) (ca_nil)))))) (cb_one (cs_ret (ce_bl))) (cb_nil)) (cb_cons (cs_append (ce_var 3) (ce_tup (ca_cons (ce_str) (ca_cons (ce_int) (ca_nil))))) (cb_cons (cs_setI bd.hu (ce_tup (ca_cons (ce_str) (ca_cons (ce_int) (ca_nil)))) (ce_var 3) (ce_int)) (cb_cons (cs_if (ct_of (cw_or (ct_not (ct_val (ce_call D1 bd (by decide) (ca_cons (ce_frzC (cc_meth0 bd (tb1 D0) (by decide) (ce_var 0))) (ca_cons (ce_var 1) (ca_nil)))))) (cw_or (ct_not (ct_val (ce_call D1 bd (by decide) (ca_cons (ce_frz (cl_ownList bd D2 (by decide) T.n_list (ce_var 0))) (ca_cons (ce_var 1) (ca_nil)))))) (cw_or1 (ct_ne bd.hu (ce_ownLen bd (tb1 D3) (by decide) T.n_len (ce_var 0)) (ce_len T.n_len (ce_var 1))))))) (cb_one (cs_ret (ce_bl))) (cb_nil)) (cb_cons (cs_for bd (ci_seq (ce_var 2)) (cg_name 4 sc__law_tells.nd rfl (by first | exact Or.inl rfl | exact Or.inr rfl)) (cb_cons (cs_setLc 5 (own := [("row", 6)]) bd sc__law_tells.nd rfl rfl rfl rfl (by decide +kernel) (ci_seq (ce_var 1)) (blkOk_by (N := ["store", "rows", "keys", "seen", "key", "due", "row"]) (sc := defScope s__law_tells) (by decide +kernel)) (fun _ _ _ _ _ => cg_name 6 sc__law_tells.nd rfl (by first | exact Or.inl rfl | exact Or.inr rfl)) (fun _ _ _ _ _ => cts_one (ct_eq (bd.blk _ _ _ _ _).hu (ce_ix (bd.blk _ _ _ _ _).hu (ce_var 6) (ce_int)) (ce_var 4))) (fun _ _ _ _ _ => ce_ix (bd.blk _ _ _ _ _).hu (ce_var 6) (ce_int))) (cb_one (cs_if (ct_of (cw_or (ct_not (ct_val (ce_call D1 bd (by decide) (ca_cons (ce_ownIn bd (tb1 D4) (by decide) (ce_var 4) (ce_var 0)) (ca_cons (ce_eq bd.hu (ce_len T.n_len (ce_var 5)) (ce_int)) (ca_nil)))))) (cw_or1 (ct_not (ct_val (ce_call D1 bd (by decide) (ca_cons (ce_call D5 bd (by decide) (ca_cons (ce_var 0) (ca_cons (ce_var 4) (ca_nil)))) (ca_cons (ce_var 5) (ca_nil))))))))) (cb_one (cs_ret (ce_bl))) (cb_nil))))) (cb_one (cs_ret (ce_bl))))))))
/-! ### law -/
abbrev s_law : Stmt := top 15
theorem sc_law : FnScope ["script", "state", "keys", "k", "first", "second", "first_rows", "second_rows", "turn", "key", "worth"] ["script"] (defScope s_law) := ⟨rfl, rfl, rfl, by decide +kernel, rfl, by decide +kernel, by decide +kernel⟩
def b_law : Stm := mSeq (mSet 1 (mCelC (mCallC (arC 1 fc__law_start) (mCons (mVar 0) (mNil))))) (mSeq (mSet 2 (mFrz (mCat (mFrz (mLc (mRng1 (mC (.int 3))) (tgN 3) (mYes) (mCall (ar 1 f__law_word) (mCons (mVar 1) (mNil))) [3])) (mFrz (mLst (mCons (mC (.str "")) (mCons (mC (.str "Key of 2")) (mCons (mC (.str "q")) (mNil))))))))) (mSeq (mSet 4 (mCall (newC 2 f_Store___init__) mNil)) (mSeq (mSet 5 (mCall (newC 2 f_Store___init__) mNil)) (mSeq (mSet 6 (mFrz (mLst (mNil)))) (mSeq (mSet 7 (mFrz (mLst (mNil)))) (mSeq (mIf (mOr (mNot (mCall (ar 3 f__law_tells) (mCons (mVar 4) (mCons (mVar 6) (mCons (mVar 2) (mNil)))))) (mNot (mCall (ar 3 f__law_tells) (mCons (mVar 5) (mCons (mVar 7) (mCons (mVar 2) (mNil))))))) (mRet (mC (.bl false))) (mNext)) (mSeq (mFor (mRng1 (mCall (ar 2 f__law_draw) (mCons (mVar 1) (mCons (mC (.int 21)) (mNil))))) (tgN 8) (mSeq (mSet 9 (mBin fIx (mVar 2) (mCall (ar 2 f__law_draw) (mCons (mVar 1) (mCons (mC (.int 6)) (mNil)))))) (mSeq (mSet 10 (mC (.int 0))) (mSeq (mIf (mBin fGt (mCall (ar 2 f__law_draw) (mCons (mVar 1) (mCons (mC (.int 3)) (mNil)))) (mC (.int 0))) (mSet 10 (mCall (ar 1 f__law_value) (mCons (mVar 1) (mNil)))) (mNext)) (mSeq (mIf (mBin fEq (mCall (ar 2 f__law_draw) (mCons (mVar 1) (mCons (mC (.int 2)) (mNil)))) (mC (.int 0))) (mSeq (mOwnSet [(2, f_Store___setitem__)] (mVar 10) (mVar 4) (mVar 9)) (mSet 6 (mCall (ar 3 f__law_set) (mCons (mVar 6) (mCons (mVar 9) (mCons (mVar 10) (mNil))))))) (mSeq (mOwnSet [(2, f_Store___setitem__)] (mVar 10) (mVar 5) (mVar 9)) (mSet 7 (mCall (ar 3 f__law_set) (mCons (mVar 7) (mCons (mVar 9) (mCons (mVar 10) (mNil)))))))) (mIf (mOr (mNot (mCall (ar 3 f__law_tells) (mCons (mVar 4) (mCons (mVar 6) (mCons (mVar 2) (mNil)))))) (mNot (mCall (ar 3 f__law_tells) (mCons (mVar 5) (mCons (mVar 7) (mCons (mVar 2) (mNil))))))) (mRet (mC (.bl false))) (mNext))))))) (mRet (mC (.bl true))))))))))
def f_law : Fn := fnM 1 11 b_law
theorem w_law {P : Program} {w : World} {K : PySem.W.Frag} {mg : Str → Option Value} {base : Heap} {c : List Addr} {fa : Addr} {fd : FuncData} (F : Fun K "law" "law" s_law fa fd) (T : Tx P K mg c) (D0 : DfC P w K mg base (Gk c) "_law_start" 1 1 fc__law_start) (D1 : Df P w K mg base (Gk c) "_law_word" 3 1 f__law_word) (D2 : ClsOk P w K mg base (Gk c) "Store" 2 1 0 f_Store___init__) (D3 : Df P w K mg base (Gk c) "_law_tells" 6 3 f__law_tells) (D4 : Df P w K mg base (Gk c) "_law_draw" 2 2 f__law_draw) (D5 : Df P w K mg base (Gk c) "_law_value" 3 1 f__law_value) (D6 : DunOk P w K mg base (Gk c) 1 "__setitem__" 3 2 f_Store___setitem__) (D7 : Df P w K mg base (Gk c) "_law_set" 1 3 f__law_set) : FnOk P w K mg base (L2N.CX P w) 7 fa fd ["script"] (spM (Gk c) K 1 f_law) :=
  Fun.okM F sc_law fun cdv A outer s H E bd => cb_cons (cs_set 1 sc_law.nd rfl (by first | exact Or.inl rfl | exact Or.inr rfl) (ce_celC (cc_call D0 bd (by decide) (ca_cons (ce_var 0) (ca_nil))))) (cb_cons (cs_set 2 sc_law.nd rfl (by first | exact Or.inl rfl | exact Or.inr rfl) (ce_frz (cl_cat (ce_frz (cl_lc (own := [("k", 3)]) bd sc_law.nd (ci_rng1 T.n_range (ce_int)) (blkOk_by (N := ["script", "state", "keys", "k", "first", "second", "first_rows", "second_rows", "turn", "key", "worth"]) (sc := defScope s_law) (by decide +kernel)) (fun _ _ _ _ _ => cg_name 3 sc_law.nd rfl (by first | exact Or.inl rfl | exact Or.inr rfl)) (fun _ _ _ _ _ => cts_nil) (fun _ _ _ _ _ => ce_call D1 (bd.blk _ _ _ _ _) (by decide) (ca_cons (ce_var 1) (ca_nil))))) (ce_frz (cl_lst (ca_cons (ce_str) (ca_cons (ce_str) (ca_cons (ce_str) (ca_nil))))))))) (cb_cons (cs_set 4 sc_law.nd rfl (by first | exact Or.inl rfl | exact Or.inr rfl) (ce_new0 D2 bd (by decide))) (cb_cons (cs_set 5 sc_law.nd rfl (by first | exact Or.inl rfl | exact Or.inr rfl) (ce_new0 D2 bd (by decide))) (cb_cons (cs_set 6 sc_law.nd rfl (by first | exact Or.inl rfl | exact Or.inr rfl) (ce_frz (cl_lst (ca_nil)))) (cb_cons (cs_set 7 sc_law.nd rfl (by first | exact Or.inl rfl | exact Or.inr rfl) (ce_frz (cl_lst (ca_nil)))) (cb_cons (cs_if (ct_of (cw_or (ct_not (ct_val (ce_call D3 bd (by decide) (ca_cons (ce_var 4) (ca_cons (ce_var 6) (ca_cons (ce_var 2) (ca_nil))))))) (cw_or1 (ct_not (ct_val (ce_call D3 bd (by decide) (ca_cons (ce_var 5) (ca_cons (ce_var 7) (ca_cons (ce_var 2) (ca_nil)))))))))) (cb_one (cs_ret (ce_bl))) (cb_nil)) (cb_cons (cs_for bd (ci_rng1 T.n_range (ce_call D4 bd (by decide) (ca_cons (ce_var 1) (ca_cons (ce_int) (ca_nil))))) (cg_name 8 sc_law.nd rfl (by first | exact Or.inl rfl | exact Or.inr rfl)) (cb_cons (cs_set 9 sc_law.nd rfl (by first | exact Or.inl rfl | exact Or.inr rfl) (ce_ix bd.hu (ce_var 2) (ce_call D4 bd (by decide) (ca_cons (ce_var 1) (ca_cons (ce_int) (ca_nil)))))) (cb_cons (cs_set 10 sc_law.nd rfl (by first | exact Or.inl rfl | exact Or.inr rfl) (ce_int)) (cb_cons (cs_if (ct_gt (ce_call D4 bd (by decide) (ca_cons (ce_var 1) (ca_cons (ce_int) (ca_nil)))) (ce_int)) (cb_one (cs_set 10 sc_law.nd rfl (by first | exact Or.inl rfl | exact Or.inr rfl) (ce_call D5 bd (by decide) (ca_cons (ce_var 1) (ca_nil))))) (cb_nil)) (cb_cons (cs_if (ct_eq bd.hu (ce_call D4 bd (by decide) (ca_cons (ce_var 1) (ca_cons (ce_int) (ca_nil)))) (ce_int)) (cb_cons (cs_ownSet bd (tb1 D6) (by decide) (ce_var 10) (ce_var 4) (ce_var 9)) (cb_one (cs_set 6 sc_law.nd rfl (by first | exact Or.inl rfl | exact Or.inr rfl) (ce_call D7 bd (by decide) (ca_cons (ce_var 6) (ca_cons (ce_var 9) (ca_cons (ce_var 10) (ca_nil)))))))) (cb_cons (cs_ownSet bd (tb1 D6) (by decide) (ce_var 10) (ce_var 5) (ce_var 9)) (cb_one (cs_set 7 sc_law.nd rfl (by first | exact Or.inl rfl | exact Or.inr rfl) (ce_call D7 bd (by decide) (ca_cons (ce_var 7) (ca_cons (ce_var 9) (ca_cons (ce_var 10) (ca_nil))))))))) (cb_one (cs_if (ct_of (cw_or (ct_not (ct_val (ce_call D3 bd (by decide) (ca_cons (ce_var 4) (ca_cons (ce_var 6) (ca_cons (ce_var 2) (ca_nil))))))) (cw_or1 (ct_not (ct_val (ce_call D3 bd (by decide) (ca_cons (ce_var 5) (ca_cons (ce_var 7) (ca_cons (ce_var 2) (ca_nil)))))))))) (cb_one (cs_ret (ce_bl))) (cb_nil)))))))) (cb_one (cs_ret (ce_bl))))))))))

def spLaw (K : PySem.W.Frag) : Sp := fun vs H Q _ => ∃ (a : Addr) (ns : List Int), vs = [.ref a] ∧ SqL K H a (ns.map V.int) ∧ ns.length ≤ 63 ∧ ∀ H', Q (.bl true) H'
theorem repL_ints {G : Gm} {K : PySem.W.Frag} {I : Hp} {ρ : List Addr} : ∀ ns : List Int, RepL G K I ρ (ns.map V.int) (ns.map Val.int)
  | [] => .nil
  | n :: r => .cons (.int n) (repL_ints r)
/-! ### drawing -/
theorem set_get {h : Hep} {n : Nat} {c : Cell} (e : h[n]? = some c) {c' : Cell} : (h.set n c')[n]? = some c' := by
  have hl : n < h.length := (List.getElem?_eq_some_iff.mp e).1
  simp [List.getElem?_set_self hl]
def stV (L : List Int) (p b c l t : Int) : Cell := .lst [.lst (L.map .int), .int p, .int b, .int c, .int l, .int t]
theorem mixed_ok (a b c : Int) (hc : 0 < c) (h : Hep) : ∃ r, f__law_mixed [.int a, .int b, .int c] h = .ok (.int r) h ∧ 0 ≤ r ∧ r < c := by
  refine ⟨(((a * 48271 + b * 69621 + 11) % 2147483647 * 16807 + b * 40692 + 7) % 2147483629) % c, ?_, Int.emod_nonneg _ (by omega), Int.emod_lt_of_pos _ hc⟩
  simp [f__law_mixed, fnM, b__law_mixed, fAdd, fMul, fI, fIc, fMod, fInt, hc]
theorem ix_st {env : SEnv} {h : Hep} {n : Nat} {l : List Val} (e : h[n]? = some (.lst l)) (i : Nat) {v : Val} (hv : l[i]? = some v) : fIx env h (.ref n) (.int i) = some v := by
  unfold fIx
  have : seqOf env h (.ref n) = some l := by simp [seqOf, lstOf, e]
  rw [this]
  exact atI_nat hv
theorem setI_st {env : SEnv} {h : Hep} {n : Nat} {l : List Val} {me : Ex1} {v : Val} {k : Nat} (e0 : env[0]? = some (.va (.ref n))) (e : h[n]? = some (.lst l)) (em : me env h = .ok v h) (hv : clean v = true) (hk : k < l.length) :
    mSetI me (mVar 0) (mC (.int k)) env h = .nx env (h.set n (.lst (l.set k v))) := by
  have e2 : ixN l.length (k : Int) = some k := by
    unfold ixN
    rw [if_pos (by omega), if_pos (by omega)]
    simp
  unfold mSetI
  rw [em]
  simp only [exS_ok]
  rw [if_pos hv, mVar_va e0]
  simp only [exS_ok, mC_e]
  have e3 : Mi.cellOf env h (.ref n) = some (.lst l) := e
  rw [e3]
  simp [fSetI, e2, storeC]
theorem fnM_rt {n N : Nat} {m : Stm} {args : List Val} {h h' : Hep} {v : Val} (hl : args.length = n) (e : m (args.map .va ++ List.replicate (N - n) .un) h = .rt v h') : fnM n N m args h = .ok v h' := by
  unfold fnM
  rw [if_pos hl, e]
theorem draw_ok {h : Hep} {n : Nat} {L : List Int} {p b c l t lim : Int} (e : h[n]? = some (stV L p b c l t)) (hp : 0 ≤ p) (h1 : 0 < lim) (h2 : lim < 1073741824) :
    ∃ r p' b' c' l' t', f__law_draw [.ref n, .int lim] h = .ok (.int r) (h.set n (stV L p' b' c' l' t')) ∧ 0 ≤ p' ∧ 0 ≤ r ∧ r < lim := by
  have g0 : ∀ env : SEnv, fIx env h (.ref n) (.int 0) = some (.lst (L.map .int)) := fun env => ix_st e 0 rfl
  have g1 : ∀ env : SEnv, fIx env h (.ref n) (.int 1) = some (.int p) := fun env => ix_st e 1 rfl
  have g2 : ∀ env : SEnv, fIx env h (.ref n) (.int 2) = some (.int b) := fun env => ix_st e 2 rfl
  have g3 : ∀ env : SEnv, fIx env h (.ref n) (.int 3) = some (.int c) := fun env => ix_st e 3 rfl
  have g4 : ∀ env : SEnv, fIx env h (.ref n) (.int 4) = some (.int l) := fun env => ix_st e 4 rfl
  have g5 : ∀ env : SEnv, fIx env h (.ref n) (.int 5) = some (.int t) := fun env => ix_st e 5 rfl
  have hs : h.set n (stV L p b c l t) = h := by
    refine List.ext_getElem? fun j => ?_
    by_cases z : n = j
    · subst z; rw [set_get e, e]
    · rw [List.getElem?_set_ne z]
  by_cases hb : 0 < b
  · refine ⟨b % lim, p, b / lim, c, l, t, fnM_rt rfl ?_, hp, Int.emod_nonneg _ (by omega), Int.emod_lt_of_pos _ h1⟩
    have s1 := setI_st (env := [.va (.ref n), .va (.int lim), .va (.int (b % lim)), .un]) (me := mBin fDiv (mBin fIx (mVar 0) (mC (.int 2))) (mVar 1)) (v := .int (b / lim)) (k := 2) rfl e (by simp [g2, fDiv, fIc, h1, h2]) rfl (by show 2 < 6; decide)
    have s1' : mSetI (mBin fDiv (mBin fIx (mVar 0) (mC (.int 2))) (mVar 1)) (mVar 0) (mC (.int 2)) [.va (.ref n), .va (.int lim), .va (.int (b % lim)), .un] h = .nx [.va (.ref n), .va (.int lim), .va (.int (b % lim)), .un] (h.set n (stV L p (b / lim) c l t)) := s1
    simp [b__law_draw, g2, fGt, fIb, hb, fMod, fIc, fInt, h1, s1']
  · by_cases hl : 0 < l
    · obtain ⟨r, er, r1, r2⟩ := mixed_ok c (t + 1) lim h1 (h.set n (stV L p b c (l - 1) (t + 1)))
      refine ⟨r, p, b, c, l - 1, t + 1, fnM_rt rfl ?_, hp, r1, r2⟩
      have s1 : mSetI (mBin fSub (mBin fIx (mVar 0) (mC (.int 4))) (mC (.int 1))) (mVar 0) (mC (.int 4)) [.va (.ref n), .va (.int lim), .un, .un] h = .nx [.va (.ref n), .va (.int lim), .un, .un] (h.set n (stV L p b c (l - 1) t)) :=
        setI_st (k := 4) (v := .int (l - 1)) rfl e (by simp [g4, fSub, fI]) rfl (by show 4 < 6; decide)
      have e2 : (h.set n (stV L p b c (l - 1) t))[n]? = some (stV L p b c (l - 1) t) := set_get e
      have s2 : mSetI (mBin fAdd (mBin fIx (mVar 0) (mC (.int 5))) (mC (.int 1))) (mVar 0) (mC (.int 5)) [.va (.ref n), .va (.int lim), .un, .un] (h.set n (stV L p b c (l - 1) t)) = .nx [.va (.ref n), .va (.int lim), .un, .un] ((h.set n (stV L p b c (l - 1) t)).set n (stV L p b c (l - 1) (t + 1))) :=
        setI_st (k := 5) (v := .int (t + 1)) rfl e2 (by
          have : ∀ env : SEnv, fIx env (h.set n (stV L p b c (l - 1) t)) (.ref n) (.int 5) = some (.int t) := fun env => ix_st e2 5 rfl
          simp [this, fAdd]) rfl (by show 5 < 6; decide)
      rw [List.set_set] at s2
      have e3 : (h.set n (stV L p b c (l - 1) (t + 1)))[n]? = some (stV L p b c (l - 1) (t + 1)) := set_get e
      have k3 : ∀ env : SEnv, fIx env (h.set n (stV L p b c (l - 1) (t + 1))) (.ref n) (.int 3) = some (.int c) := fun env => ix_st e3 3 rfl
      have k5 : ∀ env : SEnv, fIx env (h.set n (stV L p b c (l - 1) (t + 1))) (.ref n) (.int 5) = some (.int (t + 1)) := fun env => ix_st e3 5 rfl
      simp [b__law_draw, g2, g4, fGt, fIb, hb, hl, s1, s2, k3, k5, er]
    · by_cases hq : (L.length : Int) ≤ p
      · refine ⟨0, p, b, c, l, t, fnM_rt rfl ?_, hp, Int.le_refl _, h1⟩
        rw [hs]
        simp [b__law_draw, g0, g1, g2, g4, fGt, fGe, fIb, hb, hl, fLen, seqOf, lstOf, hq]
      · obtain ⟨q, rfl⟩ := Int.eq_ofNat_of_zero_le hp
        have hql : q < L.length := by omega
        have ga : ∀ env : SEnv, fIx env h (.lst (L.map .int)) (.int q) = some (.int L[q]) := fun env => by
          unfold fIx
          have : seqOf env h (.lst (L.map .int)) = some (L.map .int) := rfl
          rw [this]
          exact atI_nat (by simp [hql])
        have s1 : ∀ x, mSetI (mBin fAdd (mBin fIx (mVar 0) (mC (.int 1))) (mC (.int 1))) (mVar 0) (mC (.int 1)) [.va (.ref n), .va (.int lim), .un, .va x] h = .nx [.va (.ref n), .va (.int lim), .un, .va x] (h.set n (stV L (q + 1) b c l t)) := fun x =>
          setI_st (k := 1) (v := .int (q + 1)) rfl e (by simp [g1, fAdd]) rfl (by show 1 < 6; decide)
        have e2 : (h.set n (stV L (q + 1) b c l t))[n]? = some (stV L (q + 1) b c l t) := set_get e
        generalize hz : L[q] = z at *
        by_cases hbig : (1000000000000000000 : Int) ≤ z
        · have s2 : mSetI (mBin fDiv (mVar 3) (mVar 1)) (mVar 0) (mC (.int 2)) [.va (.ref n), .va (.int lim), .un, .va (.int z)] (h.set n (stV L (q + 1) b c l t)) = .nx [.va (.ref n), .va (.int lim), .un, .va (.int z)] ((h.set n (stV L (q + 1) b c l t)).set n (stV L (q + 1) (z / lim) c l t)) :=
            setI_st (k := 2) (v := .int (z / lim)) rfl e2 (by simp [fDiv, fIc, h1, h2]) rfl (by show 2 < 6; decide)
          rw [List.set_set] at s2
          refine ⟨z % lim, q + 1, z / lim, c, l, t, fnM_rt rfl ?_, by omega, Int.emod_nonneg _ (by omega), Int.emod_lt_of_pos _ h1⟩
          simp [b__law_draw, g0, g1, g2, g4, fGt, fGe, fIb, hb, hl, fLen, seqOf, lstOf, hq, ga, s1, s2, hbig, fPow, fIc, fMod, fInt, h1]
        · have s2 : mSetI (mVar 3) (mVar 0) (mC (.int 3)) [.va (.ref n), .va (.int lim), .un, .va (.int z)] (h.set n (stV L (q + 1) b c l t)) = .nx [.va (.ref n), .va (.int lim), .un, .va (.int z)] ((h.set n (stV L (q + 1) b c l t)).set n (stV L (q + 1) b z l t)) :=
            setI_st (k := 3) (v := .int z) rfl e2 (by simp) rfl (by show 3 < 6; decide)
          rw [List.set_set] at s2
          have e3 : (h.set n (stV L (q + 1) b z l t))[n]? = some (stV L (q + 1) b z l t) := set_get e
          have s3 : mSetI (mC (.int 3)) (mVar 0) (mC (.int 4)) [.va (.ref n), .va (.int lim), .un, .va (.int z)] (h.set n (stV L (q + 1) b z l t)) = .nx [.va (.ref n), .va (.int lim), .un, .va (.int z)] ((h.set n (stV L (q + 1) b z l t)).set n (stV L (q + 1) b z 3 t)) :=
            setI_st (k := 4) (v := .int 3) rfl e3 (by simp) rfl (by show 4 < 6; decide)
          rw [List.set_set] at s3
          have e4 : (h.set n (stV L (q + 1) b z 3 t))[n]? = some (stV L (q + 1) b z 3 t) := set_get e
          have s4 : mSetI (mBin fAdd (mBin fIx (mVar 0) (mC (.int 5))) (mC (.int 1))) (mVar 0) (mC (.int 5)) [.va (.ref n), .va (.int lim), .un, .va (.int z)] (h.set n (stV L (q + 1) b z 3 t)) = .nx [.va (.ref n), .va (.int lim), .un, .va (.int z)] ((h.set n (stV L (q + 1) b z 3 t)).set n (stV L (q + 1) b z 3 (t + 1))) :=
            setI_st (k := 5) (v := .int (t + 1)) rfl e4 (by
              have : ∀ env : SEnv, fIx env (h.set n (stV L (q + 1) b z 3 t)) (.ref n) (.int 5) = some (.int t) := fun env => ix_st e4 5 rfl
              simp [this, fAdd]) rfl (by show 5 < 6; decide)
          rw [List.set_set] at s4
          have e5 : (h.set n (stV L (q + 1) b z 3 (t + 1)))[n]? = some (stV L (q + 1) b z 3 (t + 1)) := set_get e
          have k5 : ∀ env : SEnv, fIx env (h.set n (stV L (q + 1) b z 3 (t + 1))) (.ref n) (.int 5) = some (.int (t + 1)) := fun env => ix_st e5 5 rfl
          obtain ⟨r, er, r1, r2⟩ := mixed_ok z (t + 1) lim h1 (h.set n (stV L (q + 1) b z 3 (t + 1)))
          refine ⟨r, q + 1, b, z, 3, t + 1, fnM_rt rfl ?_, by omega, r1, r2⟩
          simp [b__law_draw, g0, g1, g2, g4, fGt, fGe, fIb, hb, hl, fLen, seqOf, lstOf, hq, ga, s1, s2, s3, s4, hbig, fPow, fIc, k5, er]
def St (c : Cell) : Prop := ∃ L p b cc l t, c = stV L p b cc l t ∧ 0 ≤ p
theorem draw {h : Hep} {n : Nat} {c : Cell} {lim : Int} (e : h[n]? = some c) (hs : St c) (h1 : 0 < lim) (h2 : lim < 1073741824) : ∃ r c', f__law_draw [.ref n, .int lim] h = .ok (.int r) (h.set n c') ∧ St c' ∧ 0 ≤ r ∧ r < lim := by
  obtain ⟨L, p, b, cc, l, t, rfl, hp⟩ := hs
  obtain ⟨r, p', b', c', l', t', a1, a2, a3, a4⟩ := draw_ok e hp h1 h2
  exact ⟨r, _, a1, ⟨L, p', b', c', l', t', rfl, a2⟩, a3, a4⟩
/-! ### words, values -/
def abc : Str := "abcdefghijklmnopqrstuvwxyz"
theorem letter {r : Int} (h0 : 0 ≤ r) (h1 : r < 26) : ∃ x : Nat, ∀ (env : SEnv) (h : Hep), fIx env h (.str abc) (.int r) = some (.str ⟨#[x]⟩) := by
  obtain ⟨k, rfl⟩ := Int.eq_ofNat_of_zero_le h0
  have hk : k < abc.cps.toList.length := by
    have : abc.cps.toList.length = 26 := by decide +kernel
    omega
  refine ⟨abc.cps.toList[k], fun env h => ?_⟩
  have hl : abc.length ≤ smx := by decide +kernel
  have ha : L2.atI abc.cps.toList (k : Int) = some abc.cps.toList[k] := atI_nat (List.getElem?_eq_getElem hk)
  show (if abc.length ≤ smx then (L2.atI abc.cps.toList (k : Int)).map fun c => Val.str ⟨#[c]⟩ else none) = _
  rw [if_pos hl, ha]
  rfl
theorem addS {env : SEnv} {h : Hep} {w : Str} {x : Nat} (hw : w.length ≤ 100) : fAdd env h (.str w) (.str ⟨#[x]⟩) = some (.str (w ++ ⟨#[x]⟩)) ∧ (w ++ ⟨#[x]⟩ : Str).length = w.length + 1 := by
  have e : (⟨#[x]⟩ : Str).length = 1 := rfl
  refine ⟨?_, by rw [Str.length_append, e]⟩
  show (if w.length + (⟨#[x]⟩ : Str).length ≤ smx then _ else _) = _
  rw [e, if_pos (Nat.le_trans (Nat.add_le_add_right hw 1) (by decide))]
def wloop : Stm := mIf (mOr (mBin fEq (mVar 3) (mC (.int 0))) (mBin fEq (mVar 7) (mVar 5))) (mSet 6 (mBin fAdd (mVar 6) (mBin fIx (mVar 1) (mCall (ar 2 f__law_draw) (mCons (mVar 0) (mCons (mC (.int 26)) mNil)))))) (mSet 6 (mBin fAdd (mVar 6) (mVar 4)))
theorem eq_ints (env : SEnv) (h : Hep) (a b : Int) : fEq env h (.int a) (.int b) = some (.bl (decide (a = b))) := by
  show (veq (.int a) (.int b)).map Val.bl = _
  have : veq (.int a) (.int b) = some (decide (a = b)) := by
    show (if scal (V.int a) (V.int b) = true then some (decide (V.int a = V.int b)) else none) = _
    rw [if_pos (show scal (V.int a) (V.int b) = true by simp [scal])]
    congr 1
    by_cases e : a = b
    · subst e; simp
    · simp [e]
  rw [this]; rfl
theorem wloop_ok {n : Nat} {many alike spot k : Int} {sign : Nat} {w : Str} {x : Slot} {h : Hep} {c : Cell} (e : h[n]? = some c) (hs : St c) (hw : w.length ≤ 100) :
    ∃ x c', wloop [.va (.ref n), .va (.str abc), .va (.int many), .va (.int alike), .va (.str ⟨#[sign]⟩), .va (.int spot), .va (.str w), .va (.int k)] h = .nx [.va (.ref n), .va (.str abc), .va (.int many), .va (.int alike), .va (.str ⟨#[sign]⟩), .va (.int spot), .va (.str (w ++ ⟨#[x]⟩)), .va (.int k)] (h.set n c') ∧ St c' := by
  have hset : h.set n c = h := by
    refine List.ext_getElem? fun j => ?_
    by_cases z : n = j
    · subst z; rw [set_get e, e]
    · rw [List.getElem?_set_ne z]
  by_cases ha : alike = 0 ∨ k = spot
  · obtain ⟨r, c', e1, s1, r0, r1⟩ := draw (lim := 26) e hs (by omega) (by omega)
    obtain ⟨x, hx⟩ := letter r0 r1
    have ad : ∀ (env : SEnv) (h : Hep), fAdd env h (.str w) (.str ⟨#[x]⟩) = some (.str (w ++ ⟨#[x]⟩)) := fun env h => (addS hw).1
    refine ⟨x, c', ?_, s1⟩
    rcases ha with ha | ha
    · simp [wloop, eq_ints, ha, e1, hx, ad]
    · by_cases ha0 : alike = 0
      · simp [wloop, eq_ints, ha0, ha, e1, hx, ad]
      · simp [wloop, eq_ints, ha0, ha, e1, hx, ad]
  · have h1 : ¬ alike = 0 := fun z => ha (.inl z)
    have h2 : ¬ k = spot := fun z => ha (.inr z)
    refine ⟨sign, c, ?_, hs⟩
    simp [wloop, eq_ints, h1, h2, (addS hw).1, hset]
theorem wfor_ok {n : Nat} {many alike spot : Int} {sign : Nat} : ∀ (l : List Int) (w : Str) (x : Slot) (h : Hep) (c : Cell), h[n]? = some c → St c → w.length + l.length ≤ 100 →
    ∃ w' x' c', forL (tgN 7) wloop (l.map .int) [.va (.ref n), .va (.str abc), .va (.int many), .va (.int alike), .va (.str ⟨#[sign]⟩), .va (.int spot), .va (.str w), x] h = .nx [.va (.ref n), .va (.str abc), .va (.int many), .va (.int alike), .va (.str ⟨#[sign]⟩), .va (.int spot), .va (.str w'), x'] (h.set n c') ∧ St c'
  | [], w, x, h, c, e, hs, hw => ⟨w, x, c, by
      have hset : h.set n c = h := by
        refine List.ext_getElem? fun j => ?_
        by_cases z : n = j
        · subst z; rw [set_get e, e]
        · rw [List.getElem?_set_ne z]
      rw [hset]; rfl, hs⟩
  | k :: l, w, x, h, c, e, hs, hw => by
    rw [List.length_cons] at hw
    obtain ⟨y, c1, e1, s1⟩ := wloop_ok (many := many) (alike := alike) (spot := spot) (k := k) (sign := sign) (w := w) (x := x) e hs (by omega)
    obtain ⟨w', x', c2, e2, s2⟩ := wfor_ok l (w ++ ⟨#[y]⟩) (.va (.int k)) (h.set n c1) c1 (set_get e) s1 (by rw [Str.length_append]; show w.length + 1 + l.length ≤ 100; omega)
    rw [List.set_set] at e2
    refine ⟨w', x', c2, ?_, s2⟩
    rw [← e2]
    show (match wloop [.va (.ref n), .va (.str abc), .va (.int many), .va (.int alike), .va (.str ⟨#[sign]⟩), .va (.int spot), .va (.str w), .va (.int k)] h with
      | .nx e h' => forL (tgN 7) wloop (l.map .int) e h'
      | .ct e h' => forL (tgN 7) wloop (l.map .int) e h'
      | .bk e h' => .nx e h'
      | o => o) = _
    rw [e1]
theorem range_ints (k : Int) : rangeV 0 k = ((List.range k.toNat).map fun (i : Nat) => (i : Int)).map Val.int := by
  unfold rangeV
  rw [Int.sub_zero, List.map_map]
  congr 1
  funext i
  simp
theorem word_ok {n : Nat} {h : Hep} {c : Cell} (e : h[n]? = some c) (hs : St c) : ∃ w c', f__law_word [.ref n] h = .ok (.str w) (h.set n c') ∧ St c' := by
  obtain ⟨r1, c1, e1, s1, a1, b1⟩ := draw (lim := 8) e hs (by omega) (by omega)
  obtain ⟨r2, c2, e2, s2, a2, b2⟩ := draw (lim := 2) (set_get e) s1 (by omega) (by omega)
  rw [List.set_set] at e2
  obtain ⟨r3, c3, e3, s3, a3, b3⟩ := draw (lim := 26) (set_get e) s2 (by omega) (by omega)
  rw [List.set_set] at e3
  obtain ⟨r4, c4, e4, s4, a4, b4⟩ := draw (lim := 1 + r1) (set_get e) s3 (by omega) (by omega)
  rw [List.set_set] at e4
  obtain ⟨sg, hsg⟩ := letter a3 b3
  obtain ⟨w', x', c5, e5, s5⟩ := wfor_ok (n := n) (many := 1 + r1) (alike := r2) (spot := r4) (sign := sg) ((List.range (1 + r1).toNat).map fun (i : Nat) => (i : Int)) ("" : Str) .un (h.set n c4) c4 (set_get e) s4 (by
    rw [List.length_map, List.length_range]
    show 0 + (1 + r1).toNat ≤ 100
    omega)
  rw [List.set_set, ← range_ints] at e5
  refine ⟨w', c5, fnM_rt rfl ?_, s5⟩
  have hr : rng1Of (.int (1 + r1)) = some (rangeV 0 (1 + r1)) := by
    show (if -(2 ^ 62) ≤ 1 + r1 ∧ 1 + r1 < 2 ^ 62 then some (rangeV 0 (1 + r1)) else none) = _
    rw [if_pos (by omega)]
  have hb : b__law_word = mSeq (mSet 1 (mC (.str abc))) (mSeq (mSet 2 (mBin fAdd (mC (.int 1)) (mCall (ar 2 f__law_draw) (mCons (mVar 0) (mCons (mC (.int 8)) mNil))))) (mSeq (mSet 3 (mCall (ar 2 f__law_draw) (mCons (mVar 0) (mCons (mC (.int 2)) mNil)))) (mSeq (mSet 4 (mBin fIx (mVar 1) (mCall (ar 2 f__law_draw) (mCons (mVar 0) (mCons (mC (.int 26)) mNil))))) (mSeq (mSet 5 (mCall (ar 2 f__law_draw) (mCons (mVar 0) (mCons (mVar 2) mNil)))) (mSeq (mSet 6 (mC (.str ""))) (mSeq (mFor (mRng1 (mVar 2)) (tgN 7) wloop) (mRet (mVar 6)))))))) := rfl
  rw [hb]
  have ad : ∀ (env : SEnv) (h : Hep), fAdd env h (.int 1) (.int r1) = some (.int (1 + r1)) := fun _ _ => rfl
  simp [e1, e2, e3, e4, ad, hsg, mFor, mRng1, hr, e5]
/-! ### values -/
theorem value_ok {n : Nat} {h : Hep} {c : Cell} (e : h[n]? = some c) (hs : St c) : ∃ v c', f__law_value [.ref n] h = .ok (.int v) (h.set n c') ∧ St c' := by
  obtain ⟨r1, c1, e1, s1, a1, b1⟩ := draw (lim := 4) e hs (by omega) (by omega)
  by_cases k0 : r1 = 0
  · obtain ⟨r, c2, e2, s2, _⟩ := draw (lim := 101) (set_get e) s1 (by omega) (by omega)
    rw [List.set_set] at e2
    refine ⟨r - 50, c2, fnM_rt rfl ?_, s2⟩
    simp [b__law_value, e1, eq_ints, k0, e2, fSub, fI]
  · by_cases k1 : r1 = 1
    · obtain ⟨r, c2, e2, s2, _⟩ := draw (lim := 3) (set_get e) s1 (by omega) (by omega)
      rw [List.set_set] at e2
      refine ⟨10 ^ 40 - 1 - r, c2, fnM_rt rfl ?_, s2⟩
      simp [b__law_value, e1, eq_ints, k0, k1, e2, fSub, fI, fPow, fIc]
    · by_cases k2 : r1 = 2
      · obtain ⟨r, c2, e2, s2, _⟩ := draw (lim := 3) (set_get e) s1 (by omega) (by omega)
        rw [List.set_set] at e2
        refine ⟨0 - (10 ^ 40 - 1 - r), c2, fnM_rt rfl ?_, s2⟩
        simp [b__law_value, e1, eq_ints, k0, k1, k2, e2, fSub, fI, fPow, fIc]
      · obtain ⟨r, c2, e2, s2, _⟩ := draw (lim := 1000000000) (set_get e) s1 (by omega) (by omega)
        rw [List.set_set] at e2
        refine ⟨r - 5 * 10 ^ 8, c2, fnM_rt rfl ?_, s2⟩
        simp [b__law_value, e1, eq_ints, k0, k1, k2, e2, fSub, fI, fPow, fIc, fMul]
/-! ### rows -/
abbrev Rows := List (Str × Int)
def rowV (p : Str × Int) : Val := .tup [.str p.1, .int p.2]
def rowsV (rs : Rows) : List Val := rs.map rowV
def dOf (rs : Rows) : List (Key × Val) := rs.map fun p => (.inr p.1, .int p.2)
theorem items_dOf (rs : Rows) : itemsV (dOf rs) = rowsV rs := by
  unfold itemsV dOf rowsV
  rw [List.map_map]
  rfl
def setR (rs : Rows) (k : Str) (v : Int) : Rows := rs.map (fun p => (p.1, if p.1 = k then v else p.2)) ++ (if k ∈ rs.map (·.1) then [] else [(k, v)])
theorem keys_setR (rs : Rows) (k : Str) (v : Int) : (setR rs k v).map (·.1) = rs.map (·.1) ++ (if k ∈ rs.map (·.1) then [] else [k]) := by
  unfold setR
  rw [List.map_append, List.map_map]
  by_cases h : k ∈ rs.map (·.1)
  · rw [if_pos h, if_pos h]; rfl
  · rw [if_neg h, if_neg h]; rfl
theorem nodup_setR {rs : Rows} {k : Str} {v : Int} (h : (rs.map (·.1)).Nodup) : ((setR rs k v).map (·.1)).Nodup := by
  rw [keys_setR]
  by_cases e : k ∈ rs.map (·.1)
  · rw [if_pos e, List.append_nil]; exact h
  · rw [if_neg e]
    refine List.nodup_append.mpr ⟨h, by simp, fun a ha b hb => ?_⟩
    have : b = k := by simpa using hb
    subst this
    intro z
    subst z
    exact e ha
theorem len_setR (rs : Rows) (k : Str) (v : Int) : (setR rs k v).length ≤ rs.length + 1 := by
  unfold setR
  rw [List.length_append, List.length_map]
  by_cases h : k ∈ rs.map (·.1)
  · rw [if_pos h]; exact Nat.le_succ _
  · rw [if_neg h]; exact Nat.le_refl _
theorem dput_dOf (rs : Rows) (k : Str) (v : Int) : dput (dOf rs) (.inr k) (.int v) = dOf (setR rs k v) := by
  have ea : ((dOf rs).any fun kv => decide (kv.1 = Sum.inr k)) = decide (k ∈ rs.map (·.1)) := by
    unfold dOf
    rw [List.any_map, Bool.eq_iff_iff, List.any_eq_true, decide_eq_true_eq, List.mem_map]
    constructor
    · rintro ⟨p, hp, hk⟩
      exact ⟨p, hp, by simpa using hk⟩
    · rintro ⟨p, hp, hk⟩
      exact ⟨p, hp, by simpa using hk⟩
  unfold dput
  rw [ea]
  by_cases h : k ∈ rs.map (·.1)
  · rw [if_pos (decide_eq_true h)]
    unfold setR dOf
    rw [if_pos h, List.append_nil, List.map_map, List.map_map]
    refine List.map_congr_left fun p _ => ?_
    show (if (Sum.inr p.1 : Key) = Sum.inr k then ((Sum.inr p.1 : Key), Val.int v) else (Sum.inr p.1, Val.int p.2)) = (Sum.inr p.1, Val.int (if p.1 = k then v else p.2))
    by_cases q : p.1 = k
    · rw [if_pos q, if_pos (by rw [q])]
    · rw [if_neg q, if_neg (fun z => q (Sum.inr.inj z))]
  · rw [if_neg (by simpa using h)]
    unfold setR dOf
    rw [if_neg h, List.map_append, List.map_map]
    congr 1
    refine List.map_congr_left fun p hp => ?_
    have q : ¬ p.1 = k := fun z => h (List.mem_map.mpr ⟨p, hp, z⟩)
    show _ = ((Sum.inr p.1 : Key), Val.int (if p.1 = k then v else p.2))
    rw [if_neg q]
theorem eq_strs (env : SEnv) (h : Hep) (a b : Str) : fEq env h (.str a) (.str b) = some (.bl (decide (a = b))) := by
  show (veq (.str a) (.str b)).map Val.bl = _
  have : veq (.str a) (.str b) = some (decide (a = b)) := by
    show (if scal (V.str a) (V.str b) = true then some (decide (V.str a = V.str b)) else none) = _
    rw [if_pos (show scal (V.str a) (V.str b) = true by simp [scal])]
    congr 1
    by_cases e : a = b
    · subst e; simp
    · simp [e]
  rw [this]; rfl
theorem eq_bls (env : SEnv) (h : Hep) (a b : Bool) : fEq env h (.bl a) (.bl b) = some (.bl (decide (a = b))) := by cases a <;> cases b <;> rfl
theorem ne_bls (env : SEnv) (h : Hep) (a b : Bool) : fNe env h (.bl a) (.bl b) = some (.bl (!decide (a = b))) := by cases a <;> cases b <;> rfl
theorem ne_ints (env : SEnv) (h : Hep) (a b : Int) : fNe env h (.int a) (.int b) = some (.bl (!decide (a = b))) := by
  have e := eq_ints env h a b
  unfold fEq at e
  unfold fNe
  cases hv : veq (.int a) (.int b) with
  | none => rw [hv] at e; cases e
  | some z => rw [hv] at e; simp at e; subst e; rfl
theorem lc_gen {α : Type} {t : Tg} {c e : Ex1} {env : SEnv} {f : α → Val} {p : α → Bool} {g : α → Val} {h : Hep} : ∀ (l : List α) (acc : List Val),
    (∀ a ∈ l, ∃ e1, t (f a) env = some e1 ∧ c e1 h = .ok (.bl (p a)) h ∧ e e1 h = .ok (g a) h ∧ clean (g a) = true) → acc.length + l.length ≤ smx → lcL t c e env (l.map f) h acc = .ok (acc ++ (l.filter p).map g) h
  | [], acc, _, _ => by simp [lcL]
  | a :: l, acc, H, hl => by
    rw [List.length_cons] at hl
    obtain ⟨e1, h1, h2, h3, h4⟩ := H a (.head _)
    have ih := fun acc' => lc_gen (t := t) (c := c) (e := e) (env := env) (f := f) (p := p) (g := g) (h := h) l acc' (fun b hb => H b (.tail _ hb))
    rw [List.map_cons]
    unfold lcL
    rw [h1]
    simp only [h2]
    by_cases hp : p a = true
    · rw [if_pos hp]
      simp only [h3]
      rw [if_pos ⟨h4, by omega⟩, ih _ (by rw [List.length_append]; show acc.length + 1 + l.length ≤ smx; omega), List.filter_cons_of_pos hp, List.map_cons, List.append_assoc]
      rfl
    · rw [if_neg hp, ih _ (by omega), List.filter_cons_of_neg hp]
theorem lc_map {α : Type} {t : Tg} {e : Ex1} {env : SEnv} {f : α → Val} {g : α → Val} {h : Hep} (l : List α) (H : ∀ a ∈ l, ∃ e1, t (f a) env = some e1 ∧ e e1 h = .ok (g a) h ∧ clean (g a) = true) (hl : l.length ≤ smx) : lcL t mYes e env (l.map f) h [] = .ok (l.map g) h := by
  have := lc_gen (t := t) (c := mYes) (e := e) (env := env) (f := f) (p := fun _ => true) (g := g) (h := h) l [] (fun a ha => by
    obtain ⟨e1, a1, a2, a3⟩ := H a ha
    exact ⟨e1, a1, rfl, a2, a3⟩) (by simpa using hl)
  rw [this, List.filter_eq_self.mpr (fun _ _ => rfl)]
  rfl
theorem scaL_strs : ∀ ks : List Str, scaL (ks.map Val.str) = some (ks.map V.str)
  | [] => rfl
  | k :: r => by
    show (match scaV (Val.str k), scaL (r.map Val.str) with | some x, some xs => some (x :: xs) | _, _ => none) = _
    rw [scaL_strs r]; rfl
theorem inV_strs (k : Str) (ks : List Str) : inV (.str k) (ks.map V.str) = decide (k ∈ ks) := by
  unfold inV
  rw [List.any_map, Bool.eq_iff_iff, List.any_eq_true, decide_eq_true_eq]
  constructor
  · rintro ⟨x, hx, he⟩
    have : x = k := by simpa [eqV] using he
    exact this ▸ hx
  · intro hk
    exact ⟨k, hk, by simp [eqV]⟩
theorem nin_strs (env : SEnv) (h : Hep) (k : Str) (ks : List Str) : fNin env h (.str k) (.lst (ks.map .str)) = some (.bl (!decide (k ∈ ks))) := by
  show (vin env h (.str k) (.lst (ks.map .str))).map _ = _
  have : vin env h (.str k) (.lst (ks.map .str)) = some (decide (k ∈ ks)) := by
    show (match scaV (Val.str k), scaL (ks.map Val.str) with | some x, some xs => some (inV x xs) | _, _ => none) = _
    rw [scaL_strs]
    show some (inV (.str k) _) = _
    rw [inV_strs]
  rw [this]; rfl
theorem ix0 (env : SEnv) (h : Hep) (p : Str × Int) : fIx env h (rowV p) (.int 0) = some (.str p.1) := rfl
theorem ix1 (env : SEnv) (h : Hep) (p : Str × Int) : fIx env h (rowV p) (.int 1) = some (.int p.2) := rfl
theorem fnM_rc {n N : Nat} {m : Stm} {args : List Val} {h h' : Hep} {c : Cell} (hl : args.length = n) (e : m (args.map .va ++ List.replicate (N - n) .un) h = .rc c h') : fnM n N m args h = .ok (frzV c) h' := by
  unfold fnM
  rw [if_pos hl, e]
theorem fnM_nx {n N : Nat} {m : Stm} {args : List Val} {h h' : Hep} {env : SEnv} (hl : args.length = n) (e : m (args.map .va ++ List.replicate (N - n) .un) h = .nx env h') : fnM n N m args h = .ok .non h' := by
  unfold fnM
  rw [if_pos hl, e]
theorem fnM_exc {n N : Nat} {m : Stm} {args : List Val} {h h' : Hep} {env : SEnv} {C : Nat} {fs : List (Nat × Val)} (hl : args.length = n) (e : m (args.map .va ++ List.replicate (N - n) .un) h = .exc C fs env h') : fnM n N m args h = .exc C fs h' := by
  unfold fnM
  rw [if_pos hl, e]
theorem fnC_rc {n N : Nat} {m : Stm} {args : List Val} {h h' : Hep} {c : Cell} (hl : args.length = n) (e : m (args.map .va ++ List.replicate (N - n) .un) h = .rc c h') : fnC n N m args h = .ok c h' := by
  unfold fnC
  rw [if_pos hl, e]
theorem set_ok {rs : Rows} {k : Str} {v : Int} {h : Hep} (hl : rs.length < 1000) : f__law_set [.lst (rowsV rs), .str k, .int v] h = .ok (.lst (rowsV (setR rs k v))) h := by
  have hs : rs.length ≤ smx := Nat.le_trans (Nat.le_of_lt hl) (by decide)
  have l1 : lcL (tgN 4) mYes (mTup (mCons (mBin fIx (mVar 4) (mC (.int 0))) (mCons (mIte (mBin fEq (mBin fIx (mVar 4) (mC (.int 0))) (mVar 1)) (mVar 2) (mBin fIx (mVar 4) (mC (.int 1)))) mNil))) [.va (.lst (rowsV rs)), .va (.str k), .va (.int v), .un, .un] (rs.map rowV) h [] = .ok (rs.map fun p => rowV (p.1, if p.1 = k then v else p.2)) h :=
    lc_map (f := rowV) (g := fun p => rowV (p.1, if p.1 = k then v else p.2)) rs (fun p hp => ⟨_, rfl, by
      show _ = Re.ok (Val.tup [.str p.1, .int (if p.1 = k then v else p.2)]) h
      by_cases q : p.1 = k
      · simp [ix0, ix1, eq_strs, q]
      · simp [ix0, ix1, eq_strs, q], rfl⟩) hs
  have l2 : lcL (tgN 4) mYes (mBin fIx (mVar 4) (mC (.int 0))) [.va (.lst (rowsV rs)), .va (.str k), .va (.int v), .ow (.lst (rs.map fun p => rowV (p.1, if p.1 = k then v else p.2))), .un] (rs.map rowV) h [] = .ok ((rs.map (·.1)).map .str) h := by
    rw [List.map_map]
    exact lc_map (f := rowV) (g := fun p => .str p.1) rs (fun p hp => ⟨_, rfl, by simp [ix0], rfl⟩) hs
  have hr : rowsV (setR rs k v) = (rs.map fun p => rowV (p.1, if p.1 = k then v else p.2)) ++ (if k ∈ rs.map (·.1) then [] else [rowV (k, v)]) := by
    unfold rowsV setR
    rw [List.map_append, List.map_map]
    by_cases q : k ∈ rs.map (·.1)
    · rw [if_pos q, if_pos q]; rfl
    · rw [if_neg q, if_neg q]; rfl
  have body : b__law_set [.va (.lst (rowsV rs)), .va (.str k), .va (.int v), .un, .un] h = .rc (.lst (rowsV (setR rs k v))) h := by
    rw [hr]
    unfold b__law_set
    have m1 : mOwn 3 (mLc (mSeqV (mVar 0)) (tgN 4) mYes (mTup (mCons (mBin fIx (mVar 4) (mC (.int 0))) (mCons (mIte (mBin fEq (mBin fIx (mVar 4) (mC (.int 0))) (mVar 1)) (mVar 2) (mBin fIx (mVar 4) (mC (.int 1)))) mNil))) [4]) [.va (.lst (rowsV rs)), .va (.str k), .va (.int v), .un, .un] h = .nx [.va (.lst (rowsV rs)), .va (.str k), .va (.int v), .ow (.lst (rs.map fun p => rowV (p.1, if p.1 = k then v else p.2))), .un] h := by
      show exS _ (lcL (tgN 4) mYes _ [.va (.lst (rowsV rs)), .va (.str k), .va (.int v), .un, .un] (rs.map rowV) h []) _ = _
      rw [l1]
      rfl
    have m2 : mFrz (mLc (mSeqV (mVar 0)) (tgN 4) mYes (mBin fIx (mVar 4) (mC (.int 0))) [4]) [.va (.lst (rowsV rs)), .va (.str k), .va (.int v), .ow (.lst (rs.map fun p => rowV (p.1, if p.1 = k then v else p.2))), .un] h = .ok (.lst ((rs.map (·.1)).map .str)) h := by
      show (lcL (tgN 4) mYes _ [.va (.lst (rowsV rs)), .va (.str k), .va (.int v), .ow (.lst (rs.map fun p => rowV (p.1, if p.1 = k then v else p.2))), .un] (rs.map rowV) h []).bind _ = _
      rw [l2]
      rfl
    rw [mSeq_e, m1]
    simp only [mSeq_e, mIf_e, mBin_e, m2, mVar_e, List.getElem?_cons_succ, List.getElem?_cons_zero, bind_ok, nin_strs, reO_some, exS_ok]
    by_cases q : k ∈ rs.map (·.1)
    · simp [q]
    · have hl' : (rs.map fun p => rowV (p.1, if p.1 = k then v else p.2)).length < smx := by
        rw [List.length_map]
        exact Nat.lt_of_lt_of_le hl (by decide)
      rw [if_neg q, decide_eq_false q]
      have hl2 : rs.length < smx := by simpa using hl'
      simp [mMut, Mi.cellOf, isLc, fAppend, storeC, rowV, hl2]
  exact fnM_rc (n := 3) (N := 5) (m := b__law_set) (args := [.lst (rowsV rs), .str k, .int v]) rfl body
/-! ### the store -/
structure Sto (h : Hep) (s d : Nat) (rs : Rows) : Prop where
  s : h[s]? = some (.ins 2 [(0, .ref d)])
  d : h[d]? = some (.dic (dOf rs))
  l : rs.length < 1000
theorem len_dOf (rs : Rows) : (dOf rs).length = rs.length := by unfold dOf; rw [List.length_map]
theorem fld_ok {env : SEnv} {h : Hep} {s d : Nat} {rs : Rows} (S : Sto h s d rs) : fFld [2] 0 env h (.ref s) = some (.ref d) := by
  simp [fFld, fldOf, insOf, S.s, List.lookup]
theorem who_ok {α : Type} {h : Hep} {s d : Nat} {rs : Rows} (S : Sto h s d rs) (f : α) : who [(2, f)] h (.ref s) = some f := by
  simp [who, insOf, S.s, List.lookup]
theorem sset_ok {h : Hep} {s d : Nat} {rs : Rows} (S : Sto h s d rs) (k : Str) (v : Int) : f_Store___setitem__ [.ref s, .str k, .int v] h = .ok .non (h.set d (.dic (dOf (setR rs k v)))) := by
  have hl : (dOf rs).length < smx := by rw [len_dOf]; exact Nat.lt_of_lt_of_le S.l (by decide)
  have : b_Store___setitem__ [.va (.ref s), .va (.str k), .va (.int v)] h = .nx [.va (.ref s), .va (.str k), .va (.int v)] (h.set d (.dic (dOf (setR rs k v)))) := by
    simp [b_Store___setitem__, mSetI, fld_ok S, Mi.cellOf, S.d, fSetI, keyOf, storeC, hl, dput_dOf]
  exact fnM_nx rfl this
theorem slen_ok {h : Hep} {s d : Nat} {rs : Rows} (S : Sto h s d rs) : f_Store___len__ [.ref s] h = .ok (.int rs.length) h := by
  refine fnM_rt rfl ?_
  simp [b_Store___len__, fld_ok S, fLen, seqOf, lstOf, dicOf, S.d, len_dOf]
theorem dval_dOf (rs : Rows) (k : Str) : dval (dOf rs) (.inr k) = (rs.find? fun p => decide (p.1 = k)).map fun p => .int p.2 := by
  show ((dOf rs).find? fun kv => decide (kv.1 = Sum.inr k)).map (·.2) = _
  unfold dOf
  rw [List.find?_map, Option.map_map]
  have : (fun kv : Key × Val => decide (kv.1 = Sum.inr k)) ∘ (fun p : Str × Int => ((Sum.inr p.1 : Key), Val.int p.2)) = fun p => decide (p.1 = k) := by
    funext p
    simp
  rw [this]
  rfl
theorem vin_ok {env : SEnv} {h : Hep} {s d : Nat} {rs : Rows} (S : Sto h s d rs) (k : Str) : vin env h (.str k) (.ref d) = some (rs.find? fun p => decide (p.1 = k)).isSome := by
  have e := dval_dOf rs k
  unfold vin
  simp [seqOf, lstOf, dicOf, S.d]
  have : vin.valV (dOf rs) (.inr k) = dval (dOf rs) (.inr k) := rfl
  rw [this, e]
  simp
theorem shas_ok {h : Hep} {s d : Nat} {rs : Rows} (S : Sto h s d rs) (k : Str) : f_Store___contains__ [.ref s, .str k] h = .ok (.bl (rs.find? fun p => decide (p.1 = k)).isSome) h := by
  refine fnM_rt rfl ?_
  simp [b_Store___contains__, fld_ok S, fIn, vin_ok S]
theorem sget_none {h : Hep} {s d : Nat} {rs : Rows} (S : Sto h s d rs) (k : Str) (e : (rs.find? fun p => decide (p.1 = k)) = none) : f_Store___getitem__ [.ref s, .str k] h = .exc 1 [(1, .str k)] h := by
  have : b_Store___getitem__ [.va (.ref s), .va (.str k)] h = .exc 1 [(1, .str k)] [.va (.ref s), .va (.str k)] h := by
    simp only [b_Store___getitem__, mSeq_e, mIf_e, mBin_e, mUn_e, mVar_e, List.getElem?_cons_succ, List.getElem?_cons_zero, bind_ok, fld_ok S, reO_some, fNin, vin_ok S, Option.map_some, exS_ok, mRaise_e, e, Option.isSome_none, Bool.not_false, cl3, if_pos]
  exact fnM_exc rfl this
theorem sget_some {h : Hep} {s d : Nat} {rs : Rows} (S : Sto h s d rs) (k : Str) {p : Str × Int} (e : (rs.find? fun p => decide (p.1 = k)) = some p) : f_Store___getitem__ [.ref s, .str k] h = .ok (.int p.2) h := by
  refine fnM_rt rfl ?_
  have hx : ∀ env : SEnv, fIx env h (.ref d) (.str k) = some (.int p.2) := fun env => by
    have := dval_dOf rs k
    rw [e] at this
    simp [fIx, seqOf, lstOf, dicOf, S.d, keyOf, this]
  show b_Store___getitem__ [.va (.ref s), .va (.str k)] h = _
  simp only [b_Store___getitem__, mSeq_e, mIf_e, mBin_e, mUn_e, mVar_e, List.getElem?_cons_succ, List.getElem?_cons_zero, bind_ok, fld_ok S, reO_some, fNin, vin_ok S, Option.map_some, exS_ok, mRaise_e, e, Option.isSome_some, Bool.not_true, cl3, mNext_e, mRet_e, hx]
theorem srows_ok {h : Hep} {s d : Nat} {rs : Rows} (S : Sto h s d rs) : fc_Store_rows [.ref s] h = .ok (.lst (rowsV rs)) h := by
  have : b_Store_rows [.va (.ref s)] h = .rc (.lst (rowsV rs)) h := by
    simp [b_Store_rows, mItems, fld_ok S, dicOf, S.d, items_dOf]
  exact fnC_rc rfl this
theorem smeth_ok {env : SEnv} {h : Hep} {s d i : Nat} {rs : Rows} (S : Sto h s d rs) (e : env[i]? = some (.va (.ref s))) : mMethC [(2, fc_Store_rows)] 2 (mVar i) mNil env h = .ok (.lst (rowsV rs)) h := by
  unfold mMethC
  have : whoM [(2, fc_Store_rows)] 2 h (.ref s) = some fc_Store_rows := by simp [whoM, insOf, S.s, List.lookup]
  rw [mVar_va e]
  simp [this, srows_ok S]
theorem sown_ok {env : SEnv} {h : Hep} {s d i : Nat} {rs : Rows} (S : Sto h s d rs) (e : env[i]? = some (.va (.ref s))) : mOwnList 2 0 (mVar i) env h = .ok (rowsV rs) h := by
  unfold mOwnList
  have : ownD 2 0 env h (.ref s) = some (rowsV rs) := by simp [ownD, insOf, S.s, List.lookup, dicOf, S.d, items_dOf]
  rw [mVar_va e]
  simp [this]
theorem snew_ok (h : Hep) : newC 2 f_Store___init__ [] h = .ok (.ref h.length) (h ++ [.ins 2 [(0, .ref (h.length + 1))], .dic []]) := by
  have e : f_Store___init__ [.ref h.length] (h ++ [.ins 2 []]) = .ok .non (h ++ [.ins 2 [(0, .ref (h.length + 1))], .dic []]) := by
    have : b_Store___init__ [.va (.ref h.length)] (h ++ [.ins 2 []]) = .nx [.va (.ref h.length)] (h ++ [.ins 2 [(0, .ref (h.length + 1))], .dic []]) := by
      simp [b_Store___init__, mSetF, setF, putN]
    exact fnM_nx rfl this
  unfold newC
  rw [e]
/-! ### the same data -/
theorem isi_e {env : SEnv} {h : Hep} {v : Val} {t n : String} (e : tyOf env h v = some (.b t)) : fIsi (isiB n) env h v = some (.bl (t == n || (t == "bool" && n == "int"))) := by
  simp [fIsi, e, isiB]
theorem same_bl (d : Nat) (a b : Bool) (h : Hep) : f__law_same (d + 1) [.bl a, .bl b] h = .ok (.bl (decide (a = b))) h := by
  have t1 : ∀ (env : SEnv) (x : Bool), tyOf env h (.bl x) = some (.b "bool") := fun _ _ => rfl
  refine fnM_rt rfl ?_
  simp [b__law_same, fIsN, isN, isi_e (t1 _ _), eq_bls]
theorem same_int (d : Nat) (a b : Int) (h : Hep) : f__law_same (d + 1) [.int a, .int b] h = .ok (.bl (decide (a = b))) h := by
  have t1 : ∀ (env : SEnv) (x : Int), tyOf env h (.int x) = some (.b "int") := fun _ _ => rfl
  refine fnM_rt rfl ?_
  simp [b__law_same, fIsN, isN, isi_e (t1 _ _), eq_ints]
theorem same_str (d : Nat) (a b : Str) (h : Hep) : f__law_same (d + 1) [.str a, .str b] h = .ok (.bl (decide (a = b))) h := by
  have t1 : ∀ (env : SEnv) (x : Str), tyOf env h (.str x) = some (.b "str") := fun _ _ => rfl
  refine fnM_rt rfl ?_
  simp [b__law_same, fIsN, isN, isi_e (t1 _ _), eq_strs]
inductive SeqV (h : Hep) : Val → String → List Val → Prop
  | tup (l : List Val) : SeqV h (.tup l) "tuple" l
  | lst (l : List Val) : SeqV h (.lst l) "list" l
  | ref (n : Nat) (l : List Val) (e : h[n]? = some (.lst l)) : SeqV h (.ref n) "list" l
theorem SeqV.ty {h : Hep} {v : Val} {t : String} {l : List Val} (s : SeqV h v t l) (env : SEnv) : tyOf env h v = some (.b t) := by
  cases s with
  | tup => rfl
  | lst => rfl
  | ref n l e => simp [tyOf, tupOf, rlstOf, lstOf, e]
theorem SeqV.seq {h : Hep} {v : Val} {t : String} {l : List Val} (s : SeqV h v t l) (env : SEnv) : seqOf env h v = some l := by
  cases s with
  | tup => rfl
  | lst => rfl
  | ref n l e => simp [seqOf, lstOf, e]
theorem SeqV.len {h : Hep} {v : Val} {t : String} {l : List Val} (s : SeqV h v t l) (env : SEnv) : fLen env h v = some (.int l.length) := by
  cases s with
  | tup => rfl
  | lst => rfl
  | ref n l e => simp [fLen, seqOf, lstOf, e]
theorem SeqV.isn {h : Hep} {v : Val} {t : String} {l : List Val} (s : SeqV h v t l) : isN v = false := by cases s <;> rfl
theorem SeqV.cln {h : Hep} {v : Val} {t : String} {l : List Val} (s : SeqV h v t l) : clean v = true := by cases s <;> rfl
theorem SeqV.tt {h : Hep} {v : Val} {t : String} {l : List Val} (s : SeqV h v t l) : t = "tuple" ∨ t = "list" := by cases s <;> simp
theorem SeqV.ix {h : Hep} {v : Val} {t : String} {l : List Val} (s : SeqV h v t l) (env : SEnv) {i : Nat} {x : Val} (hx : l[i]? = some x) : fIx env h v (.int i) = some x := by
  unfold fIx
  rw [s.seq env]
  exact atI_nat hx
theorem same_for {d : Nat} {h : Hep} {x y : Val} {t : String} {l : List Val} {s2 : Slot} (sx : SeqV h x t l) (sy : SeqV h y t l) (hc : ∀ v ∈ l, clean v = true ∧ f__law_same d [v, v] h = .ok (.bl true) h) : ∀ (is : List Nat) (s3 : Slot), (∀ i ∈ is, i < l.length) →
    ∃ s3', forL (tgN 3) (mIf (mNot (mCall (ar 2 (f__law_same d)) (mCons (mBin fIx (mVar 0) (mVar 3)) (mCons (mBin fIx (mVar 1) (mVar 3)) (mNil))))) (mRet (mC (.bl false))) (mNext)) (is.map fun (i : Nat) => Val.int (i : Int)) [.va x, .va y, s2, s3] h = .nx [.va x, .va y, s2, s3'] h
  | [], s3, _ => ⟨s3, rfl⟩
  | i :: r, s3, hi => by
    have hl := hi i (.head _)
    have hv : l[i]? = some l[i] := List.getElem?_eq_getElem hl
    obtain ⟨c1, c2⟩ := hc l[i] (List.getElem_mem hl)
    obtain ⟨s3', e⟩ := same_for sx sy hc r (.va (.int i)) (fun j hj => hi j (.tail _ hj))
    refine ⟨s3', ?_⟩
    rw [← e]
    have hb : (mIf (mNot (mCall (ar 2 (f__law_same d)) (mCons (mBin fIx (mVar 0) (mVar 3)) (mCons (mBin fIx (mVar 1) (mVar 3)) (mNil))))) (mRet (mC (.bl false))) (mNext)) [.va x, .va y, s2, .va (.int i)] h = .nx [.va x, .va y, s2, .va (.int i)] h := by
      simp [sx.ix _ hv, sy.ix _ hv, c1, c2]
    show (match (mIf (mNot (mCall (ar 2 (f__law_same d)) (mCons (mBin fIx (mVar 0) (mVar 3)) (mCons (mBin fIx (mVar 1) (mVar 3)) (mNil))))) (mRet (mC (.bl false))) (mNext)) [.va x, .va y, s2, .va (.int i)] h with
      | .nx e h' => forL (tgN 3) _ (r.map fun (i : Nat) => Val.int (i : Int)) e h'
      | .ct e h' => forL (tgN 3) _ (r.map fun (i : Nat) => Val.int (i : Int)) e h'
      | .bk e h' => .nx e h'
      | o => o) = _
    rw [hb]
theorem range_nats (k : Nat) : rangeV 0 (k : Int) = (List.range k).map fun (i : Nat) => Val.int (i : Int) := by
  unfold rangeV
  simp
theorem rng_nat {k : Nat} (hk : k < 1000) : rng1Of (.int (k : Int)) = some ((List.range k).map fun (i : Nat) => Val.int (i : Int)) := by
  have e : ∀ n : Int, rng1Of (.int n) = if -(2 ^ 62) ≤ n ∧ n < 2 ^ 62 then some (rangeV 0 n) else none := fun n => rfl
  rw [e, if_pos (by omega), range_nats]
structure Tys (env : SEnv) (h : Hep) (v : Val) (b : Bool) : Prop where
  n : isN v = false
  c : clean v = true
  bo : fIsi (isiB "bool") env h v = some (.bl false)
  it : fIsi (isiB "int") env h v = some (.bl false)
  st : fIsi (isiB "str") env h v = some (.bl false)
  di : fIsi (isiB "dict") env h v = some (.bl false)
  tu : fIsi (isiB "tuple") env h v = some (.bl b)
  li : fIsi (isiB "list") env h v = some (.bl !b)
theorem SeqV.tys {h : Hep} {v : Val} {t : String} {l : List Val} (s : SeqV h v t l) (env : SEnv) : Tys env h v (t == "tuple") := by
  have ty := s.ty env
  rcases s.tt with rfl | rfl
  · exact ⟨s.isn, s.cln, by rw [isi_e ty]; rfl, by rw [isi_e ty]; rfl, by rw [isi_e ty]; rfl, by rw [isi_e ty]; rfl, by rw [isi_e ty]; rfl, by rw [isi_e ty]; rfl⟩
  · exact ⟨s.isn, s.cln, by rw [isi_e ty]; rfl, by rw [isi_e ty]; rfl, by rw [isi_e ty]; rfl, by rw [isi_e ty]; rfl, by rw [isi_e ty]; rfl, by rw [isi_e ty]; rfl⟩
theorem same_pre {d : Nat} {h : Hep} {x y : Val} {b : Bool} {s2 s3 s3' : Slot} {n : Int} {r : Fn} (tx : ∀ env, Tys env h x b) (ty : ∀ env, Tys env h y b) (lx : ∀ env, fLen env h x = some (.int n)) (ly : ∀ env, fLen env h y = some (.int n)) {l : List Val} (hr : rng1Of (.int n) = some l) (hf : forL (tgN 3) (mIf (mNot (mCall (ar 2 r) (mCons (mBin fIx (mVar 0) (mVar 3)) (mCons (mBin fIx (mVar 1) (mVar 3)) (mNil))))) (mRet (mC (.bl false))) (mNext)) l [.va x, .va y, s2, s3] h = .nx [.va x, .va y, s2, s3'] h) : b__law_same r [.va x, .va y, s2, s3] h = .rt (.bl true) h := by
  have z := fun env => (tx env).n
  unfold b__law_same
  generalize (mIf (mNot (mCall (ar 2 r) (mCons (mBin fIx (mVar 0) (mVar 3)) (mCons (mBin fIx (mVar 1) (mVar 3)) (mNil))))) (mRet (mC (.bl false))) (mNext)) = bd at *
  have e1 : mFor (mRng1 (mUn fLen (mVar 0))) (tgN 3) bd [.va x, .va y, s2, s3] h = .nx [.va x, .va y, s2, s3'] h := by
    unfold mFor mRng1
    simp only [mUn_e, mVar_e, List.getElem?_cons_zero, bind_ok, lx, reO_some, hr, exS_ok, hf]
  cases b <;> simp only [mSeq_e, mIf_e, mOr_e, mAnd_e, mNot_e, mUn_e, mBin_e, mVar_e, List.getElem?_cons_zero, List.getElem?_cons_succ, bind_ok, fIsN, (tx []).n, (ty []).n, reO_some, exS_ok, mNext_e, (tx _).bo, (ty _).bo, (tx _).it, (ty _).it, (tx _).st, (ty _).st, (tx _).di, (ty _).di, (tx _).tu, (ty _).tu, (tx _).li, (ty _).li, ne_bls, lx, ly, ne_ints, decide_true, Bool.not_true, Bool.not_false, decide_false, e1, mRet_e, mC_e]
theorem same_seq {d : Nat} {h : Hep} {x y : Val} {t : String} {l : List Val} (sx : SeqV h x t l) (sy : SeqV h y t l) (hl : l.length < 1000) (hc : ∀ v ∈ l, clean v = true ∧ f__law_same d [v, v] h = .ok (.bl true) h) : f__law_same (d + 1) [x, y] h = .ok (.bl true) h := by
  obtain ⟨s3', e⟩ := same_for (s2 := .un) sx sy hc (List.range l.length) .un (fun i hi => List.mem_range.mp hi)
  exact fnM_rt rfl (same_pre (d := d) (fun env => sx.tys env) (fun env => sy.tys env) (fun env => sx.len env) (fun env => sy.len env) (rng_nat hl) e)
theorem same_row (d : Nat) (p : Str × Int) (h : Hep) : f__law_same (d + 2) [rowV p, rowV p] h = .ok (.bl true) h := by
  refine same_seq (.tup _) (.tup _) (by simp) fun v hv => ?_
  rcases List.mem_cons.mp hv with rfl | hv
  · exact ⟨rfl, by rw [same_str]; simp⟩
  · rcases List.mem_cons.mp hv with rfl | hv
    · exact ⟨rfl, by rw [same_int]; simp⟩
    · cases hv
theorem same_rows {h : Hep} {x y : Val} {rs : Rows} (sx : SeqV h x "list" (rowsV rs)) (sy : SeqV h y "list" (rowsV rs)) (hl : rs.length < 1000) : f__law_same 4 [x, y] h = .ok (.bl true) h := by
  refine same_seq (d := 3) sx sy (by unfold rowsV; rw [List.length_map]; omega) fun v hv => ?_
  obtain ⟨p, _, rfl⟩ := List.mem_map.mp hv
  exact ⟨rfl, same_row 1 p h⟩
/-! ### what is found -/
def fndV (rs : Rows) (k : Str) : List Val := (rs.filter fun p => decide (p.1 = k)).map fun p => .int p.2
theorem found_cases {k : Str} : ∀ {rs : Rows}, (rs.map (·.1)).Nodup → ((rs.find? fun p => decide (p.1 = k)) = none ∧ fndV rs k = []) ∨ ∃ p, (rs.find? fun p => decide (p.1 = k)) = some p ∧ fndV rs k = [.int p.2]
  | [], _ => .inl ⟨rfl, rfl⟩
  | p :: r, nd => by
    rw [List.map_cons, List.nodup_cons] at nd
    by_cases e : p.1 = k
    · refine .inr ⟨p, by simp [List.find?_cons, e], ?_⟩
      have : (r.filter fun p => decide (p.1 = k)) = [] := by
        rw [List.filter_eq_nil_iff]
        intro q hq z
        have z' : q.1 = k := by simpa using z
        exact nd.1 (List.mem_map.mpr ⟨q, hq, z'.trans e.symm⟩)
      unfold fndV
      rw [List.filter_cons_of_pos (by simpa using e), this]
      rfl
    · have ih := found_cases (k := k) nd.2
      have e1 : ((p :: r).find? fun p => decide (p.1 = k)) = r.find? fun p => decide (p.1 = k) := by simp [List.find?_cons, e]
      have e2 : fndV (p :: r) k = fndV r k := by
        unfold fndV
        rw [List.filter_cons_of_neg (by simpa using e)]
      rw [e1, e2]
      exact ih
theorem found_ok {h : Hep} {s d : Nat} {rs : Rows} (S : Sto h s d rs) (nd : (rs.map (·.1)).Nodup) (k : Str) : f__law_found [.ref s, .str k] h = .ok (.lst (fndV rs k)) h := by
  rcases found_cases (k := k) nd with ⟨e, f⟩ | ⟨p, e, f⟩
  · rw [f]
    refine fnM_rc (c := .lst []) rfl ?_
    show b__law_found [.va (.ref s), .va (.str k), .un] h = _
    have hb : (mRetC (mLC (mLst (mCons (mOwnIx [(2, f_Store___getitem__)] (mVar 0) (mVar 1)) (mNil))))) [.va (.ref s), .va (.str k), .un] h = .exc 1 [(1, .str k)] [.va (.ref s), .va (.str k), .un] h := by
      simp [mOwnIx, who_ok S, sget_none S k e]
    have hs : (mIf (mAnd (mExI 2 xi_SlotError) (mCall (ar 2 (f__law_same 4)) (mCons (mExF 2 1 [1]) (mCons (mVar 1) (mNil))))) (mRetC (mLC (mLst (mNil)))) (mNext)) [.va (.ref s), .va (.str k), .ex 1 [(1, .str k)]] h = .rc (.lst []) h := by
      simp [mExI, xi_SlotError, mExF, List.lookup, same_str]
    unfold b__law_found
    rw [mSeq_e]
    unfold mTry
    rw [hb]
    generalize (mIf (mAnd (mExI 2 xi_SlotError) (mCall (ar 2 (f__law_same 4)) (mCons (mExF 2 1 [1]) (mCons (mVar 1) (mNil))))) (mRetC (mLC (mLst (mNil)))) (mNext)) = su at hs
    simp [cs_NoKey, noEx, hs, endS]
  · rw [f]
    refine fnM_rc (c := .lst [.int p.2]) rfl ?_
    show b__law_found [.va (.ref s), .va (.str k), .un] h = _
    have hb : (mRetC (mLC (mLst (mCons (mOwnIx [(2, f_Store___getitem__)] (mVar 0) (mVar 1)) (mNil))))) [.va (.ref s), .va (.str k), .un] h = .rc (.lst [.int p.2]) h := by
      have h1 : 1 ≤ smx := by decide
      simp [mOwnIx, who_ok S, sget_some S k e, h1]
    unfold b__law_found
    rw [mSeq_e]
    unfold mTry
    rw [hb]
theorem Sto.app {h : Hep} {s d : Nat} {rs : Rows} (S : Sto h s d rs) (g : List Cell) : Sto (h ++ g) s d rs :=
  ⟨pre_get ⟨g, rfl⟩ S.s, pre_get ⟨g, rfl⟩ S.d, S.l⟩
def tbody : Stm := mSeq (mSet 5 (mFrz (mLc (mSeqV (mVar 1)) (tgN 6) (mBin fEq (mBin fIx (mVar 6) (mC (.int 0))) (mVar 4)) (mBin fIx (mVar 6) (mC (.int 1))) [6]))) (mIf (mOr (mNot (mCall (ar 2 (f__law_same 4)) (mCons (mOwnIn false [(2, f_Store___contains__)] (mVar 4) (mVar 0)) (mCons (mBin fEq (mUn fLen (mVar 5)) (mC (.int 1))) (mNil))))) (mNot (mCall (ar 2 (f__law_same 4)) (mCons (mCall (ar 2 f__law_found) (mCons (mVar 0) (mCons (mVar 4) (mNil)))) (mCons (mVar 5) (mNil)))))) (mRet (mC (.bl false))) (mNext))
theorem tbody_ok {h : Hep} {s d : Nat} {rs : Rows} {ks : Val} {n : Nat} {s5 s6 : Slot} (S : Sto h s d rs) (nd : (rs.map (·.1)).Nodup) (k : Str) (h6 : ∀ c, s6 ≠ .ow c) : tbody [.va (.ref s), .va (.lst (rowsV rs)), .va ks, .va (.ref n), .va (.str k), s5, s6] h = .nx [.va (.ref s), .va (.lst (rowsV rs)), .va ks, .va (.ref n), .va (.str k), .va (.lst (fndV rs k)), s6] h := by
  have hs : rs.length ≤ smx := Nat.le_trans (Nat.le_of_lt S.l) (by decide)
  have l1 : lcL (tgN 6) (mBin fEq (mBin fIx (mVar 6) (mC (.int 0))) (mVar 4)) (mBin fIx (mVar 6) (mC (.int 1))) [.va (.ref s), .va (.lst (rowsV rs)), .va ks, .va (.ref n), .va (.str k), s5, .un] (rs.map rowV) h [] = .ok (fndV rs k) h := by
    have := lc_gen (t := tgN 6) (c := mBin fEq (mBin fIx (mVar 6) (mC (.int 0))) (mVar 4)) (e := mBin fIx (mVar 6) (mC (.int 1))) (env := [.va (.ref s), .va (.lst (rowsV rs)), .va ks, .va (.ref n), .va (.str k), s5, .un]) (f := rowV) (p := fun p => decide (p.1 = k)) (g := fun p => .int p.2) (h := h) rs [] (fun p hp => ⟨_, rfl, by simp [ix0, eq_strs], by simp [ix1], rfl⟩) (by simpa using hs)
    exact this
  have hn : noOw [.va (.ref s), .va (.lst (rowsV rs)), .va ks, .va (.ref n), .va (.str k), s5, s6] [6] = true := by
    cases s6 with
    | ow c => exact absurd rfl (h6 c)
    | _ => rfl
  have m1 : mSet 5 (mFrz (mLc (mSeqV (mVar 1)) (tgN 6) (mBin fEq (mBin fIx (mVar 6) (mC (.int 0))) (mVar 4)) (mBin fIx (mVar 6) (mC (.int 1))) [6])) [.va (.ref s), .va (.lst (rowsV rs)), .va ks, .va (.ref n), .va (.str k), s5, s6] h = .nx [.va (.ref s), .va (.lst (rowsV rs)), .va ks, .va (.ref n), .va (.str k), .va (.lst (fndV rs k)), s6] h := by
    have : mLc (mSeqV (mVar 1)) (tgN 6) (mBin fEq (mBin fIx (mVar 6) (mC (.int 0))) (mVar 4)) (mBin fIx (mVar 6) (mC (.int 1))) [6] [.va (.ref s), .va (.lst (rowsV rs)), .va ks, .va (.ref n), .va (.str k), s5, s6] h = .ok (fndV rs k) h := by
      show (if noOw [.va (.ref s), .va (.lst (rowsV rs)), .va ks, .va (.ref n), .va (.str k), s5, s6] [6] = true then lcL (tgN 6) _ _ [.va (.ref s), .va (.lst (rowsV rs)), .va ks, .va (.ref n), .va (.str k), s5, .un] (rs.map rowV) h [] else .bad) = _
      rw [if_pos hn, l1]
    simp [this]
  have fd := found_ok S nd k
  have ln : ∀ env : SEnv, fLen env h (.lst (fndV rs k)) = some (.int (fndV rs k).length) := fun _ => rfl
  have b1 : decide ((fndV rs k).length = (1 : Int)) = (rs.find? fun p => decide (p.1 = k)).isSome ∧ f__law_same 4 [.lst (fndV rs k), .lst (fndV rs k)] h = .ok (.bl true) h := by
    rcases found_cases (k := k) nd with ⟨e, f⟩ | ⟨p, e, f⟩
    · rw [e, f]
      exact ⟨rfl, same_seq (d := 3) (.lst _) (.lst _) (by simp) (fun v hv => nomatch hv)⟩
    · rw [e, f]
      refine ⟨rfl, same_seq (d := 3) (.lst _) (.lst _) (by simp) fun v hv => ?_⟩
      rcases List.mem_cons.mp hv with rfl | hv
      · exact ⟨rfl, by rw [same_int]; simp⟩
      · cases hv
  have oi : ∀ s5' : Slot, mOwnIn false [(2, f_Store___contains__)] (mVar 4) (mVar 0) [.va (.ref s), .va (.lst (rowsV rs)), .va ks, .va (.ref n), .va (.str k), s5', s6] h = .ok (.bl (rs.find? fun p => decide (p.1 = k)).isSome) h := fun s5' => by
    simp [mOwnIn, who_ok S, shas_ok S, reB]
  unfold tbody
  generalize hz : (rs.find? fun p => decide (p.1 = k)).isSome = z at *
  rw [mSeq_e, m1]
  simp only [mIf_e, mOr_e, mNot_e, mCall_e, mCons_e, oi, bind_ok, cl1, if_pos, mBin_e, mUn_e, mVar_e, List.getElem?_cons_zero, List.getElem?_cons_succ, ln, reO_some, mC_e, eq_ints, b1.1, mNil_e, ar_e, List.length_cons, List.length_nil, same_bl, decide_true, Bool.not_true, cl10, cl3, fd, cl6, b1.2, exS_ok, mNext_e]
theorem tfor_ok {h : Hep} {s d : Nat} {rs : Rows} {kv : Val} {n : Nat} {s6 : Slot} (S : Sto h s d rs) (nd : (rs.map (·.1)).Nodup) (h6 : ∀ c, s6 ≠ .ow c) : ∀ (ks : List Str) (s4 s5 : Slot),
    ∃ s4' s5', forL (tgN 4) tbody (ks.map .str) [.va (.ref s), .va (.lst (rowsV rs)), .va kv, .va (.ref n), s4, s5, s6] h = .nx [.va (.ref s), .va (.lst (rowsV rs)), .va kv, .va (.ref n), s4', s5', s6] h
  | [], s4, s5 => ⟨s4, s5, rfl⟩
  | k :: r, s4, s5 => by
    obtain ⟨s4', s5', e⟩ := tfor_ok S nd h6 r (.va (.str k)) (.va (.lst (fndV rs k)))
    refine ⟨s4', s5', ?_⟩
    rw [← e]
    show (match tbody [.va (.ref s), .va (.lst (rowsV rs)), .va kv, .va (.ref n), .va (.str k), s5, s6] h with
      | .nx e h' => forL (tgN 4) tbody (r.map .str) e h'
      | .ct e h' => forL (tgN 4) tbody (r.map .str) e h'
      | .bk e h' => .nx e h'
      | o => o) = _
    rw [tbody_ok S nd k h6]
theorem app_set {h : Hep} {c c' : Cell} : (h ++ [c]).set h.length c' = h ++ [c'] := by
  rw [List.set_append_right _ _ (Nat.le_refl _)]
  simp
theorem app_get {h : Hep} {c : Cell} : (h ++ [c])[h.length]? = some c := by simp
abbrev tEnv (s : Nat) (rs : Rows) (ks : List Str) (s3 s4 s5 s6 : Slot) : SEnv := [.va (.ref s), .va (.lst (rowsV rs)), .va (.lst (ks.map .str)), s3, s4, s5, s6]
theorem len_rowsV (rs : Rows) : (rowsV rs).length = rs.length := by unfold rowsV; rw [List.length_map]
theorem t1 {h : Hep} {s d : Nat} {rs : Rows} {ks : List Str} {s3 s4 s5 s6 : Slot} (S : Sto h s d rs) : mSet 3 (mCelC (mMethC [(2, fc_Store_rows)] 2 (mVar 0) mNil)) (tEnv s rs ks s3 s4 s5 s6) h = .nx (tEnv s rs ks (.va (.ref h.length)) s4 s5 s6) (h ++ [.lst (rowsV rs)]) := by
  simp only [mSet_e, mCelC_e, smeth_ok (i := 0) (env := tEnv s rs ks s3 s4 s5 s6) S rfl, bind_ok, exS_ok, cl10, if_pos, List.set_cons_succ, List.set_cons_zero]
theorem t2 {h : Hep} {s d : Nat} {rs : Rows} {ks : List Str} {s4 s5 s6 : Slot} (S : Sto h s d rs) : mIf (mNot (mCall (ar 2 (f__law_same 4)) (mCons (mVar 3) (mCons (mVar 1) (mNil))))) (mRet (mC (.bl false))) (mNext) (tEnv s rs ks (.va (.ref h.length)) s4 s5 s6) (h ++ [.lst (rowsV rs)]) = .nx (tEnv s rs ks (.va (.ref h.length)) s4 s5 s6) (h ++ [.lst (rowsV rs)]) := by
  have := same_rows (h := h ++ [.lst (rowsV rs)]) (SeqV.ref h.length (rowsV rs) app_get) (.lst _) S.l
  simp only [mIf_e, mNot_e, mCall_e, mCons_e, mVar_e, List.getElem?_cons_zero, List.getElem?_cons_succ, bind_ok, cl10, cl6, if_pos, mNil_e, ar_e, List.length_cons, List.length_nil, this, Bool.not_true, exS_ok, mNext_e]
theorem t3 {h : Hep} {s d : Nat} {rs : Rows} {ks : List Str} {s4 s5 s6 : Slot} {v : Val} {m : ExL} (S : Sto h s d rs) (e : ∀ env h, m env h = .ok [v] h) : mMut isLc fAppend (mVar 3) m (tEnv s rs ks (.va (.ref h.length)) s4 s5 s6) (h ++ [.lst (rowsV rs)]) = .nx (tEnv s rs ks (.va (.ref h.length)) s4 s5 s6) (h ++ [.lst (rowsV rs ++ [v])]) := by
  have hl : (rowsV rs).length < smx := by rw [len_rowsV]; exact Nat.lt_of_lt_of_le S.l (by decide)
  have e1 : Mi.cellOf (tEnv s rs ks (.va (.ref h.length)) s4 s5 s6) (h ++ [.lst (rowsV rs)]) (.ref h.length) = some (.lst (rowsV rs)) := app_get
  have e2 : fAppend (.lst (rowsV rs)) [v] = some (.lst (rowsV rs ++ [v])) := by
    show (if (rowsV rs).length < smx then _ else _) = _
    rw [if_pos hl]
  unfold mMut
  simp only [mVar_e, List.getElem?_cons_zero, List.getElem?_cons_succ, exS_ok, e1, isLc, if_pos, e, e2, storeC, app_set]
theorem t4 {h : Hep} {s : Nat} {rs : Rows} {ks : List Str} {s4 s5 s6 : Slot} {v : Val} {l : List Val} {m : Ex1} (e : ∀ env h, m env h = .ok v h) (hv : clean v = true) (hl : 0 < l.length) : mSetI m (mVar 3) (mC (.int 0)) (tEnv s rs ks (.va (.ref h.length)) s4 s5 s6) (h ++ [.lst l]) = .nx (tEnv s rs ks (.va (.ref h.length)) s4 s5 s6) (h ++ [.lst (l.set 0 v)]) := by
  have e1 : Mi.cellOf (tEnv s rs ks (.va (.ref h.length)) s4 s5 s6) (h ++ [.lst l]) (.ref h.length) = some (.lst l) := app_get
  have e2 : ixN l.length 0 = some 0 := by
    unfold ixN
    rw [if_pos (by omega), if_pos (by omega)]
    rfl
  have e3 : fSetI (.lst l) (.int 0) v = some (.lst (l.set 0 v)) := by
    show (ixN l.length 0).map _ = _
    rw [e2]; rfl
  unfold mSetI
  simp only [e, exS_ok, hv, if_pos, mVar_e, List.getElem?_cons_zero, List.getElem?_cons_succ, mC_e, e1, e3, storeC, app_set]
theorem t5 {h : Hep} {s d : Nat} {rs : Rows} {ks : List Str} {s3 s4 s5 s6 : Slot} (S : Sto h s d rs) : mIf (mOr (mNot (mCall (ar 2 (f__law_same 4)) (mCons (mFrzC (mMethC [(2, fc_Store_rows)] 2 (mVar 0) mNil)) (mCons (mVar 1) (mNil))))) (mOr (mNot (mCall (ar 2 (f__law_same 4)) (mCons (mFrz (mOwnList 2 0 (mVar 0))) (mCons (mVar 1) (mNil))))) (mBin fNe (mOwnLen [(2, f_Store___len__)] (mVar 0)) (mUn fLen (mVar 1))))) (mRet (mC (.bl false))) (mNext) (tEnv s rs ks s3 s4 s5 s6) h = .nx (tEnv s rs ks s3 s4 s5 s6) h := by
  have a1 := smeth_ok (i := 0) (env := tEnv s rs ks s3 s4 s5 s6) S rfl
  have a2 := sown_ok (i := 0) (env := tEnv s rs ks s3 s4 s5 s6) S rfl
  have a3 := same_rows (h := h) (rs := rs) (.lst _) (.lst _) S.l
  have a4 : mOwnLen [(2, f_Store___len__)] (mVar 0) (tEnv s rs ks s3 s4 s5 s6) h = .ok (.int rs.length) h := by
    have hi : (0 : Int) ≤ (rs.length : Int) ∧ (rs.length : Int) < 2 ^ 62 := ⟨by omega, by have := S.l; omega⟩
    have : reLen (.ok (.int rs.length) h) = .ok (.int rs.length) h := by
      unfold reLen
      rw [bind_ok]
      simp only [if_pos hi]
    unfold mOwnLen
    simp only [mVar_e, List.getElem?_cons_zero, bind_ok, cl10, if_pos, who_ok S, slen_ok S, this]
  have a5 : ∀ (env : SEnv) (h : Hep), fLen env h (.lst (rowsV rs)) = some (.int rs.length) := fun env h => by
    rw [show fLen env h (.lst (rowsV rs)) = some (.int (rowsV rs).length) from rfl, len_rowsV]
  simp only [mIf_e, mOr_e, mNot_e, mCall_e, mCons_e, mFrzC_e, mFrz_e, a1, a2, mVar_e, List.getElem?_cons_zero, List.getElem?_cons_succ, bind_ok, frzV, cl6, if_pos, mNil_e, ar_e, List.length_cons, List.length_nil, a3, Bool.not_true, mBin_e, a4, mUn_e, a5, reO_some, ne_ints, decide_true, exS_ok, mNext_e]
theorem t6 {h : Hep} {s d : Nat} {rs : Rows} {ks : List Str} {n : Nat} (S : Sto h s d rs) (nd : (rs.map (·.1)).Nodup) : ∃ s4 s5, mFor (mSeqV (mVar 2)) (tgN 4) tbody (tEnv s rs ks (.va (.ref n)) .un .un .un) h = .nx (tEnv s rs ks (.va (.ref n)) s4 s5 .un) h := by
  obtain ⟨s4, s5, e⟩ := tfor_ok (kv := .lst (ks.map .str)) (n := n) (s6 := .un) S nd (fun c hc => by cases hc) ks .un .un
  refine ⟨s4, s5, ?_⟩
  rw [← e]; rfl
theorem tells_ok {h : Hep} {s d : Nat} {rs : Rows} (ks : List Str) (S : Sto h s d rs) (nd : (rs.map (·.1)).Nodup) : ∃ g, f__law_tells [.ref s, .lst (rowsV rs), .lst (ks.map .str)] h = .ok (.bl true) (h ++ [g]) := by
  have m1 := t1 (ks := ks) (s3 := .un) (s4 := .un) (s5 := .un) (s6 := .un) S
  have m2 := t2 (ks := ks) (s4 := .un) (s5 := .un) (s6 := .un) S
  have m3 := t3 (v := .tup [.str "q", .int 1]) (m := mCons (mTup (mCons (mC (.str "q")) (mCons (mC (.int 1)) (mNil)))) mNil) (ks := ks) (s4 := .un) (s5 := .un) (s6 := .un) S (fun env h => by simp only [mCons_e, mTup_e, mC_e, mNil_e, bind_ok, cl3, cl2, cl5, if_pos, List.length_cons, List.length_nil, Nat.zero_add, Nat.reduceAdd, smx2])
  have m4 := t4 (h := h) (s := s) (rs := rs) (l := rowsV rs ++ [.tup [.str "q", .int 1]]) (v := .tup [.str "zz", .int 2]) (m := mTup (mCons (mC (.str "zz")) (mCons (mC (.int 2)) (mNil)))) (ks := ks) (s4 := .un) (s5 := .un) (s6 := .un) (fun env h => by simp only [mCons_e, mTup_e, mC_e, mNil_e, bind_ok, cl3, cl2, cl5, if_pos, List.length_cons, List.length_nil, Nat.zero_add, Nat.reduceAdd, smx2]) rfl (by simp)
  generalize (rowsV rs ++ [Val.tup [.str "q", .int 1]]).set 0 (.tup [.str "zz", .int 2]) = l4 at m4
  have m5 := t5 (ks := ks) (s3 := .va (.ref h.length)) (s4 := .un) (s5 := .un) (s6 := .un) (S.app [.lst l4])
  obtain ⟨s4, s5, m6⟩ := t6 (ks := ks) (n := h.length) (S.app [.lst l4]) nd
  refine ⟨.lst l4, fnM_rt (v := .bl true) rfl ?_⟩
  show b__law_tells (tEnv s rs ks .un .un .un .un) h = _
  unfold b__law_tells
  rw [mSeq_e, m1]
  show mSeq _ _ _ _ = _
  rw [mSeq_e, m2]
  show mSeq _ _ _ _ = _
  rw [mSeq_e, m3]
  show mSeq _ _ _ _ = _
  rw [mSeq_e, m4]
  show mSeq _ _ _ _ = _
  rw [mSeq_e, m5]
  show mSeq (mFor (mSeqV (mVar 2)) (tgN 4) tbody) _ _ _ = _
  rw [mSeq_e, m6]
  rfl
/-! ### the law -/
abbrev hpOf (c : Cell) (ra rb : Rows) (g : Hep) : Hep := c :: .ins 2 [(0, .ref 2)] :: .dic (dOf ra) :: .ins 2 [(0, .ref 4)] :: .dic (dOf rb) :: g
abbrev lEnv (x0 : Val) (ks : List Str) (ra rb : Rows) (s3 s8 s9 s10 : Slot) : SEnv := [.va x0, .va (.ref 0), .va (.lst (ks.map .str)), s3, .va (.ref 1), .va (.ref 3), .va (.lst (rowsV ra)), .va (.lst (rowsV rb)), s8, s9, s10]
def chk : Stm := mIf (mOr (mNot (mCall (ar 3 f__law_tells) (mCons (mVar 4) (mCons (mVar 6) (mCons (mVar 2) (mNil)))))) (mNot (mCall (ar 3 f__law_tells) (mCons (mVar 5) (mCons (mVar 7) (mCons (mVar 2) (mNil))))))) (mRet (mC (.bl false))) (mNext)
theorem stoA {c : Cell} {ra rb : Rows} {g : Hep} (l : ra.length < 1000) : Sto (hpOf c ra rb g) 1 2 ra := ⟨rfl, rfl, l⟩
theorem stoB {c : Cell} {ra rb : Rows} {g : Hep} (l : rb.length < 1000) : Sto (hpOf c ra rb g) 3 4 rb := ⟨rfl, rfl, l⟩
theorem chk_ok {x0 : Val} {ks : List Str} {ra rb : Rows} {s3 s8 s9 s10 : Slot} {c : Cell} {g : Hep} (la : ra.length < 1000) (lb : rb.length < 1000) (na : (ra.map (·.1)).Nodup) (nb : (rb.map (·.1)).Nodup) : ∃ g', chk (lEnv x0 ks ra rb s3 s8 s9 s10) (hpOf c ra rb g) = .nx (lEnv x0 ks ra rb s3 s8 s9 s10) (hpOf c ra rb g') := by
  obtain ⟨g1, e1⟩ := tells_ok ks (stoA (c := c) (rb := rb) (g := g) la) na
  obtain ⟨g2, e2⟩ := tells_ok ks (stoB (c := c) (ra := ra) (g := g ++ [g1]) lb) nb
  refine ⟨g ++ [g1] ++ [g2], ?_⟩
  have e1' : f__law_tells [.ref 1, .lst (rowsV ra), .lst (ks.map .str)] (hpOf c ra rb g) = .ok (.bl true) (hpOf c ra rb (g ++ [g1])) := e1
  have e2' : f__law_tells [.ref 3, .lst (rowsV rb), .lst (ks.map .str)] (hpOf c ra rb (g ++ [g1])) = .ok (.bl true) (hpOf c ra rb (g ++ [g1] ++ [g2])) := e2
  unfold chk
  simp only [mIf_e, mOr_e, mNot_e, mCall_e, mCons_e, mVar_e, List.getElem?_cons_zero, List.getElem?_cons_succ, bind_ok, cl10, cl6, if_pos, mNil_e, ar_e, List.length_cons, List.length_nil, e1', e2', Bool.not_true, exS_ok, mNext_e]
def p9 : Stm := mSet 9 (mBin fIx (mVar 2) (mCall (ar 2 f__law_draw) (mCons (mVar 1) (mCons (mC (.int 6)) (mNil)))))
def p10 : Stm := mIf (mBin fGt (mCall (ar 2 f__law_draw) (mCons (mVar 1) (mCons (mC (.int 3)) (mNil)))) (mC (.int 0))) (mSet 10 (mCall (ar 1 f__law_value) (mCons (mVar 1) (mNil)))) (mNext)
def pst : Stm := mIf (mBin fEq (mCall (ar 2 f__law_draw) (mCons (mVar 1) (mCons (mC (.int 2)) (mNil)))) (mC (.int 0))) (mSeq (mOwnSet [(2, f_Store___setitem__)] (mVar 10) (mVar 4) (mVar 9)) (mSet 6 (mCall (ar 3 f__law_set) (mCons (mVar 6) (mCons (mVar 9) (mCons (mVar 10) (mNil))))))) (mSeq (mOwnSet [(2, f_Store___setitem__)] (mVar 10) (mVar 5) (mVar 9)) (mSet 7 (mCall (ar 3 f__law_set) (mCons (mVar 7) (mCons (mVar 9) (mCons (mVar 10) (mNil)))))))
theorem p9_ok {x0 : Val} {ks : List Str} {ra rb : Rows} {s3 s8 s9 s10 : Slot} {c : Cell} {g : Hep} (hk : ks.length = 6) (hs : St c) : ∃ k c', p9 (lEnv x0 ks ra rb s3 s8 s9 s10) (hpOf c ra rb g) = .nx (lEnv x0 ks ra rb s3 s8 (.va (.str k)) s10) (hpOf c' ra rb g) ∧ St c' := by
  obtain ⟨r, c', e, s, r0, r1⟩ := draw (h := hpOf c ra rb g) (n := 0) (lim := 6) rfl hs (by omega) (by omega)
  have e' : f__law_draw [.ref 0, .int 6] (hpOf c ra rb g) = .ok (.int r) (hpOf c' ra rb g) := e
  obtain ⟨q, rfl⟩ := Int.eq_ofNat_of_zero_le r0
  have hq : q < ks.length := by omega
  have hx : ∀ (env : SEnv) (h : Hep), fIx env h (.lst (ks.map .str)) (.int (q : Int)) = some (.str ks[q]) := fun env h =>
    (SeqV.lst (h := h) (ks.map .str)).ix env (by rw [List.getElem?_map, List.getElem?_eq_getElem hq]; rfl)
  refine ⟨ks[q], c', ?_, s⟩
  unfold p9
  simp only [mSet_e, mBin_e, mVar_e, List.getElem?_cons_zero, List.getElem?_cons_succ, bind_ok, mCall_e, mCons_e, cl10, if_pos, mC_e, cl2, mNil_e, ar_e, List.length_cons, List.length_nil, e', hx, reO_some, exS_ok, cl3, List.set_cons_succ, List.set_cons_zero]
theorem p10_ok {x0 : Val} {ks : List Str} {ra rb : Rows} {s3 s8 s9 : Slot} {v : Int} {c : Cell} {g : Hep} (hs : St c) : ∃ v' c', p10 (lEnv x0 ks ra rb s3 s8 s9 (.va (.int v))) (hpOf c ra rb g) = .nx (lEnv x0 ks ra rb s3 s8 s9 (.va (.int v'))) (hpOf c' ra rb g) ∧ St c' := by
  obtain ⟨r, c1, e, s, r0, r1⟩ := draw (h := hpOf c ra rb g) (n := 0) (lim := 3) rfl hs (by omega) (by omega)
  have e' : f__law_draw [.ref 0, .int 3] (hpOf c ra rb g) = .ok (.int r) (hpOf c1 ra rb g) := e
  have gt : ∀ (env : SEnv) (h : Hep), fGt env h (.int r) (.int 0) = some (.bl (decide (0 < r))) := fun _ _ => rfl
  by_cases hr : 0 < r
  · obtain ⟨v', c2, e2, s2⟩ := value_ok (h := hpOf c1 ra rb g) (n := 0) rfl s
    have e2' : f__law_value [.ref 0] (hpOf c1 ra rb g) = .ok (.int v') (hpOf c2 ra rb g) := e2
    refine ⟨v', c2, ?_, s2⟩
    unfold p10
    simp only [mIf_e, mSet_e, mBin_e, mVar_e, List.getElem?_cons_zero, List.getElem?_cons_succ, bind_ok, mCall_e, mCons_e, cl10, if_pos, mC_e, cl2, mNil_e, ar_e, List.length_cons, List.length_nil, e', gt, hr, decide_true, e2', reO_some, exS_ok, cl3, List.set_cons_succ, List.set_cons_zero]
  · refine ⟨v, c1, ?_, s⟩
    unfold p10
    simp only [mIf_e, mSet_e, mBin_e, mVar_e, List.getElem?_cons_zero, List.getElem?_cons_succ, bind_ok, mCall_e, mCons_e, cl10, if_pos, mC_e, cl2, mNil_e, ar_e, List.length_cons, List.length_nil, e', gt, hr, decide_false, reO_some, exS_ok, mNext_e]
theorem pst_ok {x0 : Val} {ks : List Str} {ra rb : Rows} {s3 s8 : Slot} {k : Str} {v : Int} {c : Cell} {g : Hep} (hs : St c) (la : ra.length < 1000) (lb : rb.length < 1000) (na : (ra.map (·.1)).Nodup) (nb : (rb.map (·.1)).Nodup) :
    ∃ ra' rb' c', pst (lEnv x0 ks ra rb s3 s8 (.va (.str k)) (.va (.int v))) (hpOf c ra rb g) = .nx (lEnv x0 ks ra' rb' s3 s8 (.va (.str k)) (.va (.int v))) (hpOf c' ra' rb' g) ∧ St c' ∧ ra'.length ≤ ra.length + 1 ∧ rb'.length ≤ rb.length + 1 ∧ (ra'.map (·.1)).Nodup ∧ (rb'.map (·.1)).Nodup := by
  obtain ⟨r, c1, e, s, r0, r1⟩ := draw (h := hpOf c ra rb g) (n := 0) (lim := 2) rfl hs (by omega) (by omega)
  have e' : f__law_draw [.ref 0, .int 2] (hpOf c ra rb g) = .ok (.int r) (hpOf c1 ra rb g) := e
  by_cases hr : r = 0
  · have S := stoA (c := c1) (rb := rb) (g := g) la
    have e2 : f_Store___setitem__ [.ref 1, .str k, .int v] (hpOf c1 ra rb g) = .ok .non (hpOf c1 (setR ra k v) rb g) := sset_ok S k v
    have w : who [(2, f_Store___setitem__)] (hpOf c1 ra rb g) (.ref 1) = some f_Store___setitem__ := who_ok S _
    refine ⟨setR ra k v, rb, c1, ?_, s, len_setR ra k v, Nat.le_succ _, nodup_setR na, nb⟩
    have o : mOwnSet [(2, f_Store___setitem__)] (mVar 10) (mVar 4) (mVar 9) (lEnv x0 ks ra rb s3 s8 (.va (.str k)) (.va (.int v))) (hpOf c1 ra rb g) = .nx (lEnv x0 ks ra rb s3 s8 (.va (.str k)) (.va (.int v))) (hpOf c1 (setR ra k v) rb g) := by
      unfold mOwnSet
      simp only [mVar_e, List.getElem?_cons_zero, List.getElem?_cons_succ, exS_ok, cl2, cl3, cl10, Bool.and_self, if_pos, w, e2]
    unfold pst
    simp only [mIf_e, mSeq_e, mSet_e, mBin_e, mVar_e, List.getElem?_cons_zero, List.getElem?_cons_succ, bind_ok, mCall_e, mCons_e, cl10, if_pos, mC_e, cl2, cl6, mNil_e, ar_e, List.length_cons, List.length_nil, e', eq_ints, hr, decide_true, o, set_ok la, reO_some, exS_ok, cl3, List.set_cons_succ, List.set_cons_zero]
  · have S := stoB (c := c1) (ra := ra) (g := g) lb
    have e2 : f_Store___setitem__ [.ref 3, .str k, .int v] (hpOf c1 ra rb g) = .ok .non (hpOf c1 ra (setR rb k v) g) := sset_ok S k v
    have w : who [(2, f_Store___setitem__)] (hpOf c1 ra rb g) (.ref 3) = some f_Store___setitem__ := who_ok S _
    refine ⟨ra, setR rb k v, c1, ?_, s, Nat.le_succ _, len_setR rb k v, na, nodup_setR nb⟩
    have o : mOwnSet [(2, f_Store___setitem__)] (mVar 10) (mVar 5) (mVar 9) (lEnv x0 ks ra rb s3 s8 (.va (.str k)) (.va (.int v))) (hpOf c1 ra rb g) = .nx (lEnv x0 ks ra rb s3 s8 (.va (.str k)) (.va (.int v))) (hpOf c1 ra (setR rb k v) g) := by
      unfold mOwnSet
      simp only [mVar_e, List.getElem?_cons_zero, List.getElem?_cons_succ, exS_ok, cl2, cl3, cl10, Bool.and_self, if_pos, w, e2]
    unfold pst
    simp only [mIf_e, mSeq_e, mSet_e, mBin_e, mVar_e, List.getElem?_cons_zero, List.getElem?_cons_succ, bind_ok, mCall_e, mCons_e, cl10, if_pos, mC_e, cl2, cl6, mNil_e, ar_e, List.length_cons, List.length_nil, e', eq_ints, hr, decide_false, o, set_ok lb, reO_some, exS_ok, cl3, List.set_cons_succ, List.set_cons_zero]
def lbody : Stm := mSeq p9 (mSeq (mSet 10 (mC (.int 0))) (mSeq p10 (mSeq pst chk)))
theorem lbody_ok {x0 : Val} {ks : List Str} {ra rb : Rows} {s3 s8 s9 s10 : Slot} {c : Cell} {g : Hep} (hk : ks.length = 6) (hs : St c) (la : ra.length + 1 < 1000) (lb : rb.length + 1 < 1000) (na : (ra.map (·.1)).Nodup) (nb : (rb.map (·.1)).Nodup) :
    ∃ ra' rb' c' s9' s10' g', lbody (lEnv x0 ks ra rb s3 s8 s9 s10) (hpOf c ra rb g) = .nx (lEnv x0 ks ra' rb' s3 s8 s9' s10') (hpOf c' ra' rb' g') ∧ St c' ∧ ra'.length ≤ ra.length + 1 ∧ rb'.length ≤ rb.length + 1 ∧ (ra'.map (·.1)).Nodup ∧ (rb'.map (·.1)).Nodup := by
  obtain ⟨k, c1, e1, s1⟩ := p9_ok (x0 := x0) (ra := ra) (rb := rb) (s3 := s3) (s8 := s8) (s9 := s9) (s10 := s10) (g := g) hk hs
  obtain ⟨v, c2, e2, s2⟩ := p10_ok (x0 := x0) (ks := ks) (ra := ra) (rb := rb) (s3 := s3) (s8 := s8) (s9 := .va (.str k)) (v := 0) (g := g) s1
  obtain ⟨ra', rb', c3, e3, s3', la', lb', na', nb'⟩ := pst_ok (x0 := x0) (ks := ks) (s3 := s3) (s8 := s8) (k := k) (v := v) (g := g) s2 (by omega) (by omega) na nb
  obtain ⟨g', e4⟩ := chk_ok (x0 := x0) (ks := ks) (s3 := s3) (s8 := s8) (s9 := .va (.str k)) (s10 := .va (.int v)) (c := c3) (g := g) (Nat.lt_of_le_of_lt la' la) (Nat.lt_of_le_of_lt lb' lb) na' nb'
  refine ⟨ra', rb', c3, .va (.str k), .va (.int v), g', ?_, s3', la', lb', na', nb'⟩
  unfold lbody
  rw [mSeq_e, e1]
  show mSeq (mSet 10 (mC (.int 0))) _ _ _ = _
  rw [mSeq_e, mSet_e, mC_e, exS_ok, if_pos cl2]
  show mSeq p10 _ (lEnv x0 ks ra rb s3 s8 (.va (.str k)) (.va (.int 0))) _ = _
  rw [mSeq_e, e2]
  show mSeq pst _ _ _ = _
  rw [mSeq_e, e3]
  exact e4
theorem lfor {x0 : Val} {ks : List Str} {s3 : Slot} (hk : ks.length = 6) : ∀ (l : List Val) (ra rb : Rows) (c : Cell) (s8 s9 s10 : Slot) (g : Hep), St c → ra.length + l.length < 1000 → rb.length + l.length < 1000 → (ra.map (·.1)).Nodup → (rb.map (·.1)).Nodup →
    ∃ env h', forL (tgN 8) lbody l (lEnv x0 ks ra rb s3 s8 s9 s10) (hpOf c ra rb g) = .nx env h'
  | [], ra, rb, c, s8, s9, s10, g, _, _, _, _, _ => ⟨_, _, rfl⟩
  | x :: l, ra, rb, c, s8, s9, s10, g, hs, la, lb, na, nb => by
    rw [List.length_cons] at la lb
    obtain ⟨ra', rb', c', s9', s10', g', e, s', la', lb', na', nb'⟩ := lbody_ok (x0 := x0) (s3 := s3) (s8 := .va x) (s9 := s9) (s10 := s10) (g := g) hk hs (by omega) (by omega) na nb
    obtain ⟨env, h', e2⟩ := lfor (x0 := x0) (s3 := s3) hk l ra' rb' c' (.va x) s9' s10' g' s' (by omega) (by omega) na' nb'
    refine ⟨env, h', ?_⟩
    rw [← e2]
    show (match lbody (lEnv x0 ks ra rb s3 (.va x) s9 s10) (hpOf c ra rb g) with
      | .nx e h' => forL (tgN 8) lbody l e h'
      | .ct e h' => forL (tgN 8) lbody l e h'
      | .bk e h' => .nx e h'
      | o => o) = _
    rw [e]
theorem words_ok {env : SEnv} {n : Nat} (he : env[1]? = some (.va (.ref n))) : ∀ (l : List Val) (h : Hep) (c : Cell) (acc : List Val), h[n]? = some c → St c → acc.length + l.length < smx →
    ∃ (ws : List Str) (c' : Cell), lcL (tgN 3) mYes (mCall (ar 1 f__law_word) (mCons (mVar 1) (mNil))) env l h acc = .ok (acc ++ ws.map .str) (h.set n c') ∧ St c' ∧ ws.length = l.length
  | [], h, c, acc, e, hs, _ => ⟨[], c, by
      have hset : h.set n c = h := by
        refine List.ext_getElem? fun j => ?_
        by_cases z : n = j
        · subst z; rw [set_get e, e]
        · rw [List.getElem?_set_ne z]
      rw [hset]; simp [lcL], hs, rfl⟩
  | v :: l, h, c, acc, e, hs, hl => by
    rw [List.length_cons] at hl
    obtain ⟨w, c1, e1, s1⟩ := word_ok e hs
    obtain ⟨ws, c2, e2, s2, hw⟩ := words_ok he l (h.set n c1) c1 (acc ++ [.str w]) (set_get e) s1 (by rw [List.length_append]; show acc.length + 1 + l.length < smx; omega)
    rw [List.set_set] at e2
    refine ⟨w :: ws, c2, ?_, s2, by rw [List.length_cons, List.length_cons, hw]⟩
    have he1 : (env.set 3 (.va v))[1]? = some (.va (.ref n)) := by rw [List.getElem?_set_ne (by omega)]; exact he
    have hy : mCall (ar 1 f__law_word) (mCons (mVar 1) (mNil)) (env.set 3 (.va v)) h = .ok (.str w) (h.set n c1) := by
      simp only [mCall_e, mCons_e, mVar_va he1, bind_ok, cl10, if_pos, mNil_e, ar_e, List.length_cons, List.length_nil, e1]
    unfold lcL
    show (match mYes (env.set 3 (.va v)) h with
      | .ok (.bl b) h1 => if b = true then match mCall (ar 1 f__law_word) (mCons (mVar 1) (mNil)) (env.set 3 (.va v)) h1 with
        | .ok y h2 => if clean y = true ∧ acc.length < smx then lcL (tgN 3) mYes (mCall (ar 1 f__law_word) (mCons (mVar 1) (mNil))) env l h2 (acc ++ [y]) else .bad
        | _ => .bad
        else lcL (tgN 3) mYes (mCall (ar 1 f__law_word) (mCons (mVar 1) (mNil))) env l h1 acc
      | _ => .bad) = _
    show (match mCall (ar 1 f__law_word) (mCons (mVar 1) (mNil)) (env.set 3 (.va v)) h with
        | .ok y h2 => if clean y = true ∧ acc.length < smx then lcL (tgN 3) mYes (mCall (ar 1 f__law_word) (mCons (mVar 1) (mNil))) env l h2 (acc ++ [y]) else .bad
        | _ => .bad) = _
    rw [hy]
    show (if clean (.str w) = true ∧ acc.length < smx then lcL (tgN 3) mYes (mCall (ar 1 f__law_word) (mCons (mVar 1) (mNil))) env l (h.set n c1) (acc ++ [.str w]) else .bad) = _
    rw [if_pos ⟨rfl, by omega⟩, e2, List.append_assoc]
    rfl
def q2 : Stm := mSet 2 (mFrz (mCat (mFrz (mLc (mRng1 (mC (.int 3))) (tgN 3) (mYes) (mCall (ar 1 f__law_word) (mCons (mVar 1) (mNil))) [3])) (mFrz (mLst (mCons (mC (.str "")) (mCons (mC (.str "Key of 2")) (mCons (mC (.str "q")) (mNil))))))))
theorem q2_ok {x0 : Val} {c : Cell} {r : List Slot} (hs : St c) : ∃ (ks : List Str) (c' : Cell), q2 (.va x0 :: .va (.ref 0) :: .un :: .un :: r) [c] = .nx (.va x0 :: .va (.ref 0) :: .va (.lst (ks.map .str)) :: .un :: r) [c'] ∧ St c' ∧ ks.length = 6 := by
  obtain ⟨ws, c', e, s, hw⟩ := words_ok (env := .va x0 :: .va (.ref 0) :: .un :: .un :: r) (n := 0) rfl (rangeV 0 3) [c] c [] rfl hs (by decide)
  have hw3 : ws.length = 3 := hw
  refine ⟨(ws ++ [("" : Str), ("Key of 2" : Str), ("q" : Str)] : List Str), c', ?_, s, by rw [List.length_append, hw3]; rfl⟩
  have hr : rng1Of (.int 3) = some (rangeV 0 3) := rfl
  have h1 : mLc (mRng1 (mC (.int 3))) (tgN 3) (mYes) (mCall (ar 1 f__law_word) (mCons (mVar 1) (mNil))) [3] (.va x0 :: .va (.ref 0) :: .un :: .un :: r) [c] = .ok (ws.map .str) [c'] := by
    unfold mLc mRng1
    simp only [mC_e, bind_ok, hr, reO_some]
    show (if noOw (.va x0 :: .va (.ref 0) :: .un :: .un :: r) [3] = true then lcL _ _ _ (.va x0 :: .va (.ref 0) :: .un :: .un :: r) (rangeV 0 3) [c] [] else .bad) = _
    have hno : noOw (.va x0 :: .va (.ref 0) :: .un :: .un :: r) [3] = true := rfl
    rw [if_pos hno, e]
    rfl
  have h3 : 3 ≤ smx := by decide
  have hc : ∀ {env : SEnv} {h : Hep} {m1 m2 : Ex1} {l k : List Val} {h1 h2 : Hep}, m1 env h = .ok (.lst l) h1 → m2 env h1 = .ok (.lst k) h2 → l.length + k.length ≤ smx → mCat m1 m2 env h = .ok (l ++ k) h2 := fun e1 e2 hl => by
    unfold mCat
    rw [e1, bind_ok, e2, bind_ok]
    exact if_pos hl
  have hcat := hc (env := .va x0 :: .va (.ref 0) :: .un :: .un :: r) (h := [c]) (m1 := mFrz (mLc (mRng1 (mC (.int 3))) (tgN 3) (mYes) (mCall (ar 1 f__law_word) (mCons (mVar 1) (mNil))) [3])) (m2 := mFrz (mLst (mCons (mC (.str "")) (mCons (mC (.str "Key of 2")) (mCons (mC (.str "q")) (mNil)))))) (l := ws.map .str) (k := [.str "", .str "Key of 2", .str "q"]) (h1 := [c']) (h2 := [c']) (by simp only [mFrz_e, h1, bind_ok]) (by simp only [mFrz_e, mLst_e, mCons_e, mC_e, bind_ok, cl3, if_pos, mNil_e, List.length_cons, List.length_nil, Nat.zero_add, Nat.reduceAdd, h3]) (by rw [List.length_map, hw3]; decide)
  unfold q2
  simp only [mSet_e, mFrz_e, hcat, bind_ok, exS_ok, cl6, if_pos, List.set_cons_succ, List.set_cons_zero, List.map_append, List.map_cons, List.map_nil]
theorem start_ok {l : List Int} {h : Hep} : fc__law_start [.frl (l.map .int)] h = .ok (stV l 0 0 0 0 0) h := by
  have h6 : 6 ≤ smx := by decide
  refine fnC_rc rfl ?_
  show b__law_start [.va (.frl (l.map .int))] h = _
  have hl : mList (mVar 0) [.va (.frl (l.map .int))] h = .ok (l.map .int) h := rfl
  unfold b__law_start
  simp only [mRetC_e, mLC_e, mLst_e, mCons_e, mFrz_e, hl, bind_ok, cl6, if_pos, mC_e, cl2, mNil_e, List.length_cons, List.length_nil, Nat.zero_add, Nat.reduceAdd, h6, exS_ok]
  rfl
theorem hb : b_law = mSeq (mSet 1 (mCelC (mCallC (arC 1 fc__law_start) (mCons (mVar 0) (mNil))))) (mSeq q2 (mSeq (mSet 4 (mCall (newC 2 f_Store___init__) mNil)) (mSeq (mSet 5 (mCall (newC 2 f_Store___init__) mNil)) (mSeq (mSet 6 (mFrz (mLst (mNil)))) (mSeq (mSet 7 (mFrz (mLst (mNil)))) (mSeq chk (mSeq (mFor (mRng1 (mCall (ar 2 f__law_draw) (mCons (mVar 1) (mCons (mC (.int 21)) (mNil))))) (tgN 8) lbody) (mRet (mC (.bl true)))))))))) := rfl
theorem lrng {x0 : Val} {ks : List Str} {ra rb : Rows} {s3 s8 s9 s10 : Slot} {c c' : Cell} {g : Hep} {q : Nat} (e : f__law_draw [.ref 0, .int 21] (hpOf c ra rb g) = .ok (.int q) (hpOf c' ra rb g)) (hq : q < 21) : mRng1 (mCall (ar 2 f__law_draw) (mCons (mVar 1) (mCons (mC (.int 21)) (mNil)))) (lEnv x0 ks ra rb s3 s8 s9 s10) (hpOf c ra rb g) = .ok ((List.range q).map fun (i : Nat) => Val.int (i : Int)) (hpOf c' ra rb g) := by
  have h1 : mCall (ar 2 f__law_draw) (mCons (mVar 1) (mCons (mC (.int 21)) (mNil))) (lEnv x0 ks ra rb s3 s8 s9 s10) (hpOf c ra rb g) = .ok (.int q) (hpOf c' ra rb g) := by
    simp only [mCall_e, mCons_e, mVar_e, List.getElem?_cons_zero, List.getElem?_cons_succ, bind_ok, cl10, if_pos, mC_e, cl2, mNil_e, ar_e, List.length_cons, List.length_nil, e]
  have h2 := rng_nat (k := q) (by omega)
  unfold mRng1
  rw [h1, bind_ok, h2, reO_some]
theorem plain (ns : List Int) (hn : ns.length ≤ 63) : ∃ h, f_law [.frl (ns.map .int)] [] = .ok (.bl true) h := by
  have s0 : St (stV ns 0 0 0 0 0) := ⟨ns, 0, 0, 0, 0, 0, rfl, Int.le_refl _⟩
  obtain ⟨ks, c1, e2, s1, hk⟩ := q2_ok (x0 := .frl (ns.map .int)) (r := List.replicate 7 .un) s0
  obtain ⟨g', e5⟩ := chk_ok (x0 := .frl (ns.map .int)) (ks := ks) (ra := []) (rb := []) (s3 := .un) (s8 := .un) (s9 := .un) (s10 := .un) (c := c1) (g := []) (by decide) (by decide) List.nodup_nil List.nodup_nil
  obtain ⟨r, c2, e6, s2, r0, r1⟩ := draw (h := hpOf c1 [] [] g') (n := 0) (lim := 21) rfl s1 (by omega) (by omega)
  have e6' : f__law_draw [.ref 0, .int 21] (hpOf c1 [] [] g') = .ok (.int r) (hpOf c2 [] [] g') := e6
  obtain ⟨q, rfl⟩ := Int.eq_ofNat_of_zero_le r0
  have hq : q < 21 := by omega
  obtain ⟨env, h', e7⟩ := lfor (x0 := .frl (ns.map .int)) (s3 := .un) hk ((List.range q).map fun (i : Nat) => Val.int (i : Int)) [] [] c2 .un .un .un g' s2 (by rw [List.length_map, List.length_range]; show 0 + q < 1000; omega) (by rw [List.length_map, List.length_range]; show 0 + q < 1000; omega) List.nodup_nil List.nodup_nil
  refine ⟨h', fnM_rt rfl ?_⟩
  show b_law (.va (.frl (ns.map .int)) :: List.replicate 10 .un) [] = _
  rw [hb]
  have e1 : mSet 1 (mCelC (mCallC (arC 1 fc__law_start) (mCons (mVar 0) (mNil)))) (.va (.frl (ns.map .int)) :: List.replicate 10 .un) [] = .nx (.va (.frl (ns.map .int)) :: .va (.ref 0) :: .un :: .un :: List.replicate 7 .un) [stV ns 0 0 0 0 0] := by
    simp only [mSet_e, mCelC_e, mCallC_e, mCons_e, mVar_e, List.getElem?_cons_zero, bind_ok, cl9, if_pos, mNil_e, arC_e, List.length_cons, List.length_nil, start_ok, exS_ok, cl10]
    rfl
  rw [mSeq_e, e1]
  show mSeq q2 _ _ _ = _
  rw [mSeq_e, e2]
  show mSeq (mSet 4 _) _ _ _ = _
  have n1 := snew_ok [c1]
  have n2 := snew_ok [c1, .ins 2 [(0, .ref 2)], .dic []]
  have n1' : newC 2 f_Store___init__ [] [c1] = .ok (.ref 1) [c1, .ins 2 [(0, .ref 2)], .dic []] := n1
  have n2' : newC 2 f_Store___init__ [] [c1, .ins 2 [(0, .ref 2)], .dic []] = .ok (.ref 3) (hpOf c1 [] [] []) := n2
  have e3 : mSet 4 (mCall (newC 2 f_Store___init__) mNil) (.va (.frl (ns.map .int)) :: .va (.ref 0) :: .va (.lst (ks.map .str)) :: .un :: List.replicate 7 .un) [c1] = .nx (.va (.frl (ns.map .int)) :: .va (.ref 0) :: .va (.lst (ks.map .str)) :: .un :: .va (.ref 1) :: List.replicate 6 .un) [c1, .ins 2 [(0, .ref 2)], .dic []] := by
    simp only [mSet_e, mCall_e, mNil_e, bind_ok, n1', exS_ok, cl10, if_pos]
    rfl
  rw [mSeq_e, e3]
  show mSeq (mSet 5 _) _ _ _ = _
  have e4 : mSet 5 (mCall (newC 2 f_Store___init__) mNil) (.va (.frl (ns.map .int)) :: .va (.ref 0) :: .va (.lst (ks.map .str)) :: .un :: .va (.ref 1) :: List.replicate 6 .un) [c1, .ins 2 [(0, .ref 2)], .dic []] = .nx (.va (.frl (ns.map .int)) :: .va (.ref 0) :: .va (.lst (ks.map .str)) :: .un :: .va (.ref 1) :: .va (.ref 3) :: List.replicate 5 .un) (hpOf c1 [] [] []) := by
    simp only [mSet_e, mCall_e, mNil_e, bind_ok, n2', exS_ok, cl10, if_pos]
    rfl
  rw [mSeq_e, e4]
  have h0 : ∀ (env : SEnv) (h : Hep), mFrz (mLst mNil) env h = .ok (.lst []) h := fun env h => by
    simp only [mFrz_e, mLst_e, mNil_e, bind_ok, List.length_nil, smx0, if_true]
  show mSeq (mSet 6 (mFrz (mLst (mNil)))) _ _ _ = _
  rw [mSeq_e, mSet_e, h0, exS_ok, if_pos cl6]
  show mSeq (mSet 7 (mFrz (mLst (mNil)))) _ _ _ = _
  rw [mSeq_e, mSet_e, h0, exS_ok, if_pos cl6]
  show mSeq chk _ (lEnv (.frl (ns.map .int)) ks [] [] .un .un .un .un) (hpOf c1 [] [] []) = _
  rw [mSeq_e, e5]
  show mSeq (mFor _ _ _) _ _ _ = _
  have e8 : mFor (mRng1 (mCall (ar 2 f__law_draw) (mCons (mVar 1) (mCons (mC (.int 21)) (mNil))))) (tgN 8) lbody (lEnv (.frl (ns.map .int)) ks [] [] .un .un .un .un) (hpOf c1 [] [] g') = .nx env h' := by
    have hr := lrng (x0 := .frl (ns.map .int)) (ks := ks) (s3 := .un) (s8 := .un) (s9 := .un) (s10 := .un) (ra := []) (rb := []) e6' hq
    unfold mFor
    rw [hr, exS_ok]
    exact e7
  rw [mSeq_e, e8]
  rfl
theorem law_sp {G : Gm} {K : PySem.W.Frag} {vs : List V} {H : Hp} {Q : VK} {E : XK} (h : spLaw K vs H Q E) : spM G K 1 f_law vs H Q E := by
  obtain ⟨a, ns, rfl, hS, hn, q⟩ := h
  obtain ⟨h', e⟩ := plain ns hn
  refine ⟨rfl, H, [], [], [.frl (ns.map .int)], ⟨Ex.refl _, List.nodup_nil, rfl, (fun _ h => nomatch h), fun n c a h => by simp at h⟩, .cons (.frl hS (repL_ints ns)) .nil, ?_⟩
  rw [e]
  intro I' ρ' H' x k gd rx
  cases rx
  exact q H'
theorem all_mk {P : Program} {w : World} {K : PySem.W.Frag} {h : Heap} {mg : Str → Option Value} {fa C0 C1 C2 a_Store___init__ a_Store___setitem__ a_Store___getitem__ a_Store___contains__ a_Store___len__ a_Store___iter__ a_Store_rows a__law_same a__law_start a__law_mixed a__law_draw a__law_word a__law_value a__law_set a__law_found a__law_tells a_law : Addr} {oc1 oc2 oc3 oc4 oc5 oc6 oc7 oc8 oc9 oc10 oc11 oc12 oc13 oc14 oc15 oc16 oc17 : Value} {kV1 kV2 kV3 kV4 kV5 kV6 kV7 kV8 kV9 kV10 kV11 kV12 kV13 kV14 kV15 kV16 kV17 : Value} {dc1 dc2 dc3 dc4 dc5 dc6 dc7 dc8 dc9 dc10 dc11 dc12 dc13 dc14 dc15 dc16 dc17 : Value} {pm1 pm2 pm3 pm4 pm5 pm6 pm7 pm8 pm9 pm10 pm11 pm12 pm13 pm14 pm15 pm16 pm17 : Value} {cd1 cd2 cd3 cd4 cd5 cd6 cd7 cd8 cd9 cd10 cd11 cd12 cd13 cd14 cd15 cd16 cd17 : Value} {ct1 ct2 ct3 ct4 ct5 ct6 ct7 ct8 ct9 ct10 ct11 ct12 ct13 ct14 ct15 ct16 ct17 : Value} {od1 od2 od3 od4 od5 od6 od7 od8 od9 od10 od11 od12 od13 od14 od15 od16 od17 : Option Addr} {an1 an2 an3 an4 an5 an6 an7 an8 an9 an10 an11 an12 an13 an14 an15 an16 an17 : Option Addr} {sl1 sl2 sl3 sl4 sl5 sl6 sl7 sl8 sl9 sl10 sl11 sl12 sl13 sl14 sl15 sl16 sl17 : Array (Option Value)} {xnm1 xq1 : Str} {xN1 : Addr} {xbs1 xbm1 : List Value} {xsn1 : List Str} {xsub1 : List Value} {xab1 : Bool} {xcol1 : Option Bool} {xdd1 : Option Addr} {xa1 xb1 xd1 xe1 xf1 : Option Value} {aI1 : Addr} {yoc1 yct1 ydc1 ypm1 yz1 yw1 : Value} {yod1 yan1 yy1 yv1 : Option Addr} {ycd1 ycc1 : Addr} {ysl1 yx1 yu1 : Array (Option Value)} {yq1 ym1 yfile1 : Str} {yp1 yr1 ya1 yb1 yc1 yd1 ye1 yf1 yg1 yh1 yi1 yj1 : Pos} {yvs1 : Array Value} {ytf1 : Tok} (X : K.In h) (G : h.Ns mainGlobals mg) (hfa : mg "law" = some (.ref fa))
    (nC0 : PySem.W.nsIn K mainGlobals "SlotError" = some (some (.ref C0)))
    (nC1 : PySem.W.nsIn K mainGlobals "NoKey" = some (some (.ref C1)))
    (nC2 : PySem.W.nsIn K mainGlobals "Store" = some (some (.ref C2)))
    (n_Store___init__ : PySem.W.findIn K (.ref C2) "__init__" = some (some (.ref a_Store___init__)))
    (i_Store___init__ : PySem.W.isFn K (.ref a_Store___init__) = true)
    (l_Store___init__ : K.lookup a_Store___init__ = some ⟨oc1, od1, .func (PySem.W.fnOf "__init__" "Store.__init__" (defArgs s_Store___init__) (defBody s_Store___init__) (defScope s_Store___init__) .none kV1 dc1 pm1 an1 cd1 ct1), sl1⟩)
    (c_Store___init__ : PySem.W.codeIn K cd1 "Store.__init__" = true)
    (k_Store___init__ : PySem.W.keepIn K (.ref a_Store___init__) = true)
    (n_Store___setitem__ : PySem.W.findIn K (.ref C2) "__setitem__" = some (some (.ref a_Store___setitem__)))
    (i_Store___setitem__ : PySem.W.isFn K (.ref a_Store___setitem__) = true)
    (fi_Store___setitem__ : PySem.W.fnIn K a_Store___setitem__ = true)
    (l_Store___setitem__ : K.lookup a_Store___setitem__ = some ⟨oc2, od2, .func (PySem.W.fnOf "__setitem__" "Store.__setitem__" (defArgs s_Store___setitem__) (defBody s_Store___setitem__) (defScope s_Store___setitem__) .none kV2 dc2 pm2 an2 cd2 ct2), sl2⟩)
    (c_Store___setitem__ : PySem.W.codeIn K cd2 "Store.__setitem__" = true)
    (k_Store___setitem__ : PySem.W.keepIn K (.ref a_Store___setitem__) = true)
    (n_Store___getitem__ : PySem.W.findIn K (.ref C2) "__getitem__" = some (some (.ref a_Store___getitem__)))
    (i_Store___getitem__ : PySem.W.isFn K (.ref a_Store___getitem__) = true)
    (fi_Store___getitem__ : PySem.W.fnIn K a_Store___getitem__ = true)
    (l_Store___getitem__ : K.lookup a_Store___getitem__ = some ⟨oc3, od3, .func (PySem.W.fnOf "__getitem__" "Store.__getitem__" (defArgs s_Store___getitem__) (defBody s_Store___getitem__) (defScope s_Store___getitem__) .none kV3 dc3 pm3 an3 cd3 ct3), sl3⟩)
    (c_Store___getitem__ : PySem.W.codeIn K cd3 "Store.__getitem__" = true)
    (k_Store___getitem__ : PySem.W.keepIn K (.ref a_Store___getitem__) = true)
    (n_Store___contains__ : PySem.W.findIn K (.ref C2) "__contains__" = some (some (.ref a_Store___contains__)))
    (i_Store___contains__ : PySem.W.isFn K (.ref a_Store___contains__) = true)
    (fi_Store___contains__ : PySem.W.fnIn K a_Store___contains__ = true)
    (l_Store___contains__ : K.lookup a_Store___contains__ = some ⟨oc4, od4, .func (PySem.W.fnOf "__contains__" "Store.__contains__" (defArgs s_Store___contains__) (defBody s_Store___contains__) (defScope s_Store___contains__) .none kV4 dc4 pm4 an4 cd4 ct4), sl4⟩)
    (c_Store___contains__ : PySem.W.codeIn K cd4 "Store.__contains__" = true)
    (k_Store___contains__ : PySem.W.keepIn K (.ref a_Store___contains__) = true)
    (n_Store___len__ : PySem.W.findIn K (.ref C2) "__len__" = some (some (.ref a_Store___len__)))
    (i_Store___len__ : PySem.W.isFn K (.ref a_Store___len__) = true)
    (fi_Store___len__ : PySem.W.fnIn K a_Store___len__ = true)
    (l_Store___len__ : K.lookup a_Store___len__ = some ⟨oc5, od5, .func (PySem.W.fnOf "__len__" "Store.__len__" (defArgs s_Store___len__) (defBody s_Store___len__) (defScope s_Store___len__) .none kV5 dc5 pm5 an5 cd5 ct5), sl5⟩)
    (c_Store___len__ : PySem.W.codeIn K cd5 "Store.__len__" = true)
    (k_Store___len__ : PySem.W.keepIn K (.ref a_Store___len__) = true)
    (n_Store___iter__ : PySem.W.findIn K (.ref C2) "__iter__" = some (some (.ref a_Store___iter__)))
    (i_Store___iter__ : PySem.W.isFn K (.ref a_Store___iter__) = true)
    (fi_Store___iter__ : PySem.W.fnIn K a_Store___iter__ = true)
    (l_Store___iter__ : K.lookup a_Store___iter__ = some ⟨oc6, od6, .func (PySem.W.fnOf "__iter__" "Store.__iter__" (defArgs s_Store___iter__) (defBody s_Store___iter__) (defScope s_Store___iter__) .none kV6 dc6 pm6 an6 cd6 ct6), sl6⟩)
    (c_Store___iter__ : PySem.W.codeIn K cd6 "Store.__iter__" = true)
    (k_Store___iter__ : PySem.W.keepIn K (.ref a_Store___iter__) = true)
    (n_Store_rows : PySem.W.findIn K (.ref C2) "rows" = some (some (.ref a_Store_rows)))
    (i_Store_rows : PySem.W.isFn K (.ref a_Store_rows) = true)
    (l_Store_rows : K.lookup a_Store_rows = some ⟨oc7, od7, .func (PySem.W.fnOf "rows" "Store.rows" (defArgs s_Store_rows) (defBody s_Store_rows) (defScope s_Store_rows) .none kV7 dc7 pm7 an7 cd7 ct7), sl7⟩)
    (c_Store_rows : PySem.W.codeIn K cd7 "Store.rows" = true)
    (k_Store_rows : PySem.W.keepIn K (.ref a_Store_rows) = true)
    (n__law_same : PySem.W.nsIn K mainGlobals "_law_same" = some (some (.ref a__law_same)))
    (l__law_same : K.lookup a__law_same = some ⟨oc8, od8, .func (PySem.W.fnOf "_law_same" "_law_same" (defArgs s__law_same) (defBody s__law_same) (defScope s__law_same) .none kV8 dc8 pm8 an8 cd8 ct8), sl8⟩)
    (c__law_same : PySem.W.codeIn K cd8 "_law_same" = true)
    (k__law_same : PySem.W.keepIn K (.ref a__law_same) = true)
    (n__law_start : PySem.W.nsIn K mainGlobals "_law_start" = some (some (.ref a__law_start)))
    (l__law_start : K.lookup a__law_start = some ⟨oc9, od9, .func (PySem.W.fnOf "_law_start" "_law_start" (defArgs s__law_start) (defBody s__law_start) (defScope s__law_start) .none kV9 dc9 pm9 an9 cd9 ct9), sl9⟩)
    (c__law_start : PySem.W.codeIn K cd9 "_law_start" = true)
    (k__law_start : PySem.W.keepIn K (.ref a__law_start) = true)
    (n__law_mixed : PySem.W.nsIn K mainGlobals "_law_mixed" = some (some (.ref a__law_mixed)))
    (l__law_mixed : K.lookup a__law_mixed = some ⟨oc10, od10, .func (PySem.W.fnOf "_law_mixed" "_law_mixed" (defArgs s__law_mixed) (defBody s__law_mixed) (defScope s__law_mixed) .none kV10 dc10 pm10 an10 cd10 ct10), sl10⟩)
    (c__law_mixed : PySem.W.codeIn K cd10 "_law_mixed" = true)
    (k__law_mixed : PySem.W.keepIn K (.ref a__law_mixed) = true)
    (n__law_draw : PySem.W.nsIn K mainGlobals "_law_draw" = some (some (.ref a__law_draw)))
    (l__law_draw : K.lookup a__law_draw = some ⟨oc11, od11, .func (PySem.W.fnOf "_law_draw" "_law_draw" (defArgs s__law_draw) (defBody s__law_draw) (defScope s__law_draw) .none kV11 dc11 pm11 an11 cd11 ct11), sl11⟩)
    (c__law_draw : PySem.W.codeIn K cd11 "_law_draw" = true)
    (k__law_draw : PySem.W.keepIn K (.ref a__law_draw) = true)
    (n__law_word : PySem.W.nsIn K mainGlobals "_law_word" = some (some (.ref a__law_word)))
    (l__law_word : K.lookup a__law_word = some ⟨oc12, od12, .func (PySem.W.fnOf "_law_word" "_law_word" (defArgs s__law_word) (defBody s__law_word) (defScope s__law_word) .none kV12 dc12 pm12 an12 cd12 ct12), sl12⟩)
    (c__law_word : PySem.W.codeIn K cd12 "_law_word" = true)
    (k__law_word : PySem.W.keepIn K (.ref a__law_word) = true)
    (n__law_value : PySem.W.nsIn K mainGlobals "_law_value" = some (some (.ref a__law_value)))
    (l__law_value : K.lookup a__law_value = some ⟨oc13, od13, .func (PySem.W.fnOf "_law_value" "_law_value" (defArgs s__law_value) (defBody s__law_value) (defScope s__law_value) .none kV13 dc13 pm13 an13 cd13 ct13), sl13⟩)
    (c__law_value : PySem.W.codeIn K cd13 "_law_value" = true)
    (k__law_value : PySem.W.keepIn K (.ref a__law_value) = true)
    (n__law_set : PySem.W.nsIn K mainGlobals "_law_set" = some (some (.ref a__law_set)))
    (l__law_set : K.lookup a__law_set = some ⟨oc14, od14, .func (PySem.W.fnOf "_law_set" "_law_set" (defArgs s__law_set) (defBody s__law_set) (defScope s__law_set) .none kV14 dc14 pm14 an14 cd14 ct14), sl14⟩)
    (c__law_set : PySem.W.codeIn K cd14 "_law_set" = true)
    (k__law_set : PySem.W.keepIn K (.ref a__law_set) = true)
    (n__law_found : PySem.W.nsIn K mainGlobals "_law_found" = some (some (.ref a__law_found)))
    (l__law_found : K.lookup a__law_found = some ⟨oc15, od15, .func (PySem.W.fnOf "_law_found" "_law_found" (defArgs s__law_found) (defBody s__law_found) (defScope s__law_found) .none kV15 dc15 pm15 an15 cd15 ct15), sl15⟩)
    (c__law_found : PySem.W.codeIn K cd15 "_law_found" = true)
    (k__law_found : PySem.W.keepIn K (.ref a__law_found) = true)
    (n__law_tells : PySem.W.nsIn K mainGlobals "_law_tells" = some (some (.ref a__law_tells)))
    (l__law_tells : K.lookup a__law_tells = some ⟨oc16, od16, .func (PySem.W.fnOf "_law_tells" "_law_tells" (defArgs s__law_tells) (defBody s__law_tells) (defScope s__law_tells) .none kV16 dc16 pm16 an16 cd16 ct16), sl16⟩)
    (c__law_tells : PySem.W.codeIn K cd16 "_law_tells" = true)
    (k__law_tells : PySem.W.keepIn K (.ref a__law_tells) = true)
    (n_law : PySem.W.nsIn K mainGlobals "law" = some (some (.ref a_law)))
    (l_law : K.lookup a_law = some ⟨oc17, od17, .func (PySem.W.fnOf "law" "law" (defArgs s_law) (defBody s_law) (defScope s_law) .none kV17 dc17 pm17 an17 cd17 ct17), sl17⟩)
    (c_law : PySem.W.codeIn K cd17 "law" = true)
    (k_law : PySem.W.keepIn K (.ref a_law) = true)
    (pg2 : PySem.W.plainGet K C2 Str.empty = true)
    (hd2 : PySem.W.hasDictIn K C2 = true)
    (po2 : PySem.W.plainOver K C2 = true)
    (sa2 : PySem.W.findIn K (.ref C2) "__setattr__" = some (some (.builtin "object.__setattr__")))
    (mk2 : PySem.W.makesIn K C2 = true)
    (kc2 : PySem.W.keepIn K (.ref C2) = true)
    (ns2 : PySem.W.noSeq K C2 = true)
    (no2__pairs : PySem.W.findIn K (.ref C2) "_pairs" = some none)
    (z_len : PySem.W.nsIn K mainGlobals "len" = some none)
    (z_int : PySem.W.nsIn K mainGlobals "int" = some none)
    (z_list : PySem.W.nsIn K mainGlobals "list" = some none)
    (z_range : PySem.W.nsIn K mainGlobals "range" = some none)
    (z_isinstance : PySem.W.nsIn K mainGlobals "isinstance" = some none)
    (z_bool : PySem.W.nsIn K mainGlobals "bool" = some none)
    (z_str : PySem.W.nsIn K mainGlobals "str" = some none)
    (z_tuple : PySem.W.nsIn K mainGlobals "tuple" = some none)
    (z_dict : PySem.W.nsIn K mainGlobals "dict" = some none)
    (z_iter : PySem.W.nsIn K mainGlobals "iter" = some none)
    (xc1 : K.lookup C1 = some (excClassObj xnm1 xq1 C1 xN1 xbs1 xbm1 true xsn1 xsub1 xab1 xcol1 xdd1 xa1 xb1 xd1 xe1 xf1 "ValueError.__new__"))
    (xr1 : PySem.HandSPX.refsVE xbm1 = true)
    (xs1 : PySem.W.findIn K (.ref C1) "__setattr__" = some (some (.builtin "object.__setattr__")))
    (xn1 : PySem.W.findIn K (.ref C1) "key" = some none)
    (xi1 : PySem.W.findIn K (.ref C1) "__init__" = some (some (.ref aI1)))
    (xt1 : PySem.W.typeIn K (.ref aI1) = some (.type "function"))
    (xk1 : PySem.W.keepIn K (.ref C1) = true)
    (xB1 : PySem.W.subIn K (.ref C1) (.type "BaseException") = some true)
    (xV1 : PySem.W.subIn K (.ref C1) (.type "ValueError") = some true)
    (xT1 : PySem.W.typeIn K (.ref C1) = some (.type "type"))
    (xl1 : (PySem.W.clsIn K C1).isSome = true)
    (xl21 : (PySem.W.clsIn K C1).isSome = true)
    (xm1 : PySem.W.mroIn K C1 (.ref C1) = some true)
    (xu1 : PySem.W.ks_superIn K C1 C1 "__init__" = some (some (.builtin "ValueError.__init__")))
    (xI1 : PySem.W.excInitIn K C1 PySem.HandSPX.veTail "ValueError.__new__" = true)
    (xL1 : K.lookup aI1 = some ⟨yoc1, yod1, .func (PySem.W.ksFn "__init__" yq1 (xA "key" yp1 yr1) (xB "key" "key" ym1 ya1 yb1 yc1 yd1 ye1 yf1 yg1 yh1 yi1 yj1) (xS "key") .none .none ydc1 ypm1 yan1 (.ref ycd1) yct1 ycc1), ysl1⟩)
    (xC1 : PySem.W.codeIn K (.ref ycd1) yq1 = true)
    (xcc1 : K.lookup ycc1 = some ⟨yz1, yy1, .cell (some (.ref C1)), yx1⟩)
    (xcd1 : K.lookup ycd1 = some ⟨yw1, yv1, .fields yvs1, yu1⟩)
    (xvs1 : yvs1[2]? = some (.str yfile1 ytf1))
    (xfl1 : ((P.main.file : Str) == yfile1) = true)
    (xev1 : ∀ L : Addr, ∃ pl : Sem Bool, eval (.Call (.Attribute (.Call (.Name "super" ya1) [] [] yb1) "__init__" yc1) [.Constant (.str ym1) 0 yd1] [] ye1) (PySem.W.ksEnv yq1 (xS "key") L aI1 (.ref ycd1) ycc1) = (do
      let ov ← attributeBase (.Call (.Name "super" ya1) [] [] yb1) "__init__" (PySem.W.ksEnv yq1 (xS "key") L aI1 (.ref ycd1) ycc1) (eval (.Call (.Name "super" ya1) [] [] yb1) (PySem.W.ksEnv yq1 (xS "key") L aI1 (.ref ycd1) ycc1))
      standAt yc1.atName
      let (f, first) ← holding [ov] (getMethod ov "__init__" pl)
      callWith ye1 f first (backTo ye1 (starEach [.Constant (.str ym1) 0 yd1] (PySem.W.ksEnv yq1 (xS "key") L aI1 (.ref ycd1) ycc1))) []))
    (xga1 : PySem.W.findIn K (.ref C1) "__getattribute__" = some (some (.builtin "BaseException.__getattribute__")))
    (xgg1 : PySem.W.findIn K (.ref C1) "__getattr__" = some none)
    (xhd1 : PySem.W.hasDictIn K C1 = true)
    (xca1 : PySem.W.findIn K (.ref C1) "__class__" = some (some (.builtin "object.__class__")))
    (xmo1 : PySem.W.mroIn K C1 (.type "object") = some true)
    (xop : PySem.W.nsIn K cStatics "thirdparty.any" = some none)
    (xsu : PySem.W.nsIn K mainGlobals "super" = some none)
    (xto : (P.main.scope.names.lookup ("super" : Str)).isSome = false)
    (ocg : PySem.W.specialIn K (.builtin "object.__class__") "__get__" = some (some (.builtin "getset_descriptor.__get__")))
    (oct : PySem.W.takesIn K (.builtin "object.__class__") = some true)
    (kt1_0 : PySem.W.kitOne K (.ref C1) (.ref C0) = some true)
    (em1_1 : PySem.W.exmOne K (.ref C1) (.ref C1) = some true) :
    ∃ fd : FuncData, (∀ (s : Shared) (v : Value), BindsTo s fd ⟨[v], []⟩ [("script", v)]) ∧ ∀ base : Heap, K.In base → base.Ns mainGlobals mg → FnOk P w K mg base (L2N.CX P w) 7 fa fd ["script"] (spLaw K) := by
  have T : Tx P K mg [C0, C1, C2] := ⟨PySem.W.mg_none_of X G z_len, PySem.W.mg_none_of X G z_int, PySem.W.mg_none_of X G z_list, PySem.W.mg_none_of X G z_range, PySem.W.mg_none_of X G z_isinstance, PySem.W.mg_none_of X G z_bool, PySem.W.mg_none_of X G z_str, PySem.W.mg_none_of X G z_tuple, PySem.W.mg_none_of X G z_dict, PySem.W.mg_none_of X G z_iter, ⟨⟨pg2, hd2, po2, sa2⟩, no2__pairs⟩, PySem.W.mg_of X G nC0, PySem.W.mg_of X G nC1, ⟨⟨_, _, _, ⟨⟨_, _, _, _, _, _, _, _, _, _, _, _, _, _, _, xc1, xr1⟩, xs1, xn1, xi1, xt1, xk1, xB1, xV1, xT1, xl1, xm1, xu1, xop, PySem.W.mg_none_of X G xsu, xI1, rfl, rfl, rfl, rfl, rfl, ⟨_, _, _, _, _, _, _, _, _, _, _, _, _, _, _, _, _, _, _, _, _, _, _, _, _, _, _, _, _, _, _, _, xL1, xC1, xcc1, xcd1, xvs1, xfl1, fun s x v => .of_eq rfl, xev1⟩, xto⟩⟩, PySem.W.mg_of X G nC1⟩, ⟨⟨xga1, xgg1, xB1, xhd1⟩, xn1⟩, fun C b e => by unfold xi_SlotError at e; split at e <;> cases e; exact ⟨⟨⟨xga1, xgg1, xB1, xhd1⟩, xl21, xca1, ocg, oct, xmo1⟩, kt1_0⟩, fun C b e => by unfold cs_NoKey at e; split at e <;> cases e; exact em1_1⟩
  have F_Store___init__ := fun_mk (st := s_Store___init__) l_Store___init__ c_Store___init__ k_Store___init__
  have b_Store___init__ := F_Store___init__.binds (ps := ["self"]) fun _ _ _ _ _ _ us hl => match us, hl with | [_], _ => rfl
  have F_Store___setitem__ := fun_mk (st := s_Store___setitem__) l_Store___setitem__ c_Store___setitem__ k_Store___setitem__
  have b_Store___setitem__ := F_Store___setitem__.binds (ps := ["self", "at", "worth"]) fun _ _ _ _ _ _ us hl => match us, hl with | [_, _, _], _ => rfl
  have F_Store___getitem__ := fun_mk (st := s_Store___getitem__) l_Store___getitem__ c_Store___getitem__ k_Store___getitem__
  have b_Store___getitem__ := F_Store___getitem__.binds (ps := ["self", "at"]) fun _ _ _ _ _ _ us hl => match us, hl with | [_, _], _ => rfl
  have F_Store___contains__ := fun_mk (st := s_Store___contains__) l_Store___contains__ c_Store___contains__ k_Store___contains__
  have b_Store___contains__ := F_Store___contains__.binds (ps := ["self", "x"]) fun _ _ _ _ _ _ us hl => match us, hl with | [_, _], _ => rfl
  have F_Store___len__ := fun_mk (st := s_Store___len__) l_Store___len__ c_Store___len__ k_Store___len__
  have b_Store___len__ := F_Store___len__.binds (ps := ["self"]) fun _ _ _ _ _ _ us hl => match us, hl with | [_], _ => rfl
  have F_Store___iter__ := fun_mk (st := s_Store___iter__) l_Store___iter__ c_Store___iter__ k_Store___iter__
  have b_Store___iter__ := F_Store___iter__.binds (ps := ["self"]) fun _ _ _ _ _ _ us hl => match us, hl with | [_], _ => rfl
  have F_Store_rows := fun_mk (st := s_Store_rows) l_Store_rows c_Store_rows k_Store_rows
  have b_Store_rows := F_Store_rows.binds (ps := ["self"]) fun _ _ _ _ _ _ us hl => match us, hl with | [_], _ => rfl
  have F__law_same := fun_mk (st := s__law_same) l__law_same c__law_same k__law_same
  have b__law_same := F__law_same.binds (ps := ["here", "there"]) fun _ _ _ _ _ _ us hl => match us, hl with | [_, _], _ => rfl
  have F__law_start := fun_mk (st := s__law_start) l__law_start c__law_start k__law_start
  have b__law_start := F__law_start.binds (ps := ["script"]) fun _ _ _ _ _ _ us hl => match us, hl with | [_], _ => rfl
  have F__law_mixed := fun_mk (st := s__law_mixed) l__law_mixed c__law_mixed k__law_mixed
  have b__law_mixed := F__law_mixed.binds (ps := ["cell", "turn", "limit"]) fun _ _ _ _ _ _ us hl => match us, hl with | [_, _, _], _ => rfl
  have F__law_draw := fun_mk (st := s__law_draw) l__law_draw c__law_draw k__law_draw
  have b__law_draw := F__law_draw.binds (ps := ["state", "limit"]) fun _ _ _ _ _ _ us hl => match us, hl with | [_, _], _ => rfl
  have F__law_word := fun_mk (st := s__law_word) l__law_word c__law_word k__law_word
  have b__law_word := F__law_word.binds (ps := ["state"]) fun _ _ _ _ _ _ us hl => match us, hl with | [_], _ => rfl
  have F__law_value := fun_mk (st := s__law_value) l__law_value c__law_value k__law_value
  have b__law_value := F__law_value.binds (ps := ["state"]) fun _ _ _ _ _ _ us hl => match us, hl with | [_], _ => rfl
  have F__law_set := fun_mk (st := s__law_set) l__law_set c__law_set k__law_set
  have b__law_set := F__law_set.binds (ps := ["rows", "key", "worth"]) fun _ _ _ _ _ _ us hl => match us, hl with | [_, _, _], _ => rfl
  have F__law_found := fun_mk (st := s__law_found) l__law_found c__law_found k__law_found
  have b__law_found := F__law_found.binds (ps := ["store", "key"]) fun _ _ _ _ _ _ us hl => match us, hl with | [_, _], _ => rfl
  have F__law_tells := fun_mk (st := s__law_tells) l__law_tells c__law_tells k__law_tells
  have b__law_tells := F__law_tells.binds (ps := ["store", "rows", "keys"]) fun _ _ _ _ _ _ us hl => match us, hl with | [_, _, _], _ => rfl
  have F_law := fun_mk (st := s_law) l_law c_law k_law
  have b_law := F_law.binds (ps := ["script"]) fun _ _ _ _ _ _ us hl => match us, hl with | [_], _ => rfl
  have e := hfa.symm.trans (PySem.W.mg_of X G n_law)
  cases e
  refine ⟨PySem.W.fnOf "law" "law" (defArgs s_law) (defBody s_law) (defScope s_law) .none kV17 dc17 pm17 an17 cd17 ct17, fun s v => .of_eq rfl, fun base _ _ => ?_⟩
  have D_new_Store : ClsOk P w K mg base (Gk [C0, C1, C2]) "Store" 2 1 0 f_Store___init__ := ⟨⟨_, _, _, ⟨mk2, n_Store___init__, i_Store___init__, kc2⟩, w_Store___init__ (c := [C0, C1, C2]) F_Store___init__ T , PySem.W.mg_of X G nC2, b_Store___init__⟩⟩
  have D_dun_Store___setitem__ : DunOk P w K mg base (Gk [C0, C1, C2]) 1 "__setitem__" 3 2 f_Store___setitem__ := ⟨⟨_, _, _, ⟨n_Store___setitem__, i_Store___setitem__, fi_Store___setitem__, ns2⟩, w_Store___setitem__ (c := [C0, C1, C2]) F_Store___setitem__ T , b_Store___setitem__⟩⟩
  have D_dun_Store___getitem__ : DunOk P w K mg base (Gk [C0, C1, C2]) 1 "__getitem__" 2 2 f_Store___getitem__ := ⟨⟨_, _, _, ⟨n_Store___getitem__, i_Store___getitem__, fi_Store___getitem__, ns2⟩, w_Store___getitem__ (c := [C0, C1, C2]) F_Store___getitem__ T , b_Store___getitem__⟩⟩
  have D_dun_Store___contains__ : DunOk P w K mg base (Gk [C0, C1, C2]) 1 "__contains__" 2 2 f_Store___contains__ := ⟨⟨_, _, _, ⟨n_Store___contains__, i_Store___contains__, fi_Store___contains__, ns2⟩, w_Store___contains__ (c := [C0, C1, C2]) F_Store___contains__ T , b_Store___contains__⟩⟩
  have D_dun_Store___len__ : DunOk P w K mg base (Gk [C0, C1, C2]) 1 "__len__" 1 2 f_Store___len__ := ⟨⟨_, _, _, ⟨n_Store___len__, i_Store___len__, fi_Store___len__, ns2⟩, w_Store___len__ (c := [C0, C1, C2]) F_Store___len__ T , b_Store___len__⟩⟩
  have D_lst_Store : LstOk P w K mg base (Gk [C0, C1, C2]) 1 2 0 := ⟨⟨_, _, _, _, _, _, ⟨n_Store___iter__, i_Store___iter__, fi_Store___iter__, ns2⟩, i_Store___iter___ (c := [C0, C1, C2]) F_Store___iter__ T, b_Store___iter__, ⟨n_Store___len__, i_Store___len__, fi_Store___len__, ns2⟩, l_Store___len___ (c := [C0, C1, C2]) F_Store___len__ T, b_Store___len__⟩⟩
  have D_metC_Store_rows : MetC P w K mg base (Gk [C0, C1, C2]) 1 2 1 2 fc_Store_rows := ⟨⟨pg2, hd2, po2, sa2⟩, ⟨_, _, _, ⟨n_Store_rows, i_Store_rows, k_Store_rows⟩, wc_Store_rows (c := [C0, C1, C2]) F_Store_rows T , b_Store_rows⟩⟩
  have R0 : Df P w K mg base (Gk [C0, C1, C2]) "_law_same" 0 2 (f__law_same 0) := ⟨⟨_, _, ["here", "there"], fn_never, PySem.W.mg_of X G n__law_same, F__law_same.kp, b__law_same⟩⟩
  have R1 : Df P w K mg base (Gk [C0, C1, C2]) "_law_same" 1 2 (f__law_same 1) := ⟨⟨_, _, _, w__law_same F__law_same T  (by decide) R0, PySem.W.mg_of X G n__law_same, F__law_same.kp, b__law_same⟩⟩
  have R2 : Df P w K mg base (Gk [C0, C1, C2]) "_law_same" 2 2 (f__law_same 2) := ⟨⟨_, _, _, w__law_same F__law_same T  (by decide) R1, PySem.W.mg_of X G n__law_same, F__law_same.kp, b__law_same⟩⟩
  have R3 : Df P w K mg base (Gk [C0, C1, C2]) "_law_same" 3 2 (f__law_same 3) := ⟨⟨_, _, _, w__law_same F__law_same T  (by decide) R2, PySem.W.mg_of X G n__law_same, F__law_same.kp, b__law_same⟩⟩
  have R4 : Df P w K mg base (Gk [C0, C1, C2]) "_law_same" 4 2 (f__law_same 4) := ⟨⟨_, _, _, w__law_same F__law_same T  (by decide) R3, PySem.W.mg_of X G n__law_same, F__law_same.kp, b__law_same⟩⟩
  have D_fn__law_same := R4
  have H0 : DfH P w K mg base "_law_same" 0 (spM (Gk [C0, C1, C2]) K 2 (f__law_same 0)) := ⟨⟨_, _, ["here", "there"], fn_neverH, PySem.W.mg_of X G n__law_same, F__law_same.kp, b__law_same⟩⟩
  have H1 : DfH P w K mg base "_law_same" 1 (spM (Gk [C0, C1, C2]) K 2 (f__law_same 1)) := ⟨⟨_, _, _, h__law_same F__law_same T (by decide) H0, PySem.W.mg_of X G n__law_same, F__law_same.kp, b__law_same⟩⟩
  have H2 : DfH P w K mg base "_law_same" 2 (spM (Gk [C0, C1, C2]) K 2 (f__law_same 2)) := ⟨⟨_, _, _, h__law_same F__law_same T (by decide) H1, PySem.W.mg_of X G n__law_same, F__law_same.kp, b__law_same⟩⟩
  have H3 : DfH P w K mg base "_law_same" 3 (spM (Gk [C0, C1, C2]) K 2 (f__law_same 3)) := ⟨⟨_, _, _, h__law_same F__law_same T (by decide) H2, PySem.W.mg_of X G n__law_same, F__law_same.kp, b__law_same⟩⟩
  have H4 : DfH P w K mg base "_law_same" 4 (spM (Gk [C0, C1, C2]) K 2 (f__law_same 4)) := ⟨⟨_, _, _, h__law_same F__law_same T (by decide) H3, PySem.W.mg_of X G n__law_same, F__law_same.kp, b__law_same⟩⟩
  have D_hot__law_same := H4
  have D_fnC__law_start : DfC P w K mg base (Gk [C0, C1, C2]) "_law_start" 1 1 fc__law_start := ⟨⟨_, _, _, wc__law_start (c := [C0, C1, C2]) F__law_start T , PySem.W.mg_of X G n__law_start, F__law_start.kp, b__law_start⟩⟩
  have D_fn__law_mixed : Df P w K mg base (Gk [C0, C1, C2]) "_law_mixed" 1 3 f__law_mixed := ⟨⟨_, _, _, w__law_mixed (c := [C0, C1, C2]) F__law_mixed T , PySem.W.mg_of X G n__law_mixed, F__law_mixed.kp, b__law_mixed⟩⟩
  have D_fn__law_draw : Df P w K mg base (Gk [C0, C1, C2]) "_law_draw" 2 2 f__law_draw := ⟨⟨_, _, _, w__law_draw (c := [C0, C1, C2]) F__law_draw T D_fn__law_mixed, PySem.W.mg_of X G n__law_draw, F__law_draw.kp, b__law_draw⟩⟩
  have D_fn__law_word : Df P w K mg base (Gk [C0, C1, C2]) "_law_word" 3 1 f__law_word := ⟨⟨_, _, _, w__law_word (c := [C0, C1, C2]) F__law_word T D_fn__law_draw, PySem.W.mg_of X G n__law_word, F__law_word.kp, b__law_word⟩⟩
  have D_fn__law_value : Df P w K mg base (Gk [C0, C1, C2]) "_law_value" 3 1 f__law_value := ⟨⟨_, _, _, w__law_value (c := [C0, C1, C2]) F__law_value T D_fn__law_draw, PySem.W.mg_of X G n__law_value, F__law_value.kp, b__law_value⟩⟩
  have D_fn__law_set : Df P w K mg base (Gk [C0, C1, C2]) "_law_set" 1 3 f__law_set := ⟨⟨_, _, _, w__law_set (c := [C0, C1, C2]) F__law_set T , PySem.W.mg_of X G n__law_set, F__law_set.kp, b__law_set⟩⟩
  have D_fn__law_found : Df P w K mg base (Gk [C0, C1, C2]) "_law_found" 5 2 f__law_found := ⟨⟨_, _, _, w__law_found (c := [C0, C1, C2]) F__law_found T D_dun_Store___getitem__ D_hot__law_same, PySem.W.mg_of X G n__law_found, F__law_found.kp, b__law_found⟩⟩
  have D_fn__law_tells : Df P w K mg base (Gk [C0, C1, C2]) "_law_tells" 6 3 f__law_tells := ⟨⟨_, _, _, w__law_tells (c := [C0, C1, C2]) F__law_tells T D_metC_Store_rows D_fn__law_same D_lst_Store D_dun_Store___len__ D_dun_Store___contains__ D_fn__law_found, PySem.W.mg_of X G n__law_tells, F__law_tells.kp, b__law_tells⟩⟩
  exact (w_law (c := [C0, C1, C2]) F_law T D_fnC__law_start D_fn__law_word D_new_Store D_fn__law_tells D_fn__law_draw D_fn__law_value D_dun_Store___setitem__ D_fn__law_set).imp fun vs H Q E h => law_sp h
theorem walk {l : PySem.W.OpenLaw} {q : Program} {loose : List Str} {XP : (Str → Option Value) → Heap → Prop} {YP : World → Heap → Prop} {d : DefRec} {K : Params → PySem.W.Frag} (hn : l.most = some 63) (hdf : d.params.defaults = [])
    (hY : ∀ (w : World) (h : Heap), YP w h → (K w.params).In h)
    (F : ∀ (w : World) (mg : Str → Option Value) (fa : Addr) (h : Heap), (K w.params).In h → h.Ns mainGlobals mg → mg d.name = some (.ref fa) →
      ∃ fd : FuncData, (∀ (s : Shared) (u : Value), BindsTo s fd ⟨[u], []⟩ [("script", u)]) ∧ ∀ base : Heap, (K w.params).In base → base.Ns mainGlobals mg → FnOk l.prog w (K w.params) mg base (L2N.CX l.prog w) 7 fa fd ["script"] (spLaw (K w.params))) :
    PySem.W.WalkO q loose XP YP l.row.toRowW d [] (fun f vs => PySem.call f vs) :=
  L2.walk_of (n := 63) (k := 7) (x := "script") (CX := fun w => L2N.CX l.prog w) (sp := fun w => spLaw (K w.params)) hn (by decide) hdf ⟨rfl, by decide, by decide⟩ hY F (fun _ _ a ns hl _ hS => ⟨a, ns, rfl, hS, hl, fun _ => rfl⟩) fun _ _ _ _ _ z => by
    obtain ⟨_, _, _, _, _, _, _, _, _, _, _, _, hE⟩ := z
    exact hE
end Kx

open PySem PySem.W PyProof.Rows in
theorem PySem.Challenge.cw_copiesfollow_k51_store_pairs_holds : PySem.Challenge.rw_copiesfollow_k51_store_pairs.Holds := by
  w_on; o_law; k_head; (case hw => w_witness2)
  k_fill
  refine Kx.walk (l := PySem.Challenge.rw_copiesfollow_k51_store_pairs) rfl rfl (fun w h Y => PySem.W.kIn_of Y) ?F
  case F =>
    intro w mg fa h KX G hmg
    refine' Kx.all_mk KX G hmg ?nC0 ?nC1 ?nC2 ?n_Store___init__ ?i_Store___init__ ?l_Store___init__ ?c_Store___init__ ?k_Store___init__ ?n_Store___setitem__ ?i_Store___setitem__ ?fi_Store___setitem__ ?l_Store___setitem__ ?c_Store___setitem__ ?k_Store___setitem__ ?n_Store___getitem__ ?i_Store___getitem__ ?fi_Store___getitem__ ?l_Store___getitem__ ?c_Store___getitem__ ?k_Store___getitem__ ?n_Store___contains__ ?i_Store___contains__ ?fi_Store___contains__ ?l_Store___contains__ ?c_Store___contains__ ?k_Store___contains__ ?n_Store___len__ ?i_Store___len__ ?fi_Store___len__ ?l_Store___len__ ?c_Store___len__ ?k_Store___len__ ?n_Store___iter__ ?i_Store___iter__ ?fi_Store___iter__ ?l_Store___iter__ ?c_Store___iter__ ?k_Store___iter__ ?n_Store_rows ?i_Store_rows ?l_Store_rows ?c_Store_rows ?k_Store_rows ?n__law_same ?l__law_same ?c__law_same ?k__law_same ?n__law_start ?l__law_start ?c__law_start ?k__law_start ?n__law_mixed ?l__law_mixed ?c__law_mixed ?k__law_mixed ?n__law_draw ?l__law_draw ?c__law_draw ?k__law_draw ?n__law_word ?l__law_word ?c__law_word ?k__law_word ?n__law_value ?l__law_value ?c__law_value ?k__law_value ?n__law_set ?l__law_set ?c__law_set ?k__law_set ?n__law_found ?l__law_found ?c__law_found ?k__law_found ?n__law_tells ?l__law_tells ?c__law_tells ?k__law_tells ?n_law ?l_law ?c_law ?k_law ?pg2 ?hd2 ?po2 ?sa2 ?mk2 ?kc2 ?ns2 ?no2__pairs ?z_len ?z_int ?z_list ?z_range ?z_isinstance ?z_bool ?z_str ?z_tuple ?z_dict ?z_iter ?xc1 ?xr1 ?xs1 ?xn1 ?xi1 ?xt1 ?xk1 ?xB1 ?xV1 ?xT1 ?xl1 ?xl21 ?xm1 ?xu1 ?xI1 ?xL1 ?xC1 ?xcc1 ?xcd1 ?xvs1 ?xfl1 ?xev1 ?xga1 ?xgg1 ?xhd1 ?xca1 ?xmo1 ?xop ?xsu ?xto ?ocg ?oct ?kt1_0 ?em1_1
    (case nC0 => k_is)
    (case nC1 => k_is)
    (case nC2 => k_is)
    (case n_Store___init__ => k_is)
    (case i_Store___init__ => k_is)
    (case l_Store___init__ => k_is)
    (case c_Store___init__ => k_is)
    (case k_Store___init__ => k_is)
    (case n_Store___setitem__ => k_is)
    (case i_Store___setitem__ => k_is)
    (case fi_Store___setitem__ => k_is)
    (case l_Store___setitem__ => k_is)
    (case c_Store___setitem__ => k_is)
    (case k_Store___setitem__ => k_is)
    (case n_Store___getitem__ => k_is)
    (case i_Store___getitem__ => k_is)
    (case fi_Store___getitem__ => k_is)
    (case l_Store___getitem__ => k_is)
    (case c_Store___getitem__ => k_is)
    (case k_Store___getitem__ => k_is)
    (case n_Store___contains__ => k_is)
    (case i_Store___contains__ => k_is)
    (case fi_Store___contains__ => k_is)
    (case l_Store___contains__ => k_is)
    (case c_Store___contains__ => k_is)
    (case k_Store___contains__ => k_is)
    (case n_Store___len__ => k_is)
    (case i_Store___len__ => k_is)
    (case fi_Store___len__ => k_is)
    (case l_Store___len__ => k_is)
    (case c_Store___len__ => k_is)
    (case k_Store___len__ => k_is)
    (case n_Store___iter__ => k_is)
    (case i_Store___iter__ => k_is)
    (case fi_Store___iter__ => k_is)
    (case l_Store___iter__ => k_is)
    (case c_Store___iter__ => k_is)
    (case k_Store___iter__ => k_is)
    (case n_Store_rows => k_is)
    (case i_Store_rows => k_is)
    (case l_Store_rows => k_is)
    (case c_Store_rows => k_is)
    (case k_Store_rows => k_is)
    (case n__law_same => k_is)
    (case l__law_same => k_is)
    (case c__law_same => k_is)
    (case k__law_same => k_is)
    (case n__law_start => k_is)
    (case l__law_start => k_is)
    (case c__law_start => k_is)
    (case k__law_start => k_is)
    (case n__law_mixed => k_is)
    (case l__law_mixed => k_is)
    (case c__law_mixed => k_is)
    (case k__law_mixed => k_is)
    (case n__law_draw => k_is)
    (case l__law_draw => k_is)
    (case c__law_draw => k_is)
    (case k__law_draw => k_is)
    (case n__law_word => k_is)
    (case l__law_word => k_is)
    (case c__law_word => k_is)
    (case k__law_word => k_is)
    (case n__law_value => k_is)
    (case l__law_value => k_is)
    (case c__law_value => k_is)
    (case k__law_value => k_is)
    (case n__law_set => k_is)
    (case l__law_set => k_is)
    (case c__law_set => k_is)
    (case k__law_set => k_is)
    (case n__law_found => k_is)
    (case l__law_found => k_is)
    (case c__law_found => k_is)
    (case k__law_found => k_is)
    (case n__law_tells => k_is)
    (case l__law_tells => k_is)
    (case c__law_tells => k_is)
    (case k__law_tells => k_is)
    (case n_law => k_is)
    (case l_law => k_is)
    (case c_law => k_is)
    (case k_law => k_is)
    (case pg2 => k_is)
    (case hd2 => k_is)
    (case po2 => k_is)
    (case sa2 => k_is)
    (case mk2 => k_is)
    (case kc2 => k_is)
    (case ns2 => k_is)
    (case no2__pairs => k_is)
    (case z_len => k_is)
    (case z_int => k_is)
    (case z_list => k_is)
    (case z_range => k_is)
    (case z_isinstance => k_is)
    (case z_bool => k_is)
    (case z_str => k_is)
    (case z_tuple => k_is)
    (case z_dict => k_is)
    (case z_iter => k_is)
    (case xc1 => k_is)
    (case xr1 => rfl)
    (case xs1 => k_is)
    (case xn1 => k_is)
    (case xi1 => k_is)
    (case xt1 => k_is)
    (case xk1 => k_is)
    (case xB1 => k_is)
    (case xV1 => k_is)
    (case xT1 => k_is)
    (case xl1 => rfl)
    (case xl21 => rfl)
    (case xm1 => k_is)
    (case xu1 => first | k_is | ks_is | kernel_rfl)
    (case xI1 => first | k_is | kernel_rfl)
    (case xL1 => k_is)
    (case xC1 => k_is)
    (case xcc1 => k_is)
    (case xcd1 => k_is)
    (case xvs1 => rfl)
    (case xfl1 => first | rfl | decide +kernel)
    (case xev1 => exact fun L => ⟨_, rfl⟩)
    (case xga1 => k_is)
    (case xgg1 => k_is)
    (case xhd1 => k_is)
    (case xca1 => k_is)
    (case xmo1 => k_is)
    (case xop => k_is)
    (case xsu => k_is)
    (case xto => first | rfl | decide +kernel)
    (case ocg => k_is)
    (case oct => k_is)
    (case kt1_0 => first | k_is | kit_is | kernel_rfl)
    (case em1_1 => first | k_is | kernel_rfl)
