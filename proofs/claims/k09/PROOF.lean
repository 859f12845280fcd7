import PyProof.Rows.All
import Wide.All
import OpenK.AllK
import Wide.FinOn
import HandS.ForMost
import HandS.Defaults
import HandS.TupAny
import HandS.IsInst
import HandS.Wide
import HandS.Flow
import HandS.Zip
import HandS.More
import HandS.Style
import HandS.NoneIn
import HandS.HeadEnd
import HandS.EndBits
import KE.KStateDown
import HandS.Head0
import HandS.Head1
import HandS.Head2
import HandS.HeadHook1
import HandS.HeadHook2
import HandS.HeadWalk
import PySem.Challenge.RW_waywhole_k09_chunks_of_a_text
set_option Elab.async false
set_option linter.all false
set_option maxRecDepth 100000
set_option maxHeartbeats 4000000
/-! Values as data (D), cells (C), what stands for them in the abstract heap; states of a def's body as lists of cells. -/
namespace Dn
open PySem L2

inductive D where
  | non | bl (b : Bool) | int (i : Int) | str (s : Str)
  | tup (xs : List D) | lst (xs : List D)
  | dct (kvs : List (Key × D)) | dtt (kvs : List (List Key × D))
  /-- the script: a list of ints that nobody changes -/
  | scr (ns : List Int)
  /-- a built-in class -/
  | ty (n : String)

/-- a cell: read alone, owned (a list or a dict that is changed here), handed in to be changed; as a value: what slot i holds -/
inductive C where
  | ro (d : D) | own (d : D) | io (d : D) | view (i : Nat)
def C.d : C → D | .ro d => d | .own d => d | .io d => d | .view _ => .non

def SqF (K : PySem.W.Frag) (H : Hp) (a : Addr) (xs : List V) : Prop := (∃ o, H a = some (.frz o (.lst xs))) ∨
    ∃ (o : Obj) (its : Array Value) (n : Nat), K.lookup a = some o ∧ o.cls = .type "list" ∧ o.dict = none ∧ o.data = .seq its n ∧ its.size ≤ sizeLine ∧ Vals xs its.toList
theorem SqF.l {K : PySem.W.Frag} {H : Hp} {a : Addr} {xs : List V} (h : SqF K H a xs) : SqL K H a xs := h.imp (fun h => .inr h) fun h => h
mutual
inductive Rep (K : PySem.W.Frag) (N : Addr → Prop) (H : Hp) : V → D → Prop
  | non : Rep K N H .non .non
  | bl (b : Bool) : Rep K N H (.bl b) (.bl b)
  | int (i : Int) : Rep K N H (.int i) (.int i)
  | str (s : Str) : Rep K N H (.str s) (.str s)
  | tup {a : Addr} {vs : List V} {ds : List D} : SqT K H a vs → RepL K N H vs ds → Rep K N H (.ref a) (.tup ds)
  | lst {a : Addr} {vs : List V} {ds : List D} : N a → H a = some (.lst vs) → RepL K N H vs ds → Rep K N H (.ref a) (.lst ds)
  | scr {a : Addr} {ns : List Int} : SqF K H a (ns.map V.int) → Rep K N H (.ref a) (.scr ns)
  | ty (n : String) : Rep K N H (.ty n) (.ty n)
  | dct {a : Addr} {kvs : List (Key × V)} {ds : List (Key × D)} : N a → Rd H a (.dK kvs) → RepK K N H kvs ds → Rep K N H (.ref a) (.dct ds)
  | dtt {a : Addr} {kvs : List (List Key × V)} {ds : List (List Key × D)} : N a → Rd H a (.dT kvs) → RepT K N H kvs ds → Rep K N H (.ref a) (.dtt ds)
inductive RepL (K : PySem.W.Frag) (N : Addr → Prop) (H : Hp) : List V → List D → Prop
  | nil : RepL K N H [] []
  | cons {v : V} {vs : List V} {d : D} {ds : List D} : Rep K N H v d → RepL K N H vs ds → RepL K N H (v :: vs) (d :: ds)
inductive RepK (K : PySem.W.Frag) (N : Addr → Prop) (H : Hp) : List (Key × V) → List (Key × D) → Prop
  | nil : RepK K N H [] []
  | cons {k : Key} {v : V} {vs : List (Key × V)} {d : D} {ds : List (Key × D)} : Rep K N H v d → RepK K N H vs ds → RepK K N H ((k, v) :: vs) ((k, d) :: ds)
inductive RepT (K : PySem.W.Frag) (N : Addr → Prop) (H : Hp) : List (List Key × V) → List (List Key × D) → Prop
  | nil : RepT K N H [] []
  | cons {k : List Key} {v : V} {vs : List (List Key × V)} {d : D} {ds : List (List Key × D)} : Rep K N H v d → RepT K N H vs ds → RepT K N H ((k, v) :: vs) ((k, d) :: ds)
end

/-- what a heap keeps: the tuples, what is frozen, what N tells -/
def Keeps (N : Addr → Prop) (H H' : Hp) : Prop := ∀ a o, H a = some o → (N a ∨ (∃ xs, o = .tup xs) ∨ ∃ ob u, o = .frz ob u) → H' a = some o
section
variable {K : PySem.W.Frag} {N N' : Addr → Prop} {H H' : Hp}
theorem Keeps.rd (k : Keeps N H H') {a : Addr} {u : HO} (n : N a) (h : Rd H a u) : Rd H' a u := by
  rcases h with h | ⟨o, h⟩
  · exact .inl (k a _ h (.inl n))
  · exact .inr ⟨o, k a _ h (.inl n)⟩
theorem Keeps.sqT (k : Keeps N H H') {a : Addr} {xs : List V} (h : SqT K H a xs) : SqT K H' a xs := by
  rcases h with (h | ⟨o, h⟩) | h
  · exact .inl (.inl (k a _ h (.inr (.inl ⟨_, rfl⟩))))
  · exact .inl (.inr ⟨o, k a _ h (.inr (.inr ⟨_, _, rfl⟩))⟩)
  · exact .inr h
theorem Keeps.sqF (k : Keeps N H H') {a : Addr} {xs : List V} (h : SqF K H a xs) : SqF K H' a xs := by
  rcases h with ⟨o, h⟩ | h
  · exact .inl ⟨o, k a _ h (.inr (.inr ⟨_, _, rfl⟩))⟩
  · exact .inr h
mutual
theorem Rep.keep (k : Keeps N H H') (n : ∀ a, N a → (H a).isSome = true → N' a) : ∀ {v : V} {d : D}, Rep K N H v d → Rep K N' H' v d
  | _, _, .non => .non
  | _, _, .bl b => .bl b
  | _, _, .int i => .int i
  | _, _, .str s => .str s
  | _, _, .tup h r => .tup (k.sqT h) (RepL.keep k n r)
  | _, _, .lst h1 h r => .lst (n _ h1 (by rw [h] <;> rfl)) (k _ _ h (.inl h1)) (RepL.keep k n r)
  | _, _, .scr h => .scr (k.sqF h)
  | _, _, .ty n => .ty n
  | _, _, .dct h1 h r => .dct (n _ h1 (by rcases h with h | ⟨o, h⟩ <;> rw [h] <;> rfl)) (k.rd h1 h) (RepK.keep k n r)
  | _, _, .dtt h1 h r => .dtt (n _ h1 (by rcases h with h | ⟨o, h⟩ <;> rw [h] <;> rfl)) (k.rd h1 h) (RepT.keep k n r)
theorem RepL.keep (k : Keeps N H H') (n : ∀ a, N a → (H a).isSome = true → N' a) : ∀ {v : List V} {d : List D}, RepL K N H v d → RepL K N' H' v d
  | _, _, .nil => .nil
  | _, _, .cons h r => .cons (Rep.keep k n h) (RepL.keep k n r)
theorem RepK.keep (k : Keeps N H H') (n : ∀ a, N a → (H a).isSome = true → N' a) : ∀ {v : List (Key × V)} {d : List (Key × D)}, RepK K N H v d → RepK K N' H' v d
  | _, _, .nil => .nil
  | _, _, .cons h r => .cons (Rep.keep k n h) (RepK.keep k n r)
theorem RepT.keep (k : Keeps N H H') (n : ∀ a, N a → (H a).isSome = true → N' a) : ∀ {v : List (List Key × V)} {d : List (List Key × D)}, RepT K N H v d → RepT K N' H' v d
  | _, _, .nil => .nil
  | _, _, .cons h r => .cons (Rep.keep k n h) (RepT.keep k n r)
end
theorem Keeps.refl : Keeps N H H := fun _ _ h _ => h
theorem Rep.mono (n : ∀ a, N a → (H a).isSome = true → N' a) {v : V} {d : D} (h : Rep K N H v d) : Rep K N' H v d := h.keep Keeps.refl n
theorem RepL.mono (n : ∀ a, N a → (H a).isSome = true → N' a) {v : List V} {d : List D} (h : RepL K N H v d) : RepL K N' H v d := h.keep Keeps.refl n
theorem RepK.mono (n : ∀ a, N a → (H a).isSome = true → N' a) {v : List (Key × V)} {d : List (Key × D)} (h : RepK K N H v d) : RepK K N' H v d := h.keep Keeps.refl n
theorem RepT.mono (n : ∀ a, N a → (H a).isSome = true → N' a) {v : List (List Key × V)} {d : List (List Key × D)} (h : RepT K N H v d) : RepT K N' H v d := h.keep Keeps.refl n
theorem RepL.length : ∀ {vs : List V} {ds : List D}, RepL K N H vs ds → vs.length = ds.length
  | _, _, .nil => rfl
  | _, _, .cons _ r => by simp [RepL.length r]
theorem RepL.append : ∀ {vs ws : List V} {ds es : List D}, RepL K N H vs ds → RepL K N H ws es → RepL K N H (vs ++ ws) (ds ++ es)
  | _, _, _, _, .nil, s => s
  | _, _, _, _, .cons h r, s => .cons h (RepL.append r s)
theorem RepL.get : ∀ {vs : List V} {ds : List D} {i : Nat} {v : V}, RepL K N H vs ds → vs[i]? = some v → ∃ d, ds[i]? = some d ∧ Rep K N H v d
  | _, _, _, _, .nil, e => by simp at e
  | _, _, 0, _, .cons h r, e => by simp at e; subst e; exact ⟨_, rfl, h⟩
  | _, _, i + 1, _, .cons h r, e => by
    obtain ⟨d, h1, h2⟩ := RepL.get (i := i) r (by simpa using e)
    exact ⟨d, by simpa using h1, h2⟩
theorem RepL.get' {vs : List V} {ds : List D} {i : Nat} {d : D} (r : RepL K N H vs ds) (e : ds[i]? = some d) : ∃ v, vs[i]? = some v ∧ Rep K N H v d := by
  have hl := r.length
  have hi : i < vs.length := by rw [hl]; exact (List.getElem?_eq_some_iff.mp e).1
  obtain ⟨d', h1, h2⟩ := r.get (i := i) (v := vs[i]) (by simp [hi])
  rw [e] at h1; cases h1
  exact ⟨_, by simp [hi], h2⟩
theorem RepL.drop : ∀ {vs : List V} {ds : List D} (n : Nat), RepL K N H vs ds → RepL K N H (vs.drop n) (ds.drop n)
  | _, _, 0, r => r
  | _, _, _ + 1, .nil => .nil
  | _, _, n + 1, .cons _ r => RepL.drop n r
theorem RepL.take : ∀ {vs : List V} {ds : List D} (n : Nat), RepL K N H vs ds → RepL K N H (vs.take n) (ds.take n)
  | _, _, 0, _ => .nil
  | _, _, _ + 1, .nil => .nil
  | _, _, n + 1, .cons h r => .cons h (RepL.take n r)
theorem RepL.set {v : V} {d : D} (h : Rep K N H v d) : ∀ {vs : List V} {ds : List D} (i : Nat), RepL K N H vs ds → RepL K N H (vs.set i v) (ds.set i d)
  | _, _, _, .nil => .nil
  | _, _, 0, .cons _ r => .cons h r
  | _, _, i + 1, .cons q r => .cons q (RepL.set h i r)
theorem RepL.reverse : ∀ {vs : List V} {ds : List D}, RepL K N H vs ds → RepL K N H vs.reverse ds.reverse
  | _, _, .nil => .nil
  | _, _, .cons h r => by rw [List.reverse_cons, List.reverse_cons]; exact (RepL.reverse r).append (.cons h .nil)
theorem RepL.eraseIdx : ∀ {vs : List V} {ds : List D} (i : Nat), RepL K N H vs ds → RepL K N H (vs.eraseIdx i) (ds.eraseIdx i)
  | _, _, _, .nil => .nil
  | _, _, 0, .cons _ r => r
  | _, _, i + 1, .cons q r => .cons q (RepL.eraseIdx i r)
theorem RepK.keys : ∀ {vs : List (Key × V)} {ds : List (Key × D)}, RepK K N H vs ds → vs.map (·.1) = ds.map (·.1)
  | _, _, .nil => rfl
  | _, _, .cons _ r => by simp [RepK.keys r]
theorem RepK.vals : ∀ {vs : List (Key × V)} {ds : List (Key × D)}, RepK K N H vs ds → RepL K N H (vs.map (·.2)) (ds.map (·.2))
  | _, _, .nil => .nil
  | _, _, .cons h r => .cons h (RepK.vals r)
theorem RepK.length {vs : List (Key × V)} {ds : List (Key × D)} (r : RepK K N H vs ds) : vs.length = ds.length := by
  have := congrArg List.length r.keys
  simpa using this
theorem RepT.keys : ∀ {vs : List (List Key × V)} {ds : List (List Key × D)}, RepT K N H vs ds → vs.map (·.1) = ds.map (·.1)
  | _, _, .nil => rfl
  | _, _, .cons _ r => by simp [RepT.keys r]
theorem RepT.vals : ∀ {vs : List (List Key × V)} {ds : List (List Key × D)}, RepT K N H vs ds → RepL K N H (vs.map (·.2)) (ds.map (·.2))
  | _, _, .nil => .nil
  | _, _, .cons h r => .cons h (RepT.vals r)
/-- ints, texts need no heap -/
theorem RepL.ints : ∀ (ns : List Int), RepL K N H (ns.map V.int) (ns.map D.int)
  | [] => .nil
  | n :: ns => .cons (.int n) (RepL.ints ns)
theorem RepL.strs : ∀ (ns : List Str), RepL K N H (ns.map V.str) (ns.map D.str)
  | [] => .nil
  | n :: ns => .cons (.str n) (RepL.strs ns)
theorem RepL.of_ints : ∀ {ns : List Int} {vs : List V}, RepL K N H vs (ns.map D.int) → vs = ns.map V.int
  | [], _, .nil => rfl
  | n :: ns, _, .cons h r => by cases h; rw [RepL.of_ints r]; rfl
theorem RepL.of_strs : ∀ {ns : List Str} {vs : List V}, RepL K N H vs (ns.map D.str) → vs = ns.map V.str
  | [], _, .nil => rfl
  | n :: ns, _, .cons h r => by cases h; rw [RepL.of_strs r]; rfl
end

/-! ### states -/
/-- a body's frame: the written part, the heap at the entry, what the entry's read-only nodes are, the object that is handed in to be changed -/
structure Fr where
  K : PySem.W.Frag
  H_0 : Hp
  N_0 : Addr → Prop
  io : Option Addr
abbrev Ow := Addr → Option (Sum Nat Nat)
def Fr.N (F : Fr) (ow : Ow) (a : Addr) : Prop := ow a = none ∧ F.io ≠ some a ∧ (F.N_0 a ∨ F.H_0 a = none)
abbrev Env := List (Option C)
/-- the owned object at a holds d -/
def HoldsN (K : PySem.W.Frag) (N : Addr → Prop) (H : Hp) (a : Addr) : D → Prop
  | .lst ds => ∃ vs, H a = some (.lst vs) ∧ RepL K N H vs ds
  | .dct ds => ∃ vs, H a = some (.dK vs) ∧ RepK K N H vs ds
  | .dtt ds => ∃ vs, H a = some (.dT vs) ∧ RepT K N H vs ds
  | _ => False
abbrev Holds (F : Fr) (ow : Ow) (H : Hp) (a : Addr) (d : D) : Prop := HoldsN F.K (F.N ow) H a d
def RepC (F : Fr) (ow : Ow) (id : Sum Nat Nat) (σ : St) (ρ : Env) (H : Hp) : V → C → Prop
  | v, .ro d => Rep F.K (F.N ow) H v d
  | v, .own d => ∃ a, v = .ref a ∧ ow a = some id ∧ Holds F ow H a d
  | v, .io d => ∃ a, v = .ref a ∧ F.io = some a ∧ Holds F ow H a d
  | v, .view i => ∀ c, ρ[i]? = some (some c) → (∀ d, c ≠ .ro d) → σ[i]? = some (some v)
def Tmps (F : Fr) (ow : Ow) (σ : St) (ρ : Env) (H : Hp) : List (V × C) → Prop
  | [] => True
  | t :: ts => RepC F ow (.inr ts.length) σ ρ H t.1 t.2 ∧ Tmps F ow σ ρ H ts
def CellOk (i : Nat) : C → Prop
  | .io _ => i = 0
  | .view _ => False
  | _ => True
structure RSo (F : Fr) (ow : Ow) (σ : St) (H : Hp) (ρ : Env) (τ : List (V × C)) : Prop where
  len : σ.length = ρ.length
  slot : ∀ (i : Nat) (c : C), ρ[i]? = some (some c) → ∃ v, σ[i]? = some (some v) ∧ RepC F ow (.inl i) σ ρ H v c
  io : ∀ (i : Nat) (c : C), ρ[i]? = some (some c) → CellOk i c
  tmp : Tmps F ow σ ρ H τ
  tio : ∀ t ∈ τ, ∀ d, t.2 ≠ .io d
  own : ∀ a id, ow a = some id → (H a).isSome = true ∧ F.H_0 a = none ∧ F.io ≠ some a
  tid : ∀ a j, ow a = some (.inr j) → j < τ.length
  keep : ∀ a o, F.H_0 a = some o → F.io ≠ some a → H a = some o
  mio : ∀ a, F.io = some a → ∃ o, H a = some o ∧ Mut (some o) ∧ (F.H_0 a).isSome = true
def RS (F : Fr) (σ : St) (H : Hp) (ρ : Env) (τ : List (V × C)) : Prop := ∃ ow, RSo F ow σ H ρ τ
end Dn

namespace Dn
open PySem L2
section
variable {F : Fr} {ow ow' : Ow} {id id' : Sum Nat Nat} {H H' : Hp} {σ σ' : St} {ρ ρ' : Env} {τ : List (V × C)} {v : V} {c : C} {d : D} {a p : Addr}
theorem Holds.tr (h : Holds F ow H a d) (hN : ∀ b, F.N ow b → (H b).isSome = true → F.N ow' b) (hK : Keeps (F.N ow) H H') (e : H' a = H a) : Holds F ow' H' a d := by
  cases d with
  | lst ds => obtain ⟨vs, h1, r⟩ := h; exact ⟨vs, e.trans h1, r.keep hK hN⟩
  | dct ds => obtain ⟨vs, h1, r⟩ := h; exact ⟨vs, e.trans h1, r.keep hK hN⟩
  | dtt ds => obtain ⟨vs, h1, r⟩ := h; exact ⟨vs, e.trans h1, r.keep hK hN⟩
  | _ => exact h.elim
theorem Holds.some (h : Holds F ow H a d) : (H a).isSome = true ∧ Mut (H a) := by
  cases d with
  | lst ds => obtain ⟨vs, h1, r⟩ := h; rw [h1]; exact ⟨rfl, trivial⟩
  | dct ds => obtain ⟨vs, h1, r⟩ := h; rw [h1]; exact ⟨rfl, trivial⟩
  | dtt ds => obtain ⟨vs, h1, r⟩ := h; rw [h1]; exact ⟨rfl, trivial⟩
  | _ => exact h.elim
/-- an owned object is read: as what it holds, if a is one of N's -/
theorem Holds.rep {N : Addr → Prop} (h : Holds F ow H a d) (n : N a) (hN : ∀ b, F.N ow b → (H b).isSome = true → N b) : Rep F.K N H (.ref a) d := by
  cases d with
  | lst ds => obtain ⟨vs, h1, r⟩ := h; exact .lst n h1 (r.mono hN)
  | dct ds => obtain ⟨vs, h1, r⟩ := h; exact .dct n (.inl h1) (r.mono hN)
  | dtt ds => obtain ⟨vs, h1, r⟩ := h; exact .dtt n (.inl h1) (r.mono hN)
  | _ => exact h.elim
/-- the views stand -/
def Vw (σ σ' : St) (ρ ρ' : Env) : Prop := ∀ (i : Nat) (c : C), ρ'[i]? = some (some c) → (∀ d, c ≠ .ro d) → (∃ c', ρ[i]? = some (some c') ∧ (∀ d, c' ≠ .ro d)) ∧ σ'[i]? = σ[i]?
theorem Vw.refl : Vw σ σ ρ ρ := fun _ c h n => ⟨⟨c, h, n⟩, rfl⟩
def NoV (τ : List (V × C)) : Prop := ∀ t ∈ τ, ∀ j, t.2 ≠ .view j
theorem RepC.tr (h : RepC F ow id σ ρ H v c) (hN : ∀ b, F.N ow b → (H b).isSome = true → F.N ow' b) (hK : Keeps (F.N ow) H H') (ho : ∀ b, ow b = some id → ow' b = some id' ∧ H' b = H b) (hio : ∀ b, F.io = some b → H' b = H b) (hv : (∀ j, c ≠ .view j) ∨ Vw σ σ' ρ ρ' := by exact .inr Vw.refl) : RepC F ow' id' σ' ρ' H' v c := by
  cases c with
  | ro d => exact Rep.keep hK hN h
  | own d => obtain ⟨a, e, o, q⟩ := h; exact ⟨a, e, (ho a o).1, q.tr hN hK (ho a o).2⟩
  | io d => obtain ⟨a, e, o, q⟩ := h; exact ⟨a, e, o, q.tr hN hK (hio a o)⟩
  | view i =>
    rcases hv with hv | hv
    · exact absurd rfl (hv i)
    · intro c' h1 h2; obtain ⟨⟨c2, h3, h4⟩, h5⟩ := hv i c' h1 h2; exact h5.trans (h c2 h3 h4)
theorem Tmps.tr (hN : ∀ b, F.N ow b → (H b).isSome = true → F.N ow' b) (hK : Keeps (F.N ow) H H') : ∀ {τ : List (V × C)}, Tmps F ow σ ρ H τ → (∀ b j, j < τ.length → ow b = some (.inr j) → ow' b = some (.inr j) ∧ H' b = H b) → (∀ b, F.io = some b → H' b = H b) → (hv : NoV τ ∨ Vw σ σ' ρ ρ' := by exact .inr Vw.refl) → Tmps F ow' σ' ρ' H' τ
  | [], _, _, _, _ => trivial
  | t :: ts, ⟨h1, h2⟩, ho, hio, hv => ⟨h1.tr hN hK (fun b e => ho b _ (Nat.lt_succ_self _) e) hio (hv.imp (fun z j => z t List.mem_cons_self j) fun z => z), Tmps.tr hN hK h2 (fun b j hj e => ho b j (Nat.lt_succ_of_lt hj) e) hio (hv.imp (fun z u hu => z u (List.mem_cons_of_mem _ hu)) fun z => z)⟩
theorem Fr.N.of {hN : ∀ b, ow b = none → ow' b = none} : ∀ b, F.N ow b → (H b).isSome = true → F.N ow' b := fun b h _ => ⟨hN b h.1, h.2⟩
theorem Keeps.all {N : Addr → Prop} (k : ∀ b o, H b = some o → H' b = some o) : Keeps N H H' := fun b o h _ => k b o h
theorem RSo.fresh (I : RSo F ow σ H ρ τ) (hp : H p = none) : F.H_0 p = none ∧ F.io ≠ some p ∧ ow p = none := by
  have h1 : F.io ≠ some p := fun e => by
    obtain ⟨o, h, _⟩ := I.mio p e
    rw [hp] at h; cases h
  refine ⟨?_, h1, ?_⟩
  · cases e : F.H_0 p with
    | none => rfl
    | some o => rw [I.keep p o e h1] at hp; cases hp
  · cases e : ow p with
    | none => rfl
    | some id => have := (I.own p id e).1; rw [hp] at this; cases this
/-- the heap grows -/
theorem RSo.grow (I : RSo F ow σ H ρ τ) (k : ∀ b o, H b = some o → H' b = some o) : RSo F ow σ H' ρ τ := by
  have eq : ∀ b, (H b).isSome = true → H' b = H b := fun b h => by
    cases e : H b with
    | none => rw [e] at h; cases h
    | some o => exact k b o e
  have hio : ∀ b, F.io = some b → H' b = H b := fun b e => by
    obtain ⟨o, h, _⟩ := I.mio b e
    rw [h]; exact k b o h
  refine ⟨I.len, fun i c e => ?_, I.io, I.tmp.tr (fun _ h _ => h) (Keeps.all k) (fun b j _ e => ⟨e, eq b (I.own b _ e).1⟩) hio, I.tio, fun b id e => ⟨?_, (I.own b id e).2⟩, I.tid, fun b o h1 h2 => k b o (I.keep b o h1 h2), fun b e => ?_⟩
  · obtain ⟨v, h1, h2⟩ := I.slot i c e
    exact ⟨v, h1, h2.tr (fun _ h _ => h) (Keeps.all k) (fun b e => ⟨e, eq b (I.own b _ e).1⟩) hio⟩
  · rw [eq b (I.own b id e).1]; exact (I.own b id e).1
  · obtain ⟨o, h, q⟩ := I.mio b e
    exact ⟨o, k b o h, q⟩
theorem RSo.push (I : RSo F ow σ H ρ τ) (h : Rep F.K (F.N ow) H v d) : RSo F ow σ H ρ ((v, .ro d) :: τ) :=
  ⟨I.len, I.slot, I.io, ⟨h, I.tmp⟩, fun t ht d' e => by
    rcases List.mem_cons.mp ht with rfl | ht
    · cases e
    · exact I.tio t ht d' e, I.own, fun b j e => Nat.lt_succ_of_lt (I.tid b j e), I.keep, I.mio⟩
/-- what a call or an operation gives: something read alone, or a new object -/
def Ret (K : PySem.W.Frag) (N : Addr → Prop) (H H' : Hp) (v : V) : C → Prop
  | .ro d => Rep K (fun b => N b ∨ H b = none) H' v d
  | .own d => ∃ a, v = .ref a ∧ H a = none ∧ HoldsN K (fun b => (N b ∨ H b = none) ∧ b ≠ a) H' a d
  | _ => False
theorem HoldsN.mono {K : PySem.W.Frag} {N N' : Addr → Prop} (n : ∀ b, N b → (H b).isSome = true → N' b) (h : HoldsN K N H a d) : HoldsN K N' H a d := by
  cases d with
  | lst ds => obtain ⟨vs, h1, r⟩ := h; exact ⟨vs, h1, r.mono n⟩
  | dct ds => obtain ⟨vs, h1, r⟩ := h; exact ⟨vs, h1, r.mono n⟩
  | dtt ds => obtain ⟨vs, h1, r⟩ := h; exact ⟨vs, h1, r.mono n⟩
  | _ => exact h.elim
theorem HoldsN.some {K : PySem.W.Frag} {N : Addr → Prop} (h : HoldsN K N H a d) : (H a).isSome = true ∧ Mut (H a) := by
  cases d with
  | lst ds => obtain ⟨vs, h1, r⟩ := h; rw [h1]; exact ⟨rfl, trivial⟩
  | dct ds => obtain ⟨vs, h1, r⟩ := h; rw [h1]; exact ⟨rfl, trivial⟩
  | dtt ds => obtain ⟨vs, h1, r⟩ := h; rw [h1]; exact ⟨rfl, trivial⟩
  | _ => exact h.elim
theorem RSo.ret (I : RSo F ow σ H ρ τ) (k : Same H H') (h : Ret F.K (F.N ow) H H' v c) : ∃ ow', RSo F ow' σ H' ρ ((v, c) :: τ) ∧ ∀ b, (F.N ow b ∨ H b = none) → ((∃ d, c = .ro d) ∨ v ≠ .ref b) → F.N ow' b := by
  have J := I.grow k
  have fr : ∀ b, (F.N ow b ∨ H b = none) → F.N ow b := fun b h => by
    rcases h with h | h
    · exact h
    · obtain ⟨f1, f2, f3⟩ := I.fresh h; exact ⟨f3, f2, .inr f1⟩
  cases c with
  | io d => exact h.elim
  | view d => exact h.elim
  | ro d => exact ⟨ow, J.push (Rep.mono (fun b h _ => fr b h) h), fun b h _ => fr b h⟩
  | own d =>
    obtain ⟨p, e, hp, h⟩ := h
    subst e
    obtain ⟨f1, f2, f3⟩ := I.fresh hp
    let ow' : Ow := fun b => if b = p then some (.inr τ.length) else ow b
    have e1 : ow' p = some (.inr τ.length) := if_pos rfl
    have e2 : ∀ b, b ≠ p → ow' b = ow b := fun b h => if_neg h
    have hN0 : ∀ b, F.N ow b → (H b).isSome = true → F.N ow' b := fun b h hs => by
      have : b ≠ p := fun e => by rw [e, hp] at hs; cases hs
      exact ⟨by rw [e2 b this]; exact h.1, h.2⟩
    have op : ∀ b id, ow b = some id → b ≠ p := fun b id e z => by rw [z, f3] at e; cases e
    have back : ∀ b id, ow b = some id → ow' b = some id := fun b id e => by rw [e2 b (op b id e)]; exact e
    have kk : Keeps (F.N ow) H H' := Keeps.all k
    have eq : ∀ b, (H b).isSome = true → H' b = H b := fun b h => by
      cases e : H b with
      | none => rw [e] at h; cases h
      | some o => exact k b o e
    have hio : ∀ b, F.io = some b → H' b = H b := fun b e => by
      obtain ⟨o, h, _⟩ := I.mio b e
      rw [h]; exact k b o h
    refine ⟨ow', ⟨I.len, fun i c e => ?_, I.io, ⟨⟨p, rfl, e1, h.mono fun b hb _ => ⟨by rw [e2 b hb.2]; exact (fr b hb.1).1, (fr b hb.1).2⟩⟩, I.tmp.tr hN0 kk (fun b j _ e => ⟨back b _ e, eq b (I.own b _ e).1⟩) hio⟩, fun t ht d' e => ?_, fun b id e => ?_, fun b j e => ?_, J.keep, J.mio⟩, fun b hb hz => ?_⟩
    · obtain ⟨v, h1, h2⟩ := I.slot i c e
      exact ⟨v, h1, h2.tr hN0 kk (fun b e => ⟨back b _ e, eq b (I.own b _ e).1⟩) hio⟩
    · rcases List.mem_cons.mp ht with rfl | ht
      · cases e
      · exact I.tio t ht d' e
    · by_cases hb : b = p
      · subst hb; exact ⟨h.some.1, f1, f2⟩
      · rw [e2 b hb] at e
        exact J.own b id e
    · by_cases hb : b = p
      · subst hb; rw [e1] at e; cases e; exact Nat.lt_succ_self _
      · rw [e2 b hb] at e
        exact Nat.lt_succ_of_lt (I.tid b j e)
    · have hb2 : b ≠ p := by
        rcases hz with ⟨d, z⟩ | z
        · cases z
        · exact fun q => z (by rw [q])
      exact ⟨by rw [e2 b hb2]; exact (fr b hb).1, (fr b hb).2⟩
/-- the owner's function without id -/
def drop (ow : Ow) (id : Sum Nat Nat) : Ow := fun b => if ow b = some id then none else ow b
theorem drop_none {b : Addr} (h : ow b = none) : drop ow id b = none := by unfold drop; rw [h]; simp
theorem drop_some {b : Addr} {i : Sum Nat Nat} (h : drop ow id b = some i) : ow b = some i ∧ i ≠ id := by
  unfold drop at h
  split at h
  · cases h
  · rename_i n; exact ⟨h, fun e => n (e ▸ h)⟩
theorem drop_at {b : Addr} (h : ow b = some id) : drop ow id b = none := by unfold drop; rw [if_pos h]
theorem drop_ne {b : Addr} (h : ow b ≠ some id) : drop ow id b = ow b := by unfold drop; rw [if_neg h]
theorem drop_N : ∀ b, F.N ow b → (H b).isSome = true → F.N (drop ow id) b := fun b h _ => ⟨drop_none h.1, h.2⟩
/-- the last value is dropped -/
theorem RSo.pop {t : V × C} (I : RSo F ow σ H ρ (t :: τ)) : RSo F (drop ow (.inr τ.length)) σ H ρ τ := by
  have go : ∀ {i : Sum Nat Nat} b, i ≠ .inr τ.length → ow b = some i → drop ow (.inr τ.length) b = some i := fun b n e => by
    rw [drop_ne (fun z => n (by rw [e] at z; exact Option.some.inj z))]; exact e
  refine ⟨I.len, fun i c e => ?_, I.io, I.tmp.2.tr drop_N Keeps.refl (fun b j hj e => ⟨go b (fun z => by cases z; exact absurd hj (Nat.lt_irrefl _)) e, rfl⟩) (fun _ _ => rfl), fun u hu => I.tio u (List.mem_cons_of_mem _ hu), fun b id e => I.own b id (drop_some e).1, fun b j e => ?_, I.keep, I.mio⟩
  · obtain ⟨v, h1, h2⟩ := I.slot i c e
    exact ⟨v, h1, h2.tr drop_N Keeps.refl (fun b e => ⟨go b (fun z => by cases z) e, rfl⟩) (fun _ _ => rfl)⟩
  · obtain ⟨e1, e2⟩ := drop_some e
    have := I.tid b j e1
    have hne : j ≠ τ.length := fun z => e2 (by rw [z])
    simp only [List.length_cons] at this
    omega
/-- the last value, as what is read alone -/
theorem RepC.pop {t : V × C} (I : RSo F ow σ H ρ (t :: τ)) (hv : ∀ j, t.2 ≠ .view j) : Rep F.K (F.N (drop ow (.inr τ.length))) H t.1 t.2.d := by
  obtain ⟨v, c⟩ := t
  have h := I.tmp.1
  cases c with
  | ro d => exact Rep.mono drop_N h
  | own d =>
    obtain ⟨a, e, o, q⟩ := h
    have e : v = .ref a := e
    subst e
    obtain ⟨_, g2, g3⟩ := I.own a _ o
    exact q.rep ⟨drop_at o, g3, .inr g2⟩ drop_N
  | io d => exact absurd rfl (I.tio _ List.mem_cons_self d)
  | view j => exact absurd rfl (hv j)
theorem RSo.freeze {v : V} {c : C} (I : RSo F ow σ H ρ ((v, c) :: τ)) (hv : ∀ j, c ≠ .view j) : ∃ ow', RSo F ow' σ H ρ ((v, .ro c.d) :: τ) := ⟨_, I.pop.push (RepC.pop I hv)⟩
/-- the last value goes into a slot -/
theorem RSo.setSlot {i : Nat} (I : RSo F ow σ H ρ ((v, c) :: τ)) (hi : i < ρ.length) (hc : ∀ j, c ≠ .view j) (hτ : (∃ d, c = .ro d) ∨ NoV τ) : ∃ ow', RSo F ow' (σ.set i (some v)) H (ρ.set i (some c)) τ := by
  let ow' : Ow := fun b => if ow b = some (.inr τ.length) then some (.inl i) else if ow b = some (.inl i) then none else ow b
  have a1 : ∀ b, ow b = some (.inr τ.length) → ow' b = some (.inl i) := fun b h => if_pos h
  have a2 : ∀ b id, ow b = some id → id ≠ .inr τ.length → id ≠ .inl i → ow' b = some id := fun b id h n1 n2 => by
    show (if _ then _ else _) = _
    rw [if_neg (by rw [h]; exact fun z => n1 (Option.some.inj z)), if_neg (by rw [h]; exact fun z => n2 (Option.some.inj z))]; exact h
  have a3 : ∀ b, ow b = none → ow' b = none := fun b h => by
    show (if _ then _ else _) = _
    rw [if_neg (by rw [h]; simp), if_neg (by rw [h]; simp)]; exact h
  have a4 : ∀ b id, ow' b = some id → (ow b = some (.inr τ.length) ∧ id = .inl i) ∨ (ow b = some id ∧ id ≠ .inr τ.length ∧ id ≠ .inl i) := fun b id h => by
    by_cases h1 : ow b = some (.inr τ.length)
    · rw [a1 b h1] at h; cases h; exact .inl ⟨h1, rfl⟩
    · by_cases h2 : ow b = some (.inl i)
      · have : ow' b = none := by show (if _ then _ else _) = _; rw [if_neg h1, if_pos h2]
        rw [this] at h; cases h
      · have e : ow' b = ow b := by show (if _ then _ else _) = _; rw [if_neg h1, if_neg h2]
        rw [e] at h
        exact .inr ⟨h, fun z => h1 (z ▸ h), fun z => h2 (z ▸ h)⟩
  have hN : ∀ b, F.N ow b → (H b).isSome = true → F.N ow' b := fun b h _ => ⟨a3 b h.1, h.2⟩
  have hiσ : i < σ.length := by rw [I.len]; exact hi
  have hv : (∃ d, c = .ro d) → Vw σ (σ.set i (some v)) ρ (ρ.set i (some c)) := fun ⟨d, hd⟩ j c' e n => by
    by_cases hj : j = i
    · subst hj
      rw [List.getElem?_set_self hi] at e; cases e
      exact absurd hd (n d)
    · rw [List.getElem?_set_ne (Ne.symm hj)] at e
      exact ⟨⟨c', e, n⟩, List.getElem?_set_ne (Ne.symm hj)⟩
  refine ⟨ow', by rw [List.length_set, List.length_set]; exact I.len, fun j c' e => ?_, fun j d e => ?_, I.tmp.2.tr hN Keeps.refl (fun b j hj e => ⟨a2 b _ e (fun z => by cases z; exact absurd hj (Nat.lt_irrefl _)) (fun z => by cases z), rfl⟩) (fun _ _ => rfl) (hτ.symm.imp id hv), fun u hu => I.tio u (List.mem_cons_of_mem _ hu), fun b id e => ?_, fun b j e => ?_, I.keep, I.mio⟩
  · by_cases hj : j = i
    · subst hj
      rw [List.getElem?_set_self hi] at e; cases e
      refine ⟨v, List.getElem?_set_self hiσ, ?_⟩
      have h := I.tmp.1
      exact h.tr hN Keeps.refl (fun b e => ⟨a1 b e, rfl⟩) (fun _ _ => rfl) (.inl hc)
    · rw [List.getElem?_set_ne (Ne.symm hj)] at e
      obtain ⟨w, h1, h2⟩ := I.slot j c' e
      exact ⟨w, by rw [List.getElem?_set_ne (Ne.symm hj)]; exact h1, h2.tr hN Keeps.refl (fun b e => ⟨a2 b _ e (fun z => by cases z) (fun z => hj (Sum.inl.inj z)), rfl⟩) (fun _ _ => rfl) (.inl fun k z => by subst z; exact I.io j _ e)⟩
  · by_cases hj : j = i
    · subst hj
      rw [List.getElem?_set_self hi] at e; cases e
      cases c with
      | io d => exact absurd rfl (I.tio _ List.mem_cons_self d)
      | view k => exact absurd rfl (hc k)
      | ro d => trivial
      | own d => trivial
    · rw [List.getElem?_set_ne (Ne.symm hj)] at e
      exact I.io j d e
  · rcases a4 b id e with ⟨h1, rfl⟩ | ⟨h1, _⟩
    · exact I.own b _ h1
    · exact I.own b _ h1
  · rcases a4 b _ e with ⟨_, h2⟩ | ⟨h1, h2, _⟩
    · cases h2
    · have := I.tid b j h1
      have hne : j ≠ τ.length := fun z => h2 (by rw [z])
      simp only [List.length_cons] at this
      omega
/-- slots are forgotten; the values behind them may be any -/
theorem RSo.forget (I : RSo F ow σ H ρ τ) (hl : σ'.length = ρ'.length) (h : ∀ (i : Nat) (c : C), ρ'[i]? = some (some c) → ρ[i]? = some (some c) ∧ σ'[i]? = σ[i]?) : RSo F ow σ' H ρ' τ := by
  have hv : Vw σ σ' ρ ρ' := fun i c e n => ⟨⟨c, (h i c e).1, n⟩, (h i c e).2⟩
  refine ⟨hl, fun i c e => ?_, fun i c e => I.io i c (h i _ e).1, I.tmp.tr (fun _ h _ => h) Keeps.refl (fun b j _ e => ⟨e, rfl⟩) (fun _ _ => rfl) (.inr hv), I.tio, I.own, I.tid, I.keep, I.mio⟩
  obtain ⟨e1, e2⟩ := h i c e
  obtain ⟨v, h1, h2⟩ := I.slot i c e1
  exact ⟨v, e2.trans h1, h2.tr (fun _ h _ => h) Keeps.refl (fun b e => ⟨e, rfl⟩) (fun _ _ => rfl) (.inr hv)⟩
/-- the owned object of slot i is changed -/
theorem RSo.write {i : Nat} {o' : HO} {d d' : D} (I : RSo F ow σ H ρ τ) (hs : σ[i]? = some (some (.ref a))) (hc : ρ[i]? = some (some (.own d))) (ha : ow a = some (.inl i)) (h : Holds F ow (upd H a o') a d') : RSo F ow σ (upd H a o') (ρ.set i (some (.own d'))) τ := by
  have hi : i < ρ.length := (List.getElem?_eq_some_iff.mp hc).1
  obtain ⟨g1, g2, g3⟩ := I.own a _ ha
  have nb : ∀ b id, ow b = some id → id ≠ .inl i → b ≠ a := fun b id e n z => by rw [z, ha] at e; exact n (Option.some.inj e).symm
  obtain ⟨v0, q1, a0, q2, q3, q4⟩ := I.slot i _ hc
  have ea : a0 = a := by
    rw [hs] at q1; cases q1; cases q2; rfl
  subst ea
  have mu := q4.some.2
  have kk : Keeps (F.N ow) H (upd H a0 o') := fun b o e hb => by
    have : b ≠ a0 := by
      rintro rfl
      rcases hb with hb | ⟨xs, rfl⟩ | ⟨ob, u, rfl⟩
      · rw [hb.1] at ha; cases ha
      · rw [e] at mu; exact mu.elim
      · rw [e] at mu; exact mu.elim
    rw [upd_ne this]; exact e
  have hN : ∀ b, F.N ow b → (H b).isSome = true → F.N ow b := fun _ h _ => h
  have hio : ∀ b, F.io = some b → upd H a0 o' b = H b := fun b e => upd_ne fun z => g3 (z ▸ e)
  have hv : Vw σ σ ρ (ρ.set i (some (.own d'))) := fun j c e n => by
    refine ⟨?_, rfl⟩
    by_cases hj : j = i
    · subst hj; exact ⟨_, hc, fun _ z => by cases z⟩
    · rw [List.getElem?_set_ne (Ne.symm hj)] at e; exact ⟨c, e, n⟩
  refine ⟨by rw [List.length_set]; exact I.len, fun j c e => ?_, fun j d e => ?_, I.tmp.tr hN kk (fun b j _ e => ⟨e, upd_ne (nb b _ e fun z => by cases z)⟩) hio (.inr hv), I.tio, fun b id e => ?_, I.tid, fun b o e1 e2 => ?_, fun b e => ?_⟩
  · by_cases hj : j = i
    · subst hj
      rw [List.getElem?_set_self hi] at e; cases e
      exact ⟨_, hs, a0, rfl, ha, h⟩
    · rw [List.getElem?_set_ne (Ne.symm hj)] at e
      obtain ⟨w, h1, h2⟩ := I.slot j c e
      exact ⟨w, h1, h2.tr hN kk (fun b e => ⟨e, upd_ne (nb b _ e fun z => hj (Sum.inl.inj z))⟩) hio (.inr hv)⟩
  · by_cases hj : j = i
    · subst hj
      rw [List.getElem?_set_self hi] at e; cases e; trivial
    · rw [List.getElem?_set_ne (Ne.symm hj)] at e
      exact I.io j d e
  · obtain ⟨f1, f2⟩ := I.own b id e
    refine ⟨?_, f2⟩
    by_cases hb : b = a0
    · subst hb; rw [upd_same]; rfl
    · rw [upd_ne hb]; exact f1
  · have : b ≠ a0 := fun z => by rw [z, g2] at e1; cases e1
    rw [upd_ne this]; exact I.keep b o e1 e2
  · rw [hio b e]; exact I.mio b e
/-- the object that was handed in is changed -/
theorem RSo.writeIo {o' : HO} {d d' : D} (I : RSo F ow σ H ρ τ) (hs : σ[0]? = some (some (.ref a))) (hc : ρ[0]? = some (some (.io d))) (ha : F.io = some a) (mo : Mut (some o')) (h : Holds F ow (upd H a o') a d') : RSo F ow σ (upd H a o') (ρ.set 0 (some (.io d'))) τ := by
  have hi : 0 < ρ.length := (List.getElem?_eq_some_iff.mp hc).1
  obtain ⟨v0, q1, a0, q2, q3, q4⟩ := I.slot 0 _ hc
  have ea : a0 = a := by
    rw [ha] at q3; exact (Option.some.inj q3).symm
  subst ea
  have mu := q4.some.2
  have nb : ∀ b id, ow b = some id → b ≠ a0 := fun b id e z => (I.own b id e).2.2 (z ▸ ha)
  have kk : Keeps (F.N ow) H (upd H a0 o') := fun b o e hb => by
    have : b ≠ a0 := by
      rintro rfl
      rcases hb with hb | ⟨xs, rfl⟩ | ⟨ob, u, rfl⟩
      · exact hb.2.1 ha
      · rw [e] at mu; exact mu.elim
      · rw [e] at mu; exact mu.elim
    rw [upd_ne this]; exact e
  have hN : ∀ b, F.N ow b → (H b).isSome = true → F.N ow b := fun _ h _ => h
  have hv : Vw σ σ ρ (ρ.set 0 (some (.io d'))) := fun j c e n => by
    refine ⟨?_, rfl⟩
    by_cases hj : j = 0
    · subst hj; exact ⟨_, hc, fun _ z => by cases z⟩
    · rw [List.getElem?_set_ne (Ne.symm hj)] at e; exact ⟨c, e, n⟩
  refine ⟨by rw [List.length_set]; exact I.len, fun j c e => ?_, fun j d e => ?_, ?_, I.tio, fun b id e => ?_, I.tid, fun b o e1 e2 => ?_, fun b e => ?_⟩
  · by_cases hj : j = 0
    · subst hj
      rw [List.getElem?_set_self hi] at e; cases e
      exact ⟨_, hs, a0, rfl, ha, h⟩
    · rw [List.getElem?_set_ne (Ne.symm hj)] at e
      obtain ⟨w, h1, h2⟩ := I.slot j c e
      refine ⟨w, h1, ?_⟩
      cases c with
      | ro d => exact Rep.keep kk hN h2
      | own d => obtain ⟨b, e1, e2, e3⟩ := h2; exact ⟨b, e1, e2, e3.tr hN kk (upd_ne (nb b _ e2))⟩
      | io d => exact absurd (I.io j _ e) hj
      | view k => exact (I.io j _ e).elim
  · by_cases hj : j = 0
    · subst hj
      rw [List.getElem?_set_self hi] at e; cases e; rfl
    · rw [List.getElem?_set_ne (Ne.symm hj)] at e
      exact I.io j d e
  · have go : ∀ {τ : List (V × C)}, (∀ t ∈ τ, ∀ d, t.2 ≠ .io d) → Tmps F ow σ ρ H τ → Tmps F ow σ (ρ.set 0 (some (.io d'))) (upd H a0 o') τ := by
      intro τ
      induction τ with
      | nil => exact fun _ _ => trivial
      | cons t ts ih =>
        intro hi ⟨h1, h2⟩
        refine ⟨?_, ih (fun u hu => hi u (List.mem_cons_of_mem _ hu)) h2⟩
        obtain ⟨w, c⟩ := t
        cases c with
        | ro d => exact Rep.keep kk hN h1
        | own d => obtain ⟨b, e1, e2, e3⟩ := h1; exact ⟨b, e1, e2, e3.tr hN kk (upd_ne (nb b _ e2))⟩
        | io d => exact absurd rfl (hi _ List.mem_cons_self d)
        | view k => exact fun c' e1 e2 => (let ⟨⟨c2, h3, h4⟩, h5⟩ := hv k c' e1 e2; h5.trans (h1 c2 h3 h4))
    exact go I.tio I.tmp
  · obtain ⟨f1, f2⟩ := I.own b id e
    exact ⟨by rw [upd_ne (nb b id e)]; exact f1, f2⟩
  · have : b ≠ a0 := fun z => e2 (z ▸ ha)
    rw [upd_ne this]; exact I.keep b o e1 e2
  · rw [ha] at e; cases e
    obtain ⟨o, _, _, h3⟩ := I.mio a0 ha
    exact ⟨o', upd_same, mo, h3⟩
end
end Dn

namespace Dn
open PySem L2
/-! ### what is read of a value: its top may be any, what lies in it is N's -/
def RepX (K : PySem.W.Frag) (N : Addr → Prop) (H : Hp) (v : V) : D → Prop
  | .lst ds => ∃ a vs, v = .ref a ∧ H a = some (.lst vs) ∧ RepL K N H vs ds
  | .dct ds => ∃ a vs, v = .ref a ∧ Rd H a (.dK vs) ∧ RepK K N H vs ds
  | .dtt ds => ∃ a vs, v = .ref a ∧ Rd H a (.dT vs) ∧ RepT K N H vs ds
  | d => Rep K N H v d
inductive RepXL (K : PySem.W.Frag) (N : Addr → Prop) (H : Hp) : List V → List D → Prop
  | nil : RepXL K N H [] []
  | cons {v : V} {vs : List V} {d : D} {ds : List D} : RepX K N H v d → RepXL K N H vs ds → RepXL K N H (v :: vs) (d :: ds)
section
variable {K : PySem.W.Frag} {N N' : Addr → Prop} {H H' : Hp} {v : V} {d : D} {a : Addr}
theorem Rep.x (h : Rep K N H v d) : RepX K N H v d := by
  cases h with
  | lst n h r => exact ⟨_, _, rfl, h, r⟩
  | dct n h r => exact ⟨_, _, rfl, h, r⟩
  | dtt n h r => exact ⟨_, _, rfl, h, r⟩
  | non => exact .non
  | bl b => exact .bl b
  | int b => exact .int b
  | str b => exact .str b
  | tup h r => exact .tup h r
  | scr h => exact .scr h
  | ty n => exact .ty n
theorem HoldsN.x (h : HoldsN K N H a d) : RepX K N H (.ref a) d := by
  cases d with
  | lst ds => obtain ⟨vs, h1, r⟩ := h; exact ⟨a, vs, rfl, h1, r⟩
  | dct ds => obtain ⟨vs, h1, r⟩ := h; exact ⟨a, vs, rfl, .inl h1, r⟩
  | dtt ds => obtain ⟨vs, h1, r⟩ := h; exact ⟨a, vs, rfl, .inl h1, r⟩
  | _ => exact h.elim
theorem RepX.mono (n : ∀ b, N b → (H b).isSome = true → N' b) (h : RepX K N H v d) : RepX K N' H v d := by
  cases d with
  | lst ds => obtain ⟨a, vs, e, h1, r⟩ := h; exact ⟨a, vs, e, h1, r.mono n⟩
  | dct ds => obtain ⟨a, vs, e, h1, r⟩ := h; exact ⟨a, vs, e, h1, r.mono n⟩
  | dtt ds => obtain ⟨a, vs, e, h1, r⟩ := h; exact ⟨a, vs, e, h1, r.mono n⟩
  | non => exact Rep.mono n h
  | bl b => exact Rep.mono n h
  | int b => exact Rep.mono n h
  | str b => exact Rep.mono n h
  | tup b => exact Rep.mono n h
  | scr b => exact Rep.mono n h
  | ty b => exact Rep.mono n h
theorem RepXL.mono (n : ∀ b, N b → (H b).isSome = true → N' b) : ∀ {vs : List V} {ds : List D}, RepXL K N H vs ds → RepXL K N' H vs ds
  | _, _, .nil => .nil
  | _, _, .cons h r => .cons (h.mono n) (RepXL.mono n r)
/-- the same with every node told to be N's: the weak reading -/
theorem RepX.rep (h : RepX K N H v d) (n : ∀ b, (H b).isSome = true → N' b) : Rep K N' H v d := by
  have nn : ∀ b, N b → (H b).isSome = true → N' b := fun b _ => n b
  have rs : ∀ {b : Addr} {u : HO}, Rd H b u → (H b).isSome = true := fun h => by rcases h with h | ⟨o, h⟩ <;> rw [h] <;> rfl
  cases d with
  | lst ds => obtain ⟨a, vs, rfl, h1, r⟩ := h; exact .lst (n _ (rs (.inl h1))) h1 (r.mono nn)
  | dct ds => obtain ⟨a, vs, rfl, h1, r⟩ := h; exact .dct (n _ (rs h1)) h1 (r.mono nn)
  | dtt ds => obtain ⟨a, vs, rfl, h1, r⟩ := h; exact .dtt (n _ (rs h1)) h1 (r.mono nn)
  | non => exact Rep.mono nn h
  | bl b => exact Rep.mono nn h
  | int b => exact Rep.mono nn h
  | str b => exact Rep.mono nn h
  | tup b => exact Rep.mono nn h
  | scr b => exact Rep.mono nn h
  | ty b => exact Rep.mono nn h
theorem RepXL.rep (n : ∀ b, (H b).isSome = true → N' b) : ∀ {vs : List V} {ds : List D}, RepXL K N H vs ds → RepL K N' H vs ds
  | _, _, .nil => .nil
  | _, _, .cons h r => .cons (h.rep n) (RepXL.rep n r)
theorem RepL.x : ∀ {vs : List V} {ds : List D}, RepL K N H vs ds → RepXL K N H vs ds
  | _, _, .nil => .nil
  | _, _, .cons h r => .cons h.x (RepL.x r)
end
/-! ### data without lists or dicts -/
mutual
def D.imm : D → Bool
  | .tup xs => D.immL xs
  | .lst _ => false
  | .dct _ => false
  | .dtt _ => false
  | .non => true
  | .bl _ => true
  | .int _ => true
  | .str _ => true
  | .scr _ => true
  | .ty _ => true
def D.immL : List D → Bool
  | [] => true
  | x :: xs => D.imm x && D.immL xs
end
theorem D.immL_eq : ∀ xs : List D, D.immL xs = xs.all D.imm
  | [] => rfl
  | x :: xs => by simp [D.immL, D.immL_eq xs]
section
variable {K : PySem.W.Frag} {N N' : Addr → Prop} {H : Hp}
mutual
theorem Rep.imm : ∀ {v : V} {d : D}, Rep K N H v d → D.imm d = true → Rep K N' H v d
  | _, _, .non, _ => .non
  | _, _, .bl b, _ => .bl b
  | _, _, .int b, _ => .int b
  | _, _, .str b, _ => .str b
  | _, _, .tup h r, i => .tup h (RepL.imm r (by simpa [D.imm] using i))
  | _, _, .scr h, _ => .scr h
  | _, _, .ty n, _ => .ty n
  | _, _, .lst _ _ _, i => by simp [D.imm] at i
  | _, _, .dct _ _ _, i => by simp [D.imm] at i
  | _, _, .dtt _ _ _, i => by simp [D.imm] at i
theorem RepL.imm : ∀ {v : List V} {d : List D}, RepL K N H v d → D.immL d = true → RepL K N' H v d
  | _, _, .nil, _ => .nil
  | _, _, .cons h r, i => by
    simp only [D.immL, Bool.and_eq_true] at i
    exact .cons (Rep.imm h i.1) (RepL.imm r i.2)
end
theorem RepK.imm : ∀ {v : List (Key × V)} {d : List (Key × D)}, RepK K N H v d → D.immL (d.map (·.2)) = true → RepK K N' H v d
  | _, _, .nil, _ => .nil
  | _, _, .cons h r, i => by
    simp only [List.map_cons, D.immL, Bool.and_eq_true] at i
    exact .cons (Rep.imm h i.1) (RepK.imm r i.2)
theorem RepT.imm : ∀ {v : List (List Key × V)} {d : List (List Key × D)}, RepT K N H v d → D.immL (d.map (·.2)) = true → RepT K N' H v d
  | _, _, .nil, _ => .nil
  | _, _, .cons h r, i => by
    simp only [List.map_cons, D.immL, Bool.and_eq_true] at i
    exact .cons (Rep.imm h i.1) (RepT.imm r i.2)
end
/-- a result in which nothing of the arguments' lists lies -/
def C.clean : C → Bool
  | .ro d => d.imm
  | .own (.lst ds) => D.immL ds
  | .own (.dct ds) => D.immL (ds.map (·.2))
  | .own (.dtt ds) => D.immL (ds.map (·.2))
  | _ => false
theorem Ret.clean {K : PySem.W.Frag} {N N' : Addr → Prop} {H H' : Hp} {v : V} {c : C} (h : Ret K N H H' v c) (k : c.clean = true) : Ret K N' H H' v c := by
  cases c with
  | ro d => exact Rep.imm h k
  | own d =>
    obtain ⟨a, e, n, h⟩ := h
    refine ⟨a, e, n, ?_⟩
    cases d with
    | lst ds => obtain ⟨vs, h1, r⟩ := h; exact ⟨vs, h1, r.imm k⟩
    | dct ds => obtain ⟨vs, h1, r⟩ := h; exact ⟨vs, h1, r.imm k⟩
    | dtt ds => obtain ⟨vs, h1, r⟩ := h; exact ⟨vs, h1, r.imm k⟩
    | _ => exact h.elim
  | io d => exact h.elim
  | view d => exact h.elim
/-! ### values on the stack -/
def dat (ρ : Env) : C → Option D
  | .ro d => some d
  | .own d => some d
  | .io d => some d
  | .view i => match ρ[i]? with
    | some (some (.own d)) => some d
    | some (some (.io d)) => some d
    | _ => none
def dats (ρ : Env) : List C → Option (List D)
  | [] => some []
  | c :: cs => match dat ρ c, dats ρ cs with
    | some d, some ds => some (d :: ds)
    | _, _ => none
def stk : List V → List C → List (V × C) → List (V × C)
  | v :: vs, c :: cs, τ => stk vs cs ((v, c) :: τ)
  | _, _, τ => τ
section
variable {F : Fr} {ow : Ow} {id : Sum Nat Nat} {H : Hp} {σ : St} {ρ : Env} {τ : List (V × C)} {v : V} {c : C} {d : D}
theorem RSo.x (I : RSo F ow σ H ρ τ) (h : RepC F ow id σ ρ H v c) (e : dat ρ c = some d) : RepX F.K (F.N ow) H v d := by
  cases c with
  | ro d' => cases e; exact Rep.x h
  | own d' => cases e; obtain ⟨a, rfl, _, q⟩ := h; exact q.x
  | io d' => cases e; obtain ⟨a, rfl, _, q⟩ := h; exact q.x
  | view i =>
    dsimp only [dat] at e
    cases q : ρ[i]? with
    | none => rw [q] at e; cases e
    | some o =>
      rw [q] at e
      cases o with
      | none => cases e
      | some c =>
        cases c with
        | ro d' => cases e
        | view d' => cases e
        | own d' =>
          cases e
          have hv := h _ q (fun _ z => by cases z)
          obtain ⟨w, h1, a, rfl, _, q2⟩ := I.slot i _ q
          rw [hv] at h1; cases h1
          exact q2.x
        | io d' =>
          cases e
          have hv := h _ q (fun _ z => by cases z)
          obtain ⟨w, h1, a, rfl, _, q2⟩ := I.slot i _ q
          rw [hv] at h1; cases h1
          exact q2.x
theorem RSo.take : ∀ {vs : List V} {cs : List C} {ow : Ow} {τ : List (V × C)}, vs.length = cs.length → RSo F ow σ H ρ (stk vs cs τ) → ∃ ow', RSo F ow' σ H ρ τ ∧ ∀ ds, dats ρ cs = some ds → RepXL F.K (F.N ow') H vs ds
  | [], [], ow, τ, _, I => ⟨ow, I, fun ds e => by cases e; exact .nil⟩
  | v :: vs, c :: cs, ow, τ, hl, I => by
    obtain ⟨ow1, I1, r1⟩ := RSo.take (vs := vs) (cs := cs) (τ := (v, c) :: τ) (by simpa using hl) I
    refine ⟨_, I1.pop, fun ds e => ?_⟩
    unfold dats at e
    cases q1 : dat ρ c with
    | none => rw [q1] at e; cases e
    | some d =>
      cases q2 : dats ρ cs with
      | none => rw [q1, q2] at e; cases e
      | some ds' =>
        rw [q1, q2] at e; cases e
        exact .cons ((I1.x I1.tmp.1 q1).mono drop_N) ((r1 ds' q2).mono drop_N)
  | [], _ :: _, _, _, hl, _ => by simp at hl
  | _ :: _, [], _, _, hl, _ => by simp at hl
end
end Dn

namespace Dn
open PySem L2
/-! ### what an expression, a test, an argument list is worth -/
abbrev P1 := Env → Option (C × Env)
abbrev PT1 := Env → Option (Bool × Env)
abbrev PAs := Env → Option (List C × Env)
def tD (F : Fr) (p : P1) : TE := fun σ H Q => ∃ ρ τ c ρ', RS F σ H ρ τ ∧ p ρ = some (c, ρ') ∧ ∀ v H', RS F σ H' ρ' ((v, c) :: τ) → Q v H'
def tDT (F : Fr) (p : PT1) : TT := fun σ H Q => ∃ ρ τ b ρ', RS F σ H ρ τ ∧ p ρ = some (b, ρ') ∧ ∀ H', RS F σ H' ρ' τ → Q b H'
def tDA (F : Fr) (p : PAs) : TA := fun σ H Q => ∃ ρ τ cs ρ', RS F σ H ρ τ ∧ p ρ = some (cs, ρ') ∧ ∀ vs H', vs.length = cs.length → RS F σ H' ρ' (stk vs cs τ) → Q vs H'
/-- operations on data -/
def FunS (K : PySem.W.Frag) (r : List V → Hp → VK → Prop) (f : List D → Option C) : Prop :=
  ∀ (N : Addr → Prop) (H : Hp) (vs : List V) (ds : List D) (c : C) (Q : VK), RepXL K N H vs ds → f ds = some c → (∀ v H', Same H H' → Ret K N H H' v c → Q v H') → r vs H Q
def Op2S (K : PySem.W.Frag) (r : R2) (f : D → D → Option C) : Prop :=
  ∀ (N : Addr → Prop) (H : Hp) (x y : V) (dx dy : D) (c : C) (Q : VK), RepX K N H x dx → RepX K N H y dy → f dx dy = some c → (∀ v H', Same H H' → Ret K N H H' v c → Q v H') → r x y H Q
def Op1S (K : PySem.W.Frag) (r : V → Hp → VK → Prop) (f : D → Option C) : Prop :=
  ∀ (N : Addr → Prop) (H : Hp) (x : V) (dx : D) (c : C) (Q : VK), RepX K N H x dx → f dx = some c → (∀ v H', Same H H' → Ret K N H H' v c → Q v H') → r x H Q
section
variable {X : Cx} {F : Fr} {σ : St} {H : Hp} {ρ ρ' : Env} {τ : List (V × C)} {e a b : Expr} {pos : Pos} {p pa pb : P1} {q qa qb : PT1}
theorem PE.imp {t t' : TE} (h : PE X e t) (k : ∀ σ H Q, t' σ H Q → t σ H Q) : PE X e t' := ⟨fun pins s σ H Q I hw => h.run pins s σ H Q I (k σ H Q hw)⟩
theorem PT.imp {t t' : TT} (h : PT X e t) (k : ∀ σ H Q, t' σ H Q → t σ H Q) : PT X e t' := ⟨fun pins s σ H Q I hw => h.run pins s σ H Q I (k σ H Q hw)⟩
theorem PA.imp {es : List Expr} {t t' : TA} (h : PA X es t) (k : ∀ σ H Q, t' σ H Q → t σ H Q) : PA X es t' := ⟨fun pos pins s σ H Q I hw => h.run pos pins s σ H Q I (k σ H Q hw)⟩
theorem PS.imp {st : Stmt} {t t' : TS} (h : PS X st t) (k : ∀ D σ H, t' D σ H → t D σ H) : PS X st t' := ⟨fun pins s σ H D I hw => h.run pins s σ H D I (k D σ H hw)⟩
theorem PSs.imp {st : List Stmt} {t t' : TS} (h : PSs X st t) (k : ∀ D σ H, t' D σ H → t D σ H) : PSs X st t' := ⟨fun pins s σ H D I hw => h.run pins s σ H D I (k D σ H hw)⟩
theorem RS.pushRo {v : V} {d : D} (h : ∃ ow, RSo F ow σ H ρ τ ∧ Rep F.K (F.N ow) H v d) : RS F σ H ρ ((v, .ro d) :: τ) := let ⟨ow, I, r⟩ := h; ⟨ow, I.push r⟩
/-! constants, names -/
def pC (d : D) : P1 := fun ρ => some (.ro d, ρ)
theorem de_c {v : V} {d : D} (h : PE X e (tC v)) (r : ∀ K N H, Rep K N H v d) : PE X e (tD F (pC d)) := PE.imp h fun σ H Q hw => by
  obtain ⟨ρ, τ, c, ρ', ⟨ow, I⟩, e1, k⟩ := hw
  cases e1
  exact k v H ⟨ow, I.push (r _ _ _)⟩
def pVar (i : Nat) : P1 := fun ρ => match ρ[i]? with
  | some (some (.ro d)) => some (.ro d, ρ)
  | some (some (.own _)) => some (.view i, ρ)
  | some (some (.io _)) => some (.view i, ρ)
  | _ => none
theorem RSo.pushView {i : Nat} {v : V} {ow : Ow} (I : RSo F ow σ H ρ τ) (h : ∀ c, ρ[i]? = some (some c) → (∀ d, c ≠ .ro d) → σ[i]? = some (some v)) : RSo F ow σ H ρ ((v, .view i) :: τ) :=
  ⟨I.len, I.slot, I.io, ⟨h, I.tmp⟩, fun t ht d' e => by
    rcases List.mem_cons.mp ht with rfl | ht
    · cases e
    · exact I.tio t ht d' e, I.own, fun b j e => Nat.lt_succ_of_lt (I.tid b j e), I.keep, I.mio⟩
theorem de_var {i : Nat} (h : PE X e (tVar i)) : PE X e (tD F (pVar i)) := PE.imp h fun σ H Q hw => by
  obtain ⟨ρ, τ, c, ρ', ⟨ow, I⟩, e1, k⟩ := hw
  dsimp only [pVar] at e1
  cases q : ρ[i]? with
  | none => rw [q] at e1; cases e1
  | some o =>
    cases o with
    | none => rw [q] at e1; cases e1
    | some c1 =>
      rw [q] at e1
      obtain ⟨v, h1, h2⟩ := I.slot i c1 q
      refine ⟨v, h1, ?_⟩
      cases c1 with
      | ro d => cases e1; exact k v H ⟨ow, I.push h2⟩
      | own d => cases e1; exact k v H ⟨ow, I.pushView fun _ _ _ => h1⟩
      | io d => cases e1; exact k v H ⟨ow, I.pushView fun _ _ _ => h1⟩
      | view d => cases e1
/-! operators -/
def pOp2 (f : D → D → Option C) (pa pb : P1) : P1 := fun ρ => (pa ρ).bind fun a => (pb a.2).bind fun b => (dat b.2 a.1).bind fun x => (dat b.2 b.1).bind fun y => (f x y).map fun c => (c, b.2)
def pOp1 (f : D → Option C) (pa : P1) : P1 := fun ρ => (pa ρ).bind fun a => (dat a.2 a.1).bind fun x => (f x).map fun c => (c, a.2)
theorem op2_of {r : R2} {f : D → D → Option C} (hf : Op2S F.K r f) {σ : St} {H : Hp} {Q : VK} (hw : tD F (pOp2 f pa pb) σ H Q) : tOp r (tD F pa) (tD F pb) σ H Q := by
  obtain ⟨ρ, τ, c, ρ', I, e1, k⟩ := hw
  simp only [pOp2, Option.bind_eq_some_iff, Option.map_eq_some_iff] at e1
  obtain ⟨⟨c1, ρ1⟩, h1, ⟨c2, ρ2⟩, h2, x, hx, y, hy, c3, h3, e2⟩ := e1
  cases e2
  refine ⟨ρ, τ, c1, ρ1, I, h1, fun v H1 I1 => ⟨ρ1, _, c2, ρ2, I1, h2, fun u H2 I2 => ?_⟩⟩
  obtain ⟨ow, I2⟩ := I2
  obtain ⟨ow', I3, rx⟩ := RSo.take (vs := [v, u]) (cs := [c1, c2]) rfl I2
  have rr := rx [x, y] (by simp only [dats]; rw [hx, hy])
  cases rr with
  | cons r1 rr =>
    cases rr with
    | cons r2 _ =>
      refine hf _ _ _ _ _ _ _ _ r1 r2 h3 fun v' H' g rt => ?_
      obtain ⟨ow2, I4, _⟩ := I3.ret g rt
      exact k v' H' ⟨ow2, I4⟩
theorem op1_of {r : V → Hp → VK → Prop} {f : D → Option C} (hf : Op1S F.K r f) {σ : St} {H : Hp} {Q : VK} (hw : tD F (pOp1 f pa) σ H Q) : tD F pa σ H fun x H1 => r x H1 Q := by
  obtain ⟨ρ, τ, c, ρ', I, e1, k⟩ := hw
  simp only [pOp1, Option.bind_eq_some_iff, Option.map_eq_some_iff] at e1
  obtain ⟨⟨c1, ρ1⟩, h1, x, hx, c3, h3, e2⟩ := e1
  cases e2
  refine ⟨ρ, τ, c1, ρ1, I, h1, fun v H1 I1 => ?_⟩
  obtain ⟨ow, I2⟩ := I1
  obtain ⟨ow', I3, rx⟩ := RSo.take (vs := [v]) (cs := [c1]) rfl I2
  have rr := rx [x] (by simp only [dats]; rw [hx])
  cases rr with
  | cons r1 rr =>
      refine hf _ _ _ _ _ _ r1 h3 fun v' H' g rt => ?_
      obtain ⟨ow2, I4, _⟩ := I3.ret g rt
      exact k v' H' ⟨ow2, I4⟩
theorem de_op2 {op : Operator} {r : R2} {f : D → D → Option C} (ho : OpR X (binaryOp op) r) (hf : Op2S F.K r f) (ha : PE X a (tD F pa)) (hb : PE X b (tD F pb)) : PE X (.BinOp a op b pos) (tD F (pOp2 f pa pb)) :=
  PE.imp (pe_op ho ha hb) fun _ _ _ => op2_of hf
theorem de_op1 {op : UnaryOp} {r : V → Hp → VK → Prop} {f : D → Option C} (ho : UnR X (unaryOp op) r) (hf : Op1S F.K r f) (ha : PE X a (tD F pa)) : PE X (.UnaryOp op a pos) (tD F (pOp1 f pa)) :=
  PE.imp (pe_un ho ha) fun _ _ _ => op1_of hf
theorem de_cmp {op : CmpOp} {r : R2} {f : D → D → Option C} (ho : OpR X (compareOp op) r) (hf : Op2S F.K r f) (ha : PE X a (tD F pa)) (hb : PE X b (tD F pb)) (hm : behindInMarks op b = false) : PE X (.Compare a [op] [b] pos) (tD F (pOp2 f pa pb)) :=
  PE.imp (pe_cmpR ho ha hb hm) fun _ _ _ => op2_of hf
theorem de_ix {r : R2} {f : D → D → Option C} (hr : IxR X r) (hf : Op2S F.K r f) (ha : PE X a (tD F pa)) (hb : PE X b (tD F pb)) (hs : PlainIx b) : PE X (.Subscript a b pos) (tD F (pOp2 f pa pb)) :=
  PE.imp (pe_ix hr ha hb hs) fun _ _ _ => op2_of hf
/-! arguments -/
def pNil : PAs := fun ρ => some ([], ρ)
def pCons (p : P1) (ps : PAs) : PAs := fun ρ => (p ρ).bind fun a => (ps a.2).map fun b => (a.1 :: b.1, b.2)
theorem da_nil : PA X [] (tDA F pNil) := PA.imp pa_nil fun σ H Q hw => by
  obtain ⟨ρ, τ, c, ρ', I, e1, k⟩ := hw
  cases e1
  exact k [] H rfl I
theorem da_cons {es : List Expr} {ps : PAs} (ha : PE X e (tD F p)) (hr : PA X es (tDA F ps)) (hs : starEach (e :: es) X.env = (false, eval e X.env) :: starEach es X.env := by rfl) : PA X (e :: es) (tDA F (pCons p ps)) := PA.imp (pa_cons ha hr hs) fun σ H Q hw => by
  obtain ⟨ρ, τ, c, ρ', I, e1, k⟩ := hw
  simp only [pCons, Option.bind_eq_some_iff, Option.map_eq_some_iff] at e1
  obtain ⟨⟨c1, ρ1⟩, h1, ⟨cs, ρ2⟩, h2, e2⟩ := e1
  cases e2
  exact ⟨ρ, τ, c1, ρ1, I, h1, fun v H1 I1 => ⟨ρ1, _, cs, ρ2, I1, h2, fun vs H2 hl I2 => k (v :: vs) H2 (by simp [hl]) I2⟩⟩
/-! built-ins -/
def pFun (f : List D → Option C) (ps : PAs) : P1 := fun ρ => (ps ρ).bind fun a => (dats a.2 a.1).bind fun ds => (f ds).map fun c => (c, a.2)
theorem fun_of {r : List V → Hp → VK → Prop} {f : List D → Option C} {ps : PAs} (hf : FunS F.K r f) {σ : St} {H : Hp} {Q : VK} (hw : tD F (pFun f ps) σ H Q) : tDA F ps σ H fun vs H1 => r vs H1 Q := by
  obtain ⟨ρ, τ, c, ρ', I, e1, k⟩ := hw
  simp only [pFun, Option.bind_eq_some_iff, Option.map_eq_some_iff] at e1
  obtain ⟨⟨cs, ρ1⟩, h1, ds, hd, c3, h3, e2⟩ := e1
  cases e2
  refine ⟨ρ, τ, cs, ρ1, I, h1, fun vs H1 hl I1 => ?_⟩
  obtain ⟨ow, I2⟩ := I1
  obtain ⟨ow', I3, rx⟩ := RSo.take hl I2
  refine hf _ _ _ _ _ _ (rx ds hd) h3 fun v' H' g rt => ?_
  obtain ⟨ow2, I4, _⟩ := I3.ret g rt
  exact k v' H' ⟨ow2, I4⟩
/-! tests, and, or, not, if -/
def pB (p : P1) : PT1 := fun ρ => (p ρ).bind fun a => match a.1 with
  | .ro (.bl b) => some (b, a.2)
  | _ => none
theorem tb_of {σ : St} {H : Hp} {Q : Bool → Hp → Prop} (hw : tDT F (pB p) σ H Q) : tD F p σ H fun x H1 => ∃ k, x = .bl k ∧ Q k H1 := by
  obtain ⟨ρ, τ, b, ρ', I, e1, k⟩ := hw
  simp only [pB, Option.bind_eq_some_iff] at e1
  obtain ⟨⟨c1, ρ1⟩, h1, e2⟩ := e1
  refine ⟨ρ, τ, c1, ρ1, I, h1, fun v H1 I1 => ?_⟩
  obtain ⟨ow, I1⟩ := I1
  cases c1 with
  | ro d =>
    cases d with
    | bl b' =>
      cases e2
      have := I1.tmp.1
      cases this
      exact ⟨_, rfl, k H1 ⟨_, I1.pop⟩⟩
    | _ => cases e2
  | _ => cases e2
theorem dt_val (h : PE X e (tD F p)) (he : ∀ whole, isTrue e X.env whole = (do let v ← whole; standAt e.pos; holding [v] (truthy v)) := by intro _; rfl) : PT X e (tDT F (pB p)) := PT.imp (pt_val h he) fun _ _ _ => tb_of
theorem dt_cmp {op : CmpOp} {r : R2} {f : D → D → Option C} (ho : OpR X (compareOp op) r) (hf : Op2S F.K r f) (ha : PE X a (tD F pa)) (hb : PE X b (tD F pb)) (hm : behindInMarks op b = false) : PT X (.Compare a [op] [b] pos) (tDT F (pB (pOp2 f pa pb))) :=
  PT.imp (pt_cmpR ho ha hb hm) fun _ _ _ hw => op2_of hf (Q := _) (tb_of hw)
def qAnd (qa qb : PT1) : PT1 := fun ρ => (qa ρ).bind fun a => if a.1 = true then qb a.2 else some (false, a.2)
def qOr (qa qb : PT1) : PT1 := fun ρ => (qa ρ).bind fun a => if a.1 = true then some (true, a.2) else qb a.2
def qNot (qa : PT1) : PT1 := fun ρ => (qa ρ).map fun a => (!a.1, a.2)
variable {rest : List Expr}
theorem PW.imp {t t' : TT} (h : PW X e t) (k : ∀ σ H Q, t' σ H Q → t σ H Q) : PW X e t' := ⟨fun wh pins s σ H Q I hw => h.run wh pins s σ H Q I (k σ H Q hw)⟩
theorem dw_and1 (ha : PT X a (tDT F qa)) : PW X (.BoolOp .And [a] pos) (tDT F qa) := pw_and1 ha
theorem dw_or1 (ha : PT X a (tDT F qa)) : PW X (.BoolOp .Or [a] pos) (tDT F qa) := pw_or1 ha
theorem dw_and (ha : PT X a (tDT F qa)) (hb : PW X (.BoolOp .And (b :: rest) pos) (tDT F qb)) : PW X (.BoolOp .And (a :: b :: rest) pos) (tDT F (qAnd qa qb)) := PW.imp (pw_and ha hb) fun σ H Q hw => by
  obtain ⟨ρ, τ, k, ρ', I, e1, k'⟩ := hw
  simp only [qAnd, Option.bind_eq_some_iff] at e1
  obtain ⟨⟨c1, ρ1⟩, h1, e2⟩ := e1
  refine ⟨ρ, τ, c1, ρ1, I, h1, fun H1 I1 => ?_⟩
  cases c1 with
  | true => exact ⟨ρ1, τ, k, ρ', I1, e2, k'⟩
  | false => cases e2; exact k' H1 I1
theorem dw_or (ha : PT X a (tDT F qa)) (hb : PW X (.BoolOp .Or (b :: rest) pos) (tDT F qb)) : PW X (.BoolOp .Or (a :: b :: rest) pos) (tDT F (qOr qa qb)) := PW.imp (pw_or ha hb) fun σ H Q hw => by
  obtain ⟨ρ, τ, k, ρ', I, e1, k'⟩ := hw
  simp only [qOr, Option.bind_eq_some_iff] at e1
  obtain ⟨⟨c1, ρ1⟩, h1, e2⟩ := e1
  refine ⟨ρ, τ, c1, ρ1, I, h1, fun H1 I1 => ?_⟩
  cases c1 with
  | true => cases e2; exact k' H1 I1
  | false => exact ⟨ρ1, τ, k, ρ', I1, e2, k'⟩
theorem dt_w (h : PW X e (tDT F q)) : PT X e (tDT F q) := h.pt
theorem dt_not (ha : PT X a (tDT F qa)) : PT X (.UnaryOp .Not a pos) (tDT F (qNot qa)) := PT.imp (pt_not ha) fun σ H Q hw => by
  obtain ⟨ρ, τ, k, ρ', I, e1, k'⟩ := hw
  simp only [qNot, Option.map_eq_some_iff] at e1
  obtain ⟨⟨c1, ρ1⟩, h1, e2⟩ := e1
  cases e2
  exact ⟨ρ, τ, c1, ρ1, I, h1, fun H1 I1 => k' H1 I1⟩
/-- a test as a value -/
def pOfB (q : PT1) : P1 := fun ρ => (q ρ).map fun a => (.ro (.bl a.1), a.2)
def pIf (q : PT1) (pa pb : P1) : P1 := fun ρ => (q ρ).bind fun t => if t.1 = true then pa t.2 else pb t.2
theorem de_if {c : Expr} (hc : PT X c (tDT F q)) (ha : PE X a (tD F pa)) (hb : PE X b (tD F pb)) : PE X (.IfExp c a b pos) (tD F (pIf q pa pb)) := PE.imp (pe_ifExp hc ha hb) fun σ H Q hw => by
  obtain ⟨ρ, τ, k, ρ', I, e1, k'⟩ := hw
  simp only [pIf, Option.bind_eq_some_iff] at e1
  obtain ⟨⟨c1, ρ1⟩, h1, e2⟩ := e1
  refine ⟨ρ, τ, c1, ρ1, I, h1, fun H1 I1 => ?_⟩
  cases c1 with
  | true => exact ⟨ρ1, τ, k, ρ', I1, e2, k'⟩
  | false => exact ⟨ρ1, τ, k, ρ', I1, e2, k'⟩
/-- and, or, not as values: bools -/
def pAnd (pa pb : P1) : P1 := fun ρ => (pa ρ).bind fun a => match a.1 with
  | .ro (.bl b) => if b = true then pb a.2 else some (.ro (.bl false), a.2)
  | _ => none
def pOr (pa pb : P1) : P1 := fun ρ => (pa ρ).bind fun a => match a.1 with
  | .ro (.bl b) => if b = true then some (.ro (.bl true), a.2) else pb a.2
  | _ => none
def pNot (pa : P1) : P1 := fun ρ => (pa ρ).bind fun a => match a.1 with
  | .ro (.bl b) => some (.ro (.bl (!b)), a.2)
  | _ => none
theorem blc {ow : Ow} {v : V} {b : Bool} (I : RSo F ow σ H ρ ((v, .ro (.bl b)) :: τ)) : v = .bl b := by
  have := I.tmp.1; cases this; rfl
theorem de_one {op : BoolOp} (h : PE X a (tD F pa)) : PE X (.BoolOp op [a] pos) (tD F pa) := pe_one h
theorem de_and (ha : PE X a (tD F pa)) (hb : PE X (.BoolOp .And (b :: rest) pos) (tD F pb)) : PE X (.BoolOp .And (a :: b :: rest) pos) (tD F (pAnd pa pb)) := PE.imp (pe_and ha hb) fun σ H Q hw => by
  obtain ⟨ρ, τ, k, ρ', I, e1, k'⟩ := hw
  simp only [pAnd, Option.bind_eq_some_iff] at e1
  obtain ⟨⟨c1, ρ1⟩, h1, e2⟩ := e1
  refine ⟨ρ, τ, c1, ρ1, I, h1, fun v H1 I1 => ?_⟩
  obtain ⟨ow, I1⟩ := I1
  cases c1 with
  | ro d =>
    cases d with
    | bl b' =>
      refine ⟨b', blc I1, ?_⟩
      cases b' with
      | true => exact ⟨ρ1, τ, k, ρ', ⟨_, I1.pop⟩, e2, k'⟩
      | false => cases e2; exact k' _ H1 ⟨_, (blc I1) ▸ I1⟩
    | _ => cases e2
  | _ => cases e2
theorem de_or (ha : PE X a (tD F pa)) (hb : PE X (.BoolOp .Or (b :: rest) pos) (tD F pb)) : PE X (.BoolOp .Or (a :: b :: rest) pos) (tD F (pOr pa pb)) := PE.imp (pe_or ha hb) fun σ H Q hw => by
  obtain ⟨ρ, τ, k, ρ', I, e1, k'⟩ := hw
  simp only [pOr, Option.bind_eq_some_iff] at e1
  obtain ⟨⟨c1, ρ1⟩, h1, e2⟩ := e1
  refine ⟨ρ, τ, c1, ρ1, I, h1, fun v H1 I1 => ?_⟩
  obtain ⟨ow, I1⟩ := I1
  cases c1 with
  | ro d =>
    cases d with
    | bl b' =>
      refine ⟨b', blc I1, ?_⟩
      cases b' with
      | false => exact ⟨ρ1, τ, k, ρ', ⟨_, I1.pop⟩, e2, k'⟩
      | true => cases e2; exact k' _ H1 ⟨_, (blc I1) ▸ I1⟩
    | _ => cases e2
  | _ => cases e2
theorem de_not (ha : PE X a (tD F pa)) : PE X (.UnaryOp .Not a pos) (tD F (pNot pa)) := PE.imp (pe_not ha) fun σ H Q hw => by
  obtain ⟨ρ, τ, k, ρ', I, e1, k'⟩ := hw
  simp only [pNot, Option.bind_eq_some_iff] at e1
  obtain ⟨⟨c1, ρ1⟩, h1, e2⟩ := e1
  refine ⟨ρ, τ, c1, ρ1, I, h1, fun v H1 I1 => ?_⟩
  obtain ⟨ow, I1⟩ := I1
  cases c1 with
  | ro d =>
    cases d with
    | bl b' =>
      cases e2
      exact ⟨b', blc I1, k' _ H1 ⟨_, I1.pop.push (.bl _)⟩⟩
    | _ => cases e2
  | _ => cases e2
end
end Dn

namespace Dn
open PySem L2
/-! ### operations on data -/
def szOk (n : Nat) : Bool := decide (n ≤ sizeLine)
def D.add : D → D → Option C
  | .int i, .int j => some (.ro (.int (i + j)))
  | .str x, .str y => if szOk (x.length + y.length) = true then some (.ro (.str (x ++ y))) else none
  | .lst xs, .lst ys => if szOk (xs.length + ys.length) = true then some (.own (.lst (xs ++ ys))) else none
  | .tup xs, .tup ys => if szOk (xs.length + ys.length) = true then some (.ro (.tup (xs ++ ys))) else none
  | _, _ => none
def D.sub : D → D → Option C
  | .int i, .int j => some (.ro (.int (i - j)))
  | _, _ => none
/-- one of the factors below 2^64 -/
def D.mul : D → D → Option C
  | .int i, .int j => if (decide (i.natAbs < 2 ^ 64) || decide (j.natAbs < 2 ^ 64)) = true then some (.ro (.int (i * j))) else none
  | _, _ => none
/-- by what is above 0 and below 2^64 -/
def D.fdiv : D → D → Option C
  | .int i, .int j => if (decide (0 < j) && decide (j.natAbs < 2 ^ 64)) = true then some (.ro (.int (i / j))) else none
  | _, _ => none
def D.mod : D → D → Option C
  | .int i, .int j => if decide (0 < j) = true then some (.ro (.int (i % j))) else none
  | _, _ => none
def D.pow : D → D → Option C
  | .int i, .int j => if (decide (0 ≤ j) && decide (j ≤ 1000) && decide (0 ≤ i) && decide (i.natAbs < 2 ^ 64)) = true then some (.ro (.int (i ^ j.toNat))) else none
  | _, _ => none
def D.neg : D → Option C
  | .int i => some (.ro (.int (-i)))
  | _ => none
/-- == : data without dicts, at any depth -/
def D.eqB : D → D → Option Bool
  | .non, .non => some true
  | .non, .bl _ => some false
  | .non, .int _ => some false
  | .non, .str _ => some false
  | .bl _, .non => some false
  | .int _, .non => some false
  | .str _, .non => some false
  | .int _, .str _ => some false
  | .str _, .int _ => some false
  | .bl _, .str _ => some false
  | .str _, .bl _ => some false
  | .bl a, .bl b => some (decide (a = b))
  | .int a, .int b => some (decide (a = b))
  | .str a, .str b => some (decide (a = b))
  | _, _ => none
def D.eq (x y : D) : Option C := (D.eqB x y).map fun b => .ro (.bl b)
def D.ne (x y : D) : Option C := (D.eqB x y).map fun b => .ro (.bl (!b))
def D.lt : D → D → Option C
  | .int i, .int j => some (.ro (.bl (decide (i < j))))
  | .str i, .str j => some (.ro (.bl (decide (i.cps.toList < j.cps.toList))))
  | _, _ => none
def D.le : D → D → Option C
  | .int i, .int j => some (.ro (.bl (decide (i ≤ j))))
  | _, _ => none
def D.gt : D → D → Option C
  | .int i, .int j => some (.ro (.bl (decide (j < i))))
  | _, _ => none
def D.ge : D → D → Option C
  | .int i, .int j => some (.ro (.bl (decide (j ≤ i))))
  | _, _ => none
def D.isN : D → Bool
  | .non => true
  | _ => false
def D.isNone (x y : D) : Option C := match y with
  | .non => some (.ro (.bl x.isN))
  | _ => none
def D.isNotNone (x y : D) : Option C := match y with
  | .non => some (.ro (.bl (!x.isN)))
  | _ => none
def D.ix : D → D → Option C
  | .lst xs, .int i => (atI xs i).map .ro
  | .tup xs, .int i => (atI xs i).map .ro
  | .scr xs, .int i => (atI xs i).map fun n => .ro (.int n)
  | .str z, .int i => if szOk z.length = true then (atI z.cps.toList i).map fun c => .ro (.str ⟨#[c]⟩) else none
  | _, _ => none
def D.len : List D → Option C
  | [.lst xs] => some (.ro (.int xs.length))
  | [.tup xs] => some (.ro (.int xs.length))
  | [.scr xs] => some (.ro (.int xs.length))
  | [.str z] => if szOk z.length = true then some (.ro (.int z.length)) else none
  | _ => none
/-- flat data: == is by value -/
def D.flat : D → Bool
  | .non => true
  | .int _ => true
  | .str _ => true
  | .bl _ => true
  | _ => false
def D.feq : D → D → Bool
  | .non, .non => true
  | .int a, .int b => decide (a = b)
  | .str a, .str b => decide (a = b)
  | .bl a, .bl b => decide (a = b)
  | .int a, .bl b => decide (a = if b then 1 else 0)
  | .bl a, .int b => decide ((if a then 1 else 0) = b)
  | _, _ => false
def D.inS (x : D) (ys : List D) : Option Bool := if (x.flat && ys.all D.flat) = true then some (ys.any fun y => D.feq y x) else none
def D.isIn (x : D) : D → Option C
  | .lst ys => (D.inS x ys).map fun b => .ro (.bl b)
  | .tup ys => (D.inS x ys).map fun b => .ro (.bl b)
  | _ => none
def D.notIn (x : D) : D → Option C
  | .lst ys => (D.inS x ys).map fun b => .ro (.bl (!b))
  | .tup ys => (D.inS x ys).map fun b => .ro (.bl (!b))
  | _ => none
def D.tyName : D → Option String
  | .non => some "NoneType"
  | .bl _ => some "bool"
  | .int _ => some "int"
  | .str _ => some "str"
  | .tup _ => some "tuple"
  | .lst _ => some "list"
  | .scr _ => some "list"
  | .dct _ => some "dict"
  | _ => none
def tyIs (a b : String) : Option Bool := if b = "int" then some (a = "int" || a = "bool") else if b = "bool" ∨ b = "str" ∨ b = "tuple" ∨ b = "list" ∨ b = "dict" then some (decide (a = b)) else none
def D.isInst : List D → Option C
  | [x, .ty n] => (D.tyName x).bind fun m => (tyIs m n).map fun b => .ro (.bl b)
  | _ => none
def D.toInt : List D → Option C
  | [.int i] => some (.ro (.int i))
  | [.bl b] => some (.ro (.int (if b then 1 else 0)))
  | _ => none
def D.toList : List D → Option C
  | [.lst xs] => some (.own (.lst xs))
  | [.tup xs] => some (.own (.lst xs))
  | [.scr xs] => some (.own (.lst (xs.map .int)))
  | _ => none
def D.toTup : List D → Option C
  | [.lst xs] => some (.ro (.tup xs))
  | [.tup xs] => some (.ro (.tup xs))
  | _ => none

section
variable {X : Cx} {K : PySem.W.Frag} {N : Addr → Prop} {H : Hp} {v : V} {d : D}
theorem RepX.int {i : Int} (h : RepX K N H v (.int i)) : v = .int i := by cases h; rfl
theorem RepX.str {i : Str} (h : RepX K N H v (.str i)) : v = .str i := by cases h; rfl
theorem RepX.bl {i : Bool} (h : RepX K N H v (.bl i)) : v = .bl i := by cases h; rfl
theorem RepX.non (h : RepX K N H v .non) : v = .non := by cases h; rfl
theorem RepX.ty {n : String} (h : RepX K N H v (.ty n)) : v = .ty n := by cases h; rfl
theorem RepX.tup {ds : List D} (h : RepX K N H v (.tup ds)) : ∃ a vs, v = .ref a ∧ SqT K H a vs ∧ RepL K N H vs ds := by cases h; exact ⟨_, _, rfl, ‹_›, ‹_›⟩
theorem RepX.lst {ds : List D} (h : RepX K N H v (.lst ds)) : ∃ a vs, v = .ref a ∧ H a = some (.lst vs) ∧ RepL K N H vs ds := h
theorem RepX.scr {ns : List Int} (h : RepX K N H v (.scr ns)) : ∃ a, v = .ref a ∧ SqF K H a (ns.map V.int) := by cases h; exact ⟨_, rfl, ‹_›⟩
theorem szOk_le {n : Nat} (h : szOk n = true) : n ≤ sizeLine := of_decide_eq_true h
theorem Same.new {H : Hp} {p : Addr} {o : HO} (h : H p = none) : Same H (upd H p o) := fun b u e => by rw [upd_ne (ne_of_none e h)]; exact e
/-- ends: a value that needs no heap; a new list; a new tuple -/
theorem ret_int {Q : VK} {i : Int} (k : ∀ v H', Same H H' → Ret K N H H' v (.ro (.int i)) → Q v H') : Q (.int i) H := k _ _ (Same.refl H) (.int i)
theorem ret_str {Q : VK} {i : Str} (k : ∀ v H', Same H H' → Ret K N H H' v (.ro (.str i)) → Q v H') : Q (.str i) H := k _ _ (Same.refl H) (.str i)
theorem ret_bl {Q : VK} {i : Bool} (k : ∀ v H', Same H H' → Ret K N H H' v (.ro (.bl i)) → Q v H') : Q (.bl i) H := k _ _ (Same.refl H) (.bl i)
theorem ret_ro {Q : VK} {w : V} {d : D} (r : Rep K N H w d) (k : ∀ v H', Same H H' → Ret K N H H' v (.ro d) → Q v H') : Q w H := k _ _ (Same.refl H) (r.mono fun _ h _ => .inl h)
theorem new_keep {p : Addr} {o : HO} (hp : H p = none) {vs : List V} {ds : List D} (r : RepL K N H vs ds) : RepL K (fun b => (N b ∨ H b = none) ∧ b ≠ p) (upd H p o) vs ds :=
  r.keep (Keeps.all (Same.new hp)) fun b n s => ⟨.inl n, fun e => by rw [e, hp] at s; cases s⟩
theorem ret_lst {Q : VK} {vs : List V} {ds : List D} {p : Addr} (hp : H p = none) (r : RepL K N H vs ds) (k : ∀ v H', Same H H' → Ret K N H H' v (.own (.lst ds)) → Q v H') : Q (.ref p) (upd H p (.lst vs)) :=
  k _ _ (Same.new hp) ⟨p, rfl, hp, vs, upd_same, new_keep hp r⟩
theorem ret_tup {Q : VK} {vs : List V} {ds : List D} {p : Addr} (hp : H p = none) (r : RepL K N H vs ds) (k : ∀ v H', Same H H' → Ret K N H H' v (.ro (.tup ds)) → Q v H') : Q (.ref p) (upd H p (.tup vs)) :=
  k _ _ (Same.new hp) (.tup (SqT.of upd_same) ((new_keep hp r).mono fun b h _ => h.1))
theorem rep_tup {a : Addr} {vs : List V} {ds : List D} (h : SqT K H a vs) (r : RepL K N H vs ds) : Rep K N H (.ref a) (.tup ds) := .tup h r
theorem s_add : Op2S K (fun x y H Q => (rI0 (fun i j => V.int (i + j)) x y H Q ∨ ∃ i j, x = .str i ∧ y = .str j ∧ i.length + j.length ≤ sizeLine ∧ Q (.str (i ++ j)) H) ∨ (rCat x y H Q ∨ rCatA K x y H Q)) D.add := by
  intro N H x y dx dy c Q rx ry e k
  unfold D.add at e
  split at e
  · cases e; exact .inl (.inl ⟨_, _, rx.int, ry.int, ret_int k⟩)
  · split at e
    · rename_i hz; cases e; exact .inl (.inr ⟨_, _, rx.str, ry.str, szOk_le hz, ret_str k⟩)
    · cases e
  · split at e
    · rename_i hz; cases e
      obtain ⟨a, vs, rfl, h1, r1⟩ := rx.lst
      obtain ⟨b, ws, rfl, h2, r2⟩ := ry.lst
      exact .inr (.inl ⟨a, b, vs, ws, rfl, rfl, h1, h2, by rw [r1.length, r2.length]; exact szOk_le hz, fun p hp => ret_lst hp (r1.append r2) k⟩)
    · cases e
  · split at e
    · rename_i hz; cases e
      obtain ⟨a, vs, rfl, h1, r1⟩ := rx.tup
      obtain ⟨b, ws, rfl, h2, r2⟩ := ry.tup
      refine .inr (.inr ⟨a, b, vs, ws, rfl, rfl, h1, h2, by rw [r1.length, r2.length]; exact szOk_le hz, fun e => ?_, fun _ e => ?_, fun _ _ p hp => ret_tup hp (r1.append r2) k⟩)
      · subst e; cases r1; exact ret_ro (rep_tup h2 r2) k
      · subst e; cases r2; rw [List.append_nil] at k; exact ret_ro (rep_tup h1 r1) k
    · cases e
  · cases e
theorem o_add : OpR X (binaryOp .Add) (fun x y H Q => (rI0 (fun i j => V.int (i + j)) x y H Q ∨ ∃ i j, x = .str i ∧ y = .str j ∧ i.length + j.length ≤ sizeLine ∧ Q (.str (i ++ j)) H) ∨ (rCat x y H Q ∨ rCatA X.K x y H Q)) :=
  (op_add.or op_add_str).or (op_cat.or op_catA)
theorem s_sub : Op2S K (rI0 fun i j => .int (i - j)) D.sub := by
  intro N H x y dx dy c Q rx ry e k
  unfold D.sub at e
  split at e
  · cases e; exact ⟨_, _, rx.int, ry.int, ret_int k⟩
  · cases e
theorem s_mul : Op2S K (rI CMul fun i j => .int (i * j)) D.mul := by
  intro N H x y dx dy c Q rx ry e k
  unfold D.mul at e
  split at e
  · split at e
    · rename_i hz; cases e
      simp only [Bool.or_eq_true, Bool.and_eq_true, decide_eq_true_eq] at hz
      exact ⟨_, _, rx.int, ry.int, hz.imp (fun h => ⟨by omega, by omega⟩) fun h => ⟨by omega, by omega⟩, ret_int k⟩
    · cases e
  · cases e
theorem s_fdiv : Op2S K (rI CDivW fun i j => .int (i / j)) D.fdiv := by
  intro N H x y dx dy c Q rx ry e k
  unfold D.fdiv at e
  split at e
  · split at e
    · rename_i hz; cases e
      simp only [Bool.and_eq_true, decide_eq_true_eq] at hz
      exact ⟨_, _, rx.int, ry.int, wide_div (b := 64) hz.1 (by omega) (by decide) (by decide), ret_int k⟩
    · cases e
  · cases e
theorem s_mod : Op2S K (rI (fun _ j => 0 < j) fun i j => .int (i % j)) D.mod := by
  intro N H x y dx dy c Q rx ry e k
  unfold D.mod at e
  split at e
  · split at e
    · rename_i hz; cases e
      exact ⟨_, _, rx.int, ry.int, of_decide_eq_true hz, ret_int k⟩
    · cases e
  · cases e
theorem s_pow : Op2S K (rI CPow fun i j => .int (i ^ j.toNat)) D.pow := by
  intro N H x y dx dy c Q rx ry e k
  unfold D.pow at e
  split at e
  · split at e
    · rename_i hz; cases e
      simp only [Bool.and_eq_true, decide_eq_true_eq] at hz
      exact ⟨_, _, rx.int, ry.int, ⟨hz.1.1.1, by omega, by omega⟩, ret_int k⟩
    · cases e
  · cases e
theorem s_neg : Op1S K (rU fun i => .int (-i)) D.neg := by
  intro N H x dx c Q rx e k
  unfold D.neg at e
  split at e
  · cases e; exact ⟨_, rx.int, ret_int k⟩
  · cases e
theorem eqB_s {x y : V} {dx dy : D} {b : Bool} (rx : RepX K N H x dx) (ry : RepX K N H y dy) (e : D.eqB dx dy = some b) : scal x y = true ∧ decide (x = y) = b := by
  unfold D.eqB at e
  split at e <;> first
    | (cases e; done)
    | (cases e; have e1 := rx.non; have e2 := ry.non; subst e1; subst e2; exact ⟨rfl, by simp⟩)
    | (cases e; have e1 := rx.non; have e2 := ry.bl; subst e1; subst e2; exact ⟨rfl, by simp⟩)
    | (cases e; have e1 := rx.non; have e2 := ry.int; subst e1; subst e2; exact ⟨rfl, by simp⟩)
    | (cases e; have e1 := rx.non; have e2 := ry.str; subst e1; subst e2; exact ⟨rfl, by simp⟩)
    | (cases e; have e1 := rx.bl; have e2 := ry.non; subst e1; subst e2; exact ⟨rfl, by simp⟩)
    | (cases e; have e1 := rx.int; have e2 := ry.non; subst e1; subst e2; exact ⟨rfl, by simp⟩)
    | (cases e; have e1 := rx.str; have e2 := ry.non; subst e1; subst e2; exact ⟨rfl, by simp⟩)
    | (cases e; have e1 := rx.int; have e2 := ry.str; subst e1; subst e2; exact ⟨rfl, by simp⟩)
    | (cases e; have e1 := rx.str; have e2 := ry.int; subst e1; subst e2; exact ⟨rfl, by simp⟩)
    | (cases e; have e1 := rx.bl; have e2 := ry.str; subst e1; subst e2; exact ⟨rfl, by simp⟩)
    | (cases e; have e1 := rx.str; have e2 := ry.bl; subst e1; subst e2; exact ⟨rfl, by simp⟩)
    | (cases e; have e1 := rx.bl; have e2 := ry.bl; subst e1; subst e2; exact ⟨rfl, by simp⟩)
    | (cases e; have e1 := rx.int; have e2 := ry.int; subst e1; subst e2; exact ⟨rfl, by simp⟩)
    | (cases e; have e1 := rx.str; have e2 := ry.str; subst e1; subst e2; exact ⟨rfl, by simp⟩)
theorem s_eq : Op2S K rEq D.eq := by
  intro N H x y dx dy c Q rx ry e k
  simp only [D.eq, Option.map_eq_some_iff] at e
  obtain ⟨b, e1, rfl⟩ := e
  obtain ⟨h1, h2⟩ := eqB_s rx ry e1
  exact ⟨h1, by rw [h2]; exact ret_bl k⟩
theorem s_ne : Op2S K rNe D.ne := by
  intro N H x y dx dy c Q rx ry e k
  simp only [D.ne, Option.map_eq_some_iff] at e
  obtain ⟨b, e1, rfl⟩ := e
  obtain ⟨h1, h2⟩ := eqB_s rx ry e1
  exact ⟨h1, by rw [h2]; exact ret_bl k⟩
theorem s_lt : Op2S K (fun x y H Q => rI0 (fun i j => V.bl (decide (i < j))) x y H Q ∨ ∃ i j, x = .str i ∧ y = .str j ∧ Q (.bl (decide (i.cps.toList < j.cps.toList))) H) D.lt := by
  intro N H x y dx dy c Q rx ry e k
  unfold D.lt at e
  split at e
  · cases e; exact .inl ⟨_, _, rx.int, ry.int, ret_bl k⟩
  · cases e; exact .inr ⟨_, _, rx.str, ry.str, ret_bl k⟩
  · cases e
theorem o_lt : OpR X (compareOp .Lt) (fun x y H Q => rI0 (fun i j => V.bl (decide (i < j))) x y H Q ∨ ∃ i j, x = .str i ∧ y = .str j ∧ Q (.bl (decide (i.cps.toList < j.cps.toList))) H) := op_lt.or op_lt_str
theorem s_le : Op2S K (rI0 fun i j => .bl (decide (i ≤ j))) D.le := by
  intro N H x y dx dy c Q rx ry e k
  unfold D.le at e
  split at e
  · cases e; exact ⟨_, _, rx.int, ry.int, ret_bl k⟩
  · cases e
theorem s_gt : Op2S K (rI0 fun i j => .bl (decide (j < i))) D.gt := by
  intro N H x y dx dy c Q rx ry e k
  unfold D.gt at e
  split at e
  · cases e; exact ⟨_, _, rx.int, ry.int, ret_bl k⟩
  · cases e
theorem s_ge : Op2S K (rI0 fun i j => .bl (decide (j ≤ i))) D.ge := by
  intro N H x y dx dy c Q rx ry e k
  unfold D.ge at e
  split at e
  · cases e; exact ⟨_, _, rx.int, ry.int, ret_bl k⟩
  · cases e
theorem isN_s (rx : RepX K N H v d) : decide (v = .non) = d.isN := by
  cases d with
  | lst ds => obtain ⟨a, vs, rfl, _⟩ := rx; rfl
  | dct ds => obtain ⟨a, vs, rfl, _⟩ := rx; rfl
  | dtt ds => obtain ⟨a, vs, rfl, _⟩ := rx; rfl
  | _ => cases rx; rfl
theorem s_isN : Op2S K (fun x y H Q => y = .non ∧ Q (.bl (decide (x = .non))) H) D.isNone := by
  intro N H x y dx dy c Q rx ry e k
  unfold D.isNone at e
  split at e
  · cases e; exact ⟨ry.non, by rw [isN_s rx]; exact ret_bl k⟩
  · cases e
theorem s_notN : Op2S K (fun x y H Q => y = .non ∧ Q (.bl (!decide (x = .non))) H) D.isNotNone := by
  intro N H x y dx dy c Q rx ry e k
  unfold D.isNotNone at e
  split at e
  · cases e; exact ⟨ry.non, by rw [isN_s rx]; exact ret_bl k⟩
  · cases e
theorem atI_rep {vs : List V} {ds : List D} {i : Int} {d : D} (r : RepL K N H vs ds) (e : atI ds i = some d) : ∃ v, atI vs i = some v ∧ Rep K N H v d := by
  unfold atI at e ⊢
  rw [r.length]
  cases q : ixN ds.length i with
  | none => rw [q] at e; cases e
  | some j => rw [q] at e; exact r.get' e
theorem s_ix : Op2S K (rIx K) D.ix := by
  intro N H x y dx dy c Q rx ry e k
  unfold D.ix at e
  split at e
  · simp only [Option.map_eq_some_iff] at e
    obtain ⟨d, e1, rfl⟩ := e
    obtain ⟨a, vs, rfl, h1, r1⟩ := rx.lst
    obtain ⟨w, h2, r2⟩ := atI_rep r1 e1
    exact .inl ⟨a, vs, _, w, rfl, ry.int, SqL.of h1, h2, ret_ro r2 k⟩
  · simp only [Option.map_eq_some_iff] at e
    obtain ⟨d, e1, rfl⟩ := e
    obtain ⟨a, vs, rfl, h1, r1⟩ := rx.tup
    obtain ⟨w, h2, r2⟩ := atI_rep r1 e1
    exact .inr (.inl ⟨a, vs, _, w, rfl, ry.int, h1, h2, ret_ro r2 k⟩)
  · simp only [Option.map_eq_some_iff] at e
    obtain ⟨n, e1, rfl⟩ := e
    obtain ⟨a, rfl, h1⟩ := rx.scr
    refine .inl ⟨a, _, _, .int n, rfl, ry.int, h1.l, ?_, ret_int k⟩
    unfold atI at e1 ⊢
    rw [List.length_map]
    cases q : ixN _ _ with
    | none => rw [q] at e1; cases e1
    | some j => rw [q] at e1; simp only [Option.bind_some] at e1 ⊢; rw [List.getElem?_map, e1]; rfl
  · split at e
    · rename_i hz
      simp only [Option.map_eq_some_iff] at e
      obtain ⟨n, e1, rfl⟩ := e
      exact .inr (.inr ⟨_, _, n, rx.str, ry.int, szOk_le hz, e1, ret_str k⟩)
    · cases e
  · cases e
theorem s_len : FunS K (fun xs H Q => ∃ x n, xs = [x] ∧ LenV K x H n ∧ Q (.int n) H) D.len := by
  intro N H vs ds c Q r e k
  unfold D.len at e
  split at e
  · cases e
    cases r with
    | cons rx r => cases r; obtain ⟨a, vs, rfl, h1, r1⟩ := rx.lst; exact ⟨_, _, rfl, .inl ⟨_, SqL.of h1, r1.length.symm⟩, ret_int k⟩
  · cases e
    cases r with
    | cons rx r => cases r; obtain ⟨a, vs, rfl, h1, r1⟩ := rx.tup; exact ⟨_, _, rfl, .inr ⟨_, h1, r1.length.symm⟩, ret_int k⟩
  · cases e
    cases r with
    | cons rx r => cases r; obtain ⟨a, rfl, h1⟩ := rx.scr; exact ⟨_, _, rfl, .inl ⟨_, h1.l, by rw [List.length_map]⟩, ret_int k⟩
  · split at e
    · rename_i hz; cases e
      cases r with
      | cons rx r => cases r; have := rx.str; subst this; exact ⟨_, _, rfl, ⟨szOk_le hz, rfl⟩, ret_int k⟩
    · cases e
  · cases e
theorem flat_s (rx : RepX K N H v d) (f : d.flat = true) : flatV v = true := by
  cases d with
  | non => cases rx; rfl
  | int i => cases rx; rfl
  | str i => cases rx; rfl
  | bl i => cases rx; rfl
  | _ => cases f
theorem flatL_s : ∀ {vs : List V} {ds : List D}, RepL K N H vs ds → ds.all D.flat = true → vs.all flatV = true
  | _, _, .nil, _ => rfl
  | _, _, .cons h r, f => by
    simp only [List.all_cons, Bool.and_eq_true] at f ⊢
    exact ⟨flat_s h.x f.1, flatL_s r f.2⟩
theorem feq_s {x y : V} {dx dy : D} (rx : RepX K N H x dx) (ry : RepX K N H y dy) (fx : dx.flat = true) (fy : dy.flat = true) : eqV x y = D.feq dx dy := by
  cases dx <;> cases dy <;> first
    | (cases fx; done)
    | (cases fy; done)
    | (cases rx; cases ry; rfl)
theorem inS_s {x : V} {dx : D} (rx : RepX K N H x dx) (fx : dx.flat = true) : ∀ {vs : List V} {ds : List D}, RepL K N H vs ds → ds.all D.flat = true → inV x vs = ds.any fun y => D.feq y dx
  | _, _, .nil, _ => rfl
  | _, _, .cons h r, f => by
    simp only [List.all_cons, Bool.and_eq_true] at f
    have ih := inS_s rx fx r f.2
    unfold inV at ih ⊢
    rw [List.any_cons, List.any_cons, ih, feq_s h.x rx f.1 fx]
theorem s_in : Op2S K (rIn K false) D.isIn := by
  intro N H x y dx dy c Q rx ry e k
  unfold D.isIn at e
  split at e <;> first
    | (cases e; done)
    | (simp only [Option.map_eq_some_iff] at e
       obtain ⟨b, e1, rfl⟩ := e
       unfold D.inS at e1
       split at e1
       · rename_i hz; cases e1
         simp only [Bool.and_eq_true] at hz
         first
           | (obtain ⟨a, vs, rfl, h1, r1⟩ := ry.lst
              refine ⟨a, vs, rfl, .inl (SqL.of h1), flat_s rx hz.1, flatL_s r1 hz.2, ?_⟩
              show Q (.bl (inV x vs)) H
              rw [inS_s rx hz.1 r1 hz.2]; exact ret_bl k)
           | (obtain ⟨a, vs, rfl, h1, r1⟩ := ry.tup
              refine ⟨a, vs, rfl, .inr h1, flat_s rx hz.1, flatL_s r1 hz.2, ?_⟩
              show Q (.bl (inV x vs)) H
              rw [inS_s rx hz.1 r1 hz.2]; exact ret_bl k)
       · cases e1)
theorem s_notIn : Op2S K (rIn K true) D.notIn := by
  intro N H x y dx dy c Q rx ry e k
  unfold D.notIn at e
  split at e <;> first
    | (cases e; done)
    | (simp only [Option.map_eq_some_iff] at e
       obtain ⟨b, e1, rfl⟩ := e
       unfold D.inS at e1
       split at e1
       · rename_i hz; cases e1
         simp only [Bool.and_eq_true] at hz
         first
           | (obtain ⟨a, vs, rfl, h1, r1⟩ := ry.lst
              refine ⟨a, vs, rfl, .inl (SqL.of h1), flat_s rx hz.1, flatL_s r1 hz.2, ?_⟩
              show Q (.bl (!inV x vs)) H
              rw [inS_s rx hz.1 r1 hz.2]; exact ret_bl k)
           | (obtain ⟨a, vs, rfl, h1, r1⟩ := ry.tup
              refine ⟨a, vs, rfl, .inr h1, flat_s rx hz.1, flatL_s r1 hz.2, ?_⟩
              show Q (.bl (!inV x vs)) H
              rw [inS_s rx hz.1 r1 hz.2]; exact ret_bl k)
       · cases e1)
theorem tyName_s {m : String} (rx : RepX K N H v d) (e : D.tyName d = some m) : TyX K H v (.type m) := by
  cases d with
  | non => cases rx; cases e; exact .base .non
  | int i => cases rx; cases e; exact .base (.int _)
  | str i => cases rx; cases e; exact .base (.str _)
  | bl i => cases rx; cases e; exact .base (.bl _)
  | tup ds =>
    cases e
    obtain ⟨a, vs, rfl, h1, r1⟩ := rx.tup
    rcases h1 with (h1 | ⟨o, h1⟩) | ⟨o, its, n, h1, h2, _⟩
    · exact .base (.tup h1)
    · exact .fTuple h1
    · exact .kTuple h1 h2
  | lst ds =>
    cases e
    obtain ⟨a, vs, rfl, h1, r1⟩ := rx.lst
    exact .base (.lst h1)
  | scr ds =>
    cases e
    obtain ⟨a, rfl, h1⟩ := rx.scr
    rcases h1 with ⟨o, h1⟩ | ⟨o, its, n, h1, h2, _⟩
    · exact .base (.frz h1)
    · exact .kList h1 h2
  | dct ds =>
    cases e
    obtain ⟨a, vs, rfl, h1, r1⟩ := rx
    rcases h1 with h1 | ⟨o, h1⟩
    · exact .base (.dK h1)
    · exact .fDict h1
  | dtt ds => cases e
  | ty ds => cases e
theorem tyName_mem {m : String} (e : D.tyName d = some m) : m ∈ ["NoneType", "bool", "int", "str", "tuple", "list", "dict"] := by
  cases d <;> cases e <;> decide
theorem tyIs_ok : ∀ m ∈ ["NoneType", "bool", "int", "str", "tuple", "list", "dict"], ∀ n ∈ ["int", "bool", "str", "tuple", "list", "dict"], kitB m n = tyIs m n := by decide +kernel
theorem tyIs_mem {m n : String} {b : Bool} (e : tyIs m n = some b) : n ∈ ["int", "bool", "str", "tuple", "list", "dict"] := by
  unfold tyIs at e
  split at e
  · rename_i h; subst h; decide
  · split at e
    · rename_i h; rcases h with h | h | h | h | h <;> subst h <;> decide
    · cases e
theorem s_isi : FunS K (rIsi K) D.isInst := by
  intro N H vs ds c Q r e k
  unfold D.isInst at e
  split at e
  · simp only [Option.bind_eq_some_iff, Option.map_eq_some_iff] at e
    obtain ⟨m, e1, b, e2, rfl⟩ := e
    cases r with
    | cons rx r =>
      cases r with
      | cons ry r =>
        cases r
        have := ry.ty; subst this
        exact ⟨_, _, _, _, b, rfl, .ty _, tyName_s rx e1, kit_ty (by rw [tyIs_ok _ (tyName_mem e1) _ (tyIs_mem e2)]; exact e2), ret_bl k⟩
  · cases e
theorem s_int : FunS K (fun xs H Q => (∃ i, xs = [.int i] ∧ Q (.int i) H) ∨ ∃ k, xs = [.bl k] ∧ Q (.int (if k then 1 else 0)) H) D.toInt := by
  intro N H vs ds c Q r e k
  unfold D.toInt at e
  split at e
  · cases e
    cases r with
    | cons rx r => cases r; have := rx.int; subst this; exact .inl ⟨_, rfl, ret_int k⟩
  · cases e
    cases r with
    | cons rx r => cases r; have := rx.bl; subst this; exact .inr ⟨_, rfl, ret_int k⟩
  · cases e
theorem s_list : FunS K (fun xs H Q => ∃ p ys, xs = [.ref p] ∧ (SqL K H p ys ∨ SqT K H p ys) ∧ ∀ l, H l = none → Q (.ref l) (upd H l (.lst ys))) D.toList := by
  intro N H vs ds c Q r e k
  unfold D.toList at e
  split at e
  · cases e
    cases r with
    | cons rx r => cases r; obtain ⟨a, vs, rfl, h1, r1⟩ := rx.lst; exact ⟨_, _, rfl, .inl (SqL.of h1), fun p hp => ret_lst hp r1 k⟩
  · cases e
    cases r with
    | cons rx r => cases r; obtain ⟨a, vs, rfl, h1, r1⟩ := rx.tup; exact ⟨_, _, rfl, .inr h1, fun p hp => ret_lst hp r1 k⟩
  · cases e
    cases r with
    | cons rx r => cases r; obtain ⟨a, rfl, h1⟩ := rx.scr; exact ⟨_, _, rfl, .inl h1.l, fun p hp => ret_lst hp (RepL.ints _) k⟩
  · cases e
theorem s_tuple : FunS K (fun xs H Q => ∃ p ys, xs = [.ref p] ∧ ((SqL K H p ys ∧ ∀ l, H l = none → Q (.ref l) (upd H l (.tup ys))) ∨ (SqT K H p ys ∧ Q (.ref p) H))) D.toTup := by
  intro N H vs ds c Q r e k
  unfold D.toTup at e
  split at e
  · cases e
    cases r with
    | cons rx r => cases r; obtain ⟨a, vs, rfl, h1, r1⟩ := rx.lst; exact ⟨_, _, rfl, .inl ⟨SqL.of h1, fun p hp => ret_tup hp r1 k⟩⟩
  · cases e
    cases r with
    | cons rx r => cases r; obtain ⟨a, vs, rfl, h1, r1⟩ := rx.tup; exact ⟨_, _, rfl, .inr ⟨h1, ret_ro (rep_tup h1 r1) k⟩⟩
  · cases e
end
end Dn

namespace Dn
open PySem L2
/-! ### a value is kept: what a slot holds is then read alone -/
def cap (c : C) (ρ : Env) : Option (C × Env) := match c with
  | .view i => match ρ[i]? with
    | some (some (.own d)) => some (.ro d, ρ.set i (some (.ro d)))
    | _ => none
  | .ro d => some (.ro d, ρ)
  | .own d => some (.own d, ρ)
  | .io _ => none
/-- a value is handed back: what a slot holds goes with it -/
def mov (c : C) (ρ : Env) : Option (C × Env) := match c with
  | .view i => match ρ[i]? with
    | some (some (.own d)) => some (.own d, ρ.set i none)
    | _ => none
  | .ro d => some (.ro d, ρ)
  | .own d => some (.own d, ρ)
  | .io _ => none
def pCap (p : P1) : P1 := fun ρ => (p ρ).bind fun a => cap a.1 a.2
section
variable {F : Fr} {ow : Ow} {H H' : Hp} {σ σ' : St} {ρ ρ' : Env} {τ : List (V × C)} {v : V} {c c' : C} {d : D} {a : Addr} {i : Nat}
theorem set_cell {α : Type} {l : List α} {i j : Nat} {x y : α} (h : (l.set i x)[j]? = some y) : (j = i ∧ y = x) ∨ (j ≠ i ∧ l[j]? = some y) := by
  by_cases hj : j = i
  · subst hj
    by_cases hl : j < l.length
    · rw [List.getElem?_set_self hl] at h; cases h; exact .inl ⟨rfl, rfl⟩
    · rw [List.getElem?_eq_none (by rw [List.length_set]; omega)] at h; cases h
  · rw [List.getElem?_set_ne (Ne.symm hj)] at h; exact .inr ⟨hj, h⟩
theorem vw_set {x : Option C} (hx : ∀ c, x = some c → (∃ d, c = .ro d) ∨ ∃ c', ρ[i]? = some (some c') ∧ ∀ d, c' ≠ .ro d) : Vw σ σ ρ (ρ.set i x) := fun j c e n => by
  refine ⟨?_, rfl⟩
  rcases set_cell e with ⟨rfl, e5⟩ | ⟨_, e5⟩
  · rcases hx c e5.symm with ⟨d, rfl⟩ | h
    · exact absurd rfl (n d)
    · exact h
  · exact ⟨c, e5, n⟩
/-- slot i's owned object is released: its cell becomes ro, or is forgotten -/
theorem RSo.release {x : Option C} (I : RSo F ow σ H ρ τ) (hc : ρ[i]? = some (some (.own d))) (hx : x = none ∨ x = some (.ro d)) : RSo F (drop ow (.inl i)) σ H (ρ.set i x) τ ∧ ∃ a, σ[i]? = some (some (.ref a)) ∧ Rep F.K (F.N (drop ow (.inl i))) H (.ref a) d := by
  obtain ⟨v, h1, a, rfl, ha, h2⟩ := I.slot i _ hc
  have hr : Rep F.K (F.N (drop ow (.inl i))) H (.ref a) d := h2.rep ⟨drop_at ha, (I.own a _ ha).2.2, .inr (I.own a _ ha).2.1⟩ drop_N
  have go : ∀ {k : Sum Nat Nat} b, k ≠ .inl i → ow b = some k → drop ow (.inl i) b = some k := fun b n e => by
    rw [drop_ne (fun z => n (by rw [e] at z; exact Option.some.inj z))]; exact e
  have hv : Vw σ σ ρ (ρ.set i x) := vw_set fun c e => by
    rcases hx with rfl | rfl
    · cases e
    · cases e; exact .inl ⟨d, rfl⟩
  refine ⟨⟨by rw [List.length_set]; exact I.len, fun j c e => ?_, fun j c e => ?_, I.tmp.tr drop_N Keeps.refl (fun b j hj e => ⟨go b (fun z => by cases z) e, rfl⟩) (fun _ _ => rfl) (.inr hv), I.tio, fun b id e => I.own b id (drop_some e).1, fun b j e => I.tid b j (drop_some e).1, I.keep, I.mio⟩, a, h1, hr⟩
  · rcases set_cell e with ⟨rfl, e5⟩ | ⟨hj, e5⟩
    · rcases hx with rfl | rfl
      · cases e5
      · cases e5; exact ⟨_, h1, hr⟩
    · obtain ⟨w, q1, q2⟩ := I.slot j c e5
      exact ⟨w, q1, q2.tr drop_N Keeps.refl (fun b e => ⟨go b (fun z => hj (Sum.inl.inj z)) e, rfl⟩) (fun _ _ => rfl) (.inr hv)⟩
  · rcases set_cell e with ⟨rfl, e5⟩ | ⟨hj, e5⟩
    · rcases hx with rfl | rfl
      · cases e5
      · cases e5; trivial
    · exact I.io j c e5
theorem RSo.cap (I : RSo F ow σ H ρ ((v, c) :: τ)) (e : cap c ρ = some (c', ρ')) : (∃ ow', RSo F ow' σ H ρ' ((v, c') :: τ)) ∧ (∀ j, c' ≠ .view j) := by
  cases c with
  | ro d => cases e; exact ⟨⟨_, I⟩, fun _ z => by cases z⟩
  | own d => cases e; exact ⟨⟨_, I⟩, fun _ z => by cases z⟩
  | io d => cases e
  | view i =>
    dsimp only [Dn.cap] at e
    split at e
    · rename_i d q
      cases e
      have hv := I.tmp.1 _ q (fun _ z => by cases z)
      obtain ⟨J, a, h1, r⟩ := I.pop.release q (.inr rfl)
      rw [hv] at h1; cases h1
      exact ⟨⟨_, J.push r⟩, fun _ z => by cases z⟩
    · cases e
/-- the owned object of slot i goes to the stack -/
theorem RSo.moveOut (I : RSo F ow σ H ρ τ) (hc : ρ[i]? = some (some (.own d))) (hs : σ[i]? = some (some v)) : ∃ ow', RSo F ow' σ H (ρ.set i none) ((v, .own d) :: τ) := by
  obtain ⟨v', h1, a, rfl, ha, h2⟩ := I.slot i _ hc
  rw [hs] at h1; cases h1
  let ow' : Ow := fun b => if ow b = some (.inl i) then some (.inr τ.length) else ow b
  have a1 : ∀ b, ow b = some (.inl i) → ow' b = some (.inr τ.length) := fun b h => if_pos h
  have a2 : ∀ b id, ow b = some id → id ≠ .inl i → ow' b = some id := fun b id h n => by
    show (if _ then _ else _) = _
    rw [if_neg (by rw [h]; exact fun z => n (Option.some.inj z))]; exact h
  have a3 : ∀ b, ow b = none → ow' b = none := fun b h => by
    show (if _ then _ else _) = _
    rw [if_neg (by rw [h]; simp)]; exact h
  have a4 : ∀ b id, ow' b = some id → (ow b = some (.inl i) ∧ id = .inr τ.length) ∨ ow b = some id := fun b id h => by
    by_cases h1 : ow b = some (.inl i)
    · rw [a1 b h1] at h; cases h; exact .inl ⟨h1, rfl⟩
    · have e : ow' b = ow b := by show (if _ then _ else _) = _; rw [if_neg h1]
      rw [e] at h; exact .inr h
  have hN : ∀ b, F.N ow b → (H b).isSome = true → F.N ow' b := fun b h _ => ⟨a3 b h.1, h.2⟩
  have hv : Vw σ σ ρ (ρ.set i none) := vw_set fun c e => by cases e
  refine ⟨ow', by rw [List.length_set]; exact I.len, fun j c e => ?_, fun j c e => ?_, ⟨⟨a, rfl, a1 a ha, h2.tr hN Keeps.refl rfl⟩, I.tmp.tr hN Keeps.refl (fun b j hj e => ⟨a2 b _ e (fun z => by cases z), rfl⟩) (fun _ _ => rfl) (.inr hv)⟩, fun t ht d' e => ?_, fun b id e => ?_, fun b j e => ?_, I.keep, I.mio⟩
  · rcases set_cell e with ⟨rfl, e5⟩ | ⟨hj, e5⟩
    · cases e5
    · obtain ⟨w, q1, q2⟩ := I.slot j c e5
      exact ⟨w, q1, q2.tr hN Keeps.refl (fun b e => ⟨a2 b _ e (fun z => hj (Sum.inl.inj z)), rfl⟩) (fun _ _ => rfl) (.inr hv)⟩
  · rcases set_cell e with ⟨rfl, e5⟩ | ⟨hj, e5⟩
    · cases e5
    · exact I.io j c e5
  · rcases List.mem_cons.mp ht with rfl | ht
    · cases e
    · exact I.tio t ht d' e
  · rcases a4 b id e with ⟨h1, _⟩ | h1
    · exact I.own b _ h1
    · exact I.own b _ h1
  · rcases a4 b _ e with ⟨_, h2⟩ | h1
    · cases h2; exact Nat.lt_succ_self _
    · exact Nat.lt_succ_of_lt (I.tid b j h1)
theorem RSo.mov (I : RSo F ow σ H ρ ((v, c) :: τ)) (e : mov c ρ = some (c', ρ')) : (∃ ow', RSo F ow' σ H ρ' ((v, c') :: τ)) ∧ (∀ j, c' ≠ .view j) := by
  cases c with
  | ro d => cases e; exact ⟨⟨_, I⟩, fun _ z => by cases z⟩
  | own d => cases e; exact ⟨⟨_, I⟩, fun _ z => by cases z⟩
  | io d => cases e
  | view i =>
    dsimp only [Dn.mov] at e
    split at e
    · rename_i d q
      cases e
      have hv := I.tmp.1 _ q (fun _ z => by cases z)
      exact ⟨I.pop.moveOut q hv, fun _ z => by cases z⟩
    · cases e
/-- the owned object one below the top takes an item (the top's) -/
theorem RSo.appTop {D : Addr} {ds : List Dn.D} {vs : List V} (I : RSo F ow σ H ρ ((v, c) :: (.ref D, .own (.lst ds)) :: τ)) (hc : ∀ j, c ≠ .view j) (hD : H D = some (.lst vs)) : ∃ ow', RSo F ow' σ (upd H D (.lst (vs ++ [v]))) ρ ((.ref D, .own (.lst (ds ++ [c.d]))) :: τ) := by
  have rv := RepC.pop I hc
  have J := I.pop
  generalize drop ow (.inr ((V.ref D, C.own (.lst ds)) :: τ).length) = ow1 at J rv
  obtain ⟨D', e0, hD1, vs', e1, r1⟩ := J.tmp.1
  cases e0
  rw [hD] at e1; cases e1
  have hk : Keeps (F.N ow1) H (upd H D (.lst (vs ++ [v]))) := fun b o e hb => by
    have : b ≠ D := by
      rintro rfl
      rcases hb with hb | ⟨xs, rfl⟩ | ⟨ob, u, rfl⟩
      · rw [hb.1] at hD1; cases hD1
      · rw [hD] at e; cases e
      · rw [hD] at e; cases e
    rw [upd_ne this]; exact e
  obtain ⟨g1, g2, g3⟩ := J.own D _ hD1
  have nb : ∀ b id, ow1 b = some id → id ≠ .inr τ.length → b ≠ D := fun b id e n z => by rw [z, hD1] at e; exact n (Option.some.inj e).symm
  have hN : ∀ b, F.N ow1 b → (H b).isSome = true → F.N ow1 b := fun _ h _ => h
  have hio : ∀ b, F.io = some b → upd H D (.lst (vs ++ [v])) b = H b := fun b e => upd_ne fun z => g3 (z ▸ e)
  refine ⟨ow1, J.len, fun i c e => ?_, J.io, ⟨⟨D, rfl, hD1, vs ++ [v], upd_same, (r1.append (.cons rv .nil)).keep hk hN⟩, J.tmp.2.tr hN hk (fun b j hj e => ⟨e, upd_ne (nb b _ e fun z => by cases z; exact absurd hj (Nat.lt_irrefl _))⟩) hio⟩, fun t ht d' e => ?_, fun b id e => ?_, J.tid, fun b o e1 e2 => ?_, fun b e => ?_⟩
  · obtain ⟨w, q1, q2⟩ := J.slot i c e
    exact ⟨w, q1, q2.tr hN hk (fun b e => ⟨e, upd_ne (nb b _ e fun z => by cases z)⟩) hio⟩
  · rcases List.mem_cons.mp ht with rfl | ht
    · cases e
    · exact J.tio t (List.mem_cons_of_mem _ ht) d' e
  · obtain ⟨f1, f2⟩ := J.own b id e
    refine ⟨?_, f2⟩
    by_cases hb : b = D
    · subst hb; rw [upd_same]; rfl
    · rw [upd_ne hb]; exact f1
  · have : b ≠ D := fun z => by rw [z, g2] at e1; cases e1
    rw [upd_ne this]; exact J.keep b o e1 e2
  · rw [hio b e]; exact J.mio b e
end
/-! ### statements -/
inductive Out where
  | nx (ρ : Env) | rt (c : C) (ρ : Env) | bk (ρ : Env) | ct (ρ : Env)
abbrev S1 := Env → Option Out
def EndsOk (F : Fr) (W : List Nat) (σ : St) (τ : List (V × C)) (D : Ends) : Out → Prop
  | .nx ρ => ∀ σ' H', (∀ i, i ∉ W → σ'[i]? = σ[i]?) → RS F σ' H' ρ τ → D.nx σ' H'
  | .rt c ρ => ∀ v σ' H', RS F σ' H' ρ ((v, c) :: τ) → D.rt v H'
  | .bk ρ => ∀ σ' H', (∀ i, i ∉ W → σ'[i]? = σ[i]?) → RS F σ' H' ρ τ → D.bk σ' H'
  | .ct ρ => ∀ σ' H', (∀ i, i ∉ W → σ'[i]? = σ[i]?) → RS F σ' H' ρ τ → D.ct σ' H'
/-- W: the slots that it may write -/
def tDS (F : Fr) (W : List Nat) (s : S1) : TS := fun D σ H => ∃ ρ τ o, RS F σ H ρ τ ∧ NoV τ ∧ s ρ = some o ∧ EndsOk F W σ τ D o
def sNil : S1 := fun ρ => some (.nx ρ)
def sSeq (s t : S1) : S1 := fun ρ => (s ρ).bind fun o => match o with
  | .nx ρ1 => t ρ1
  | o => some o
def sIf (q : PT1) (s t : S1) : S1 := fun ρ => (q ρ).bind fun b => if b.1 = true then s b.2 else t b.2
def sRet (p : P1) : S1 := fun ρ => (p ρ).bind fun a => (mov a.1 a.2).map fun b => .rt b.1 b.2
def sRetN : S1 := fun ρ => some (.rt (.ro .non) ρ)
def sBrk : S1 := fun ρ => some (.bk ρ)
def sCnt : S1 := fun ρ => some (.ct ρ)
def sExpr (p : P1) : S1 := fun ρ => (p ρ).map fun a => .nx a.2
def setE (i : Nat) (c : C) (ρ : Env) : Option Env := if i < ρ.length then some (ρ.set i (some c)) else none
def sSet (i : Nat) (p : P1) : S1 := fun ρ => (p ρ).bind fun a => (cap a.1 a.2).bind fun b => (setE i b.1 b.2).map .nx
section
variable {X : Cx} {F : Fr} {W W1 W2 : List Nat} {st : Stmt} {rest : List Stmt} {s t : S1} {e : Expr} {p : P1} {q : PT1} {pos : Pos}
theorem EndsOk.mono {σ σ1 : St} {τ : List (V × C)} {D : Ends} {o : Out} (h : EndsOk F W σ τ D o) (hW : ∀ i, i ∉ W → i ∉ W1) (hs : ∀ i, i ∉ W → σ1[i]? = σ[i]?) : EndsOk F W1 σ1 τ D o := by
  cases o with
  | nx ρ => exact fun σ' H' z => h σ' H' fun i hi => (z i (hW i hi)).trans (hs i hi)
  | rt c ρ => exact h
  | bk ρ => exact fun σ' H' z => h σ' H' fun i hi => (z i (hW i hi)).trans (hs i hi)
  | ct ρ => exact fun σ' H' z => h σ' H' fun i hi => (z i (hW i hi)).trans (hs i hi)
theorem dss_nil : PSs X [] (tDS F [] sNil) := PSs.imp pss_nil fun D σ H hw => by
  obtain ⟨ρ, τ, o, I, nv, e1, k⟩ := hw
  cases e1
  exact k σ H (fun _ _ => rfl) I
theorem dss_cons (h1 : PS X st (tDS F W1 s)) (h2 : PSs X rest (tDS F W2 t)) : PSs X (st :: rest) (tDS F (W1 ++ W2) (sSeq s t)) := PSs.imp (pss_cons h1 h2) fun D σ H hw => by
  obtain ⟨ρ, τ, o, I, nv, e1, k⟩ := hw
  simp only [sSeq, Option.bind_eq_some_iff] at e1
  obtain ⟨o1, e1, e2⟩ := e1
  have m1 : ∀ i, i ∉ W1 ++ W2 → i ∉ W1 := fun i h z => h (List.mem_append_left _ z)
  have m2 : ∀ i, i ∉ W1 ++ W2 → i ∉ W2 := fun i h z => h (List.mem_append_right _ z)
  refine ⟨ρ, τ, o1, I, nv, e1, ?_⟩
  cases o1 with
  | nx ρ1 => exact fun σ1 H1 z I1 => ⟨ρ1, τ, o, I1, nv, e2, k.mono m2 fun i hi => z i (m1 i hi)⟩
  | rt c ρ1 => cases e2; exact k
  | bk ρ1 => cases e2; exact fun σ1 H1 z I1 => k σ1 H1 (fun i hi => z i (m1 i hi)) I1
  | ct ρ1 => cases e2; exact fun σ1 H1 z I1 => k σ1 H1 (fun i hi => z i (m1 i hi)) I1
theorem dss_one (h1 : PS X st (tDS F W s)) : PSs X [st] (tDS F W s) := pss_one h1
theorem ds_if {c : Expr} {a b : List Stmt} (hc : PT X c (tDT F q)) (ha : PSs X a (tDS F W1 s)) (hb : PSs X b (tDS F W2 t)) : PS X (.If c a b pos) (tDS F (W1 ++ W2) (sIf q s t)) := PS.imp (ps_if hc ha hb) fun D σ H hw => by
  obtain ⟨ρ, τ, o, I, nv, e1, k⟩ := hw
  simp only [sIf, Option.bind_eq_some_iff] at e1
  obtain ⟨⟨b, ρ1⟩, e1, e2⟩ := e1
  refine ⟨ρ, τ, b, ρ1, I, e1, fun H1 I1 => ?_⟩
  cases b with
  | true => exact ⟨ρ1, τ, o, I1, nv, e2, k.mono (fun i h z => h (List.mem_append_left _ z)) fun _ _ => rfl⟩
  | false => exact ⟨ρ1, τ, o, I1, nv, e2, k.mono (fun i h z => h (List.mem_append_right _ z)) fun _ _ => rfl⟩
theorem ds_ret (he : PE X e (tD F p)) : PS X (.Return (some e) pos) (tDS F [] (sRet p)) := PS.imp (ps_ret he) fun D σ H hw => by
  obtain ⟨ρ, τ, o, I, nv, e1, k⟩ := hw
  simp only [sRet, Option.bind_eq_some_iff, Option.map_eq_some_iff] at e1
  obtain ⟨⟨c, ρ1⟩, e1, ⟨c2, ρ2⟩, e2, e3⟩ := e1
  cases e3
  refine ⟨ρ, τ, c, ρ1, I, e1, fun v H1 ⟨ow, I1⟩ => ?_⟩
  exact k v σ H1 (I1.mov e2).1
theorem ds_retN : PS X (.Return none pos) (tDS F [] sRetN) := PS.imp ps_retN fun D σ H hw => by
  obtain ⟨ρ, τ, o, ⟨ow, I⟩, nv, e1, k⟩ := hw
  cases e1
  exact k .non σ H ⟨ow, I.push .non⟩
theorem ds_brk : PS X (.Break pos) (tDS F [] sBrk) := PS.imp ps_break fun D σ H hw => by
  obtain ⟨ρ, τ, o, I, nv, e1, k⟩ := hw
  cases e1
  exact k σ H (fun _ _ => rfl) I
theorem ds_cnt : PS X (.Continue pos) (tDS F [] sCnt) := PS.imp ps_continue fun D σ H hw => by
  obtain ⟨ρ, τ, o, I, nv, e1, k⟩ := hw
  cases e1
  exact k σ H (fun _ _ => rfl) I
theorem ds_pass : PS X (.Pass pos) (tDS F [] sNil) := PS.imp ps_pass fun D σ H hw => by
  obtain ⟨ρ, τ, o, I, nv, e1, k⟩ := hw
  cases e1
  exact k σ H (fun _ _ => rfl) I
theorem ds_doc {x j pos pos'} : PS X (.Expr (.Constant (.str x) j pos) pos') (tDS F [] sNil) := PS.imp ps_doc fun D σ H hw => by
  obtain ⟨ρ, τ, o, I, nv, e1, k⟩ := hw
  cases e1
  exact k σ H (fun _ _ => rfl) I
theorem ds_expr (he : PE X e (tD F p)) (hs : swapsWith e none pos.line X.env = pure false := by rfl) : PS X (.Expr e pos) (tDS F [] (sExpr p)) := PS.imp (ps_expr he hs) fun D σ H hw => by
  obtain ⟨ρ, τ, o, I, nv, e1, k⟩ := hw
  simp only [sExpr, Option.map_eq_some_iff] at e1
  obtain ⟨⟨c, ρ1⟩, e1, e2⟩ := e1
  cases e2
  exact ⟨ρ, τ, c, ρ1, I, e1, fun v H1 ⟨ow, I1⟩ => k σ H1 (fun _ _ => rfl) ⟨_, I1.pop⟩⟩
theorem set_of {i : Nat} {p : P1} {te : TE} (hte : ∀ σ H Q, tD F p σ H Q → te σ H Q) {D : Ends} {σ : St} {H : Hp} (hw : tDS F [i] (sSet i p) D σ H) : tAsg te (gName i) D σ H := by
  obtain ⟨ρ, τ, o, I, nv, e1, k⟩ := hw
  simp only [sSet, Option.bind_eq_some_iff, Option.map_eq_some_iff] at e1
  obtain ⟨⟨c, ρ1⟩, e1, ⟨c2, ρ2⟩, e2, ρ3, e3, e4⟩ := e1
  cases e4
  unfold setE at e3
  split at e3
  · rename_i hi
    cases e3
    refine hte _ _ _ ⟨ρ, τ, c, ρ1, I, e1, fun v H1 ⟨ow, I1⟩ => ?_⟩
    obtain ⟨⟨ow2, I2⟩, nv2⟩ := I1.cap e2
    obtain ⟨ow3, I3⟩ := I2.setSlot (i := i) hi nv2 (.inr nv)
    exact k _ H1 (fun j hj => List.getElem?_set_ne (fun z => hj (List.mem_singleton.mpr z.symm))) ⟨ow3, I3⟩
  · cases e3
theorem ds_set {i : Nat} {x : Str} {pos' : Pos} (hN : X.N.Nodup) (hi : X.N[i]? = some x) (hx : Loc X.env.scope x) (he : PE X e (tD F p)) (hs : swapsWith e (some (.Name x pos')) pos.line X.env = pure false := by rfl) (hf : X.fn x = true ∨ X.env.scope.names.lookup x = some .local := by first | exact .inl rfl | exact .inr rfl | assumption) :
    PS X (.Assign [.Name x pos'] e pos) (tDS F [i] (sSet i p)) := PS.imp (ps_set hN hi hx he hs hf) fun D σ H => set_of fun _ _ _ h => h
end
end Dn

namespace Dn
open PySem L2
/-! ### targets: an item is bound to names -/
abbrev B1 := D → Env → Option Env
def bName (i : Nat) : B1 := fun d ρ => setE i (.ro d) ρ
abbrev Bs := List D → Env → Option Env
def bNil : Bs := fun ds ρ => match ds with
  | [] => some ρ
  | _ => none
def bCons (b : B1) (bs : Bs) : Bs := fun ds ρ => match ds with
  | d :: ds => (b d ρ).bind fun ρ1 => bs ds ρ1
  | [] => none
def bTup (n : Nat) (bs : Bs) : B1 := fun d ρ => match d with
  | .tup ds => if ds.length = n then bs ds ρ else none
  | _ => none
def bLst (n : Nat) (bs : Bs) : B1 := fun d ρ => match d with
  | .lst ds => if ds.length = n then bs ds ρ else none
  | _ => none
def tDG (F : Fr) (W : List Nat) (b : B1) : TG := fun v σ H Q => ∃ ρ τ d ρ', RS F σ H ρ ((v, .ro d) :: τ) ∧ b d ρ = some ρ' ∧ ∀ σ', σ'.length = σ.length → (∀ i, i ∉ W → σ'[i]? = σ[i]?) → RS F σ' H ρ' τ → Q σ' H
def tDGs (F : Fr) (W : List Nat) (b : Bs) : TGs := fun vs σ H Q => ∃ ρ τ ds ρ', (∃ ow, RSo F ow σ H ρ τ ∧ RepL F.K (F.N ow) H vs ds) ∧ b ds ρ = some ρ' ∧ ∀ σ', σ'.length = σ.length → (∀ i, i ∉ W → σ'[i]? = σ[i]?) → RS F σ' H ρ' τ → Q σ' H
section
variable {X : Cx} {F : Fr} {W W1 W2 : List Nat} {e : Expr} {pos : Pos} {b : B1} {bs : Bs}
theorem PG.imp {t t' : TG} (h : PG X e t) (k : ∀ v σ H Q, t' v σ H Q → t v σ H Q) : PG X e t' := ⟨fun pins s σ H v u Q I r hw => h.run pins s σ H v u Q I r (k v σ H Q hw)⟩
theorem PGs.imp {es : List Expr} {t t' : TGs} (h : PGs X es t) (k : ∀ v σ H Q, t' v σ H Q → t v σ H Q) : PGs X es t' := ⟨fun pins s σ H v u Q I r hw => h.run pins s σ H v u Q I r (k v σ H Q hw)⟩
theorem RSo.bind {F : Fr} {ow : Ow} {σ : St} {H : Hp} {ρ : Env} {τ : List (V × C)} {v : V} {d : D} {i : Nat} (I : RSo F ow σ H ρ ((v, .ro d) :: τ)) (hi : i < ρ.length) : ∃ ow', RSo F ow' (σ.set i (some v)) H (ρ.set i (some (.ro d))) τ := I.setSlot hi (fun _ z => by cases z) (.inl ⟨d, rfl⟩)
theorem dg_name {i : Nat} {x : Str} (hN : X.N.Nodup) (hi : X.N[i]? = some x) (hx : Loc X.env.scope x) (hf : X.fn x = true ∨ X.env.scope.names.lookup x = some .local := by first | exact .inl rfl | exact .inr rfl | assumption) : PG X (.Name x pos) (tDG F [i] (bName i)) := PG.imp (pg_name hN hi hx hf) fun v σ H Q hw => by
  obtain ⟨ρ, τ, d, ρ', ⟨ow, I⟩, e1, k⟩ := hw
  dsimp only [bName, setE] at e1
  split at e1
  · rename_i hl; cases e1
    exact k _ List.length_set (fun j hj => List.getElem?_set_ne (fun z => hj (List.mem_singleton.mpr z.symm))) (I.bind hl)
  · cases e1
theorem dgs_nil : PGs X [] (tDGs F [] bNil) := PGs.imp pgs_nil fun vs σ H Q hw => by
  obtain ⟨ρ, τ, ds, ρ', ⟨ow, I, r⟩, e1, k⟩ := hw
  dsimp only [bNil] at e1
  split at e1
  · cases e1; cases r; exact ⟨rfl, k _ rfl (fun _ _ => rfl) ⟨ow, I⟩⟩
  · cases e1
/-- later items stay as they are while earlier names are stored: only slots change -/
theorem dgs_cons {es : List Expr} (h1 : PG X e (tDG F W1 b)) (h2 : PGs X es (tDGs F W2 bs)) (hs : (assignEach (e :: es) X.env).map (·.2) = assign e X.env :: (assignEach es X.env).map (·.2) := by rfl) : PGs X (e :: es) (tDGs F (W1 ++ W2) (bCons b bs)) := PGs.imp (pgs_cons h1 h2 hs) fun vs σ H Q hw => by
  obtain ⟨ρ, τ, ds, ρ', ⟨ow, I, r⟩, e1, k⟩ := hw
  dsimp only [bCons] at e1
  split at e1
  · rename_i d ds
    simp only [Option.bind_eq_some_iff] at e1
    obtain ⟨ρ1, e1, e2⟩ := e1
    cases r with
    | cons r1 r2 =>
      rename_i v vs
      -- the others wait on the stack
      have stack : ∀ {vs : List V} {ds : List D} {τ : List (V × C)} {ow : Ow}, RSo F ow σ H ρ τ → RepL F.K (F.N ow) H vs ds → RSo F ow σ H ρ (stk vs (ds.map .ro) τ) := by
        intro vs
        induction vs with
        | nil => intro ds τ ow I r; cases r; exact I
        | cons v vs ih =>
          intro ds τ ow I r
          cases r with
          | cons q r => exact ih (I.push q) r
      have I1 := (stack I r2).push r1
      refine ⟨v, vs, rfl, ρ, _, d, ρ1, ⟨_, I1⟩, e1, fun σ1 l1 z1 I2 => ?_⟩
      obtain ⟨ow2, I2⟩ := I2
      have hl : vs.length = (ds.map C.ro).length := by rw [List.length_map]; exact r2.length
      obtain ⟨ow3, I3, rx⟩ := RSo.take hl I2
      -- read alone, strongly
      have strong : ∀ {vs : List V} {ds : List D} {τ : List (V × C)} {ow : Ow}, vs.length = ds.length → RSo F ow σ1 H ρ1 (stk vs (ds.map .ro) τ) → ∃ ow', RSo F ow' σ1 H ρ1 τ ∧ RepL F.K (F.N ow') H vs ds := by
        intro vs
        induction vs with
        | nil => intro ds τ ow hl I; cases ds with
          | nil => exact ⟨ow, I, .nil⟩
          | cons => cases hl
        | cons v vs ih =>
          intro ds τ ow hl I
          cases ds with
          | nil => cases hl
          | cons d ds =>
            obtain ⟨ow1, I1, r⟩ := ih (by simpa using hl) I
            exact ⟨_, I1.pop, .cons (RepC.pop I1 (fun _ z => by cases z)) (r.mono drop_N)⟩
      obtain ⟨ow4, I4, r4⟩ := strong r2.length I2
      exact ⟨ρ1, τ, ds, ρ', ⟨ow4, I4, r4⟩, e2, fun σ2 l2 z2 I5 => k σ2 (l2.trans l1) (fun i hi => (z2 i fun z => hi (List.mem_append_right _ z)).trans (z1 i fun z => hi (List.mem_append_left _ z))) I5⟩
  · cases e1
theorem dg_tup {es : List Expr} {k : Nat} {n : Nat} (hK : F.K = X.K) (hc : X.calm = true) (h : PGs X es (tDGs F W bs))
    (hn : (assignEach es X.env).length = n := by rfl) (hst : (assignEach es X.env).findIdx? (·.1) = none := by rfl) : PG X (.Tuple es k pos) (tDG F W (bTup n bs)) := PG.imp (pg_tup hc h hn hst) fun v σ H Q hw => by
  obtain ⟨ρ, τ, d, ρ', ⟨ow, I⟩, e1, k⟩ := hw
  dsimp only [bTup] at e1
  split at e1
  · rename_i ds
    split at e1
    · rename_i hl
      have r := RepC.pop I (fun _ z => by cases z)
      generalize drop ow _ = ow1 at r
      obtain ⟨a, vs, e, h1, r1⟩ := RepX.tup r.x
      have r' := RepC.pop I (fun _ z => by cases z)
      obtain ⟨a', vs', e', h1', r1'⟩ := RepX.tup r'.x
      refine ⟨a', vs', e', by rw [← hK]; exact h1', by rw [r1'.length]; exact hl, ρ, τ, ds, ρ', ⟨_, I.pop, r1'⟩, e1, k⟩
    · cases e1
  · cases e1

/-! ### what is walked -/
structure Walk (F : Fr) (J : It) (ts : List (V × C)) (ds : List D) : Prop where
  go : ∀ i σ H ρ us τ, i < ds.length → RS F σ H ρ (us ++ (ts ++ τ)) → J.go i H
  stop : ∀ i σ H ρ us τ, ds.length ≤ i → RS F σ H ρ (us ++ (ts ++ τ)) → J.stop i H
  yld : ∀ i σ H ρ us τ x H', i < ds.length → RS F σ H ρ (us ++ (ts ++ τ)) → J.yld i H x H' → ∃ d, ds[i]? = some d ∧ RS F σ H' ρ ((x, .ro d) :: (us ++ (ts ++ τ)))
theorem Tmps.deep {F : Fr} {ow : Ow} {σ : St} {ρ : Env} {H : Hp} {t : V × C} {τ : List (V × C)} : ∀ {us : List (V × C)}, Tmps F ow σ ρ H (us ++ t :: τ) → RepC F ow (.inr τ.length) σ ρ H t.1 t.2
  | [], h => h.1
  | _ :: _, h => Tmps.deep h.2
abbrev I1 := Env → Option (List D × Env)
def tDI (F : Fr) (it : I1) : TI := fun σ H R => ∃ ρ τ ds ρ', RS F σ H ρ τ ∧ it ρ = some (ds, ρ') ∧ ∀ J ts H', Walk F J ts ds → NoV ts → RS F σ H' ρ' (ts ++ τ) → R J H'
theorem PI.imp {tg iter : Expr} {t t' : TI} (h : PI X tg iter t) (k : ∀ σ H R, t' σ H R → t σ H R) : PI X tg iter t' := ⟨fun pins s σ H R I hw => h.run pins s σ H R I (k σ H R hw)⟩
theorem RSo.popL {F : Fr} {σ : St} {H : Hp} {ρ : Env} {τ : List (V × C)} : ∀ {ts : List (V × C)}, RS F σ H ρ (ts ++ τ) → RS F σ H ρ τ
  | [], h => h
  | _ :: ts, ⟨_, I⟩ => RSo.popL (ts := ts) ⟨_, I.pop⟩
/-- over a list or a tuple -/
def iSeqT (K : PySem.W.Frag) (te : TE) : TI := fun σ H R => te σ H fun x H1 => ∃ a, x = .ref a ∧ (((∃ xs, SqL K H1 a xs) ∧ R (Itl K a) H1) ∨ ((∃ xs, SqT K H1 a xs) ∧ R (Itt K a) H1))
theorem pi_seq {tg l : Expr} {tl : TE} (hl : PE X l tl) : PI X tg l (iSeqT X.K tl) := by
  refine ⟨fun pins s σ H R I h => ?_⟩
  refine thn (hl.run pins s σ H _ I h) fun v s1 ⟨x, H1, I1, r1, q1⟩ => ?_
  obtain ⟨a, e, q1⟩ := q1
  subst e
  cases r1
  rcases q1 with ⟨⟨xs, hq⟩, q⟩ | ⟨⟨xs, hq⟩, q⟩
  · obtain ⟨its, rv, p, hz⟩ := I1.list hq
    refine PySem.wpAny_pyIter_list p.isList ?_
    refine ⟨s1.heap.objs.size, [s1.heap.objs.size], _, _, H1, rfl, I1.kept (t' := s1.toks) fun b o e => Heap.get?_push_of_some _ e, turn_list a _, ⟨_, Heap.get?_push_size _ rfl, rfl, rfl⟩, fun b hb => ?_, q⟩
    have e : b = s1.heap.objs.size := by simpa using hb
    subst e
    exact I1.fpOk (Nat.le_refl _) (I1.hok.fresh (Nat.le_refl _))
  · obtain ⟨its, rv, p, hz⟩ := I1.tuple hq
    refine PySem.wpAny_pyIter_tuple (show s1.heap.IsTuple a its.toArray from p) ?_
    refine ⟨s1.heap.objs.size, [s1.heap.objs.size], _, _, H1, rfl, I1.kept (t' := s1.toks) fun b o e => Heap.get?_push_of_some _ e, turn_tuple a _, ⟨_, Heap.get?_push_size _ rfl, rfl, rfl⟩, fun b hb => ?_, q⟩
    have e : b = s1.heap.objs.size := by simpa using hb
    subst e
    exact I1.fpOk (Nat.le_refl _) (I1.hok.fresh (Nat.le_refl _))
def D.items : D → Option (List D)
  | .lst ds => some ds
  | .tup ds => some ds
  | .scr ns => some (ns.map .int)
  | _ => none
def iSeq (p : P1) : I1 := fun ρ => (p ρ).bind fun a => (cap a.1 a.2).bind fun b => (D.items b.1.d).map fun ds => (ds, b.2)
/-- the list or tuple that the top of the stack holds -/
theorem items_at {F : Fr} {ow : Ow} {σ : St} {H : Hp} {ρ : Env} {τ : List (V × C)} {v : V} {c : C} {ds : List D} (I : RSo F ow σ H ρ τ) {id : Sum Nat Nat} (h : RepC F ow id σ ρ H v c) (hv : ∀ j, c ≠ .view j) (e : D.items c.d = some ds) :
    ∃ a, v = .ref a ∧ ∃ vs, RepL F.K (F.N ow) H vs ds ∧ ((SqL F.K H a vs ∧ (∀ es, c.d ≠ .tup es)) ∨ (SqT F.K H a vs ∧ ∃ es, c.d = .tup es)) := by
  have hx : RepX F.K (F.N ow) H v c.d := I.x h (by cases c <;> first | rfl | exact absurd rfl (hv _))
  generalize c.d = d at hx e
  cases d with
  | lst es => cases e; obtain ⟨a, vs, rfl, h1, r⟩ := hx.lst; exact ⟨a, rfl, vs, r, .inl ⟨SqL.of h1, fun _ z => by cases z⟩⟩
  | tup es => cases e; obtain ⟨a, vs, rfl, h1, r⟩ := hx.tup; exact ⟨a, rfl, vs, r, .inr ⟨h1, _, rfl⟩⟩
  | scr es => cases e; obtain ⟨a, rfl, h1⟩ := hx.scr; exact ⟨a, rfl, _, RepL.ints _, .inl ⟨h1.l, fun _ z => by cases z⟩⟩
  | _ => cases e
theorem ref_eq {F : Fr} {a : Addr} {v : V} (h : v = .ref a) : v = .ref a := h
theorem walk_seq {F : Fr} {v : V} {c : C} {a : Addr} {ds : List D} (hv : ∀ j, c ≠ .view j) (ev : v = .ref a) (e : D.items c.d = some ds) : ((∀ es, c.d ≠ .tup es) → Walk F (Itl F.K a) [(v, c)] ds) ∧ ((∃ es, c.d = .tup es) → Walk F (Itt F.K a) [(v, c)] ds) := by
  constructor
  · intro ht
    refine ⟨fun i σ H ρ us τ hi ⟨ow, I⟩ => ?_, fun i σ H ρ us τ hi ⟨ow, I⟩ => ?_, fun i σ H ρ us τ x H' hi ⟨ow, I⟩ y => ?_⟩
    all_goals
      obtain ⟨a', e1, vs, r, hq⟩ := items_at I (Tmps.deep (us := us) (t := (v, c)) I.tmp) hv e
      rw [ev] at e1; cases e1
      have hq : SqL F.K H a vs := by
        rcases hq with ⟨h, _⟩ | ⟨_, z⟩
        · exact h
        · exact absurd z (fun ⟨es, z⟩ => ht es z)
    · obtain ⟨w, h1, h2⟩ := r.get' (i := i) (d := ds[i]) (by simp [hi])
      exact ⟨vs, w, hq, h1⟩
    · exact ⟨vs, hq, by rw [r.length]; exact hi⟩
    · obtain ⟨e2, y⟩ := y
      subst e2
      obtain ⟨d, h1, h2⟩ := r.get (y vs hq)
      exact ⟨d, h1, ow, I.push h2⟩
  · intro ht
    refine ⟨fun i σ H ρ us τ hi ⟨ow, I⟩ => ?_, fun i σ H ρ us τ hi ⟨ow, I⟩ => ?_, fun i σ H ρ us τ x H' hi ⟨ow, I⟩ y => ?_⟩
    all_goals
      obtain ⟨a', e1, vs, r, hq⟩ := items_at I (Tmps.deep (us := us) (t := (v, c)) I.tmp) hv e
      rw [ev] at e1; cases e1
      have hq : SqT F.K H a vs := by
        rcases hq with ⟨_, z⟩ | ⟨h, _⟩
        · exact absurd ht (fun ⟨es, q⟩ => z es q)
        · exact h
    · obtain ⟨w, h1, h2⟩ := r.get' (i := i) (d := ds[i]) (by simp [hi])
      exact ⟨vs, w, hq, h1⟩
    · exact ⟨vs, hq, by rw [r.length]; exact hi⟩
    · obtain ⟨e2, y⟩ := y
      subst e2
      obtain ⟨d, h1, h2⟩ := r.get (y vs hq)
      exact ⟨d, h1, ow, I.push h2⟩
theorem di_seq {tg : Expr} {p : P1} (hK : F.K = X.K) (he : PE X e (tD F p)) : PI X tg e (tDI F (iSeq p)) := PI.imp (pi_seq he) fun σ H R hw => by
  obtain ⟨ρ, τ, ds, ρ', I, e1, k⟩ := hw
  simp only [iSeq, Option.bind_eq_some_iff, Option.map_eq_some_iff] at e1
  obtain ⟨⟨c, ρ1⟩, e1, ⟨c2, ρ2⟩, e2, ds', e3, e4⟩ := e1
  cases e4
  refine ⟨ρ, τ, c, ρ1, I, e1, fun v H1 ⟨ow, I1⟩ => ?_⟩
  obtain ⟨⟨ow2, I2⟩, nv⟩ := I1.cap e2
  obtain ⟨a, ev, vs, r, hq⟩ := items_at I2 I2.tmp.1 nv e3
  have wk := walk_seq (F := F) nv ev e3
  have nn : NoV [(v, c2)] := fun t ht j => by
    have : t = (v, c2) := by simpa using ht
    subst this; exact nv j
  refine ⟨a, ev, ?_⟩
  rw [← hK]
  rcases hq with ⟨h1, ht⟩ | ⟨h1, ht⟩
  · exact .inl ⟨⟨vs, h1⟩, k _ _ H1 (wk.1 ht) nn ⟨ow2, I2⟩⟩
  · exact .inr ⟨⟨vs, h1⟩, k _ _ H1 (wk.2 ht) nn ⟨ow2, I2⟩⟩
/-- range(n), range(a, b) -/
def rangeD (lo : Int) (n : Nat) : List D := (List.range n).map fun i => D.int (lo + (i : Nat))
theorem walk_range {F : Fr} (lo : Int) (n : Nat) : Walk F (Itr lo n) [] (rangeD lo n) := by
  refine ⟨fun i σ H ρ us τ hi I => ?_, fun i σ H ρ us τ hi I => ?_, fun i σ H ρ us τ x H' hi I y => ?_⟩
  · simpa [rangeD, Itr] using hi
  · simpa [rangeD, Itr] using hi
  · obtain ⟨e1, e2⟩ := y
    subst e1; subst e2
    have hi : i < n := by simpa [rangeD] using hi
    obtain ⟨ow, I⟩ := I
    exact ⟨.int (lo + (i : Nat)), by simp [rangeD, hi], ow, I.push (.int _)⟩
def smallI (i : Int) : Bool := decide (i.natAbs < 2 ^ 62)
def iRange1 (ps : PAs) : I1 := fun ρ => (ps ρ).bind fun a => match dats a.2 a.1 with
  | some [.int n] => if smallI n = true then some (rangeD 0 n.toNat, a.2) else none
  | _ => none
def iRange2 (ps : PAs) : I1 := fun ρ => (ps ρ).bind fun a => match dats a.2 a.1 with
  | some [.int m, .int n] => if (smallI m && smallI n) = true then some (rangeD m (n - m).toNat, a.2) else none
  | _ => none
theorem noV_nil : NoV [] := fun _ h => nomatch h
theorem di_range1 {tg a : Expr} {ps : PAs} {p pos : Pos} (hg : Gl X "range") (hm : X.mg "range" = none) (ha : PA X [a] (tDA F ps)) (hs : starEach [a] X.env = [(false, eval a X.env)] := by rfl) : PI X tg (.Call (.Name "range" p) [a] [] pos) (tDI F (iRange1 ps)) := PI.imp (pi_range1 hg hm ha hs) fun σ H R hw => by
  obtain ⟨ρ, τ, ds, ρ', I, e1, k⟩ := hw
  simp only [iRange1, Option.bind_eq_some_iff] at e1
  obtain ⟨⟨cs, ρ1⟩, e1, e2⟩ := e1
  split at e2
  · rename_i n q
    split at e2
    · rename_i hn
      cases e2
      simp only [smallI, Bool.and_eq_true, decide_eq_true_eq] at hn
      refine ⟨ρ, τ, cs, ρ1, I, e1, fun vs H1 hl ⟨ow, I1⟩ => ?_⟩
      obtain ⟨ow2, I2, rx⟩ := RSo.take hl I1
      have r := rx _ q
      cases r with
      | cons r1 r => cases r; have := r1.int; subst this; exact ⟨n, rfl, by omega, by omega, k _ [] H1 (walk_range 0 n.toNat) noV_nil ⟨ow2, I2⟩⟩
    · cases e2
  · cases e2
theorem di_range2 {tg a b : Expr} {ps : PAs} {p pos : Pos} (hg : Gl X "range") (hm : X.mg "range" = none) (ha : PA X [a, b] (tDA F ps)) (hs : starEach [a, b] X.env = [(false, eval a X.env), (false, eval b X.env)] := by rfl) (hs2 : starEach [b] X.env = [(false, eval b X.env)] := by rfl) : PI X tg (.Call (.Name "range" p) [a, b] [] pos) (tDI F (iRange2 ps)) := PI.imp (pi_range2 hg hm ha hs hs2) fun σ H R hw => by
  obtain ⟨ρ, τ, ds, ρ', I, e1, k⟩ := hw
  simp only [iRange2, Option.bind_eq_some_iff] at e1
  obtain ⟨⟨cs, ρ1⟩, e1, e2⟩ := e1
  split at e2
  · rename_i m n q
    split at e2
    · rename_i hn
      cases e2
      simp only [smallI, Bool.and_eq_true, decide_eq_true_eq] at hn
      refine ⟨ρ, τ, cs, ρ1, I, e1, fun vs H1 hl ⟨ow, I1⟩ => ?_⟩
      obtain ⟨ow2, I2, rx⟩ := RSo.take hl I1
      have r := rx _ q
      cases r with
      | cons r1 r => cases r with
        | cons r2 r => cases r; have := r1.int; subst this; have := r2.int; subst this; exact ⟨m, n, rfl, ⟨by omega, by omega, by omega, by omega⟩, k _ [] H1 (walk_range m (n - m).toNat) noV_nil ⟨ow2, I2⟩⟩
    · cases e2
  · cases e2
/-! ### for -/
def loopL (b : B1) (s : S1) : List D → Env → Option Out
  | [], ρ => some (.nx ρ)
  | d :: ds, ρ => (b d ρ).bind fun ρ1 => (s ρ1).bind fun o => match o with
    | .nx ρ2 => loopL b s ds ρ2
    | .ct ρ2 => loopL b s ds ρ2
    | .bk ρ2 => some (.nx ρ2)
    | .rt c ρ2 => some (.rt c ρ2)
def sFor (it : I1) (b : B1) (s : S1) : S1 := fun ρ => (it ρ).bind fun a => loopL b s a.1 a.2
/-- what lies under the top is dropped -/
theorem RSo.under {F : Fr} {ow : Ow} {σ : St} {H : Hp} {ρ : Env} {t u : V × C} {τ : List (V × C)} (I : RSo F ow σ H ρ (t :: u :: τ)) : ∃ ow', RSo F ow' σ H ρ (t :: τ) := by
  let ow' : Ow := fun b => if ow b = some (.inr (τ.length + 1)) then some (.inr τ.length) else if ow b = some (.inr τ.length) then none else ow b
  have a1 : ∀ b, ow b = some (.inr (τ.length + 1)) → ow' b = some (.inr τ.length) := fun b h => if_pos h
  have a2 : ∀ b id, ow b = some id → id ≠ .inr (τ.length + 1) → id ≠ .inr τ.length → ow' b = some id := fun b id h n1 n2 => by
    show (if _ then _ else _) = _
    rw [if_neg (by rw [h]; exact fun z => n1 (Option.some.inj z)), if_neg (by rw [h]; exact fun z => n2 (Option.some.inj z))]; exact h
  have a3 : ∀ b, ow b = none → ow' b = none := fun b h => by
    show (if _ then _ else _) = _
    rw [if_neg (by rw [h]; simp), if_neg (by rw [h]; simp)]; exact h
  have a4 : ∀ b id, ow' b = some id → (ow b = some (.inr (τ.length + 1)) ∧ id = .inr τ.length) ∨ (ow b = some id ∧ id ≠ .inr τ.length ∧ id ≠ .inr (τ.length + 1)) := fun b id h => by
    by_cases h1 : ow b = some (.inr (τ.length + 1))
    · rw [a1 b h1] at h; cases h; exact .inl ⟨h1, rfl⟩
    · by_cases h2 : ow b = some (.inr τ.length)
      · have : ow' b = none := by show (if _ then _ else _) = _; rw [if_neg h1, if_pos h2]
        rw [this] at h; cases h
      · have e : ow' b = ow b := by show (if _ then _ else _) = _; rw [if_neg h1, if_neg h2]
        rw [e] at h
        exact .inr ⟨h, fun z => h2 (z ▸ h), fun z => h1 (z ▸ h)⟩
  have hN : ∀ b, F.N ow b → (H b).isSome = true → F.N ow' b := fun b h _ => ⟨a3 b h.1, h.2⟩
  refine ⟨ow', I.len, fun i c e => ?_, I.io, ⟨I.tmp.1.tr hN Keeps.refl (fun b e => ⟨a1 b e, rfl⟩) (fun _ _ => rfl), I.tmp.2.2.tr hN Keeps.refl (fun b j hj e => ⟨a2 b _ e (fun z => by cases z; omega) (fun z => by cases z; omega), rfl⟩) (fun _ _ => rfl)⟩, fun t' ht' => I.tio t' ?_, fun b id e => ?_, fun b j e => ?_, I.keep, I.mio⟩
  · obtain ⟨v, h1, h2⟩ := I.slot i c e
    exact ⟨v, h1, h2.tr hN Keeps.refl (fun b e => ⟨a2 b _ e (fun z => by cases z) (fun z => by cases z), rfl⟩) (fun _ _ => rfl)⟩
  · rcases List.mem_cons.mp ht' with rfl | h
    · exact List.mem_cons_self
    · exact List.mem_cons_of_mem _ (List.mem_cons_of_mem _ h)
  · rcases a4 b id e with ⟨h1, _⟩ | ⟨h1, _⟩
    · exact I.own b _ h1
    · exact I.own b _ h1
  · rcases a4 b _ e with ⟨_, h2⟩ | ⟨h1, h2, h3⟩
    · cases h2; exact Nat.lt_succ_self _
    · have := I.tid b j h1
      have hne : j ≠ τ.length := fun z => h2 (by rw [z])
      have hne2 : j ≠ τ.length + 1 := fun z => h3 (by rw [z])
      simp only [List.length_cons] at this ⊢
      omega
theorem RSo.ret1 {F : Fr} {σ : St} {H : Hp} {ρ : Env} {t : V × C} {τ : List (V × C)} : ∀ {ts : List (V × C)}, RS F σ H ρ (t :: (ts ++ τ)) → RS F σ H ρ (t :: τ)
  | [], h => h
  | _ :: ts, ⟨_, I⟩ => RSo.ret1 (ts := ts) I.under
theorem ds_for {tg iter : Expr} {body : List Stmt} {it : I1} {b : B1} {s : S1} (hp : PassesOwn (model X.prog X.w) X.A X.env X.xe) (hc : X.calm = true) (hi : PI X tg iter (tDI F it)) (hg : PG X tg (tDG F W1 b)) (hb : PSs X body (tDS F W2 s))
    (hs : ∀ x, foldedSetIterable iter X.env x = pure x := by intro _; rfl) : PS X (.For tg iter body [] pos) (tDS F (W1 ++ W2) (sFor it b s)) := PS.imp (ps_for hp hc hi hg hb hs) fun D σ H hw => by
  obtain ⟨ρ, τ, o, I, nv, e1, k⟩ := hw
  simp only [sFor, Option.bind_eq_some_iff] at e1
  obtain ⟨⟨ds, ρ1⟩, e1, e2⟩ := e1
  refine ⟨ρ, τ, ds, ρ1, I, e1, fun J ts H1 wk nt I1 => ?_⟩
  have nvt : NoV (ts ++ τ) := fun t ht j => (List.mem_append.mp ht).elim (fun h => nt t h j) fun h => nv t h j
  have m1 : ∀ i, i ∉ W1 ++ W2 → i ∉ W1 := fun i h z => h (List.mem_append_left _ z)
  have m2 : ∀ i, i ∉ W1 ++ W2 → i ∉ W2 := fun i h z => h (List.mem_append_right _ z)
  refine ⟨fun i m σ' H' => m = ds.length - i ∧ i ≤ ds.length ∧ (∀ j, j ∉ W1 ++ W2 → σ'[j]? = σ[j]?) ∧ ∃ ρ', RS F σ' H' ρ' (ts ++ τ) ∧ loopL b s (ds.drop i) ρ' = some o, ⟨ds.length, by simp, Nat.zero_le _, fun _ _ => rfl, ρ1, I1, e2⟩, ?_⟩
  rintro i m σ' H' ⟨rfl, hi, zσ, ρ', I', el⟩
  by_cases hlt : i < ds.length
  · refine .inr ⟨wk.go i σ' H' ρ' [] τ hlt I', fun σ2 H2 => (∀ j, j ∉ W1 ++ W2 → σ2[j]? = σ[j]?) ∧ ∃ ρ2, RS F σ2 H2 ρ2 (ts ++ τ) ∧ loopL b s (ds.drop (i + 1)) ρ2 = some o, fun σ2 H2 ⟨z2, ρ2, I2, el2⟩ => ⟨ds.length - (i + 1), by omega, rfl, hlt, z2, ρ2, I2, el2⟩, fun x H2 y => ?_⟩
    obtain ⟨d, hd, I2⟩ := wk.yld i σ' H' ρ' [] τ x H2 hlt I' y
    have ed : ds.drop i = d :: ds.drop (i + 1) := by
      have hd' : ds[i] = d := by
        rw [List.getElem?_eq_getElem hlt] at hd; exact Option.some.inj hd
      rw [← hd']; exact List.drop_eq_getElem_cons hlt
    rw [ed] at el
    simp only [loopL, Option.bind_eq_some_iff] at el
    obtain ⟨ρ2, el1, o2, el2, el3⟩ := el
    refine ⟨ρ', ts ++ τ, d, ρ2, I2, el1, fun σ3 _ z3 I3 => ⟨ρ2, ts ++ τ, o2, I3, nvt, el2, ?_⟩⟩
    have z3' : ∀ j, j ∉ W1 ++ W2 → σ3[j]? = σ[j]? := fun j hj => (z3 j (m1 j hj)).trans (zσ j hj)
    cases o2 with
    | nx ρ3 => exact fun σ4 H4 z4 I4 => ⟨fun j hj => (z4 j (m2 j hj)).trans (z3' j hj), ρ3, I4, el3⟩
    | ct ρ3 => exact fun σ4 H4 z4 I4 => ⟨fun j hj => (z4 j (m2 j hj)).trans (z3' j hj), ρ3, I4, el3⟩
    | bk ρ3 =>
      cases el3
      exact fun σ4 H4 z4 I4 => k σ4 H4 (fun j hj => (z4 j (m2 j hj)).trans (z3' j hj)) (RSo.popL I4)
    | rt c ρ3 =>
      cases el3
      exact fun v σ4 H4 I4 => k v σ4 H4 (RSo.ret1 I4)
  · have e : ds.drop i = [] := List.drop_eq_nil_of_le (by omega)
    rw [e] at el
    cases el
    exact .inl ⟨wk.stop i σ' H' ρ' [] τ (by omega) I', k σ' H' zσ (RSo.popL I')⟩
/-! ### while -/
def bigN : Nat := 2 ^ 64
def loopW (q : PT1) (s : S1) : Nat → Env → Option Out
  | 0, _ => none
  | n + 1, ρ => (q ρ).bind fun t => if t.1 = true then (s t.2).bind fun o => (match o with
    | .nx ρ2 => loopW q s n ρ2
    | .ct ρ2 => loopW q s n ρ2
    | .bk ρ2 => some (.nx ρ2)
    | .rt c ρ2 => some (.rt c ρ2)) else some (.nx t.2)
def sWhile (q : PT1) (s : S1) : S1 := fun ρ => loopW q s bigN ρ
theorem ds_while {c : Expr} {body : List Stmt} {q : PT1} {s : S1} (hp : PassesOwn (model X.prog X.w) X.A X.env X.xe) (hc : PT X c (tDT F q)) (hb : PSs X body (tDS F W s)) : PS X (.While c body [] pos) (tDS F W (sWhile q s)) := PS.imp (ps_while hp hc hb) fun D σ H hw => by
  obtain ⟨ρ, τ, o, I, nv, e1, k⟩ := hw
  unfold sWhile at e1
  refine ⟨fun m σ' H' => (∀ j, j ∉ W → σ'[j]? = σ[j]?) ∧ ∃ ρ', RS F σ' H' ρ' τ ∧ loopW q s m ρ' = some o, ⟨bigN, fun _ _ => rfl, ρ, I, e1⟩, ?_⟩
  rintro m σ' H' ⟨zσ, ρ', I', el⟩
  cases m with
  | zero => cases el
  | succ m =>
    simp only [loopW, Option.bind_eq_some_iff] at el
    obtain ⟨⟨b, ρ1⟩, el1, el2⟩ := el
    refine ⟨ρ', τ, b, ρ1, I', el1, fun H1 I1 => ?_⟩
    cases b with
    | false => cases el2; exact k σ' H1 zσ I1
    | true =>
      rw [if_pos rfl] at el2 ⊢
      simp only [Option.bind_eq_some_iff] at el2
      obtain ⟨o2, el2, el3⟩ := el2
      refine ⟨fun σ2 H2 => (∀ j, j ∉ W → σ2[j]? = σ[j]?) ∧ ∃ ρ2, RS F σ2 H2 ρ2 τ ∧ loopW q s m ρ2 = some o, fun σ2 H2 ⟨z2, ρ2, I2, e2⟩ => ⟨m, Nat.lt_succ_self _, z2, ρ2, I2, e2⟩, ρ1, τ, o2, I1, nv, el2, ?_⟩
      cases o2 with
      | nx ρ3 => exact fun σ4 H4 z4 I4 => ⟨fun j hj => (z4 j hj).trans (zσ j hj), ρ3, I4, el3⟩
      | ct ρ3 => exact fun σ4 H4 z4 I4 => ⟨fun j hj => (z4 j hj).trans (zσ j hj), ρ3, I4, el3⟩
      | bk ρ3 => cases el3; exact fun σ4 H4 z4 I4 => k σ4 H4 (fun j hj => (z4 j hj).trans (zσ j hj)) I4
      | rt c ρ3 => cases el3; exact fun v σ4 H4 I4 => k v σ4 H4 I4
/-! ### list comprehensions -/
def forget (vs : List Nat) (ρ : Env) : Env := vs.foldl (fun ρ i => ρ.set i none) ρ
theorem forget_get : ∀ {vs : List Nat} {ρ : Env} {i : Nat} {c : C}, (forget vs ρ)[i]? = some (some c) → ρ[i]? = some (some c) ∧ i ∉ vs
  | [], _, _, _, h => ⟨h, by simp⟩
  | v :: vs, ρ, i, c, h => by
    obtain ⟨h1, h2⟩ := forget_get (vs := vs) (ρ := ρ.set v none) h
    rcases set_cell h1 with ⟨_, e⟩ | ⟨n, e⟩
    · cases e
    · exact ⟨e, by simp only [List.mem_cons, not_or]; exact ⟨n, h2⟩⟩
theorem forget_length : ∀ (vs : List Nat) (ρ : Env), (forget vs ρ).length = ρ.length
  | [], _ => rfl
  | v :: vs, ρ => by show (forget vs (ρ.set v none)).length = _; rw [forget_length, List.length_set]
theorem wipe_in {σ : L2.St} {i : Nat} : ∀ {vs : List Nat}, i ∈ vs → i < σ.length → (wipe σ vs)[i]? = some none
  | v :: vs, h, hl => by
    unfold wipe
    by_cases hv : i = v
    · subst hv; exact List.getElem?_set_self (by rw [wipe_length]; exact hl)
    · rw [List.getElem?_set_ne (Ne.symm hv)]
      rcases List.mem_cons.mp h with e | h
      · exact absurd e hv
      · exact wipe_in h hl
theorem wipe_same {σ σ2 : L2.St} {vs W : List Nat} (hl : σ2.length = σ.length) (hW : ∀ i ∈ W, i ∈ vs) (h : ∀ i, i ∉ W → σ2[i]? = (wipe σ vs)[i]?) : wipe σ2 vs = wipe σ vs := by
  apply List.ext_getElem?
  intro i
  by_cases hi : i ∈ vs
  · by_cases hlt : i < σ.length
    · rw [wipe_in hi hlt, wipe_in hi (by rw [hl]; exact hlt)]
    · rw [List.getElem?_eq_none (by rw [wipe_length, hl]; omega), List.getElem?_eq_none (by rw [wipe_length]; omega)]
  · rw [wipe_out hi, h i (fun z => hi (hW i z))]
def loopC (vs : List Nat) (b : B1) (q : PT1) (p : P1) : List D → Env → Option (List D × Env)
  | [], ρ => some ([], ρ)
  | d :: ds, ρ => (b d ρ).bind fun ρ1 => (q ρ1).bind fun t => if t.1 = true then (p t.2).bind fun a => (cap a.1 a.2).bind fun a2 => (loopC vs b q p ds (forget vs a2.2)).map fun r => (a2.1.d :: r.1, r.2)
      else loopC vs b q p ds (forget vs t.2)
def pLc (it : I1) (vs : List Nat) (b : B1) (q : PT1) (p : P1) : P1 := fun ρ => (it ρ).bind fun a => if szOk a.1.length = true then (loopC vs b q p a.1 (forget vs a.2)).map fun r => (.own (.lst r.1), r.2) else none
def qYes : PT1 := fun ρ => some (true, ρ)
theorem dts_nil : PTs X [] (tDT F qYes) := ⟨fun pins s σ H Q I hw => pts_nil.run pins s σ H Q I (by
  obtain ⟨ρ, τ, b, ρ', I, e1, k⟩ := hw
  cases e1
  exact k H I)⟩
theorem dts_one {c : Expr} {q : PT1} (h : PT X c (tDT F q)) : PTs X [c] (tDT F q) := pts_one h
/-- the reading of a list comprehension -/
theorem lc_of {it : I1} {vs : List Nat} {b : B1} {q : PT1} {p : P1} (hW : ∀ i ∈ W, i ∈ vs) {σ : L2.St} {H : Hp} {Q : VK} (hw : tD F (pLc it vs b q p) σ H Q) : tLc (tDI F it) (tDG F W b) (tDT F q) (tD F p) vs σ H Q := by
  obtain ⟨ρ, τ, c, ρ', I, e1, k⟩ := hw
  simp only [pLc, Option.bind_eq_some_iff] at e1
  obtain ⟨⟨ds, ρ1⟩, e1, e2⟩ := e1
  split at e2
  · rename_i hz
    have hz : ds.length ≤ sizeLine := szOk_le hz
    simp only [Option.map_eq_some_iff] at e2
    obtain ⟨⟨rs, ρ2⟩, e2, e3⟩ := e2
    cases e3
    refine ⟨ρ, τ, ds, ρ1, I, e1, fun J ts H1 wk nt I1 Dl hD => ?_⟩
    obtain ⟨ow1, I1⟩ := I1
    have hlσ : σ.length = ρ1.length := I1.len
    -- from the block's slots to the outer ones and back
    have inn : ∀ {ow : Ow} {H : Hp} {ρ : Env} {τ : List (V × C)}, ρ.length = σ.length → RSo F ow σ H (forget vs ρ) τ → RSo F ow (wipe σ vs) H (forget vs ρ) τ := fun {ow H ρ τ} hl J => J.forget (by rw [wipe_length, forget_length, hl]) fun i c e => ⟨e, wipe_out (forget_get e).2⟩
    have out : ∀ {ow : Ow} {H : Hp} {ρ : Env} {τ : List (V × C)} {σ2 : L2.St}, σ2.length = σ.length → (∀ i, i ∉ vs → σ2[i]? = σ[i]?) → RSo F ow σ2 H ρ τ → RSo F ow σ H (forget vs ρ) τ := fun {ow H ρ τ σ2} hl hs J => J.forget (by rw [forget_length, ← hl]; exact J.len) fun i c e => ⟨(forget_get e).1, (hs i (forget_get e).2).symm⟩
    have I1f : RSo F ow1 σ H1 (forget vs ρ1) (ts ++ τ) := I1.forget (by rw [forget_length]; exact I1.len) fun i c e => ⟨(forget_get e).1, rfl⟩
    obtain ⟨ow0, I0, _⟩ := I1f.ret (c := .own (.lst [])) (Same.new (o := .lst []) hD) ⟨Dl, rfl, hD, [], upd_same, .nil⟩
    -- the state ahead of turn i: what is made so far, what is still to come
    refine ⟨fun i m H' => m = ds.length - i ∧ i ≤ ds.length ∧ ∃ ρi acc, ρi.length = σ.length ∧ acc.length ≤ i ∧ RS F σ H' (forget vs ρi) ((.ref Dl, .own (.lst acc)) :: (ts ++ τ)) ∧ ∃ rest, loopC vs b q p (ds.drop i) (forget vs ρi) = some (rest, ρ2) ∧ acc ++ rest = rs, ⟨ds.length, by simp, Nat.zero_le _, ρ1, [], hlσ.symm, Nat.le_refl _, ⟨ow0, I0⟩, rs, e2, rfl⟩, ?_⟩
    rintro i m H' ⟨rfl, hi, ρi, acc, hli, hacc, ⟨ow, I'⟩, rest, el, er⟩
    by_cases hlt : i < ds.length
    · refine .inr ⟨wk.go i σ H' _ [_] τ hlt ⟨ow, I'⟩, fun H2 => ∃ ρi acc, ρi.length = σ.length ∧ acc.length ≤ i + 1 ∧ RS F σ H2 (forget vs ρi) ((.ref Dl, .own (.lst acc)) :: (ts ++ τ)) ∧ ∃ rest, loopC vs b q p (ds.drop (i + 1)) (forget vs ρi) = some (rest, ρ2) ∧ acc ++ rest = rs,
        fun H2 h2 => ⟨ds.length - (i + 1), by omega, rfl, hlt, h2⟩, fun x H2 y => ?_⟩
      obtain ⟨d, hd, ow2, I2⟩ := wk.yld i (wipe σ vs) H' _ [_] τ x H2 hlt ⟨ow, inn hli I'⟩ y
      have ed : ds.drop i = d :: ds.drop (i + 1) := by
        have hd' : ds[i] = d := by
          rw [List.getElem?_eq_getElem hlt] at hd; exact Option.some.inj hd
        rw [← hd']; exact List.drop_eq_getElem_cons hlt
      rw [ed] at el
      simp only [loopC, Option.bind_eq_some_iff] at el
      obtain ⟨ρa, ea, ⟨bt, ρb⟩, eb, el⟩ := el
      refine ⟨_, _, d, ρa, ⟨ow2, I2⟩, ea, fun σ2 l2 z2 I3 => ?_⟩
      have hl2 : σ2.length = σ.length := l2.trans (wipe_length σ vs)
      have hs2 : ∀ i, i ∉ vs → σ2[i]? = σ[i]? := fun i hi => (z2 i fun z => hi (hW i z)).trans (wipe_out hi)
      refine ⟨wipe_same hl2 hW z2, ρa, _, bt, ρb, I3, eb, fun H3 I3 => ?_⟩
      cases bt with
      | false =>
        rw [if_neg Bool.false_ne_true] at el ⊢
        obtain ⟨ow3, I3⟩ := I3
        exact ⟨ρb, acc, (I3.len.symm.trans hl2), by omega, ⟨ow3, out hl2 hs2 I3⟩, rest, el, er⟩
      | true =>
        rw [if_pos rfl] at el ⊢
        simp only [Option.bind_eq_some_iff, Option.map_eq_some_iff] at el
        obtain ⟨⟨ca, ρc⟩, ec, ⟨cb, ρd⟩, ecap, ⟨rest', ρe⟩, el, e5⟩ := el
        cases e5
        refine ⟨ρb, _, ca, ρc, I3, ec, fun v H4 ⟨ow4, I4⟩ => ?_⟩
        obtain ⟨⟨ow5, I5⟩, nv5⟩ := I4.cap ecap
        obtain ⟨D', e0, hD1, ws, e6, r6⟩ := I5.tmp.2.1
        cases e0
        obtain ⟨ow6, I6⟩ := I5.appTop nv5 e6
        refine ⟨ws, e6, ?_, ρd, acc ++ [cb.d], (I5.len.symm.trans hl2), by rw [List.length_append]; simp; omega, ⟨ow6, out hl2 hs2 I6⟩, rest', el, by rw [List.append_assoc]; exact er⟩
        have : ws.length = acc.length := r6.length
        omega
    · have e : ds.drop i = [] := List.drop_eq_nil_of_le (by omega)
      rw [e] at el
      cases el
      rw [List.append_nil] at er
      subst er
      refine .inl ⟨wk.stop i σ H' _ [_] τ (by omega) ⟨ow, I'⟩, k _ H' ?_⟩
      exact RSo.ret1 ⟨ow, I'⟩
  · cases e2
end
end Dn

namespace Dn
open PySem PySem.Spec PyProof.Rows L2
/-! ### displays, caps, slices -/
def C.kept : C → Bool
  | .ro _ => true
  | .own _ => true
  | _ => false
def keptL (cs : List C) : Bool := cs.all C.kept
section
variable {F : Fr} {σ : L2.St} {H : Hp} {ρ : Env}
/-- what was kept is read strongly -/
theorem RSo.takeS : ∀ {vs : List V} {cs : List C} {ow : Ow} {τ : List (V × C)}, vs.length = cs.length → keptL cs = true → RSo F ow σ H ρ (stk vs cs τ) → ∃ ow', RSo F ow' σ H ρ τ ∧ RepL F.K (F.N ow') H vs (cs.map C.d)
  | [], [], ow, τ, _, _, I => ⟨ow, I, .nil⟩
  | v :: vs, c :: cs, ow, τ, hl, hk, I => by
    simp only [keptL, List.all_cons, Bool.and_eq_true] at hk
    obtain ⟨ow1, I1, r1⟩ := RSo.takeS (vs := vs) (cs := cs) (τ := (v, c) :: τ) (by simpa using hl) hk.2 I
    have nv : ∀ j, c ≠ .view j := fun j z => by subst z; exact absurd hk.1 Bool.false_ne_true
    exact ⟨_, I1.pop, .cons (RepC.pop I1 nv) (r1.mono drop_N)⟩
  | [], _ :: _, _, _, hl, _, _ => by simp at hl
  | _ :: _, [], _, _, hl, _, _ => by simp at hl
end
def pTup (ps : PAs) : P1 := fun ρ => (ps ρ).bind fun a => if (keptL a.1 && szOk a.1.length) = true then some (.ro (.tup (a.1.map C.d)), a.2) else none
def pLst (ps : PAs) : P1 := fun ρ => (ps ρ).bind fun a => if (keptL a.1 && szOk a.1.length) = true then some (.own (.lst (a.1.map C.d)), a.2) else none
section
variable {X : Cx} {F : Fr} {W W1 W2 : List Nat} {e a b : Expr} {es : List Expr} {pos : Pos} {p pa pb : P1} {ps : PAs}
theorem de_cap (h : PE X e (tD F p)) : PE X e (tD F (pCap p)) := PE.imp h fun σ H Q hw => by
  obtain ⟨ρ, τ, c, ρ', I, e1, k⟩ := hw
  simp only [pCap, Option.bind_eq_some_iff] at e1
  obtain ⟨⟨c1, ρ1⟩, e1, e2⟩ := e1
  exact ⟨ρ, τ, c1, ρ1, I, e1, fun v H1 ⟨ow, I1⟩ => k v H1 (I1.cap e2).1⟩
theorem de_tup {x1} (h : PA X es (tDA F ps)) : PE X (.Tuple es x1 pos) (tD F (pTup ps)) := PE.imp (pe_tup h) fun σ H Q hw => by
  obtain ⟨ρ, τ, c, ρ', I, e1, k⟩ := hw
  simp only [pTup, Option.bind_eq_some_iff] at e1
  obtain ⟨⟨cs, ρ1⟩, e1, e2⟩ := e1
  split at e2
  · rename_i hz
    cases e2
    simp only [Bool.and_eq_true] at hz
    refine ⟨ρ, τ, cs, ρ1, I, e1, fun vs H1 hl ⟨ow, I1⟩ => ?_⟩
    obtain ⟨ow2, I2, r⟩ := RSo.takeS hl hz.1 I1
    refine ⟨by rw [hl]; exact szOk_le hz.2, fun q hq => ret_tup hq r fun v' H' g rt => ?_⟩
    obtain ⟨ow3, I3, _⟩ := I2.ret g rt
    exact k v' H' ⟨ow3, I3⟩
  · cases e2
theorem de_lst (h : PA X es (tDA F ps)) : PE X (.List es pos) (tD F (pLst ps)) := PE.imp (pe_lst h) fun σ H Q hw => by
  obtain ⟨ρ, τ, c, ρ', I, e1, k⟩ := hw
  simp only [pLst, Option.bind_eq_some_iff] at e1
  obtain ⟨⟨cs, ρ1⟩, e1, e2⟩ := e1
  split at e2
  · rename_i hz
    cases e2
    simp only [Bool.and_eq_true] at hz
    refine ⟨ρ, τ, cs, ρ1, I, e1, fun vs H1 hl ⟨ow, I1⟩ => ?_⟩
    obtain ⟨ow2, I2, r⟩ := RSo.takeS hl hz.1 I1
    refine ⟨by rw [hl]; exact szOk_le hz.2, fun q hq => ret_lst hq r fun v' H' g rt => ?_⟩
    obtain ⟨ow3, I3, _⟩ := I2.ret g rt
    exact k v' H' ⟨ow3, I3⟩
  · cases e2
/-! slices -/
abbrev PO1 := Env → Option (Option Int × Env)
def tDO (F : Fr) (p : PO1) : TO := fun σ H Q => ∃ ρ τ o ρ', RS F σ H ρ τ ∧ p ρ = some (o, ρ') ∧ ∀ H', RS F σ H' ρ' τ → Q o H'
def oNone : PO1 := fun ρ => some (none, ρ)
def oSome (p : P1) : PO1 := fun ρ => (p ρ).bind fun a => match a.1 with
  | .ro (.int i) => some (some i, a.2)
  | _ => none
theorem PO.imp {o : Option Expr} {t t' : TO} (h : PO X o t) (k : ∀ σ H Q, t' σ H Q → t σ H Q) : PO X o t' := ⟨fun pins s σ H Q I hw => h.run pins s σ H Q I (k σ H Q hw)⟩
theorem do_none : PO X none (tDO F oNone) := PO.imp po_none fun σ H Q hw => by
  obtain ⟨ρ, τ, o, ρ', I, e1, k⟩ := hw
  cases e1
  exact k H I
theorem do_some (h : PE X e (tD F p)) : PO X (some e) (tDO F (oSome p)) := PO.imp (po_some h) fun σ H Q hw => by
  obtain ⟨ρ, τ, o, ρ', I, e1, k⟩ := hw
  simp only [oSome, Option.bind_eq_some_iff] at e1
  obtain ⟨⟨c1, ρ1⟩, e1, e2⟩ := e1
  refine ⟨ρ, τ, c1, ρ1, I, e1, fun v H1 ⟨ow, I1⟩ => ?_⟩
  cases c1 with
  | ro d =>
    cases d with
    | int i => cases e2; have := I1.tmp.1; cases this; exact ⟨i, rfl, k H1 ⟨_, I1.pop⟩⟩
    | _ => cases e2
  | _ => cases e2
def cutD {α : Type} (xs : List α) (lo hi : Option Int) : List α := (xs.drop (HT.sIx xs.length 0 lo)).take (HT.sIx xs.length xs.length hi - HT.sIx xs.length 0 lo)
def D.slice (d : D) (lo hi : Option Int) : Option C := match d with
  | .lst xs => some (.own (.lst (cutD xs lo hi)))
  | .tup xs => some (.ro (.tup (cutD xs lo hi)))
  | .str z => if szOk z.length = true then some (.ro (.str (cutS z lo hi))) else none
  | _ => none
def pSl (p : P1) (lo hi : PO1) : P1 := fun ρ => (p ρ).bind fun a => (lo a.2).bind fun l => (hi l.2).bind fun h => (dat h.2 a.1).bind fun d => (D.slice d l.1 h.1).map fun c => (c, h.2)
theorem cut_rep {K : PySem.W.Frag} {N : Addr → Prop} {H : Hp} {vs : List V} {ds : List D} {lo hi : Option Int} (r : RepL K N H vs ds) : RepL K N H (cutV vs lo hi) (cutD ds lo hi) := by
  unfold cutV cutD
  rw [r.length]
  exact (r.drop _).take _
theorem cut_all {α : Type} {xs : List α} {lo hi : Option Int} (h : HT.sIx xs.length 0 lo = 0 ∧ HT.sIx xs.length xs.length hi = xs.length) : cutD xs lo hi = xs := by
  unfold cutD
  rw [h.1, h.2]
  simp
theorem o_sl (hK : F.K = X.K) : SlR X (fun x lo hi H Q => rSlL F.K x lo hi H Q ∨ (rSlA F.K x lo hi H Q ∨ ∃ z, x = .str z ∧ z.length ≤ sizeLine ∧ Q (.str (cutS z lo hi)) H)) := by
  rw [hK]
  refine SlR.or sl_list (SlR.or sl_tupA ?_)
  exact sl_str
theorem de_sl {lo hi : Option Expr} {ol oh : PO1} {p2 : Pos} (hK : F.K = X.K) (he : PE X e (tD F p)) (hl : PO X lo (tDO F ol)) (hh : PO X hi (tDO F oh)) : PE X (.Subscript e (.Slice lo hi none p2) pos) (tD F (pSl p ol oh)) := PE.imp (pe_slice (o_sl hK) he hl hh) fun σ H Q hw => by
  obtain ⟨ρ, τ, c, ρ', I, e1, k⟩ := hw
  simp only [pSl, Option.bind_eq_some_iff, Option.map_eq_some_iff] at e1
  obtain ⟨⟨c1, ρ1⟩, e1, ⟨l, ρ2⟩, e2, ⟨h, ρ3⟩, e3, d, e4, c5, e5, e6⟩ := e1
  cases e6
  refine ⟨ρ, τ, c1, ρ1, I, e1, fun v H1 I1 => ⟨ρ1, _, l, ρ2, I1, e2, fun H2 I2 => ⟨ρ2, _, h, ρ3, I2, e3, fun H3 ⟨ow, I3⟩ => ?_⟩⟩⟩
  obtain ⟨ow4, I4, rx⟩ := RSo.take (vs := [v]) (cs := [c1]) rfl I3
  have rr := rx [d] (by simp only [dats]; rw [e4])
  cases rr with
  | cons r1 _ =>
    have fin : ∀ v H', Same H3 H' → Ret F.K (F.N ow4) H3 H' v c → Q v H' := fun v' H' g rt => by
      obtain ⟨ow5, I5, _⟩ := I4.ret g rt
      exact k v' H' ⟨ow5, I5⟩
    unfold D.slice at e5
    split at e5
    · cases e5
      obtain ⟨a, ws, rfl, h1, r⟩ := r1.lst
      exact .inl ⟨a, ws, rfl, SqL.of h1, fun q hq => ret_lst hq (cut_rep r) fin⟩
    · cases e5
      obtain ⟨a, ws, rfl, h1, r⟩ := r1.tup
      refine .inr (.inl ⟨a, ws, rfl, h1, fun z => ?_, fun z q hq => ret_tup hq (cut_rep r) fin⟩)
      rw [r.length] at z
      rw [cut_all z] at fin
      exact ret_ro (rep_tup h1 r) fin
    · split at e5
      · rename_i hz
        cases e5
        have := r1.str; subst this
        exact .inr (.inr ⟨_, rfl, szOk_le hz, ret_str fin⟩)
      · cases e5
    · cases e5
end
/-! ### promises of defs -/
def Sp0 (K : PySem.W.Frag) (f : List D → Option C) : Sp := fun vs H Q _ => ∃ N ds c, RepL K N H vs ds ∧ f ds = some c ∧ ∀ v H', Same H H' → Ret K N H H' v c → Q v H'
def RetM (K : PySem.W.Frag) (M : Addr → Prop) (H H' : Hp) (v : V) : C → Prop
  | .ro d => Rep K M H' v d
  | .own d => ∃ p, v = .ref p ∧ H p = none ∧ ¬ M p ∧ HoldsN K M H' p d
  | _ => False
/-- the first argument is changed -/
def SpIo (K : PySem.W.Frag) (f : D → List D → Option (C × D)) : Sp := fun vs H Q _ => ∃ (N : Addr → Prop) (a : Addr) (ws : List V) (d : D) (ds : List D) (c : C) (d' : D), vs = .ref a :: ws ∧ ¬ N a ∧ HoldsN K N H a d ∧ RepL K N H ws ds ∧ f d ds = some (c, d') ∧
  ∀ v H' M, (∀ b o, H b = some o → b ≠ a → H' b = some o) → (∀ b, M b → (N b ∨ H b = none) ∧ b ≠ a) → HoldsN K M H' a d' → RetM K M H H' v c → Q v H'
def runDef (s : S1) (n np : Nat) (ds : List D) : Option C := if ds.length = np then match s (ds.map (fun d => some (.ro d)) ++ List.replicate (n - np) none) with
  | some (.rt (.ro d) _) => some (.ro d)
  | some (.rt (.own d) _) => some (.own d)
  | some (.nx _) => some (.ro .non)
  | _ => none else none
def ioAt (ρ : List (Option C)) : Option D := match (ρ[(0 : Nat)]? : Option (Option C)) with
  | some (some (.io d)) => some d
  | _ => none
theorem ioAt_get {ρ : List (Option C)} {d : D} (h : ioAt ρ = some d) : ρ[0]? = some (some (.io d)) := by
  unfold ioAt at h
  split at h
  · cases h; assumption
  · cases h
def runIo (s : S1) (n np : Nat) (d : D) (ds : List D) : Option (C × D) := if ds.length + 1 = np then match s (some (.io d) :: ds.map (fun d => some (.ro d)) ++ List.replicate (n - np) none) with
  | some (.rt (.ro r) ρ) => (ioAt ρ).map fun d' => (.ro r, d')
  | some (.rt (.own r) ρ) => (ioAt ρ).map fun d' => (.own r, d')
  | some (.nx ρ) => (ioAt ρ).map fun d' => (.ro .non, d')
  | _ => none else none
section
variable {K : PySem.W.Frag} {H : Hp} {N : Addr → Prop}
theorem start_ro (N : Addr → Prop) (H : Hp) (io : Option Addr) (n : Nat) (hio : ∀ b, io = some b → ¬ N b) {vs : List V} {ds : List D} (r : RepL K N H vs ds) (names : List Str) (hn : names.length = n) :
    ∀ (i : Nat) (c : C), (ds.map (fun d => some (C.ro d)) ++ List.replicate (n - ds.length) none)[i]? = some (some c) → ∃ v, (L2.start names vs)[i]? = some (some v) ∧ ∃ d, c = .ro d ∧ Rep K ((⟨K, H, N, io⟩ : Fr).N fun _ => none) H v d := by
  intro i c e
  have hl := r.length
  by_cases hi : i < ds.length
  · rw [List.getElem?_append_left (by simpa using hi), List.getElem?_map] at e
    cases q : ds[i]? with
    | none => rw [q] at e; cases e
    | some d =>
      rw [q] at e
      cases e
      obtain ⟨v, h1, h2⟩ := r.get' q
      refine ⟨v, ?_, d, rfl, h2.mono fun b hb _ => ⟨rfl, fun z => hio b z hb, .inl hb⟩⟩
      unfold L2.start
      rw [List.getElem?_append_left (by simp; omega), List.getElem?_map, h1]; rfl
  · rw [List.getElem?_append_right (by simp; omega), List.getElem?_replicate] at e
    split at e <;> cases e
end
section
variable {P : Program} {w : World} {K : PySem.W.Frag} {mg : Str → Option Value} {base : Heap} {f : Addr} {fd : FuncData} {x qual : Str} {params : Arguments} {body : List Stmt} {scope : Scope}
theorem ok_def {names ps : List Str} {k : Nat} {s : S1} {W : List Nat} (Fn : FunD K x qual params body scope [] [] f fd) (S : FnScope names ps scope) (n np : Nat) (hn : names.length = n) (hnp : ps.length = np)
    (hb : ∀ (F : Fr) (cdv : Value) (A : Around) (outer : List PySem.Env) (s0 : Shared) (H : Hp) (E : XK), F.K = K → Room k (A.deeper (envOfC qual scope s0.heap.objs.size f cdv)) → PSs (cxOf CX0 P w K mg base names qual scope f cdv A outer s0 H E).nox body (tDS F W s)) :
    FnOk P w K mg base CX0 (k + 1) f fd ps (Sp0 K (runDef s n np)) := by
  refine Fn.ok S (fun vs H Q E h => ?_) (fun cdv A outer s0 H vs Q E hr h => ?_)
  · obtain ⟨N, ds, c, r, e, _⟩ := h
    unfold runDef at e
    split at e
    · rename_i hl; rw [r.length, hl, hnp]
    · cases e
  · obtain ⟨N, ds, c, r, e, hQ⟩ := h
    unfold runDef at e
    split at e
    · rename_i hl
      have hF := hb ⟨K, H, N, none⟩ cdv A outer s0 H E rfl hr
      refine ⟨_, PSs.nox hF, ds.map (fun d => some (.ro d)) ++ List.replicate (n - np) none, [], ?_⟩
      have hpl : np ≤ n := by have := congrArg List.length S.pre; rw [List.length_take] at this; omega
      have sr := start_ro (K := K) N H none n (fun _ z => by cases z) r names hn
      rw [hl] at sr
      have I : RSo ⟨K, H, N, none⟩ (fun _ => none) (L2.start names vs) H (ds.map (fun d => some (.ro d)) ++ List.replicate (n - np) none) [] := by
        refine ⟨?_, fun i c e => ?_, fun i c e => ?_, trivial, (fun _ h => nomatch h), (fun _ _ e => nomatch e), (fun _ _ e => nomatch e), (fun b o h _ => h), (fun _ e => nomatch e)⟩
        · unfold L2.start; simp only [List.length_append, List.length_map, List.length_replicate]; rw [r.length]; omega
        · obtain ⟨v, h1, d, rfl, h2⟩ := sr i c e; exact ⟨v, h1, h2⟩
        · obtain ⟨v, h1, d, rfl, h2⟩ := sr i c e; trivial
      have done : ∀ {c v σ' H' ρ'}, RS ⟨K, H, N, none⟩ σ' H' ρ' [(v, c)] → Same H H' := fun {c v σ' H' ρ'} ⟨ow, J⟩ b o h => J.keep b o h (fun z => by cases z)
      have nN : ∀ {ow : Ow} b, (⟨K, H, N, none⟩ : Fr).N ow b → N b ∨ H b = none := fun b h => h.2.2
      split at e
      · rename_i d ρ' q; cases e
        refine ⟨_, ⟨_, I⟩, (fun _ h => nomatch h), q, fun v σ' H' J => ?_⟩
        have g := done J
        obtain ⟨ow, J⟩ := J
        exact hQ v H' g (Rep.mono (fun b h _ => nN b h) J.tmp.1)
      · rename_i d ρ' q; cases e
        refine ⟨_, ⟨_, I⟩, (fun _ h => nomatch h), q, fun v σ' H' J => ?_⟩
        have g := done J
        obtain ⟨ow, J⟩ := J
        obtain ⟨p, ev, hp, h2⟩ := J.tmp.1
        exact hQ v H' g ⟨p, ev, (J.own p _ hp).2.1, h2.mono fun b h _ => ⟨nN b h, fun z => by have h1 := h.1; rw [z, hp] at h1; cases h1⟩⟩
      · rename_i ρ' q; cases e
        refine ⟨_, ⟨_, I⟩, (fun _ h => nomatch h), q, fun σ' H' _ J => ?_⟩
        obtain ⟨ow, J⟩ := J
        exact hQ .non H' (fun b o h => J.keep b o h (fun z => by cases z)) .non
      · cases e
    · cases e
theorem ok_io {names ps : List Str} {k : Nat} {s : S1} {W : List Nat} (Fn : FunD K x qual params body scope [] [] f fd) (S : FnScope names ps scope) (n np : Nat) (hn : names.length = n) (hnp : ps.length = np)
    (hb : ∀ (F : Fr) (cdv : Value) (A : Around) (outer : List PySem.Env) (s0 : Shared) (H : Hp) (E : XK), F.K = K → Room k (A.deeper (envOfC qual scope s0.heap.objs.size f cdv)) → PSs (cxOf CX0 P w K mg base names qual scope f cdv A outer s0 H E).nox body (tDS F W s)) :
    FnOk P w K mg base CX0 (k + 1) f fd ps (SpIo K (runIo s n np)) := by
  refine Fn.ok S (fun vs H Q E h => ?_) (fun cdv A outer s0 H vs Q E hr h => ?_)
  · obtain ⟨N, a, ws, d, ds, c, d', rfl, _, _, r, e, _⟩ := h
    unfold runIo at e
    split at e
    · rename_i hl; rw [List.length_cons, r.length, hl, hnp]
    · cases e
  · obtain ⟨N, a, ws, d, ds, c, d', rfl, na, hd, r, e, hQ⟩ := h
    unfold runIo at e
    split at e
    · rename_i hl
      have hF := hb ⟨K, H, N, some a⟩ cdv A outer s0 H E rfl hr
      have hpl : np ≤ n := by have := congrArg List.length S.pre; rw [List.length_take] at this; omega
      obtain ⟨n1, rfl⟩ : ∃ m, n = m + 1 := ⟨n - 1, by omega⟩
      obtain ⟨x0, names1, rfl⟩ : ∃ x0 ns, names = x0 :: ns := by
        cases names with
        | nil => simp at hn
        | cons x0 ns => exact ⟨x0, ns, rfl⟩
      have hn1 : names1.length = n1 := by simpa using hn
      have es : L2.start (x0 :: names1) (.ref a :: ws) = some (.ref a) :: L2.start names1 ws := by
        unfold L2.start
        simp only [List.map_cons, List.length_cons, List.cons_append]
        rw [show names1.length + 1 - (ws.length + 1) = names1.length - ws.length by omega]
      have hrep : n1 + 1 - np = n1 - ds.length := by omega
      rw [hrep] at e
      refine ⟨_, PSs.nox hF, some (.io d) :: ds.map (fun d => some (.ro d)) ++ List.replicate (n1 - ds.length) none, [], ?_⟩
      have sr := start_ro (K := K) N H (some a) n1 (fun b z => by cases z; exact na) r names1 hn1
      have hmono : ∀ b, N b → (H b).isSome = true → (⟨K, H, N, some a⟩ : Fr).N (fun _ => none) b := fun b hb _ => ⟨rfl, fun z => by cases z; exact na hb, .inl hb⟩
      have I : RSo ⟨K, H, N, some a⟩ (fun _ => none) (start (x0 :: names1) (.ref a :: ws)) H (some (.io d) :: ds.map (fun d => some (.ro d)) ++ List.replicate (n1 - ds.length) none) [] := by
        rw [es]
        refine ⟨?_, fun i c e => ?_, fun i c e => ?_, trivial, (fun _ h => nomatch h), (fun _ _ e => nomatch e), (fun _ _ e => nomatch e), (fun b o h _ => h), fun b e => ?_⟩
        · unfold L2.start; simp only [List.length_append, List.length_cons, List.length_map, List.length_replicate]; rw [r.length]; omega
        · cases i with
          | zero => cases e; exact ⟨.ref a, rfl, a, rfl, rfl, hd.mono hmono⟩
          | succ i => obtain ⟨v, h1, d, rfl, h2⟩ := sr i c (by simpa using e); exact ⟨v, by simpa using h1, h2⟩
        · cases i with
          | zero => cases e; rfl
          | succ i => obtain ⟨v, h1, d, rfl, h2⟩ := sr i c (by simpa using e); trivial
        · cases e
          have := hd.some
          cases q : H a with
          | none => rw [q] at this; cases this.1
          | some o => rw [q] at this; exact ⟨o, rfl, this.2, by show (H a).isSome = true; rw [q]; rfl⟩
      -- the end: what is handed back, what the first argument holds
      have fin : ∀ {c v σ' H' ρ' d'}, RS ⟨K, H, N, some a⟩ σ' H' ρ' [(v, c)] → ρ'[0]? = some (some (.io d')) → ((∃ r, c = .ro r) ∨ ∃ r, c = .own r) → (∀ v H' M, (∀ b o, H b = some o → b ≠ a → H' b = some o) → (∀ b, M b → (N b ∨ H b = none) ∧ b ≠ a) → HoldsN K M H' a d' → RetM K M H H' v c → Q v H') → Q v H' := by
        intro c v σ' H' ρ' d' ⟨ow, J⟩ h0 hc hQ
        obtain ⟨v0, _, a0, _, ea, hh⟩ := J.slot 0 _ h0
        cases ea
        refine hQ v H' ((⟨K, H, N, some a⟩ : Fr).N ow) (fun b o h hb => J.keep b o h (fun z => hb (Option.some.inj z).symm)) (fun b h => ⟨h.2.2, fun z => h.2.1 (by rw [z])⟩) hh ?_
        rcases hc with ⟨r, rfl⟩ | ⟨r, rfl⟩
        · exact J.tmp.1
        · obtain ⟨p, ev, hp, h2⟩ := J.tmp.1
          exact ⟨p, ev, (J.own p _ hp).2.1, (fun z => by have h1 := z.1; rw [hp] at h1; cases h1), h2⟩
      split at e
      all_goals first
        | (cases e; done)
        | (rename_i r ρ' q
           simp only [Option.map_eq_some_iff] at e
           obtain ⟨d1, h0, e⟩ := e
           cases e
           refine ⟨_, ⟨_, I⟩, (fun _ h => nomatch h), q, fun v σ' H' J => ?_⟩
           first
             | exact fin J (ioAt_get h0) (.inl ⟨_, rfl⟩) hQ
             | exact fin J (ioAt_get h0) (.inr ⟨_, rfl⟩) hQ)
        | (rename_i ρ' q
           simp only [Option.map_eq_some_iff] at e
           obtain ⟨d1, h0, e⟩ := e
           cases e
           refine ⟨_, ⟨_, I⟩, (fun _ h => nomatch h), q, fun σ' H' _ J => ?_⟩
           obtain ⟨ow, J⟩ := J
           exact fin ⟨ow, J.push .non⟩ (ioAt_get h0) (.inl ⟨_, rfl⟩) hQ)
    · cases e
end
end Dn

namespace Dn
open PySem PySem.Spec PyProof.Rows L2
section
variable {X : Cx} {F : Fr} {W W1 W2 : List Nat} {e a b : Expr} {es : List Expr} {pos : Pos} {p pa pb : P1} {ps : PAs}
/-! ### calls of built-ins and of defs -/
theorem de_bi {f : Value} {x : Str} {pp : Pos} {r : List V → Hp → VK → Prop} {g : List D → Option C} (hr : CallR X f r) (hf : FunS F.K r g) (h : ∀ {t : TA}, PA X es t → PE X (.Call (.Name x pp) es [] pos) (tCB r t)) (ha : PA X es (tDA F ps)) : PE X (.Call (.Name x pp) es [] pos) (tD F (pFun g ps)) :=
  PE.imp (h ha) fun _ _ _ => fun_of hf
def pCall (f : List D → Option C) (ps : PAs) : P1 := fun ρ => (ps ρ).bind fun a => (dats a.2 a.1).bind fun ds => (f ds).bind fun c => if (keptL a.1 || c.clean) = true then some (c, a.2) else none
theorem dats_kept {ρ : Dn.Env} : ∀ {cs : List C} {ds : List D}, keptL cs = true → dats ρ cs = some ds → ds = cs.map C.d
  | [], _, _, e => by cases e; rfl
  | c :: cs, ds, k, e => by
    simp only [keptL, List.all_cons, Bool.and_eq_true] at k
    unfold dats at e
    cases q1 : dat ρ c with
    | none => rw [q1] at e; cases e
    | some d =>
      cases q2 : dats ρ cs with
      | none => rw [q1, q2] at e; cases e
      | some ds' =>
        rw [q1, q2] at e; cases e
        rw [dats_kept k.2 q2]
        cases c with
        | ro d' => cases q1; rfl
        | own d' => cases q1; rfl
        | io d' => exact absurd k.1 Bool.false_ne_true
        | view d' => exact absurd k.1 Bool.false_ne_true
theorem call_of {g : List D → Option C} {Q : VK} {σ : L2.St} {H : Hp} (hw : tD F (pCall g ps) σ H Q) : tCall (Sp0 F.K g) [] E0 (tDA F ps) σ H Q := by
  obtain ⟨ρ, τ, c, ρ', I, e1, k⟩ := hw
  simp only [pCall, Option.bind_eq_some_iff] at e1
  obtain ⟨⟨cs, ρ1⟩, e1, ds, e2, c1, e3, e4⟩ := e1
  split at e4
  · rename_i hk
    cases e4
    refine ⟨ρ, τ, cs, ρ1, I, e1, fun vs H1 hl ⟨ow, I1⟩ => ?_⟩
    show Sp0 F.K g (vs ++ []) H1 Q E0
    rw [List.append_nil]
    simp only [Bool.or_eq_true] at hk
    by_cases hkk : keptL cs = true
    · obtain ⟨ow2, I2, r⟩ := RSo.takeS hl hkk I1
      rw [← dats_kept hkk e2] at r
      refine ⟨F.N ow2, ds, c, r, e3, fun v H2 g rt => ?_⟩
      obtain ⟨ow3, I3, _⟩ := I2.ret g rt
      exact k v H2 ⟨ow3, I3⟩
    · obtain ⟨ow2, I2, rx⟩ := RSo.take hl I1
      have r := RepXL.rep (N' := fun b => (H1 b).isSome = true) (fun b h => h) (rx ds e2)
      refine ⟨_, ds, c, r, e3, fun v H2 g rt => ?_⟩
      obtain ⟨ow3, I3, _⟩ := I2.ret g (rt.clean (hk.resolve_left hkk))
      exact k v H2 ⟨ow3, I3⟩
  · cases e4
variable {kk : Nat} {f : Addr} {fd : FuncData} {pss : List Str} {x : Str} {pp : Pos}
theorem de_call {g : List D → Option C} (hK : F.K = X.K) (G : FnOk X.prog X.w X.K X.mg X.base CX0 kk f fd pss (Sp0 X.K g)) (hr : Room kk X.A) (hg : Gl X x) (hm : X.mg x = some (.ref f)) (hk : PySem.W.keepIn X.K (.ref f) = true) (hb : Binds X.K fd pss [])
    (ha : PA X (e :: es) (tDA F ps)) (hdb : (x == ("__debug__" : Str)) = false := by decide) (he : starEach (e :: es) X.env = (false, eval e X.env) :: starEach es X.env := by rfl) (hpl : (backTo pos (starEach es X.env)).any (·.1) = false := by rfl) :
    PE X (.Call (.Name x pp) (e :: es) [] pos) (tD F (pCall g ps)) := PE.imp (pe_call G hr hg hm hk hb .nil pass0 ha hdb he hpl) fun σ H Q hw => by
  rw [← hK]; exact call_of hw
/-- a call whose first argument is changed: what a slot holds -/
def ioData (ρ : Dn.Env) (j : Nat) : Option (Bool × D) := match ρ[j]? with
  | some (some (.own d)) => some (false, d)
  | some (some (.io d)) => some (true, d)
  | _ => none
def ioCell (b : Bool) (d : D) : C := if b = true then .io d else .own d
def pCallIo (f : D → List D → Option (C × D)) (j : Nat) (ps : PAs) : P1 := fun ρ => (ioData ρ j).bind fun _ => (ps ρ).bind fun a => if keptL a.1 = true then (ioData a.2 j).bind fun d => (f d.2 (a.1.map C.d)).map fun r => (r.1, a.2.set j (some (ioCell d.1 r.2))) else none
theorem ioData_get {ρ : Dn.Env} {j : Nat} {b : Bool} {d : D} (h : ioData ρ j = some (b, d)) : ρ[j]? = some (some (ioCell b d)) := by
  unfold ioData at h
  split at h
  · cases h; assumption
  · cases h; assumption
  · cases h
/-- the object of slot j is another one behind the call, the answer comes -/
theorem RSo.callIo {ow : Ow} {σ : L2.St} {H H' : Hp} {ρ : Dn.Env} {τ : List (V × C)} {j : Nat} {bb : Bool} {d d' : D} {v : V} {c : C} {M : Addr → Prop} {a : Addr} (I : RSo F ow σ H ρ τ) (hc : ρ[j]? = some (some (ioCell bb d))) (hs : σ[j]? = some (some (.ref a)))
    (k : ∀ b o, H b = some o → b ≠ a → H' b = some o) (hM : ∀ b, M b → (F.N ow b ∨ H b = none) ∧ b ≠ a) (h : HoldsN F.K M H' a d') (r : RetM F.K M H H' v c) : ∃ ow', RSo F ow' σ H' (ρ.set j (some (ioCell bb d'))) ((v, c) :: τ) := by
  -- what stands at a ahead
  obtain ⟨w, h1, h2⟩ := I.slot j _ hc
  rw [hs] at h1; cases h1
  have ha : (H a).isSome = true ∧ Mut (H a) := by
    cases bb with
    | true => obtain ⟨a', e, _, q⟩ := h2; cases e; exact q.some
    | false => obtain ⟨a', e, _, q⟩ := h2; cases e; exact q.some
  obtain ⟨o, ho⟩ : ∃ o, H a = some o := Option.isSome_iff_exists.mp ha.1
  -- the heap behind, with a as it was
  let H2 : Hp := upd H' a o
  have g : Same H H2 := fun b u e => by
    by_cases hb : b = a
    · subst hb; show upd H' b o b = _; rw [upd_same]; rw [ho] at e; exact e
    · show upd H' a o b = _; rw [upd_ne hb]; exact k b u e hb
  have kk : Keeps M H' H2 := fun b u e hb => by
    have mu' := h.some.2
    have : b ≠ a := by
      rintro rfl
      rcases hb with hb | ⟨xs, rfl⟩ | ⟨ob, u, rfl⟩
      · exact (hM _ hb).2 rfl
      · rw [e] at mu'; exact mu'.elim
      · rw [e] at mu'; exact mu'.elim
    show upd H' a o b = _
    rw [upd_ne this]; exact e
  have back : Keeps M H2 H' := fun b u e hb => by
    have : b ≠ a := by
      rintro rfl
      have e : H2 b = some u := e
      have eo : H2 b = some o := upd_same
      rw [eo] at e; cases e
      rw [ho] at ha
      rcases hb with hb | ⟨xs, rfl⟩ | ⟨ob, u, rfl⟩
      · exact (hM _ hb).2 rfl
      · exact ha.2.elim
      · exact ha.2.elim
    have e : upd H' a o b = some u := e
    rw [upd_ne this] at e; exact e
  have r2 : Ret F.K (F.N ow) H H2 v c := by
    cases c with
    | ro d => exact Rep.keep kk (fun b hb _ => (hM b hb).1) r
    | own d =>
      obtain ⟨p, e, hp, np, q⟩ := r
      have pa : p ≠ a := fun z => by rw [z, ho] at hp; cases hp
      refine ⟨p, e, hp, ?_⟩
      have mono : ∀ b, M b → (H' b).isSome = true → (fun b => (F.N ow b ∨ H b = none) ∧ b ≠ p) b := fun b hb _ => ⟨(hM b hb).1, fun z => np (z ▸ hb)⟩
      cases d with
      | lst ds => obtain ⟨ws, q1, q2⟩ := q; exact ⟨ws, (upd_ne pa).trans q1, q2.keep kk mono⟩
      | dct ds => obtain ⟨ws, q1, q2⟩ := q; exact ⟨ws, (upd_ne pa).trans q1, q2.keep kk mono⟩
      | dtt ds => obtain ⟨ws, q1, q2⟩ := q; exact ⟨ws, (upd_ne pa).trans q1, q2.keep kk mono⟩
      | _ => exact q.elim
    | io d => exact r.elim
    | view d => exact r.elim
  obtain ⟨ow2, J, hN2⟩ := I.ret g r2
  obtain ⟨o', ho'⟩ : ∃ o, H' a = some o := Option.isSome_iff_exists.mp h.some.1
  have eH : upd H2 a o' = H' := by
    funext b
    by_cases hb : b = a
    · subst hb; rw [upd_same, ho']
    · rw [upd_ne hb]; exact upd_ne hb
  have hold : Holds F ow2 H' a d' := by
    refine h.mono fun b hb _ => hN2 b (hM b hb).1 ?_
    cases c with
    | ro d => exact .inl ⟨d, rfl⟩
    | own d => obtain ⟨p, e, hp, np, q⟩ := r; exact .inr fun z => np (by rw [e] at z; cases z; exact hb)
    | io d => exact r.elim
    | view d => exact r.elim
  have mo' : Mut (some o') := by rw [← ho']; exact h.some.2
  obtain ⟨w2, q1, q2⟩ := J.slot j _ hc
  rw [hs] at q1; cases q1
  cases bb with
  | false =>
    obtain ⟨a', e, ha2, _⟩ := q2
    cases e
    have := J.write (o' := o') (d' := d') hs hc ha2 (by rw [eH]; exact hold)
    rw [eH] at this
    exact ⟨ow2, this⟩
  | true =>
    obtain ⟨a', e, ha2, _⟩ := q2
    cases e
    have j0 : j = 0 := I.io j _ hc
    subst j0
    have := J.writeIo (o' := o') (d' := d') hs hc ha2 mo' (by rw [eH]; exact hold)
    rw [eH] at this
    exact ⟨ow2, this⟩
theorem dats2 {ρ : Dn.Env} {c1 c2 : C} {x y : D} (h1 : dat ρ c1 = some x) (h2 : dat ρ c2 = some y) : dats ρ [c1, c2] = some [x, y] := by
  simp only [dats]; rw [h1, h2]
theorem tVar_of {Q : VK} {σ : L2.St} {H : Hp} {j : Nat} {v : V} (h : σ[j]? = some (some v)) (k : Q v H) : tVar j σ H Q := ⟨v, h, k⟩
/-- what slot j holds, ahead and behind an evaluation: one address -/
theorem slot_ref {ow : Ow} {σ : L2.St} {H : Hp} {ρ : Dn.Env} {τ : List (V × C)} {j : Nat} {bb : Bool} {d : D} (I : RSo F ow σ H ρ τ) (hc : ρ[j]? = some (some (ioCell bb d))) : ∃ a, σ[j]? = some (some (.ref a)) ∧ Holds F ow H a d ∧ ¬ F.N ow a := by
  obtain ⟨v, h1, h2⟩ := I.slot j _ hc
  cases bb with
  | true => obtain ⟨a, rfl, q1, q2⟩ := h2; exact ⟨a, h1, q2, fun z => z.2.1 q1⟩
  | false => obtain ⟨a, rfl, q1, q2⟩ := h2; exact ⟨a, h1, q2, fun z => by rw [z.1] at q1; cases q1⟩
/-- where slot j is told to hold something behind, it holds something ahead too -/
theorem callIo_of {g : D → List D → Option (C × D)} {j : Nat} {Q : VK} {σ : L2.St} {H : Hp} (hw : tD F (pCallIo g j ps) σ H Q) : tCall (SpIo F.K g) [] E0 (tCons (tVar j) (tDA F ps)) σ H Q := by
  obtain ⟨ρ, τ, c, ρ', I, e1, k⟩ := hw
  simp only [pCallIo, Option.bind_eq_some_iff] at e1
  obtain ⟨⟨b0, d0⟩, e0, ⟨cs, ρ1⟩, e1, e2⟩ := e1
  split at e2
  · rename_i hk
    simp only [Option.bind_eq_some_iff, Option.map_eq_some_iff] at e2
    obtain ⟨⟨bb, d⟩, e2, ⟨c1, d'⟩, e3, e4⟩ := e2
    cases e4
    have hc := ioData_get e2
    obtain ⟨a, ha, _⟩ : ∃ a, σ[j]? = some (some (.ref a)) ∧ True := by
      obtain ⟨ow0, I0⟩ := I
      obtain ⟨a, ha, _⟩ := slot_ref I0 (ioData_get e0)
      exact ⟨a, ha, trivial⟩
    refine ⟨.ref a, ha, ρ, τ, cs, ρ1, I, e1, fun vs H1 hl ⟨ow, I1⟩ => ?_⟩
    obtain ⟨ow2, I2, r⟩ := RSo.takeS hl hk I1
    obtain ⟨a', ha', hh, hn⟩ := slot_ref I2 hc
    rw [ha] at ha'; cases ha'
    refine ⟨F.N ow2, a, vs, d, cs.map C.d, c1, d', by simp, hn, hh, r, e3, fun v H2 M k2 hM h2 r2 => ?_⟩
    exact k v H2 (I2.callIo hc ha k2 hM h2 r2)
  · cases e2
theorem de_callIo {g : D → List D → Option (C × D)} {j : Nat} (hK : F.K = X.K) (G : FnOk X.prog X.w X.K X.mg X.base CX0 kk f fd pss (SpIo X.K g)) (hr : Room kk X.A) (hg : Gl X x) (hm : X.mg x = some (.ref f)) (hk : PySem.W.keepIn X.K (.ref f) = true) (hb : Binds X.K fd pss [])
    (hj : PE X e (tVar j)) (ha : PA X es (tDA F ps)) (hdb : (x == ("__debug__" : Str)) = false := by decide) (he : starEach (e :: es) X.env = (false, eval e X.env) :: starEach es X.env := by rfl) (hpl : (backTo pos (starEach es X.env)).any (·.1) = false := by rfl) :
    PE X (.Call (.Name x pp) (e :: es) [] pos) (tD F (pCallIo g j ps)) := PE.imp (pe_call G hr hg hm hk hb .nil pass0 (pa_cons hj ha he) hdb he hpl) fun σ H Q hw => by
  rw [← hK]; exact callIo_of hw
/-! ### methods that change what a slot holds -/
/-- op: what the list holds, the arguments: what it holds behind, the answer -/
def LMutS (K : PySem.W.Frag) (r : V → List V → Hp → VK → Prop) (op : List D → List D → Option (List D × D)) : Prop :=
  ∀ (N : Addr → Prop) (H : Hp) (a : Addr) (ws : List V) (l : List D) (vs : List V) (ds : List D) (l' : List D) (t : D) (Q : VK), H a = some (.lst ws) → RepL K N H ws l → RepL K N H vs ds → op l ds = some (l', t) →
    (∀ v ws', RepL K N H ws' l' → Rep K N H v t → Q v (upd H a (.lst ws'))) → r (.ref a) vs H Q
def liftL (op : List D → List D → Option (List D × D)) (d : D) (ds : List D) : Option (C × D) := match d with
  | .lst l => (op l ds).map fun r => (.ro r.2, .lst r.1)
  | _ => none
def pMutL (op : List D → List D → Option (List D × D)) (j : Nat) (ps : PAs) : P1 := fun ρ => match ioData ρ j with
  | some (_, .lst _) => pCallIo (liftL op) j ps ρ
  | _ => none
theorem keep_upd {N : Addr → Prop} {H : Hp} {a : Addr} {ws : List V} {o : HO} (hn : ¬ N a) (h : H a = some (.lst ws)) : Keeps N H (upd H a o) := fun b u e hb => by
  have : b ≠ a := by
    rintro rfl
    rcases hb with hb | ⟨xs, rfl⟩ | ⟨ob, u, rfl⟩
    · exact hn hb
    · rw [h] at e; cases e
    · rw [h] at e; cases e
  rw [upd_ne this]; exact e
theorem mutL_of {r : V → List V → Hp → VK → Prop} {op : List D → List D → Option (List D × D)} (hs : LMutS F.K r op) {j : Nat} {Q : VK} {σ : L2.St} {H : Hp} (hw : tD F (pMutL op j ps) σ H Q) : tBM F.K "list" r (tVar j) (tDA F ps) σ H Q := by
  obtain ⟨ρ, τ, c, ρ', I, e1, k⟩ := hw
  unfold pMutL at e1
  split at e1
  · rename_i b0 l0 q0
    simp only [pCallIo, Option.bind_eq_some_iff] at e1
    obtain ⟨⟨b0, d0⟩, e0, ⟨cs, ρ1⟩, e1, e2⟩ := e1
    rw [q0] at e0
    cases e0
    split at e2
    · rename_i hk
      simp only [Option.bind_eq_some_iff, Option.map_eq_some_iff] at e2
      obtain ⟨⟨bb, d⟩, e2, ⟨c1, d1⟩, e3, e4⟩ := e2
      cases e4
      have hc := ioData_get e2
      obtain ⟨ow0, I0⟩ := I
      obtain ⟨a, ha, ⟨ws0, hws0, _⟩, _⟩ := slot_ref I0 (ioData_get q0)
      refine ⟨.ref a, ha, .inl ⟨rfl, ws0, SqL.of hws0⟩, ρ, τ, cs, ρ1, ⟨ow0, I0⟩, e1, fun vs H1 hl ⟨ow, I1⟩ => ?_⟩
      obtain ⟨ow2, I2, rr⟩ := RSo.takeS hl hk I1
      obtain ⟨a', ha', hh, hn⟩ := slot_ref I2 hc
      rw [ha] at ha'; cases ha'
      dsimp only [liftL] at e3
      split at e3
      · simp only [Option.map_eq_some_iff] at e3
        obtain ⟨⟨l', t⟩, e3, e5⟩ := e3
        cases e5
        obtain ⟨ws, hws, rl⟩ := hh
        refine hs _ _ _ _ _ _ _ _ _ _ hws rl rr e3 fun v ws' r1 r2 => ?_
        have kk : Keeps (F.N ow2) H1 (upd H1 a (.lst ws')) := keep_upd hn hws
        have nn : ∀ b, F.N ow2 b → (H1 b).isSome = true → F.N ow2 b := fun _ h _ => h
        refine k v _ (I2.callIo (M := F.N ow2) hc ha (fun b o e hb => by rw [upd_ne hb]; exact e) (fun b hb => ⟨.inl hb, fun z => hn (z ▸ hb)⟩) ⟨ws', upd_same, r1.keep kk nn⟩ (Rep.keep kk nn r2))
      · cases e3
    · cases e2
  · cases e1
variable {o : Expr} {name : Str} {apos cpos : Pos} {id : String}
/-- a list's method with arguments, without -/
theorem de_lm {r : V → List V → Hp → VK → Prop} {op : List D → List D → Option (List D × D)} {j : Nat} (hK : F.K = X.K) (slot : Slot "list" name id) (hty : typeOf (.builtin id) = pure (.type "method_descriptor")) (hm : MtR X id r) (hs : LMutS X.K r op)
    (ho : PE X o (tVar j)) (ha : PA X (e :: es) (tDA F ps))
    (hbase : attributeBase o name X.env (eval o X.env) = eval o X.env := by rfl)
    (hfew : ((backTo cpos (starEach (e :: es) X.env)).all (fun x => !x.1) && (backToKw cpos (keywordEach [] X.env)).all (fun x => x.1.isSome)
      && decide ((e :: es).length + ([] : List Keyword).length + (if ([] : List Keyword).isEmpty then 0 else 1) < 30)) = true := by rfl)
    (hline : (apos.endLine == cpos.line) = true := by rfl) (hs1 : starEach (e :: es) X.env = (false, eval e X.env) :: starEach es X.env := by rfl) (hplain : (backTo cpos (starEach es X.env)).any (·.1) = false := by rfl) :
    PE X (.Call (.Attribute o name apos) (e :: es) [] cpos) (tD F (pMutL op j ps)) := PE.imp (pe_bm PySem.F.plainAttrs_list slot hty hm ho ha hbase hfew hline hs1 hplain) fun σ H Q hw => by
  rw [← hK]; exact mutL_of (by rw [hK]; exact hs) hw
theorem de_lm0 {r : V → List V → Hp → VK → Prop} {op : List D → List D → Option (List D × D)} {j : Nat} (hK : F.K = X.K) (slot : Slot "list" name id) (hty : typeOf (.builtin id) = pure (.type "method_descriptor")) (hm : MtR X id r) (hs : LMutS X.K r op)
    (ho : PE X o (tVar j)) (hbase : attributeBase o name X.env (eval o X.env) = eval o X.env := by rfl) (hline : (apos.endLine == cpos.line) = true := by rfl) : PE X (.Call (.Attribute o name apos) [] [] cpos) (tD F (pMutL op j pNil)) := PE.imp (pe_bm0 PySem.F.plainAttrs_list slot hty hm ho hbase hline) fun σ H Q hw => by
  have h := mutL_of (by rw [hK]; exact hs) hw
  obtain ⟨v, hv, ty, ρ, τ, cs, ρ', I, e, k⟩ := h
  cases e
  obtain ⟨v2, hv2, ty2, ρ2, τ2, cs2, ρ2', I2, e2, k2⟩ := mutL_of (by rw [hK]; exact hs) hw
  cases e2
  refine ⟨v, hv, by rw [← hK]; exact ty, ?_⟩
  exact k [] H rfl I
def opAppend (l ds : List D) : Option (List D × D) := match ds with
  | [y] => if decide (l.length < sizeLine) = true then some (l ++ [y], .non) else none
  | _ => none
theorem s_append {K : PySem.W.Frag} : LMutS K rAppend opAppend := by
  intro N H a ws l vs ds l' t Q h rl rd e k
  unfold opAppend at e
  split at e
  · split at e
    · rename_i hz
      cases e
      cases rd with
      | cons r1 r => cases r; exact ⟨a, ws, _, rfl, rfl, h, by rw [rl.length]; exact of_decide_eq_true hz, k .non _ (rl.append (.cons r1 .nil)) .non⟩
    · cases e
  · cases e
def opPop (l ds : List D) : Option (List D × D) := match ds with
  | [] => (l[l.length - 1]?).map fun y => (l.dropLast, y)
  | _ => none
theorem dropLast_rep {K : PySem.W.Frag} {N : Addr → Prop} {H : Hp} {vs : List V} {ds : List D} (r : RepL K N H vs ds) : RepL K N H vs.dropLast ds.dropLast := by
  rw [List.dropLast_eq_take, List.dropLast_eq_take, r.length]; exact r.take _
theorem s_pop {K : PySem.W.Frag} : LMutS K rPop opPop := by
  intro N H a ws l vs ds l' t Q h rl rd e k
  unfold opPop at e
  split at e
  · simp only [Option.map_eq_some_iff] at e
    obtain ⟨y, e, e2⟩ := e
    cases e2
    cases rd
    obtain ⟨w, h1, h2⟩ := rl.get' e
    exact ⟨a, ws, w, rfl, rfl, h, by rw [rl.length]; exact h1, k w _ (dropLast_rep rl) h2⟩
  · cases e
def opPopAt (l ds : List D) : Option (List D × D) := match ds with
  | [.int i] => if (decide (0 ≤ i) && decide (i.natAbs < 2 ^ 62)) = true then (l[i.toNat]?).map fun y => (l.eraseIdx i.toNat, y) else none
  | _ => none
theorem s_popAt {K : PySem.W.Frag} : LMutS K rPopAt opPopAt := by
  intro N H a ws l vs ds l' t Q h rl rd e k
  unfold opPopAt at e
  split at e
  · split at e
    · rename_i i hz
      simp only [Bool.and_eq_true, decide_eq_true_eq] at hz
      simp only [Option.map_eq_some_iff] at e
      obtain ⟨y, e, e2⟩ := e
      cases e2
      cases rd with
      | cons r1 r =>
        cases r
        cases r1
        obtain ⟨w, h1, h2⟩ := rl.get' e
        have hlt : i.toNat < ws.length := (List.getElem?_eq_some_iff.mp h1).1
        refine ⟨a, ws, i, i.toNat, w, rfl, rfl, h, by omega, by omega, ?_, h1, k w _ (rl.eraseIdx _) h2⟩
        exact seqIndex_of hz.1 (by omega)
    · cases e
  · cases e
def opInsert (l ds : List D) : Option (List D × D) := match ds with
  | [.int i, y] => if (decide (0 ≤ i) && decide (i.natAbs < 2 ^ 62) && decide (l.length < sizeLine)) = true then some (l.take i.toNat ++ [y] ++ l.drop i.toNat, .non) else none
  | _ => none
theorem s_insert {K : PySem.W.Frag} : LMutS K (fun x vs H Q => ∃ (l : Addr) (xs : List V) (i : Int) (y : V), x = .ref l ∧ vs = [.int i, y] ∧ H l = some (.lst xs) ∧ xs.length < sizeLine ∧ 0 ≤ i ∧ i < 2 ^ 63 ∧
    Q .non (upd H l (.lst (xs.take i.toNat ++ [y] ++ xs.drop i.toNat)))) opInsert := by
  intro N H a ws l vs ds l' t Q h rl rd e k
  unfold opInsert at e
  split at e
  · split at e
    · rename_i i y hz
      cases e
      simp only [Bool.and_eq_true, decide_eq_true_eq] at hz
      cases rd with
      | cons r1 r =>
        cases r with
        | cons r2 r =>
          cases r
          cases r1
          exact ⟨a, ws, i, _, rfl, rfl, h, by rw [rl.length]; exact hz.2, hz.1.1, by omega, k .non _ (((rl.take _).append (.cons r2 .nil)).append (rl.drop _)) .non⟩
    · cases e
  · cases e
def opExtend (l ds : List D) : Option (List D × D) := match ds with
  | [.lst ys] => if szOk (l.length + ys.length) = true then some (l ++ ys, .non) else none
  | _ => none
theorem s_extend {K : PySem.W.Frag} : LMutS K rExtend opExtend := by
  intro N H a ws l vs ds l' t Q h rl rd e k
  unfold opExtend at e
  split at e
  · split at e
    · rename_i ys hz
      cases e
      cases rd with
      | cons r1 r =>
        cases r
        cases r1 with
        | lst n hb rb => exact ⟨a, _, ws, _, rfl, rfl, h, hb, by rw [rl.length, rb.length]; exact szOk_le hz, k .non _ (rl.append rb) .non⟩
    · cases e
  · cases e
/-! ### xs[i] = e, xs[i] += e -/
def sSetIx (j : Nat) (p pi : P1) : S1 := fun ρ => (p ρ).bind fun a => (cap a.1 a.2).bind fun b => (ioData b.2 j).bind fun _ => (pi b.2).bind fun i => (ioData i.2 j).bind fun d => match i.1, d.2 with
  | .ro (.int k), .lst l => (ixN l.length k).map fun m => .nx (i.2.set j (some (ioCell d.1 (.lst (l.set m b.1.d)))))
  | _, _ => none
theorem RSo.setItem {ow : Ow} {σ : L2.St} {H : Hp} {ρ : Dn.Env} {τ : List (V × C)} {j : Nat} {bb : Bool} {l l' : List D} {ws ws' : List V} {a : Addr} (I : RSo F ow σ H ρ τ) (hc : ρ[j]? = some (some (ioCell bb (.lst l)))) (hs : σ[j]? = some (some (.ref a)))
    (ha : H a = some (.lst ws)) (r : RepL F.K (F.N ow) H ws' l') (hn : ¬ F.N ow a) : ∃ ow', RSo F ow' σ (upd H a (.lst ws')) (ρ.set j (some (ioCell bb (.lst l')))) τ := by
  have kk : Keeps (F.N ow) H (upd H a (.lst ws')) := keep_upd hn ha
  have nn : ∀ b, F.N ow b → (H b).isSome = true → F.N ow b := fun _ h _ => h
  obtain ⟨ow', J⟩ := I.callIo (v := .non) (c := .ro .non) (M := F.N ow) (d' := .lst l') hc hs (fun b o e hb => by rw [upd_ne hb]; exact e) (fun b hb => ⟨.inl hb, fun z => hn (z ▸ hb)⟩) ⟨ws', upd_same, r.keep kk nn⟩ .non
  exact ⟨_, J.pop⟩
theorem RSo.int_top {ow : Ow} {σ : L2.St} {H : Hp} {ρ : Dn.Env} {τ : List (V × C)} {v : V} {k : Int} (I : RSo F ow σ H ρ ((v, .ro (.int k)) :: τ)) : v = .int k := by
  have := I.tmp.1; cases this; rfl
theorem ds_setIx {j : Nat} {oe ie : Expr} {spos : Pos} {pi : P1} (he : PE X e (tD F p)) (ho : PE X oe (tVar j)) (hi : PE X ie (tD F pi)) (hs : swapsWithSole [.Subscript oe ie spos] e pos.line X.env = pure false := by rfl) (hw : swappedStores [.Subscript oe ie spos] e X.env = pure none := by rfl)
    (h1 : (assignEach [.Subscript oe ie spos] X.env).map (·.2) = [assign (.Subscript oe ie spos) X.env] := by rfl)
    (hsub : ∀ v, assign (.Subscript oe ie spos) X.env v = (do
      let ov ← holding [v] (eval oe X.env)
      let iv ← holding [v, ov] (eval ie X.env)
      standAt spos
      holding [v, ov, iv] (setItem ov iv v)
      release [v, ov, iv] []) := by intro _; rfl) : PS X (.Assign [.Subscript oe ie spos] e pos) (tDS F [] (sSetIx j p pi)) := PS.imp (ps_asg he (pg_sub ho hi set_list hsub) hs hw h1) fun D σ H hw => by
  obtain ⟨ρ, τ, o, I, nv, e1, k⟩ := hw
  simp only [sSetIx, Option.bind_eq_some_iff] at e1
  obtain ⟨⟨c, ρ1⟩, e1, ⟨c2, ρ2⟩, e2, ⟨b0, d0⟩, e0, ⟨ci, ρ3⟩, e3, ⟨bb, d⟩, e4, e5⟩ := e1
  refine ⟨ρ, τ, c, ρ1, I, e1, fun v H1 ⟨ow, I1⟩ => ?_⟩
  obtain ⟨⟨ow2, I2⟩, nv2⟩ := I1.cap e2
  obtain ⟨a, ha, _⟩ := slot_ref I2 (ioData_get e0)
  refine ⟨.ref a, ha, ρ2, _, ci, ρ3, ⟨ow2, I2⟩, e3, fun iv H2 ⟨ow3, I3⟩ => ?_⟩
  dsimp only at e5
  split at e5
  · simp only [Option.map_eq_some_iff] at e5
    obtain ⟨m, e6, e7⟩ := e5
    cases e7
    have := I3.int_top; subst this
    have I4 := I3.pop
    have rv := RepC.pop I4 nv2
    have I5 := I4.pop
    generalize drop _ (.inr τ.length) = ow5 at I5 rv
    obtain ⟨a', ha', ⟨ws, hws, rl⟩, hn⟩ := slot_ref I5 (ioData_get e4)
    rw [ha] at ha'; cases ha'
    refine ⟨a, ws, _, m, rfl, rfl, hws, by rw [rl.length]; exact e6, ?_⟩
    exact k σ _ (fun _ _ => rfl) (I5.setItem (ioData_get e4) ha hws (rl.set rv m) hn)
  · cases e5
theorem get_list : PGet X (rIxL X.K) := by
  intro pins s σ H x y v u Q I rx ry h
  obtain ⟨p, xs, i, z, rfl, rfl, hq, he, q⟩ := h
  cases rx
  obtain ⟨t, rfl⟩ := ry
  obtain ⟨its, r, pl, hz⟩ := I.list hq
  obtain ⟨j, h1, h2, h3, h4, h5⟩ := atI_get he
  obtain ⟨w, ew, rw'⟩ := r.get h2
  have hl := r.length
  have hn := line63
  have fin : EP X pins σ Q w s := ⟨z, H, I, rw', q⟩
  by_cases h0 : 0 ≤ i
  · have hj : i.toNat = j := by
      rw [seqIndex_of h0 h5] at h1
      exact Option.some.inj h1
    exact wpAny_getItem_list pl.isList h0 (by omega) (by rw [hj]; simpa using ew) fin
  · have hj : (i + (its.toArray.size : Int)).toNat = j := by
      rw [seqIndex_neg (by omega) h4] at h1
      rw [List.size_toArray, ← hl]
      exact Option.some.inj h1
    exact wpAny_getItem_list_neg pl.isList (by omega) (by rw [List.size_toArray] <;> omega) (by omega) (by rw [hj]; simpa using ew) fin
/-- op: what stands there and the value: what stands there behind -/
def sAugIx (f : D → D → Option C) (j : Nat) (pi p : P1) : S1 := fun ρ => (ioData ρ j).bind fun _ => (pi ρ).bind fun i => (ioData i.2 j).bind fun d => match i.1, d.2 with
  | .ro (.int k), .lst l => (atI l k).bind fun x => (p i.2).bind fun b => (dat b.2 b.1).bind fun y => (f x y).bind fun c => (ioData b.2 j).bind fun d2 => match c, d2.2 with
    | .ro z, .lst l2 => (ixN l2.length k).map fun m => .nx (b.2.set j (some (ioCell d2.1 (.lst (l2.set m z)))))
    | _, _ => none
  | _, _ => none
theorem ds_augIx {j : Nat} {oe ie : Expr} {tpos : Pos} {pi : P1} {op : Operator} {r : R2} {f : D → D → Option C} (hK : F.K = X.K) (hop : OpR X (inplaceOp op) r) (hf : Op2S F.K r f) (ho : PE X oe (tVar j)) (hi : PE X ie (tD F pi)) (he : PE X e (tD F p))
    (hsub : ∀ ov iv new, augStore ie ov iv new = (do holding [new, ov, iv] (setItem ov iv new); release [new, ov, iv] []; pure .next) := by intros; rfl) : PS X (.AugAssign (.Subscript oe ie tpos) op e pos) (tDS F [] (sAugIx f j pi p)) := PS.imp (ps_augS ho hi get_list he hop set_list hsub) fun D σ H hw => by
  obtain ⟨ρ, τ, o, I, nv, e1, k⟩ := hw
  simp only [sAugIx, Option.bind_eq_some_iff] at e1
  obtain ⟨⟨b0, d0⟩, e0, ⟨ci, ρ1⟩, e1, ⟨bb, d⟩, e2, e3⟩ := e1
  obtain ⟨a, ha⟩ : ∃ a, σ[j]? = some (some (.ref a)) := by
    obtain ⟨ow0, I0⟩ := I
    obtain ⟨a, ha, _⟩ := slot_ref I0 (ioData_get e0)
    exact ⟨a, ha⟩
  refine ⟨.ref a, ha, ρ, τ, ci, ρ1, I, e1, fun iv H1 ⟨ow1, I1⟩ => ?_⟩
  dsimp only at e3
  split at e3
  · simp only [Option.bind_eq_some_iff] at e3
    obtain ⟨x, e3, ⟨cy, ρ2⟩, e4, y, e5, c, e6, ⟨b2, d2⟩, e7, e8⟩ := e3
    have := I1.int_top; subst this
    have I2 := I1.pop
    generalize drop _ _ = ow2 at I2
    obtain ⟨a', ha', ⟨ws, hws, rl⟩, hn⟩ := slot_ref I2 (ioData_get e2)
    rw [ha] at ha'; cases ha'
    obtain ⟨w, hw1, hw2⟩ := atI_rep rl e3
    refine ⟨a, ws, _, w, rfl, rfl, SqL.of hws, hw1, ?_⟩
    refine ⟨ρ1, _, cy, ρ2, ⟨ow2, I2.push hw2⟩, e4, fun v H2 ⟨ow3, I3⟩ => ?_⟩
    obtain ⟨ow4, I4, rx⟩ := RSo.take (vs := [w, v]) (cs := [.ro x, cy]) rfl I3
    have rr := rx [x, y] (dats2 rfl e5)
    cases rr with
    | cons r1 rr =>
      cases rr with
      | cons r2 _ =>
        refine hf _ _ _ _ _ _ _ _ r1 r2 e6 fun v' H' g rt => ?_
        obtain ⟨ow5, I5, _⟩ := I4.ret g rt
        dsimp only at e8
        split at e8
        · simp only [Option.map_eq_some_iff] at e8
          obtain ⟨m, e9, e10⟩ := e8
          cases e10
          have rv := RepC.pop I5 (fun _ z => by cases z)
          have I6 := I5.pop
          generalize drop _ (.inr τ.length) = ow6 at I6 rv
          obtain ⟨a', ha', ⟨ws2, hws2, rl2⟩, hn2⟩ := slot_ref I6 (ioData_get e7)
          rw [ha] at ha'; cases ha'
          refine ⟨a, ws2, _, m, rfl, rfl, hws2, by rw [rl2.length]; exact e9, ?_⟩
          exact k σ _ (fun _ _ => rfl) (I6.setItem (ioData_get e7) ha hws2 (rl2.set rv m) hn2)
        · cases e8
  · cases e3
/-- x += e -/
def sAug (f : D → D → Option C) (i : Nat) (p : P1) : S1 := fun ρ => match ρ[i]? with
  | some (some (.ro x)) => (p ρ).bind fun b => (dat b.2 b.1).bind fun y => (f x y).bind fun c => (setE i c b.2).map .nx
  | _ => none
theorem ds_aug {i : Nat} {x : Str} {op : Operator} {pos' : Pos} {r : R2} {f : D → D → Option C} (hop : OpR X (inplaceOp op) r) (hf : Op2S F.K r f) (hc0 : ∀ x y c, f x y = some c → ∃ d, c = .ro d) (hN : X.N.Nodup) (hi : X.N[i]? = some x) (hx : Loc X.env.scope x) (he : PE X e (tD F p)) (hff : X.fn x = true ∨ X.env.scope.names.lookup x = some .local := by first | exact .inl rfl | exact .inr rfl | assumption) :
    PS X (.AugAssign (.Name x pos') op e pos) (tDS F [i] (sAug f i p)) := PS.imp (ps_aug hN hi hx he hop hff) fun D σ H hw => by
  obtain ⟨ρ, τ, o, I, nv, e1, k⟩ := hw
  unfold sAug at e1
  split at e1
  · rename_i dx q
    simp only [Option.bind_eq_some_iff, Option.map_eq_some_iff] at e1
    obtain ⟨⟨cy, ρ2⟩, e4, y, e5, c, e6, ρ3, e7, e8⟩ := e1
    cases e8
    obtain ⟨ow, I⟩ := I
    obtain ⟨w, hw1, hw2⟩ := I.slot i _ q
    refine ⟨w, hw1, ρ, _, cy, ρ2, ⟨ow, I.push hw2⟩, e4, fun v H2 ⟨ow3, I3⟩ => ?_⟩
    obtain ⟨ow4, I4, rx⟩ := RSo.take (vs := [w, v]) (cs := [.ro dx, cy]) rfl I3
    have rr := rx [dx, y] (dats2 rfl e5)
    cases rr with
    | cons r1 rr =>
      cases rr with
      | cons r2 _ =>
        refine hf _ _ _ _ _ _ _ _ r1 r2 e6 fun v' H' g rt => ?_
        obtain ⟨ow5, I5, _⟩ := I4.ret g rt
        obtain ⟨dz, rfl⟩ := hc0 _ _ _ e6
        unfold setE at e7
        split at e7
        · rename_i hlt
          cases e7
          obtain ⟨ow6, I6⟩ := I5.bind hlt
          exact k _ _ (fun j hj => List.getElem?_set_ne (fun z => hj (List.mem_singleton.mpr z.symm))) ⟨ow6, I6⟩
        · cases e7
  · cases e1
/-! ### comprehensions as expressions and as stored at once -/
section
variable {elt tg iter : Expr} {ifs : List Expr} {scope : Scope} {own : List (Str × Nat)} {vs : List Nat} {it : I1} {bb : B1} {q : PT1}
theorem de_lc (hc : X.calm = true) (hN : X.N.Nodup) (hi : PI X tg iter (tDI F it)) (ok : BlkOk X.N X.env.scope scope own)
    (hg : ∀ (s : Shared) (H : Hp) (C : Addr) (cl : List (Str × Addr)) (fp : List Addr), PG (X.blk s H scope (compEnvC scope cl C X.env) fp) tg (tDG F W bb)) (ht : ∀ (s : Shared) (H : Hp) (C : Addr) (cl : List (Str × Addr)) (fp : List Addr), PTs (X.blk s H scope (compEnvC scope cl C X.env) fp) ifs (tDT F q))
    (he : ∀ (s : Shared) (H : Hp) (C : Addr) (cl : List (Str × Addr)) (fp : List Addr), PE (X.blk s H scope (compEnvC scope cl C X.env) fp) elt (tD F p)) (hW : ∀ i ∈ W, i ∈ vs) (hvs : own.map (·.2) = vs := by rfl) (hs : ∀ x, foldedSetIterable iter X.env x = pure x := by intro _; rfl) :
    PE X (.ListComp elt [⟨tg, iter, ifs, 0⟩] scope pos) (tD F (pLc it vs bb q p)) := PE.imp (pe_lc hc hN hi ok hg ht he hs) fun _ _ _ => by rw [hvs]; exact lc_of hW
theorem ds_setLc {i : Nat} {y : Str} {py spos : Pos} (hc : X.calm = true) (hN : X.N.Nodup) (hy : X.N[i]? = some y) (hyl : X.env.scope.names.lookup y = some .local)
    (hsw : swapsWith (.ListComp elt [⟨tg, iter, ifs, 0⟩] scope pos) (some (.Name y py)) spos.line X.env = pure true) (hi : PI X tg iter (tDI F it)) (ok : BlkOk X.N X.env.scope scope own)
    (hg : ∀ (s : Shared) (H : Hp) (C : Addr) (cl : List (Str × Addr)) (fp : List Addr), PG (X.blk s H scope (compEnvC scope cl C X.env) fp) tg (tDG F W bb)) (ht : ∀ (s : Shared) (H : Hp) (C : Addr) (cl : List (Str × Addr)) (fp : List Addr), PTs (X.blk s H scope (compEnvC scope cl C X.env) fp) ifs (tDT F q))
    (he : ∀ (s : Shared) (H : Hp) (C : Addr) (cl : List (Str × Addr)) (fp : List Addr), PE (X.blk s H scope (compEnvC scope cl C X.env) fp) elt (tD F p)) (hW : ∀ i ∈ W, i ∈ vs) (hvs : own.map (·.2) = vs := by rfl) (hs : ∀ x, foldedSetIterable iter X.env x = pure x := by intro _; rfl) :
    PS X (.Assign [.Name y py] (.ListComp elt [⟨tg, iter, ifs, 0⟩] scope pos) spos) (tDS F [i] (sSet i (pLc it vs bb q p))) := PS.imp (ps_setLc hc hN hy hyl hsw hi ok hg ht he hs) fun _ _ _ => set_of fun _ _ _ => by rw [hvs]; exact lc_of hW
end
end
end Dn

namespace Dn
open PySem PySem.Spec PyProof.Rows L2 RZ
/-! ### zip, enumerate -/
def zipD (xs ys : List D) : List D := List.zipWith (fun x y => D.tup [x, y]) xs ys
def D.isTup : D → Bool
  | .tup _ => true
  | _ => false
def D.isLst : D → Bool
  | .lst _ => true
  | .scr _ => true
  | _ => false
def iZip (ps : PAs) : I1 := fun ρ => (ps ρ).bind fun a => match a.1 with
  | [c1, c2] => if (c1.kept && c2.kept && (c1.d.isLst && c2.d.isLst || c1.d.isTup && c2.d.isTup)) = true then (D.items c1.d).bind fun xs => (D.items c2.d).map fun ys => (zipD xs ys, a.2) else none
  | _ => none
def enumD (n : Nat) (xs : List D) : List D := match xs with
  | [] => []
  | x :: xs => .tup [.int n, x] :: enumD (n + 1) xs
def iEnum (ps : PAs) : I1 := fun ρ => (ps ρ).bind fun a => match a.1 with
  | [c1] => if (c1.kept && c1.d.isLst) = true then (D.items c1.d).map fun xs => (enumD 0 xs, a.2) else none
  | _ => none
theorem enum_get : ∀ (xs : List D) (n i : Nat), (enumD n xs)[i]? = (xs[i]?).map fun x => D.tup [.int ((n + i : Nat) : Int), x]
  | [], _, _ => rfl
  | x :: xs, n, 0 => rfl
  | x :: xs, n, i + 1 => by
    show (enumD (n + 1) xs)[i]? = _
    rw [enum_get xs (n + 1) i]
    simp only [List.getElem?_cons_succ]
    congr 1
    funext y
    rw [show n + 1 + i = n + (i + 1) by omega]
section
variable {X : Cx} {F : Fr} {e a b : Expr} {pos : Pos} {ps : PAs}
theorem kept_nv {c : C} (h : c.kept = true) : ∀ j, c ≠ .view j := fun j z => by subst z; exact absurd h Bool.false_ne_true
theorem sq_lst {F : Fr} {ow : Ow} {σ : L2.St} {H : Hp} {ρ : Dn.Env} {τ : List (V × C)} {v : V} {c : C} {ds : List D} (I : RSo F ow σ H ρ τ) {id : Sum Nat Nat} (h : RepC F ow id σ ρ H v c) (hk : c.kept = true) (e : D.items c.d = some ds) (hl : c.d.isLst = true) : ∃ a, v = .ref a ∧ ∃ vs, RepL F.K (F.N ow) H vs ds ∧ SqL F.K H a vs := by
  obtain ⟨a, ev, vs, r, hq⟩ := items_at I h (kept_nv hk) e
  refine ⟨a, ev, vs, r, ?_⟩
  rcases hq with ⟨h, _⟩ | ⟨_, es, z⟩
  · exact h
  · rw [z] at hl; cases hl
theorem sq_tup {F : Fr} {ow : Ow} {σ : L2.St} {H : Hp} {ρ : Dn.Env} {τ : List (V × C)} {v : V} {c : C} {ds : List D} (I : RSo F ow σ H ρ τ) {id : Sum Nat Nat} (h : RepC F ow id σ ρ H v c) (hk : c.kept = true) (e : D.items c.d = some ds) (hl : c.d.isTup = true) : ∃ a, v = .ref a ∧ ∃ vs, RepL F.K (F.N ow) H vs ds ∧ SqT F.K H a vs := by
  obtain ⟨a, ev, vs, r, hq⟩ := items_at I h (kept_nv hk) e
  refine ⟨a, ev, vs, r, ?_⟩
  rcases hq with ⟨_, z⟩ | ⟨h, _⟩
  · cases q : c.d with
    | tup es => exact absurd q (z es)
    | _ => rw [q] at hl; cases hl
  · exact h
theorem deep1 {F : Fr} {ow : Ow} {σ : L2.St} {H : Hp} {ρ : Dn.Env} {τ us : List (V × C)} {t : V × C} (I : RSo F ow σ H ρ (us ++ t :: τ)) : RepC F ow (.inr τ.length) σ ρ H t.1 t.2 := Tmps.deep I.tmp
theorem zip_get {xs ys : List D} {i : Nat} {x y : D} (h1 : xs[i]? = some x) (h2 : ys[i]? = some y) : (zipD xs ys)[i]? = some (.tup [x, y]) := by
  unfold zipD; rw [List.getElem?_zipWith, h1, h2]
theorem zip_len (xs ys : List D) : (zipD xs ys).length = min xs.length ys.length := by unfold zipD; rw [List.length_zipWith]
/-- a pair is laid -/
theorem pair_laid {F : Fr} {ow : Ow} {σ : L2.St} {H : Hp} {ρ : Dn.Env} {τ : List (V × C)} {T : Addr} {x y : V} {dx dy : D} (I : RSo F ow σ H ρ τ) (hT : H T = none) (rx : Rep F.K (F.N ow) H x dx) (ry : Rep F.K (F.N ow) H y dy) : RS F σ (upd H T (.tup [x, y])) ρ ((.ref T, .ro (.tup [dx, dy])) :: τ) := by
  have r : RepL F.K (F.N ow) H [x, y] [dx, dy] := .cons rx (.cons ry .nil)
  obtain ⟨ow2, I2, _⟩ := I.ret (H' := upd H T (.tup [x, y])) (v := .ref T) (c := .ro (.tup [dx, dy])) (Same.new hT) (.tup (SqT.of upd_same) ((new_keep hT r).mono fun b h _ => h.1))
  exact ⟨ow2, I2⟩
theorem walk_zipL {F : Fr} {v1 v2 : V} {c1 c2 : C} {a b : Addr} {xs ys : List D} (k1 : c1.kept = true) (k2 : c2.kept = true) (e1 : v1 = .ref a) (e2 : v2 = .ref b) (i1 : D.items c1.d = some xs) (i2 : D.items c2.d = some ys) (l1 : c1.d.isLst = true) (l2 : c2.d.isLst = true) : Walk F (Itz F.K a b) [(v2, c2), (v1, c1)] (zipD xs ys) := by
  have rd : ∀ {ow : Ow} {σ : L2.St} {H : Hp} {ρ : Dn.Env} {us τ : List (V × C)}, RSo F ow σ H ρ (us ++ ([(v2, c2), (v1, c1)] ++ τ)) → (∃ vs, RepL F.K (F.N ow) H vs xs ∧ SqL F.K H a vs) ∧ ∃ ws, RepL F.K (F.N ow) H ws ys ∧ SqL F.K H b ws := fun {ow σ H ρ us τ} I => by
    have q2 := deep1 (us := us) (t := (v2, c2)) (τ := (v1, c1) :: τ) I
    have I' : RSo F ow σ H ρ ((us ++ [(v2, c2)]) ++ (v1, c1) :: τ) := by simpa using I
    have q1 := deep1 I'
    obtain ⟨a', z1, vs, r1, h1⟩ := sq_lst I q1 k1 i1 l1
    obtain ⟨b', z2, ws, r2, h2⟩ := sq_lst I q2 k2 i2 l2
    have z1 : v1 = .ref a' := z1
    have z2 : v2 = .ref b' := z2
    rw [e1] at z1; cases z1
    rw [e2] at z2; cases z2
    exact ⟨⟨vs, r1, h1⟩, ws, r2, h2⟩
  refine ⟨fun i σ H ρ us τ hi ⟨ow, I⟩ => ?_, fun i σ H ρ us τ hi ⟨ow, I⟩ => ?_, fun i σ H ρ us τ x H' hi ⟨ow, I⟩ y => ?_⟩
  · obtain ⟨⟨vs, r1, h1⟩, ws, r2, h2⟩ := rd I
    rw [zip_len] at hi
    have l1 := r1.length
    have l2 := r2.length
    exact ⟨vs, ws, vs[i]'(by omega), ws[i]'(by omega), h1, h2, by simp, by simp⟩
  · obtain ⟨⟨vs, r1, h1⟩, ws, r2, h2⟩ := rd I
    rw [zip_len] at hi
    have l1 := r1.length
    have l2 := r2.length
    exact ⟨vs, ws, h1, h2, by omega⟩
  · obtain ⟨⟨vs, r1, h1⟩, ws, r2, h2⟩ := rd I
    obtain ⟨T, x1, y1, rfl, hT, rfl, q1, q2⟩ := y
    obtain ⟨dx, g1, g2⟩ := r1.get (q1 vs h1)
    obtain ⟨dy, g3, g4⟩ := r2.get (q2 ws h2)
    exact ⟨_, zip_get g1 g3, pair_laid I hT g2 g4⟩
theorem walk_zipT {F : Fr} {v1 v2 : V} {c1 c2 : C} {a b : Addr} {xs ys : List D} (k1 : c1.kept = true) (k2 : c2.kept = true) (e1 : v1 = .ref a) (e2 : v2 = .ref b) (i1 : D.items c1.d = some xs) (i2 : D.items c2.d = some ys) (l1 : c1.d.isTup = true) (l2 : c2.d.isTup = true) : Walk F (ItzT F.K a b) [(v2, c2), (v1, c1)] (zipD xs ys) := by
  have rd : ∀ {ow : Ow} {σ : L2.St} {H : Hp} {ρ : Dn.Env} {us τ : List (V × C)}, RSo F ow σ H ρ (us ++ ([(v2, c2), (v1, c1)] ++ τ)) → (∃ vs, RepL F.K (F.N ow) H vs xs ∧ SqT F.K H a vs) ∧ ∃ ws, RepL F.K (F.N ow) H ws ys ∧ SqT F.K H b ws := fun {ow σ H ρ us τ} I => by
    have q2 := deep1 (us := us) (t := (v2, c2)) (τ := (v1, c1) :: τ) I
    have I' : RSo F ow σ H ρ ((us ++ [(v2, c2)]) ++ (v1, c1) :: τ) := by simpa using I
    have q1 := deep1 I'
    obtain ⟨a', z1, vs, r1, h1⟩ := sq_tup I q1 k1 i1 l1
    obtain ⟨b', z2, ws, r2, h2⟩ := sq_tup I q2 k2 i2 l2
    have z1 : v1 = .ref a' := z1
    have z2 : v2 = .ref b' := z2
    rw [e1] at z1; cases z1
    rw [e2] at z2; cases z2
    exact ⟨⟨vs, r1, h1⟩, ws, r2, h2⟩
  refine ⟨fun i σ H ρ us τ hi ⟨ow, I⟩ => ?_, fun i σ H ρ us τ hi ⟨ow, I⟩ => ?_, fun i σ H ρ us τ x H' hi ⟨ow, I⟩ y => ?_⟩
  · obtain ⟨⟨vs, r1, h1⟩, ws, r2, h2⟩ := rd I
    rw [zip_len] at hi
    have l1 := r1.length
    have l2 := r2.length
    exact ⟨vs, ws, vs[i]'(by omega), ws[i]'(by omega), h1, h2, by simp, by simp⟩
  · obtain ⟨⟨vs, r1, h1⟩, ws, r2, h2⟩ := rd I
    rw [zip_len] at hi
    have l1 := r1.length
    have l2 := r2.length
    exact ⟨vs, ws, h1, h2, by omega⟩
  · obtain ⟨⟨vs, r1, h1⟩, ws, r2, h2⟩ := rd I
    obtain ⟨T, x1, y1, rfl, hT, rfl, q1, q2⟩ := y
    obtain ⟨dx, g1, g2⟩ := r1.get (q1 vs h1)
    obtain ⟨dy, g3, g4⟩ := r2.get (q2 ws h2)
    exact ⟨_, zip_get g1 g3, pair_laid I hT g2 g4⟩
theorem di_zip {e2 : Expr} {p tpos : Pos} {elts : List Expr} {kk : Nat} (hK : F.K = X.K) (hg : Gl X "zip") (hm : X.mg "zip" = none) (ha : PA X [e, e2] (tDA F ps))
    (hs : starEach [e, e2] X.env = (false, eval e X.env) :: starEach [e2] X.env := by rfl) (hpl : (backTo pos (starEach [e2] X.env)).any (·.1) = false := by rfl) : PI X (.Tuple elts kk tpos) (.Call (.Name "zip" p) [e, e2] [] pos) (tDI F (iZip ps)) := PI.imp (pi_zipA hg hm ha hs hpl) fun σ H R hw => by
  obtain ⟨ρ, τ, ds, ρ', I, e1, k⟩ := hw
  simp only [iZip, Option.bind_eq_some_iff] at e1
  obtain ⟨⟨cs, ρ1⟩, e1, e2⟩ := e1
  refine ⟨ρ, τ, cs, ρ1, I, e1, fun vs H1 hl ⟨ow, I1⟩ => ?_⟩
  split at e2
  · rename_i c1 c2 q
    have q : cs = [c1, c2] := q
    subst q
    split at e2
    · rename_i hk
      simp only [Option.bind_eq_some_iff, Option.map_eq_some_iff] at e2
      obtain ⟨xs, i1, ys, i2, e3⟩ := e2
      cases e3
      simp only [Bool.and_eq_true, Bool.or_eq_true] at hk
      obtain ⟨⟨k1, k2⟩, kl⟩ := hk
      match vs, hl with
      | [v1, v2], _ =>
        have I1 : RSo F ow σ H1 _ ([] ++ ([(v2, c2), (v1, c1)] ++ τ)) := I1
        have nt : NoV [(v2, c2), (v1, c1)] := fun t ht j => by
          simp only [List.mem_cons, List.not_mem_nil, or_false] at ht
          rcases ht with rfl | rfl
          · exact kept_nv k2 j
          · exact kept_nv k1 j
        rw [← hK]
        have q2 := I1.tmp.1
        have q1 := I1.tmp.2.1
        rcases kl with ⟨l1, l2⟩ | ⟨l1, l2⟩
        · obtain ⟨a, z1, us, r1, h1⟩ := sq_lst I1 q1 k1 i1 l1
          obtain ⟨b, z2, ws, r2, h2⟩ := sq_lst I1 q2 k2 i2 l2
          have z1 : v1 = .ref a := z1
          have z2 : v2 = .ref b := z2
          refine ⟨a, b, us, ws, by rw [z1, z2], .inl ⟨h1, h2, k _ _ H1 (walk_zipL k1 k2 z1 z2 i1 i2 l1 l2) nt ⟨ow, I1⟩⟩⟩
        · obtain ⟨a, z1, us, r1, h1⟩ := sq_tup I1 q1 k1 i1 l1
          obtain ⟨b, z2, ws, r2, h2⟩ := sq_tup I1 q2 k2 i2 l2
          have z1 : v1 = .ref a := z1
          have z2 : v2 = .ref b := z2
          refine ⟨a, b, us, ws, by rw [z1, z2], .inr ⟨h1, h2, k _ _ H1 (walk_zipT k1 k2 z1 z2 i1 i2 l1 l2) nt ⟨ow, I1⟩⟩⟩
    · cases e2
  · cases e2
theorem di_enum {p tpos : Pos} {elts : List Expr} {kk : Nat} (hK : F.K = X.K) (hg : Gl X "enumerate") (hm : X.mg "enumerate" = none) (ha : PA X [e] (tDA F ps)) (hs : starEach [e] X.env = [(false, eval e X.env)] := by rfl) : PI X (.Tuple elts kk tpos) (.Call (.Name "enumerate" p) [e] [] pos) (tDI F (iEnum ps)) := PI.imp (pi_enum hg hm ha hs) fun σ H R hw => by
  obtain ⟨ρ, τ, ds, ρ', I, e1, k⟩ := hw
  simp only [Dn.iEnum, Option.bind_eq_some_iff] at e1
  obtain ⟨⟨cs, ρ1⟩, e1, e2⟩ := e1
  refine ⟨ρ, τ, cs, ρ1, I, e1, fun vs H1 hl ⟨ow, I1⟩ => ?_⟩
  split at e2
  · rename_i c1 q
    have q : cs = [c1] := q
    subst q
    split at e2
    · rename_i hk
      simp only [Option.map_eq_some_iff] at e2
      obtain ⟨xs, i1, e3⟩ := e2
      cases e3
      simp only [Bool.and_eq_true] at hk
      obtain ⟨k1, l1⟩ := hk
      match vs, hl with
      | [v1], _ =>
        have I1 : RSo F ow σ H1 _ ((v1, c1) :: τ) := I1
        have nt : NoV [(v1, c1)] := fun t ht j => by
          simp only [List.mem_cons, List.not_mem_nil, or_false] at ht
          subst ht
          exact kept_nv k1 j
        rw [← hK]
        obtain ⟨a, z1, us, r1, h1⟩ := sq_lst I1 I1.tmp.1 k1 i1 l1
        have z1 : v1 = .ref a := z1
        refine ⟨a, us, by rw [z1], h1, k _ [(v1, c1)] H1 ?_ nt ⟨ow, I1⟩⟩
        have rd : ∀ {ow : Ow} {σ : L2.St} {H : Hp} {ρ : Dn.Env} {us τ : List (V × C)}, RSo F ow σ H ρ (us ++ ([(v1, c1)] ++ τ)) → ∃ vs, RepL F.K (F.N ow) H vs xs ∧ SqL F.K H a vs := fun {ow σ H ρ us τ} I => by
          obtain ⟨a', z, vs, r1, h1⟩ := sq_lst I (deep1 (us := us) (t := (v1, c1)) (τ := τ) I) k1 i1 l1
          have z : v1 = .ref a' := z
          rw [z1] at z; cases z
          exact ⟨vs, r1, h1⟩
        have el : (enumD 0 xs).length = xs.length := by
          have go : ∀ (xs : List D) (n : Nat), (enumD n xs).length = xs.length := by
            intro xs
            induction xs with
            | nil => intro n; rfl
            | cons x xs ih => intro n; show (enumD (n + 1) xs).length + 1 = _; rw [ih]; rfl
          exact go xs 0
        refine ⟨fun i σ H ρ us τ hi ⟨ow, I⟩ => ?_, fun i σ H ρ us τ hi ⟨ow, I⟩ => ?_, fun i σ H ρ us τ x H' hi ⟨ow, I⟩ y => ?_⟩
        · obtain ⟨ws, r1, h1⟩ := rd I
          have l1 := r1.length
          rw [el] at hi
          exact ⟨ws, ws[i]'(by omega), h1, by simp⟩
        · obtain ⟨ws, r1, h1⟩ := rd I
          have l1 := r1.length
          rw [el] at hi
          exact ⟨ws, h1, by omega⟩
        · obtain ⟨ws, r1, h1⟩ := rd I
          obtain ⟨T, x1, rfl, hT, rfl, q1⟩ := y
          obtain ⟨dx, g1, g2⟩ := r1.get (q1 ws h1)
          refine ⟨_, by rw [enum_get, g1]; rfl, ?_⟩
          rw [show 0 + i = i by omega]
          exact pair_laid I hT (.int _) g2
    · cases e2
  · cases e2
/-! ### a text walked -/
def signsD (s : Str) : List D := s.cps.toList.map fun c => .str ⟨#[c]⟩
def iStr1 (p : P1) : I1 := fun ρ => (p ρ).bind fun a => match a.1 with
  | .ro (.str s) => some (signsD s, a.2)
  | _ => none
theorem di_str {tg : Expr} {p : P1} (he : PE X e (tD F p)) : PI X tg e (tDI F (iStr1 p)) := PI.imp (pi_str he) fun σ H R hw => by
  obtain ⟨ρ, τ, ds, ρ', I, e1, k⟩ := hw
  simp only [iStr1, Option.bind_eq_some_iff] at e1
  obtain ⟨⟨c, ρ1⟩, e1, e2⟩ := e1
  refine ⟨ρ, τ, c, ρ1, I, e1, fun v H1 ⟨ow, I1⟩ => ?_⟩
  split at e2
  · rename_i s q
    have q : c = .ro (.str s) := q
    subst q
    cases e2
    have hv : v = .str s := by have := I1.tmp.1; cases this; rfl
    refine ⟨s, hv, k _ [] H1 ?_ (fun _ h => nomatch h) ⟨_, I1.pop⟩⟩
    refine ⟨fun i σ H ρ us τ hi _ => ?_, fun i σ H ρ us τ hi _ => ?_, fun i σ H ρ us τ x H' hi ⟨ow, I⟩ y => ?_⟩
    · simpa [signsD, Its] using hi
    · simpa [signsD, Its] using hi
    · obtain ⟨rfl, c, h1, rfl⟩ := y
      refine ⟨.str ⟨#[c]⟩, ?_, ow, I.push (.str _)⟩
      simp only [signsD, List.getElem?_map, Array.getElem?_toList]
      rw [h1]; rfl
  · cases e2
/-! ### methods of texts -/
def pM1 (f : List D → Option C) (po pe : P1) : P1 := fun ρ => (po ρ).bind fun a => match a.1 with
  | .ro (.str s) => (pe a.2).bind fun b => (dat b.2 b.1).bind fun y => (f [.str s, y]).map fun c => (c, b.2)
  | _ => none
theorem m1_of {r : V → List V → Hp → VK → Prop} {f : List D → Option C} {po pe : P1} (hf : FunS F.K (fun xs H Q => ∃ x ys, xs = x :: ys ∧ r x ys H Q) f) {σ : L2.St} {H : Hp} {Q : VK} (hw : tD F (pM1 f po pe) σ H Q) : tM1 r (tD F po) (tD F pe) σ H Q := by
  obtain ⟨ρ, τ, c, ρ', I, e1, k⟩ := hw
  simp only [pM1, Option.bind_eq_some_iff] at e1
  obtain ⟨⟨c1, ρ1⟩, e1, e2⟩ := e1
  split at e2
  · rename_i s q
    have q : c1 = .ro (.str s) := q
    subst q
    simp only [Option.bind_eq_some_iff, Option.map_eq_some_iff] at e2
    obtain ⟨⟨c2, ρ2⟩, e2, y, e3, c3, e4, e5⟩ := e2
    cases e5
    refine ⟨ρ, τ, _, ρ1, I, e1, fun v H1 ⟨ow, I1⟩ => ?_⟩
    have hv : v = .str s := by have := I1.tmp.1; cases this; rfl
    refine ⟨⟨s, hv⟩, ρ1, _, c2, ρ2, ⟨ow, I1⟩, e2, fun u H2 ⟨ow2, I2⟩ => ?_⟩
    obtain ⟨ow3, I3, rx⟩ := RSo.take (vs := [v, u]) (cs := [.ro (.str s), c2]) rfl I2
    obtain ⟨x, ys, e6, h⟩ := hf _ _ _ _ _ (fun w H' => Q w H') (rx [.str s, y] (dats2 rfl e3)) e4 fun v' H' g rt => by
      obtain ⟨ow4, I4, _⟩ := I3.ret g rt
      exact k v' H' ⟨ow4, I4⟩
    cases e6
    exact h
  · cases e2
def strsD : List D → Option (List Str)
  | [] => some []
  | .str s :: ds => (strsD ds).map fun r => s :: r
  | _ :: _ => none
theorem strsD_eq : ∀ {ds : List D} {ss : List Str}, strsD ds = some ss → ds = ss.map .str
  | [], _, e => by cases e; rfl
  | d :: ds, ss, e => by
    cases d with
    | str s =>
      simp only [strsD, Option.map_eq_some_iff] at e
      obtain ⟨r, e1, rfl⟩ := e
      rw [strsD_eq e1]; rfl
    | _ => cases e
def D.join : List D → Option C
  | [.str a, .lst ys] => (strsD ys).bind fun ss => if decide ((ss.map (·.length)).sum + ss.length * a.length ≤ 16777216) = true then some (.ro (.str (Txt.join a ss))) else none
  | [.str a, .tup ys] => (strsD ys).bind fun ss => if decide ((ss.map (·.length)).sum + ss.length * a.length ≤ 16777216) = true then some (.ro (.str (Txt.join a ss))) else none
  | _ => none
theorem s_join {K : PySem.W.Frag} : FunS K (fun xs H Q => ∃ x ys, xs = x :: ys ∧ ∃ a p, ∃ zs : List Str, x = .str a ∧ ys = [.ref p] ∧ (SqL K H p (zs.map V.str) ∨ SqT K H p (zs.map V.str)) ∧
      (zs.map (·.length)).sum + zs.length * a.length ≤ 16777216 ∧ Q (.str (Txt.join a zs)) H) D.join := by
  intro N H vs ds c Q r e k
  unfold D.join at e
  split at e
  · simp only [Option.bind_eq_some_iff] at e
    obtain ⟨ss, e1, e2⟩ := e
    split at e2
    · rename_i hz
      cases e2
      cases r with
      | cons r1 r =>
        cases r with
        | cons r2 r =>
          cases r
          have := r1.str; subst this
          obtain ⟨p, ws, rfl, h1, rr⟩ := r2.lst
          rw [strsD_eq e1] at rr
          have := rr.of_strs; subst this
          exact ⟨_, _, rfl, _, p, ss, rfl, rfl, .inl (SqL.of h1), of_decide_eq_true hz, ret_str k⟩
    · cases e2
  · simp only [Option.bind_eq_some_iff] at e
    obtain ⟨ss, e1, e2⟩ := e
    split at e2
    · rename_i hz
      cases e2
      cases r with
      | cons r1 r =>
        cases r with
        | cons r2 r =>
          cases r
          have := r1.str; subst this
          obtain ⟨p, ws, rfl, h1, rr⟩ := r2.tup
          rw [strsD_eq e1] at rr
          have := rr.of_strs; subst this
          exact ⟨_, _, rfl, _, p, ss, rfl, rfl, .inr h1, of_decide_eq_true hz, ret_str k⟩
    · cases e2
  · cases e
theorem de_join {o : Expr} {po pe : P1} {apos : Pos} (hK : F.K = X.K) (ho : PE X o (tD F po)) (he : PE X e (tD F pe)) (hs : starEach [e] X.env = [(false, eval e X.env)] := by rfl) (hbase : attributeBase o "join" X.env (eval o X.env) = eval o X.env := by rfl) (hline : (apos.endLine == pos.line) = true := by rfl) :
    PE X (.Call (.Attribute o "join" apos) [e] [] pos) (tD F (pM1 D.join po pe)) := PE.imp (pe_join ho he hs hbase hline) fun σ H Q hw => m1_of (by
  rw [hK]; exact s_join) hw
end
end Dn

namespace Dn
open PySem PySem.Spec PyProof.Rows L2
/-! ### truth -/
def D.truth : D → Option Bool
  | .non => some false
  | .bl b => some b
  | .int i => some (i != 0)
  | .str s => if szOk s.length = true then some ((s.length : Int) != 0) else none
  | .lst xs => some (!xs.isEmpty)
  | .tup xs => some (!xs.isEmpty)
  | .scr xs => some (!xs.isEmpty)
  | _ => none
theorem isEmpty_rep {K : PySem.W.Frag} {N : Addr → Prop} {H : Hp} {vs : List V} {ds : List D} (r : RepL K N H vs ds) : vs.isEmpty = ds.isEmpty := by cases r <;> rfl
theorem truth_s {K : PySem.W.Frag} {N : Addr → Prop} {H : Hp} {v : V} {d : D} {k : Bool} (r : RepX K N H v d) (e : D.truth d = some k) : TruV K v H k := by
  cases d with
  | non => have := r.non; subst this; cases e; rfl
  | bl b => have := r.bl; subst this; cases e; rfl
  | int b => have := r.int; subst this; cases e; rfl
  | str s =>
    have := r.str; subst this
    unfold D.truth at e
    dsimp only at e
    split at e
    · rename_i h; cases e; exact ⟨szOk_le h, rfl⟩
    · cases e
  | lst xs => obtain ⟨a, vs, rfl, h1, rr⟩ := r.lst; cases e; exact .inl ⟨vs, SqL.of h1, by rw [isEmpty_rep rr]⟩
  | tup xs => obtain ⟨a, vs, rfl, h1, rr⟩ := r.tup; cases e; exact .inr (.inl ⟨vs, h1, by rw [isEmpty_rep rr]⟩)
  | scr xs => obtain ⟨a, rfl, h1⟩ := r.scr; cases e; exact .inl ⟨_, h1.l, by cases xs <;> rfl⟩
  | _ => cases e
def qTru (p : P1) : PT1 := fun ρ => (p ρ).bind fun a => (dat a.2 a.1).bind fun d => (D.truth d).map fun k => (k, a.2)
def pOrT (pa pb : P1) : P1 := fun ρ => (pa ρ).bind fun a => (dat a.2 a.1).bind fun d => (D.truth d).bind fun k => if k = true then some a else pb a.2
def pAndT (pa pb : P1) : P1 := fun ρ => (pa ρ).bind fun a => (dat a.2 a.1).bind fun d => (D.truth d).bind fun k => if k = true then pb a.2 else some a
def pNotT (pa : P1) : P1 := fun ρ => (pa ρ).bind fun a => (dat a.2 a.1).bind fun d => (D.truth d).map fun k => (.ro (.bl (!k)), a.2)
section
variable {X : Cx} {F : Fr} {W W1 W2 : List Nat} {e a b : Expr} {es rest : List Expr} {pos p2 : Pos} {p pa pb pc : P1} {ps : PAs} {q : PT1}
theorem tr1 {ow : Ow} {σ : L2.St} {H : Hp} {ρ : Dn.Env} {τ : List (V × C)} {v : V} {c : C} {d : D} {k : Bool} (I : RSo F ow σ H ρ ((v, c) :: τ)) (e : dat ρ c = some d) (e2 : D.truth d = some k) : TruV F.K v H k := truth_s (I.x I.tmp.1 e) e2
theorem dt_tru (hK : F.K = X.K) (ha : PE X a (tD F pa)) (he : ∀ whole, isTrue a X.env whole = (do let v ← whole; standAt a.pos; holding [v] (truthy v)) := by intro _; rfl) : PT X a (tDT F (qTru pa)) := PT.imp (pt_truth ha he) fun σ H Q hw => by
  obtain ⟨ρ, τ, k, ρ', I, e1, k'⟩ := hw
  simp only [qTru, Option.bind_eq_some_iff, Option.map_eq_some_iff] at e1
  obtain ⟨⟨c1, ρ1⟩, e1, d, e2, k1, e3, e4⟩ := e1
  cases e4
  exact ⟨ρ, τ, c1, ρ1, I, e1, fun v H1 ⟨ow, I1⟩ => ⟨k, by rw [← hK]; exact tr1 I1 e2 e3, k' H1 ⟨_, I1.pop⟩⟩⟩
theorem de_orT (hK : F.K = X.K) (ha : PE X a (tD F pa)) (hb : PE X (.BoolOp .Or (b :: rest) pos) (tD F pb)) : PE X (.BoolOp .Or (a :: b :: rest) pos) (tD F (pOrT pa pb)) := PE.imp (pe_orT ha hb) fun σ H Q hw => by
  obtain ⟨ρ, τ, c, ρ', I, e1, k'⟩ := hw
  simp only [pOrT, Option.bind_eq_some_iff] at e1
  obtain ⟨⟨c1, ρ1⟩, e1, d, e2, k1, e3, e4⟩ := e1
  refine ⟨ρ, τ, c1, ρ1, I, e1, fun v H1 ⟨ow, I1⟩ => ⟨k1, by rw [← hK]; exact tr1 I1 e2 e3, ?_⟩⟩
  cases k1 with
  | true => cases e4; exact k' v H1 ⟨ow, I1⟩
  | false => exact ⟨ρ1, τ, c, ρ', ⟨_, I1.pop⟩, e4, k'⟩
theorem de_andT (hK : F.K = X.K) (ha : PE X a (tD F pa)) (hb : PE X (.BoolOp .And (b :: rest) pos) (tD F pb)) : PE X (.BoolOp .And (a :: b :: rest) pos) (tD F (pAndT pa pb)) := PE.imp (pe_andT ha hb) fun σ H Q hw => by
  obtain ⟨ρ, τ, c, ρ', I, e1, k'⟩ := hw
  simp only [pAndT, Option.bind_eq_some_iff] at e1
  obtain ⟨⟨c1, ρ1⟩, e1, d, e2, k1, e3, e4⟩ := e1
  refine ⟨ρ, τ, c1, ρ1, I, e1, fun v H1 ⟨ow, I1⟩ => ⟨k1, by rw [← hK]; exact tr1 I1 e2 e3, ?_⟩⟩
  cases k1 with
  | false => cases e4; exact k' v H1 ⟨ow, I1⟩
  | true => exact ⟨ρ1, τ, c, ρ', ⟨_, I1.pop⟩, e4, k'⟩
theorem de_notT (hK : F.K = X.K) (ha : PE X a (tD F pa)) : PE X (.UnaryOp .Not a pos) (tD F (pNotT pa)) := PE.imp (pe_notT ha) fun σ H Q hw => by
  obtain ⟨ρ, τ, c, ρ', I, e1, k'⟩ := hw
  simp only [pNotT, Option.bind_eq_some_iff, Option.map_eq_some_iff] at e1
  obtain ⟨⟨c1, ρ1⟩, e1, d, e2, k1, e3, e4⟩ := e1
  cases e4
  exact ⟨ρ, τ, c1, ρ1, I, e1, fun v H1 ⟨ow, I1⟩ => ⟨k1, by rw [← hK]; exact tr1 I1 e2 e3, k' _ H1 ⟨_, I1.pop.push (.bl _)⟩⟩⟩
/-! ### a < b < c -/
def pChain (f g : D → D → Option C) (pa pb pc : P1) : P1 := fun ρ => (pa ρ).bind fun a => (pb a.2).bind fun b => (dat b.2 a.1).bind fun x => (dat b.2 b.1).bind fun y => (f x y).bind fun c => match c with
  | .ro (.bl true) => (pc b.2).bind fun c => (dat c.2 b.1).bind fun y => (dat c.2 c.1).bind fun z => (g y z).map fun r => (r, c.2)
  | .ro (.bl false) => some (.ro (.bl false), b.2)
  | _ => none
theorem chain_of {r r' : R2} {f g : D → D → Option C} (hf : Op2S F.K r f) (hg : Op2S F.K r' g) {σ : L2.St} {H : Hp} {Q : VK} (hw : tD F (pChain f g pa pb pc) σ H Q) : tChain r r' (tD F pa) (tD F pb) (tD F pc) σ H Q := by
  obtain ⟨ρ, τ, c, ρ', I, e1, k'⟩ := hw
  simp only [pChain, Option.bind_eq_some_iff] at e1
  obtain ⟨⟨c1, ρ1⟩, e1, ⟨c2, ρ2⟩, e2, x, e3, y, e4, cc, e5, e6⟩ := e1
  refine ⟨ρ, τ, c1, ρ1, I, e1, fun v H1 I1 => ⟨ρ1, _, c2, ρ2, I1, e2, fun u H2 ⟨ow2, I2⟩ => ?_⟩⟩
  -- the first one goes, the second stays
  have hx : RepX F.K (F.N ow2) H2 v x := I2.x I2.tmp.2.1 e3
  have hy : RepX F.K (F.N ow2) H2 u y := I2.x I2.tmp.1 e4
  refine hf _ _ _ _ _ _ _ _ hx hy e5 fun w H3 g3 rt => ?_
  obtain ⟨ow3, I3, _⟩ := I2.ret g3 rt
  split at e6
  · have hw : w = .bl true := by have := I3.tmp.1; cases this; rfl
    simp only [Option.bind_eq_some_iff, Option.map_eq_some_iff] at e6
    obtain ⟨⟨c3, ρ3⟩, e6, y2, e7, z, e8, c4, e9, e10⟩ := e6
    cases e10
    refine ⟨true, hw, ?_⟩
    rw [if_pos rfl]
    refine ⟨ρ2, _, c3, ρ3, ⟨_, I3.pop⟩, e6, fun w' H4 ⟨ow4, I4⟩ => ?_⟩
    have hy2 : RepX F.K (F.N ow4) H4 u y2 := I4.x I4.tmp.2.1 e7
    have hz : RepX F.K (F.N ow4) H4 w' z := I4.x I4.tmp.1 e8
    refine hg _ _ _ _ _ _ _ _ hy2 hz e9 fun v' H' g' rt' => ?_
    obtain ⟨ow5, I5, _⟩ := I4.ret g' rt'
    exact k' v' H' (RSo.ret1 (ts := [_, _, _]) ⟨ow5, I5⟩)
  · have hw : w = .bl false := by have := I3.tmp.1; cases this; rfl
    cases e6
    refine ⟨false, hw, ?_⟩
    rw [if_neg Bool.false_ne_true]
    exact k' _ H3 ⟨_, I3.pop.pop.pop.push (.bl _)⟩
  · cases e6
theorem de_chain {op op' : CmpOp} {r r' : R2} {f g : D → D → Option C} {c : Expr} (ho : OpR X (compareOp op) r) (hf : Op2S F.K r f) (ho' : OpR X (compareOp op') r') (hg : Op2S F.K r' g) (ha : PE X a (tD F pa)) (hb : PE X b (tD F pb)) (hc : PE X c (tD F pc))
    (hm : lastMarks [op, op'] [b, c] = false := by with_unfolding_all rfl) : PE X (.Compare a [op, op'] [b, c] pos) (tD F (pChain f g pa pb pc)) := PE.imp (pe_chain ho ho' ha hb hc hm) fun _ _ _ => chain_of hf hg
theorem dt_chain {op op' : CmpOp} {r r' : R2} {f g : D → D → Option C} {c : Expr} (ho : OpR X (compareOp op) r) (hf : Op2S F.K r f) (ho' : OpR X (compareOp op') r') (hg : Op2S F.K r' g) (ha : PE X a (tD F pa)) (hb : PE X b (tD F pb)) (hc : PE X c (tD F pc))
    (hm : lastMarks [op, op'] [b, c] = false := by with_unfolding_all rfl) : PT X (.Compare a [op, op'] [b, c] pos) (tDT F (pB (pChain f g pa pb pc))) := PT.imp (pt_chain ho ho' ha hb hc hm) fun _ _ _ hw => chain_of hf hg (Q := _) (tb_of hw)
/-! ### short forms, by the generator's words -/
theorem de_int {i : Int} {j : Nat} : PE X (.Constant (.int i) j pos) (tD F (pC (.int i))) := de_c pe_int fun _ _ _ => .int i
theorem de_bl {b : Bool} {j : Nat} : PE X (.Constant (.bool b) j pos) (tD F (pC (.bl b))) := de_c pe_bl fun _ _ _ => .bl b
theorem de_non {j : Nat} : PE X (.Constant .none j pos) (tD F (pC .non)) := de_c pe_non fun _ _ _ => .non
theorem de_str {s : Str} {j : Nat} : PE X (.Constant (.str s) j pos) (tD F (pC (.str s))) := de_c pe_str fun _ _ _ => .str s
theorem de_ty {x : Str} {n : String} (hg : Gl X x) (hm : X.mg x = none) (hv : bootBuiltins x = some (.type n)) (hn : x ≠ "__name__" := by decide) (hd : (x == ("__debug__" : Str)) = false := by decide) : PE X (.Name x pos) (tD F (pC (.ty n))) := de_c (pe_bltn (v := .ty n) hg hm hv rfl hn hd) fun _ _ _ => .ty n
/-- a constant of the module: a text, an int, a bool -/
theorem de_gl {x : Str} {v : V} {u : Value} {d : D} (hg : Gl X x) (hm : X.mg x = some u) (hr : RelV v u) (h : ∀ K N H, Rep K N H v d) (hd : (x == ("__debug__" : Str)) = false := by decide) : PE X (.Name x pos) (tD F (pC d)) := de_c (pe_glob hg hm hr hd) h
theorem de_v (i : Nat) {x : Str} (hN : X.N[i]? = some x := by rfl) (hv : Vis X.env.scope x := by first | exact Or.inl rfl | exact Or.inr (Or.inl rfl) | exact Or.inr (Or.inr rfl)) (hd : (x == ("__debug__" : Str)) = false := by decide)
    (hcd : (x == ("__classdict__" : Str)) = false := by decide) : PE X (.Name x pos) (tD F (pVar i)) := de_var (pv i hN hv hd hcd)
theorem de_add (ha : PE X a (tD F pa)) (hb : PE X b (tD F pb)) (hK : F.K = X.K) : PE X (.BinOp a .Add b pos) (tD F (pOp2 D.add pa pb)) := de_op2 o_add (by rw [← hK]; exact s_add) ha hb
theorem de_sub (ha : PE X a (tD F pa)) (hb : PE X b (tD F pb)) : PE X (.BinOp a .Sub b pos) (tD F (pOp2 D.sub pa pb)) := de_op2 op_sub s_sub ha hb
theorem de_mul (ha : PE X a (tD F pa)) (hb : PE X b (tD F pb)) : PE X (.BinOp a .Mult b pos) (tD F (pOp2 D.mul pa pb)) := de_op2 op_mul s_mul ha hb
theorem de_fdiv (ha : PE X a (tD F pa)) (hb : PE X b (tD F pb)) : PE X (.BinOp a .FloorDiv b pos) (tD F (pOp2 D.fdiv pa pb)) := de_op2 op_fdivW s_fdiv ha hb
theorem de_mod (ha : PE X a (tD F pa)) (hb : PE X b (tD F pb)) : PE X (.BinOp a .Mod b pos) (tD F (pOp2 D.mod pa pb)) := de_op2 op_mod s_mod ha hb
theorem de_pow (ha : PE X a (tD F pa)) (hb : PE X b (tD F pb)) : PE X (.BinOp a .Pow b pos) (tD F (pOp2 D.pow pa pb)) := de_op2 op_pow s_pow ha hb
theorem de_neg (ha : PE X a (tD F pa)) : PE X (.UnaryOp .USub a pos) (tD F (pOp1 D.neg pa)) := de_op1 un_neg s_neg ha
theorem de_item (hK : F.K = X.K) (ha : PE X a (tD F pa)) (hb : PE X b (tD F pb)) (hs : PlainIx b := by exact fun _ _ => rfl) : PE X (.Subscript a b pos) (tD F (pOp2 D.ix pa pb)) := de_ix ix_seq (by rw [← hK]; exact s_ix) ha hb hs
theorem de_len {pp : Pos} (hK : F.K = X.K) (hg : Gl X "len") (hm : X.mg "len" = none) (ha : PA X [e] (tDA F ps)) (h1 : starEach [e] X.env = (false, eval e X.env) :: starEach [] X.env := by rfl) (h2 : (backTo pos (starEach [] X.env)).any (·.1) = false := by rfl) : PE X (.Call (.Name "len" pp) [e] [] pos) (tD F (pFun D.len ps)) :=
  PE.imp (pe_callB call_len hg hm boot_len ha (he := h1) (hpl := h2)) fun σ H Q hw => by
    rw [← hK]; exact fun_of s_len hw
theorem de_isi {pp : Pos} (hK : F.K = X.K) (hg : Gl X "isinstance") (hm : X.mg "isinstance" = none) (ha : PA X [e, a] (tDA F ps)) (h1 : starEach [e, a] X.env = (false, eval e X.env) :: starEach [a] X.env := by rfl) (h2 : (backTo pos (starEach [a] X.env)).any (·.1) = false := by rfl) : PE X (.Call (.Name "isinstance" pp) [e, a] [] pos) (tD F (pFun D.isInst ps)) :=
  PE.imp (pe_callB call_isi hg hm boot_isinstance ha (he := h1) (hpl := h2)) fun σ H Q hw => by
    rw [← hK]; exact fun_of s_isi hw
theorem de_toInt {pp : Pos} (hg : Gl X "int") (hm : X.mg "int" = none) (ha : PA X [e] (tDA F ps)) (h1 : starEach [e] X.env = (false, eval e X.env) :: starEach [] X.env := by rfl) (h2 : (backTo pos (starEach [] X.env)).any (·.1) = false := by rfl) : PE X (.Call (.Name "int" pp) [e] [] pos) (tD F (pFun D.toInt ps)) :=
  PE.imp (pe_callTy call_int1 hg hm boot_int ha (he := h1) (hpl := h2)) fun σ H Q hw => fun_of s_int hw
theorem de_toList {pp : Pos} (hK : F.K = X.K) (hg : Gl X "list") (hm : X.mg "list" = none) (ha : PA X [e] (tDA F ps)) (h1 : starEach [e] X.env = (false, eval e X.env) :: starEach [] X.env := by rfl) (h2 : (backTo pos (starEach [] X.env)).any (·.1) = false := by rfl) : PE X (.Call (.Name "list" pp) [e] [] pos) (tD F (pFun D.toList ps)) :=
  PE.imp (pe_callTy call_list_of hg hm boot_list ha (he := h1) (hpl := h2)) fun σ H Q hw => by
    rw [← hK]; exact fun_of s_list hw
theorem de_toTup {pp : Pos} (hK : F.K = X.K) (hg : Gl X "tuple") (hm : X.mg "tuple" = none) (ha : PA X [e] (tDA F ps)) (h1 : starEach [e] X.env = (false, eval e X.env) :: starEach [] X.env := by rfl) (h2 : (backTo pos (starEach [] X.env)).any (·.1) = false := by rfl) : PE X (.Call (.Name "tuple" pp) [e] [] pos) (tD F (pFun D.toTup ps)) :=
  PE.imp (pe_callTy call_tuple_of hg hm boot_tuple ha (he := h1) (hpl := h2)) fun σ H Q hw => by
    rw [← hK]; exact fun_of s_tuple hw
theorem de_in (hK : F.K = X.K) (ha : PE X a (tD F pa)) (hb : PE X b (tD F pb)) (hm : behindInMarks .In b = false := by with_unfolding_all rfl) : PE X (.Compare a [.In] [b] pos) (tD F (pOp2 D.isIn pa pb)) := de_cmp op_in_seq (by rw [← hK]; exact s_in) ha hb hm
theorem dt_in (hK : F.K = X.K) (ha : PE X a (tD F pa)) (hb : PE X b (tD F pb)) (hm : behindInMarks .In b = false := by with_unfolding_all rfl) : PT X (.Compare a [.In] [b] pos) (tDT F (pB (pOp2 D.isIn pa pb))) := dt_cmp op_in_seq (by rw [← hK]; exact s_in) ha hb hm
theorem de_nin (hK : F.K = X.K) (ha : PE X a (tD F pa)) (hb : PE X b (tD F pb)) (hm : behindInMarks .NotIn b = false := by with_unfolding_all rfl) : PE X (.Compare a [.NotIn] [b] pos) (tD F (pOp2 D.notIn pa pb)) := de_cmp op_notIn_seq (by rw [← hK]; exact s_notIn) ha hb hm
theorem dt_nin (hK : F.K = X.K) (ha : PE X a (tD F pa)) (hb : PE X b (tD F pb)) (hm : behindInMarks .NotIn b = false := by with_unfolding_all rfl) : PT X (.Compare a [.NotIn] [b] pos) (tDT F (pB (pOp2 D.notIn pa pb))) := dt_cmp op_notIn_seq (by rw [← hK]; exact s_notIn) ha hb hm
/-! ### x += e; a, b = e -/
def D.iadd : D → D → Option C
  | .int i, .int j => some (.ro (.int (i + j)))
  | .str x, .str y => if szOk (x.length + y.length) = true then some (.ro (.str (x ++ y))) else none
  | _, _ => none
theorem s_iadd {K : PySem.W.Frag} : Op2S K (fun x y H Q => rI0 (fun i j => V.int (i + j)) x y H Q ∨ ∃ i j, x = .str i ∧ y = .str j ∧ i.length + j.length ≤ sizeLine ∧ Q (.str (i ++ j)) H) D.iadd := by
  intro N H x y dx dy c Q rx ry e k
  unfold D.iadd at e
  split at e
  · cases e; exact .inl ⟨_, _, rx.int, ry.int, ret_int k⟩
  · split at e
    · rename_i hz; cases e; exact .inr ⟨_, _, rx.str, ry.str, szOk_le hz, ret_str k⟩
    · cases e
  · cases e
theorem iadd_ro : ∀ x y c, D.iadd x y = some c → ∃ d, c = .ro d := by
  intro x y c e
  unfold D.iadd at e
  split at e
  · cases e; exact ⟨_, rfl⟩
  · split at e
    · cases e; exact ⟨_, rfl⟩
    · cases e
  · cases e
theorem ds_iadd {i : Nat} {x : Str} {pos' : Pos} (hN : X.N.Nodup) (hi : X.N[i]? = some x) (hx : Loc X.env.scope x) (he : PE X e (tD F p)) (hff : X.fn x = true ∨ X.env.scope.names.lookup x = some .local := by first | exact .inl rfl | exact .inr rfl | assumption) :
    PS X (.AugAssign (.Name x pos') .Add e pos) (tDS F [i] (sAug D.iadd i p)) := ds_aug (iop_add.or iop_add_str) s_iadd iadd_ro hN hi hx he hff
theorem ds_iaddIx {j : Nat} {oe ie : Expr} {tpos : Pos} {pi : P1} (hK : F.K = X.K) (ho : PE X oe (tVar j)) (hi : PE X ie (tD F pi)) (he : PE X e (tD F p))
    (hsub : ∀ ov iv new, augStore ie ov iv new = (do holding [new, ov, iv] (setItem ov iv new); release [new, ov, iv] []; pure .next) := by intros; rfl) : PS X (.AugAssign (.Subscript oe ie tpos) .Add e pos) (tDS F [] (sAugIx D.iadd j pi p)) := ds_augIx hK (iop_add.or iop_add_str) s_iadd ho hi he hsub
theorem ds_isubIx {j : Nat} {oe ie : Expr} {tpos : Pos} {pi : P1} (hK : F.K = X.K) (ho : PE X oe (tVar j)) (hi : PE X ie (tD F pi)) (he : PE X e (tD F p))
    (hsub : ∀ ov iv new, augStore ie ov iv new = (do holding [new, ov, iv] (setItem ov iv new); release [new, ov, iv] []; pure .next) := by intros; rfl) : PS X (.AugAssign (.Subscript oe ie tpos) .Sub e pos) (tDS F [] (sAugIx D.sub j pi p)) := ds_augIx hK iop_sub s_sub ho hi he hsub
def bSeq (n : Nat) (bs : Bs) : B1 := fun d ρ => match d with
  | .tup ds => if ds.length = n then bs ds ρ else none
  | .lst ds => if ds.length = n then bs ds ρ else none
  | _ => none
theorem PG.or {tg : Expr} {g g' : TG} (h : PG X tg g) (h' : PG X tg g') : PG X tg (fun v σ H Q => g v σ H Q ∨ g' v σ H Q) := ⟨fun pins s σ H v u Q I r hw => hw.elim (h.run pins s σ H v u Q I r) (h'.run pins s σ H v u Q I r)⟩
theorem dg_seq {k : Nat} {n : Nat} {bs : Bs} (hK : F.K = X.K) (hc : X.calm = true) (h : PGs X es (tDGs F W bs))
    (hn : (assignEach es X.env).length = n := by rfl) (hst : (assignEach es X.env).findIdx? (·.1) = none := by rfl) : PG X (.Tuple es k pos) (tDG F W (bSeq n bs)) := PG.imp (PG.or (pg_tup hc h hn hst) (pg_unl hc h hn hst)) fun v σ H Q hw => by
  obtain ⟨ρ, τ, d, ρ', ⟨ow, I⟩, e1, k⟩ := hw
  have r' := RepC.pop I (fun _ z => by cases z)
  dsimp only [bSeq] at e1
  split at e1
  · split at e1
    · rename_i hl
      obtain ⟨a', vs', e', h1', r1'⟩ := RepX.tup r'.x
      exact .inl ⟨a', vs', e', by rw [← hK]; exact h1', by rw [r1'.length]; exact hl, ρ, τ, _, ρ', ⟨_, I.pop, r1'⟩, e1, k⟩
    · cases e1
  · split at e1
    · rename_i hl
      obtain ⟨a', vs', e', h1', r1'⟩ := RepX.lst r'.x
      exact .inr ⟨a', vs', e', SqL.of h1', by rw [r1'.length]; exact hl, ρ, τ, _, ρ', ⟨_, I.pop, r1'⟩, e1, k⟩
    · cases e1
  · cases e1
def sAsg (p : P1) (b : B1) : S1 := fun ρ => (p ρ).bind fun a => (cap a.1 a.2).bind fun c => (b c.1.d c.2).map .nx
theorem ds_asg {tg : Expr} {bb : B1} (he : PE X e (tD F p)) (hg : PG X tg (tDG F W bb)) (hs : swapsWithSole [tg] e pos.line X.env = pure false := by rfl) (hw : swappedStores [tg] e X.env = pure none := by rfl)
    (h1 : (assignEach [tg] X.env).map (·.2) = [assign tg X.env] := by rfl) : PS X (.Assign [tg] e pos) (tDS F W (sAsg p bb)) := PS.imp (ps_asg he hg hs hw h1) fun D σ H hw => by
  obtain ⟨ρ, τ, o, I, nv, e1, k⟩ := hw
  simp only [sAsg, Option.bind_eq_some_iff, Option.map_eq_some_iff] at e1
  obtain ⟨⟨c, ρ1⟩, e1, ⟨c2, ρ2⟩, e2, ρ3, e3, e4⟩ := e1
  cases e4
  refine ⟨ρ, τ, c, ρ1, I, e1, fun v H1 ⟨ow, I1⟩ => ?_⟩
  obtain ⟨⟨ow2, I2⟩, nv2⟩ := I1.cap e2
  exact ⟨ρ2, τ, c2.d, ρ3, I2.freeze nv2, e3, fun σ' _ z I3 => k σ' H1 z I3⟩
/-! ### a def of the module, as callers have it -/
structure Cal (P : Program) (w : World) (K : PySem.W.Frag) (mg : Str → Option Value) (base : Heap) (x : Str) (k : Nat) (pss : List Str) (sp : Sp) : Prop where
  ex : ∃ (f : Addr) (fd : FuncData), mg x = some (.ref f) ∧ PySem.W.keepIn K (.ref f) = true ∧ Binds K fd pss [] ∧ FnOk P w K mg base CX0 k f fd pss sp
variable {kk k2 : Nat} {pss : List Str} {x : Str} {pp : Pos}
theorem de_do {g : List D → Option C} (hK : F.K = X.K) (c : Cal X.prog X.w X.K X.mg X.base x kk pss (Sp0 X.K g)) (hr : Room k2 X.A) (hk : kk ≤ k2) (hg : Gl X x)
    (ha : PA X (e :: es) (tDA F ps)) (hdb : (x == ("__debug__" : Str)) = false := by decide) (he : starEach (e :: es) X.env = (false, eval e X.env) :: starEach es X.env := by rfl) (hpl : (backTo pos (starEach es X.env)).any (·.1) = false := by rfl) :
    PE X (.Call (.Name x pp) (e :: es) [] pos) (tD F (pCall g ps)) := by
  obtain ⟨f, fd, h1, h2, h3, h4⟩ := c.ex
  exact de_call hK h4 (hr.mono hk) hg h1 h2 h3 ha hdb he hpl
theorem de_doIo {g : D → List D → Option (C × D)} {j : Nat} (hK : F.K = X.K) (c : Cal X.prog X.w X.K X.mg X.base x kk pss (SpIo X.K g)) (hr : Room k2 X.A) (hk : kk ≤ k2) (hg : Gl X x)
    (hj : PE X e (tVar j)) (ha : PA X es (tDA F ps)) (hdb : (x == ("__debug__" : Str)) = false := by decide) (he : starEach (e :: es) X.env = (false, eval e X.env) :: starEach es X.env := by rfl) (hpl : (backTo pos (starEach es X.env)).any (·.1) = false := by rfl) :
    PE X (.Call (.Name x pp) (e :: es) [] pos) (tD F (pCallIo g j ps)) := by
  obtain ⟨f, fd, h1, h2, h3, h4⟩ := c.ex
  exact de_callIo hK h4 (hr.mono hk) hg h1 h2 h3 hj ha hdb he hpl
end
end Dn

namespace Dn
open PySem PySem.Spec PyProof.Rows L2
/-- a law's end over a head by facts, the script's bits told -/
theorem walk_ofEB {l : PySem.W.OpenLaw} {n k : Nat} {q : Program} {loose : List Str} {XP : (Str → Option Value) → Heap → Prop} {YP : World → Heap → Prop} {d : DefRec} {CX : CXT} {x : Str}
    (hn : l.most = some n) (hn2 : n ≤ sizeLine) (hdf : d.params.defaults = []) (hr : Room k callerA)
    (F : ∀ (w : World) (mg : Str → Option Value) (fa : Addr) (h : Heap), YP w h → h.Ns mainGlobals mg → mg d.name = some (.ref fa) →
      ∃ (K : PySem.W.Frag) (fd : FuncData) (sp : Sp), K.In h ∧ (∀ (s : Shared) (u : Value), BindsTo s fd ⟨[u], []⟩ [(x, u)]) ∧
        (∀ (H : Hp) (a : Addr) (ns : List Int), ns.length ≤ n → (∀ z ∈ ns, Builtin.Int.intBits z ≤ 1048576) → Only H → SqL K H a (ns.map V.int) → sp [.ref a] H (fun v _ => v = .bl true) fun _ _ _ => False) ∧
        ∀ base : Heap, K.In base → base.Ns mainGlobals mg → FnOk l.prog w K mg base CX k fa fd [x] sp)
    (hCX : ∀ (H : Hp) (s : Shared) (e : Value) (s' : Shared), CX [] H s (fun _ _ _ => False) e s' → False) :
    PySem.W.WalkO q loose XP YP l.row.toRowW d [] (fun f vs => PySem.call f vs) := by
  refine Att.attach_callB hn hdf fun w s₀ s₁ mg mb fa o pm cd doc a vs ns G Y ho hd hcd hmg hobj hints hlen hbits hg => ?_
  obtain ⟨K, fd, sp, KX, hb, hsp, hF⟩ := F w mg fa _ Y G.T.g hmg
  exact law_call KX G.T.g G.T.b G.T.builtins G.T.nolimit hg hobj hints (Nat.le_trans hlen hn2) hr hF hb (fun H hO hS => hsp H a ns hlen hbits hO hS) fun H e s' => hCX H s₁ e s'
theorem sp_law {K : PySem.W.Frag} {f : List D → Option C} {H : Hp} {a : Addr} {ns : List Int} (hO : Only H) (hS : SqL K H a (ns.map V.int)) (h : f [.scr ns] = some (.ro (.bl true))) : Sp0 K f [.ref a] H (fun v _ => v = .bl true) fun _ _ _ => False := by
  have hF : SqF K H a (ns.map V.int) := by
    rcases hS with (h1 | h1) | h1
    · rcases hO a with z | ⟨o, xs, z⟩
      · rw [z] at h1; cases h1
      · rw [z] at h1; cases h1
    · exact .inl h1
    · exact .inr h1
  refine ⟨fun _ => True, [.scr ns], _, .cons (.scr hF) .nil, h, fun v H' _ r => ?_⟩
  cases r; rfl
theorem cal {P : Program} {w : World} {K : PySem.W.Frag} {mg : Str → Option Value} {base : Heap} {x : Str} {k : Nat} {pss : List Str} {sp : Sp} {f : Addr} {fd : FuncData} (h1 : mg x = some (.ref f)) (h2 : PySem.W.keepIn K (.ref f) = true) (h3 : Binds K fd pss []) (h4 : FnOk P w K mg base CX0 k f fd pss sp) : Cal P w K mg base x k pss sp := ⟨f, fd, h1, h2, h3, h4⟩
end Dn

/-! The mirrors run by simp: cells are known, what is in them need not be. -/
namespace Dn
open PySem L2
/-- a text, by its codes -/
def tx (l : List Nat) : Str := ⟨l.toArray⟩
theorem tx_inj {a b : List Nat} : tx a = tx b ↔ a = b := ⟨fun h => by have := congrArg (fun s : Str => s.cps.toList) h; simpa [tx] using this, fun h => by rw [h]⟩
theorem tx_self (s : Str) : tx s.cps.toList = s := by cases s; rfl
theorem tx_app (a b : List Nat) : tx a ++ tx b = tx (a ++ b) := by show Str.append _ _ = _; unfold Str.append tx; simp
theorem tx_len (a : List Nat) : (tx a).length = a.length := by simp [tx, Str.length]
theorem tx_cps (a : List Nat) : (tx a).cps = a.toArray := rfl
section
variable {ρ ρ1 : Env} {d x y : D} {c : C} {i n : Nat} {b : Bool} {p pa pb : P1} {ps : PAs} {q q1 q2 : PT1} {s t : S1}
def rdC (i : Nat) (ρ : Env) : Option (Option C) → Option (C × Env)
  | some (some (.ro d)) => some (.ro d, ρ)
  | some (some (.own _)) => some (.view i, ρ)
  | some (some (.io _)) => some (.view i, ρ)
  | _ => none
@[simp] theorem v_var : pVar i ρ = rdC i ρ ρ[i]? := by
  unfold pVar rdC; rfl
@[simp] theorem v_rd1 : rdC i ρ (some (some (.ro d))) = some (.ro d, ρ) := rfl
@[simp] theorem v_rd2 : rdC i ρ (some (some (.own d))) = some (.view i, ρ) := rfl
@[simp] theorem v_rd3 : rdC i ρ (some (some (.io d))) = some (.view i, ρ) := rfl
@[simp] theorem v_c : pC d ρ = some (.ro d, ρ) := rfl
@[simp] theorem v_dat1 : dat ρ (.ro d) = some d := rfl
@[simp] theorem v_dat2 : dat ρ (.own d) = some d := rfl
@[simp] theorem v_dat3 : dat ρ (.io d) = some d := rfl
def datC : Option (Option C) → Option D
  | some (some (.own d)) => some d
  | some (some (.io d)) => some d
  | _ => none
@[simp] theorem v_dat4 : dat ρ (.view i) = datC ρ[i]? := by unfold dat datC; rfl
@[simp] theorem v_datC1 : datC (some (some (.own d))) = some d := rfl
@[simp] theorem v_datC2 : datC (some (some (.io d))) = some d := rfl
@[simp] theorem v_dats0 : dats ρ [] = some [] := rfl
@[simp] theorem v_dats1 {cs : List C} : dats ρ (c :: cs) = (dat ρ c).bind fun d => (dats ρ cs).map fun ds => d :: ds := by
  show (match dat ρ c, dats ρ cs with | some d, some ds => some (d :: ds) | _, _ => none) = _
  cases dat ρ c <;> cases dats ρ cs <;> rfl
@[simp] theorem v_op2 {f : D → D → Option C} : pOp2 f pa pb ρ = (pa ρ).bind fun a => (pb a.2).bind fun b => (dat b.2 a.1).bind fun x => (dat b.2 b.1).bind fun y => (f x y).map fun c => (c, b.2) := rfl
@[simp] theorem v_op1 {f : D → Option C} : pOp1 f pa ρ = (pa ρ).bind fun a => (dat a.2 a.1).bind fun x => (f x).map fun c => (c, a.2) := rfl
@[simp] theorem v_nil : pNil ρ = some ([], ρ) := rfl
@[simp] theorem v_cons : pCons p ps ρ = (p ρ).bind fun a => (ps a.2).map fun b => (a.1 :: b.1, b.2) := rfl
@[simp] theorem v_fun {f : List D → Option C} : pFun f ps ρ = (ps ρ).bind fun a => (dats a.2 a.1).bind fun ds => (f ds).map fun c => (c, a.2) := rfl
def blC (ρ : Env) : C → Option (Bool × Env)
  | .ro (.bl b) => some (b, ρ)
  | _ => none
@[simp] theorem v_B : pB p ρ = (p ρ).bind fun a => blC a.2 a.1 := by
  show ((p ρ).bind fun a => match a.1 with | .ro (.bl b) => some (b, a.2) | _ => none) = _
  congr 1
@[simp] theorem v_blC : blC ρ (.ro (.bl b)) = some (b, ρ) := rfl
@[simp] theorem v_qAnd : qAnd q1 q2 ρ = (q1 ρ).bind fun a => if a.1 = true then q2 a.2 else some (false, a.2) := rfl
@[simp] theorem v_qOr : qOr q1 q2 ρ = (q1 ρ).bind fun a => if a.1 = true then some (true, a.2) else q2 a.2 := rfl
@[simp] theorem v_qNot : qNot q ρ = (q ρ).map fun a => (!a.1, a.2) := rfl
@[simp] theorem v_qYes : qYes ρ = some (true, ρ) := rfl
@[simp] theorem v_pIf : pIf q pa pb ρ = (q ρ).bind fun t => if t.1 = true then pa t.2 else pb t.2 := rfl
@[simp] theorem v_tru : qTru p ρ = (p ρ).bind fun a => (dat a.2 a.1).bind fun d => (D.truth d).map fun k => (k, a.2) := rfl
@[simp] theorem v_orT : pOrT pa pb ρ = (pa ρ).bind fun a => (dat a.2 a.1).bind fun d => (D.truth d).bind fun k => if k = true then some a else pb a.2 := rfl
@[simp] theorem v_andT : pAndT pa pb ρ = (pa ρ).bind fun a => (dat a.2 a.1).bind fun d => (D.truth d).bind fun k => if k = true then pb a.2 else some a := rfl
@[simp] theorem v_notT : pNotT pa ρ = (pa ρ).bind fun a => (dat a.2 a.1).bind fun d => (D.truth d).map fun k => (.ro (.bl (!k)), a.2) := rfl
@[simp] theorem v_cap1 : cap (.ro d) ρ = some (.ro d, ρ) := rfl
@[simp] theorem v_cap2 : cap (.own d) ρ = some (.own d, ρ) := rfl
def capC (i : Nat) (ρ : Env) : Option (Option C) → Option (C × Env)
  | some (some (.own d)) => some (.ro d, ρ.set i (some (.ro d)))
  | _ => none
@[simp] theorem v_cap3 : cap (.view i) ρ = capC i ρ ρ[i]? := by unfold cap capC; rfl
@[simp] theorem v_capC : capC i ρ (some (some (.own d))) = some (.ro d, ρ.set i (some (.ro d))) := rfl
@[simp] theorem v_mov1 : mov (.ro d) ρ = some (.ro d, ρ) := rfl
@[simp] theorem v_mov2 : mov (.own d) ρ = some (.own d, ρ) := rfl
def movC (i : Nat) (ρ : Env) : Option (Option C) → Option (C × Env)
  | some (some (.own d)) => some (.own d, ρ.set i none)
  | _ => none
@[simp] theorem v_mov3 : mov (.view i) ρ = movC i ρ ρ[i]? := by unfold mov movC; rfl
@[simp] theorem v_movC : movC i ρ (some (some (.own d))) = some (.own d, ρ.set i none) := rfl
@[simp] theorem v_pCap : pCap p ρ = (p ρ).bind fun a => cap a.1 a.2 := rfl
/-! statements -/
def sqC (t : S1) : Out → Option Out
  | .nx ρ1 => t ρ1
  | .rt c ρ1 => some (.rt c ρ1)
  | .bk ρ1 => some (.bk ρ1)
  | .ct ρ1 => some (.ct ρ1)
@[simp] theorem v_sNil : sNil ρ = some (.nx ρ) := rfl
@[simp] theorem v_sSeq : sSeq s t ρ = (s ρ).bind (sqC t) := by
  show ((s ρ).bind fun o => match o with | .nx ρ1 => t ρ1 | o => some o) = _
  congr 1; funext o; cases o <;> rfl
@[simp] theorem v_sqn : sqC t (.nx ρ) = t ρ := rfl
@[simp] theorem v_sqr : sqC t (.rt c ρ) = some (.rt c ρ) := rfl
@[simp] theorem v_sqb : sqC t (.bk ρ) = some (.bk ρ) := rfl
@[simp] theorem v_sqc : sqC t (.ct ρ) = some (.ct ρ) := rfl
@[simp] theorem v_sIf : sIf q s t ρ = (q ρ).bind fun b => if b.1 = true then s b.2 else t b.2 := rfl
@[simp] theorem v_sRet : sRet p ρ = (p ρ).bind fun a => (mov a.1 a.2).map fun b => .rt b.1 b.2 := rfl
@[simp] theorem v_sRetN : sRetN ρ = some (.rt (.ro .non) ρ) := rfl
@[simp] theorem v_sBrk : sBrk ρ = some (.bk ρ) := rfl
@[simp] theorem v_sCnt : sCnt ρ = some (.ct ρ) := rfl
@[simp] theorem v_sExpr : sExpr p ρ = (p ρ).map fun a => .nx a.2 := rfl
@[simp] theorem v_setE : setE i c ρ = if i < ρ.length then some (ρ.set i (some c)) else none := rfl
@[simp] theorem v_sSet : sSet i p ρ = (p ρ).bind fun a => (cap a.1 a.2).bind fun b => (setE i b.1 b.2).map .nx := rfl
@[simp] theorem v_bName : bName i d ρ = setE i (.ro d) ρ := rfl
@[simp] theorem v_bNil : bNil [] ρ = some ρ := rfl
@[simp] theorem v_bCons {bb : B1} {bs : Bs} {ds : List D} : bCons bb bs (d :: ds) ρ = (bb d ρ).bind fun ρ1 => bs ds ρ1 := rfl
@[simp] theorem v_bSeqT {bs : Bs} {ds : List D} : bSeq n bs (.tup ds) ρ = if ds.length = n then bs ds ρ else none := rfl
@[simp] theorem v_bSeqL {bs : Bs} {ds : List D} : bSeq n bs (.lst ds) ρ = if ds.length = n then bs ds ρ else none := rfl
@[simp] theorem v_iSeq : iSeq p ρ = (p ρ).bind fun a => (cap a.1 a.2).bind fun b => (D.items b.1.d).map fun ds => (ds, b.2) := rfl
@[simp] theorem v_d1 : (C.ro d).d = d := rfl
@[simp] theorem v_d2 : (C.own d).d = d := rfl
@[simp] theorem v_itL {ds : List D} : D.items (.lst ds) = some ds := rfl
@[simp] theorem v_itT {ds : List D} : D.items (.tup ds) = some ds := rfl
def rgC (ρ : Env) : Option (List D) → Option (List D × Env)
  | some [.int n] => if smallI n = true then some (rangeD 0 n.toNat, ρ) else none
  | some [.int m, .int n] => if (smallI m && smallI n) = true then some (rangeD m (n - m).toNat, ρ) else none
  | _ => none
@[simp] theorem v_range1 {e : P1} : iRange1 (pCons e pNil) ρ = (e ρ).bind fun a => (dat a.2 a.1).bind fun x => rgC a.2 (some [x]) := by
  unfold iRange1
  cases h : e ρ with
  | none => simp [h]
  | some a =>
    cases hd : dat a.2 a.1 with
    | none => simp [h, hd]
    | some x => simp [h, hd]; cases x <;> rfl
@[simp] theorem v_range2 {e1 e2 : P1} : iRange2 (pCons e1 (pCons e2 pNil)) ρ = (e1 ρ).bind fun a => (e2 a.2).bind fun b => (dat b.2 a.1).bind fun x => (dat b.2 b.1).bind fun y => rgC b.2 (some [x, y]) := by
  unfold iRange2
  cases h : e1 ρ with
  | none => simp [h]
  | some a =>
    cases h2 : e2 a.2 with
    | none => simp [h, h2]
    | some b =>
      cases hd : dat b.2 a.1 with
      | none => simp [h, h2, hd]
      | some x =>
        cases hd2 : dat b.2 b.1 with
        | none => simp [h, h2, hd, hd2]
        | some y => simp [h, h2, hd, hd2]; cases x <;> cases y <;> simp [rgC]
@[simp] theorem v_rg1 {k : Int} : rgC ρ (some [.int k]) = if smallI k = true then some (rangeD 0 k.toNat, ρ) else none := id rfl
@[simp] theorem v_rg2 {j k : Int} : rgC ρ (some [.int j, .int k]) = if (smallI j && smallI k) = true then some (rangeD j (k - j).toNat, ρ) else none := id rfl
@[simp] theorem v_for {it : I1} {bb : B1} : sFor it bb s ρ = (it ρ).bind fun a => loopL bb s a.1 a.2 := rfl
@[simp] theorem v_asg {bb : B1} : sAsg p bb ρ = (p ρ).bind fun a => (cap a.1 a.2).bind fun c => (bb c.1.d c.2).map .nx := rfl
@[simp] theorem v_kept1 : (C.ro d).kept = true := rfl
@[simp] theorem v_kept2 : (C.own d).kept = true := rfl
@[simp] theorem v_keptL0 : keptL [] = true := rfl
@[simp] theorem v_keptL {cs : List C} : keptL (c :: cs) = (c.kept && keptL cs) := rfl
@[simp] theorem v_tup : pTup ps ρ = (ps ρ).bind fun a => if (keptL a.1 && szOk a.1.length) = true then some (.ro (.tup (a.1.map C.d)), a.2) else none := id rfl
@[simp] theorem v_lst : pLst ps ρ = (ps ρ).bind fun a => if (keptL a.1 && szOk a.1.length) = true then some (.own (.lst (a.1.map C.d)), a.2) else none := id rfl
@[simp] theorem v_oNone : oNone ρ = some (none, ρ) := rfl
def oC (ρ : Env) : C → Option (Option Int × Env)
  | .ro (.int i) => some (some i, ρ)
  | _ => none
@[simp] theorem v_oSome : oSome p ρ = (p ρ).bind fun a => oC a.2 a.1 := by
  show ((p ρ).bind fun a => match a.1 with | .ro (.int i) => some (some i, a.2) | _ => none) = _
  congr 1
@[simp] theorem v_oC {k : Int} : oC ρ (.ro (.int k)) = some (some k, ρ) := rfl
@[simp] theorem v_sl {lo hi : PO1} : pSl p lo hi ρ = (p ρ).bind fun a => (lo a.2).bind fun l => (hi l.2).bind fun h => (dat h.2 a.1).bind fun d => (D.slice d l.1 h.1).map fun c => (c, h.2) := rfl
@[simp] theorem v_call {f : List D → Option C} : pCall f ps ρ = (ps ρ).bind fun a => (dats a.2 a.1).bind fun ds => (f ds).bind fun c => if (keptL a.1 || c.clean) = true then some (c, a.2) else none := rfl
def ioC : Option (Option C) → Option (Bool × D)
  | some (some (.own d)) => some (false, d)
  | some (some (.io d)) => some (true, d)
  | _ => none
@[simp] theorem v_ioC1 : ioC (some (some (.own d))) = some (false, d) := rfl
@[simp] theorem v_ioC2 : ioC (some (some (.io d))) = some (true, d) := rfl
@[simp] theorem v_ioData : ioData ρ i = ioC ρ[i]? := by
  unfold ioData ioC; rfl
@[simp] theorem v_ioCell1 : ioCell true d = .io d := rfl
@[simp] theorem v_ioCell2 : ioCell false d = .own d := rfl
@[simp] theorem v_callIo {f : D → List D → Option (C × D)} : pCallIo f i ps ρ = (ioData ρ i).bind fun _ => (ps ρ).bind fun a => if keptL a.1 = true then (ioData a.2 i).bind fun d => (f d.2 (a.1.map C.d)).map fun r => (r.1, a.2.set i (some (ioCell d.1 r.2))) else none := rfl
def mutC (op : List D → List D → Option (List D × D)) (j : Nat) (ps : PAs) (ρ : Env) : Option (Bool × D) → Option (C × Env)
  | some (_, .lst _) => pCallIo (liftL op) j ps ρ
  | _ => none
@[simp] theorem v_mut {op : List D → List D → Option (List D × D)} : pMutL op i ps ρ = mutC op i ps ρ (ioData ρ i) := by
  unfold pMutL mutC; rfl
@[simp] theorem v_mutC {op : List D → List D → Option (List D × D)} {l : List D} : mutC op i ps ρ (some (b, .lst l)) = pCallIo (liftL op) i ps ρ := rfl
@[simp] theorem v_liftL {op : List D → List D → Option (List D × D)} {l ds : List D} : liftL op (.lst l) ds = (op l ds).map fun r => (.ro r.2, .lst r.1) := rfl
@[simp] theorem v_append {l : List D} : opAppend l [y] = if decide (l.length < sizeLine) = true then some (l ++ [y], .non) else none := id rfl
@[simp] theorem v_pop {l : List D} : opPop l [] = (l[l.length - 1]?).map fun y => (l.dropLast, y) := rfl
def siC (b : D) (ρ : Env) (j : Nat) (d : Bool × D) (i : C) : Option Out := match i, d.2 with
  | .ro (.int k), .lst l => (ixN l.length k).map fun m => .nx (ρ.set j (some (ioCell d.1 (.lst (l.set m b)))))
  | _, _ => none
@[simp] theorem v_setIx {pi : P1} : sSetIx i p pi ρ = (p ρ).bind fun a => (cap a.1 a.2).bind fun b => (ioData b.2 i).bind fun _ => (pi b.2).bind fun k => (ioData k.2 i).bind fun d => siC b.1.d k.2 i d k.1 := by
  unfold sSetIx siC; rfl
@[simp] theorem v_siC {k : Int} {l : List D} {bb : Bool} : siC d ρ i (bb, .lst l) (.ro (.int k)) = (ixN l.length k).map fun m => .nx (ρ.set i (some (ioCell bb (.lst (l.set m d))))) := rfl
def auC2 (ρ : Env) (j : Nat) (k : Int) (c : C) (d2 : Bool × D) : Option Out := match c, d2.2 with
  | .ro z, .lst l2 => (ixN l2.length k).map fun m => .nx (ρ.set j (some (ioCell d2.1 (.lst (l2.set m z)))))
  | _, _ => none
@[simp] theorem v_auC2 {k : Int} {l : List D} {bb : Bool} : auC2 ρ i k (.ro d) (bb, .lst l) = (ixN l.length k).map fun m => .nx (ρ.set i (some (ioCell bb (.lst (l.set m d))))) := rfl
def auC (f : D → D → Option C) (p : P1) (ρ : Env) (j : Nat) (i : C) (d : D) : Option Out := match i, d with
  | .ro (.int k), .lst l => (atI l k).bind fun x => (p ρ).bind fun b => (dat b.2 b.1).bind fun y => (f x y).bind fun c => (ioData b.2 j).bind fun d2 => auC2 b.2 j k c d2
  | _, _ => none
@[simp] theorem v_auC {f : D → D → Option C} {k : Int} {l : List D} : auC f p ρ i (.ro (.int k)) (.lst l) = (atI l k).bind fun x => (p ρ).bind fun b => (dat b.2 b.1).bind fun y => (f x y).bind fun c => (ioData b.2 i).bind fun d2 => auC2 b.2 i k c d2 := rfl
@[simp] theorem v_augIx {f : D → D → Option C} {pi : P1} : sAugIx f i pi p ρ = (ioData ρ i).bind fun _ => (pi ρ).bind fun k => (ioData k.2 i).bind fun d => auC f p k.2 i k.1 d.2 := by
  unfold sAugIx auC auC2; rfl
def agC (f : D → D → Option C) (i : Nat) (p : P1) (ρ : Env) : Option (Option C) → Option Out
  | some (some (.ro x)) => (p ρ).bind fun b => (dat b.2 b.1).bind fun y => (f x y).bind fun c => (setE i c b.2).map .nx
  | _ => none
@[simp] theorem v_aug {f : D → D → Option C} : sAug f i p ρ = agC f i p ρ ρ[i]? := by unfold sAug agC; rfl
@[simp] theorem v_agC {f : D → D → Option C} : agC f i p ρ (some (some (.ro x))) = (p ρ).bind fun b => (dat b.2 b.1).bind fun y => (f x y).bind fun c => (setE i c b.2).map .nx := rfl
@[simp] theorem v_pLc {it : I1} {vs : List Nat} {bb : B1} : pLc it vs bb q p ρ = (it ρ).bind fun a => if szOk a.1.length = true then (loopC vs bb q p a.1 (forget vs a.2)).map fun r => (.own (.lst r.1), r.2) else none := rfl
@[simp] theorem v_forget0 : forget [] ρ = ρ := rfl
@[simp] theorem v_forget {vs : List Nat} : forget (i :: vs) ρ = forget vs (ρ.set i none) := rfl
@[simp] theorem v_zip {e1 e2 : P1} : iZip (pCons e1 (pCons e2 pNil)) ρ = (e1 ρ).bind fun a => (e2 a.2).bind fun b => if (a.1.kept && b.1.kept && (a.1.d.isLst && b.1.d.isLst || a.1.d.isTup && b.1.d.isTup)) = true then (D.items a.1.d).bind fun xs => (D.items b.1.d).map fun ys => (zipD xs ys, b.2) else none := by
  unfold iZip
  cases h : e1 ρ with
  | none => simp [h]
  | some a =>
    cases h2 : e2 a.2 with
    | none => simp [h, h2]
    | some b => simp [h, h2]
@[simp] theorem v_isL {l : List D} : (D.lst l).isLst = true := rfl
def m1C (f : List D → Option C) (x : D) (r : C × Env) : Option (C × Env) := (dat r.2 r.1).bind fun y => (f [x, y]).map fun c => (c, r.2)
/-! operations -/
@[simp] theorem o_addI {i j : Int} : D.add (.int i) (.int j) = some (.ro (.int (i + j))) := rfl
@[simp] theorem o_addS {i j : Str} : D.add (.str i) (.str j) = if szOk (i.length + j.length) = true then some (.ro (.str (i ++ j))) else none := id rfl
@[simp] theorem o_addL {i j : List D} : D.add (.lst i) (.lst j) = if szOk (i.length + j.length) = true then some (.own (.lst (i ++ j))) else none := id rfl
@[simp] theorem o_addT {i j : List D} : D.add (.tup i) (.tup j) = if szOk (i.length + j.length) = true then some (.ro (.tup (i ++ j))) else none := id rfl
@[simp] theorem o_iaddI {i j : Int} : D.iadd (.int i) (.int j) = some (.ro (.int (i + j))) := rfl
@[simp] theorem o_iaddS {i j : Str} : D.iadd (.str i) (.str j) = if szOk (i.length + j.length) = true then some (.ro (.str (i ++ j))) else none := id rfl
@[simp] theorem o_sub {i j : Int} : D.sub (.int i) (.int j) = some (.ro (.int (i - j))) := rfl
@[simp] theorem o_mul {i j : Int} : D.mul (.int i) (.int j) = if (decide (i.natAbs < 2 ^ 64) || decide (j.natAbs < 2 ^ 64)) = true then some (.ro (.int (i * j))) else none := id rfl
@[simp] theorem o_fdiv {i j : Int} : D.fdiv (.int i) (.int j) = if (decide (0 < j) && decide (j.natAbs < 2 ^ 64)) = true then some (.ro (.int (i / j))) else none := id rfl
@[simp] theorem o_mod {i j : Int} : D.mod (.int i) (.int j) = if decide (0 < j) = true then some (.ro (.int (i % j))) else none := rfl
@[simp] theorem o_pow {i j : Int} : D.pow (.int i) (.int j) = if (decide (0 ≤ j) && decide (j ≤ 1000) && decide (0 ≤ i) && decide (i.natAbs < 2 ^ 64)) = true then some (.ro (.int (i ^ j.toNat))) else none := id rfl
@[simp] theorem o_neg {i : Int} : D.neg (.int i) = some (.ro (.int (-i))) := rfl
@[simp] theorem o_eq : D.eq x y = (D.eqB x y).map fun b => .ro (.bl b) := rfl
@[simp] theorem o_ne : D.ne x y = (D.eqB x y).map fun b => .ro (.bl (!b)) := rfl
@[simp] theorem o_eqI {i j : Int} : D.eqB (.int i) (.int j) = some (decide (i = j)) := by simp [D.eqB]
@[simp] theorem o_eqS {i j : Str} : D.eqB (.str i) (.str j) = some (decide (i = j)) := by simp [D.eqB]
@[simp] theorem o_eqB {i j : Bool} : D.eqB (.bl i) (.bl j) = some (decide (i = j)) := by simp [D.eqB]
@[simp] theorem o_ltI {i j : Int} : D.lt (.int i) (.int j) = some (.ro (.bl (decide (i < j)))) := rfl
@[simp] theorem o_ltS {i j : Str} : D.lt (.str i) (.str j) = some (.ro (.bl (decide (i.cps.toList < j.cps.toList)))) := rfl
@[simp] theorem o_le {i j : Int} : D.le (.int i) (.int j) = some (.ro (.bl (decide (i ≤ j)))) := rfl
@[simp] theorem o_gt {i j : Int} : D.gt (.int i) (.int j) = some (.ro (.bl (decide (j < i)))) := rfl
@[simp] theorem o_ge {i j : Int} : D.ge (.int i) (.int j) = some (.ro (.bl (decide (j ≤ i)))) := rfl
@[simp] theorem o_isNone : D.isNone x .non = some (.ro (.bl x.isN)) := rfl
@[simp] theorem o_isNotNone : D.isNotNone x .non = some (.ro (.bl (!x.isN))) := rfl
@[simp] theorem o_ixL {l : List D} {i : Int} : D.ix (.lst l) (.int i) = (atI l i).map .ro := rfl
@[simp] theorem o_ixT {l : List D} {i : Int} : D.ix (.tup l) (.int i) = (atI l i).map .ro := rfl
@[simp] theorem o_ixS {z : Str} {i : Int} : D.ix (.str z) (.int i) = if szOk z.length = true then (atI z.cps.toList i).map fun c => .ro (.str ⟨#[c]⟩) else none := id rfl
@[simp] theorem o_lenL {l : List D} : D.len [.lst l] = some (.ro (.int l.length)) := rfl
@[simp] theorem o_lenT {l : List D} : D.len [.tup l] = some (.ro (.int l.length)) := rfl
@[simp] theorem o_lenS {z : Str} : D.len [.str z] = if szOk z.length = true then some (.ro (.int z.length)) else none := id rfl
@[simp] theorem o_toInt {i : Int} : D.toInt [.int i] = some (.ro (.int i)) := rfl
@[simp] theorem o_toListL {l : List D} : D.toList [.lst l] = some (.own (.lst l)) := rfl
@[simp] theorem o_toListT {l : List D} : D.toList [.tup l] = some (.own (.lst l)) := rfl
@[simp] theorem o_toListS {l : List Int} : D.toList [.scr l] = some (.own (.lst (l.map .int))) := rfl
@[simp] theorem o_toTupL {l : List D} : D.toTup [.lst l] = some (.ro (.tup l)) := rfl
@[simp] theorem o_slL {l : List D} {lo hi : Option Int} : D.slice (.lst l) lo hi = some (.own (.lst (cutD l lo hi))) := rfl
@[simp] theorem o_slT {l : List D} {lo hi : Option Int} : D.slice (.tup l) lo hi = some (.ro (.tup (cutD l lo hi))) := rfl
@[simp] theorem o_slS {z : Str} {lo hi : Option Int} : D.slice (.str z) lo hi = if szOk z.length = true then some (.ro (.str (cutS z lo hi))) else none := id rfl
@[simp] theorem o_tr1 : D.truth .non = some false := rfl
@[simp] theorem o_tr2 : D.truth (.bl b) = some b := rfl
@[simp] theorem o_tr3 {i : Int} : D.truth (.int i) = some (i != 0) := rfl
@[simp] theorem o_tr4 {s : Str} : D.truth (.str s) = if szOk s.length = true then some ((s.length : Int) != 0) else none := id rfl
@[simp] theorem o_tr5 {l : List D} : D.truth (.lst l) = some (!l.isEmpty) := rfl
@[simp] theorem o_tr6 {l : List D} : D.truth (.tup l) = some (!l.isEmpty) := rfl
@[simp] theorem o_inL {l : List D} : D.isIn x (.lst l) = (D.inS x l).map fun b => .ro (.bl b) := rfl
@[simp] theorem o_inT {l : List D} : D.isIn x (.tup l) = (D.inS x l).map fun b => .ro (.bl b) := rfl
@[simp] theorem o_ninL {l : List D} : D.notIn x (.lst l) = (D.inS x l).map fun b => .ro (.bl (!b)) := rfl
@[simp] theorem o_ninT {l : List D} : D.notIn x (.tup l) = (D.inS x l).map fun b => .ro (.bl (!b)) := rfl
@[simp] theorem o_sz : szOk n = decide (n ≤ 16777216) := id rfl
@[simp] theorem o_szL : sizeLine = 16777216 := id rfl
@[simp] theorem o_isI : D.isInst [x, .ty "int"] = (D.tyName x).map fun m => .ro (.bl (m = "int" || m = "bool")) := by
  show (D.tyName x).bind _ = _
  cases D.tyName x <;> rfl
@[simp] theorem o_isB : D.isInst [x, .ty "bool"] = (D.tyName x).map fun m => .ro (.bl (decide (m = "bool"))) := by
  show (D.tyName x).bind _ = _
  cases D.tyName x <;> rfl
@[simp] theorem o_isS : D.isInst [x, .ty "str"] = (D.tyName x).map fun m => .ro (.bl (decide (m = "str"))) := by
  show (D.tyName x).bind _ = _
  cases D.tyName x <;> rfl
@[simp] theorem o_isT : D.isInst [x, .ty "tuple"] = (D.tyName x).map fun m => .ro (.bl (decide (m = "tuple"))) := by
  show (D.tyName x).bind _ = _
  cases D.tyName x <;> rfl
@[simp] theorem o_isL : D.isInst [x, .ty "list"] = (D.tyName x).map fun m => .ro (.bl (decide (m = "list"))) := by
  show (D.tyName x).bind _ = _
  cases D.tyName x <;> rfl
@[simp] theorem o_isD : D.isInst [x, .ty "dict"] = (D.tyName x).map fun m => .ro (.bl (decide (m = "dict"))) := by
  show (D.tyName x).bind _ = _
  cases D.tyName x <;> rfl
@[simp] theorem o_ty1 : D.tyName .non = some "NoneType" := rfl
@[simp] theorem o_ty2 : D.tyName (.bl b) = some "bool" := rfl
@[simp] theorem o_ty3 {i : Int} : D.tyName (.int i) = some "int" := rfl
@[simp] theorem o_ty4 {s : Str} : D.tyName (.str s) = some "str" := rfl
@[simp] theorem o_ty5 {l : List D} : D.tyName (.tup l) = some "tuple" := rfl
@[simp] theorem o_ty6 {l : List D} : D.tyName (.lst l) = some "list" := rfl
@[simp] theorem o_n1 : D.isN .non = true := rfl
@[simp] theorem o_n2 : D.isN (.bl b) = false := rfl
@[simp] theorem o_n3 {i : Int} : D.isN (.int i) = false := rfl
@[simp] theorem o_n4 {s : Str} : D.isN (.str s) = false := rfl
@[simp] theorem o_n5 {l : List D} : D.isN (.tup l) = false := rfl
@[simp] theorem o_n6 {l : List D} : D.isN (.lst l) = false := rfl
end
/-! indexing -/
theorem atI_nat {α : Type} {l : List α} {k : Nat} (h : k < l.length) : atI l (k : Int) = l[k]? := by
  unfold atI ixN
  rw [if_pos (by omega), if_pos (by omega)]; simp
theorem ixN_nat {n k : Nat} (h : k < n) : ixN n (k : Int) = some k := by
  unfold ixN
  rw [if_pos (by omega), if_pos (by omega)]; simp
/-! loops -/
theorem loop_inv {b : B1} {s : S1} (I : Nat → Env → Prop) {items : List D} {ρ0 : Env} (h0 : I 0 ρ0)
    (step : ∀ k d ρ, k < items.length → items[k]? = some d → I k ρ → ∃ ρ2, ((b d ρ).bind fun ρ1 => s ρ1) = some (.nx ρ2) ∧ I (k + 1) ρ2) : ∃ ρ', loopL b s items ρ0 = some (.nx ρ') ∧ I items.length ρ' := by
  induction items generalizing I ρ0 with
  | nil => exact ⟨ρ0, rfl, h0⟩
  | cons d ds ih =>
    obtain ⟨ρ2, e, h2⟩ := step 0 d ρ0 (by simp) rfl h0
    obtain ⟨ρ', e', h'⟩ := ih (fun k => I (k + 1)) h2 fun k d' ρ hk hd hI => step (k + 1) d' ρ (by simpa using hk) (by simpa using hd) hI
    refine ⟨ρ', ?_, h'⟩
    show ((b d ρ0).bind fun ρ1 => (s ρ1).bind _) = _
    rw [Option.bind_eq_some_iff] at e
    obtain ⟨ρ1, eb, es⟩ := e
    rw [eb]; show (s ρ1).bind _ = _
    rw [es]; exact e'
theorem range_len {lo : Int} {n : Nat} : (rangeD lo n).length = n := by simp [rangeD]
theorem range_get {lo : Int} {n k : Nat} {d : D} (h : (rangeD lo n)[k]? = some d) : d = .int (lo + k) ∧ k < n := by
  unfold rangeD at h
  rw [List.getElem?_map] at h
  by_cases hk : k < n
  · rw [List.getElem?_range hk] at h; cases h; exact ⟨rfl, hk⟩
  · rw [List.getElem?_eq_none (by simpa using hk)] at h; cases h
/-- for k in range(n) -/
theorem loop_rng {b : B1} {s : S1} (I : Nat → Env → Prop) {n : Nat} {ρ0 : Env} (h0 : I 0 ρ0)
    (step : ∀ (k : Nat) ρ, k < n → I k ρ → ∃ ρ2, ((b (.int k) ρ).bind fun ρ1 => s ρ1) = some (.nx ρ2) ∧ I (k + 1) ρ2) : ∃ ρ', loopL b s (rangeD 0 n) ρ0 = some (.nx ρ') ∧ I n ρ' := by
  have := loop_inv (b := b) (s := s) I (items := rangeD 0 n) h0 fun k d ρ hk hd hI => by
    obtain ⟨rfl, hk⟩ := range_get hd
    rw [show (0 : Int) + (k : Nat) = (k : Nat) by omega]
    exact step k ρ hk hI
  rwa [range_len] at this
end Dn

namespace Mir
open PySem L2 Dn

def p__law_same (rec : List D → Option C) : S1 :=
  sSeq (sIf (pB (pOp2 D.isNone (pVar 1) (pC .non))) (sRet (pOp2 D.isNone (pVar 0) (pC .non))) (sNil))
  (sSeq (sIf (qTru (pFun D.isInst (pCons (pVar 1) (pCons (pC (.ty "bool")) (pNil))))) (sRet (pAndT (pFun D.isInst (pCons (pVar 0) (pCons (pC (.ty "bool")) (pNil)))) (pOp2 D.eq (pVar 0) (pVar 1)))) (sNil))
  (sSeq (sIf (qTru (pFun D.isInst (pCons (pVar 1) (pCons (pC (.ty "int")) (pNil))))) (sRet (pAndT (pFun D.isInst (pCons (pVar 0) (pCons (pC (.ty "int")) (pNil)))) (pAndT (pNotT (pFun D.isInst (pCons (pVar 0) (pCons (pC (.ty "bool")) (pNil))))) (pOp2 D.eq (pVar 0) (pVar 1))))) (sNil))
  (sSeq (sIf (qTru (pFun D.isInst (pCons (pVar 1) (pCons (pC (.ty "str")) (pNil))))) (sRet (pAndT (pFun D.isInst (pCons (pVar 0) (pCons (pC (.ty "str")) (pNil)))) (pOp2 D.eq (pVar 0) (pVar 1)))) (sNil))
  (sSeq (sIf (qAnd (qTru (pFun D.isInst (pCons (pVar 1) (pCons (pC (.ty "tuple")) (pNil))))) (qNot (qTru (pFun D.isInst (pCons (pVar 0) (pCons (pC (.ty "tuple")) (pNil))))))) (sRet (pC (.bl false))) (sNil))
  (sSeq (sIf (qAnd (qTru (pFun D.isInst (pCons (pVar 1) (pCons (pC (.ty "list")) (pNil))))) (qNot (qTru (pFun D.isInst (pCons (pVar 0) (pCons (pC (.ty "list")) (pNil))))))) (sRet (pC (.bl false))) (sNil))
  (sSeq (sIf (pB (pOp2 D.ne (pFun D.len (pCons (pVar 0) (pNil))) (pFun D.len (pCons (pVar 1) (pNil))))) (sRet (pC (.bl false))) (sNil))
  (sSeq (sFor (iRange1 (pCons (pFun D.len (pCons (pVar 1) (pNil))) (pNil))) (bName 2) (sIf (qNot (qTru (pCall rec (pCons (pOp2 D.ix (pVar 0) (pVar 2)) (pCons (pOp2 D.ix (pVar 1) (pVar 2)) (pNil)))))) (sRet (pC (.bl false))) (sNil)))
  (sRet (pC (.bl true))))))))))
def f__law_same : Nat → List D → Option C
  | 0 => fun _ => none
  | n + 1 => runDef (p__law_same (f__law_same n)) 3 2
def p_line_starts : S1 :=
  sSeq (sSet 1 (pLst (pNil)))
  (sSeq (sFor (iRange1 (pCons (pFun D.len (pCons (pVar 0) (pNil))) (pNil))) (bName 2) (sIf (qAnd (pB (pOp2 D.notIn (pOp2 D.ix (pVar 0) (pVar 2)) (pTup (pCons (pC (.str " ")) (pCons (pC (.str "\n")) (pNil)))))) (qOr (pB (pOp2 D.eq (pVar 2) (pC (.int 0)))) (pB (pOp2 D.eq (pOp2 D.ix (pVar 0) (pOp2 D.sub (pVar 2) (pC (.int 1)))) (pC (.str "\n")))))) (sExpr (pMutL opAppend 1 (pCons (pCap (pVar 2)) (pNil)))) (sNil)))
  (sRet (pVar 1)))
def f_line_starts := runDef p_line_starts 3 1
def p_chunks : S1 :=
  sSeq (sSet 1 (pCall f_line_starts (pCons (pVar 0) (pNil))))
  (sSeq (sSet 2 (pOp2 D.add (pSl (pVar 1) (oSome (pC (.int 1))) (oNone)) (pLst (pCons (pFun D.len (pCons (pVar 0) (pNil))) (pNil)))))
  (sRet (pLc (iZip (pCons (pCap (pVar 1)) (pCons (pCap (pVar 2)) (pNil)))) [3, 4] (bSeq 2 (bCons (bName 3) (bCons (bName 4) (bNil)))) (qYes) (pTup (pCons (pCap (pVar 3)) (pCons (pSl (pVar 0) (oSome (pVar 3)) (oSome (pVar 4))) (pNil)))))))
def f_chunks := runDef p_chunks 5 1
def p__law_next : S1 :=
  sSeq (sIf (qAnd (pB (pOp2 D.eq (pOp2 D.ix (pVar 0) (pC (.int 2))) (pC (.int 0)))) (pB (pOp2 D.lt (pOp2 D.ix (pVar 0) (pC (.int 1))) (pFun D.len (pCons (pOp2 D.ix (pVar 0) (pC (.int 0))) (pNil)))))) (sSeq (sSet 2 (pOp2 D.ix (pOp2 D.ix (pVar 0) (pC (.int 0))) (pOp2 D.ix (pVar 0) (pC (.int 1)))))
  (sSeq (sAugIx D.iadd 0 (pC (.int 1)) (pC (.int 1)))
  (sIf (pB (pOp2 D.ge (pVar 2) (pOp2 D.pow (pC (.int 10)) (pC (.int 18))))) (sSetIx 0 (pVar 2) (pC (.int 2))) (sSetIx 0 (pOp2 D.mod (pFun D.toInt (pCons (pOp2 D.add (pOp2 D.add (pOp2 D.mul (pOp2 D.ix (pVar 0) (pC (.int 3))) (pC (.int 48271))) (pOp2 D.mod (pFun D.toInt (pCons (pVar 2) (pNil))) (pC (.int 2147483647)))) (pC (.int 7))) (pNil))) (pC (.int 2147483647))) (pC (.int 3)))))) (sNil))
  (sSeq (sIf (pB (pOp2 D.gt (pOp2 D.ix (pVar 0) (pC (.int 2))) (pC (.int 0)))) (sSeq (sSet 3 (pOp2 D.mod (pFun D.toInt (pCons (pOp2 D.ix (pVar 0) (pC (.int 2))) (pNil))) (pVar 1)))
  (sSeq (sSetIx 0 (pOp2 D.fdiv (pOp2 D.ix (pVar 0) (pC (.int 2))) (pVar 1)) (pC (.int 2)))
  (sRet (pVar 3)))) (sNil))
  (sSeq (sSetIx 0 (pOp2 D.mod (pFun D.toInt (pCons (pOp2 D.add (pOp2 D.mul (pOp2 D.ix (pVar 0) (pC (.int 3))) (pC (.int 69621))) (pC (.int 12345))) (pNil))) (pC (.int 2147483647))) (pC (.int 3)))
  (sRet (pOp2 D.mod (pFun D.toInt (pCons (pOp2 D.fdiv (pOp2 D.ix (pVar 0) (pC (.int 3))) (pC (.int 7))) (pNil))) (pVar 1)))))
def f__law_next := runIo p__law_next 4 2
def p__law_char : S1 :=
  sSeq (sSet 1 (pC (.str " '!\"#$&()*+,-./0123456789:;<=>?@ABCDEFGHIJKLMNOPQRSTUVWXYZ[\\]^_`")))
  (sSeq (sSet 1 (pOp2 D.add (pVar 1) (pC (.str "abcdefghijklmnopqrstuvwxyz{|}~\n"))))
  (sRet (pOp2 D.ix (pVar 1) (pOp2 D.mod (pFun D.toInt (pCons (pVar 0) (pNil))) (pC (.int 95))))))
def f__law_char := runDef p__law_char 2 1
def p__law_line : S1 :=
  sSeq (sSet 1 (pC (.str "")))
  (sSeq (sFor (iRange1 (pCons (pCallIo f__law_next 0 (pCons (pOp2 D.ix (pLst (pCons (pC (.int 9)) (pCons (pC (.int 9)) (pCons (pC (.int 9)) (pCons (pC (.int 90)) (pNil)))))) (pCallIo f__law_next 0 (pCons (pC (.int 4)) (pNil)))) (pNil))) (pNil))) (bName 2) (sSet 1 (pOp2 D.add (pVar 1) (pCall f__law_char (pCons (pCallIo f__law_next 0 (pCons (pC (.int 94)) (pNil))) (pNil))))))
  (sRet (pVar 1)))
def f__law_line := runIo p__law_line 3 1
def p__law_lines : S1 :=
  sSeq (sSet 2 (pC (.str "")))
  (sSeq (sFor (iRange1 (pCons (pVar 1) (pNil))) (bName 3) (sSeq (sIf (pB (pOp2 D.gt (pCallIo f__law_next 0 (pCons (pC (.int 3)) (pNil))) (pC (.int 0)))) (sSet 2 (pOp2 D.add (pOp2 D.add (pVar 2) (pC (.str " "))) (pCallIo f__law_line 0 (pNil)))) (sNil))
  (sSet 2 (pOp2 D.add (pVar 2) (pC (.str "\n"))))))
  (sRet (pVar 2)))
def f__law_lines := runIo p__law_lines 4 2
def p_law : S1 :=
  sSeq (sSet 1 (pLst (pCons (pFun D.toList (pCons (pVar 0) (pNil))) (pCons (pC (.int 0)) (pCons (pC (.int 0)) (pCons (pC (.int 1)) (pNil)))))))
  (sSeq (sSet 2 (pCallIo f__law_lines 1 (pCons (pCallIo f__law_next 1 (pCons (pC (.int 4)) (pNil))) (pNil))))
  (sSeq (sSet 3 (pLst (pNil)))
  (sSeq (sSet 4 (pVar 2))
  (sSeq (sSet 5 (pCallIo f__law_next 1 (pCons (pC (.int 13)) (pNil))))
  (sSeq (sIf (pB (pOp2 D.eq (pCallIo f__law_next 1 (pCons (pC (.int 6)) (pNil))) (pC (.int 5)))) (sSet 5 (pOp2 D.add (pC (.int 60)) (pCallIo f__law_next 1 (pCons (pC (.int 90)) (pNil))))) (sNil))
  (sSeq (sFor (iRange1 (pCons (pVar 5) (pNil))) (bName 6) (sSeq (sSet 7 (pOp2 D.add (pOp2 D.add (pOp2 D.add (pCall f__law_char (pCons (pOp2 D.add (pC (.int 1)) (pCallIo f__law_next 1 (pCons (pC (.int 93)) (pNil)))) (pNil))) (pCallIo f__law_line 1 (pNil))) (pC (.str "\n"))) (pCallIo f__law_lines 1 (pCons (pCallIo f__law_next 1 (pCons (pOp2 D.ix (pLst (pCons (pC (.int 4)) (pCons (pC (.int 9)) (pNil)))) (pCallIo f__law_next 1 (pCons (pC (.int 2)) (pNil)))) (pNil))) (pNil)))))
  (sSeq (sIf (qAnd (pB (pOp2 D.eq (pVar 6) (pOp2 D.sub (pVar 5) (pC (.int 1))))) (pB (pOp2 D.eq (pCallIo f__law_next 1 (pCons (pC (.int 2)) (pNil))) (pC (.int 1))))) (sSet 7 (pSl (pVar 7) (oNone) (oSome (pOp2 D.sub (pFun D.len (pCons (pVar 7) (pNil))) (pC (.int 1)))))) (sNil))
  (sSeq (sExpr (pMutL opAppend 3 (pCons (pTup (pCons (pFun D.len (pCons (pVar 2) (pNil))) (pCons (pCap (pVar 7)) (pNil)))) (pNil))))
  (sSet 2 (pOp2 D.add (pVar 2) (pVar 7)))))))
  (sSeq (sSet 8 (pCall f_chunks (pCons (pVar 2) (pNil))))
  (sSeq (sIf (qNot (qTru (pCall (f__law_same 12) (pCons (pVar 8) (pCons (pVar 3) (pNil)))))) (sRet (pC (.bl false))) (sNil))
  (sRet (pOp2 D.eq (pOp2 D.add (pVar 4) (pM1 D.join (pC (.str "")) (pLc (iSeq (pVar 8)) [9, 7] (bSeq 2 (bCons (bName 9) (bCons (bName 7) (bNil)))) (qYes) (pCap (pVar 7))))) (pVar 2)))))))))))
def f_law := runDef p_law 10 1
end Mir

namespace Pl
open PySem L2 Dn Mir
structure St where
  cells : List Int
  pos : Nat
  big : Int
  seed : Int
  hp : pos ≤ cells.length
  hb : 0 ≤ big
def enc (s : St) : D := .lst [.lst (s.cells.map .int), .int s.pos, .int s.big, .int s.seed]
theorem next_ok (s : St) (n : Int) (h0 : 0 < n) (h1 : n < 2 ^ 64) : ∃ (s' : St) (v : Int), f__law_next (enc s) [.int n] = some (.ro (.int v), enc s') ∧ 0 ≤ v ∧ v < n := by
  obtain ⟨cells, pos, big, seed, hp, hb⟩ := s
  have h2 : n.natAbs < 18446744073709551616 := by omega
  by_cases hc : big = 0 ∧ pos < cells.length
  · obtain ⟨rfl, hpos⟩ := hc
    by_cases hcell : (1000000000000000000 : Int) ≤ cells[pos]
    · have hbig : 0 < cells[pos] := by omega
      refine ⟨⟨cells, pos + 1, cells[pos] / n, seed, hpos, Int.ediv_nonneg (by omega) (by omega)⟩, cells[pos] % n, ?_, Int.emod_nonneg _ (by omega), Int.emod_lt_of_pos _ h0⟩
      simp [f__law_next, runIo, p__law_next, enc, atI, ixN, hpos, hcell, hbig, h0, h2, ioAt]
    · refine ⟨⟨cells, pos + 1, 0, ((seed * 48271 + cells[pos] % 2147483647 + 7) % 2147483647 * 69621 + 12345) % 2147483647, hpos, hb⟩, ((seed * 48271 + cells[pos] % 2147483647 + 7) % 2147483647 * 69621 + 12345) % 2147483647 / 7 % n, ?_, Int.emod_nonneg _ (by omega), Int.emod_lt_of_pos _ h0⟩
      simp [f__law_next, runIo, p__law_next, enc, atI, ixN, hpos, hcell, h0, h2, ioAt]
  · have hc' : (¬ big = 0) ∨ (¬ (pos : Int) < cells.length) := by
      by_cases hz : big = 0
      · exact .inr fun h => hc ⟨hz, by omega⟩
      · exact .inl hz
    by_cases hbig : 0 < big
    · refine ⟨⟨cells, pos, big / n, seed, hp, Int.ediv_nonneg hb (by omega)⟩, big % n, ?_, Int.emod_nonneg _ (by omega), Int.emod_lt_of_pos _ h0⟩
      rcases hc' with hc' | hc' <;> simp [f__law_next, runIo, p__law_next, enc, atI, ixN, hc', hbig, h0, h2, ioAt, Int.ne_of_gt hbig]
    · have hz : big = 0 := by omega
      subst hz
      have hpos : ¬ pos < cells.length := by omega
      refine ⟨⟨cells, pos, 0, (seed * 69621 + 12345) % 2147483647, hp, hb⟩, (seed * 69621 + 12345) % 2147483647 / 7 % n, ?_, Int.emod_nonneg _ (by omega), Int.emod_lt_of_pos _ h0⟩
      simp [f__law_next, runIo, p__law_next, enc, atI, ixN, hpos, h0, h2, ioAt]

end Pl

namespace Pl
open PySem L2 Dn Mir
theorem s0 : Str.ofString "" = tx [] := by decide +kernel
theorem s32 : Str.ofString " " = tx [32] := by decide +kernel
theorem s10 : Str.ofString "\n" = tx [10] := by decide +kernel
theorem s1 (c : Nat) : (⟨#[c]⟩ : Str) = tx [c] := rfl
def cs1 : List Nat := [32, 39, 33, 34, 35, 36, 38, 40, 41, 42, 43, 44, 45, 46, 47, 48, 49, 50, 51, 52, 53, 54, 55, 56, 57, 58, 59, 60, 61, 62, 63, 64, 65, 66, 67, 68, 69, 70, 71, 72, 73, 74, 75, 76, 77, 78, 79, 80, 81, 82, 83, 84, 85, 86, 87, 88, 89, 90, 91, 92, 93, 94, 95, 96]
def cs2 : List Nat := [97, 98, 99, 100, 101, 102, 103, 104, 105, 106, 107, 108, 109, 110, 111, 112, 113, 114, 115, 116, 117, 118, 119, 120, 121, 122, 123, 124, 125, 126, 10]
theorem sc1 : Str.ofString " '!\"#$&()*+,-./0123456789:;<=>?@ABCDEFGHIJKLMNOPQRSTUVWXYZ[\\]^_`" = tx cs1 := by decide +kernel
theorem sc2 : Str.ofString "abcdefghijklmnopqrstuvwxyz{|}~\n" = tx cs2 := by decide +kernel
theorem cs_ok : ∀ k : Nat, k < 94 → ∃ c, (cs1 ++ cs2)[k]? = some c ∧ c ≠ 10 ∧ (1 ≤ k → c ≠ 32) := by
  have : ∀ k : Fin 94, ((cs1 ++ cs2)[k.val]?).elim false (fun c => decide (c ≠ 10 ∧ (1 ≤ k.val → c ≠ 32))) = true := by decide +kernel
  intro k hk
  have h := this ⟨k, hk⟩
  simp only at h
  cases e : (cs1 ++ cs2)[k]? with
  | none => rw [e] at h; cases h
  | some c => rw [e] at h; exact ⟨c, rfl, of_decide_eq_true h⟩
theorem char_ok (k : Int) (h0 : 0 ≤ k) (h1 : k < 94) : ∃ c : Nat, f__law_char [.int k] = some (.ro (.str (tx [c]))) ∧ c ≠ 10 ∧ (1 ≤ k → c ≠ 32) := by
  obtain ⟨c, e, n1, n2⟩ := cs_ok k.toNat (by omega)
  refine ⟨c, ?_, n1, fun h => n2 (by omega)⟩
  have hm : k % 95 = k := Int.emod_eq_of_lt h0 (by omega)
  have hl : (cs1 ++ cs2).length = 95 := by decide
  have hi : atI (cs1 ++ cs2) k = some c := by
    have := atI_nat (l := cs1 ++ cs2) (k := k.toNat) (by omega)
    rw [show (k.toNat : Int) = k by omega] at this
    rw [this, e]
  have l1 : cs1.length = 64 := by decide
  have l2 : cs2.length = 31 := by decide
  simp [f__law_char, runDef, p__law_char, sc1, sc2, tx_len, tx_app, tx_cps, hm, hi, s1, l1, l2]
theorem line_ok (s : St) : ∃ (s' : St) (l : List Nat), f__law_line (enc s) [] = some (.ro (.str (tx l)), enc s') ∧ 10 ∉ l ∧ l.length ≤ 90 := by
  obtain ⟨s1', v, e1, h1, h2⟩ := next_ok s 4 (by decide) (by decide)
  obtain ⟨w, hw, hw0, hw1, hw2⟩ : ∃ w : Int, atI [D.int 9, D.int 9, D.int 9, D.int 90] v = some (.int w) ∧ 0 < w ∧ w ≤ 90 ∧ w < 2 ^ 64 := by
    have : v = 0 ∨ v = 1 ∨ v = 2 ∨ v = 3 := by omega
    rcases this with rfl | rfl | rfl | rfl
    · exact ⟨9, rfl, by decide, by decide, by decide⟩
    · exact ⟨9, rfl, by decide, by decide, by decide⟩
    · exact ⟨9, rfl, by decide, by decide, by decide⟩
    · exact ⟨90, rfl, by decide, by decide, by decide⟩
  obtain ⟨s2', n, e2, h3, h4⟩ := next_ok s1' w hw0 hw2
  have hsm : smallI n = true := by simp [smallI]; omega
  obtain ⟨ρ', el, hI⟩ := loop_rng (b := bName 2) (s := (sSet 1 (pOp2 D.add (pVar 1) (pCall f__law_char (pCons (pCallIo f__law_next 0 (pCons (pC (.int 94)) (pNil))) (pNil))))))
    (fun k ρ => ∃ s l x, ρ = [some (.io (enc s)), some (.ro (.str (tx l))), x] ∧ 10 ∉ l ∧ l.length = k) (n := n.toNat) (ρ0 := [some (.io (enc s2')), some (.ro (.str (tx []))), none]) ⟨s2', [], none, rfl, by simp, rfl⟩
    (by
      rintro k ρ hk ⟨s, l, x, rfl, hl, hlen⟩
      obtain ⟨s', v, e, g1, g2⟩ := next_ok s 94 (by decide) (by decide)
      obtain ⟨c, ec, n1, _⟩ := char_ok v g1 g2
      refine ⟨[some (.io (enc s')), some (.ro (.str (tx (l ++ [c])))), some (.ro (.int k))], ?_, s', l ++ [c], _, rfl, by simp [hl]; exact fun z => n1 z.symm, by simp [hlen]⟩
      have : l.length + 1 ≤ 16777216 := by omega
      simp [e, ec, tx_app, tx_len, this])
  obtain ⟨s', l, x, rfl, hl, hlen⟩ := hI
  refine ⟨s', l, ?_, hl, by omega⟩
  simp [f__law_line, runIo, p__law_line, e1, hw, e2, s0, hsm, el, ioAt]
inductive Lin : List Nat → Prop
  | nil : Lin []
  | blank {t : List Nat} : Lin t → Lin (t ++ [10])
  | line {t l : List Nat} : Lin t → 10 ∉ l → Lin (t ++ [32] ++ l ++ [10])
theorem lines_ok (s : St) (n : Int) (h0 : 0 ≤ n) (h1 : n ≤ 9) : ∃ (s' : St) (t : List Nat), f__law_lines (enc s) [.int n] = some (.ro (.str (tx t)), enc s') ∧ Lin t ∧ t.length ≤ 92 * 9 := by
  have hsm : smallI n = true := by simp [smallI]; omega
  obtain ⟨ρ', el, hI⟩ := loop_rng (b := bName 3) (s := (sSeq (sIf (pB (pOp2 D.gt (pCallIo f__law_next 0 (pCons (pC (.int 3)) (pNil))) (pC (.int 0)))) (sSet 2 (pOp2 D.add (pOp2 D.add (pVar 2) (pC (.str " "))) (pCallIo f__law_line 0 (pNil)))) (sNil))
  (sSet 2 (pOp2 D.add (pVar 2) (pC (.str "\n"))))))
    (fun k ρ => ∃ s t x, ρ = [some (.io (enc s)), some (.ro (.int n)), some (.ro (.str (tx t))), x] ∧ Lin t ∧ t.length ≤ 92 * k) (n := n.toNat) (ρ0 := [some (.io (enc s)), some (.ro (.int n)), some (.ro (.str (tx []))), none]) ⟨s, [], none, rfl, .nil, by simp⟩
    (by
      rintro k ρ hk ⟨s, t, x, rfl, ht, hlen⟩
      obtain ⟨s', v, e, g1, g2⟩ := next_ok s 3 (by decide) (by decide)
      have z1 : t.length + 1 ≤ 16777216 := by omega
      by_cases hv : 0 < v
      · obtain ⟨s2, l, e2, hl, hll⟩ := line_ok s'
        have z2 : t.length + (1 + l.length) ≤ 16777216 := by omega
        have z3 : t.length + (l.length + 2) ≤ 16777216 := by omega
        refine ⟨[some (.io (enc s2)), some (.ro (.int n)), some (.ro (.str (tx (t ++ [32] ++ l ++ [10])))), some (.ro (.int k))], ?_, s2, _, _, rfl, .line ht hl, by simp; omega⟩
        simp [e, e2, hv, s32, s10, tx_app, tx_len, z1, z2, z3, Nat.add_assoc]
      · refine ⟨[some (.io (enc s')), some (.ro (.int n)), some (.ro (.str (tx (t ++ [10])))), some (.ro (.int k))], ?_, s', _, _, rfl, .blank ht, by simp; omega⟩
        simp [e, hv, s32, s10, tx_app, tx_len, z1])
  obtain ⟨s', t, x, rfl, ht, hlen⟩ := hI
  refine ⟨s', t, ?_, ht, by omega⟩
  simp [f__law_lines, runIo, p__law_lines, s0, hsm, el, ioAt]

end Pl

namespace Dn
open PySem L2
/-! comprehensions -/
def bodyC (vs : List Nat) (b : B1) (q : PT1) (p : P1) (d : D) (ρ : Env) : Option (Option D × Env) := (b d ρ).bind fun ρ1 => (q ρ1).bind fun t => if t.1 = true then (p t.2).bind fun a => (cap a.1 a.2).bind fun a2 => some (some a2.1.d, forget vs a2.2) else some (none, forget vs t.2)
theorem loopC_body {vs : List Nat} {b : B1} {q : PT1} {p : P1} {g : D → Option D} {ρ : Env} : ∀ {ds : List D}, (∀ d ∈ ds, bodyC vs b q p d ρ = some (g d, ρ)) → loopC vs b q p ds ρ = some (ds.filterMap g, ρ)
  | [], _ => rfl
  | d :: ds, h => by
    have ih := loopC_body (vs := vs) (b := b) (q := q) (p := p) (g := g) (ρ := ρ) (ds := ds) fun x hx => h x (List.mem_cons_of_mem _ hx)
    have h1 := h d (List.mem_cons_self ..)
    unfold bodyC at h1
    unfold loopC
    simp only [Option.bind_eq_some_iff] at h1
    obtain ⟨ρ1, e1, t, e2, h1⟩ := h1
    rw [e1, Option.bind_some, e2, Option.bind_some]
    by_cases ht : t.1 = true
    · rw [if_pos ht] at h1 ⊢
      simp only [Option.bind_eq_some_iff] at h1
      obtain ⟨a, e3, a2, e4, e5⟩ := h1
      cases e5' : g d with
      | none => rw [e5'] at e5; cases e5
      | some x =>
        rw [e5'] at e5
        simp only [Option.some.injEq, Prod.mk.injEq] at e5
        rw [e3, Option.bind_some, e4, Option.bind_some, e5.2, ih, List.filterMap_cons_some e5', ← e5.1]; rfl
    · rw [if_neg ht] at h1 ⊢
      cases e5' : g d with
      | none => 
        rw [e5'] at h1
        simp only [Option.some.injEq, Prod.mk.injEq] at h1
        rw [h1.2, ih, List.filterMap_cons_none e5']
      | some x => rw [e5'] at h1; simp at h1
theorem loopC_map {vs : List Nat} {b : B1} {q : PT1} {p : P1} {g : D → D} {ρ : Env} {ds : List D} (h : ∀ d ∈ ds, bodyC vs b q p d ρ = some (some (g d), ρ)) : loopC vs b q p ds ρ = some (ds.map g, ρ) := by
  rw [loopC_body (g := fun d => some (g d)) h]
  simp
end Dn
namespace Pl
open PySem L2 Dn Mir
/-- the positions at which a line that is not indented begins -/
def st (b : Bool) (o : Nat) : List Nat → List Nat
  | [] => []
  | c :: cs => (if b = true ∧ c ≠ 32 ∧ c ≠ 10 then [o] else []) ++ st (c == 10) (o + 1) cs
def en (b : Bool) : List Nat → Bool
  | [] => b
  | c :: cs => en (c == 10) cs
theorem st_app (b : Bool) (o : Nat) (xs ys : List Nat) : st b o (xs ++ ys) = st b o xs ++ st (en b xs) (o + xs.length) ys := by
  induction xs generalizing b o with
  | nil => simp [st, en]
  | cons c cs ih => simp only [List.cons_append, st, ih, en, List.append_assoc, List.length_cons]; rw [show o + 1 + cs.length = o + (cs.length + 1) by omega]
theorem en_app (b : Bool) (xs ys : List Nat) : en b (xs ++ ys) = en (en b xs) ys := by
  induction xs generalizing b with
  | nil => rfl
  | cons c cs ih => exact ih _
theorem st_no (b : Bool) (o : Nat) : ∀ l, 10 ∉ l → b = false → st b o l = []
  | [], _, _ => rfl
  | c :: cs, h, hb => by
    have hc : c ≠ 10 := fun z => h (by simp [z])
    simp only [st, hb]
    rw [st_no _ _ cs (fun z => h (by simp [z])) (by simp [hc])]
    simp
theorem en_no (b : Bool) : ∀ l, 10 ∉ l → b = false → en b l = false
  | [], _, hb => hb
  | c :: cs, h, hb => by
    have hc : c ≠ 10 := fun z => h (by simp [z])
    exact en_no _ cs (fun z => h (by simp [z])) (by simp [hc])
theorem Lin.st : ∀ {t : List Nat}, Lin t → (∀ o, Pl.st true o t = []) ∧ en true t = true
  | _, .nil => ⟨fun _ => rfl, rfl⟩
  | _, .blank h => ⟨fun o => by rw [st_app, h.st.1, h.st.2]; rfl, by rw [en_app, h.st.2]; rfl⟩
  | _, .line (l := l) h hl => by
    obtain ⟨h1, h2⟩ := h.st
    have e : Pl.en true [32] = false := rfl
    refine ⟨fun o => ?_, ?_⟩
    · rw [st_app, st_app, st_app, h1]
      simp only [en_app, h2, e, st_no _ _ l hl rfl, en_no _ l hl rfl]; rfl
    · rw [en_app]; rfl
theorem st_snoc10 (b : Bool) (o : Nat) (t : List Nat) : st b o (t ++ [10]) = st b o t := by
  rw [st_app]; simp [st]
def chunk (h : Nat) (l t : List Nat) : List Nat := [h] ++ l ++ [10] ++ t
theorem Lin.last {t : List Nat} (h : Lin t) : t = [] ∨ ∃ u, t = u ++ [10] := by
  cases h with
  | nil => exact .inl rfl
  | blank h => exact .inr ⟨_, rfl⟩
  | line h _ => exact .inr ⟨_, rfl⟩
theorem chunk_st {h : Nat} {l t : List Nat} (h1 : h ≠ 10) (h2 : h ≠ 32) (hl : 10 ∉ l) (ht : Lin t) : (∀ o, st true o (chunk h l t) = [o]) ∧ en true (chunk h l t) = true ∧ ∃ u, chunk h l t = u ++ [10] := by
  have e : en true [h] = false := by simp [en, h1]
  have s : ∀ o, st true o [h] = [o] := fun o => by simp [st, h1, h2]
  refine ⟨fun o => ?_, ?_, ?_⟩
  · unfold chunk
    rw [st_app, st_app, st_app, s]
    simp only [en_app, e, st_no _ _ l hl rfl, en_no _ l hl rfl]
    rw [show en false [10] = true from rfl, ht.st.1]; rfl
  · unfold chunk
    rw [en_app, en_app, en_app]; exact ht.st.2
  · unfold chunk
    rcases ht.last with rfl | ⟨u, rfl⟩
    · exact ⟨[h] ++ l, by simp⟩
    · exact ⟨[h] ++ l ++ [10] ++ u, by simp⟩
/-- what the law expects -/
def offs (o : Nat) : List (List Nat) → List Nat
  | [] => []
  | c :: cs => o :: offs (o + c.length) cs
def exp (o : Nat) : List (List Nat) → List D
  | [] => []
  | c :: cs => .tup [.int o, .str (tx c)] :: exp (o + c.length) cs
theorem offs_app (o : Nat) (cs : List (List Nat)) (c : List Nat) : offs o (cs ++ [c]) = offs o cs ++ [o + cs.flatten.length] := by
  induction cs generalizing o with
  | nil => simp [offs]
  | cons d ds ih => simp only [List.cons_append, offs, ih, List.flatten_cons, List.length_append]; rw [show o + d.length + ds.flatten.length = o + (d.length + ds.flatten.length) by omega]
theorem exp_app (o : Nat) (cs : List (List Nat)) (c : List Nat) : exp o (cs ++ [c]) = exp o cs ++ [.tup [.int (o + cs.flatten.length : Nat), .str (tx c)]] := by
  induction cs generalizing o with
  | nil => simp [exp]
  | cons d ds ih => simp only [List.cons_append, exp, ih, List.flatten_cons, List.length_append]; rw [show o + d.length + ds.flatten.length = o + (d.length + ds.flatten.length) by omega]
def di (n : Nat) : D := .int n
theorem len_tx {T : List Nat} (h : T.length ≤ 16777216) : D.len [.str (tx T)] = some (.ro (.int T.length)) := by
  rw [o_lenS, tx_len, o_sz, if_pos (decide_eq_true h)]
theorem starts_ok (T : List Nat) (hT : T.length ≤ 16777216) : f_line_starts [.str (tx T)] = some (.own (.lst ((st true 0 T).map di))) := by
  obtain ⟨ρ', el, hI⟩ := loop_rng (b := bName 2) (s := (sIf (qAnd (pB (pOp2 D.notIn (pOp2 D.ix (pVar 0) (pVar 2)) (pTup (pCons (pC (.str " ")) (pCons (pC (.str "\n")) (pNil)))))) (qOr (pB (pOp2 D.eq (pVar 2) (pC (.int 0)))) (pB (pOp2 D.eq (pOp2 D.ix (pVar 0) (pOp2 D.sub (pVar 2) (pC (.int 1)))) (pC (.str "\n")))))) (sExpr (pMutL opAppend 1 (pCons (pCap (pVar 2)) (pNil)))) (sNil)))
    (fun k ρ => ∃ x, ρ = [some (.ro (.str (tx T))), some (.own (.lst ((st true 0 (T.take k)).map di))), x] ∧ (st true 0 (T.take k)).length ≤ k ∧ k ≤ T.length) (n := T.length) (ρ0 := [some (.ro (.str (tx T))), some (.own (.lst [])), none]) ⟨none, by simp [st], by simp [st], by simp⟩
    (by
      rintro k ρ hk ⟨x, rfl, hle, _⟩
      have e1 : atI T (k : Int) = some T[k] := by rw [atI_nat hk]; simp [hk]
      have e2 : T.take (k + 1) = T.take k ++ [T[k]] := by simp
      have z1 : (st true 0 (T.take k)).length < 16777216 := by omega
      have e3 : st true 0 (T.take (k + 1)) = st true 0 (T.take k) ++ st (en true (T.take k)) k [T[k]] := by
        rw [e2, st_app]; simp [Nat.min_eq_left (Nat.le_of_lt hk)]
      have e4 : en true (T.take k) = decide (k = 0 ∨ ∃ h : 0 < k, T[k-1]'(by omega) = 10) := by
        cases k with
        | zero => simp [en]
        | succ j =>
          have : T.take (j + 1) = T.take j ++ [T[j]] := by simp
          rw [this, en_app]; simp [en]
          by_cases hh : T[j] = 10 <;> simp [hh]
      by_cases hc : T[k] = 32 ∨ T[k] = 10
      · have e5 : st true 0 (T.take (k + 1)) = st true 0 (T.take k) := by
          rw [e3]; rcases hc with hc | hc <;> simp [st, hc]
        refine ⟨[some (.ro (.str (tx T))), some (.own (.lst ((st true 0 (T.take (k + 1))).map di))), some (.ro (.int k))], ?_, _, rfl, by rw [e5]; omega, hk⟩
        rw [e5]
        rcases hc with hc | hc <;> simp [e1, hc, hT, tx_cps, tx_len, s1, s32, s10, D.inS, D.flat, D.feq, tx_inj]
      · rw [not_or] at hc
        have hin : D.inS (.str (tx [T[k]])) [.str (tx [32]), .str (tx [10])] = some false := by simp [D.inS, D.flat, D.feq, tx_inj, Ne.symm hc.1, Ne.symm hc.2]
        by_cases hp : k = 0 ∨ ∃ h : 0 < k, T[k-1]'(by omega) = 10
        · have e5 : st true 0 (T.take (k + 1)) = st true 0 (T.take k) ++ [k] := by
            rw [e3, e4, decide_eq_true hp]; simp [st, hc]
          refine ⟨[some (.ro (.str (tx T))), some (.own (.lst ((st true 0 (T.take (k + 1))).map di))), some (.ro (.int k))], ?_, _, rfl, by rw [e5]; simp; omega, hk⟩
          rw [e5]
          rcases hp with hp | ⟨h0, hp⟩
          · subst hp
            have e1' : atI T 0 = some T[0] := e1
            simp [e1', hT, tx_cps, tx_len, s1, s32, s10, hin, z1, di, st]
          · have e6 : atI T ((k : Int) - 1) = some 10 := by
              rw [show (k : Int) - 1 = ((k - 1 : Nat) : Int) by omega, atI_nat (by omega), ← hp]; simp
            have hk0 : ¬ k = 0 := by omega
            simp [e1, e6, hT, tx_cps, tx_len, s1, s32, s10, hin, z1, di, hk0]
        · have e5 : st true 0 (T.take (k + 1)) = st true 0 (T.take k) := by
            rw [e3, e4, decide_eq_false hp]; simp [st]
          refine ⟨[some (.ro (.str (tx T))), some (.own (.lst ((st true 0 (T.take (k + 1))).map di))), some (.ro (.int k))], ?_, _, rfl, by rw [e5]; omega, hk⟩
          rw [e5]
          rw [not_or] at hp
          have h0 : 0 < k := by omega
          have hk0 : ¬ k = 0 := hp.1
          have e6 : atI T ((k : Int) - 1) = some (T[k-1]'(by omega)) := by
            rw [show (k : Int) - 1 = ((k - 1 : Nat) : Int) by omega, atI_nat (by omega)]; simp
          have h7 : ¬ T[k-1]'(by omega) = 10 := fun z => hp.2 ⟨h0, z⟩
          simp [e1, e6, hT, tx_cps, tx_len, s1, s32, s10, hin, z1, di, hk0, h7, tx_inj])
  obtain ⟨x, rfl, _, _⟩ := hI
  rw [List.take_length] at el
  obtain ⟨m, hm⟩ : ∃ m : Int, m = T.length := ⟨_, rfl⟩
  have hsm : smallI m = true := by exact decide_eq_true (by omega)
  have hl : D.len [.str (tx T)] = some (.ro (.int m)) := by rw [hm]; exact len_tx hT
  have hn : T.length = m.toNat := by omega
  rw [hn] at el
  clear hm hn
  simp [f_line_starts, runDef, p_line_starts, hl, hsm, el, -o_lenS]
theorem ends_zip (P : List Nat) (T : List Nat) : ∀ cs : List (List Nat), T = P ++ cs.flatten →
    (zipD ((offs P.length cs).map di) (((offs P.length cs).map di).drop 1 ++ [di T.length])).map (fun d => match d with
      | .tup [.int a, .int b] => .tup [.int a, .str (cutS (tx T) (some a) (some b))]
      | d => d) = exp P.length cs
  | [], e => by simp [offs, exp, zipD]
  | c :: cs, e => by
    have ih := ends_zip (P ++ c) T cs (by simp [e])
    have hlen : T.length = P.length + (c.length + cs.flatten.length) := by rw [e]; simp
    have hs : ∀ m : Nat, m = P.length + c.length → cutS (tx T) (some (P.length : Int)) (some (m : Int)) = tx c := by
      intro m hm
      subst hm
      unfold cutS
      rw [tx_len, HT.sIx_nat, HT.sIx_nat, Nat.min_eq_left (by omega), Nat.min_eq_left (by omega), tx_cps, e]
      show tx _ = _
      rw [tx_inj]
      simp
    rw [List.length_append] at ih
    cases cs with
    | nil =>
      have : T.length = P.length + c.length := by simpa using hlen
      simp [offs, exp, zipD, di, hs _ this]
    | cons c2 cs =>
      have := hs _ rfl
      simp only [offs, exp, zipD, List.map_cons, List.drop_succ_cons, List.drop_zero, List.zipWith_cons_cons, List.cons_append] at ih ⊢
      rw [ih]
      simp only [di, this]

end Pl

namespace Pl
open PySem L2 Dn Mir
theorem smallI_nat {n : Nat} (h : n ≤ 16777216) : smallI (n : Int) = true := by
  exact decide_eq_true (by omega)
theorem zip_ints : ∀ (xs ys : List Nat) (d : D), d ∈ zipD (xs.map di) (ys.map di) → ∃ a b : Int, d = .tup [.int a, .int b]
  | [], _, d, h => by simp [zipD] at h
  | _ :: _, [], d, h => by simp [zipD] at h
  | x :: xs, y :: ys, d, h => by
    simp only [zipD, List.map_cons, List.zipWith_cons_cons, List.mem_cons] at h
    rcases h with rfl | h
    · exact ⟨x, y, rfl⟩
    · exact zip_ints xs ys d h
def slc (T : List Nat) : D → D := fun d => match d with
      | .tup [.int a, .int b] => .tup [.int a, .str (cutS (tx T) (some a) (some b))]
      | d => d
theorem offs_len (o : Nat) (cs : List (List Nat)) : (offs o cs).length = cs.length := by
  induction cs generalizing o with
  | nil => rfl
  | cons c cs ih => simp [offs, ih]
theorem exp_len (o : Nat) (cs : List (List Nat)) : (exp o cs).length = cs.length := by
  induction cs generalizing o with
  | nil => rfl
  | cons c cs ih => simp [exp, ih]
theorem chunks_ok (T P : List Nat) (cs : List (List Nat)) (hT : T.length ≤ 16777216) (e : T = P ++ cs.flatten) (hs : st true 0 T = offs P.length cs) (hc : cs.length ≤ 1000) : f_chunks [.str (tx T)] = some (.own (.lst (exp P.length cs))) := by
  have h1 := starts_ok T hT
  have hz := ends_zip P T cs e
  rw [hs] at h1
  have ht : (szOk (((offs P.length cs).map di).tail.length + 1)) = true := by
    simp [offs_len]; omega
  have hd : cutD ((offs P.length cs).map di) (some 1) none = ((offs P.length cs).map di).drop 1 := by
    have e1 : HT.sIx ((offs P.length cs).map di).length 0 (some 1) = min 1 ((offs P.length cs).map di).length := HT.sIx_nat _ 0 1
    unfold cutD
    rw [e1, HT.sIx_none]
    cases h : (offs P.length cs).map di with
    | nil => rfl
    | cons a l => simp
  obtain ⟨m, hm⟩ : ∃ m : Int, m = T.length := ⟨_, rfl⟩
  have hl : D.len [.str (tx T)] = some (.ro (.int m)) := by rw [hm]; exact len_tx hT
  have hAl : ((offs P.length cs).map di).length ≤ 16777216 := by rw [List.length_map, offs_len]; omega
  generalize hA : (offs P.length cs).map di = A at *
  have hz' : (zipD A (A.drop 1 ++ [.int m])).map (slc T) = exp P.length cs := by rw [hm]; exact hz
  have hzl : (zipD A (A.drop 1 ++ [.int m])).length ≤ 16777216 := by
    have := congrArg List.length hz'
    rw [List.length_map, exp_len] at this; omega
  have hzl2 : szOk (zipD A (A.drop 1 ++ [.int m])).length = true := decide_eq_true hzl
  have key : loopC [3, 4] (bSeq 2 (bCons (bName 3) (bCons (bName 4) (bNil)))) (qYes) (pTup (pCons (pCap (pVar 3)) (pCons (pSl (pVar 0) (oSome (pVar 3)) (oSome (pVar 4))) (pNil))))
      (zipD A (A.drop 1 ++ [.int m])) [some (.ro (.str (tx T))), some (.ro (.lst A)), some (.ro (.lst (A.drop 1 ++ [.int m]))), none, none] = some (exp P.length cs, [some (.ro (.str (tx T))), some (.ro (.lst A)), some (.ro (.lst (A.drop 1 ++ [.int m]))), none, none]) := by
    rw [← hz']
    apply loopC_map
    intro d hd
    obtain ⟨a, b, rfl⟩ : ∃ a b : Int, d = .tup [.int a, .int b] := by
      have hm' : (A.drop 1 ++ [.int m]) = ((offs P.length cs).drop 1 ++ [T.length]).map di := by rw [← hA, hm]; simp [di]
      rw [hm', ← hA] at hd
      exact zip_ints _ _ d hd
    simp [bodyC, slc, tx_len, hT]
  clear hz hz' hm hA
  rw [List.drop_one] at *
  simp only [o_sz] at hzl2 ht
  simp [f_chunks, runDef, p_chunks, h1, hl, hd, hAl, hzl, key, -o_lenS]
/-! sameness -/
inductive Plain : Nat → D → Prop
  | non (n) : Plain (n + 1) .non
  | bl (n) (b) : Plain (n + 1) (.bl b)
  | int (n) (i) : Plain (n + 1) (.int i)
  | str (n) (s) : Plain (n + 1) (.str s)
  | tup (n) (l) : l.length ≤ 16777216 → (∀ x ∈ l, Plain n x) → Plain (n + 1) (.tup l)
  | lst (n) (l) : l.length ≤ 16777216 → (∀ x ∈ l, Plain n x) → Plain (n + 1) (.lst l)
theorem same_loop (n : Nat) (d : D) (l : List D) (hl : ∀ x ∈ l, f__law_same n [x, x] = some (.ro (.bl true))) (hix : ∀ k : Nat, k < l.length → D.ix d (.int k) = (l[k]?).map .ro) (m : Int) (hm : m = l.length) : ∃ x, loopL (bName 2) (sIf (qNot (qTru (pCall (f__law_same n) (pCons (pOp2 D.ix (pVar 0) (pVar 2)) (pCons (pOp2 D.ix (pVar 1) (pVar 2)) (pNil)))))) (sRet (pC (.bl false))) (sNil)) (rangeD 0 m.toNat) [some (.ro d), some (.ro d), none] = some (.nx [some (.ro d), some (.ro d), x]) := by
  have e : m.toNat = l.length := by omega
  rw [e]
  obtain ⟨ρ', e, x, rfl⟩ := loop_rng (b := bName 2) (s := (sIf (qNot (qTru (pCall (f__law_same n) (pCons (pOp2 D.ix (pVar 0) (pVar 2)) (pCons (pOp2 D.ix (pVar 1) (pVar 2)) (pNil)))))) (sRet (pC (.bl false))) (sNil)))
    (fun k ρ => ∃ x, ρ = [some (.ro d), some (.ro d), x]) (n := l.length) (ρ0 := [some (.ro d), some (.ro d), none]) ⟨_, rfl⟩ (by
      rintro k ρ hk ⟨x, rfl⟩
      refine ⟨_, ?_, some (.ro (.int k)), rfl⟩
      have h1 : D.ix d (.int k) = some (.ro l[k]) := by rw [hix k hk]; simp [hk]
      have h2 := hl l[k] (List.getElem_mem hk)
      simp [h1, h2])
  exact ⟨x, e⟩
theorem same_tup (n : Nat) (l : List D) (m : Int) (h1 : D.len [.tup l] = some (.ro (.int m))) (h2 : smallI m = true) (x : Option C) (e : loopL (bName 2) (sIf (qNot (qTru (pCall (f__law_same n) (pCons (pOp2 D.ix (pVar 0) (pVar 2)) (pCons (pOp2 D.ix (pVar 1) (pVar 2)) (pNil)))))) (sRet (pC (.bl false))) (sNil)) (rangeD 0 m.toNat) [some (.ro (.tup l)), some (.ro (.tup l)), none] = some (.nx [some (.ro (.tup l)), some (.ro (.tup l)), x])) :
    f__law_same (n + 1) [.tup l, .tup l] = some (.ro (.bl true)) := by
  simp [f__law_same, runDef, p__law_same, h1, h2, e, -o_lenT]
theorem same_lst (n : Nat) (l : List D) (m : Int) (h1 : D.len [.lst l] = some (.ro (.int m))) (h2 : smallI m = true) (x : Option C) (e : loopL (bName 2) (sIf (qNot (qTru (pCall (f__law_same n) (pCons (pOp2 D.ix (pVar 0) (pVar 2)) (pCons (pOp2 D.ix (pVar 1) (pVar 2)) (pNil)))))) (sRet (pC (.bl false))) (sNil)) (rangeD 0 m.toNat) [some (.ro (.lst l)), some (.ro (.lst l)), none] = some (.nx [some (.ro (.lst l)), some (.ro (.lst l)), x])) :
    f__law_same (n + 1) [.lst l, .lst l] = some (.ro (.bl true)) := by
  simp [f__law_same, runDef, p__law_same, h1, h2, e, -o_lenL]
theorem same_ok : ∀ (n : Nat) (d : D), Plain n d → f__law_same n [d, d] = some (.ro (.bl true))
  | _, _, .non n => by simp [f__law_same, runDef, p__law_same]
  | _, _, .bl n b => by simp [f__law_same, runDef, p__law_same]
  | _, _, .int n b => by simp [f__law_same, runDef, p__law_same]
  | _, _, .str n b => by simp [f__law_same, runDef, p__law_same]
  | _, _, .tup n l hl hx =>
    (same_loop n (.tup l) l (fun x h => same_ok n x (hx x h)) (fun k hk => by rw [o_ixT, atI_nat hk]) l.length rfl).elim fun x e => same_tup n l l.length o_lenT (smallI_nat hl) x e
  | _, _, .lst n l hl hx =>
    (same_loop n (.lst l) l (fun x h => same_ok n x (hx x h)) (fun k hk => by rw [o_ixL, atI_nat hk]) l.length rfl).elim fun x e => same_lst n l l.length o_lenL (smallI_nat hl) x e

end Pl

namespace Pl
open PySem L2 Dn Mir
theorem join_tx : ∀ cs : List (List Nat), Txt.join (tx []) (cs.map tx) = tx cs.flatten := by
  intro cs
  rw [TL.join_eq]
  induction cs with
  | nil => rfl
  | cons c cs ih =>
    cases cs with
    | nil => simp [Str.join]
    | cons d ds =>
      show tx c ++ tx [] ++ Str.join (tx []) (List.map tx (d :: ds)) = _
      rw [ih, tx_app, tx_app]; simp
theorem strs_tx : ∀ cs : List (List Nat), strsD (cs.map fun c => D.str (tx c)) = some (cs.map tx)
  | [] => rfl
  | c :: cs => by simp [strsD, strs_tx cs]
theorem cut_last (u : List Nat) : cutS (tx (u ++ [10])) none (some (((u ++ [10]).length : Int) - 1)) = tx u := by
  have h : (((u ++ [10]).length : Nat) : Int) - 1 = ((u.length : Nat) : Int) := by simp
  rw [h]
  unfold cutS
  rw [HT.sIx_nat, HT.sIx_none, tx_len, tx_cps]
  show tx _ = _
  rw [tx_inj]; simp
def snd2 : D → D := fun d => match d with
  | .tup [_, y] => y
  | d => d
theorem exp_snd (o : Nat) (cs : List (List Nat)) : (exp o cs).map snd2 = cs.map fun c => .str (tx c) := by
  induction cs generalizing o with
  | nil => rfl
  | cons c cs ih => simp [exp, ih, snd2]
theorem exp_mem {o : Nat} {cs : List (List Nat)} {d : D} (h : d ∈ exp o cs) : ∃ (i : Int) (c : List Nat), d = .tup [.int i, .str (tx c)] := by
  induction cs generalizing o with
  | nil => simp [exp] at h
  | cons c cs ih =>
    simp only [exp, List.mem_cons] at h
    rcases h with rfl | h
    · exact ⟨_, _, rfl⟩
    · exact ih h
def bodyL : S1 := (sSeq (sSet 7 (pOp2 D.add (pOp2 D.add (pOp2 D.add (pCall f__law_char (pCons (pOp2 D.add (pC (.int 1)) (pCallIo f__law_next 1 (pCons (pC (.int 93)) (pNil)))) (pNil))) (pCallIo f__law_line 1 (pNil))) (pC (.str "\n"))) (pCallIo f__law_lines 1 (pCons (pCallIo f__law_next 1 (pCons (pOp2 D.ix (pLst (pCons (pC (.int 4)) (pCons (pC (.int 9)) (pNil)))) (pCallIo f__law_next 1 (pCons (pC (.int 2)) (pNil)))) (pNil))) (pNil)))))
  (sSeq (sIf (qAnd (pB (pOp2 D.eq (pVar 6) (pOp2 D.sub (pVar 5) (pC (.int 1))))) (pB (pOp2 D.eq (pCallIo f__law_next 1 (pCons (pC (.int 2)) (pNil))) (pC (.int 1))))) (sSet 7 (pSl (pVar 7) (oNone) (oSome (pOp2 D.sub (pFun D.len (pCons (pVar 7) (pNil))) (pC (.int 1)))))) (sNil))
  (sSeq (sExpr (pMutL opAppend 3 (pCons (pTup (pCons (pFun D.len (pCons (pVar 2) (pNil))) (pCons (pCap (pVar 7)) (pNil)))) (pNil))))
  (sSet 2 (pOp2 D.add (pVar 2) (pVar 7))))))
def LI (ns : List Int) (P : List Nat) (cnt : Int) (k : Nat) (ρ : Dn.Env) : Prop := ∃ (s : St) (T : List Nat) (cs : List (List Nat)) (x6 x7 : Option C),
  ρ = [some (.ro (.scr ns)), some (.own (enc s)), some (.ro (.str (tx T))), some (.own (.lst (exp P.length cs))), some (.ro (.str (tx P))), some (.ro (.int cnt)), x6, x7, none, none] ∧
  T = P ++ cs.flatten ∧ cs.length = k ∧ T.length ≤ 828 + 1000 * k ∧ st true 0 T = offs P.length cs ∧ ((k : Int) < cnt → en true T = true)
theorem step_L (ns : List Int) (P : List Nat) (cnt : Int) (hc : cnt ≤ 149) (k : Nat) (ρ : Dn.Env) (hk : k < cnt.toNat) (h : LI ns P cnt k ρ) : ∃ ρ2, ((bName 6 (.int k) ρ).bind fun ρ1 => bodyL ρ1) = some (.nx ρ2) ∧ LI ns P cnt (k + 1) ρ2 := by
  obtain ⟨s, T, cs, x6, x7, rfl, hT, hcs, hlen, hst, hen⟩ := h
  have hen := hen (by omega)
  obtain ⟨s1, v, e1, g1, g2⟩ := next_ok s 93 (by decide) (by decide)
  obtain ⟨h, eh, n1, n2⟩ := char_ok (1 + v) (by omega) (by omega)
  have n2 := n2 (by omega)
  obtain ⟨s2, l, e2, hl, hll⟩ := line_ok s1
  obtain ⟨s3, b, e3, g3, g4⟩ := next_ok s2 2 (by decide) (by decide)
  obtain ⟨w, hw, hw0, hw1, hw2⟩ : ∃ w : Int, atI [D.int 4, D.int 9] b = some (.int w) ∧ 0 < w ∧ w ≤ 9 ∧ w < 2 ^ 64 := by
    have : b = 0 ∨ b = 1 := by omega
    rcases this with rfl | rfl
    · exact ⟨4, rfl, by decide, by decide, by decide⟩
    · exact ⟨9, rfl, by decide, by decide, by decide⟩
  obtain ⟨s4, n, e4, g5, g6⟩ := next_ok s3 w hw0 hw2
  obtain ⟨s5, t, e5, ht, htl⟩ := lines_ok s4 n g5 (by omega)
  obtain ⟨c1, c2, u, hu⟩ := chunk_st n1 n2 hl ht
  have hcl : (chunk h l t).length = 1 + (l.length + (1 + t.length)) := by simp [chunk]; omega
  have ul : u.length + 1 = (chunk h l t).length := by rw [hu]; simp
  obtain ⟨m, hm⟩ : ∃ m : Nat, m = T.length := ⟨_, rfl⟩
  have lenT : D.len [.str (tx T)] = some (.ro (.int (T.length : Nat))) := len_tx (by omega)
  have lenC : D.len [.str (tx (chunk h l t))] = some (.ro (.int ((chunk h l t).length : Nat))) := len_tx (by omega)
  have z1 : 1 + l.length ≤ 16777216 := by omega
  have z2 : l.length + 1 + 1 ≤ 16777216 := by omega
  have z3 : l.length + 1 + 1 + t.length ≤ 16777216 := by omega
  have hE : (exp P.length cs).length < 16777216 := by rw [exp_len]; omega
  have hch : tx (h :: (l ++ 10 :: t)) = tx (chunk h l t) := by simp [chunk]
  have off : T.length = P.length + cs.flatten.length := by rw [hT]; simp
  -- the state after the first assignment
  have first : sSet 7 (pOp2 D.add (pOp2 D.add (pOp2 D.add (pCall f__law_char (pCons (pOp2 D.add (pC (.int 1)) (pCallIo f__law_next 1 (pCons (pC (.int 93)) (pNil)))) (pNil))) (pCallIo f__law_line 1 (pNil))) (pC (.str "\n"))) (pCallIo f__law_lines 1 (pCons (pCallIo f__law_next 1 (pCons (pOp2 D.ix (pLst (pCons (pC (.int 4)) (pCons (pC (.int 9)) (pNil)))) (pCallIo f__law_next 1 (pCons (pC (.int 2)) (pNil)))) (pNil))) (pNil))))
      [some (.ro (.scr ns)), some (.own (enc s)), some (.ro (.str (tx T))), some (.own (.lst (exp P.length cs))), some (.ro (.str (tx P))), some (.ro (.int cnt)), some (.ro (.int k)), x7, none, none]
      = some (.nx [some (.ro (.scr ns)), some (.own (enc s5)), some (.ro (.str (tx T))), some (.own (.lst (exp P.length cs))), some (.ro (.str (tx P))), some (.ro (.int cnt)), some (.ro (.int k)), some (.ro (.str (tx (chunk h l t)))), none, none]) := by
    simp [e1, eh, e2, e3, hw, e4, e5, s10, tx_app, tx_len, hch, z1, z2, z3]
  -- the two ends
  have last : ∀ (s' : St) (c : List Nat), (c = chunk h l t ∨ c = u) → (T.length + c.length ≤ 16777216) → ((sSeq (sExpr (pMutL opAppend 3 (pCons (pTup (pCons (pFun D.len (pCons (pVar 2) (pNil))) (pCons (pCap (pVar 7)) (pNil)))) (pNil))))
      (sSet 2 (pOp2 D.add (pVar 2) (pVar 7)))) [some (.ro (.scr ns)), some (.own (enc s')), some (.ro (.str (tx T))), some (.own (.lst (exp P.length cs))), some (.ro (.str (tx P))), some (.ro (.int cnt)), some (.ro (.int k)), some (.ro (.str (tx c))), none, none])
      = some (.nx [some (.ro (.scr ns)), some (.own (enc s')), some (.ro (.str (tx (T ++ c)))), some (.own (.lst (exp P.length (cs ++ [c])))), some (.ro (.str (tx P))), some (.ro (.int cnt)), some (.ro (.int k)), some (.ro (.str (tx c))), none, none]) := by
    intro s' c _ hz
    rw [exp_app, ← off]
    simp [lenT, hE, tx_app, tx_len, hz, -o_lenS]
  have done : ∀ (s' : St) (c : List Nat), (c = chunk h l t ∨ (c = u ∧ (k : Int) = cnt - 1)) → LI ns P cnt (k + 1) [some (.ro (.scr ns)), some (.own (enc s')), some (.ro (.str (tx (T ++ c)))), some (.own (.lst (exp P.length (cs ++ [c])))), some (.ro (.str (tx P))), some (.ro (.int cnt)), some (.ro (.int k)), some (.ro (.str (tx c))), none, none] := by
    intro s' c hcc
    have cl : c.length ≤ 1000 := by rcases hcc with rfl | ⟨rfl, _⟩ <;> omega
    refine ⟨s', T ++ c, cs ++ [c], _, _, rfl, by rw [hT]; simp, by simp [hcs], by rw [List.length_append]; omega, ?_, ?_⟩
    · rw [st_app, hst, hen, offs_app]
      rw [Nat.zero_add, off]
      congr 1
      rcases hcc with rfl | ⟨rfl, _⟩
      · exact c1 _
      · rw [← st_snoc10, ← hu]; exact c1 _
    · intro hk2
      rcases hcc with rfl | ⟨rfl, hk3⟩
      · rw [en_app, hen]; exact c2
      · exfalso; omega
  by_cases hq : (k : Int) = cnt - 1
  · obtain ⟨s6, v6, e6, _, _⟩ := next_ok s5 2 (by decide) (by decide)
    by_cases hv : v6 = 1
    · refine ⟨_, ?_, done s6 u (.inr ⟨rfl, hq⟩)⟩
      have hcut := cut_last u
      rw [← hu] at hcut
      have lenC' : (chunk h l t).length ≤ 16777216 := by omega
      have l1 := last s6 u (.inr rfl) (by omega)
      simp only [v_bName, v_setE, List.length_cons, List.length_nil, if_true, List.set_cons_succ, List.set_cons_zero, Option.bind_some, bodyL]
      rw [if_pos (by decide), Option.bind_some, v_sSeq, first, Option.bind_some, v_sqn, v_sSeq]
      have mid : sIf (qAnd (pB (pOp2 D.eq (pVar 6) (pOp2 D.sub (pVar 5) (pC (.int 1))))) (pB (pOp2 D.eq (pCallIo f__law_next 1 (pCons (pC (.int 2)) (pNil))) (pC (.int 1))))) (sSet 7 (pSl (pVar 7) (oNone) (oSome (pOp2 D.sub (pFun D.len (pCons (pVar 7) (pNil))) (pC (.int 1)))))) (sNil)
        [some (.ro (.scr ns)), some (.own (enc s5)), some (.ro (.str (tx T))), some (.own (.lst (exp P.length cs))), some (.ro (.str (tx P))), some (.ro (.int cnt)), some (.ro (.int k)), some (.ro (.str (tx (chunk h l t)))), none, none]
        = some (.nx [some (.ro (.scr ns)), some (.own (enc s6)), some (.ro (.str (tx T))), some (.own (.lst (exp P.length cs))), some (.ro (.str (tx P))), some (.ro (.int cnt)), some (.ro (.int k)), some (.ro (.str (tx u))), none, none]) := by
        simp [hq, e6, hv, lenC, hcut, lenC', tx_len, -o_lenS]
      rw [mid, Option.bind_some, v_sqn, l1]
    · refine ⟨_, ?_, done s6 (chunk h l t) (.inl rfl)⟩
      have l1 := last s6 (chunk h l t) (.inl rfl) (by omega)
      simp only [v_bName, v_setE, List.length_cons, List.length_nil, if_true, List.set_cons_succ, List.set_cons_zero, Option.bind_some, bodyL]
      rw [if_pos (by decide), Option.bind_some, v_sSeq, first, Option.bind_some, v_sqn, v_sSeq]
      have mid : sIf (qAnd (pB (pOp2 D.eq (pVar 6) (pOp2 D.sub (pVar 5) (pC (.int 1))))) (pB (pOp2 D.eq (pCallIo f__law_next 1 (pCons (pC (.int 2)) (pNil))) (pC (.int 1))))) (sSet 7 (pSl (pVar 7) (oNone) (oSome (pOp2 D.sub (pFun D.len (pCons (pVar 7) (pNil))) (pC (.int 1)))))) (sNil)
        [some (.ro (.scr ns)), some (.own (enc s5)), some (.ro (.str (tx T))), some (.own (.lst (exp P.length cs))), some (.ro (.str (tx P))), some (.ro (.int cnt)), some (.ro (.int k)), some (.ro (.str (tx (chunk h l t)))), none, none]
        = some (.nx [some (.ro (.scr ns)), some (.own (enc s6)), some (.ro (.str (tx T))), some (.own (.lst (exp P.length cs))), some (.ro (.str (tx P))), some (.ro (.int cnt)), some (.ro (.int k)), some (.ro (.str (tx (chunk h l t)))), none, none]) := by
        simp [hq, e6, hv]
      rw [mid, Option.bind_some, v_sqn, l1]
  · refine ⟨_, ?_, done s5 (chunk h l t) (.inl rfl)⟩
    have l1 := last s5 (chunk h l t) (.inl rfl) (by omega)
    simp only [v_bName, v_setE, List.length_cons, List.length_nil, if_true, List.set_cons_succ, List.set_cons_zero, Option.bind_some, bodyL]
    rw [if_pos (by decide), Option.bind_some, v_sSeq, first, Option.bind_some, v_sqn, v_sSeq]
    have mid : sIf (qAnd (pB (pOp2 D.eq (pVar 6) (pOp2 D.sub (pVar 5) (pC (.int 1))))) (pB (pOp2 D.eq (pCallIo f__law_next 1 (pCons (pC (.int 2)) (pNil))) (pC (.int 1))))) (sSet 7 (pSl (pVar 7) (oNone) (oSome (pOp2 D.sub (pFun D.len (pCons (pVar 7) (pNil))) (pC (.int 1)))))) (sNil)
      [some (.ro (.scr ns)), some (.own (enc s5)), some (.ro (.str (tx T))), some (.own (.lst (exp P.length cs))), some (.ro (.str (tx P))), some (.ro (.int cnt)), some (.ro (.int k)), some (.ro (.str (tx (chunk h l t)))), none, none]
      = some (.nx [some (.ro (.scr ns)), some (.own (enc s5)), some (.ro (.str (tx T))), some (.own (.lst (exp P.length cs))), some (.ro (.str (tx P))), some (.ro (.int cnt)), some (.ro (.int k)), some (.ro (.str (tx (chunk h l t)))), none, none]) := by
      simp [hq]
    rw [mid, Option.bind_some, v_sqn, l1]
def tailL : S1 := sSeq (sFor (iRange1 (pCons (pVar 5) (pNil))) (bName 6) bodyL)
  (sSeq (sSet 8 (pCall f_chunks (pCons (pVar 2) (pNil))))
  (sSeq (sIf (qNot (qTru (pCall (f__law_same 12) (pCons (pVar 8) (pCons (pVar 3) (pNil)))))) (sRet (pC (.bl false))) (sNil))
  (sRet (pOp2 D.eq (pOp2 D.add (pVar 4) (pM1 D.join (pC (.str "")) (pLc (iSeq (pVar 8)) [9, 7] (bSeq 2 (bCons (bName 9) (bCons (bName 7) (bNil)))) (qYes) (pCap (pVar 7))))) (pVar 2)))))
theorem law_end (ns : List Int) (s0' : St) (P : List Nat) (cnt : Int) (hP : P.length ≤ 828) (hL : Lin P) (h0 : 0 ≤ cnt) (h1 : cnt ≤ 149) :
    ∃ ρ, tailL [some (.ro (.scr ns)), some (.own (enc s0')), some (.ro (.str (tx P))), some (.own (.lst [])), some (.ro (.str (tx P))), some (.ro (.int cnt)), none, none, none, none] = some (.rt (.ro (.bl true)) ρ) := by
  obtain ⟨ρ', el, s, T, cs, x6, x7, rfl, hT, hcs, hlen, hst, _⟩ := loop_rng (b := bName 6) (s := bodyL) (LI ns P cnt) (n := cnt.toNat)
    (ρ0 := [some (.ro (.scr ns)), some (.own (enc s0')), some (.ro (.str (tx P))), some (.own (.lst [])), some (.ro (.str (tx P))), some (.ro (.int cnt)), none, none, none, none])
    ⟨s0', P, [], none, none, rfl, by simp, rfl, by omega, by rw [hL.st.1]; rfl, fun _ => hL.st.2⟩ (fun k ρ hk h => step_L ns P cnt h1 k ρ hk h)
  have hsm : smallI cnt = true := decide_eq_true (by omega)
  have hc := chunks_ok T P cs (by omega) hT hst (by omega)
  have hpl : Plain 12 (.lst (exp P.length cs)) := .lst 11 _ (by rw [exp_len]; omega) fun d hd => by
    obtain ⟨i, c, rfl⟩ := exp_mem hd
    refine .tup 10 _ (by simp) fun y hy => ?_
    simp only [List.mem_cons, List.not_mem_nil, or_false] at hy
    rcases hy with rfl | rfl
    · exact .int 9 _
    · exact .str 9 _
  have hs := same_ok 12 _ hpl
  unfold tailL
  generalize f__law_same 12 = same at hs ⊢
  have key : loopC [9, 7] (bSeq 2 (bCons (bName 9) (bCons (bName 7) (bNil)))) (qYes) (pCap (pVar 7)) (exp P.length cs)
      [some (.ro (.scr ns)), some (.own (enc s)), some (.ro (.str (tx T))), some (.own (.lst (exp P.length cs))), some (.ro (.str (tx P))), some (.ro (.int cnt)), x6, none, some (.ro (.lst (exp P.length cs))), none] =
      some (cs.map (fun c => .str (tx c)), [some (.ro (.scr ns)), some (.own (enc s)), some (.ro (.str (tx T))), some (.own (.lst (exp P.length cs))), some (.ro (.str (tx P))), some (.ro (.int cnt)), x6, none, some (.ro (.lst (exp P.length cs))), none]) := by
    rw [← exp_snd P.length cs]
    apply loopC_map
    intro d hd
    obtain ⟨i, c, rfl⟩ := exp_mem hd
    simp [bodyC, snd2]
  have hel : (exp P.length cs).length ≤ 16777216 := by rw [exp_len]; omega
  have fl : cs.flatten.length ≤ T.length := by rw [hT]; simp
  have hsum : (List.map (fun x => x.length) (List.map tx cs)).sum = cs.flatten.length := by
    rw [List.map_map, List.length_flatten]; congr 1
  have hj : D.join [.str (tx []), .lst (cs.map fun c => .str (tx c))] = some (.ro (.str (tx cs.flatten))) := by
    have : (cs.map tx).length * (tx []).length = 0 := by rw [tx_len]; rfl
    simp only [D.join, strs_tx, Option.bind_some, hsum, this]
    rw [if_pos (decide_eq_true (by omega)), join_tx]
  have hz : P.length + cs.flatten.length ≤ 16777216 := by
    have : T.length = P.length + cs.flatten.length := by rw [hT]; simp
    omega
  have hcl : (C.ro (.bl true)).clean = true := rfl
  refine ⟨[some (.ro (.scr ns)), some (.own (enc s)), some (.ro (.str (tx T))), some (.own (.lst (exp P.length cs))), some (.ro (.str (tx P))), some (.ro (.int cnt)), x6, none, some (.ro (.lst (exp P.length cs))), none], ?_⟩
  simp [hsm, el, hc, hs, key, hel, pM1, s0, hj, hz, tx_app, tx_len, ← hT, tx_inj, hcl, -List.length_flatten]
theorem p_split : p_law = sSeq (sSet 1 (pLst (pCons (pFun D.toList (pCons (pVar 0) (pNil))) (pCons (pC (.int 0)) (pCons (pC (.int 0)) (pCons (pC (.int 1)) (pNil)))))))
  (sSeq (sSet 2 (pCallIo f__law_lines 1 (pCons (pCallIo f__law_next 1 (pCons (pC (.int 4)) (pNil))) (pNil))))
  (sSeq (sSet 3 (pLst (pNil)))
  (sSeq (sSet 4 (pVar 2))
  (sSeq (sSet 5 (pCallIo f__law_next 1 (pCons (pC (.int 13)) (pNil))))
  (sSeq (sIf (pB (pOp2 D.eq (pCallIo f__law_next 1 (pCons (pC (.int 6)) (pNil))) (pC (.int 5)))) (sSet 5 (pOp2 D.add (pC (.int 60)) (pCallIo f__law_next 1 (pCons (pC (.int 90)) (pNil))))) (sNil))
  tailL))))) := rfl
theorem law_ok (ns : List Int) : f_law [.scr ns] = some (.ro (.bl true)) := by
  obtain ⟨s1, a, e1, _, _⟩ := next_ok ⟨ns, 0, 0, 1, by simp, by simp⟩ 4 (by decide) (by decide)
  obtain ⟨s2, P, e2, hL, hPl⟩ := lines_ok s1 a (by omega) (by omega)
  obtain ⟨s3, b, e3, hb0, hb1⟩ := next_ok s2 13 (by decide) (by decide)
  obtain ⟨s4, c, e4, _, _⟩ := next_ok s3 6 (by decide) (by decide)
  obtain ⟨s5, d, e5, hd0, hd1⟩ := next_ok s4 90 (by decide) (by decide)
  have e1' : f__law_next (.lst [.lst (ns.map .int), .int 0, .int 0, .int 1]) [.int 4] = some (.ro (.int a), enc s1) := e1
  by_cases h5 : c = 5
  · obtain ⟨ρ, e⟩ := law_end ns s5 P (60 + d) (by omega) hL (by omega) (by omega)
    simp only [f_law, runDef, p_split]
    simp [e1', e2, e3, e4, h5, e5, e]
  · obtain ⟨ρ, e⟩ := law_end ns s4 P b (by omega) hL (by omega) (by omega)
    simp only [f_law, runDef, p_split]
    simp [e1', e2, e3, e4, h5, e5, e]
end Pl



namespace Wlk
open PySem PySem.Spec PyProof.Rows L2 Dn Mir
def top (i : Nat) : Stmt := PySem.Challenge.pw_waywhole_k09_chunks_of_a_text.main.body.getD i (.Pass ⟨0, 0, 0, 0⟩)
abbrev FnP (K : PySem.W.Frag) (x : Str) (st : Stmt) (f : Addr) (fd : FuncData) : Prop := FunD K x x (defArgs st) (defBody st) (defScope st) [] [] f fd
structure Bi (mg : Str → Option Value) : Prop where
  b_bool : mg "bool" = none
  b_int : mg "int" = none
  b_isinstance : mg "isinstance" = none
  b_len : mg "len" = none
  b_list : mg "list" = none
  b_range : mg "range" = none
  b_str : mg "str" = none
  b_tuple : mg "tuple" = none
  b_zip : mg "zip" = none
variable {P : Program} {w : World} {K : PySem.W.Frag} {mg : Str → Option Value} {base : Heap}
theorem sc_5 : FnScope ["actual", "expected", "k"] ["actual", "expected"] (defScope (top 5)) := ⟨rfl, rfl, rfl, by decide +kernel, rfl, by decide +kernel, by decide +kernel⟩
theorem ok__law_same {f : Addr} {fd : FuncData} (Fn : FnP K "_law_same" (top 5) f fd) (B : Bi mg) (kp : PySem.W.keepIn K (.ref f) = true) (gm : mg "_law_same" = some (.ref f)) : ∀ n, FnOk P w K mg base CX0 (0 + n) f fd ["actual", "expected"] (Sp0 K (f__law_same n))
  | 0 => ⟨fun vs H Q E h => (let ⟨N, ds, c, r, e, _⟩ := h; nomatch e), fun A outer s H args us vs Q E _ _ _ _ h => (let ⟨N, ds, c, r, e, _⟩ := h; nomatch e)⟩
  | m + 1 => by
    have crec : Cal P w K mg base "_law_same" (0 + m) ["actual", "expected"] (Sp0 K (f__law_same m)) := ⟨f, fd, gm, kp, Fn.bindsN (fun _ _ _ _ _ _ us hl => match us, hl with | [_, _], _ => rfl), ok__law_same Fn B kp gm m⟩
    exact ok_def Fn sc_5 3 2 rfl rfl fun F cdv A outer s0 H E hK hr => dss_cons (ds_if (dt_cmp op_isN s_isN (de_v 1) (de_non) (nomark _)) (dss_one (ds_ret (de_cmp op_isN s_isN (de_v 0) (de_non) (nomark _)))) (dss_nil)) (dss_cons (ds_if (dt_tru hK (de_isi hK rfl B.b_isinstance (da_cons (de_v 1) (da_cons (de_ty rfl B.b_bool PyProof.Rows.boot_bool) (da_nil))))) (dss_one (ds_ret (de_andT hK (de_isi hK rfl B.b_isinstance (da_cons (de_v 0) (da_cons (de_ty rfl B.b_bool PyProof.Rows.boot_bool) (da_nil)))) (de_one (de_cmp op_eq s_eq (de_v 0) (de_v 1) (nomark _)))))) (dss_nil)) (dss_cons (ds_if (dt_tru hK (de_isi hK rfl B.b_isinstance (da_cons (de_v 1) (da_cons (de_ty rfl B.b_int PyProof.Rows.boot_int) (da_nil))))) (dss_one (ds_ret (de_andT hK (de_isi hK rfl B.b_isinstance (da_cons (de_v 0) (da_cons (de_ty rfl B.b_int PyProof.Rows.boot_int) (da_nil)))) (de_andT hK (de_notT hK (de_isi hK rfl B.b_isinstance (da_cons (de_v 0) (da_cons (de_ty rfl B.b_bool PyProof.Rows.boot_bool) (da_nil))))) (de_one (de_cmp op_eq s_eq (de_v 0) (de_v 1) (nomark _))))))) (dss_nil)) (dss_cons (ds_if (dt_tru hK (de_isi hK rfl B.b_isinstance (da_cons (de_v 1) (da_cons (de_ty rfl B.b_str PyProof.Rows.boot_str) (da_nil))))) (dss_one (ds_ret (de_andT hK (de_isi hK rfl B.b_isinstance (da_cons (de_v 0) (da_cons (de_ty rfl B.b_str PyProof.Rows.boot_str) (da_nil)))) (de_one (de_cmp op_eq s_eq (de_v 0) (de_v 1) (nomark _)))))) (dss_nil)) (dss_cons (ds_if (dt_w (dw_and (dt_tru hK (de_isi hK rfl B.b_isinstance (da_cons (de_v 1) (da_cons (de_ty rfl B.b_tuple PyProof.Rows.boot_tuple) (da_nil))))) (dw_and1 (dt_not (dt_tru hK (de_isi hK rfl B.b_isinstance (da_cons (de_v 0) (da_cons (de_ty rfl B.b_tuple PyProof.Rows.boot_tuple) (da_nil))))))))) (dss_one (ds_ret (de_bl))) (dss_nil)) (dss_cons (ds_if (dt_w (dw_and (dt_tru hK (de_isi hK rfl B.b_isinstance (da_cons (de_v 1) (da_cons (de_ty rfl B.b_list PyProof.Rows.boot_list) (da_nil))))) (dw_and1 (dt_not (dt_tru hK (de_isi hK rfl B.b_isinstance (da_cons (de_v 0) (da_cons (de_ty rfl B.b_list PyProof.Rows.boot_list) (da_nil))))))))) (dss_one (ds_ret (de_bl))) (dss_nil)) (dss_cons (ds_if (dt_cmp op_ne s_ne (de_len hK rfl B.b_len (da_cons (de_v 0) (da_nil))) (de_len hK rfl B.b_len (da_cons (de_v 1) (da_nil))) (nomark _)) (dss_one (ds_ret (de_bl))) (dss_nil)) (dss_cons (ds_for PassesOwn.never rfl (di_range1 rfl B.b_range (da_cons (de_len hK rfl B.b_len (da_cons (de_v 1) (da_nil))) (da_nil))) (dg_name sc_5.nd rfl (by first | exact Or.inl rfl | exact Or.inr rfl)) (dss_one (ds_if (dt_not (dt_tru hK (de_do hK crec hr (Nat.le_refl _) rfl (da_cons (de_item hK (de_v 0) (de_v 2)) (da_cons (de_item hK (de_v 1) (de_v 2)) (da_nil)))))) (dss_one (ds_ret (de_bl))) (dss_nil)))) (dss_one (ds_ret (de_bl))))))))))
theorem sc_1 : FnScope ["text", "found", "position"] ["text"] (defScope (top 1)) := ⟨rfl, rfl, rfl, by decide +kernel, rfl, by decide +kernel, by decide +kernel⟩
theorem ok_line_starts {f : Addr} {fd : FuncData} (Fn : FnP K "line_starts" (top 1) f fd) (B : Bi mg) : FnOk P w K mg base CX0 1 f fd ["text"] (Sp0 K f_line_starts) :=
  ok_def Fn sc_1 3 1 rfl rfl fun F cdv A outer s0 H E hK hr => dss_cons (ds_set (i := 1) sc_1.nd rfl (Or.inl rfl) (de_lst (da_nil))) (dss_cons (ds_for PassesOwn.never rfl (di_range1 rfl B.b_range (da_cons (de_len hK rfl B.b_len (da_cons (de_v 0) (da_nil))) (da_nil))) (dg_name sc_1.nd rfl (by first | exact Or.inl rfl | exact Or.inr rfl)) (dss_one (ds_if (dt_w (dw_and (dt_nin hK (de_item hK (de_v 0) (de_v 2)) (de_tup (da_cons (de_str) (da_cons (de_str) (da_nil))))) (dw_and1 (dt_w (dw_or (dt_cmp op_eq s_eq (de_v 2) (de_int) (nomark _)) (dw_or1 (dt_cmp op_eq s_eq (de_item hK (de_v 0) (de_sub (de_v 2) (de_int))) (de_str) (nomark _)))))))) (dss_one (ds_expr (de_lm hK PySem.F.slot_list_append PySem.F.type_list_append mt_append s_append (pv 1) (da_cons (de_cap (de_v 2)) (da_nil))))) (dss_nil)))) (dss_one (ds_ret (de_v 1))))
theorem sc_2 : FnScope ["text", "starts", "ends", "start", "end"] ["text"] (defScope (top 2)) := ⟨rfl, rfl, rfl, by decide +kernel, rfl, by decide +kernel, by decide +kernel⟩
theorem ok_chunks {f : Addr} {fd : FuncData} (Fn : FnP K "chunks" (top 2) f fd) (B : Bi mg) (c_line_starts : Cal P w K mg base "line_starts" 1 ["text"] (Sp0 K f_line_starts)) : FnOk P w K mg base CX0 2 f fd ["text"] (Sp0 K f_chunks) :=
  ok_def Fn sc_2 5 1 rfl rfl fun F cdv A outer s0 H E hK hr => dss_cons (ds_set (i := 1) sc_2.nd rfl (Or.inl rfl) (de_do hK c_line_starts hr (by omega) rfl (da_cons (de_v 0) (da_nil)))) (dss_cons (ds_set (i := 2) sc_2.nd rfl (Or.inl rfl) (de_add (de_sl hK (de_v 1) (do_some (de_int)) (do_none)) (de_lst (da_cons (de_len hK rfl B.b_len (da_cons (de_v 0) (da_nil))) (da_nil))) hK)) (dss_one (ds_ret (de_lc rfl sc_2.nd (di_zip hK rfl B.b_zip (da_cons (de_cap (de_v 1)) (da_cons (de_cap (de_v 2)) (da_nil)))) (blkOk_by (own := [("start", 3), ("end", 4)]) (N := ["text", "starts", "ends", "start", "end"]) (sc := defScope (top 2)) (by decide +kernel)) (fun _ _ _ _ _ => dg_seq hK rfl (dgs_cons (dg_name sc_2.nd rfl (by first | exact Or.inl rfl | exact Or.inr rfl)) (dgs_cons (dg_name sc_2.nd rfl (by first | exact Or.inl rfl | exact Or.inr rfl)) (dgs_nil)))) (fun _ _ _ _ _ => dts_nil) (fun _ _ _ _ _ => de_tup (da_cons (de_cap (de_v 3)) (da_cons (de_sl hK (de_v 0) (do_some (de_v 3)) (do_some (de_v 4))) (da_nil)))) (by decide)))))
theorem sc_4 : FnScope ["state", "limit", "cell", "value"] ["state", "limit"] (defScope (top 4)) := ⟨rfl, rfl, rfl, by decide +kernel, rfl, by decide +kernel, by decide +kernel⟩
theorem ok__law_next {f : Addr} {fd : FuncData} (Fn : FnP K "_law_next" (top 4) f fd) (B : Bi mg) : FnOk P w K mg base CX0 1 f fd ["state", "limit"] (SpIo K f__law_next) :=
  ok_io Fn sc_4 4 2 rfl rfl fun F cdv A outer s0 H E hK hr => dss_cons (ds_if (dt_w (dw_and (dt_cmp op_eq s_eq (de_item hK (de_v 0) (de_int)) (de_int) (nomark _)) (dw_and1 (dt_cmp o_lt s_lt (de_item hK (de_v 0) (de_int)) (de_len hK rfl B.b_len (da_cons (de_item hK (de_v 0) (de_int)) (da_nil))) (nomark _))))) (dss_cons (ds_set (i := 2) sc_4.nd rfl (Or.inl rfl) (de_item hK (de_item hK (de_v 0) (de_int)) (de_item hK (de_v 0) (de_int)))) (dss_cons (ds_iaddIx hK (pv 0) (de_int) (de_int)) (dss_one (ds_if (dt_cmp op_ge s_ge (de_v 2) (de_pow (de_int) (de_int)) (nomark _)) (dss_one (ds_setIx (de_v 2) (pv 0) (de_int))) (dss_one (ds_setIx (de_mod (de_toInt rfl B.b_int (da_cons (de_add (de_add (de_mul (de_item hK (de_v 0) (de_int)) (de_int)) (de_mod (de_toInt rfl B.b_int (da_cons (de_v 2) (da_nil))) (de_int)) hK) (de_int) hK) (da_nil))) (de_int)) (pv 0) (de_int))))))) (dss_nil)) (dss_cons (ds_if (dt_cmp op_gt s_gt (de_item hK (de_v 0) (de_int)) (de_int) (nomark _)) (dss_cons (ds_set (i := 3) sc_4.nd rfl (Or.inl rfl) (de_mod (de_toInt rfl B.b_int (da_cons (de_item hK (de_v 0) (de_int)) (da_nil))) (de_v 1))) (dss_cons (ds_setIx (de_fdiv (de_item hK (de_v 0) (de_int)) (de_v 1)) (pv 0) (de_int)) (dss_one (ds_ret (de_v 3))))) (dss_nil)) (dss_cons (ds_setIx (de_mod (de_toInt rfl B.b_int (da_cons (de_add (de_mul (de_item hK (de_v 0) (de_int)) (de_int)) (de_int) hK) (da_nil))) (de_int)) (pv 0) (de_int)) (dss_one (ds_ret (de_mod (de_toInt rfl B.b_int (da_cons (de_fdiv (de_item hK (de_v 0) (de_int)) (de_int)) (da_nil))) (de_v 1))))))
theorem sc_6 : FnScope ["index", "chars"] ["index"] (defScope (top 6)) := ⟨rfl, rfl, rfl, by decide +kernel, rfl, by decide +kernel, by decide +kernel⟩
theorem ok__law_char {f : Addr} {fd : FuncData} (Fn : FnP K "_law_char" (top 6) f fd) (B : Bi mg) : FnOk P w K mg base CX0 1 f fd ["index"] (Sp0 K f__law_char) :=
  ok_def Fn sc_6 2 1 rfl rfl fun F cdv A outer s0 H E hK hr => dss_cons (ds_set (i := 1) sc_6.nd rfl (Or.inl rfl) (de_str)) (dss_cons (ds_set (i := 1) sc_6.nd rfl (Or.inl rfl) (de_add (de_v 1) (de_str) hK)) (dss_one (ds_ret (de_item hK (de_v 1) (de_mod (de_toInt rfl B.b_int (da_cons (de_v 0) (da_nil))) (de_int))))))
theorem sc_7 : FnScope ["state", "line", "k"] ["state"] (defScope (top 7)) := ⟨rfl, rfl, rfl, by decide +kernel, rfl, by decide +kernel, by decide +kernel⟩
theorem ok__law_line {f : Addr} {fd : FuncData} (Fn : FnP K "_law_line" (top 7) f fd) (B : Bi mg) (c__law_next : Cal P w K mg base "_law_next" 1 ["state", "limit"] (SpIo K f__law_next)) (c__law_char : Cal P w K mg base "_law_char" 1 ["index"] (Sp0 K f__law_char)) : FnOk P w K mg base CX0 2 f fd ["state"] (SpIo K f__law_line) :=
  ok_io Fn sc_7 3 1 rfl rfl fun F cdv A outer s0 H E hK hr => dss_cons (ds_set (i := 1) sc_7.nd rfl (Or.inl rfl) (de_str)) (dss_cons (ds_for PassesOwn.never rfl (di_range1 rfl B.b_range (da_cons (de_doIo hK c__law_next hr (by decide) rfl (pv 0) (da_cons (de_item hK (de_lst (da_cons (de_int) (da_cons (de_int) (da_cons (de_int) (da_cons (de_int) (da_nil)))))) (de_doIo hK c__law_next hr (by decide) rfl (pv 0) (da_cons (de_int) (da_nil)))) (da_nil))) (da_nil))) (dg_name sc_7.nd rfl (by first | exact Or.inl rfl | exact Or.inr rfl)) (dss_one (ds_set (i := 1) sc_7.nd rfl (Or.inl rfl) (de_add (de_v 1) (de_do hK c__law_char hr (by omega) rfl (da_cons (de_doIo hK c__law_next hr (by decide) rfl (pv 0) (da_cons (de_int) (da_nil))) (da_nil))) hK)))) (dss_one (ds_ret (de_v 1))))
theorem sc_8 : FnScope ["state", "count", "text", "k"] ["state", "count"] (defScope (top 8)) := ⟨rfl, rfl, rfl, by decide +kernel, rfl, by decide +kernel, by decide +kernel⟩
theorem ok__law_lines {f : Addr} {fd : FuncData} (Fn : FnP K "_law_lines" (top 8) f fd) (B : Bi mg) (c__law_next : Cal P w K mg base "_law_next" 1 ["state", "limit"] (SpIo K f__law_next)) (c__law_line : Cal P w K mg base "_law_line" 2 ["state"] (SpIo K f__law_line)) : FnOk P w K mg base CX0 3 f fd ["state", "count"] (SpIo K f__law_lines) :=
  ok_io Fn sc_8 4 2 rfl rfl fun F cdv A outer s0 H E hK hr => dss_cons (ds_set (i := 2) sc_8.nd rfl (Or.inl rfl) (de_str)) (dss_cons (ds_for PassesOwn.never rfl (di_range1 rfl B.b_range (da_cons (de_v 1) (da_nil))) (dg_name sc_8.nd rfl (by first | exact Or.inl rfl | exact Or.inr rfl)) (dss_cons (ds_if (dt_cmp op_gt s_gt (de_doIo hK c__law_next hr (by decide) rfl (pv 0) (da_cons (de_int) (da_nil))) (de_int) (nomark _)) (dss_one (ds_set (i := 2) sc_8.nd rfl (Or.inl rfl) (de_add (de_add (de_v 2) (de_str) hK) (de_doIo hK c__law_line hr (by decide) rfl (pv 0) (da_nil)) hK))) (dss_nil)) (dss_one (ds_set (i := 2) sc_8.nd rfl (Or.inl rfl) (de_add (de_v 2) (de_str) hK))))) (dss_one (ds_ret (de_v 2))))
theorem sc_9 : FnScope ["script", "state", "text", "expected", "before", "count", "k", "chunk", "actual", "position"] ["script"] (defScope (top 9)) := ⟨rfl, rfl, rfl, by decide +kernel, rfl, by decide +kernel, by decide +kernel⟩
theorem ok_law {f : Addr} {fd : FuncData} (Fn : FnP K "law" (top 9) f fd) (B : Bi mg) (c__law_same : Cal P w K mg base "_law_same" 12 ["actual", "expected"] (Sp0 K (f__law_same 12))) (c_chunks : Cal P w K mg base "chunks" 2 ["text"] (Sp0 K f_chunks)) (c__law_next : Cal P w K mg base "_law_next" 1 ["state", "limit"] (SpIo K f__law_next)) (c__law_char : Cal P w K mg base "_law_char" 1 ["index"] (Sp0 K f__law_char)) (c__law_line : Cal P w K mg base "_law_line" 2 ["state"] (SpIo K f__law_line)) (c__law_lines : Cal P w K mg base "_law_lines" 3 ["state", "count"] (SpIo K f__law_lines)) : FnOk P w K mg base CX0 13 f fd ["script"] (Sp0 K f_law) :=
  ok_def Fn sc_9 10 1 rfl rfl fun F cdv A outer s0 H E hK hr => dss_cons (ds_set (i := 1) sc_9.nd rfl (Or.inl rfl) (de_lst (da_cons (de_toList hK rfl B.b_list (da_cons (de_v 0) (da_nil))) (da_cons (de_int) (da_cons (de_int) (da_cons (de_int) (da_nil))))))) (dss_cons (ds_set (i := 2) sc_9.nd rfl (Or.inl rfl) (de_doIo hK c__law_lines hr (by decide) rfl (pv 1) (da_cons (de_doIo hK c__law_next hr (by decide) rfl (pv 1) (da_cons (de_int) (da_nil))) (da_nil)))) (dss_cons (ds_set (i := 3) sc_9.nd rfl (Or.inl rfl) (de_lst (da_nil))) (dss_cons (ds_set (i := 4) sc_9.nd rfl (Or.inl rfl) (de_v 2)) (dss_cons (ds_set (i := 5) sc_9.nd rfl (Or.inl rfl) (de_doIo hK c__law_next hr (by decide) rfl (pv 1) (da_cons (de_int) (da_nil)))) (dss_cons (ds_if (dt_cmp op_eq s_eq (de_doIo hK c__law_next hr (by decide) rfl (pv 1) (da_cons (de_int) (da_nil))) (de_int) (nomark _)) (dss_one (ds_set (i := 5) sc_9.nd rfl (Or.inl rfl) (de_add (de_int) (de_doIo hK c__law_next hr (by decide) rfl (pv 1) (da_cons (de_int) (da_nil))) hK))) (dss_nil)) (dss_cons (ds_for PassesOwn.never rfl (di_range1 rfl B.b_range (da_cons (de_v 5) (da_nil))) (dg_name sc_9.nd rfl (by first | exact Or.inl rfl | exact Or.inr rfl)) (dss_cons (ds_set (i := 7) sc_9.nd rfl (Or.inl rfl) (de_add (de_add (de_add (de_do hK c__law_char hr (by omega) rfl (da_cons (de_add (de_int) (de_doIo hK c__law_next hr (by decide) rfl (pv 1) (da_cons (de_int) (da_nil))) hK) (da_nil))) (de_doIo hK c__law_line hr (by decide) rfl (pv 1) (da_nil)) hK) (de_str) hK) (de_doIo hK c__law_lines hr (by decide) rfl (pv 1) (da_cons (de_doIo hK c__law_next hr (by decide) rfl (pv 1) (da_cons (de_item hK (de_lst (da_cons (de_int) (da_cons (de_int) (da_nil)))) (de_doIo hK c__law_next hr (by decide) rfl (pv 1) (da_cons (de_int) (da_nil)))) (da_nil))) (da_nil))) hK)) (dss_cons (ds_if (dt_w (dw_and (dt_cmp op_eq s_eq (de_v 6) (de_sub (de_v 5) (de_int)) (nomark _)) (dw_and1 (dt_cmp op_eq s_eq (de_doIo hK c__law_next hr (by decide) rfl (pv 1) (da_cons (de_int) (da_nil))) (de_int) (nomark _))))) (dss_one (ds_set (i := 7) sc_9.nd rfl (Or.inl rfl) (de_sl hK (de_v 7) (do_none) (do_some (de_sub (de_len hK rfl B.b_len (da_cons (de_v 7) (da_nil))) (de_int)))))) (dss_nil)) (dss_cons (ds_expr (de_lm hK PySem.F.slot_list_append PySem.F.type_list_append mt_append s_append (pv 3) (da_cons (de_tup (da_cons (de_len hK rfl B.b_len (da_cons (de_v 2) (da_nil))) (da_cons (de_cap (de_v 7)) (da_nil)))) (da_nil)))) (dss_one (ds_set (i := 2) sc_9.nd rfl (Or.inl rfl) (de_add (de_v 2) (de_v 7) hK))))))) (dss_cons (ds_set (i := 8) sc_9.nd rfl (Or.inl rfl) (de_do hK c_chunks hr (by omega) rfl (da_cons (de_v 2) (da_nil)))) (dss_cons (ds_if (dt_not (dt_tru hK (de_do hK c__law_same hr (by omega) rfl (da_cons (de_v 8) (da_cons (de_v 3) (da_nil)))))) (dss_one (ds_ret (de_bl))) (dss_nil)) (dss_one (ds_ret (de_cmp op_eq s_eq (de_add (de_v 4) (de_join hK (de_str) (de_lc rfl sc_9.nd (di_seq hK (de_v 8)) (blkOk_by (own := [("position", 9), ("chunk", 7)]) (N := ["script", "state", "text", "expected", "before", "count", "k", "chunk", "actual", "position"]) (sc := defScope (top 9)) (by decide +kernel)) (fun _ _ _ _ _ => dg_seq hK rfl (dgs_cons (dg_name sc_9.nd rfl (by first | exact Or.inl rfl | exact Or.inr rfl)) (dgs_cons (dg_name sc_9.nd rfl (by first | exact Or.inl rfl | exact Or.inr rfl)) (dgs_nil)))) (fun _ _ _ _ _ => dts_nil) (fun _ _ _ _ _ => de_cap (de_v 7)) (by decide))) hK) (de_v 2) (nomark _))))))))))))
/-! the head -/
def d_5 : He.DefD := ⟨("_law_same", none), "_law_same", "_law_same", defArgs (top 5), defBody (top 5), defScope (top 5), [], []⟩
def d_1 : He.DefD := ⟨("line_starts", none), "line_starts", "line_starts", defArgs (top 1), defBody (top 1), defScope (top 1), [], []⟩
def d_2 : He.DefD := ⟨("chunks", none), "chunks", "chunks", defArgs (top 2), defBody (top 2), defScope (top 2), [], []⟩
def d_4 : He.DefD := ⟨("_law_next", none), "_law_next", "_law_next", defArgs (top 4), defBody (top 4), defScope (top 4), [], []⟩
def d_6 : He.DefD := ⟨("_law_char", none), "_law_char", "_law_char", defArgs (top 6), defBody (top 6), defScope (top 6), [], []⟩
def d_7 : He.DefD := ⟨("_law_line", none), "_law_line", "_law_line", defArgs (top 7), defBody (top 7), defScope (top 7), [], []⟩
def d_8 : He.DefD := ⟨("_law_lines", none), "_law_lines", "_law_lines", defArgs (top 8), defBody (top 8), defScope (top 8), [], []⟩
def d_9 : He.DefD := ⟨("law", none), "law", "law", defArgs (top 9), defBody (top 9), defScope (top 9), [], []⟩
def fn : List He.DefD := [d_5, d_1, d_2, d_4, d_6, d_7, d_8, d_9]
def fa : List He.Fa := [.glo "_law_same", .glo "line_starts", .glo "chunks", .glo "_law_next", .glo "_law_char", .glo "_law_line", .glo "_law_lines", .glo "law", .free "bool", .free "int", .free "isinstance", .free "len", .free "list", .free "range", .free "str", .free "tuple", .free "zip"]
abbrev R : PySem.W.OpenRow := PySem.W.OpenLaw.row PySem.Challenge.rw_waywhole_k09_chunks_of_a_text
abbrev hk : PySem.W.Hook := He.hookD 4 fa fn
def ob (s : PySem.W.SharedT) : He.AlD := He.obsDG 4 fa fn (HandSHeadRun.getT s)
theorem ob_eq (s : PySem.W.SharedT) : ob s = hk.obs s.abs := He.obsDG_eq (HandSHeadRun.getT_eq s)
def loose : List Str := ["line_starts", "chunks", "_law_next", "_law_same", "_law_char", "_law_line", "_law_lines"]
theorem run (w : World) : HandSHeadRun.RunEq R (PySem.W.view R.prog [9]) hk ob 4000 loose w := by
  intro os
  kernel_rfl
theorem facts {P : Program} {w : World} {K : PySem.W.Frag} {h : Heap} {mg : Str → Option Value} {f : Addr} (X : K.In h) (G : h.Ns mainGlobals mg) (hfa : mg ("law" : Str) = some (.ref f)) (c : He.SaysD fa fn K) :
    ∃ fd : FuncData, (∀ (s : Shared) (v : Value), BindsTo s fd ⟨[v], []⟩ [("script", v)]) ∧ ∀ base : Heap, K.In base → base.Ns mainGlobals mg → FnOk P w K mg base CX0 13 f fd ["script"] (Sp0 K f_law) := by
  obtain ⟨fd5, F5⟩ := c.def_ 0 (d := d_5) rfl
  obtain ⟨fd1, F1⟩ := c.def_ 1 (d := d_1) rfl
  obtain ⟨fd2, F2⟩ := c.def_ 2 (d := d_2) rfl
  obtain ⟨fd4, F4⟩ := c.def_ 3 (d := d_4) rfl
  obtain ⟨fd6, F6⟩ := c.def_ 4 (d := d_6) rfl
  obtain ⟨fd7, F7⟩ := c.def_ 5 (d := d_7) rfl
  obtain ⟨fd8, F8⟩ := c.def_ 6 (d := d_8) rfl
  obtain ⟨fd9, F9⟩ := c.def_ 7 (d := d_9) rfl
  have B : Bi mg := ⟨He.free_ok X G (c.fact 8 (f := .free "bool") rfl), He.free_ok X G (c.fact 9 (f := .free "int") rfl), He.free_ok X G (c.fact 10 (f := .free "isinstance") rfl), He.free_ok X G (c.fact 11 (f := .free "len") rfl), He.free_ok X G (c.fact 12 (f := .free "list") rfl), He.free_ok X G (c.fact 13 (f := .free "range") rfl), He.free_ok X G (c.fact 14 (f := .free "str") rfl), He.free_ok X G (c.fact 15 (f := .free "tuple") rfl), He.free_ok X G (c.fact 16 (f := .free "zip") rfl)⟩
  have e := hfa.symm.trans (He.glo_ok X G (c.fact 7 (f := .glo "law") rfl))
  cases e
  have b := FunD.bindsA (ps := ["script"]) F9 fun _ _ _ _ _ _ us hl => match us, hl with | [_], _ => rfl
  refine ⟨fd9, fun s v => b s [v] rfl, fun base _ _ => ?_⟩
  have c__law_same : Cal P w K mg base "_law_same" 12 ["actual", "expected"] (Sp0 K (f__law_same 12)) := cal (He.glo_ok X G (c.fact 0 (f := .glo "_law_same") rfl)) F5.kp (F5.bindsN fun _ _ _ _ _ _ us hl => match us, hl with | [_, _], _ => rfl) (((ok__law_same F5 B F5.kp (He.glo_ok X G (c.fact 0 (f := .glo "_law_same") rfl)) 12).mono (by decide)))
  have c_line_starts : Cal P w K mg base "line_starts" 1 ["text"] (Sp0 K f_line_starts) := cal (He.glo_ok X G (c.fact 1 (f := .glo "line_starts") rfl)) F1.kp (F1.bindsN fun _ _ _ _ _ _ us hl => match us, hl with | [_], _ => rfl) (ok_line_starts F1 B)
  have c_chunks : Cal P w K mg base "chunks" 2 ["text"] (Sp0 K f_chunks) := cal (He.glo_ok X G (c.fact 2 (f := .glo "chunks") rfl)) F2.kp (F2.bindsN fun _ _ _ _ _ _ us hl => match us, hl with | [_], _ => rfl) (ok_chunks F2 B c_line_starts)
  have c__law_next : Cal P w K mg base "_law_next" 1 ["state", "limit"] (SpIo K f__law_next) := cal (He.glo_ok X G (c.fact 3 (f := .glo "_law_next") rfl)) F4.kp (F4.bindsN fun _ _ _ _ _ _ us hl => match us, hl with | [_, _], _ => rfl) (ok__law_next F4 B)
  have c__law_char : Cal P w K mg base "_law_char" 1 ["index"] (Sp0 K f__law_char) := cal (He.glo_ok X G (c.fact 4 (f := .glo "_law_char") rfl)) F6.kp (F6.bindsN fun _ _ _ _ _ _ us hl => match us, hl with | [_], _ => rfl) (ok__law_char F6 B)
  have c__law_line : Cal P w K mg base "_law_line" 2 ["state"] (SpIo K f__law_line) := cal (He.glo_ok X G (c.fact 5 (f := .glo "_law_line") rfl)) F7.kp (F7.bindsN fun _ _ _ _ _ _ us hl => match us, hl with | [_], _ => rfl) (ok__law_line F7 B c__law_next c__law_char)
  have c__law_lines : Cal P w K mg base "_law_lines" 3 ["state", "count"] (SpIo K f__law_lines) := cal (He.glo_ok X G (c.fact 6 (f := .glo "_law_lines") rfl)) F8.kp (F8.bindsN fun _ _ _ _ _ _ us hl => match us, hl with | [_, _], _ => rfl) (ok__law_lines F8 B c__law_next c__law_line)
  exact ok_law F9 B c__law_same c_chunks c__law_next c__law_char c__law_line c__law_lines
end Wlk
open PySem PySem.W PySem.Calls PyProof.Rows
theorem Wlk.holds_of (hlaw : ∀ ns : List Int, ns.length ≤ 63 → Mir.f_law [.scr ns] = some (.ro (.bl true))) : PySem.Challenge.rw_waywhole_k09_chunks_of_a_text.Holds := by
  w_on; o_law
  refine HandSHeadRun.head_any (r := OpenLaw.row PySem.Challenge.rw_waywhole_k09_chunks_of_a_text) (q := view (OpenLaw.row PySem.Challenge.rw_waywhole_k09_chunks_of_a_text).prog [9]) (H := Wlk.hk) (ob := Wlk.ob) (M := 4000) (loose := Wlk.loose) (d := HandSHeadRun.topDef (OpenLaw.row PySem.Challenge.rw_waywhole_k09_chunks_of_a_text).prog 9) (kwd := []) Wlk.ob_eq
    (by kernel_rfl) (fun s => by kernel_rfl) Wlk.run (by kernel_rfl) (by kernel_rfl) (by kernel_rfl) (by rfl) (by first | assumption | decide +kernel) (by decide +kernel) ⟨rfl, rfl, rfl, rfl, rfl, by decide +kernel⟩ ?hw ?hc
  case hw => w_witness2
  case hc =>
    refine Dn.walk_ofEB (l := PySem.Challenge.rw_waywhole_k09_chunks_of_a_text) (n := 63) (k := 13) (x := "script") (CX := L2.CX0) rfl (by decide) (by kernel_rfl) ⟨rfl, by decide, by decide⟩ ?F (fun _ _ _ _ z => z)
    intro w mg fa h Y G hmg0
    obtain ⟨K, KX, c⟩ := Y
    have hmg : mg ("law" : PySem.Str) = some (.ref fa) := by
      have e : (HandSHeadRun.topDef (OpenLaw.row PySem.Challenge.rw_waywhole_k09_chunks_of_a_text).prog 9).name = ("law" : PySem.Str) := by kernel_rfl
      rw [← e]
      exact hmg0
    obtain ⟨fd, hb, hF⟩ := Wlk.facts (P := (PySem.Challenge.rw_waywhole_k09_chunks_of_a_text).prog) (w := w) KX G hmg c
    exact ⟨K, fd, Dn.Sp0 K Mir.f_law, KX, hb, fun H a ns hl _ hO hS => Dn.sp_law hO hS (hlaw ns hl), hF⟩

theorem PySem.Challenge.cw_waywhole_k09_chunks_of_a_text_holds : PySem.Challenge.rw_waywhole_k09_chunks_of_a_text.Holds :=
  Wlk.holds_of (fun ns _ => Pl.law_ok ns)
