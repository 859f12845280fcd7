import PyProof.Rows.All
import Wide.All
import OpenK.AllK
import Wide.FinOn
import HandS.ForMost
import HandS.Defaults
import KE.KDictKeyed
import HandS.TupAny
import HandS.IsInst
import HandS.Wide
import HandS.Flow
import HandS.Zip
import HandS.More
import HandS.Style
import HandS.NoneIn
import HandS.HeadEnd
import HandS.EndBits
import KE.SortData
import HandS.Set
import HandS.TupSets
import HandS.Strs
import KE.SortUse
import KE.KDictSum
import HandS.Conv
import HandS.RaiseMore
import KE.DataEq
import HandS.DictComp
import HandS.ReCall
import HandS.Small
import HandS.SetFor
import PyProof.TupleOfSeq
import KE.KDictPairs
import HandS.Sort
import PyProof.DictUpdate
import KE.KStateDown
import HandS.Head0
import HandS.Head1
import HandS.Head2
import HandS.HeadHook1
import HandS.HeadHook2
import HandS.HeadWalk
import PySem.Challenge.RW_waywhole_k84_games_to_come_to_a_node
set_option Elab.async false
set_option linter.all false
set_option maxRecDepth 100000
set_option maxHeartbeats 4000000
/-! Values as data (D), cells (C), what stands for them in the abstract heap; states of a def's body as lists of cells. -/
namespace Dn
open PySem L2

inductive D where
  | non | bl (b : Bool) | int (i : Int) | str (s : Str)
  | tup (xs : List D) | lst (xs : List D)
  | dct (kvs : List (Key × D)) | dtt (kvs : List (D × D))
  /-- a dict that nobody changes any more -/
  | fdc (kvs : List (Key × D))
  /-- the script: a list of ints that nobody changes -/
  | scr (ns : List Int)
  /-- a built-in class -/
  | ty (n : String)
  /-- a pair that a walk hands out, to be taken apart at once -/
  | wtp (xs : List D)
  /-- a value of which nothing is told -/
  | raw (a : Addr)

/-- a cell: read alone, owned (a list or a dict that is changed here), handed in to be changed; as a value: what slot i holds -/
inductive C where
  | ro (d : D) | own (d : D) | io (d : D) | view (i : Nat)
def C.d : C → D | .ro d => d | .own d => d | .io d => d | .view _ => .non

/-- the written part, the world -/
structure KW where
  K : PySem.W.Frag
  w : World
instance : Coe KW PySem.W.Frag := ⟨KW.K⟩
abbrev _root_.L2.Cx.kw (X : L2.Cx) : KW := ⟨X.K, X.w⟩
def SqF (K : PySem.W.Frag) (H : Hp) (a : Addr) (xs : List V) : Prop := (∃ o, H a = some (.frz o (.lst xs))) ∨
    ∃ (o : Obj) (its : Array Value) (n : Nat), K.lookup a = some o ∧ o.cls = .type "list" ∧ o.dict = none ∧ o.data = .seq its n ∧ its.size ≤ sizeLine ∧ Vals xs its.toList
/-- a tuple of which is known that its object has no dict -/
def SqP (K : PySem.W.Frag) (H : Hp) (a : Addr) (xs : List V) : Prop := (∃ o : Obj, o.dict = none ∧ H a = some (.frz o (.tup xs))) ∨
    ∃ (o : Obj) (its : Array Value) (n : Nat), K.lookup a = some o ∧ o.cls = .type "tuple" ∧ o.dict = none ∧ o.data = .seq its n ∧ its.size ≤ sizeLine ∧ Vals xs its.toList
theorem SqP.t {K : PySem.W.Frag} {H : Hp} {a : Addr} {xs : List V} (h : SqP K H a xs) : SqT K H a xs := by
  rcases h with ⟨o, _, h⟩ | ⟨o, its, n, h1, h2, _, h3, h4, h5⟩
  · exact .inl (.inr ⟨o, h⟩)
  · exact .inr ⟨o, its, n, h1, h2, h3, h4, h5⟩
theorem SqF.l {K : PySem.W.Frag} {H : Hp} {a : Addr} {xs : List V} (h : SqF K H a xs) : SqL K H a xs := h.imp (fun h => .inr h) fun h => h
mutual
/-- keys that are tuples -/
def D.nk : D → Option NestedKey
  | .non => some .none
  | .bl b => some (.num (if b = true then 1 else 0))
  | .int i => some (.num i)
  | .str s => some (.text s)
  | .tup xs => (D.nkL xs).map .tup
  | .lst _ => none
  | .dct _ => none
  | .dtt _ => none
  | .fdc _ => none
  | .scr _ => none
  | .ty _ => none
  | .wtp _ => none
  | .raw _ => none
def D.nkL : List D → Option (List NestedKey)
  | [] => some []
  | x :: xs => match D.nk x, D.nkL xs with
    | some y, some ys => some (y :: ys)
    | _, _ => none
end
def D.tk : D → Option NestedKey
  | .tup xs => (D.nk (.tup xs)).bind fun k => if decide (k.depth ≤ 8) = true then some k else none
  | _ => none
/-- a dict whose keys are tuples: each key's hash, where its tuple stands, the value -/
def DKx (w : World) (a : Addr) (xs : List (NestedKey × Addr × V)) : HO := .ext fun h => xs.length ≤ sizeLine ∧ (a == sysModules) = false ∧ (xs.map (·.1)).Nodup ∧
  ∃ us : List (NestedKey × Addr × Value), Paired (fun (p : NestedKey × Addr × V) (q : NestedKey × Addr × Value) => p.1 = q.1 ∧ p.2.1 = q.2.1 ∧ RelV p.2.2 q.2.2) xs us ∧
    ∃ o es ep, h.get? a = some o ∧ o.ExactDict ∧ o.data = .dict es ep ∧ es.toList = us.map fun x => (⟨x.1.hash w, .ref x.2.1, x.2.2⟩ : DictEntry)
mutual
inductive Rep (K : KW) (N : Addr → Prop) (H : Hp) : V → D → Prop
  | non : Rep K N H .non .non
  | bl (b : Bool) : Rep K N H (.bl b) (.bl b)
  | int (i : Int) : Rep K N H (.int i) (.int i)
  | str (s : Str) : Rep K N H (.str s) (.str s)
  | tup {a : Addr} {vs : List V} {ds : List D} : SqP K H a vs → RepL K N H vs ds → Rep K N H (.ref a) (.tup ds)
  | lst {a : Addr} {vs : List V} {ds : List D} : N a → H a = some (.lst vs) → RepL K N H vs ds → Rep K N H (.ref a) (.lst ds)
  | scr {a : Addr} {ns : List Int} : SqF K H a (ns.map V.int) → Rep K N H (.ref a) (.scr ns)
  | ty (n : String) : Rep K N H (.ty n) (.ty n)
  | wtp {a : Addr} {vs : List V} {ds : List D} : SqT K H a vs → RepL K N H vs ds → Rep K N H (.ref a) (.wtp ds)
  | raw (a : Addr) : Rep K N H (.ref a) (.raw a)
  | dct {a : Addr} {kvs : List (Key × V)} {ds : List (Key × D)} : N a → Rd H a (.dK kvs) → RepK K N H kvs ds → Rep K N H (.ref a) (.dct ds)
  | dtt {a : Addr} {kvs : List (NestedKey × Addr × V)} {ds : List (D × D)} : N a → H a = some (DKx K.w a kvs) → RepT K N H kvs ds → Rep K N H (.ref a) (.dtt ds)
  | fdc {a : Addr} {o : Obj} {kvs : List (Key × V)} {ds : List (Key × D)} : N a → H a = some (.frz o (.dK kvs)) → RepK K N H kvs ds → Rep K N H (.ref a) (.fdc ds)
inductive RepL (K : KW) (N : Addr → Prop) (H : Hp) : List V → List D → Prop
  | nil : RepL K N H [] []
  | cons {v : V} {vs : List V} {d : D} {ds : List D} : Rep K N H v d → RepL K N H vs ds → RepL K N H (v :: vs) (d :: ds)
inductive RepK (K : KW) (N : Addr → Prop) (H : Hp) : List (Key × V) → List (Key × D) → Prop
  | nil : RepK K N H [] []
  | cons {k : Key} {v : V} {vs : List (Key × V)} {d : D} {ds : List (Key × D)} : Rep K N H v d → RepK K N H vs ds → RepK K N H ((k, v) :: vs) ((k, d) :: ds)
inductive RepT (K : KW) (N : Addr → Prop) (H : Hp) : List (NestedKey × Addr × V) → List (D × D) → Prop
  | nil : RepT K N H [] []
  | cons {k : NestedKey} {b : Addr} {v : V} {vs : List (NestedKey × Addr × V)} {dk d : D} {ds : List (D × D)} : D.tk dk = some k → Rep K N H (.ref b) dk → Rep K N H v d → RepT K N H vs ds → RepT K N H ((k, b, v) :: vs) ((dk, d) :: ds)
end

/-- what a heap keeps: the tuples, what is frozen, what N tells -/
def Keeps (N : Addr → Prop) (H H' : Hp) : Prop := ∀ a o, H a = some o → (N a ∨ (∃ xs, o = .tup xs) ∨ ∃ ob u, o = .frz ob u) → H' a = some o
section
variable {K : KW} {N N' : Addr → Prop} {H H' : Hp}
theorem Keeps.rd (k : Keeps N H H') {a : Addr} {u : HO} (n : N a) (h : Rd H a u) : Rd H' a u := by
  rcases h with h | ⟨o, h⟩
  · exact .inl (k a _ h (.inl n))
  · exact .inr ⟨o, k a _ h (.inl n)⟩
theorem Keeps.sqT (k : Keeps N H H') {a : Addr} {xs : List V} (h : SqT K H a xs) : SqT K H' a xs := by
  rcases h with (h | ⟨o, h⟩) | h
  · exact .inl (.inl (k a _ h (.inr (.inl ⟨_, rfl⟩))))
  · exact .inl (.inr ⟨o, k a _ h (.inr (.inr ⟨_, _, rfl⟩))⟩)
  · exact .inr h
theorem Keeps.sqP (k : Keeps N H H') {a : Addr} {xs : List V} (h : SqP K H a xs) : SqP K H' a xs := by
  rcases h with ⟨o, h0, h⟩ | h
  · exact .inl ⟨o, h0, k a _ h (.inr (.inr ⟨_, _, rfl⟩))⟩
  · exact .inr h
theorem Keeps.sqF (k : Keeps N H H') {a : Addr} {xs : List V} (h : SqF K H a xs) : SqF K H' a xs := by
  rcases h with ⟨o, h⟩ | h
  · exact .inl ⟨o, k a _ h (.inr (.inr ⟨_, _, rfl⟩))⟩
  · exact .inr h
mutual
theorem Rep.keep (k : Keeps N H H') (n : ∀ a, N a → (H a).isSome = true → N' a) : ∀ {v : V} {d : D}, Rep K N H v d → Rep K N' H' v d
  | _, _, .non => .non
  | _, _, .bl b => .bl b
  | _, _, .int i => .int i
  | _, _, .str s => .str s
  | _, _, .tup h r => .tup (k.sqP h) (RepL.keep k n r)
  | _, _, .wtp h r => .wtp (k.sqT h) (RepL.keep k n r)
  | _, _, .raw v => .raw v
  | _, _, .lst h1 h r => .lst (n _ h1 (by rw [h] <;> rfl)) (k _ _ h (.inl h1)) (RepL.keep k n r)
  | _, _, .scr h => .scr (k.sqF h)
  | _, _, .ty n => .ty n
  | _, _, .dct h1 h r => .dct (n _ h1 (by rcases h with h | ⟨o, h⟩ <;> rw [h] <;> rfl)) (k.rd h1 h) (RepK.keep k n r)
  | _, _, .dtt h1 h r => .dtt (n _ h1 (by rw [h]; rfl)) (k _ _ h (.inl h1)) (RepT.keep k n r)
  | _, _, .fdc h1 h r => .fdc (n _ h1 (by rw [h]; rfl)) (k _ _ h (.inl h1)) (RepK.keep k n r)
theorem RepL.keep (k : Keeps N H H') (n : ∀ a, N a → (H a).isSome = true → N' a) : ∀ {v : List V} {d : List D}, RepL K N H v d → RepL K N' H' v d
  | _, _, .nil => .nil
  | _, _, .cons h r => .cons (Rep.keep k n h) (RepL.keep k n r)
theorem RepK.keep (k : Keeps N H H') (n : ∀ a, N a → (H a).isSome = true → N' a) : ∀ {v : List (Key × V)} {d : List (Key × D)}, RepK K N H v d → RepK K N' H' v d
  | _, _, .nil => .nil
  | _, _, .cons h r => .cons (Rep.keep k n h) (RepK.keep k n r)
theorem RepT.keep (k : Keeps N H H') (n : ∀ a, N a → (H a).isSome = true → N' a) : ∀ {v : List (NestedKey × Addr × V)} {d : List (D × D)}, RepT K N H v d → RepT K N' H' v d
  | _, _, .nil => .nil
  | _, _, .cons e h0 h r => .cons e (Rep.keep k n h0) (Rep.keep k n h) (RepT.keep k n r)
end
theorem Keeps.refl : Keeps N H H := fun _ _ h _ => h
theorem Rep.mono (n : ∀ a, N a → (H a).isSome = true → N' a) {v : V} {d : D} (h : Rep K N H v d) : Rep K N' H v d := h.keep Keeps.refl n
theorem RepL.mono (n : ∀ a, N a → (H a).isSome = true → N' a) {v : List V} {d : List D} (h : RepL K N H v d) : RepL K N' H v d := h.keep Keeps.refl n
theorem RepK.mono (n : ∀ a, N a → (H a).isSome = true → N' a) {v : List (Key × V)} {d : List (Key × D)} (h : RepK K N H v d) : RepK K N' H v d := h.keep Keeps.refl n
theorem RepT.mono (n : ∀ a, N a → (H a).isSome = true → N' a) {v : List (NestedKey × Addr × V)} {d : List (D × D)} (h : RepT K N H v d) : RepT K N' H v d := h.keep Keeps.refl n
theorem RepL.length : ∀ {vs : List V} {ds : List D}, RepL K N H vs ds → vs.length = ds.length
  | _, _, .nil => rfl
  | _, _, .cons _ r => by simp [RepL.length r]
theorem RepL.append : ∀ {vs ws : List V} {ds es : List D}, RepL K N H vs ds → RepL K N H ws es → RepL K N H (vs ++ ws) (ds ++ es)
  | _, _, _, _, .nil, s => s
  | _, _, _, _, .cons h r, s => .cons h (RepL.append r s)
theorem RepL.get : ∀ {vs : List V} {ds : List D} {i : Nat} {v : V}, RepL K N H vs ds → vs[i]? = some v → ∃ d, ds[i]? = some d ∧ Rep K N H v d
  | _, _, _, _, .nil, e => by simp at e
  | _, _, 0, _, .cons h r, e => by simp at e; subst e; exact ⟨_, rfl, h⟩
  | _, _, i + 1, _, .cons h r, e => by
    obtain ⟨d, h1, h2⟩ := RepL.get (i := i) r (by simpa using e)
    exact ⟨d, by simpa using h1, h2⟩
theorem RepL.get' {vs : List V} {ds : List D} {i : Nat} {d : D} (r : RepL K N H vs ds) (e : ds[i]? = some d) : ∃ v, vs[i]? = some v ∧ Rep K N H v d := by
  have hl := r.length
  have hi : i < vs.length := by rw [hl]; exact (List.getElem?_eq_some_iff.mp e).1
  obtain ⟨d', h1, h2⟩ := r.get (i := i) (v := vs[i]) (by simp [hi])
  rw [e] at h1; cases h1
  exact ⟨_, by simp [hi], h2⟩
theorem RepL.drop : ∀ {vs : List V} {ds : List D} (n : Nat), RepL K N H vs ds → RepL K N H (vs.drop n) (ds.drop n)
  | _, _, 0, r => r
  | _, _, _ + 1, .nil => .nil
  | _, _, n + 1, .cons _ r => RepL.drop n r
theorem RepL.take : ∀ {vs : List V} {ds : List D} (n : Nat), RepL K N H vs ds → RepL K N H (vs.take n) (ds.take n)
  | _, _, 0, _ => .nil
  | _, _, _ + 1, .nil => .nil
  | _, _, n + 1, .cons h r => .cons h (RepL.take n r)
theorem RepL.set {v : V} {d : D} (h : Rep K N H v d) : ∀ {vs : List V} {ds : List D} (i : Nat), RepL K N H vs ds → RepL K N H (vs.set i v) (ds.set i d)
  | _, _, _, .nil => .nil
  | _, _, 0, .cons _ r => .cons h r
  | _, _, i + 1, .cons q r => .cons q (RepL.set h i r)
theorem RepL.reverse : ∀ {vs : List V} {ds : List D}, RepL K N H vs ds → RepL K N H vs.reverse ds.reverse
  | _, _, .nil => .nil
  | _, _, .cons h r => by rw [List.reverse_cons, List.reverse_cons]; exact (RepL.reverse r).append (.cons h .nil)
theorem RepL.eraseIdx : ∀ {vs : List V} {ds : List D} (i : Nat), RepL K N H vs ds → RepL K N H (vs.eraseIdx i) (ds.eraseIdx i)
  | _, _, _, .nil => .nil
  | _, _, 0, .cons _ r => r
  | _, _, i + 1, .cons q r => .cons q (RepL.eraseIdx i r)
theorem RepK.keys : ∀ {vs : List (Key × V)} {ds : List (Key × D)}, RepK K N H vs ds → vs.map (·.1) = ds.map (·.1)
  | _, _, .nil => rfl
  | _, _, .cons _ r => by simp [RepK.keys r]
theorem RepK.vals : ∀ {vs : List (Key × V)} {ds : List (Key × D)}, RepK K N H vs ds → RepL K N H (vs.map (·.2)) (ds.map (·.2))
  | _, _, .nil => .nil
  | _, _, .cons h r => .cons h (RepK.vals r)
theorem RepK.length {vs : List (Key × V)} {ds : List (Key × D)} (r : RepK K N H vs ds) : vs.length = ds.length := by
  have := congrArg List.length r.keys
  simpa using this
theorem RepT.length : ∀ {vs : List (NestedKey × Addr × V)} {ds : List (D × D)}, RepT K N H vs ds → vs.length = ds.length
  | _, _, .nil => rfl
  | _, _, .cons _ _ _ r => by simp [RepT.length r]
/-- ints, texts need no heap -/
theorem RepL.ints : ∀ (ns : List Int), RepL K N H (ns.map V.int) (ns.map D.int)
  | [] => .nil
  | n :: ns => .cons (.int n) (RepL.ints ns)
theorem RepL.strs : ∀ (ns : List Str), RepL K N H (ns.map V.str) (ns.map D.str)
  | [] => .nil
  | n :: ns => .cons (.str n) (RepL.strs ns)
theorem RepL.of_ints : ∀ {ns : List Int} {vs : List V}, RepL K N H vs (ns.map D.int) → vs = ns.map V.int
  | [], _, .nil => rfl
  | n :: ns, _, .cons h r => by cases h; rw [RepL.of_ints r]; rfl
theorem RepL.of_strs : ∀ {ns : List Str} {vs : List V}, RepL K N H vs (ns.map D.str) → vs = ns.map V.str
  | [], _, .nil => rfl
  | n :: ns, _, .cons h r => by cases h; rw [RepL.of_strs r]; rfl
end

/-! ### states -/
/-- a body's frame: the written part, the heap at the entry, what the entry's read-only nodes are, the object that is handed in to be changed -/
structure Fr where
  K : KW
  H_0 : Hp
  N_0 : Addr → Prop
  io : Option Addr
abbrev Ow := Addr → Option (Sum Nat Nat)
def Fr.N (F : Fr) (ow : Ow) (a : Addr) : Prop := ow a = none ∧ F.io ≠ some a ∧ (F.N_0 a ∨ F.H_0 a = none)
abbrev Env := List (Option C)
/-- the owned object at a holds d -/
def HoldsN (K : KW) (N : Addr → Prop) (H : Hp) (a : Addr) : D → Prop
  | .lst ds => ∃ vs, H a = some (.lst vs) ∧ RepL K N H vs ds
  | .dct ds => ∃ vs, H a = some (.dK vs) ∧ RepK K N H vs ds
  | .dtt ds => ∃ vs, H a = some (DKx K.w a vs) ∧ RepT K N H vs ds
  | _ => False
abbrev Holds (F : Fr) (ow : Ow) (H : Hp) (a : Addr) (d : D) : Prop := HoldsN F.K (F.N ow) H a d
def RepC (F : Fr) (ow : Ow) (id : Sum Nat Nat) (σ : St) (ρ : Env) (H : Hp) : V → C → Prop
  | v, .ro d => Rep F.K (F.N ow) H v d
  | v, .own d => ∃ a, v = .ref a ∧ ow a = some id ∧ Holds F ow H a d
  | v, .io d => ∃ a, v = .ref a ∧ F.io = some a ∧ Holds F ow H a d
  | v, .view i => ∀ c, ρ[i]? = some (some c) → (∀ d, c ≠ .ro d) → σ[i]? = some (some v)
def Tmps (F : Fr) (ow : Ow) (σ : St) (ρ : Env) (H : Hp) : List (V × C) → Prop
  | [] => True
  | t :: ts => RepC F ow (.inr ts.length) σ ρ H t.1 t.2 ∧ Tmps F ow σ ρ H ts
def CellOk (i : Nat) : C → Prop
  | .io _ => i = 0
  | .view _ => False
  | _ => True
structure RSo (F : Fr) (ow : Ow) (σ : St) (H : Hp) (ρ : Env) (τ : List (V × C)) : Prop where
  len : σ.length = ρ.length
  slot : ∀ (i : Nat) (c : C), ρ[i]? = some (some c) → ∃ v, σ[i]? = some (some v) ∧ RepC F ow (.inl i) σ ρ H v c
  io : ∀ (i : Nat) (c : C), ρ[i]? = some (some c) → CellOk i c
  tmp : Tmps F ow σ ρ H τ
  tio : ∀ t ∈ τ, ∀ d, t.2 ≠ .io d
  own : ∀ a id, ow a = some id → (H a).isSome = true ∧ F.H_0 a = none ∧ F.io ≠ some a
  tid : ∀ a j, ow a = some (.inr j) → j < τ.length
  keep : ∀ a o, F.H_0 a = some o → F.io ≠ some a → H a = some o
  mio : ∀ a, F.io = some a → ∃ o, H a = some o ∧ Mut (some o) ∧ (F.H_0 a).isSome = true
def RS (F : Fr) (σ : St) (H : Hp) (ρ : Env) (τ : List (V × C)) : Prop := ∃ ow, RSo F ow σ H ρ τ
theorem kK {F : Fr} {X : L2.Cx} (h : F.K = X.kw) : F.K.K = X.K := by rw [h]
end Dn

namespace Dn
open PySem L2
section
variable {F : Fr} {ow ow' : Ow} {id id' : Sum Nat Nat} {H H' : Hp} {σ σ' : St} {ρ ρ' : Env} {τ : List (V × C)} {v : V} {c : C} {d : D} {a p : Addr}
theorem Holds.tr (h : Holds F ow H a d) (hN : ∀ b, F.N ow b → (H b).isSome = true → F.N ow' b) (hK : Keeps (F.N ow) H H') (e : H' a = H a) : Holds F ow' H' a d := by
  cases d with
  | lst ds => obtain ⟨vs, h1, r⟩ := h; exact ⟨vs, e.trans h1, r.keep hK hN⟩
  | dct ds => obtain ⟨vs, h1, r⟩ := h; exact ⟨vs, e.trans h1, r.keep hK hN⟩
  | dtt ds => obtain ⟨vs, h1, r⟩ := h; exact ⟨vs, e.trans h1, r.keep hK hN⟩
  | _ => exact h.elim
theorem Holds.some (h : Holds F ow H a d) : (H a).isSome = true ∧ Mut (H a) := by
  cases d with
  | lst ds => obtain ⟨vs, h1, r⟩ := h; rw [h1]; exact ⟨rfl, trivial⟩
  | dct ds => obtain ⟨vs, h1, r⟩ := h; rw [h1]; exact ⟨rfl, trivial⟩
  | dtt ds => obtain ⟨vs, h1, r⟩ := h; rw [h1]; exact ⟨rfl, trivial⟩
  | _ => exact h.elim
/-- an owned object is read: as what it holds, if a is one of N's -/
theorem Holds.rep {N : Addr → Prop} (h : Holds F ow H a d) (n : N a) (hN : ∀ b, F.N ow b → (H b).isSome = true → N b) : Rep F.K N H (.ref a) d := by
  cases d with
  | lst ds => obtain ⟨vs, h1, r⟩ := h; exact .lst n h1 (r.mono hN)
  | dct ds => obtain ⟨vs, h1, r⟩ := h; exact .dct n (.inl h1) (r.mono hN)
  | dtt ds => obtain ⟨vs, h1, r⟩ := h; exact .dtt n h1 (r.mono hN)
  | _ => exact h.elim
/-- the views stand -/
def Vw (σ σ' : St) (ρ ρ' : Env) : Prop := ∀ (i : Nat) (c : C), ρ'[i]? = some (some c) → (∀ d, c ≠ .ro d) → (∃ c', ρ[i]? = some (some c') ∧ (∀ d, c' ≠ .ro d)) ∧ σ'[i]? = σ[i]?
theorem Vw.refl : Vw σ σ ρ ρ := fun _ c h n => ⟨⟨c, h, n⟩, rfl⟩
def NoV (τ : List (V × C)) : Prop := ∀ t ∈ τ, ∀ j, t.2 ≠ .view j
theorem RepC.tr (h : RepC F ow id σ ρ H v c) (hN : ∀ b, F.N ow b → (H b).isSome = true → F.N ow' b) (hK : Keeps (F.N ow) H H') (ho : ∀ b, ow b = some id → ow' b = some id' ∧ H' b = H b) (hio : ∀ b, F.io = some b → H' b = H b) (hv : (∀ j, c ≠ .view j) ∨ Vw σ σ' ρ ρ' := by exact .inr Vw.refl) : RepC F ow' id' σ' ρ' H' v c := by
  cases c with
  | ro d => exact Rep.keep hK hN h
  | own d => obtain ⟨a, e, o, q⟩ := h; exact ⟨a, e, (ho a o).1, q.tr hN hK (ho a o).2⟩
  | io d => obtain ⟨a, e, o, q⟩ := h; exact ⟨a, e, o, q.tr hN hK (hio a o)⟩
  | view i =>
    rcases hv with hv | hv
    · exact absurd rfl (hv i)
    · intro c' h1 h2; obtain ⟨⟨c2, h3, h4⟩, h5⟩ := hv i c' h1 h2; exact h5.trans (h c2 h3 h4)
theorem Tmps.tr (hN : ∀ b, F.N ow b → (H b).isSome = true → F.N ow' b) (hK : Keeps (F.N ow) H H') : ∀ {τ : List (V × C)}, Tmps F ow σ ρ H τ → (∀ b j, j < τ.length → ow b = some (.inr j) → ow' b = some (.inr j) ∧ H' b = H b) → (∀ b, F.io = some b → H' b = H b) → (hv : NoV τ ∨ Vw σ σ' ρ ρ' := by exact .inr Vw.refl) → Tmps F ow' σ' ρ' H' τ
  | [], _, _, _, _ => trivial
  | t :: ts, ⟨h1, h2⟩, ho, hio, hv => ⟨h1.tr hN hK (fun b e => ho b _ (Nat.lt_succ_self _) e) hio (hv.imp (fun z j => z t List.mem_cons_self j) fun z => z), Tmps.tr hN hK h2 (fun b j hj e => ho b j (Nat.lt_succ_of_lt hj) e) hio (hv.imp (fun z u hu => z u (List.mem_cons_of_mem _ hu)) fun z => z)⟩
theorem Fr.N.of {hN : ∀ b, ow b = none → ow' b = none} : ∀ b, F.N ow b → (H b).isSome = true → F.N ow' b := fun b h _ => ⟨hN b h.1, h.2⟩
theorem Keeps.all {N : Addr → Prop} (k : ∀ b o, H b = some o → H' b = some o) : Keeps N H H' := fun b o h _ => k b o h
theorem RSo.fresh (I : RSo F ow σ H ρ τ) (hp : H p = none) : F.H_0 p = none ∧ F.io ≠ some p ∧ ow p = none := by
  have h1 : F.io ≠ some p := fun e => by
    obtain ⟨o, h, _⟩ := I.mio p e
    rw [hp] at h; cases h
  refine ⟨?_, h1, ?_⟩
  · cases e : F.H_0 p with
    | none => rfl
    | some o => rw [I.keep p o e h1] at hp; cases hp
  · cases e : ow p with
    | none => rfl
    | some id => have := (I.own p id e).1; rw [hp] at this; cases this
/-- the heap grows -/
theorem RSo.grow (I : RSo F ow σ H ρ τ) (k : ∀ b o, H b = some o → H' b = some o) : RSo F ow σ H' ρ τ := by
  have eq : ∀ b, (H b).isSome = true → H' b = H b := fun b h => by
    cases e : H b with
    | none => rw [e] at h; cases h
    | some o => exact k b o e
  have hio : ∀ b, F.io = some b → H' b = H b := fun b e => by
    obtain ⟨o, h, _⟩ := I.mio b e
    rw [h]; exact k b o h
  refine ⟨I.len, fun i c e => ?_, I.io, I.tmp.tr (fun _ h _ => h) (Keeps.all k) (fun b j _ e => ⟨e, eq b (I.own b _ e).1⟩) hio, I.tio, fun b id e => ⟨?_, (I.own b id e).2⟩, I.tid, fun b o h1 h2 => k b o (I.keep b o h1 h2), fun b e => ?_⟩
  · obtain ⟨v, h1, h2⟩ := I.slot i c e
    exact ⟨v, h1, h2.tr (fun _ h _ => h) (Keeps.all k) (fun b e => ⟨e, eq b (I.own b _ e).1⟩) hio⟩
  · rw [eq b (I.own b id e).1]; exact (I.own b id e).1
  · obtain ⟨o, h, q⟩ := I.mio b e
    exact ⟨o, k b o h, q⟩
theorem RSo.push (I : RSo F ow σ H ρ τ) (h : Rep F.K (F.N ow) H v d) : RSo F ow σ H ρ ((v, .ro d) :: τ) :=
  ⟨I.len, I.slot, I.io, ⟨h, I.tmp⟩, fun t ht d' e => by
    rcases List.mem_cons.mp ht with rfl | ht
    · cases e
    · exact I.tio t ht d' e, I.own, fun b j e => Nat.lt_succ_of_lt (I.tid b j e), I.keep, I.mio⟩
/-- what a call or an operation gives: something read alone, or a new object -/
def Ret (K : KW) (N : Addr → Prop) (H H' : Hp) (v : V) : C → Prop
  | .ro d => Rep K (fun b => N b ∨ H b = none) H' v d
  | .own d => ∃ a, v = .ref a ∧ H a = none ∧ HoldsN K (fun b => (N b ∨ H b = none) ∧ b ≠ a) H' a d
  | _ => False
theorem HoldsN.mono {K : KW} {N N' : Addr → Prop} (n : ∀ b, N b → (H b).isSome = true → N' b) (h : HoldsN K N H a d) : HoldsN K N' H a d := by
  cases d with
  | lst ds => obtain ⟨vs, h1, r⟩ := h; exact ⟨vs, h1, r.mono n⟩
  | dct ds => obtain ⟨vs, h1, r⟩ := h; exact ⟨vs, h1, r.mono n⟩
  | dtt ds => obtain ⟨vs, h1, r⟩ := h; exact ⟨vs, h1, r.mono n⟩
  | _ => exact h.elim
theorem HoldsN.some {K : KW} {N : Addr → Prop} (h : HoldsN K N H a d) : (H a).isSome = true ∧ Mut (H a) := by
  cases d with
  | lst ds => obtain ⟨vs, h1, r⟩ := h; rw [h1]; exact ⟨rfl, trivial⟩
  | dct ds => obtain ⟨vs, h1, r⟩ := h; rw [h1]; exact ⟨rfl, trivial⟩
  | dtt ds => obtain ⟨vs, h1, r⟩ := h; rw [h1]; exact ⟨rfl, trivial⟩
  | _ => exact h.elim
theorem RSo.ret (I : RSo F ow σ H ρ τ) (k : Same H H') (h : Ret F.K (F.N ow) H H' v c) : ∃ ow', RSo F ow' σ H' ρ ((v, c) :: τ) ∧ ∀ b, (F.N ow b ∨ H b = none) → ((∃ d, c = .ro d) ∨ v ≠ .ref b) → F.N ow' b := by
  have J := I.grow k
  have fr : ∀ b, (F.N ow b ∨ H b = none) → F.N ow b := fun b h => by
    rcases h with h | h
    · exact h
    · obtain ⟨f1, f2, f3⟩ := I.fresh h; exact ⟨f3, f2, .inr f1⟩
  cases c with
  | io d => exact h.elim
  | view d => exact h.elim
  | ro d => exact ⟨ow, J.push (Rep.mono (fun b h _ => fr b h) h), fun b h _ => fr b h⟩
  | own d =>
    obtain ⟨p, e, hp, h⟩ := h
    subst e
    obtain ⟨f1, f2, f3⟩ := I.fresh hp
    let ow' : Ow := fun b => if b = p then some (.inr τ.length) else ow b
    have e1 : ow' p = some (.inr τ.length) := if_pos rfl
    have e2 : ∀ b, b ≠ p → ow' b = ow b := fun b h => if_neg h
    have hN0 : ∀ b, F.N ow b → (H b).isSome = true → F.N ow' b := fun b h hs => by
      have : b ≠ p := fun e => by rw [e, hp] at hs; cases hs
      exact ⟨by rw [e2 b this]; exact h.1, h.2⟩
    have op : ∀ b id, ow b = some id → b ≠ p := fun b id e z => by rw [z, f3] at e; cases e
    have back : ∀ b id, ow b = some id → ow' b = some id := fun b id e => by rw [e2 b (op b id e)]; exact e
    have kk : Keeps (F.N ow) H H' := Keeps.all k
    have eq : ∀ b, (H b).isSome = true → H' b = H b := fun b h => by
      cases e : H b with
      | none => rw [e] at h; cases h
      | some o => exact k b o e
    have hio : ∀ b, F.io = some b → H' b = H b := fun b e => by
      obtain ⟨o, h, _⟩ := I.mio b e
      rw [h]; exact k b o h
    refine ⟨ow', ⟨I.len, fun i c e => ?_, I.io, ⟨⟨p, rfl, e1, h.mono fun b hb _ => ⟨by rw [e2 b hb.2]; exact (fr b hb.1).1, (fr b hb.1).2⟩⟩, I.tmp.tr hN0 kk (fun b j _ e => ⟨back b _ e, eq b (I.own b _ e).1⟩) hio⟩, fun t ht d' e => ?_, fun b id e => ?_, fun b j e => ?_, J.keep, J.mio⟩, fun b hb hz => ?_⟩
    · obtain ⟨v, h1, h2⟩ := I.slot i c e
      exact ⟨v, h1, h2.tr hN0 kk (fun b e => ⟨back b _ e, eq b (I.own b _ e).1⟩) hio⟩
    · rcases List.mem_cons.mp ht with rfl | ht
      · cases e
      · exact I.tio t ht d' e
    · by_cases hb : b = p
      · subst hb; exact ⟨h.some.1, f1, f2⟩
      · rw [e2 b hb] at e
        exact J.own b id e
    · by_cases hb : b = p
      · subst hb; rw [e1] at e; cases e; exact Nat.lt_succ_self _
      · rw [e2 b hb] at e
        exact Nat.lt_succ_of_lt (I.tid b j e)
    · have hb2 : b ≠ p := by
        rcases hz with ⟨d, z⟩ | z
        · cases z
        · exact fun q => z (by rw [q])
      exact ⟨by rw [e2 b hb2]; exact (fr b hb).1, (fr b hb).2⟩
/-- the owner's function without id -/
def drop (ow : Ow) (id : Sum Nat Nat) : Ow := fun b => if ow b = some id then none else ow b
theorem drop_none {b : Addr} (h : ow b = none) : drop ow id b = none := by unfold drop; rw [h]; simp
theorem drop_some {b : Addr} {i : Sum Nat Nat} (h : drop ow id b = some i) : ow b = some i ∧ i ≠ id := by
  unfold drop at h
  split at h
  · cases h
  · rename_i n; exact ⟨h, fun e => n (e ▸ h)⟩
theorem drop_at {b : Addr} (h : ow b = some id) : drop ow id b = none := by unfold drop; rw [if_pos h]
theorem drop_ne {b : Addr} (h : ow b ≠ some id) : drop ow id b = ow b := by unfold drop; rw [if_neg h]
theorem drop_N : ∀ b, F.N ow b → (H b).isSome = true → F.N (drop ow id) b := fun b h _ => ⟨drop_none h.1, h.2⟩
/-- the last value is dropped -/
theorem RSo.pop {t : V × C} (I : RSo F ow σ H ρ (t :: τ)) : RSo F (drop ow (.inr τ.length)) σ H ρ τ := by
  have go : ∀ {i : Sum Nat Nat} b, i ≠ .inr τ.length → ow b = some i → drop ow (.inr τ.length) b = some i := fun b n e => by
    rw [drop_ne (fun z => n (by rw [e] at z; exact Option.some.inj z))]; exact e
  refine ⟨I.len, fun i c e => ?_, I.io, I.tmp.2.tr drop_N Keeps.refl (fun b j hj e => ⟨go b (fun z => by cases z; exact absurd hj (Nat.lt_irrefl _)) e, rfl⟩) (fun _ _ => rfl), fun u hu => I.tio u (List.mem_cons_of_mem _ hu), fun b id e => I.own b id (drop_some e).1, fun b j e => ?_, I.keep, I.mio⟩
  · obtain ⟨v, h1, h2⟩ := I.slot i c e
    exact ⟨v, h1, h2.tr drop_N Keeps.refl (fun b e => ⟨go b (fun z => by cases z) e, rfl⟩) (fun _ _ => rfl)⟩
  · obtain ⟨e1, e2⟩ := drop_some e
    have := I.tid b j e1
    have hne : j ≠ τ.length := fun z => e2 (by rw [z])
    simp only [List.length_cons] at this
    omega
/-- the last value, as what is read alone -/
theorem RepC.pop {t : V × C} (I : RSo F ow σ H ρ (t :: τ)) (hv : ∀ j, t.2 ≠ .view j) : Rep F.K (F.N (drop ow (.inr τ.length))) H t.1 t.2.d := by
  obtain ⟨v, c⟩ := t
  have h := I.tmp.1
  cases c with
  | ro d => exact Rep.mono drop_N h
  | own d =>
    obtain ⟨a, e, o, q⟩ := h
    have e : v = .ref a := e
    subst e
    obtain ⟨_, g2, g3⟩ := I.own a _ o
    exact q.rep ⟨drop_at o, g3, .inr g2⟩ drop_N
  | io d => exact absurd rfl (I.tio _ List.mem_cons_self d)
  | view j => exact absurd rfl (hv j)
theorem RSo.freeze {v : V} {c : C} (I : RSo F ow σ H ρ ((v, c) :: τ)) (hv : ∀ j, c ≠ .view j) : ∃ ow', RSo F ow' σ H ρ ((v, .ro c.d) :: τ) := ⟨_, I.pop.push (RepC.pop I hv)⟩
/-- the last value goes into a slot -/
theorem RSo.setSlot {i : Nat} (I : RSo F ow σ H ρ ((v, c) :: τ)) (hi : i < ρ.length) (hc : ∀ j, c ≠ .view j) (hτ : (∃ d, c = .ro d) ∨ NoV τ) : ∃ ow', RSo F ow' (σ.set i (some v)) H (ρ.set i (some c)) τ := by
  let ow' : Ow := fun b => if ow b = some (.inr τ.length) then some (.inl i) else if ow b = some (.inl i) then none else ow b
  have a1 : ∀ b, ow b = some (.inr τ.length) → ow' b = some (.inl i) := fun b h => if_pos h
  have a2 : ∀ b id, ow b = some id → id ≠ .inr τ.length → id ≠ .inl i → ow' b = some id := fun b id h n1 n2 => by
    show (if _ then _ else _) = _
    rw [if_neg (by rw [h]; exact fun z => n1 (Option.some.inj z)), if_neg (by rw [h]; exact fun z => n2 (Option.some.inj z))]; exact h
  have a3 : ∀ b, ow b = none → ow' b = none := fun b h => by
    show (if _ then _ else _) = _
    rw [if_neg (by rw [h]; simp), if_neg (by rw [h]; simp)]; exact h
  have a4 : ∀ b id, ow' b = some id → (ow b = some (.inr τ.length) ∧ id = .inl i) ∨ (ow b = some id ∧ id ≠ .inr τ.length ∧ id ≠ .inl i) := fun b id h => by
    by_cases h1 : ow b = some (.inr τ.length)
    · rw [a1 b h1] at h; cases h; exact .inl ⟨h1, rfl⟩
    · by_cases h2 : ow b = some (.inl i)
      · have : ow' b = none := by show (if _ then _ else _) = _; rw [if_neg h1, if_pos h2]
        rw [this] at h; cases h
      · have e : ow' b = ow b := by show (if _ then _ else _) = _; rw [if_neg h1, if_neg h2]
        rw [e] at h
        exact .inr ⟨h, fun z => h1 (z ▸ h), fun z => h2 (z ▸ h)⟩
  have hN : ∀ b, F.N ow b → (H b).isSome = true → F.N ow' b := fun b h _ => ⟨a3 b h.1, h.2⟩
  have hiσ : i < σ.length := by rw [I.len]; exact hi
  have hv : (∃ d, c = .ro d) → Vw σ (σ.set i (some v)) ρ (ρ.set i (some c)) := fun ⟨d, hd⟩ j c' e n => by
    by_cases hj : j = i
    · subst hj
      rw [List.getElem?_set_self hi] at e; cases e
      exact absurd hd (n d)
    · rw [List.getElem?_set_ne (Ne.symm hj)] at e
      exact ⟨⟨c', e, n⟩, List.getElem?_set_ne (Ne.symm hj)⟩
  refine ⟨ow', by rw [List.length_set, List.length_set]; exact I.len, fun j c' e => ?_, fun j d e => ?_, I.tmp.2.tr hN Keeps.refl (fun b j hj e => ⟨a2 b _ e (fun z => by cases z; exact absurd hj (Nat.lt_irrefl _)) (fun z => by cases z), rfl⟩) (fun _ _ => rfl) (hτ.symm.imp id hv), fun u hu => I.tio u (List.mem_cons_of_mem _ hu), fun b id e => ?_, fun b j e => ?_, I.keep, I.mio⟩
  · by_cases hj : j = i
    · subst hj
      rw [List.getElem?_set_self hi] at e; cases e
      refine ⟨v, List.getElem?_set_self hiσ, ?_⟩
      have h := I.tmp.1
      exact h.tr hN Keeps.refl (fun b e => ⟨a1 b e, rfl⟩) (fun _ _ => rfl) (.inl hc)
    · rw [List.getElem?_set_ne (Ne.symm hj)] at e
      obtain ⟨w, h1, h2⟩ := I.slot j c' e
      exact ⟨w, by rw [List.getElem?_set_ne (Ne.symm hj)]; exact h1, h2.tr hN Keeps.refl (fun b e => ⟨a2 b _ e (fun z => by cases z) (fun z => hj (Sum.inl.inj z)), rfl⟩) (fun _ _ => rfl) (.inl fun k z => by subst z; exact I.io j _ e)⟩
  · by_cases hj : j = i
    · subst hj
      rw [List.getElem?_set_self hi] at e; cases e
      cases c with
      | io d => exact absurd rfl (I.tio _ List.mem_cons_self d)
      | view k => exact absurd rfl (hc k)
      | ro d => trivial
      | own d => trivial
    · rw [List.getElem?_set_ne (Ne.symm hj)] at e
      exact I.io j d e
  · rcases a4 b id e with ⟨h1, rfl⟩ | ⟨h1, _⟩
    · exact I.own b _ h1
    · exact I.own b _ h1
  · rcases a4 b _ e with ⟨_, h2⟩ | ⟨h1, h2, _⟩
    · cases h2
    · have := I.tid b j h1
      have hne : j ≠ τ.length := fun z => h2 (by rw [z])
      simp only [List.length_cons] at this
      omega
/-- slots are forgotten; the values behind them may be any -/
theorem RSo.forget (I : RSo F ow σ H ρ τ) (hl : σ'.length = ρ'.length) (h : ∀ (i : Nat) (c : C), ρ'[i]? = some (some c) → ρ[i]? = some (some c) ∧ σ'[i]? = σ[i]?) : RSo F ow σ' H ρ' τ := by
  have hv : Vw σ σ' ρ ρ' := fun i c e n => ⟨⟨c, (h i c e).1, n⟩, (h i c e).2⟩
  refine ⟨hl, fun i c e => ?_, fun i c e => I.io i c (h i _ e).1, I.tmp.tr (fun _ h _ => h) Keeps.refl (fun b j _ e => ⟨e, rfl⟩) (fun _ _ => rfl) (.inr hv), I.tio, I.own, I.tid, I.keep, I.mio⟩
  obtain ⟨e1, e2⟩ := h i c e
  obtain ⟨v, h1, h2⟩ := I.slot i c e1
  exact ⟨v, e2.trans h1, h2.tr (fun _ h _ => h) Keeps.refl (fun b e => ⟨e, rfl⟩) (fun _ _ => rfl) (.inr hv)⟩
/-- the owned object of slot i is changed -/
theorem RSo.write {i : Nat} {o' : HO} {d d' : D} (I : RSo F ow σ H ρ τ) (hs : σ[i]? = some (some (.ref a))) (hc : ρ[i]? = some (some (.own d))) (ha : ow a = some (.inl i)) (h : Holds F ow (upd H a o') a d') : RSo F ow σ (upd H a o') (ρ.set i (some (.own d'))) τ := by
  have hi : i < ρ.length := (List.getElem?_eq_some_iff.mp hc).1
  obtain ⟨g1, g2, g3⟩ := I.own a _ ha
  have nb : ∀ b id, ow b = some id → id ≠ .inl i → b ≠ a := fun b id e n z => by rw [z, ha] at e; exact n (Option.some.inj e).symm
  obtain ⟨v0, q1, a0, q2, q3, q4⟩ := I.slot i _ hc
  have ea : a0 = a := by
    rw [hs] at q1; cases q1; cases q2; rfl
  subst ea
  have mu := q4.some.2
  have kk : Keeps (F.N ow) H (upd H a0 o') := fun b o e hb => by
    have : b ≠ a0 := by
      rintro rfl
      rcases hb with hb | ⟨xs, rfl⟩ | ⟨ob, u, rfl⟩
      · rw [hb.1] at ha; cases ha
      · rw [e] at mu; exact mu.elim
      · rw [e] at mu; exact mu.elim
    rw [upd_ne this]; exact e
  have hN : ∀ b, F.N ow b → (H b).isSome = true → F.N ow b := fun _ h _ => h
  have hio : ∀ b, F.io = some b → upd H a0 o' b = H b := fun b e => upd_ne fun z => g3 (z ▸ e)
  have hv : Vw σ σ ρ (ρ.set i (some (.own d'))) := fun j c e n => by
    refine ⟨?_, rfl⟩
    by_cases hj : j = i
    · subst hj; exact ⟨_, hc, fun _ z => by cases z⟩
    · rw [List.getElem?_set_ne (Ne.symm hj)] at e; exact ⟨c, e, n⟩
  refine ⟨by rw [List.length_set]; exact I.len, fun j c e => ?_, fun j d e => ?_, I.tmp.tr hN kk (fun b j _ e => ⟨e, upd_ne (nb b _ e fun z => by cases z)⟩) hio (.inr hv), I.tio, fun b id e => ?_, I.tid, fun b o e1 e2 => ?_, fun b e => ?_⟩
  · by_cases hj : j = i
    · subst hj
      rw [List.getElem?_set_self hi] at e; cases e
      exact ⟨_, hs, a0, rfl, ha, h⟩
    · rw [List.getElem?_set_ne (Ne.symm hj)] at e
      obtain ⟨w, h1, h2⟩ := I.slot j c e
      exact ⟨w, h1, h2.tr hN kk (fun b e => ⟨e, upd_ne (nb b _ e fun z => hj (Sum.inl.inj z))⟩) hio (.inr hv)⟩
  · by_cases hj : j = i
    · subst hj
      rw [List.getElem?_set_self hi] at e; cases e; trivial
    · rw [List.getElem?_set_ne (Ne.symm hj)] at e
      exact I.io j d e
  · obtain ⟨f1, f2⟩ := I.own b id e
    refine ⟨?_, f2⟩
    by_cases hb : b = a0
    · subst hb; rw [upd_same]; rfl
    · rw [upd_ne hb]; exact f1
  · have : b ≠ a0 := fun z => by rw [z, g2] at e1; cases e1
    rw [upd_ne this]; exact I.keep b o e1 e2
  · rw [hio b e]; exact I.mio b e
/-- the object that was handed in is changed -/
theorem RSo.writeIo {o' : HO} {d d' : D} (I : RSo F ow σ H ρ τ) (hs : σ[0]? = some (some (.ref a))) (hc : ρ[0]? = some (some (.io d))) (ha : F.io = some a) (mo : Mut (some o')) (h : Holds F ow (upd H a o') a d') : RSo F ow σ (upd H a o') (ρ.set 0 (some (.io d'))) τ := by
  have hi : 0 < ρ.length := (List.getElem?_eq_some_iff.mp hc).1
  obtain ⟨v0, q1, a0, q2, q3, q4⟩ := I.slot 0 _ hc
  have ea : a0 = a := by
    rw [ha] at q3; exact (Option.some.inj q3).symm
  subst ea
  have mu := q4.some.2
  have nb : ∀ b id, ow b = some id → b ≠ a0 := fun b id e z => (I.own b id e).2.2 (z ▸ ha)
  have kk : Keeps (F.N ow) H (upd H a0 o') := fun b o e hb => by
    have : b ≠ a0 := by
      rintro rfl
      rcases hb with hb | ⟨xs, rfl⟩ | ⟨ob, u, rfl⟩
      · exact hb.2.1 ha
      · rw [e] at mu; exact mu.elim
      · rw [e] at mu; exact mu.elim
    rw [upd_ne this]; exact e
  have hN : ∀ b, F.N ow b → (H b).isSome = true → F.N ow b := fun _ h _ => h
  have hv : Vw σ σ ρ (ρ.set 0 (some (.io d'))) := fun j c e n => by
    refine ⟨?_, rfl⟩
    by_cases hj : j = 0
    · subst hj; exact ⟨_, hc, fun _ z => by cases z⟩
    · rw [List.getElem?_set_ne (Ne.symm hj)] at e; exact ⟨c, e, n⟩
  refine ⟨by rw [List.length_set]; exact I.len, fun j c e => ?_, fun j d e => ?_, ?_, I.tio, fun b id e => ?_, I.tid, fun b o e1 e2 => ?_, fun b e => ?_⟩
  · by_cases hj : j = 0
    · subst hj
      rw [List.getElem?_set_self hi] at e; cases e
      exact ⟨_, hs, a0, rfl, ha, h⟩
    · rw [List.getElem?_set_ne (Ne.symm hj)] at e
      obtain ⟨w, h1, h2⟩ := I.slot j c e
      refine ⟨w, h1, ?_⟩
      cases c with
      | ro d => exact Rep.keep kk hN h2
      | own d => obtain ⟨b, e1, e2, e3⟩ := h2; exact ⟨b, e1, e2, e3.tr hN kk (upd_ne (nb b _ e2))⟩
      | io d => exact absurd (I.io j _ e) hj
      | view k => exact (I.io j _ e).elim
  · by_cases hj : j = 0
    · subst hj
      rw [List.getElem?_set_self hi] at e; cases e; rfl
    · rw [List.getElem?_set_ne (Ne.symm hj)] at e
      exact I.io j d e
  · have go : ∀ {τ : List (V × C)}, (∀ t ∈ τ, ∀ d, t.2 ≠ .io d) → Tmps F ow σ ρ H τ → Tmps F ow σ (ρ.set 0 (some (.io d'))) (upd H a0 o') τ := by
      intro τ
      induction τ with
      | nil => exact fun _ _ => trivial
      | cons t ts ih =>
        intro hi ⟨h1, h2⟩
        refine ⟨?_, ih (fun u hu => hi u (List.mem_cons_of_mem _ hu)) h2⟩
        obtain ⟨w, c⟩ := t
        cases c with
        | ro d => exact Rep.keep kk hN h1
        | own d => obtain ⟨b, e1, e2, e3⟩ := h1; exact ⟨b, e1, e2, e3.tr hN kk (upd_ne (nb b _ e2))⟩
        | io d => exact absurd rfl (hi _ List.mem_cons_self d)
        | view k => exact fun c' e1 e2 => (let ⟨⟨c2, h3, h4⟩, h5⟩ := hv k c' e1 e2; h5.trans (h1 c2 h3 h4))
    exact go I.tio I.tmp
  · obtain ⟨f1, f2⟩ := I.own b id e
    exact ⟨by rw [upd_ne (nb b id e)]; exact f1, f2⟩
  · have : b ≠ a0 := fun z => e2 (z ▸ ha)
    rw [upd_ne this]; exact I.keep b o e1 e2
  · rw [ha] at e; cases e
    obtain ⟨o, _, _, h3⟩ := I.mio a0 ha
    exact ⟨o', upd_same, mo, h3⟩
end
end Dn

namespace Dn
open PySem L2
/-! ### what is read of a value: its top may be any, what lies in it is N's -/
def RepX (K : KW) (N : Addr → Prop) (H : Hp) (v : V) : D → Prop
  | .lst ds => ∃ a vs, v = .ref a ∧ H a = some (.lst vs) ∧ RepL K N H vs ds
  | .dct ds => ∃ a vs, v = .ref a ∧ Rd H a (.dK vs) ∧ RepK K N H vs ds
  | .dtt ds => ∃ a vs, v = .ref a ∧ H a = some (DKx K.w a vs) ∧ RepT K N H vs ds
  | d => Rep K N H v d
inductive RepXL (K : KW) (N : Addr → Prop) (H : Hp) : List V → List D → Prop
  | nil : RepXL K N H [] []
  | cons {v : V} {vs : List V} {d : D} {ds : List D} : RepX K N H v d → RepXL K N H vs ds → RepXL K N H (v :: vs) (d :: ds)
section
variable {K : KW} {N N' : Addr → Prop} {H H' : Hp} {v : V} {d : D} {a : Addr}
theorem Rep.x (h : Rep K N H v d) : RepX K N H v d := by
  cases h with
  | lst n h r => exact ⟨_, _, rfl, h, r⟩
  | dct n h r => exact ⟨_, _, rfl, h, r⟩
  | dtt n h r => exact ⟨_, _, rfl, h, r⟩
  | non => exact .non
  | bl b => exact .bl b
  | int b => exact .int b
  | str b => exact .str b
  | tup h r => exact .tup h r
  | scr h => exact .scr h
  | ty n => exact .ty n
  | fdc n h r => exact .fdc n h r
  | wtp h r => exact .wtp h r
  | raw v => exact .raw v
theorem HoldsN.x (h : HoldsN K N H a d) : RepX K N H (.ref a) d := by
  cases d with
  | lst ds => obtain ⟨vs, h1, r⟩ := h; exact ⟨a, vs, rfl, h1, r⟩
  | dct ds => obtain ⟨vs, h1, r⟩ := h; exact ⟨a, vs, rfl, .inl h1, r⟩
  | dtt ds => obtain ⟨vs, h1, r⟩ := h; exact ⟨a, vs, rfl, h1, r⟩
  | _ => exact h.elim
theorem RepX.mono (n : ∀ b, N b → (H b).isSome = true → N' b) (h : RepX K N H v d) : RepX K N' H v d := by
  cases d with
  | lst ds => obtain ⟨a, vs, e, h1, r⟩ := h; exact ⟨a, vs, e, h1, r.mono n⟩
  | dct ds => obtain ⟨a, vs, e, h1, r⟩ := h; exact ⟨a, vs, e, h1, r.mono n⟩
  | dtt ds => obtain ⟨a, vs, e, h1, r⟩ := h; exact ⟨a, vs, e, h1, r.mono n⟩
  | non => exact Rep.mono n h
  | bl b => exact Rep.mono n h
  | int b => exact Rep.mono n h
  | str b => exact Rep.mono n h
  | tup b => exact Rep.mono n h
  | scr b => exact Rep.mono n h
  | ty b => exact Rep.mono n h
  | fdc b => exact Rep.mono n h
  | wtp b => exact Rep.mono n h
  | raw b => exact Rep.mono n h
theorem RepXL.mono (n : ∀ b, N b → (H b).isSome = true → N' b) : ∀ {vs : List V} {ds : List D}, RepXL K N H vs ds → RepXL K N' H vs ds
  | _, _, .nil => .nil
  | _, _, .cons h r => .cons (h.mono n) (RepXL.mono n r)
/-- the same with every node told to be N's: the weak reading -/
theorem RepX.rep (h : RepX K N H v d) (n : ∀ b, (H b).isSome = true → N' b) : Rep K N' H v d := by
  have nn : ∀ b, N b → (H b).isSome = true → N' b := fun b _ => n b
  have rs : ∀ {b : Addr} {u : HO}, Rd H b u → (H b).isSome = true := fun h => by rcases h with h | ⟨o, h⟩ <;> rw [h] <;> rfl
  cases d with
  | lst ds => obtain ⟨a, vs, rfl, h1, r⟩ := h; exact .lst (n _ (rs (.inl h1))) h1 (r.mono nn)
  | dct ds => obtain ⟨a, vs, rfl, h1, r⟩ := h; exact .dct (n _ (rs h1)) h1 (r.mono nn)
  | dtt ds => obtain ⟨a, vs, rfl, h1, r⟩ := h; exact .dtt (n _ (rs (.inl h1))) h1 (r.mono nn)
  | non => exact Rep.mono nn h
  | bl b => exact Rep.mono nn h
  | int b => exact Rep.mono nn h
  | str b => exact Rep.mono nn h
  | tup b => exact Rep.mono nn h
  | scr b => exact Rep.mono nn h
  | ty b => exact Rep.mono nn h
  | fdc b => exact Rep.mono nn h
  | wtp b => exact Rep.mono nn h
  | raw b => exact Rep.mono nn h
theorem RepXL.rep (n : ∀ b, (H b).isSome = true → N' b) : ∀ {vs : List V} {ds : List D}, RepXL K N H vs ds → RepL K N' H vs ds
  | _, _, .nil => .nil
  | _, _, .cons h r => .cons (h.rep n) (RepXL.rep n r)
theorem RepL.x : ∀ {vs : List V} {ds : List D}, RepL K N H vs ds → RepXL K N H vs ds
  | _, _, .nil => .nil
  | _, _, .cons h r => .cons h.x (RepL.x r)
end
/-! ### data without lists or dicts -/
mutual
def D.imm : D → Bool
  | .tup xs => D.immL xs
  | .lst _ => false
  | .dct _ => false
  | .dtt _ => false
  | .fdc _ => false
  | .wtp _ => false
  | .raw _ => false
  | .non => true
  | .bl _ => true
  | .int _ => true
  | .str _ => true
  | .scr _ => true
  | .ty _ => true
def D.immL : List D → Bool
  | [] => true
  | x :: xs => D.imm x && D.immL xs
end
theorem D.immL_eq : ∀ xs : List D, D.immL xs = xs.all D.imm
  | [] => rfl
  | x :: xs => by simp [D.immL, D.immL_eq xs]
section
variable {K : KW} {N N' : Addr → Prop} {H : Hp}
mutual
theorem Rep.imm : ∀ {v : V} {d : D}, Rep K N H v d → D.imm d = true → Rep K N' H v d
  | _, _, .non, _ => .non
  | _, _, .bl b, _ => .bl b
  | _, _, .int b, _ => .int b
  | _, _, .str b, _ => .str b
  | _, _, .tup h r, i => .tup h (RepL.imm r (by simpa [D.imm] using i))
  | _, _, .scr h, _ => .scr h
  | _, _, .ty n, _ => .ty n
  | _, _, .lst _ _ _, i => by simp [D.imm] at i
  | _, _, .dct _ _ _, i => by simp [D.imm] at i
  | _, _, .dtt _ _ _, i => by simp [D.imm] at i
  | _, _, .fdc _ _ _, i => by simp [D.imm] at i
  | _, _, .wtp _ _, i => by simp [D.imm] at i
  | _, _, .raw _, i => by simp [D.imm] at i
theorem RepL.imm : ∀ {v : List V} {d : List D}, RepL K N H v d → D.immL d = true → RepL K N' H v d
  | _, _, .nil, _ => .nil
  | _, _, .cons h r, i => by
    simp only [D.immL, Bool.and_eq_true] at i
    exact .cons (Rep.imm h i.1) (RepL.imm r i.2)
end
theorem RepK.imm : ∀ {v : List (Key × V)} {d : List (Key × D)}, RepK K N H v d → D.immL (d.map (·.2)) = true → RepK K N' H v d
  | _, _, .nil, _ => .nil
  | _, _, .cons h r, i => by
    simp only [List.map_cons, D.immL, Bool.and_eq_true] at i
    exact .cons (Rep.imm h i.1) (RepK.imm r i.2)
theorem RepT.imm : ∀ {v : List (NestedKey × Addr × V)} {d : List (D × D)}, RepT K N H v d → D.immL (d.map (·.1)) = true → D.immL (d.map (·.2)) = true → RepT K N' H v d
  | _, _, .nil, _, _ => .nil
  | _, _, .cons e h0 h r, j, i => by
    simp only [List.map_cons, D.immL, Bool.and_eq_true] at i j
    exact .cons e (Rep.imm h0 j.1) (Rep.imm h i.1) (RepT.imm r j.2 i.2)
end
/-- a result in which nothing of the arguments' lists lies -/
def C.clean : C → Bool
  | .ro d => d.imm
  | .own (.lst ds) => D.immL ds
  | .own (.dct ds) => D.immL (ds.map (·.2))
  | .own (.dtt ds) => D.immL (ds.map (·.1)) && D.immL (ds.map (·.2))
  | _ => false
theorem Ret.clean {K : KW} {N N' : Addr → Prop} {H H' : Hp} {v : V} {c : C} (h : Ret K N H H' v c) (k : c.clean = true) : Ret K N' H H' v c := by
  cases c with
  | ro d => exact Rep.imm h k
  | own d =>
    obtain ⟨a, e, n, h⟩ := h
    refine ⟨a, e, n, ?_⟩
    cases d with
    | lst ds => obtain ⟨vs, h1, r⟩ := h; exact ⟨vs, h1, r.imm k⟩
    | dct ds => obtain ⟨vs, h1, r⟩ := h; exact ⟨vs, h1, r.imm k⟩
    | dtt ds =>
      obtain ⟨vs, h1, r⟩ := h
      have k : (D.immL (ds.map (·.1)) && D.immL (ds.map (·.2))) = true := k
      rw [Bool.and_eq_true] at k
      exact ⟨vs, h1, r.imm k.1 k.2⟩
    | _ => exact h.elim
  | io d => exact h.elim
  | view d => exact h.elim
/-! ### values on the stack -/
def dat (ρ : Env) : C → Option D
  | .ro d => some d
  | .own d => some d
  | .io d => some d
  | .view i => match ρ[i]? with
    | some (some (.own d)) => some d
    | some (some (.io d)) => some d
    | _ => none
def dats (ρ : Env) : List C → Option (List D)
  | [] => some []
  | c :: cs => match dat ρ c, dats ρ cs with
    | some d, some ds => some (d :: ds)
    | _, _ => none
def stk : List V → List C → List (V × C) → List (V × C)
  | v :: vs, c :: cs, τ => stk vs cs ((v, c) :: τ)
  | _, _, τ => τ
section
variable {F : Fr} {ow : Ow} {id : Sum Nat Nat} {H : Hp} {σ : St} {ρ : Env} {τ : List (V × C)} {v : V} {c : C} {d : D}
theorem RSo.x (I : RSo F ow σ H ρ τ) (h : RepC F ow id σ ρ H v c) (e : dat ρ c = some d) : RepX F.K (F.N ow) H v d := by
  cases c with
  | ro d' => cases e; exact Rep.x h
  | own d' => cases e; obtain ⟨a, rfl, _, q⟩ := h; exact q.x
  | io d' => cases e; obtain ⟨a, rfl, _, q⟩ := h; exact q.x
  | view i =>
    dsimp only [dat] at e
    cases q : ρ[i]? with
    | none => rw [q] at e; cases e
    | some o =>
      rw [q] at e
      cases o with
      | none => cases e
      | some c =>
        cases c with
        | ro d' => cases e
        | view d' => cases e
        | own d' =>
          cases e
          have hv := h _ q (fun _ z => by cases z)
          obtain ⟨w, h1, a, rfl, _, q2⟩ := I.slot i _ q
          rw [hv] at h1; cases h1
          exact q2.x
        | io d' =>
          cases e
          have hv := h _ q (fun _ z => by cases z)
          obtain ⟨w, h1, a, rfl, _, q2⟩ := I.slot i _ q
          rw [hv] at h1; cases h1
          exact q2.x
theorem RSo.take : ∀ {vs : List V} {cs : List C} {ow : Ow} {τ : List (V × C)}, vs.length = cs.length → RSo F ow σ H ρ (stk vs cs τ) → ∃ ow', RSo F ow' σ H ρ τ ∧ ∀ ds, dats ρ cs = some ds → RepXL F.K (F.N ow') H vs ds
  | [], [], ow, τ, _, I => ⟨ow, I, fun ds e => by cases e; exact .nil⟩
  | v :: vs, c :: cs, ow, τ, hl, I => by
    obtain ⟨ow1, I1, r1⟩ := RSo.take (vs := vs) (cs := cs) (τ := (v, c) :: τ) (by simpa using hl) I
    refine ⟨_, I1.pop, fun ds e => ?_⟩
    unfold dats at e
    cases q1 : dat ρ c with
    | none => rw [q1] at e; cases e
    | some d =>
      cases q2 : dats ρ cs with
      | none => rw [q1, q2] at e; cases e
      | some ds' =>
        rw [q1, q2] at e; cases e
        exact .cons ((I1.x I1.tmp.1 q1).mono drop_N) ((r1 ds' q2).mono drop_N)
  | [], _ :: _, _, _, hl, _ => by simp at hl
  | _ :: _, [], _, _, hl, _ => by simp at hl
end
end Dn

namespace Dn
open PySem L2
/-! ### what an expression, a test, an argument list is worth -/
abbrev P1 := Env → Option (C × Env)
abbrev PT1 := Env → Option (Bool × Env)
abbrev PAs := Env → Option (List C × Env)
def tD (F : Fr) (p : P1) : TE := fun σ H Q => ∃ ρ τ c ρ', RS F σ H ρ τ ∧ p ρ = some (c, ρ') ∧ ∀ v H', RS F σ H' ρ' ((v, c) :: τ) → Q v H'
def tDT (F : Fr) (p : PT1) : TT := fun σ H Q => ∃ ρ τ b ρ', RS F σ H ρ τ ∧ p ρ = some (b, ρ') ∧ ∀ H', RS F σ H' ρ' τ → Q b H'
def tDA (F : Fr) (p : PAs) : TA := fun σ H Q => ∃ ρ τ cs ρ', RS F σ H ρ τ ∧ p ρ = some (cs, ρ') ∧ ∀ vs H', vs.length = cs.length → RS F σ H' ρ' (stk vs cs τ) → Q vs H'
/-- operations on data -/
def FunS (K : KW) (r : List V → Hp → VK → Prop) (f : List D → Option C) : Prop :=
  ∀ (N : Addr → Prop) (H : Hp) (vs : List V) (ds : List D) (c : C) (Q : VK), RepXL K N H vs ds → f ds = some c → (∀ v H', Same H H' → Ret K N H H' v c → Q v H') → r vs H Q
def Op2S (K : KW) (r : R2) (f : D → D → Option C) : Prop :=
  ∀ (N : Addr → Prop) (H : Hp) (x y : V) (dx dy : D) (c : C) (Q : VK), RepX K N H x dx → RepX K N H y dy → f dx dy = some c → (∀ v H', Same H H' → Ret K N H H' v c → Q v H') → r x y H Q
def Op1S (K : KW) (r : V → Hp → VK → Prop) (f : D → Option C) : Prop :=
  ∀ (N : Addr → Prop) (H : Hp) (x : V) (dx : D) (c : C) (Q : VK), RepX K N H x dx → f dx = some c → (∀ v H', Same H H' → Ret K N H H' v c → Q v H') → r x H Q
section
variable {X : Cx} {F : Fr} {σ : St} {H : Hp} {ρ ρ' : Env} {τ : List (V × C)} {e a b : Expr} {pos : Pos} {p pa pb : P1} {q qa qb : PT1}
theorem PE.imp {t t' : TE} (h : PE X e t) (k : ∀ σ H Q, t' σ H Q → t σ H Q) : PE X e t' := ⟨fun pins s σ H Q I hw => h.run pins s σ H Q I (k σ H Q hw)⟩
theorem PT.imp {t t' : TT} (h : PT X e t) (k : ∀ σ H Q, t' σ H Q → t σ H Q) : PT X e t' := ⟨fun pins s σ H Q I hw => h.run pins s σ H Q I (k σ H Q hw)⟩
theorem PA.imp {es : List Expr} {t t' : TA} (h : PA X es t) (k : ∀ σ H Q, t' σ H Q → t σ H Q) : PA X es t' := ⟨fun pos pins s σ H Q I hw => h.run pos pins s σ H Q I (k σ H Q hw)⟩
theorem PS.imp {st : Stmt} {t t' : TS} (h : PS X st t) (k : ∀ D σ H, t' D σ H → t D σ H) : PS X st t' := ⟨fun pins s σ H D I hw => h.run pins s σ H D I (k D σ H hw)⟩
theorem PSs.imp {st : List Stmt} {t t' : TS} (h : PSs X st t) (k : ∀ D σ H, t' D σ H → t D σ H) : PSs X st t' := ⟨fun pins s σ H D I hw => h.run pins s σ H D I (k D σ H hw)⟩
theorem RS.pushRo {v : V} {d : D} (h : ∃ ow, RSo F ow σ H ρ τ ∧ Rep F.K (F.N ow) H v d) : RS F σ H ρ ((v, .ro d) :: τ) := let ⟨ow, I, r⟩ := h; ⟨ow, I.push r⟩
/-! constants, names -/
def pC (d : D) : P1 := fun ρ => some (.ro d, ρ)
theorem de_c {v : V} {d : D} (h : PE X e (tC v)) (r : ∀ K N H, Rep K N H v d) : PE X e (tD F (pC d)) := PE.imp h fun σ H Q hw => by
  obtain ⟨ρ, τ, c, ρ', ⟨ow, I⟩, e1, k⟩ := hw
  cases e1
  exact k v H ⟨ow, I.push (r _ _ _)⟩
def pVar (i : Nat) : P1 := fun ρ => match ρ[i]? with
  | some (some (.ro d)) => some (.ro d, ρ)
  | some (some (.own _)) => some (.view i, ρ)
  | some (some (.io _)) => some (.view i, ρ)
  | _ => none
theorem RSo.pushView {i : Nat} {v : V} {ow : Ow} (I : RSo F ow σ H ρ τ) (h : ∀ c, ρ[i]? = some (some c) → (∀ d, c ≠ .ro d) → σ[i]? = some (some v)) : RSo F ow σ H ρ ((v, .view i) :: τ) :=
  ⟨I.len, I.slot, I.io, ⟨h, I.tmp⟩, fun t ht d' e => by
    rcases List.mem_cons.mp ht with rfl | ht
    · cases e
    · exact I.tio t ht d' e, I.own, fun b j e => Nat.lt_succ_of_lt (I.tid b j e), I.keep, I.mio⟩
theorem de_var {i : Nat} (h : PE X e (tVar i)) : PE X e (tD F (pVar i)) := PE.imp h fun σ H Q hw => by
  obtain ⟨ρ, τ, c, ρ', ⟨ow, I⟩, e1, k⟩ := hw
  dsimp only [pVar] at e1
  cases q : ρ[i]? with
  | none => rw [q] at e1; cases e1
  | some o =>
    cases o with
    | none => rw [q] at e1; cases e1
    | some c1 =>
      rw [q] at e1
      obtain ⟨v, h1, h2⟩ := I.slot i c1 q
      refine ⟨v, h1, ?_⟩
      cases c1 with
      | ro d => cases e1; exact k v H ⟨ow, I.push h2⟩
      | own d => cases e1; exact k v H ⟨ow, I.pushView fun _ _ _ => h1⟩
      | io d => cases e1; exact k v H ⟨ow, I.pushView fun _ _ _ => h1⟩
      | view d => cases e1
/-! operators -/
def pOp2 (f : D → D → Option C) (pa pb : P1) : P1 := fun ρ => (pa ρ).bind fun a => (pb a.2).bind fun b => (dat b.2 a.1).bind fun x => (dat b.2 b.1).bind fun y => (f x y).map fun c => (c, b.2)
def pOp1 (f : D → Option C) (pa : P1) : P1 := fun ρ => (pa ρ).bind fun a => (dat a.2 a.1).bind fun x => (f x).map fun c => (c, a.2)
theorem op2_of {r : R2} {f : D → D → Option C} (hf : Op2S F.K r f) {σ : St} {H : Hp} {Q : VK} (hw : tD F (pOp2 f pa pb) σ H Q) : tOp r (tD F pa) (tD F pb) σ H Q := by
  obtain ⟨ρ, τ, c, ρ', I, e1, k⟩ := hw
  simp only [pOp2, Option.bind_eq_some_iff, Option.map_eq_some_iff] at e1
  obtain ⟨⟨c1, ρ1⟩, h1, ⟨c2, ρ2⟩, h2, x, hx, y, hy, c3, h3, e2⟩ := e1
  cases e2
  refine ⟨ρ, τ, c1, ρ1, I, h1, fun v H1 I1 => ⟨ρ1, _, c2, ρ2, I1, h2, fun u H2 I2 => ?_⟩⟩
  obtain ⟨ow, I2⟩ := I2
  obtain ⟨ow', I3, rx⟩ := RSo.take (vs := [v, u]) (cs := [c1, c2]) rfl I2
  have rr := rx [x, y] (by simp only [dats]; rw [hx, hy])
  cases rr with
  | cons r1 rr =>
    cases rr with
    | cons r2 _ =>
      refine hf _ _ _ _ _ _ _ _ r1 r2 h3 fun v' H' g rt => ?_
      obtain ⟨ow2, I4, _⟩ := I3.ret g rt
      exact k v' H' ⟨ow2, I4⟩
theorem op1_of {r : V → Hp → VK → Prop} {f : D → Option C} (hf : Op1S F.K r f) {σ : St} {H : Hp} {Q : VK} (hw : tD F (pOp1 f pa) σ H Q) : tD F pa σ H fun x H1 => r x H1 Q := by
  obtain ⟨ρ, τ, c, ρ', I, e1, k⟩ := hw
  simp only [pOp1, Option.bind_eq_some_iff, Option.map_eq_some_iff] at e1
  obtain ⟨⟨c1, ρ1⟩, h1, x, hx, c3, h3, e2⟩ := e1
  cases e2
  refine ⟨ρ, τ, c1, ρ1, I, h1, fun v H1 I1 => ?_⟩
  obtain ⟨ow, I2⟩ := I1
  obtain ⟨ow', I3, rx⟩ := RSo.take (vs := [v]) (cs := [c1]) rfl I2
  have rr := rx [x] (by simp only [dats]; rw [hx])
  cases rr with
  | cons r1 rr =>
      refine hf _ _ _ _ _ _ r1 h3 fun v' H' g rt => ?_
      obtain ⟨ow2, I4, _⟩ := I3.ret g rt
      exact k v' H' ⟨ow2, I4⟩
theorem de_op2 {op : Operator} {r : R2} {f : D → D → Option C} (ho : OpR X (binaryOp op) r) (hf : Op2S F.K r f) (ha : PE X a (tD F pa)) (hb : PE X b (tD F pb)) : PE X (.BinOp a op b pos) (tD F (pOp2 f pa pb)) :=
  PE.imp (pe_op ho ha hb) fun _ _ _ => op2_of hf
theorem de_op1 {op : UnaryOp} {r : V → Hp → VK → Prop} {f : D → Option C} (ho : UnR X (unaryOp op) r) (hf : Op1S F.K r f) (ha : PE X a (tD F pa)) : PE X (.UnaryOp op a pos) (tD F (pOp1 f pa)) :=
  PE.imp (pe_un ho ha) fun _ _ _ => op1_of hf
theorem de_cmp {op : CmpOp} {r : R2} {f : D → D → Option C} (ho : OpR X (compareOp op) r) (hf : Op2S F.K r f) (ha : PE X a (tD F pa)) (hb : PE X b (tD F pb)) (hm : behindInMarks op b = false) : PE X (.Compare a [op] [b] pos) (tD F (pOp2 f pa pb)) :=
  PE.imp (pe_cmpR ho ha hb hm) fun _ _ _ => op2_of hf
theorem de_ix {r : R2} {f : D → D → Option C} (hr : IxR X r) (hf : Op2S F.K r f) (ha : PE X a (tD F pa)) (hb : PE X b (tD F pb)) (hs : PlainIx b) : PE X (.Subscript a b pos) (tD F (pOp2 f pa pb)) :=
  PE.imp (pe_ix hr ha hb hs) fun _ _ _ => op2_of hf
/-! arguments -/
def pNil : PAs := fun ρ => some ([], ρ)
def pCons (p : P1) (ps : PAs) : PAs := fun ρ => (p ρ).bind fun a => (ps a.2).map fun b => (a.1 :: b.1, b.2)
theorem da_nil : PA X [] (tDA F pNil) := PA.imp pa_nil fun σ H Q hw => by
  obtain ⟨ρ, τ, c, ρ', I, e1, k⟩ := hw
  cases e1
  exact k [] H rfl I
theorem da_cons {es : List Expr} {ps : PAs} (ha : PE X e (tD F p)) (hr : PA X es (tDA F ps)) (hs : starEach (e :: es) X.env = (false, eval e X.env) :: starEach es X.env := by rfl) : PA X (e :: es) (tDA F (pCons p ps)) := PA.imp (pa_cons ha hr hs) fun σ H Q hw => by
  obtain ⟨ρ, τ, c, ρ', I, e1, k⟩ := hw
  simp only [pCons, Option.bind_eq_some_iff, Option.map_eq_some_iff] at e1
  obtain ⟨⟨c1, ρ1⟩, h1, ⟨cs, ρ2⟩, h2, e2⟩ := e1
  cases e2
  exact ⟨ρ, τ, c1, ρ1, I, h1, fun v H1 I1 => ⟨ρ1, _, cs, ρ2, I1, h2, fun vs H2 hl I2 => k (v :: vs) H2 (by simp [hl]) I2⟩⟩
/-! built-ins -/
def pFun (f : List D → Option C) (ps : PAs) : P1 := fun ρ => (ps ρ).bind fun a => (dats a.2 a.1).bind fun ds => (f ds).map fun c => (c, a.2)
theorem fun_of {r : List V → Hp → VK → Prop} {f : List D → Option C} {ps : PAs} (hf : FunS F.K r f) {σ : St} {H : Hp} {Q : VK} (hw : tD F (pFun f ps) σ H Q) : tDA F ps σ H fun vs H1 => r vs H1 Q := by
  obtain ⟨ρ, τ, c, ρ', I, e1, k⟩ := hw
  simp only [pFun, Option.bind_eq_some_iff, Option.map_eq_some_iff] at e1
  obtain ⟨⟨cs, ρ1⟩, h1, ds, hd, c3, h3, e2⟩ := e1
  cases e2
  refine ⟨ρ, τ, cs, ρ1, I, h1, fun vs H1 hl I1 => ?_⟩
  obtain ⟨ow, I2⟩ := I1
  obtain ⟨ow', I3, rx⟩ := RSo.take hl I2
  refine hf _ _ _ _ _ _ (rx ds hd) h3 fun v' H' g rt => ?_
  obtain ⟨ow2, I4, _⟩ := I3.ret g rt
  exact k v' H' ⟨ow2, I4⟩
/-! tests, and, or, not, if -/
def pB (p : P1) : PT1 := fun ρ => (p ρ).bind fun a => match a.1 with
  | .ro (.bl b) => some (b, a.2)
  | _ => none
theorem tb_of {σ : St} {H : Hp} {Q : Bool → Hp → Prop} (hw : tDT F (pB p) σ H Q) : tD F p σ H fun x H1 => ∃ k, x = .bl k ∧ Q k H1 := by
  obtain ⟨ρ, τ, b, ρ', I, e1, k⟩ := hw
  simp only [pB, Option.bind_eq_some_iff] at e1
  obtain ⟨⟨c1, ρ1⟩, h1, e2⟩ := e1
  refine ⟨ρ, τ, c1, ρ1, I, h1, fun v H1 I1 => ?_⟩
  obtain ⟨ow, I1⟩ := I1
  cases c1 with
  | ro d =>
    cases d with
    | bl b' =>
      cases e2
      have := I1.tmp.1
      cases this
      exact ⟨_, rfl, k H1 ⟨_, I1.pop⟩⟩
    | _ => cases e2
  | _ => cases e2
theorem dt_val (h : PE X e (tD F p)) (he : ∀ whole, isTrue e X.env whole = (do let v ← whole; standAt e.pos; holding [v] (truthy v)) := by intro _; rfl) : PT X e (tDT F (pB p)) := PT.imp (pt_val h he) fun _ _ _ => tb_of
theorem dt_cmp {op : CmpOp} {r : R2} {f : D → D → Option C} (ho : OpR X (compareOp op) r) (hf : Op2S F.K r f) (ha : PE X a (tD F pa)) (hb : PE X b (tD F pb)) (hm : behindInMarks op b = false) : PT X (.Compare a [op] [b] pos) (tDT F (pB (pOp2 f pa pb))) :=
  PT.imp (pt_cmpR ho ha hb hm) fun _ _ _ hw => op2_of hf (Q := _) (tb_of hw)
def qAnd (qa qb : PT1) : PT1 := fun ρ => (qa ρ).bind fun a => if a.1 = true then qb a.2 else some (false, a.2)
def qOr (qa qb : PT1) : PT1 := fun ρ => (qa ρ).bind fun a => if a.1 = true then some (true, a.2) else qb a.2
def qNot (qa : PT1) : PT1 := fun ρ => (qa ρ).map fun a => (!a.1, a.2)
variable {rest : List Expr}
theorem PW.imp {t t' : TT} (h : PW X e t) (k : ∀ σ H Q, t' σ H Q → t σ H Q) : PW X e t' := ⟨fun wh pins s σ H Q I hw => h.run wh pins s σ H Q I (k σ H Q hw)⟩
theorem dw_and1 (ha : PT X a (tDT F qa)) : PW X (.BoolOp .And [a] pos) (tDT F qa) := pw_and1 ha
theorem dw_or1 (ha : PT X a (tDT F qa)) : PW X (.BoolOp .Or [a] pos) (tDT F qa) := pw_or1 ha
theorem dw_and (ha : PT X a (tDT F qa)) (hb : PW X (.BoolOp .And (b :: rest) pos) (tDT F qb)) : PW X (.BoolOp .And (a :: b :: rest) pos) (tDT F (qAnd qa qb)) := PW.imp (pw_and ha hb) fun σ H Q hw => by
  obtain ⟨ρ, τ, k, ρ', I, e1, k'⟩ := hw
  simp only [qAnd, Option.bind_eq_some_iff] at e1
  obtain ⟨⟨c1, ρ1⟩, h1, e2⟩ := e1
  refine ⟨ρ, τ, c1, ρ1, I, h1, fun H1 I1 => ?_⟩
  cases c1 with
  | true => exact ⟨ρ1, τ, k, ρ', I1, e2, k'⟩
  | false => cases e2; exact k' H1 I1
theorem dw_or (ha : PT X a (tDT F qa)) (hb : PW X (.BoolOp .Or (b :: rest) pos) (tDT F qb)) : PW X (.BoolOp .Or (a :: b :: rest) pos) (tDT F (qOr qa qb)) := PW.imp (pw_or ha hb) fun σ H Q hw => by
  obtain ⟨ρ, τ, k, ρ', I, e1, k'⟩ := hw
  simp only [qOr, Option.bind_eq_some_iff] at e1
  obtain ⟨⟨c1, ρ1⟩, h1, e2⟩ := e1
  refine ⟨ρ, τ, c1, ρ1, I, h1, fun H1 I1 => ?_⟩
  cases c1 with
  | true => cases e2; exact k' H1 I1
  | false => exact ⟨ρ1, τ, k, ρ', I1, e2, k'⟩
theorem dt_w (h : PW X e (tDT F q)) : PT X e (tDT F q) := h.pt
theorem dt_not (ha : PT X a (tDT F qa)) : PT X (.UnaryOp .Not a pos) (tDT F (qNot qa)) := PT.imp (pt_not ha) fun σ H Q hw => by
  obtain ⟨ρ, τ, k, ρ', I, e1, k'⟩ := hw
  simp only [qNot, Option.map_eq_some_iff] at e1
  obtain ⟨⟨c1, ρ1⟩, h1, e2⟩ := e1
  cases e2
  exact ⟨ρ, τ, c1, ρ1, I, h1, fun H1 I1 => k' H1 I1⟩
/-- a test as a value -/
def pOfB (q : PT1) : P1 := fun ρ => (q ρ).map fun a => (.ro (.bl a.1), a.2)
def pIf (q : PT1) (pa pb : P1) : P1 := fun ρ => (q ρ).bind fun t => if t.1 = true then pa t.2 else pb t.2
theorem de_if {c : Expr} (hc : PT X c (tDT F q)) (ha : PE X a (tD F pa)) (hb : PE X b (tD F pb)) : PE X (.IfExp c a b pos) (tD F (pIf q pa pb)) := PE.imp (pe_ifExp hc ha hb) fun σ H Q hw => by
  obtain ⟨ρ, τ, k, ρ', I, e1, k'⟩ := hw
  simp only [pIf, Option.bind_eq_some_iff] at e1
  obtain ⟨⟨c1, ρ1⟩, h1, e2⟩ := e1
  refine ⟨ρ, τ, c1, ρ1, I, h1, fun H1 I1 => ?_⟩
  cases c1 with
  | true => exact ⟨ρ1, τ, k, ρ', I1, e2, k'⟩
  | false => exact ⟨ρ1, τ, k, ρ', I1, e2, k'⟩
/-- and, or, not as values: bools -/
def pAnd (pa pb : P1) : P1 := fun ρ => (pa ρ).bind fun a => match a.1 with
  | .ro (.bl b) => if b = true then pb a.2 else some (.ro (.bl false), a.2)
  | _ => none
def pOr (pa pb : P1) : P1 := fun ρ => (pa ρ).bind fun a => match a.1 with
  | .ro (.bl b) => if b = true then some (.ro (.bl true), a.2) else pb a.2
  | _ => none
def pNot (pa : P1) : P1 := fun ρ => (pa ρ).bind fun a => match a.1 with
  | .ro (.bl b) => some (.ro (.bl (!b)), a.2)
  | _ => none
theorem blc {ow : Ow} {v : V} {b : Bool} (I : RSo F ow σ H ρ ((v, .ro (.bl b)) :: τ)) : v = .bl b := by
  have := I.tmp.1; cases this; rfl
theorem de_one {op : BoolOp} (h : PE X a (tD F pa)) : PE X (.BoolOp op [a] pos) (tD F pa) := pe_one h
theorem de_and (ha : PE X a (tD F pa)) (hb : PE X (.BoolOp .And (b :: rest) pos) (tD F pb)) : PE X (.BoolOp .And (a :: b :: rest) pos) (tD F (pAnd pa pb)) := PE.imp (pe_and ha hb) fun σ H Q hw => by
  obtain ⟨ρ, τ, k, ρ', I, e1, k'⟩ := hw
  simp only [pAnd, Option.bind_eq_some_iff] at e1
  obtain ⟨⟨c1, ρ1⟩, h1, e2⟩ := e1
  refine ⟨ρ, τ, c1, ρ1, I, h1, fun v H1 I1 => ?_⟩
  obtain ⟨ow, I1⟩ := I1
  cases c1 with
  | ro d =>
    cases d with
    | bl b' =>
      refine ⟨b', blc I1, ?_⟩
      cases b' with
      | true => exact ⟨ρ1, τ, k, ρ', ⟨_, I1.pop⟩, e2, k'⟩
      | false => cases e2; exact k' _ H1 ⟨_, (blc I1) ▸ I1⟩
    | _ => cases e2
  | _ => cases e2
theorem de_or (ha : PE X a (tD F pa)) (hb : PE X (.BoolOp .Or (b :: rest) pos) (tD F pb)) : PE X (.BoolOp .Or (a :: b :: rest) pos) (tD F (pOr pa pb)) := PE.imp (pe_or ha hb) fun σ H Q hw => by
  obtain ⟨ρ, τ, k, ρ', I, e1, k'⟩ := hw
  simp only [pOr, Option.bind_eq_some_iff] at e1
  obtain ⟨⟨c1, ρ1⟩, h1, e2⟩ := e1
  refine ⟨ρ, τ, c1, ρ1, I, h1, fun v H1 I1 => ?_⟩
  obtain ⟨ow, I1⟩ := I1
  cases c1 with
  | ro d =>
    cases d with
    | bl b' =>
      refine ⟨b', blc I1, ?_⟩
      cases b' with
      | false => exact ⟨ρ1, τ, k, ρ', ⟨_, I1.pop⟩, e2, k'⟩
      | true => cases e2; exact k' _ H1 ⟨_, (blc I1) ▸ I1⟩
    | _ => cases e2
  | _ => cases e2
theorem de_not (ha : PE X a (tD F pa)) : PE X (.UnaryOp .Not a pos) (tD F (pNot pa)) := PE.imp (pe_not ha) fun σ H Q hw => by
  obtain ⟨ρ, τ, k, ρ', I, e1, k'⟩ := hw
  simp only [pNot, Option.bind_eq_some_iff] at e1
  obtain ⟨⟨c1, ρ1⟩, h1, e2⟩ := e1
  refine ⟨ρ, τ, c1, ρ1, I, h1, fun v H1 I1 => ?_⟩
  obtain ⟨ow, I1⟩ := I1
  cases c1 with
  | ro d =>
    cases d with
    | bl b' =>
      cases e2
      exact ⟨b', blc I1, k' _ H1 ⟨_, I1.pop.push (.bl _)⟩⟩
    | _ => cases e2
  | _ => cases e2
end
end Dn

namespace Dn
open PySem L2
/-! ### operations on data -/
def szOk (n : Nat) : Bool := decide (n ≤ sizeLine)
def D.add : D → D → Option C
  | .int i, .int j => some (.ro (.int (i + j)))
  | .str x, .str y => if szOk (x.length + y.length) = true then some (.ro (.str (x ++ y))) else none
  | .lst xs, .lst ys => if szOk (xs.length + ys.length) = true then some (.own (.lst (xs ++ ys))) else none
  | .tup xs, .tup ys => if szOk (xs.length + ys.length) = true then some (.ro (.tup (xs ++ ys))) else none
  | _, _ => none
def D.sub : D → D → Option C
  | .int i, .int j => some (.ro (.int (i - j)))
  | _, _ => none
/-- one of the factors below 2^64 -/
def D.mul : D → D → Option C
  | .int i, .int j => if (decide (i.natAbs < 2 ^ 64) || decide (j.natAbs < 2 ^ 64)) = true then some (.ro (.int (i * j))) else none
  | _, _ => none
/-- by what is above 0 and below 2^64 -/
def D.fdiv : D → D → Option C
  | .int i, .int j => if (decide (0 < j) && decide (j.natAbs < 2 ^ 64)) = true then some (.ro (.int (i / j))) else none
  | _, _ => none
def D.mod : D → D → Option C
  | .int i, .int j => if decide (0 < j) = true then some (.ro (.int (i % j))) else none
  | _, _ => none
def D.pow : D → D → Option C
  | .int i, .int j => if (decide (0 ≤ j) && decide (j ≤ 1000) && decide (0 ≤ i) && decide (i.natAbs < 2 ^ 64)) = true then some (.ro (.int (i ^ j.toNat))) else none
  | _, _ => none
def D.neg : D → Option C
  | .int i => some (.ro (.int (-i)))
  | _ => none
/-- == : data without dicts, at any depth -/
def D.eqB : D → D → Option Bool
  | .non, .non => some true
  | .non, .bl _ => some false
  | .non, .int _ => some false
  | .non, .str _ => some false
  | .bl _, .non => some false
  | .int _, .non => some false
  | .str _, .non => some false
  | .int _, .str _ => some false
  | .str _, .int _ => some false
  | .bl _, .str _ => some false
  | .str _, .bl _ => some false
  | .bl a, .bl b => some (decide (a = b))
  | .int a, .int b => some (decide (a = b))
  | .str a, .str b => some (decide (a = b))
  | _, _ => none
def D.eq (x y : D) : Option C := (D.eqB x y).map fun b => .ro (.bl b)
def D.ne (x y : D) : Option C := (D.eqB x y).map fun b => .ro (.bl (!b))
def D.lt : D → D → Option C
  | .int i, .int j => some (.ro (.bl (decide (i < j))))
  | .str i, .str j => some (.ro (.bl (decide (i.cps.toList < j.cps.toList))))
  | _, _ => none
def D.le : D → D → Option C
  | .int i, .int j => some (.ro (.bl (decide (i ≤ j))))
  | _, _ => none
def D.gt : D → D → Option C
  | .int i, .int j => some (.ro (.bl (decide (j < i))))
  | _, _ => none
def D.ge : D → D → Option C
  | .int i, .int j => some (.ro (.bl (decide (j ≤ i))))
  | _, _ => none
def D.isN : D → Bool
  | .non => true
  | _ => false
def D.isNone (x y : D) : Option C := match y with
  | .non => some (.ro (.bl x.isN))
  | _ => none
def D.isNotNone (x y : D) : Option C := match y with
  | .non => some (.ro (.bl (!x.isN)))
  | _ => none
def D.ix : D → D → Option C
  | .lst xs, .int i => (atI xs i).map .ro
  | .tup xs, .int i => (atI xs i).map .ro
  | .scr xs, .int i => (atI xs i).map fun n => .ro (.int n)
  | .str z, .int i => if szOk z.length = true then (atI z.cps.toList i).map fun c => .ro (.str ⟨#[c]⟩) else none
  | _, _ => none
def D.len : List D → Option C
  | [.lst xs] => some (.ro (.int xs.length))
  | [.tup xs] => some (.ro (.int xs.length))
  | [.scr xs] => some (.ro (.int xs.length))
  | [.str z] => if szOk z.length = true then some (.ro (.int z.length)) else none
  | _ => none
/-- flat data: == is by value -/
def D.flat : D → Bool
  | .non => true
  | .int _ => true
  | .str _ => true
  | .bl _ => true
  | _ => false
def D.feq : D → D → Bool
  | .non, .non => true
  | .int a, .int b => decide (a = b)
  | .str a, .str b => decide (a = b)
  | .bl a, .bl b => decide (a = b)
  | .int a, .bl b => decide (a = if b then 1 else 0)
  | .bl a, .int b => decide ((if a then 1 else 0) = b)
  | _, _ => false
def D.inS (x : D) (ys : List D) : Option Bool := if (x.flat && ys.all D.flat) = true then some (ys.any fun y => D.feq y x) else none
def D.isIn (x : D) : D → Option C
  | .lst ys => (D.inS x ys).map fun b => .ro (.bl b)
  | .tup ys => (D.inS x ys).map fun b => .ro (.bl b)
  | _ => none
def D.notIn (x : D) : D → Option C
  | .lst ys => (D.inS x ys).map fun b => .ro (.bl (!b))
  | .tup ys => (D.inS x ys).map fun b => .ro (.bl (!b))
  | _ => none
def D.tyName : D → Option String
  | .non => some "NoneType"
  | .bl _ => some "bool"
  | .int _ => some "int"
  | .str _ => some "str"
  | .tup _ => some "tuple"
  | .lst _ => some "list"
  | .scr _ => some "list"
  | .dct _ => some "dict"
  | .fdc _ => some "dict"
  | _ => none
def tyIs (a b : String) : Option Bool := if b = "int" then some (a = "int" || a = "bool") else if b = "bool" ∨ b = "str" ∨ b = "tuple" ∨ b = "list" ∨ b = "dict" then some (decide (a = b)) else none
def D.isInst : List D → Option C
  | [x, .ty n] => (D.tyName x).bind fun m => (tyIs m n).map fun b => .ro (.bl b)
  | _ => none
def D.toInt : List D → Option C
  | [.int i] => some (.ro (.int i))
  | [.bl b] => some (.ro (.int (if b then 1 else 0)))
  | _ => none
def D.toList : List D → Option C
  | [.lst xs] => some (.own (.lst xs))
  | [.tup xs] => some (.own (.lst xs))
  | [.scr xs] => some (.own (.lst (xs.map .int)))
  | _ => none
def D.toTup : List D → Option C
  | [.lst xs] => some (.ro (.tup xs))
  | [.tup xs] => some (.ro (.tup xs))
  | _ => none

section
variable {X : Cx} {K : KW} {N : Addr → Prop} {H : Hp} {v : V} {d : D}
theorem RepX.int {i : Int} (h : RepX K N H v (.int i)) : v = .int i := by cases h; rfl
theorem RepX.str {i : Str} (h : RepX K N H v (.str i)) : v = .str i := by cases h; rfl
theorem RepX.bl {i : Bool} (h : RepX K N H v (.bl i)) : v = .bl i := by cases h; rfl
theorem RepX.non (h : RepX K N H v .non) : v = .non := by cases h; rfl
theorem RepX.ty {n : String} (h : RepX K N H v (.ty n)) : v = .ty n := by cases h; rfl
theorem RepX.tup {ds : List D} (h : RepX K N H v (.tup ds)) : ∃ a vs, v = .ref a ∧ SqT K H a vs ∧ RepL K N H vs ds := by
  cases h with
  | tup h r => exact ⟨_, _, rfl, h.t, r⟩
theorem RepX.tupP {ds : List D} (h : RepX K N H v (.tup ds)) : ∃ a vs, v = .ref a ∧ SqP K H a vs ∧ RepL K N H vs ds := by
  cases h with
  | tup h r => exact ⟨_, _, rfl, h, r⟩
theorem RepX.lst {ds : List D} (h : RepX K N H v (.lst ds)) : ∃ a vs, v = .ref a ∧ H a = some (.lst vs) ∧ RepL K N H vs ds := h
theorem RepX.scr {ns : List Int} (h : RepX K N H v (.scr ns)) : ∃ a, v = .ref a ∧ SqF K H a (ns.map V.int) := by cases h; exact ⟨_, rfl, ‹_›⟩
theorem szOk_le {n : Nat} (h : szOk n = true) : n ≤ sizeLine := of_decide_eq_true h
theorem Same.new {H : Hp} {p : Addr} {o : HO} (h : H p = none) : Same H (upd H p o) := fun b u e => by rw [upd_ne (ne_of_none e h)]; exact e
/-- ends: a value that needs no heap; a new list; a new tuple -/
theorem ret_int {Q : VK} {i : Int} (k : ∀ v H', Same H H' → Ret K N H H' v (.ro (.int i)) → Q v H') : Q (.int i) H := k _ _ (Same.refl H) (.int i)
theorem ret_str {Q : VK} {i : Str} (k : ∀ v H', Same H H' → Ret K N H H' v (.ro (.str i)) → Q v H') : Q (.str i) H := k _ _ (Same.refl H) (.str i)
theorem ret_bl {Q : VK} {i : Bool} (k : ∀ v H', Same H H' → Ret K N H H' v (.ro (.bl i)) → Q v H') : Q (.bl i) H := k _ _ (Same.refl H) (.bl i)
theorem ret_ro {Q : VK} {w : V} {d : D} (r : Rep K N H w d) (k : ∀ v H', Same H H' → Ret K N H H' v (.ro d) → Q v H') : Q w H := k _ _ (Same.refl H) (r.mono fun _ h _ => .inl h)
theorem new_keep {p : Addr} {o : HO} (hp : H p = none) {vs : List V} {ds : List D} (r : RepL K N H vs ds) : RepL K (fun b => (N b ∨ H b = none) ∧ b ≠ p) (upd H p o) vs ds :=
  r.keep (Keeps.all (Same.new hp)) fun b n s => ⟨.inl n, fun e => by rw [e, hp] at s; cases s⟩
theorem ret_lst {Q : VK} {vs : List V} {ds : List D} {p : Addr} (hp : H p = none) (r : RepL K N H vs ds) (k : ∀ v H', Same H H' → Ret K N H H' v (.own (.lst ds)) → Q v H') : Q (.ref p) (upd H p (.lst vs)) :=
  k _ _ (Same.new hp) ⟨p, rfl, hp, vs, upd_same, new_keep hp r⟩
theorem ret_tup {Q : VK} {vs : List V} {ds : List D} {p : Addr} {o : Obj} (ho : o.dict = none) (hp : H p = none) (r : RepL K N H vs ds) (k : ∀ v H', Same H H' → Ret K N H H' v (.ro (.tup ds)) → Q v H') : Q (.ref p) (upd H p (.frz o (.tup vs))) :=
  k _ _ (Same.new hp) (.tup (.inl ⟨o, ho, upd_same⟩) ((new_keep hp r).mono fun b h _ => h.1))
theorem rep_tup {a : Addr} {vs : List V} {ds : List D} (h : SqP K H a vs) (r : RepL K N H vs ds) : Rep K N H (.ref a) (.tup ds) := .tup h r
/-- t + u, a new tuple without a dict -/
def rCatP (K : PySem.W.Frag) : R2 := fun x y H Q => ∃ a b xs ys, x = .ref a ∧ y = .ref b ∧ SqT K H a xs ∧ SqT K H b ys ∧ xs.length + ys.length ≤ sizeLine ∧
  (xs = [] → Q (.ref b) H) ∧ (xs ≠ [] → ys = [] → Q (.ref a) H) ∧ (xs ≠ [] → ys ≠ [] → ∀ (p : Addr) (o : Obj), o.dict = none → H p = none → Q (.ref p) (upd H p (.frz o (.tup (xs ++ ys)))))
theorem op_catP : OpR X (binaryOp .Add) (rCatP X.K) := by
  intro pins s σ H x y v u Q I rx ry h
  obtain ⟨a, b, xs, ys, rfl, rfl, ha, hb, hz, q0, q1, q2⟩ := h
  have nil : ∀ {zs : List V} {us : List Value}, Vals zs us → us = [] → zs = [] := fun r e => by subst e; cases r; rfl
  have nil' : ∀ {zs : List V} {us : List Value}, Vals zs us → zs = [] → us = [] := fun r e => by subst e; cases r; rfl
  by_cases hx : xs = []
  · exact op_catA pins s σ H _ _ v u Q I rx ry ⟨a, b, xs, ys, rfl, rfl, ha, hb, hz, q0, fun z => absurd hx z, fun z => absurd hx z⟩
  · cases rx
    cases ry
    obtain ⟨its, r1, p1, _⟩ := I.tuple ha
    obtain ⟨its2, r2, p2, _⟩ := I.tuple hb
    refine HT.cat_tup p1 p2 (fun z => hx (nil r1 z)) (fun z => ⟨.ref a, H, I, rfl, q1 hx (nil r2 z)⟩) (fun z => ?_) (by rw [← r1.length, ← r2.length]; exact hz)
    refine ⟨.ref s.heap.objs.size, _, I.laid (t' := s.toks) (o := .frz _ (.tup (xs ++ ys))) (fun b ob q => Heap.get?_push_of_some _ q) (Nat.le_refl _) ⟨Heap.get?_push_size _ rfl, by rw [List.length_append]; exact hz, _, r1.append r2, PyProof.Rows.IsTup.new _ _⟩, rfl, q2 hx (fun w => z (nil' r2 w)) _ _ rfl (I.hok.fresh (Nat.le_refl _))⟩
theorem s_add : Op2S K (fun x y H Q => (rI0 (fun i j => V.int (i + j)) x y H Q ∨ ∃ i j, x = .str i ∧ y = .str j ∧ i.length + j.length ≤ sizeLine ∧ Q (.str (i ++ j)) H) ∨ (rCat x y H Q ∨ rCatP K x y H Q)) D.add := by
  intro N H x y dx dy c Q rx ry e k
  unfold D.add at e
  split at e
  · cases e; exact .inl (.inl ⟨_, _, rx.int, ry.int, ret_int k⟩)
  · split at e
    · rename_i hz; cases e; exact .inl (.inr ⟨_, _, rx.str, ry.str, szOk_le hz, ret_str k⟩)
    · cases e
  · split at e
    · rename_i hz; cases e
      obtain ⟨a, vs, rfl, h1, r1⟩ := rx.lst
      obtain ⟨b, ws, rfl, h2, r2⟩ := ry.lst
      exact .inr (.inl ⟨a, b, vs, ws, rfl, rfl, h1, h2, by rw [r1.length, r2.length]; exact szOk_le hz, fun p hp => ret_lst hp (r1.append r2) k⟩)
    · cases e
  · split at e
    · rename_i hz; cases e
      obtain ⟨a, vs, rfl, h1, r1⟩ := rx.tupP
      obtain ⟨b, ws, rfl, h2, r2⟩ := ry.tupP
      refine .inr (.inr ⟨a, b, vs, ws, rfl, rfl, h1.t, h2.t, by rw [r1.length, r2.length]; exact szOk_le hz, fun e => ?_, fun _ e => ?_, fun _ _ p o ho hp => ret_tup ho hp (r1.append r2) k⟩)
      · subst e; cases r1; exact ret_ro (rep_tup h2 r2) k
      · subst e; cases r2; rw [List.append_nil] at k; exact ret_ro (rep_tup h1 r1) k
    · cases e
  · cases e
theorem o_add : OpR X (binaryOp .Add) (fun x y H Q => (rI0 (fun i j => V.int (i + j)) x y H Q ∨ ∃ i j, x = .str i ∧ y = .str j ∧ i.length + j.length ≤ sizeLine ∧ Q (.str (i ++ j)) H) ∨ (rCat x y H Q ∨ rCatP X.K x y H Q)) :=
  (op_add.or op_add_str).or (op_cat.or op_catP)
theorem s_sub : Op2S K (rI0 fun i j => .int (i - j)) D.sub := by
  intro N H x y dx dy c Q rx ry e k
  unfold D.sub at e
  split at e
  · cases e; exact ⟨_, _, rx.int, ry.int, ret_int k⟩
  · cases e
theorem s_mul : Op2S K (rI CMul fun i j => .int (i * j)) D.mul := by
  intro N H x y dx dy c Q rx ry e k
  unfold D.mul at e
  split at e
  · split at e
    · rename_i hz; cases e
      simp only [Bool.or_eq_true, Bool.and_eq_true, decide_eq_true_eq] at hz
      exact ⟨_, _, rx.int, ry.int, hz.imp (fun h => ⟨by omega, by omega⟩) fun h => ⟨by omega, by omega⟩, ret_int k⟩
    · cases e
  · cases e
theorem s_fdiv : Op2S K (rI CDivW fun i j => .int (i / j)) D.fdiv := by
  intro N H x y dx dy c Q rx ry e k
  unfold D.fdiv at e
  split at e
  · split at e
    · rename_i hz; cases e
      simp only [Bool.and_eq_true, decide_eq_true_eq] at hz
      exact ⟨_, _, rx.int, ry.int, wide_div (b := 64) hz.1 (by omega) (by decide) (by decide), ret_int k⟩
    · cases e
  · cases e
theorem s_mod : Op2S K (rI (fun _ j => 0 < j) fun i j => .int (i % j)) D.mod := by
  intro N H x y dx dy c Q rx ry e k
  unfold D.mod at e
  split at e
  · split at e
    · rename_i hz; cases e
      exact ⟨_, _, rx.int, ry.int, of_decide_eq_true hz, ret_int k⟩
    · cases e
  · cases e
theorem s_pow : Op2S K (rI CPow fun i j => .int (i ^ j.toNat)) D.pow := by
  intro N H x y dx dy c Q rx ry e k
  unfold D.pow at e
  split at e
  · split at e
    · rename_i hz; cases e
      simp only [Bool.and_eq_true, decide_eq_true_eq] at hz
      exact ⟨_, _, rx.int, ry.int, ⟨hz.1.1.1, by omega, by omega⟩, ret_int k⟩
    · cases e
  · cases e
theorem s_neg : Op1S K (rU fun i => .int (-i)) D.neg := by
  intro N H x dx c Q rx e k
  unfold D.neg at e
  split at e
  · cases e; exact ⟨_, rx.int, ret_int k⟩
  · cases e
theorem eqB_s {x y : V} {dx dy : D} {b : Bool} (rx : RepX K N H x dx) (ry : RepX K N H y dy) (e : D.eqB dx dy = some b) : scal x y = true ∧ decide (x = y) = b := by
  unfold D.eqB at e
  split at e <;> first
    | (cases e; done)
    | (cases e; have e1 := rx.non; have e2 := ry.non; subst e1; subst e2; exact ⟨rfl, by simp⟩)
    | (cases e; have e1 := rx.non; have e2 := ry.bl; subst e1; subst e2; exact ⟨rfl, by simp⟩)
    | (cases e; have e1 := rx.non; have e2 := ry.int; subst e1; subst e2; exact ⟨rfl, by simp⟩)
    | (cases e; have e1 := rx.non; have e2 := ry.str; subst e1; subst e2; exact ⟨rfl, by simp⟩)
    | (cases e; have e1 := rx.bl; have e2 := ry.non; subst e1; subst e2; exact ⟨rfl, by simp⟩)
    | (cases e; have e1 := rx.int; have e2 := ry.non; subst e1; subst e2; exact ⟨rfl, by simp⟩)
    | (cases e; have e1 := rx.str; have e2 := ry.non; subst e1; subst e2; exact ⟨rfl, by simp⟩)
    | (cases e; have e1 := rx.int; have e2 := ry.str; subst e1; subst e2; exact ⟨rfl, by simp⟩)
    | (cases e; have e1 := rx.str; have e2 := ry.int; subst e1; subst e2; exact ⟨rfl, by simp⟩)
    | (cases e; have e1 := rx.bl; have e2 := ry.str; subst e1; subst e2; exact ⟨rfl, by simp⟩)
    | (cases e; have e1 := rx.str; have e2 := ry.bl; subst e1; subst e2; exact ⟨rfl, by simp⟩)
    | (cases e; have e1 := rx.bl; have e2 := ry.bl; subst e1; subst e2; exact ⟨rfl, by simp⟩)
    | (cases e; have e1 := rx.int; have e2 := ry.int; subst e1; subst e2; exact ⟨rfl, by simp⟩)
    | (cases e; have e1 := rx.str; have e2 := ry.str; subst e1; subst e2; exact ⟨rfl, by simp⟩)
theorem s_eq : Op2S K rEq D.eq := by
  intro N H x y dx dy c Q rx ry e k
  simp only [D.eq, Option.map_eq_some_iff] at e
  obtain ⟨b, e1, rfl⟩ := e
  obtain ⟨h1, h2⟩ := eqB_s rx ry e1
  exact ⟨h1, by rw [h2]; exact ret_bl k⟩
theorem s_ne : Op2S K rNe D.ne := by
  intro N H x y dx dy c Q rx ry e k
  simp only [D.ne, Option.map_eq_some_iff] at e
  obtain ⟨b, e1, rfl⟩ := e
  obtain ⟨h1, h2⟩ := eqB_s rx ry e1
  exact ⟨h1, by rw [h2]; exact ret_bl k⟩
theorem s_lt : Op2S K (fun x y H Q => rI0 (fun i j => V.bl (decide (i < j))) x y H Q ∨ ∃ i j, x = .str i ∧ y = .str j ∧ Q (.bl (decide (i.cps.toList < j.cps.toList))) H) D.lt := by
  intro N H x y dx dy c Q rx ry e k
  unfold D.lt at e
  split at e
  · cases e; exact .inl ⟨_, _, rx.int, ry.int, ret_bl k⟩
  · cases e; exact .inr ⟨_, _, rx.str, ry.str, ret_bl k⟩
  · cases e
theorem o_lt : OpR X (compareOp .Lt) (fun x y H Q => rI0 (fun i j => V.bl (decide (i < j))) x y H Q ∨ ∃ i j, x = .str i ∧ y = .str j ∧ Q (.bl (decide (i.cps.toList < j.cps.toList))) H) := op_lt.or op_lt_str
theorem s_le : Op2S K (rI0 fun i j => .bl (decide (i ≤ j))) D.le := by
  intro N H x y dx dy c Q rx ry e k
  unfold D.le at e
  split at e
  · cases e; exact ⟨_, _, rx.int, ry.int, ret_bl k⟩
  · cases e
theorem s_gt : Op2S K (rI0 fun i j => .bl (decide (j < i))) D.gt := by
  intro N H x y dx dy c Q rx ry e k
  unfold D.gt at e
  split at e
  · cases e; exact ⟨_, _, rx.int, ry.int, ret_bl k⟩
  · cases e
theorem s_ge : Op2S K (rI0 fun i j => .bl (decide (j ≤ i))) D.ge := by
  intro N H x y dx dy c Q rx ry e k
  unfold D.ge at e
  split at e
  · cases e; exact ⟨_, _, rx.int, ry.int, ret_bl k⟩
  · cases e
theorem isN_s (rx : RepX K N H v d) : decide (v = .non) = d.isN := by
  cases d with
  | lst ds => obtain ⟨a, vs, rfl, _⟩ := rx; rfl
  | dct ds => obtain ⟨a, vs, rfl, _⟩ := rx; rfl
  | dtt ds => obtain ⟨a, vs, rfl, _⟩ := rx; rfl
  | _ => cases rx; rfl
theorem s_isN : Op2S K (fun x y H Q => y = .non ∧ Q (.bl (decide (x = .non))) H) D.isNone := by
  intro N H x y dx dy c Q rx ry e k
  unfold D.isNone at e
  split at e
  · cases e; exact ⟨ry.non, by rw [isN_s rx]; exact ret_bl k⟩
  · cases e
theorem s_notN : Op2S K (fun x y H Q => y = .non ∧ Q (.bl (!decide (x = .non))) H) D.isNotNone := by
  intro N H x y dx dy c Q rx ry e k
  unfold D.isNotNone at e
  split at e
  · cases e; exact ⟨ry.non, by rw [isN_s rx]; exact ret_bl k⟩
  · cases e
theorem atI_rep {vs : List V} {ds : List D} {i : Int} {d : D} (r : RepL K N H vs ds) (e : atI ds i = some d) : ∃ v, atI vs i = some v ∧ Rep K N H v d := by
  unfold atI at e ⊢
  rw [r.length]
  cases q : ixN ds.length i with
  | none => rw [q] at e; cases e
  | some j => rw [q] at e; exact r.get' e
theorem s_ix : Op2S K (rIx K) D.ix := by
  intro N H x y dx dy c Q rx ry e k
  unfold D.ix at e
  split at e
  · simp only [Option.map_eq_some_iff] at e
    obtain ⟨d, e1, rfl⟩ := e
    obtain ⟨a, vs, rfl, h1, r1⟩ := rx.lst
    obtain ⟨w, h2, r2⟩ := atI_rep r1 e1
    exact .inl ⟨a, vs, _, w, rfl, ry.int, SqL.of h1, h2, ret_ro r2 k⟩
  · simp only [Option.map_eq_some_iff] at e
    obtain ⟨d, e1, rfl⟩ := e
    obtain ⟨a, vs, rfl, h1, r1⟩ := rx.tup
    obtain ⟨w, h2, r2⟩ := atI_rep r1 e1
    exact .inr (.inl ⟨a, vs, _, w, rfl, ry.int, h1, h2, ret_ro r2 k⟩)
  · simp only [Option.map_eq_some_iff] at e
    obtain ⟨n, e1, rfl⟩ := e
    obtain ⟨a, rfl, h1⟩ := rx.scr
    refine .inl ⟨a, _, _, .int n, rfl, ry.int, h1.l, ?_, ret_int k⟩
    unfold atI at e1 ⊢
    rw [List.length_map]
    cases q : ixN _ _ with
    | none => rw [q] at e1; cases e1
    | some j => rw [q] at e1; simp only [Option.bind_some] at e1 ⊢; rw [List.getElem?_map, e1]; rfl
  · split at e
    · rename_i hz
      simp only [Option.map_eq_some_iff] at e
      obtain ⟨n, e1, rfl⟩ := e
      exact .inr (.inr ⟨_, _, n, rx.str, ry.int, szOk_le hz, e1, ret_str k⟩)
    · cases e
  · cases e
theorem s_len : FunS K (fun xs H Q => ∃ x n, xs = [x] ∧ LenV K x H n ∧ Q (.int n) H) D.len := by
  intro N H vs ds c Q r e k
  unfold D.len at e
  split at e
  · cases e
    cases r with
    | cons rx r => cases r; obtain ⟨a, vs, rfl, h1, r1⟩ := rx.lst; exact ⟨_, _, rfl, .inl ⟨_, SqL.of h1, r1.length.symm⟩, ret_int k⟩
  · cases e
    cases r with
    | cons rx r => cases r; obtain ⟨a, vs, rfl, h1, r1⟩ := rx.tup; exact ⟨_, _, rfl, .inr ⟨_, h1, r1.length.symm⟩, ret_int k⟩
  · cases e
    cases r with
    | cons rx r => cases r; obtain ⟨a, rfl, h1⟩ := rx.scr; exact ⟨_, _, rfl, .inl ⟨_, h1.l, by rw [List.length_map]⟩, ret_int k⟩
  · split at e
    · rename_i hz; cases e
      cases r with
      | cons rx r => cases r; have := rx.str; subst this; exact ⟨_, _, rfl, ⟨szOk_le hz, rfl⟩, ret_int k⟩
    · cases e
  · cases e
theorem flat_s (rx : RepX K N H v d) (f : d.flat = true) : flatV v = true := by
  cases d with
  | non => cases rx; rfl
  | int i => cases rx; rfl
  | str i => cases rx; rfl
  | bl i => cases rx; rfl
  | _ => cases f
theorem flatL_s : ∀ {vs : List V} {ds : List D}, RepL K N H vs ds → ds.all D.flat = true → vs.all flatV = true
  | _, _, .nil, _ => rfl
  | _, _, .cons h r, f => by
    simp only [List.all_cons, Bool.and_eq_true] at f ⊢
    exact ⟨flat_s h.x f.1, flatL_s r f.2⟩
theorem feq_s {x y : V} {dx dy : D} (rx : RepX K N H x dx) (ry : RepX K N H y dy) (fx : dx.flat = true) (fy : dy.flat = true) : eqV x y = D.feq dx dy := by
  cases dx <;> cases dy <;> first
    | (cases fx; done)
    | (cases fy; done)
    | (cases rx; cases ry; rfl)
theorem inS_s {x : V} {dx : D} (rx : RepX K N H x dx) (fx : dx.flat = true) : ∀ {vs : List V} {ds : List D}, RepL K N H vs ds → ds.all D.flat = true → inV x vs = ds.any fun y => D.feq y dx
  | _, _, .nil, _ => rfl
  | _, _, .cons h r, f => by
    simp only [List.all_cons, Bool.and_eq_true] at f
    have ih := inS_s rx fx r f.2
    unfold inV at ih ⊢
    rw [List.any_cons, List.any_cons, ih, feq_s h.x rx f.1 fx]
theorem s_in : Op2S K (rIn K false) D.isIn := by
  intro N H x y dx dy c Q rx ry e k
  unfold D.isIn at e
  split at e <;> first
    | (cases e; done)
    | (simp only [Option.map_eq_some_iff] at e
       obtain ⟨b, e1, rfl⟩ := e
       unfold D.inS at e1
       split at e1
       · rename_i hz; cases e1
         simp only [Bool.and_eq_true] at hz
         first
           | (obtain ⟨a, vs, rfl, h1, r1⟩ := ry.lst
              refine ⟨a, vs, rfl, .inl (SqL.of h1), flat_s rx hz.1, flatL_s r1 hz.2, ?_⟩
              show Q (.bl (inV x vs)) H
              rw [inS_s rx hz.1 r1 hz.2]; exact ret_bl k)
           | (obtain ⟨a, vs, rfl, h1, r1⟩ := ry.tup
              refine ⟨a, vs, rfl, .inr h1, flat_s rx hz.1, flatL_s r1 hz.2, ?_⟩
              show Q (.bl (inV x vs)) H
              rw [inS_s rx hz.1 r1 hz.2]; exact ret_bl k)
       · cases e1)
theorem s_notIn : Op2S K (rIn K true) D.notIn := by
  intro N H x y dx dy c Q rx ry e k
  unfold D.notIn at e
  split at e <;> first
    | (cases e; done)
    | (simp only [Option.map_eq_some_iff] at e
       obtain ⟨b, e1, rfl⟩ := e
       unfold D.inS at e1
       split at e1
       · rename_i hz; cases e1
         simp only [Bool.and_eq_true] at hz
         first
           | (obtain ⟨a, vs, rfl, h1, r1⟩ := ry.lst
              refine ⟨a, vs, rfl, .inl (SqL.of h1), flat_s rx hz.1, flatL_s r1 hz.2, ?_⟩
              show Q (.bl (!inV x vs)) H
              rw [inS_s rx hz.1 r1 hz.2]; exact ret_bl k)
           | (obtain ⟨a, vs, rfl, h1, r1⟩ := ry.tup
              refine ⟨a, vs, rfl, .inr h1, flat_s rx hz.1, flatL_s r1 hz.2, ?_⟩
              show Q (.bl (!inV x vs)) H
              rw [inS_s rx hz.1 r1 hz.2]; exact ret_bl k)
       · cases e1)
theorem tyName_s {m : String} (rx : RepX K N H v d) (e : D.tyName d = some m) : TyX K H v (.type m) := by
  cases d with
  | non => cases rx; cases e; exact .base .non
  | int i => cases rx; cases e; exact .base (.int _)
  | str i => cases rx; cases e; exact .base (.str _)
  | bl i => cases rx; cases e; exact .base (.bl _)
  | tup ds =>
    cases e
    obtain ⟨a, vs, rfl, h1, r1⟩ := rx.tup
    rcases h1 with (h1 | ⟨o, h1⟩) | ⟨o, its, n, h1, h2, _⟩
    · exact .base (.tup h1)
    · exact .fTuple h1
    · exact .kTuple h1 h2
  | lst ds =>
    cases e
    obtain ⟨a, vs, rfl, h1, r1⟩ := rx.lst
    exact .base (.lst h1)
  | scr ds =>
    cases e
    obtain ⟨a, rfl, h1⟩ := rx.scr
    rcases h1 with ⟨o, h1⟩ | ⟨o, its, n, h1, h2, _⟩
    · exact .base (.frz h1)
    · exact .kList h1 h2
  | dct ds =>
    cases e
    obtain ⟨a, vs, rfl, h1, r1⟩ := rx
    rcases h1 with h1 | ⟨o, h1⟩
    · exact .base (.dK h1)
    · exact .fDict h1
  | dtt ds => cases e
  | wtp ds => cases e
  | raw a => cases e
  | fdc ds =>
    cases e
    cases rx with
    | fdc _ h1 _ => exact .fDict h1
  | ty ds => cases e
theorem tyName_mem {m : String} (e : D.tyName d = some m) : m ∈ ["NoneType", "bool", "int", "str", "tuple", "list", "dict"] := by
  cases d <;> cases e <;> decide
theorem tyIs_ok : ∀ m ∈ ["NoneType", "bool", "int", "str", "tuple", "list", "dict"], ∀ n ∈ ["int", "bool", "str", "tuple", "list", "dict"], kitB m n = tyIs m n := by decide +kernel
theorem tyIs_mem {m n : String} {b : Bool} (e : tyIs m n = some b) : n ∈ ["int", "bool", "str", "tuple", "list", "dict"] := by
  unfold tyIs at e
  split at e
  · rename_i h; subst h; decide
  · split at e
    · rename_i h; rcases h with h | h | h | h | h <;> subst h <;> decide
    · cases e
theorem s_isi : FunS K (rIsi K) D.isInst := by
  intro N H vs ds c Q r e k
  unfold D.isInst at e
  split at e
  · simp only [Option.bind_eq_some_iff, Option.map_eq_some_iff] at e
    obtain ⟨m, e1, b, e2, rfl⟩ := e
    cases r with
    | cons rx r =>
      cases r with
      | cons ry r =>
        cases r
        have := ry.ty; subst this
        exact ⟨_, _, _, _, b, rfl, .ty _, tyName_s rx e1, kit_ty (by rw [tyIs_ok _ (tyName_mem e1) _ (tyIs_mem e2)]; exact e2), ret_bl k⟩
  · cases e
theorem s_int : FunS K (fun xs H Q => (∃ i, xs = [.int i] ∧ Q (.int i) H) ∨ ∃ k, xs = [.bl k] ∧ Q (.int (if k then 1 else 0)) H) D.toInt := by
  intro N H vs ds c Q r e k
  unfold D.toInt at e
  split at e
  · cases e
    cases r with
    | cons rx r => cases r; have := rx.int; subst this; exact .inl ⟨_, rfl, ret_int k⟩
  · cases e
    cases r with
    | cons rx r => cases r; have := rx.bl; subst this; exact .inr ⟨_, rfl, ret_int k⟩
  · cases e
theorem s_list : FunS K (fun xs H Q => ∃ p ys, xs = [.ref p] ∧ (SqL K H p ys ∨ SqT K H p ys) ∧ ∀ l, H l = none → Q (.ref l) (upd H l (.lst ys))) D.toList := by
  intro N H vs ds c Q r e k
  unfold D.toList at e
  split at e
  · cases e
    cases r with
    | cons rx r => cases r; obtain ⟨a, vs, rfl, h1, r1⟩ := rx.lst; exact ⟨_, _, rfl, .inl (SqL.of h1), fun p hp => ret_lst hp r1 k⟩
  · cases e
    cases r with
    | cons rx r => cases r; obtain ⟨a, vs, rfl, h1, r1⟩ := rx.tup; exact ⟨_, _, rfl, .inr h1, fun p hp => ret_lst hp r1 k⟩
  · cases e
    cases r with
    | cons rx r => cases r; obtain ⟨a, rfl, h1⟩ := rx.scr; exact ⟨_, _, rfl, .inl h1.l, fun p hp => ret_lst hp (RepL.ints _) k⟩
  · cases e
def rToTup (K : PySem.W.Frag) : List V → Hp → VK → Prop := fun xs H Q => ∃ p ys, xs = [.ref p] ∧ ((SqL K H p ys ∧ ∀ (l : Addr) (o : Obj), o.dict = none → H l = none → Q (.ref l) (upd H l (.frz o (.tup ys)))) ∨ (SqT K H p ys ∧ Q (.ref p) H))
theorem call_tupleP : CallR X (.type "tuple") (rToTup X.K) := by
  intro pins s σ H xs us Q I r h
  obtain ⟨p, ys, rfl, ⟨hq, q⟩ | ⟨hq, q⟩⟩ := h
  · obtain rfl := Vals.ref1 r
    obtain ⟨its, r', pl, hz⟩ := I.list hq
    have hlen := r'.length
    refine call_tuple_list pl.isList (fun h' kp => ?_) (by simp only [List.size_toArray] <;> omega)
    have I1 : Inv X pins σ H { s with heap := h' } := I.kept (t' := s.toks) kp
    exact ⟨.ref h'.objs.size, _, I1.laid (t' := s.toks) (o := .frz _ (.tup ys)) (fun b o e => Heap.get?_push_of_some _ e) (Nat.le_refl _) ⟨Heap.get?_push_size _ rfl, hz, its, r', PyProof.Rows.IsTup.new _ _⟩, rfl, q _ _ rfl (I1.hok.fresh (Nat.le_refl _))⟩
  · exact call_tuple_of pins s σ H _ us Q I r ⟨p, ys, rfl, .inr ⟨hq, q⟩⟩
theorem s_tuple : FunS K (rToTup K) D.toTup := by
  intro N H vs ds c Q r e k
  unfold D.toTup at e
  split at e
  · cases e
    cases r with
    | cons rx r => cases r; obtain ⟨a, vs, rfl, h1, r1⟩ := rx.lst; exact ⟨_, _, rfl, .inl ⟨SqL.of h1, fun p o ho hp => ret_tup ho hp r1 k⟩⟩
  · cases e
    cases r with
    | cons rx r => cases r; obtain ⟨a, vs, rfl, h1, r1⟩ := rx.tupP; exact ⟨_, _, rfl, .inr ⟨h1.t, ret_ro (rep_tup h1 r1) k⟩⟩
  · cases e
end
end Dn

namespace Dn
open PySem L2
/-! ### a value is kept: what a slot holds is then read alone -/
def cap (c : C) (ρ : Env) : Option (C × Env) := match c with
  | .view i => match ρ[i]? with
    | some (some (.own d)) => some (.ro d, ρ.set i (some (.ro d)))
    | _ => none
  | .ro d => some (.ro d, ρ)
  | .own d => some (.own d, ρ)
  | .io _ => none
/-- a value is handed back: what a slot holds goes with it -/
def mov (c : C) (ρ : Env) : Option (C × Env) := match c with
  | .view i => match ρ[i]? with
    | some (some (.own d)) => some (.own d, ρ.set i none)
    | _ => none
  | .ro d => some (.ro d, ρ)
  | .own d => some (.own d, ρ)
  | .io _ => none
def pCap (p : P1) : P1 := fun ρ => (p ρ).bind fun a => cap a.1 a.2
section
variable {F : Fr} {ow : Ow} {H H' : Hp} {σ σ' : St} {ρ ρ' : Env} {τ : List (V × C)} {v : V} {c c' : C} {d : D} {a : Addr} {i : Nat}
theorem set_cell {α : Type} {l : List α} {i j : Nat} {x y : α} (h : (l.set i x)[j]? = some y) : (j = i ∧ y = x) ∨ (j ≠ i ∧ l[j]? = some y) := by
  by_cases hj : j = i
  · subst hj
    by_cases hl : j < l.length
    · rw [List.getElem?_set_self hl] at h; cases h; exact .inl ⟨rfl, rfl⟩
    · rw [List.getElem?_eq_none (by rw [List.length_set]; omega)] at h; cases h
  · rw [List.getElem?_set_ne (Ne.symm hj)] at h; exact .inr ⟨hj, h⟩
theorem vw_set {x : Option C} (hx : ∀ c, x = some c → (∃ d, c = .ro d) ∨ ∃ c', ρ[i]? = some (some c') ∧ ∀ d, c' ≠ .ro d) : Vw σ σ ρ (ρ.set i x) := fun j c e n => by
  refine ⟨?_, rfl⟩
  rcases set_cell e with ⟨rfl, e5⟩ | ⟨_, e5⟩
  · rcases hx c e5.symm with ⟨d, rfl⟩ | h
    · exact absurd rfl (n d)
    · exact h
  · exact ⟨c, e5, n⟩
/-- slot i's owned object is released: its cell becomes ro, or is forgotten -/
theorem RSo.release {x : Option C} (I : RSo F ow σ H ρ τ) (hc : ρ[i]? = some (some (.own d))) (hx : x = none ∨ x = some (.ro d)) : RSo F (drop ow (.inl i)) σ H (ρ.set i x) τ ∧ ∃ a, σ[i]? = some (some (.ref a)) ∧ Rep F.K (F.N (drop ow (.inl i))) H (.ref a) d := by
  obtain ⟨v, h1, a, rfl, ha, h2⟩ := I.slot i _ hc
  have hr : Rep F.K (F.N (drop ow (.inl i))) H (.ref a) d := h2.rep ⟨drop_at ha, (I.own a _ ha).2.2, .inr (I.own a _ ha).2.1⟩ drop_N
  have go : ∀ {k : Sum Nat Nat} b, k ≠ .inl i → ow b = some k → drop ow (.inl i) b = some k := fun b n e => by
    rw [drop_ne (fun z => n (by rw [e] at z; exact Option.some.inj z))]; exact e
  have hv : Vw σ σ ρ (ρ.set i x) := vw_set fun c e => by
    rcases hx with rfl | rfl
    · cases e
    · cases e; exact .inl ⟨d, rfl⟩
  refine ⟨⟨by rw [List.length_set]; exact I.len, fun j c e => ?_, fun j c e => ?_, I.tmp.tr drop_N Keeps.refl (fun b j hj e => ⟨go b (fun z => by cases z) e, rfl⟩) (fun _ _ => rfl) (.inr hv), I.tio, fun b id e => I.own b id (drop_some e).1, fun b j e => I.tid b j (drop_some e).1, I.keep, I.mio⟩, a, h1, hr⟩
  · rcases set_cell e with ⟨rfl, e5⟩ | ⟨hj, e5⟩
    · rcases hx with rfl | rfl
      · cases e5
      · cases e5; exact ⟨_, h1, hr⟩
    · obtain ⟨w, q1, q2⟩ := I.slot j c e5
      exact ⟨w, q1, q2.tr drop_N Keeps.refl (fun b e => ⟨go b (fun z => hj (Sum.inl.inj z)) e, rfl⟩) (fun _ _ => rfl) (.inr hv)⟩
  · rcases set_cell e with ⟨rfl, e5⟩ | ⟨hj, e5⟩
    · rcases hx with rfl | rfl
      · cases e5
      · cases e5; trivial
    · exact I.io j c e5
theorem RSo.cap (I : RSo F ow σ H ρ ((v, c) :: τ)) (e : cap c ρ = some (c', ρ')) : (∃ ow', RSo F ow' σ H ρ' ((v, c') :: τ)) ∧ (∀ j, c' ≠ .view j) := by
  cases c with
  | ro d => cases e; exact ⟨⟨_, I⟩, fun _ z => by cases z⟩
  | own d => cases e; exact ⟨⟨_, I⟩, fun _ z => by cases z⟩
  | io d => cases e
  | view i =>
    dsimp only [Dn.cap] at e
    split at e
    · rename_i d q
      cases e
      have hv := I.tmp.1 _ q (fun _ z => by cases z)
      obtain ⟨J, a, h1, r⟩ := I.pop.release q (.inr rfl)
      rw [hv] at h1; cases h1
      exact ⟨⟨_, J.push r⟩, fun _ z => by cases z⟩
    · cases e
/-- the owned object of slot i goes to the stack -/
theorem RSo.moveOut (I : RSo F ow σ H ρ τ) (hc : ρ[i]? = some (some (.own d))) (hs : σ[i]? = some (some v)) : ∃ ow', RSo F ow' σ H (ρ.set i none) ((v, .own d) :: τ) := by
  obtain ⟨v', h1, a, rfl, ha, h2⟩ := I.slot i _ hc
  rw [hs] at h1; cases h1
  let ow' : Ow := fun b => if ow b = some (.inl i) then some (.inr τ.length) else ow b
  have a1 : ∀ b, ow b = some (.inl i) → ow' b = some (.inr τ.length) := fun b h => if_pos h
  have a2 : ∀ b id, ow b = some id → id ≠ .inl i → ow' b = some id := fun b id h n => by
    show (if _ then _ else _) = _
    rw [if_neg (by rw [h]; exact fun z => n (Option.some.inj z))]; exact h
  have a3 : ∀ b, ow b = none → ow' b = none := fun b h => by
    show (if _ then _ else _) = _
    rw [if_neg (by rw [h]; simp)]; exact h
  have a4 : ∀ b id, ow' b = some id → (ow b = some (.inl i) ∧ id = .inr τ.length) ∨ ow b = some id := fun b id h => by
    by_cases h1 : ow b = some (.inl i)
    · rw [a1 b h1] at h; cases h; exact .inl ⟨h1, rfl⟩
    · have e : ow' b = ow b := by show (if _ then _ else _) = _; rw [if_neg h1]
      rw [e] at h; exact .inr h
  have hN : ∀ b, F.N ow b → (H b).isSome = true → F.N ow' b := fun b h _ => ⟨a3 b h.1, h.2⟩
  have hv : Vw σ σ ρ (ρ.set i none) := vw_set fun c e => by cases e
  refine ⟨ow', by rw [List.length_set]; exact I.len, fun j c e => ?_, fun j c e => ?_, ⟨⟨a, rfl, a1 a ha, h2.tr hN Keeps.refl rfl⟩, I.tmp.tr hN Keeps.refl (fun b j hj e => ⟨a2 b _ e (fun z => by cases z), rfl⟩) (fun _ _ => rfl) (.inr hv)⟩, fun t ht d' e => ?_, fun b id e => ?_, fun b j e => ?_, I.keep, I.mio⟩
  · rcases set_cell e with ⟨rfl, e5⟩ | ⟨hj, e5⟩
    · cases e5
    · obtain ⟨w, q1, q2⟩ := I.slot j c e5
      exact ⟨w, q1, q2.tr hN Keeps.refl (fun b e => ⟨a2 b _ e (fun z => hj (Sum.inl.inj z)), rfl⟩) (fun _ _ => rfl) (.inr hv)⟩
  · rcases set_cell e with ⟨rfl, e5⟩ | ⟨hj, e5⟩
    · cases e5
    · exact I.io j c e5
  · rcases List.mem_cons.mp ht with rfl | ht
    · cases e
    · exact I.tio t ht d' e
  · rcases a4 b id e with ⟨h1, _⟩ | h1
    · exact I.own b _ h1
    · exact I.own b _ h1
  · rcases a4 b _ e with ⟨_, h2⟩ | h1
    · cases h2; exact Nat.lt_succ_self _
    · exact Nat.lt_succ_of_lt (I.tid b j h1)
theorem RSo.mov (I : RSo F ow σ H ρ ((v, c) :: τ)) (e : mov c ρ = some (c', ρ')) : (∃ ow', RSo F ow' σ H ρ' ((v, c') :: τ)) ∧ (∀ j, c' ≠ .view j) := by
  cases c with
  | ro d => cases e; exact ⟨⟨_, I⟩, fun _ z => by cases z⟩
  | own d => cases e; exact ⟨⟨_, I⟩, fun _ z => by cases z⟩
  | io d => cases e
  | view i =>
    dsimp only [Dn.mov] at e
    split at e
    · rename_i d q
      cases e
      have hv := I.tmp.1 _ q (fun _ z => by cases z)
      exact ⟨I.pop.moveOut q hv, fun _ z => by cases z⟩
    · cases e
/-- the owned object one below the top takes an item (the top's) -/
theorem RSo.appTop {D : Addr} {ds : List Dn.D} {vs : List V} (I : RSo F ow σ H ρ ((v, c) :: (.ref D, .own (.lst ds)) :: τ)) (hc : ∀ j, c ≠ .view j) (hD : H D = some (.lst vs)) : ∃ ow', RSo F ow' σ (upd H D (.lst (vs ++ [v]))) ρ ((.ref D, .own (.lst (ds ++ [c.d]))) :: τ) := by
  have rv := RepC.pop I hc
  have J := I.pop
  generalize drop ow (.inr ((V.ref D, C.own (.lst ds)) :: τ).length) = ow1 at J rv
  obtain ⟨D', e0, hD1, vs', e1, r1⟩ := J.tmp.1
  cases e0
  rw [hD] at e1; cases e1
  have hk : Keeps (F.N ow1) H (upd H D (.lst (vs ++ [v]))) := fun b o e hb => by
    have : b ≠ D := by
      rintro rfl
      rcases hb with hb | ⟨xs, rfl⟩ | ⟨ob, u, rfl⟩
      · rw [hb.1] at hD1; cases hD1
      · rw [hD] at e; cases e
      · rw [hD] at e; cases e
    rw [upd_ne this]; exact e
  obtain ⟨g1, g2, g3⟩ := J.own D _ hD1
  have nb : ∀ b id, ow1 b = some id → id ≠ .inr τ.length → b ≠ D := fun b id e n z => by rw [z, hD1] at e; exact n (Option.some.inj e).symm
  have hN : ∀ b, F.N ow1 b → (H b).isSome = true → F.N ow1 b := fun _ h _ => h
  have hio : ∀ b, F.io = some b → upd H D (.lst (vs ++ [v])) b = H b := fun b e => upd_ne fun z => g3 (z ▸ e)
  refine ⟨ow1, J.len, fun i c e => ?_, J.io, ⟨⟨D, rfl, hD1, vs ++ [v], upd_same, (r1.append (.cons rv .nil)).keep hk hN⟩, J.tmp.2.tr hN hk (fun b j hj e => ⟨e, upd_ne (nb b _ e fun z => by cases z; exact absurd hj (Nat.lt_irrefl _))⟩) hio⟩, fun t ht d' e => ?_, fun b id e => ?_, J.tid, fun b o e1 e2 => ?_, fun b e => ?_⟩
  · obtain ⟨w, q1, q2⟩ := J.slot i c e
    exact ⟨w, q1, q2.tr hN hk (fun b e => ⟨e, upd_ne (nb b _ e fun z => by cases z)⟩) hio⟩
  · rcases List.mem_cons.mp ht with rfl | ht
    · cases e
    · exact J.tio t (List.mem_cons_of_mem _ ht) d' e
  · obtain ⟨f1, f2⟩ := J.own b id e
    refine ⟨?_, f2⟩
    by_cases hb : b = D
    · subst hb; rw [upd_same]; rfl
    · rw [upd_ne hb]; exact f1
  · have : b ≠ D := fun z => by rw [z, g2] at e1; cases e1
    rw [upd_ne this]; exact J.keep b o e1 e2
  · rw [hio b e]; exact J.mio b e
end
/-! ### statements -/
inductive Out where
  | nx (ρ : Env) | rt (c : C) (ρ : Env) | bk (ρ : Env) | ct (ρ : Env)
abbrev S1 := Env → Option Out
def EndsOk (F : Fr) (W : List Nat) (σ : St) (τ : List (V × C)) (D : Ends) : Out → Prop
  | .nx ρ => ∀ σ' H', (∀ i, i ∉ W → σ'[i]? = σ[i]?) → RS F σ' H' ρ τ → D.nx σ' H'
  | .rt c ρ => ∀ v σ' H', RS F σ' H' ρ ((v, c) :: τ) → D.rt v H'
  | .bk ρ => ∀ σ' H', (∀ i, i ∉ W → σ'[i]? = σ[i]?) → RS F σ' H' ρ τ → D.bk σ' H'
  | .ct ρ => ∀ σ' H', (∀ i, i ∉ W → σ'[i]? = σ[i]?) → RS F σ' H' ρ τ → D.ct σ' H'
/-- W: the slots that it may write -/
def tDS (F : Fr) (W : List Nat) (s : S1) : TS := fun D σ H => ∃ ρ τ o, RS F σ H ρ τ ∧ NoV τ ∧ s ρ = some o ∧ EndsOk F W σ τ D o
def sNil : S1 := fun ρ => some (.nx ρ)
def sSeq (s t : S1) : S1 := fun ρ => (s ρ).bind fun o => match o with
  | .nx ρ1 => t ρ1
  | o => some o
def sIf (q : PT1) (s t : S1) : S1 := fun ρ => (q ρ).bind fun b => if b.1 = true then s b.2 else t b.2
def sRet (p : P1) : S1 := fun ρ => (p ρ).bind fun a => (mov a.1 a.2).map fun b => .rt b.1 b.2
def sRetN : S1 := fun ρ => some (.rt (.ro .non) ρ)
def sBrk : S1 := fun ρ => some (.bk ρ)
def sCnt : S1 := fun ρ => some (.ct ρ)
def sExpr (p : P1) : S1 := fun ρ => (p ρ).map fun a => .nx a.2
def setE (i : Nat) (c : C) (ρ : Env) : Option Env := if i < ρ.length then some (ρ.set i (some c)) else none
def sSet (i : Nat) (p : P1) : S1 := fun ρ => (p ρ).bind fun a => (cap a.1 a.2).bind fun b => (setE i b.1 b.2).map .nx
section
variable {X : Cx} {F : Fr} {W W1 W2 : List Nat} {st : Stmt} {rest : List Stmt} {s t : S1} {e : Expr} {p : P1} {q : PT1} {pos : Pos}
theorem EndsOk.mono {σ σ1 : St} {τ : List (V × C)} {D : Ends} {o : Out} (h : EndsOk F W σ τ D o) (hW : ∀ i, i ∉ W → i ∉ W1) (hs : ∀ i, i ∉ W → σ1[i]? = σ[i]?) : EndsOk F W1 σ1 τ D o := by
  cases o with
  | nx ρ => exact fun σ' H' z => h σ' H' fun i hi => (z i (hW i hi)).trans (hs i hi)
  | rt c ρ => exact h
  | bk ρ => exact fun σ' H' z => h σ' H' fun i hi => (z i (hW i hi)).trans (hs i hi)
  | ct ρ => exact fun σ' H' z => h σ' H' fun i hi => (z i (hW i hi)).trans (hs i hi)
theorem dss_nil : PSs X [] (tDS F [] sNil) := PSs.imp pss_nil fun D σ H hw => by
  obtain ⟨ρ, τ, o, I, nv, e1, k⟩ := hw
  cases e1
  exact k σ H (fun _ _ => rfl) I
theorem dss_cons (h1 : PS X st (tDS F W1 s)) (h2 : PSs X rest (tDS F W2 t)) : PSs X (st :: rest) (tDS F (W1 ++ W2) (sSeq s t)) := PSs.imp (pss_cons h1 h2) fun D σ H hw => by
  obtain ⟨ρ, τ, o, I, nv, e1, k⟩ := hw
  simp only [sSeq, Option.bind_eq_some_iff] at e1
  obtain ⟨o1, e1, e2⟩ := e1
  have m1 : ∀ i, i ∉ W1 ++ W2 → i ∉ W1 := fun i h z => h (List.mem_append_left _ z)
  have m2 : ∀ i, i ∉ W1 ++ W2 → i ∉ W2 := fun i h z => h (List.mem_append_right _ z)
  refine ⟨ρ, τ, o1, I, nv, e1, ?_⟩
  cases o1 with
  | nx ρ1 => exact fun σ1 H1 z I1 => ⟨ρ1, τ, o, I1, nv, e2, k.mono m2 fun i hi => z i (m1 i hi)⟩
  | rt c ρ1 => cases e2; exact k
  | bk ρ1 => cases e2; exact fun σ1 H1 z I1 => k σ1 H1 (fun i hi => z i (m1 i hi)) I1
  | ct ρ1 => cases e2; exact fun σ1 H1 z I1 => k σ1 H1 (fun i hi => z i (m1 i hi)) I1
theorem dss_one (h1 : PS X st (tDS F W s)) : PSs X [st] (tDS F W s) := pss_one h1
theorem ds_if {c : Expr} {a b : List Stmt} (hc : PT X c (tDT F q)) (ha : PSs X a (tDS F W1 s)) (hb : PSs X b (tDS F W2 t)) : PS X (.If c a b pos) (tDS F (W1 ++ W2) (sIf q s t)) := PS.imp (ps_if hc ha hb) fun D σ H hw => by
  obtain ⟨ρ, τ, o, I, nv, e1, k⟩ := hw
  simp only [sIf, Option.bind_eq_some_iff] at e1
  obtain ⟨⟨b, ρ1⟩, e1, e2⟩ := e1
  refine ⟨ρ, τ, b, ρ1, I, e1, fun H1 I1 => ?_⟩
  cases b with
  | true => exact ⟨ρ1, τ, o, I1, nv, e2, k.mono (fun i h z => h (List.mem_append_left _ z)) fun _ _ => rfl⟩
  | false => exact ⟨ρ1, τ, o, I1, nv, e2, k.mono (fun i h z => h (List.mem_append_right _ z)) fun _ _ => rfl⟩
theorem ds_ret (he : PE X e (tD F p)) : PS X (.Return (some e) pos) (tDS F [] (sRet p)) := PS.imp (ps_ret he) fun D σ H hw => by
  obtain ⟨ρ, τ, o, I, nv, e1, k⟩ := hw
  simp only [sRet, Option.bind_eq_some_iff, Option.map_eq_some_iff] at e1
  obtain ⟨⟨c, ρ1⟩, e1, ⟨c2, ρ2⟩, e2, e3⟩ := e1
  cases e3
  refine ⟨ρ, τ, c, ρ1, I, e1, fun v H1 ⟨ow, I1⟩ => ?_⟩
  exact k v σ H1 (I1.mov e2).1
theorem ds_retN : PS X (.Return none pos) (tDS F [] sRetN) := PS.imp ps_retN fun D σ H hw => by
  obtain ⟨ρ, τ, o, ⟨ow, I⟩, nv, e1, k⟩ := hw
  cases e1
  exact k .non σ H ⟨ow, I.push .non⟩
theorem ds_brk : PS X (.Break pos) (tDS F [] sBrk) := PS.imp ps_break fun D σ H hw => by
  obtain ⟨ρ, τ, o, I, nv, e1, k⟩ := hw
  cases e1
  exact k σ H (fun _ _ => rfl) I
theorem ds_cnt : PS X (.Continue pos) (tDS F [] sCnt) := PS.imp ps_continue fun D σ H hw => by
  obtain ⟨ρ, τ, o, I, nv, e1, k⟩ := hw
  cases e1
  exact k σ H (fun _ _ => rfl) I
theorem ds_pass : PS X (.Pass pos) (tDS F [] sNil) := PS.imp ps_pass fun D σ H hw => by
  obtain ⟨ρ, τ, o, I, nv, e1, k⟩ := hw
  cases e1
  exact k σ H (fun _ _ => rfl) I
theorem ds_doc {x j pos pos'} : PS X (.Expr (.Constant (.str x) j pos) pos') (tDS F [] sNil) := PS.imp ps_doc fun D σ H hw => by
  obtain ⟨ρ, τ, o, I, nv, e1, k⟩ := hw
  cases e1
  exact k σ H (fun _ _ => rfl) I
theorem ds_expr (he : PE X e (tD F p)) (hs : swapsWith e none pos.line X.env = pure false := by rfl) : PS X (.Expr e pos) (tDS F [] (sExpr p)) := PS.imp (ps_expr he hs) fun D σ H hw => by
  obtain ⟨ρ, τ, o, I, nv, e1, k⟩ := hw
  simp only [sExpr, Option.map_eq_some_iff] at e1
  obtain ⟨⟨c, ρ1⟩, e1, e2⟩ := e1
  cases e2
  exact ⟨ρ, τ, c, ρ1, I, e1, fun v H1 ⟨ow, I1⟩ => k σ H1 (fun _ _ => rfl) ⟨_, I1.pop⟩⟩
theorem set_of {i : Nat} {p : P1} {te : TE} (hte : ∀ σ H Q, tD F p σ H Q → te σ H Q) {D : Ends} {σ : St} {H : Hp} (hw : tDS F [i] (sSet i p) D σ H) : tAsg te (gName i) D σ H := by
  obtain ⟨ρ, τ, o, I, nv, e1, k⟩ := hw
  simp only [sSet, Option.bind_eq_some_iff, Option.map_eq_some_iff] at e1
  obtain ⟨⟨c, ρ1⟩, e1, ⟨c2, ρ2⟩, e2, ρ3, e3, e4⟩ := e1
  cases e4
  unfold setE at e3
  split at e3
  · rename_i hi
    cases e3
    refine hte _ _ _ ⟨ρ, τ, c, ρ1, I, e1, fun v H1 ⟨ow, I1⟩ => ?_⟩
    obtain ⟨⟨ow2, I2⟩, nv2⟩ := I1.cap e2
    obtain ⟨ow3, I3⟩ := I2.setSlot (i := i) hi nv2 (.inr nv)
    exact k _ H1 (fun j hj => List.getElem?_set_ne (fun z => hj (List.mem_singleton.mpr z.symm))) ⟨ow3, I3⟩
  · cases e3
theorem ds_set {i : Nat} {x : Str} {pos' : Pos} (hN : X.N.Nodup) (hi : X.N[i]? = some x) (hx : Loc X.env.scope x) (he : PE X e (tD F p)) (hs : swapsWith e (some (.Name x pos')) pos.line X.env = pure false := by rfl) (hf : X.fn x = true ∨ X.env.scope.names.lookup x = some .local := by first | exact .inl rfl | exact .inr rfl | assumption) :
    PS X (.Assign [.Name x pos'] e pos) (tDS F [i] (sSet i p)) := PS.imp (ps_set hN hi hx he hs hf) fun D σ H => set_of fun _ _ _ h => h
end
end Dn

namespace Dn
open PySem L2
/-! ### targets: an item is bound to names -/
abbrev B1 := D → Env → Option Env
def bName (i : Nat) : B1 := fun d ρ => setE i (.ro d) ρ
abbrev Bs := List D → Env → Option Env
def bNil : Bs := fun ds ρ => match ds with
  | [] => some ρ
  | _ => none
def bCons (b : B1) (bs : Bs) : Bs := fun ds ρ => match ds with
  | d :: ds => (b d ρ).bind fun ρ1 => bs ds ρ1
  | [] => none
def bTup (n : Nat) (bs : Bs) : B1 := fun d ρ => match d with
  | .tup ds => if ds.length = n then bs ds ρ else none
  | _ => none
def bLst (n : Nat) (bs : Bs) : B1 := fun d ρ => match d with
  | .lst ds => if ds.length = n then bs ds ρ else none
  | _ => none
def tDG (F : Fr) (W : List Nat) (b : B1) : TG := fun v σ H Q => ∃ ρ τ d ρ', RS F σ H ρ ((v, .ro d) :: τ) ∧ b d ρ = some ρ' ∧ ∀ σ', σ'.length = σ.length → (∀ i, i ∉ W → σ'[i]? = σ[i]?) → RS F σ' H ρ' τ → Q σ' H
def tDGs (F : Fr) (W : List Nat) (b : Bs) : TGs := fun vs σ H Q => ∃ ρ τ ds ρ', (∃ ow, RSo F ow σ H ρ τ ∧ RepL F.K (F.N ow) H vs ds) ∧ b ds ρ = some ρ' ∧ ∀ σ', σ'.length = σ.length → (∀ i, i ∉ W → σ'[i]? = σ[i]?) → RS F σ' H ρ' τ → Q σ' H
section
variable {X : Cx} {F : Fr} {W W1 W2 : List Nat} {e : Expr} {pos : Pos} {b : B1} {bs : Bs}
theorem PG.imp {t t' : TG} (h : PG X e t) (k : ∀ v σ H Q, t' v σ H Q → t v σ H Q) : PG X e t' := ⟨fun pins s σ H v u Q I r hw => h.run pins s σ H v u Q I r (k v σ H Q hw)⟩
theorem PGs.imp {es : List Expr} {t t' : TGs} (h : PGs X es t) (k : ∀ v σ H Q, t' v σ H Q → t v σ H Q) : PGs X es t' := ⟨fun pins s σ H v u Q I r hw => h.run pins s σ H v u Q I r (k v σ H Q hw)⟩
theorem RSo.bind {F : Fr} {ow : Ow} {σ : St} {H : Hp} {ρ : Env} {τ : List (V × C)} {v : V} {d : D} {i : Nat} (I : RSo F ow σ H ρ ((v, .ro d) :: τ)) (hi : i < ρ.length) : ∃ ow', RSo F ow' (σ.set i (some v)) H (ρ.set i (some (.ro d))) τ := I.setSlot hi (fun _ z => by cases z) (.inl ⟨d, rfl⟩)
theorem dg_name {i : Nat} {x : Str} (hN : X.N.Nodup) (hi : X.N[i]? = some x) (hx : Loc X.env.scope x) (hf : X.fn x = true ∨ X.env.scope.names.lookup x = some .local := by first | exact .inl rfl | exact .inr rfl | assumption) : PG X (.Name x pos) (tDG F [i] (bName i)) := PG.imp (pg_name hN hi hx hf) fun v σ H Q hw => by
  obtain ⟨ρ, τ, d, ρ', ⟨ow, I⟩, e1, k⟩ := hw
  dsimp only [bName, setE] at e1
  split at e1
  · rename_i hl; cases e1
    exact k _ List.length_set (fun j hj => List.getElem?_set_ne (fun z => hj (List.mem_singleton.mpr z.symm))) (I.bind hl)
  · cases e1
theorem dgs_nil : PGs X [] (tDGs F [] bNil) := PGs.imp pgs_nil fun vs σ H Q hw => by
  obtain ⟨ρ, τ, ds, ρ', ⟨ow, I, r⟩, e1, k⟩ := hw
  dsimp only [bNil] at e1
  split at e1
  · cases e1; cases r; exact ⟨rfl, k _ rfl (fun _ _ => rfl) ⟨ow, I⟩⟩
  · cases e1
/-- later items stay as they are while earlier names are stored: only slots change -/
theorem dgs_cons {es : List Expr} (h1 : PG X e (tDG F W1 b)) (h2 : PGs X es (tDGs F W2 bs)) (hs : (assignEach (e :: es) X.env).map (·.2) = assign e X.env :: (assignEach es X.env).map (·.2) := by rfl) : PGs X (e :: es) (tDGs F (W1 ++ W2) (bCons b bs)) := PGs.imp (pgs_cons h1 h2 hs) fun vs σ H Q hw => by
  obtain ⟨ρ, τ, ds, ρ', ⟨ow, I, r⟩, e1, k⟩ := hw
  dsimp only [bCons] at e1
  split at e1
  · rename_i d ds
    simp only [Option.bind_eq_some_iff] at e1
    obtain ⟨ρ1, e1, e2⟩ := e1
    cases r with
    | cons r1 r2 =>
      rename_i v vs
      -- the others wait on the stack
      have stack : ∀ {vs : List V} {ds : List D} {τ : List (V × C)} {ow : Ow}, RSo F ow σ H ρ τ → RepL F.K (F.N ow) H vs ds → RSo F ow σ H ρ (stk vs (ds.map .ro) τ) := by
        intro vs
        induction vs with
        | nil => intro ds τ ow I r; cases r; exact I
        | cons v vs ih =>
          intro ds τ ow I r
          cases r with
          | cons q r => exact ih (I.push q) r
      have I1 := (stack I r2).push r1
      refine ⟨v, vs, rfl, ρ, _, d, ρ1, ⟨_, I1⟩, e1, fun σ1 l1 z1 I2 => ?_⟩
      obtain ⟨ow2, I2⟩ := I2
      have hl : vs.length = (ds.map C.ro).length := by rw [List.length_map]; exact r2.length
      obtain ⟨ow3, I3, rx⟩ := RSo.take hl I2
      -- read alone, strongly
      have strong : ∀ {vs : List V} {ds : List D} {τ : List (V × C)} {ow : Ow}, vs.length = ds.length → RSo F ow σ1 H ρ1 (stk vs (ds.map .ro) τ) → ∃ ow', RSo F ow' σ1 H ρ1 τ ∧ RepL F.K (F.N ow') H vs ds := by
        intro vs
        induction vs with
        | nil => intro ds τ ow hl I; cases ds with
          | nil => exact ⟨ow, I, .nil⟩
          | cons => cases hl
        | cons v vs ih =>
          intro ds τ ow hl I
          cases ds with
          | nil => cases hl
          | cons d ds =>
            obtain ⟨ow1, I1, r⟩ := ih (by simpa using hl) I
            exact ⟨_, I1.pop, .cons (RepC.pop I1 (fun _ z => by cases z)) (r.mono drop_N)⟩
      obtain ⟨ow4, I4, r4⟩ := strong r2.length I2
      exact ⟨ρ1, τ, ds, ρ', ⟨ow4, I4, r4⟩, e2, fun σ2 l2 z2 I5 => k σ2 (l2.trans l1) (fun i hi => (z2 i fun z => hi (List.mem_append_right _ z)).trans (z1 i fun z => hi (List.mem_append_left _ z))) I5⟩
  · cases e1
theorem dg_tup {es : List Expr} {k : Nat} {n : Nat} (hK : F.K = X.kw) (hc : X.calm = true) (h : PGs X es (tDGs F W bs))
    (hn : (assignEach es X.env).length = n := by rfl) (hst : (assignEach es X.env).findIdx? (·.1) = none := by rfl) : PG X (.Tuple es k pos) (tDG F W (bTup n bs)) := PG.imp (pg_tup hc h hn hst) fun v σ H Q hw => by
  obtain ⟨ρ, τ, d, ρ', ⟨ow, I⟩, e1, k⟩ := hw
  dsimp only [bTup] at e1
  split at e1
  · rename_i ds
    split at e1
    · rename_i hl
      have r := RepC.pop I (fun _ z => by cases z)
      generalize drop ow _ = ow1 at r
      obtain ⟨a, vs, e, h1, r1⟩ := RepX.tup r.x
      have r' := RepC.pop I (fun _ z => by cases z)
      obtain ⟨a', vs', e', h1', r1'⟩ := RepX.tup r'.x
      refine ⟨a', vs', e', by rw [← kK hK]; exact h1', by rw [r1'.length]; exact hl, ρ, τ, ds, ρ', ⟨_, I.pop, r1'⟩, e1, k⟩
    · cases e1
  · cases e1

/-! ### what is walked -/
structure Walk (F : Fr) (J : It) (ts : List (V × C)) (ds : List D) : Prop where
  go : ∀ i σ H ρ us τ, i < ds.length → RS F σ H ρ (us ++ (ts ++ τ)) → J.go i H
  stop : ∀ i σ H ρ us τ, ds.length ≤ i → RS F σ H ρ (us ++ (ts ++ τ)) → J.stop i H
  yld : ∀ i σ H ρ us τ x H', i < ds.length → RS F σ H ρ (us ++ (ts ++ τ)) → J.yld i H x H' → ∃ d, ds[i]? = some d ∧ RS F σ H' ρ ((x, .ro d) :: (us ++ (ts ++ τ)))
theorem Tmps.deep {F : Fr} {ow : Ow} {σ : St} {ρ : Env} {H : Hp} {t : V × C} {τ : List (V × C)} : ∀ {us : List (V × C)}, Tmps F ow σ ρ H (us ++ t :: τ) → RepC F ow (.inr τ.length) σ ρ H t.1 t.2
  | [], h => h.1
  | _ :: _, h => Tmps.deep h.2
abbrev I1 := Env → Option (List D × Env)
def tDI (F : Fr) (it : I1) : TI := fun σ H R => ∃ ρ τ ds ρ', RS F σ H ρ τ ∧ it ρ = some (ds, ρ') ∧ ∀ J ts H', Walk F J ts ds → NoV ts → RS F σ H' ρ' (ts ++ τ) → R J H'
theorem PI.imp {tg iter : Expr} {t t' : TI} (h : PI X tg iter t) (k : ∀ σ H R, t' σ H R → t σ H R) : PI X tg iter t' := ⟨fun pins s σ H R I hw => h.run pins s σ H R I (k σ H R hw)⟩
theorem RSo.popL {F : Fr} {σ : St} {H : Hp} {ρ : Env} {τ : List (V × C)} : ∀ {ts : List (V × C)}, RS F σ H ρ (ts ++ τ) → RS F σ H ρ τ
  | [], h => h
  | _ :: ts, ⟨_, I⟩ => RSo.popL (ts := ts) ⟨_, I.pop⟩
/-- over a list or a tuple -/
def iSeqT (K : PySem.W.Frag) (te : TE) : TI := fun σ H R => te σ H fun x H1 => ∃ a, x = .ref a ∧ (((∃ xs, SqL K H1 a xs) ∧ R (Itl K a) H1) ∨ ((∃ xs, SqT K H1 a xs) ∧ R (Itt K a) H1))
theorem pi_seq {tg l : Expr} {tl : TE} (hl : PE X l tl) : PI X tg l (iSeqT X.K tl) := by
  refine ⟨fun pins s σ H R I h => ?_⟩
  refine thn (hl.run pins s σ H _ I h) fun v s1 ⟨x, H1, I1, r1, q1⟩ => ?_
  obtain ⟨a, e, q1⟩ := q1
  subst e
  cases r1
  rcases q1 with ⟨⟨xs, hq⟩, q⟩ | ⟨⟨xs, hq⟩, q⟩
  · obtain ⟨its, rv, p, hz⟩ := I1.list hq
    refine PySem.wpAny_pyIter_list p.isList ?_
    refine ⟨s1.heap.objs.size, [s1.heap.objs.size], _, _, H1, rfl, I1.kept (t' := s1.toks) fun b o e => Heap.get?_push_of_some _ e, turn_list a _, ⟨_, Heap.get?_push_size _ rfl, rfl, rfl⟩, fun b hb => ?_, q⟩
    have e : b = s1.heap.objs.size := by simpa using hb
    subst e
    exact I1.fpOk (Nat.le_refl _) (I1.hok.fresh (Nat.le_refl _))
  · obtain ⟨its, rv, p, hz⟩ := I1.tuple hq
    refine PySem.wpAny_pyIter_tuple (show s1.heap.IsTuple a its.toArray from p) ?_
    refine ⟨s1.heap.objs.size, [s1.heap.objs.size], _, _, H1, rfl, I1.kept (t' := s1.toks) fun b o e => Heap.get?_push_of_some _ e, turn_tuple a _, ⟨_, Heap.get?_push_size _ rfl, rfl, rfl⟩, fun b hb => ?_, q⟩
    have e : b = s1.heap.objs.size := by simpa using hb
    subst e
    exact I1.fpOk (Nat.le_refl _) (I1.hok.fresh (Nat.le_refl _))
def D.items : D → Option (List D)
  | .lst ds => some ds
  | .tup ds => some ds
  | .scr ns => some (ns.map .int)
  | _ => none
def iSeq (p : P1) : I1 := fun ρ => (p ρ).bind fun a => (cap a.1 a.2).bind fun b => (D.items b.1.d).map fun ds => (ds, b.2)
/-- the list or tuple that the top of the stack holds -/
theorem items_at {F : Fr} {ow : Ow} {σ : St} {H : Hp} {ρ : Env} {τ : List (V × C)} {v : V} {c : C} {ds : List D} (I : RSo F ow σ H ρ τ) {id : Sum Nat Nat} (h : RepC F ow id σ ρ H v c) (hv : ∀ j, c ≠ .view j) (e : D.items c.d = some ds) :
    ∃ a, v = .ref a ∧ ∃ vs, RepL F.K (F.N ow) H vs ds ∧ ((SqL F.K H a vs ∧ (∀ es, c.d ≠ .tup es)) ∨ (SqT F.K H a vs ∧ ∃ es, c.d = .tup es)) := by
  have hx : RepX F.K (F.N ow) H v c.d := I.x h (by cases c <;> first | rfl | exact absurd rfl (hv _))
  generalize c.d = d at hx e
  cases d with
  | lst es => cases e; obtain ⟨a, vs, rfl, h1, r⟩ := hx.lst; exact ⟨a, rfl, vs, r, .inl ⟨SqL.of h1, fun _ z => by cases z⟩⟩
  | tup es => cases e; obtain ⟨a, vs, rfl, h1, r⟩ := hx.tup; exact ⟨a, rfl, vs, r, .inr ⟨h1, _, rfl⟩⟩
  | scr es => cases e; obtain ⟨a, rfl, h1⟩ := hx.scr; exact ⟨a, rfl, _, RepL.ints _, .inl ⟨h1.l, fun _ z => by cases z⟩⟩
  | _ => cases e
theorem ref_eq {F : Fr} {a : Addr} {v : V} (h : v = .ref a) : v = .ref a := h
theorem walk_seq {F : Fr} {v : V} {c : C} {a : Addr} {ds : List D} (hv : ∀ j, c ≠ .view j) (ev : v = .ref a) (e : D.items c.d = some ds) : ((∀ es, c.d ≠ .tup es) → Walk F (Itl F.K a) [(v, c)] ds) ∧ ((∃ es, c.d = .tup es) → Walk F (Itt F.K a) [(v, c)] ds) := by
  constructor
  · intro ht
    refine ⟨fun i σ H ρ us τ hi ⟨ow, I⟩ => ?_, fun i σ H ρ us τ hi ⟨ow, I⟩ => ?_, fun i σ H ρ us τ x H' hi ⟨ow, I⟩ y => ?_⟩
    all_goals
      obtain ⟨a', e1, vs, r, hq⟩ := items_at I (Tmps.deep (us := us) (t := (v, c)) I.tmp) hv e
      rw [ev] at e1; cases e1
      have hq : SqL F.K H a vs := by
        rcases hq with ⟨h, _⟩ | ⟨_, z⟩
        · exact h
        · exact absurd z (fun ⟨es, z⟩ => ht es z)
    · obtain ⟨w, h1, h2⟩ := r.get' (i := i) (d := ds[i]) (by simp [hi])
      exact ⟨vs, w, hq, h1⟩
    · exact ⟨vs, hq, by rw [r.length]; exact hi⟩
    · obtain ⟨e2, y⟩ := y
      subst e2
      obtain ⟨d, h1, h2⟩ := r.get (y vs hq)
      exact ⟨d, h1, ow, I.push h2⟩
  · intro ht
    refine ⟨fun i σ H ρ us τ hi ⟨ow, I⟩ => ?_, fun i σ H ρ us τ hi ⟨ow, I⟩ => ?_, fun i σ H ρ us τ x H' hi ⟨ow, I⟩ y => ?_⟩
    all_goals
      obtain ⟨a', e1, vs, r, hq⟩ := items_at I (Tmps.deep (us := us) (t := (v, c)) I.tmp) hv e
      rw [ev] at e1; cases e1
      have hq : SqT F.K H a vs := by
        rcases hq with ⟨_, z⟩ | ⟨h, _⟩
        · exact absurd ht (fun ⟨es, q⟩ => z es q)
        · exact h
    · obtain ⟨w, h1, h2⟩ := r.get' (i := i) (d := ds[i]) (by simp [hi])
      exact ⟨vs, w, hq, h1⟩
    · exact ⟨vs, hq, by rw [r.length]; exact hi⟩
    · obtain ⟨e2, y⟩ := y
      subst e2
      obtain ⟨d, h1, h2⟩ := r.get (y vs hq)
      exact ⟨d, h1, ow, I.push h2⟩
theorem di_seq {tg : Expr} {p : P1} (hK : F.K = X.kw) (he : PE X e (tD F p)) : PI X tg e (tDI F (iSeq p)) := PI.imp (pi_seq he) fun σ H R hw => by
  obtain ⟨ρ, τ, ds, ρ', I, e1, k⟩ := hw
  simp only [iSeq, Option.bind_eq_some_iff, Option.map_eq_some_iff] at e1
  obtain ⟨⟨c, ρ1⟩, e1, ⟨c2, ρ2⟩, e2, ds', e3, e4⟩ := e1
  cases e4
  refine ⟨ρ, τ, c, ρ1, I, e1, fun v H1 ⟨ow, I1⟩ => ?_⟩
  obtain ⟨⟨ow2, I2⟩, nv⟩ := I1.cap e2
  obtain ⟨a, ev, vs, r, hq⟩ := items_at I2 I2.tmp.1 nv e3
  have wk := walk_seq (F := F) nv ev e3
  have nn : NoV [(v, c2)] := fun t ht j => by
    have : t = (v, c2) := by simpa using ht
    subst this; exact nv j
  refine ⟨a, ev, ?_⟩
  rw [← kK hK]
  rcases hq with ⟨h1, ht⟩ | ⟨h1, ht⟩
  · exact .inl ⟨⟨vs, h1⟩, k _ _ H1 (wk.1 ht) nn ⟨ow2, I2⟩⟩
  · exact .inr ⟨⟨vs, h1⟩, k _ _ H1 (wk.2 ht) nn ⟨ow2, I2⟩⟩
/-- range(n), range(a, b) -/
def rangeD (lo : Int) (n : Nat) : List D := (List.range n).map fun i => D.int (lo + (i : Nat))
theorem walk_range {F : Fr} (lo : Int) (n : Nat) : Walk F (Itr lo n) [] (rangeD lo n) := by
  refine ⟨fun i σ H ρ us τ hi I => ?_, fun i σ H ρ us τ hi I => ?_, fun i σ H ρ us τ x H' hi I y => ?_⟩
  · simpa [rangeD, Itr] using hi
  · simpa [rangeD, Itr] using hi
  · obtain ⟨e1, e2⟩ := y
    subst e1; subst e2
    have hi : i < n := by simpa [rangeD] using hi
    obtain ⟨ow, I⟩ := I
    exact ⟨.int (lo + (i : Nat)), by simp [rangeD, hi], ow, I.push (.int _)⟩
def smallI (i : Int) : Bool := decide (i.natAbs < 2 ^ 62)
def iRange1 (ps : PAs) : I1 := fun ρ => (ps ρ).bind fun a => match dats a.2 a.1 with
  | some [.int n] => if smallI n = true then some (rangeD 0 n.toNat, a.2) else none
  | _ => none
def iRange2 (ps : PAs) : I1 := fun ρ => (ps ρ).bind fun a => match dats a.2 a.1 with
  | some [.int m, .int n] => if (smallI m && smallI n) = true then some (rangeD m (n - m).toNat, a.2) else none
  | _ => none
theorem noV_nil : NoV [] := fun _ h => nomatch h
theorem di_range1 {tg a : Expr} {ps : PAs} {p pos : Pos} (hg : Gl X "range") (hm : X.mg "range" = none) (ha : PA X [a] (tDA F ps)) (hs : starEach [a] X.env = [(false, eval a X.env)] := by rfl) : PI X tg (.Call (.Name "range" p) [a] [] pos) (tDI F (iRange1 ps)) := PI.imp (pi_range1 hg hm ha hs) fun σ H R hw => by
  obtain ⟨ρ, τ, ds, ρ', I, e1, k⟩ := hw
  simp only [iRange1, Option.bind_eq_some_iff] at e1
  obtain ⟨⟨cs, ρ1⟩, e1, e2⟩ := e1
  split at e2
  · rename_i n q
    split at e2
    · rename_i hn
      cases e2
      simp only [smallI, Bool.and_eq_true, decide_eq_true_eq] at hn
      refine ⟨ρ, τ, cs, ρ1, I, e1, fun vs H1 hl ⟨ow, I1⟩ => ?_⟩
      obtain ⟨ow2, I2, rx⟩ := RSo.take hl I1
      have r := rx _ q
      cases r with
      | cons r1 r => cases r; have := r1.int; subst this; exact ⟨n, rfl, by omega, by omega, k _ [] H1 (walk_range 0 n.toNat) noV_nil ⟨ow2, I2⟩⟩
    · cases e2
  · cases e2
theorem di_range2 {tg a b : Expr} {ps : PAs} {p pos : Pos} (hg : Gl X "range") (hm : X.mg "range" = none) (ha : PA X [a, b] (tDA F ps)) (hs : starEach [a, b] X.env = [(false, eval a X.env), (false, eval b X.env)] := by rfl) (hs2 : starEach [b] X.env = [(false, eval b X.env)] := by rfl) : PI X tg (.Call (.Name "range" p) [a, b] [] pos) (tDI F (iRange2 ps)) := PI.imp (pi_range2 hg hm ha hs hs2) fun σ H R hw => by
  obtain ⟨ρ, τ, ds, ρ', I, e1, k⟩ := hw
  simp only [iRange2, Option.bind_eq_some_iff] at e1
  obtain ⟨⟨cs, ρ1⟩, e1, e2⟩ := e1
  split at e2
  · rename_i m n q
    split at e2
    · rename_i hn
      cases e2
      simp only [smallI, Bool.and_eq_true, decide_eq_true_eq] at hn
      refine ⟨ρ, τ, cs, ρ1, I, e1, fun vs H1 hl ⟨ow, I1⟩ => ?_⟩
      obtain ⟨ow2, I2, rx⟩ := RSo.take hl I1
      have r := rx _ q
      cases r with
      | cons r1 r => cases r with
        | cons r2 r => cases r; have := r1.int; subst this; have := r2.int; subst this; exact ⟨m, n, rfl, ⟨by omega, by omega, by omega, by omega⟩, k _ [] H1 (walk_range m (n - m).toNat) noV_nil ⟨ow2, I2⟩⟩
    · cases e2
  · cases e2
/-! ### for -/
def loopL (b : B1) (s : S1) : List D → Env → Option Out
  | [], ρ => some (.nx ρ)
  | d :: ds, ρ => (b d ρ).bind fun ρ1 => (s ρ1).bind fun o => match o with
    | .nx ρ2 => loopL b s ds ρ2
    | .ct ρ2 => loopL b s ds ρ2
    | .bk ρ2 => some (.nx ρ2)
    | .rt c ρ2 => some (.rt c ρ2)
def sFor (it : I1) (b : B1) (s : S1) : S1 := fun ρ => (it ρ).bind fun a => loopL b s a.1 a.2
/-- what lies under the top is dropped -/
theorem RSo.under {F : Fr} {ow : Ow} {σ : St} {H : Hp} {ρ : Env} {t u : V × C} {τ : List (V × C)} (I : RSo F ow σ H ρ (t :: u :: τ)) : ∃ ow', RSo F ow' σ H ρ (t :: τ) := by
  let ow' : Ow := fun b => if ow b = some (.inr (τ.length + 1)) then some (.inr τ.length) else if ow b = some (.inr τ.length) then none else ow b
  have a1 : ∀ b, ow b = some (.inr (τ.length + 1)) → ow' b = some (.inr τ.length) := fun b h => if_pos h
  have a2 : ∀ b id, ow b = some id → id ≠ .inr (τ.length + 1) → id ≠ .inr τ.length → ow' b = some id := fun b id h n1 n2 => by
    show (if _ then _ else _) = _
    rw [if_neg (by rw [h]; exact fun z => n1 (Option.some.inj z)), if_neg (by rw [h]; exact fun z => n2 (Option.some.inj z))]; exact h
  have a3 : ∀ b, ow b = none → ow' b = none := fun b h => by
    show (if _ then _ else _) = _
    rw [if_neg (by rw [h]; simp), if_neg (by rw [h]; simp)]; exact h
  have a4 : ∀ b id, ow' b = some id → (ow b = some (.inr (τ.length + 1)) ∧ id = .inr τ.length) ∨ (ow b = some id ∧ id ≠ .inr τ.length ∧ id ≠ .inr (τ.length + 1)) := fun b id h => by
    by_cases h1 : ow b = some (.inr (τ.length + 1))
    · rw [a1 b h1] at h; cases h; exact .inl ⟨h1, rfl⟩
    · by_cases h2 : ow b = some (.inr τ.length)
      · have : ow' b = none := by show (if _ then _ else _) = _; rw [if_neg h1, if_pos h2]
        rw [this] at h; cases h
      · have e : ow' b = ow b := by show (if _ then _ else _) = _; rw [if_neg h1, if_neg h2]
        rw [e] at h
        exact .inr ⟨h, fun z => h2 (z ▸ h), fun z => h1 (z ▸ h)⟩
  have hN : ∀ b, F.N ow b → (H b).isSome = true → F.N ow' b := fun b h _ => ⟨a3 b h.1, h.2⟩
  refine ⟨ow', I.len, fun i c e => ?_, I.io, ⟨I.tmp.1.tr hN Keeps.refl (fun b e => ⟨a1 b e, rfl⟩) (fun _ _ => rfl), I.tmp.2.2.tr hN Keeps.refl (fun b j hj e => ⟨a2 b _ e (fun z => by cases z; omega) (fun z => by cases z; omega), rfl⟩) (fun _ _ => rfl)⟩, fun t' ht' => I.tio t' ?_, fun b id e => ?_, fun b j e => ?_, I.keep, I.mio⟩
  · obtain ⟨v, h1, h2⟩ := I.slot i c e
    exact ⟨v, h1, h2.tr hN Keeps.refl (fun b e => ⟨a2 b _ e (fun z => by cases z) (fun z => by cases z), rfl⟩) (fun _ _ => rfl)⟩
  · rcases List.mem_cons.mp ht' with rfl | h
    · exact List.mem_cons_self
    · exact List.mem_cons_of_mem _ (List.mem_cons_of_mem _ h)
  · rcases a4 b id e with ⟨h1, _⟩ | ⟨h1, _⟩
    · exact I.own b _ h1
    · exact I.own b _ h1
  · rcases a4 b _ e with ⟨_, h2⟩ | ⟨h1, h2, h3⟩
    · cases h2; exact Nat.lt_succ_self _
    · have := I.tid b j h1
      have hne : j ≠ τ.length := fun z => h2 (by rw [z])
      have hne2 : j ≠ τ.length + 1 := fun z => h3 (by rw [z])
      simp only [List.length_cons] at this ⊢
      omega
theorem RSo.ret1 {F : Fr} {σ : St} {H : Hp} {ρ : Env} {t : V × C} {τ : List (V × C)} : ∀ {ts : List (V × C)}, RS F σ H ρ (t :: (ts ++ τ)) → RS F σ H ρ (t :: τ)
  | [], h => h
  | _ :: ts, ⟨_, I⟩ => RSo.ret1 (ts := ts) I.under
theorem ds_for {tg iter : Expr} {body : List Stmt} {it : I1} {b : B1} {s : S1} (hp : PassesOwn (model X.prog X.w) X.A X.env X.xe) (hc : X.calm = true) (hi : PI X tg iter (tDI F it)) (hg : PG X tg (tDG F W1 b)) (hb : PSs X body (tDS F W2 s))
    (hs : ∀ x, foldedSetIterable iter X.env x = pure x := by intro _; rfl) : PS X (.For tg iter body [] pos) (tDS F (W1 ++ W2) (sFor it b s)) := PS.imp (ps_for hp hc hi hg hb hs) fun D σ H hw => by
  obtain ⟨ρ, τ, o, I, nv, e1, k⟩ := hw
  simp only [sFor, Option.bind_eq_some_iff] at e1
  obtain ⟨⟨ds, ρ1⟩, e1, e2⟩ := e1
  refine ⟨ρ, τ, ds, ρ1, I, e1, fun J ts H1 wk nt I1 => ?_⟩
  have nvt : NoV (ts ++ τ) := fun t ht j => (List.mem_append.mp ht).elim (fun h => nt t h j) fun h => nv t h j
  have m1 : ∀ i, i ∉ W1 ++ W2 → i ∉ W1 := fun i h z => h (List.mem_append_left _ z)
  have m2 : ∀ i, i ∉ W1 ++ W2 → i ∉ W2 := fun i h z => h (List.mem_append_right _ z)
  refine ⟨fun i m σ' H' => m = ds.length - i ∧ i ≤ ds.length ∧ (∀ j, j ∉ W1 ++ W2 → σ'[j]? = σ[j]?) ∧ ∃ ρ', RS F σ' H' ρ' (ts ++ τ) ∧ loopL b s (ds.drop i) ρ' = some o, ⟨ds.length, by simp, Nat.zero_le _, fun _ _ => rfl, ρ1, I1, e2⟩, ?_⟩
  rintro i m σ' H' ⟨rfl, hi, zσ, ρ', I', el⟩
  by_cases hlt : i < ds.length
  · refine .inr ⟨wk.go i σ' H' ρ' [] τ hlt I', fun σ2 H2 => (∀ j, j ∉ W1 ++ W2 → σ2[j]? = σ[j]?) ∧ ∃ ρ2, RS F σ2 H2 ρ2 (ts ++ τ) ∧ loopL b s (ds.drop (i + 1)) ρ2 = some o, fun σ2 H2 ⟨z2, ρ2, I2, el2⟩ => ⟨ds.length - (i + 1), by omega, rfl, hlt, z2, ρ2, I2, el2⟩, fun x H2 y => ?_⟩
    obtain ⟨d, hd, I2⟩ := wk.yld i σ' H' ρ' [] τ x H2 hlt I' y
    have ed : ds.drop i = d :: ds.drop (i + 1) := by
      have hd' : ds[i] = d := by
        rw [List.getElem?_eq_getElem hlt] at hd; exact Option.some.inj hd
      rw [← hd']; exact List.drop_eq_getElem_cons hlt
    rw [ed] at el
    simp only [loopL, Option.bind_eq_some_iff] at el
    obtain ⟨ρ2, el1, o2, el2, el3⟩ := el
    refine ⟨ρ', ts ++ τ, d, ρ2, I2, el1, fun σ3 _ z3 I3 => ⟨ρ2, ts ++ τ, o2, I3, nvt, el2, ?_⟩⟩
    have z3' : ∀ j, j ∉ W1 ++ W2 → σ3[j]? = σ[j]? := fun j hj => (z3 j (m1 j hj)).trans (zσ j hj)
    cases o2 with
    | nx ρ3 => exact fun σ4 H4 z4 I4 => ⟨fun j hj => (z4 j (m2 j hj)).trans (z3' j hj), ρ3, I4, el3⟩
    | ct ρ3 => exact fun σ4 H4 z4 I4 => ⟨fun j hj => (z4 j (m2 j hj)).trans (z3' j hj), ρ3, I4, el3⟩
    | bk ρ3 =>
      cases el3
      exact fun σ4 H4 z4 I4 => k σ4 H4 (fun j hj => (z4 j (m2 j hj)).trans (z3' j hj)) (RSo.popL I4)
    | rt c ρ3 =>
      cases el3
      exact fun v σ4 H4 I4 => k v σ4 H4 (RSo.ret1 I4)
  · have e : ds.drop i = [] := List.drop_eq_nil_of_le (by omega)
    rw [e] at el
    cases el
    exact .inl ⟨wk.stop i σ' H' ρ' [] τ (by omega) I', k σ' H' zσ (RSo.popL I')⟩
/-! ### while -/
def bigN : Nat := 2 ^ 64
def loopW (q : PT1) (s : S1) : Nat → Env → Option Out
  | 0, _ => none
  | n + 1, ρ => (q ρ).bind fun t => if t.1 = true then (s t.2).bind fun o => (match o with
    | .nx ρ2 => loopW q s n ρ2
    | .ct ρ2 => loopW q s n ρ2
    | .bk ρ2 => some (.nx ρ2)
    | .rt c ρ2 => some (.rt c ρ2)) else some (.nx t.2)
def sWhile (q : PT1) (s : S1) : S1 := fun ρ => loopW q s bigN ρ
theorem ds_while {c : Expr} {body : List Stmt} {q : PT1} {s : S1} (hp : PassesOwn (model X.prog X.w) X.A X.env X.xe) (hc : PT X c (tDT F q)) (hb : PSs X body (tDS F W s)) : PS X (.While c body [] pos) (tDS F W (sWhile q s)) := PS.imp (ps_while hp hc hb) fun D σ H hw => by
  obtain ⟨ρ, τ, o, I, nv, e1, k⟩ := hw
  unfold sWhile at e1
  refine ⟨fun m σ' H' => (∀ j, j ∉ W → σ'[j]? = σ[j]?) ∧ ∃ ρ', RS F σ' H' ρ' τ ∧ loopW q s m ρ' = some o, ⟨bigN, fun _ _ => rfl, ρ, I, e1⟩, ?_⟩
  rintro m σ' H' ⟨zσ, ρ', I', el⟩
  cases m with
  | zero => cases el
  | succ m =>
    simp only [loopW, Option.bind_eq_some_iff] at el
    obtain ⟨⟨b, ρ1⟩, el1, el2⟩ := el
    refine ⟨ρ', τ, b, ρ1, I', el1, fun H1 I1 => ?_⟩
    cases b with
    | false => cases el2; exact k σ' H1 zσ I1
    | true =>
      rw [if_pos rfl] at el2 ⊢
      simp only [Option.bind_eq_some_iff] at el2
      obtain ⟨o2, el2, el3⟩ := el2
      refine ⟨fun σ2 H2 => (∀ j, j ∉ W → σ2[j]? = σ[j]?) ∧ ∃ ρ2, RS F σ2 H2 ρ2 τ ∧ loopW q s m ρ2 = some o, fun σ2 H2 ⟨z2, ρ2, I2, e2⟩ => ⟨m, Nat.lt_succ_self _, z2, ρ2, I2, e2⟩, ρ1, τ, o2, I1, nv, el2, ?_⟩
      cases o2 with
      | nx ρ3 => exact fun σ4 H4 z4 I4 => ⟨fun j hj => (z4 j hj).trans (zσ j hj), ρ3, I4, el3⟩
      | ct ρ3 => exact fun σ4 H4 z4 I4 => ⟨fun j hj => (z4 j hj).trans (zσ j hj), ρ3, I4, el3⟩
      | bk ρ3 => cases el3; exact fun σ4 H4 z4 I4 => k σ4 H4 (fun j hj => (z4 j hj).trans (zσ j hj)) I4
      | rt c ρ3 => cases el3; exact fun v σ4 H4 I4 => k v σ4 H4 I4
/-! ### list comprehensions -/
def forget (vs : List Nat) (ρ : Env) : Env := vs.foldl (fun ρ i => ρ.set i none) ρ
theorem forget_get : ∀ {vs : List Nat} {ρ : Env} {i : Nat} {c : C}, (forget vs ρ)[i]? = some (some c) → ρ[i]? = some (some c) ∧ i ∉ vs
  | [], _, _, _, h => ⟨h, by simp⟩
  | v :: vs, ρ, i, c, h => by
    obtain ⟨h1, h2⟩ := forget_get (vs := vs) (ρ := ρ.set v none) h
    rcases set_cell h1 with ⟨_, e⟩ | ⟨n, e⟩
    · cases e
    · exact ⟨e, by simp only [List.mem_cons, not_or]; exact ⟨n, h2⟩⟩
theorem forget_length : ∀ (vs : List Nat) (ρ : Env), (forget vs ρ).length = ρ.length
  | [], _ => rfl
  | v :: vs, ρ => by show (forget vs (ρ.set v none)).length = _; rw [forget_length, List.length_set]
theorem wipe_in {σ : L2.St} {i : Nat} : ∀ {vs : List Nat}, i ∈ vs → i < σ.length → (wipe σ vs)[i]? = some none
  | v :: vs, h, hl => by
    unfold wipe
    by_cases hv : i = v
    · subst hv; exact List.getElem?_set_self (by rw [wipe_length]; exact hl)
    · rw [List.getElem?_set_ne (Ne.symm hv)]
      rcases List.mem_cons.mp h with e | h
      · exact absurd e hv
      · exact wipe_in h hl
theorem wipe_same {σ σ2 : L2.St} {vs W : List Nat} (hl : σ2.length = σ.length) (hW : ∀ i ∈ W, i ∈ vs) (h : ∀ i, i ∉ W → σ2[i]? = (wipe σ vs)[i]?) : wipe σ2 vs = wipe σ vs := by
  apply List.ext_getElem?
  intro i
  by_cases hi : i ∈ vs
  · by_cases hlt : i < σ.length
    · rw [wipe_in hi hlt, wipe_in hi (by rw [hl]; exact hlt)]
    · rw [List.getElem?_eq_none (by rw [wipe_length, hl]; omega), List.getElem?_eq_none (by rw [wipe_length]; omega)]
  · rw [wipe_out hi, h i (fun z => hi (hW i z))]
def loopC (vs : List Nat) (b : B1) (q : PT1) (p : P1) : List D → Env → Option (List D × Env)
  | [], ρ => some ([], ρ)
  | d :: ds, ρ => (b d ρ).bind fun ρ1 => (q ρ1).bind fun t => if t.1 = true then (p t.2).bind fun a => (cap a.1 a.2).bind fun a2 => (loopC vs b q p ds (forget vs a2.2)).map fun r => (a2.1.d :: r.1, r.2)
      else loopC vs b q p ds (forget vs t.2)
def pLc (it : I1) (vs : List Nat) (b : B1) (q : PT1) (p : P1) : P1 := fun ρ => (it ρ).bind fun a => if szOk a.1.length = true then (loopC vs b q p a.1 (forget vs a.2)).map fun r => (.own (.lst r.1), r.2) else none
def qYes : PT1 := fun ρ => some (true, ρ)
theorem dts_nil : PTs X [] (tDT F qYes) := ⟨fun pins s σ H Q I hw => pts_nil.run pins s σ H Q I (by
  obtain ⟨ρ, τ, b, ρ', I, e1, k⟩ := hw
  cases e1
  exact k H I)⟩
theorem dts_one {c : Expr} {q : PT1} (h : PT X c (tDT F q)) : PTs X [c] (tDT F q) := pts_one h
/-- the reading of a list comprehension -/
theorem lc_of {it : I1} {vs : List Nat} {b : B1} {q : PT1} {p : P1} (hW : ∀ i ∈ W, i ∈ vs) {σ : L2.St} {H : Hp} {Q : VK} (hw : tD F (pLc it vs b q p) σ H Q) : tLc (tDI F it) (tDG F W b) (tDT F q) (tD F p) vs σ H Q := by
  obtain ⟨ρ, τ, c, ρ', I, e1, k⟩ := hw
  simp only [pLc, Option.bind_eq_some_iff] at e1
  obtain ⟨⟨ds, ρ1⟩, e1, e2⟩ := e1
  split at e2
  · rename_i hz
    have hz : ds.length ≤ sizeLine := szOk_le hz
    simp only [Option.map_eq_some_iff] at e2
    obtain ⟨⟨rs, ρ2⟩, e2, e3⟩ := e2
    cases e3
    refine ⟨ρ, τ, ds, ρ1, I, e1, fun J ts H1 wk nt I1 Dl hD => ?_⟩
    obtain ⟨ow1, I1⟩ := I1
    have hlσ : σ.length = ρ1.length := I1.len
    -- from the block's slots to the outer ones and back
    have inn : ∀ {ow : Ow} {H : Hp} {ρ : Env} {τ : List (V × C)}, ρ.length = σ.length → RSo F ow σ H (forget vs ρ) τ → RSo F ow (wipe σ vs) H (forget vs ρ) τ := fun {ow H ρ τ} hl J => J.forget (by rw [wipe_length, forget_length, hl]) fun i c e => ⟨e, wipe_out (forget_get e).2⟩
    have out : ∀ {ow : Ow} {H : Hp} {ρ : Env} {τ : List (V × C)} {σ2 : L2.St}, σ2.length = σ.length → (∀ i, i ∉ vs → σ2[i]? = σ[i]?) → RSo F ow σ2 H ρ τ → RSo F ow σ H (forget vs ρ) τ := fun {ow H ρ τ σ2} hl hs J => J.forget (by rw [forget_length, ← hl]; exact J.len) fun i c e => ⟨(forget_get e).1, (hs i (forget_get e).2).symm⟩
    have I1f : RSo F ow1 σ H1 (forget vs ρ1) (ts ++ τ) := I1.forget (by rw [forget_length]; exact I1.len) fun i c e => ⟨(forget_get e).1, rfl⟩
    obtain ⟨ow0, I0, _⟩ := I1f.ret (c := .own (.lst [])) (Same.new (o := .lst []) hD) ⟨Dl, rfl, hD, [], upd_same, .nil⟩
    -- the state ahead of turn i: what is made so far, what is still to come
    refine ⟨fun i m H' => m = ds.length - i ∧ i ≤ ds.length ∧ ∃ ρi acc, ρi.length = σ.length ∧ acc.length ≤ i ∧ RS F σ H' (forget vs ρi) ((.ref Dl, .own (.lst acc)) :: (ts ++ τ)) ∧ ∃ rest, loopC vs b q p (ds.drop i) (forget vs ρi) = some (rest, ρ2) ∧ acc ++ rest = rs, ⟨ds.length, by simp, Nat.zero_le _, ρ1, [], hlσ.symm, Nat.le_refl _, ⟨ow0, I0⟩, rs, e2, rfl⟩, ?_⟩
    rintro i m H' ⟨rfl, hi, ρi, acc, hli, hacc, ⟨ow, I'⟩, rest, el, er⟩
    by_cases hlt : i < ds.length
    · refine .inr ⟨wk.go i σ H' _ [_] τ hlt ⟨ow, I'⟩, fun H2 => ∃ ρi acc, ρi.length = σ.length ∧ acc.length ≤ i + 1 ∧ RS F σ H2 (forget vs ρi) ((.ref Dl, .own (.lst acc)) :: (ts ++ τ)) ∧ ∃ rest, loopC vs b q p (ds.drop (i + 1)) (forget vs ρi) = some (rest, ρ2) ∧ acc ++ rest = rs,
        fun H2 h2 => ⟨ds.length - (i + 1), by omega, rfl, hlt, h2⟩, fun x H2 y => ?_⟩
      obtain ⟨d, hd, ow2, I2⟩ := wk.yld i (wipe σ vs) H' _ [_] τ x H2 hlt ⟨ow, inn hli I'⟩ y
      have ed : ds.drop i = d :: ds.drop (i + 1) := by
        have hd' : ds[i] = d := by
          rw [List.getElem?_eq_getElem hlt] at hd; exact Option.some.inj hd
        rw [← hd']; exact List.drop_eq_getElem_cons hlt
      rw [ed] at el
      simp only [loopC, Option.bind_eq_some_iff] at el
      obtain ⟨ρa, ea, ⟨bt, ρb⟩, eb, el⟩ := el
      refine ⟨_, _, d, ρa, ⟨ow2, I2⟩, ea, fun σ2 l2 z2 I3 => ?_⟩
      have hl2 : σ2.length = σ.length := l2.trans (wipe_length σ vs)
      have hs2 : ∀ i, i ∉ vs → σ2[i]? = σ[i]? := fun i hi => (z2 i fun z => hi (hW i z)).trans (wipe_out hi)
      refine ⟨wipe_same hl2 hW z2, ρa, _, bt, ρb, I3, eb, fun H3 I3 => ?_⟩
      cases bt with
      | false =>
        rw [if_neg Bool.false_ne_true] at el ⊢
        obtain ⟨ow3, I3⟩ := I3
        exact ⟨ρb, acc, (I3.len.symm.trans hl2), by omega, ⟨ow3, out hl2 hs2 I3⟩, rest, el, er⟩
      | true =>
        rw [if_pos rfl] at el ⊢
        simp only [Option.bind_eq_some_iff, Option.map_eq_some_iff] at el
        obtain ⟨⟨ca, ρc⟩, ec, ⟨cb, ρd⟩, ecap, ⟨rest', ρe⟩, el, e5⟩ := el
        cases e5
        refine ⟨ρb, _, ca, ρc, I3, ec, fun v H4 ⟨ow4, I4⟩ => ?_⟩
        obtain ⟨⟨ow5, I5⟩, nv5⟩ := I4.cap ecap
        obtain ⟨D', e0, hD1, ws, e6, r6⟩ := I5.tmp.2.1
        cases e0
        obtain ⟨ow6, I6⟩ := I5.appTop nv5 e6
        refine ⟨ws, e6, ?_, ρd, acc ++ [cb.d], (I5.len.symm.trans hl2), by rw [List.length_append]; simp; omega, ⟨ow6, out hl2 hs2 I6⟩, rest', el, by rw [List.append_assoc]; exact er⟩
        have : ws.length = acc.length := r6.length
        omega
    · have e : ds.drop i = [] := List.drop_eq_nil_of_le (by omega)
      rw [e] at el
      cases el
      rw [List.append_nil] at er
      subst er
      refine .inl ⟨wk.stop i σ H' _ [_] τ (by omega) ⟨ow, I'⟩, k _ H' ?_⟩
      exact RSo.ret1 ⟨ow, I'⟩
  · cases e2
end
end Dn

namespace Dn
open PySem PySem.Spec PyProof.Rows L2
/-! ### displays, caps, slices -/
def C.kept : C → Bool
  | .ro _ => true
  | .own _ => true
  | _ => false
def keptL (cs : List C) : Bool := cs.all C.kept
section
variable {F : Fr} {σ : L2.St} {H : Hp} {ρ : Env}
/-- what was kept is read strongly -/
theorem RSo.takeS : ∀ {vs : List V} {cs : List C} {ow : Ow} {τ : List (V × C)}, vs.length = cs.length → keptL cs = true → RSo F ow σ H ρ (stk vs cs τ) → ∃ ow', RSo F ow' σ H ρ τ ∧ RepL F.K (F.N ow') H vs (cs.map C.d)
  | [], [], ow, τ, _, _, I => ⟨ow, I, .nil⟩
  | v :: vs, c :: cs, ow, τ, hl, hk, I => by
    simp only [keptL, List.all_cons, Bool.and_eq_true] at hk
    obtain ⟨ow1, I1, r1⟩ := RSo.takeS (vs := vs) (cs := cs) (τ := (v, c) :: τ) (by simpa using hl) hk.2 I
    have nv : ∀ j, c ≠ .view j := fun j z => by subst z; exact absurd hk.1 Bool.false_ne_true
    exact ⟨_, I1.pop, .cons (RepC.pop I1 nv) (r1.mono drop_N)⟩
  | [], _ :: _, _, _, hl, _, _ => by simp at hl
  | _ :: _, [], _, _, hl, _, _ => by simp at hl
end
def pTup (ps : PAs) : P1 := fun ρ => (ps ρ).bind fun a => if (keptL a.1 && szOk a.1.length) = true then some (.ro (.tup (a.1.map C.d)), a.2) else none
def pLst (ps : PAs) : P1 := fun ρ => (ps ρ).bind fun a => if (keptL a.1 && szOk a.1.length) = true then some (.own (.lst (a.1.map C.d)), a.2) else none
section
variable {X : Cx} {F : Fr} {W W1 W2 : List Nat} {e a b : Expr} {es : List Expr} {pos : Pos} {p pa pb : P1} {ps : PAs}
theorem de_cap (h : PE X e (tD F p)) : PE X e (tD F (pCap p)) := PE.imp h fun σ H Q hw => by
  obtain ⟨ρ, τ, c, ρ', I, e1, k⟩ := hw
  simp only [pCap, Option.bind_eq_some_iff] at e1
  obtain ⟨⟨c1, ρ1⟩, e1, e2⟩ := e1
  exact ⟨ρ, τ, c1, ρ1, I, e1, fun v H1 ⟨ow, I1⟩ => k v H1 (I1.cap e2).1⟩
/-- a written tuple: its object has no dict -/
def tTupP (t : TA) : TE := fun σ H Q => t σ H fun xs H1 => xs.length ≤ sizeLine ∧ ∀ (p : Addr) (o : Obj), o.dict = none → H1 p = none → Q (.ref p) (upd H1 p (.frz o (.tup xs)))
theorem pe_tupP {x1} {t : TA} (h : PA X es t) : PE X (.Tuple es x1 pos) (tTupP t) := ⟨fun pins s σ H Q I hq => by
  refine wpAny_Tuple_spliced (thn (h.run pos pins s σ H _ I hq) fun us s1 ⟨xs, H1, I1, r, z, q⟩ => ⟨by rw [← r.length]; exact z, ?_⟩)
  exact ⟨.ref s1.heap.objs.size, _, I1.laid (t' := s1.toks) (o := .frz _ (.tup xs)) (fun b u e => Heap.get?_push_of_some _ e) (Nat.le_refl _) ⟨Heap.get?_push_size _ rfl, z, us, r, ⟨_, Heap.get?_push_size _ rfl, rfl, _, rfl⟩⟩, rfl, q _ _ rfl (I1.hok.fresh (Nat.le_refl _))⟩⟩
theorem de_tup {x1} (h : PA X es (tDA F ps)) : PE X (.Tuple es x1 pos) (tD F (pTup ps)) := PE.imp (pe_tupP h) fun σ H Q hw => by
  obtain ⟨ρ, τ, c, ρ', I, e1, k⟩ := hw
  simp only [pTup, Option.bind_eq_some_iff] at e1
  obtain ⟨⟨cs, ρ1⟩, e1, e2⟩ := e1
  split at e2
  · rename_i hz
    cases e2
    simp only [Bool.and_eq_true] at hz
    refine ⟨ρ, τ, cs, ρ1, I, e1, fun vs H1 hl ⟨ow, I1⟩ => ?_⟩
    obtain ⟨ow2, I2, r⟩ := RSo.takeS hl hz.1 I1
    refine ⟨by rw [hl]; exact szOk_le hz.2, fun q o ho hq => ret_tup ho hq r fun v' H' g rt => ?_⟩
    obtain ⟨ow3, I3, _⟩ := I2.ret g rt
    exact k v' H' ⟨ow3, I3⟩
  · cases e2
theorem de_lst (h : PA X es (tDA F ps)) : PE X (.List es pos) (tD F (pLst ps)) := PE.imp (pe_lst h) fun σ H Q hw => by
  obtain ⟨ρ, τ, c, ρ', I, e1, k⟩ := hw
  simp only [pLst, Option.bind_eq_some_iff] at e1
  obtain ⟨⟨cs, ρ1⟩, e1, e2⟩ := e1
  split at e2
  · rename_i hz
    cases e2
    simp only [Bool.and_eq_true] at hz
    refine ⟨ρ, τ, cs, ρ1, I, e1, fun vs H1 hl ⟨ow, I1⟩ => ?_⟩
    obtain ⟨ow2, I2, r⟩ := RSo.takeS hl hz.1 I1
    refine ⟨by rw [hl]; exact szOk_le hz.2, fun q hq => ret_lst hq r fun v' H' g rt => ?_⟩
    obtain ⟨ow3, I3, _⟩ := I2.ret g rt
    exact k v' H' ⟨ow3, I3⟩
  · cases e2
/-! slices -/
abbrev PO1 := Env → Option (Option Int × Env)
def tDO (F : Fr) (p : PO1) : TO := fun σ H Q => ∃ ρ τ o ρ', RS F σ H ρ τ ∧ p ρ = some (o, ρ') ∧ ∀ H', RS F σ H' ρ' τ → Q o H'
def oNone : PO1 := fun ρ => some (none, ρ)
def oSome (p : P1) : PO1 := fun ρ => (p ρ).bind fun a => match a.1 with
  | .ro (.int i) => some (some i, a.2)
  | _ => none
theorem PO.imp {o : Option Expr} {t t' : TO} (h : PO X o t) (k : ∀ σ H Q, t' σ H Q → t σ H Q) : PO X o t' := ⟨fun pins s σ H Q I hw => h.run pins s σ H Q I (k σ H Q hw)⟩
theorem do_none : PO X none (tDO F oNone) := PO.imp po_none fun σ H Q hw => by
  obtain ⟨ρ, τ, o, ρ', I, e1, k⟩ := hw
  cases e1
  exact k H I
theorem do_some (h : PE X e (tD F p)) : PO X (some e) (tDO F (oSome p)) := PO.imp (po_some h) fun σ H Q hw => by
  obtain ⟨ρ, τ, o, ρ', I, e1, k⟩ := hw
  simp only [oSome, Option.bind_eq_some_iff] at e1
  obtain ⟨⟨c1, ρ1⟩, e1, e2⟩ := e1
  refine ⟨ρ, τ, c1, ρ1, I, e1, fun v H1 ⟨ow, I1⟩ => ?_⟩
  cases c1 with
  | ro d =>
    cases d with
    | int i => cases e2; have := I1.tmp.1; cases this; exact ⟨i, rfl, k H1 ⟨_, I1.pop⟩⟩
    | _ => cases e2
  | _ => cases e2
def cutD {α : Type} (xs : List α) (lo hi : Option Int) : List α := (xs.drop (HT.sIx xs.length 0 lo)).take (HT.sIx xs.length xs.length hi - HT.sIx xs.length 0 lo)
def D.slice (d : D) (lo hi : Option Int) : Option C := match d with
  | .lst xs => some (.own (.lst (cutD xs lo hi)))
  | .tup xs => some (.ro (.tup (cutD xs lo hi)))
  | .str z => if szOk z.length = true then some (.ro (.str (cutS z lo hi))) else none
  | _ => none
def pSl (p : P1) (lo hi : PO1) : P1 := fun ρ => (p ρ).bind fun a => (lo a.2).bind fun l => (hi l.2).bind fun h => (dat h.2 a.1).bind fun d => (D.slice d l.1 h.1).map fun c => (c, h.2)
theorem cut_rep {K : KW} {N : Addr → Prop} {H : Hp} {vs : List V} {ds : List D} {lo hi : Option Int} (r : RepL K N H vs ds) : RepL K N H (cutV vs lo hi) (cutD ds lo hi) := by
  unfold cutV cutD
  rw [r.length]
  exact (r.drop _).take _
theorem cut_all {α : Type} {xs : List α} {lo hi : Option Int} (h : HT.sIx xs.length 0 lo = 0 ∧ HT.sIx xs.length xs.length hi = xs.length) : cutD xs lo hi = xs := by
  unfold cutD
  rw [h.1, h.2]
  simp
/-- t[lo:hi] -/
def rSlP (K : PySem.W.Frag) : V → Option Int → Option Int → Hp → VK → Prop := fun x lo hi H Q => ∃ a xs, x = .ref a ∧ SqT K H a xs ∧
  (HT.sIx xs.length 0 lo = 0 ∧ HT.sIx xs.length xs.length hi = xs.length → Q (.ref a) H) ∧ (¬ (HT.sIx xs.length 0 lo = 0 ∧ HT.sIx xs.length xs.length hi = xs.length) → ∀ (p : Addr) (o : Obj), o.dict = none → H p = none → Q (.ref p) (upd H p (.frz o (.tup (cutV xs lo hi)))))
theorem sl_tupP : SlR X (rSlP X.K) := by
  intro pins s σ H x v vl vu lo hi sl Q I rx hs pl pu h
  obtain ⟨a, xs, rfl, hx, q1, q2⟩ := h
  by_cases hw : HT.sIx xs.length 0 lo = 0 ∧ HT.sIx xs.length xs.length hi = xs.length
  · exact sl_tupA pins s σ H _ v vl vu lo hi sl Q I rx hs pl pu ⟨a, xs, rfl, hx, q1, fun z => absurd hw z⟩
  · cases rx
    obtain ⟨its, r, ht, hz⟩ := I.tuple hx
    have hlen : its.toArray.size = xs.length := by rw [List.size_toArray]; exact r.length.symm
    refine ⟨"tuple", _, PyProof.Rows.slot_tuple_getitem.lookup, ht.typeIs, ?_⟩
    refine HT.getItem_tuple_cut ht hs pl pu (by rw [hlen]; exact hw) ?_ (by rw [hlen]; exact hz)
    rw [hlen]
    exact ⟨.ref s.heap.objs.size, _, I.laid (t' := s.toks) (o := .frz _ (.tup (cutV xs lo hi))) (fun b ob q => Heap.get?_push_of_some _ q) (Nat.le_refl _) ⟨Heap.get?_push_size _ rfl, Nat.le_trans (cutV_length xs lo hi) hz, _, (r.drop (HT.sIx xs.length 0 lo)).take (HT.sIx xs.length xs.length hi - HT.sIx xs.length 0 lo), PyProof.Rows.IsTup.new _ _⟩, rfl, q2 hw _ _ rfl (I.hok.fresh (Nat.le_refl _))⟩
theorem o_sl (hK : F.K = X.kw) : SlR X (fun x lo hi H Q => rSlL F.K x lo hi H Q ∨ (rSlP F.K x lo hi H Q ∨ ∃ z, x = .str z ∧ z.length ≤ sizeLine ∧ Q (.str (cutS z lo hi)) H)) := by
  rw [hK]
  refine SlR.or sl_list (SlR.or sl_tupP ?_)
  exact sl_str
theorem de_sl {lo hi : Option Expr} {ol oh : PO1} {p2 : Pos} (hK : F.K = X.kw) (he : PE X e (tD F p)) (hl : PO X lo (tDO F ol)) (hh : PO X hi (tDO F oh)) : PE X (.Subscript e (.Slice lo hi none p2) pos) (tD F (pSl p ol oh)) := PE.imp (pe_slice (o_sl hK) he hl hh) fun σ H Q hw => by
  obtain ⟨ρ, τ, c, ρ', I, e1, k⟩ := hw
  simp only [pSl, Option.bind_eq_some_iff, Option.map_eq_some_iff] at e1
  obtain ⟨⟨c1, ρ1⟩, e1, ⟨l, ρ2⟩, e2, ⟨h, ρ3⟩, e3, d, e4, c5, e5, e6⟩ := e1
  cases e6
  refine ⟨ρ, τ, c1, ρ1, I, e1, fun v H1 I1 => ⟨ρ1, _, l, ρ2, I1, e2, fun H2 I2 => ⟨ρ2, _, h, ρ3, I2, e3, fun H3 ⟨ow, I3⟩ => ?_⟩⟩⟩
  obtain ⟨ow4, I4, rx⟩ := RSo.take (vs := [v]) (cs := [c1]) rfl I3
  have rr := rx [d] (by simp only [dats]; rw [e4])
  cases rr with
  | cons r1 _ =>
    have fin : ∀ v H', Same H3 H' → Ret F.K (F.N ow4) H3 H' v c → Q v H' := fun v' H' g rt => by
      obtain ⟨ow5, I5, _⟩ := I4.ret g rt
      exact k v' H' ⟨ow5, I5⟩
    unfold D.slice at e5
    split at e5
    · cases e5
      obtain ⟨a, ws, rfl, h1, r⟩ := r1.lst
      exact .inl ⟨a, ws, rfl, SqL.of h1, fun q hq => ret_lst hq (cut_rep r) fin⟩
    · cases e5
      obtain ⟨a, ws, rfl, h1, r⟩ := r1.tupP
      refine .inr (.inl ⟨a, ws, rfl, h1.t, fun z => ?_, fun z q o ho hq => ret_tup ho hq (cut_rep r) fin⟩)
      rw [r.length] at z
      rw [cut_all z] at fin
      exact ret_ro (rep_tup h1 r) fin
    · split at e5
      · rename_i hz
        cases e5
        have := r1.str; subst this
        exact .inr (.inr ⟨_, rfl, szOk_le hz, ret_str fin⟩)
      · cases e5
    · cases e5
end
/-! ### promises of defs -/
def Sp0 (K : KW) (f : List D → Option C) : Sp := fun vs H Q _ => ∃ N ds c, RepL K N H vs ds ∧ f ds = some c ∧ ∀ v H', Same H H' → Ret K N H H' v c → Q v H'
def RetM (K : KW) (M : Addr → Prop) (H H' : Hp) (v : V) : C → Prop
  | .ro d => Rep K M H' v d
  | .own d => ∃ p, v = .ref p ∧ H p = none ∧ ¬ M p ∧ HoldsN K M H' p d
  | _ => False
/-- the first argument is changed -/
def SpIo (K : KW) (f : D → List D → Option (C × D)) : Sp := fun vs H Q _ => ∃ (N : Addr → Prop) (a : Addr) (ws : List V) (d : D) (ds : List D) (c : C) (d' : D), vs = .ref a :: ws ∧ ¬ N a ∧ HoldsN K N H a d ∧ RepL K N H ws ds ∧ f d ds = some (c, d') ∧
  ∀ v H' M, (∀ b o, H b = some o → b ≠ a → H' b = some o) → (∀ b, M b → (N b ∨ H b = none) ∧ b ≠ a) → HoldsN K M H' a d' → RetM K M H H' v c → Q v H'
def runDef (s : S1) (n np : Nat) (ds : List D) : Option C := if ds.length = np then match s (ds.map (fun d => some (.ro d)) ++ List.replicate (n - np) none) with
  | some (.rt (.ro d) _) => some (.ro d)
  | some (.rt (.own d) _) => some (.own d)
  | some (.nx _) => some (.ro .non)
  | _ => none else none
def ioAt (ρ : List (Option C)) : Option D := match (ρ[(0 : Nat)]? : Option (Option C)) with
  | some (some (.io d)) => some d
  | _ => none
theorem ioAt_get {ρ : List (Option C)} {d : D} (h : ioAt ρ = some d) : ρ[0]? = some (some (.io d)) := by
  unfold ioAt at h
  split at h
  · cases h; assumption
  · cases h
def runIo (s : S1) (n np : Nat) (d : D) (ds : List D) : Option (C × D) := if ds.length + 1 = np then match s (some (.io d) :: ds.map (fun d => some (.ro d)) ++ List.replicate (n - np) none) with
  | some (.rt (.ro r) ρ) => (ioAt ρ).map fun d' => (.ro r, d')
  | some (.rt (.own r) ρ) => (ioAt ρ).map fun d' => (.own r, d')
  | some (.nx ρ) => (ioAt ρ).map fun d' => (.ro .non, d')
  | _ => none else none
section
variable {K : KW} {H : Hp} {N : Addr → Prop}
theorem start_ro (N : Addr → Prop) (H : Hp) (io : Option Addr) (n : Nat) (hio : ∀ b, io = some b → ¬ N b) {vs : List V} {ds : List D} (r : RepL K N H vs ds) (names : List Str) (hn : names.length = n) :
    ∀ (i : Nat) (c : C), (ds.map (fun d => some (C.ro d)) ++ List.replicate (n - ds.length) none)[i]? = some (some c) → ∃ v, (L2.start names vs)[i]? = some (some v) ∧ ∃ d, c = .ro d ∧ Rep K ((⟨K, H, N, io⟩ : Fr).N fun _ => none) H v d := by
  intro i c e
  have hl := r.length
  by_cases hi : i < ds.length
  · rw [List.getElem?_append_left (by simpa using hi), List.getElem?_map] at e
    cases q : ds[i]? with
    | none => rw [q] at e; cases e
    | some d =>
      rw [q] at e
      cases e
      obtain ⟨v, h1, h2⟩ := r.get' q
      refine ⟨v, ?_, d, rfl, h2.mono fun b hb _ => ⟨rfl, fun z => hio b z hb, .inl hb⟩⟩
      unfold L2.start
      rw [List.getElem?_append_left (by simp; omega), List.getElem?_map, h1]; rfl
  · rw [List.getElem?_append_right (by simp; omega), List.getElem?_replicate] at e
    split at e <;> cases e
end
section
variable {P : Program} {w : World} {K : KW} {mg : Str → Option Value} {base : Heap} {f : Addr} {fd : FuncData} {x qual : Str} {params : Arguments} {body : List Stmt} {scope : Scope}
theorem ok_def {names ps : List Str} {k : Nat} {s : S1} {W : List Nat} (Fn : FunD K x qual params body scope [] [] f fd) (S : FnScope names ps scope) (n np : Nat) (hn : names.length = n) (hnp : ps.length = np)
    (hb : ∀ (F : Fr) (cdv : Value) (A : Around) (outer : List PySem.Env) (s0 : Shared) (H : Hp) (E : XK), F.K = K → Room k (A.deeper (envOfC qual scope s0.heap.objs.size f cdv)) → PSs (cxOf CX0 P K.w K mg base names qual scope f cdv A outer s0 H E).nox body (tDS F W s)) :
    FnOk P K.w K mg base CX0 (k + 1) f fd ps (Sp0 K (runDef s n np)) := by
  refine Fn.ok S (fun vs H Q E h => ?_) (fun cdv A outer s0 H vs Q E hr h => ?_)
  · obtain ⟨N, ds, c, r, e, _⟩ := h
    unfold runDef at e
    split at e
    · rename_i hl; rw [r.length, hl, hnp]
    · cases e
  · obtain ⟨N, ds, c, r, e, hQ⟩ := h
    unfold runDef at e
    split at e
    · rename_i hl
      have hF := hb ⟨K, H, N, none⟩ cdv A outer s0 H E rfl hr
      refine ⟨_, PSs.nox hF, ds.map (fun d => some (.ro d)) ++ List.replicate (n - np) none, [], ?_⟩
      have hpl : np ≤ n := by have := congrArg List.length S.pre; rw [List.length_take] at this; omega
      have sr := start_ro (K := K) N H none n (fun _ z => by cases z) r names hn
      rw [hl] at sr
      have I : RSo ⟨K, H, N, none⟩ (fun _ => none) (L2.start names vs) H (ds.map (fun d => some (.ro d)) ++ List.replicate (n - np) none) [] := by
        refine ⟨?_, fun i c e => ?_, fun i c e => ?_, trivial, (fun _ h => nomatch h), (fun _ _ e => nomatch e), (fun _ _ e => nomatch e), (fun b o h _ => h), (fun _ e => nomatch e)⟩
        · unfold L2.start; simp only [List.length_append, List.length_map, List.length_replicate]; rw [r.length]; omega
        · obtain ⟨v, h1, d, rfl, h2⟩ := sr i c e; exact ⟨v, h1, h2⟩
        · obtain ⟨v, h1, d, rfl, h2⟩ := sr i c e; trivial
      have done : ∀ {c v σ' H' ρ'}, RS ⟨K, H, N, none⟩ σ' H' ρ' [(v, c)] → Same H H' := fun {c v σ' H' ρ'} ⟨ow, J⟩ b o h => J.keep b o h (fun z => by cases z)
      have nN : ∀ {ow : Ow} b, (⟨K, H, N, none⟩ : Fr).N ow b → N b ∨ H b = none := fun b h => h.2.2
      split at e
      · rename_i d ρ' q; cases e
        refine ⟨_, ⟨_, I⟩, (fun _ h => nomatch h), q, fun v σ' H' J => ?_⟩
        have g := done J
        obtain ⟨ow, J⟩ := J
        exact hQ v H' g (Rep.mono (fun b h _ => nN b h) J.tmp.1)
      · rename_i d ρ' q; cases e
        refine ⟨_, ⟨_, I⟩, (fun _ h => nomatch h), q, fun v σ' H' J => ?_⟩
        have g := done J
        obtain ⟨ow, J⟩ := J
        obtain ⟨p, ev, hp, h2⟩ := J.tmp.1
        exact hQ v H' g ⟨p, ev, (J.own p _ hp).2.1, h2.mono fun b h _ => ⟨nN b h, fun z => by have h1 := h.1; rw [z, hp] at h1; cases h1⟩⟩
      · rename_i ρ' q; cases e
        refine ⟨_, ⟨_, I⟩, (fun _ h => nomatch h), q, fun σ' H' _ J => ?_⟩
        obtain ⟨ow, J⟩ := J
        exact hQ .non H' (fun b o h => J.keep b o h (fun z => by cases z)) .non
      · cases e
    · cases e
theorem ok_io {names ps : List Str} {k : Nat} {s : S1} {W : List Nat} (Fn : FunD K x qual params body scope [] [] f fd) (S : FnScope names ps scope) (n np : Nat) (hn : names.length = n) (hnp : ps.length = np)
    (hb : ∀ (F : Fr) (cdv : Value) (A : Around) (outer : List PySem.Env) (s0 : Shared) (H : Hp) (E : XK), F.K = K → Room k (A.deeper (envOfC qual scope s0.heap.objs.size f cdv)) → PSs (cxOf CX0 P K.w K mg base names qual scope f cdv A outer s0 H E).nox body (tDS F W s)) :
    FnOk P K.w K mg base CX0 (k + 1) f fd ps (SpIo K (runIo s n np)) := by
  refine Fn.ok S (fun vs H Q E h => ?_) (fun cdv A outer s0 H vs Q E hr h => ?_)
  · obtain ⟨N, a, ws, d, ds, c, d', rfl, _, _, r, e, _⟩ := h
    unfold runIo at e
    split at e
    · rename_i hl; rw [List.length_cons, r.length, hl, hnp]
    · cases e
  · obtain ⟨N, a, ws, d, ds, c, d', rfl, na, hd, r, e, hQ⟩ := h
    unfold runIo at e
    split at e
    · rename_i hl
      have hF := hb ⟨K, H, N, some a⟩ cdv A outer s0 H E rfl hr
      have hpl : np ≤ n := by have := congrArg List.length S.pre; rw [List.length_take] at this; omega
      obtain ⟨n1, rfl⟩ : ∃ m, n = m + 1 := ⟨n - 1, by omega⟩
      obtain ⟨x0, names1, rfl⟩ : ∃ x0 ns, names = x0 :: ns := by
        cases names with
        | nil => simp at hn
        | cons x0 ns => exact ⟨x0, ns, rfl⟩
      have hn1 : names1.length = n1 := by simpa using hn
      have es : L2.start (x0 :: names1) (.ref a :: ws) = some (.ref a) :: L2.start names1 ws := by
        unfold L2.start
        simp only [List.map_cons, List.length_cons, List.cons_append]
        rw [show names1.length + 1 - (ws.length + 1) = names1.length - ws.length by omega]
      have hrep : n1 + 1 - np = n1 - ds.length := by omega
      rw [hrep] at e
      refine ⟨_, PSs.nox hF, some (.io d) :: ds.map (fun d => some (.ro d)) ++ List.replicate (n1 - ds.length) none, [], ?_⟩
      have sr := start_ro (K := K) N H (some a) n1 (fun b z => by cases z; exact na) r names1 hn1
      have hmono : ∀ b, N b → (H b).isSome = true → (⟨K, H, N, some a⟩ : Fr).N (fun _ => none) b := fun b hb _ => ⟨rfl, fun z => by cases z; exact na hb, .inl hb⟩
      have I : RSo ⟨K, H, N, some a⟩ (fun _ => none) (start (x0 :: names1) (.ref a :: ws)) H (some (.io d) :: ds.map (fun d => some (.ro d)) ++ List.replicate (n1 - ds.length) none) [] := by
        rw [es]
        refine ⟨?_, fun i c e => ?_, fun i c e => ?_, trivial, (fun _ h => nomatch h), (fun _ _ e => nomatch e), (fun _ _ e => nomatch e), (fun b o h _ => h), fun b e => ?_⟩
        · unfold L2.start; simp only [List.length_append, List.length_cons, List.length_map, List.length_replicate]; rw [r.length]; omega
        · cases i with
          | zero => cases e; exact ⟨.ref a, rfl, a, rfl, rfl, hd.mono hmono⟩
          | succ i => obtain ⟨v, h1, d, rfl, h2⟩ := sr i c (by simpa using e); exact ⟨v, by simpa using h1, h2⟩
        · cases i with
          | zero => cases e; rfl
          | succ i => obtain ⟨v, h1, d, rfl, h2⟩ := sr i c (by simpa using e); trivial
        · cases e
          have := hd.some
          cases q : H a with
          | none => rw [q] at this; cases this.1
          | some o => rw [q] at this; exact ⟨o, rfl, this.2, by show (H a).isSome = true; rw [q]; rfl⟩
      -- the end: what is handed back, what the first argument holds
      have fin : ∀ {c v σ' H' ρ' d'}, RS ⟨K, H, N, some a⟩ σ' H' ρ' [(v, c)] → ρ'[0]? = some (some (.io d')) → ((∃ r, c = .ro r) ∨ ∃ r, c = .own r) → (∀ v H' M, (∀ b o, H b = some o → b ≠ a → H' b = some o) → (∀ b, M b → (N b ∨ H b = none) ∧ b ≠ a) → HoldsN K M H' a d' → RetM K M H H' v c → Q v H') → Q v H' := by
        intro c v σ' H' ρ' d' ⟨ow, J⟩ h0 hc hQ
        obtain ⟨v0, _, a0, _, ea, hh⟩ := J.slot 0 _ h0
        cases ea
        refine hQ v H' ((⟨K, H, N, some a⟩ : Fr).N ow) (fun b o h hb => J.keep b o h (fun z => hb (Option.some.inj z).symm)) (fun b h => ⟨h.2.2, fun z => h.2.1 (by rw [z])⟩) hh ?_
        rcases hc with ⟨r, rfl⟩ | ⟨r, rfl⟩
        · exact J.tmp.1
        · obtain ⟨p, ev, hp, h2⟩ := J.tmp.1
          exact ⟨p, ev, (J.own p _ hp).2.1, (fun z => by have h1 := z.1; rw [hp] at h1; cases h1), h2⟩
      split at e
      all_goals first
        | (cases e; done)
        | (rename_i r ρ' q
           simp only [Option.map_eq_some_iff] at e
           obtain ⟨d1, h0, e⟩ := e
           cases e
           refine ⟨_, ⟨_, I⟩, (fun _ h => nomatch h), q, fun v σ' H' J => ?_⟩
           first
             | exact fin J (ioAt_get h0) (.inl ⟨_, rfl⟩) hQ
             | exact fin J (ioAt_get h0) (.inr ⟨_, rfl⟩) hQ)
        | (rename_i ρ' q
           simp only [Option.map_eq_some_iff] at e
           obtain ⟨d1, h0, e⟩ := e
           cases e
           refine ⟨_, ⟨_, I⟩, (fun _ h => nomatch h), q, fun σ' H' _ J => ?_⟩
           obtain ⟨ow, J⟩ := J
           exact fin ⟨ow, J.push .non⟩ (ioAt_get h0) (.inl ⟨_, rfl⟩) hQ)
    · cases e
end
end Dn

namespace Dn
open PySem PySem.Spec PyProof.Rows L2
section
variable {X : Cx} {F : Fr} {W W1 W2 : List Nat} {e a b : Expr} {es : List Expr} {pos : Pos} {p pa pb : P1} {ps : PAs}
/-! ### calls of built-ins and of defs -/
theorem de_bi {f : Value} {x : Str} {pp : Pos} {r : List V → Hp → VK → Prop} {g : List D → Option C} (hr : CallR X f r) (hf : FunS F.K r g) (h : ∀ {t : TA}, PA X es t → PE X (.Call (.Name x pp) es [] pos) (tCB r t)) (ha : PA X es (tDA F ps)) : PE X (.Call (.Name x pp) es [] pos) (tD F (pFun g ps)) :=
  PE.imp (h ha) fun _ _ _ => fun_of hf
def pCall (f : List D → Option C) (ps : PAs) : P1 := fun ρ => (ps ρ).bind fun a => (dats a.2 a.1).bind fun ds => (f ds).bind fun c => if (keptL a.1 || c.clean) = true then some (c, a.2) else none
theorem dats_kept {ρ : Dn.Env} : ∀ {cs : List C} {ds : List D}, keptL cs = true → dats ρ cs = some ds → ds = cs.map C.d
  | [], _, _, e => by cases e; rfl
  | c :: cs, ds, k, e => by
    simp only [keptL, List.all_cons, Bool.and_eq_true] at k
    unfold dats at e
    cases q1 : dat ρ c with
    | none => rw [q1] at e; cases e
    | some d =>
      cases q2 : dats ρ cs with
      | none => rw [q1, q2] at e; cases e
      | some ds' =>
        rw [q1, q2] at e; cases e
        rw [dats_kept k.2 q2]
        cases c with
        | ro d' => cases q1; rfl
        | own d' => cases q1; rfl
        | io d' => exact absurd k.1 Bool.false_ne_true
        | view d' => exact absurd k.1 Bool.false_ne_true
theorem call_of {g : List D → Option C} {Q : VK} {σ : L2.St} {H : Hp} (hw : tD F (pCall g ps) σ H Q) : tCall (Sp0 F.K g) [] E0 (tDA F ps) σ H Q := by
  obtain ⟨ρ, τ, c, ρ', I, e1, k⟩ := hw
  simp only [pCall, Option.bind_eq_some_iff] at e1
  obtain ⟨⟨cs, ρ1⟩, e1, ds, e2, c1, e3, e4⟩ := e1
  split at e4
  · rename_i hk
    cases e4
    refine ⟨ρ, τ, cs, ρ1, I, e1, fun vs H1 hl ⟨ow, I1⟩ => ?_⟩
    show Sp0 F.K g (vs ++ []) H1 Q E0
    rw [List.append_nil]
    simp only [Bool.or_eq_true] at hk
    by_cases hkk : keptL cs = true
    · obtain ⟨ow2, I2, r⟩ := RSo.takeS hl hkk I1
      rw [← dats_kept hkk e2] at r
      refine ⟨F.N ow2, ds, c, r, e3, fun v H2 g rt => ?_⟩
      obtain ⟨ow3, I3, _⟩ := I2.ret g rt
      exact k v H2 ⟨ow3, I3⟩
    · obtain ⟨ow2, I2, rx⟩ := RSo.take hl I1
      have r := RepXL.rep (N' := fun b => (H1 b).isSome = true) (fun b h => h) (rx ds e2)
      refine ⟨_, ds, c, r, e3, fun v H2 g rt => ?_⟩
      obtain ⟨ow3, I3, _⟩ := I2.ret g (rt.clean (hk.resolve_left hkk))
      exact k v H2 ⟨ow3, I3⟩
  · cases e4
variable {kk : Nat} {f : Addr} {fd : FuncData} {pss : List Str} {x : Str} {pp : Pos}
theorem de_call {g : List D → Option C} (hK : F.K = X.kw) (G : FnOk X.prog X.w X.K X.mg X.base CX0 kk f fd pss (Sp0 X.kw g)) (hr : Room kk X.A) (hg : Gl X x) (hm : X.mg x = some (.ref f)) (hk : PySem.W.keepIn X.K (.ref f) = true) (hb : Binds X.K fd pss [])
    (ha : PA X (e :: es) (tDA F ps)) (hdb : (x == ("__debug__" : Str)) = false := by decide) (he : starEach (e :: es) X.env = (false, eval e X.env) :: starEach es X.env := by rfl) (hpl : (backTo pos (starEach es X.env)).any (·.1) = false := by rfl) :
    PE X (.Call (.Name x pp) (e :: es) [] pos) (tD F (pCall g ps)) := PE.imp (pe_call G hr hg hm hk hb .nil pass0 ha hdb he hpl) fun σ H Q hw => by
  rw [← hK]; exact call_of hw
/-- a call whose first argument is changed: what a slot holds -/
def ioData (ρ : Dn.Env) (j : Nat) : Option (Bool × D) := match ρ[j]? with
  | some (some (.own d)) => some (false, d)
  | some (some (.io d)) => some (true, d)
  | _ => none
def ioCell (b : Bool) (d : D) : C := if b = true then .io d else .own d
def pCallIo (f : D → List D → Option (C × D)) (j : Nat) (ps : PAs) : P1 := fun ρ => (ioData ρ j).bind fun _ => (ps ρ).bind fun a => if keptL a.1 = true then (ioData a.2 j).bind fun d => (f d.2 (a.1.map C.d)).map fun r => (r.1, a.2.set j (some (ioCell d.1 r.2))) else none
theorem ioData_get {ρ : Dn.Env} {j : Nat} {b : Bool} {d : D} (h : ioData ρ j = some (b, d)) : ρ[j]? = some (some (ioCell b d)) := by
  unfold ioData at h
  split at h
  · cases h; assumption
  · cases h; assumption
  · cases h
/-- the object of slot j is another one behind the call, the answer comes -/
theorem RSo.callIo {ow : Ow} {σ : L2.St} {H H' : Hp} {ρ : Dn.Env} {τ : List (V × C)} {j : Nat} {bb : Bool} {d d' : D} {v : V} {c : C} {M : Addr → Prop} {a : Addr} (I : RSo F ow σ H ρ τ) (hc : ρ[j]? = some (some (ioCell bb d))) (hs : σ[j]? = some (some (.ref a)))
    (k : ∀ b o, H b = some o → b ≠ a → H' b = some o) (hM : ∀ b, M b → (F.N ow b ∨ H b = none) ∧ b ≠ a) (h : HoldsN F.K M H' a d') (r : RetM F.K M H H' v c) : ∃ ow', RSo F ow' σ H' (ρ.set j (some (ioCell bb d'))) ((v, c) :: τ) := by
  -- what stands at a ahead
  obtain ⟨w, h1, h2⟩ := I.slot j _ hc
  rw [hs] at h1; cases h1
  have ha : (H a).isSome = true ∧ Mut (H a) := by
    cases bb with
    | true => obtain ⟨a', e, _, q⟩ := h2; cases e; exact q.some
    | false => obtain ⟨a', e, _, q⟩ := h2; cases e; exact q.some
  obtain ⟨o, ho⟩ : ∃ o, H a = some o := Option.isSome_iff_exists.mp ha.1
  -- the heap behind, with a as it was
  let H2 : Hp := upd H' a o
  have g : Same H H2 := fun b u e => by
    by_cases hb : b = a
    · subst hb; show upd H' b o b = _; rw [upd_same]; rw [ho] at e; exact e
    · show upd H' a o b = _; rw [upd_ne hb]; exact k b u e hb
  have kk : Keeps M H' H2 := fun b u e hb => by
    have mu' := h.some.2
    have : b ≠ a := by
      rintro rfl
      rcases hb with hb | ⟨xs, rfl⟩ | ⟨ob, u, rfl⟩
      · exact (hM _ hb).2 rfl
      · rw [e] at mu'; exact mu'.elim
      · rw [e] at mu'; exact mu'.elim
    show upd H' a o b = _
    rw [upd_ne this]; exact e
  have back : Keeps M H2 H' := fun b u e hb => by
    have : b ≠ a := by
      rintro rfl
      have e : H2 b = some u := e
      have eo : H2 b = some o := upd_same
      rw [eo] at e; cases e
      rw [ho] at ha
      rcases hb with hb | ⟨xs, rfl⟩ | ⟨ob, u, rfl⟩
      · exact (hM _ hb).2 rfl
      · exact ha.2.elim
      · exact ha.2.elim
    have e : upd H' a o b = some u := e
    rw [upd_ne this] at e; exact e
  have r2 : Ret F.K (F.N ow) H H2 v c := by
    cases c with
    | ro d => exact Rep.keep kk (fun b hb _ => (hM b hb).1) r
    | own d =>
      obtain ⟨p, e, hp, np, q⟩ := r
      have pa : p ≠ a := fun z => by rw [z, ho] at hp; cases hp
      refine ⟨p, e, hp, ?_⟩
      have mono : ∀ b, M b → (H' b).isSome = true → (fun b => (F.N ow b ∨ H b = none) ∧ b ≠ p) b := fun b hb _ => ⟨(hM b hb).1, fun z => np (z ▸ hb)⟩
      cases d with
      | lst ds => obtain ⟨ws, q1, q2⟩ := q; exact ⟨ws, (upd_ne pa).trans q1, q2.keep kk mono⟩
      | dct ds => obtain ⟨ws, q1, q2⟩ := q; exact ⟨ws, (upd_ne pa).trans q1, q2.keep kk mono⟩
      | dtt ds => obtain ⟨ws, q1, q2⟩ := q; exact ⟨ws, (upd_ne pa).trans q1, q2.keep kk mono⟩
      | _ => exact q.elim
    | io d => exact r.elim
    | view d => exact r.elim
  obtain ⟨ow2, J, hN2⟩ := I.ret g r2
  obtain ⟨o', ho'⟩ : ∃ o, H' a = some o := Option.isSome_iff_exists.mp h.some.1
  have eH : upd H2 a o' = H' := by
    funext b
    by_cases hb : b = a
    · subst hb; rw [upd_same, ho']
    · rw [upd_ne hb]; exact upd_ne hb
  have hold : Holds F ow2 H' a d' := by
    refine h.mono fun b hb _ => hN2 b (hM b hb).1 ?_
    cases c with
    | ro d => exact .inl ⟨d, rfl⟩
    | own d => obtain ⟨p, e, hp, np, q⟩ := r; exact .inr fun z => np (by rw [e] at z; cases z; exact hb)
    | io d => exact r.elim
    | view d => exact r.elim
  have mo' : Mut (some o') := by rw [← ho']; exact h.some.2
  obtain ⟨w2, q1, q2⟩ := J.slot j _ hc
  rw [hs] at q1; cases q1
  cases bb with
  | false =>
    obtain ⟨a', e, ha2, _⟩ := q2
    cases e
    have := J.write (o' := o') (d' := d') hs hc ha2 (by rw [eH]; exact hold)
    rw [eH] at this
    exact ⟨ow2, this⟩
  | true =>
    obtain ⟨a', e, ha2, _⟩ := q2
    cases e
    have j0 : j = 0 := I.io j _ hc
    subst j0
    have := J.writeIo (o' := o') (d' := d') hs hc ha2 mo' (by rw [eH]; exact hold)
    rw [eH] at this
    exact ⟨ow2, this⟩
theorem dats2 {ρ : Dn.Env} {c1 c2 : C} {x y : D} (h1 : dat ρ c1 = some x) (h2 : dat ρ c2 = some y) : dats ρ [c1, c2] = some [x, y] := by
  simp only [dats]; rw [h1, h2]
theorem tVar_of {Q : VK} {σ : L2.St} {H : Hp} {j : Nat} {v : V} (h : σ[j]? = some (some v)) (k : Q v H) : tVar j σ H Q := ⟨v, h, k⟩
/-- what slot j holds, ahead and behind an evaluation: one address -/
theorem slot_ref {ow : Ow} {σ : L2.St} {H : Hp} {ρ : Dn.Env} {τ : List (V × C)} {j : Nat} {bb : Bool} {d : D} (I : RSo F ow σ H ρ τ) (hc : ρ[j]? = some (some (ioCell bb d))) : ∃ a, σ[j]? = some (some (.ref a)) ∧ Holds F ow H a d ∧ ¬ F.N ow a := by
  obtain ⟨v, h1, h2⟩ := I.slot j _ hc
  cases bb with
  | true => obtain ⟨a, rfl, q1, q2⟩ := h2; exact ⟨a, h1, q2, fun z => z.2.1 q1⟩
  | false => obtain ⟨a, rfl, q1, q2⟩ := h2; exact ⟨a, h1, q2, fun z => by rw [z.1] at q1; cases q1⟩
/-- where slot j is told to hold something behind, it holds something ahead too -/
theorem callIo_of {g : D → List D → Option (C × D)} {j : Nat} {Q : VK} {σ : L2.St} {H : Hp} (hw : tD F (pCallIo g j ps) σ H Q) : tCall (SpIo F.K g) [] E0 (tCons (tVar j) (tDA F ps)) σ H Q := by
  obtain ⟨ρ, τ, c, ρ', I, e1, k⟩ := hw
  simp only [pCallIo, Option.bind_eq_some_iff] at e1
  obtain ⟨⟨b0, d0⟩, e0, ⟨cs, ρ1⟩, e1, e2⟩ := e1
  split at e2
  · rename_i hk
    simp only [Option.bind_eq_some_iff, Option.map_eq_some_iff] at e2
    obtain ⟨⟨bb, d⟩, e2, ⟨c1, d'⟩, e3, e4⟩ := e2
    cases e4
    have hc := ioData_get e2
    obtain ⟨a, ha, _⟩ : ∃ a, σ[j]? = some (some (.ref a)) ∧ True := by
      obtain ⟨ow0, I0⟩ := I
      obtain ⟨a, ha, _⟩ := slot_ref I0 (ioData_get e0)
      exact ⟨a, ha, trivial⟩
    refine ⟨.ref a, ha, ρ, τ, cs, ρ1, I, e1, fun vs H1 hl ⟨ow, I1⟩ => ?_⟩
    obtain ⟨ow2, I2, r⟩ := RSo.takeS hl hk I1
    obtain ⟨a', ha', hh, hn⟩ := slot_ref I2 hc
    rw [ha] at ha'; cases ha'
    refine ⟨F.N ow2, a, vs, d, cs.map C.d, c1, d', by simp, hn, hh, r, e3, fun v H2 M k2 hM h2 r2 => ?_⟩
    exact k v H2 (I2.callIo hc ha k2 hM h2 r2)
  · cases e2
theorem de_callIo {g : D → List D → Option (C × D)} {j : Nat} (hK : F.K = X.kw) (G : FnOk X.prog X.w X.K X.mg X.base CX0 kk f fd pss (SpIo X.kw g)) (hr : Room kk X.A) (hg : Gl X x) (hm : X.mg x = some (.ref f)) (hk : PySem.W.keepIn X.K (.ref f) = true) (hb : Binds X.K fd pss [])
    (hj : PE X e (tVar j)) (ha : PA X es (tDA F ps)) (hdb : (x == ("__debug__" : Str)) = false := by decide) (he : starEach (e :: es) X.env = (false, eval e X.env) :: starEach es X.env := by rfl) (hpl : (backTo pos (starEach es X.env)).any (·.1) = false := by rfl) :
    PE X (.Call (.Name x pp) (e :: es) [] pos) (tD F (pCallIo g j ps)) := PE.imp (pe_call G hr hg hm hk hb .nil pass0 (pa_cons hj ha he) hdb he hpl) fun σ H Q hw => by
  rw [← hK]; exact callIo_of hw
/-! ### methods that change what a slot holds -/
/-- op: what the list holds, the arguments: what it holds behind, the answer -/
def LMutS (K : KW) (r : V → List V → Hp → VK → Prop) (op : List D → List D → Option (List D × D)) : Prop :=
  ∀ (N : Addr → Prop) (H : Hp) (a : Addr) (ws : List V) (l : List D) (vs : List V) (ds : List D) (l' : List D) (t : D) (Q : VK), H a = some (.lst ws) → RepL K N H ws l → RepL K N H vs ds → op l ds = some (l', t) →
    (∀ v ws', RepL K N H ws' l' → Rep K N H v t → Q v (upd H a (.lst ws'))) → r (.ref a) vs H Q
def liftL (op : List D → List D → Option (List D × D)) (d : D) (ds : List D) : Option (C × D) := match d with
  | .lst l => (op l ds).map fun r => (.ro r.2, .lst r.1)
  | _ => none
def pMutL (op : List D → List D → Option (List D × D)) (j : Nat) (ps : PAs) : P1 := fun ρ => match ioData ρ j with
  | some (_, .lst _) => pCallIo (liftL op) j ps ρ
  | _ => none
theorem keep_upd {N : Addr → Prop} {H : Hp} {a : Addr} {ws : List V} {o : HO} (hn : ¬ N a) (h : H a = some (.lst ws)) : Keeps N H (upd H a o) := fun b u e hb => by
  have : b ≠ a := by
    rintro rfl
    rcases hb with hb | ⟨xs, rfl⟩ | ⟨ob, u, rfl⟩
    · exact hn hb
    · rw [h] at e; cases e
    · rw [h] at e; cases e
  rw [upd_ne this]; exact e
theorem mutL_of {r : V → List V → Hp → VK → Prop} {op : List D → List D → Option (List D × D)} (hs : LMutS F.K r op) {j : Nat} {Q : VK} {σ : L2.St} {H : Hp} (hw : tD F (pMutL op j ps) σ H Q) : tBM F.K "list" r (tVar j) (tDA F ps) σ H Q := by
  obtain ⟨ρ, τ, c, ρ', I, e1, k⟩ := hw
  unfold pMutL at e1
  split at e1
  · rename_i b0 l0 q0
    simp only [pCallIo, Option.bind_eq_some_iff] at e1
    obtain ⟨⟨b0, d0⟩, e0, ⟨cs, ρ1⟩, e1, e2⟩ := e1
    rw [q0] at e0
    cases e0
    split at e2
    · rename_i hk
      simp only [Option.bind_eq_some_iff, Option.map_eq_some_iff] at e2
      obtain ⟨⟨bb, d⟩, e2, ⟨c1, d1⟩, e3, e4⟩ := e2
      cases e4
      have hc := ioData_get e2
      obtain ⟨ow0, I0⟩ := I
      obtain ⟨a, ha, ⟨ws0, hws0, _⟩, _⟩ := slot_ref I0 (ioData_get q0)
      refine ⟨.ref a, ha, .inl ⟨rfl, ws0, SqL.of hws0⟩, ρ, τ, cs, ρ1, ⟨ow0, I0⟩, e1, fun vs H1 hl ⟨ow, I1⟩ => ?_⟩
      obtain ⟨ow2, I2, rr⟩ := RSo.takeS hl hk I1
      obtain ⟨a', ha', hh, hn⟩ := slot_ref I2 hc
      rw [ha] at ha'; cases ha'
      dsimp only [liftL] at e3
      split at e3
      · simp only [Option.map_eq_some_iff] at e3
        obtain ⟨⟨l', t⟩, e3, e5⟩ := e3
        cases e5
        obtain ⟨ws, hws, rl⟩ := hh
        refine hs _ _ _ _ _ _ _ _ _ _ hws rl rr e3 fun v ws' r1 r2 => ?_
        have kk : Keeps (F.N ow2) H1 (upd H1 a (.lst ws')) := keep_upd hn hws
        have nn : ∀ b, F.N ow2 b → (H1 b).isSome = true → F.N ow2 b := fun _ h _ => h
        refine k v _ (I2.callIo (M := F.N ow2) hc ha (fun b o e hb => by rw [upd_ne hb]; exact e) (fun b hb => ⟨.inl hb, fun z => hn (z ▸ hb)⟩) ⟨ws', upd_same, r1.keep kk nn⟩ (Rep.keep kk nn r2))
      · cases e3
    · cases e2
  · cases e1
variable {o : Expr} {name : Str} {apos cpos : Pos} {id : String}
/-- a list's method with arguments, without -/
theorem de_lm {r : V → List V → Hp → VK → Prop} {op : List D → List D → Option (List D × D)} {j : Nat} (hK : F.K = X.kw) (slot : Slot "list" name id) (hty : typeOf (.builtin id) = pure (.type "method_descriptor")) (hm : MtR X id r) (hs : LMutS X.kw r op)
    (ho : PE X o (tVar j)) (ha : PA X (e :: es) (tDA F ps))
    (hbase : attributeBase o name X.env (eval o X.env) = eval o X.env := by rfl)
    (hfew : ((backTo cpos (starEach (e :: es) X.env)).all (fun x => !x.1) && (backToKw cpos (keywordEach [] X.env)).all (fun x => x.1.isSome)
      && decide ((e :: es).length + ([] : List Keyword).length + (if ([] : List Keyword).isEmpty then 0 else 1) < 30)) = true := by rfl)
    (hline : (apos.endLine == cpos.line) = true := by rfl) (hs1 : starEach (e :: es) X.env = (false, eval e X.env) :: starEach es X.env := by rfl) (hplain : (backTo cpos (starEach es X.env)).any (·.1) = false := by rfl) :
    PE X (.Call (.Attribute o name apos) (e :: es) [] cpos) (tD F (pMutL op j ps)) := PE.imp (pe_bm PySem.F.plainAttrs_list slot hty hm ho ha hbase hfew hline hs1 hplain) fun σ H Q hw => by
  rw [← kK hK]; exact mutL_of (by rw [hK]; exact hs) hw
theorem de_lm0 {r : V → List V → Hp → VK → Prop} {op : List D → List D → Option (List D × D)} {j : Nat} (hK : F.K = X.kw) (slot : Slot "list" name id) (hty : typeOf (.builtin id) = pure (.type "method_descriptor")) (hm : MtR X id r) (hs : LMutS X.kw r op)
    (ho : PE X o (tVar j)) (hbase : attributeBase o name X.env (eval o X.env) = eval o X.env := by rfl) (hline : (apos.endLine == cpos.line) = true := by rfl) : PE X (.Call (.Attribute o name apos) [] [] cpos) (tD F (pMutL op j pNil)) := PE.imp (pe_bm0 PySem.F.plainAttrs_list slot hty hm ho hbase hline) fun σ H Q hw => by
  have h := mutL_of (by rw [hK]; exact hs) hw
  obtain ⟨v, hv, ty, ρ, τ, cs, ρ', I, e, k⟩ := h
  cases e
  obtain ⟨v2, hv2, ty2, ρ2, τ2, cs2, ρ2', I2, e2, k2⟩ := mutL_of (by rw [hK]; exact hs) hw
  cases e2
  refine ⟨v, hv, by rw [← kK hK]; exact ty, ?_⟩
  exact k [] H rfl I
def opAppend (l ds : List D) : Option (List D × D) := match ds with
  | [y] => if decide (l.length < sizeLine) = true then some (l ++ [y], .non) else none
  | _ => none
theorem s_append {K : KW} : LMutS K rAppend opAppend := by
  intro N H a ws l vs ds l' t Q h rl rd e k
  unfold opAppend at e
  split at e
  · split at e
    · rename_i hz
      cases e
      cases rd with
      | cons r1 r => cases r; exact ⟨a, ws, _, rfl, rfl, h, by rw [rl.length]; exact of_decide_eq_true hz, k .non _ (rl.append (.cons r1 .nil)) .non⟩
    · cases e
  · cases e
def opPop (l ds : List D) : Option (List D × D) := match ds with
  | [] => (l[l.length - 1]?).map fun y => (l.dropLast, y)
  | _ => none
theorem dropLast_rep {K : KW} {N : Addr → Prop} {H : Hp} {vs : List V} {ds : List D} (r : RepL K N H vs ds) : RepL K N H vs.dropLast ds.dropLast := by
  rw [List.dropLast_eq_take, List.dropLast_eq_take, r.length]; exact r.take _
theorem s_pop {K : KW} : LMutS K rPop opPop := by
  intro N H a ws l vs ds l' t Q h rl rd e k
  unfold opPop at e
  split at e
  · simp only [Option.map_eq_some_iff] at e
    obtain ⟨y, e, e2⟩ := e
    cases e2
    cases rd
    obtain ⟨w, h1, h2⟩ := rl.get' e
    exact ⟨a, ws, w, rfl, rfl, h, by rw [rl.length]; exact h1, k w _ (dropLast_rep rl) h2⟩
  · cases e
def opPopAt (l ds : List D) : Option (List D × D) := match ds with
  | [.int i] => if (decide (0 ≤ i) && decide (i.natAbs < 2 ^ 62)) = true then (l[i.toNat]?).map fun y => (l.eraseIdx i.toNat, y) else none
  | _ => none
theorem s_popAt {K : KW} : LMutS K rPopAt opPopAt := by
  intro N H a ws l vs ds l' t Q h rl rd e k
  unfold opPopAt at e
  split at e
  · split at e
    · rename_i i hz
      simp only [Bool.and_eq_true, decide_eq_true_eq] at hz
      simp only [Option.map_eq_some_iff] at e
      obtain ⟨y, e, e2⟩ := e
      cases e2
      cases rd with
      | cons r1 r =>
        cases r
        cases r1
        obtain ⟨w, h1, h2⟩ := rl.get' e
        have hlt : i.toNat < ws.length := (List.getElem?_eq_some_iff.mp h1).1
        refine ⟨a, ws, i, i.toNat, w, rfl, rfl, h, by omega, by omega, ?_, h1, k w _ (rl.eraseIdx _) h2⟩
        exact seqIndex_of hz.1 (by omega)
    · cases e
  · cases e
def opInsert (l ds : List D) : Option (List D × D) := match ds with
  | [.int i, y] => if (decide (0 ≤ i) && decide (i.natAbs < 2 ^ 62) && decide (l.length < sizeLine)) = true then some (l.take i.toNat ++ [y] ++ l.drop i.toNat, .non) else none
  | _ => none
theorem s_insert {K : KW} : LMutS K (fun x vs H Q => ∃ (l : Addr) (xs : List V) (i : Int) (y : V), x = .ref l ∧ vs = [.int i, y] ∧ H l = some (.lst xs) ∧ xs.length < sizeLine ∧ 0 ≤ i ∧ i < 2 ^ 63 ∧
    Q .non (upd H l (.lst (xs.take i.toNat ++ [y] ++ xs.drop i.toNat)))) opInsert := by
  intro N H a ws l vs ds l' t Q h rl rd e k
  unfold opInsert at e
  split at e
  · split at e
    · rename_i i y hz
      cases e
      simp only [Bool.and_eq_true, decide_eq_true_eq] at hz
      cases rd with
      | cons r1 r =>
        cases r with
        | cons r2 r =>
          cases r
          cases r1
          exact ⟨a, ws, i, _, rfl, rfl, h, by rw [rl.length]; exact hz.2, hz.1.1, by omega, k .non _ (((rl.take _).append (.cons r2 .nil)).append (rl.drop _)) .non⟩
    · cases e
  · cases e
def opExtend (l ds : List D) : Option (List D × D) := match ds with
  | [.lst ys] => if szOk (l.length + ys.length) = true then some (l ++ ys, .non) else none
  | _ => none
theorem s_extend {K : KW} : LMutS K rExtend opExtend := by
  intro N H a ws l vs ds l' t Q h rl rd e k
  unfold opExtend at e
  split at e
  · split at e
    · rename_i ys hz
      cases e
      cases rd with
      | cons r1 r =>
        cases r
        cases r1 with
        | lst n hb rb => exact ⟨a, _, ws, _, rfl, rfl, h, hb, by rw [rl.length, rb.length]; exact szOk_le hz, k .non _ (rl.append rb) .non⟩
    · cases e
  · cases e
/-! ### xs[i] = e, xs[i] += e -/
def sSetIx (j : Nat) (p pi : P1) : S1 := fun ρ => (p ρ).bind fun a => (cap a.1 a.2).bind fun b => (ioData b.2 j).bind fun _ => (pi b.2).bind fun i => (ioData i.2 j).bind fun d => match i.1, d.2 with
  | .ro (.int k), .lst l => (ixN l.length k).map fun m => .nx (i.2.set j (some (ioCell d.1 (.lst (l.set m b.1.d)))))
  | _, _ => none
theorem RSo.setItem {ow : Ow} {σ : L2.St} {H : Hp} {ρ : Dn.Env} {τ : List (V × C)} {j : Nat} {bb : Bool} {l l' : List D} {ws ws' : List V} {a : Addr} (I : RSo F ow σ H ρ τ) (hc : ρ[j]? = some (some (ioCell bb (.lst l)))) (hs : σ[j]? = some (some (.ref a)))
    (ha : H a = some (.lst ws)) (r : RepL F.K (F.N ow) H ws' l') (hn : ¬ F.N ow a) : ∃ ow', RSo F ow' σ (upd H a (.lst ws')) (ρ.set j (some (ioCell bb (.lst l')))) τ := by
  have kk : Keeps (F.N ow) H (upd H a (.lst ws')) := keep_upd hn ha
  have nn : ∀ b, F.N ow b → (H b).isSome = true → F.N ow b := fun _ h _ => h
  obtain ⟨ow', J⟩ := I.callIo (v := .non) (c := .ro .non) (M := F.N ow) (d' := .lst l') hc hs (fun b o e hb => by rw [upd_ne hb]; exact e) (fun b hb => ⟨.inl hb, fun z => hn (z ▸ hb)⟩) ⟨ws', upd_same, r.keep kk nn⟩ .non
  exact ⟨_, J.pop⟩
theorem RSo.int_top {ow : Ow} {σ : L2.St} {H : Hp} {ρ : Dn.Env} {τ : List (V × C)} {v : V} {k : Int} (I : RSo F ow σ H ρ ((v, .ro (.int k)) :: τ)) : v = .int k := by
  have := I.tmp.1; cases this; rfl
theorem ds_setIx {j : Nat} {oe ie : Expr} {spos : Pos} {pi : P1} (he : PE X e (tD F p)) (ho : PE X oe (tVar j)) (hi : PE X ie (tD F pi)) (hs : swapsWithSole [.Subscript oe ie spos] e pos.line X.env = pure false := by rfl) (hw : swappedStores [.Subscript oe ie spos] e X.env = pure none := by rfl)
    (h1 : (assignEach [.Subscript oe ie spos] X.env).map (·.2) = [assign (.Subscript oe ie spos) X.env] := by rfl)
    (hsub : ∀ v, assign (.Subscript oe ie spos) X.env v = (do
      let ov ← holding [v] (eval oe X.env)
      let iv ← holding [v, ov] (eval ie X.env)
      standAt spos
      holding [v, ov, iv] (setItem ov iv v)
      release [v, ov, iv] []) := by intro _; rfl) : PS X (.Assign [.Subscript oe ie spos] e pos) (tDS F [] (sSetIx j p pi)) := PS.imp (ps_asg he (pg_sub ho hi set_list hsub) hs hw h1) fun D σ H hw => by
  obtain ⟨ρ, τ, o, I, nv, e1, k⟩ := hw
  simp only [sSetIx, Option.bind_eq_some_iff] at e1
  obtain ⟨⟨c, ρ1⟩, e1, ⟨c2, ρ2⟩, e2, ⟨b0, d0⟩, e0, ⟨ci, ρ3⟩, e3, ⟨bb, d⟩, e4, e5⟩ := e1
  refine ⟨ρ, τ, c, ρ1, I, e1, fun v H1 ⟨ow, I1⟩ => ?_⟩
  obtain ⟨⟨ow2, I2⟩, nv2⟩ := I1.cap e2
  obtain ⟨a, ha, _⟩ := slot_ref I2 (ioData_get e0)
  refine ⟨.ref a, ha, ρ2, _, ci, ρ3, ⟨ow2, I2⟩, e3, fun iv H2 ⟨ow3, I3⟩ => ?_⟩
  dsimp only at e5
  split at e5
  · simp only [Option.map_eq_some_iff] at e5
    obtain ⟨m, e6, e7⟩ := e5
    cases e7
    have := I3.int_top; subst this
    have I4 := I3.pop
    have rv := RepC.pop I4 nv2
    have I5 := I4.pop
    generalize drop _ (.inr τ.length) = ow5 at I5 rv
    obtain ⟨a', ha', ⟨ws, hws, rl⟩, hn⟩ := slot_ref I5 (ioData_get e4)
    rw [ha] at ha'; cases ha'
    refine ⟨a, ws, _, m, rfl, rfl, hws, by rw [rl.length]; exact e6, ?_⟩
    exact k σ _ (fun _ _ => rfl) (I5.setItem (ioData_get e4) ha hws (rl.set rv m) hn)
  · cases e5
theorem get_list : PGet X (rIxL X.K) := by
  intro pins s σ H x y v u Q I rx ry h
  obtain ⟨p, xs, i, z, rfl, rfl, hq, he, q⟩ := h
  cases rx
  obtain ⟨t, rfl⟩ := ry
  obtain ⟨its, r, pl, hz⟩ := I.list hq
  obtain ⟨j, h1, h2, h3, h4, h5⟩ := atI_get he
  obtain ⟨w, ew, rw'⟩ := r.get h2
  have hl := r.length
  have hn := line63
  have fin : EP X pins σ Q w s := ⟨z, H, I, rw', q⟩
  by_cases h0 : 0 ≤ i
  · have hj : i.toNat = j := by
      rw [seqIndex_of h0 h5] at h1
      exact Option.some.inj h1
    exact wpAny_getItem_list pl.isList h0 (by omega) (by rw [hj]; simpa using ew) fin
  · have hj : (i + (its.toArray.size : Int)).toNat = j := by
      rw [seqIndex_neg (by omega) h4] at h1
      rw [List.size_toArray, ← hl]
      exact Option.some.inj h1
    exact wpAny_getItem_list_neg pl.isList (by omega) (by rw [List.size_toArray] <;> omega) (by omega) (by rw [hj]; simpa using ew) fin
/-- op: what stands there and the value: what stands there behind -/
def sAugIx (f : D → D → Option C) (j : Nat) (pi p : P1) : S1 := fun ρ => (ioData ρ j).bind fun _ => (pi ρ).bind fun i => (ioData i.2 j).bind fun d => match i.1, d.2 with
  | .ro (.int k), .lst l => (atI l k).bind fun x => (p i.2).bind fun b => (dat b.2 b.1).bind fun y => (f x y).bind fun c => (ioData b.2 j).bind fun d2 => match c, d2.2 with
    | .ro z, .lst l2 => (ixN l2.length k).map fun m => .nx (b.2.set j (some (ioCell d2.1 (.lst (l2.set m z)))))
    | _, _ => none
  | _, _ => none
theorem ds_augIx {j : Nat} {oe ie : Expr} {tpos : Pos} {pi : P1} {op : Operator} {r : R2} {f : D → D → Option C} (hK : F.K = X.kw) (hop : OpR X (inplaceOp op) r) (hf : Op2S F.K r f) (ho : PE X oe (tVar j)) (hi : PE X ie (tD F pi)) (he : PE X e (tD F p))
    (hsub : ∀ ov iv new, augStore ie ov iv new = (do holding [new, ov, iv] (setItem ov iv new); release [new, ov, iv] []; pure .next) := by intros; rfl) : PS X (.AugAssign (.Subscript oe ie tpos) op e pos) (tDS F [] (sAugIx f j pi p)) := PS.imp (ps_augS ho hi get_list he hop set_list hsub) fun D σ H hw => by
  obtain ⟨ρ, τ, o, I, nv, e1, k⟩ := hw
  simp only [sAugIx, Option.bind_eq_some_iff] at e1
  obtain ⟨⟨b0, d0⟩, e0, ⟨ci, ρ1⟩, e1, ⟨bb, d⟩, e2, e3⟩ := e1
  obtain ⟨a, ha⟩ : ∃ a, σ[j]? = some (some (.ref a)) := by
    obtain ⟨ow0, I0⟩ := I
    obtain ⟨a, ha, _⟩ := slot_ref I0 (ioData_get e0)
    exact ⟨a, ha⟩
  refine ⟨.ref a, ha, ρ, τ, ci, ρ1, I, e1, fun iv H1 ⟨ow1, I1⟩ => ?_⟩
  dsimp only at e3
  split at e3
  · simp only [Option.bind_eq_some_iff] at e3
    obtain ⟨x, e3, ⟨cy, ρ2⟩, e4, y, e5, c, e6, ⟨b2, d2⟩, e7, e8⟩ := e3
    have := I1.int_top; subst this
    have I2 := I1.pop
    generalize drop _ _ = ow2 at I2
    obtain ⟨a', ha', ⟨ws, hws, rl⟩, hn⟩ := slot_ref I2 (ioData_get e2)
    rw [ha] at ha'; cases ha'
    obtain ⟨w, hw1, hw2⟩ := atI_rep rl e3
    refine ⟨a, ws, _, w, rfl, rfl, SqL.of hws, hw1, ?_⟩
    refine ⟨ρ1, _, cy, ρ2, ⟨ow2, I2.push hw2⟩, e4, fun v H2 ⟨ow3, I3⟩ => ?_⟩
    obtain ⟨ow4, I4, rx⟩ := RSo.take (vs := [w, v]) (cs := [.ro x, cy]) rfl I3
    have rr := rx [x, y] (dats2 rfl e5)
    cases rr with
    | cons r1 rr =>
      cases rr with
      | cons r2 _ =>
        refine hf _ _ _ _ _ _ _ _ r1 r2 e6 fun v' H' g rt => ?_
        obtain ⟨ow5, I5, _⟩ := I4.ret g rt
        dsimp only at e8
        split at e8
        · simp only [Option.map_eq_some_iff] at e8
          obtain ⟨m, e9, e10⟩ := e8
          cases e10
          have rv := RepC.pop I5 (fun _ z => by cases z)
          have I6 := I5.pop
          generalize drop _ (.inr τ.length) = ow6 at I6 rv
          obtain ⟨a', ha', ⟨ws2, hws2, rl2⟩, hn2⟩ := slot_ref I6 (ioData_get e7)
          rw [ha] at ha'; cases ha'
          refine ⟨a, ws2, _, m, rfl, rfl, hws2, by rw [rl2.length]; exact e9, ?_⟩
          exact k σ _ (fun _ _ => rfl) (I6.setItem (ioData_get e7) ha hws2 (rl2.set rv m) hn2)
        · cases e8
  · cases e3
/-- x += e -/
def sAug (f : D → D → Option C) (i : Nat) (p : P1) : S1 := fun ρ => match ρ[i]? with
  | some (some (.ro x)) => (p ρ).bind fun b => (dat b.2 b.1).bind fun y => (f x y).bind fun c => (setE i c b.2).map .nx
  | _ => none
theorem ds_aug {i : Nat} {x : Str} {op : Operator} {pos' : Pos} {r : R2} {f : D → D → Option C} (hop : OpR X (inplaceOp op) r) (hf : Op2S F.K r f) (hc0 : ∀ x y c, f x y = some c → ∃ d, c = .ro d) (hN : X.N.Nodup) (hi : X.N[i]? = some x) (hx : Loc X.env.scope x) (he : PE X e (tD F p)) (hff : X.fn x = true ∨ X.env.scope.names.lookup x = some .local := by first | exact .inl rfl | exact .inr rfl | assumption) :
    PS X (.AugAssign (.Name x pos') op e pos) (tDS F [i] (sAug f i p)) := PS.imp (ps_aug hN hi hx he hop hff) fun D σ H hw => by
  obtain ⟨ρ, τ, o, I, nv, e1, k⟩ := hw
  unfold sAug at e1
  split at e1
  · rename_i dx q
    simp only [Option.bind_eq_some_iff, Option.map_eq_some_iff] at e1
    obtain ⟨⟨cy, ρ2⟩, e4, y, e5, c, e6, ρ3, e7, e8⟩ := e1
    cases e8
    obtain ⟨ow, I⟩ := I
    obtain ⟨w, hw1, hw2⟩ := I.slot i _ q
    refine ⟨w, hw1, ρ, _, cy, ρ2, ⟨ow, I.push hw2⟩, e4, fun v H2 ⟨ow3, I3⟩ => ?_⟩
    obtain ⟨ow4, I4, rx⟩ := RSo.take (vs := [w, v]) (cs := [.ro dx, cy]) rfl I3
    have rr := rx [dx, y] (dats2 rfl e5)
    cases rr with
    | cons r1 rr =>
      cases rr with
      | cons r2 _ =>
        refine hf _ _ _ _ _ _ _ _ r1 r2 e6 fun v' H' g rt => ?_
        obtain ⟨ow5, I5, _⟩ := I4.ret g rt
        obtain ⟨dz, rfl⟩ := hc0 _ _ _ e6
        unfold setE at e7
        split at e7
        · rename_i hlt
          cases e7
          obtain ⟨ow6, I6⟩ := I5.bind hlt
          exact k _ _ (fun j hj => List.getElem?_set_ne (fun z => hj (List.mem_singleton.mpr z.symm))) ⟨ow6, I6⟩
        · cases e7
  · cases e1
/-! ### comprehensions as expressions and as stored at once -/
section
variable {elt tg iter : Expr} {ifs : List Expr} {scope : Scope} {own : List (Str × Nat)} {vs : List Nat} {it : I1} {bb : B1} {q : PT1}
theorem de_lc (hc : X.calm = true) (hN : X.N.Nodup) (hi : PI X tg iter (tDI F it)) (ok : BlkOk X.N X.env.scope scope own)
    (hg : ∀ (s : Shared) (H : Hp) (C : Addr) (cl : List (Str × Addr)) (fp : List Addr), PG (X.blk s H scope (compEnvC scope cl C X.env) fp) tg (tDG F W bb)) (ht : ∀ (s : Shared) (H : Hp) (C : Addr) (cl : List (Str × Addr)) (fp : List Addr), PTs (X.blk s H scope (compEnvC scope cl C X.env) fp) ifs (tDT F q))
    (he : ∀ (s : Shared) (H : Hp) (C : Addr) (cl : List (Str × Addr)) (fp : List Addr), PE (X.blk s H scope (compEnvC scope cl C X.env) fp) elt (tD F p)) (hW : ∀ i ∈ W, i ∈ vs) (hvs : own.map (·.2) = vs := by rfl) (hs : ∀ x, foldedSetIterable iter X.env x = pure x := by intro _; rfl) :
    PE X (.ListComp elt [⟨tg, iter, ifs, 0⟩] scope pos) (tD F (pLc it vs bb q p)) := PE.imp (pe_lc hc hN hi ok hg ht he hs) fun _ _ _ => by rw [hvs]; exact lc_of hW
theorem ds_setLc {i : Nat} {y : Str} {py spos : Pos} (hc : X.calm = true) (hN : X.N.Nodup) (hy : X.N[i]? = some y) (hyl : X.env.scope.names.lookup y = some .local)
    (hsw : swapsWith (.ListComp elt [⟨tg, iter, ifs, 0⟩] scope pos) (some (.Name y py)) spos.line X.env = pure true) (hi : PI X tg iter (tDI F it)) (ok : BlkOk X.N X.env.scope scope own)
    (hg : ∀ (s : Shared) (H : Hp) (C : Addr) (cl : List (Str × Addr)) (fp : List Addr), PG (X.blk s H scope (compEnvC scope cl C X.env) fp) tg (tDG F W bb)) (ht : ∀ (s : Shared) (H : Hp) (C : Addr) (cl : List (Str × Addr)) (fp : List Addr), PTs (X.blk s H scope (compEnvC scope cl C X.env) fp) ifs (tDT F q))
    (he : ∀ (s : Shared) (H : Hp) (C : Addr) (cl : List (Str × Addr)) (fp : List Addr), PE (X.blk s H scope (compEnvC scope cl C X.env) fp) elt (tD F p)) (hW : ∀ i ∈ W, i ∈ vs) (hvs : own.map (·.2) = vs := by rfl) (hs : ∀ x, foldedSetIterable iter X.env x = pure x := by intro _; rfl) :
    PS X (.Assign [.Name y py] (.ListComp elt [⟨tg, iter, ifs, 0⟩] scope pos) spos) (tDS F [i] (sSet i (pLc it vs bb q p))) := PS.imp (ps_setLc hc hN hy hyl hsw hi ok hg ht he hs) fun _ _ _ => set_of fun _ _ _ => by rw [hvs]; exact lc_of hW
end
end
end Dn

namespace Dn
open PySem PySem.Spec PyProof.Rows L2 RZ
/-! ### zip, enumerate -/
def zipD (xs ys : List D) : List D := List.zipWith (fun x y => D.wtp [x, y]) xs ys
def D.isTup : D → Bool
  | .tup _ => true
  | _ => false
def D.isLst : D → Bool
  | .lst _ => true
  | .scr _ => true
  | _ => false
def iZip (ps : PAs) : I1 := fun ρ => (ps ρ).bind fun a => match a.1 with
  | [c1, c2] => if (c1.kept && c2.kept && (c1.d.isLst && c2.d.isLst || c1.d.isTup && c2.d.isTup)) = true then (D.items c1.d).bind fun xs => (D.items c2.d).map fun ys => (zipD xs ys, a.2) else none
  | _ => none
def enumD (n : Nat) (xs : List D) : List D := match xs with
  | [] => []
  | x :: xs => .wtp [.int n, x] :: enumD (n + 1) xs
def iEnum (ps : PAs) : I1 := fun ρ => (ps ρ).bind fun a => match a.1 with
  | [c1] => if (c1.kept && c1.d.isLst) = true then (D.items c1.d).map fun xs => (enumD 0 xs, a.2) else none
  | _ => none
theorem enum_get : ∀ (xs : List D) (n i : Nat), (enumD n xs)[i]? = (xs[i]?).map fun x => D.wtp [.int ((n + i : Nat) : Int), x]
  | [], _, _ => rfl
  | x :: xs, n, 0 => rfl
  | x :: xs, n, i + 1 => by
    show (enumD (n + 1) xs)[i]? = _
    rw [enum_get xs (n + 1) i]
    simp only [List.getElem?_cons_succ]
    congr 1
    funext y
    rw [show n + 1 + i = n + (i + 1) by omega]
section
variable {X : Cx} {F : Fr} {e a b : Expr} {pos : Pos} {ps : PAs}
theorem kept_nv {c : C} (h : c.kept = true) : ∀ j, c ≠ .view j := fun j z => by subst z; exact absurd h Bool.false_ne_true
theorem sq_lst {F : Fr} {ow : Ow} {σ : L2.St} {H : Hp} {ρ : Dn.Env} {τ : List (V × C)} {v : V} {c : C} {ds : List D} (I : RSo F ow σ H ρ τ) {id : Sum Nat Nat} (h : RepC F ow id σ ρ H v c) (hk : c.kept = true) (e : D.items c.d = some ds) (hl : c.d.isLst = true) : ∃ a, v = .ref a ∧ ∃ vs, RepL F.K (F.N ow) H vs ds ∧ SqL F.K H a vs := by
  obtain ⟨a, ev, vs, r, hq⟩ := items_at I h (kept_nv hk) e
  refine ⟨a, ev, vs, r, ?_⟩
  rcases hq with ⟨h, _⟩ | ⟨_, es, z⟩
  · exact h
  · rw [z] at hl; cases hl
theorem sq_tup {F : Fr} {ow : Ow} {σ : L2.St} {H : Hp} {ρ : Dn.Env} {τ : List (V × C)} {v : V} {c : C} {ds : List D} (I : RSo F ow σ H ρ τ) {id : Sum Nat Nat} (h : RepC F ow id σ ρ H v c) (hk : c.kept = true) (e : D.items c.d = some ds) (hl : c.d.isTup = true) : ∃ a, v = .ref a ∧ ∃ vs, RepL F.K (F.N ow) H vs ds ∧ SqT F.K H a vs := by
  obtain ⟨a, ev, vs, r, hq⟩ := items_at I h (kept_nv hk) e
  refine ⟨a, ev, vs, r, ?_⟩
  rcases hq with ⟨_, z⟩ | ⟨h, _⟩
  · cases q : c.d with
    | tup es => exact absurd q (z es)
    | _ => rw [q] at hl; cases hl
  · exact h
theorem deep1 {F : Fr} {ow : Ow} {σ : L2.St} {H : Hp} {ρ : Dn.Env} {τ us : List (V × C)} {t : V × C} (I : RSo F ow σ H ρ (us ++ t :: τ)) : RepC F ow (.inr τ.length) σ ρ H t.1 t.2 := Tmps.deep I.tmp
theorem zip_get {xs ys : List D} {i : Nat} {x y : D} (h1 : xs[i]? = some x) (h2 : ys[i]? = some y) : (zipD xs ys)[i]? = some (.wtp [x, y]) := by
  unfold zipD; rw [List.getElem?_zipWith, h1, h2]
theorem zip_len (xs ys : List D) : (zipD xs ys).length = min xs.length ys.length := by unfold zipD; rw [List.length_zipWith]
/-- a pair is laid -/
theorem pair_laid {F : Fr} {ow : Ow} {σ : L2.St} {H : Hp} {ρ : Dn.Env} {τ : List (V × C)} {T : Addr} {x y : V} {dx dy : D} (I : RSo F ow σ H ρ τ) (hT : H T = none) (rx : Rep F.K (F.N ow) H x dx) (ry : Rep F.K (F.N ow) H y dy) : RS F σ (upd H T (.tup [x, y])) ρ ((.ref T, .ro (.wtp [dx, dy])) :: τ) := by
  have r : RepL F.K (F.N ow) H [x, y] [dx, dy] := .cons rx (.cons ry .nil)
  obtain ⟨ow2, I2, _⟩ := I.ret (H' := upd H T (.tup [x, y])) (v := .ref T) (c := .ro (.wtp [dx, dy])) (Same.new hT) (.wtp (SqT.of upd_same) ((new_keep hT r).mono fun b h _ => h.1))
  exact ⟨ow2, I2⟩
theorem walk_zipL {F : Fr} {v1 v2 : V} {c1 c2 : C} {a b : Addr} {xs ys : List D} (k1 : c1.kept = true) (k2 : c2.kept = true) (e1 : v1 = .ref a) (e2 : v2 = .ref b) (i1 : D.items c1.d = some xs) (i2 : D.items c2.d = some ys) (l1 : c1.d.isLst = true) (l2 : c2.d.isLst = true) : Walk F (Itz F.K a b) [(v2, c2), (v1, c1)] (zipD xs ys) := by
  have rd : ∀ {ow : Ow} {σ : L2.St} {H : Hp} {ρ : Dn.Env} {us τ : List (V × C)}, RSo F ow σ H ρ (us ++ ([(v2, c2), (v1, c1)] ++ τ)) → (∃ vs, RepL F.K (F.N ow) H vs xs ∧ SqL F.K H a vs) ∧ ∃ ws, RepL F.K (F.N ow) H ws ys ∧ SqL F.K H b ws := fun {ow σ H ρ us τ} I => by
    have q2 := deep1 (us := us) (t := (v2, c2)) (τ := (v1, c1) :: τ) I
    have I' : RSo F ow σ H ρ ((us ++ [(v2, c2)]) ++ (v1, c1) :: τ) := by simpa using I
    have q1 := deep1 I'
    obtain ⟨a', z1, vs, r1, h1⟩ := sq_lst I q1 k1 i1 l1
    obtain ⟨b', z2, ws, r2, h2⟩ := sq_lst I q2 k2 i2 l2
    have z1 : v1 = .ref a' := z1
    have z2 : v2 = .ref b' := z2
    rw [e1] at z1; cases z1
    rw [e2] at z2; cases z2
    exact ⟨⟨vs, r1, h1⟩, ws, r2, h2⟩
  refine ⟨fun i σ H ρ us τ hi ⟨ow, I⟩ => ?_, fun i σ H ρ us τ hi ⟨ow, I⟩ => ?_, fun i σ H ρ us τ x H' hi ⟨ow, I⟩ y => ?_⟩
  · obtain ⟨⟨vs, r1, h1⟩, ws, r2, h2⟩ := rd I
    rw [zip_len] at hi
    have l1 := r1.length
    have l2 := r2.length
    exact ⟨vs, ws, vs[i]'(by omega), ws[i]'(by omega), h1, h2, by simp, by simp⟩
  · obtain ⟨⟨vs, r1, h1⟩, ws, r2, h2⟩ := rd I
    rw [zip_len] at hi
    have l1 := r1.length
    have l2 := r2.length
    exact ⟨vs, ws, h1, h2, by omega⟩
  · obtain ⟨⟨vs, r1, h1⟩, ws, r2, h2⟩ := rd I
    obtain ⟨T, x1, y1, rfl, hT, rfl, q1, q2⟩ := y
    obtain ⟨dx, g1, g2⟩ := r1.get (q1 vs h1)
    obtain ⟨dy, g3, g4⟩ := r2.get (q2 ws h2)
    exact ⟨_, zip_get g1 g3, pair_laid I hT g2 g4⟩
theorem walk_zipT {F : Fr} {v1 v2 : V} {c1 c2 : C} {a b : Addr} {xs ys : List D} (k1 : c1.kept = true) (k2 : c2.kept = true) (e1 : v1 = .ref a) (e2 : v2 = .ref b) (i1 : D.items c1.d = some xs) (i2 : D.items c2.d = some ys) (l1 : c1.d.isTup = true) (l2 : c2.d.isTup = true) : Walk F (ItzT F.K a b) [(v2, c2), (v1, c1)] (zipD xs ys) := by
  have rd : ∀ {ow : Ow} {σ : L2.St} {H : Hp} {ρ : Dn.Env} {us τ : List (V × C)}, RSo F ow σ H ρ (us ++ ([(v2, c2), (v1, c1)] ++ τ)) → (∃ vs, RepL F.K (F.N ow) H vs xs ∧ SqT F.K H a vs) ∧ ∃ ws, RepL F.K (F.N ow) H ws ys ∧ SqT F.K H b ws := fun {ow σ H ρ us τ} I => by
    have q2 := deep1 (us := us) (t := (v2, c2)) (τ := (v1, c1) :: τ) I
    have I' : RSo F ow σ H ρ ((us ++ [(v2, c2)]) ++ (v1, c1) :: τ) := by simpa using I
    have q1 := deep1 I'
    obtain ⟨a', z1, vs, r1, h1⟩ := sq_tup I q1 k1 i1 l1
    obtain ⟨b', z2, ws, r2, h2⟩ := sq_tup I q2 k2 i2 l2
    have z1 : v1 = .ref a' := z1
    have z2 : v2 = .ref b' := z2
    rw [e1] at z1; cases z1
    rw [e2] at z2; cases z2
    exact ⟨⟨vs, r1, h1⟩, ws, r2, h2⟩
  refine ⟨fun i σ H ρ us τ hi ⟨ow, I⟩ => ?_, fun i σ H ρ us τ hi ⟨ow, I⟩ => ?_, fun i σ H ρ us τ x H' hi ⟨ow, I⟩ y => ?_⟩
  · obtain ⟨⟨vs, r1, h1⟩, ws, r2, h2⟩ := rd I
    rw [zip_len] at hi
    have l1 := r1.length
    have l2 := r2.length
    exact ⟨vs, ws, vs[i]'(by omega), ws[i]'(by omega), h1, h2, by simp, by simp⟩
  · obtain ⟨⟨vs, r1, h1⟩, ws, r2, h2⟩ := rd I
    rw [zip_len] at hi
    have l1 := r1.length
    have l2 := r2.length
    exact ⟨vs, ws, h1, h2, by omega⟩
  · obtain ⟨⟨vs, r1, h1⟩, ws, r2, h2⟩ := rd I
    obtain ⟨T, x1, y1, rfl, hT, rfl, q1, q2⟩ := y
    obtain ⟨dx, g1, g2⟩ := r1.get (q1 vs h1)
    obtain ⟨dy, g3, g4⟩ := r2.get (q2 ws h2)
    exact ⟨_, zip_get g1 g3, pair_laid I hT g2 g4⟩
theorem di_zip {e2 : Expr} {p tpos : Pos} {elts : List Expr} {kk : Nat} (hK : F.K = X.kw) (hg : Gl X "zip") (hm : X.mg "zip" = none) (ha : PA X [e, e2] (tDA F ps))
    (hs : starEach [e, e2] X.env = (false, eval e X.env) :: starEach [e2] X.env := by rfl) (hpl : (backTo pos (starEach [e2] X.env)).any (·.1) = false := by rfl) : PI X (.Tuple elts kk tpos) (.Call (.Name "zip" p) [e, e2] [] pos) (tDI F (iZip ps)) := PI.imp (pi_zipA hg hm ha hs hpl) fun σ H R hw => by
  obtain ⟨ρ, τ, ds, ρ', I, e1, k⟩ := hw
  simp only [iZip, Option.bind_eq_some_iff] at e1
  obtain ⟨⟨cs, ρ1⟩, e1, e2⟩ := e1
  refine ⟨ρ, τ, cs, ρ1, I, e1, fun vs H1 hl ⟨ow, I1⟩ => ?_⟩
  split at e2
  · rename_i c1 c2 q
    have q : cs = [c1, c2] := q
    subst q
    split at e2
    · rename_i hk
      simp only [Option.bind_eq_some_iff, Option.map_eq_some_iff] at e2
      obtain ⟨xs, i1, ys, i2, e3⟩ := e2
      cases e3
      simp only [Bool.and_eq_true, Bool.or_eq_true] at hk
      obtain ⟨⟨k1, k2⟩, kl⟩ := hk
      match vs, hl with
      | [v1, v2], _ =>
        have I1 : RSo F ow σ H1 _ ([] ++ ([(v2, c2), (v1, c1)] ++ τ)) := I1
        have nt : NoV [(v2, c2), (v1, c1)] := fun t ht j => by
          simp only [List.mem_cons, List.not_mem_nil, or_false] at ht
          rcases ht with rfl | rfl
          · exact kept_nv k2 j
          · exact kept_nv k1 j
        rw [← kK hK]
        have q2 := I1.tmp.1
        have q1 := I1.tmp.2.1
        rcases kl with ⟨l1, l2⟩ | ⟨l1, l2⟩
        · obtain ⟨a, z1, us, r1, h1⟩ := sq_lst I1 q1 k1 i1 l1
          obtain ⟨b, z2, ws, r2, h2⟩ := sq_lst I1 q2 k2 i2 l2
          have z1 : v1 = .ref a := z1
          have z2 : v2 = .ref b := z2
          refine ⟨a, b, us, ws, by rw [z1, z2], .inl ⟨h1, h2, k _ _ H1 (walk_zipL k1 k2 z1 z2 i1 i2 l1 l2) nt ⟨ow, I1⟩⟩⟩
        · obtain ⟨a, z1, us, r1, h1⟩ := sq_tup I1 q1 k1 i1 l1
          obtain ⟨b, z2, ws, r2, h2⟩ := sq_tup I1 q2 k2 i2 l2
          have z1 : v1 = .ref a := z1
          have z2 : v2 = .ref b := z2
          refine ⟨a, b, us, ws, by rw [z1, z2], .inr ⟨h1, h2, k _ _ H1 (walk_zipT k1 k2 z1 z2 i1 i2 l1 l2) nt ⟨ow, I1⟩⟩⟩
    · cases e2
  · cases e2
theorem di_enum {p tpos : Pos} {elts : List Expr} {kk : Nat} (hK : F.K = X.kw) (hg : Gl X "enumerate") (hm : X.mg "enumerate" = none) (ha : PA X [e] (tDA F ps)) (hs : starEach [e] X.env = [(false, eval e X.env)] := by rfl) : PI X (.Tuple elts kk tpos) (.Call (.Name "enumerate" p) [e] [] pos) (tDI F (iEnum ps)) := PI.imp (pi_enum hg hm ha hs) fun σ H R hw => by
  obtain ⟨ρ, τ, ds, ρ', I, e1, k⟩ := hw
  simp only [Dn.iEnum, Option.bind_eq_some_iff] at e1
  obtain ⟨⟨cs, ρ1⟩, e1, e2⟩ := e1
  refine ⟨ρ, τ, cs, ρ1, I, e1, fun vs H1 hl ⟨ow, I1⟩ => ?_⟩
  split at e2
  · rename_i c1 q
    have q : cs = [c1] := q
    subst q
    split at e2
    · rename_i hk
      simp only [Option.map_eq_some_iff] at e2
      obtain ⟨xs, i1, e3⟩ := e2
      cases e3
      simp only [Bool.and_eq_true] at hk
      obtain ⟨k1, l1⟩ := hk
      match vs, hl with
      | [v1], _ =>
        have I1 : RSo F ow σ H1 _ ((v1, c1) :: τ) := I1
        have nt : NoV [(v1, c1)] := fun t ht j => by
          simp only [List.mem_cons, List.not_mem_nil, or_false] at ht
          subst ht
          exact kept_nv k1 j
        rw [← kK hK]
        obtain ⟨a, z1, us, r1, h1⟩ := sq_lst I1 I1.tmp.1 k1 i1 l1
        have z1 : v1 = .ref a := z1
        refine ⟨a, us, by rw [z1], h1, k _ [(v1, c1)] H1 ?_ nt ⟨ow, I1⟩⟩
        have rd : ∀ {ow : Ow} {σ : L2.St} {H : Hp} {ρ : Dn.Env} {us τ : List (V × C)}, RSo F ow σ H ρ (us ++ ([(v1, c1)] ++ τ)) → ∃ vs, RepL F.K (F.N ow) H vs xs ∧ SqL F.K H a vs := fun {ow σ H ρ us τ} I => by
          obtain ⟨a', z, vs, r1, h1⟩ := sq_lst I (deep1 (us := us) (t := (v1, c1)) (τ := τ) I) k1 i1 l1
          have z : v1 = .ref a' := z
          rw [z1] at z; cases z
          exact ⟨vs, r1, h1⟩
        have el : (enumD 0 xs).length = xs.length := by
          have go : ∀ (xs : List D) (n : Nat), (enumD n xs).length = xs.length := by
            intro xs
            induction xs with
            | nil => intro n; rfl
            | cons x xs ih => intro n; show (enumD (n + 1) xs).length + 1 = _; rw [ih]; rfl
          exact go xs 0
        refine ⟨fun i σ H ρ us τ hi ⟨ow, I⟩ => ?_, fun i σ H ρ us τ hi ⟨ow, I⟩ => ?_, fun i σ H ρ us τ x H' hi ⟨ow, I⟩ y => ?_⟩
        · obtain ⟨ws, r1, h1⟩ := rd I
          have l1 := r1.length
          rw [el] at hi
          exact ⟨ws, ws[i]'(by omega), h1, by simp⟩
        · obtain ⟨ws, r1, h1⟩ := rd I
          have l1 := r1.length
          rw [el] at hi
          exact ⟨ws, h1, by omega⟩
        · obtain ⟨ws, r1, h1⟩ := rd I
          obtain ⟨T, x1, rfl, hT, rfl, q1⟩ := y
          obtain ⟨dx, g1, g2⟩ := r1.get (q1 ws h1)
          refine ⟨_, by rw [enum_get, g1]; rfl, ?_⟩
          rw [show 0 + i = i by omega]
          exact pair_laid I hT (.int _) g2
    · cases e2
  · cases e2
/-! ### a text walked -/
def signsD (s : Str) : List D := s.cps.toList.map fun c => .str ⟨#[c]⟩
def iStr1 (p : P1) : I1 := fun ρ => (p ρ).bind fun a => match a.1 with
  | .ro (.str s) => some (signsD s, a.2)
  | _ => none
theorem di_str {tg : Expr} {p : P1} (he : PE X e (tD F p)) : PI X tg e (tDI F (iStr1 p)) := PI.imp (pi_str he) fun σ H R hw => by
  obtain ⟨ρ, τ, ds, ρ', I, e1, k⟩ := hw
  simp only [iStr1, Option.bind_eq_some_iff] at e1
  obtain ⟨⟨c, ρ1⟩, e1, e2⟩ := e1
  refine ⟨ρ, τ, c, ρ1, I, e1, fun v H1 ⟨ow, I1⟩ => ?_⟩
  split at e2
  · rename_i s q
    have q : c = .ro (.str s) := q
    subst q
    cases e2
    have hv : v = .str s := by have := I1.tmp.1; cases this; rfl
    refine ⟨s, hv, k _ [] H1 ?_ (fun _ h => nomatch h) ⟨_, I1.pop⟩⟩
    refine ⟨fun i σ H ρ us τ hi _ => ?_, fun i σ H ρ us τ hi _ => ?_, fun i σ H ρ us τ x H' hi ⟨ow, I⟩ y => ?_⟩
    · simpa [signsD, Its] using hi
    · simpa [signsD, Its] using hi
    · obtain ⟨rfl, c, h1, rfl⟩ := y
      refine ⟨.str ⟨#[c]⟩, ?_, ow, I.push (.str _)⟩
      simp only [signsD, List.getElem?_map, Array.getElem?_toList]
      rw [h1]; rfl
  · cases e2
/-! ### methods of texts -/
def pM1 (f : List D → Option C) (po pe : P1) : P1 := fun ρ => (po ρ).bind fun a => match a.1 with
  | .ro (.str s) => (pe a.2).bind fun b => (dat b.2 b.1).bind fun y => (f [.str s, y]).map fun c => (c, b.2)
  | _ => none
theorem m1_of {r : V → List V → Hp → VK → Prop} {f : List D → Option C} {po pe : P1} (hf : FunS F.K (fun xs H Q => ∃ x ys, xs = x :: ys ∧ r x ys H Q) f) {σ : L2.St} {H : Hp} {Q : VK} (hw : tD F (pM1 f po pe) σ H Q) : tM1 r (tD F po) (tD F pe) σ H Q := by
  obtain ⟨ρ, τ, c, ρ', I, e1, k⟩ := hw
  simp only [pM1, Option.bind_eq_some_iff] at e1
  obtain ⟨⟨c1, ρ1⟩, e1, e2⟩ := e1
  split at e2
  · rename_i s q
    have q : c1 = .ro (.str s) := q
    subst q
    simp only [Option.bind_eq_some_iff, Option.map_eq_some_iff] at e2
    obtain ⟨⟨c2, ρ2⟩, e2, y, e3, c3, e4, e5⟩ := e2
    cases e5
    refine ⟨ρ, τ, _, ρ1, I, e1, fun v H1 ⟨ow, I1⟩ => ?_⟩
    have hv : v = .str s := by have := I1.tmp.1; cases this; rfl
    refine ⟨⟨s, hv⟩, ρ1, _, c2, ρ2, ⟨ow, I1⟩, e2, fun u H2 ⟨ow2, I2⟩ => ?_⟩
    obtain ⟨ow3, I3, rx⟩ := RSo.take (vs := [v, u]) (cs := [.ro (.str s), c2]) rfl I2
    obtain ⟨x, ys, e6, h⟩ := hf _ _ _ _ _ (fun w H' => Q w H') (rx [.str s, y] (dats2 rfl e3)) e4 fun v' H' g rt => by
      obtain ⟨ow4, I4, _⟩ := I3.ret g rt
      exact k v' H' ⟨ow4, I4⟩
    cases e6
    exact h
  · cases e2
def strsD : List D → Option (List Str)
  | [] => some []
  | .str s :: ds => (strsD ds).map fun r => s :: r
  | _ :: _ => none
theorem strsD_eq : ∀ {ds : List D} {ss : List Str}, strsD ds = some ss → ds = ss.map .str
  | [], _, e => by cases e; rfl
  | d :: ds, ss, e => by
    cases d with
    | str s =>
      simp only [strsD, Option.map_eq_some_iff] at e
      obtain ⟨r, e1, rfl⟩ := e
      rw [strsD_eq e1]; rfl
    | _ => cases e
def D.join : List D → Option C
  | [.str a, .lst ys] => (strsD ys).bind fun ss => if decide ((ss.map (·.length)).sum + ss.length * a.length ≤ 16777216) = true then some (.ro (.str (Txt.join a ss))) else none
  | [.str a, .tup ys] => (strsD ys).bind fun ss => if decide ((ss.map (·.length)).sum + ss.length * a.length ≤ 16777216) = true then some (.ro (.str (Txt.join a ss))) else none
  | _ => none
theorem s_join {K : KW} : FunS K (fun xs H Q => ∃ x ys, xs = x :: ys ∧ ∃ a p, ∃ zs : List Str, x = .str a ∧ ys = [.ref p] ∧ (SqL K H p (zs.map V.str) ∨ SqT K H p (zs.map V.str)) ∧
      (zs.map (·.length)).sum + zs.length * a.length ≤ 16777216 ∧ Q (.str (Txt.join a zs)) H) D.join := by
  intro N H vs ds c Q r e k
  unfold D.join at e
  split at e
  · simp only [Option.bind_eq_some_iff] at e
    obtain ⟨ss, e1, e2⟩ := e
    split at e2
    · rename_i hz
      cases e2
      cases r with
      | cons r1 r =>
        cases r with
        | cons r2 r =>
          cases r
          have := r1.str; subst this
          obtain ⟨p, ws, rfl, h1, rr⟩ := r2.lst
          rw [strsD_eq e1] at rr
          have := rr.of_strs; subst this
          exact ⟨_, _, rfl, _, p, ss, rfl, rfl, .inl (SqL.of h1), of_decide_eq_true hz, ret_str k⟩
    · cases e2
  · simp only [Option.bind_eq_some_iff] at e
    obtain ⟨ss, e1, e2⟩ := e
    split at e2
    · rename_i hz
      cases e2
      cases r with
      | cons r1 r =>
        cases r with
        | cons r2 r =>
          cases r
          have := r1.str; subst this
          obtain ⟨p, ws, rfl, h1, rr⟩ := r2.tup
          rw [strsD_eq e1] at rr
          have := rr.of_strs; subst this
          exact ⟨_, _, rfl, _, p, ss, rfl, rfl, .inr h1, of_decide_eq_true hz, ret_str k⟩
    · cases e2
  · cases e
theorem de_join {o : Expr} {po pe : P1} {apos : Pos} (hK : F.K = X.kw) (ho : PE X o (tD F po)) (he : PE X e (tD F pe)) (hs : starEach [e] X.env = [(false, eval e X.env)] := by rfl) (hbase : attributeBase o "join" X.env (eval o X.env) = eval o X.env := by rfl) (hline : (apos.endLine == pos.line) = true := by rfl) :
    PE X (.Call (.Attribute o "join" apos) [e] [] pos) (tD F (pM1 D.join po pe)) := PE.imp (pe_join ho he hs hbase hline) fun σ H Q hw => m1_of (by
  rw [hK]; exact s_join) hw
end
end Dn

namespace Dn
open PySem PySem.Spec PyProof.Rows L2
/-! ### truth -/
def D.truth : D → Option Bool
  | .non => some false
  | .bl b => some b
  | .int i => some (i != 0)
  | .str s => if szOk s.length = true then some ((s.length : Int) != 0) else none
  | .lst xs => some (!xs.isEmpty)
  | .tup xs => some (!xs.isEmpty)
  | .scr xs => some (!xs.isEmpty)
  | _ => none
theorem isEmpty_rep {K : KW} {N : Addr → Prop} {H : Hp} {vs : List V} {ds : List D} (r : RepL K N H vs ds) : vs.isEmpty = ds.isEmpty := by cases r <;> rfl
theorem truth_s {K : KW} {N : Addr → Prop} {H : Hp} {v : V} {d : D} {k : Bool} (r : RepX K N H v d) (e : D.truth d = some k) : TruV K v H k := by
  cases d with
  | non => have := r.non; subst this; cases e; rfl
  | bl b => have := r.bl; subst this; cases e; rfl
  | int b => have := r.int; subst this; cases e; rfl
  | str s =>
    have := r.str; subst this
    unfold D.truth at e
    dsimp only at e
    split at e
    · rename_i h; cases e; exact ⟨szOk_le h, rfl⟩
    · cases e
  | lst xs => obtain ⟨a, vs, rfl, h1, rr⟩ := r.lst; cases e; exact .inl ⟨vs, SqL.of h1, by rw [isEmpty_rep rr]⟩
  | tup xs => obtain ⟨a, vs, rfl, h1, rr⟩ := r.tup; cases e; exact .inr (.inl ⟨vs, h1, by rw [isEmpty_rep rr]⟩)
  | scr xs => obtain ⟨a, rfl, h1⟩ := r.scr; cases e; exact .inl ⟨_, h1.l, by cases xs <;> rfl⟩
  | _ => cases e
def qTru (p : P1) : PT1 := fun ρ => (p ρ).bind fun a => (dat a.2 a.1).bind fun d => (D.truth d).map fun k => (k, a.2)
def pOrT (pa pb : P1) : P1 := fun ρ => (pa ρ).bind fun a => (dat a.2 a.1).bind fun d => (D.truth d).bind fun k => if k = true then some a else pb a.2
def pAndT (pa pb : P1) : P1 := fun ρ => (pa ρ).bind fun a => (dat a.2 a.1).bind fun d => (D.truth d).bind fun k => if k = true then pb a.2 else some a
def pNotT (pa : P1) : P1 := fun ρ => (pa ρ).bind fun a => (dat a.2 a.1).bind fun d => (D.truth d).map fun k => (.ro (.bl (!k)), a.2)
section
variable {X : Cx} {F : Fr} {W W1 W2 : List Nat} {e a b : Expr} {es rest : List Expr} {pos p2 : Pos} {p pa pb pc : P1} {ps : PAs} {q : PT1}
theorem tr1 {ow : Ow} {σ : L2.St} {H : Hp} {ρ : Dn.Env} {τ : List (V × C)} {v : V} {c : C} {d : D} {k : Bool} (I : RSo F ow σ H ρ ((v, c) :: τ)) (e : dat ρ c = some d) (e2 : D.truth d = some k) : TruV F.K v H k := truth_s (I.x I.tmp.1 e) e2
theorem dt_tru (hK : F.K = X.kw) (ha : PE X a (tD F pa)) (he : ∀ whole, isTrue a X.env whole = (do let v ← whole; standAt a.pos; holding [v] (truthy v)) := by intro _; rfl) : PT X a (tDT F (qTru pa)) := PT.imp (pt_truth ha he) fun σ H Q hw => by
  obtain ⟨ρ, τ, k, ρ', I, e1, k'⟩ := hw
  simp only [qTru, Option.bind_eq_some_iff, Option.map_eq_some_iff] at e1
  obtain ⟨⟨c1, ρ1⟩, e1, d, e2, k1, e3, e4⟩ := e1
  cases e4
  exact ⟨ρ, τ, c1, ρ1, I, e1, fun v H1 ⟨ow, I1⟩ => ⟨k, by rw [← kK hK]; exact tr1 I1 e2 e3, k' H1 ⟨_, I1.pop⟩⟩⟩
theorem de_orT (hK : F.K = X.kw) (ha : PE X a (tD F pa)) (hb : PE X (.BoolOp .Or (b :: rest) pos) (tD F pb)) : PE X (.BoolOp .Or (a :: b :: rest) pos) (tD F (pOrT pa pb)) := PE.imp (pe_orT ha hb) fun σ H Q hw => by
  obtain ⟨ρ, τ, c, ρ', I, e1, k'⟩ := hw
  simp only [pOrT, Option.bind_eq_some_iff] at e1
  obtain ⟨⟨c1, ρ1⟩, e1, d, e2, k1, e3, e4⟩ := e1
  refine ⟨ρ, τ, c1, ρ1, I, e1, fun v H1 ⟨ow, I1⟩ => ⟨k1, by rw [← kK hK]; exact tr1 I1 e2 e3, ?_⟩⟩
  cases k1 with
  | true => cases e4; exact k' v H1 ⟨ow, I1⟩
  | false => exact ⟨ρ1, τ, c, ρ', ⟨_, I1.pop⟩, e4, k'⟩
theorem de_andT (hK : F.K = X.kw) (ha : PE X a (tD F pa)) (hb : PE X (.BoolOp .And (b :: rest) pos) (tD F pb)) : PE X (.BoolOp .And (a :: b :: rest) pos) (tD F (pAndT pa pb)) := PE.imp (pe_andT ha hb) fun σ H Q hw => by
  obtain ⟨ρ, τ, c, ρ', I, e1, k'⟩ := hw
  simp only [pAndT, Option.bind_eq_some_iff] at e1
  obtain ⟨⟨c1, ρ1⟩, e1, d, e2, k1, e3, e4⟩ := e1
  refine ⟨ρ, τ, c1, ρ1, I, e1, fun v H1 ⟨ow, I1⟩ => ⟨k1, by rw [← kK hK]; exact tr1 I1 e2 e3, ?_⟩⟩
  cases k1 with
  | false => cases e4; exact k' v H1 ⟨ow, I1⟩
  | true => exact ⟨ρ1, τ, c, ρ', ⟨_, I1.pop⟩, e4, k'⟩
theorem de_notT (hK : F.K = X.kw) (ha : PE X a (tD F pa)) : PE X (.UnaryOp .Not a pos) (tD F (pNotT pa)) := PE.imp (pe_notT ha) fun σ H Q hw => by
  obtain ⟨ρ, τ, c, ρ', I, e1, k'⟩ := hw
  simp only [pNotT, Option.bind_eq_some_iff, Option.map_eq_some_iff] at e1
  obtain ⟨⟨c1, ρ1⟩, e1, d, e2, k1, e3, e4⟩ := e1
  cases e4
  exact ⟨ρ, τ, c1, ρ1, I, e1, fun v H1 ⟨ow, I1⟩ => ⟨k1, by rw [← kK hK]; exact tr1 I1 e2 e3, k' _ H1 ⟨_, I1.pop.push (.bl _)⟩⟩⟩
/-! ### a < b < c -/
def pChain (f g : D → D → Option C) (pa pb pc : P1) : P1 := fun ρ => (pa ρ).bind fun a => (pb a.2).bind fun b => (dat b.2 a.1).bind fun x => (dat b.2 b.1).bind fun y => (f x y).bind fun c => match c with
  | .ro (.bl true) => (pc b.2).bind fun c => (dat c.2 b.1).bind fun y => (dat c.2 c.1).bind fun z => (g y z).map fun r => (r, c.2)
  | .ro (.bl false) => some (.ro (.bl false), b.2)
  | _ => none
theorem chain_of {r r' : R2} {f g : D → D → Option C} (hf : Op2S F.K r f) (hg : Op2S F.K r' g) {σ : L2.St} {H : Hp} {Q : VK} (hw : tD F (pChain f g pa pb pc) σ H Q) : tChain r r' (tD F pa) (tD F pb) (tD F pc) σ H Q := by
  obtain ⟨ρ, τ, c, ρ', I, e1, k'⟩ := hw
  simp only [pChain, Option.bind_eq_some_iff] at e1
  obtain ⟨⟨c1, ρ1⟩, e1, ⟨c2, ρ2⟩, e2, x, e3, y, e4, cc, e5, e6⟩ := e1
  refine ⟨ρ, τ, c1, ρ1, I, e1, fun v H1 I1 => ⟨ρ1, _, c2, ρ2, I1, e2, fun u H2 ⟨ow2, I2⟩ => ?_⟩⟩
  -- the first one goes, the second stays
  have hx : RepX F.K (F.N ow2) H2 v x := I2.x I2.tmp.2.1 e3
  have hy : RepX F.K (F.N ow2) H2 u y := I2.x I2.tmp.1 e4
  refine hf _ _ _ _ _ _ _ _ hx hy e5 fun w H3 g3 rt => ?_
  obtain ⟨ow3, I3, _⟩ := I2.ret g3 rt
  split at e6
  · have hw : w = .bl true := by have := I3.tmp.1; cases this; rfl
    simp only [Option.bind_eq_some_iff, Option.map_eq_some_iff] at e6
    obtain ⟨⟨c3, ρ3⟩, e6, y2, e7, z, e8, c4, e9, e10⟩ := e6
    cases e10
    refine ⟨true, hw, ?_⟩
    rw [if_pos rfl]
    refine ⟨ρ2, _, c3, ρ3, ⟨_, I3.pop⟩, e6, fun w' H4 ⟨ow4, I4⟩ => ?_⟩
    have hy2 : RepX F.K (F.N ow4) H4 u y2 := I4.x I4.tmp.2.1 e7
    have hz : RepX F.K (F.N ow4) H4 w' z := I4.x I4.tmp.1 e8
    refine hg _ _ _ _ _ _ _ _ hy2 hz e9 fun v' H' g' rt' => ?_
    obtain ⟨ow5, I5, _⟩ := I4.ret g' rt'
    exact k' v' H' (RSo.ret1 (ts := [_, _, _]) ⟨ow5, I5⟩)
  · have hw : w = .bl false := by have := I3.tmp.1; cases this; rfl
    cases e6
    refine ⟨false, hw, ?_⟩
    rw [if_neg Bool.false_ne_true]
    exact k' _ H3 ⟨_, I3.pop.pop.pop.push (.bl _)⟩
  · cases e6
theorem de_chain {op op' : CmpOp} {r r' : R2} {f g : D → D → Option C} {c : Expr} (ho : OpR X (compareOp op) r) (hf : Op2S F.K r f) (ho' : OpR X (compareOp op') r') (hg : Op2S F.K r' g) (ha : PE X a (tD F pa)) (hb : PE X b (tD F pb)) (hc : PE X c (tD F pc))
    (hm : lastMarks [op, op'] [b, c] = false := by with_unfolding_all rfl) : PE X (.Compare a [op, op'] [b, c] pos) (tD F (pChain f g pa pb pc)) := PE.imp (pe_chain ho ho' ha hb hc hm) fun _ _ _ => chain_of hf hg
theorem dt_chain {op op' : CmpOp} {r r' : R2} {f g : D → D → Option C} {c : Expr} (ho : OpR X (compareOp op) r) (hf : Op2S F.K r f) (ho' : OpR X (compareOp op') r') (hg : Op2S F.K r' g) (ha : PE X a (tD F pa)) (hb : PE X b (tD F pb)) (hc : PE X c (tD F pc))
    (hm : lastMarks [op, op'] [b, c] = false := by with_unfolding_all rfl) : PT X (.Compare a [op, op'] [b, c] pos) (tDT F (pB (pChain f g pa pb pc))) := PT.imp (pt_chain ho ho' ha hb hc hm) fun _ _ _ hw => chain_of hf hg (Q := _) (tb_of hw)
/-! ### short forms, by the generator's words -/
theorem de_int {i : Int} {j : Nat} : PE X (.Constant (.int i) j pos) (tD F (pC (.int i))) := de_c pe_int fun _ _ _ => .int i
theorem de_bl {b : Bool} {j : Nat} : PE X (.Constant (.bool b) j pos) (tD F (pC (.bl b))) := de_c pe_bl fun _ _ _ => .bl b
theorem de_non {j : Nat} : PE X (.Constant .none j pos) (tD F (pC .non)) := de_c pe_non fun _ _ _ => .non
theorem de_str {s : Str} {j : Nat} : PE X (.Constant (.str s) j pos) (tD F (pC (.str s))) := de_c pe_str fun _ _ _ => .str s
theorem de_ty {x : Str} {n : String} (hg : Gl X x) (hm : X.mg x = none) (hv : bootBuiltins x = some (.type n)) (hn : x ≠ "__name__" := by decide) (hd : (x == ("__debug__" : Str)) = false := by decide) : PE X (.Name x pos) (tD F (pC (.ty n))) := de_c (pe_bltn (v := .ty n) hg hm hv rfl hn hd) fun _ _ _ => .ty n
/-- a constant of the module: a text, an int, a bool -/
theorem de_gl {x : Str} {v : V} {u : Value} {d : D} (hg : Gl X x) (hm : X.mg x = some u) (hr : RelV v u) (h : ∀ K N H, Rep K N H v d) (hd : (x == ("__debug__" : Str)) = false := by decide) : PE X (.Name x pos) (tD F (pC d)) := de_c (pe_glob hg hm hr hd) h
theorem de_v (i : Nat) {x : Str} (hN : X.N[i]? = some x := by rfl) (hv : Vis X.env.scope x := by first | exact Or.inl rfl | exact Or.inr (Or.inl rfl) | exact Or.inr (Or.inr rfl)) (hd : (x == ("__debug__" : Str)) = false := by decide)
    (hcd : (x == ("__classdict__" : Str)) = false := by decide) : PE X (.Name x pos) (tD F (pVar i)) := de_var (pv i hN hv hd hcd)
theorem de_add (ha : PE X a (tD F pa)) (hb : PE X b (tD F pb)) (hK : F.K = X.kw) : PE X (.BinOp a .Add b pos) (tD F (pOp2 D.add pa pb)) := de_op2 o_add (by rw [← kK hK]; exact s_add) ha hb
theorem de_sub (ha : PE X a (tD F pa)) (hb : PE X b (tD F pb)) : PE X (.BinOp a .Sub b pos) (tD F (pOp2 D.sub pa pb)) := de_op2 op_sub s_sub ha hb
theorem de_mul (ha : PE X a (tD F pa)) (hb : PE X b (tD F pb)) : PE X (.BinOp a .Mult b pos) (tD F (pOp2 D.mul pa pb)) := de_op2 op_mul s_mul ha hb
theorem de_fdiv (ha : PE X a (tD F pa)) (hb : PE X b (tD F pb)) : PE X (.BinOp a .FloorDiv b pos) (tD F (pOp2 D.fdiv pa pb)) := de_op2 op_fdivW s_fdiv ha hb
theorem de_mod (ha : PE X a (tD F pa)) (hb : PE X b (tD F pb)) : PE X (.BinOp a .Mod b pos) (tD F (pOp2 D.mod pa pb)) := de_op2 op_mod s_mod ha hb
theorem de_pow (ha : PE X a (tD F pa)) (hb : PE X b (tD F pb)) : PE X (.BinOp a .Pow b pos) (tD F (pOp2 D.pow pa pb)) := de_op2 op_pow s_pow ha hb
theorem de_neg (ha : PE X a (tD F pa)) : PE X (.UnaryOp .USub a pos) (tD F (pOp1 D.neg pa)) := de_op1 un_neg s_neg ha
theorem de_item (hK : F.K = X.kw) (ha : PE X a (tD F pa)) (hb : PE X b (tD F pb)) (hs : PlainIx b := by exact fun _ _ => rfl) : PE X (.Subscript a b pos) (tD F (pOp2 D.ix pa pb)) := de_ix ix_seq (by rw [← kK hK]; exact s_ix) ha hb hs
theorem de_len {pp : Pos} (hK : F.K = X.kw) (hg : Gl X "len") (hm : X.mg "len" = none) (ha : PA X [e] (tDA F ps)) (h1 : starEach [e] X.env = (false, eval e X.env) :: starEach [] X.env := by rfl) (h2 : (backTo pos (starEach [] X.env)).any (·.1) = false := by rfl) : PE X (.Call (.Name "len" pp) [e] [] pos) (tD F (pFun D.len ps)) :=
  PE.imp (pe_callB call_len hg hm boot_len ha (he := h1) (hpl := h2)) fun σ H Q hw => by
    rw [← kK hK]; exact fun_of s_len hw
theorem de_isi {pp : Pos} (hK : F.K = X.kw) (hg : Gl X "isinstance") (hm : X.mg "isinstance" = none) (ha : PA X [e, a] (tDA F ps)) (h1 : starEach [e, a] X.env = (false, eval e X.env) :: starEach [a] X.env := by rfl) (h2 : (backTo pos (starEach [a] X.env)).any (·.1) = false := by rfl) : PE X (.Call (.Name "isinstance" pp) [e, a] [] pos) (tD F (pFun D.isInst ps)) :=
  PE.imp (pe_callB call_isi hg hm boot_isinstance ha (he := h1) (hpl := h2)) fun σ H Q hw => by
    rw [← kK hK]; exact fun_of s_isi hw
theorem de_toInt {pp : Pos} (hg : Gl X "int") (hm : X.mg "int" = none) (ha : PA X [e] (tDA F ps)) (h1 : starEach [e] X.env = (false, eval e X.env) :: starEach [] X.env := by rfl) (h2 : (backTo pos (starEach [] X.env)).any (·.1) = false := by rfl) : PE X (.Call (.Name "int" pp) [e] [] pos) (tD F (pFun D.toInt ps)) :=
  PE.imp (pe_callTy call_int1 hg hm boot_int ha (he := h1) (hpl := h2)) fun σ H Q hw => fun_of s_int hw
theorem de_toList {pp : Pos} (hK : F.K = X.kw) (hg : Gl X "list") (hm : X.mg "list" = none) (ha : PA X [e] (tDA F ps)) (h1 : starEach [e] X.env = (false, eval e X.env) :: starEach [] X.env := by rfl) (h2 : (backTo pos (starEach [] X.env)).any (·.1) = false := by rfl) : PE X (.Call (.Name "list" pp) [e] [] pos) (tD F (pFun D.toList ps)) :=
  PE.imp (pe_callTy call_list_of hg hm boot_list ha (he := h1) (hpl := h2)) fun σ H Q hw => by
    rw [← kK hK]; exact fun_of s_list hw
theorem de_toTup {pp : Pos} (hK : F.K = X.kw) (hg : Gl X "tuple") (hm : X.mg "tuple" = none) (ha : PA X [e] (tDA F ps)) (h1 : starEach [e] X.env = (false, eval e X.env) :: starEach [] X.env := by rfl) (h2 : (backTo pos (starEach [] X.env)).any (·.1) = false := by rfl) : PE X (.Call (.Name "tuple" pp) [e] [] pos) (tD F (pFun D.toTup ps)) :=
  PE.imp (pe_callTy call_tupleP hg hm boot_tuple ha (he := h1) (hpl := h2)) fun σ H Q hw => by
    rw [← kK hK]; exact fun_of s_tuple hw
theorem de_in (hK : F.K = X.kw) (ha : PE X a (tD F pa)) (hb : PE X b (tD F pb)) (hm : behindInMarks .In b = false := by with_unfolding_all rfl) : PE X (.Compare a [.In] [b] pos) (tD F (pOp2 D.isIn pa pb)) := de_cmp op_in_seq (by rw [← kK hK]; exact s_in) ha hb hm
theorem dt_in (hK : F.K = X.kw) (ha : PE X a (tD F pa)) (hb : PE X b (tD F pb)) (hm : behindInMarks .In b = false := by with_unfolding_all rfl) : PT X (.Compare a [.In] [b] pos) (tDT F (pB (pOp2 D.isIn pa pb))) := dt_cmp op_in_seq (by rw [← kK hK]; exact s_in) ha hb hm
theorem de_nin (hK : F.K = X.kw) (ha : PE X a (tD F pa)) (hb : PE X b (tD F pb)) (hm : behindInMarks .NotIn b = false := by with_unfolding_all rfl) : PE X (.Compare a [.NotIn] [b] pos) (tD F (pOp2 D.notIn pa pb)) := de_cmp op_notIn_seq (by rw [← kK hK]; exact s_notIn) ha hb hm
theorem dt_nin (hK : F.K = X.kw) (ha : PE X a (tD F pa)) (hb : PE X b (tD F pb)) (hm : behindInMarks .NotIn b = false := by with_unfolding_all rfl) : PT X (.Compare a [.NotIn] [b] pos) (tDT F (pB (pOp2 D.notIn pa pb))) := dt_cmp op_notIn_seq (by rw [← kK hK]; exact s_notIn) ha hb hm
/-! ### x += e; a, b = e -/
def D.iadd : D → D → Option C
  | .int i, .int j => some (.ro (.int (i + j)))
  | .str x, .str y => if szOk (x.length + y.length) = true then some (.ro (.str (x ++ y))) else none
  | _, _ => none
theorem s_iadd {K : KW} : Op2S K (fun x y H Q => rI0 (fun i j => V.int (i + j)) x y H Q ∨ ∃ i j, x = .str i ∧ y = .str j ∧ i.length + j.length ≤ sizeLine ∧ Q (.str (i ++ j)) H) D.iadd := by
  intro N H x y dx dy c Q rx ry e k
  unfold D.iadd at e
  split at e
  · cases e; exact .inl ⟨_, _, rx.int, ry.int, ret_int k⟩
  · split at e
    · rename_i hz; cases e; exact .inr ⟨_, _, rx.str, ry.str, szOk_le hz, ret_str k⟩
    · cases e
  · cases e
theorem iadd_ro : ∀ x y c, D.iadd x y = some c → ∃ d, c = .ro d := by
  intro x y c e
  unfold D.iadd at e
  split at e
  · cases e; exact ⟨_, rfl⟩
  · split at e
    · cases e; exact ⟨_, rfl⟩
    · cases e
  · cases e
theorem ds_iadd {i : Nat} {x : Str} {pos' : Pos} (hN : X.N.Nodup) (hi : X.N[i]? = some x) (hx : Loc X.env.scope x) (he : PE X e (tD F p)) (hff : X.fn x = true ∨ X.env.scope.names.lookup x = some .local := by first | exact .inl rfl | exact .inr rfl | assumption) :
    PS X (.AugAssign (.Name x pos') .Add e pos) (tDS F [i] (sAug D.iadd i p)) := ds_aug (iop_add.or iop_add_str) s_iadd iadd_ro hN hi hx he hff
theorem ds_iaddIx {j : Nat} {oe ie : Expr} {tpos : Pos} {pi : P1} (hK : F.K = X.kw) (ho : PE X oe (tVar j)) (hi : PE X ie (tD F pi)) (he : PE X e (tD F p))
    (hsub : ∀ ov iv new, augStore ie ov iv new = (do holding [new, ov, iv] (setItem ov iv new); release [new, ov, iv] []; pure .next) := by intros; rfl) : PS X (.AugAssign (.Subscript oe ie tpos) .Add e pos) (tDS F [] (sAugIx D.iadd j pi p)) := ds_augIx hK (iop_add.or iop_add_str) s_iadd ho hi he hsub
theorem ds_isubIx {j : Nat} {oe ie : Expr} {tpos : Pos} {pi : P1} (hK : F.K = X.kw) (ho : PE X oe (tVar j)) (hi : PE X ie (tD F pi)) (he : PE X e (tD F p))
    (hsub : ∀ ov iv new, augStore ie ov iv new = (do holding [new, ov, iv] (setItem ov iv new); release [new, ov, iv] []; pure .next) := by intros; rfl) : PS X (.AugAssign (.Subscript oe ie tpos) .Sub e pos) (tDS F [] (sAugIx D.sub j pi p)) := ds_augIx hK iop_sub s_sub ho hi he hsub
def bSeq (n : Nat) (bs : Bs) : B1 := fun d ρ => match d with
  | .tup ds => if ds.length = n then bs ds ρ else none
  | .lst ds => if ds.length = n then bs ds ρ else none
  | .wtp ds => if ds.length = n then bs ds ρ else none
  | _ => none
theorem PG.or {tg : Expr} {g g' : TG} (h : PG X tg g) (h' : PG X tg g') : PG X tg (fun v σ H Q => g v σ H Q ∨ g' v σ H Q) := ⟨fun pins s σ H v u Q I r hw => hw.elim (h.run pins s σ H v u Q I r) (h'.run pins s σ H v u Q I r)⟩
theorem dg_seq {k : Nat} {n : Nat} {bs : Bs} (hK : F.K = X.kw) (hc : X.calm = true) (h : PGs X es (tDGs F W bs))
    (hn : (assignEach es X.env).length = n := by rfl) (hst : (assignEach es X.env).findIdx? (·.1) = none := by rfl) : PG X (.Tuple es k pos) (tDG F W (bSeq n bs)) := PG.imp (PG.or (pg_tup hc h hn hst) (pg_unl hc h hn hst)) fun v σ H Q hw => by
  obtain ⟨ρ, τ, d, ρ', ⟨ow, I⟩, e1, k⟩ := hw
  have r' := RepC.pop I (fun _ z => by cases z)
  dsimp only [bSeq] at e1
  split at e1
  · split at e1
    · rename_i hl
      obtain ⟨a', vs', e', h1', r1'⟩ := RepX.tup r'.x
      exact .inl ⟨a', vs', e', by rw [← kK hK]; exact h1', by rw [r1'.length]; exact hl, ρ, τ, _, ρ', ⟨_, I.pop, r1'⟩, e1, k⟩
    · cases e1
  · split at e1
    · rename_i hl
      obtain ⟨a', vs', e', h1', r1'⟩ := RepX.lst r'.x
      exact .inr ⟨a', vs', e', SqL.of h1', by rw [r1'.length]; exact hl, ρ, τ, _, ρ', ⟨_, I.pop, r1'⟩, e1, k⟩
    · cases e1
  · split at e1
    · rename_i hl
      cases r' with
      | wtp h1' r1' => exact .inl ⟨_, _, rfl, by rw [← kK hK]; exact h1', by rw [r1'.length]; exact hl, ρ, τ, _, ρ', ⟨_, I.pop, r1'⟩, e1, k⟩
    · cases e1
  · cases e1
def sAsg (p : P1) (b : B1) : S1 := fun ρ => (p ρ).bind fun a => (cap a.1 a.2).bind fun c => (b c.1.d c.2).map .nx
theorem ds_asg {tg : Expr} {bb : B1} (he : PE X e (tD F p)) (hg : PG X tg (tDG F W bb)) (hs : swapsWithSole [tg] e pos.line X.env = pure false := by rfl) (hw : swappedStores [tg] e X.env = pure none := by rfl)
    (h1 : (assignEach [tg] X.env).map (·.2) = [assign tg X.env] := by rfl) : PS X (.Assign [tg] e pos) (tDS F W (sAsg p bb)) := PS.imp (ps_asg he hg hs hw h1) fun D σ H hw => by
  obtain ⟨ρ, τ, o, I, nv, e1, k⟩ := hw
  simp only [sAsg, Option.bind_eq_some_iff, Option.map_eq_some_iff] at e1
  obtain ⟨⟨c, ρ1⟩, e1, ⟨c2, ρ2⟩, e2, ρ3, e3, e4⟩ := e1
  cases e4
  refine ⟨ρ, τ, c, ρ1, I, e1, fun v H1 ⟨ow, I1⟩ => ?_⟩
  obtain ⟨⟨ow2, I2⟩, nv2⟩ := I1.cap e2
  exact ⟨ρ2, τ, c2.d, ρ3, I2.freeze nv2, e3, fun σ' _ z I3 => k σ' H1 z I3⟩
/-! ### a def of the module, as callers have it -/
structure Cal (P : Program) (w : World) (K : PySem.W.Frag) (mg : Str → Option Value) (base : Heap) (x : Str) (k : Nat) (pss : List Str) (sp : Sp) : Prop where
  ex : ∃ (f : Addr) (fd : FuncData), mg x = some (.ref f) ∧ PySem.W.keepIn K (.ref f) = true ∧ Binds K fd pss [] ∧ FnOk P w K mg base CX0 k f fd pss sp
variable {kk k2 : Nat} {pss : List Str} {x : Str} {pp : Pos}
theorem de_do {g : List D → Option C} (hK : F.K = X.kw) (c : Cal X.prog X.w X.K X.mg X.base x kk pss (Sp0 X.kw g)) (hr : Room k2 X.A) (hk : kk ≤ k2) (hg : Gl X x)
    (ha : PA X (e :: es) (tDA F ps)) (hdb : (x == ("__debug__" : Str)) = false := by decide) (he : starEach (e :: es) X.env = (false, eval e X.env) :: starEach es X.env := by rfl) (hpl : (backTo pos (starEach es X.env)).any (·.1) = false := by rfl) :
    PE X (.Call (.Name x pp) (e :: es) [] pos) (tD F (pCall g ps)) := by
  obtain ⟨f, fd, h1, h2, h3, h4⟩ := c.ex
  exact de_call hK h4 (hr.mono hk) hg h1 h2 h3 ha hdb he hpl
theorem de_doIo {g : D → List D → Option (C × D)} {j : Nat} (hK : F.K = X.kw) (c : Cal X.prog X.w X.K X.mg X.base x kk pss (SpIo X.kw g)) (hr : Room k2 X.A) (hk : kk ≤ k2) (hg : Gl X x)
    (hj : PE X e (tVar j)) (ha : PA X es (tDA F ps)) (hdb : (x == ("__debug__" : Str)) = false := by decide) (he : starEach (e :: es) X.env = (false, eval e X.env) :: starEach es X.env := by rfl) (hpl : (backTo pos (starEach es X.env)).any (·.1) = false := by rfl) :
    PE X (.Call (.Name x pp) (e :: es) [] pos) (tD F (pCallIo g j ps)) := by
  obtain ⟨f, fd, h1, h2, h3, h4⟩ := c.ex
  exact de_callIo hK h4 (hr.mono hk) hg h1 h2 h3 hj ha hdb he hpl
end
end Dn

namespace Dn
open PySem PySem.Spec PyProof.Rows L2
/-- a law's end over a head by facts, the script's bits told -/
theorem walk_ofEB {l : PySem.W.OpenLaw} {n k : Nat} {q : Program} {loose : List Str} {XP : (Str → Option Value) → Heap → Prop} {YP : World → Heap → Prop} {d : DefRec} {CX : CXT} {x : Str}
    (hn : l.most = some n) (hn2 : n ≤ sizeLine) (hdf : d.params.defaults = []) (hr : Room k callerA)
    (F : ∀ (w : World) (mg : Str → Option Value) (fa : Addr) (h : Heap), YP w h → h.Ns mainGlobals mg → mg d.name = some (.ref fa) →
      ∃ (K : PySem.W.Frag) (fd : FuncData) (sp : Sp), K.In h ∧ (∀ (s : Shared) (u : Value), BindsTo s fd ⟨[u], []⟩ [(x, u)]) ∧
        (∀ (H : Hp) (a : Addr) (ns : List Int), ns.length ≤ n → (∀ z ∈ ns, Builtin.Int.intBits z ≤ 1048576) → Only H → SqL K H a (ns.map V.int) → sp [.ref a] H (fun v _ => v = .bl true) fun _ _ _ => False) ∧
        ∀ base : Heap, K.In base → base.Ns mainGlobals mg → FnOk l.prog w K mg base CX k fa fd [x] sp)
    (hCX : ∀ (H : Hp) (s : Shared) (e : Value) (s' : Shared), CX [] H s (fun _ _ _ => False) e s' → False) :
    PySem.W.WalkO q loose XP YP l.row.toRowW d [] (fun f vs => PySem.call f vs) := by
  refine Att.attach_callB hn hdf fun w s₀ s₁ mg mb fa o pm cd doc a vs ns G Y ho hd hcd hmg hobj hints hlen hbits hg => ?_
  obtain ⟨K, fd, sp, KX, hb, hsp, hF⟩ := F w mg fa _ Y G.T.g hmg
  exact law_call KX G.T.g G.T.b G.T.builtins G.T.nolimit hg hobj hints (Nat.le_trans hlen hn2) hr hF hb (fun H hO hS => hsp H a ns hlen hbits hO hS) fun H e s' => hCX H s₁ e s'
theorem sp_law {K : KW} {f : List D → Option C} {H : Hp} {a : Addr} {ns : List Int} (hO : Only H) (hS : SqL K H a (ns.map V.int)) (h : f [.scr ns] = some (.ro (.bl true))) : Sp0 K f [.ref a] H (fun v _ => v = .bl true) fun _ _ _ => False := by
  have hF : SqF K H a (ns.map V.int) := by
    rcases hS with (h1 | h1) | h1
    · rcases hO a with z | ⟨o, xs, z⟩
      · rw [z] at h1; cases h1
      · rw [z] at h1; cases h1
    · exact .inl h1
    · exact .inr h1
  refine ⟨fun _ => True, [.scr ns], _, .cons (.scr hF) .nil, h, fun v H' _ r => ?_⟩
  cases r; rfl
theorem cal {P : Program} {w : World} {K : PySem.W.Frag} {mg : Str → Option Value} {base : Heap} {x : Str} {k : Nat} {pss : List Str} {sp : Sp} {f : Addr} {fd : FuncData} (h1 : mg x = some (.ref f)) (h2 : PySem.W.keepIn K (.ref f) = true) (h3 : Binds K fd pss []) (h4 : FnOk P w K mg base CX0 k f fd pss sp) : Cal P w K mg base x k pss sp := ⟨f, fd, h1, h2, h3, h4⟩
end Dn

/-! The mirrors run by simp: cells are known, what is in them need not be. -/
namespace Dn
open PySem L2
/-- a text, by its codes -/
def tx (l : List Nat) : Str := ⟨l.toArray⟩
theorem tx_inj {a b : List Nat} : tx a = tx b ↔ a = b := ⟨fun h => by have := congrArg (fun s : Str => s.cps.toList) h; simpa [tx] using this, fun h => by rw [h]⟩
theorem tx_self (s : Str) : tx s.cps.toList = s := by cases s; rfl
theorem tx_app (a b : List Nat) : tx a ++ tx b = tx (a ++ b) := by show Str.append _ _ = _; unfold Str.append tx; simp
theorem tx_len (a : List Nat) : (tx a).length = a.length := by simp [tx, Str.length]
theorem tx_cps (a : List Nat) : (tx a).cps = a.toArray := rfl
section
variable {ρ ρ1 : Env} {d x y : D} {c : C} {i n : Nat} {b : Bool} {p pa pb : P1} {ps : PAs} {q q1 q2 : PT1} {s t : S1}
def rdC (i : Nat) (ρ : Env) : Option (Option C) → Option (C × Env)
  | some (some (.ro d)) => some (.ro d, ρ)
  | some (some (.own _)) => some (.view i, ρ)
  | some (some (.io _)) => some (.view i, ρ)
  | _ => none
@[simp] theorem v_var : pVar i ρ = rdC i ρ ρ[i]? := by
  unfold pVar rdC; rfl
@[simp] theorem v_rd1 : rdC i ρ (some (some (.ro d))) = some (.ro d, ρ) := rfl
@[simp] theorem v_rd2 : rdC i ρ (some (some (.own d))) = some (.view i, ρ) := rfl
@[simp] theorem v_rd3 : rdC i ρ (some (some (.io d))) = some (.view i, ρ) := rfl
@[simp] theorem v_c : pC d ρ = some (.ro d, ρ) := rfl
@[simp] theorem v_dat1 : dat ρ (.ro d) = some d := rfl
@[simp] theorem v_dat2 : dat ρ (.own d) = some d := rfl
@[simp] theorem v_dat3 : dat ρ (.io d) = some d := rfl
def datC : Option (Option C) → Option D
  | some (some (.own d)) => some d
  | some (some (.io d)) => some d
  | _ => none
@[simp] theorem v_dat4 : dat ρ (.view i) = datC ρ[i]? := by unfold dat datC; rfl
@[simp] theorem v_datC1 : datC (some (some (.own d))) = some d := rfl
@[simp] theorem v_datC2 : datC (some (some (.io d))) = some d := rfl
@[simp] theorem v_dats0 : dats ρ [] = some [] := rfl
@[simp] theorem v_dats1 {cs : List C} : dats ρ (c :: cs) = (dat ρ c).bind fun d => (dats ρ cs).map fun ds => d :: ds := by
  show (match dat ρ c, dats ρ cs with | some d, some ds => some (d :: ds) | _, _ => none) = _
  cases dat ρ c <;> cases dats ρ cs <;> rfl
@[simp] theorem v_op2 {f : D → D → Option C} : pOp2 f pa pb ρ = (pa ρ).bind fun a => (pb a.2).bind fun b => (dat b.2 a.1).bind fun x => (dat b.2 b.1).bind fun y => (f x y).map fun c => (c, b.2) := rfl
@[simp] theorem v_op1 {f : D → Option C} : pOp1 f pa ρ = (pa ρ).bind fun a => (dat a.2 a.1).bind fun x => (f x).map fun c => (c, a.2) := rfl
@[simp] theorem v_nil : pNil ρ = some ([], ρ) := rfl
@[simp] theorem v_cons : pCons p ps ρ = (p ρ).bind fun a => (ps a.2).map fun b => (a.1 :: b.1, b.2) := rfl
@[simp] theorem v_fun {f : List D → Option C} : pFun f ps ρ = (ps ρ).bind fun a => (dats a.2 a.1).bind fun ds => (f ds).map fun c => (c, a.2) := rfl
def blC (ρ : Env) : C → Option (Bool × Env)
  | .ro (.bl b) => some (b, ρ)
  | _ => none
@[simp] theorem v_B : pB p ρ = (p ρ).bind fun a => blC a.2 a.1 := by
  unfold pB
  cases p ρ with
  | none => rfl
  | some a =>
    rcases a with ⟨c, ρ1⟩
    cases c with
    | ro d => cases d <;> rfl
    | own d => rfl
    | io d => rfl
    | view d => rfl
@[simp] theorem v_blC : blC ρ (.ro (.bl b)) = some (b, ρ) := rfl
@[simp] theorem v_qAnd : qAnd q1 q2 ρ = (q1 ρ).bind fun a => if a.1 = true then q2 a.2 else some (false, a.2) := rfl
@[simp] theorem v_qOr : qOr q1 q2 ρ = (q1 ρ).bind fun a => if a.1 = true then some (true, a.2) else q2 a.2 := rfl
@[simp] theorem v_qNot : qNot q ρ = (q ρ).map fun a => (!a.1, a.2) := rfl
@[simp] theorem v_qYes : qYes ρ = some (true, ρ) := rfl
@[simp] theorem v_pIf : pIf q pa pb ρ = (q ρ).bind fun t => if t.1 = true then pa t.2 else pb t.2 := rfl
@[simp] theorem v_tru : qTru p ρ = (p ρ).bind fun a => (dat a.2 a.1).bind fun d => (D.truth d).map fun k => (k, a.2) := rfl
@[simp] theorem v_orT : pOrT pa pb ρ = (pa ρ).bind fun a => (dat a.2 a.1).bind fun d => (D.truth d).bind fun k => if k = true then some a else pb a.2 := rfl
@[simp] theorem v_andT : pAndT pa pb ρ = (pa ρ).bind fun a => (dat a.2 a.1).bind fun d => (D.truth d).bind fun k => if k = true then pb a.2 else some a := rfl
@[simp] theorem v_notT : pNotT pa ρ = (pa ρ).bind fun a => (dat a.2 a.1).bind fun d => (D.truth d).map fun k => (.ro (.bl (!k)), a.2) := rfl
@[simp] theorem v_cap1 : cap (.ro d) ρ = some (.ro d, ρ) := rfl
@[simp] theorem v_cap2 : cap (.own d) ρ = some (.own d, ρ) := rfl
def capC (i : Nat) (ρ : Env) : Option (Option C) → Option (C × Env)
  | some (some (.own d)) => some (.ro d, ρ.set i (some (.ro d)))
  | _ => none
@[simp] theorem v_cap3 : cap (.view i) ρ = capC i ρ ρ[i]? := by unfold cap capC; rfl
@[simp] theorem v_capC : capC i ρ (some (some (.own d))) = some (.ro d, ρ.set i (some (.ro d))) := rfl
@[simp] theorem v_mov1 : mov (.ro d) ρ = some (.ro d, ρ) := rfl
@[simp] theorem v_mov2 : mov (.own d) ρ = some (.own d, ρ) := rfl
def movC (i : Nat) (ρ : Env) : Option (Option C) → Option (C × Env)
  | some (some (.own d)) => some (.own d, ρ.set i none)
  | _ => none
@[simp] theorem v_mov3 : mov (.view i) ρ = movC i ρ ρ[i]? := by unfold mov movC; rfl
@[simp] theorem v_movC : movC i ρ (some (some (.own d))) = some (.own d, ρ.set i none) := rfl
@[simp] theorem v_pCap : pCap p ρ = (p ρ).bind fun a => cap a.1 a.2 := rfl
/-! statements -/
def sqC (t : S1) : Out → Option Out
  | .nx ρ1 => t ρ1
  | .rt c ρ1 => some (.rt c ρ1)
  | .bk ρ1 => some (.bk ρ1)
  | .ct ρ1 => some (.ct ρ1)
@[simp] theorem v_sNil : sNil ρ = some (.nx ρ) := rfl
@[simp] theorem v_sSeq : sSeq s t ρ = (s ρ).bind (sqC t) := by
  show ((s ρ).bind fun o => match o with | .nx ρ1 => t ρ1 | o => some o) = _
  congr 1; funext o; cases o <;> rfl
@[simp] theorem v_sqn : sqC t (.nx ρ) = t ρ := rfl
@[simp] theorem v_sqr : sqC t (.rt c ρ) = some (.rt c ρ) := rfl
@[simp] theorem v_sqb : sqC t (.bk ρ) = some (.bk ρ) := rfl
@[simp] theorem v_sqc : sqC t (.ct ρ) = some (.ct ρ) := rfl
@[simp] theorem v_sIf : sIf q s t ρ = (q ρ).bind fun b => if b.1 = true then s b.2 else t b.2 := rfl
@[simp] theorem v_sRet : sRet p ρ = (p ρ).bind fun a => (mov a.1 a.2).map fun b => .rt b.1 b.2 := rfl
@[simp] theorem v_sRetN : sRetN ρ = some (.rt (.ro .non) ρ) := rfl
@[simp] theorem v_sBrk : sBrk ρ = some (.bk ρ) := rfl
@[simp] theorem v_sCnt : sCnt ρ = some (.ct ρ) := rfl
@[simp] theorem v_sExpr : sExpr p ρ = (p ρ).map fun a => .nx a.2 := rfl
@[simp] theorem v_setE : setE i c ρ = if i < ρ.length then some (ρ.set i (some c)) else none := rfl
@[simp] theorem v_sSet : sSet i p ρ = (p ρ).bind fun a => (cap a.1 a.2).bind fun b => (setE i b.1 b.2).map .nx := rfl
@[simp] theorem v_bName : bName i d ρ = setE i (.ro d) ρ := rfl
@[simp] theorem v_bNil : bNil [] ρ = some ρ := rfl
@[simp] theorem v_bCons {bb : B1} {bs : Bs} {ds : List D} : bCons bb bs (d :: ds) ρ = (bb d ρ).bind fun ρ1 => bs ds ρ1 := rfl
@[simp] theorem v_bSeqW {bs : Bs} {ds : List D} : bSeq n bs (.wtp ds) ρ = if ds.length = n then bs ds ρ else none := rfl
@[simp] theorem v_bSeqT {bs : Bs} {ds : List D} : bSeq n bs (.tup ds) ρ = if ds.length = n then bs ds ρ else none := rfl
@[simp] theorem v_bSeqL {bs : Bs} {ds : List D} : bSeq n bs (.lst ds) ρ = if ds.length = n then bs ds ρ else none := rfl
@[simp] theorem v_iSeq : iSeq p ρ = (p ρ).bind fun a => (cap a.1 a.2).bind fun b => (D.items b.1.d).map fun ds => (ds, b.2) := rfl
@[simp] theorem v_d1 : (C.ro d).d = d := rfl
@[simp] theorem v_d2 : (C.own d).d = d := rfl
@[simp] theorem v_itL {ds : List D} : D.items (.lst ds) = some ds := rfl
@[simp] theorem v_itT {ds : List D} : D.items (.tup ds) = some ds := rfl
def rgC (ρ : Env) : Option (List D) → Option (List D × Env)
  | some [.int n] => if smallI n = true then some (rangeD 0 n.toNat, ρ) else none
  | some [.int m, .int n] => if (smallI m && smallI n) = true then some (rangeD m (n - m).toNat, ρ) else none
  | _ => none
@[simp] theorem v_range1 {e : P1} : iRange1 (pCons e pNil) ρ = (e ρ).bind fun a => (dat a.2 a.1).bind fun x => rgC a.2 (some [x]) := by
  unfold iRange1
  cases h : e ρ with
  | none => simp [h]
  | some a =>
    cases hd : dat a.2 a.1 with
    | none => simp [h, hd]
    | some x => simp [h, hd]; cases x <;> rfl
@[simp] theorem v_range2 {e1 e2 : P1} : iRange2 (pCons e1 (pCons e2 pNil)) ρ = (e1 ρ).bind fun a => (e2 a.2).bind fun b => (dat b.2 a.1).bind fun x => (dat b.2 b.1).bind fun y => rgC b.2 (some [x, y]) := by
  unfold iRange2
  cases h : e1 ρ with
  | none => simp [h]
  | some a =>
    cases h2 : e2 a.2 with
    | none => simp [h, h2]
    | some b =>
      cases hd : dat b.2 a.1 with
      | none => simp [h, h2, hd]
      | some x =>
        cases hd2 : dat b.2 b.1 with
        | none => simp [h, h2, hd, hd2]
        | some y => simp [h, h2, hd, hd2]; cases x <;> cases y <;> simp [rgC]
@[simp] theorem v_rg1 {k : Int} : rgC ρ (some [.int k]) = if smallI k = true then some (rangeD 0 k.toNat, ρ) else none := id rfl
@[simp] theorem v_rg2 {j k : Int} : rgC ρ (some [.int j, .int k]) = if (smallI j && smallI k) = true then some (rangeD j (k - j).toNat, ρ) else none := id rfl
@[simp] theorem v_for {it : I1} {bb : B1} : sFor it bb s ρ = (it ρ).bind fun a => loopL bb s a.1 a.2 := rfl
@[simp] theorem v_asg {bb : B1} : sAsg p bb ρ = (p ρ).bind fun a => (cap a.1 a.2).bind fun c => (bb c.1.d c.2).map .nx := rfl
@[simp] theorem v_kept1 : (C.ro d).kept = true := rfl
@[simp] theorem v_kept2 : (C.own d).kept = true := rfl
@[simp] theorem v_keptL0 : keptL [] = true := rfl
@[simp] theorem v_keptL {cs : List C} : keptL (c :: cs) = (c.kept && keptL cs) := rfl
@[simp] theorem v_tup : pTup ps ρ = (ps ρ).bind fun a => if (keptL a.1 && szOk a.1.length) = true then some (.ro (.tup (a.1.map C.d)), a.2) else none := id rfl
@[simp] theorem v_lst : pLst ps ρ = (ps ρ).bind fun a => if (keptL a.1 && szOk a.1.length) = true then some (.own (.lst (a.1.map C.d)), a.2) else none := id rfl
@[simp] theorem v_oNone : oNone ρ = some (none, ρ) := rfl
def oC (ρ : Env) : C → Option (Option Int × Env)
  | .ro (.int i) => some (some i, ρ)
  | _ => none
@[simp] theorem v_oSome : oSome p ρ = (p ρ).bind fun a => oC a.2 a.1 := by
  show ((p ρ).bind fun a => match a.1 with | .ro (.int i) => some (some i, a.2) | _ => none) = _
  congr 1
@[simp] theorem v_oC {k : Int} : oC ρ (.ro (.int k)) = some (some k, ρ) := rfl
@[simp] theorem v_sl {lo hi : PO1} : pSl p lo hi ρ = (p ρ).bind fun a => (lo a.2).bind fun l => (hi l.2).bind fun h => (dat h.2 a.1).bind fun d => (D.slice d l.1 h.1).map fun c => (c, h.2) := rfl
@[simp] theorem v_call {f : List D → Option C} : pCall f ps ρ = (ps ρ).bind fun a => (dats a.2 a.1).bind fun ds => (f ds).bind fun c => if (keptL a.1 || c.clean) = true then some (c, a.2) else none := rfl
def ioC : Option (Option C) → Option (Bool × D)
  | some (some (.own d)) => some (false, d)
  | some (some (.io d)) => some (true, d)
  | _ => none
@[simp] theorem v_ioC1 : ioC (some (some (.own d))) = some (false, d) := rfl
@[simp] theorem v_ioC2 : ioC (some (some (.io d))) = some (true, d) := rfl
@[simp] theorem v_ioData : ioData ρ i = ioC ρ[i]? := by
  unfold ioData ioC; rfl
@[simp] theorem v_ioCell1 : ioCell true d = .io d := rfl
@[simp] theorem v_ioCell2 : ioCell false d = .own d := rfl
@[simp] theorem v_callIo {f : D → List D → Option (C × D)} : pCallIo f i ps ρ = (ioData ρ i).bind fun _ => (ps ρ).bind fun a => if keptL a.1 = true then (ioData a.2 i).bind fun d => (f d.2 (a.1.map C.d)).map fun r => (r.1, a.2.set i (some (ioCell d.1 r.2))) else none := rfl
def mutC (op : List D → List D → Option (List D × D)) (j : Nat) (ps : PAs) (ρ : Env) : Option (Bool × D) → Option (C × Env)
  | some (_, .lst _) => pCallIo (liftL op) j ps ρ
  | _ => none
@[simp] theorem v_mut {op : List D → List D → Option (List D × D)} : pMutL op i ps ρ = mutC op i ps ρ (ioData ρ i) := by
  unfold pMutL mutC; rfl
@[simp] theorem v_mutC {op : List D → List D → Option (List D × D)} {l : List D} : mutC op i ps ρ (some (b, .lst l)) = pCallIo (liftL op) i ps ρ := rfl
@[simp] theorem v_liftL {op : List D → List D → Option (List D × D)} {l ds : List D} : liftL op (.lst l) ds = (op l ds).map fun r => (.ro r.2, .lst r.1) := rfl
@[simp] theorem v_append {l : List D} : opAppend l [y] = if decide (l.length < sizeLine) = true then some (l ++ [y], .non) else none := id rfl
@[simp] theorem v_pop {l : List D} : opPop l [] = (l[l.length - 1]?).map fun y => (l.dropLast, y) := rfl
def siC (b : D) (ρ : Env) (j : Nat) (d : Bool × D) (i : C) : Option Out := match i, d.2 with
  | .ro (.int k), .lst l => (ixN l.length k).map fun m => .nx (ρ.set j (some (ioCell d.1 (.lst (l.set m b)))))
  | _, _ => none
@[simp] theorem v_setIx {pi : P1} : sSetIx i p pi ρ = (p ρ).bind fun a => (cap a.1 a.2).bind fun b => (ioData b.2 i).bind fun _ => (pi b.2).bind fun k => (ioData k.2 i).bind fun d => siC b.1.d k.2 i d k.1 := by
  unfold sSetIx siC; rfl
@[simp] theorem v_siC {k : Int} {l : List D} {bb : Bool} : siC d ρ i (bb, .lst l) (.ro (.int k)) = (ixN l.length k).map fun m => .nx (ρ.set i (some (ioCell bb (.lst (l.set m d))))) := rfl
def auC2 (ρ : Env) (j : Nat) (k : Int) (c : C) (d2 : Bool × D) : Option Out := match c, d2.2 with
  | .ro z, .lst l2 => (ixN l2.length k).map fun m => .nx (ρ.set j (some (ioCell d2.1 (.lst (l2.set m z)))))
  | _, _ => none
@[simp] theorem v_auC2 {k : Int} {l : List D} {bb : Bool} : auC2 ρ i k (.ro d) (bb, .lst l) = (ixN l.length k).map fun m => .nx (ρ.set i (some (ioCell bb (.lst (l.set m d))))) := rfl
def auC (f : D → D → Option C) (p : P1) (ρ : Env) (j : Nat) (i : C) (d : D) : Option Out := match i, d with
  | .ro (.int k), .lst l => (atI l k).bind fun x => (p ρ).bind fun b => (dat b.2 b.1).bind fun y => (f x y).bind fun c => (ioData b.2 j).bind fun d2 => auC2 b.2 j k c d2
  | _, _ => none
@[simp] theorem v_auC {f : D → D → Option C} {k : Int} {l : List D} : auC f p ρ i (.ro (.int k)) (.lst l) = (atI l k).bind fun x => (p ρ).bind fun b => (dat b.2 b.1).bind fun y => (f x y).bind fun c => (ioData b.2 i).bind fun d2 => auC2 b.2 i k c d2 := rfl
@[simp] theorem v_augIx {f : D → D → Option C} {pi : P1} : sAugIx f i pi p ρ = (ioData ρ i).bind fun _ => (pi ρ).bind fun k => (ioData k.2 i).bind fun d => auC f p k.2 i k.1 d.2 := by
  unfold sAugIx auC auC2; rfl
def agC (f : D → D → Option C) (i : Nat) (p : P1) (ρ : Env) : Option (Option C) → Option Out
  | some (some (.ro x)) => (p ρ).bind fun b => (dat b.2 b.1).bind fun y => (f x y).bind fun c => (setE i c b.2).map .nx
  | _ => none
@[simp] theorem v_aug {f : D → D → Option C} : sAug f i p ρ = agC f i p ρ ρ[i]? := by unfold sAug agC; rfl
@[simp] theorem v_agC {f : D → D → Option C} : agC f i p ρ (some (some (.ro x))) = (p ρ).bind fun b => (dat b.2 b.1).bind fun y => (f x y).bind fun c => (setE i c b.2).map .nx := rfl
@[simp] theorem v_pLc {it : I1} {vs : List Nat} {bb : B1} : pLc it vs bb q p ρ = (it ρ).bind fun a => if szOk a.1.length = true then (loopC vs bb q p a.1 (forget vs a.2)).map fun r => (.own (.lst r.1), r.2) else none := rfl
@[simp] theorem v_forget0 : forget [] ρ = ρ := rfl
@[simp] theorem v_forget {vs : List Nat} : forget (i :: vs) ρ = forget vs (ρ.set i none) := rfl
@[simp] theorem v_zip {e1 e2 : P1} : iZip (pCons e1 (pCons e2 pNil)) ρ = (e1 ρ).bind fun a => (e2 a.2).bind fun b => if (a.1.kept && b.1.kept && (a.1.d.isLst && b.1.d.isLst || a.1.d.isTup && b.1.d.isTup)) = true then (D.items a.1.d).bind fun xs => (D.items b.1.d).map fun ys => (zipD xs ys, b.2) else none := by
  unfold iZip
  cases h : e1 ρ with
  | none => simp [h]
  | some a =>
    cases h2 : e2 a.2 with
    | none => simp [h, h2]
    | some b => simp [h, h2]
@[simp] theorem v_isL {l : List D} : (D.lst l).isLst = true := rfl
def m1C (f : List D → Option C) (x : D) (r : C × Env) : Option (C × Env) := (dat r.2 r.1).bind fun y => (f [x, y]).map fun c => (c, r.2)
/-! operations -/
@[simp] theorem o_addI {i j : Int} : D.add (.int i) (.int j) = some (.ro (.int (i + j))) := rfl
@[simp] theorem o_addS {i j : Str} : D.add (.str i) (.str j) = if szOk (i.length + j.length) = true then some (.ro (.str (i ++ j))) else none := id rfl
@[simp] theorem o_addL {i j : List D} : D.add (.lst i) (.lst j) = if szOk (i.length + j.length) = true then some (.own (.lst (i ++ j))) else none := id rfl
@[simp] theorem o_addT {i j : List D} : D.add (.tup i) (.tup j) = if szOk (i.length + j.length) = true then some (.ro (.tup (i ++ j))) else none := id rfl
@[simp] theorem o_iaddI {i j : Int} : D.iadd (.int i) (.int j) = some (.ro (.int (i + j))) := rfl
@[simp] theorem o_iaddS {i j : Str} : D.iadd (.str i) (.str j) = if szOk (i.length + j.length) = true then some (.ro (.str (i ++ j))) else none := id rfl
@[simp] theorem o_sub {i j : Int} : D.sub (.int i) (.int j) = some (.ro (.int (i - j))) := rfl
@[simp] theorem o_mul {i j : Int} : D.mul (.int i) (.int j) = if (decide (i.natAbs < 2 ^ 64) || decide (j.natAbs < 2 ^ 64)) = true then some (.ro (.int (i * j))) else none := id rfl
@[simp] theorem o_fdiv {i j : Int} : D.fdiv (.int i) (.int j) = if (decide (0 < j) && decide (j.natAbs < 2 ^ 64)) = true then some (.ro (.int (i / j))) else none := id rfl
@[simp] theorem o_mod {i j : Int} : D.mod (.int i) (.int j) = if decide (0 < j) = true then some (.ro (.int (i % j))) else none := rfl
@[simp] theorem o_pow {i j : Int} : D.pow (.int i) (.int j) = if (decide (0 ≤ j) && decide (j ≤ 1000) && decide (0 ≤ i) && decide (i.natAbs < 2 ^ 64)) = true then some (.ro (.int (i ^ j.toNat))) else none := id rfl
@[simp] theorem o_neg {i : Int} : D.neg (.int i) = some (.ro (.int (-i))) := rfl
@[simp] theorem o_eq : D.eq x y = (D.eqB x y).map fun b => .ro (.bl b) := rfl
@[simp] theorem o_ne : D.ne x y = (D.eqB x y).map fun b => .ro (.bl (!b)) := rfl
@[simp] theorem o_eqI {i j : Int} : D.eqB (.int i) (.int j) = some (decide (i = j)) := by simp [D.eqB]
@[simp] theorem o_eqS {i j : Str} : D.eqB (.str i) (.str j) = some (decide (i = j)) := by simp [D.eqB]
@[simp] theorem o_eqB {i j : Bool} : D.eqB (.bl i) (.bl j) = some (decide (i = j)) := by simp [D.eqB]
@[simp] theorem o_ltI {i j : Int} : D.lt (.int i) (.int j) = some (.ro (.bl (decide (i < j)))) := rfl
@[simp] theorem o_ltS {i j : Str} : D.lt (.str i) (.str j) = some (.ro (.bl (decide (i.cps.toList < j.cps.toList)))) := rfl
@[simp] theorem o_le {i j : Int} : D.le (.int i) (.int j) = some (.ro (.bl (decide (i ≤ j)))) := rfl
@[simp] theorem o_gt {i j : Int} : D.gt (.int i) (.int j) = some (.ro (.bl (decide (j < i)))) := rfl
@[simp] theorem o_ge {i j : Int} : D.ge (.int i) (.int j) = some (.ro (.bl (decide (j ≤ i)))) := rfl
@[simp] theorem o_isNone : D.isNone x .non = some (.ro (.bl x.isN)) := rfl
@[simp] theorem o_isNotNone : D.isNotNone x .non = some (.ro (.bl (!x.isN))) := rfl
@[simp] theorem o_ixL {l : List D} {i : Int} : D.ix (.lst l) (.int i) = (atI l i).map .ro := rfl
@[simp] theorem o_ixT {l : List D} {i : Int} : D.ix (.tup l) (.int i) = (atI l i).map .ro := rfl
@[simp] theorem o_ixS {z : Str} {i : Int} : D.ix (.str z) (.int i) = if szOk z.length = true then (atI z.cps.toList i).map fun c => .ro (.str ⟨#[c]⟩) else none := id rfl
@[simp] theorem o_lenL {l : List D} : D.len [.lst l] = some (.ro (.int l.length)) := rfl
@[simp] theorem o_lenT {l : List D} : D.len [.tup l] = some (.ro (.int l.length)) := rfl
@[simp] theorem o_lenS {z : Str} : D.len [.str z] = if szOk z.length = true then some (.ro (.int z.length)) else none := id rfl
@[simp] theorem o_toInt {i : Int} : D.toInt [.int i] = some (.ro (.int i)) := rfl
@[simp] theorem o_toListL {l : List D} : D.toList [.lst l] = some (.own (.lst l)) := rfl
@[simp] theorem o_toListT {l : List D} : D.toList [.tup l] = some (.own (.lst l)) := rfl
@[simp] theorem o_toListS {l : List Int} : D.toList [.scr l] = some (.own (.lst (l.map .int))) := rfl
@[simp] theorem o_toTupL {l : List D} : D.toTup [.lst l] = some (.ro (.tup l)) := rfl
@[simp] theorem o_slL {l : List D} {lo hi : Option Int} : D.slice (.lst l) lo hi = some (.own (.lst (cutD l lo hi))) := rfl
@[simp] theorem o_slT {l : List D} {lo hi : Option Int} : D.slice (.tup l) lo hi = some (.ro (.tup (cutD l lo hi))) := rfl
@[simp] theorem o_slS {z : Str} {lo hi : Option Int} : D.slice (.str z) lo hi = if szOk z.length = true then some (.ro (.str (cutS z lo hi))) else none := id rfl
@[simp] theorem o_tr1 : D.truth .non = some false := rfl
@[simp] theorem o_tr2 : D.truth (.bl b) = some b := rfl
@[simp] theorem o_tr3 {i : Int} : D.truth (.int i) = some (i != 0) := rfl
@[simp] theorem o_tr4 {s : Str} : D.truth (.str s) = if szOk s.length = true then some ((s.length : Int) != 0) else none := id rfl
@[simp] theorem o_tr5 {l : List D} : D.truth (.lst l) = some (!l.isEmpty) := rfl
@[simp] theorem o_tr6 {l : List D} : D.truth (.tup l) = some (!l.isEmpty) := rfl
@[simp] theorem o_inL {l : List D} : D.isIn x (.lst l) = (D.inS x l).map fun b => .ro (.bl b) := rfl
@[simp] theorem o_inT {l : List D} : D.isIn x (.tup l) = (D.inS x l).map fun b => .ro (.bl b) := rfl
@[simp] theorem o_ninL {l : List D} : D.notIn x (.lst l) = (D.inS x l).map fun b => .ro (.bl (!b)) := rfl
@[simp] theorem o_ninT {l : List D} : D.notIn x (.tup l) = (D.inS x l).map fun b => .ro (.bl (!b)) := rfl
@[simp] theorem o_sz : szOk n = decide (n ≤ 16777216) := id rfl
@[simp] theorem o_szL : sizeLine = 16777216 := id rfl
@[simp] theorem o_isI : D.isInst [x, .ty "int"] = (D.tyName x).map fun m => .ro (.bl (m = "int" || m = "bool")) := by
  show (D.tyName x).bind _ = _
  cases D.tyName x <;> rfl
@[simp] theorem o_isB : D.isInst [x, .ty "bool"] = (D.tyName x).map fun m => .ro (.bl (decide (m = "bool"))) := by
  show (D.tyName x).bind _ = _
  cases D.tyName x <;> rfl
@[simp] theorem o_isS : D.isInst [x, .ty "str"] = (D.tyName x).map fun m => .ro (.bl (decide (m = "str"))) := by
  show (D.tyName x).bind _ = _
  cases D.tyName x <;> rfl
@[simp] theorem o_isT : D.isInst [x, .ty "tuple"] = (D.tyName x).map fun m => .ro (.bl (decide (m = "tuple"))) := by
  show (D.tyName x).bind _ = _
  cases D.tyName x <;> rfl
@[simp] theorem o_isL : D.isInst [x, .ty "list"] = (D.tyName x).map fun m => .ro (.bl (decide (m = "list"))) := by
  show (D.tyName x).bind _ = _
  cases D.tyName x <;> rfl
@[simp] theorem o_isD : D.isInst [x, .ty "dict"] = (D.tyName x).map fun m => .ro (.bl (decide (m = "dict"))) := by
  show (D.tyName x).bind _ = _
  cases D.tyName x <;> rfl
@[simp] theorem o_ty1 : D.tyName .non = some "NoneType" := rfl
@[simp] theorem o_ty2 : D.tyName (.bl b) = some "bool" := rfl
@[simp] theorem o_ty3 {i : Int} : D.tyName (.int i) = some "int" := rfl
@[simp] theorem o_ty4 {s : Str} : D.tyName (.str s) = some "str" := rfl
@[simp] theorem o_ty5 {l : List D} : D.tyName (.tup l) = some "tuple" := rfl
@[simp] theorem o_ty6 {l : List D} : D.tyName (.lst l) = some "list" := rfl
@[simp] theorem o_n1 : D.isN .non = true := rfl
@[simp] theorem o_n2 : D.isN (.bl b) = false := rfl
@[simp] theorem o_n3 {i : Int} : D.isN (.int i) = false := rfl
@[simp] theorem o_n4 {s : Str} : D.isN (.str s) = false := rfl
@[simp] theorem o_n5 {l : List D} : D.isN (.tup l) = false := rfl
@[simp] theorem o_n6 {l : List D} : D.isN (.lst l) = false := rfl
end
/-! indexing -/
theorem atI_nat {α : Type} {l : List α} {k : Nat} (h : k < l.length) : atI l (k : Int) = l[k]? := by
  unfold atI ixN
  rw [if_pos (by omega), if_pos (by omega)]; simp
theorem ixN_nat {n k : Nat} (h : k < n) : ixN n (k : Int) = some k := by
  unfold ixN
  rw [if_pos (by omega), if_pos (by omega)]; simp
/-! loops -/
theorem loop_inv {b : B1} {s : S1} (I : Nat → Env → Prop) {items : List D} {ρ0 : Env} (h0 : I 0 ρ0)
    (step : ∀ k d ρ, k < items.length → items[k]? = some d → I k ρ → ∃ ρ2, ((b d ρ).bind fun ρ1 => s ρ1) = some (.nx ρ2) ∧ I (k + 1) ρ2) : ∃ ρ', loopL b s items ρ0 = some (.nx ρ') ∧ I items.length ρ' := by
  induction items generalizing I ρ0 with
  | nil => exact ⟨ρ0, rfl, h0⟩
  | cons d ds ih =>
    obtain ⟨ρ2, e, h2⟩ := step 0 d ρ0 (by simp) rfl h0
    obtain ⟨ρ', e', h'⟩ := ih (fun k => I (k + 1)) h2 fun k d' ρ hk hd hI => step (k + 1) d' ρ (by simpa using hk) (by simpa using hd) hI
    refine ⟨ρ', ?_, h'⟩
    show ((b d ρ0).bind fun ρ1 => (s ρ1).bind _) = _
    rw [Option.bind_eq_some_iff] at e
    obtain ⟨ρ1, eb, es⟩ := e
    rw [eb]; show (s ρ1).bind _ = _
    rw [es]; exact e'
theorem range_len {lo : Int} {n : Nat} : (rangeD lo n).length = n := by simp [rangeD]
theorem range_get {lo : Int} {n k : Nat} {d : D} (h : (rangeD lo n)[k]? = some d) : d = .int (lo + k) ∧ k < n := by
  unfold rangeD at h
  rw [List.getElem?_map] at h
  by_cases hk : k < n
  · rw [List.getElem?_range hk] at h; cases h; exact ⟨rfl, hk⟩
  · rw [List.getElem?_eq_none (by simpa using hk)] at h; cases h
/-- for k in range(n) -/
theorem loop_rng {b : B1} {s : S1} (I : Nat → Env → Prop) {n : Nat} {ρ0 : Env} (h0 : I 0 ρ0)
    (step : ∀ (k : Nat) ρ, k < n → I k ρ → ∃ ρ2, ((b (.int k) ρ).bind fun ρ1 => s ρ1) = some (.nx ρ2) ∧ I (k + 1) ρ2) : ∃ ρ', loopL b s (rangeD 0 n) ρ0 = some (.nx ρ') ∧ I n ρ' := by
  have := loop_inv (b := b) (s := s) I (items := rangeD 0 n) h0 fun k d ρ hk hd hI => by
    obtain ⟨rfl, hk⟩ := range_get hd
    rw [show (0 : Int) + (k : Nat) = (k : Nat) by omega]
    exact step k ρ hk hI
  rwa [range_len] at this
end Dn

/-! sorted(list), min, max, abs, str(int), is True, a, b = x, y -/
namespace Dn
open PySem PySem.Spec PyProof.Rows L2
mutual
/-- data that can be compared -/
def D.py : D → Option PyData
  | .non => some .none
  | .bl b => some (.bool b)
  | .int i => some (.int i)
  | .str s => some (.str s)
  | .tup xs => (D.pyL xs).map .tuple
  | _ => none
def D.pyL : List D → Option (List PyData)
  | [] => some []
  | x :: xs => match D.py x, D.pyL xs with
    | some y, some ys => some (y :: ys)
    | _, _ => none
end
def D.pyD (d : D) : PyData := (D.py d).getD .none
def D.leB (x y : D) : Bool := PySem.W.dataLe false D.pyD x y
def isTupP : PyData → Bool
  | .tuple (_ :: _) => true
  | _ => false
def isAtP : PyData → Bool
  | .tuple _ => false
  | .none => false
  | _ => true
def D.srtOk (ds : List D) : Bool := szOk ds.length && ds.all (fun d => (D.py d).isSome && decide ((D.pyD d).depth ≤ 8)) && ds.all (fun x => ds.all fun y => PySem.W.alike (D.pyD x) (D.pyD y)) &&
  (ds.all (fun d => isTupP (D.pyD d)) || ds.all fun d => isAtP (D.pyD d))
def D.sorted : List D → Option C
  | [.lst ds] => if D.srtOk ds = true then some (.own (.lst (ds.mergeSort D.leB))) else none
  | _ => none
section
variable {X : Cx} {pins : List (Addr × Obj)} {σ : L2.St} {H : Hp} {s : Shared} {N : Addr → Prop}
mutual
theorem rep_reads (I : Inv X pins σ H s) : ∀ (d : D) (v : V) (u : Value) (p : PyData), Rep X.kw N H v d → D.py d = some p → RelV v u → ∃ as, Reads s.heap u p as
  | .non, v, u, p, r, e, ru => by
    cases r; simp only [D.py] at e; cases e; cases (show u = Value.none from ru); exact ⟨_, .none⟩
  | .bl b, v, u, p, r, e, ru => by
    cases r; simp only [D.py] at e; cases e; cases (show u = Value.bool b from ru); exact ⟨_, .bool _⟩
  | .int i, v, u, p, r, e, ru => by
    cases r; simp only [D.py] at e; cases e; obtain ⟨t, rfl⟩ := ru; exact ⟨_, .int _ _⟩
  | .str x, v, u, p, r, e, ru => by
    cases r; simp only [D.py] at e; cases e; obtain ⟨t, rfl⟩ := ru; exact ⟨_, .str _ _⟩
  | .tup xs, v, u, p, r, e, ru => by
    cases r with
    | @tup a vs _ hq hl =>
      simp only [D.py, Option.map_eq_some_iff] at e
      obtain ⟨ps, e1, rfl⟩ := e
      cases (show u = Value.ref a from ru)
      obtain ⟨its, rv, ⟨o, ho, hc, n, hd⟩, hz⟩ := I.tuple hq.t
      obtain ⟨as, ra⟩ := rep_readsL I xs vs its ps hl e1 rv
      exact ⟨as, .tuple ho hc hd (by simpa using ra)⟩
  | .lst xs, v, u, p, r, e, ru => by simp [D.py] at e
  | .dct xs, v, u, p, r, e, ru => by simp [D.py] at e
  | .dtt xs, v, u, p, r, e, ru => by simp [D.py] at e
  | .fdc xs, v, u, p, r, e, ru => by simp [D.py] at e
  | .scr xs, v, u, p, r, e, ru => by simp [D.py] at e
  | .ty xs, v, u, p, r, e, ru => by simp [D.py] at e
theorem rep_readsL (I : Inv X pins σ H s) : ∀ (ds : List D) (vs : List V) (us : List Value) (ps : List PyData), RepL X.kw N H vs ds → D.pyL ds = some ps → Vals vs us → ∃ as, ReadsAll s.heap us ps as
  | [], vs, us, ps, r, e, ru => by
    cases r; cases ru; simp only [D.pyL] at e; cases e; exact ⟨_, .nil⟩
  | d :: ds, vs, us, ps, r, e, ru => by
    cases r with
    | cons r1 r2 =>
      cases ru with
      | cons u1 u2 =>
        simp only [D.pyL] at e
        cases e1 : D.py d with
        | none => rw [e1] at e; cases e
        | some y =>
          cases e2 : D.pyL ds with
          | none => rw [e1, e2] at e; cases e
          | some ys =>
            rw [e1, e2] at e; cases e
            obtain ⟨as, h1⟩ := rep_reads I d _ _ y r1 e1 u1
            obtain ⟨bs, h2⟩ := rep_readsL I ds _ _ ys r2 e2 u2
            exact ⟨_, .cons h1 h2⟩
end
theorem isTupP_ok {p : PyData} (h : isTupP p = true) : ∃ x r, p = .tuple (x :: r) := by
  unfold isTupP at h; split at h
  · exact ⟨_, _, rfl⟩
  · cases h
theorem isAtP_ok {p : PyData} (h : isAtP p = true) : p ≠ .none ∧ ∀ xs, p ≠ .tuple xs := by
  unfold isAtP at h
  constructor
  · rintro rfl; simp at h
  · rintro xs rfl; simp at h
theorem each_zip {R : Value → V × D → Prop} : ∀ {vs : List V} {ds : List D} {us : List Value}, RepL X.kw N H vs ds → Vals vs us → (∀ v d u, Rep X.kw N H v d → RelV v u → (v, d) ∈ vs.zip ds → R u (v, d)) → PySem.W.EachIs R us (vs.zip ds)
  | _, _, _, .nil, .nil, _ => .nil
  | _, _, _, .cons r1 r2, .cons u1 u2, h => .cons (h _ _ _ r1 u1 (List.mem_cons_self ..)) (each_zip r2 u2 fun v d u a b m => h v d u a b (List.mem_cons_of_mem _ m))
theorem vals_each : ∀ {us : List Value} {bs : List (V × D)}, PySem.W.EachIs (fun u b => RelV b.1 u) us bs → Vals (bs.map (·.1)) us
  | _, _, .nil => .nil
  | _, _, .cons h t => .cons h (vals_each t)
theorem repL_mem : ∀ {vs : List V} {ds : List D}, RepL X.kw N H vs ds → ∀ p ∈ vs.zip ds, Rep X.kw N H p.1 p.2
  | _, _, .nil, p, h => by simp at h
  | _, _, .cons r1 r2, p, h => by
    simp only [List.zip_cons_cons, List.mem_cons] at h
    rcases h with rfl | h
    · exact r1
    · exact repL_mem r2 p h
theorem repL_of : ∀ {bs : List (V × D)}, (∀ p ∈ bs, Rep X.kw N H p.1 p.2) → RepL X.kw N H (bs.map (·.1)) (bs.map (·.2))
  | [], _ => .nil
  | b :: bs, h => .cons (h b (List.mem_cons_self ..)) (repL_of fun p hp => h p (List.mem_cons_of_mem _ hp))
theorem zip_snd {α β : Type} : ∀ {as : List α} {bs : List β}, as.length = bs.length → (as.zip bs).map (·.2) = bs
  | [], [], _ => rfl
  | a :: as, b :: bs, h => by simp [zip_snd (as := as) (bs := bs) (by simpa using h)]
  | [], _ :: _, h => by simp at h
  | _ :: _, [], h => by simp at h
/-- sorted(xs) -/
def rSortedD (X : Cx) : List V → Hp → VK → Prop := fun vs H Q => ∃ (a : Addr) (xs : List V) (ds : List D) (N : Addr → Prop), vs = [V.ref a] ∧ SqL X.K H a xs ∧ RepL X.kw N H xs ds ∧ D.srtOk ds = true ∧
  ∀ (xs' : List V) (p : Addr), RepL X.kw N H xs' (ds.mergeSort D.leB) → H p = none → Q (.ref p) (upd H p (.lst xs'))
theorem cr_sortedD (hu : X.A.units + 64 < cLine) : CallR X (.builtin "sorted") (rSortedD X) := by
  intro pins s σ H vs us Q I r h
  obtain ⟨a, xs, ds, N, rfl, hs, hr, ok, q⟩ := h
  obtain ⟨its, rv, hl, hz⟩ := I.list hs
  rw [Vals.ref1 r]
  simp only [D.srtOk, Bool.and_eq_true, Bool.or_eq_true, List.all_eq_true, decide_eq_true_eq] at ok
  obtain ⟨⟨⟨hsz, hpy⟩, hal⟩, hk⟩ := ok
  have hlen := hr.length
  have hmem : ∀ b ∈ xs.zip ds, b.2 ∈ ds := fun b hb => (List.of_mem_zip hb).2
  have e1 : PySem.W.EachIs (fun u b => RelV b.1 u) its (xs.zip ds) := each_zip (R := fun u b => RelV b.1 u) hr rv fun _ _ _ _ h _ => h
  have er : PySem.W.EachIs (fun u (b : V × D) => ∃ as, Reads s.heap u (D.pyD b.2) as) its (xs.zip ds) := each_zip (R := fun u (b : V × D) => ∃ as, Reads s.heap u (D.pyD b.2) as) hr rv fun v d u h1 h2 hm => by
    obtain ⟨p, hp⟩ := Option.isSome_iff_exists.mp (hpy d (hmem _ hm)).1
    have : D.pyD d = p := by unfold D.pyD; rw [hp]; rfl
    show ∃ as, Reads s.heap u (D.pyD d) as
    rw [this]
    exact rep_reads I d v u p h1 hp h2
  refine PySem.W.sorted_data (enc := fun b : V × D => D.pyD b.2) hl.isList e1 er ?_ ?_ ?_ ?_ ?_
  · intro d hd d' hd'
    obtain ⟨b, hb, rfl⟩ := List.mem_map.mp hd
    obtain ⟨b', hb', rfl⟩ := List.mem_map.mp hd'
    exact hal _ (hmem b hb) _ (hmem b' hb')
  · rcases hk with hk | hk
    · left; intro d hd
      obtain ⟨b, hb, rfl⟩ := List.mem_map.mp hd
      exact isTupP_ok (hk _ (hmem b hb))
    · right; intro d hd
      obtain ⟨b, hb, rfl⟩ := List.mem_map.mp hd
      exact isAtP_ok (hk _ (hmem b hb))
  · rw [List.length_zip]
    have := szOk_le hsz
    omega
  · intro b hb
    have := (hpy _ (hmem b hb)).2
    omega
  · intro out ho eo
    obtain ⟨ep, he'⟩ := PyProof.Rows.sortedAll_at s.heap its out.toArray
    have hv := vals_each eo
    have hml : ((xs.zip ds).mergeSort (PySem.W.dataLe false fun b : V × D => D.pyD b.2)).length = (xs.zip ds).length := List.length_mergeSort _
    have hlen2 : (((xs.zip ds).mergeSort (PySem.W.dataLe false fun b : V × D => D.pyD b.2)).map (·.1)).length ≤ sizeLine := by
      rw [List.length_map, hml, List.length_zip]
      have := szOk_le hsz
      omega
    have hrep : RepL X.kw N H (((xs.zip ds).mergeSort (PySem.W.dataLe false fun b : V × D => D.pyD b.2)).map (·.1)) (ds.mergeSort D.leB) := by
      have h1 := repL_of (X := X) (N := N) (H := H) (bs := (xs.zip ds).mergeSort (PySem.W.dataLe false fun b : V × D => D.pyD b.2)) fun p hp => repL_mem hr p ((List.mergeSort_perm _ _).mem_iff.mp hp)
      have h2 : ((xs.zip ds).mergeSort (PySem.W.dataLe false fun b : V × D => D.pyD b.2)).map (·.2) = ds.mergeSort D.leB := by
        refine (List.map_mergeSort (r := PySem.W.dataLe false fun b : V × D => D.pyD b.2) (s := D.leB) (f := fun x : V × D => x.2) (fun a _ b _ => rfl)).trans ?_
        rw [zip_snd hlen]
      rw [h2] at h1
      exact h1
    exact ⟨.ref _, upd H (s.heap.objs.size + 1) (.lst _), I.laid (t' := s.toks) (fun _ _ => PyProof.Rows.sortedAll_old) (Nat.le_succ _) ⟨hlen2, out, ep, hv, he'⟩, rfl, q _ _ hrep (I.hok.fresh (Nat.le_succ _))⟩
theorem s_sorted (hK' : X.K = X.K) : FunS X.kw (rSortedD X) D.sorted := by
  intro N H vs ds c Q r e k
  unfold D.sorted at e
  split at e
  · split at e
    · rename_i hz
      cases e
      cases r with
      | cons rx r => cases r; obtain ⟨a, vs, rfl, h1, r1⟩ := rx.lst; exact ⟨_, _, _, _, rfl, SqL.of h1, r1, hz, fun xs' p hr hp => ret_lst hp hr k⟩
    · cases e
  · cases e
end
section
variable {X : Cx} {F : Fr} {W : List Nat} {e a b : Expr} {pos : Pos} {p pa pb : P1} {ps : PAs}
theorem de_sorted {pp : Pos} (hK : F.K = X.kw) (hu : X.A.units + 64 < cLine) (hg : Gl X "sorted") (hm : X.mg "sorted" = none) (ha : PA X [e] (tDA F ps)) (h1 : starEach [e] X.env = (false, eval e X.env) :: starEach [] X.env := by rfl) (h2 : (backTo pos (starEach [] X.env)).any (·.1) = false := by rfl) : PE X (.Call (.Name "sorted" pp) [e] [] pos) (tD F (pFun D.sorted ps)) :=
  PE.imp (pe_callB (cr_sortedD hu) hg hm boot_sorted ha (he := h1) (hpl := h2)) fun σ H Q hw => fun_of (by rw [hK]; exact s_sorted rfl) hw
def D.max2 : List D → Option C
  | [.int i, .int j] => some (.ro (.int (if j > i then j else i)))
  | _ => none
def D.min2 : List D → Option C
  | [.int i, .int j] => some (.ro (.int (if j < i then j else i)))
  | _ => none
theorem s_max2 {K : KW} : FunS K (fun xs H Q => ∃ i j, xs = [V.int i, V.int j] ∧ Q (.int (if j > i then j else i)) H) D.max2 := by
  intro N H vs ds c Q r e k
  unfold D.max2 at e
  split at e
  · cases e
    cases r with
    | cons r1 r => cases r with
      | cons r2 r => cases r; exact ⟨_, _, by rw [r1.int, r2.int], ret_int k⟩
  · cases e
theorem s_min2 {K : KW} : FunS K (fun xs H Q => ∃ i j, xs = [V.int i, V.int j] ∧ Q (.int (if j < i then j else i)) H) D.min2 := by
  intro N H vs ds c Q r e k
  unfold D.min2 at e
  split at e
  · cases e
    cases r with
    | cons r1 r => cases r with
      | cons r2 r => cases r; exact ⟨_, _, by rw [r1.int, r2.int], ret_int k⟩
  · cases e
theorem de_max2 {pp : Pos} (hc : X.calm = true) (hg : Gl X "max") (hm : X.mg "max" = none) (ha : PA X [a, b] (tDA F ps)) (h1 : starEach [a, b] X.env = (false, eval a X.env) :: starEach [b] X.env := by rfl) (h2 : (backTo pos (starEach [b] X.env)).any (·.1) = false := by rfl) : PE X (.Call (.Name "max" pp) [a, b] [] pos) (tD F (pFun D.max2 ps)) :=
  PE.imp (pe_callB (call_max2 hc) hg hm boot_max ha (he := h1) (hpl := h2)) fun σ H Q hw => fun_of s_max2 hw
theorem de_min2 {pp : Pos} (hc : X.calm = true) (hg : Gl X "min") (hm : X.mg "min" = none) (ha : PA X [a, b] (tDA F ps)) (h1 : starEach [a, b] X.env = (false, eval a X.env) :: starEach [b] X.env := by rfl) (h2 : (backTo pos (starEach [b] X.env)).any (·.1) = false := by rfl) : PE X (.Call (.Name "min" pp) [a, b] [] pos) (tD F (pFun D.min2 ps)) :=
  PE.imp (pe_callB (call_min2 hc) hg hm boot_min ha (he := h1) (hpl := h2)) fun σ H Q hw => fun_of s_min2 hw
/-! x is True, x is not True -/
def D.isBl : D → D → Option C
  | .bl a, .bl b => some (.ro (.bl (decide (a = b))))
  | _, _ => none
def D.notBl : D → D → Option C
  | .bl a, .bl b => some (.ro (.bl (!decide (a = b))))
  | _, _ => none
theorem s_isBl {K : KW} : Op2S K rIsB D.isBl := by
  intro N H x y dx dy c Q rx ry e k
  unfold D.isBl at e
  split at e
  · cases e; exact ⟨_, _, rx.bl, ry.bl, ret_bl k⟩
  · cases e
theorem s_notBl {K : KW} : Op2S K rNotB D.notBl := by
  intro N H x y dx dy c Q rx ry e k
  unfold D.notBl at e
  split at e
  · cases e; exact ⟨_, _, rx.bl, ry.bl, ret_bl k⟩
  · cases e
end
end Dn

/-! sorted(set(texts)) -/
namespace DnS
open PySem PySem.Spec PyProof.Rows L2
def txtOf (r : Int × Value) : Str := match r.2 with | .str x _ => x | _ => Str.empty
def IsTxt (W : World) (r : Int × Value) : Prop := ∃ x t, r.2 = Value.str x t ∧ r.1 = hashStr W x
/-- the set of texts at a -/
structure SetX (W : World) (h : Heap) (a : Addr) (S : Str → Bool) (n : Nat) (o : Obj) (es : Array (Int × Value)) (ep : Nat) (t : SetTable) : Prop where
  get : h.get? a = some o
  ex : o.ExactSet
  data : o.data = .set es ep t
  txt : ∀ r ∈ es.toList, IsTxt W r
  nd : (es.toList.map txtOf).Nodup
  mem : ∀ k, S k = true ↔ k ∈ es.toList.map txtOf
  room : es.size < scanBound
  fits : t.fits es.size = true
  size : es.size = n
  ris : Ris t.place.toList
  led : W.params.followText "set-order" = true ∨ t.led = true
def SetE (W : World) (h : Heap) (a : Addr) (S : Str → Bool) (n : Nat) : Prop := ∃ o es ep t, SetX W h a S n o es ep t
section
variable {P : Program} {W : World} {h h' : Heap} {a : Addr} {S : Str → Bool} {n : Nat}
theorem SetE.at (R : SetE W h a S n) (k : ∀ o, h.get? a = some o → h'.get? a = some o) : SetE W h' a S n :=
  let ⟨o, es, ep, t, x⟩ := R
  ⟨o, es, ep, t, k o x.get, x.ex, x.data, x.txt, x.nd, x.mem, x.room, x.fits, x.size, x.ris, x.led⟩
theorem SetE.congr {S' : Str → Bool} (R : SetE W h a S n) (e : ∀ k, S' k = S k) : SetE W h a S' n := by rw [show S' = S from funext e]; exact R
theorem txt_elems {l : List (Int × Value)} (g : ∀ r ∈ l, IsTxt W r) : ElemsOf (PySem.strKind P W) l := fun r hr =>
  let ⟨x, t, h1, h2⟩ := g r hr
  ⟨⟨x, by rw [h1]; exact strKind_is P W x t, h2⟩, by rw [h1] <;> rfl⟩
theorem txt_is {r : Int × Value} (g : IsTxt W r) (k : Str) : (PySem.strKind P W).is k r.2 = true ↔ txtOf r = k := by
  obtain ⟨x, t, h1, _⟩ := g
  unfold txtOf; rw [h1]
  show Value.isStrOf k (.str x t) = true ↔ x = k
  simp only [Value.isStrOf]
  first | exact beq_iff_eq | exact ⟨fun z => (beq_iff_eq.mp z).symm, fun z => beq_iff_eq.mpr z.symm⟩ | simp
theorem txt_mem {l : List (Int × Value)} (g : ∀ r ∈ l, IsTxt W r) (k : Str) : k ∈ l.map txtOf ↔ ∃ r ∈ l, (PySem.strKind P W).is k r.2 = true := by
  rw [List.mem_map]
  exact ⟨fun ⟨r, hr, q⟩ => ⟨r, hr, (txt_is (g r hr) k).2 q⟩, fun ⟨r, hr, q⟩ => ⟨r, hr, (txt_is (g r hr) k).1 q⟩⟩
theorem fresh_txt {h : Heap} {a : Addr} (ho : h.get? a = some { cls := .type "set", dict := none, data := .set #[] 0 (.fresh 0 0 (!W.params.followText "set-order")) }) : SetE W h a (fun _ => false) 0 :=
  ⟨_, #[], 0, _, ho, ⟨rfl, rfl, rfl⟩, rfl, (fun r hr => by simp at hr), (by simp), (fun k => by simp), (by decide), (by rfl), rfl, List.Pairwise.nil, by
    show _ ∨ (!W.params.followText "set-order") = true
    cases W.params.followText "set-order" <;> simp⟩
end
section
variable {P : Program} {W : World} {A : Around} {E : Value → Shared → Prop} {s : Shared} {a : Addr} {S : Str → Bool} {n : Nat}
theorem gave_ok (b : Bool) {s1 : Shared} {Q' : Unit → Shared → Prop} {nm : String} (q : Q' () s1) : wpAny (model P W) A (match b with | true => rule nm | false => pure ()) Q' E s1 := by cases b <;> first | exact wpAny_pure q | exact wpAny_rule q
theorem add_tail {gv : Bool → Sem Unit} (hgv : ∀ (b : Bool) (s1 : Shared) (Q' : Unit → Shared → Prop), Q' () s1 → wpAny (model P W) A (gv b) Q' E s1)
    {o : Obj} {es es1 : Array (Int × Value)} {ep : Nat} {t t2 : SetTable} {S' : Str → Bool} (ho : s.heap.get? a = some o) (hex : o.ExactSet) (hd : o.data = .set es ep t)
    (g1 : ∀ r ∈ es1.toList, IsTxt W r) (nd1 : (es1.toList.map txtOf).Nodup) (m1 : ∀ k, S' k = true ↔ k ∈ es1.toList.map txtOf)
    (hb1 : es1.size < scanBound) (hf2 : t2.fits es1.size = true) (hr : Ris t2.place.toList) (hl : W.params.followText "set-order" = true ∨ t2.led = true) {dum : Bool} {R : Option Bool → Shared → Prop}
    (hR : ∀ h', Heap.SameBut a s.heap h' → SetE W h' a S' es1.size → R (some true) { s with heap := h' }) :
    wpAny (model P W) A (do
        storeSet a es1 t2
        if (!dum && t2.tooFull) = true then do
            gv (relayAll t2 es1 (SetTable.grown es1.size)).2.2
            storeSet a (relayAll t2 es1 (SetTable.grown es1.size)).1 (relayAll t2 es1 (SetTable.grown es1.size)).2.1; pure (some true)
          else pure (some true)) R E s := by
  refine wpAny_bind (wpAny_storeSet_of ho hd ?_ (fits_of_scanBound hb1))
  have ha1 := store_at (es' := es1) (t' := t2) ho hd
  have sa1 := Heap.SameBut.update s.heap a (Obj.putSet es1 t2)
  split
  · have pm2 := relayAll_perm t2 es1 (SetTable.grown es1.size)
    have fit3 := relayAll_fits t2 es1 (SetTable.grown es1.size)
    have ris3 := relayAll_ris t2 es1 (SetTable.grown es1.size)
    have led3 := relayAll_led t2 es1 (SetTable.grown es1.size)
    generalize relayAll t2 es1 (SetTable.grown es1.size) = Y at pm2 fit3 ris3 led3 ⊢
    obtain ⟨es2, t3, gave⟩ := Y
    dsimp only at pm2 fit3 ris3 led3 ⊢
    have sz2 : es2.size = es1.size := by rw [← Array.length_toList, pm2.length_eq, Array.length_toList]
    have rm2 : es2.size < scanBound := sz2 ▸ hb1
    refine wpAny_bind (hgv _ _ _ (wpAny_bind (wpAny_storeSet_of ha1 rfl ?_ (fits_of_scanBound rm2))))
    have ha2 := store_at (es' := es2) (t' := t3) ha1 rfl
    exact wpAny_pure (hR _ (sa1.trans (Heap.SameBut.update _ a _)) ⟨_, es2, _, t3, ha2, hex, rfl, fun r hr' => g1 r (pm2.mem_iff.mp hr'), (pm2.map txtOf).nodup_iff.mpr nd1, fun k => (m1 k).trans (pm2.map txtOf).mem_iff.symm, rm2, fit3, sz2, ris3, hl.imp id fun z => led3.trans z⟩)
  · exact wpAny_pure (hR _ sa1 ⟨_, es1, _, t2, ha1, hex, rfl, g1, nd1, m1, hb1, hf2, rfl, hr, hl⟩)
theorem add_hashed {k : Str} {tk : Tok} {Q : Bool → Shared → Prop} (R : SetE W s.heap a S n) (room : n + 1 < scanBound)
    (hQ : ∀ h', Heap.SameBut a s.heap h' → SetE W h' a (fun j => S j || decide (j = k)) (if S k = true then n else n + 1) → Q (!S k) { s with heap := h' }) :
    wpAny (model P W) A (setAddHashed a (.str k tk) ((PySem.strKind P W).hash k)) Q E s := by
  obtain ⟨o, es, ep, t, x⟩ := R
  have kis : (PySem.strKind P W).is k (.str k tk) = true := strKind_is P W k tk
  have scn : (Value.str k tk).scannable = true := rfl
  have els : ElemsOf (PySem.strKind P W) es.toList := txt_elems x.txt
  unfold setAddHashed setAddHashedIn
  refine wpAny_holding (wpAny_bind (wpAny_setState_of x.get x.data x.fits ?_)); dsimp only
  rw [byScan_of scn x.room els]; simp only [↓reduceIte]
  unfold setAddByScan
  refine wpAny_bind (wpAny_bind (wpAny_rule (wpAny_bind (wpAny_setScan_of kis x.get x.data x.fits els ?_))))
  cases hfi : List.findIdx? (fun r => (PySem.strKind P W).is k r.2) es.toList with
  | some j =>
    dsimp only
    obtain ⟨hj, pj, _⟩ := List.findIdx?_eq_some_iff_getElem.mp hfi
    have isS : S k = true := (x.mem k).2 ((txt_mem (P := P) x.txt k).2 ⟨es.toList[j], List.getElem_mem hj, pj⟩)
    refine wpAny_pure (wpAny_pure ?_)
    have z := hQ s.heap (Heap.SameBut.refl a s.heap) ⟨o, es, ep, t, x.get, x.ex, x.data, x.txt, x.nd, fun i => by
      rw [Bool.or_eq_true, decide_eq_true_eq, ← x.mem i]
      exact ⟨fun y => y.elim id (fun e => e ▸ isS), .inl⟩, x.room, x.fits, by rw [if_pos isS]; exact x.size, x.ris, x.led⟩
    rw [isS] at z; exact z
  | none =>
    dsimp only
    have out : k ∉ es.toList.map txtOf := fun y => by
      obtain ⟨r, hr, q⟩ := (txt_mem (P := P) x.txt k).1 y
      have c := List.findIdx?_eq_none_iff.mp hfi r hr
      rw [q] at c; cases c
    have notS : S k = false := by
      cases q : S k with
      | false => rfl
      | true => exact absurd ((x.mem k).1 q) out
    have pm := layNew_perm t es ((PySem.strKind P W).hash k) (.str k tk)
    have fit1 := layNew_fits t es ((PySem.strKind P W).hash k) (.str k tk)
    have ris1 := layNew_ris t es ((PySem.strKind P W).hash k) (.str k tk) x.ris
    have led1 := layNew_led t es ((PySem.strKind P W).hash k) (.str k tk)
    generalize layNew t es ((PySem.strKind P W).hash k) (.str k tk) = Y at pm fit1 ris1 led1 ⊢
    obtain ⟨es1, t1, dum, gave⟩ := Y
    dsimp only at pm fit1 ris1 led1 ⊢
    rw [Array.toList_push] at pm
    have pc : es1.toList.Perm (((PySem.strKind P W).hash k, Value.str k tk) :: es.toList) := pm.trans (List.perm_append_singleton _ _)
    have pk : (es1.toList.map txtOf).Perm (k :: es.toList.map txtOf) := pc.map txtOf
    have g1 : ∀ r ∈ es1.toList, IsTxt W r := fun r hr => (List.mem_cons.mp (pc.mem_iff.mp hr)).elim (fun z => z ▸ ⟨k, tk, rfl, rfl⟩) (x.txt r)
    have nd1 : (es1.toList.map txtOf).Nodup := pk.nodup_iff.mpr (List.nodup_cons.mpr ⟨out, x.nd⟩)
    have m1 : ∀ i, (S i || decide (i = k)) = true ↔ i ∈ es1.toList.map txtOf := fun i => by
      rw [Bool.or_eq_true, decide_eq_true_eq, x.mem i, pk.mem_iff, List.mem_cons, or_comm]
    have sz1 : es1.size = n + 1 := by rw [← Array.length_toList, pc.length_eq, List.length_cons, Array.length_toList, x.size]
    have rm1 : es1.size < scanBound := by rw [sz1]; exact room
    have ledd : W.params.followText "set-order" = true ∨ t1.led = true := x.led.imp id fun z => led1.trans z
    have fin : ∀ h', Heap.SameBut a s.heap h' → SetE W h' a (fun j => S j || decide (j = k)) es1.size → Q true { s with heap := h' } := fun h' sb r => by
      have q := hQ h' sb
      rw [notS] at q; rw [sz1] at r
      exact q r
    refine wpAny_bind (gave_ok _ ?_)
    split
    · refine wpAny_bind ?_
      rw [hashByValue_scannable 8 scn]
      refine wpAny_pure (add_tail (fun b s1 Q' q => ?_) x.get x.ex x.data g1 nd1 m1 rm1 ?_ ?_ ?_ ?_)
      · cases b <;> first | exact wpAny_pure q | exact wpAny_rule q
      · first | (split <;> first | exact fit1 | exact SetTable.fits_plain_off fit1) | exact fit1
      · first | (split <;> exact ris1) | exact ris1
      · first | (split <;> exact ledd) | exact ledd
      · intro h' sb r; dsimp only; exact wpAny_pure (fin h' sb r)
    · refine wpAny_bind (wpAny_pure ?_); simp only [↓reduceIte]
      refine add_tail (fun b s1 Q' q => ?_) x.get x.ex x.data g1 nd1 m1 rm1 fit1 ris1 ledd ?_
      · cases b <;> first | exact wpAny_pure q | exact wpAny_rule q
      · intro h' sb r; dsimp only; exact wpAny_pure (fin h' sb r)
end
section
variable {P : Program} {W : World} {A : Around} {R : Result → Shared → Prop} {I : Addr} {fp wr : List Addr} {G : Array GenState → Array GenState → Prop} {n : Nat} {Pr : Nat → Value → Prop} {St : Nat → Shared → Prop}
theorem loop_txt (Wk : WalksS P W A.in1 I fp wr G n Pr St) (T : Addr) (hT : T ∉ fp) (xs : List Str) (hsz : xs.length = n) (hb : n + 1 < scanBound) (hval : ∀ i v, Pr i v → ∃ t, v = .str (xs.getD i Str.empty) t) :
    ∀ (k i : Nat) (s : Shared), n - i = k → i ≤ n → St i s → (∃ m, m ≤ i ∧ SetE W s.heap T (fun y => decide (y ∈ xs.take i)) m) →
      (∀ s' m, Moved (T :: wr) G s s' → m ≤ n → SetE W s'.heap T (fun y => decide (y ∈ xs.take n)) m → R (.ok (.ret .none)) s') →
      codeAny (model P W) A (.builtin "set.update.loop" ⟨[.ref T, .ref I], []⟩) R s := by
  have hTw : T ∉ wr := fun h => hT (Wk.sub _ h)
  have more : ∀ b ∈ wr, b ∈ T :: wr := fun b hb => List.mem_cons_of_mem _ hb
  intro k
  induction k with
  | zero =>
    intro i s hk hi hst ⟨m, hm0, hS⟩ hR
    obtain rfl : i = n := by omega
    refine codeAny_builtin F.entry_set_update_loop ?_
    rw [Around.under_plainId F.plain_set_update_loop _]; show wpAny _ A.in1 (pyNext (.ref I) >>= _) _ _ s
    refine wpAny_bind (Wk.done s _ _ hst fun s' hm => ?_); show wpAny _ A.in1 (ret Value.none) _ _ s'
    exact wpAny_pure (hR s' m (hm.mono more) hm0 (hS.at fun o e => hm.heap T o hTw e))
  | succ k ih =>
    intro i s hk hi hst ⟨m, hm0, hS⟩ hR
    have lt : i < n := by omega
    refine codeAny_builtin F.entry_set_update_loop ?_
    rw [Around.under_plainId F.plain_set_update_loop _]; show wpAny _ A.in1 (pyNext (.ref I) >>= _) _ _ s
    refine wpAny_bind (Wk.item i s _ _ lt hst fun v s' hP hst' hm => ?_)
    obtain ⟨t, rfl⟩ := hval i v hP
    have hS' : SetE W s'.heap T (fun y => decide (y ∈ xs.take i)) m := hS.at fun o e => hm.heap T o hTw e
    show wpAny _ A.in1 (holding [Value.str (xs.getD i Str.empty) t] (setAdd T (.str (xs.getD i Str.empty) t)) >>= _) _ _ s'
    refine wpAny_bind (wpAny_holding ?_); unfold setAdd
    refine wpAny_holding (wpAny_bind ((PySem.strKind P W).pyHash (k := xs.getD i Str.empty) (strKind_is _ _ _ _) ?_))
    refine add_hashed (s := { s' with toks := s'.toks + 1 }) hS' (by omega) fun h' sb hS2 => ?_
    have hS3 : SetE W h' T (fun y => decide (y ∈ xs.take (i + 1))) (if decide (xs.getD i Str.empty ∈ xs.take i) = true then m else m + 1) := hS2.congr fun y => by
      have hlt : i < xs.length := by omega
      have e : xs.take (i + 1) = xs.take i ++ [xs[i]] := by simp
      have e2 : xs.getD i Str.empty = xs[i] := by simp [List.getD, List.getElem?_eq_getElem hlt]
      rw [e, e2]
      simp only [List.mem_append, List.mem_singleton, Bool.decide_or]
    refine wpAny_pure ⟨plainId_quiet F.plain_set_update_loop _, ih (i + 1) _ (by omega) lt (Wk.frame _ s' _ _ hst' (Nat.le_succ _) fun b hb o e => ?_) ⟨_, by split <;> omega, hS3⟩ fun s'' m2 hm'' h2 hS'' => ?_⟩
    · rw [sb.2 b (fun h : b = T => hT (by rw [← h]; exact hb))]; exact e
    · refine hR s'' m2 (Moved.trans Wk.gtrans ((hm.mono more).then_heap (Nat.le_succ _) fun b o hb e => ?_) hm'') h2 hS''
      rw [sb.2 b (fun h : b = T => hb (by rw [h]; exact List.mem_cons_self))]; exact e
end
end DnS

namespace DnS
open PySem PySem.Spec PyProof.Rows L2
section
variable {P : Program} {W : World} {A : Around} {E : Value → Shared → Prop} {s : Shared}
def NewSet (W : World) (h : Heap) : Heap := h.push { cls := .type "set", dict := none, data := .set #[] 0 (.fresh 0 0 (!W.params.followText "set-order")) }
theorem newSet_get {h : Heap} : (NewSet W h).get? h.objs.size = some { cls := .type "set", dict := none, data := .set #[] 0 (.fresh 0 0 (!W.params.followText "set-order")) } := Heap.get?_push_size _ rfl
theorem newSet_size {h : Heap} : (NewSet W h).objs.size = h.objs.size + 1 := Heap.size_push ..
/-- what is handed to set(), and how it is walked -/
inductive SeqIn (h : Heap) (l : Addr) (its : Array Value) : Prop
  | lst : h.IsList l its → SeqIn h l its
  | tup : h.IsTuple l its → SeqIn h l its
theorem str_at {us : List Value} {xs : List Str} (hi : StrsAre us xs) (i : Nat) (v : Value) (h : us[i]? = some v) : ∃ t, v = .str (xs.getD i Str.empty) t := by
  induction hi generalizing i with
  | nil => simp at h
  | cons y t hr ih =>
    cases i with
    | zero => simp at h; exact ⟨t, by rw [← h] <;> rfl⟩
    | succ i => simp only [List.getElem?_cons_succ] at h; obtain ⟨t', e⟩ := ih i h; exact ⟨t', by rw [e] <;> rfl⟩
theorem call_set_txt {l : Addr} {items : Array Value} {xs : List Str} {Q : Value → Shared → Prop} (hh : A.handled = none) (hl : SeqIn s.heap l items) (hi : StrsAre items.toList xs) (hb : xs.length + 1 < scanBound)
    (k : ∀ (h' : Heap) (tk m : Nat), m ≤ xs.length → SetE W h' s.heap.objs.size (fun y => decide (y ∈ xs)) m → (∀ b o, s.heap.get? b = some o → h'.get? b = some o) → Q (.ref s.heap.objs.size) { s with heap := h', toks := tk }) :
    wpAny (model P W) A (call (.type "set") [.ref l]) Q E s := by
  obtain ⟨c, tl, hmro⟩ := F.called_set.mro
  have hmade := F.called_set.made; have hsub := F.called_set.sub
  refine wpAny_call (codeAny_of_tree ?_); show wpAny _ _ (callAny (.type "set") _) _ _ _
  refine wpAny_pure ⟨Code.quiet_builtin _ (by decide +kernel), codeAny_builtin F.entry_type_call ?_⟩; rw [Around.under_plain (weight_type_call_type "set" [.ref l] []) rfl]
  have q1 := F.called_set.notType; have q2 := F.called_set.canCreate; have q3 := F.typeCall_set_1 (.ref l)
  repeat (any_goals (first | assumption | wp_step))
  refine codeAny_mono (code_set_led1 (.ref l) (E := E) (Q₁ := fun ob s1 => ob = .ref s.heap.objs.size ∧ s1 = { s with heap := NewSet W s.heap }) ⟨rfl, rfl⟩) fun r s1 hr => ?_
  cases r with
  | error e => exact hr
  | ok fl =>
    cases fl with
    | ret ob =>
      obtain ⟨rfl, rfl⟩ := hr
      have hS0 : (NewSet W s.heap).get? s.heap.objs.size = some { cls := .type "set", dict := none, data := .set #[] 0 (.fresh 0 0 (!W.params.followText "set-order")) } := newSet_get
      have ty : Shared.TypeIs { s with heap := NewSet W s.heap } (.ref s.heap.objs.size) "set" := ⟨_, newSet_get, rfl⟩
      have i1 := F.called_set.init.lookup; have i2 := F.called_set.init.bind (.ref s.heap.objs.size)
      repeat (any_goals (first | assumption | wp_step))
      refine codeAny_mono (codeAny_call_builtin (R := wants (fun r s2 => r = .none ∧ ∃ h' tk m, s2 = { s with heap := h', toks := tk } ∧ m ≤ xs.length ∧ SetE W h' s.heap.objs.size (fun y => decide (y ∈ xs)) m ∧
          (∀ b o, s.heap.get? b = some o → h'.get? b = some o)) E) F.called_set.init.plain F.entry_set_init (check_set_init_1 ty ?_)) fun r2 s2 hr2 => ?_
      · have hsz : xs.length = items.size := by rw [← StrsAre.len_eq hi, Array.length_toList]
        have vals : ∀ (i : Nat) (v : Value), items[i]? = some v → ∃ t, v = .str (xs.getD i Str.empty) t := fun i v hv => str_at hi i v (by rw [Array.getElem?_toList]; exact hv)
        have hl1 : SeqIn (NewSet W s.heap) l items := by
          cases hl with
          | lst h => exact .lst (h.push _)
          | tup h => exact .tup (h.push _)
        have old : ∀ b o, s.heap.get? b = some o → (NewSet W s.heap).get? b = some o := fun b o e => Heap.get?_push_of_some _ e
        have lS : l < s.heap.objs.size := by
          cases hl with
          | lst h => obtain ⟨o, ho, _⟩ := h; exact Heap.lt_size ho
          | tup h => obtain ⟨o, ho, _⟩ := h; exact Heap.lt_size ho
        have neI : l ≠ (NewSet W s.heap).objs.size := by rw [newSet_size]; exact Nat.ne_of_lt (Nat.lt_succ_of_lt lS)
        have notIn : s.heap.objs.size ∉ [(NewSet W s.heap).objs.size, l] := by
          rw [newSet_size]; simp only [List.mem_cons, List.not_mem_nil, or_false, not_or]
          exact ⟨Nat.ne_of_lt (Nat.lt_succ_self _), Nat.ne_of_gt lS⟩
        have hd3 : A.in1.in1.in1.handled = none := by simp [hh]
        cases hl1 with
        | lst hl1 =>
          obtain ⟨ol, hol, hcl, nl, hdl⟩ := hl1
          obtain ⟨ocls, odict, odata, oslots⟩ := ol
          simp only at hcl hdl; subst hcl; subst hdl
          have ok1 : (NewSet W s.heap).IsList l items := ⟨_, hol, rfl, nl, rfl⟩
          have s1 := F.sub_list_set; have s2 := F.sub_list_frozenset
          have s3 : (Value.type "list" == Value.type "dict") = false := by decide
          unfold Builtin.«set.__init__» noKeywords Builtin.Frozenset.updateFrom
          generalize hPI : pyIter = PI
          wp_walk
          subst hPI
          refine wpAny_pyIter_list (s := { s with heap := NewSet W s.heap }) ok1 ?_
          refine wpAny_bind (wpAny_runValue ?_)
          refine loop_txt ((Walks.list hd3 _ l neI items).toS) s.heap.objs.size notIn xs hsz (by rw [← hsz]; exact hb) vals (items.size - 0) 0 _ (by omega) (Nat.zero_le _)
            ⟨⟨_, Heap.get?_push_size _ rfl, rfl, rfl⟩, (ok1.push _)⟩ ⟨0, Nat.le_refl _, (fresh_txt (Heap.get?_push_of_some _ newSet_get)).congr fun _ => by simp⟩ fun s' m hm hm0 hS' => ?_
          obtain ⟨h', g', d', tk', os'⟩ := s'
          obtain rfl : g' = s.gens := hm.gens
          obtain rfl : d' = s.drawn := hm.drawn
          obtain rfl : os' = s.os := hm.os
          refine wpAny_pure ?_; show wpAny _ _ (ret Value.none) _ _ _
          refine wpAny_pure ⟨rfl, h', tk', m, rfl, by omega, by rw [← hsz, List.take_length] at hS'; exact hS', fun b o e => ?_⟩
          have n1 : b ≠ s.heap.objs.size := Nat.ne_of_lt (Heap.lt_size e)
          have n2 : b ≠ (NewSet W s.heap).objs.size := by rw [newSet_size]; exact Nat.ne_of_lt (Nat.lt_succ_of_lt (Heap.lt_size e))
          exact hm.heap b o (by simp only [List.mem_cons, List.not_mem_nil, or_false, not_or]; exact ⟨n1, n2⟩) (Heap.get?_push_of_some _ (old b o e))
        | tup hl1 =>
          obtain ⟨ol, hol, hcl, nl, hdl⟩ := hl1
          obtain ⟨ocls, odict, odata, oslots⟩ := ol
          simp only at hcl hdl; subst hcl; subst hdl
          have ok1 : (NewSet W s.heap).IsTuple l items := ⟨_, hol, rfl, nl, rfl⟩
          have s1 := F.sub_tuple_set; have s2 := F.sub_tuple_frozenset
          have s3 : (Value.type "tuple" == Value.type "dict") = false := by decide
          unfold Builtin.«set.__init__» noKeywords Builtin.Frozenset.updateFrom
          generalize hPI : pyIter = PI
          wp_walk
          subst hPI
          refine wpAny_pyIter_tuple (s := { s with heap := NewSet W s.heap }) ok1 ?_
          refine wpAny_bind (wpAny_runValue ?_)
          refine loop_txt ((Walks.tuple hd3 _ l neI items).toS) s.heap.objs.size notIn xs hsz (by rw [← hsz]; exact hb) vals (items.size - 0) 0 _ (by omega) (Nat.zero_le _)
            ⟨⟨_, Heap.get?_push_size _ rfl, rfl, rfl⟩, (ok1.push _)⟩ ⟨0, Nat.le_refl _, (fresh_txt (Heap.get?_push_of_some _ newSet_get)).congr fun _ => by simp⟩ fun s' m hm hm0 hS' => ?_
          obtain ⟨h', g', d', tk', os'⟩ := s'
          obtain rfl : g' = s.gens := hm.gens
          obtain rfl : d' = s.drawn := hm.drawn
          obtain rfl : os' = s.os := hm.os
          refine wpAny_pure ?_; show wpAny _ _ (ret Value.none) _ _ _
          refine wpAny_pure ⟨rfl, h', tk', m, rfl, by omega, by rw [← hsz, List.take_length] at hS'; exact hS', fun b o e => ?_⟩
          have n1 : b ≠ s.heap.objs.size := Nat.ne_of_lt (Heap.lt_size e)
          have n2 : b ≠ (NewSet W s.heap).objs.size := by rw [newSet_size]; exact Nat.ne_of_lt (Nat.lt_succ_of_lt (Heap.lt_size e))
          exact hm.heap b o (by simp only [List.mem_cons, List.not_mem_nil, or_false, not_or]; exact ⟨n1, n2⟩) (Heap.get?_push_of_some _ (old b o e))
      · cases r2 with
        | error e => exact hr2
        | ok fl2 =>
          cases fl2 with
          | ret r =>
            obtain ⟨rfl, h', tk, m, rfl, hm, hS', hk'⟩ := hr2
            repeat (any_goals (first | assumption | wp_step))
            exact k _ _ _ hm hS' hk'
          | _ => exact hr2.elim
    | _ => exact hr.elim
end
end DnS

namespace DnS
open PySem PySem.Spec PyProof.Rows L2
def leS (x y : Str) : Bool := PySem.W.dataLe false PyData.str x y
/-- the texts of a list, each once, in order -/
def sortSet (xs : List Str) : List Str := xs.eraseDups.mergeSort leS
theorem leS_iff {x y : Str} : leS x y = true ↔ ¬ y.cps.toList < x.cps.toList := by
  unfold leS
  have := congrFun (congrFun (PySem.W.dataLe_str (β := Str) (fun z => z)) x) y
  rw [show PySem.W.dataLe false PyData.str x y = PySem.W.dataLe false (fun z : Str => PyData.str z) x y from rfl, this]
  simp
theorem leS_total (x y : Str) : (leS x y || leS y x) = true := by
  rw [Bool.or_eq_true, leS_iff, leS_iff]
  rcases Classical.em (y.cps.toList < x.cps.toList) with h | h
  · exact .inr (List.lt_asymm h)
  · exact .inl h
theorem leS_trans (x y z : Str) (h1 : leS x y = true) (h2 : leS y z = true) : leS x z = true := by
  rw [leS_iff] at *
  exact List.le_trans (α := Nat) (l₁ := x.cps.toList) (l₂ := y.cps.toList) (l₃ := z.cps.toList) h1 h2
theorem leS_anti {x y : Str} (h1 : leS x y = true) (h2 : leS y x = true) : x = y := by
  rw [leS_iff] at *
  have : x.cps.toList = y.cps.toList := List.le_antisymm (α := Nat) h1 h2
  cases x; cases y
  simpa using this
theorem sorted_one : ∀ {l m : List Str}, l.Perm m → l.Pairwise (fun x y => leS x y = true) → m.Pairwise (fun x y => leS x y = true) → l = m
  | [], m, p, _, _ => by have := p.length_eq; cases m with
    | nil => rfl
    | cons _ _ => simp at this
  | x :: l, [], p, _, _ => by have := p.length_eq; simp at this
  | x :: l, y :: m, p, h1, h2 => by
    obtain ⟨a1, a2⟩ := List.pairwise_cons.mp h1
    obtain ⟨b1, b2⟩ := List.pairwise_cons.mp h2
    have e : x = y := by
      have hx := p.mem_iff.mp (List.mem_cons_self (a := x))
      have hy := p.mem_iff.mpr (List.mem_cons_self (a := y))
      rcases List.mem_cons.mp hx with e | hx
      · exact e
      · rcases List.mem_cons.mp hy with e | hy
        · exact e.symm
        · exact leS_anti (a1 y hy) (b1 x hx)
    subst e
    rw [sorted_one (p.cons_inv) a2 b2]
theorem nodup_dups : ∀ (n : Nat) (l : List Str), l.length ≤ n → l.eraseDups.Nodup
  | _, [], _ => by simp
  | 0, x :: l, h => by simp at h
  | n + 1, x :: l, h => by
    rw [List.eraseDups_cons, List.nodup_cons]
    refine ⟨fun m => ?_, nodup_dups n _ (Nat.le_trans (List.length_filter_le _ _) (by simpa using h))⟩
    rw [List.mem_eraseDups, List.mem_filter] at m
    simp at m
theorem dups_len : ∀ (n : Nat) (l : List Str), l.length ≤ n → l.eraseDups.length ≤ l.length
  | _, [], _ => by simp
  | 0, x :: l, h => by simp at h
  | n + 1, x :: l, h => by
    rw [List.eraseDups_cons, List.length_cons, List.length_cons]
    have h1 : (l.filter fun b => !b == x).length ≤ l.length := List.length_filter_le _ _
    have h2 := dups_len n (l.filter fun b => !b == x) (Nat.le_trans h1 (by simpa using h))
    omega
theorem sortSet_of {xs bs : List Str} (nd : bs.Nodup) (hm : ∀ k, k ∈ bs ↔ k ∈ xs) : bs.mergeSort leS = sortSet xs := by
  refine sorted_one ?_ (List.pairwise_mergeSort leS_trans leS_total _) (List.pairwise_mergeSort leS_trans leS_total _)
  refine (List.mergeSort_perm _ _).trans (List.Perm.trans ?_ (List.mergeSort_perm _ _).symm)
  exact (List.perm_ext_iff_of_nodup nd (nodup_dups _ _ (Nat.le_refl _))).mpr fun k => by rw [hm, List.mem_eraseDups]
section
variable {P : Program} {W : World} {A : Around} {E : Value → Shared → Prop} {s : Shared}
def dec (v : Value) : Str := match v with | .str x _ => x | _ => Str.empty
theorem each_str {h : Heap} {a : Addr} : ∀ {vs : List Value}, (∀ v ∈ vs, ∃ x t, v = Value.str x t) → PySem.W.EachIs (fun v (b : Str) => ∃ t, v = Value.str b t) vs (vs.map dec) ∧ PySem.W.EachIs (fun v (b : Str) => ∃ as, Reads h v (PyData.str b) as ∧ a ∉ as) vs (vs.map dec)
  | [], _ => ⟨.nil, .nil⟩
  | v :: vs, hv => by
    obtain ⟨x, t, rfl⟩ := hv v (List.mem_cons_self ..)
    obtain ⟨h1, h2⟩ := each_str (h := h) (a := a) (vs := vs) fun u hu => hv u (List.mem_cons_of_mem _ hu)
    exact ⟨.cons ⟨t, rfl⟩ h1, .cons ⟨[], .str _ _, by simp⟩ h2⟩
theorem sorted_txt {a : Addr} {xs : List Str} {n : Nat} {Q : Value → Shared → Prop} (R : SetE W s.heap a (fun y => decide (y ∈ xs)) n) (hn : n ≤ sizeLine) (hh : A.handled = none) (hu : A.units + 64 < cLine)
    (hQ : ∀ s' p (out : List Value) (c : Nat), (∀ b o, s.heap.get? b = some o → s'.heap.get? b = some o) → s'.gens = s.gens → s'.os = s.os → s.heap.objs.size ≤ p →
      s'.heap.get? p = some (seqObj "list" out.toArray c) → Vals ((sortSet xs).map V.str) out → Q (.ref p) s') :
    wpAny (model P W) A (call (.builtin "sorted") [.ref a]) Q E s := by
  obtain ⟨o, es, ep, t, x⟩ := R
  refine Calls.call_function_entry kind_sorted plain_sorted entry_sorted (args_sorted1 _) ?_; unfold Builtin.«sorted»
  refine wpAny_bind (m := checkCount "sorted" 1 1 _) (wpAny_pure (wpAny_bind (collect_set (A := A.in1) hh ⟨o, x.get, x.ex.1, x.data⟩ x.fits x.room x.ris x.led fun s1 vs k1 hz g1 o1 pm => ?_)))
  have all : ∀ v ∈ vs, ∃ y t, v = Value.str y t := fun v hv => by
    obtain ⟨r, hr, q⟩ := List.mem_map.mp (pm.mem_iff.mp hv)
    obtain ⟨y, t, e, _⟩ := x.txt r hr
    exact ⟨y, t, q ▸ e⟩
  have pk : (vs.map dec).Perm (es.toList.map txtOf) := by
    have q := pm.map dec
    rw [List.map_map] at q
    exact q
  have len : vs.length = n := by rw [pm.length_eq, List.length_map, Array.length_toList]; exact x.size
  have canon : (vs.map dec).mergeSort leS = sortSet xs := sortSet_of (pk.nodup_iff.mpr x.nd) fun k => by rw [pk.mem_iff, ← x.mem k, decide_eq_true_eq]
  refine wpAny_bind (wpAny_newList ?_ (by rw [len]; exact hn))
  have hoL : (s1.heap.push (seqObj "list" vs.toArray 0)).get? s1.heap.objs.size = some (seqObj "list" vs.toArray 0) := Heap.get?_push_size _ rfl
  obtain ⟨ea, eb⟩ := each_str (h := s1.heap.push (seqObj "list" vs.toArray 0)) (a := s1.heap.objs.size) all
  refine wpAny_bind (wpAny_holding (PySem.W.list_sort_data (s := { s1 with heap := s1.heap.push (seqObj "list" vs.toArray 0) }) (enc := PyData.str) hoL ea eb ?_ ?_ ?_ ?_ fun out ho eo => ?_))
  · exact PySem.W.AllAlike.of fun _ _ => by simp [PySem.W.alike]
  · exact PySem.W.Sortable.others fun _ => ⟨by simp, by simp⟩
  · rw [List.length_map, len]; exact hn
  · intro b _
    have : (PyData.str b).depth = 0 := by simp [PyData.depth]
    have u1 : A.in1.units = A.units + 1 := by first | rfl | simp
    omega
  · obtain ⟨c, hc⟩ := sortedHeap_at (vs := vs) (out := out.toArray) hoL
    refine wpAny_pure ⟨_, rfl, hQ { s1 with heap := sortedHeap (s1.heap.push (seqObj "list" vs.toArray 0)) s1.heap.objs.size vs out.toArray } s1.heap.objs.size out c (fun b u e => ?_) g1 o1 hz hc ?_⟩
    · have q := k1 b u e
      have hlt := Heap.lt_size q
      show (sortedHeap (s1.heap.push (seqObj "list" vs.toArray 0)) s1.heap.objs.size vs out.toArray).get? b = some u
      rw [sortedHeap_old (Nat.ne_of_lt hlt) (by rw [size_push']; exact Nat.lt_succ_of_lt hlt)]
      exact Heap.get?_push_of_some _ q
    · have e2 : PySem.W.EachIs (fun v (b : Str) => ∃ t, v = Value.str b t) out (sortSet xs) := by rw [← canon]; exact eo
      clear eo ho hc
      generalize sortSet xs = ys at e2
      induction e2 with
      | nil => exact .nil
      | cons h _ ih => exact .cons h ih
end
section
variable {X : Cx}
/-- sorted(set(xs)), xs a list or a tuple of texts -/
def tSortedSet (K : PySem.W.Frag) (ta : TE) : TE := fun σ H Q => ta σ H fun x H1 => ∃ l, ∃ xs : List Str, x = .ref l ∧ (SqL K H1 l (xs.map V.str) ∨ SqT K H1 l (xs.map V.str)) ∧ xs.length ≤ 1000 ∧
  ∀ p, H1 p = none → Q (.ref p) (upd H1 p (.lst ((sortSet xs).map V.str)))
theorem strs_of_vals : ∀ {ys : List Str} {us : List Value}, Vals (ys.map V.str) us → StrsAre us ys
  | [], _, .nil => .nil
  | y :: ys, _, .cons r t => by
    obtain ⟨k, rfl⟩ := r
    exact .cons y k (strs_of_vals t)
theorem pe_sortedSet {a : Expr} {ta : TE} {p p2 q pos : Pos} (hc : X.calm = true) (hu : X.A.units + 64 < cLine) (hg : Gl X "sorted") (hm : X.mg "sorted" = none) (hg2 : Gl X "set") (hm2 : X.mg "set" = none) (ha : PE X a ta)
    (na : starEach [a] X.env = (false, eval a X.env) :: starEach [] X.env := by rfl) : PE X (.Call (.Name "sorted" p) [.Call (.Name "set" p2) [a] [] q] [] pos) (tSortedSet X.K ta) := by
  refine ⟨fun pins s σ H Q I h => Call_ (ld_blt I hg hm boot_sorted (PyProof.Rows.callWith_builtin1 (PyProof.Rows.args_cons ?_ rfl) rfl rfl))⟩
  refine Call_ (ld_blt I hg2 hm2 boot_set (PyProof.Rows.callWith_type1 (PyProof.Rows.args_cons (thn (ha.run pins s σ H _ I h) fun v s1 ⟨x, H1, I1, r1, q1⟩ => PyProof.Rows.args_nil ?_) na) na rfl))
  obtain ⟨l, xs, rfl, hq, hb, q1⟩ := q1
  cases r1
  have go : ∀ its : List Value, Vals (xs.map V.str) its → SeqIn s1.heap l its.toArray → wpAny (model X.prog X.w) X.A (call (.type "set") [.ref l]) (fun v s2 => wpAny (model X.prog X.w) X.A (spliced (backTo pos (starEach [] X.env))) (fun vs s₂ => wpAny (model X.prog X.w) X.A (call (.builtin "sorted") (v :: vs)) (EP X pins σ Q) X.xe s₂) X.xe s2) X.xe s1 := by
    intro its r hs
    refine call_set_txt (P := X.prog) (W := X.w) (I1.ok.hd hc) hs (by simpa using strs_of_vals r) (by unfold scanBound; omega) fun h' tk m hm0 hS hk => PyProof.Rows.args_nil ?_
    have I2 : Inv X pins σ H1 { s1 with heap := h', toks := tk } := I1.kept fun b o e => hk b o e
    refine sorted_txt (s := { s1 with heap := h', toks := tk }) hS (by rw [sizeLine_eq]; omega) (I1.ok.hd hc) hu fun s' p out c k g o hp hget hv => ?_
    have sl : (sortSet xs).length ≤ sizeLine := by
      have e1 : (sortSet xs).length = xs.eraseDups.length := List.length_mergeSort _
      have e2 : xs.eraseDups.length ≤ xs.length := dups_len _ _ (Nat.le_refl _)
      rw [sizeLine_eq]; omega
    have fr : H1 p = none := I2.hok.fresh hp
    have J : Inv X pins σ (upd H1 p (.lst ((sortSet xs).map V.str))) { ({ s1 with heap := h', toks := tk } : Shared) with heap := s'.heap, gens := s'.gens, drawn := s'.drawn, toks := s'.toks } :=
      I2.call (ch := []) (Un.laid k hp fr) (I2.hok.laid k hp ⟨by rw [List.length_map]; exact sl, out, c, hv, hget⟩) (by rw [g]; exact I2.bare) (fun _ z => nomatch z)
    have e : s' = { ({ s1 with heap := h', toks := tk } : Shared) with heap := s'.heap, gens := s'.gens, drawn := s'.drawn, toks := s'.toks } := by
      cases s'; cases s1; cases o; rfl
    rw [e]; exact ⟨.ref p, _, J, rfl, q1 p fr⟩
  rcases hq with hq | hq
  · obtain ⟨its, r, pl, hz⟩ := I1.list hq
    exact go its r (.lst pl.isList)
  · obtain ⟨its, r, pl, hz⟩ := I1.tuple hq
    exact go its r (.tup pl)
end
end DnS

namespace Dn
open PySem PySem.Spec PyProof.Rows L2
/-! ### sorted(set(xs)) -/
def D.sortSet : D → Option C
  | .lst ds => (strsD ds).bind fun ss => if decide (ss.length ≤ 1000) = true then some (.own (.lst ((DnS.sortSet ss).map .str))) else none
  | .tup ds => (strsD ds).bind fun ss => if decide (ss.length ≤ 1000) = true then some (.own (.lst ((DnS.sortSet ss).map .str))) else none
  | _ => none
theorem s_sortSet {K : KW} : Op1S K (fun x H Q => ∃ l, ∃ xs : List Str, x = .ref l ∧ (SqL K H l (xs.map V.str) ∨ SqT K H l (xs.map V.str)) ∧ xs.length ≤ 1000 ∧
    ∀ p, H p = none → Q (.ref p) (upd H p (.lst ((DnS.sortSet xs).map V.str)))) D.sortSet := by
  intro N H x dx c Q rx e k
  unfold D.sortSet at e
  split at e
  · simp only [Option.bind_eq_some_iff] at e
    obtain ⟨ss, e1, e2⟩ := e
    split at e2
    · rename_i hz
      cases e2
      obtain ⟨a, vs, rfl, h1, r1⟩ := rx.lst
      rw [strsD_eq e1] at r1
      have := r1.of_strs; subst this
      exact ⟨a, ss, rfl, .inl (SqL.of h1), of_decide_eq_true hz, fun p hp => ret_lst hp (RepL.strs _) k⟩
    · cases e2
  · simp only [Option.bind_eq_some_iff] at e
    obtain ⟨ss, e1, e2⟩ := e
    split at e2
    · rename_i hz
      cases e2
      obtain ⟨a, vs, rfl, h1, r1⟩ := rx.tup
      rw [strsD_eq e1] at r1
      have := r1.of_strs; subst this
      exact ⟨a, ss, rfl, .inr h1, of_decide_eq_true hz, fun p hp => ret_lst hp (RepL.strs _) k⟩
    · cases e2
  · cases e
/-! ### dicts by ints and texts -/
def D.key : D → Option Key
  | .int i => some (.inl i)
  | .str x => some (.inr x)
  | _ => none
def getK (ds : List (Key × D)) (k : Key) : Option D := (ds.find? fun p => decide (p.1 = k)).map (·.2)
def putD (ds : List (Key × D)) (k : Key) (v : D) : List (Key × D) := if (ds.any fun p => decide (p.1 = k)) = true then ds.map (fun p => if p.1 = k then (p.1, v) else p) else ds ++ [(k, v)]
/-- the pairs of a dict -/
def D.asD : D → Option (List (Key × D))
  | .dct ds => some ds
  | .fdc ds => some ds
  | _ => none
def D.dget (x y : D) : Option C := (D.asD x).bind fun ds => (D.key y).bind fun k => (getK ds k).map .ro
def D.din (y x : D) : Option C := (D.asD x).bind fun ds => (D.key y).map fun k => .ro (.bl (getK ds k).isSome)
def D.dnin (y x : D) : Option C := (D.asD x).bind fun ds => (D.key y).map fun k => .ro (.bl (!(getK ds k).isSome))
section
variable {K : KW} {N : Addr → Prop} {H : Hp}
theorem key_rep {y : D} {v : V} {k : Key} (r : RepX K N H v y) (e : D.key y = some k) : v = kV k := by
  cases y <;> first | (cases e; first | exact r.int | exact r.str) | cases e
theorem RepK.get (k : Key) : ∀ {vs : List (Key × V)} {ds : List (Key × D)}, RepK K N H vs ds → (getK ds k = none ∧ valV vs k = none) ∨ ∃ v d, getK ds k = some d ∧ valV vs k = some v ∧ Rep K N H v d
  | _, _, .nil => .inl ⟨rfl, rfl⟩
  | (k1, v) :: vs, (_, d) :: ds, .cons r1 r2 => by
    by_cases h : k1 = k
    · exact .inr ⟨v, d, by simp [getK, List.find?_cons, h], by simp [valV, List.find?_cons, h], r1⟩
    · rcases RepK.get k r2 with ⟨h1, h2⟩ | ⟨v', d', h1, h2, h3⟩
      · exact .inl ⟨by simpa [getK, List.find?_cons, h] using h1, by simpa [valV, List.find?_cons, h] using h2⟩
      · exact .inr ⟨v', d', by simpa [getK, List.find?_cons, h] using h1, by simpa [valV, List.find?_cons, h] using h2, h3⟩
theorem RepK.any (k : Key) : ∀ {vs : List (Key × V)} {ds : List (Key × D)}, RepK K N H vs ds → (vs.any fun p => decide (p.1 = k)) = ds.any fun p => decide (p.1 = k)
  | _, _, .nil => rfl
  | _, _, .cons r1 r2 => by simp only [List.any_cons, RepK.any k r2]
theorem RepK.mapP (k : Key) {v : V} {d : D} (r : Rep K N H v d) : ∀ {vs : List (Key × V)} {ds : List (Key × D)}, RepK K N H vs ds → RepK K N H (vs.map fun p => if p.1 = k then (p.1, v) else p) (ds.map fun p => if p.1 = k then (p.1, d) else p)
  | _, _, .nil => .nil
  | (k1, v1) :: vs, (_, d1) :: ds, .cons r1 r2 => by
    simp only [List.map_cons]
    by_cases h : k1 = k
    · simp only [h, if_true]; exact .cons r (RepK.mapP k r r2)
    · simp only [h, if_false]; exact .cons r1 (RepK.mapP k r r2)
theorem RepK.snoc (k : Key) {v : V} {d : D} (r : Rep K N H v d) : ∀ {vs : List (Key × V)} {ds : List (Key × D)}, RepK K N H vs ds → RepK K N H (vs ++ [(k, v)]) (ds ++ [(k, d)])
  | _, _, .nil => .cons r .nil
  | _, _, .cons r1 r2 => .cons r1 (RepK.snoc k r r2)
theorem RepK.put (k : Key) {v : V} {d : D} (r : Rep K N H v d) {vs : List (Key × V)} {ds : List (Key × D)} (h : RepK K N H vs ds) : RepK K N H (putK vs k v) (putD ds k d) := by
  unfold putK putD
  rw [RepK.any k h]
  split
  · exact RepK.mapP k r h
  · exact RepK.snoc k r h
theorem RepX.dct {v : V} {ds : List (Key × D)} (h : RepX K N H v (.dct ds)) : ∃ a vs, v = .ref a ∧ Rd H a (.dK vs) ∧ RepK K N H vs ds := h
theorem RepX.asD {v : V} {d : D} {ds : List (Key × D)} (h : RepX K N H v d) (e : D.asD d = some ds) : ∃ a vs, v = .ref a ∧ Rd H a (.dK vs) ∧ RepK K N H vs ds := by
  cases d with
  | dct x => cases e; exact h
  | fdc x =>
    cases e
    cases h with
    | fdc _ h1 r => exact ⟨_, _, rfl, .inr ⟨_, h1⟩, r⟩
  | _ => cases e
theorem s_dget : Op2S K (fun x y H Q => ∃ a v, x = .ref a ∧ DGet H a y (some v) ∧ Q v H) D.dget := by
  intro N H x y dx dy c Q rx ry e k
  unfold D.dget at e
  simp only [Option.bind_eq_some_iff, Option.map_eq_some_iff] at e
  obtain ⟨ds, e0, kk, e1, d, e2, rfl⟩ := e
  obtain ⟨a, vs, rfl, h1, r1⟩ := rx.asD e0
  rcases RepK.get kk r1 with ⟨h2, _⟩ | ⟨v, d', h2, h3, h4⟩
  · rw [h2] at e2; cases e2
  · rw [h2] at e2; cases e2
    exact ⟨a, v, rfl, .inl ⟨vs, kk, h1, key_rep ry e1, h3.symm⟩, ret_ro h4 k⟩
theorem din_get {x : V} {y : V} {dx dy : D} {ds : List (Key × D)} {kk : Key} (rx : RepX K N H x dy) (e0 : D.asD dy = some ds) (ry : RepX K N H y dx) (e1 : D.key dx = some kk) : ∃ a o, x = .ref a ∧ DGet H a y o ∧ o.isSome = (getK ds kk).isSome := by
  obtain ⟨a, vs, rfl, h1, r1⟩ := rx.asD e0
  rcases RepK.get kk r1 with ⟨h2, h3⟩ | ⟨v, d', h2, h3, h4⟩
  · exact ⟨a, none, rfl, .inl ⟨vs, kk, h1, key_rep ry e1, h3.symm⟩, by rw [h2]; rfl⟩
  · exact ⟨a, some v, rfl, .inl ⟨vs, kk, h1, key_rep ry e1, h3.symm⟩, by rw [h2]; rfl⟩
theorem s_din : Op2S K (fun y x H Q => ∃ a o, x = .ref a ∧ DGet H a y o ∧ Q (.bl o.isSome) H) D.din := by
  intro N H y x dy dx c Q ry rx e k
  unfold D.din at e
  simp only [Option.bind_eq_some_iff, Option.map_eq_some_iff] at e
  obtain ⟨ds, e0, kk, e1, rfl⟩ := e
  obtain ⟨a, o, h1, h2, h3⟩ := din_get rx e0 ry e1
  exact ⟨a, o, h1, h2, by rw [h3]; exact ret_bl k⟩
theorem s_dnin : Op2S K (fun y x H Q => ∃ a o, x = .ref a ∧ DGet H a y o ∧ Q (.bl (!o.isSome)) H) D.dnin := by
  intro N H y x dy dx c Q ry rx e k
  unfold D.dnin at e
  simp only [Option.bind_eq_some_iff, Option.map_eq_some_iff] at e
  obtain ⟨ds, e0, kk, e1, rfl⟩ := e
  obtain ⟨a, o, h1, h2, h3⟩ := din_get rx e0 ry e1
  exact ⟨a, o, h1, h2, by rw [h3]; exact ret_bl k⟩
end
section
variable {X : Cx} {F : Fr} {W : List Nat} {e a b : Expr} {pos : Pos} {p pa pb pi : P1} {ps : PAs}
theorem de_sortSet {pp p2 q : Pos} (hK : F.K = X.kw) (hc : X.calm = true) (hu : X.A.units + 64 < cLine) (hg : Gl X "sorted") (hm : X.mg "sorted" = none) (hg2 : Gl X "set") (hm2 : X.mg "set" = none) (ha : PE X a (tD F pa)) (na : starEach [a] X.env = (false, eval a X.env) :: starEach [] X.env := by rfl) :
    PE X (.Call (.Name "sorted" pp) [.Call (.Name "set" p2) [a] [] q] [] pos) (tD F (pOp1 D.sortSet pa)) :=
  PE.imp (DnS.pe_sortedSet hc hu hg hm hg2 hm2 ha na) fun σ H Q hw => by
    have := op1_of s_sortSet hw
    rw [hK] at this
    exact this
theorem de_dget (hu : X.A.units + 64 < cLine) (ha : PE X a (tD F pa)) (hb : PE X b (tD F pb)) (hs : NoSl b) : PE X (.Subscript a b pos) (tD F (pOp2 D.dget pa pb)) := PE.imp (pe_dget (by omega) ha hb hs) fun _ _ _ hw => op2_of s_dget hw
/-- x[y], whatever x is -/
def D.ixx (x y : D) : Option C := match D.asD x with
  | some _ => D.dget x y
  | none => D.ix x y
theorem ixx_or {ρ : Dn.Env} {r : C × Dn.Env} (h : pOp2 D.ixx pa pb ρ = some r) : pOp2 D.dget pa pb ρ = some r ∨ pOp2 D.ix pa pb ρ = some r := by
  simp only [pOp2, Option.bind_eq_some_iff, Option.map_eq_some_iff] at *
  obtain ⟨a, e1, b, e2, x, e3, y, e4, c, e5, e6⟩ := h
  unfold D.ixx at e5
  split at e5
  · exact .inl ⟨a, e1, b, e2, x, e3, y, e4, c, e5, e6⟩
  · exact .inr ⟨a, e1, b, e2, x, e3, y, e4, c, e5, e6⟩
theorem PE.or {t t' : TE} (h : PE X e t) (h' : PE X e t') : PE X e (fun σ H Q => t σ H Q ∨ t' σ H Q) := ⟨fun pins s σ H Q I hw => hw.elim (h.run pins s σ H Q I) (h'.run pins s σ H Q I)⟩
theorem PT.or {t t' : TT} (h : PT X e t) (h' : PT X e t') : PT X e (fun σ H Q => t σ H Q ∨ t' σ H Q) := ⟨fun pins s σ H Q I hw => hw.elim (h.run pins s σ H Q I) (h'.run pins s σ H Q I)⟩
theorem tD_or {p p1 p2 : P1} (h : ∀ ρ r, p ρ = some r → p1 ρ = some r ∨ p2 ρ = some r) {σ : L2.St} {H : Hp} {Q : VK} (hw : tD F p σ H Q) : tD F p1 σ H Q ∨ tD F p2 σ H Q := by
  obtain ⟨ρ, τ, c, ρ', I, e1, k⟩ := hw
  rcases h ρ _ e1 with h | h
  · exact .inl ⟨ρ, τ, c, ρ', I, h, k⟩
  · exact .inr ⟨ρ, τ, c, ρ', I, h, k⟩
theorem de_itemx (hK : F.K = X.kw) (hu : X.A.units + 64 < cLine) (ha : PE X a (tD F pa)) (hb : PE X b (tD F pb)) (hs : NoSl b := by exact fun _ _ => rfl) (hs2 : PlainIx b := by exact fun _ _ => rfl) : PE X (.Subscript a b pos) (tD F (pOp2 D.ixx pa pb)) :=
  PE.imp (PE.or (de_dget hu ha hb hs) (de_item hK ha hb hs2)) fun σ H Q hw => tD_or (fun ρ r h => ixx_or h) hw
end
end Dn

namespace Dn
open PySem PySem.Spec PyProof.Rows L2
section
variable {X : Cx} {F : Fr} {W : List Nat} {e a b ke ve : Expr} {pos : Pos} {p pa pb pi pk pv : P1} {ps : PAs}
/-! ### in, not in -/
def D.inx (y x : D) : Option C := match D.asD x with
  | some _ => D.din y x
  | none => D.isIn y x
def D.ninx (y x : D) : Option C := match D.asD x with
  | some _ => D.dnin y x
  | none => D.notIn y x
theorem inx_or {ρ : Dn.Env} {r : C × Dn.Env} (h : pOp2 D.inx pa pb ρ = some r) : pOp2 D.din pa pb ρ = some r ∨ pOp2 D.isIn pa pb ρ = some r := by
  simp only [pOp2, Option.bind_eq_some_iff, Option.map_eq_some_iff] at *
  obtain ⟨a, e1, b, e2, x, e3, y, e4, c, e5, e6⟩ := h
  unfold D.inx at e5
  split at e5
  · exact .inl ⟨a, e1, b, e2, x, e3, y, e4, c, e5, e6⟩
  · exact .inr ⟨a, e1, b, e2, x, e3, y, e4, c, e5, e6⟩
theorem ninx_or {ρ : Dn.Env} {r : C × Dn.Env} (h : pOp2 D.ninx pa pb ρ = some r) : pOp2 D.dnin pa pb ρ = some r ∨ pOp2 D.notIn pa pb ρ = some r := by
  simp only [pOp2, Option.bind_eq_some_iff, Option.map_eq_some_iff] at *
  obtain ⟨a, e1, b, e2, x, e3, y, e4, c, e5, e6⟩ := h
  unfold D.ninx at e5
  split at e5
  · exact .inl ⟨a, e1, b, e2, x, e3, y, e4, c, e5, e6⟩
  · exact .inr ⟨a, e1, b, e2, x, e3, y, e4, c, e5, e6⟩
theorem tDT_or {f f1 f2 : D → D → Option C} (h : ∀ ρ r, pOp2 f pa pb ρ = some r → pOp2 f1 pa pb ρ = some r ∨ pOp2 f2 pa pb ρ = some r) {σ : L2.St} {H : Hp} {Q : Bool → Hp → Prop} (hw : tDT F (pB (pOp2 f pa pb)) σ H Q) : tDT F (pB (pOp2 f1 pa pb)) σ H Q ∨ tDT F (pB (pOp2 f2 pa pb)) σ H Q := by
  obtain ⟨ρ, τ, c, ρ', I, e1, k⟩ := hw
  simp only [pB, Option.bind_eq_some_iff] at e1
  obtain ⟨r, e1, e2⟩ := e1
  rcases h ρ _ e1 with h | h
  · exact .inl ⟨ρ, τ, c, ρ', I, by simp only [pB, Option.bind_eq_some_iff]; exact ⟨r, h, e2⟩, k⟩
  · exact .inr ⟨ρ, τ, c, ρ', I, by simp only [pB, Option.bind_eq_some_iff]; exact ⟨r, h, e2⟩, k⟩
theorem de_inx (hK : F.K = X.kw) (hu : X.A.units + 64 < cLine) (ha : PE X a (tD F pa)) (hb : PE X b (tD F pb)) (hm : behindInMarks .In b = false := by with_unfolding_all rfl) : PE X (.Compare a [.In] [b] pos) (tD F (pOp2 D.inx pa pb)) :=
  PE.imp (PE.or (PE.imp (pe_cmp (pc_din (by omega) ha hb) hm) fun _ _ _ hw => op2_of s_din hw) (de_in hK ha hb hm)) fun σ H Q hw => tD_or (fun ρ r h => inx_or h) hw
theorem de_ninx (hK : F.K = X.kw) (hu : X.A.units + 64 < cLine) (ha : PE X a (tD F pa)) (hb : PE X b (tD F pb)) (hm : behindInMarks .NotIn b = false := by with_unfolding_all rfl) : PE X (.Compare a [.NotIn] [b] pos) (tD F (pOp2 D.ninx pa pb)) :=
  PE.imp (PE.or (PE.imp (pe_cmp (pc_dnotin (by omega) ha hb) hm) fun _ _ _ hw => op2_of s_dnin hw) (de_nin hK ha hb hm)) fun σ H Q hw => tD_or (fun ρ r h => ninx_or h) hw
theorem dt_inx (hK : F.K = X.kw) (hu : X.A.units + 64 < cLine) (ha : PE X a (tD F pa)) (hb : PE X b (tD F pb)) (hm : behindInMarks .In b = false := by with_unfolding_all rfl) : PT X (.Compare a [.In] [b] pos) (tDT F (pB (pOp2 D.inx pa pb))) :=
  PT.imp (PT.or (PT.imp (pt_cmp (pc_din (by omega) ha hb) hm) fun _ _ _ hw => op2_of s_din (Q := _) (tb_of hw)) (dt_in hK ha hb hm)) fun σ H Q hw => tDT_or (fun ρ r h => inx_or h) hw
theorem dt_ninx (hK : F.K = X.kw) (hu : X.A.units + 64 < cLine) (ha : PE X a (tD F pa)) (hb : PE X b (tD F pb)) (hm : behindInMarks .NotIn b = false := by with_unfolding_all rfl) : PT X (.Compare a [.NotIn] [b] pos) (tDT F (pB (pOp2 D.ninx pa pb))) :=
  PT.imp (PT.or (PT.imp (pt_cmp (pc_dnotin (by omega) ha hb) hm) fun _ _ _ hw => op2_of s_dnin (Q := _) (tb_of hw)) (dt_nin hK ha hb hm)) fun σ H Q hw => tDT_or (fun ρ r h => ninx_or h) hw
/-! ### {}, {k: v} -/
def pDct0 : P1 := fun ρ => some (.own (.dct []), ρ)
theorem dct_new {K : KW} {N : Addr → Prop} {H : Hp} {vs : List (Key × V)} {ds : List (Key × D)} {p : Addr} (hp : H p = none) (r : RepK K N H vs ds) : Same H (upd H p (.dK vs)) ∧ Ret K N H (upd H p (.dK vs)) (.ref p) (.own (.dct ds)) := by
  have ne : ∀ b o, H b = some o → b ≠ p := fun b o e z => by rw [z, hp] at e; cases e
  exact ⟨fun b o e => by rw [upd_ne (ne b o e)]; exact e, p, rfl, hp, vs, upd_same, r.keep (fun b o e _ => by rw [upd_ne (ne b o e)]; exact e) fun b h1 h2 => ⟨.inl h1, fun z => by rw [z, hp] at h2; cases h2⟩⟩
theorem de_dct0 : PE X (.Dict [] [] pos) (tD F pDct0) := PE.imp pe_dnewK fun σ H Q hw => by
  obtain ⟨ρ, τ, c, ρ', ⟨ow, I⟩, e1, k⟩ := hw
  cases e1
  intro q hq
  obtain ⟨g, rt⟩ := dct_new (K := F.K) (N := F.N ow) hq (.nil : RepK F.K (F.N ow) H [] [])
  obtain ⟨ow2, I2, _⟩ := I.ret g rt
  exact k _ _ ⟨ow2, I2⟩
theorem RSo.updTop {ow : Ow} {σ : L2.St} {H : Hp} {ρ : Dn.Env} {τ : List (V × C)} {A : Addr} {o o' : HO} {d d' : D} (J : RSo F ow σ H ρ ((.ref A, .own d) :: τ)) (hA : H A = some o) (m : Mut (some o)) (m' : Mut (some o')) (hh : Keeps (F.N ow) H (upd H A o') → Holds F ow (upd H A o') A d') :
    RSo F ow σ (upd H A o') ρ ((.ref A, .own d') :: τ) := by
  obtain ⟨D', e0, hD1, _⟩ := J.tmp.1
  cases e0
  have hk : Keeps (F.N ow) H (upd H A o') := fun b u e hb => by
    have : b ≠ A := by
      rintro rfl
      rcases hb with hb | ⟨xs, rfl⟩ | ⟨ob, u, rfl⟩
      · rw [hb.1] at hD1; cases hD1
      · rw [hA] at e; cases e; exact m
      · rw [hA] at e; cases e; exact m
    rw [upd_ne this]; exact e
  obtain ⟨g1, g2, g3⟩ := J.own A _ hD1
  have nb : ∀ b id, ow b = some id → id ≠ .inr τ.length → b ≠ A := fun b id e n z => by rw [z, hD1] at e; exact n (Option.some.inj e).symm
  have hN : ∀ b, F.N ow b → (H b).isSome = true → F.N ow b := fun _ h _ => h
  have hio : ∀ b, F.io = some b → upd H A o' b = H b := fun b e => upd_ne fun z => g3 (z ▸ e)
  refine ⟨J.len, fun i c e => ?_, J.io, ⟨⟨A, rfl, hD1, hh hk⟩, J.tmp.2.tr hN hk (fun b j hj e => ⟨e, upd_ne (nb b _ e fun z => by cases z; exact absurd hj (Nat.lt_irrefl _))⟩) hio⟩, fun t ht d' e => ?_, fun b id e => ?_, J.tid, fun b o e1 e2 => ?_, fun b e => ?_⟩
  · obtain ⟨w, q1, q2⟩ := J.slot i c e
    exact ⟨w, q1, q2.tr hN hk (fun b e => ⟨e, upd_ne (nb b _ e fun z => by cases z)⟩) hio⟩
  · rcases List.mem_cons.mp ht with rfl | ht
    · cases e
    · exact J.tio t (List.mem_cons_of_mem _ ht) d' e
  · obtain ⟨f1, f2⟩ := J.own b id e
    refine ⟨?_, f2⟩
    by_cases hb : b = A
    · subst hb; rw [upd_same]; rfl
    · rw [upd_ne hb]; exact f1
  · have : b ≠ A := fun z => by rw [z, g2] at e1; cases e1
    rw [upd_ne this]; exact J.keep b o e1 e2
  · rw [hio b e]; exact J.mio b e
/-- {k: v} -/
def pDct1 (pk pv : P1) : P1 := fun ρ => (pk ρ).bind fun a => (pv a.2).bind fun b => if (a.1.kept && b.1.kept) = true then (D.key a.1.d).map fun k => (.own (.dct [(k, b.1.d)]), b.2) else none
theorem de_dct1 (hk : PE X ke (tD F pk)) (hv : PE X ve (tD F pv)) : PE X (.Dict [some ke] [ve] pos) (tD F (pDct1 pk pv)) := PE.imp (pe_disp (pps_cons hk hv pps_nil) rfl rfl (by simp) (by simp)) fun σ H Q hw => by
  obtain ⟨ρ, τ, c, ρ', ⟨ow, I⟩, e1, k⟩ := hw
  simp only [pDct1, Option.bind_eq_some_iff] at e1
  obtain ⟨⟨ck, ρ1⟩, e1, ⟨cv, ρ2⟩, e2, e3⟩ := e1
  split at e3
  · rename_i hkk
    simp only [Option.map_eq_some_iff] at e3
    obtain ⟨kk, e4, e5⟩ := e3
    cases e5
    simp only [Bool.and_eq_true] at hkk
    intro q hq
    obtain ⟨g, rt⟩ := dct_new (K := F.K) (N := F.N ow) hq (.nil : RepK F.K (F.N ow) H [] [])
    obtain ⟨ow2, I2, _⟩ := I.ret g rt
    refine ⟨ρ, _, ck, ρ1, ⟨ow2, I2⟩, e1, fun x H1 I3 => ⟨ρ1, _, cv, ρ', I3, e2, fun y H2 ⟨ow4, I4⟩ => ?_⟩⟩
    obtain ⟨ow5, I5, rl⟩ := RSo.takeS (vs := [x, y]) (cs := [ck, cv]) rfl (by simp [keptL, hkk.1, hkk.2]) I4
    cases rl with
    | cons rk rl => cases rl with
      | cons rv rl =>
        cases rl
        obtain ⟨A, eA, hA, vs', hvs, rr⟩ := I5.tmp.1
        cases eA
        cases rr
        have hx : x = kV kk := key_rep rk.x e4
        refine ⟨hvs, [(kk, y)], by simp [hx], by simp, ?_⟩
        exact k _ _ ⟨ow5, RSo.updTop I5 hvs trivial trivial fun kp => ⟨_, upd_same, .cons (rv.keep kp fun _ h _ => h) .nil⟩⟩
  · cases e3
end
end Dn

namespace Dn
open PySem PySem.Spec PyProof.Rows L2
section
variable {X : Cx} {F : Fr} {W : List Nat} {e a b ke ve oe ie : Expr} {pos spos : Pos} {p pa pb pi pk pv : P1} {ps : PAs}
theorem PS.or {st : Stmt} {t t' : TS} (h : PS X st t) (h' : PS X st t') : PS X st (fun D σ H => t D σ H ∨ t' D σ H) := ⟨fun pins s σ H D I hw => hw.elim (h.run pins s σ H D I) (h'.run pins s σ H D I)⟩
theorem tDS_or {s s1 s2 : S1} (h : ∀ ρ r, s ρ = some r → s1 ρ = some r ∨ s2 ρ = some r) {D : Ends} {σ : L2.St} {H : Hp} (hw : tDS F W s D σ H) : tDS F W s1 D σ H ∨ tDS F W s2 D σ H := by
  obtain ⟨ρ, τ, o, I, nv, e1, k⟩ := hw
  rcases h ρ _ e1 with h | h
  · exact .inl ⟨ρ, τ, o, I, nv, h, k⟩
  · exact .inr ⟨ρ, τ, o, I, nv, h, k⟩
/-! ### d[k] = v -/
def skC (b : D) (ρ : Dn.Env) (j : Nat) (d : Bool × D) (i : C) : Option Out := match i, d.2 with
  | .ro y, .dct ds => (D.key y).bind fun kk => if decide (ds.length < sizeLine) = true then some (.nx (ρ.set j (some (ioCell d.1 (.dct (putD ds kk b)))))) else none
  | _, _ => none
def sSetK (j : Nat) (p pi : P1) : S1 := fun ρ => (p ρ).bind fun a => (cap a.1 a.2).bind fun b => (ioData b.2 j).bind fun _ => (pi b.2).bind fun i => (ioData i.2 j).bind fun d => skC b.1.d i.2 j d i.1
theorem RSo.setDct {ow : Ow} {σ : L2.St} {H : Hp} {ρ : Dn.Env} {τ : List (V × C)} {j : Nat} {bb : Bool} {l l' : List (Key × D)} {ws ws' : List (Key × V)} {a : Addr} (I : RSo F ow σ H ρ τ) (hc : ρ[j]? = some (some (ioCell bb (.dct l)))) (hs : σ[j]? = some (some (.ref a)))
    (ha : H a = some (.dK ws)) (r : RepK F.K (F.N ow) H ws' l') (hn : ¬ F.N ow a) : ∃ ow', RSo F ow' σ (upd H a (.dK ws')) (ρ.set j (some (ioCell bb (.dct l')))) τ := by
  have kk : Keeps (F.N ow) H (upd H a (.dK ws')) := fun b u e hb => by
    have : b ≠ a := by
      rintro rfl
      rcases hb with hb | ⟨xs, rfl⟩ | ⟨ob, u, rfl⟩
      · exact hn hb
      · rw [ha] at e; cases e
      · rw [ha] at e; cases e
    rw [upd_ne this]; exact e
  obtain ⟨ow', J⟩ := I.callIo (v := .non) (c := .ro .non) (M := F.N ow) (d' := .dct l') hc hs (fun b o e hb => by rw [upd_ne hb]; exact e) (fun b hb => ⟨.inl hb, fun z => hn (z ▸ hb)⟩) ⟨ws', upd_same, r.keep kk fun _ h _ => h⟩ .non
  exact ⟨_, J.pop⟩
theorem ds_setK {j : Nat} (hu : X.A.units + 64 < cLine) (he : PE X e (tD F p)) (ho : PE X oe (tVar j)) (hi : PE X ie (tD F pi)) (hs : swapsWith e (some (.Subscript oe ie spos)) pos.line X.env = pure false := by rfl) :
    PS X (.Assign [.Subscript oe ie spos] e pos) (tDS F [] (sSetK j p pi)) := PS.imp (ps_dput (by omega) ho hi he hs) fun D σ H hw => by
  obtain ⟨ρ, τ, o, I, nv, e1, k⟩ := hw
  simp only [sSetK, Option.bind_eq_some_iff] at e1
  obtain ⟨⟨c, ρ1⟩, e1, ⟨c2, ρ2⟩, e2, ⟨b0, d0⟩, e0, ⟨ci, ρ3⟩, e3, ⟨bb, d⟩, e4, e5⟩ := e1
  refine ⟨ρ, τ, c, ρ1, I, e1, fun v H1 ⟨ow, I1⟩ => ?_⟩
  obtain ⟨⟨ow2, I2⟩, nv2⟩ := I1.cap e2
  obtain ⟨a, ha, _⟩ := slot_ref I2 (ioData_get e0)
  refine ⟨.ref a, ha, ρ2, _, ci, ρ3, ⟨ow2, I2⟩, e3, fun iv H2 ⟨ow3, I3⟩ => ?_⟩
  unfold skC at e5
  dsimp only at e5
  split at e5
  · simp only [Option.bind_eq_some_iff] at e5
    obtain ⟨kk, e6, e7⟩ := e5
    split at e7
    · rename_i hz
      cases e7
      have hk : iv = kV kk := key_rep (Rep.x I3.tmp.1) e6
      have I4 := I3.pop
      have rv := RepC.pop I4 nv2
      have I5 := I4.pop
      generalize drop _ (.inr τ.length) = ow5 at I5 rv
      obtain ⟨a', ha', ⟨ws, hws, rl⟩, hn⟩ := slot_ref I5 (ioData_get e4)
      rw [ha] at ha'; cases ha'
      refine ⟨a, _, rfl, .inl ⟨ws, kk, hws, hk, by rw [rl.length]; exact of_decide_eq_true hz, rfl⟩, ?_⟩
      exact k σ _ (fun _ _ => rfl) (I5.setDct (ioData_get e4) ha hws (RepK.put kk rv rl) hn)
    · cases e7
  · cases e5
/-- x[i] = v, whatever x is -/
def sSetX (j : Nat) (p pi : P1) : S1 := fun ρ => (p ρ).bind fun a => (cap a.1 a.2).bind fun b => (ioData b.2 j).bind fun d0 => match d0.2 with
  | .dct _ => sSetK j p pi ρ
  | _ => sSetIx j p pi ρ
theorem setX_or {j : Nat} {ρ : Dn.Env} {r : Out} (h : sSetX j p pi ρ = some r) : sSetK j p pi ρ = some r ∨ sSetIx j p pi ρ = some r := by
  unfold sSetX at h
  simp only [Option.bind_eq_some_iff] at h
  obtain ⟨a, _, b, _, d0, _, h⟩ := h
  split at h
  · exact .inl h
  · exact .inr h
theorem ds_setX {j : Nat} (hu : X.A.units + 64 < cLine) (he : PE X e (tD F p)) (ho : PE X oe (tVar j)) (hi : PE X ie (tD F pi)) (hs0 : swapsWith e (some (.Subscript oe ie spos)) pos.line X.env = pure false := by rfl)
    (hs : swapsWithSole [.Subscript oe ie spos] e pos.line X.env = pure false := by rfl) (hw : swappedStores [.Subscript oe ie spos] e X.env = pure none := by rfl)
    (h1 : (assignEach [.Subscript oe ie spos] X.env).map (·.2) = [assign (.Subscript oe ie spos) X.env] := by rfl)
    (hsub : ∀ v, assign (.Subscript oe ie spos) X.env v = (do
      let ov ← holding [v] (eval oe X.env)
      let iv ← holding [v, ov] (eval ie X.env)
      standAt spos
      holding [v, ov, iv] (setItem ov iv v)
      release [v, ov, iv] []) := by intro _; rfl) : PS X (.Assign [.Subscript oe ie spos] e pos) (tDS F [] (sSetX j p pi)) :=
  PS.imp (PS.or (ds_setK hu he ho hi hs0) (ds_setIx he ho hi hs hw h1 hsub)) fun D σ H hw => tDS_or (fun ρ r h => setX_or h) hw
/-! ### a, b = x, y (plain local names) -/
def sPar (i j : Nat) (ps : PAs) : S1 := fun ρ => (ps ρ).bind fun a => match a.1 with
  | [.ro u, .ro w] => (setE j (.ro w) a.2).bind fun ρ1 => (setE i (.ro u) ρ1).map .nx
  | _ => none
theorem ds_par {i j : Nat} {x y : Str} {px py pt : Pos} {kt k2 pt2} (hc : X.calm = true) (hN : X.N.Nodup) (hi : X.N[i]? = some x) (hj : X.N[j]? = some y) (hij : i ≠ j)
    (hx : X.env.scope.names.lookup x = some .local) (hy : X.env.scope.names.lookup y = some .local) (ha : PA X [a, b] (tDA F ps))
    (hw : swappedStores [.Tuple [.Name x px, .Name y py] kt pt] (.Tuple [a, b] k2 pt2) X.env = pure (some [x, y]) := by rfl)
    (hs : swapsWithSole [.Tuple [.Name x px, .Name y py] kt pt] (.Tuple [a, b] k2 pt2) pos.line X.env = pure false := by rfl) :
    PS X (.Assign [.Tuple [.Name x px, .Name y py] kt pt] (.Tuple [a, b] k2 pt2) pos) (tDS F [i, j] (sPar i j ps)) := PS.imp (ps_par hc hN hi hj hij hx hy ha hw hs) fun D σ H hwt => by
  obtain ⟨ρ, τ, o, I, nv, e1, k⟩ := hwt
  simp only [sPar, Option.bind_eq_some_iff] at e1
  obtain ⟨⟨cs, ρ1⟩, e1, e3⟩ := e1
  split at e3
  · rename_i u w q1
    simp only [Option.bind_eq_some_iff, Option.map_eq_some_iff, setE] at e3
    obtain ⟨ρ3, e3, ρ4, e4, rfl⟩ := e3
    split at e3
    · rename_i hl1
      cases e3
      split at e4
      · rename_i hl2
        cases e4
        simp only at q1
        subst q1
        refine ⟨ρ, τ, _, ρ1, I, e1, fun vs H1 hl I1 => ?_⟩
        match vs, hl, I1 with
        | [v, v2], _, ⟨ow, I1⟩ =>
          obtain ⟨ow1, I2⟩ := RSo.bind (i := j) (v := v2) I1 hl1
          obtain ⟨ow2, I3⟩ := RSo.bind (i := i) (v := v) I2 hl2
          refine ⟨v, v2, rfl, ?_⟩
          rw [List.set_comm _ _ hij]
          refine k _ _ (fun l hl' => ?_) ⟨ow2, I3⟩
          simp only [List.mem_cons, List.not_mem_nil, or_false, not_or] at hl'
          rw [List.getElem?_set_ne (Ne.symm hl'.1), List.getElem?_set_ne (Ne.symm hl'.2)]
      · cases e4
    · cases e3
  · cases e3
end
end Dn

namespace Dn
open PySem PySem.Spec PyProof.Rows L2
/-! ### sorted(d): the keys -/
def keyP : Key → PyData
  | .inl i => .int i
  | .inr x => .str x
def keyD : Key → D
  | .inl i => .int i
  | .inr x => .str x
def leK (x y : Key) : Bool := PySem.W.dataLe false keyP x y
def isStrK : Key → Bool
  | .inr _ => true
  | _ => false
def oneKind (ks : List Key) : Bool := ks.all isStrK || ks.all fun k => !isStrK k
theorem alike_keys {ks : List Key} (h : oneKind ks = true) : PySem.W.AllAlike (ks.map keyP) := by
  intro d hd d' hd'
  obtain ⟨k, hk, rfl⟩ := List.mem_map.mp hd
  obtain ⟨k', hk', rfl⟩ := List.mem_map.mp hd'
  simp only [oneKind, Bool.or_eq_true, List.all_eq_true] at h
  rcases h with h | h
  · have h1 := h k hk; have h2 := h k' hk'
    cases k <;> cases k' <;> simp [isStrK] at h1 h2 <;> simp [keyP, PySem.W.alike]
  · have h1 := h k hk; have h2 := h k' hk'
    cases k <;> cases k' <;> simp [isStrK] at h1 h2 <;> simp [keyP, PySem.W.alike]
section
variable {P : Program} {W : World} {A : Around} {E : Value → Shared → Prop} {s : Shared}
theorem each_keys {h : Heap} {a : Addr} : ∀ {vs : List Value} {ks : List Key}, Vals (ks.map kV) vs → PySem.W.EachIs (fun v (k : Key) => RelV (kV k) v) vs ks ∧ PySem.W.EachIs (fun v (k : Key) => ∃ as, Reads h v (keyP k) as ∧ a ∉ as) vs ks
  | _, [], r => by cases r; exact ⟨.nil, .nil⟩
  | _, k :: ks, r => by
    cases r with
    | cons r1 r2 =>
      obtain ⟨h1, h2⟩ := each_keys (h := h) (a := a) r2
      refine ⟨.cons r1 h1, .cons ?_ h2⟩
      cases k with
      | inl i => obtain ⟨t, rfl⟩ := r1; exact ⟨[], .int _ _, by simp⟩
      | inr x => obtain ⟨t, rfl⟩ := r1; exact ⟨[], .str _ _, by simp⟩
theorem vals_keys : ∀ {vs : List Value} {ks : List Key}, PySem.W.EachIs (fun v (k : Key) => RelV (kV k) v) vs ks → Vals (ks.map kV) vs
  | _, _, .nil => .nil
  | _, _, .cons h t => .cons h (vals_keys t)
end
section
variable {X : Cx}
def rSortedDK (K : KW) : List V → Hp → VK → Prop := fun vs H Q => ∃ (a : Addr) (kvs : List (Key × V)), vs = [V.ref a] ∧ Rd H a (.dK kvs) ∧ oneKind (kvs.map (·.1)) = true ∧
  ∀ p, H p = none → Q (.ref p) (upd H p (.lst (((kvs.map (·.1)).mergeSort leK).map kV)))
theorem cr_sortedDK (hc : X.calm = true) (hu : X.A.units + 64 < cLine) : CallR X (.builtin "sorted") (rSortedDK X.kw) := by
  intro pins s σ H vs us Q I r h
  obtain ⟨a, kvs, rfl, hs, ok, q⟩ := h
  rw [Vals.ref1 r]
  obtain ⟨z, lo, rs, rk, hd⟩ := (show ObjOk X.prog X.w H s.heap a (.dK kvs) from hs.ok I.hok)
  obtain ⟨ep, hat⟩ := hd.dictAt
  have hl : kvs.length = rs.length := Paired.length rk
  refine Calls.call_function_entry kind_sorted plain_sorted entry_sorted (args_sorted1 _) ?_; unfold Builtin.«sorted»
  refine wpAny_bind (m := checkCount "sorted" 1 1 _) (wpAny_pure (wpAny_bind (PySem.W.kdu_collect (A := X.A.in1) (PySem.W.kdl_dict (knd := mixKind X.prog X.w) (kvs := rs) (ep := ep) lo) (I.ok.hd hc) hat (by rw [← hl]; exact z) fun h' tk acc hk hacc => ?_)))
  have vk : Vals ((kvs.map (·.1)).map kV) acc.toList := by
    have el : acc.toList.length = acc.size := by simp
    refine vals_of_at (by rw [List.length_map, List.length_map, el, hacc.1, hl]) fun j x w h1 h2 => ?_
    obtain ⟨k, y, hky, hi⟩ := hacc.2 j w (by rw [← Array.getElem?_toList]; exact h2)
    have e1 : (kvs.map (·.1))[j]? = some k := by rw [KV.keys rk, List.getElem?_map, hky] <;> rfl
    rw [List.getElem?_map, e1] at h1
    cases h1
    exact keyIs_rel hi
  have len : acc.toList.length = kvs.length := by rw [← vk.length]; simp
  refine wpAny_bind (wpAny_newList ?_ (by rw [len]; exact z))
  have hoL : (h'.push (seqObj "list" acc.toList.toArray 0)).get? h'.objs.size = some (seqObj "list" acc.toList.toArray 0) := Heap.get?_push_size _ rfl
  obtain ⟨ea, eb⟩ := each_keys (h := h'.push (seqObj "list" acc.toList.toArray 0)) (a := h'.objs.size) vk
  refine wpAny_bind (wpAny_holding (PySem.W.list_sort_data (s := { s with heap := h'.push (seqObj "list" acc.toList.toArray 0), toks := tk }) (enc := keyP) hoL ea eb (alike_keys ok) (PySem.W.Sortable.others fun k => by cases k <;> exact ⟨by simp [keyP], by simp [keyP]⟩) (by rw [List.length_map]; exact z) (fun b _ => ?_) fun out ho eo => ?_))
  · have d0 : (keyP b).depth = 0 := by cases b <;> simp [keyP, PyData.depth]
    have u1 : X.A.in1.units = X.A.units + 1 := by first | rfl | simp
    omega
  · obtain ⟨c, hcc⟩ := sortedHeap_at (vs := acc.toList) (out := out.toArray) hoL
    have I2 : Inv X pins σ H { s with heap := h', toks := tk } := I.kept fun b o e => hk b o e
    have hn : H h'.objs.size = none := I2.hok.fresh (Nat.le_refl _)
    have old : ∀ b u, h'.get? b = some u → (sortedHeap (h'.push (seqObj "list" acc.toList.toArray 0)) h'.objs.size acc.toList out.toArray).get? b = some u := fun b u e => by
      have hlt := Heap.lt_size e
      rw [sortedHeap_old (Nat.ne_of_lt hlt) (by rw [size_push']; exact Nat.lt_succ_of_lt hlt)]
      exact Heap.get?_push_of_some _ e
    have sl : (((kvs.map (·.1)).mergeSort leK).map kV).length ≤ sizeLine := by
      rw [List.length_map, List.length_mergeSort, List.length_map]; exact z
    exact wpAny_pure ⟨_, rfl, .ref _, upd H h'.objs.size (.lst (((kvs.map (·.1)).mergeSort leK).map kV)), I2.laid (t' := tk) old (Nat.le_refl _) ⟨sl, out, c, vals_keys eo, hcc⟩, rfl, q _ hn⟩
end
/-- sorted(x), x a list or a dict -/
def D.srt : List D → Option C
  | [x] => match D.asD x with
    | some ds => if oneKind (ds.map (·.1)) = true then some (.own (.lst (((ds.map (·.1)).mergeSort leK).map keyD))) else none
    | none => D.sorted [x]
  | _ => none
theorem rep_keys {K : KW} {N : Addr → Prop} {H : Hp} : ∀ ks : List Key, RepL K N H (ks.map kV) (ks.map keyD)
  | [] => .nil
  | .inl i :: ks => .cons (.int i) (rep_keys ks)
  | .inr x :: ks => .cons (.str x) (rep_keys ks)
theorem s_srt {X : Cx} : FunS X.kw (fun vs H Q => rSortedD X vs H Q ∨ rSortedDK X.kw vs H Q) D.srt := by
  intro N H vs ds c Q r e k
  unfold D.srt at e
  split at e
  · rename_i x
    cases e0 : D.asD x with
    | some ds =>
      simp only [e0] at e
      split at e
      · rename_i hz
        cases e
        cases r with
        | cons rx r =>
          cases r
          obtain ⟨a, kvs, rfl, h1, r1⟩ := rx.asD e0
          have ek : kvs.map (·.1) = _ := r1.keys
          refine .inr ⟨a, kvs, rfl, h1, by rw [ek]; exact hz, fun p hp => ?_⟩
          rw [ek]
          exact ret_lst hp (rep_keys _) k
      · cases e
    | none =>
      simp only [e0] at e
      exact .inl (s_sorted rfl N H _ _ c Q r e k)
  · cases e
/-- len(x), x a dict too -/
def D.lenx : List D → Option C
  | [x] => match D.asD x with
    | some ds => some (.ro (.int ds.length))
    | none => D.len [x]
  | _ => none
theorem cr_lenD {X : Cx} : CallR X (.builtin "len") (fun xs H Q => ∃ a kvs, xs = [V.ref a] ∧ Rd H a (.dK kvs) ∧ Q (.int kvs.length) H) := by
  intro pins s σ H vs us Q I r h
  obtain ⟨a, kvs, rfl, hs, q⟩ := h
  rw [Vals.ref1 r]
  exact d_len I hs fun t s' I' => ⟨.int kvs.length, H, I', ⟨t, rfl⟩, q⟩
theorem s_lenx {X : Cx} : FunS X.kw (fun vs H Q => (∃ x n, vs = [x] ∧ LenV X.K x H n ∧ Q (.int n) H) ∨ ∃ a kvs, vs = [V.ref a] ∧ Rd H a (.dK kvs) ∧ Q (.int kvs.length) H) D.lenx := by
  intro N H vs ds c Q r e k
  unfold D.lenx at e
  split at e
  · rename_i x
    cases e0 : D.asD x with
    | some ds =>
      simp only [e0] at e
      cases e
      cases r with
      | cons rx r =>
        cases r
        obtain ⟨a, kvs, rfl, h1, r1⟩ := rx.asD e0
        refine .inr ⟨a, kvs, rfl, h1, ?_⟩
        rw [r1.length]; exact ret_int k
    | none =>
      simp only [e0] at e
      exact .inl (s_len N H _ _ c Q r e k)
  · cases e
theorem de_lenx {X : Cx} {F : Fr} {e : Expr} {ps : PAs} {pp pos : Pos} (hK : F.K = X.kw) (hg : Gl X "len") (hm : X.mg "len" = none) (ha : PA X [e] (tDA F ps)) (h1 : starEach [e] X.env = (false, eval e X.env) :: starEach [] X.env := by rfl) (h2 : (backTo pos (starEach [] X.env)).any (·.1) = false := by rfl) : PE X (.Call (.Name "len" pp) [e] [] pos) (tD F (pFun D.lenx ps)) :=
  PE.imp (pe_callB (r := fun vs H Q => (∃ x n, vs = [x] ∧ LenV X.K x H n ∧ Q (.int n) H) ∨ ∃ a kvs, vs = [V.ref a] ∧ Rd H a (.dK kvs) ∧ Q (.int kvs.length) H) (fun pins s σ H vs us Q I r h => h.elim (fun h => call_len pins s σ H vs us Q I r h) fun h => cr_lenD pins s σ H vs us Q I r h) hg hm boot_len ha (he := h1) (hpl := h2)) fun σ H Q hw => fun_of (r := fun vs H Q => (∃ x n, vs = [x] ∧ LenV X.K x H n ∧ Q (.int n) H) ∨ ∃ a kvs, vs = [V.ref a] ∧ Rd H a (.dK kvs) ∧ Q (.int kvs.length) H) (by rw [hK]; exact s_lenx) hw
theorem de_srt {X : Cx} {F : Fr} {e : Expr} {ps : PAs} {pp pos : Pos} (hK : F.K = X.kw) (hc : X.calm = true) (hu : X.A.units + 64 < cLine) (hg : Gl X "sorted") (hm : X.mg "sorted" = none) (ha : PA X [e] (tDA F ps)) (h1 : starEach [e] X.env = (false, eval e X.env) :: starEach [] X.env := by rfl) (h2 : (backTo pos (starEach [] X.env)).any (·.1) = false := by rfl) : PE X (.Call (.Name "sorted" pp) [e] [] pos) (tD F (pFun D.srt ps)) :=
  PE.imp (pe_callB (r := fun vs H Q => rSortedD X vs H Q ∨ rSortedDK X.kw vs H Q) (fun pins s σ H vs us Q I r h => h.elim (fun h => cr_sortedD hu pins s σ H vs us Q I r h) fun h => cr_sortedDK hc hu pins s σ H vs us Q I r h) hg hm boot_sorted ha (he := h1) (hpl := h2)) fun σ H Q hw => fun_of (r := fun vs H Q => rSortedD X vs H Q ∨ rSortedDK X.kw vs H Q) (by rw [hK]; exact s_srt) hw
/-! ### str(i), str(None) -/
def D.toStr : List D → Option C
  | [.int i] => if decide (i.natAbs.log2 < 1920) = true then some (.ro (.str (toString i))) else none
  | [.str x] => some (.ro (.str x))
  | _ => none
theorem s_toStr {K : KW} : FunS K (fun xs H Q => (∃ i, xs = [V.int i] ∧ i.natAbs.log2 < 1920 ∧ Q (.str (toString i)) H) ∨ ∃ a, xs = [V.str a] ∧ Q (.str a) H) D.toStr := by
  intro N H vs ds c Q r e k
  unfold D.toStr at e
  split at e
  · split at e
    · rename_i hz
      cases e
      cases r with
      | cons r1 r => cases r; exact .inl ⟨_, by rw [r1.int], of_decide_eq_true hz, ret_ro (.str _) k⟩
    · cases e
  · cases e
    cases r with
    | cons r1 r => cases r; exact .inr ⟨_, by rw [r1.str], ret_ro (.str _) k⟩
  · cases e
theorem de_toStr {X : Cx} {F : Fr} {e : Expr} {ps : PAs} {pp pos : Pos} (hg : Gl X "str") (hm : X.mg "str" = none) (ha : PA X [e] (tDA F ps)) (h1 : starEach [e] X.env = (false, eval e X.env) :: starEach [] X.env := by rfl) (h2 : (backTo pos (starEach [] X.env)).any (·.1) = false := by rfl) : PE X (.Call (.Name "str" pp) [e] [] pos) (tD F (pFun D.toStr ps)) :=
  PE.imp (pe_callTy (r := fun xs H Q => (∃ i, xs = [V.int i] ∧ i.natAbs.log2 < 1920 ∧ Q (.str (toString i)) H) ∨ ∃ a, xs = [V.str a] ∧ Q (.str a) H) (fun pins s σ H vs us Q I r h => h.elim (fun h => call_str_int pins s σ H vs us Q I r h) fun h => SkE.call_str_str pins s σ H vs us Q I r h) hg hm PyProof.Rows.boot_str ha (he := h1) (hpl := h2)) fun σ H Q hw => fun_of (r := fun xs H Q => (∃ i, xs = [V.int i] ∧ i.natAbs.log2 < 1920 ∧ Q (.str (toString i)) H) ∨ ∃ a, xs = [V.str a] ∧ Q (.str a) H) s_toStr hw
end Dn

namespace Dn
open PySem PySem.Spec PyProof.Rows L2
/-! ### l.index(x), flat items -/
def D.flatS : D → Bool
  | .int _ => true
  | .str _ => true
  | _ => false
def sameS : D → D → Bool
  | .int a, .int b => decide (a = b)
  | .str a, .str b => decide (a = b)
  | _, _ => false
def opIndex (l ds : List D) : Option (List D × D) := match ds with
  | [y] => if (y.flatS && l.all D.flatS) = true then (l.findIdx? fun z => sameS z y).map fun j => (l, .int (j : Nat)) else none
  | _ => none
theorem flatS_v {K : KW} {N : Addr → Prop} {H : Hp} {v : V} {d : D} (r : Rep K N H v d) (h : d.flatS = true) : flatV v = true := by
  cases d <;> first | (cases r; rfl) | cases h
theorem flatS_all {K : KW} {N : Addr → Prop} {H : Hp} : ∀ {vs : List V} {ds : List D}, RepL K N H vs ds → ds.all D.flatS = true → vs.all flatV = true
  | _, _, .nil, _ => rfl
  | _, _, .cons r1 r2, h => by
    simp only [List.all_cons, Bool.and_eq_true] at h ⊢
    exact ⟨flatS_v r1 h.1, flatS_all r2 h.2⟩
theorem sameS_v {K : KW} {N : Addr → Prop} {H : Hp} {v u : V} {d e : D} (r : Rep K N H v d) (q : Rep K N H u e) (h : d.flatS = true) (h' : e.flatS = true) : eqV v u = sameS d e := by
  cases d <;> first | (cases h; done) | (cases e <;> first | (cases h'; done) | (cases r; cases q; first | rfl | (simp [eqV, sameS]; done) | (simp only [eqV, sameS]; first | exact Bool.beq_eq_decide_eq .. | rfl)))
theorem upd_self {H : Hp} {a : Addr} {o : HO} (h : H a = some o) : upd H a o = H := by
  funext b
  by_cases e : b = a
  · subst e; rw [upd_same, h]
  · rw [upd_ne e]
theorem s_index {K : KW} : LMutS K (rIndex K) opIndex := by
  intro N H a ws l vs ds l' t Q h rl rd e k
  unfold opIndex at e
  split at e
  · rename_i y
    split at e
    · rename_i hz
      simp only [Bool.and_eq_true] at hz
      simp only [Option.map_eq_some_iff] at e
      obtain ⟨j, e1, e2⟩ := e
      cases e2
      cases rd with
      | cons ry rd =>
        cases rd
        obtain ⟨hj, pj, nj⟩ := List.findIdx?_eq_some_iff_getElem.mp e1
        have hlen := rl.length
        have hjw : j < ws.length := by omega
        have at' : ∀ (m : Nat) (hm : m < l.length) (hm' : m < ws.length), Rep K N H ws[m] l[m] := fun m hm hm' => by
          obtain ⟨d, hd, hr⟩ := rl.get (List.getElem?_eq_getElem hm')
          rw [List.getElem?_eq_getElem hm] at hd; cases hd; exact hr
        have fl : ∀ (m : Nat) (hm : m < l.length), l[m].flatS = true := fun m hm => List.all_eq_true.mp hz.2 _ (List.getElem_mem hm)
        refine ⟨a, ws, _, j, ws[j], rfl, rfl, SqL.of h, flatS_v ry hz.1, flatS_all rl hz.2, List.getElem?_eq_getElem hjw, ?_, fun m z hm hz' => ?_, ?_⟩
        · rw [sameS_v (at' j hj hjw) ry (fl j hj) hz.1]; exact pj
        · have hml : m < l.length := by omega
          have hmw : m < ws.length := by omega
          rw [List.getElem?_eq_getElem hmw] at hz'; cases hz'
          rw [sameS_v (at' m hml hmw) ry (fl m hml) hz.1]
          have := nj m hm
          simpa using this
        · have := k (.int (j : Nat)) ws rl (.int _)
          rw [upd_self h] at this
          exact this
    · cases e
  · cases e
end Dn

namespace DnS
open PySem PySem.Spec PyProof.Rows L2 HT
section
variable {prog : Program} {w : World} {A : Around} {E : Value → Shared → Prop} {s : Shared}
theorem adjust_rev (n : Nat) : Builtin.Slice.sliceAdjust none none (-1) (n : Int) = ((n : Int) - 1, -1) := by
  unfold Builtin.Slice.sliceAdjust
  simp
theorem places_rev (n : Nat) : Builtin.Slice.slicePlaces ((n : Int) - 1) (-1) (-1) = n := by
  unfold Builtin.Slice.slicePlaces
  simp
  try omega
theorem applied_rev {sl : Addr} {vs : Value} {n : Nat} {Q : Int × Int × Nat → Shared → Prop} (hs : s.heap.IsSliceOf sl .none .none vs) (ps : IsPart vs (some (-1)))
    (h : Q ((n : Int) - 1, -1, n) s) : wpAny (model prog w) A (Builtin.Slice.sliceApplied (.ref sl) (pure (n : Int))) Q E s := by
  obtain ⟨o, ho, hc, hd⟩ := id hs
  unfold Builtin.Slice.sliceApplied Builtin.Slice.sliceFields
  refine wpAny_bind (wpAny_bind (wpAny_field ho hd (x := .none) rfl (wpAny_bind (wpAny_field ho hd (x := .none) rfl (wpAny_bind (wpAny_field ho hd (x := vs) rfl (wpAny_pure ?_)))))))
  refine wpAny_bind (slicePart_ ps ?_)
  show wpAny _ _ (if ((-1 : Int) == 0) = true then _ else _) _ _ s
  rw [if_neg (by decide)]
  refine wpAny_bind (slicePart_none (wpAny_bind (slicePart_none (wpAny_bind (wpAny_pure ?_)))))
  show wpAny _ _ (match Builtin.Slice.sliceAdjust none none (-1) (n : Int) with | (lo, hi) => pure (lo, (-1 : Int), Builtin.Slice.slicePlaces lo hi (-1))) _ _ s
  rw [adjust_rev]
  show wpAny _ _ (pure ((n : Int) - 1, (-1 : Int), Builtin.Slice.slicePlaces ((n : Int) - 1) (-1) (-1))) _ _ s
  rw [places_rev]
  exact wpAny_pure h
theorem fm_congr {α β : Type} {f g : α → Option β} : ∀ {l : List α}, (∀ m ∈ l, f m = g m) → l.filterMap f = l.filterMap g
  | [], _ => rfl
  | x :: l, h => by rw [List.filterMap_cons, List.filterMap_cons, h x (List.mem_cons_self ..), fm_congr fun m hm => h m (List.mem_cons_of_mem _ hm)]
theorem pick_rev (xs : Array Value) : ((List.range xs.size).filterMap fun (m : Nat) => xs[(((xs.size : Int) - 1) + (m : Int) * (-1)).toNat]?).toArray = xs.toList.reverse.toArray := by
  congr 1
  apply List.ext_getElem?
  have e : (fun (m : Nat) => xs[(((xs.size : Int) - 1) + (m : Int) * (-1)).toNat]?) = fun m => if m < xs.size then xs[xs.size - 1 - m]? else xs[0]? := by
    funext m
    by_cases h : m < xs.size
    · rw [if_pos h]; congr 1; omega
    · rw [if_neg h]; congr 1; omega
  have e2 : (List.range xs.size).filterMap (fun (m : Nat) => xs[(((xs.size : Int) - 1) + (m : Int) * (-1)).toNat]?) = xs.toList.reverse := by
    have : ∀ l : List Nat, (∀ m ∈ l, m < xs.size) → l.filterMap (fun (m : Nat) => xs[(((xs.size : Int) - 1) + (m : Int) * (-1)).toNat]?) = l.filterMap fun m => xs.toList.reverse[m]? := by
      intro l hl
      apply fm_congr
      intro m hm
      have hms := hl m hm
      rw [List.getElem?_reverse (by simpa using hms)]
      rw [← Array.getElem?_toList]
      congr 1
      simp only [Array.length_toList]
      omega
    rw [this _ fun m hm => List.mem_range.mp hm]
    have hl : xs.size = xs.toList.reverse.length := by simp
    rw [hl]
    generalize xs.toList.reverse = ys
    clear this e hl
    induction ys with
    | nil => rfl
    | cons y ys ih =>
      rw [List.length_cons, List.range_succ_eq_map, List.filterMap_cons]
      simp only [List.getElem?_cons_zero, List.filterMap_map]
      congr 1
  intro i
  rw [e2]
theorem getItem_rev {t sl : Addr} {items : Array Value} {vs : Value} {Q : Value → Shared → Prop} (ht : IsTup s.heap t items) (hs : s.heap.IsSliceOf sl .none .none vs) (ps : IsPart vs (some (-1)))
    (h : Q (.ref s.heap.objs.size) { s with heap := s.heap.push { cls := .type "tuple", data := .seq items.toList.reverse.toArray } })
    (hsz : items.size ≤ sizeLine) : wpAny (model prog w) A (getItem (.ref t) (.ref sl)) Q E s := by
  have fits : sizeOk (.seq items.toList.reverse.toArray) := by
    show items.toList.reverse.toArray.size ≤ sizeLine
    simpa using hsz
  obtain ⟨o, ho, hc, hd⟩ := id hs
  have ty : s.TypeIs (.ref sl) "slice" := ⟨o, ho, hc⟩
  unfold getItem
  try with_reducible refine wpAny_holding ?_
  first | refine wpAny_bind (wpAny_pure ?_) | skip
  refine wpAny_bind (wpAny_sequenceKey ht.typeIs (by decide) (wpAny_bind (wpAny_callSpecial?_slot (name := Str.ofString "__getitem__") ht.typeIs PyProof.Rows.slot_tuple_getitem (wpAny_call_entry PyProof.Rows.slot_tuple_getitem ht.typeIs entry_tuple_getitem ?_ (args_tuple_getitem _ _)))))
  show wpAny _ _ (Builtin.Tuple.tupleItemsOf (.ref t) >>= _) _ _ s
  refine wpAny_bind (tupleItemsOf_ ht (wpAny_bind (wpAny_typeOf ty ?_)))
  rw [if_pos (by decide)]
  refine wpAny_bind (applied_rev hs ps ?_)
  have no : ¬ ((((items.size : Int) - 1) == 0 && (-1 : Int) == 1 && items.size == items.size) = true) := by simp
  show wpAny _ _ (if (((items.size : Int) - 1) == 0 && (-1 : Int) == 1 && items.size == items.size) = true then _ else _) _ _ s
  rw [if_neg no, pick_rev]
  first
    | exact wpAny_bind (m := Builtin.Tuple.tupleExact _) (wpAny_newObj_type (wpAny_pure ⟨_, rfl, wpAny_pure h⟩) fits)
    | exact wpAny_bind (m := Builtin.Tuple.tupleExact _) (wpAny_newObj_type (wpAny_bind (wpAny_pure (wpAny_pure ⟨_, rfl, wpAny_pure h⟩))) fits)
    | exact wpAny_bind (wpAny_bind (m := Builtin.Tuple.tupleExact _) (wpAny_newObj_type (wpAny_pure (wpAny_pure ⟨_, rfl, wpAny_pure h⟩)) fits))
    | exact wpAny_bind (wpAny_bind (m := Builtin.Tuple.tupleExact _) (wpAny_newObj_type (wpAny_pure ⟨_, rfl, wpAny_pure h⟩) fits))
end
section
variable {X : Cx}
def tRevT (K : PySem.W.Frag) (te : TE) : TE := fun σ H Q => te σ H fun x H1 => ∃ a xs, x = .ref a ∧ SqT K H1 a xs ∧ ∀ (p : Addr) (o : Obj), o.dict = none → H1 p = none → Q (.ref p) (upd H1 p (.frz o (.tup xs.reverse)))
theorem pe_revT {e : Expr} {te : TE} {k : Nat} {p1 p2 p3 pos : Pos} (he : PE X e te) : PE X (.Subscript e (.Slice none none (some (.UnaryOp .USub (.Constant (.int 1) k p1) p2)) p3) pos) (tRevT X.K te) := by
  refine ⟨fun pins s σ H Q I h => Subscript_ (thn (he.run pins s σ H _ I h) fun v s1 ⟨x, H1, I1, r1, a, xs, ex, hx, q⟩ => ?_)⟩
  subst ex; cases r1
  have st : PO X (some (.UnaryOp .USub (.Constant (.int 1) k p1) p2)) (tPart (tUn (rU fun i => .int (-i)) (tC (.int 1)))) := po_some (pe_un un_neg pe_int)
  refine wpAny_Slice (thn (po_none.run pins s1 σ H1 (fun o G => o = none ∧ G = H1) I1 ⟨rfl, rfl⟩) fun vl s2 ⟨l, H2, I2, pl, el, e2⟩ => ?_)
  subst el e2
  refine thn (po_none.run pins s2 σ H2 (fun o G => o = none ∧ G = H2) I2 ⟨rfl, rfl⟩) fun vu s3 ⟨u, H3, I3, pu, eu, e3⟩ => ?_
  subst eu e3
  refine thn (st.run pins s3 σ H3 (fun o G => o = some (-1) ∧ G = H3) I3 ⟨1, rfl, -1, rfl, rfl, rfl⟩) fun vs s4 ⟨o, H4, I4, ps, eo, e4⟩ => ?_
  subst eo e4
  cases pl; cases pu
  have I5 : Inv X pins σ H4 { s4 with heap := s4.heap.push { cls := .type "slice", data := .fields #[.none, .none, vs] } } := I4.kept (t' := s4.toks) fun b ob q => Heap.get?_push_of_some _ q
  obtain ⟨its, r, ht, hz⟩ := I5.tuple hx
  have len := r.length
  show wpAny (model X.prog X.w) X.A (subscriptTail e (.Slice none none (some (.UnaryOp .USub (.Constant (.int 1) k p1) p2)) p3) (.ref a) (.ref s4.heap.objs.size)) (EP X pins σ Q) X.xe { s4 with heap := s4.heap.push { cls := .type "slice", data := .fields #[.none, .none, vs] } }
  refine tail_any (ops := [.ref a, .ref s4.heap.objs.size]) ht.typeIs (PySem.F.slot_tuple_getitem.lookup) ?_ (by with_unfolding_all rfl)
  refine getItem_rev ht (Heap.IsSliceOf.new _ .none .none vs) ps ?_ (by rw [List.size_toArray]; omega)
  exact ⟨.ref _, _, I5.laid (t' := s4.toks) (o := .frz _ (.tup xs.reverse)) (fun b ob q => Heap.get?_push_of_some _ q) (Nat.le_refl _) ⟨Heap.get?_push_size _ rfl, by rw [List.length_reverse]; exact hz, its.reverse, r.reverse, IsTup.new _ _⟩, rfl, q _ _ rfl (I5.hok.fresh (Nat.le_refl _))⟩
end
end DnS
namespace Dn
open PySem PySem.Spec PyProof.Rows L2
/-- x[::-1] -/
def D.rev : D → Option C
  | .lst ds => some (.own (.lst ds.reverse))
  | .tup ds => some (.ro (.tup ds.reverse))
  | _ => none
theorem RepL.rev {K : KW} {N : Addr → Prop} {H : Hp} : ∀ {vs : List V} {ds : List D}, RepL K N H vs ds → RepL K N H vs.reverse ds.reverse
  | _, _, .nil => .nil
  | _, _, .cons r1 r2 => by rw [List.reverse_cons, List.reverse_cons]; exact (RepL.rev r2).append (.cons r1 .nil)
def isTupD : D → Bool
  | .tup _ => true
  | _ => false
def D.revL (d : D) : Option C := if isTupD d = true then none else D.rev d
def D.revT (d : D) : Option C := if isTupD d = true then D.rev d else none
theorem s_revL {K : KW} : Op1S K (fun x H Q => ∃ a xs, x = .ref a ∧ SqL K H a xs ∧ ∀ p, H p = none → Q (.ref p) (upd H p (.lst xs.reverse))) D.revL := by
  intro N H x dx c Q rx e k
  cases dx <;> simp [D.revL, isTupD, D.rev] at e
  subst e
  obtain ⟨a, vs, rfl, h1, r1⟩ := rx.lst
  exact ⟨a, vs, rfl, SqL.of h1, fun p hp => ret_lst hp r1.rev k⟩
theorem s_revT {K : KW} : Op1S K (fun x H Q => ∃ a xs, x = .ref a ∧ SqT K H a xs ∧ ∀ (p : Addr) (o : Obj), o.dict = none → H p = none → Q (.ref p) (upd H p (.frz o (.tup xs.reverse)))) D.revT := by
  intro N H x dx c Q rx e k
  cases dx <;> simp [D.revT, isTupD, D.rev] at e
  subst e
  obtain ⟨a, vs, rfl, h1, r1⟩ := rx.tup
  exact ⟨a, vs, rfl, h1, fun p o ho hp => ret_tup ho hp r1.rev k⟩
section
variable {X : Cx} {F : Fr} {e : Expr} {pa : P1}
theorem rev_or {ρ : Dn.Env} {r : C × Dn.Env} (h : pOp1 D.rev pa ρ = some r) : pOp1 D.revL pa ρ = some r ∨ pOp1 D.revT pa ρ = some r := by
  simp only [pOp1, Option.bind_eq_some_iff, Option.map_eq_some_iff] at *
  obtain ⟨a, e1, x, e2, c, e3, e4⟩ := h
  by_cases hx : isTupD x = true
  · exact .inr ⟨a, e1, x, e2, c, by rw [D.revT, if_pos hx]; exact e3, e4⟩
  · exact .inl ⟨a, e1, x, e2, c, by rw [D.revL, if_neg hx]; exact e3, e4⟩
theorem de_rev {k : Nat} {p1 p2 p3 pos : Pos} (hK : F.K = X.kw) (he : PE X e (tD F pa)) : PE X (.Subscript e (.Slice none none (some (.UnaryOp .USub (.Constant (.int 1) k p1) p2)) p3) pos) (tD F (pOp1 D.rev pa)) :=
  PE.imp (PE.or (PE.imp (pe_revL he) fun σ H Q hw => by have := op1_of s_revL hw; rw [hK] at this; exact this) (PE.imp (DnS.pe_revT he) fun σ H Q hw => by have := op1_of s_revT hw; rw [hK] at this; exact this)) fun σ H Q hw => tD_or (fun ρ r h => rev_or h) hw
end
end Dn

namespace Dn
open PySem PySem.Spec PyProof.Rows L2
/-! ### a dict that nobody changes any more -/
section
variable {X : Cx} {F : Fr} {e : Expr} {p : P1}
theorem RSo.frzTop {ow : Ow} {σ : L2.St} {H : Hp} {ρ : Dn.Env} {τ : List (V × C)} {A : Addr} {od : Obj} {vs : List (Key × V)} {ds : List (Key × D)} (J : RSo F ow σ H ρ ((.ref A, .own (.dct ds)) :: τ)) (hA : H A = some (.dK vs)) :
    ∃ ow', RSo F ow' σ (upd H A (.frz od (.dK vs))) ρ ((.ref A, .ro (.fdc ds)) :: τ) := by
  obtain ⟨D', e0, hD1, vs', e1, r1⟩ := J.tmp.1
  cases e0
  rw [hA] at e1; cases e1
  have hk : Keeps (F.N ow) H (upd H A (.frz od (.dK vs))) := fun b u e hb => by
    have : b ≠ A := by
      rintro rfl
      rcases hb with hb | ⟨xs, rfl⟩ | ⟨ob, u, rfl⟩
      · rw [hb.1] at hD1; cases hD1
      · rw [hA] at e; cases e
      · rw [hA] at e; cases e
    rw [upd_ne this]; exact e
  obtain ⟨g1, g2, g3⟩ := J.own A _ hD1
  have nb : ∀ b id, ow b = some id → id ≠ .inr τ.length → b ≠ A := fun b id e n z => by rw [z, hD1] at e; exact n (Option.some.inj e).symm
  have dk : ∀ b id, ow b = some id → id ≠ .inr τ.length → drop ow (.inr τ.length) b = some id := fun b id e n => by
    unfold drop; rw [if_neg (by rw [e]; exact fun z => n (Option.some.inj z))]; exact e
  have dr : ∀ b id, drop ow (.inr τ.length) b = some id → ow b = some id ∧ b ≠ A := fun b id e => by
    unfold drop at e
    by_cases h : ow b = some (.inr τ.length)
    · rw [if_pos h] at e; cases e
    · rw [if_neg h] at e; exact ⟨e, fun z => h (z ▸ hD1)⟩
  have hN : ∀ b, F.N ow b → (H b).isSome = true → F.N (drop ow (.inr τ.length)) b := drop_N
  have hio : ∀ b, F.io = some b → upd H A (.frz od (.dK vs)) b = H b := fun b e => upd_ne fun z => g3 (z ▸ e)
  refine ⟨drop ow (.inr τ.length), J.len, fun i c e => ?_, J.io, ⟨.fdc ⟨drop_at hD1, g3, .inr g2⟩ upd_same (r1.keep hk hN), J.tmp.2.tr hN hk (fun b j hj e => ⟨dk b _ e fun z => (by cases z; exact absurd hj (Nat.lt_irrefl _)), upd_ne (nb b _ e fun z => by cases z; exact absurd hj (Nat.lt_irrefl _))⟩) hio⟩, fun t ht d' e => ?_, fun b id e => ?_, fun b j e => J.tid b j (dr b _ e).1, fun b o e1 e2 => ?_, fun b e => ?_⟩
  · obtain ⟨w, q1, q2⟩ := J.slot i c e
    exact ⟨w, q1, q2.tr hN hk (fun b e => ⟨dk b _ e (fun z => by cases z), upd_ne (nb b _ e fun z => by cases z)⟩) hio⟩
  · rcases List.mem_cons.mp ht with rfl | ht
    · cases e
    · exact J.tio t (List.mem_cons_of_mem _ ht) d' e
  · obtain ⟨h1, h2⟩ := dr b id e
    obtain ⟨f1, f2⟩ := J.own b id h1
    exact ⟨by rw [upd_ne h2]; exact f1, f2⟩
  · have : b ≠ A := fun z => by rw [z, g2] at e1; cases e1
    rw [upd_ne this]; exact J.keep b o e1 e2
  · rw [hio b e]; exact J.mio b e
def pFrz (p : P1) : P1 := fun ρ => (p ρ).bind fun a => match a.1 with
  | .view i => match a.2[i]? with
    | some (some (.own (.dct ds))) => some (.ro (.fdc ds), a.2.set i (some (.ro (.fdc ds))))
    | _ => none
  | .own (.dct ds) => some (.ro (.fdc ds), a.2)
  | .ro (.fdc ds) => some (.ro (.fdc ds), a.2)
  | _ => none
theorem de_frz (h : PE X e (tD F p)) : PE X e (tD F (pFrz p)) := by
  refine ⟨fun pins s σ H Q I hw => ?_⟩
  obtain ⟨ρ, τ, c, ρ', I0, e1, k⟩ := hw
  simp only [pFrz, Option.bind_eq_some_iff] at e1
  obtain ⟨⟨c1, ρ1⟩, e1, e2⟩ := e1
  refine thn (h.run pins s σ H (fun v H1 => RS F σ H1 ρ1 ((v, c1) :: τ)) I ⟨ρ, τ, c1, ρ1, I0, e1, fun v H1 z => z⟩) fun u s1 ⟨x, H1, I1, rx, ow, J⟩ => ?_
  cases c1 with
  | view i =>
    dsimp only at e2
    split at e2
    · rename_i ds hc
      cases e2
      have hs : σ[i]? = some (some x) := J.tmp.1 _ hc (fun d => by simp)
      have J0 := J.pop
      obtain ⟨ow2, J2⟩ := J0.moveOut hc hs
      obtain ⟨A, ex, _, vs, hv, _⟩ := J2.tmp.1
      subst ex
      obtain ⟨od, I2⟩ := I1.lock hv trivial
      obtain ⟨ow3, J3⟩ := RSo.frzTop (od := od) J2 hv
      have J4 := J3.push (v := .ref A) (d := .fdc ds) J3.tmp.1
      have hlt : i < ρ1.length := (List.getElem?_eq_some_iff.mp hc).1
      obtain ⟨ow5, J5⟩ := J4.setSlot (i := i) (by rw [List.length_set]; exact hlt) (fun j z => by cases z) (.inl ⟨_, rfl⟩)
      rw [List.set_set] at J5
      have es : σ.set i (some (.ref A)) = σ := by
        apply List.ext_getElem?
        intro j
        by_cases hj : j = i
        · subst hj; rw [List.getElem?_set_self (List.getElem?_eq_some_iff.mp hs).1, hs]
        · rw [List.getElem?_set_ne (Ne.symm hj)]
      rw [es] at J5
      exact ⟨.ref A, _, I2, rx, k _ _ ⟨ow5, J5⟩⟩
    · cases e2
  | own d =>
    cases d with
    | dct ds =>
      cases e2
      obtain ⟨A, ex, _, vs, hv, _⟩ := J.tmp.1
      subst ex
      obtain ⟨od, I2⟩ := I1.lock hv trivial
      obtain ⟨ow3, J3⟩ := RSo.frzTop (od := od) J hv
      exact ⟨.ref A, _, I2, rx, k _ _ ⟨ow3, J3⟩⟩
    | _ => cases e2
  | ro d =>
    cases d with
    | fdc ds => cases e2; exact ⟨x, H1, I1, rx, k _ _ ⟨ow, J⟩⟩
    | _ => cases e2
  | io d => cases e2
end
end Dn

namespace Dn
open PySem PySem.Spec PyProof.Rows L2
/-! ### walks over frozen dicts: the body runs at a frame that keeps the dict's record -/
def SubF (G F : Fr) : Prop := G.K = F.K ∧ ∀ σ H ρ τ, RS G σ H ρ τ → RS F σ H ρ τ
def tDIs (F : Fr) (it : I1) : TI := fun σ H R => ∃ ρ τ ds ρ', RS F σ H ρ τ ∧ it ρ = some (ds, ρ') ∧ ∀ G J ts H', SubF G F → Walk G J ts ds → NoV ts → RS G σ H' ρ' (ts ++ τ) → R J H'
section
variable {X : Cx} {F : Fr} {W W1 W2 : List Nat} {pos : Pos}
theorem PG.ex {tg : Expr} {g : Fr → TG} (h : ∀ G : Fr, G.K = X.kw → PG X tg (g G)) : PG X tg (fun v σ H Q => ∃ G : Fr, G.K = X.kw ∧ g G v σ H Q) := ⟨fun pins s σ H v u Q I r ⟨G, hG, hw⟩ => (h G hG).run pins s σ H v u Q I r hw⟩
theorem PSs.ex {b : List Stmt} {t : Fr → TS} (h : ∀ G : Fr, G.K = X.kw → PSs X b (t G)) : PSs X b (fun D σ H => ∃ G : Fr, G.K = X.kw ∧ t G D σ H) := ⟨fun pins s σ H D I ⟨G, hG, hw⟩ => (h G hG).run pins s σ H D I hw⟩
theorem ds_forS {tg iter : Expr} {body : List Stmt} {it : I1} {b : B1} {s : S1} (hK : F.K = X.kw) (hp : PassesOwn (model X.prog X.w) X.A X.env X.xe) (hc : X.calm = true) (hi : PI X tg iter (tDIs F it)) (hg : ∀ G : Fr, G.K = X.kw → PG X tg (tDG G W1 b)) (hb : ∀ G : Fr, G.K = X.kw → PSs X body (tDS G W2 s))
    (hs : ∀ x, foldedSetIterable iter X.env x = pure x := by intro _; rfl) : PS X (.For tg iter body [] pos) (tDS F (W1 ++ W2) (sFor it b s)) := PS.imp (ps_for hp hc hi (PG.ex hg) (PSs.ex hb) hs) fun D σ H hw => by
  obtain ⟨ρ, τ, o, I, nv, e1, k⟩ := hw
  simp only [sFor, Option.bind_eq_some_iff] at e1
  obtain ⟨⟨ds, ρ1⟩, e1, e2⟩ := e1
  refine ⟨ρ, τ, ds, ρ1, I, e1, fun G J ts H1 sb wk nt I1 => ?_⟩
  have nvt : NoV (ts ++ τ) := fun t ht j => (List.mem_append.mp ht).elim (fun h => nt t h j) fun h => nv t h j
  have m1 : ∀ i, i ∉ W1 ++ W2 → i ∉ W1 := fun i h z => h (List.mem_append_left _ z)
  have m2 : ∀ i, i ∉ W1 ++ W2 → i ∉ W2 := fun i h z => h (List.mem_append_right _ z)
  refine ⟨fun i m σ' H' => m = ds.length - i ∧ i ≤ ds.length ∧ (∀ j, j ∉ W1 ++ W2 → σ'[j]? = σ[j]?) ∧ ∃ ρ', RS G σ' H' ρ' (ts ++ τ) ∧ loopL b s (ds.drop i) ρ' = some o, ⟨ds.length, by simp, Nat.zero_le _, fun _ _ => rfl, ρ1, I1, e2⟩, ?_⟩
  rintro i m σ' H' ⟨rfl, hi, zσ, ρ', I', el⟩
  by_cases hlt : i < ds.length
  · refine .inr ⟨wk.go i σ' H' ρ' [] τ hlt I', fun σ2 H2 => (∀ j, j ∉ W1 ++ W2 → σ2[j]? = σ[j]?) ∧ ∃ ρ2, RS G σ2 H2 ρ2 (ts ++ τ) ∧ loopL b s (ds.drop (i + 1)) ρ2 = some o, fun σ2 H2 ⟨z2, ρ2, I2, el2⟩ => ⟨ds.length - (i + 1), by omega, rfl, hlt, z2, ρ2, I2, el2⟩, fun x H2 y => ?_⟩
    obtain ⟨d, hd, I2⟩ := wk.yld i σ' H' ρ' [] τ x H2 hlt I' y
    have ed : ds.drop i = d :: ds.drop (i + 1) := by
      have hd' : ds[i] = d := by
        rw [List.getElem?_eq_getElem hlt] at hd; exact Option.some.inj hd
      rw [← hd']; exact List.drop_eq_getElem_cons hlt
    rw [ed] at el
    simp only [loopL, Option.bind_eq_some_iff] at el
    obtain ⟨ρ2, el1, o2, el2, el3⟩ := el
    refine ⟨G, sb.1.trans hK, ρ', ts ++ τ, d, ρ2, I2, el1, fun σ3 _ z3 I3 => ⟨G, sb.1.trans hK, ρ2, ts ++ τ, o2, I3, nvt, el2, ?_⟩⟩
    have z3' : ∀ j, j ∉ W1 ++ W2 → σ3[j]? = σ[j]? := fun j hj => (z3 j (m1 j hj)).trans (zσ j hj)
    cases o2 with
    | nx ρ3 => exact fun σ4 H4 z4 I4 => ⟨fun j hj => (z4 j (m2 j hj)).trans (z3' j hj), ρ3, I4, el3⟩
    | ct ρ3 => exact fun σ4 H4 z4 I4 => ⟨fun j hj => (z4 j (m2 j hj)).trans (z3' j hj), ρ3, I4, el3⟩
    | bk ρ3 =>
      cases el3
      exact fun σ4 H4 z4 I4 => k σ4 H4 (fun j hj => (z4 j (m2 j hj)).trans (z3' j hj)) (sb.2 _ _ _ _ (RSo.popL I4))
    | rt c ρ3 =>
      cases el3
      exact fun v σ4 H4 I4 => k v σ4 H4 (sb.2 _ _ _ _ (RSo.ret1 I4))
  · have e : ds.drop i = [] := List.drop_eq_nil_of_le (by omega)
    rw [e] at el
    cases el
    exact .inl ⟨wk.stop i σ' H' ρ' [] τ (by omega) I', k σ' H' zσ (sb.2 _ _ _ _ (RSo.popL I'))⟩
/-- the frame that keeps d's record -/
def Fr.with (F : Fr) (d : Addr) (o : HO) : Fr := ⟨F.K, fun b => if b = d then some o else F.H_0 b, fun b => F.N_0 b ∨ b = d, F.io⟩
theorem with_N {d : Addr} {o : HO} {ow : Ow} (h : F.N_0 d ∨ F.H_0 d = none) (b : Addr) : (F.with d o).N ow b ↔ F.N ow b := by
  unfold Fr.N Fr.with
  by_cases e : b = d
  · subst e; simp [h]
  · simp [e]
end
end Dn

namespace Dn
open PySem PySem.Spec PyProof.Rows L2
section
variable {X : Cx} {F : Fr} {W W1 W2 : List Nat} {pos : Pos} {d : Addr} {o : HO} {ow : Ow} {σ : L2.St} {H : Hp} {ρ : Dn.Env} {τ : List (V × C)}
theorem N_eq (h : F.N_0 d ∨ F.H_0 d = none) : (F.with d o).N ow = F.N ow := funext fun b => propext (with_N h b)
theorem repC_eq (h : F.N_0 d ∨ F.H_0 d = none) {id : Sum Nat Nat} {v : V} {c : C} : RepC (F.with d o) ow id σ ρ H v c = RepC F ow id σ ρ H v c := by
  cases c <;> simp only [RepC, Holds, N_eq h] <;> rfl
theorem tmps_eq (h : F.N_0 d ∨ F.H_0 d = none) : ∀ {τ : List (V × C)}, Tmps (F.with d o) ow σ ρ H τ = Tmps F ow σ ρ H τ
  | [] => rfl
  | t :: ts => by simp only [Tmps, repC_eq h, tmps_eq h (τ := ts)]
theorem RSo.into (J : RSo F ow σ H ρ τ) (h : F.N ow d) (hd : H d = some o) : RSo (F.with d o) ow σ H ρ τ := by
  obtain ⟨h1, h2, h3⟩ := h
  refine ⟨J.len, fun i c e => ?_, J.io, by rw [tmps_eq h3]; exact J.tmp, J.tio, fun a id e => ?_, J.tid, fun a u e1 e2 => ?_, fun a e => ?_⟩
  · obtain ⟨v, q1, q2⟩ := J.slot i c e
    exact ⟨v, q1, by rw [repC_eq h3]; exact q2⟩
  · obtain ⟨q1, q2, q3⟩ := J.own a id e
    have : a ≠ d := fun z => by rw [z, h1] at e; cases e
    exact ⟨q1, by show (if a = d then some o else F.H_0 a) = none; rw [if_neg this]; exact q2, q3⟩
  · have e1' : (if a = d then some o else F.H_0 a) = some u := e1
    by_cases z : a = d
    · rw [if_pos z] at e1'; cases e1'; rw [z]; exact hd
    · rw [if_neg z] at e1'; exact J.keep a u e1' e2
  · obtain ⟨u, q1, q2, q3⟩ := J.mio a e
    refine ⟨u, q1, q2, ?_⟩
    show (if a = d then some o else F.H_0 a).isSome = true
    split
    · rfl
    · exact q3
theorem RSo.back (J : RSo (F.with d o) ow σ H ρ τ) (h2 : F.io ≠ some d) (h3 : F.N_0 d ∨ F.H_0 d = none) (hc : ∀ u, F.H_0 d = some u → u = o) : RSo F ow σ H ρ τ := by
  refine ⟨J.len, fun i c e => ?_, J.io, by rw [← tmps_eq h3 (d := d) (o := o)]; exact J.tmp, J.tio, fun a id e => ?_, J.tid, fun a u e1 e2 => ?_, fun a e => ?_⟩
  · obtain ⟨v, q1, q2⟩ := J.slot i c e
    exact ⟨v, q1, by rw [← repC_eq h3 (d := d) (o := o)]; exact q2⟩
  · obtain ⟨q1, q2, q3⟩ := J.own a id e
    have q2' : (if a = d then some o else F.H_0 a) = none := q2
    by_cases z : a = d
    · rw [if_pos z] at q2'; cases q2'
    · rw [if_neg z] at q2'; exact ⟨q1, q2', q3⟩
  · refine J.keep a u ?_ e2
    show (if a = d then some o else F.H_0 a) = some u
    by_cases z : a = d
    · rw [if_pos z]; rw [z] at e1; rw [hc u e1]
    · rw [if_neg z]; exact e1
  · obtain ⟨u, q1, q2, q3⟩ := J.mio a e
    refine ⟨u, q1, q2, ?_⟩
    have q3' : (if a = d then some o else F.H_0 a).isSome = true := q3
    rw [if_neg (fun z : a = d => h2 (z ▸ e))] at q3'; exact q3'
theorem subF_with (h2 : F.io ≠ some d) (h3 : F.N_0 d ∨ F.H_0 d = none) (hc : ∀ u, F.H_0 d = some u → u = o) : SubF (F.with d o) F := ⟨rfl, fun _ _ _ _ ⟨ow, J⟩ => ⟨ow, J.back h2 h3 hc⟩⟩
/-- the frozen dict's record at the grown frame -/
theorem RSo.at_with (J : RSo (F.with d o) ow σ H ρ τ) (h2 : F.io ≠ some d) : H d = some o := J.keep d o (by show (if d = d then some o else F.H_0 d) = some o; rw [if_pos rfl]) h2
/-! keys of a frozen dict -/
def iKeysD (p : P1) : I1 := fun ρ => (p ρ).bind fun a => match a.1 with
  | .ro (.fdc ds) => some (ds.map fun q => keyD q.1, a.2)
  | _ => none
theorem di_keysD {tg e : Expr} {p : P1} (he : PE X e (tD F p)) : PI X tg e (tDIs F (iKeysD p)) := PI.imp (pi_keys he) fun σ H R hw => by
  obtain ⟨ρ, τ, ds, ρ', I, e1, k⟩ := hw
  simp only [iKeysD, Option.bind_eq_some_iff] at e1
  obtain ⟨⟨c, ρ1⟩, e1, e2⟩ := e1
  cases c with
  | ro dd =>
    cases dd with
    | fdc qs =>
      cases e2
      refine ⟨ρ, τ, _, ρ1, I, e1, fun v H1 ⟨ow, J⟩ => ?_⟩
      cases J.tmp.1 with
      | @fdc a ob kvs _ hn hd r =>
        refine ⟨a, ob, rfl, .inl ⟨kvs, hd, ?_⟩⟩
        have hn0 := hn
        obtain ⟨h1, h2, h3⟩ := hn
        have hc : ∀ u, F.H_0 a = some u → u = .frz ob (.dK kvs) := fun u hu => by
          have := J.keep a u hu h2
          rw [hd] at this; cases this; rfl
        have keys : kvs.map (·.1) = qs.map (·.1) := r.keys
        have len : (qs.map fun q => keyD q.1).length = kvs.length := by rw [List.length_map, ← r.length]
        refine k (F.with a (.frz ob (.dK kvs))) (Itk a ob kvs) [] H1 (subF_with h2 h3 hc) ⟨fun i σ2 H2 ρ2 us τ2 hi ⟨ow2, J2⟩ => ⟨J2.at_with h2, by omega⟩, fun i σ2 H2 ρ2 us τ2 hi ⟨ow2, J2⟩ => ⟨J2.at_with h2, by omega⟩, fun i σ2 H2 ρ2 us τ2 x H3 hi ⟨ow2, J2⟩ y => ?_⟩ (fun _ h => nomatch h) ⟨_, (J.into hn0 hd).pop⟩
        obtain ⟨rfl, kk, w, hk, rfl⟩ := y
        have hq : (qs.map (·.1))[i]? = some kk := by rw [← keys, List.getElem?_map, hk]; rfl
        refine ⟨keyD kk, ?_, ow2, J2.push ?_⟩
        · rw [List.getElem?_map] at hq ⊢
          cases hqi : qs[i]? with
          | none => rw [hqi] at hq; cases hq
          | some q => rw [hqi] at hq; cases hq; rfl
        · cases kk with
          | inl n => exact .int n
          | inr z => exact .str z
    | _ => cases e2
  | _ => cases e2
/-! values of a frozen dict -/
def iValsD (p : P1) : I1 := fun ρ => (p ρ).bind fun a => match a.1 with
  | .ro (.fdc ds) => some (ds.map fun q => q.2, a.2)
  | _ => none
theorem di_valsD {tg e : Expr} {p : P1} {apos cpos : Pos} (he : PE X e (tD F p)) (hbase : attributeBase e "values" X.env (eval e X.env) = eval e X.env := by rfl) (hline : (apos.endLine == cpos.line) = true := by rfl) : PI X tg (.Call (.Attribute e "values" apos) [] [] cpos) (tDIs F (iValsD p)) := PI.imp (pi_values he hbase hline) fun σ H R hw => by
  obtain ⟨ρ, τ, ds, ρ', I, e1, k⟩ := hw
  simp only [iValsD, Option.bind_eq_some_iff] at e1
  obtain ⟨⟨c, ρ1⟩, e1, e2⟩ := e1
  cases c with
  | ro dd =>
    cases dd with
    | fdc qs =>
      cases e2
      refine ⟨ρ, τ, _, ρ1, I, e1, fun v H1 ⟨ow, J⟩ => ?_⟩
      have ht := J.tmp.1
      cases J.tmp.1 with
      | @fdc a ob kvs _ hn hd r =>
        refine ⟨a, ob, kvs, rfl, hd, ?_⟩
        have hn0 := hn
        obtain ⟨h1, h2, h3⟩ := hn
        have hc : ∀ u, F.H_0 a = some u → u = .frz ob (.dK kvs) := fun u hu => by
          have := J.keep a u hu h2
          rw [hd] at this; cases this; rfl
        have len : (qs.map fun q => q.2).length = kvs.length := by rw [List.length_map, ← r.length]
        have nt : NoV [(V.ref a, C.ro (.fdc qs))] := fun t h j z => by
          have : t = (V.ref a, C.ro (.fdc qs)) := by simpa using h
          subst this; cases z
        refine k (F.with a (.frz ob (.dK kvs))) (Itd a ob kvs) [(.ref a, .ro (.fdc qs))] H1 (subF_with h2 h3 hc) ⟨fun i σ2 H2 ρ2 us τ2 hi ⟨ow2, J2⟩ => ⟨J2.at_with h2, by omega⟩, fun i σ2 H2 ρ2 us τ2 hi ⟨ow2, J2⟩ => ⟨J2.at_with h2, by omega⟩, fun i σ2 H2 ρ2 us τ2 x H3 hi ⟨ow2, J2⟩ y => ?_⟩ nt ⟨_, J.into hn0 hd⟩
        obtain ⟨rfl, kk, hk⟩ := y
        have deep := Tmps.deep (us := us) (τ := τ2) (t := (.ref a, .ro (.fdc qs))) J2.tmp
        cases deep with
        | @fdc _ ob2 kvs2 _ hn2 hd2 r2 =>
          rw [J2.at_with h2] at hd2; cases hd2
          have hx : (kvs.map (·.2))[i]? = some x := by rw [List.getElem?_map, hk]; rfl
          obtain ⟨dv, hdv, hr⟩ := r2.vals.get hx
          exact ⟨dv, hdv, ow2, J2.push hr⟩
    | _ => cases e2
  | _ => cases e2
theorem PE.ex {e : Expr} {t : Fr → TE} (h : ∀ G : Fr, G.K = X.kw → PE X e (t G)) : PE X e (fun σ H Q => ∃ G : Fr, G.K = X.kw ∧ t G σ H Q) := ⟨fun pins s σ H Q I ⟨G, hG, hw⟩ => (h G hG).run pins s σ H Q I hw⟩
theorem PTs.ex {es : List Expr} {t : Fr → TT} (h : ∀ G : Fr, G.K = X.kw → PTs X es (t G)) : PTs X es (fun σ H Q => ∃ G : Fr, G.K = X.kw ∧ t G σ H Q) := ⟨fun pins s σ H Q I ⟨G, hG, hw⟩ => (h G hG).run pins s σ H Q I hw⟩
theorem lc_ofS {it : I1} {vs : List Nat} {b : B1} {q : PT1} {p : P1} {KX : KW} (hK : F.K = KX) (hW : ∀ i ∈ W, i ∈ vs) {Q : VK} (hw : tD F (pLc it vs b q p) σ H Q) : tLc (tDIs F it) (fun v σ H Q => ∃ G : Fr, G.K = KX ∧ tDG G W b v σ H Q) (fun σ H Q => ∃ G : Fr, G.K = KX ∧ tDT G q σ H Q) (fun σ H Q => ∃ G : Fr, G.K = KX ∧ tD G p σ H Q) vs σ H Q := by
  obtain ⟨ρ, τ, c, ρ', I, e1, k⟩ := hw
  simp only [pLc, Option.bind_eq_some_iff] at e1
  obtain ⟨⟨ds, ρ1⟩, e1, e2⟩ := e1
  split at e2
  · rename_i hz
    have hz : ds.length ≤ sizeLine := szOk_le hz
    simp only [Option.map_eq_some_iff] at e2
    obtain ⟨⟨rs, ρ2⟩, e2, e3⟩ := e2
    cases e3
    refine ⟨ρ, τ, ds, ρ1, I, e1, fun G J ts H1 sb wk nt I1 Dl hD => ?_⟩
    obtain ⟨ow1, I1⟩ := I1
    have hlσ : σ.length = ρ1.length := I1.len
    -- from the block's slots to the outer ones and back
    have inn : ∀ {ow : Ow} {H : Hp} {ρ : Env} {τ : List (V × C)}, ρ.length = σ.length → RSo G ow σ H (forget vs ρ) τ → RSo G ow (wipe σ vs) H (forget vs ρ) τ := fun {ow H ρ τ} hl J => J.forget (by rw [wipe_length, forget_length, hl]) fun i c e => ⟨e, wipe_out (forget_get e).2⟩
    have out : ∀ {ow : Ow} {H : Hp} {ρ : Env} {τ : List (V × C)} {σ2 : L2.St}, σ2.length = σ.length → (∀ i, i ∉ vs → σ2[i]? = σ[i]?) → RSo G ow σ2 H ρ τ → RSo G ow σ H (forget vs ρ) τ := fun {ow H ρ τ σ2} hl hs J => J.forget (by rw [forget_length, ← hl]; exact J.len) fun i c e => ⟨(forget_get e).1, (hs i (forget_get e).2).symm⟩
    have I1f : RSo G ow1 σ H1 (forget vs ρ1) (ts ++ τ) := I1.forget (by rw [forget_length]; exact I1.len) fun i c e => ⟨(forget_get e).1, rfl⟩
    obtain ⟨ow0, I0, _⟩ := I1f.ret (c := .own (.lst [])) (Same.new (o := .lst []) hD) ⟨Dl, rfl, hD, [], upd_same, .nil⟩
    -- the state ahead of turn i: what is made so far, what is still to come
    refine ⟨fun i m H' => m = ds.length - i ∧ i ≤ ds.length ∧ ∃ ρi acc, ρi.length = σ.length ∧ acc.length ≤ i ∧ RS G σ H' (forget vs ρi) ((.ref Dl, .own (.lst acc)) :: (ts ++ τ)) ∧ ∃ rest, loopC vs b q p (ds.drop i) (forget vs ρi) = some (rest, ρ2) ∧ acc ++ rest = rs, ⟨ds.length, by simp, Nat.zero_le _, ρ1, [], hlσ.symm, Nat.le_refl _, ⟨ow0, I0⟩, rs, e2, rfl⟩, ?_⟩
    rintro i m H' ⟨rfl, hi, ρi, acc, hli, hacc, ⟨ow, I'⟩, rest, el, er⟩
    by_cases hlt : i < ds.length
    · refine .inr ⟨wk.go i σ H' _ [_] τ hlt ⟨ow, I'⟩, fun H2 => ∃ ρi acc, ρi.length = σ.length ∧ acc.length ≤ i + 1 ∧ RS G σ H2 (forget vs ρi) ((.ref Dl, .own (.lst acc)) :: (ts ++ τ)) ∧ ∃ rest, loopC vs b q p (ds.drop (i + 1)) (forget vs ρi) = some (rest, ρ2) ∧ acc ++ rest = rs,
        fun H2 h2 => ⟨ds.length - (i + 1), by omega, rfl, hlt, h2⟩, fun x H2 y => ?_⟩
      obtain ⟨d, hd, ow2, I2⟩ := wk.yld i (wipe σ vs) H' _ [_] τ x H2 hlt ⟨ow, inn hli I'⟩ y
      have ed : ds.drop i = d :: ds.drop (i + 1) := by
        have hd' : ds[i] = d := by
          rw [List.getElem?_eq_getElem hlt] at hd; exact Option.some.inj hd
        rw [← hd']; exact List.drop_eq_getElem_cons hlt
      rw [ed] at el
      simp only [loopC, Option.bind_eq_some_iff] at el
      obtain ⟨ρa, ea, ⟨bt, ρb⟩, eb, el⟩ := el
      refine ⟨G, sb.1.trans hK, _, _, d, ρa, ⟨ow2, I2⟩, ea, fun σ2 l2 z2 I3 => ?_⟩
      have hl2 : σ2.length = σ.length := l2.trans (wipe_length σ vs)
      have hs2 : ∀ i, i ∉ vs → σ2[i]? = σ[i]? := fun i hi => (z2 i fun z => hi (hW i z)).trans (wipe_out hi)
      refine ⟨wipe_same hl2 hW z2, G, sb.1.trans hK, ρa, _, bt, ρb, I3, eb, fun H3 I3 => ?_⟩
      cases bt with
      | false =>
        rw [if_neg Bool.false_ne_true] at el ⊢
        obtain ⟨ow3, I3⟩ := I3
        exact ⟨ρb, acc, (I3.len.symm.trans hl2), by omega, ⟨ow3, out hl2 hs2 I3⟩, rest, el, er⟩
      | true =>
        rw [if_pos rfl] at el ⊢
        simp only [Option.bind_eq_some_iff, Option.map_eq_some_iff] at el
        obtain ⟨⟨ca, ρc⟩, ec, ⟨cb, ρd⟩, ecap, ⟨rest', ρe⟩, el, e5⟩ := el
        cases e5
        refine ⟨G, sb.1.trans hK, ρb, _, ca, ρc, I3, ec, fun v H4 ⟨ow4, I4⟩ => ?_⟩
        obtain ⟨⟨ow5, I5⟩, nv5⟩ := I4.cap ecap
        obtain ⟨D', e0, hD1, ws, e6, r6⟩ := I5.tmp.2.1
        cases e0
        obtain ⟨ow6, I6⟩ := I5.appTop nv5 e6
        refine ⟨ws, e6, ?_, ρd, acc ++ [cb.d], (I5.len.symm.trans hl2), by rw [List.length_append]; simp; omega, ⟨ow6, out hl2 hs2 I6⟩, rest', el, by rw [List.append_assoc]; exact er⟩
        have : ws.length = acc.length := r6.length
        omega
    · have e : ds.drop i = [] := List.drop_eq_nil_of_le (by omega)
      rw [e] at el
      cases el
      rw [List.append_nil] at er
      subst er
      refine .inl ⟨wk.stop i σ H' _ [_] τ (by omega) ⟨ow, I'⟩, k _ H' ?_⟩
      exact sb.2 _ _ _ _ (RSo.ret1 ⟨ow, I'⟩)
  · cases e2
end
section
variable {X : Cx} {F : Fr} {W : List Nat} {pos : Pos} {p : P1} {elt tg iter : Expr} {ifs : List Expr} {scope : Scope} {own : List (Str × Nat)} {vs : List Nat} {it : I1} {bb : B1} {q : PT1}
theorem de_lcS (hK : F.K = X.kw) (hc : X.calm = true) (hN : X.N.Nodup) (hi : PI X tg iter (tDIs F it)) (ok : BlkOk X.N X.env.scope scope own)
    (hg : ∀ G : Fr, G.K = X.kw → ∀ (s : Shared) (H : Hp) (C : Addr) (cl : List (Str × Addr)) (fp : List Addr), PG (X.blk s H scope (compEnvC scope cl C X.env) fp) tg (tDG G W bb))
    (ht : ∀ G : Fr, G.K = X.kw → ∀ (s : Shared) (H : Hp) (C : Addr) (cl : List (Str × Addr)) (fp : List Addr), PTs (X.blk s H scope (compEnvC scope cl C X.env) fp) ifs (tDT G q))
    (he : ∀ G : Fr, G.K = X.kw → ∀ (s : Shared) (H : Hp) (C : Addr) (cl : List (Str × Addr)) (fp : List Addr), PE (X.blk s H scope (compEnvC scope cl C X.env) fp) elt (tD G p)) (hW : ∀ i ∈ W, i ∈ vs) (hvs : own.map (·.2) = vs := by rfl) (hs : ∀ x, foldedSetIterable iter X.env x = pure x := by intro _; rfl) :
    PE X (.ListComp elt [⟨tg, iter, ifs, 0⟩] scope pos) (tD F (pLc it vs bb q p)) :=
  PE.imp (pe_lc hc hN hi ok (fun s H C cl fp => PG.ex (X := X.blk s H scope (compEnvC scope cl C X.env) fp) fun G hG => hg G hG s H C cl fp) (fun s H C cl fp => PTs.ex (X := X.blk s H scope (compEnvC scope cl C X.env) fp) fun G hG => ht G hG s H C cl fp) (fun s H C cl fp => PE.ex (X := X.blk s H scope (compEnvC scope cl C X.env) fp) fun G hG => he G hG s H C cl fp) hs) fun _ _ _ hw => by rw [hvs]; exact lc_ofS hK hW hw
end
end Dn

/-! ==, !=, in, not in over data of any depth (no dicts within) -/
namespace Dn
open PySem PySem.Spec PyProof.Rows L2
mutual
/-- what is read (data without dicts) -/
def D.pd : D → PyData
  | .non => .none
  | .bl b => .bool b
  | .int i => .int i
  | .str s => .str s
  | .tup xs => .tuple (D.pdL xs)
  | .lst xs => .list (D.pdL xs)
  | _ => .none
def D.pdL : List D → List PyData
  | [] => []
  | x :: xs => D.pd x :: D.pdL xs
end
mutual
/-- data without dicts, at most k deep -/
def D.okd : Nat → D → Bool
  | _, .non => true
  | _, .bl _ => true
  | _, .int _ => true
  | _, .str _ => true
  | 0, .tup _ => false
  | 0, .lst _ => false
  | k + 1, .tup xs => D.okdL k xs
  | k + 1, .lst xs => D.okdL k xs
  | _, .dct _ => false
  | _, .dtt _ => false
  | _, .fdc _ => false
  | _, .wtp _ => false
  | _, .raw _ => false
  | _, .scr _ => false
  | _, .ty _ => false
def D.okdL : Nat → List D → Bool
  | _, [] => true
  | k, x :: xs => D.okd k x && D.okdL k xs
end
mutual
/-- == of data -/
def D.eqv : D → D → Bool
  | .non, y => match y with | .non => true | _ => false
  | .bl a, y => match y with | .bl b => decide (a = b) | .int b => decide ((if a then 1 else 0) = b) | _ => false
  | .int a, y => match y with | .int b => decide (a = b) | .bl b => decide (a = if b then 1 else 0) | _ => false
  | .str a, y => match y with | .str b => decide (a = b) | _ => false
  | .tup xs, y => match y with | .tup ys => D.eqvL xs ys | _ => false
  | .lst xs, y => match y with | .lst ys => D.eqvL xs ys | _ => false
  | _, _ => false
def D.eqvL : List D → List D → Bool
  | [], ys => ys.isEmpty
  | x :: xs, ys => match ys with | [] => false | y :: ys => D.eqv x y && D.eqvL xs ys
end
theorem D.okdL_eq (k : Nat) : ∀ xs : List D, D.okdL k xs = xs.all (D.okd k)
  | [] => by simp [D.okdL]
  | x :: xs => by simp [D.okdL, D.okdL_eq k xs]
mutual
theorem pd_plain : ∀ (k : Nat) (d : D), d.okd k = true → d.pd.plain = true ∧ d.pd.depth ≤ k
  | _, .non, _ => by simp [D.pd, PyData.plain, PyData.depth]
  | _, .bl _, _ => by simp [D.pd, PyData.plain, PyData.depth]
  | _, .int _, _ => by simp [D.pd, PyData.plain, PyData.depth]
  | _, .str _, _ => by simp [D.pd, PyData.plain, PyData.depth]
  | 0, .tup _, h => by simp [D.okd] at h
  | 0, .lst _, h => by simp [D.okd] at h
  | k + 1, .tup xs, h => by
    have := pdL_plain k xs (by simpa [D.okd] using h)
    simp only [D.pd, PyData.plain, PyData.depth]; exact ⟨this.1, by omega⟩
  | k + 1, .lst xs, h => by
    have := pdL_plain k xs (by simpa [D.okd] using h)
    simp only [D.pd, PyData.plain, PyData.depth]; exact ⟨this.1, by omega⟩
  | _, .dct _, h => by simp [D.okd] at h
  | _, .dtt _, h => by simp [D.okd] at h
  | _, .fdc _, h => by simp [D.okd] at h
  | _, .wtp _, h => by simp [D.okd] at h
  | _, .raw _, h => by simp [D.okd] at h
  | _, .scr _, h => by simp [D.okd] at h
  | _, .ty _, h => by simp [D.okd] at h
theorem pdL_plain : ∀ (k : Nat) (ds : List D), D.okdL k ds = true → PyData.plainAll (D.pdL ds) = true ∧ PyData.depthAll (D.pdL ds) ≤ k
  | _, [], _ => by simp [D.pdL, PyData.plainAll, PyData.depthAll]
  | k, x :: xs, h => by
    simp only [D.okdL, Bool.and_eq_true] at h
    have h1 := pd_plain k x h.1
    have h2 := pdL_plain k xs h.2
    simp only [D.pdL, PyData.plainAll, PyData.depthAll, h1.1, h2.1]
    exact ⟨rfl, by omega⟩
end
mutual
theorem eqv_pd : ∀ (k j : Nat) (x y : D), x.okd k = true → y.okd j = true → PyData.eqv x.pd y.pd = D.eqv x y
  | k, j, x, y, hx, hy => by
    cases x with
    | non => cases y <;> simp [D.okd] at hy <;> simp [D.pd, PyData.eqv, D.eqv]
    | bl a => cases y <;> simp [D.okd] at hy <;> simp [D.pd, PyData.eqv, D.eqv] <;> rfl
    | int a => cases y <;> simp [D.okd] at hy <;> simp [D.pd, PyData.eqv, D.eqv] <;> rfl
    | str a => cases y <;> simp [D.okd] at hy <;> simp [D.pd, PyData.eqv, D.eqv] <;> rfl
    | tup xs =>
      cases k with
      | zero => simp [D.okd] at hx
      | succ k =>
        cases y with
        | tup ys =>
          cases j with
          | zero => simp [D.okd] at hy
          | succ j => simp only [D.pd, PyData.eqv, D.eqv]; exact eqvL_pd k j xs ys (by simpa [D.okd] using hx) (by simpa [D.okd] using hy)
        | _ => simp [D.okd] at hy <;> simp [D.pd, PyData.eqv, D.eqv]
    | lst xs =>
      cases k with
      | zero => simp [D.okd] at hx
      | succ k =>
        cases y with
        | lst ys =>
          cases j with
          | zero => simp [D.okd] at hy
          | succ j => simp only [D.pd, PyData.eqv, D.eqv]; exact eqvL_pd k j xs ys (by simpa [D.okd] using hx) (by simpa [D.okd] using hy)
        | _ => simp [D.okd] at hy <;> simp [D.pd, PyData.eqv, D.eqv]
    | _ => simp [D.okd] at hx
theorem eqvL_pd : ∀ (k j : Nat) (xs ys : List D), D.okdL k xs = true → D.okdL j ys = true → PyData.eqvAll (D.pdL xs) (D.pdL ys) = D.eqvL xs ys
  | k, j, [], [], _, _ => by simp [D.pdL, PyData.eqvAll, D.eqvL]
  | k, j, [], y :: ys, _, _ => by simp [D.pdL, PyData.eqvAll, D.eqvL]
  | k, j, x :: xs, [], _, _ => by simp [D.pdL, PyData.eqvAll, D.eqvL]
  | k, j, x :: xs, y :: ys, hx, hy => by
    simp only [D.okdL, Bool.and_eq_true] at hx hy
    simp only [D.pdL, PyData.eqvAll, D.eqvL]
    rw [eqv_pd k j x y hx.1 hy.1, eqvL_pd k j xs ys hx.2 hy.2]
end
section
variable {X : Cx} {pins : List (Addr × Obj)} {σ : L2.St} {H : Hp} {s : Shared} {N : Addr → Prop}
mutual
theorem rep_pd (I : Inv X pins σ H s) : ∀ (k : Nat) (d : D) (v : V) (u : Value), Rep X.kw N H v d → d.okd k = true → RelV v u → ∃ as, Reads s.heap u d.pd as
  | _, .non, v, u, r, e, ru => by cases r; cases (show u = Value.none from ru); exact ⟨_, by simpa [D.pd] using Reads.none⟩
  | _, .bl b, v, u, r, e, ru => by cases r; cases (show u = Value.bool b from ru); exact ⟨_, by simpa [D.pd] using Reads.bool b⟩
  | _, .int i, v, u, r, e, ru => by cases r; obtain ⟨t, rfl⟩ := ru; exact ⟨_, by simpa [D.pd] using Reads.int i t⟩
  | _, .str x, v, u, r, e, ru => by cases r; obtain ⟨t, rfl⟩ := ru; exact ⟨_, by simpa [D.pd] using Reads.str x t⟩
  | 0, .tup _, v, u, r, e, ru => by simp [D.okd] at e
  | 0, .lst _, v, u, r, e, ru => by simp [D.okd] at e
  | k + 1, .tup xs, v, u, r, e, ru => by
    cases r with
    | @tup a vs _ hq hl =>
      cases (show u = Value.ref a from ru)
      obtain ⟨its, rv, ⟨o, ho, hc, n, hd⟩, hz⟩ := I.tuple hq.t
      obtain ⟨as, ra⟩ := rep_pdL I k xs vs its hl (by simpa [D.okd] using e) rv
      exact ⟨as, by simp only [D.pd]; exact .tuple ho hc hd (by simpa using ra)⟩
  | k + 1, .lst xs, v, u, r, e, ru => by
    cases r with
    | @lst a vs _ hn hq hl =>
      cases (show u = Value.ref a from ru)
      obtain ⟨its, rv, hpl, hz⟩ := I.list (SqL.of hq)
      obtain ⟨as, ra⟩ := rep_pdL I k xs vs its hl (by simpa [D.okd] using e) rv
      obtain ⟨o, ho, hc, n, hd⟩ := hpl.isList
      exact ⟨_, by simp only [D.pd]; exact .list ho hc hd (by simpa using ra)⟩
  | _, .dct xs, v, u, r, e, ru => by simp [D.okd] at e
  | _, .dtt xs, v, u, r, e, ru => by simp [D.okd] at e
  | _, .fdc xs, v, u, r, e, ru => by simp [D.okd] at e
  | _, .wtp xs, v, u, r, e, ru => by simp [D.okd] at e
  | _, .scr xs, v, u, r, e, ru => by simp [D.okd] at e
  | _, .ty xs, v, u, r, e, ru => by simp [D.okd] at e
theorem rep_pdL (I : Inv X pins σ H s) : ∀ (k : Nat) (ds : List D) (vs : List V) (us : List Value), RepL X.kw N H vs ds → D.okdL k ds = true → Vals vs us → ∃ as, ReadsAll s.heap us (D.pdL ds) as
  | _, [], vs, us, r, e, ru => by cases r; cases ru; exact ⟨_, by simpa [D.pdL] using ReadsAll.nil⟩
  | k, d :: ds, vs, us, r, e, ru => by
    cases r with
    | cons r1 r2 =>
      cases ru with
      | cons u1 u2 =>
        simp only [D.okdL, Bool.and_eq_true] at e
        obtain ⟨as, h1⟩ := rep_pd I k d _ _ r1 e.1 u1
        obtain ⟨bs, h2⟩ := rep_pdL I k ds _ _ r2 e.2 u2
        exact ⟨_, by simp only [D.pdL]; exact .cons h1 h2⟩
end
theorem repx_pd (I : Inv X pins σ H s) {k : Nat} {d : D} {v : V} {u : Value} (r : RepX X.kw N H v d) (e : d.okd k = true) (ru : RelV v u) : ∃ as, Reads s.heap u d.pd as := by
  cases d with
  | lst xs =>
    obtain ⟨a, vs, rfl, hq, hl⟩ := r
    cases k with
    | zero => simp [D.okd] at e
    | succ k =>
      cases (show u = Value.ref a from ru)
      obtain ⟨its, rv, hpl, hz⟩ := I.list (SqL.of hq)
      obtain ⟨as, ra⟩ := rep_pdL I k xs vs its hl (by simpa [D.okd] using e) rv
      obtain ⟨o, ho, hc, n, hd⟩ := hpl.isList
      exact ⟨_, by simp only [D.pd]; exact .list ho hc hd (by simpa using ra)⟩
  | dct _ => simp [D.okd] at e
  | dtt _ => simp [D.okd] at e
  | fdc _ => simp [D.okd] at e
  | wtp _ => simp [D.okd] at e
  | raw _ => simp [D.okd] at e
  | scr _ => simp [D.okd] at e
  | ty _ => simp [D.okd] at e
  | non => exact rep_pd I k _ _ _ r e ru
  | bl _ => exact rep_pd I k _ _ _ r e ru
  | int _ => exact rep_pd I k _ _ _ r e ru
  | str _ => exact rep_pd I k _ _ _ r e ru
  | tup _ => exact rep_pd I k _ _ _ r e ru
end
/-! == and != -/
def D.eqx (x y : D) : Option C := if (x.okd 50 && y.okd 50) = true then some (.ro (.bl (D.eqv x y))) else none
def D.nex (x y : D) : Option C := if (x.okd 50 && y.okd 50) = true then some (.ro (.bl (!D.eqv x y))) else none
def rEqx (K : KW) (neg : Bool) : R2 := fun x y H Q => ∃ (N : Addr → Prop) (dx dy : D), RepX K N H x dx ∧ RepX K N H y dy ∧ dx.okd 50 = true ∧ dy.okd 50 = true ∧ Q (.bl (neg != D.eqv dx dy)) H
section
variable {X : Cx} {F : Fr} {e a b : Expr} {pos : Pos} {p pa pb : P1}
theorem op_eqx (hu : X.A.units + 64 < cLine) : OpR X (compareOp .Eq) (rEqx X.kw false) := by
  intro pins s σ H x y v u Q I rx ry ⟨N, dx, dy, r1, r2, o1, o2, q⟩
  obtain ⟨as, ra⟩ := repx_pd I r1 o1 rx
  obtain ⟨bs, rb⟩ := repx_pd I r2 o2 ry
  have p1 := pd_plain _ _ o1
  have p2 := pd_plain _ _ o2
  refine SeqAt.eq_plain ra rb p1.1 p2.1 (by omega) ⟨.bl _, H, I, rfl, ?_⟩
  rw [eqv_pd _ _ _ _ o1 o2]
  simpa using q
theorem op_nex (hu : X.A.units + 64 < cLine) : OpR X (compareOp .NotEq) (rEqx X.kw true) := by
  intro pins s σ H x y v u Q I rx ry ⟨N, dx, dy, r1, r2, o1, o2, q⟩
  obtain ⟨as, ra⟩ := repx_pd I r1 o1 rx
  obtain ⟨bs, rb⟩ := repx_pd I r2 o2 ry
  have p1 := pd_plain _ _ o1
  have p2 := pd_plain _ _ o2
  refine SeqAt.ne_plain ra rb p1.1 p2.1 (by omega) ⟨.bl _, H, I, rfl, ?_⟩
  rw [eqv_pd _ _ _ _ o1 o2]
  simpa using q
theorem s_eqx {K : KW} : Op2S K (rEqx K false) D.eqx := by
  intro N H x y dx dy c Q rx ry e k
  unfold D.eqx at e
  split at e
  · rename_i h
    simp only [Bool.and_eq_true] at h
    cases e
    exact ⟨N, dx, dy, rx, ry, h.1, h.2, by simpa using ret_bl k⟩
  · cases e
theorem s_nex {K : KW} : Op2S K (rEqx K true) D.nex := by
  intro N H x y dx dy c Q rx ry e k
  unfold D.nex at e
  split at e
  · rename_i h
    simp only [Bool.and_eq_true] at h
    cases e
    exact ⟨N, dx, dy, rx, ry, h.1, h.2, by simpa using ret_bl k⟩
  · cases e
/-! in, not in: lists and tuples -/
def D.seqs : D → Option (List D)
  | .lst xs => some xs
  | .tup xs => some xs
  | _ => none
def D.inq (y x : D) : Option C := match x with
  | .lst xs => if (y.okd 50 && D.okdL 50 xs) = true then some (.ro (.bl (xs.any fun z => D.eqv z y))) else none
  | .tup xs => if (y.okd 50 && D.okdL 50 xs) = true then some (.ro (.bl (xs.any fun z => D.eqv z y))) else none
  | _ => none
def D.ninq (y x : D) : Option C := match x with
  | .lst xs => if (y.okd 50 && D.okdL 50 xs) = true then some (.ro (.bl (!xs.any fun z => D.eqv z y))) else none
  | .tup xs => if (y.okd 50 && D.okdL 50 xs) = true then some (.ro (.bl (!xs.any fun z => D.eqv z y))) else none
  | _ => none
def rInq (K : KW) (neg : Bool) : R2 := fun y x H Q => ∃ (N : Addr → Prop) (dy dx : D) (xs : List D), RepX K N H y dy ∧ RepX K N H x dx ∧ (dx = .lst xs ∨ dx = .tup xs) ∧ dy.okd 50 = true ∧ D.okdL 50 xs = true ∧ Q (.bl (neg != xs.any fun z => D.eqv z dy)) H
theorem any_pd {k j : Nat} {y : D} (hy : y.okd j = true) : ∀ {xs : List D}, D.okdL k xs = true → ((D.pdL xs).any fun z => PyData.eqv z y.pd) = xs.any fun z => D.eqv z y
  | [], _ => rfl
  | x :: xs, h => by
    simp only [D.okdL, Bool.and_eq_true] at h
    simp only [D.pdL, List.any_cons, eqv_pd _ _ _ _ h.1 hy, any_pd hy h.2]
theorem op_inq (hu : X.A.units + 64 < cLine) : OpR X (compareOp .In) (rInq X.kw false) := by
  intro pins s σ H y x v u Q I ry rx ⟨N, dy, dx, xs, r1, r2, o, o1, o2, q⟩
  obtain ⟨as, ra⟩ := repx_pd I r1 o1 ry
  have p1 := pd_plain _ _ o1
  have p2 := pdL_plain _ _ o2
  rcases o with rfl | rfl
  · obtain ⟨bs, rb⟩ := repx_pd (k := 51) I r2 (by simpa [D.okd] using o2) rx
    simp only [D.pd] at rb
    refine SeqAt.in_list_data rb ra p2.1 p1.1 (by omega) ⟨.bl _, H, I, rfl, ?_⟩
    rw [any_pd o1 o2]; simpa using q
  · obtain ⟨bs, rb⟩ := repx_pd (k := 51) I r2 (by simpa [D.okd] using o2) rx
    simp only [D.pd] at rb
    refine SeqAt.in_tuple_data rb ra p2.1 p1.1 (by omega) ⟨.bl _, H, I, rfl, ?_⟩
    rw [any_pd o1 o2]; simpa using q
theorem op_ninq (hu : X.A.units + 64 < cLine) : OpR X (compareOp .NotIn) (rInq X.kw true) := by
  intro pins s σ H y x v u Q I ry rx ⟨N, dy, dx, xs, r1, r2, o, o1, o2, q⟩
  obtain ⟨as, ra⟩ := repx_pd I r1 o1 ry
  have p1 := pd_plain _ _ o1
  have p2 := pdL_plain _ _ o2
  rcases o with rfl | rfl
  · obtain ⟨bs, rb⟩ := repx_pd (k := 51) I r2 (by simpa [D.okd] using o2) rx
    simp only [D.pd] at rb
    refine SeqAt.notIn_list_data rb ra p2.1 p1.1 (by omega) ⟨.bl _, H, I, rfl, ?_⟩
    rw [any_pd o1 o2]; simpa using q
  · obtain ⟨bs, rb⟩ := repx_pd (k := 51) I r2 (by simpa [D.okd] using o2) rx
    simp only [D.pd] at rb
    refine SeqAt.notIn_tuple_data rb ra p2.1 p1.1 (by omega) ⟨.bl _, H, I, rfl, ?_⟩
    rw [any_pd o1 o2]; simpa using q
theorem s_inq {K : KW} : Op2S K (rInq K false) D.inq := by
  intro N H x y dx dy c Q rx ry e k
  unfold D.inq at e
  split at e
  · split at e
    · rename_i h
      simp only [Bool.and_eq_true] at h
      cases e
      exact ⟨N, dx, _, _, rx, ry, .inl rfl, h.1, h.2, by simpa using ret_bl k⟩
    · cases e
  · split at e
    · rename_i h
      simp only [Bool.and_eq_true] at h
      cases e
      exact ⟨N, dx, _, _, rx, ry, .inr rfl, h.1, h.2, by simpa using ret_bl k⟩
    · cases e
  · cases e
theorem s_ninq {K : KW} : Op2S K (rInq K true) D.ninq := by
  intro N H x y dx dy c Q rx ry e k
  unfold D.ninq at e
  split at e
  · split at e
    · rename_i h
      simp only [Bool.and_eq_true] at h
      cases e
      exact ⟨N, dx, _, _, rx, ry, .inl rfl, h.1, h.2, by simpa using ret_bl k⟩
    · cases e
  · split at e
    · rename_i h
      simp only [Bool.and_eq_true] at h
      cases e
      exact ⟨N, dx, _, _, rx, ry, .inr rfl, h.1, h.2, by simpa using ret_bl k⟩
    · cases e
  · cases e
end
end Dn

namespace Dn
open PySem PySem.Spec PyProof.Rows L2
/-! the generator's words for ==, !=, in, not in -/
def D.inz (y x : D) : Option C := match D.asD x with
  | some _ => D.din y x
  | none => D.inq y x
def D.ninz (y x : D) : Option C := match D.asD x with
  | some _ => D.dnin y x
  | none => D.ninq y x
section
variable {X : Cx} {F : Fr} {e a b : Expr} {pos : Pos} {p pa pb : P1}
theorem inz_or {ρ : Dn.Env} {r : C × Dn.Env} (h : pOp2 D.inz pa pb ρ = some r) : pOp2 D.din pa pb ρ = some r ∨ pOp2 D.inq pa pb ρ = some r := by
  simp only [pOp2, Option.bind_eq_some_iff, Option.map_eq_some_iff] at *
  obtain ⟨a, e1, b, e2, x, e3, y, e4, c, e5, e6⟩ := h
  unfold D.inz at e5
  split at e5
  · exact .inl ⟨a, e1, b, e2, x, e3, y, e4, c, e5, e6⟩
  · exact .inr ⟨a, e1, b, e2, x, e3, y, e4, c, e5, e6⟩
theorem ninz_or {ρ : Dn.Env} {r : C × Dn.Env} (h : pOp2 D.ninz pa pb ρ = some r) : pOp2 D.dnin pa pb ρ = some r ∨ pOp2 D.ninq pa pb ρ = some r := by
  simp only [pOp2, Option.bind_eq_some_iff, Option.map_eq_some_iff] at *
  obtain ⟨a, e1, b, e2, x, e3, y, e4, c, e5, e6⟩ := h
  unfold D.ninz at e5
  split at e5
  · exact .inl ⟨a, e1, b, e2, x, e3, y, e4, c, e5, e6⟩
  · exact .inr ⟨a, e1, b, e2, x, e3, y, e4, c, e5, e6⟩
theorem de_eqx (hK : F.K = X.kw) (hu : X.A.units + 64 < cLine) (ha : PE X a (tD F pa)) (hb : PE X b (tD F pb)) : PE X (.Compare a [.Eq] [b] pos) (tD F (pOp2 D.eqx pa pb)) := de_cmp (op_eqx hu) (by rw [hK]; exact s_eqx) ha hb (nomark _)
theorem dt_eqx (hK : F.K = X.kw) (hu : X.A.units + 64 < cLine) (ha : PE X a (tD F pa)) (hb : PE X b (tD F pb)) : PT X (.Compare a [.Eq] [b] pos) (tDT F (pB (pOp2 D.eqx pa pb))) := dt_cmp (op_eqx hu) (by rw [hK]; exact s_eqx) ha hb (nomark _)
theorem de_nex (hK : F.K = X.kw) (hu : X.A.units + 64 < cLine) (ha : PE X a (tD F pa)) (hb : PE X b (tD F pb)) : PE X (.Compare a [.NotEq] [b] pos) (tD F (pOp2 D.nex pa pb)) := de_cmp (op_nex hu) (by rw [hK]; exact s_nex) ha hb (nomark _)
theorem dt_nex (hK : F.K = X.kw) (hu : X.A.units + 64 < cLine) (ha : PE X a (tD F pa)) (hb : PE X b (tD F pb)) : PT X (.Compare a [.NotEq] [b] pos) (tDT F (pB (pOp2 D.nex pa pb))) := dt_cmp (op_nex hu) (by rw [hK]; exact s_nex) ha hb (nomark _)
theorem de_inq (hK : F.K = X.kw) (hu : X.A.units + 64 < cLine) (ha : PE X a (tD F pa)) (hb : PE X b (tD F pb)) (hm : behindInMarks .In b = false := by with_unfolding_all rfl) : PE X (.Compare a [.In] [b] pos) (tD F (pOp2 D.inq pa pb)) := de_cmp (op_inq hu) (by rw [hK]; exact s_inq) ha hb hm
theorem dt_inq (hK : F.K = X.kw) (hu : X.A.units + 64 < cLine) (ha : PE X a (tD F pa)) (hb : PE X b (tD F pb)) (hm : behindInMarks .In b = false := by with_unfolding_all rfl) : PT X (.Compare a [.In] [b] pos) (tDT F (pB (pOp2 D.inq pa pb))) := dt_cmp (op_inq hu) (by rw [hK]; exact s_inq) ha hb hm
theorem de_ninq (hK : F.K = X.kw) (hu : X.A.units + 64 < cLine) (ha : PE X a (tD F pa)) (hb : PE X b (tD F pb)) (hm : behindInMarks .NotIn b = false := by with_unfolding_all rfl) : PE X (.Compare a [.NotIn] [b] pos) (tD F (pOp2 D.ninq pa pb)) := de_cmp (op_ninq hu) (by rw [hK]; exact s_ninq) ha hb hm
theorem dt_ninq (hK : F.K = X.kw) (hu : X.A.units + 64 < cLine) (ha : PE X a (tD F pa)) (hb : PE X b (tD F pb)) (hm : behindInMarks .NotIn b = false := by with_unfolding_all rfl) : PT X (.Compare a [.NotIn] [b] pos) (tDT F (pB (pOp2 D.ninq pa pb))) := dt_cmp (op_ninq hu) (by rw [hK]; exact s_ninq) ha hb hm
theorem de_inz (hK : F.K = X.kw) (hu : X.A.units + 64 < cLine) (ha : PE X a (tD F pa)) (hb : PE X b (tD F pb)) (hm : behindInMarks .In b = false := by with_unfolding_all rfl) : PE X (.Compare a [.In] [b] pos) (tD F (pOp2 D.inz pa pb)) :=
  PE.imp (PE.or (PE.imp (pe_cmp (pc_din (by omega) ha hb) hm) fun _ _ _ hw => op2_of s_din hw) (de_inq hK hu ha hb hm)) fun σ H Q hw => tD_or (fun ρ r h => inz_or h) hw
theorem de_ninz (hK : F.K = X.kw) (hu : X.A.units + 64 < cLine) (ha : PE X a (tD F pa)) (hb : PE X b (tD F pb)) (hm : behindInMarks .NotIn b = false := by with_unfolding_all rfl) : PE X (.Compare a [.NotIn] [b] pos) (tD F (pOp2 D.ninz pa pb)) :=
  PE.imp (PE.or (PE.imp (pe_cmp (pc_dnotin (by omega) ha hb) hm) fun _ _ _ hw => op2_of s_dnin hw) (de_ninq hK hu ha hb hm)) fun σ H Q hw => tD_or (fun ρ r h => ninz_or h) hw
theorem dt_inz (hK : F.K = X.kw) (hu : X.A.units + 64 < cLine) (ha : PE X a (tD F pa)) (hb : PE X b (tD F pb)) (hm : behindInMarks .In b = false := by with_unfolding_all rfl) : PT X (.Compare a [.In] [b] pos) (tDT F (pB (pOp2 D.inz pa pb))) :=
  PT.imp (PT.or (PT.imp (pt_cmp (pc_din (by omega) ha hb) hm) fun _ _ _ hw => op2_of s_din (Q := _) (tb_of hw)) (dt_inq hK hu ha hb hm)) fun σ H Q hw => tDT_or (fun ρ r h => inz_or h) hw
theorem dt_ninz (hK : F.K = X.kw) (hu : X.A.units + 64 < cLine) (ha : PE X a (tD F pa)) (hb : PE X b (tD F pb)) (hm : behindInMarks .NotIn b = false := by with_unfolding_all rfl) : PT X (.Compare a [.NotIn] [b] pos) (tDT F (pB (pOp2 D.ninz pa pb))) :=
  PT.imp (PT.or (PT.imp (pt_cmp (pc_dnotin (by omega) ha hb) hm) fun _ _ _ hw => op2_of s_dnin (Q := _) (tb_of hw)) (dt_ninq hK hu ha hb hm)) fun σ H Q hw => tDT_or (fun ρ r h => ninz_or h) hw
end
end Dn

namespace Dn
open PySem PySem.Spec PyProof.Rows L2
/-! isinstance(x, T), isinstance(x, (T1, T2, ..)) -/
def isAnyD (m : String) : List D → Option Bool
  | [] => some false
  | .ty n :: ts => (tyIs m n).bind fun b => (isAnyD m ts).map fun r => b || r
  | _ :: _ => none
def D.isa : List D → Option C
  | [x, .ty n] => (D.tyName x).bind fun m => (tyIs m n).map fun b => .ro (.bl b)
  | [x, .tup ts] => (D.tyName x).bind fun m => (isAnyD m ts).map fun b => .ro (.bl b)
  | _ => none
def rIsiS (K : PySem.W.Frag) : List V → Hp → VK → Prop := fun xs H Q => ∃ (x : V) (tp : Addr) (cs : List V) (t : Value) (us : List Value) (b : Bool), xs = [x, .ref tp] ∧ SqT K H tp cs ∧ Paired ClsV cs us ∧ TyX K H x t ∧ PySem.W.kitAny K t us = some b ∧ Q (.bl b) H
theorem call_isiS {X : Cx} : CallR X (.builtin "isinstance") (rIsiS X.K) := by
  intro pins s σ H xs us Q I r h
  obtain ⟨x, tp, cs, t, ws, b, rfl, hT, k, ty, e, q⟩ := h
  obtain ⟨u1, u2, rfl, r1, r2⟩ := vals2 r
  cases (show u2 = Value.ref tp from r2)
  obtain ⟨P, Z, p, hx⟩ := kit_of I r1 ty
  obtain ⟨its, rv, ⟨o, h1, h2, n, h3⟩, _⟩ := I.tuple hT
  have e3 := ClsV.all k rv
  subst e3
  obtain ⟨oc, od, dt, sl⟩ := o
  simp only at h2 h3
  subst h2 h3
  exact PySem.W.kia_tup Z I.kIn p h1 e hx fun tk => ⟨.bl b, H, I.tok tk, rfl, q⟩
theorem isAny_s {K : KW} {N : Addr → Prop} {H : Hp} {m : String} (hm : m ∈ ["NoneType", "bool", "int", "str", "tuple", "list", "dict"]) : ∀ {ts : List D} {vs : List V} {b : Bool}, RepL K N H vs ts → isAnyD m ts = some b → ∃ us, Paired ClsV vs us ∧ PySem.W.kitAny K (.type m) us = some b
  | [], _, b, .nil, e => by cases e; exact ⟨[], .nil, kitAny_nil⟩
  | d :: ts, _, b, .cons r1 r2, e => by
    cases d with
    | ty n =>
      simp only [isAnyD, Option.bind_eq_some_iff, Option.map_eq_some_iff] at e
      obtain ⟨b1, e1, b2, e2, rfl⟩ := e
      obtain ⟨us, h1, h2⟩ := isAny_s hm r2 e2
      cases r1
      refine ⟨_ :: us, .cons (.ty n) h1, kitAny_cons (b := b1) (kit_ty (by rw [tyIs_ok _ hm _ (tyIs_mem e1)]; exact e1)) (fun h => by subst h; simpa using h2) (fun h => by subst h; rfl)⟩
    | _ => cases e
theorem s_isa {K : KW} : FunS K (fun vs H Q => rIsi K vs H Q ∨ rIsiS K vs H Q) D.isa := by
  intro N H vs ds c Q r e k
  unfold D.isa at e
  split at e
  · exact .inl (s_isi N H vs _ c Q r e k)
  · simp only [Option.bind_eq_some_iff, Option.map_eq_some_iff] at e
    obtain ⟨m, e1, b, e2, rfl⟩ := e
    cases r with
    | cons rx r =>
      cases r with
      | cons ry r =>
        cases r
        obtain ⟨a, ws, rfl, h1, r1⟩ := ry.tup
        obtain ⟨us, h2, h3⟩ := isAny_s (tyName_mem e1) r1 e2
        exact .inr ⟨_, _, _, _, us, b, rfl, h1, h2, tyName_s rx e1, h3, ret_bl k⟩
  · cases e
theorem de_isa {X : Cx} {F : Fr} {e a : Expr} {pos pp : Pos} {ps : PAs} (hK : F.K = X.kw) (hg : Gl X "isinstance") (hm : X.mg "isinstance" = none) (ha : PA X [e, a] (tDA F ps)) (h1 : starEach [e, a] X.env = (false, eval e X.env) :: starEach [a] X.env := by rfl) (h2 : (backTo pos (starEach [a] X.env)).any (·.1) = false := by rfl) : PE X (.Call (.Name "isinstance" pp) [e, a] [] pos) (tD F (pFun D.isa ps)) :=
  PE.imp (pe_callB (call_isi.or call_isiS) hg hm boot_isinstance ha (he := h1) (hpl := h2)) fun σ H Q hw => by
    rw [← kK hK]; exact fun_of s_isa hw
end Dn

namespace Dn
open PySem PySem.Spec PyProof.Rows L2
/-! str(x): ints, texts, None, bools -/
def D.toStrx : List D → Option C
  | [.int i] => if decide (i.natAbs.log2 < 1920) = true then some (.ro (.str (toString i))) else none
  | [.str x] => some (.ro (.str x))
  | [.non] => some (.ro (.str "None"))
  | [.bl b] => some (.ro (.str (if b then "True" else "False")))
  | _ => none
def rStrx : List V → Hp → VK → Prop := fun xs H Q => ((∃ i, xs = [V.int i] ∧ i.natAbs.log2 < 1920 ∧ Q (.str (toString i)) H) ∨ ∃ a, xs = [V.str a] ∧ Q (.str a) H) ∨ (xs = [V.non] ∧ Q (.str "None") H) ∨ ∃ b, xs = [V.bl b] ∧ Q (.str (if b then "True" else "False")) H
theorem call_strx {X : Cx} : CallR X (.type "str") rStrx := by
  intro pins s σ H xs us Q I r h
  rcases h with (h | h) | ⟨rfl, q⟩ | ⟨b, rfl, q⟩
  · exact call_str_int pins s σ H xs us Q I r h
  · exact SkE.call_str_str pins s σ H xs us Q I r h
  · obtain ⟨u, rfl, h1⟩ := vals1 r
    cases (show u = Value.none from h1)
    exact PySem.P.str_of_none ⟨.str _, H, I.tok _, ⟨_, rfl⟩, q⟩
  · obtain ⟨u, rfl, h1⟩ := vals1 r
    cases (show u = Value.bool b from h1)
    exact PySem.P.str_of_bool ⟨.str _, H, I.tok _, ⟨_, by cases b <;> rfl⟩, q⟩
theorem s_toStrx {K : KW} : FunS K rStrx D.toStrx := by
  intro N H vs ds c Q r e k
  unfold D.toStrx at e
  split at e
  · split at e
    · rename_i hz
      cases e
      cases r with
      | cons r1 r => cases r; exact .inl (.inl ⟨_, by rw [r1.int], of_decide_eq_true hz, ret_ro (.str _) k⟩)
    · cases e
  · cases e
    cases r with
    | cons r1 r => cases r; exact .inl (.inr ⟨_, by rw [r1.str], ret_ro (.str _) k⟩)
  · cases e
    cases r with
    | cons r1 r => cases r; exact .inr (.inl ⟨by rw [r1.non], ret_ro (.str _) k⟩)
  · cases e
    cases r with
    | cons r1 r => cases r; exact .inr (.inr ⟨_, by rw [r1.bl], ret_ro (.str _) k⟩)
  · cases e
theorem de_toStrx {X : Cx} {F : Fr} {e : Expr} {ps : PAs} {pp pos : Pos} (hg : Gl X "str") (hm : X.mg "str" = none) (ha : PA X [e] (tDA F ps)) (h1 : starEach [e] X.env = (false, eval e X.env) :: starEach [] X.env := by rfl) (h2 : (backTo pos (starEach [] X.env)).any (·.1) = false := by rfl) : PE X (.Call (.Name "str" pp) [e] [] pos) (tD F (pFun D.toStrx ps)) :=
  PE.imp (pe_callTy call_strx hg hm PyProof.Rows.boot_str ha (he := h1) (hpl := h2)) fun σ H Q hw => fun_of s_toStrx hw
end Dn

namespace Dn
open PySem PySem.Spec PyProof.Rows L2
/-! dicts whose keys are tuples: in, d[k], d[k] = v, len -/
/-- the value at a key -/
def getT (ds : List (D × D)) (k : NestedKey) : Option D := (ds.find? fun p => decide (D.tk p.1 = some k)).map (·.2)
def putT (ds : List (D × D)) (dk : D) (k : NestedKey) (v : D) : List (D × D) := if (ds.any fun p => decide (D.tk p.1 = some k)) = true then ds.map (fun p => if D.tk p.1 = some k then (p.1, v) else p) else ds ++ [(dk, v)]
section
variable {X : Cx} {pins : List (Addr × Obj)} {σ : L2.St} {H : Hp} {s : Shared} {N : Addr → Prop}
mutual
theorem rep_nk (I : Inv X pins σ H s) : ∀ (d : D) (v : V) (u : Value) (k : NestedKey), Rep X.kw N H v d → D.nk d = some k → RelV v u → NestedIs s.heap k u
  | .non, v, u, k, r, e, ru => by cases r; simp only [D.nk] at e; cases e; cases (show u = Value.none from ru); exact .none
  | .bl b, v, u, k, r, e, ru => by cases r; simp only [D.nk] at e; cases e; cases (show u = Value.bool b from ru); exact .bool rfl
  | .int i, v, u, k, r, e, ru => by cases r; simp only [D.nk] at e; cases e; obtain ⟨t, rfl⟩ := ru; exact .int _ _
  | .str x, v, u, k, r, e, ru => by cases r; simp only [D.nk] at e; cases e; obtain ⟨t, rfl⟩ := ru; exact .text _ _
  | .tup xs, v, u, k, r, e, ru => by
    cases r with
    | @tup a vs _ hq hl =>
      simp only [D.nk, Option.map_eq_some_iff] at e
      obtain ⟨ks, e1, rfl⟩ := e
      cases (show u = Value.ref a from ru)
      obtain ⟨its, rv, ⟨o, ho, hc, n, hd⟩, hz⟩ := I.tuple hq.t
      exact .tup ho hc hd (by simpa using rep_nkL I xs vs its ks hl e1 rv)
  | .lst xs, v, u, k, r, e, ru => by simp [D.nk] at e
  | .dct xs, v, u, k, r, e, ru => by simp [D.nk] at e
  | .dtt xs, v, u, k, r, e, ru => by simp [D.nk] at e
  | .fdc xs, v, u, k, r, e, ru => by simp [D.nk] at e
  | .scr xs, v, u, k, r, e, ru => by simp [D.nk] at e
  | .ty xs, v, u, k, r, e, ru => by simp [D.nk] at e
theorem rep_nkL (I : Inv X pins σ H s) : ∀ (ds : List D) (vs : List V) (us : List Value) (ks : List NestedKey), RepL X.kw N H vs ds → D.nkL ds = some ks → Vals vs us → NestedAll s.heap ks us
  | [], vs, us, ks, r, e, ru => by cases r; cases ru; simp only [D.nkL] at e; cases e; exact .nil
  | d :: ds, vs, us, ks, r, e, ru => by
    cases r with
    | cons r1 r2 =>
      cases ru with
      | cons u1 u2 =>
        simp only [D.nkL] at e
        cases e1 : D.nk d with
        | none => rw [e1] at e; cases e
        | some y =>
          cases e2 : D.nkL ds with
          | none => rw [e1, e2] at e; cases e
          | some ys =>
            rw [e1, e2] at e; cases e
            exact .cons (rep_nk I d _ _ y r1 e1 u1) (rep_nkL I ds _ _ ys r2 e2 u2)
end
theorem tk_tup {d : D} {k : NestedKey} (e : D.tk d = some k) : (∃ xs, d = .tup xs) ∧ D.nk d = some k ∧ k.depth ≤ 8 := by
  cases d with
  | tup xs =>
    simp only [D.tk, Option.bind_eq_some_iff] at e
    obtain ⟨k1, h1, h2⟩ := e
    split at h2
    · rename_i h; cases h2; exact ⟨⟨xs, rfl⟩, h1, of_decide_eq_true h⟩
    · cases h2
  | _ => cases e
/-- a tuple as a key -/
theorem rep_key (I : Inv X pins σ H s) {d : D} {v : V} {u : Value} {k : NestedKey} (r : Rep X.kw N H v d) (e : D.tk d = some k) (ru : RelV v u) : ∃ b, v = .ref b ∧ u = .ref b ∧ (nestedKind X.prog X.w).is s.heap k b := by
  obtain ⟨⟨xs, rfl⟩, h1, h2⟩ := tk_tup e
  cases r with
  | @tup a vs _ hq hl =>
    cases (show u = Value.ref a from ru)
    exact ⟨a, rfl, rfl, rep_nk I _ _ _ _ (.tup hq hl) h1 rfl, h2⟩
abbrev KP : NestedKey × Addr × V → NestedKey × Addr × Value → Prop := fun p q => p.1 = q.1 ∧ p.2.1 = q.2.1 ∧ RelV p.2.2 q.2.2
theorem keys_is (I : Inv X pins σ H s) : ∀ {vs : List (NestedKey × Addr × V)} {us : List (NestedKey × Addr × Value)} {ds : List (D × D)}, Paired KP vs us → RepT X.kw N H vs ds → ∀ x ∈ us, (nestedKind X.prog X.w).is s.heap x.1 x.2.1
  | _, _, _, .nil, _, x, hx => by cases hx
  | _, _, _, .cons (a := p) (b := q) hp t, r, x, hx => by
    cases r with
    | cons e r0 r1 r2 =>
      rcases List.mem_cons.mp hx with rfl | hx
      · obtain ⟨p1, p2, p3⟩ := hp
        simp only at p1 p2
        obtain ⟨b, hb, _, hk⟩ := rep_key I r0 e (u := .ref x.2.1) (by rw [← p2]; rfl)
        cases hb
        rw [← p1, ← p2]; exact hk
      · exact keys_is I t r2 x hx
theorem keys_eq : ∀ {vs : List (NestedKey × Addr × V)} {us : List (NestedKey × Addr × Value)}, Paired KP vs us → us.map (·.1) = vs.map (·.1)
  | _, _, .nil => rfl
  | _, _, .cons hp t => by simp only [List.map_cons, keys_eq t, hp.1]
theorem dkx_at (I : Inv X pins σ H s) {a : Addr} {vs : List (NestedKey × Addr × V)} {ds : List (D × D)} (h : H a = some (DKx X.w a vs)) (r : RepT X.kw N H vs ds) :
    vs.length ≤ sizeLine ∧ (a == sysModules) = false ∧ ∃ us, s.heap.DictOfH (nestedKind X.prog X.w) a us ∧ Paired KP vs us := by
  obtain ⟨⟨h1, h2, h3, us, h4, o, es, ep, ho, hx, hd, he⟩, _⟩ := (show ObjOk X.prog X.w H s.heap a (DKx X.w a vs) from I.hok a _ h)
  exact ⟨h1, h2, us, ⟨o, es, ep, ho, hx, hd, he, keys_is I h4 r, by rw [keys_eq h4]; exact h3⟩, h4⟩
theorem atKey_s {vs : List (NestedKey × Addr × V)} {us : List (NestedKey × Addr × Value)} {ds : List (D × D)} (hp : Paired KP vs us) {K : KW} (r : RepT K N H vs ds) (k : NestedKey) :
    (getT ds k = none ∧ atKey us k = none) ∨ ∃ b v u d, getT ds k = some d ∧ atKey us k = some (b, u) ∧ RelV v u ∧ Rep K N H v d := by
  induction hp generalizing ds with
  | nil => cases r; exact .inl ⟨rfl, rfl⟩
  | @cons p q vs us hq _ ih =>
    cases r with
    | @cons k1 b1 v1 _ dk d _ e r0 r1 r2 =>
      obtain ⟨q1, q2, q3⟩ := hq
      obtain ⟨qk, qb, qv⟩ := q
      simp only at q1 q2 q3
      subst q1 q2
      by_cases hk : k1 = k
      · subst hk
        exact .inr ⟨b1, v1, qv, d, by simp [getT, e], by simp [atKey], q3, r1⟩
      · rcases ih r2 with ⟨h1, h2⟩ | ⟨b, v, u, d', h1, h2, h3, h4⟩
        · refine .inl ⟨?_, ?_⟩
          · simp only [getT, List.find?_cons, e, Option.some.injEq, hk, decide_false] at h1 ⊢; exact h1
          · simp only [atKey, List.find?_cons, hk, decide_false] at h2 ⊢; exact h2
        · refine .inr ⟨b, v, u, d', ?_, ?_, h3, h4⟩
          · simp only [getT, List.find?_cons, e, Option.some.injEq, hk, decide_false] at h1 ⊢; exact h1
          · simp only [atKey, List.find?_cons, hk, decide_false] at h2 ⊢; exact h2
end
/-! reading -/
def D.tin (y x : D) : Option C := match x with
  | .dtt ds => (D.tk y).map fun k => .ro (.bl (getT ds k).isSome)
  | .dct [] => (D.tk y).map fun _ => .ro (.bl false)
  | _ => none
def D.tnin (y x : D) : Option C := match x with
  | .dtt ds => (D.tk y).map fun k => .ro (.bl (!(getT ds k).isSome))
  | .dct [] => (D.tk y).map fun _ => .ro (.bl true)
  | _ => none
def D.tget (x y : D) : Option C := match x with
  | .dtt ds => (D.tk y).bind fun k => (getT ds k).map .ro
  | _ => none
def rTin (X : Cx) (neg : Bool) : R2 := fun y x H Q => ∃ (N : Addr → Prop) (dy : D) (k : NestedKey) (a : Addr) (vs : List (NestedKey × Addr × V)) (ds : List (D × D)), RepX X.kw N H y dy ∧ D.tk dy = some k ∧ x = .ref a ∧ H a = some (DKx X.w a vs) ∧ RepT X.kw N H vs ds ∧ Q (.bl (neg != (getT ds k).isSome)) H
def rTget (X : Cx) : R2 := fun x y H Q => ∃ (N : Addr → Prop) (dy d : D) (k : NestedKey) (a : Addr) (vs : List (NestedKey × Addr × V)) (ds : List (D × D)), RepX X.kw N H y dy ∧ D.tk dy = some k ∧ x = .ref a ∧ H a = some (DKx X.w a vs) ∧ RepT X.kw N H vs ds ∧ getT ds k = some d ∧ ∀ v, Rep X.kw N H v d → Q v H
def rTin0 (X : Cx) (neg : Bool) : R2 := fun y x H Q => ∃ (N : Addr → Prop) (dy : D) (k : NestedKey) (a : Addr), RepX X.kw N H y dy ∧ D.tk dy = some k ∧ x = .ref a ∧ Rd H a (.dK []) ∧ Q (.bl neg) H
theorem RepX.of_tk {K : KW} {N : Addr → Prop} {H : Hp} {v : V} {d : D} {k : NestedKey} (r : RepX K N H v d) (e : D.tk d = some k) : Rep K N H v d := by
  obtain ⟨⟨xs, rfl⟩, _⟩ := tk_tup e
  exact r
section
variable {X : Cx} {F : Fr} {e a b : Expr} {pos : Pos} {p pa pb : P1}
theorem op_tin (hu : X.A.units + 64 < cLine) : OpR X (compareOp .In) (rTin X false) := by
  intro pins s σ H y x v u Q I ry rx h
  obtain ⟨N, dy, k, a, vs, ds, r1, e, rfl, h, r, q⟩ := h
  cases (show u = Value.ref a from rx)
  obtain ⟨b, rfl, rfl, hk⟩ := rep_key I (r1.of_tk e) e ry
  obtain ⟨z, hs, us, hd, hp⟩ := dkx_at I h r
  refine in_keyed (knd := nestedKind X.prog X.w) (kvs := pairsH us) (by show X.A.units + 1 + 8 < cLine; omega) hk hs ⟨us, hd, rfl⟩ ⟨.bl _, H, I.tok _, rfl, ?_⟩
  rw [valueAt_pairsH, Option.isSome_map]
  rcases atKey_s hp r k with ⟨h1, h2⟩ | ⟨_, _, _, _, h1, h2, _⟩ <;> rw [h1] at q <;> rw [h2] <;> simpa using q
theorem op_tnin (hu : X.A.units + 64 < cLine) : OpR X (compareOp .NotIn) (rTin X true) := by
  intro pins s σ H y x v u Q I ry rx h
  obtain ⟨N, dy, k, a, vs, ds, r1, e, rfl, h, r, q⟩ := h
  cases (show u = Value.ref a from rx)
  obtain ⟨b, rfl, rfl, hk⟩ := rep_key I (r1.of_tk e) e ry
  obtain ⟨z, hs, us, hd, hp⟩ := dkx_at I h r
  refine notIn_keyed (knd := nestedKind X.prog X.w) (kvs := pairsH us) (by show X.A.units + 1 + 8 < cLine; omega) hk hs ⟨us, hd, rfl⟩ ⟨.bl _, H, I.tok _, rfl, ?_⟩
  rw [valueAt_pairsH, Option.isSome_map]
  rcases atKey_s hp r k with ⟨h1, h2⟩ | ⟨_, _, _, _, h1, h2, _⟩ <;> rw [h1] at q <;> rw [h2] <;> simpa using q
theorem empty_dh {P : Program} {w : World} {h : Heap} {a : Addr} {vs : List (Key × Value)} (e : vs = []) (d : h.DictOf (mixKind P w) a vs) : h.DictOfH (nestedKind P w) a [] := by
  subst e
  obtain ⟨o, es, ep, h1, h2, h3, _, h5, _⟩ := d
  refine ⟨o, es, ep, h1, h2, h3, ?_, by simp, by simp⟩
  cases h6 : es.toList with
  | nil => rfl
  | cons e l => rw [h6] at h5; cases h5
theorem empty_at {pins : List (Addr × Obj)} {σ : L2.St} {H : Hp} {s : Shared} (I : Inv X pins σ H s) {a : Addr} (h : Rd H a (.dK [])) : (a == sysModules) = false ∧ s.heap.DictOfH (nestedKind X.prog X.w) a [] := by
  obtain ⟨_, hs, ws, rel, dd⟩ := (show ObjOk X.prog X.w H s.heap a (.dK []) from h.ok I.hok)
  exact ⟨hs, empty_dh (by cases rel; rfl) dd⟩
theorem op_tin0 (hu : X.A.units + 64 < cLine) : OpR X (compareOp .In) (rTin0 X false) := by
  intro pins s σ H y x v u Q I ry rx h
  obtain ⟨N, dy, k, a, r1, e, rfl, h, q⟩ := h
  cases (show u = Value.ref a from rx)
  obtain ⟨b, rfl, rfl, hk⟩ := rep_key I (r1.of_tk e) e ry
  obtain ⟨hs, hd⟩ := empty_at I h
  exact in_keyed (knd := nestedKind X.prog X.w) (kvs := pairsH []) (by show X.A.units + 1 + 8 < cLine; omega) hk hs ⟨[], hd, rfl⟩ ⟨.bl false, H, I.tok _, rfl, q⟩
theorem op_tnin0 (hu : X.A.units + 64 < cLine) : OpR X (compareOp .NotIn) (rTin0 X true) := by
  intro pins s σ H y x v u Q I ry rx h
  obtain ⟨N, dy, k, a, r1, e, rfl, h, q⟩ := h
  cases (show u = Value.ref a from rx)
  obtain ⟨b, rfl, rfl, hk⟩ := rep_key I (r1.of_tk e) e ry
  obtain ⟨hs, hd⟩ := empty_at I h
  exact notIn_keyed (knd := nestedKind X.prog X.w) (kvs := pairsH []) (by show X.A.units + 1 + 8 < cLine; omega) hk hs ⟨[], hd, rfl⟩ ⟨.bl true, H, I.tok _, rfl, q⟩
theorem pe_tget (hu : X.A.units + 64 < cLine) {ta tb : TE} (ho : PE X a ta) (hi : PE X b tb) (hs : NoSl b) : PE X (.Subscript a b pos) (tOp (rTget X) ta tb) := ⟨fun pins s σ H Q I h => by
  refine subD_of PySem.F.slot_dict_getitem.lookup hs (thn (ho.run pins s σ H _ I h) fun o s1 ⟨x, H1, I1, rx, q1⟩ => thn (hi.run pins s1 σ H1 _ I1 q1) fun iv s2 ⟨y, H2, I2, ry, N, dy, d, k, p, vs, ds, r1, e, ex, hh, r, hg, q⟩ => ?_)
  subst ex
  cases (show o = Value.ref p from rx)
  obtain ⟨b, rfl, rfl, hk⟩ := rep_key I2 (r1.of_tk e) e ry
  obtain ⟨z, hsy, us, hd, hp⟩ := dkx_at I2 hh r
  rcases atKey_s hp r k with ⟨h1, h2⟩ | ⟨b', v, u, d', h1, h2, h3, h4⟩
  · rw [h1] at hg; cases hg
  · rw [h1] at hg; cases hg
    have hm : s2.heap.DictKeyed (nestedKind X.prog X.w) p (pairsH us) := ⟨us, hd, rfl⟩
    exact ⟨hm.typeIs, getItem_keyed (by show X.A.units + 1 + 8 < cLine; omega) hk hm (by rw [valueAt_pairsH, h2]; rfl) ⟨v, H2, I2.tok _, h3, q v h4⟩⟩⟩
theorem s_tin : Op2S X.kw (fun y x H Q => rTin X false y x H Q ∨ rTin0 X false y x H Q) D.tin := by
  intro N H x y dx dy c Q rx ry e k
  unfold D.tin at e
  split at e
  · rw [Option.map_eq_some_iff] at e
    obtain ⟨kk, e1, rfl⟩ := e
    obtain ⟨a, vs, rfl, h, r⟩ := ry
    exact .inl ⟨N, dx, kk, a, vs, _, rx, e1, rfl, h, r, by simpa using ret_bl k⟩
  · rw [Option.map_eq_some_iff] at e
    obtain ⟨kk, e1, rfl⟩ := e
    obtain ⟨a, vs, rfl, h, r⟩ := ry
    cases r
    exact .inr ⟨N, dx, kk, a, rx, e1, rfl, h, ret_bl k⟩
  · cases e
theorem s_tnin : Op2S X.kw (fun y x H Q => rTin X true y x H Q ∨ rTin0 X true y x H Q) D.tnin := by
  intro N H x y dx dy c Q rx ry e k
  unfold D.tnin at e
  split at e
  · rw [Option.map_eq_some_iff] at e
    obtain ⟨kk, e1, rfl⟩ := e
    obtain ⟨a, vs, rfl, h, r⟩ := ry
    exact .inl ⟨N, dx, kk, a, vs, _, rx, e1, rfl, h, r, by simpa using ret_bl k⟩
  · rw [Option.map_eq_some_iff] at e
    obtain ⟨kk, e1, rfl⟩ := e
    obtain ⟨a, vs, rfl, h, r⟩ := ry
    cases r
    exact .inr ⟨N, dx, kk, a, rx, e1, rfl, h, ret_bl k⟩
  · cases e
theorem s_tget : Op2S X.kw (rTget X) D.tget := by
  intro N H x y dx dy c Q rx ry e k
  unfold D.tget at e
  split at e
  · simp only [Option.bind_eq_some_iff, Option.map_eq_some_iff] at e
    obtain ⟨kk, e1, d, e2, rfl⟩ := e
    obtain ⟨a, vs, rfl, h, r⟩ := rx
    exact ⟨N, dy, d, kk, a, vs, _, ry, e1, rfl, h, r, e2, fun v hv => ret_ro hv k⟩
  · cases e
/-! in, not in, x[y], whatever x is -/
def isDtt : D → Bool
  | .dtt _ => true
  | _ => false
/-- a tuple is looked for in an empty dict -/
def isE (y x : D) : Bool := match y, x with
  | .tup _, .dct [] => true
  | _, _ => false
def D.inw (y x : D) : Option C := if (isDtt x || isE y x) = true then D.tin y x else D.inz y x
def D.ninw (y x : D) : Option C := if (isDtt x || isE y x) = true then D.tnin y x else D.ninz y x
def D.ixw (x y : D) : Option C := if isDtt x = true then D.tget x y else D.ixx x y
theorem op2_split {f f1 f2 : D → D → Option C} (h : ∀ x y c, f x y = some c → f1 x y = some c ∨ f2 x y = some c) {ρ : Dn.Env} {r : C × Dn.Env} (e : pOp2 f pa pb ρ = some r) : pOp2 f1 pa pb ρ = some r ∨ pOp2 f2 pa pb ρ = some r := by
  simp only [pOp2, Option.bind_eq_some_iff, Option.map_eq_some_iff] at *
  obtain ⟨a, e1, b, e2, x, e3, y, e4, c, e5, e6⟩ := e
  rcases h x y c e5 with e5 | e5
  · exact .inl ⟨a, e1, b, e2, x, e3, y, e4, c, e5, e6⟩
  · exact .inr ⟨a, e1, b, e2, x, e3, y, e4, c, e5, e6⟩
theorem inw_or (y x : D) (c : C) (h : D.inw y x = some c) : D.tin y x = some c ∨ D.inz y x = some c := by unfold D.inw at h; split at h; exact .inl h; exact .inr h
theorem ninw_or (y x : D) (c : C) (h : D.ninw y x = some c) : D.tnin y x = some c ∨ D.ninz y x = some c := by unfold D.ninw at h; split at h; exact .inl h; exact .inr h
theorem ixw_or (x y : D) (c : C) (h : D.ixw x y = some c) : D.tget x y = some c ∨ D.ixx x y = some c := by unfold D.ixw at h; split at h; exact .inl h; exact .inr h
theorem de_inw (hK : F.K = X.kw) (hu : X.A.units + 64 < cLine) (ha : PE X a (tD F pa)) (hb : PE X b (tD F pb)) (hm : behindInMarks .In b = false := by with_unfolding_all rfl) : PE X (.Compare a [.In] [b] pos) (tD F (pOp2 D.inw pa pb)) :=
  PE.imp (PE.or (de_cmp ((op_tin hu).or (op_tin0 hu)) (by rw [hK]; exact s_tin) ha hb hm) (de_inz hK hu ha hb hm)) fun σ H Q hw => tD_or (fun ρ r h => op2_split inw_or h) hw
theorem de_ninw (hK : F.K = X.kw) (hu : X.A.units + 64 < cLine) (ha : PE X a (tD F pa)) (hb : PE X b (tD F pb)) (hm : behindInMarks .NotIn b = false := by with_unfolding_all rfl) : PE X (.Compare a [.NotIn] [b] pos) (tD F (pOp2 D.ninw pa pb)) :=
  PE.imp (PE.or (de_cmp ((op_tnin hu).or (op_tnin0 hu)) (by rw [hK]; exact s_tnin) ha hb hm) (de_ninz hK hu ha hb hm)) fun σ H Q hw => tD_or (fun ρ r h => op2_split ninw_or h) hw
theorem dt_inw (hK : F.K = X.kw) (hu : X.A.units + 64 < cLine) (ha : PE X a (tD F pa)) (hb : PE X b (tD F pb)) (hm : behindInMarks .In b = false := by with_unfolding_all rfl) : PT X (.Compare a [.In] [b] pos) (tDT F (pB (pOp2 D.inw pa pb))) :=
  PT.imp (PT.or (dt_cmp ((op_tin hu).or (op_tin0 hu)) (by rw [hK]; exact s_tin) ha hb hm) (dt_inz hK hu ha hb hm)) fun σ H Q hw => tDT_or (fun ρ r h => op2_split inw_or h) hw
theorem dt_ninw (hK : F.K = X.kw) (hu : X.A.units + 64 < cLine) (ha : PE X a (tD F pa)) (hb : PE X b (tD F pb)) (hm : behindInMarks .NotIn b = false := by with_unfolding_all rfl) : PT X (.Compare a [.NotIn] [b] pos) (tDT F (pB (pOp2 D.ninw pa pb))) :=
  PT.imp (PT.or (dt_cmp ((op_tnin hu).or (op_tnin0 hu)) (by rw [hK]; exact s_tnin) ha hb hm) (dt_ninz hK hu ha hb hm)) fun σ H Q hw => tDT_or (fun ρ r h => op2_split ninw_or h) hw
theorem de_tget (hK : F.K = X.kw) (hu : X.A.units + 64 < cLine) (ha : PE X a (tD F pa)) (hb : PE X b (tD F pb)) (hs : NoSl b) : PE X (.Subscript a b pos) (tD F (pOp2 D.tget pa pb)) := PE.imp (pe_tget hu ha hb hs) fun _ _ _ hw => op2_of (by rw [hK]; exact s_tget) hw
theorem de_ixw (hK : F.K = X.kw) (hu : X.A.units + 64 < cLine) (ha : PE X a (tD F pa)) (hb : PE X b (tD F pb)) (hs : NoSl b := by exact fun _ _ => rfl) (hs2 : PlainIx b := by exact fun _ _ => rfl) : PE X (.Subscript a b pos) (tD F (pOp2 D.ixw pa pb)) :=
  PE.imp (PE.or (de_tget hK hu ha hb hs) (de_itemx hK hu ha hb hs hs2)) fun σ H Q hw => tD_or (fun ρ r h => op2_split ixw_or h) hw
end
end Dn

namespace Dn
open PySem PySem.Spec PyProof.Rows L2
/-! one store into a dict: keys ints, texts, or tuples -/
def putV (vs : List (NestedKey × Addr × V)) (k : NestedKey) (b : Addr) (z : V) : List (NestedKey × Addr × V) := if (vs.any fun p => decide (p.1 = k)) = true then vs.map (fun p => if p.1 = k then (p.1, p.2.1, z) else p) else vs ++ [(k, b, z)]
theorem putV_len (vs : List (NestedKey × Addr × V)) (k : NestedKey) (b : Addr) (z : V) : (putV vs k b z).length ≤ vs.length + 1 := by
  unfold putV; split <;> simp
section
variable {K : KW} {N : Addr → Prop} {H : Hp}
theorem RepT.any {k : NestedKey} : ∀ {vs : List (NestedKey × Addr × V)} {ds : List (D × D)}, RepT K N H vs ds → (vs.any fun p => decide (p.1 = k)) = ds.any fun p => decide (D.tk p.1 = some k)
  | _, _, .nil => rfl
  | _, _, .cons e _ _ r => by
    simp only [List.any_cons, RepT.any r, e, Option.some.injEq]
theorem RepT.mapPut {k : NestedKey} {z : V} {d : D} (hz : Rep K N H z d) : ∀ {vs : List (NestedKey × Addr × V)} {ds : List (D × D)}, RepT K N H vs ds → RepT K N H (vs.map fun p => if p.1 = k then (p.1, p.2.1, z) else p) (ds.map fun p => if D.tk p.1 = some k then (p.1, d) else p)
  | _, _, .nil => .nil
  | _, _, .cons (k := k1) e r0 r1 r => by
    simp only [List.map_cons, e, Option.some.injEq]
    by_cases h : k1 = k
    · rw [if_pos h, if_pos h]; exact .cons e r0 hz (RepT.mapPut hz r)
    · rw [if_neg h, if_neg h]; exact .cons e r0 r1 (RepT.mapPut hz r)
theorem RepT.snoc {k : NestedKey} {b : Addr} {z : V} {dk d : D} (e : D.tk dk = some k) (hb : Rep K N H (.ref b) dk) (hz : Rep K N H z d) : ∀ {vs : List (NestedKey × Addr × V)} {ds : List (D × D)}, RepT K N H vs ds → RepT K N H (vs ++ [(k, b, z)]) (ds ++ [(dk, d)])
  | _, _, .nil => .cons e hb hz .nil
  | _, _, .cons e' r0 r1 r => .cons e' r0 r1 (RepT.snoc e hb hz r)
theorem RepT.put {k : NestedKey} {b : Addr} {z : V} {dk d : D} {vs : List (NestedKey × Addr × V)} {ds : List (D × D)} (r : RepT K N H vs ds) (e : D.tk dk = some k) (hb : Rep K N H (.ref b) dk) (hz : Rep K N H z d) : RepT K N H (putV vs k b z) (putT ds dk k d) := by
  unfold putV putT
  rw [r.any]
  split
  · exact r.mapPut hz
  · exact r.snoc e hb hz
end
theorem paired_app {α β : Type} {R : α → β → Prop} : ∀ {as as' : List α} {bs bs' : List β}, Paired R as bs → Paired R as' bs' → Paired R (as ++ as') (bs ++ bs')
  | _, _, _, _, .nil, h => h
  | _, _, _, _, .cons a t, h => .cons a (paired_app t h)
theorem atKey_any {k : NestedKey} : ∀ {vs : List (NestedKey × Addr × V)} {us : List (NestedKey × Addr × Value)}, Paired KP vs us → (vs.any fun p => decide (p.1 = k)) = (atKey us k).isSome
  | _, _, .nil => rfl
  | _, _, .cons (a := p) (b := q) h t => by
    obtain ⟨h1, _⟩ := h
    have ih := atKey_any (k := k) t
    by_cases e : q.1 = k
    · simp [atKey, h1, e]
    · simp only [atKey, List.any_cons, List.find?_cons, h1, e, decide_false, Bool.false_or] at ih ⊢; exact ih
theorem putAt_s {k : NestedKey} {z : V} {r : Value} (hz : RelV z r) : ∀ {vs : List (NestedKey × Addr × V)} {us : List (NestedKey × Addr × Value)}, Paired KP vs us → Paired KP (vs.map fun p => if p.1 = k then (p.1, p.2.1, z) else p) (us.map (putAt k r))
  | _, _, .nil => .nil
  | _, _, .cons (a := p) (b := q) h t => by
    obtain ⟨h1, h2, h3⟩ := h
    simp only [List.map_cons, putAt, h1]
    by_cases e : q.1 = k
    · rw [if_pos e, if_pos e]; exact .cons ⟨rfl, h2, hz⟩ (putAt_s hz t)
    · rw [if_neg e, if_neg e]; exact .cons ⟨h1, h2, h3⟩ (putAt_s hz t)
theorem put_kp {k : NestedKey} {b : Addr} {z : V} {r : Value} (hz : RelV z r) {vs : List (NestedKey × Addr × V)} {us : List (NestedKey × Addr × Value)} (h : Paired KP vs us) : Paired KP (putV vs k b z) (storedH us k b r) := by
  unfold putV storedH
  rw [atKey_any h]
  split
  · exact putAt_s hz h
  · exact paired_app h (.cons ⟨rfl, rfl, hz⟩ .nil)
section
variable {X : Cx} {pins : List (Addr × Obj)} {σ : L2.St} {H : Hp} {s : Shared} {N : Addr → Prop}
/-- the record of such a dict -/
theorem dkx_new {P : Program} {w : World} {H' : Hp} {h' : Heap} {a : Addr} {vs : List (NestedKey × Addr × V)} {us : List (NestedKey × Addr × Value)} (z : vs.length ≤ sizeLine) (hs : (a == sysModules) = false) (p : Paired KP vs us) (dd : h'.DictOfH (nestedKind P w) a us) : ObjOk P w H' h' a (DKx w a vs) := by
  obtain ⟨o, es, ep, ho, hx, hd, he, _, hn⟩ := dd
  refine ⟨⟨z, hs, by rw [← keys_eq p]; exact hn, us, p, o, es, ep, ho, hx, hd, he⟩, ⟨o, ho⟩, ?_⟩
  rintro h1 h2 ⟨z', hs', hn', us', p', o', es', ep', ho', hx', hd', he'⟩ st
  exact ⟨z', hs', hn', us', p', o', es', ep', st _ ho', hx', hd', he'⟩
/-- the record behind a store -/
inductive Stp (K : KW) (H : Hp) (a : Addr) : V → V → HO → Prop
  | key {kvs : List (Key × V)} {k : Key} {z : V} : H a = some (.dK kvs) → kvs.length < sizeLine → Stp K H a (kV k) z (.dK (putK kvs k z))
  | tup {N : Addr → Prop} {dk : D} {k : NestedKey} {b : Addr} {vs : List (NestedKey × Addr × V)} {ds : List (D × D)} {z : V} : H a = some (DKx K.w a vs) → RepT K N H vs ds → Rep K N H (.ref b) dk → D.tk dk = some k → vs.length < sizeLine → Stp K H a (.ref b) z (DKx K.w a (putV vs k b z))
  | fst {N : Addr → Prop} {dk : D} {k : NestedKey} {b : Addr} {z : V} : H a = some (.dK []) → Rep K N H (.ref b) dk → D.tk dk = some k → Stp K H a (.ref b) z (DKx K.w a [(k, b, z)])
theorem mut_dkx {w : World} {a : Addr} {vs : List (NestedKey × Addr × V)} : Mut (some (DKx w a vs)) := trivial
theorem stp_heap (I : Inv X pins σ H s) {a b : Addr} {y z : V} {o : HO} (t : Stp X.kw H a y z o) (hy : y = .ref b) {r : Value} (rz : RelV z r) : ∃ k us, (nestedKind X.prog X.w).is s.heap k b ∧ s.heap.DictOfH (nestedKind X.prog X.w) a us ∧ us.length ≤ sizeLine ∧ Mut (H a) ∧
    ∀ h' : Heap, h'.DictOfH (nestedKind X.prog X.w) a (storedH us k b r) → ObjOk X.prog X.w (upd H a o) h' a o := by
  cases t with
  | @key kvs k z h1 h2 => cases k <;> cases hy
  | @tup N dk k b' vs ds z h1 h2 h3 h4 h5 =>
    cases hy
    obtain ⟨b2, e2, _, hk⟩ := rep_key I h3 h4 (u := .ref b) rfl
    cases e2
    obtain ⟨zz, hs, us, hd, hp⟩ := dkx_at I h1 h2
    have hl : us.length = vs.length := by have := congrArg List.length (keys_eq hp); simpa using this
    refine ⟨k, us, hk, hd, by omega, by rw [h1]; trivial, fun h' dd => dkx_new ?_ hs (put_kp rz hp) dd⟩
    have := putV_len vs k b z; omega
  | @fst N dk k b' z h1 h3 h4 =>
    cases hy
    obtain ⟨b2, e2, _, hk⟩ := rep_key I h3 h4 (u := .ref b) rfl
    cases e2
    obtain ⟨_, hs, ws, rel, dd0⟩ := (show ObjOk X.prog X.w H s.heap a (.dK []) from I.hok a _ h1)
    have hw : ws = [] := by cases rel; rfl
    have hd := empty_dh hw dd0
    refine ⟨k, [], hk, hd, by simp, by rw [h1]; trivial, fun h' dd => dkx_new (us := storedH [] k b r) (by simp [sizeLine]) hs ?_ dd⟩
    exact .cons ⟨rfl, rfl, rz⟩ .nil
theorem stp_set (hu : X.A.units + 64 < cLine) (I : Inv X pins σ H s) {a : Addr} {y z : V} {o : HO} (t : Stp X.kw H a y z o) {u r : Value} (ry : RelV y u) (rz : RelV z r) {Q : Unit → Shared → Prop} {E : Value → Shared → Prop} (h : ∀ s', Inv X pins σ (upd H a o) s' → Q () s') : wpAny (model X.prog X.w) X.A (dictSet a u r) Q E s := by
  have go : ∀ b, y = .ref b → wpAny (model X.prog X.w) X.A (dictSet a u r) Q E s := fun b e => by
    obtain ⟨k, us, hk, hd, hl, mu, new⟩ := stp_heap I t e rz
    subst e
    cases (show u = Value.ref b from ry)
    refine wpAny_dictSet_heap (hsz := hl) (knd := nestedKind X.prog X.w) (by show X.A.units + 8 < cLine; omega) hk hd fun h' hm' hs => h _ ?_
    have he : ∃ q, h'.get? a = some q := let ⟨q, _, _, hq, _⟩ := hm'; ⟨q, hq⟩
    exact d_write I mu hs he (new h' hm')
  cases t with
  | key h1 h2 => exact d_dictSet I h1 h2 ry rz h
  | tup h1 h2 h3 h4 h5 => exact go _ rfl
  | fst h1 h3 h4 => exact go _ rfl
theorem stp_item (hu : X.A.units + 64 < cLine) (I : Inv X pins σ H s) {a : Addr} {y z : V} {o : HO} (t : Stp X.kw H a y z o) {u r : Value} (ry : RelV y u) (rz : RelV z r) {Q : Unit → Shared → Prop} {E : Value → Shared → Prop} (h : ∀ s', Inv X pins σ (upd H a o) s' → Q () s') : wpAny (model X.prog X.w) X.A (setItem (.ref a) u r) Q E s := by
  have go : ∀ b, y = .ref b → wpAny (model X.prog X.w) X.A (setItem (.ref a) u r) Q E s := fun b e => by
    obtain ⟨k, us, hk, hd, hl, mu, new⟩ := stp_heap I t e rz
    subst e
    cases (show u = Value.ref b from ry)
    refine wpAny_setItem_heap (hsz := hl) (knd := nestedKind X.prog X.w) (by show X.A.units + 1 + 8 < cLine; omega) hk hd fun h' hm' hs => h _ ?_
    have he : ∃ q, h'.get? a = some q := let ⟨q, _, _, hq, _⟩ := hm'; ⟨q, hq⟩
    exact d_write I mu hs he (new h' hm')
  cases t with
  | key h1 h2 => exact d_setItem (A := X.A) (by omega) I (.inl ⟨_, _, h1, rfl, h2, rfl⟩) ry rz h
  | tup h1 h2 h3 h4 h5 => exact go _ rfl
  | fst h1 h3 h4 => exact go _ rfl
end
/-! the same, as data -/
def dPut (acc dk v : D) : Option D := match acc with
  | .dct ds => if decide (ds.length < sizeLine) = true then (match D.key dk with
    | some k => some (.dct (putD ds k v))
    | none => (match ds with
      | [] => (D.tk dk).map fun _ => .dtt [(dk, v)]
      | _ => none)) else none
  | .dtt ds => if decide (ds.length < sizeLine) = true then (D.tk dk).map fun k => .dtt (putT ds dk k v) else none
  | _ => none
theorem hold_put {K : KW} {N : Addr → Prop} {H : Hp} {a : Addr} {acc acc' dk d : D} {y z : V} (h : HoldsN K N H a acc) (ry : Rep K N H y dk) (rz : Rep K N H z d) (e : dPut acc dk d = some acc') :
    ∃ o, Stp K H a y z o ∧ Mut (H a) ∧ Mut (some o) ∧ (Keeps N H (upd H a o) → HoldsN K N (upd H a o) a acc') := by
  unfold dPut at e
  split at e
  · split at e
    · rename_i ds hz
      have hz := of_decide_eq_true hz
      obtain ⟨vs, h1, r⟩ := h
      split at e
      · rename_i k hk
        cases e
        have hy : y = kV k := key_rep (Rep.x ry) hk
        subst hy
        exact ⟨_, .key h1 (by rw [r.length]; exact hz), by rw [h1]; trivial, trivial, fun kk => ⟨_, upd_same, (RepK.put k rz r).keep kk fun _ h _ => h⟩⟩
      · split at e
        · rw [Option.map_eq_some_iff] at e
          obtain ⟨k, hk, rfl⟩ := e
          cases r
          obtain ⟨⟨xs, rfl⟩, _⟩ := tk_tup hk
          cases ry with
          | @tup b vs2 _ hq hl =>
            have ry : Rep K N H (.ref b) (.tup xs) := .tup hq hl
            exact ⟨_, .fst h1 ry hk, by rw [h1]; trivial, trivial, fun kk => ⟨_, upd_same, .cons hk (ry.keep kk fun _ h _ => h) (rz.keep kk fun _ h _ => h) .nil⟩⟩
        · cases e
    · cases e
  · split at e
    · rename_i ds hz
      have hz := of_decide_eq_true hz
      rw [Option.map_eq_some_iff] at e
      obtain ⟨k, hk, rfl⟩ := e
      obtain ⟨vs, h1, r⟩ := h
      obtain ⟨⟨xs, rfl⟩, _⟩ := tk_tup hk
      cases ry with
      | @tup b vs2 _ hq hl =>
        have ry : Rep K N H (.ref b) (.tup xs) := .tup hq hl
        exact ⟨_, .tup h1 r ry hk (by rw [r.length]; exact hz), by rw [h1]; trivial, trivial, fun kk => ⟨_, upd_same, (r.put hk ry rz).keep kk fun _ h _ => h⟩⟩
    · cases e
  · cases e
end Dn

namespace Dn
open PySem PySem.Spec PyProof.Rows L2
/-! {k: v for ..}: keys ints, texts or tuples -/
/-- what holds in a block, whatever the block's own scope is -/
abbrev InBlk (X : Cx) (scope : Scope) (f : Cx → Prop) : Prop := ∀ (s : Shared) (H : Hp) (C : Addr) (cl : List (Str × Addr)) (fp : List Addr), f (X.blk s H scope (compEnvC scope cl C X.env) fp)
def tDx (K : KW) (wi : TI) (g : TG) (tt : TT) (tk tv : TE) (vs : List Nat) : TE := fun σ H Q => wi σ H fun J G0 => ∀ A, G0 A = none → ∃ W : Nat → Nat → Hp → Prop,
  (∃ m, W 0 m (upd G0 A (.dK []))) ∧ ∀ i m G, W i m G → (J.stop i G ∧ Q (.ref A) G) ∨ (J.go i G ∧ ∃ Nx : Hp → Prop,
    (∀ G', Nx G' → ∃ n, n < m ∧ W (i + 1) n G') ∧ ∀ x G1, J.yld i G x G1 → g x (wipe σ vs) G1 fun τ G2 => wipe τ vs = wipe σ vs ∧ tt τ G2 fun b G3 =>
      if b = true then tk τ G3 fun y G4 => tv τ G4 fun z G5 => ∃ o, Stp K G5 A y z o ∧ Nx (upd G5 A o) else Nx G3)
section
variable {X : Cx} {kx vx tg iter : Expr} {ifs : List Expr} {scope : Scope} {own : List (Str × Nat)} {pos : Pos} {wi : TI} {g : TG} {tt : TT} {tk tv : TE}
theorem dx_core {pins : List (Addr × Obj)} {s : Shared} {σ : L2.St} {H : Hp} {Q : VK} {ppos : Pos} {use : Option (Value → Sem Unit)} {Qf : Value → Shared → Prop} (hu : X.A.units + 64 < cLine) (hc : X.calm = true) (hN : X.N.Nodup) (I : Inv X pins σ H s) (hi : PI X tg iter wi)
    (bk : BlkOk X.N X.env.scope scope own) (hg : InBlk X scope fun Y => PG Y tg g) (ht : InBlk X scope fun Y => PTs Y ifs tt) (hk : InBlk X scope fun Y => PE Y kx tk) (hv : InBlk X scope fun Y => PE Y vx tv) (hf : ∀ x, foldedSetIterable iter X.env x = pure x)
    (h : tDx X.kw wi g tt tk tv (own.map (·.2)) σ H Q)
    (fin : ∀ A C s' m G, Inv X pins σ G s' → Q (.ref A) G → s'.heap.Ns C m → FpOk X pins G C → compPost (model X.prog X.w) X.A X.xe use Qf (.ref A) C (.ok .next) s') :
    wpAny (model X.prog X.w) X.A (comprehension (.DictComp kx vx [⟨tg, iter, ifs, 0⟩] scope pos) scope X.env ppos newDict false (eval iter X.env) use) Qf X.xe s := by
  have free : ∀ y ∈ scope.names, y.2 = .free → ∃ c, X.env.cells.lookup y.1 = some c := fun y hy e => (bk.free y hy e).elim (fun k => I.ok.has _ (.inl k)) fun k => I.ok.has _ (.inr k)
  apply wpAny_comprehension_free (use := use) rfl hf (closure_ok free) bk.kind (fun y hy e => by rw [bk.uniq y hy, e])
  refine thn (hi.run pins s σ H _ I h) fun xv s1 hx => thn hx fun itv s2 h2 => ?_
  obtain ⟨it, fp, tn, J, G0, e, I0, T, t0, f0, body⟩ := h2
  subst e; refine wpAny_newObj_type (newEnv_comp ?_)
  -- the new dict stands at A
  obtain ⟨A, hA⟩ : ∃ A, s2.heap.objs.size = A := ⟨_, rfl⟩
  have A0 : G0 A = none := I0.hok.fresh (Nat.le_of_eq hA)
  rw [hA]
  obtain ⟨W, ⟨m0, w0⟩, turn⟩ := body A A0
  generalize hs3 : (({ s2 with heap := s2.heap.push { cls := .type "dict", data := .dict #[] } }) : Shared) = s3
  have e3 : s3.heap = s2.heap.push { cls := .type "dict", data := .dict #[] } := by rw [← hs3]
  have I3 : Inv X pins σ (upd G0 A (.dK [])) s3 := by
    subst hs3
    apply I0.laid (t' := s2.toks) (fun b o e => Heap.get?_push_of_some _ e) (Nat.le_of_eq hA)
    subst hA
    exact dk_empty s2.heap I0.big
  have small : ∀ b ∈ fp, b < s2.heap.objs.size := fun b hb => let ⟨o, e, _⟩ := T.obj _ _ t0 b hb; Heap.lt_size e
  have foot : ∀ b ∈ fp, FpOk X pins (upd G0 A (.dK [])) b ∧ b < s3.heap.objs.size := fun b hb => by
    have lt := small b hb
    refine ⟨⟨?_, (f0 b hb).2⟩, by rw [e3, Heap.size_push]; exact Nat.lt_succ_of_lt lt⟩
    rw [upd_ne (by rw [← hA]; exact Nat.ne_of_lt lt)]; exact (f0 b hb).1
  have t3 : tn 0 s3.heap := T.keep _ _ _ t0 fun b _ o e => by rw [e3]; exact Heap.get?_push_of_some _ e
  have J0 := block_start I3 bk hN foot
  have gg := hg s3 (upd G0 A (.dK [])) s3.heap.objs.size (cellsFrom (s3.heap.objs.size + 1) scope.names (cloFrom X.env.cells scope.names [])) fp
  have gt := ht s3 (upd G0 A (.dK [])) s3.heap.objs.size (cellsFrom (s3.heap.objs.size + 1) scope.names (cloFrom X.env.cells scope.names [])) fp
  have gk := hk s3 (upd G0 A (.dK [])) s3.heap.objs.size (cellsFrom (s3.heap.objs.size + 1) scope.names (cloFrom X.env.cells scope.names [])) fp
  have gv := hv s3 (upd G0 A (.dK [])) s3.heap.objs.size (cellsFrom (s3.heap.objs.size + 1) scope.names (cloFrom X.env.cells scope.names [])) fp
  show codeAny _ _ (.compStart (.DictComp kx vx [⟨tg, iter, ifs, 0⟩] scope pos) 0 (.ref it) (.ref A) (compEnvC scope (cellsFrom (s3.heap.objs.size + 1) scope.names (cloFrom X.env.cells scope.names [])) s3.heap.objs.size X.env)) (compPost (model X.prog X.w) X.A X.xe use Qf (.ref A) s3.heap.objs.size) { s3 with heap := pushCells (s3.heap.push { cls := .type "dict", data := .dict #[] }) scope.names }
  have none0 : ∀ b ∈ fp, (upd G0 A (.dK [])) b = none := fun b hb => (foot b hb).1.1
  revert J0 gg gt gk gv
  generalize hce : compEnvC scope (cellsFrom (s3.heap.objs.size + 1) scope.names (cloFrom X.env.cells scope.names [])) s3.heap.objs.size X.env = ce
  intro J0 gg gt gk gv
  have ceL : ce.locals = s3.heap.objs.size := by subst hce; rfl
  generalize upd G0 A (.dK []) = G3 at I3 J0 gg gt gk gv w0 none0 foot
  generalize hs4 : ({ s3 with heap := pushCells (s3.heap.push { cls := .type "dict", data := .dict #[] }) scope.names } : Shared) = s4 at J0 ⊢
  have t4 : tn 0 s4.heap := T.keep _ _ _ t3 fun b _ o e => by rw [← hs4]; exact pushCells_keeps _ _ _ _ (Heap.get?_push_of_some _ e)
  have feet : ∀ {τ : L2.St} {G : Hp} {u : Shared}, Inv (X.blk s3 G3 scope ce fp) [] τ G u → (∀ b ∈ fp, G b = none) → ∀ b ∈ fp, FpOk (X.blk s3 G3 scope ce fp) [] G b := fun {τ G u} Iu hn b hb =>
    ⟨hn b hb, (Iu.ok.exf b hb).1, Iu.ok.exfs b hb, .inl hb, fun x c e => (Iu.ok.exf b hb).2 x c e, fun p hp => absurd (show p ∈ ([] : List (Addr × Obj)) ++ [] from hp) (by simp)⟩
  -- ahead of each turn
  let Ahead : Nat → Shared → Prop := fun n u => ∃ i G, Inv (X.blk s3 G3 scope ce fp) [] (wipe σ (own.map (·.2))) G u ∧ tn i u.heap ∧ (∀ b ∈ fp, G b = none) ∧ W i n G
  have loop : codeAny (model X.prog X.w) X.A (.compLoop (.DictComp kx vx [⟨tg, iter, ifs, 0⟩] scope pos) 0 (.ref it) (.ref A) ce) (compPost (model X.prog X.w) X.A X.xe use Qf (.ref A) s3.heap.objs.size) s4 := by
    apply compLoop_anyD Ahead ?_ m0 ⟨0, G3, J0, t4, none0, w0⟩
    rintro n u ⟨i, G, Iu, tu, nu, wu⟩
    rcases turn i n G wu with ⟨stop, done⟩ | ⟨go, Nx, next, step⟩
    · refine thnF (T.done (X.blk s3 G3 scope ce fp) rfl rfl rfl hc i [] u _ G (fun _ _ => False) Iu (feet Iu nu) tu stop) fun r u1 ⟨er, I1⟩ => ?_
      subst er
      have back : Inv X pins σ G u1 := I3.call' (ch := fp) I1.os I1.base I1.hok I1.bare fun b hb => let ⟨⟨_, z1, _, z3, z4, z5⟩, _⟩ := foot b hb; ⟨z3, z1, z4, z5⟩
      have nC : G s3.heap.objs.size = none := by have z : G ce.locals = none := I1.free; rwa [ceL] at z
      obtain ⟨m, hn, _⟩ := I1.loc
      have hn : u1.heap.Ns ce.locals m := hn
      rw [ceL] at hn
      exact fin A s3.heap.objs.size u1 m G back done hn (I3.fpOk (Nat.le_refl _) nC)
    · refine thnF (T.item (X.blk s3 G3 scope ce fp) rfl rfl rfl hc i [] u _ G (fun _ _ => False) Iu (feet Iu nu) tu go) fun r u1 ⟨w, er, h1⟩ => ?_
      subst er
      refine thnF h1 fun _ u2 ⟨x, Ga, Ia, rx, yl, ta, na⟩ => ?_
      have Ip := Ia.pinned (feet Ia na) (T.obj _ _ ta)
      refine thnF (gg.run _ u2 _ Ga x w _ Ip rx (step x Ga yl)) fun _ u3 ⟨τ, Gb, Ib, hw, qb⟩ => thnF (gt.run _ u3 τ Gb _ Ib qb) fun b u4 ⟨Gc, Ic, qc⟩ => ?_
      have close : ∀ {v : Shared} {G' : Hp}, Inv (X.blk s3 G3 scope ce fp) ([] ++ pinsAt fp u2.heap) τ G' v → Nx G' → ∃ k, k < n ∧ Ahead k v := fun {v G'} Iv nx => by
        obtain ⟨k, hk, wk⟩ := next G' nx
        have pin : ∀ b ∈ fp, ∀ o, u2.heap.get? b = some o → v.heap.get? b = some o ∧ G' b = none := fun b hb o e =>
          let z := Iv.pin (b, o) (List.mem_append_right _ (List.mem_append_right _ (mem_pinsAt hb e))); ⟨z.1, z.2.1⟩
        have hl : (wipe σ (own.map (·.2))).length = τ.length := by rw [← hw, wipe_length]
        have I5 := (Iv.unpinned (pins := [])).weak hl fun j v e => by rw [← hw] at e; exact (wipe_some e).1
        exact ⟨k, hk, i + 1, G', I5, T.keep _ _ _ ta fun b hb o e => (pin b hb o e).1, fun b hb => let ⟨o, e, _⟩ := T.obj _ _ ta b hb; (pin b hb o e).2, wk⟩
      cases b with
      | false => exact close Ic qc
      | true =>
        refine thnF (gk.run _ u4 τ Gc _ Ic qc) fun yv u5 ⟨y, Gd, Id, ry, qd⟩ => thnF (gv.run _ u5 τ Gd _ Id qd) fun zv u6 ⟨z, Ge, Ie, rz, o, st, nx⟩ => ?_
        exact stp_set (X := X.blk s3 G3 scope ce fp) hu Ie st ry rz fun u7 I7 => close I7 nx
  exact codeAny_compStart_dict loop (T.self X.A 0 _ _ _ t4 loop)
variable {F : Fr} {W : List Nat}
theorem pe_dx (hu : X.A.units + 64 < cLine) (hc : X.calm = true) (hN : X.N.Nodup) (hi : PI X tg iter wi) (bk : BlkOk X.N X.env.scope scope own) (hg : InBlk X scope fun Y => PG Y tg g) (ht : InBlk X scope fun Y => PTs Y ifs tt) (hk : InBlk X scope fun Y => PE Y kx tk) (hv : InBlk X scope fun Y => PE Y vx tv)
    (hf : ∀ x, foldedSetIterable iter X.env x = pure x := by intro _; rfl) : PE X (.DictComp kx vx [⟨tg, iter, ifs, 0⟩] scope pos) (tDx X.kw wi g tt tk tv (own.map (·.2))) := ⟨fun pins s σ H Q I h => by
  rw [arm_eval_DictComp]
  exact dx_core hu hc hN I hi bk hg ht hk hv hf h fun A C s' m G I' q hn f => ⟨m, hn, fun h'' sb => let ⟨f0, f1, f2, f3, f4, f5⟩ := f; ⟨.ref A, G, I'.turned (t' := s'.toks) (fun b o hb e => (sb.2 b hb).trans e) f0 f1 f3 f4 f5, rfl, q⟩⟩⟩
/-- name = {k: v for ..} on one line, the name a local -/
theorem ps_setDx {i : Nat} {y : Str} {py spos : Pos} (hu : X.A.units + 64 < cLine) (hc : X.calm = true) (hN : X.N.Nodup) (hy : X.N[i]? = some y) (hyl : X.env.scope.names.lookup y = some .local)
    (sw : swapsWith (.DictComp kx vx [⟨tg, iter, ifs, 0⟩] scope pos) (some (.Name y py)) spos.line X.env = pure true) (hi : PI X tg iter wi) (bk : BlkOk X.N X.env.scope scope own) (hg : InBlk X scope fun Y => PG Y tg g) (ht : InBlk X scope fun Y => PTs Y ifs tt) (hk : InBlk X scope fun Y => PE Y kx tk) (hv : InBlk X scope fun Y => PE Y vx tv)
    (hf : ∀ x, foldedSetIterable iter X.env x = pure x := by intro _; rfl) : PS X (.Assign [.Name y py] (.DictComp kx vx [⟨tg, iter, ifs, 0⟩] scope pos) spos) (tAsg (tDx X.kw wi g tt tk tv (own.map (·.2))) (gName i)) := ⟨fun pins s σ H D I h => by
  rw [exec_Assign_Name_used _ _ _ _ sw]
  refine wpAny_bind (wpAny_standAt (wpAny_bind (?_ : wpAny _ X.A (do let _ ← comprehension (.DictComp kx vx [⟨tg, iter, ifs, 0⟩] scope pos) scope X.env (firstIterPos [⟨tg, iter, ifs, 0⟩] pos) newDict false (eval iter X.env) (some (assign (.Name y py) X.env))) _ _ s)))
  have h1 : tDx X.kw wi g tt tk tv (own.map (·.2)) σ H (fun x G => gName i x σ G D.nx) := h
  refine wpAny_bind (thn (dx_core (Qf := fun _ s' => SP X pins D .next s') hu hc hN I hi bk hg ht hk hv hf h1 fun A C s' m G I' q hn f => ?_) fun _ s' hq => wpAny_pure (wpAny_pure hq))
  show wpAny _ _ (assign (.Name y py) X.env (.ref A)) _ _ _
  obtain ⟨f0, f1, f2, f3, f4, f5⟩ := f
  refine wpAny_assign_Name (store_ok2 (v := V.ref A) I' hN hy (.inl hyl) rfl (fun s2 I2 ⟨a, sb, ha⟩ => ⟨m, hn.sameBut sb ?_, fun h3 sb3 => ⟨_, G, I2.turned (t' := s2.toks) (fun b o hb e => (sb3.2 b hb).trans e) f0 f1 f3 f4 f5, q⟩⟩) (.inr hyl))
  rcases ha with z | z
  · rw [z]; exact f1
  · exact fun e => f4 y a z e.symm⟩
theorem swd_true {gs : List Comprehension} {py : Pos} {y : Str} {l : Nat} {env : PySem.Env} (hk : env.scope.kind = .function) (hy : env.scope.names.lookup y = some .local) (hl : (py.line == pos.line) = true)
    (ha : (scope.names.any fun (n, k) => n == y && (k == .local || k == .cell)) = false) : swapsWith (.DictComp kx vx gs scope pos) (some (.Name y py)) l env = pure true := by
  have h1 : env.kindOf y = some .local := hy
  have h2 : env.blockKind = .function := by unfold Env.blockKind; rw [hk]; rfl
  unfold swapsWith
  simp only [h1, h2, ha, Expr.pos, hl]; rfl
end
/-! as data -/
def loopK (vs : List Nat) (b : B1) (q : PT1) (pk pv : P1) : List D → D → Env → Option (D × Env)
  | [], acc, ρ => some (acc, ρ)
  | d :: ds, acc, ρ => (b d ρ).bind fun ρ1 => (q ρ1).bind fun t => if t.1 = true then (pk t.2).bind fun a => match a.1 with
      | .ro dk => (pv a.2).bind fun v => (cap v.1 v.2).bind fun v2 => (dPut acc dk v2.1.d).bind fun acc' => loopK vs b q pk pv ds acc' (forget vs v2.2)
      | _ => none
    else loopK vs b q pk pv ds acc (forget vs t.2)
def pDc (it : I1) (vs : List Nat) (b : B1) (q : PT1) (pk pv : P1) : P1 := fun ρ => (it ρ).bind fun a => (loopK vs b q pk pv a.1 (.dct []) (forget vs a.2)).map fun r => (.own r.1, r.2)
section
variable {F : Fr} {W : List Nat}
/-- one store into the dict that lies under the key and the value -/
theorem RSo.putTop {ow : Ow} {σ : L2.St} {H : Hp} {ρ : Dn.Env} {τ : List (V × C)} {A : Addr} {y z : V} {c : C} {dk acc acc' : D} (I : RSo F ow σ H ρ ((z, c) :: (y, .ro dk) :: (.ref A, .own acc) :: τ)) (hc : ∀ j, c ≠ .view j) (e : dPut acc dk c.d = some acc') :
    ∃ o, Stp F.K H A y z o ∧ ∃ ow', RSo F ow' σ (upd H A o) ρ ((.ref A, .own acc') :: τ) := by
  have rz := RepC.pop I hc
  have I1 := I.pop
  generalize drop ow (.inr ((y, C.ro dk) :: (V.ref A, C.own acc) :: τ).length) = ow1 at rz I1
  have ry := RepC.pop I1 (fun j e => nomatch e)
  have I2 := I1.pop
  have rz2 : Rep F.K (F.N (drop ow1 (.inr ((V.ref A, C.own acc) :: τ).length))) H z c.d := rz.mono drop_N
  generalize drop ow1 (.inr ((V.ref A, C.own acc) :: τ).length) = ow2 at ry I2 rz2
  obtain ⟨A', e0, _, hh⟩ := I2.tmp.1
  cases e0
  obtain ⟨o, st, m1, m2, new⟩ := hold_put hh ry rz2 e
  have ho : ∃ u, H A = some u := Option.isSome_iff_exists.mp hh.some.1
  obtain ⟨u, hu⟩ := ho
  exact ⟨o, st, ow2, I2.updTop hu (by rw [← hu]; exact m1) m2 new⟩
theorem dc_of {it : I1} {vs : List Nat} {b : B1} {q : PT1} {pk pv : P1} (hW : ∀ i ∈ W, i ∈ vs) {σ : L2.St} {H : Hp} {Q : VK} (hw : tD F (pDc it vs b q pk pv) σ H Q) : tDx F.K (tDI F it) (tDG F W b) (tDT F q) (tD F pk) (tD F pv) vs σ H Q := by
  obtain ⟨ρ, τ, c, ρ', I, e1, k⟩ := hw
  simp only [pDc, Option.bind_eq_some_iff, Option.map_eq_some_iff] at e1
  obtain ⟨⟨ds, ρ1⟩, e1, ⟨dd, ρ2⟩, e2, e3⟩ := e1
  cases e3
  refine ⟨ρ, τ, ds, ρ1, I, e1, fun J ts H1 wk nt I1 A hA => ?_⟩
  obtain ⟨ow1, I1⟩ := I1
  have inn : ∀ {ow : Ow} {H : Hp} {ρ : Dn.Env} {τ : List (V × C)}, ρ.length = σ.length → RSo F ow σ H (forget vs ρ) τ → RSo F ow (wipe σ vs) H (forget vs ρ) τ := fun {ow H ρ τ} hl J => J.forget (by rw [wipe_length, forget_length, hl]) fun i c e => ⟨e, wipe_out (forget_get e).2⟩
  have out : ∀ {ow : Ow} {H : Hp} {ρ : Dn.Env} {τ : List (V × C)} {σ2 : L2.St}, σ2.length = σ.length → (∀ i, i ∉ vs → σ2[i]? = σ[i]?) → RSo F ow σ2 H ρ τ → RSo F ow σ H (forget vs ρ) τ := fun {ow H ρ τ σ2} hl hs J => J.forget (by rw [forget_length, ← hl]; exact J.len) fun i c e => ⟨(forget_get e).1, (hs i (forget_get e).2).symm⟩
  have I1f : RSo F ow1 σ H1 (forget vs ρ1) (ts ++ τ) := I1.forget (by rw [forget_length]; exact I1.len) fun i c e => ⟨(forget_get e).1, rfl⟩
  obtain ⟨g0, r0⟩ := dct_new (K := F.K) (N := F.N ow1) hA (.nil : RepK F.K (F.N ow1) H1 [] [])
  obtain ⟨ow0, I0, _⟩ := I1f.ret g0 r0
  refine ⟨fun i m H' => m = ds.length - i ∧ i ≤ ds.length ∧ ∃ ρi acc, ρi.length = σ.length ∧ RS F σ H' (forget vs ρi) ((.ref A, .own acc) :: (ts ++ τ)) ∧ loopK vs b q pk pv (ds.drop i) acc (forget vs ρi) = some (dd, ρ2), ⟨ds.length, by simp, Nat.zero_le _, ρ1, .dct [], I1.len.symm, ⟨ow0, I0⟩, e2⟩, ?_⟩
  rintro i m H' ⟨rfl, hi, ρi, acc, hli, ⟨ow, I'⟩, el⟩
  by_cases hlt : i < ds.length
  · refine .inr ⟨wk.go i σ H' _ [_] τ hlt ⟨ow, I'⟩, fun H2 => ∃ ρi acc, ρi.length = σ.length ∧ RS F σ H2 (forget vs ρi) ((.ref A, .own acc) :: (ts ++ τ)) ∧ loopK vs b q pk pv (ds.drop (i + 1)) acc (forget vs ρi) = some (dd, ρ2), fun H2 h2 => ⟨ds.length - (i + 1), by omega, rfl, hlt, h2⟩, fun x H2 y => ?_⟩
    obtain ⟨d, hd, ow2, I2⟩ := wk.yld i (wipe σ vs) H' _ [_] τ x H2 hlt ⟨ow, inn hli I'⟩ y
    have ed : ds.drop i = d :: ds.drop (i + 1) := by
      rw [List.getElem?_eq_getElem hlt] at hd
      rw [← Option.some.inj hd]; exact List.drop_eq_getElem_cons hlt
    rw [ed] at el
    simp only [loopK, Option.bind_eq_some_iff] at el
    obtain ⟨ρa, ea, ⟨bt, ρb⟩, eb, el⟩ := el
    refine ⟨_, _, d, ρa, ⟨ow2, I2⟩, ea, fun σ2 l2 z2 I3 => ?_⟩
    have hl2 : σ2.length = σ.length := l2.trans (wipe_length σ vs)
    have hs2 : ∀ i, i ∉ vs → σ2[i]? = σ[i]? := fun i hi => (z2 i fun z => hi (hW i z)).trans (wipe_out hi)
    refine ⟨wipe_same hl2 hW z2, ρa, _, bt, ρb, I3, eb, fun H3 I3 => ?_⟩
    cases bt with
    | false =>
      rw [if_neg Bool.false_ne_true] at el ⊢
      obtain ⟨ow3, I3⟩ := I3
      exact ⟨ρb, acc, (I3.len.symm.trans hl2), ⟨ow3, out hl2 hs2 I3⟩, el⟩
    | true =>
      rw [if_pos rfl] at el ⊢
      simp only [Option.bind_eq_some_iff] at el
      obtain ⟨⟨ca, ρc⟩, ec, el⟩ := el
      split at el
      · rename_i dk hdk
        simp only at hdk
        subst hdk
        simp only [Option.bind_eq_some_iff] at el
        obtain ⟨⟨cv, ρd⟩, ev, ⟨cv2, ρe⟩, ecap, acc', eput, el⟩ := el
        refine ⟨ρb, _, .ro dk, ρc, I3, ec, fun v H4 I4 => ⟨ρc, _, cv, ρd, I4, ev, fun u H5 ⟨ow5, I5⟩ => ?_⟩⟩
        obtain ⟨⟨ow6, I6⟩, nv6⟩ := I5.cap ecap
        obtain ⟨o, st, ow7, I7⟩ := I6.putTop nv6 eput
        exact ⟨o, st, ρe, acc', I7.len.symm.trans hl2, ⟨ow7, out hl2 hs2 I7⟩, el⟩
      · cases el
  · have e : ds.drop i = [] := List.drop_eq_nil_of_le (by omega)
    rw [e] at el
    cases el
    exact .inl ⟨wk.stop i σ H' _ [_] τ (by omega) ⟨ow, I'⟩, k _ H' (RSo.ret1 ⟨ow, I'⟩)⟩
theorem dc_ofS {it : I1} {vs : List Nat} {b : B1} {q : PT1} {pk pv : P1} {KX : KW} (hK : F.K = KX) (hW : ∀ i ∈ W, i ∈ vs) {σ : L2.St} {H : Hp} {Q : VK} (hw : tD F (pDc it vs b q pk pv) σ H Q) :
    tDx KX (tDIs F it) (fun v σ H Q => ∃ G : Fr, G.K = KX ∧ tDG G W b v σ H Q) (fun σ H Q => ∃ G : Fr, G.K = KX ∧ tDT G q σ H Q) (fun σ H Q => ∃ G : Fr, G.K = KX ∧ tD G pk σ H Q) (fun σ H Q => ∃ G : Fr, G.K = KX ∧ tD G pv σ H Q) vs σ H Q := by
  obtain ⟨ρ, τ, c, ρ', I, e1, k⟩ := hw
  simp only [pDc, Option.bind_eq_some_iff, Option.map_eq_some_iff] at e1
  obtain ⟨⟨ds, ρ1⟩, e1, ⟨dd, ρ2⟩, e2, e3⟩ := e1
  cases e3
  refine ⟨ρ, τ, ds, ρ1, I, e1, fun G J ts H1 sb wk nt I1 A hA => ?_⟩
  have hG : G.K = KX := sb.1.trans hK
  obtain ⟨ow1, I1⟩ := I1
  have inn : ∀ {ow : Ow} {H : Hp} {ρ : Dn.Env} {τ : List (V × C)}, ρ.length = σ.length → RSo G ow σ H (forget vs ρ) τ → RSo G ow (wipe σ vs) H (forget vs ρ) τ := fun {ow H ρ τ} hl J => J.forget (by rw [wipe_length, forget_length, hl]) fun i c e => ⟨e, wipe_out (forget_get e).2⟩
  have out : ∀ {ow : Ow} {H : Hp} {ρ : Dn.Env} {τ : List (V × C)} {σ2 : L2.St}, σ2.length = σ.length → (∀ i, i ∉ vs → σ2[i]? = σ[i]?) → RSo G ow σ2 H ρ τ → RSo G ow σ H (forget vs ρ) τ := fun {ow H ρ τ σ2} hl hs J => J.forget (by rw [forget_length, ← hl]; exact J.len) fun i c e => ⟨(forget_get e).1, (hs i (forget_get e).2).symm⟩
  have I1f : RSo G ow1 σ H1 (forget vs ρ1) (ts ++ τ) := I1.forget (by rw [forget_length]; exact I1.len) fun i c e => ⟨(forget_get e).1, rfl⟩
  obtain ⟨g0, r0⟩ := dct_new (K := G.K) (N := G.N ow1) hA (.nil : RepK G.K (G.N ow1) H1 [] [])
  obtain ⟨ow0, I0, _⟩ := I1f.ret g0 r0
  refine ⟨fun i m H' => m = ds.length - i ∧ i ≤ ds.length ∧ ∃ ρi acc, ρi.length = σ.length ∧ RS G σ H' (forget vs ρi) ((.ref A, .own acc) :: (ts ++ τ)) ∧ loopK vs b q pk pv (ds.drop i) acc (forget vs ρi) = some (dd, ρ2), ⟨ds.length, by simp, Nat.zero_le _, ρ1, .dct [], I1.len.symm, ⟨ow0, I0⟩, e2⟩, ?_⟩
  rintro i m H' ⟨rfl, hi, ρi, acc, hli, ⟨ow, I'⟩, el⟩
  by_cases hlt : i < ds.length
  · refine .inr ⟨wk.go i σ H' _ [_] τ hlt ⟨ow, I'⟩, fun H2 => ∃ ρi acc, ρi.length = σ.length ∧ RS G σ H2 (forget vs ρi) ((.ref A, .own acc) :: (ts ++ τ)) ∧ loopK vs b q pk pv (ds.drop (i + 1)) acc (forget vs ρi) = some (dd, ρ2), fun H2 h2 => ⟨ds.length - (i + 1), by omega, rfl, hlt, h2⟩, fun x H2 y => ?_⟩
    obtain ⟨d, hd, ow2, I2⟩ := wk.yld i (wipe σ vs) H' _ [_] τ x H2 hlt ⟨ow, inn hli I'⟩ y
    have ed : ds.drop i = d :: ds.drop (i + 1) := by
      rw [List.getElem?_eq_getElem hlt] at hd
      rw [← Option.some.inj hd]; exact List.drop_eq_getElem_cons hlt
    rw [ed] at el
    simp only [loopK, Option.bind_eq_some_iff] at el
    obtain ⟨ρa, ea, ⟨bt, ρb⟩, eb, el⟩ := el
    refine ⟨G, hG, _, _, d, ρa, ⟨ow2, I2⟩, ea, fun σ2 l2 z2 I3 => ?_⟩
    have hl2 : σ2.length = σ.length := l2.trans (wipe_length σ vs)
    have hs2 : ∀ i, i ∉ vs → σ2[i]? = σ[i]? := fun i hi => (z2 i fun z => hi (hW i z)).trans (wipe_out hi)
    refine ⟨wipe_same hl2 hW z2, G, hG, ρa, _, bt, ρb, I3, eb, fun H3 I3 => ?_⟩
    cases bt with
    | false =>
      rw [if_neg Bool.false_ne_true] at el ⊢
      obtain ⟨ow3, I3⟩ := I3
      exact ⟨ρb, acc, (I3.len.symm.trans hl2), ⟨ow3, out hl2 hs2 I3⟩, el⟩
    | true =>
      rw [if_pos rfl] at el ⊢
      simp only [Option.bind_eq_some_iff] at el
      obtain ⟨⟨ca, ρc⟩, ec, el⟩ := el
      split at el
      · rename_i dk hdk
        simp only at hdk
        subst hdk
        simp only [Option.bind_eq_some_iff] at el
        obtain ⟨⟨cv, ρd⟩, ev, ⟨cv2, ρe⟩, ecap, acc', eput, el⟩ := el
        refine ⟨G, hG, ρb, _, .ro dk, ρc, I3, ec, fun v H4 I4 => ⟨G, hG, ρc, _, cv, ρd, I4, ev, fun u H5 ⟨ow5, I5⟩ => ?_⟩⟩
        obtain ⟨⟨ow6, I6⟩, nv6⟩ := I5.cap ecap
        obtain ⟨o, st, ow7, I7⟩ := I6.putTop nv6 eput
        exact ⟨o, hG ▸ st, ρe, acc', I7.len.symm.trans hl2, ⟨ow7, out hl2 hs2 I7⟩, el⟩
      · cases el
  · have e : ds.drop i = [] := List.drop_eq_nil_of_le (by omega)
    rw [e] at el
    cases el
    exact .inl ⟨wk.stop i σ H' _ [_] τ (by omega) ⟨ow, I'⟩, k _ H' (sb.2 _ _ _ _ (RSo.ret1 ⟨ow, I'⟩))⟩
end
section
variable {X : Cx} {F : Fr} {W : List Nat} {kx vx tg iter : Expr} {ifs : List Expr} {scope : Scope} {own : List (Str × Nat)} {vs : List Nat} {pos : Pos} {it : I1} {bb : B1} {q : PT1} {pk pv : P1}
theorem de_dc (hK : F.K = X.kw) (hu : X.A.units + 64 < cLine) (hc : X.calm = true) (hN : X.N.Nodup) (hi : PI X tg iter (tDI F it)) (bk : BlkOk X.N X.env.scope scope own) (hg : InBlk X scope fun Y => PG Y tg (tDG F W bb)) (ht : InBlk X scope fun Y => PTs Y ifs (tDT F q))
    (hk : InBlk X scope fun Y => PE Y kx (tD F pk)) (hv : InBlk X scope fun Y => PE Y vx (tD F pv)) (hW : ∀ i ∈ W, i ∈ vs) (hvs : own.map (·.2) = vs := by rfl) (hf : ∀ x, foldedSetIterable iter X.env x = pure x := by intro _; rfl) :
    PE X (.DictComp kx vx [⟨tg, iter, ifs, 0⟩] scope pos) (tD F (pDc it vs bb q pk pv)) := PE.imp (pe_dx hu hc hN hi bk hg ht hk hv hf) fun _ _ _ hw => by rw [hvs, ← hK]; exact dc_of hW hw
theorem ds_setDc {i : Nat} {y : Str} {py spos : Pos} (hK : F.K = X.kw) (hu : X.A.units + 64 < cLine) (hc : X.calm = true) (hN : X.N.Nodup) (hy : X.N[i]? = some y) (hyl : X.env.scope.names.lookup y = some .local) (sw : swapsWith (.DictComp kx vx [⟨tg, iter, ifs, 0⟩] scope pos) (some (.Name y py)) spos.line X.env = pure true)
    (hi : PI X tg iter (tDI F it)) (bk : BlkOk X.N X.env.scope scope own) (hg : InBlk X scope fun Y => PG Y tg (tDG F W bb)) (ht : InBlk X scope fun Y => PTs Y ifs (tDT F q))
    (hk : InBlk X scope fun Y => PE Y kx (tD F pk)) (hv : InBlk X scope fun Y => PE Y vx (tD F pv)) (hW : ∀ i ∈ W, i ∈ vs) (hvs : own.map (·.2) = vs := by rfl) (hf : ∀ x, foldedSetIterable iter X.env x = pure x := by intro _; rfl) :
    PS X (.Assign [.Name y py] (.DictComp kx vx [⟨tg, iter, ifs, 0⟩] scope pos) spos) (tDS F [i] (sSet i (pDc it vs bb q pk pv))) := PS.imp (ps_setDx hu hc hN hy hyl sw hi bk hg ht hk hv hf) fun _ _ _ => set_of fun _ _ _ hw => by rw [hvs, ← hK]; exact dc_of hW hw
theorem de_dcS (hK : F.K = X.kw) (hu : X.A.units + 64 < cLine) (hc : X.calm = true) (hN : X.N.Nodup) (hi : PI X tg iter (tDIs F it)) (bk : BlkOk X.N X.env.scope scope own)
    (hg : ∀ G : Fr, G.K = X.kw → InBlk X scope fun Y => PG Y tg (tDG G W bb)) (ht : ∀ G : Fr, G.K = X.kw → InBlk X scope fun Y => PTs Y ifs (tDT G q)) (hk : ∀ G : Fr, G.K = X.kw → InBlk X scope fun Y => PE Y kx (tD G pk)) (hv : ∀ G : Fr, G.K = X.kw → InBlk X scope fun Y => PE Y vx (tD G pv))
    (hW : ∀ i ∈ W, i ∈ vs) (hvs : own.map (·.2) = vs := by rfl) (hf : ∀ x, foldedSetIterable iter X.env x = pure x := by intro _; rfl) : PE X (.DictComp kx vx [⟨tg, iter, ifs, 0⟩] scope pos) (tD F (pDc it vs bb q pk pv)) :=
  PE.imp (pe_dx hu hc hN hi bk (fun s H C cl fp => PG.ex (X := X.blk s H scope (compEnvC scope cl C X.env) fp) fun G hG => hg G hG s H C cl fp) (fun s H C cl fp => PTs.ex (X := X.blk s H scope (compEnvC scope cl C X.env) fp) fun G hG => ht G hG s H C cl fp)
    (fun s H C cl fp => PE.ex (X := X.blk s H scope (compEnvC scope cl C X.env) fp) fun G hG => hk G hG s H C cl fp) (fun s H C cl fp => PE.ex (X := X.blk s H scope (compEnvC scope cl C X.env) fp) fun G hG => hv G hG s H C cl fp) hf) fun _ _ _ hw => by rw [hvs]; exact dc_ofS hK hW hw
theorem ds_setDcS {i : Nat} {y : Str} {py spos : Pos} (hK : F.K = X.kw) (hu : X.A.units + 64 < cLine) (hc : X.calm = true) (hN : X.N.Nodup) (hy : X.N[i]? = some y) (hyl : X.env.scope.names.lookup y = some .local) (sw : swapsWith (.DictComp kx vx [⟨tg, iter, ifs, 0⟩] scope pos) (some (.Name y py)) spos.line X.env = pure true)
    (hi : PI X tg iter (tDIs F it)) (bk : BlkOk X.N X.env.scope scope own)
    (hg : ∀ G : Fr, G.K = X.kw → InBlk X scope fun Y => PG Y tg (tDG G W bb)) (ht : ∀ G : Fr, G.K = X.kw → InBlk X scope fun Y => PTs Y ifs (tDT G q)) (hk : ∀ G : Fr, G.K = X.kw → InBlk X scope fun Y => PE Y kx (tD G pk)) (hv : ∀ G : Fr, G.K = X.kw → InBlk X scope fun Y => PE Y vx (tD G pv))
    (hW : ∀ i ∈ W, i ∈ vs) (hvs : own.map (·.2) = vs := by rfl) (hf : ∀ x, foldedSetIterable iter X.env x = pure x := by intro _; rfl) :
    PS X (.Assign [.Name y py] (.DictComp kx vx [⟨tg, iter, ifs, 0⟩] scope pos) spos) (tDS F [i] (sSet i (pDc it vs bb q pk pv))) :=
  PS.imp (ps_setDx hu hc hN hy hyl sw hi bk (fun s H C cl fp => PG.ex (X := X.blk s H scope (compEnvC scope cl C X.env) fp) fun G hG => hg G hG s H C cl fp) (fun s H C cl fp => PTs.ex (X := X.blk s H scope (compEnvC scope cl C X.env) fp) fun G hG => ht G hG s H C cl fp)
    (fun s H C cl fp => PE.ex (X := X.blk s H scope (compEnvC scope cl C X.env) fp) fun G hG => hk G hG s H C cl fp) (fun s H C cl fp => PE.ex (X := X.blk s H scope (compEnvC scope cl C X.env) fp) fun G hG => hv G hG s H C cl fp) hf) fun _ _ _ => set_of fun _ _ _ hw => by rw [hvs]; exact dc_ofS hK hW hw
/-- the same for a list comprehension over a frozen dict -/
theorem ds_setLcS {i : Nat} {y : Str} {py spos : Pos} {elt : Expr} {p : P1} (hK : F.K = X.kw) (hc : X.calm = true) (hN : X.N.Nodup) (hy : X.N[i]? = some y) (hyl : X.env.scope.names.lookup y = some .local) (sw : swapsWith (.ListComp elt [⟨tg, iter, ifs, 0⟩] scope pos) (some (.Name y py)) spos.line X.env = pure true)
    (hi : PI X tg iter (tDIs F it)) (bk : BlkOk X.N X.env.scope scope own)
    (hg : ∀ G : Fr, G.K = X.kw → InBlk X scope fun Y => PG Y tg (tDG G W bb)) (ht : ∀ G : Fr, G.K = X.kw → InBlk X scope fun Y => PTs Y ifs (tDT G q)) (he : ∀ G : Fr, G.K = X.kw → InBlk X scope fun Y => PE Y elt (tD G p))
    (hW : ∀ i ∈ W, i ∈ vs) (hvs : own.map (·.2) = vs := by rfl) (hf : ∀ x, foldedSetIterable iter X.env x = pure x := by intro _; rfl) :
    PS X (.Assign [.Name y py] (.ListComp elt [⟨tg, iter, ifs, 0⟩] scope pos) spos) (tDS F [i] (sSet i (pLc it vs bb q p))) :=
  PS.imp (ps_setLc hc hN hy hyl sw hi bk (fun s H C cl fp => PG.ex (X := X.blk s H scope (compEnvC scope cl C X.env) fp) fun G hG => hg G hG s H C cl fp) (fun s H C cl fp => PTs.ex (X := X.blk s H scope (compEnvC scope cl C X.env) fp) fun G hG => ht G hG s H C cl fp)
    (fun s H C cl fp => PE.ex (X := X.blk s H scope (compEnvC scope cl C X.env) fp) fun G hG => he G hG s H C cl fp) hf) fun _ _ _ => set_of fun _ _ _ hw => by rw [hvs]; exact lc_ofS hK hW hw
end
end Dn

namespace Dn
open PySem PySem.Spec PyProof.Rows L2
/-! sum, max, min of a list of ints; dict(pairs), dict(d); t.index(x); d.items() -/
def intsD : List D → Option (List Int)
  | [] => some []
  | .int s :: ds => (intsD ds).map fun r => s :: r
  | _ => none
theorem intsD_eq : ∀ {ds : List D} {ss : List Int}, intsD ds = some ss → ds = ss.map .int
  | [], _, e => by cases e; rfl
  | d :: ds, ss, e => by
    cases d with
    | int s =>
      simp only [intsD, Option.map_eq_some_iff] at e
      obtain ⟨r, e1, rfl⟩ := e
      rw [intsD_eq e1]; rfl
    | _ => cases e
theorem repL_int {K : KW} {N : Addr → Prop} {H : Hp} : ∀ {ns : List Int} {vs : List V}, RepL K N H vs (ns.map .int) → vs = ns.map V.int
  | [], _, h => by cases h; rfl
  | n :: ns, _, h => by
    cases h with
    | cons r h => cases r; rw [repL_int h]; rfl
theorem repL_str {K : KW} {N : Addr → Prop} {H : Hp} : ∀ {ns : List Str} {vs : List V}, RepL K N H vs (ns.map .str) → vs = ns.map V.str
  | [], _, h => by cases h; rfl
  | n :: ns, _, h => by
    cases h with
    | cons r h => cases r; rw [repL_str h]; rfl
def D.suml : List D → Option C
  | [.lst ds] => (intsD ds).map fun ns => .ro (.int ns.sum)
  | _ => none
def maxI (a : Int) (l : List Int) : Int := l.foldl (fun a b => if b > a then b else a) a
def minI (a : Int) (l : List Int) : Int := l.foldl (fun a b => if b < a then b else a) a
theorem maxI_ok (a : Int) (l : List Int) : (maxI a l = a ∨ maxI a l ∈ l) ∧ a ≤ maxI a l ∧ ∀ y ∈ l, y ≤ maxI a l := by
  induction l generalizing a with
  | nil => exact ⟨.inl rfl, Int.le_refl _, by simp⟩
  | cons b l ih =>
    show (maxI (if b > a then b else a) l = a ∨ maxI (if b > a then b else a) l ∈ b :: l) ∧ a ≤ maxI (if b > a then b else a) l ∧ ∀ y ∈ b :: l, y ≤ maxI (if b > a then b else a) l
    by_cases h : b > a
    · rw [if_pos h]
      obtain ⟨h1, h2, h3⟩ := ih b
      refine ⟨.inr ?_, by omega, fun y hy => ?_⟩
      · rcases h1 with h1 | h1
        · rw [h1]; simp
        · exact List.mem_cons_of_mem _ h1
      · rcases List.mem_cons.mp hy with rfl | hy
        · exact h2
        · exact h3 y hy
    · rw [if_neg h]
      obtain ⟨h1, h2, h3⟩ := ih a
      refine ⟨h1.imp id (List.mem_cons_of_mem _), h2, fun y hy => ?_⟩
      rcases List.mem_cons.mp hy with rfl | hy
      · omega
      · exact h3 y hy
theorem minI_ok (a : Int) (l : List Int) : (minI a l = a ∨ minI a l ∈ l) ∧ minI a l ≤ a ∧ ∀ y ∈ l, minI a l ≤ y := by
  induction l generalizing a with
  | nil => exact ⟨.inl rfl, Int.le_refl _, by simp⟩
  | cons b l ih =>
    show (minI (if b < a then b else a) l = a ∨ minI (if b < a then b else a) l ∈ b :: l) ∧ minI (if b < a then b else a) l ≤ a ∧ ∀ y ∈ b :: l, minI (if b < a then b else a) l ≤ y
    by_cases h : b < a
    · rw [if_pos h]
      obtain ⟨h1, h2, h3⟩ := ih b
      refine ⟨.inr ?_, by omega, fun y hy => ?_⟩
      · rcases h1 with h1 | h1
        · rw [h1]; simp
        · exact List.mem_cons_of_mem _ h1
      · rcases List.mem_cons.mp hy with rfl | hy
        · exact h2
        · exact h3 y hy
    · rw [if_neg h]
      obtain ⟨h1, h2, h3⟩ := ih a
      refine ⟨h1.imp id (List.mem_cons_of_mem _), h2, fun y hy => ?_⟩
      rcases List.mem_cons.mp hy with rfl | hy
      · omega
      · exact h3 y hy
def D.maxl : List D → Option C
  | [.lst ds] => (intsD ds).bind fun ns => match ns with
    | [] => none
    | a :: l => some (.ro (.int (maxI a l)))
  | _ => none
def D.minl : List D → Option C
  | [.lst ds] => (intsD ds).bind fun ns => match ns with
    | [] => none
    | a :: l => some (.ro (.int (minI a l)))
  | _ => none
theorem s_suml {K : KW} : FunS K (rSum K) D.suml := by
  intro N H vs ds c Q r e k
  unfold D.suml at e
  split at e
  · simp only [Option.map_eq_some_iff] at e
    obtain ⟨ns, e1, rfl⟩ := e
    cases r with
    | cons rx r =>
      cases r
      obtain ⟨a, vs, rfl, h1, r1⟩ := rx.lst
      rw [intsD_eq e1] at r1
      rw [repL_int r1] at h1
      exact ⟨_, _, rfl, SqL.of h1, ret_int k⟩
  · cases e
theorem s_maxl {K : KW} : FunS K (rMax K) D.maxl := by
  intro N H vs ds c Q r e k
  unfold D.maxl at e
  split at e
  · simp only [Option.bind_eq_some_iff] at e
    obtain ⟨ns, e1, e2⟩ := e
    cases r with
    | cons rx r =>
      cases r
      obtain ⟨a, vs, rfl, h1, r1⟩ := rx.lst
      rw [intsD_eq e1] at r1
      rw [repL_int r1] at h1
      cases ns with
      | nil => cases e2
      | cons b l =>
        cases e2
        refine ⟨_, _, rfl, SqL.of h1, by simp, fun m hm hy => ?_⟩
        obtain ⟨q1, q2, q3⟩ := maxI_ok b l
        have hb := hy b (by simp)
        have : m = maxI b l := by
          have g1 : maxI b l ≤ m := by
            rcases q1 with q1 | q1
            · rw [q1]; exact hb
            · exact hy _ (List.mem_cons_of_mem _ q1)
          have g2 : m ≤ maxI b l := by
            rcases List.mem_cons.mp hm with rfl | hm
            · exact q2
            · exact q3 m hm
          omega
        subst this
        exact ret_int k
  · cases e
theorem s_minl {K : KW} : FunS K (rMin K) D.minl := by
  intro N H vs ds c Q r e k
  unfold D.minl at e
  split at e
  · simp only [Option.bind_eq_some_iff] at e
    obtain ⟨ns, e1, e2⟩ := e
    cases r with
    | cons rx r =>
      cases r
      obtain ⟨a, vs, rfl, h1, r1⟩ := rx.lst
      rw [intsD_eq e1] at r1
      rw [repL_int r1] at h1
      cases ns with
      | nil => cases e2
      | cons b l =>
        cases e2
        refine ⟨_, _, rfl, SqL.of h1, by simp, fun m hm hy => ?_⟩
        obtain ⟨q1, q2, q3⟩ := minI_ok b l
        have hb := hy b (by simp)
        have : m = minI b l := by
          have g1 : m ≤ minI b l := by
            rcases q1 with q1 | q1
            · rw [q1]; exact hb
            · exact hy _ (List.mem_cons_of_mem _ q1)
          have g2 : minI b l ≤ m := by
            rcases List.mem_cons.mp hm with rfl | hm
            · exact q2
            · exact q3 m hm
          omega
        subst this
        exact ret_int k
  · cases e
/-! dicts -/
def pairsD : List D → Option (List (Key × D))
  | [] => some []
  | .tup [k, v] :: ds => (D.key k).bind fun kk => (pairsD ds).map fun r => (kk, v) :: r
  | _ => none
def mergeD (ds more : List (Key × D)) : List (Key × D) := more.foldl (fun acc kv => putD acc kv.1 kv.2) ds
theorem RepK.merge {K : KW} {N : Addr → Prop} {H : Hp} : ∀ {vs : List (Key × V)} {ds : List (Key × D)}, RepK K N H vs ds → ∀ {us : List (Key × V)} {es : List (Key × D)}, RepK K N H us es → RepK K N H (mergeK us vs) (mergeD es ds)
  | _, _, .nil, _, _, h => h
  | _, _, .cons (k := kk) r1 r2, _, _, h => RepK.merge r2 (RepK.put kk r1 h)
theorem pairs_rep {K : KW} {N : Addr → Prop} {H : Hp} : ∀ {ds : List D} {ps : List (Key × D)} {vs : List V}, pairsD ds = some ps → RepL K N H vs ds → ∃ (as : List Addr) (kvs : List (Key × V)), vs = as.map V.ref ∧ Paired (fun p kv => SqT K H p [kV kv.1, kv.2]) as kvs ∧ RepK K N H kvs ps
  | [], ps, _, e, h => by cases e; cases h; exact ⟨[], [], rfl, .nil, .nil⟩
  | d :: ds, ps, _, e, h => by
    unfold pairsD at e
    split at e
    · rename_i q; cases q
    · rename_i k v ds' q
      cases q
      simp only [Option.bind_eq_some_iff, Option.map_eq_some_iff] at e
      obtain ⟨kk, e1, r, e2, rfl⟩ := e
      cases h with
      | cons rx h =>
        obtain ⟨as, kvs, rfl, hp, hr⟩ := pairs_rep e2 h
        cases rx with
        | @tup a us _ hq hl =>
          cases hl with
          | cons r1 hl =>
            cases hl with
            | cons r2 hl =>
              cases hl
              have := key_rep r1.x e1
              subst this
              exact ⟨a :: as, (kk, _) :: kvs, rfl, .cons hq.t hp, .cons r2 hr⟩
    · cases e
def D.toDict : List D → Option C
  | [.lst ds] => (pairsD ds).map fun ps => .own (.dct (mergeD [] ps))
  | [.dct ps] => some (.own (.dct ps))
  | [.fdc ps] => some (.own (.dct ps))
  | _ => none
theorem new_keepK {K : KW} {N : Addr → Prop} {H : Hp} {p : Addr} {o : HO} (hp : H p = none) {vs : List (Key × V)} {ds : List (Key × D)} (r : RepK K N H vs ds) : RepK K (fun b => (N b ∨ H b = none) ∧ b ≠ p) (upd H p o) vs ds :=
  r.keep (Keeps.all (Same.new hp)) fun b n s => ⟨.inl n, fun e => by rw [e, hp] at s; cases s⟩
theorem ret_dct {K : KW} {N : Addr → Prop} {H : Hp} {Q : VK} {vs : List (Key × V)} {ds : List (Key × D)} {p : Addr} (hp : H p = none) (r : RepK K N H vs ds) (k : ∀ v H', Same H H' → Ret K N H H' v (.own (.dct ds)) → Q v H') : Q (.ref p) (upd H p (.dK vs)) :=
  k _ _ (Same.new hp) ⟨p, rfl, hp, vs, upd_same, new_keepK hp r⟩
def rToDict (X : Cx) : List V → Hp → VK → Prop := fun xs H Q => (∃ (a : Addr) (ps : List Addr) (kvs : List (Key × V)), xs = [.ref a] ∧ SqL X.K H a (ps.map V.ref) ∧ Paired (fun p kv => SqT X.K H p [kV kv.1, kv.2]) ps kvs ∧ ∀ p, H p = none → Q (.ref p) (upd H p (.dK (mergeK [] kvs)))) ∨
  ∃ (a : Addr) (kvs : List (Key × V)), xs = [.ref a] ∧ Rd H a (.dK kvs) ∧ ∀ p, H p = none → Q (.ref p) (upd H p (.dK kvs))
theorem s_toDict {X : Cx} : FunS X.kw (rToDict X) D.toDict := by
  intro N H vs ds c Q r e k
  unfold D.toDict at e
  split at e
  · simp only [Option.map_eq_some_iff] at e
    obtain ⟨ps, e1, rfl⟩ := e
    cases r with
    | cons rx r =>
      cases r
      obtain ⟨a, vs, rfl, h1, r1⟩ := rx.lst
      obtain ⟨as, kvs, rfl, hp, hr⟩ := pairs_rep e1 r1
      exact .inl ⟨_, _, _, rfl, SqL.of h1, hp, fun p h0 => ret_dct h0 (RepK.merge hr .nil) k⟩
  · rename_i ps
    cases e
    cases r with
    | cons rx r =>
      cases r
      obtain ⟨a, vs, rfl, h1, r1⟩ := RepX.asD rx (ds := ps) rfl
      exact .inr ⟨_, _, rfl, h1, fun p h0 => ret_dct h0 r1 k⟩
  · rename_i ps
    cases e
    cases r with
    | cons rx r =>
      cases r
      obtain ⟨a, vs, rfl, h1, r1⟩ := RepX.asD rx (ds := ps) rfl
      exact .inr ⟨_, _, rfl, h1, fun p h0 => ret_dct h0 r1 k⟩
  · cases e
section
variable {X : Cx} {F : Fr} {W : List Nat} {e a b : Expr} {pos : Pos} {p pa pb : P1} {ps : PAs}
theorem de_suml {pp : Pos} (hK : F.K = X.kw) (hc : X.calm = true) (hg : Gl X "sum") (hm : X.mg "sum" = none) (ha : PA X [e] (tDA F ps)) (h1 : starEach [e] X.env = (false, eval e X.env) :: starEach [] X.env := by rfl) (h2 : (backTo pos (starEach [] X.env)).any (·.1) = false := by rfl) : PE X (.Call (.Name "sum" pp) [e] [] pos) (tD F (pFun D.suml ps)) :=
  PE.imp (pe_callB (cr_sum hc) hg hm boot_sum ha (he := h1) (hpl := h2)) fun σ H Q hw => by rw [← kK hK]; exact fun_of s_suml hw
theorem de_maxl {pp : Pos} (hK : F.K = X.kw) (hc : X.calm = true) (hg : Gl X "max") (hm : X.mg "max" = none) (ha : PA X [e] (tDA F ps)) (h1 : starEach [e] X.env = (false, eval e X.env) :: starEach [] X.env := by rfl) (h2 : (backTo pos (starEach [] X.env)).any (·.1) = false := by rfl) : PE X (.Call (.Name "max" pp) [e] [] pos) (tD F (pFun D.maxl ps)) :=
  PE.imp (pe_callB (cr_max hc) hg hm boot_max ha (he := h1) (hpl := h2)) fun σ H Q hw => by rw [← kK hK]; exact fun_of s_maxl hw
theorem de_minl {pp : Pos} (hK : F.K = X.kw) (hc : X.calm = true) (hg : Gl X "min") (hm : X.mg "min" = none) (ha : PA X [e] (tDA F ps)) (h1 : starEach [e] X.env = (false, eval e X.env) :: starEach [] X.env := by rfl) (h2 : (backTo pos (starEach [] X.env)).any (·.1) = false := by rfl) : PE X (.Call (.Name "min" pp) [e] [] pos) (tD F (pFun D.minl ps)) :=
  PE.imp (pe_callB (cr_min hc) hg hm boot_min ha (he := h1) (hpl := h2)) fun σ H Q hw => by rw [← kK hK]; exact fun_of s_minl hw
theorem cr_toDict (hc : X.calm = true) : CallR X (.type "dict") (rToDict X) := fun pins s σ H vs us Q I r h => h.elim (fun h => call_dictP hc pins s σ H vs us Q I r h) fun h => call_dictD pins s σ H vs us Q I r h
theorem de_toDict {pp : Pos} (hK : F.K = X.kw) (hc : X.calm = true) (hg : Gl X "dict") (hm : X.mg "dict" = none) (ha : PA X [e] (tDA F ps)) (h1 : starEach [e] X.env = (false, eval e X.env) :: starEach [] X.env := by rfl) (h2 : (backTo pos (starEach [] X.env)).any (·.1) = false := by rfl) : PE X (.Call (.Name "dict" pp) [e] [] pos) (tD F (pFun D.toDict ps)) :=
  PE.imp (pe_callTy (cr_toDict hc) hg hm boot_dict ha (he := h1) (hpl := h2)) fun σ H Q hw => fun_of (r := rToDict X) (by rw [hK]; exact s_toDict) hw
end
end Dn

namespace Dn
open PySem PySem.Spec PyProof.Rows L2
/-! d.items() of a frozen dict -/
def iItemsD (p : P1) : I1 := fun ρ => (p ρ).bind fun a => match a.1 with
  | .ro (.fdc ds) => some (ds.map fun q => .wtp [keyD q.1, q.2], a.2)
  | _ => none
theorem kV_rep {K : KW} {N : Addr → Prop} {H : Hp} (kk : Key) : Rep K N H (kV kk) (keyD kk) := by
  cases kk with
  | inl n => exact .int n
  | inr z => exact .str z
section
variable {X : Cx} {F : Fr} {W : List Nat} {e a b : Expr} {pos : Pos} {p pa pb : P1} {ps : PAs}
theorem di_itemsD {elts : List Expr} {kk : Nat} {tpos : Pos} {e : Expr} {p : P1} {apos cpos : Pos} (he : PE X e (tD F p)) (hbase : attributeBase e "items" X.env (eval e X.env) = eval e X.env := by rfl) (hline : (apos.endLine == cpos.line) = true := by rfl) : PI X (.Tuple elts kk tpos) (.Call (.Attribute e "items" apos) [] [] cpos) (tDIs F (iItemsD p)) := PI.imp (pi_items he hbase hline) fun σ H R hw => by
  obtain ⟨ρ, τ, ds, ρ', I, e1, k⟩ := hw
  simp only [iItemsD, Option.bind_eq_some_iff] at e1
  obtain ⟨⟨c, ρ1⟩, e1, e2⟩ := e1
  cases c with
  | ro dd =>
    cases dd with
    | fdc qs =>
      cases e2
      refine ⟨ρ, τ, _, ρ1, I, e1, fun v H1 ⟨ow, J⟩ => ?_⟩
      cases J.tmp.1 with
      | @fdc a ob kvs _ hn hd r =>
        refine ⟨a, ob, kvs, rfl, hd, ?_⟩
        have hn0 := hn
        obtain ⟨h1, h2, h3⟩ := hn
        have hc : ∀ u, F.H_0 a = some u → u = .frz ob (.dK kvs) := fun u hu => by
          have := J.keep a u hu h2
          rw [hd] at this; cases this; rfl
        have len : (qs.map fun q => D.wtp [keyD q.1, q.2]).length = kvs.length := by rw [List.length_map, ← r.length]
        have nt : NoV [(V.ref a, C.ro (.fdc qs))] := fun t h j z => by
          have : t = (V.ref a, C.ro (.fdc qs)) := by simpa using h
          subst this; cases z
        refine k (F.with a (.frz ob (.dK kvs))) (Iti a ob kvs) [(.ref a, .ro (.fdc qs))] H1 (subF_with h2 h3 hc) ⟨fun i σ2 H2 ρ2 us τ2 hi ⟨ow2, J2⟩ => ⟨J2.at_with h2, by omega⟩, fun i σ2 H2 ρ2 us τ2 hi ⟨ow2, J2⟩ => ⟨J2.at_with h2, by omega⟩, fun i σ2 H2 ρ2 us τ2 x H3 hi ⟨ow2, J2⟩ y => ?_⟩ nt ⟨_, J.into hn0 hd⟩
        obtain ⟨T, kk, w, hk, rfl, hT, rfl⟩ := y
        have deep := Tmps.deep (us := us) (τ := τ2) (t := (.ref a, .ro (.fdc qs))) J2.tmp
        cases deep with
        | @fdc _ ob2 kvs2 _ hn2 hd2 r2 =>
          rw [J2.at_with h2] at hd2; cases hd2
          have hx : (kvs.map (·.2))[i]? = some w := by rw [List.getElem?_map, hk]; rfl
          obtain ⟨dv, hdv, hr⟩ := r2.vals.get hx
          have keys : kvs.map (·.1) = qs.map (·.1) := r2.keys
          have hq : (qs.map (·.1))[i]? = some kk := by rw [← keys, List.getElem?_map, hk]; rfl
          have hdt : (qs.map fun q => D.wtp [keyD q.1, q.2])[i]? = some (.wtp [keyD kk, dv]) := by
            rw [List.getElem?_map] at hq hdv ⊢
            cases hqi : qs[i]? with
            | none => rw [hqi] at hq; cases hq
            | some q => rw [hqi] at hq hdv; cases hq; cases hdv; rfl
          obtain ⟨ow5, I5, _⟩ := J2.ret (H' := upd H2 T (.tup [kV kk, w])) (v := .ref T) (c := .ro (.wtp [keyD kk, dv])) (Same.new hT) (.wtp (SqT.of upd_same) ((new_keep hT (.cons (kV_rep kk) (.cons hr .nil))).mono fun b h _ => h.1))
          exact ⟨_, hdt, ow5, I5⟩
    | _ => cases e2
  | _ => cases e2
end
end Dn

namespace Dn
open PySem PySem.Spec PyProof.Rows L2
/-! d[k] op= v; d.pop(k) -/
section
variable {X : Cx} {F : Fr} {W : List Nat} {e a b : Expr} {pos : Pos} {p pa pb : P1} {ps : PAs}
theorem get_dictP (hu : X.A.units + 1 < cLine) : PGet X (fun x y H Q => ∃ a v, x = .ref a ∧ DGet H a y (some v) ∧ Q v H) := by
  intro pins s σ H x y v u Q I rx ry h
  obtain ⟨a, w, rfl, g, q⟩ := h
  cases rx
  exact d_getItem hu I g ry fun w' s' I' rw' => ⟨w, H, I', rw', q⟩
def dropD (ds : List (Key × D)) (k : Key) : List (Key × D) := ds.filter fun kv => decide (kv.1 ≠ k)
theorem RepK.drop {K : KW} {N : Addr → Prop} {H : Hp} (k : Key) : ∀ {vs : List (Key × V)} {ds : List (Key × D)}, RepK K N H vs ds → RepK K N H (dropK vs k) (dropD ds k)
  | _, _, .nil => .nil
  | (k1, v) :: vs, (_, d) :: ds, .cons r1 r2 => by
    unfold dropK dropD
    rw [List.filter_cons, List.filter_cons]
    by_cases h : k1 = k
    · simp only [h]; simpa [dropK, dropD] using RepK.drop k r2
    · have : decide (k1 ≠ k) = true := by simp [h]
      simp only [this, if_true]; exact .cons r1 (RepK.drop k r2)
/-- op= at a key -/
def akC (f : D → D → Option C) (p : P1) (ρ : Dn.Env) (j : Nat) (i : C) (d : D) : Option Out := match i, d with
  | .ro ky, .dct l => (D.key ky).bind fun kk => (getK l kk).bind fun x => (p ρ).bind fun b => (dat b.2 b.1).bind fun y => (f x y).bind fun c => (ioData b.2 j).bind fun d2 => match c, d2.2 with
    | .ro z, .dct l2 => if decide (l2.length < sizeLine) = true then some (.nx (b.2.set j (some (ioCell d2.1 (.dct (putD l2 kk z)))))) else none
    | _, _ => none
  | _, _ => none
def sAugK (f : D → D → Option C) (j : Nat) (pi p : P1) : S1 := fun ρ => (ioData ρ j).bind fun _ => (pi ρ).bind fun i => (ioData i.2 j).bind fun d => akC f p i.2 j i.1 d.2
theorem ds_augK {j : Nat} {oe ie : Expr} {tpos : Pos} {pi : P1} {op : Operator} {r : R2} {f : D → D → Option C} (hu : X.A.units + 64 < cLine) (hK : F.K = X.kw) (hop : OpR X (inplaceOp op) r) (hf : Op2S F.K r f) (ho : PE X oe (tVar j)) (hi : PE X ie (tD F pi)) (he : PE X e (tD F p))
    (hsub : ∀ ov iv new, augStore ie ov iv new = (do holding [new, ov, iv] (setItem ov iv new); release [new, ov, iv] []; pure .next) := by intros; rfl) : PS X (.AugAssign (.Subscript oe ie tpos) op e pos) (tDS F [] (sAugK f j pi p)) := PS.imp (ps_augS ho hi (get_dictP (by omega)) he hop (set_dict (by omega)) hsub) fun D σ H hw => by
  obtain ⟨ρ, τ, o, I, nv, e1, k⟩ := hw
  simp only [sAugK, Option.bind_eq_some_iff] at e1
  obtain ⟨⟨b0, d0⟩, e0, ⟨ci, ρ1⟩, e1, ⟨bb, d⟩, e2, e3⟩ := e1
  obtain ⟨a, ha⟩ : ∃ a, σ[j]? = some (some (.ref a)) := by
    obtain ⟨ow0, I0⟩ := I
    obtain ⟨a, ha, _⟩ := slot_ref I0 (ioData_get e0)
    exact ⟨a, ha⟩
  refine ⟨.ref a, ha, ρ, τ, ci, ρ1, I, e1, fun iv H1 ⟨ow1, I1⟩ => ?_⟩
  unfold akC at e3
  dsimp only at e3
  split at e3
  · rename_i ky l
    simp only [Option.bind_eq_some_iff] at e3
    obtain ⟨kk, e30, x, e3, ⟨cy, ρ2⟩, e4, y, e5, c, e6, ⟨b2, d2⟩, e7, e8⟩ := e3
    have hk : iv = kV kk := key_rep (Rep.x I1.tmp.1) e30
    subst hk
    have I2 := I1.pop
    generalize drop _ _ = ow2 at I2
    obtain ⟨a', ha', ⟨ws, hws, rl⟩, hn⟩ := slot_ref I2 (ioData_get e2)
    rw [ha] at ha'; cases ha'
    rcases RepK.get kk rl with ⟨h1, _⟩ | ⟨w, x', h1, h2, hw2⟩
    · rw [h1] at e3; cases e3
    · rw [h1] at e3; cases e3
      refine ⟨a, w, rfl, by rw [← h2]; exact DGet.k hws, ?_⟩
      refine ⟨ρ1, _, cy, ρ2, ⟨ow2, I2.push hw2⟩, e4, fun v H2 ⟨ow3, I3⟩ => ?_⟩
      obtain ⟨ow4, I4, rx⟩ := RSo.take (vs := [w, v]) (cs := [.ro x, cy]) rfl I3
      have rr := rx [x, y] (dats2 rfl e5)
      cases rr with
      | cons r1 rr =>
        cases rr with
        | cons r2 _ =>
          refine hf _ _ _ _ _ _ _ _ r1 r2 e6 fun v' H' g rt => ?_
          obtain ⟨ow5, I5, _⟩ := I4.ret g rt
          dsimp only at e8
          split at e8
          · split at e8
            · rename_i hz
              cases e8
              have rv := RepC.pop I5 (fun _ z => by cases z)
              have I6 := I5.pop
              generalize drop _ (.inr τ.length) = ow6 at I6 rv
              obtain ⟨a', ha', ⟨ws2, hws2, rl2⟩, hn2⟩ := slot_ref I6 (ioData_get e7)
              rw [ha] at ha'; cases ha'
              refine ⟨a, _, rfl, .inl ⟨ws2, kk, hws2, rfl, by rw [rl2.length]; exact of_decide_eq_true hz, rfl⟩, ?_⟩
              exact k σ _ (fun _ _ => rfl) (I6.setDct (ioData_get e7) ha hws2 (RepK.put kk rv rl2) hn2)
            · cases e8
          · cases e8
  · cases e3
/-- op= in a list or a dict -/
def sAugX (f : D → D → Option C) (j : Nat) (pi p : P1) : S1 := fun ρ => (ioData ρ j).bind fun d0 => match d0.2 with
  | .dct _ => sAugK f j pi p ρ
  | _ => sAugIx f j pi p ρ
theorem augX_or {f : D → D → Option C} {j : Nat} {pi : P1} {ρ : Dn.Env} {r : Out} (h : sAugX f j pi p ρ = some r) : sAugK f j pi p ρ = some r ∨ sAugIx f j pi p ρ = some r := by
  unfold sAugX at h
  simp only [Option.bind_eq_some_iff] at h
  obtain ⟨d0, _, h⟩ := h
  split at h
  · exact .inl h
  · exact .inr h
theorem ds_augX {j : Nat} {oe ie : Expr} {tpos : Pos} {pi : P1} {op : Operator} {r : R2} {f : D → D → Option C} (hu : X.A.units + 64 < cLine) (hK : F.K = X.kw) (hop : OpR X (inplaceOp op) r) (hf : Op2S F.K r f) (ho : PE X oe (tVar j)) (hi : PE X ie (tD F pi)) (he : PE X e (tD F p))
    (hsub : ∀ ov iv new, augStore ie ov iv new = (do holding [new, ov, iv] (setItem ov iv new); release [new, ov, iv] []; pure .next) := by intros; rfl) : PS X (.AugAssign (.Subscript oe ie tpos) op e pos) (tDS F [] (sAugX f j pi p)) :=
  PS.imp (PS.or (ds_augK hu hK hop hf ho hi he hsub) (ds_augIx hK hop hf ho hi he hsub)) fun D σ H hw => tDS_or (fun ρ r h => augX_or h) hw
/-- d.pop(k) -/
def dpC (ρ : Dn.Env) (j : Nat) (d : Bool × D) (i : C) : Option (C × Dn.Env) := match i, d.2 with
  | .ro ky, .dct l => (D.key ky).bind fun kk => (getK l kk).map fun x => (.ro x, ρ.set j (some (ioCell d.1 (.dct (dropD l kk)))))
  | _, _ => none
def pPopD (j : Nat) (p : P1) : P1 := fun ρ => (ioData ρ j).bind fun d0 => match d0.2 with
  | .dct _ => (p ρ).bind fun i => (ioData i.2 j).bind fun d => dpC i.2 j d i.1
  | _ => none
theorem de_popD {j : Nat} {o ie : Expr} {apos cpos : Pos} (hK : F.K = X.kw) (ho : PE X o (tVar j)) (hi : PE X ie (tD F p))
    (hbase : attributeBase o "pop" X.env (eval o X.env) = eval o X.env := by rfl)
    (hfew : ((backTo cpos (starEach [ie] X.env)).all (fun x => !x.1) && (backToKw cpos (keywordEach [] X.env)).all (fun x => x.1.isSome)
      && decide (([ie] : List Expr).length + ([] : List Keyword).length + (if ([] : List Keyword).isEmpty then 0 else 1) < 30)) = true := by rfl)
    (hline : (apos.endLine == cpos.line) = true := by rfl) (htrees : backTo cpos (starEach [ie] X.env) = [(false, eval ie X.env)] := by rfl) :
    PE X (.Call (.Attribute o "pop" apos) [ie] [] cpos) (tD F (pPopD j p)) := PE.imp (pe_dpop1 ho hi ⟨hbase, hfew, hline, htrees⟩) fun σ H Q hw => by
  obtain ⟨ρ, τ, c, ρ', I, e1, k⟩ := hw
  simp only [pPopD, Option.bind_eq_some_iff] at e1
  obtain ⟨⟨b0, d0⟩, e0, e1⟩ := e1
  dsimp only at e1
  split at e1
  · rename_i l0
    simp only [Option.bind_eq_some_iff] at e1
    obtain ⟨⟨ci, ρ1⟩, e1, ⟨bb, d⟩, e2, e3⟩ := e1
    obtain ⟨a, ha, hD⟩ : ∃ a, σ[j]? = some (some (.ref a)) ∧ IsD H a := by
      obtain ⟨ow0, I0⟩ := I
      obtain ⟨a, ha, ⟨ws, hws, _⟩, _⟩ := slot_ref I0 (ioData_get e0)
      exact ⟨a, ha, .inl ⟨ws, .inl hws⟩⟩
    refine ⟨.ref a, ha, a, rfl, hD, ρ, τ, ci, ρ1, I, e1, fun iv H1 ⟨ow1, I1⟩ => ?_⟩
    unfold dpC at e3
    dsimp only at e3
    split at e3
    · rename_i ky l
      simp only [Option.bind_eq_some_iff, Option.map_eq_some_iff] at e3
      obtain ⟨kk, e30, x, e31, e32⟩ := e3
      cases e32
      have hk : iv = kV kk := key_rep (Rep.x I1.tmp.1) e30
      subst hk
      have I2 := I1.pop
      generalize drop _ _ = ow2 at I2
      obtain ⟨a', ha', ⟨ws, hws, rl⟩, hn⟩ := slot_ref I2 (ioData_get e2)
      rw [ha] at ha'; cases ha'
      rcases RepK.get kk rl with ⟨h1, _⟩ | ⟨w, x', h1, h2, hw2⟩
      · rw [h1] at e31; cases e31
      · rw [h1] at e31; cases e31
        refine ⟨ws, kk, w, hws, rfl, h2, ?_⟩
        have kp : Keeps (F.N ow2) H1 (upd H1 a (.dK (dropK ws kk))) := fun b u e hb => by
          have : b ≠ a := by
            rintro rfl
            rcases hb with hb | ⟨xs, rfl⟩ | ⟨ob, u, rfl⟩
            · exact hn hb
            · rw [hws] at e; cases e
            · rw [hws] at e; cases e
          rw [upd_ne this]; exact e
        obtain ⟨ow', J⟩ := I2.callIo (v := w) (c := .ro x) (M := F.N ow2) (d' := .dct (dropD _ kk)) (ioData_get e2) ha (fun b o e hb => by rw [upd_ne hb]; exact e) (fun b hb => ⟨.inl hb, fun z => hn (z ▸ hb)⟩) ⟨_, upd_same, (RepK.drop kk rl).keep kp fun _ h _ => h⟩ (hw2.keep kp fun _ h _ => h)
        exact k w _ ⟨ow', J⟩
    · cases e3
  · cases e1
theorem ds_iaddX {j : Nat} {oe ie : Expr} {tpos : Pos} {pi : P1} (hu : X.A.units + 64 < cLine) (hK : F.K = X.kw) (ho : PE X oe (tVar j)) (hi : PE X ie (tD F pi)) (he : PE X e (tD F p))
    (hsub : ∀ ov iv new, augStore ie ov iv new = (do holding [new, ov, iv] (setItem ov iv new); release [new, ov, iv] []; pure .next) := by intros; rfl) : PS X (.AugAssign (.Subscript oe ie tpos) .Add e pos) (tDS F [] (sAugX D.iadd j pi p)) := ds_augX hu hK (iop_add.or iop_add_str) s_iadd ho hi he hsub
theorem ds_isubX {j : Nat} {oe ie : Expr} {tpos : Pos} {pi : P1} (hu : X.A.units + 64 < cLine) (hK : F.K = X.kw) (ho : PE X oe (tVar j)) (hi : PE X ie (tD F pi)) (he : PE X e (tD F p))
    (hsub : ∀ ov iv new, augStore ie ov iv new = (do holding [new, ov, iv] (setItem ov iv new); release [new, ov, iv] []; pure .next) := by intros; rfl) : PS X (.AugAssign (.Subscript oe ie tpos) .Sub e pos) (tDS F [] (sAugX D.sub j pi p)) := ds_augX hu hK iop_sub s_sub ho hi he hsub
end
end Dn

namespace Dn
open PySem PySem.Spec PyProof.Rows L2
/-! t.index(x): a tuple of texts -/
section
variable {X : Cx} {F : Fr} {W : List Nat} {e a b : Expr} {pos : Pos} {p pa pb : P1} {ps : PAs}
def tyTup (K : PySem.W.Frag) (x : V) (H : Hp) : Prop := ∃ p vs, x = .ref p ∧ SqP K H p vs
theorem ty_tup : TyOk X "tuple" (tyTup X.K) := by
  intro pins σ H s x v I r ty
  obtain ⟨p, vs, rfl, hq⟩ := ty
  cases r
  rcases hq with ⟨o, h0, h⟩ | ⟨o, its, n, h1, h2, h0, _⟩
  · obtain ⟨g1, _, its, _, ⟨o', g2, g3, _⟩⟩ := I.hok _ _ h
    rw [g1] at g2; cases g2
    exact ⟨⟨o, g1, g3⟩, fun b e => by cases e; exact ⟨o, g1, h0⟩⟩
  · have g1 := I.kIn p o h1
    exact ⟨⟨o, g1, h2⟩, fun b e => by cases e; exact ⟨o, g1, h0⟩⟩
def tixD (ds : List D) (z : Str) : Option Nat := (strsD ds).bind fun ss => ss.findIdx? fun s => decide (s = z)
def pTix (pa pb : P1) : P1 := fun ρ => (pa ρ).bind fun a => match a.1 with
  | .ro (.tup ds) => (pb a.2).bind fun b => match b.1 with
    | .ro (.str z) => (tixD ds z).map fun j => (.ro (.int (j : Nat)), b.2)
    | _ => none
  | _ => none
theorem de_tix {o ie : Expr} {apos cpos : Pos} (hK : F.K = X.kw) (ho : PE X o (tD F pa)) (hi : PE X ie (tD F pb))
    (hbase : attributeBase o "index" X.env (eval o X.env) = eval o X.env := by rfl)
    (hfew : ((backTo cpos (starEach [ie] X.env)).all (fun x => !x.1) && (backToKw cpos (keywordEach [] X.env)).all (fun x => x.1.isSome)
      && decide (([ie] : List Expr).length + ([] : List Keyword).length + (if ([] : List Keyword).isEmpty then 0 else 1) < 30)) = true := by rfl)
    (hline : (apos.endLine == cpos.line) = true := by rfl) (hs : starEach [ie] X.env = (false, eval ie X.env) :: starEach [] X.env := by rfl) (hplain : (backTo cpos (starEach [] X.env)).any (·.1) = false := by rfl) :
    PE X (.Call (.Attribute o "index" apos) [ie] [] cpos) (tD F (pTix pa pb)) := PE.imp (pe_mG ty_tup PySem.F.plainAttrs_tuple PySem.F.slot_tuple_index PySem.F.type_tuple_index mt_tup_index ho (da_cons hi da_nil hs) hbase hfew hline hs hplain) fun σ H Q hw => by
  obtain ⟨ρ, τ, c, ρ', I, e1, k⟩ := hw
  simp only [pTix, Option.bind_eq_some_iff] at e1
  obtain ⟨⟨c1, ρ1⟩, h1, e2⟩ := e1
  dsimp only at e2
  split at e2
  · rename_i ds
    simp only [Option.bind_eq_some_iff] at e2
    obtain ⟨⟨c2, ρ2⟩, h2, e3⟩ := e2
    dsimp only at e3
    split at e3
    · rename_i z
      simp only [Option.map_eq_some_iff] at e3
      obtain ⟨j, h3, e4⟩ := e3
      cases e4
      refine ⟨ρ, τ, _, ρ1, I, h1, fun v H1 ⟨ow, I1⟩ => ?_⟩
      obtain ⟨p, vs, rfl, hq, _⟩ := (RepX.tupP (Rep.x I1.tmp.1))
      refine ⟨⟨p, vs, rfl, by rw [← kK hK]; exact hq⟩, ρ1, _, [.ro (.str z)], ρ', ⟨ow, I1⟩, by simp [pCons, pNil, h2], fun us H2 hl ⟨ow2, I2⟩ => ?_⟩
      match us, hl with
      | [u], _ =>
        have hu : u = .str z := by have := I2.tmp.1; cases this; rfl
        subst hu
        have I3 := I2.pop
        obtain ⟨p', ws, e5, hq2, r2⟩ := (RepX.tup (Rep.x I3.tmp.1))
        cases e5
        unfold tixD at h3
        simp only [Option.bind_eq_some_iff] at h3
        obtain ⟨ss, h4, h5⟩ := h3
        rw [strsD_eq h4] at r2
        rw [repL_str r2] at hq2
        obtain ⟨g1, g2, g3⟩ := List.findIdx?_eq_some_iff_getElem.mp h5
        refine ⟨p, ss, z, j, rfl, rfl, by rw [← kK hK]; exact hq2, ?_, fun m hm z' => ?_, k _ H2 ⟨_, (I3.pop).push (.int _)⟩⟩
        · rw [List.getElem?_eq_getElem g1]; exact congrArg some (of_decide_eq_true g2)
        · have := g3 m hm
          have hm' : m < ss.length := by omega
          rw [List.getElem?_eq_getElem hm'] at z'
          cases z'
          simp at this
    · cases e3
  · cases e2
end
end Dn

namespace Dn
open PySem PySem.Spec PyProof.Rows L2
/-! l.remove(x): texts -/
def eqz (z : Str) (v : Value) : Bool := match v with
  | .str y _ => y.cps.toList == z.cps.toList
  | _ => false
theorem eqz_gives {z : Str} {t : Tok} : ∀ {us : List Value} {ss : List Str}, Vals (ss.map V.str) us → ∀ y ∈ us, MeetsSeq.EqGives y (.str z t) (eqz z y)
  | _, [], h, y, hy => by cases h; cases hy
  | _, s :: ss, h, y, hy => by
    cases h with
    | cons r h =>
      obtain ⟨t', rfl⟩ := r
      rcases List.mem_cons.mp hy with rfl | hy
      · exact SeqRoads2.EqGives.str s z t' t
      · exact eqz_gives h y hy
theorem eqz_eq {z y : Str} {t : Tok} : eqz z (.str y t) = decide (y = z) := by
  show (y.cps.toList == z.cps.toList) = _
  rw [Bool.eq_iff_iff]
  simp only [beq_iff_eq, decide_eq_true_eq]
  constructor
  · intro h
    cases y; cases z
    simp only [Str.mk.injEq]
    exact Array.toList_inj.mp h
  · rintro rfl; rfl
def rRemS : V → List V → Hp → VK → Prop := fun x xs H Q => ∃ (l : Addr) (ss : List Str) (z : Str) (j : Nat), x = .ref l ∧ xs = [.str z] ∧ H l = some (.lst (ss.map V.str)) ∧ ss[j]? = some z ∧ (∀ m : Nat, m < j → ss[m]? ≠ some z) ∧ Q .non (upd H l (.lst ((ss.eraseIdx j).map V.str)))
theorem erase_mapS : ∀ (l : List Str) (j : Nat), (l.map V.str).eraseIdx j = (l.eraseIdx j).map V.str
  | [], j => by simp
  | a :: r, 0 => by simp
  | a :: r, j + 1 => by
    have ih := erase_mapS r j
    simp [ih]
theorem mt_removeS {X : Cx} : MtM X "list.remove" rRemS := by
  intro pins s σ H x xs v us Q I rx rxs h
  obtain ⟨l, ss, z, j, rfl, rfl, hH, hj, hno, q⟩ := h
  cases rx
  obtain ⟨u, rfl, ru⟩ := rxs.one
  obtain ⟨t, rfl⟩ := ru
  obtain ⟨hz, its, n, r, hl, e⟩ := I.lstM hH
  rw [List.length_map] at hl hz
  have hjn : j < ss.length := (List.getElem?_eq_some_iff.mp hj).1
  have at' : ∀ (m : Nat) (hm : m < its.toArray.size), ∃ (hm' : m < ss.length) (t' : Tok), its.toArray[m] = Value.str ss[m] t' := fun m hm => by
    have hm' : m < ss.length := by rw [List.size_toArray] at hm; omega
    obtain ⟨w, hw, rw'⟩ := r.get (show (ss.map V.str)[m]? = some (.str ss[m]) by simp [hm'])
    obtain ⟨t', rfl⟩ := rw'
    obtain ⟨h1, h2⟩ := List.getElem?_eq_some_iff.mp hw
    exact ⟨hm', t', by simpa using h2⟩
  refine call_meets PySem.F.slot_list_remove ⟨_, e, rfl⟩ PySem.F.entry_list_remove (PySem.F.args_list_remove_2 _ _)
    (MeetsSeq.list_remove l its.toArray n (.str z t) (eqz z) (fun y hy => eqz_gives r y (by simpa using hy)) j (by rw [List.size_toArray]; omega) ?_ ?_ (by rw [List.size_toArray]; omega)) ⟨e, ?_⟩
  · obtain ⟨_, tj, e1⟩ := at' j (by rw [List.size_toArray]; omega)
    rw [e1, eqz_eq]
    rw [List.getElem?_eq_getElem hjn] at hj
    simpa using hj
  · intro m hm hmj
    obtain ⟨hm', tj, e1⟩ := at' m hm
    rw [e1, eqz_eq, decide_eq_false_iff_not]
    intro e2
    exact hno m hmj (by rw [List.getElem?_eq_getElem hm', e2])
  · have rr := r.eraseIdx j
    rw [erase_mapS] at rr
    refine ⟨.non, _, I.lset (its' := its.eraseIdx j) (t' := s.toks) hH e ?_ rr ?_, rfl, q⟩
    · show its.toArray.eraseIdxIfInBounds j = (its.eraseIdx j).toArray
      rw [List.eraseIdxIfInBounds_toArray]
    · rw [List.length_map]
      have := List.length_eraseIdx_le (l := ss) (i := j)
      omega
theorem repL_strs {K : KW} {N : Addr → Prop} {H : Hp} : ∀ ss : List Str, RepL K N H (ss.map V.str) (ss.map .str)
  | [] => .nil
  | s :: ss => .cons (.str s) (repL_strs ss)
def opRemove (l ds : List D) : Option (List D × D) := match ds with
  | [.str z] => (strsD l).bind fun ss => (ss.findIdx? fun s => decide (s = z)).map fun j => ((ss.eraseIdx j).map .str, .non)
  | _ => none
theorem s_remove {K : KW} : LMutS K rRemS opRemove := by
  intro N H a ws l vs ds l' t Q h rl rd e k
  unfold opRemove at e
  split at e
  · rename_i z
    simp only [Option.bind_eq_some_iff, Option.map_eq_some_iff] at e
    obtain ⟨ss, e1, j, e2, e3⟩ := e
    cases e3
    cases rd with
    | cons ry rd =>
      cases rd
      cases ry
      rw [strsD_eq e1] at rl
      have hw := repL_str rl
      subst hw
      obtain ⟨g1, g2, g3⟩ := List.findIdx?_eq_some_iff_getElem.mp e2
      refine ⟨a, ss, z, j, rfl, rfl, h, by rw [List.getElem?_eq_getElem g1]; exact congrArg some (of_decide_eq_true g2), fun m hm z' => ?_, ?_⟩
      · have := g3 m hm
        have hm' : m < ss.length := by omega
        rw [List.getElem?_eq_getElem hm'] at z'
        cases z'
        simp at this
      · refine k .non _ ?_ .non
        exact repL_strs _
  · cases e
end Dn

namespace Dn
open PySem PySem.Spec PyProof.Rows L2
/-! sorted(t): a tuple of texts -/
section
variable {X : Cx}
def rSortedT (K : KW) : List V → Hp → VK → Prop := fun vs H Q => ∃ (a : Addr) (ss : List Str), vs = [V.ref a] ∧ SqT K.K H a (ss.map V.str) ∧ ∀ p, H p = none → Q (.ref p) (upd H p (.lst ((ss.mergeSort fun x y => leK (.inr x) (.inr y)).map V.str)))
theorem cr_sortedT (hu : X.A.units + 64 < cLine) : CallR X (.builtin "sorted") (rSortedT X.kw) := by
  intro pins s σ H vs us Q I r h
  obtain ⟨a, ss, rfl, hs, q⟩ := h
  rw [Vals.ref1 r]
  obtain ⟨its, rv, ⟨o, ho, hc, n, hd⟩, z⟩ := I.tuple hs
  rw [List.length_map] at z
  refine Calls.call_function_entry kind_sorted plain_sorted entry_sorted (args_sorted1 _) ?_; unfold Builtin.«sorted»
  refine wpAny_bind (m := checkCount "sorted" 1 1 _) (wpAny_pure (wpAny_bind (wpAny_collect_seq (A := X.A.in1) a (.inr rfl) ho hc hd (fun h' hk => ?_) (by have := rv.length; rw [List.length_map] at this; rw [List.size_toArray, ← this]; exact z))))
  have ek : ((ss.map Sum.inr : List Key).map kV) = ss.map V.str := by rw [List.map_map]; rfl
  have vk : Vals ((ss.map Sum.inr : List Key).map kV) its.toArray.toList := by rw [ek]; simpa using rv
  have len : its.toArray.toList.length = ss.length := by rw [← vk.length]; simp
  refine wpAny_bind (wpAny_newList ?_ (by rw [len]; exact z))
  have hoL : (h'.push (seqObj "list" its.toArray.toList.toArray 0)).get? h'.objs.size = some (seqObj "list" its.toArray.toList.toArray 0) := Heap.get?_push_size _ rfl
  obtain ⟨ea, eb⟩ := each_keys (h := h'.push (seqObj "list" its.toArray.toList.toArray 0)) (a := h'.objs.size) vk
  have ok : oneKind (ss.map Sum.inr : List Key) = true := by simp [oneKind, isStrK]
  refine wpAny_bind (wpAny_holding (PySem.W.list_sort_data (s := { s with heap := h'.push (seqObj "list" its.toArray.toList.toArray 0) }) (enc := keyP) hoL ea eb (alike_keys ok) (PySem.W.Sortable.others fun k => by cases k <;> exact ⟨by simp [keyP], by simp [keyP]⟩) (by rw [List.length_map]; exact z) (fun b _ => ?_) fun out ho eo => ?_))
  · have d0 : (keyP b).depth = 0 := by cases b <;> simp [keyP, PyData.depth]
    have u1 : X.A.in1.units = X.A.units + 1 := by first | rfl | simp
    omega
  · obtain ⟨c, hcc⟩ := sortedHeap_at (vs := its.toArray.toList) (out := out.toArray) hoL
    have I2 : Inv X pins σ H { s with heap := h' } := I.kept (t' := s.toks) fun b o e => hk b o e
    have hn : H h'.objs.size = none := I2.hok.fresh (Nat.le_refl _)
    have old : ∀ b u, h'.get? b = some u → (sortedHeap (h'.push (seqObj "list" its.toArray.toList.toArray 0)) h'.objs.size its.toArray.toList out.toArray).get? b = some u := fun b u e => by
      have hlt := Heap.lt_size e
      rw [sortedHeap_old (Nat.ne_of_lt hlt) (by rw [size_push']; exact Nat.lt_succ_of_lt hlt)]
      exact Heap.get?_push_of_some _ e
    have sl : ((ss.mergeSort fun x y => leK (.inr x) (.inr y)).map V.str).length ≤ sizeLine := by
      rw [List.length_map, List.length_mergeSort]; exact z
    have em : ((ss.map Sum.inr : List Key).mergeSort leK).map kV = (ss.mergeSort fun x y => leK (.inr x) (.inr y)).map V.str := by
      rw [← List.map_mergeSort (r := fun x y : Str => leK (.inr x) (.inr y)) (s := leK) (f := Sum.inr) (fun _ _ _ _ => rfl), List.map_map]; rfl
    have vo := vals_keys eo
    rw [show PySem.W.dataLe false keyP = leK from rfl, em] at vo
    exact wpAny_pure ⟨_, rfl, .ref _, upd H h'.objs.size (.lst ((ss.mergeSort fun x y => leK (.inr x) (.inr y)).map V.str)), I2.laid (t' := s.toks) old (Nat.le_refl _) ⟨sl, out, c, vo, hcc⟩, rfl, q _ hn⟩
/-- sorted(x), x a tuple of texts, too -/
def D.srtx : List D → Option C
  | [.tup ds] => (strsD ds).map fun ss => .own (.lst ((ss.mergeSort fun x y => leK (.inr x) (.inr y)).map .str))
  | ds => D.srt ds
theorem s_srtx : FunS X.kw (fun vs H Q => (rSortedD X vs H Q ∨ rSortedDK X.kw vs H Q) ∨ rSortedT X.kw vs H Q) D.srtx := by
  intro N H vs ds c Q r e k
  unfold D.srtx at e
  split at e
  · simp only [Option.map_eq_some_iff] at e
    obtain ⟨ss, e1, rfl⟩ := e
    cases r with
    | cons rx r =>
      cases r
      obtain ⟨a, ws, rfl, h1, r1⟩ := rx.tup
      rw [strsD_eq e1] at r1
      rw [repL_str r1] at h1
      exact .inr ⟨a, ss, rfl, h1, fun p hp => ret_lst hp (repL_strs _) k⟩
  · exact .inl (s_srt N H _ _ c Q r e k)
theorem de_srtx {F : Fr} {e : Expr} {ps : PAs} {pp pos : Pos} (hK : F.K = X.kw) (hc : X.calm = true) (hu : X.A.units + 64 < cLine) (hg : Gl X "sorted") (hm : X.mg "sorted" = none) (ha : PA X [e] (tDA F ps)) (h1 : starEach [e] X.env = (false, eval e X.env) :: starEach [] X.env := by rfl) (h2 : (backTo pos (starEach [] X.env)).any (·.1) = false := by rfl) : PE X (.Call (.Name "sorted" pp) [e] [] pos) (tD F (pFun D.srtx ps)) :=
  PE.imp (pe_callB (r := fun vs H Q => (rSortedD X vs H Q ∨ rSortedDK X.kw vs H Q) ∨ rSortedT X.kw vs H Q) (fun pins s σ H vs us Q I r h => h.elim (fun h => h.elim (fun h => cr_sortedD hu pins s σ H vs us Q I r h) fun h => cr_sortedDK hc hu pins s σ H vs us Q I r h) fun h => cr_sortedT hu pins s σ H vs us Q I r h) hg hm boot_sorted ha (he := h1) (hpl := h2)) fun σ H Q hw => fun_of (r := fun vs H Q => (rSortedD X vs H Q ∨ rSortedDK X.kw vs H Q) ∨ rSortedT X.kw vs H Q) (by rw [hK]; exact s_srtx) hw
end
end Dn

namespace Dn
open PySem PySem.Spec PyProof.Rows L2
/-! dict(t): a tuple of pairs -/
section
variable {X : Cx}
theorem plain_tup {pins : List (Addr × Obj)} {σ : L2.St} {H : Hp} {s : Shared} {a : Addr} {vs : List V} (I : Inv X pins σ H s) (h : SqP X.K H a vs) : ∃ its : List Value, Vals vs its ∧ PlainSeq "tuple" s.heap a its.toArray ∧ vs.length ≤ sizeLine := by
  obtain ⟨its, rv, ⟨o, ho, hc, n, hd⟩, z⟩ := I.tuple h.t
  refine ⟨its, rv, ⟨o, n, ho, hc, ?_, hd⟩, z⟩
  rcases h with ⟨o1, h0, h⟩ | ⟨o1, its1, n1, h1, h2, h0, _⟩
  · obtain ⟨g1, _, _⟩ := I.hok _ _ h
    rw [g1] at ho; cases ho; exact h0
  · have g1 := I.kIn a o1 h1
    rw [g1] at ho; cases ho; exact h0
def rToDictT (X : Cx) : List V → Hp → VK → Prop := fun xs H Q => ∃ (a : Addr) (ps : List Addr) (kvs : List (Key × V)), xs = [.ref a] ∧ SqP X.K H a (ps.map V.ref) ∧ Paired (fun p kv => SqT X.K H p [kV kv.1, kv.2]) ps kvs ∧ ∀ p, H p = none → Q (.ref p) (upd H p (.dK (mergeK [] kvs)))
theorem call_dictT (hcalm : X.calm = true) : CallR X (.type "dict") (rToDictT X) := by
  intro pins s σ H xs us Q I r q
  obtain ⟨a, ps, kvs, rfl, hq, hp, q⟩ := q
  rw [Vals.ref1 r]
  obtain ⟨its, rv, pl, hz⟩ := plain_tup I hq
  have ei := refs_at rv
  subst ei
  rw [List.length_map] at hz
  obtain ⟨prs, rel, hl, hpr⟩ := pairs_of I hp
  obtain ⟨raw, hraw, hrel⟩ : ∃ raw : List (Value × Value), raw.length = prs.length ∧ ∀ (j : Nat) (q : Key × Value), prs[j]? = some q → ∃ b u, ps[j]? = some b ∧ IsTup s.heap b #[u, q.2] ∧ keyIs q.1 u = true ∧ raw[j]? = some (u, q.2) := by
    have : ∀ (n : Nat), n ≤ prs.length → ∃ raw : List (Value × Value), raw.length = n ∧ ∀ (j : Nat) (q : Key × Value), j < n → prs[j]? = some q → ∃ b u, ps[j]? = some b ∧ IsTup s.heap b #[u, q.2] ∧ keyIs q.1 u = true ∧ raw[j]? = some (u, q.2) := by
      intro n
      induction n with
      | zero => intro _; exact ⟨[], rfl, fun j q h => absurd h (by omega)⟩
      | succ n ih =>
        intro hn
        obtain ⟨raw, h1, h2⟩ := ih (by omega)
        obtain ⟨b, u, e1, e2, e3⟩ := hpr n prs[n] (List.getElem?_eq_getElem (by omega))
        refine ⟨raw ++ [(u, prs[n].2)], by simp [h1], fun j q hj e => ?_⟩
        by_cases hjn : j < n
        · obtain ⟨b, u, g1, g2, g3, g4⟩ := h2 j q hjn e
          exact ⟨b, u, g1, g2, g3, by rw [List.getElem?_append_left (by omega)]; exact g4⟩
        · have : j = n := by omega
          subst this
          rw [List.getElem?_eq_getElem (by omega)] at e; cases e
          exact ⟨b, u, e1, e2, e3, by rw [List.getElem?_append_right (by omega), h1]; simp⟩
    obtain ⟨raw, h1, h2⟩ := this prs.length (Nat.le_refl _)
    exact ⟨raw, h1, fun j q e => h2 j q (List.getElem?_eq_some_iff.mp e).1 e⟩
  have hps : ps.length = prs.length := hl.symm
  have P := PairArg.tuple (prog := X.prog) (w := X.w) a (ps.map Value.ref).toArray (fun j => ps.getD j 0) raw
  refine PySem.call_dict_pairs (knd := mixKind X.prog X.w) (kvs := prs) P (I.ok.hd hcalm) ⟨pl, by simp [hraw, hps], ?_⟩ ⟨hraw.symm, ?_⟩ (by rw [hraw, hl]; exact hz) fun h' tk hd' k => ?_
  · intro j k v hj
    have hjl : j < prs.length := by rw [← hraw]; exact (List.getElem?_eq_some_iff.mp hj).1
    obtain ⟨b, u, e1, e2, e3, e4⟩ := hrel j prs[j] (List.getElem?_eq_getElem hjl)
    rw [e4] at hj; cases hj
    refine ⟨?_, .inl ?_⟩
    · simp [e1, List.getD_eq_getElem?_getD]
    · show s.heap.IsTuple (ps.getD j 0) _
      rw [List.getD_eq_getElem?_getD, e1]; exact e2
  · intro i key v hi
    have hil : i < prs.length := by rw [← hraw]; exact (List.getElem?_eq_some_iff.mp hi).1
    obtain ⟨b, u, e1, e2, e3, e4⟩ := hrel i prs[i] (List.getElem?_eq_getElem hil)
    have hi2 : some (u, prs[i].2) = some (key, v) := e4.symm.trans hi
    cases hi2
    exact ⟨prs[i].1, by rw [List.getElem?_eq_getElem hil], e3⟩
  · have hm : (s.heap.objs.size == sysModules) = false := beq_eq_false_iff_ne.mpr (Nat.ne_of_gt I.big)
    have hlen : (mergeK [] kvs).length ≤ sizeLine := by
      refine Nat.le_trans (length_mergeK kvs []) ?_
      rw [List.length_nil, Nat.zero_add, rel.length, hl]
      exact hz
    exact ⟨.ref s.heap.objs.size, upd H s.heap.objs.size (.dK (mergeK [] kvs)), I.laid (t' := tk) (fun b o e => k b o (by simp) e) (Nat.le_refl _) (show ObjOk X.prog X.w _ _ _ (.dK (mergeK [] kvs)) from ⟨hlen, hm, merged [] prs, KV.merge rel .nil, hd'⟩), rfl, q _ (I.hok.fresh (Nat.le_refl _))⟩
/-- dict(x), x a tuple of pairs, too -/
def D.toDictx : List D → Option C
  | [.tup ds] => (pairsD ds).map fun ps => .own (.dct (mergeD [] ps))
  | ds => D.toDict ds
theorem s_toDictx : FunS X.kw (fun vs H Q => rToDict X vs H Q ∨ rToDictT X vs H Q) D.toDictx := by
  intro N H vs ds c Q r e k
  unfold D.toDictx at e
  split at e
  · simp only [Option.map_eq_some_iff] at e
    obtain ⟨ps, e1, rfl⟩ := e
    cases r with
    | cons rx r =>
      cases r
      obtain ⟨a, vs, rfl, h1, r1⟩ := rx.tupP
      obtain ⟨as, kvs, rfl, hp, hr⟩ := pairs_rep e1 r1
      exact .inr ⟨_, _, _, rfl, h1, hp, fun p h0 => ret_dct h0 (RepK.merge hr .nil) k⟩
  · exact .inl (s_toDict N H _ _ c Q r e k)
section
variable {F : Fr} {e : Expr} {pos : Pos} {ps : PAs}
theorem de_toDictx {pp : Pos} (hK : F.K = X.kw) (hc : X.calm = true) (hg : Gl X "dict") (hm : X.mg "dict" = none) (ha : PA X [e] (tDA F ps)) (h1 : starEach [e] X.env = (false, eval e X.env) :: starEach [] X.env := by rfl) (h2 : (backTo pos (starEach [] X.env)).any (·.1) = false := by rfl) : PE X (.Call (.Name "dict" pp) [e] [] pos) (tD F (pFun D.toDictx ps)) :=
  PE.imp (pe_callTy (r := fun vs H Q => rToDict X vs H Q ∨ rToDictT X vs H Q) (fun pins s σ H vs us Q I r h => h.elim (fun h => cr_toDict hc pins s σ H vs us Q I r h) fun h => call_dictT hc pins s σ H vs us Q I r h) hg hm boot_dict ha (he := h1) (hpl := h2)) fun σ H Q hw => fun_of (r := fun vs H Q => rToDict X vs H Q ∨ rToDictT X vs H Q) (by rw [hK]; exact s_toDictx) hw
end
end
end Dn

namespace Dn
open PySem PySem.Spec PyProof.Rows L2
/-! walks over an own list that stays one's own: each turn reads what the list holds then -/
def bigV : Nat := 16000000
def lstAt (ρ : Dn.Env) (j : Nat) : Option (List D) := match ρ[j]? with
  | some (some (.own (.lst ds))) => some ds
  | some (some (.io (.lst ds))) => some ds
  | _ => none
theorem lstAt_cell {ρ : Dn.Env} {j : Nat} {ds : List D} (h : lstAt ρ j = some ds) : ∃ bb, ρ[j]? = some (some (ioCell bb (.lst ds))) := by
  unfold lstAt at h
  split at h
  · rename_i e; cases h; exact ⟨false, e⟩
  · rename_i e; cases h; exact ⟨true, e⟩
  · cases h
def tDV (F : Fr) (j : Nat) : TI := fun σ H R => ∃ ρ τ ds a, RS F σ H ρ τ ∧ lstAt ρ j = some ds ∧ σ[j]? = some (some (.ref a)) ∧ R (Itl F.K a) H
section
variable {X : Cx} {F : Fr} {W W1 W2 : List Nat} {pos : Pos} {j : Nat} {a : Addr} {ow : Ow} {σ : L2.St} {H : Hp} {ρ : Dn.Env} {τ : List (V × C)} {ds : List D}
theorem live_at (I : RSo F ow σ H ρ τ) (h : lstAt ρ j = some ds) (hs : σ[j]? = some (some (.ref a))) : ∃ vs, H a = some (.lst vs) ∧ RepL F.K (F.N ow) H vs ds := by
  obtain ⟨bb, hc⟩ := lstAt_cell h
  obtain ⟨a', h1, ⟨vs, h2, h3⟩, _⟩ := slot_ref I hc
  rw [hs] at h1; cases h1
  exact ⟨vs, h2, h3⟩
theorem live_go (I : RSo F ow σ H ρ τ) (h : lstAt ρ j = some ds) (hs : σ[j]? = some (some (.ref a))) {k : Nat} (hk : k < ds.length) : (Itl F.K a).go k H := by
  obtain ⟨vs, h1, h2⟩ := live_at I h hs
  obtain ⟨w, h3, _⟩ := h2.get' (i := k) (d := ds[k]) (by simp [hk])
  exact ⟨vs, w, SqL.of h1, h3⟩
theorem live_stop (I : RSo F ow σ H ρ τ) (h : lstAt ρ j = some ds) (hs : σ[j]? = some (some (.ref a))) {k : Nat} (hk : ds.length ≤ k) : (Itl F.K a).stop k H := by
  obtain ⟨vs, h1, h2⟩ := live_at I h hs
  exact ⟨vs, SqL.of h1, by rw [h2.length]; exact hk⟩
theorem live_yld (I : RSo F ow σ H ρ τ) (h : lstAt ρ j = some ds) (hs : σ[j]? = some (some (.ref a))) {k : Nat} {x : V} {H' : Hp} (y : (Itl F.K a).yld k H x H') : H' = H ∧ ∃ d, ds[k]? = some d ∧ ∃ ow', RSo F ow' σ H ρ ((x, .ro d) :: τ) := by
  obtain ⟨vs, h1, h2⟩ := live_at I h hs
  obtain ⟨e, y⟩ := y
  obtain ⟨d, h3, h4⟩ := h2.get (y vs (SqL.of h1))
  exact ⟨e, d, h3, ow, I.push h4⟩
theorem di_var {tg e : Expr} (hK : F.K = X.kw) (ho : PE X e (tVar j)) : PI X tg e (tDV F j) := PI.imp (pi_seq ho) fun σ H R hw => by
  obtain ⟨ρ, τ, ds, a, ⟨ow, I⟩, h1, h2, k⟩ := hw
  obtain ⟨vs, h3, h4⟩ := live_at I h1 h2
  refine ⟨.ref a, h2, a, rfl, .inl ⟨⟨vs, SqL.of h3⟩, ?_⟩⟩
  rw [← kK hK]; exact k
def loopCV (j : Nat) (vs : List Nat) (b : B1) (q : PT1) (p : P1) : Nat → Nat → Dn.Env → Option (List D × Dn.Env)
  | 0, _, _ => none
  | n + 1, k, ρ => (lstAt ρ j).bind fun ds => match ds[k]? with
    | none => some ([], ρ)
    | some d => (b d ρ).bind fun ρ1 => (q ρ1).bind fun t => if t.1 = true then (p t.2).bind fun a => (cap a.1 a.2).bind fun a2 => (loopCV j vs b q p n (k + 1) (forget vs a2.2)).map fun r => (a2.1.d :: r.1, r.2)
      else loopCV j vs b q p n (k + 1) (forget vs t.2)
def pLcV (j : Nat) (vs : List Nat) (b : B1) (q : PT1) (p : P1) : P1 := fun ρ => (lstAt ρ j).bind fun _ => (loopCV j vs b q p bigV 0 (forget vs ρ)).map fun r => (.own (.lst r.1), r.2)
theorem lc_ofV {vs : List Nat} {b : B1} {q : PT1} {p : P1} (hj : j ∉ vs) (hW : ∀ i ∈ W, i ∈ vs) {Q : VK} (hw : tD F (pLcV j vs b q p) σ H Q) : tLc (tDV F j) (tDG F W b) (tDT F q) (tD F p) vs σ H Q := by
  obtain ⟨ρ, τ, c, ρ', ⟨ow1, I1⟩, e1, k⟩ := hw
  simp only [pLcV, Option.bind_eq_some_iff, Option.map_eq_some_iff] at e1
  obtain ⟨ds0, hl0, ⟨rs, ρ2⟩, e2, e3⟩ := e1
  cases e3
  obtain ⟨a, ha, _⟩ : ∃ a, σ[j]? = some (some (.ref a)) ∧ True := by
    obtain ⟨bb, hc⟩ := lstAt_cell hl0
    obtain ⟨a, h1, _⟩ := slot_ref I1 hc
    exact ⟨a, h1, trivial⟩
  refine ⟨ρ, τ, ds0, a, ⟨ow1, I1⟩, hl0, ha, fun Dl hD => ?_⟩
  have hlσ : σ.length = ρ.length := I1.len
  have inn : ∀ {ow : Ow} {H : Hp} {ρ : Dn.Env} {τ : List (V × C)}, ρ.length = σ.length → RSo F ow σ H (forget vs ρ) τ → RSo F ow (wipe σ vs) H (forget vs ρ) τ := fun {ow H ρ τ} hl J => J.forget (by rw [wipe_length, forget_length, hl]) fun i c e => ⟨e, wipe_out (forget_get e).2⟩
  have out : ∀ {ow : Ow} {H : Hp} {ρ : Dn.Env} {τ : List (V × C)} {σ2 : L2.St}, σ2.length = σ.length → (∀ i, i ∉ vs → σ2[i]? = σ[i]?) → RSo F ow σ2 H ρ τ → RSo F ow σ H (forget vs ρ) τ := fun {ow H ρ τ σ2} hl hs J => J.forget (by rw [forget_length, ← hl]; exact J.len) fun i c e => ⟨(forget_get e).1, (hs i (forget_get e).2).symm⟩
  have I1f : RSo F ow1 σ H (forget vs ρ) τ := I1.forget (by rw [forget_length]; exact I1.len) fun i c e => ⟨(forget_get e).1, rfl⟩
  obtain ⟨ow0, I0, _⟩ := I1f.ret (c := .own (.lst [])) (Same.new (o := .lst []) hD) ⟨Dl, rfl, hD, [], upd_same, .nil⟩
  have haw : (wipe σ vs)[j]? = some (some (.ref a)) := by rw [wipe_out hj]; exact ha
  refine ⟨fun i m H' => m + i = bigV ∧ ∃ ρi acc, ρi.length = σ.length ∧ acc.length ≤ i ∧ RS F σ H' (forget vs ρi) ((.ref Dl, .own (.lst acc)) :: τ) ∧ ∃ rest, loopCV j vs b q p m i (forget vs ρi) = some (rest, ρ2) ∧ acc ++ rest = rs, ⟨bigV, rfl, ρ, [], hlσ.symm, Nat.le_refl _, ⟨ow0, I0⟩, rs, e2, rfl⟩, ?_⟩
  rintro i m H' ⟨hmi, ρi, acc, hli, hacc, ⟨ow, I'⟩, rest, el, er⟩
  cases m with
  | zero => cases el
  | succ m =>
    simp only [loopCV, Option.bind_eq_some_iff] at el
    obtain ⟨ds, hds, el⟩ := el
    by_cases hlt : i < ds.length
    · rw [List.getElem?_eq_getElem hlt] at el
      dsimp only at el
      refine .inr ⟨live_go I' hds ha hlt, fun H2 => ∃ ρi acc, ρi.length = σ.length ∧ acc.length ≤ i + 1 ∧ RS F σ H2 (forget vs ρi) ((.ref Dl, .own (.lst acc)) :: τ) ∧ ∃ rest, loopCV j vs b q p m (i + 1) (forget vs ρi) = some (rest, ρ2) ∧ acc ++ rest = rs,
        fun H2 h2 => ⟨m, by omega, by omega, h2⟩, fun x H2 y => ?_⟩
      obtain ⟨rfl, d, hd, ow2, I2⟩ := live_yld (inn hli I') hds haw y
      rw [List.getElem?_eq_getElem hlt] at hd
      cases hd
      simp only [Option.bind_eq_some_iff] at el
      obtain ⟨ρa, ea, ⟨bt, ρb⟩, eb, el⟩ := el
      refine ⟨_, _, _, ρa, ⟨ow2, I2⟩, ea, fun σ2 l2 z2 I3 => ?_⟩
      have hl2 : σ2.length = σ.length := l2.trans (wipe_length σ vs)
      have hs2 : ∀ i, i ∉ vs → σ2[i]? = σ[i]? := fun i hi => (z2 i fun z => hi (hW i z)).trans (wipe_out hi)
      refine ⟨wipe_same hl2 hW z2, ρa, _, bt, ρb, I3, eb, fun H3 I3 => ?_⟩
      cases bt with
      | false =>
        rw [if_neg Bool.false_ne_true] at el ⊢
        obtain ⟨ow3, I3⟩ := I3
        exact ⟨ρb, acc, (I3.len.symm.trans hl2), by omega, ⟨ow3, out hl2 hs2 I3⟩, rest, el, er⟩
      | true =>
        rw [if_pos rfl] at el ⊢
        simp only [Option.bind_eq_some_iff, Option.map_eq_some_iff] at el
        obtain ⟨⟨ca, ρc⟩, ec, ⟨cb, ρd⟩, ecap, ⟨rest', ρe⟩, el, e5⟩ := el
        cases e5
        refine ⟨ρb, _, ca, ρc, I3, ec, fun v H4 ⟨ow4, I4⟩ => ?_⟩
        obtain ⟨⟨ow5, I5⟩, nv5⟩ := I4.cap ecap
        obtain ⟨D', e0, hD1, ws, e6, r6⟩ := I5.tmp.2.1
        cases e0
        obtain ⟨ow6, I6⟩ := I5.appTop nv5 e6
        refine ⟨ws, e6, ?_, ρd, acc ++ [cb.d], (I5.len.symm.trans hl2), by rw [List.length_append]; simp; omega, ⟨ow6, out hl2 hs2 I6⟩, rest', el, by rw [List.append_assoc]; exact er⟩
        have hwl : ws.length = acc.length := r6.length
        have : sizeLine = 16777216 := rfl
        have : bigV = 16000000 := rfl
        omega
    · have hge : ds.length ≤ i := Nat.le_of_not_lt hlt
      rw [List.getElem?_eq_none hge] at el
      dsimp only at el
      cases el
      rw [List.append_nil] at er
      subst er
      exact .inl ⟨live_stop I' hds ha hge, k _ H' ⟨ow, I'⟩⟩
section
variable {elt tg iter : Expr} {ifs : List Expr} {scope : Scope} {own : List (Str × Nat)} {vs : List Nat} {bb : B1} {q : PT1} {p : P1}
theorem de_lcV (hc : X.calm = true) (hN : X.N.Nodup) (hi : PI X tg iter (tDV F j)) (ok : BlkOk X.N X.env.scope scope own)
    (hg : ∀ (s : Shared) (H : Hp) (C : Addr) (cl : List (Str × Addr)) (fp : List Addr), PG (X.blk s H scope (compEnvC scope cl C X.env) fp) tg (tDG F W bb)) (ht : ∀ (s : Shared) (H : Hp) (C : Addr) (cl : List (Str × Addr)) (fp : List Addr), PTs (X.blk s H scope (compEnvC scope cl C X.env) fp) ifs (tDT F q))
    (he : ∀ (s : Shared) (H : Hp) (C : Addr) (cl : List (Str × Addr)) (fp : List Addr), PE (X.blk s H scope (compEnvC scope cl C X.env) fp) elt (tD F p)) (hW : ∀ i ∈ W, i ∈ vs) (hj : j ∉ vs := by decide) (hvs : own.map (·.2) = vs := by rfl) (hs : ∀ x, foldedSetIterable iter X.env x = pure x := by intro _; rfl) :
    PE X (.ListComp elt [⟨tg, iter, ifs, 0⟩] scope pos) (tD F (pLcV j vs bb q p)) := PE.imp (pe_lc hc hN hi ok hg ht he hs) fun _ _ _ => by rw [hvs]; exact lc_ofV hj hW
theorem ds_setLcV {i : Nat} {y : Str} {py spos : Pos} (hc : X.calm = true) (hN : X.N.Nodup) (hy : X.N[i]? = some y) (hyl : X.env.scope.names.lookup y = some .local)
    (hsw : swapsWith (.ListComp elt [⟨tg, iter, ifs, 0⟩] scope pos) (some (.Name y py)) spos.line X.env = pure true) (hi : PI X tg iter (tDV F j)) (ok : BlkOk X.N X.env.scope scope own)
    (hg : ∀ (s : Shared) (H : Hp) (C : Addr) (cl : List (Str × Addr)) (fp : List Addr), PG (X.blk s H scope (compEnvC scope cl C X.env) fp) tg (tDG F W bb)) (ht : ∀ (s : Shared) (H : Hp) (C : Addr) (cl : List (Str × Addr)) (fp : List Addr), PTs (X.blk s H scope (compEnvC scope cl C X.env) fp) ifs (tDT F q))
    (he : ∀ (s : Shared) (H : Hp) (C : Addr) (cl : List (Str × Addr)) (fp : List Addr), PE (X.blk s H scope (compEnvC scope cl C X.env) fp) elt (tD F p)) (hW : ∀ i ∈ W, i ∈ vs) (hj : j ∉ vs := by decide) (hvs : own.map (·.2) = vs := by rfl) (hs : ∀ x, foldedSetIterable iter X.env x = pure x := by intro _; rfl) :
    PS X (.Assign [.Name y py] (.ListComp elt [⟨tg, iter, ifs, 0⟩] scope pos) spos) (tDS F [i] (sSet i (pLcV j vs bb q p))) := PS.imp (ps_setLc hc hN hy hyl hsw hi ok hg ht he hs) fun _ _ _ => set_of fun _ _ _ => by rw [hvs]; exact lc_ofV hj hW
end
/-! for -/
def loopLV (j : Nat) (b : B1) (s : S1) : Nat → Nat → Dn.Env → Option Out
  | 0, _, _ => none
  | n + 1, k, ρ => (lstAt ρ j).bind fun ds => match ds[k]? with
    | none => some (.nx ρ)
    | some d => (b d ρ).bind fun ρ1 => (s ρ1).bind fun o => match o with
      | .nx ρ2 => loopLV j b s n (k + 1) ρ2
      | .ct ρ2 => loopLV j b s n (k + 1) ρ2
      | .bk ρ2 => some (.nx ρ2)
      | .rt c ρ2 => some (.rt c ρ2)
def sForV (j : Nat) (b : B1) (s : S1) : S1 := fun ρ => (lstAt ρ j).bind fun _ => loopLV j b s bigV 0 ρ
theorem ds_forV {tg iter : Expr} {body : List Stmt} {b : B1} {s : S1} (hp : PassesOwn (model X.prog X.w) X.A X.env X.xe) (hc : X.calm = true) (hi : PI X tg iter (tDV F j)) (hg : PG X tg (tDG F W1 b)) (hb : PSs X body (tDS F W2 s)) (hj : j ∉ W1 ++ W2 := by decide)
    (hs : ∀ x, foldedSetIterable iter X.env x = pure x := by intro _; rfl) : PS X (.For tg iter body [] pos) (tDS F (W1 ++ W2) (sForV j b s)) := PS.imp (ps_for hp hc hi hg hb hs) fun D σ H hw => by
  obtain ⟨ρ, τ, o, ⟨ow1, I1⟩, nv, e1, k⟩ := hw
  simp only [sForV, Option.bind_eq_some_iff] at e1
  obtain ⟨ds0, hl0, e2⟩ := e1
  obtain ⟨a, ha⟩ : ∃ a, σ[j]? = some (some (.ref a)) := by
    obtain ⟨bb, hc⟩ := lstAt_cell hl0
    obtain ⟨a, h1, _⟩ := slot_ref I1 hc
    exact ⟨a, h1⟩
  refine ⟨ρ, τ, ds0, a, ⟨ow1, I1⟩, hl0, ha, ?_⟩
  have m1 : ∀ i, i ∉ W1 ++ W2 → i ∉ W1 := fun i h z => h (List.mem_append_left _ z)
  have m2 : ∀ i, i ∉ W1 ++ W2 → i ∉ W2 := fun i h z => h (List.mem_append_right _ z)
  refine ⟨fun i m σ' H' => (∀ j, j ∉ W1 ++ W2 → σ'[j]? = σ[j]?) ∧ ∃ ρ', RS F σ' H' ρ' τ ∧ loopLV j b s m i ρ' = some o, ⟨bigV, fun _ _ => rfl, ρ, ⟨ow1, I1⟩, e2⟩, ?_⟩
  rintro i m σ' H' ⟨zσ, ρ', ⟨ow, I'⟩, el⟩
  have ha' : σ'[j]? = some (some (.ref a)) := (zσ j hj).trans ha
  cases m with
  | zero => cases el
  | succ m =>
    simp only [loopLV, Option.bind_eq_some_iff] at el
    obtain ⟨ds, hds, el⟩ := el
    by_cases hlt : i < ds.length
    · rw [List.getElem?_eq_getElem hlt] at el
      dsimp only at el
      refine .inr ⟨live_go I' hds ha' hlt, fun σ2 H2 => (∀ j, j ∉ W1 ++ W2 → σ2[j]? = σ[j]?) ∧ ∃ ρ2, RS F σ2 H2 ρ2 τ ∧ loopLV j b s m (i + 1) ρ2 = some o, fun σ2 H2 ⟨z2, ρ2, I2, el2⟩ => ⟨m, by omega, z2, ρ2, I2, el2⟩, fun x H2 y => ?_⟩
      obtain ⟨rfl, d, hd, ow2, I2⟩ := live_yld I' hds ha' y
      rw [List.getElem?_eq_getElem hlt] at hd
      cases hd
      simp only [Option.bind_eq_some_iff] at el
      obtain ⟨ρ2, el1, o2, el2, el3⟩ := el
      refine ⟨ρ', τ, _, ρ2, ⟨ow2, I2⟩, el1, fun σ3 _ z3 I3 => ⟨ρ2, τ, o2, I3, nv, el2, ?_⟩⟩
      have z3' : ∀ j, j ∉ W1 ++ W2 → σ3[j]? = σ[j]? := fun j hj => (z3 j (m1 j hj)).trans (zσ j hj)
      cases o2 with
      | nx ρ3 => exact fun σ4 H4 z4 I4 => ⟨fun j hj => (z4 j (m2 j hj)).trans (z3' j hj), ρ3, I4, el3⟩
      | ct ρ3 => exact fun σ4 H4 z4 I4 => ⟨fun j hj => (z4 j (m2 j hj)).trans (z3' j hj), ρ3, I4, el3⟩
      | bk ρ3 =>
        cases el3
        exact fun σ4 H4 z4 I4 => k σ4 H4 (fun j hj => (z4 j (m2 j hj)).trans (z3' j hj)) I4
      | rt c ρ3 =>
        cases el3
        exact fun v σ4 H4 I4 => k v σ4 H4 I4
    · have hge : ds.length ≤ i := Nat.le_of_not_lt hlt
      rw [List.getElem?_eq_none hge] at el
      dsimp only at el
      cases el
      exact .inl ⟨live_stop I' hds ha' hge, k σ' H' zσ ⟨ow, I'⟩⟩
end
end Dn

namespace Dn
open PySem PySem.Spec PyProof.Rows L2
/-! len(set(x)): texts -/
section
variable {X : Cx}
theorem set_size {P : Program} {W : World} {h : Heap} {a : Addr} {xs : List Str} {m : Nat} (R : DnS.SetE W h a (fun y => decide (y ∈ xs)) m) : m = xs.eraseDups.length := by
  obtain ⟨o, es, ep, t, x⟩ := R
  have hp : (es.toList.map DnS.txtOf).Perm xs.eraseDups := (List.perm_ext_iff_of_nodup x.nd (DnS.nodup_dups _ _ (Nat.le_refl _))).mpr fun k => by
    rw [← x.mem k, decide_eq_true_eq, List.mem_eraseDups]
  have := hp.length_eq
  rw [List.length_map, Array.length_toList, x.size] at this
  exact this
def tSetLen (K : PySem.W.Frag) (ta : TE) : TE := fun σ H Q => ta σ H fun x H1 => ∃ (l : Addr) (xs : List Str), x = V.ref l ∧ (SqL K H1 l (xs.map V.str) ∨ SqT K H1 l (xs.map V.str)) ∧ xs.length ≤ 1000 ∧ Q (.int xs.eraseDups.length) H1
theorem pe_setLen {a : Expr} {ta : TE} {p p2 q pos : Pos} (hcalm : X.calm = true) (gl : Gl X "len") (ml : X.mg "len" = none) (gs : Gl X "set") (ms : X.mg "set" = none) (ha : PE X a ta)
    (one : starEach [a] X.env = (false, eval a X.env) :: starEach [] X.env := by rfl) : PE X (.Call (.Name "len" p) [.Call (.Name "set" p2) [a] [] q] [] pos) (tSetLen X.K ta) := by
  refine ⟨fun pins s σ H Q I hw => Call_ (ld_blt I gl ml boot_len (PyProof.Rows.callWith_builtin1 (PyProof.Rows.args_cons (Call_ (ld_blt I gs ms boot_set (PyProof.Rows.callWith_type1 (PyProof.Rows.args_cons ?_ one) one rfl))) rfl) rfl rfl))⟩
  refine thn (ha.run pins s σ H _ I hw) fun v s1 ⟨x, H1, I1, rx, l, xs, ex, hs, hn, k⟩ => PyProof.Rows.args_nil ?_
  subst ex
  cases rx
  have fin : ∀ us : List Value, Vals (xs.map V.str) us → DnS.SeqIn s1.heap l us.toArray →
      wpAny (model X.prog X.w) X.A (call (.type "set") [.ref l]) (fun v s2 => wpAny (model X.prog X.w) X.A (spliced (backTo pos (starEach [] X.env))) (fun ws s3 => wpAny (model X.prog X.w) X.A (call (.builtin "len") (v :: ws)) (EP X pins σ Q) X.xe s3) X.xe s2) X.xe s1 := by
    intro us ru hin
    refine DnS.call_set_txt (P := X.prog) (W := X.w) (I1.ok.hd hcalm) hin (by simpa using DnS.strs_of_vals ru) (by unfold scanBound; omega) fun h' tk m hm R hk => PyProof.Rows.args_nil ?_
    have em := set_size (P := X.prog) R
    have J : Inv X pins σ H1 { s1 with heap := h', toks := tk } := I1.kept fun b o e => hk b o e
    obtain ⟨o, es, ep, t, z⟩ := R
    have hsz : es.size = xs.eraseDups.length := by rw [z.size, em]
    exact call_len_set z.get z.ex z.data z.fits (by rw [z.size]; omega) ⟨.int xs.eraseDups.length, H1, J.tok _, ⟨_, by rw [hsz]⟩, k⟩
  rcases hs with hs | hs
  · obtain ⟨us, ru, pl, _⟩ := I1.list hs
    exact fin us ru (.lst pl.isList)
  · obtain ⟨us, ru, pl, _⟩ := I1.tuple hs
    exact fin us ru (.tup pl)
def D.setLen : D → Option C
  | .lst ds => (strsD ds).bind fun ss => if ss.length ≤ 1000 then some (.ro (.int ss.eraseDups.length)) else none
  | .tup ds => (strsD ds).bind fun ss => if ss.length ≤ 1000 then some (.ro (.int ss.eraseDups.length)) else none
  | _ => none
end
section
variable {X : Cx} {F : Fr} {e : Expr} {pos p2 q pp : Pos} {p : P1}
theorem de_setLen (hK : F.K = X.kw) (hc : X.calm = true) (gl : Gl X "len") (ml : X.mg "len" = none) (gs : Gl X "set") (ms : X.mg "set" = none) (he : PE X e (tD F p))
    (one : starEach [e] X.env = (false, eval e X.env) :: starEach [] X.env := by rfl) : PE X (.Call (.Name "len" pp) [.Call (.Name "set" p2) [e] [] q] [] pos) (tD F (pOp1 D.setLen p)) := PE.imp (pe_setLen hc gl ml gs ms he one) fun σ H Q hw => by
  obtain ⟨ρ, τ, c, ρ', I, e1, k⟩ := hw
  simp only [pOp1, Option.bind_eq_some_iff, Option.map_eq_some_iff] at e1
  obtain ⟨⟨c1, ρ1⟩, h1, x, h2, c2, h3, h4⟩ := e1
  cases h4
  refine ⟨ρ, τ, c1, ρ1, I, h1, fun v H1 ⟨ow, I1⟩ => ?_⟩
  obtain ⟨ow2, I2, rx⟩ := RSo.take (vs := [v]) (cs := [c1]) rfl I1
  have rr := rx [x] (by simp only [dats]; rw [h2])
  cases rr with
  | cons rx _ =>
    unfold D.setLen at h3
    split at h3
    · simp only [Option.bind_eq_some_iff] at h3
      obtain ⟨ss, s1, s2⟩ := h3
      split at s2
      · rename_i hn; cases s2
        obtain ⟨a, vs, rfl, g1, g2⟩ := rx.lst
        rw [strsD_eq s1] at g2
        have := repL_str g2
        subst this
        refine ⟨a, ss, rfl, .inl (by rw [← kK hK]; exact SqL.of g1), hn, k _ _ ⟨ow2, I2.push (.int _)⟩⟩
      · cases s2
    · simp only [Option.bind_eq_some_iff] at h3
      obtain ⟨ss, s1, s2⟩ := h3
      split at s2
      · rename_i hn; cases s2
        obtain ⟨a, vs, rfl, g1, g2⟩ := rx.tup
        rw [strsD_eq s1] at g2
        have := repL_str g2
        subst this
        refine ⟨a, ss, rfl, .inr (by rw [← kK hK]; exact g1), hn, k _ _ ⟨ow2, I2.push (.int _)⟩⟩
      · cases s2
    · cases h3
end
end Dn

namespace Dn
open PySem PySem.Spec PyProof.Rows L2
/-! d.update(e), both dicts -/
section
variable {X : Cx} {F : Fr} {e o ie : Expr} {pos apos cpos mpos : Pos} {p : P1}
theorem upd_dict {pins : List (Addr × Obj)} {σ : L2.St} {H : Hp} {s : Shared} {a b : Addr} {kvs more : List (Key × V)} {A : Around} {E : Value → Shared → Prop} {Q : Value → Shared → Prop} (I : Inv X pins σ H s) (ea : H a = some (.dK kvs)) (eb : Rd H b (.dK more)) (hab : a ≠ b) (hsz : kvs.length + more.length ≤ sizeLine)
    (k : ∀ s', Inv X pins σ (upd H a (.dK (mergeK kvs more))) s' → Q .none s') : wpAny (model X.prog X.w) A (call (.builtin "dict.update") [.ref a, .ref b]) Q E s := by
  obtain ⟨_, s1, vs, rv, da⟩ := dk_of I.hok ea
  obtain ⟨_, s2, us, ru, db⟩ := dk_rd I.hok eb
  have hl : (mergeK kvs more).length ≤ sizeLine := Nat.le_trans (length_mergeK more kvs) (by omega)
  refine call_meetsIn PySem.F.slot_dict_update da.typeIs PySem.F.entry_dict_update (PySem.F.args_dict_update_2 _ _) (meets_dict_update (mixKind X.prog X.w) a b hab s2) ⟨vs, us, da, db, by rw [← rv.length, ← ru.length]; exact hsz, fun h' dd _ hs => k _ ?_⟩
  have dd2 := dd
  obtain ⟨ob, _, _, hob, _⟩ := dd2
  exact d_write I (by rw [ea]; exact True.intro) hs ⟨ob, hob⟩ (dk_new hl s1 (KV.merge ru rv) dd)
def tUpdD (ta tb : TE) : TE := fun σ H Q => ta σ H fun x H1 => ∃ a, x = V.ref a ∧ IsD H1 a ∧ tb σ H1 fun y H2 => ∃ (b : Addr) (kvs more : List (Key × V)), y = V.ref b ∧ H2 a = some (.dK kvs) ∧ Rd H2 b (.dK more) ∧ a ≠ b ∧ kvs.length + more.length ≤ sizeLine ∧ Q .non (upd H2 a (.dK (mergeK kvs more)))
theorem pe_updD {ta tb : TE} (ho : PE X o ta) (hi : PE X ie tb) (m : M1 X o "update" apos ie cpos) : PE X (.Call (.Attribute o "update" apos) [ie] [] cpos) (tUpdD ta tb) := by
  refine ⟨fun pins s σ H Q I hw => wpAny_Call_method m.base m.few m.line PySem.F.plainAttrs_dict PySem.F.slot_dict_update PySem.F.type_dict_update (thn (ho.run pins s σ H _ I hw) fun u s1 ⟨x, H1, I1, rx, a, ex, hd, k1⟩ => ?_)⟩
  subst ex
  obtain rfl : u = Value.ref a := rx
  obtain ⟨t1, t2, _⟩ := isD_at I1 hd
  refine ⟨t1, t2, ?_⟩
  rw [m.trees]
  refine Calls.callWith_builtin rfl (Calls.evalArgs_plain (Calls.spliced_cons (thn (hi.run pins s1 σ H1 _ I1 k1) fun iv s2 ⟨y, H2, I2, ry, b, kvs, more, ey, e1, e2, hab, hz, k2⟩ => Calls.spliced_nil ?_)))
  subst ey
  obtain rfl : iv = Value.ref b := ry
  exact upd_dict I2 e1 e2 hab hz fun s3 I3 => ⟨.non, _, I3, rfl, k2⟩
def duC (ρ : Dn.Env) (j : Nat) (d : Bool × D) (es : List (Key × D)) : Option (C × Dn.Env) := match d.2 with
  | .dct l => if decide (l.length + es.length ≤ 16777216) = true then some (.ro .non, ρ.set j (some (ioCell d.1 (.dct (mergeD l es))))) else none
  | _ => none
def pUpdD (j : Nat) (p : P1) : P1 := fun ρ => (ioData ρ j).bind fun d0 => match d0.2 with
  | .dct _ => (p ρ).bind fun i => match i.1 with
    | .own (.dct es) => (ioData i.2 j).bind fun d => duC i.2 j d es
    | .ro (.dct es) => (ioData i.2 j).bind fun d => duC i.2 j d es
    | _ => none
  | _ => none
theorem de_updD {j : Nat} (hK : F.K = X.kw) (ho : PE X o (tVar j)) (hi : PE X ie (tD F p))
    (hbase : attributeBase o "update" X.env (eval o X.env) = eval o X.env := by rfl)
    (hfew : ((backTo cpos (starEach [ie] X.env)).all (fun x => !x.1) && (backToKw cpos (keywordEach [] X.env)).all (fun x => x.1.isSome)
      && decide (([ie] : List Expr).length + ([] : List Keyword).length + (if ([] : List Keyword).isEmpty then 0 else 1) < 30)) = true := by rfl)
    (hline : (apos.endLine == cpos.line) = true := by rfl) (htrees : backTo cpos (starEach [ie] X.env) = [(false, eval ie X.env)] := by rfl) :
    PE X (.Call (.Attribute o "update" apos) [ie] [] cpos) (tD F (pUpdD j p)) := PE.imp (pe_updD ho hi ⟨hbase, hfew, hline, htrees⟩) fun σ H Q hw => by
  obtain ⟨ρ, τ, c, ρ', I, e1, k⟩ := hw
  simp only [pUpdD, Option.bind_eq_some_iff] at e1
  obtain ⟨⟨b0, d0⟩, e0, e1⟩ := e1
  dsimp only at e1
  split at e1
  · rename_i l0
    simp only [Option.bind_eq_some_iff] at e1
    obtain ⟨⟨ci, ρ1⟩, e1, ez⟩ := e1
    obtain ⟨a, ha, hD⟩ : ∃ a, σ[j]? = some (some (.ref a)) ∧ IsD H a := by
      obtain ⟨ow0, I0⟩ := I
      obtain ⟨a, ha, ⟨ws, hws, _⟩, _⟩ := slot_ref I0 (ioData_get e0)
      exact ⟨a, ha, .inl ⟨ws, .inl hws⟩⟩
    refine ⟨.ref a, ha, a, rfl, hD, ρ, τ, ci, ρ1, I, e1, fun iv H1 ⟨ow1, I1⟩ => ?_⟩
    have main : ∀ es : List (Key × D), (∀ j, ci ≠ .view j) → ci.d = .dct es → ((ioData ρ1 j).bind fun d => duC ρ1 j d es) = some (c, ρ') → ∃ (b : Addr) (kvs more : List (Key × V)), iv = V.ref b ∧ H1 a = some (.dK kvs) ∧ Rd H1 b (.dK more) ∧ a ≠ b ∧ kvs.length + more.length ≤ sizeLine ∧ Q .non (upd H1 a (.dK (mergeK kvs more))) := by
      intro es nv hd e2
      simp only [Option.bind_eq_some_iff] at e2
      obtain ⟨⟨bb, d⟩, e2, e3⟩ := e2
      unfold duC at e3
      dsimp only at e3
      split at e3
      · rename_i l
        split at e3
        · rename_i hsz
          cases e3
          have rp := RepC.pop I1 nv
          rw [hd] at rp
          have I2 := I1.pop
          generalize drop _ _ = ow2 at I2 rp
          obtain ⟨a', ha', ⟨ws, hws, rl⟩, hn⟩ := slot_ref I2 (ioData_get e2)
          rw [ha] at ha'; cases ha'
          cases rp with
          | @dct b more _ nb hrd rm =>
            have hab : a ≠ b := fun z => hn (z ▸ nb)
            refine ⟨b, ws, more, rfl, hws, hrd, hab, ?_, ?_⟩
            · rw [rl.length, rm.length]
              have : sizeLine = 16777216 := rfl
              simp only [decide_eq_true_eq] at hsz
              omega
            · have kp : Keeps (F.N ow2) H1 (upd H1 a (.dK (mergeK ws more))) := fun x u e hb => by
                have : x ≠ a := by
                  rintro rfl
                  rcases hb with hb | ⟨xs, rfl⟩ | ⟨ob, u, rfl⟩
                  · exact hn hb
                  · rw [hws] at e; cases e
                  · rw [hws] at e; cases e
                rw [upd_ne this]; exact e
              obtain ⟨ow', J⟩ := I2.callIo (v := .non) (c := .ro .non) (M := F.N ow2) (d' := .dct (mergeD l es)) (ioData_get e2) ha (fun b o e hb => by rw [upd_ne hb]; exact e) (fun b hb => ⟨.inl hb, fun z => hn (z ▸ hb)⟩) ⟨_, upd_same, (RepK.merge rm rl).keep kp fun _ h _ => h⟩ .non
              exact k .non _ ⟨ow', J⟩
        · cases e3
      · cases e3
    dsimp only at ez
    cases ci with
    | own d => cases d with
      | dct es => exact main es (fun j z => nomatch z) rfl ez
      | _ => cases ez
    | ro d => cases d with
      | dct es => exact main es (fun j z => nomatch z) rfl ez
      | _ => cases ez
    | _ => cases ez
  · cases e1
/-! max(d.values()): whole numbers -/
def tMaxV (ta : TE) : TE := fun σ H Q => ta σ H fun x H1 => ∃ (a : Addr) (kvs : List (Key × V)) (ns : List Int), x = V.ref a ∧ Rd H1 a (.dK kvs) ∧ kvs.map (·.2) = ns.map V.int ∧ 0 < ns.length ∧ ∀ m, m ∈ ns → (∀ y, y ∈ ns → y ≤ m) → Q (.int m) H1
theorem pe_maxV {ta : TE} (hcalm : X.calm = true) (gm : Gl X "max") (mm : X.mg "max" = none) (ho : PE X o ta) (hbase : attributeBase o "values" X.env (eval o X.env) = eval o X.env := by rfl) (hline : (apos.endLine == mpos.line) = true := by rfl)
    (one : starEach [Expr.Call (.Attribute o "values" apos) [] [] mpos] X.env = [(false, eval (Expr.Call (.Attribute o "values" apos) [] [] mpos) X.env)] := by rfl) {pp : Pos} :
    PE X (.Call (.Name "max" pp) [.Call (.Attribute o "values" apos) [] [] mpos] [] pos) (tMaxV ta) := by
  refine ⟨fun pins s σ H Q I hw => wpAny_Call_Name_kw (ld_blt I gm mm (u := .builtin "max") (by first | rfl | decide +kernel) ?_ (by first | decide +kernel | decide) (by first | decide +kernel | decide))⟩
  rw [one]
  refine PySem.callWith_builtin1 (wpAny_Call_method0_late hbase hline (thn (ho.run pins s σ H _ I hw) fun v s1 ⟨x, H1, I1, rx, a, kvs, ns, ex, ea, ev, hpos, k⟩ => ?_))
  subst ex
  obtain rfl : v = Value.ref a := rx
  obtain ⟨_, sm, vs, rel, dd⟩ := dk_rd I1.hok ea
  obtain ⟨ep, dt⟩ := dd.dictAt
  have dt0 := dt
  obtain ⟨ob, es, hob, exa, _⟩ := dt0
  refine ⟨"dict", "dict.values", F.plainAttrs_dict, F.slot_dict_values, F.type_dict_values, ⟨ob, hob, exa.1⟩, fun b e => by cases e; exact ⟨ob, hob, exa.2.1⟩, Calls.callWith_builtin rfl (PySem.evalArgs_none ?_)⟩
  refine call_meetsIn F.slot_dict_values ⟨ob, hob, exa.1⟩ F.entry_dict_values (F.args_dict_values_1 _) (meets_dict_values (mixKind X.prog X.w) a sm) ⟨⟨vs, dd⟩, ?_⟩
  generalize hw2 : s1.heap.push { cls := .type "dict_values", data := .fields #[.ref a] } = h2
  have grow : ∀ b u, s1.heap.get? b = some u → h2.get? b = some u := fun b u e => hw2 ▸ Heap.get?_push_of_some _ e
  have view : h2.get? s1.heap.objs.size = some { cls := .type "dict_values", data := .fields #[.ref a] } := hw2 ▸ Heap.get?_push_size _ rfl
  have size2 : h2.objs.size = s1.heap.objs.size + 1 := hw2 ▸ Heap.size_push _ _
  have dt2 : h2.DictAt (mixKind X.prog X.w) a vs ep := dt.keep grow
  have len : vs.length = ns.length := by
    have := congrArg List.length ev
    simp only [List.length_map] at this
    rw [← this]; exact (KV.length rel).symm
  have lt : a < s1.heap.objs.size := Heap.lt_size hob
  have num : ∀ (i : Nat) (v : Value), (∃ y, vs[i]? = some (y, v)) → ∃ t, v = Value.int (ns.getD i 0) t := by
    rintro i v ⟨y, hy⟩
    obtain ⟨x, g1, g2⟩ : ∃ x, kvs[i]? = some (y, x) ∧ RelV x v := KV.at' rel hy
    have g3 : (kvs.map (·.2))[i]? = some x := by rw [List.getElem?_map, g1]; rfl
    rw [ev, List.getElem?_map] at g3
    obtain ⟨n, g4, rfl⟩ := Option.map_eq_some_iff.mp g3
    obtain ⟨t, g2⟩ := g2
    exact ⟨t, by rw [g2, List.getD_eq_getElem?_getD, g4]; rfl⟩
  obtain ⟨b1, b2⟩ := argBest_gt (fun i => ns.getD i 0) (vs.length - 1)
  refine call_max_walk (wpAny_pyIter_values (v := s1.heap.objs.size) (d := a) ⟨_, view, rfl, rfl⟩ dt2 ?_)
  have ne : a ≠ h2.objs.size := Nat.ne_of_lt (by rw [size2]; exact Nat.lt_succ_of_lt lt)
  refine ⟨_, _, _, _, _, _, _, rfl, Walks.dictValues (knd := mixKind X.prog X.w) (A := X.A.in1) (I.ok.hd hcalm) h2.objs.size a ne vs ep, ⟨⟨_, Heap.get?_push_size _ rfl, rfl, rfl⟩, dt2.keep fun b u e => Heap.get?_push_of_some _ e⟩, fun b hb => ?_, by omega, CmpOf.ints_gt (fun i => ns.getD i 0) num, fun v h' tk hP hk => ?_⟩
  · show b < (h2.push _).objs.size
    rw [Heap.size_push, size2]
    simp only [List.mem_cons, List.not_mem_nil, or_false] at hb
    rcases hb with rfl | rfl
    · rw [size2]; exact Nat.lt_succ_self _
    · exact Nat.lt_succ_of_lt (Nat.lt_succ_of_lt lt)
  · obtain ⟨t, rfl⟩ := num _ v hP
    refine ⟨.int _, H1, I1.kept (t' := tk) fun b u e => hk b u (fun z => ?_) (Heap.get?_push_of_some _ (grow b u e)), ⟨t, rfl⟩, k _ ?_ fun y hy => ?_⟩
    · have z2 := Heap.lt_size e
      simp only [List.mem_cons, List.not_mem_nil, or_false] at z
      rw [z, size2] at z2; exact absurd z2 (Nat.not_lt.mpr (Nat.le_succ _))
    · rw [List.getD_eq_getElem?_getD, List.getElem?_eq_getElem (by omega)]
      exact List.getElem_mem _
    · obtain ⟨i, i1, i2⟩ := List.mem_iff_getElem.mp hy
      have := b2 i (by omega)
      rw [show ns.getD i 0 = y by rw [List.getD_eq_getElem?_getD, List.getElem?_eq_getElem i1, ← i2]; rfl] at this
      exact this
def pMaxV (p : P1) : P1 := fun ρ => (p ρ).bind fun a => match dat a.2 a.1 with
  | some (.dct ds) => (intsD (ds.map (·.2))).bind fun ns => match ns with
    | [] => none
    | m :: l => some (.ro (.int (maxI m l)), a.2)
  | _ => none
theorem de_maxV {pp : Pos} (hK : F.K = X.kw) (hc : X.calm = true) (gm : Gl X "max") (mm : X.mg "max" = none) (ho : PE X o (tD F p)) (hbase : attributeBase o "values" X.env (eval o X.env) = eval o X.env := by rfl) (hline : (apos.endLine == mpos.line) = true := by rfl)
    (one : starEach [Expr.Call (.Attribute o "values" apos) [] [] mpos] X.env = [(false, eval (Expr.Call (.Attribute o "values" apos) [] [] mpos) X.env)] := by rfl) :
    PE X (.Call (.Name "max" pp) [.Call (.Attribute o "values" apos) [] [] mpos] [] pos) (tD F (pMaxV p)) := PE.imp (pe_maxV hc gm mm ho hbase hline one) fun σ H Q hw => by
  obtain ⟨ρ, τ, c, ρ', I, e1, k⟩ := hw
  simp only [pMaxV, Option.bind_eq_some_iff] at e1
  obtain ⟨⟨c1, ρ1⟩, h1, h2⟩ := e1
  dsimp only at h2
  split at h2
  · rename_i ds hd
    simp only [Option.bind_eq_some_iff] at h2
    obtain ⟨ns, h3, h4⟩ := h2
    refine ⟨ρ, τ, c1, ρ1, I, h1, fun v H1 ⟨ow, I1⟩ => ?_⟩
    obtain ⟨ow2, I2, rx⟩ := RSo.take (vs := [v]) (cs := [c1]) rfl I1
    have rr := rx [.dct ds] (by simp only [dats]; rw [hd])
    cases rr with
    | cons rx _ =>
      obtain ⟨a, kvs, rfl, g1, g2⟩ := RepX.asD rx (ds := ds) rfl
      cases ns with
      | nil => cases h4
      | cons m l =>
        cases h4
        have g3 := g2.vals
        rw [intsD_eq h3] at g3
        have g4 := RepL.of_ints g3
        refine ⟨a, kvs, m :: l, rfl, g1, g4, by simp, fun m' hm hle => ?_⟩
        obtain ⟨z1, z2, z3⟩ := maxI_ok m l
        have : m' = maxI m l := Int.le_antisymm ((List.mem_cons.mp hm).elim (fun q => q ▸ z2) (z3 m')) (hle _ (List.mem_cons.mpr z1))
        subst this
        exact k _ _ ⟨ow2, I2.push (.int _)⟩
  · cases h2
end
end Dn

/-! dicts whose values are lists that are changed, too: while they are, the lists stand among the values on the stack -/
namespace Dn
open PySem L2 PyProof.Rows
theorem lt1 {a : Nat} (h : a + 64 < cLine) : a + 1 < cLine := by omega
abbrev Gh := List (Key × Addr × List D)
abbrev NL := List (Key × List D)
def gT (gs : Gh) : List (V × C) := gs.map fun p => (V.ref p.2.1, C.own (.lst p.2.2))
def gRaw (gs : Gh) : List (Key × D) := gs.map fun p => (p.1, D.raw p.2.1)
def gV (gs : Gh) : List (Key × V) := gs.map fun p => (p.1, V.ref p.2.1)
def gNl (gs : Gh) : NL := gs.map fun p => (p.1, p.2.2)
def gStk (gs : Gh) (l : Addr) (τ1 τ2 : List (V × C)) : List (V × C) := τ1 ++ (gT gs.reverse ++ (V.ref l, C.own (.dct (gRaw gs))) :: τ2)
def noN (j : Nat) (ρ : Dn.Env) : Bool := match ρ[j]? with
  | some none => true
  | _ => false
theorem noN_get {j : Nat} {ρ : Dn.Env} (h : noN j ρ = true) : ρ[j]? = some none := by
  unfold noN at h; split at h <;> first | assumption | cases h
def RS2 (F : Fr) (j : Nat) (σ : L2.St) (H : Hp) (ρ : Dn.Env) (nl : NL) (τ1 τ2 : List (V × C)) : Prop :=
  ∃ (l : Addr) (gs : Gh), gNl gs = nl ∧ σ[j]? = some (some (.ref l)) ∧ noN j ρ = true ∧ RS F σ H ρ (gStk gs l τ1 τ2)
abbrev S2 := Dn.Env → NL → Option (Dn.Env × NL)
def tS2 (F : Fr) (W : List Nat) (j : Nat) (s : S2) : TS := fun D σ H => ∃ ρ nl τ1 τ2 r, RS2 F j σ H ρ nl τ1 τ2 ∧ NoV τ1 ∧ NoV τ2 ∧ s ρ nl = some r ∧ ∀ σ' H', (∀ i, i ∉ W → σ'[i]? = σ[i]?) → RS2 F j σ' H' r.1 r.2 τ1 τ2 → D.nx σ' H'
def getL : NL → Key → Option (List D)
  | [], _ => none
  | p :: r, k => if p.1 = k then some p.2 else getL r k
def setL : NL → Key → List D → NL
  | [], _, _ => []
  | p :: r, k, x => if p.1 = k then (p.1, x) :: r else p :: setL r k x
theorem gs_split : ∀ {gs : Gh} {k : Key} {ds : List D}, getL (gNl gs) k = some ds → ∃ g1 b g2, gs = g1 ++ (k, b, ds) :: g2 ∧ (∀ x, setL (gNl gs) k x = gNl (g1 ++ (k, b, x) :: g2)) ∧ valV (gV gs) k = some (.ref b)
  | [], _, _, h => by cases h
  | (k1, b1, d1) :: gs, k, ds, h => by
    have h : (if k1 = k then some d1 else getL (gNl gs) k) = some ds := h
    by_cases hk : k1 = k
    · subst hk
      rw [if_pos rfl] at h; cases h
      exact ⟨[], b1, gs, rfl, fun x => if_pos rfl, valV_pos rfl⟩
    · rw [if_neg hk] at h
      obtain ⟨g1, b, g2, rfl, h2, h3⟩ := gs_split h
      refine ⟨(k1, b1, d1) :: g1, b, g2, rfl, fun x => ?_, ?_⟩
      · have : setL (gNl ((k1, b1, d1) :: (g1 ++ (k, b, ds) :: g2))) k x = (k1, d1) :: setL (gNl (g1 ++ (k, b, ds) :: g2)) k x := if_neg hk
        rw [this, h2]; rfl
      · rw [← h3]
        simp [valV, gV, List.find?_cons, hk]
theorem raw_vals {K : KW} {N : Addr → Prop} {H : Hp} : ∀ {gs : Gh} {vs : List (Key × V)}, RepK K N H vs (gRaw gs) → vs = gV gs
  | [], _, h => by cases h; rfl
  | p :: gs, _, h => by
    cases h with
    | cons h r => cases h; rw [raw_vals r]; rfl
theorem vals_raw {K : KW} {N : Addr → Prop} {H : Hp} : ∀ gs : Gh, RepK K N H (gV gs) (gRaw gs)
  | [] => .nil
  | p :: gs => .cons (.raw _) (vals_raw gs)
theorem RSo.updAt {F : Fr} {ow : Ow} {σ : L2.St} {H : Hp} {ρ : Dn.Env} {τ1 τ : List (V × C)} {A : Addr} {o o' : HO} {d d' : D} (J : RSo F ow σ H ρ (τ1 ++ (.ref A, .own d) :: τ)) (hA : H A = some o) (m : Mut (some o)) (m' : Mut (some o')) (hh : Keeps (F.N ow) H (upd H A o') → Holds F ow (upd H A o') A d') :
    RSo F ow σ (upd H A o') ρ (τ1 ++ (.ref A, .own d') :: τ) := by
  obtain ⟨D', e0, hD1, _⟩ := Tmps.deep J.tmp
  cases e0
  have hk : Keeps (F.N ow) H (upd H A o') := fun b u e hb => by
    have : b ≠ A := by
      rintro rfl
      rcases hb with hb | ⟨xs, rfl⟩ | ⟨ob, u, rfl⟩
      · rw [hb.1] at hD1; cases hD1
      · rw [hA] at e; cases e; exact m
      · rw [hA] at e; cases e; exact m
    rw [upd_ne this]; exact e
  obtain ⟨g1, g2, g3⟩ := J.own A _ hD1
  have nb : ∀ b id, ow b = some id → id ≠ .inr τ.length → b ≠ A := fun b id e n z => by rw [z, hD1] at e; exact n (Option.some.inj e).symm
  have hN : ∀ b, F.N ow b → (H b).isSome = true → F.N ow b := fun _ h _ => h
  have hio : ∀ b, F.io = some b → upd H A o' b = H b := fun b e => upd_ne fun z => g3 (z ▸ e)
  have ln : ∀ ts : List (V × C), (ts ++ (V.ref A, C.own d') :: τ).length = (ts ++ (V.ref A, C.own d) :: τ).length := fun ts => by simp
  have go : ∀ ts, Tmps F ow σ ρ H (ts ++ (V.ref A, C.own d) :: τ) → Tmps F ow σ ρ (upd H A o') (ts ++ (V.ref A, C.own d') :: τ) := by
    intro ts
    induction ts with
    | nil => exact fun h => ⟨⟨A, rfl, hD1, hh hk⟩, h.2.tr hN hk (fun b j hj e => ⟨e, upd_ne (nb b _ e fun z => by cases z; exact absurd hj (Nat.lt_irrefl _))⟩) hio⟩
    | cons t ts ih =>
      intro h
      refine ⟨?_, ih h.2⟩
      change RepC F ow (.inr (ts ++ (V.ref A, C.own d') :: τ).length) σ ρ _ t.1 t.2
      rw [ln ts]
      refine h.1.tr hN hk (fun b e => ⟨e, upd_ne (nb b _ e fun z => ?_)⟩) hio
      have z2 : (ts ++ (V.ref A, C.own d) :: τ).length = τ.length := Sum.inr.inj z
      simp only [List.length_append, List.length_cons] at z2; omega
  refine ⟨J.len, fun i c e => ?_, J.io, go τ1 J.tmp, fun t ht d1 e => ?_, fun b id e => ?_, fun b j e => ?_, fun b o e1 e2 => ?_, fun b e => ?_⟩
  · obtain ⟨w, q1, q2⟩ := J.slot i c e
    exact ⟨w, q1, q2.tr hN hk (fun b e => ⟨e, upd_ne (nb b _ e fun z => by cases z)⟩) hio⟩
  · rcases List.mem_append.mp ht with ht | ht
    · exact J.tio t (List.mem_append_left _ ht) d1 e
    · rcases List.mem_cons.mp ht with rfl | ht
      · cases e
      · exact J.tio t (List.mem_append_right _ (List.mem_cons_of_mem _ ht)) d1 e
  · obtain ⟨f1, f2⟩ := J.own b id e
    refine ⟨?_, f2⟩
    by_cases hb : b = A
    · subst hb; rw [upd_same]; rfl
    · rw [upd_ne hb]; exact f1
  · rw [ln]; exact J.tid b j e
  · have : b ≠ A := fun z => by rw [z, g2] at e1; cases e1
    rw [upd_ne this]; exact J.keep b o e1 e2
  · rw [hio b e]; exact J.mio b e
theorem stk_dict {gs : Gh} {l : Addr} {τ1 τ2 : List (V × C)} : gStk gs l τ1 τ2 = (τ1 ++ gT gs.reverse) ++ (V.ref l, C.own (.dct (gRaw gs))) :: τ2 := by
  unfold gStk; rw [List.append_assoc]
theorem stk_list {g1 g2 : Gh} {k : Key} {b : Addr} {ds : List D} {l : Addr} {τ1 τ2 : List (V × C)} : gStk (g1 ++ (k, b, ds) :: g2) l τ1 τ2 = (τ1 ++ gT g2.reverse) ++ (V.ref b, C.own (.lst ds)) :: (gT g1.reverse ++ (V.ref l, C.own (.dct (gRaw (g1 ++ (k, b, ds) :: g2)))) :: τ2) := by
  unfold gStk gT; simp
theorem raw_list {g1 g2 : Gh} {k : Key} {b : Addr} {ds ds' : List D} : gRaw (g1 ++ (k, b, ds) :: g2) = gRaw (g1 ++ (k, b, ds') :: g2) := by simp [gRaw]
/-- x[k].append(e) -/
def g2App (j : Nat) (pk pe : P1) : S2 := fun ρ nl => (pk ρ).bind fun a => (dat a.2 a.1).bind fun dk => (D.key dk).bind fun k => (getL nl k).bind fun ds => (pe a.2).bind fun b => if (b.1.kept && noN j b.2 && decide (ds.length < sizeLine)) = true then some (b.2, setL nl k (ds ++ [b.1.d])) else none
section
variable {X : Cx} {F : Fr} {W W1 W2 : List Nat} {e : Expr} {pos : Pos} {j : Nat}
theorem g_app {pk pe : P1} (hK : F.K = X.kw) (hc : PE X e (tBM X.K "list" rAppend (tDGet (tVar j) (tD F pk)) (tDA F (pCons pe pNil)))) (hs : swapsWith e none pos.line X.env = pure false := by rfl) : PS X (.Expr e pos) (tS2 F [] j (g2App j pk pe)) := PS.imp (ps_expr hc hs) fun D σ H hw => by
  obtain ⟨ρ, nl, τ1, τ2, r, ⟨l, gs, rfl, hσ, hn, I⟩, nv1, nv2, e, k⟩ := hw
  simp only [g2App, Option.bind_eq_some_iff] at e
  obtain ⟨⟨ck, ρ1⟩, e1, dk, e2, kk, e3, ds, e4, ⟨cb, ρ2⟩, e5, e6⟩ := e
  split at e6
  · rename_i hz
    cases e6
    simp only [Bool.and_eq_true, decide_eq_true_eq] at hz
    obtain ⟨⟨hk1, hk2⟩, hk3⟩ := hz
    refine ⟨.ref l, hσ, ρ, _, ck, ρ1, I, e1, fun y H1 I1 => ?_⟩
    obtain ⟨ow1, I1⟩ := I1
    have ry := I1.x I1.tmp.1 e2
    have hy := key_rep ry e3
    have I2 := I1.pop
    generalize drop ow1 (.inr (gStk gs l τ1 τ2).length) = ow2 at I2
    obtain ⟨g1, b, g2, rfl, hset, hval⟩ := gs_split e4
    have I2d := I2
    rw [stk_dict] at I2d
    obtain ⟨l', el, _, vs, hl, rr⟩ := Tmps.deep I2d.tmp
    cases el
    have hvs := raw_vals rr
    have I2l := I2
    rw [stk_list] at I2l
    obtain ⟨b', eb, _, ws, hws, rl⟩ := Tmps.deep I2l.tmp
    cases eb
    refine ⟨l, .ref b, rfl, .inl ⟨vs, kk, .inl hl, hy, by rw [hvs]; exact hval.symm⟩, .inl ⟨rfl, ws, SqL.of hws⟩, ρ1, _, [cb], ρ2, ⟨_, I2⟩, by simp [pCons, pNil, e5], fun us H2 hl2 I3 => ?_⟩
    obtain ⟨ow3, I3⟩ := I3
    obtain ⟨ow4, I4, rr4⟩ := RSo.takeS hl2 (by simp [keptL, hk1]) I3
    cases rr4 with
    | cons r4 rnil =>
      cases rnil
      rw [stk_list] at I4
      obtain ⟨b', eb, ob, ws2, hws2, rl2⟩ := Tmps.deep I4.tmp
      cases eb
      refine ⟨b, ws2, _, rfl, rfl, hws2, (by rw [rl2.length]; exact hk3), ?_⟩
      have I5 := RSo.updAt (o' := .lst (ws2 ++ [_])) (d' := .lst (ds ++ [cb.d])) I4 hws2 trivial trivial (fun kp => ⟨_, upd_same, (rl2.append (.cons r4 .nil)).keep kp fun _ h _ => h⟩)
      rw [raw_list (ds' := ds ++ [cb.d]), ← stk_list] at I5
      exact k σ _ (fun _ _ => rfl) ⟨l, _, (hset _).symm, hσ, hk2, _, I5⟩
  · cases e6
def loop2 (j : Nat) (b : B1) (s : S2) : List D → S2
  | [], ρ, nl => some (ρ, nl)
  | d :: ds, ρ, nl => (b d ρ).bind fun ρ1 => if noN j ρ1 = true then (s ρ1 nl).bind fun r => loop2 j b s ds r.1 r.2 else none
def g2For (j : Nat) (it : I1) (b : B1) (s : S2) : S2 := fun ρ nl => (it ρ).bind fun a => if noN j a.2 = true then loop2 j b s a.1 a.2 nl else none
theorem g_for {tg iter : Expr} {body : List Stmt} {it : I1} {b : B1} {s : S2} (hp : PassesOwn (model X.prog X.w) X.A X.env X.xe) (hc : X.calm = true) (hi : PI X tg iter (tDI F it)) (hg : PG X tg (tDG F W1 b)) (hb : PSs X body (tS2 F W2 j s)) (hj : j ∉ W1)
    (hs : ∀ x, foldedSetIterable iter X.env x = pure x := by intro _; rfl) : PS X (.For tg iter body [] pos) (tS2 F (W1 ++ W2) j (g2For j it b s)) := PS.imp (ps_for hp hc hi hg hb hs) fun D σ H hw => by
  obtain ⟨ρ, nl, τ1, τ2, r, ⟨l, gs, rfl, hσ, hn, I⟩, nv1, nv2, e, k⟩ := hw
  simp only [g2For, Option.bind_eq_some_iff] at e
  obtain ⟨⟨ds, ρ1⟩, e1, e2⟩ := e
  split at e2
  · rename_i hn1
    refine ⟨ρ, _, ds, ρ1, I, e1, fun J ts H1 wk nt I1 => ?_⟩
    have nvt : NoV (ts ++ τ1) := fun t ht j => (List.mem_append.mp ht).elim (fun h => nt t h j) fun h => nv1 t h j
    have m1 : ∀ i, i ∉ W1 ++ W2 → i ∉ W1 := fun i h z => h (List.mem_append_left _ z)
    have m2 : ∀ i, i ∉ W1 ++ W2 → i ∉ W2 := fun i h z => h (List.mem_append_right _ z)
    have sh : ∀ (gs : Gh) (l : Addr), ts ++ gStk gs l τ1 τ2 = gStk gs l (ts ++ τ1) τ2 := fun gs l => by unfold gStk; rw [List.append_assoc]
    refine ⟨fun i m σ' H' => m = ds.length - i ∧ i ≤ ds.length ∧ (∀ x, x ∉ W1 ++ W2 → σ'[x]? = σ[x]?) ∧ ∃ ρ' nl', RS2 F j σ' H' ρ' nl' (ts ++ τ1) τ2 ∧ loop2 j b s (ds.drop i) ρ' nl' = some r, ⟨ds.length, by simp, Nat.zero_le _, fun _ _ => rfl, ρ1, gNl gs, ⟨l, gs, rfl, hσ, hn1, by rw [← sh]; exact I1⟩, e2⟩, ?_⟩
    rintro i m σ' H' ⟨rfl, hi, zσ, ρ', nl', ⟨l', gs', rfl, hσ', hn', I'⟩, el⟩
    rw [← sh] at I'
    by_cases hlt : i < ds.length
    · refine .inr ⟨wk.go i σ' H' ρ' [] _ hlt I', fun σ2 H2 => (∀ x, x ∉ W1 ++ W2 → σ2[x]? = σ[x]?) ∧ ∃ ρ2 nl2, RS2 F j σ2 H2 ρ2 nl2 (ts ++ τ1) τ2 ∧ loop2 j b s (ds.drop (i + 1)) ρ2 nl2 = some r, fun σ2 H2 ⟨z2, ρ2, nl2, I2, el2⟩ => ⟨ds.length - (i + 1), by omega, rfl, hlt, z2, ρ2, nl2, I2, el2⟩, fun x H2 y => ?_⟩
      obtain ⟨d, hd, I2⟩ := wk.yld i σ' H' ρ' [] _ x H2 hlt I' y
      have ed : ds.drop i = d :: ds.drop (i + 1) := by
        have hd' : ds[i] = d := by
          rw [List.getElem?_eq_getElem hlt] at hd; exact Option.some.inj hd
        rw [← hd']; exact List.drop_eq_getElem_cons hlt
      rw [ed] at el
      simp only [loop2, Option.bind_eq_some_iff] at el
      obtain ⟨ρ2, el1, el⟩ := el
      split at el
      · rename_i hn2
        simp only [Option.bind_eq_some_iff] at el
        obtain ⟨r2, el2, el3⟩ := el
        refine ⟨ρ', _, d, ρ2, I2, el1, fun σ3 _ z3 I3 => ⟨ρ2, gNl gs', ts ++ τ1, τ2, r2, ⟨l', gs', rfl, (z3 j hj).trans hσ', hn2, by rw [← sh]; exact I3⟩, nvt, nv2, el2, fun σ4 H4 z4 I4 => ⟨fun x hx => ((z4 x (m2 x hx)).trans (z3 x (m1 x hx))).trans (zσ x hx), r2.1, r2.2, I4, el3⟩⟩⟩
      · cases el
    · have e : ds.drop i = [] := List.drop_eq_nil_of_le (by omega)
      rw [e] at el
      cases el
      exact .inl ⟨wk.stop i σ' H' ρ' [] _ (by omega) I', k σ' H' zσ ⟨l', gs', rfl, hσ', hn', RSo.popL I'⟩⟩
  · cases e2
end
/-- the lists are let go: nobody changes them any more -/
def nlD (nl : NL) : D := .dct (nl.map fun p => (p.1, D.lst p.2))
theorem RS2.relax {F : Fr} {j : Nat} {σ : L2.St} {H : Hp} {ρ : Dn.Env} {nl : NL} {τ : List (V × C)} (I : RS2 F j σ H ρ nl [] τ) (nv : NoV τ) : RS F σ H (ρ.set j (some (.own (nlD nl)))) τ := by
  obtain ⟨l, gs, rfl, hσ, hn, ow, J⟩ := I
  have go : ∀ (g2 : Gh) (ow : Ow) (rest : List (V × C)), RSo F ow σ H ρ (gT g2 ++ rest) → ∃ ow', RSo F ow' σ H ρ rest ∧ (∀ b, F.N ow b → (H b).isSome = true → F.N ow' b) ∧ ∀ p ∈ g2, Rep F.K (F.N ow') H (.ref p.2.1) (.lst p.2.2) := by
    intro g2
    induction g2 with
    | nil => exact fun ow rest J => ⟨ow, J, fun _ h _ => h, fun p hp => nomatch hp⟩
    | cons p g2 ih =>
      intro ow rest J
      have r := RepC.pop J (fun j z => nomatch z)
      obtain ⟨ow', J', h1, h2⟩ := ih _ rest J.pop
      refine ⟨ow', J', fun b hb hs => h1 b (drop_N b hb hs) hs, fun q hq => ?_⟩
      rcases List.mem_cons.mp hq with rfl | hq
      · exact r.mono h1
      · exact h2 q hq
  obtain ⟨ow', J', _, hr⟩ := go gs.reverse ow _ J
  obtain ⟨l', el, ol, vs, hl, rr⟩ := J'.tmp.1
  cases el
  have hvs := raw_vals rr
  have rk : ∀ g2 : Gh, (∀ p ∈ g2, Rep F.K (F.N ow') H (.ref p.2.1) (.lst p.2.2)) → RepK F.K (F.N ow') H (gV g2) ((gNl g2).map fun p => (p.1, D.lst p.2)) := by
    intro g2
    induction g2 with
    | nil => exact fun _ => .nil
    | cons p g2 ih => exact fun h => .cons (h p (by simp)) (ih fun q hq => h q (List.mem_cons_of_mem _ hq))
  have J2 : RSo F ow' σ H ρ ((V.ref l, C.own (nlD (gNl gs))) :: τ) :=
    ⟨J'.len, J'.slot, J'.io, ⟨⟨l, rfl, ol, vs, hl, by rw [hvs]; exact rk gs fun p hp => hr p (List.mem_reverse.mpr hp)⟩, J'.tmp.2⟩, fun t ht d e => by
      rcases List.mem_cons.mp ht with rfl | ht
      · cases e
      · exact J'.tio t (List.mem_cons_of_mem _ ht) d e, J'.own, J'.tid, J'.keep, J'.mio⟩
  have hj : j < ρ.length := by
    have := noN_get hn
    exact (List.getElem?_eq_some_iff.mp this).1
  obtain ⟨ow3, J3⟩ := J2.setSlot (i := j) hj (fun k z => nomatch z) (.inr nv)
  have es : σ.set j (some (V.ref l)) = σ := by
    refine List.ext_getElem? fun i => ?_
    by_cases hi : i = j
    · subst hi
      rw [hσ]
      exact List.getElem?_set_self (List.getElem?_eq_some_iff.mp hσ).1
    · exact List.getElem?_set_ne (Ne.symm hi)
  rw [es] at J3
  exact ⟨_, J3⟩
/-! x = {k: [] for ..} -/
def loopN (vs : List Nat) (b : B1) (q : PT1) (pk : P1) : List D → NL → Dn.Env → Option (NL × Dn.Env)
  | [], nl, ρ => some (nl, ρ)
  | d :: ds, nl, ρ => (b d ρ).bind fun ρa => (q ρa).bind fun t =>
    if t.1 = true then (pk t.2).bind fun a => (dat a.2 a.1).bind fun dk => (D.key dk).bind fun k =>
      if (a.1.kept && !(nl.any fun p => decide (p.1 = k)) && decide (nl.length < sizeLine)) = true then loopN vs b q pk ds (nl ++ [(k, [])]) (forget vs a.2) else none
    else loopN vs b q pk ds nl (forget vs t.2)
def gNew (j : Nat) (it : I1) (vs : List Nat) (b : B1) (q : PT1) (pk : P1) : Dn.Env → Option (Dn.Env × NL) := fun ρ => (it ρ).bind fun a => (loopN vs b q pk a.1 [] (forget vs a.2)).bind fun r => if j < r.2.length then some (r.2.set j none, r.1) else none
def tNew (F : Fr) (W : List Nat) (j : Nat) (new : Dn.Env → Option (Dn.Env × NL)) : TS := fun D σ H => ∃ ρ τ r, RS F σ H ρ τ ∧ NoV τ ∧ new ρ = some r ∧ ∀ σ' H' ts, (∀ i, i ∉ W → σ'[i]? = σ[i]?) → NoV ts → RS2 F j σ' H' r.1 r.2 [] (ts ++ τ) → D.nx σ' H'
theorem gV_any {gs : Gh} {k : Key} : ((gV gs).any fun kv => decide (kv.1 = k)) = (gNl gs).any fun p => decide (p.1 = k) := by
  simp [gV, gNl, List.any_map, Function.comp_def]
theorem new_of {F : Fr} {W : List Nat} {j : Nat} {it : I1} {vs : List Nat} {b : B1} {q : PT1} {pk : P1} (hW : ∀ i ∈ W, i ∈ vs) {D : Ends} {σ : L2.St} {H : Hp} (hw : tNew F [j] j (gNew j it vs b q pk) D σ H) : tAsg (tDx F.K (tDI F it) (tDG F W b) (tDT F q) (tD F pk) (tD F (pLst pNil)) vs) (gName j) D σ H := by
  obtain ⟨ρ, τ, r, I, nv, e, k⟩ := hw
  simp only [gNew, Option.bind_eq_some_iff] at e
  obtain ⟨⟨ds, ρ1⟩, e1, ⟨nlE, ρE⟩, e2, e3⟩ := e
  split at e3
  · rename_i hjE
    cases e3
    refine ⟨ρ, τ, ds, ρ1, I, e1, fun J ts H1 wk nt I1 A hA => ?_⟩
    obtain ⟨ow1, I1⟩ := I1
    have inn : ∀ {ow : Ow} {H : Hp} {ρ : Dn.Env} {τ : List (V × C)}, ρ.length = σ.length → RSo F ow σ H (forget vs ρ) τ → RSo F ow (wipe σ vs) H (forget vs ρ) τ := fun {ow H ρ τ} hl J => J.forget (by rw [wipe_length, forget_length, hl]) fun i c e => ⟨e, wipe_out (forget_get e).2⟩
    have out : ∀ {ow : Ow} {H : Hp} {ρ : Dn.Env} {τ : List (V × C)} {σ2 : L2.St}, σ2.length = σ.length → (∀ i, i ∉ vs → σ2[i]? = σ[i]?) → RSo F ow σ2 H ρ τ → RSo F ow σ H (forget vs ρ) τ := fun {ow H ρ τ σ2} hl hs J => J.forget (by rw [forget_length, ← hl]; exact J.len) fun i c e => ⟨(forget_get e).1, (hs i (forget_get e).2).symm⟩
    have I1f : RSo F ow1 σ H1 (forget vs ρ1) (ts ++ τ) := I1.forget (by rw [forget_length]; exact I1.len) fun i c e => ⟨(forget_get e).1, rfl⟩
    obtain ⟨g0, r0⟩ := dct_new (K := F.K) (N := F.N ow1) hA (.nil : RepK F.K (F.N ow1) H1 [] [])
    obtain ⟨ow0, I0, _⟩ := I1f.ret g0 r0
    have spl : ∀ gs : Gh, gStk gs A [] (ts ++ τ) = (gT gs.reverse ++ [(V.ref A, C.own (.dct (gRaw gs)))]) ++ (ts ++ τ) := fun gs => by unfold gStk; simp
    refine ⟨fun i m H' => m = ds.length - i ∧ i ≤ ds.length ∧ ∃ ρi gs, ρi.length = σ.length ∧ RS F σ H' (forget vs ρi) (gStk gs A [] (ts ++ τ)) ∧ loopN vs b q pk (ds.drop i) (gNl gs) (forget vs ρi) = some (nlE, ρE), ⟨ds.length, by simp, Nat.zero_le _, ρ1, [], I1.len.symm, ⟨ow0, I0⟩, e2⟩, ?_⟩
    rintro i m H' ⟨rfl, hi, ρi, gs, hli, ⟨ow, I'⟩, el⟩
    have I'' := I'
    rw [spl] at I''
    by_cases hlt : i < ds.length
    · refine .inr ⟨wk.go i σ H' _ _ τ hlt ⟨ow, I''⟩, fun H2 => ∃ ρi gs, ρi.length = σ.length ∧ RS F σ H2 (forget vs ρi) (gStk gs A [] (ts ++ τ)) ∧ loopN vs b q pk (ds.drop (i + 1)) (gNl gs) (forget vs ρi) = some (nlE, ρE), fun H2 h2 => ⟨ds.length - (i + 1), by omega, rfl, hlt, h2⟩, fun x H2 y => ?_⟩
      obtain ⟨d, hd, ow2, I2⟩ := wk.yld i (wipe σ vs) H' _ _ τ x H2 hlt ⟨ow, inn hli I''⟩ y
      rw [← spl] at I2
      have ed : ds.drop i = d :: ds.drop (i + 1) := by
        rw [List.getElem?_eq_getElem hlt] at hd
        rw [← Option.some.inj hd]; exact List.drop_eq_getElem_cons hlt
      rw [ed] at el
      simp only [loopN, Option.bind_eq_some_iff] at el
      obtain ⟨ρa, ea, ⟨bt, ρb⟩, eb, el⟩ := el
      refine ⟨_, _, d, ρa, ⟨ow2, I2⟩, ea, fun σ2 l2 z2 I3 => ?_⟩
      have hl2 : σ2.length = σ.length := l2.trans (wipe_length σ vs)
      have hs2 : ∀ i, i ∉ vs → σ2[i]? = σ[i]? := fun i hi => (z2 i fun z => hi (hW i z)).trans (wipe_out hi)
      refine ⟨wipe_same hl2 hW z2, ρa, _, bt, ρb, I3, eb, fun H3 I3 => ?_⟩
      cases bt with
      | false =>
        rw [if_neg Bool.false_ne_true] at el ⊢
        obtain ⟨ow3, I3⟩ := I3
        exact ⟨ρb, gs, (I3.len.symm.trans hl2), ⟨ow3, out hl2 hs2 I3⟩, el⟩
      | true =>
        rw [if_pos rfl] at el ⊢
        simp only [Option.bind_eq_some_iff] at el
        obtain ⟨⟨ca, ρc⟩, ec, dk, edk, kk, ekk, el⟩ := el
        split at el
        · rename_i hz
          simp only [Bool.and_eq_true, decide_eq_true_eq, Bool.not_eq_true'] at hz
          obtain ⟨⟨hk1, hk2⟩, hk3⟩ := hz
          refine ⟨ρb, _, ca, ρc, I3, ec, fun v H4 ⟨ow4, I4⟩ => ?_⟩
          have hv := key_rep (I4.x I4.tmp.1 edk) ekk
          refine ⟨ρc, _, .own (.lst []), ρc, ⟨ow4, I4⟩, by simp [pLst, pNil, keptL, szOk], fun u H5 ⟨ow5, I5⟩ => ?_⟩
          obtain ⟨ow6, I6⟩ := I5.under
          obtain ⟨b0, eb0, ob0, ws0, hws0, rl0⟩ := I6.tmp.1
          cases eb0
          have I6d : RSo F ow6 σ2 H5 ρc (((V.ref b0, C.own (.lst [])) :: gT gs.reverse) ++ (V.ref A, C.own (.dct (gRaw gs))) :: (ts ++ τ)) := I6
          obtain ⟨A', eA, oA, vs', hvs', rr⟩ := Tmps.deep I6d.tmp
          cases eA
          have hgv := raw_vals rr
          have hlen : vs'.length < sizeLine := by rw [hgv]; simpa [gV, gNl] using hk3
          have hput : putK vs' kk (V.ref b0) = gV (gs ++ [(kk, b0, [])]) := by
            unfold putK
            rw [hgv, gV_any, hk2, if_neg Bool.false_ne_true]
            simp [gV]
          refine ⟨_, hv ▸ Stp.key hvs' hlen, ρc, gs ++ [(kk, b0, [])], I6.len.symm.trans hl2, ?_, ?_⟩
          · have I7 := RSo.updAt (o' := .dK (putK vs' kk (V.ref b0))) (d' := .dct (gRaw (gs ++ [(kk, b0, [])]))) I6d hvs' trivial trivial (fun kp => ⟨_, upd_same, by rw [hput]; exact vals_raw _⟩)
            have I8 := out hl2 hs2 I7
            refine ⟨ow6, ?_⟩
            have es : gStk (gs ++ [(kk, b0, [])]) A [] (ts ++ τ) = ((V.ref b0, C.own (.lst [])) :: gT gs.reverse) ++ (V.ref A, C.own (.dct (gRaw (gs ++ [(kk, b0, [])])))) :: (ts ++ τ) := by
              unfold gStk gT; simp
            rw [es]; exact I8
          · have : gNl (gs ++ [(kk, b0, [])]) = gNl gs ++ [(kk, [])] := by simp [gNl]
            rw [this]; exact el
        · cases el
    · have e : ds.drop i = [] := List.drop_eq_nil_of_le (by omega)
      rw [e] at el
      cases el
      refine .inl ⟨wk.stop i σ H' _ _ τ (by omega) ⟨ow, I''⟩, ?_⟩
      refine k _ H' ts (fun x hx => List.getElem?_set_ne fun z => hx (List.mem_singleton.mpr z.symm)) nt ⟨A, gs, rfl, ?_, ?_, ow, ?_⟩
      · exact List.getElem?_set_self (by rw [I'.len]; exact hjE)
      · unfold noN; rw [List.getElem?_set_self hjE]
      · refine I'.forget (by rw [List.length_set, List.length_set]; exact I'.len) fun x c e => ?_
        by_cases hx : x = j
        · subst hx; rw [List.getElem?_set_self hjE] at e; cases e
        · rw [List.getElem?_set_ne (Ne.symm hx)] at e
          exact ⟨e, List.getElem?_set_ne (Ne.symm hx)⟩
  · cases e3
section
variable {X : Cx} {F : Fr} {W W0 W1 W2 : List Nat} {kx vx tg iter : Expr} {ifs : List Expr} {scope : Scope} {own : List (Str × Nat)} {vs : List Nat} {pos : Pos} {it : I1} {bb : B1} {q : PT1} {pk : P1}
theorem g_new {i : Nat} {y : Str} {py spos : Pos} (hK : F.K = X.kw) (hu : X.A.units + 64 < cLine) (hc : X.calm = true) (hN : X.N.Nodup) (hy : X.N[i]? = some y) (hyl : X.env.scope.names.lookup y = some .local) (sw : swapsWith (.DictComp kx vx [⟨tg, iter, ifs, 0⟩] scope pos) (some (.Name y py)) spos.line X.env = pure true)
    (hi : PI X tg iter (tDI F it)) (bk : BlkOk X.N X.env.scope scope own) (hg : InBlk X scope fun Y => PG Y tg (tDG F W bb)) (ht : InBlk X scope fun Y => PTs Y ifs (tDT F q))
    (hk : InBlk X scope fun Y => PE Y kx (tD F pk)) (hv : InBlk X scope fun Y => PE Y vx (tD F (pLst pNil))) (hW : ∀ i ∈ W, i ∈ vs) (hvs : own.map (·.2) = vs := by rfl) (hf : ∀ x, foldedSetIterable iter X.env x = pure x := by intro _; rfl) :
    PS X (.Assign [.Name y py] (.DictComp kx vx [⟨tg, iter, ifs, 0⟩] scope pos) spos) (tNew F [i] i (gNew i it vs bb q pk)) := PS.imp (ps_setDx hu hc hN hy hyl sw hi bk hg ht hk hv hf) fun D σ H hw => by
  have := new_of hW hw
  rw [hvs, ← hK]; exact this
/-- first made, then filled, then read alone -/
def sNest (j : Nat) (new : Dn.Env → Option (Dn.Env × NL)) (s : S2) (rest : S1) : S1 := fun ρ => (new ρ).bind fun a => (s a.1 a.2).bind fun r => rest (r.1.set j (some (.own (nlD r.2))))
theorem g_nest {j : Nat} {st0 st1 : Stmt} {rest : List Stmt} {new : Dn.Env → Option (Dn.Env × NL)} {s : S2} {s2 : S1} (h0 : PS X st0 (tNew F W0 j new)) (h1 : PS X st1 (tS2 F W1 j s)) (h2 : PSs X rest (tDS F W2 s2)) : PSs X (st0 :: st1 :: rest) (tDS F (W0 ++ (W1 ++ W2)) (sNest j new s s2)) :=
  PSs.imp (pss_cons h0 (pss_cons h1 h2)) fun D σ H hw => by
  obtain ⟨ρ, τ, o, I, nv, e, k⟩ := hw
  simp only [sNest, Option.bind_eq_some_iff] at e
  obtain ⟨r0, e0, r1, e1, e2⟩ := e
  refine ⟨ρ, τ, r0, I, nv, e0, fun σ1 H1 ts z1 nt I1 => ⟨r0.1, r0.2, [], ts ++ τ, r1, I1, (fun t ht => nomatch ht), fun t ht j => (List.mem_append.mp ht).elim (fun h => nt t h j) fun h => nv t h j, e1, fun σ2 H2 z2 I2 => ?_⟩⟩
  have I3 := RSo.popL (I2.relax fun t ht j => (List.mem_append.mp ht).elim (fun h => nt t h j) fun h => nv t h j)
  refine ⟨_, τ, o, I3, nv, e2, ?_⟩
  have zz : ∀ {σ3 : L2.St}, (∀ i, i ∉ W2 → σ3[i]? = σ2[i]?) → ∀ i, i ∉ W0 ++ (W1 ++ W2) → σ3[i]? = σ[i]? := fun {σ3} z3 i hi => by
    rw [List.mem_append, List.mem_append, not_or, not_or] at hi
    exact ((z3 i hi.2.2).trans (z2 i hi.2.1)).trans (z1 i hi.1)
  cases o with
  | nx ρ3 => exact fun σ3 H3 z3 I4 => k σ3 H3 (zz z3) I4
  | rt c ρ3 => exact k
  | bk ρ3 => exact fun σ3 H3 z3 I4 => k σ3 H3 (zz z3) I4
  | ct ρ3 => exact fun σ3 H3 z3 I4 => k σ3 H3 (zz z3) I4
end
end Dn
/-! more of what fills them -/
namespace Dn
open PySem L2 PyProof.Rows
def g2Nil : S2 := fun ρ nl => some (ρ, nl)
def g2Seq (s t : S2) : S2 := fun ρ nl => (s ρ nl).bind fun r => t r.1 r.2
abbrev Q2 := Dn.Env → NL → Option (Bool × Dn.Env)
def tT2 (F : Fr) (j : Nat) (q : Q2) : TT := fun σ H Q => ∃ ρ nl τ1 τ2 b ρ', RS2 F j σ H ρ nl τ1 τ2 ∧ q ρ nl = some (b, ρ') ∧ ∀ H', RS2 F j σ H' ρ' nl τ1 τ2 → Q b H'
def q2Lift (j : Nat) (q : PT1) : Q2 := fun ρ _ => (q ρ).bind fun r => if noN j r.2 = true then some r else none
def q2And (p q : Q2) : Q2 := fun ρ nl => (p ρ nl).bind fun b => if b.1 = true then q b.2 nl else some (false, b.2)
def q2Nin (j : Nat) (pe pk : P1) : Q2 := fun ρ nl => (pe ρ).bind fun a => (pk a.2).bind fun b => (dat b.2 b.1).bind fun dk => (D.key dk).bind fun k => (getL nl k).bind fun ds => (dat b.2 a.1).bind fun x => (D.notIn x (.lst ds)).bind fun c => match c with
  | .ro (.bl v) => if noN j b.2 = true then some (v, b.2) else none
  | _ => none
def g2If (q : Q2) (s t : S2) : S2 := fun ρ nl => (q ρ nl).bind fun b => if b.1 = true then s b.2 nl else t b.2 nl
section
variable {X : Cx} {F : Fr} {W W1 W2 : List Nat} {e a b : Expr} {pos : Pos} {j : Nat} {st : Stmt} {rest body orelse : List Stmt}
theorem g_nil : PSs X [] (tS2 F [] j g2Nil) := PSs.imp pss_nil fun D σ H hw => by
  obtain ⟨ρ, nl, τ1, τ2, r, I, _, _, e, k⟩ := hw
  cases e
  exact k σ H (fun _ _ => rfl) I
theorem g_cons {s t : S2} (h1 : PS X st (tS2 F W1 j s)) (h2 : PSs X rest (tS2 F W2 j t)) : PSs X (st :: rest) (tS2 F (W1 ++ W2) j (g2Seq s t)) := PSs.imp (pss_cons h1 h2) fun D σ H hw => by
  obtain ⟨ρ, nl, τ1, τ2, r, I, n1, n2, e, k⟩ := hw
  simp only [g2Seq, Option.bind_eq_some_iff] at e
  obtain ⟨r1, e1, e2⟩ := e
  exact ⟨ρ, nl, τ1, τ2, r1, I, n1, n2, e1, fun σ1 H1 z1 I1 => ⟨r1.1, r1.2, τ1, τ2, r, I1, n1, n2, e2, fun σ2 H2 z2 I2 => k σ2 H2 (fun i hi => (z2 i fun z => hi (List.mem_append_right _ z)).trans (z1 i fun z => hi (List.mem_append_left _ z))) I2⟩⟩
theorem g_lift {q : PT1} (h : PT X e (tDT F q)) : PT X e (tT2 F j (q2Lift j q)) := PT.imp h fun σ H Q hw => by
  obtain ⟨ρ, nl, τ1, τ2, b, ρ', ⟨l, gs, rfl, hσ, hn, I⟩, e, k⟩ := hw
  simp only [q2Lift, Option.bind_eq_some_iff] at e
  obtain ⟨r, e1, e2⟩ := e
  split at e2
  · rename_i hn2
    cases e2
    exact ⟨ρ, _, b, ρ', I, e1, fun H' I' => k H' ⟨l, gs, rfl, hσ, hn2, I'⟩⟩
  · cases e2
end
end Dn

/-! sorted of tuples whose first items are texts that differ: what lies behind may be of any kinds -/
namespace DnH
open PySem PySem.W PySem.Calls PyProof.Rows
def headT : PyData → Option Str
  | .tuple (.str x :: _) => some x
  | _ => none
structure HeadsOk (ds : List PyData) : Prop where
  each : ∀ d ∈ ds, ∃ x r, d = .tuple (.str x :: r)
  two : ∀ d ∈ ds, ∀ d' ∈ ds, alike d d' = true ∨ headT d ≠ headT d'
section
variable {prog : Program} {w : World} {A : Around} {s : Shared} {h : Heap} {ds : List PyData}
theorem read_head {x : Str} {r : List PyData} {v : Value} {as : List Addr} (rd : Reads h v (.tuple (.str x :: r)) as) : ∃ a o xs n t fr bs, v = .ref a ∧ h.get? a = some o ∧ o.cls = .type "tuple" ∧ o.data = .seq xs n ∧ xs.toList = .str x t :: fr ∧ ReadsAll h xs.toList (.str x :: r) bs := by
  cases rd with
  | @tuple a o xs n _ _ h1 h2 h3 h4 =>
    have h4' := h4
    cases q : xs.toList with
    | nil => rw [q] at h4; cases h4
    | cons f fr =>
      rw [q] at h4
      cases h4 with
      | cons r1 r2 =>
        cases r1 with
        | str _ t => exact ⟨a, o, xs, n, t, fr, _, rfl, h1, h2, h3, q, h4'⟩
theorem heads_unique (ok : HeadsOk ds) {d d' : PyData} {v : Value} {as as' : List Addr} (hd : d ∈ ds) (hd' : d' ∈ ds) (r : Reads h v d as) (r' : Reads h v d' as') : keyToks d = keyToks d' := by
  rcases ok.two d hd d' hd' with q | q
  · rw [alike_unique d d' v as as' q r r']
  · obtain ⟨x, rx, rfl⟩ := ok.each d hd
    obtain ⟨y, ry, rfl⟩ := ok.each d' hd'
    obtain ⟨a, o, xs, n, t, fr, _, rfl, g1, _, g3, g4, _⟩ := read_head r
    obtain ⟨a', o', xs', n', t', fr', _, e, k1, _, k3, k4, _⟩ := read_head r'
    cases e
    rw [g1] at k1; cases k1
    rw [g3] at k3; cases k3
    rw [g4] at k4; cases k4
    exact absurd rfl q
theorem heads_key (ok : HeadsOk ds) {v : Value} {d : PyData} {as : List Addr} (hd : d ∈ ds) (r : Reads h v d as) : (dataKind h ds).keyOf v = some (keyToks d) := by
  cases q : (dataKind h ds).keyOf v with
  | none =>
    have : ∃ d, d ∈ ds ∧ ∃ as, Reads h v d as := ⟨d, hd, as, r⟩
    unfold dataKind at q
    simp only [dif_pos this] at q
    cases q
  | some k =>
    obtain ⟨d', as', hd', r', rfl⟩ := dataKind_inv q
    exact congrArg some (heads_unique ok hd' hd r' r)
theorem SortsAt.heads {vs : List Value} (e : EachIs (fun v d => ∃ as, Reads s.heap v d as) vs ds) (ok : HeadsOk ds) (hu : ∀ d, d ∈ ds → A.units + d.depth < cLine) : SortsAt prog w A s (dataKind s.heap ds) vs := by
  refine ⟨fun v hv => ?_, tuples' (Value.type "str" != Value.type "tuple"), ?_, fun h2 E Q hq => ?_⟩
  · obtain ⟨d, hd, as, r⟩ := e.left v hv
    exact ⟨_, heads_key ok hd r⟩
  · intro E x y a b Q ha hb hq
    obtain ⟨d, as, hd, ra, rfl⟩ := dataKind_inv ha
    obtain ⟨d', as', hd', rb, rfl⟩ := dataKind_inv hb
    have hu1 := hu d hd
    have htwo := ok.two d hd d' hd'
    obtain ⟨x1, r1, rfl⟩ := ok.each d hd
    obtain ⟨x2, r2, rfl⟩ := ok.each d' hd'
    have hq1 : Q (dataLt (.tuple (.str x1 :: r1)) (.tuple (.str x2 :: r2))) s := hq
    rw [dataLt_tuple] at hq1
    obtain ⟨a1, o1, xs1, n1, t1, f1, bs1, rfl, g1, _, g3, g4, g5⟩ := read_head ra
    obtain ⟨a2, o2, xs2, n2, t2, f2, bs2, rfl, k1, _, k3, k4, k5⟩ := read_head rb
    have l1 : xs1.size = (PyData.str x1 :: r1).length := by simpa using SeqAt.ReadsAll.length _ _ _ g5
    have l2 : xs2.size = (PyData.str x2 :: r2).length := by simpa using SeqAt.ReadsAll.length _ _ _ k5
    rcases htwo with al | ne
    · refine kat_lt g1 g3 k1 k3 (katLex_alike _ _ 0 _ _ _ _ g5 k5 (by simpa [alike] using al) ?_ (fun _ _ x r t ex => ?_) (by rw [l1, l2]) hq1)
      · have q : (PyData.tuple (.str x1 :: r1)).depth = PyData.depthAll (.str x1 :: r1) + 1 := by simp [PyData.depth, Nat.add_comm]
        rw [q] at hu1
        have := Nat.min_le_left (PyData.depthAll (.str x1 :: r1)) (PyData.depthAll (.str x2 :: r2))
        omega
      · cases ex; intro z; cases z
    · have hne : x1 ≠ x2 := fun z => ne (by rw [z]; rfl)
      have hlt : lexLt itemOrd (keyToksAll (.str x1 :: r1)) (keyToksAll (.str x2 :: r2)) = decide (x1.cps.toList < x2.cps.toList) := by
        rw [dataLt_cons (by rfl), dataLt_str]
        have : ¬ PyData.eqv (.str x1) (.str x2) = true := by simp [PyData.eqv, hne]
        rw [if_neg this]
      rw [hlt] at hq1
      refine kat_lt g1 g3 k1 k3 ?_
      rw [g4, k4, List.zip_cons_cons]
      exact kat_cons (wpAny_eqBool_str (kat_go (fun e => absurd (of_decide_eq_true e) hne) fun _ => kat_no (oneLt_any_str hq1)))
  · obtain ⟨fs, t1, t2, t3⟩ := each_katTups e fun d hd => by obtain ⟨x, r, q⟩ := ok.each d hd; exact ⟨_, r, q⟩
    refine kat_kind (T := .type "str") t1 (by omega) (fun f hf => ?_) (beq_self_eq_true _) hq
    obtain ⟨x, r, as, m1, m2⟩ := t3 f hf
    obtain ⟨y, r', q⟩ := ok.each _ m1
    cases q
    exact looks_reads m2
theorem sorted_heads {E : Value → Shared → Prop} {β : Type} {vs : List Value} {bs : List β} {enc : β → PyData} {R : Value → β → Prop} {l : Addr} {Q : Value → Shared → Prop} (hl : s.heap.IsList l vs.toArray) (e : EachIs R vs bs) (er : EachIs (fun v b => ∃ as, Reads s.heap v (enc b) as) vs bs) (ok : HeadsOk (bs.map enc)) (hL : bs.length ≤ sizeLine)
    (hu : ∀ b, b ∈ bs → A.units + 2 + (enc b).depth < cLine) (h : ∀ out, out.length = bs.length → EachIs R out (bs.mergeSort (dataLe false enc)) → Q (.ref (s.heap.objs.size + 1)) { s with heap := sortedAll s.heap vs (List.toArray out) }) :
    wpAny (model prog w) A (call (.builtin "sorted") [.ref l]) Q E s := by
  have er2 : EachIs (fun v b => ∃ as, Reads (sortingHeap (copyHeap s.heap vs) (s.heap.objs.size + 1) vs) v (enc b) as) vs bs := er.mono fun _ _ ⟨as, r⟩ => ⟨as, Reads.keeps (fun _ _ => sorting_copy_old) r⟩
  have er3 := each_map (R := fun v d => ∃ as, Reads (sortingHeap (copyHeap s.heap vs) (s.heap.objs.size + 1) vs) v d as) enc er2
  have ks : EachIs (fun v d => (dataKind (sortingHeap (copyHeap s.heap vs) (s.heap.objs.size + 1) vs) (bs.map enc)).keyOf v = some (keyToks d)) vs (bs.map enc) := (each_mem er3).mono fun _ _ ⟨⟨_, r⟩, hd⟩ => heads_key ok hd r
  have so := sortVals_each (κ := dataKind (sortingHeap (copyHeap s.heap vs) (s.heap.objs.size + 1) vs) (bs.map enc)) (rev := false) (fun b => keyToks (enc b)) e (each_of_map enc ks)
  exact sorted_vals hl (SortsAt.heads (s := { s with heap := sortingHeap (copyHeap s.heap vs) (s.heap.objs.size + 1) vs }) er3 ok (bound_map hu)) (by rw [e.length]; exact hL) (h _ (by rw [sortVals_length false rfl]; exact e.length) so)
end
end DnH
namespace Dn
open PySem PySem.Spec PyProof.Rows L2
def D.headsOk (ds : List D) : Bool := szOk ds.length && ds.all (fun d => (D.py d).isSome && decide ((D.pyD d).depth ≤ 8) && (DnH.headT (D.pyD d)).isSome) && ds.all fun x => ds.all fun y => PySem.W.alike (D.pyD x) (D.pyD y) || !decide (DnH.headT (D.pyD x) = DnH.headT (D.pyD y))
def D.sortedH : List D → Option C
  | [.lst ds] => if D.headsOk ds = true then some (.own (.lst (ds.mergeSort D.leB))) else none
  | _ => none
def rSortedH (X : Cx) : List V → Hp → VK → Prop := fun vs H Q => ∃ (a : Addr) (xs : List V) (ds : List D) (N : Addr → Prop), vs = [V.ref a] ∧ SqL X.K H a xs ∧ RepL X.kw N H xs ds ∧ D.headsOk ds = true ∧
  ∀ (xs' : List V) (p : Addr), RepL X.kw N H xs' (ds.mergeSort D.leB) → H p = none → Q (.ref p) (upd H p (.lst xs'))
theorem cr_sortedH {X : Cx} (hu : X.A.units + 64 < cLine) : CallR X (.builtin "sorted") (rSortedH X) := by
  intro pins s σ H vs us Q I r h
  obtain ⟨a, xs, ds, N, rfl, hs, hr, ok, q⟩ := h
  obtain ⟨its, rv, hl, hz⟩ := I.list hs
  rw [Vals.ref1 r]
  simp only [D.headsOk, Bool.and_eq_true, Bool.or_eq_true, Bool.not_eq_true', decide_eq_false_iff_not, List.all_eq_true, decide_eq_true_eq] at ok
  obtain ⟨⟨hsz, hpy⟩, hal⟩ := ok
  have hlen := hr.length
  have hmem : ∀ b ∈ xs.zip ds, b.2 ∈ ds := fun b hb => (List.of_mem_zip hb).2
  have e1 : PySem.W.EachIs (fun u b => RelV b.1 u) its (xs.zip ds) := each_zip (R := fun u b => RelV b.1 u) hr rv fun _ _ _ _ h _ => h
  have er : PySem.W.EachIs (fun u (b : V × D) => ∃ as, Reads s.heap u (D.pyD b.2) as) its (xs.zip ds) := each_zip (R := fun u (b : V × D) => ∃ as, Reads s.heap u (D.pyD b.2) as) hr rv fun v d u h1 h2 hm => by
    obtain ⟨p, hp⟩ := Option.isSome_iff_exists.mp (hpy d (hmem _ hm)).1.1
    have : D.pyD d = p := by unfold D.pyD; rw [hp]; rfl
    show ∃ as, Reads s.heap u (D.pyD d) as
    rw [this]
    exact rep_reads I d v u p h1 hp h2
  refine DnH.sorted_heads (enc := fun b : V × D => D.pyD b.2) hl.isList e1 er ⟨?_, ?_⟩ ?_ ?_ ?_
  · intro d hd
    obtain ⟨b, hb, rfl⟩ := List.mem_map.mp hd
    have := (hpy _ (hmem b hb)).2
    unfold DnH.headT at this
    split at this
    · rename_i x r q; exact ⟨x, r, q⟩
    · cases this
  · intro d hd d' hd'
    obtain ⟨b, hb, rfl⟩ := List.mem_map.mp hd
    obtain ⟨b', hb', rfl⟩ := List.mem_map.mp hd'
    exact hal _ (hmem b hb) _ (hmem b' hb')
  · rw [List.length_zip]
    have := szOk_le hsz
    omega
  · intro b hb
    have := (hpy _ (hmem b hb)).1.2
    omega
  · intro out ho eo
    obtain ⟨ep, he'⟩ := PyProof.Rows.sortedAll_at s.heap its out.toArray
    have hv := vals_each eo
    have hml : ((xs.zip ds).mergeSort (PySem.W.dataLe false fun b : V × D => D.pyD b.2)).length = (xs.zip ds).length := List.length_mergeSort _
    have hlen2 : (((xs.zip ds).mergeSort (PySem.W.dataLe false fun b : V × D => D.pyD b.2)).map (·.1)).length ≤ sizeLine := by
      rw [List.length_map, hml, List.length_zip]
      have := szOk_le hsz
      omega
    have hrep : RepL X.kw N H (((xs.zip ds).mergeSort (PySem.W.dataLe false fun b : V × D => D.pyD b.2)).map (·.1)) (ds.mergeSort D.leB) := by
      have h1 := repL_of (X := X) (N := N) (H := H) (bs := (xs.zip ds).mergeSort (PySem.W.dataLe false fun b : V × D => D.pyD b.2)) fun p hp => repL_mem hr p ((List.mergeSort_perm _ _).mem_iff.mp hp)
      have h2 : ((xs.zip ds).mergeSort (PySem.W.dataLe false fun b : V × D => D.pyD b.2)).map (·.2) = ds.mergeSort D.leB := by
        refine (List.map_mergeSort (r := PySem.W.dataLe false fun b : V × D => D.pyD b.2) (s := D.leB) (f := fun x : V × D => x.2) (fun a _ b _ => rfl)).trans ?_
        rw [zip_snd hlen]
      rw [h2] at h1
      exact h1
    exact ⟨.ref _, upd H (s.heap.objs.size + 1) (.lst _), I.laid (t' := s.toks) (fun _ _ => PyProof.Rows.sortedAll_old) (Nat.le_succ _) ⟨hlen2, out, ep, hv, he'⟩, rfl, q _ _ hrep (I.hok.fresh (Nat.le_succ _))⟩
theorem s_sortedH {X : Cx} : FunS X.kw (rSortedH X) D.sortedH := by
  intro N H vs ds c Q r e k
  unfold D.sortedH at e
  split at e
  · split at e
    · rename_i hz
      cases e
      cases r with
      | cons rx r => cases r; obtain ⟨a, vs, rfl, h1, r1⟩ := rx.lst; exact ⟨_, _, _, _, rfl, SqL.of h1, r1, hz, fun xs' p hr hp => ret_lst hp hr k⟩
    · cases e
  · cases e
theorem de_sortedH {X : Cx} {F : Fr} {e : Expr} {ps : PAs} {pp pos : Pos} (hK : F.K = X.kw) (hu : X.A.units + 64 < cLine) (hg : Gl X "sorted") (hm : X.mg "sorted" = none) (ha : PA X [e] (tDA F ps)) (h1 : starEach [e] X.env = (false, eval e X.env) :: starEach [] X.env := by rfl) (h2 : (backTo pos (starEach [] X.env)).any (·.1) = false := by rfl) : PE X (.Call (.Name "sorted" pp) [e] [] pos) (tD F (pFun D.sortedH ps)) :=
  PE.imp (pe_callB (cr_sortedH hu) hg hm boot_sorted ha (he := h1) (hpl := h2)) fun σ H Q hw => fun_of (by rw [hK]; exact s_sortedH) hw
end Dn

/-! [e for r in d.values()] over an own dict that stays one's own: e speaks of r alone and gives data without lists or dicts -/
namespace Dn
open PySem L2
def D.atomic : D → Bool
  | .non => true
  | .bl _ => true
  | .int _ => true
  | .str _ => true
  | _ => false
theorem Rep.atomic {K : KW} {N N' : Addr → Prop} {H H' : Hp} {v : V} {d : D} (h : Rep K N H v d) (e : d.atomic = true) : Rep K N' H' v d := by
  cases h <;> first | exact .non | exact .bl _ | exact .int _ | exact .str _ | cases e
theorem RepL.atomic {K : KW} {N N' : Addr → Prop} {H H' : Hp} : ∀ {vs : List V} {ds : List D}, RepL K N H vs ds → (∀ d ∈ ds, d.atomic = true) → RepL K N' H' vs ds
  | _, _, .nil, _ => .nil
  | _, _, .cons h r, e => .cons (h.atomic (e _ (by simp))) (RepL.atomic r fun d hd => e d (List.mem_cons_of_mem _ hd))
def valsL (i n : Nat) (p : P1) : List D → Option (List D)
  | [] => some []
  | d :: ds => (p ((List.replicate n none).set i (some (.ro d)))).bind fun a => match a.1 with
    | .ro d' => if d'.atomic = true then (valsL i n p ds).map fun l => d' :: l else none
    | _ => none
def pValsC (j i : Nat) (p : P1) : P1 := fun ρ => match ρ[j]? with
  | some (some (.own (.dct ds))) => if (decide (i < ρ.length) && decide (ds.length < sizeLine)) = true then (valsL i ρ.length p (ds.map (·.2))).map fun rs => (.own (.lst rs), ρ) else none
  | _ => none
theorem valsL_get {i n : Nat} {p : P1} : ∀ {ds rs : List D}, valsL i n p ds = some rs → rs.length = ds.length ∧ ∀ (k : Nat) (d : D), ds[k]? = some d → ∃ (d' : D) (ρ' : Dn.Env), p ((List.replicate n none).set i (some (.ro d))) = some (.ro d', ρ') ∧ d'.atomic = true ∧ rs[k]? = some d'
  | [], rs, h => by cases h; exact ⟨rfl, fun k d e => by simp at e⟩
  | d :: ds, rs, h => by
    simp only [valsL, Option.bind_eq_some_iff] at h
    obtain ⟨⟨c, ρ'⟩, e1, e2⟩ := h
    cases c with
    | ro d' =>
      dsimp only at e2
      split at e2
      · rename_i hi
        simp only [Option.map_eq_some_iff] at e2
        obtain ⟨l, e3, rfl⟩ := e2
        obtain ⟨i1, i2⟩ := valsL_get e3
        refine ⟨by simp [i1], fun k x e => ?_⟩
        cases k with
        | zero => cases e; exact ⟨d', ρ', e1, hi, rfl⟩
        | succ k => exact i2 k x (by simpa using e)
      · cases e2
    | _ => cases e2
section
variable {X : Cx} {F : Fr} {elt : Expr} {scope : Scope} {own : List (Str × Nat)} {pos : Pos} {o : Expr} {apos cpos : Pos} {tg : Expr} {i j : Nat} {p : P1}
theorem de_valsC (hK : F.K = X.kw) (hc : X.calm = true) (hN : X.N.Nodup) (ho : PE X o (tVar j)) (ok : BlkOk X.N X.env.scope scope own)
    (hg : ∀ (s : Shared) (H : Hp) (C : Addr) (cl : List (Str × Addr)) (fp : List Addr), PG (X.blk s H scope (compEnvC scope cl C X.env) fp) tg (gName i))
    (he : ∀ G : Fr, G.K = X.kw → ∀ (s : Shared) (H : Hp) (C : Addr) (cl : List (Str × Addr)) (fp : List Addr), PE (X.blk s H scope (compEnvC scope cl C X.env) fp) elt (tD G p)) (hvs : own.map (·.2) = [i] := by rfl)
    (hbase : attributeBase o "values" X.env (eval o X.env) = eval o X.env := by rfl) (hline : (apos.endLine == cpos.line) = true := by rfl)
    (hs : ∀ x, foldedSetIterable (.Call (.Attribute o "values" apos) [] [] cpos) X.env x = pure x := by intro _; rfl) :
    PE X (.ListComp elt [⟨tg, .Call (.Attribute o "values" apos) [] [] cpos, [], 0⟩] scope pos) (tD F (pValsC j i p)) := by
  refine ⟨fun pins s σ H Q I hw => ?_⟩
  obtain ⟨ρ, τ, c, ρ', ⟨ow, J⟩, e1, k⟩ := hw
  unfold pValsC at e1
  split at e1
  · rename_i ds hcell
    split at e1
    · rename_i hz
      simp only [Bool.and_eq_true, decide_eq_true_eq] at hz
      obtain ⟨hz1, hz2⟩ := hz
      simp only [Option.map_eq_some_iff] at e1
      obtain ⟨rs, ev, e2⟩ := e1
      cases e2
      obtain ⟨hlen, hget⟩ := valsL_get ev
      have hat : ∀ d ∈ rs, d.atomic = true := by
        intro y hy
        obtain ⟨n, hn1, hn2⟩ := List.mem_iff_getElem.mp hy
        have hn3 : n < (ds.map (·.2)).length := by rw [← hlen]; exact hn1
        obtain ⟨d', _, _, him, hr⟩ := hget n _ (List.getElem?_eq_getElem hn3)
        rw [List.getElem?_eq_getElem hn1] at hr
        cases hr; rw [← hn2]; exact him
      obtain ⟨v0, hσ, a, rfl, _, kvs, ha, rk⟩ := J.slot j _ hcell
      obtain ⟨od, I2⟩ := I.lock ha trivial
      have hn := I.nofrz ha trivial
      have hkl : kvs.length = ds.length := rk.length
      have hlσ : σ.length = ρ.length := J.len
      have rv : RepL F.K (F.N ow) H (kvs.map (·.2)) (ds.map (·.2)) := rk.vals
      have hpe := pe_lc (wi := iVals (tVar j)) (g := gName i) (tt := tYes) (te := fun σ H Q => ∃ G : Fr, G.K = X.kw ∧ tD G p σ H Q) hc hN (pi_values ho hbase hline) ok hg (fun _ _ _ _ _ => pts_nil) (fun s H C cl fp => PE.ex (X := X.blk s H scope (compEnvC scope cl C X.env) fp) fun G hG => he G hG s H C cl fp) hs (pos := pos)
      refine thn (hpe.run pins s σ (upd H a (.frz od (.dK kvs))) (fun v H2 => ∃ Dl vs, v = .ref Dl ∧ H Dl = none ∧ H2 Dl = some (.lst vs) ∧ H2 a = some (.frz od (.dK kvs)) ∧ (∀ b u, b ≠ a → H b = some u → H2 b = some u) ∧ RepL F.K (fun _ => False) H2 vs rs) I2 ?_) fun u s1 ⟨x, H1, I1, rx, Dl, vs, ex, hD, h1, h2, h3, h4⟩ => ?_
      · rw [hvs]
        refine ⟨.ref a, hσ, a, od, kvs, rfl, upd_same, fun Dl hD => ?_⟩
        have hDa : Dl ≠ a := fun z => by rw [z, upd_same] at hD; cases hD
        have hD0 : H Dl = none := by rw [upd_ne hDa] at hD; exact hD
        refine ⟨fun n m G => m = kvs.length - n ∧ n ≤ kvs.length ∧ ∃ acc, acc.length = n ∧ G Dl = some (.lst acc) ∧ G a = some (.frz od (.dK kvs)) ∧ (∀ b u, b ≠ a → H b = some u → G b = some u) ∧ RepL F.K (fun _ => False) G acc (rs.take n), ⟨kvs.length, by simp, Nat.zero_le _, [], rfl, upd_same, by rw [upd_ne (Ne.symm hDa)]; exact upd_same, fun b u hb e => ?_, .nil⟩, ?_⟩
        · have : b ≠ Dl := fun z => by rw [z, hD0] at e; cases e
          rw [upd_ne this, upd_ne hb]; exact e
        · rintro n m G ⟨rfl, hn2, acc, hacc, g1, g2, g3, g4⟩
          by_cases hlt : n < kvs.length
          · refine .inr ⟨⟨g2, hlt⟩, fun G2 => ∃ acc, acc.length = n + 1 ∧ G2 Dl = some (.lst acc) ∧ G2 a = some (.frz od (.dK kvs)) ∧ (∀ b u, b ≠ a → H b = some u → G2 b = some u) ∧ RepL F.K (fun _ => False) G2 acc (rs.take (n + 1)), fun G2 h => ⟨kvs.length - (n + 1), by omega, rfl, hlt, h⟩, fun y G1 yl => ?_⟩
            obtain ⟨eG, kk, hk⟩ := yl
            subst eG
            have hw1 : wipe ((wipe σ [i]).set i (some y)) [i] = wipe σ [i] := wipe_same (W := [i]) (by rw [List.length_set, wipe_length]) (fun _ h => h) fun x hx => List.getElem?_set_ne fun z => hx (List.mem_singleton.mpr z.symm)
            refine ⟨hw1, ?_⟩
            unfold tYes
            dsimp only
            rw [if_pos rfl]
            obtain ⟨d, hd, rd⟩ := rv.get (i := n) (v := y) (by rw [List.getElem?_map, hk]; rfl)
            obtain ⟨d', ρ2, ep, himm, hr⟩ := hget n d hd
            have hiσ : i < σ.length := by rw [hlσ]; exact hz1
            refine ⟨⟨F.K, G1, fun _ => True, none⟩, hK, (List.replicate ρ.length none).set i (some (.ro d)), [], .ro d', ρ2, ⟨fun _ => none, ?_⟩, ep, fun y2 H4 ⟨ow4, J4⟩ => ?_⟩
            · refine ⟨by rw [List.length_set, List.length_set, wipe_length, List.length_replicate]; exact hlσ, fun x c e => ?_, fun x c e => ?_, trivial, (fun _ h => nomatch h), (fun _ _ e => nomatch e), (fun _ _ e => nomatch e), (fun b o h _ => h), (fun _ e => nomatch e)⟩
              · by_cases hx : x = i
                · subst hx
                  rw [List.getElem?_set_self (by rw [List.length_replicate]; exact hz1)] at e
                  cases e
                  refine ⟨y, List.getElem?_set_self (by rw [wipe_length]; exact hiσ), ?_⟩
                  refine Rep.keep (N := F.N ow) (H := H) (fun b u e h => ?_) (fun b _ _ => ⟨rfl, (fun z => nomatch z), .inl trivial⟩) rd
                  have hb : b ≠ a := by
                    rintro rfl
                    rw [ha] at e; cases e
                    rcases h with h | ⟨_, z⟩ | ⟨_, _, z⟩
                    · have := (J.slot j _ hcell)
                      obtain ⟨w, q1, a2, q2, q3, _⟩ := this
                      rw [hσ] at q1; cases q1; cases q2
                      rw [h.1] at q3; cases q3
                    · cases z
                    · cases z
                  exact g3 b u hb e
                · rw [List.getElem?_set_ne (Ne.symm hx), List.getElem?_replicate] at e
                  split at e <;> cases e
              · by_cases hx : x = i
                · subst hx
                  rw [List.getElem?_set_self (by rw [List.length_replicate]; exact hz1)] at e
                  cases e; trivial
                · rw [List.getElem?_set_ne (Ne.symm hx), List.getElem?_replicate] at e
                  split at e <;> cases e
            · have kp : ∀ b u, G1 b = some u → H4 b = some u := fun b u e => J4.keep b u e (fun z => nomatch z)
              have hlt2 : acc.length < sizeLine := by omega
              refine ⟨acc, kp _ _ g1, hlt2, acc ++ [y2], by simp [hacc], upd_same, ?_, fun b u hb e => ?_, ?_⟩
              · rw [upd_ne (Ne.symm hDa)]; exact kp _ _ g2
              · have : b ≠ Dl := fun z => by rw [z, hD0] at e; cases e
                rw [upd_ne this]; exact kp _ _ (g3 b u hb e)
              · have r1 : RepL F.K (fun _ => False) (upd H4 Dl (.lst (acc ++ [y2]))) acc (rs.take n) := g4.atomic fun d hd => hat d (List.mem_of_mem_take hd)
                have r2 : Rep F.K (fun _ => False) (upd H4 Dl (.lst (acc ++ [y2]))) y2 d' := Rep.atomic J4.tmp.1 himm
                have : rs.take (n + 1) = rs.take n ++ [d'] := by
                  rw [List.take_add_one, hr]; rfl
                rw [this]
                exact r1.append (.cons r2 .nil)
          · have hge : kvs.length ≤ n := Nat.le_of_not_lt hlt
            have : rs.take n = rs := List.take_of_length_le (by rw [hlen, List.length_map]; omega)
            rw [this] at g4
            exact .inl ⟨⟨g2, hge⟩, Dl, acc, rfl, hD0, g1, g2, g3, g4⟩
      · subst ex
        have I3 := I1.unlock h2 hn
        have hDa : Dl ≠ a := fun z => by rw [z, ha] at hD; cases hD
        have same : Same H (upd H1 a (.dK kvs)) := fun b u e => by
          by_cases hb : b = a
          · subst hb; rw [ha] at e; cases e; exact upd_same
          · rw [upd_ne hb]; exact h3 b u hb e
        have r5 : RepL F.K (fun b => (F.N ow b ∨ H b = none) ∧ b ≠ Dl) (upd H1 a (.dK kvs)) vs rs := h4.atomic hat
        obtain ⟨ow2, J2, _⟩ := J.ret (c := .own (.lst rs)) same ⟨Dl, rfl, hD, vs, by rw [upd_ne hDa]; exact h1, r5⟩
        exact ⟨_, _, I3, rx, k _ _ ⟨ow2, J2⟩⟩
    · cases e1
  · cases e1
end
end Dn


namespace Mir
open PySem L2 Dn

@[simp] def t__law_next_0 : S1 :=
  sSeq (sAugIx D.iadd 0 (pC (.int 1)) (pC (.int 1)))
  (sIf (pB (pOp2 D.ge (pVar 2) (pOp2 D.pow (pC (.int 10)) (pC (.int 18))))) (sSetX 0 (pVar 2) (pC (.int 2))) (sSetX 0 (pOp2 D.mod (pFun D.toInt (pCons (pOp2 D.add (pOp2 D.add (pOp2 D.mul (pOp2 D.ixw (pVar 0) (pC (.int 3))) (pC (.int 48271))) (pOp2 D.mod (pFun D.toInt (pCons (pVar 2) (pNil))) (pC (.int 2147483647)))) (pC (.int 7))) (pNil))) (pC (.int 2147483647))) (pC (.int 3))))
@[simp] def t__law_next_1 : S1 :=
  sSeq (sSetX 0 (pOp2 D.fdiv (pOp2 D.ixw (pVar 0) (pC (.int 2))) (pVar 1)) (pC (.int 2)))
  (sRet (pVar 3))
@[simp] def t__law_next_3 : S1 :=
  sSeq (sSetX 0 (pOp2 D.mod (pFun D.toInt (pCons (pOp2 D.add (pOp2 D.mul (pOp2 D.ixw (pVar 0) (pC (.int 3))) (pC (.int 69621))) (pC (.int 12345))) (pNil))) (pC (.int 2147483647))) (pC (.int 3)))
  (sRet (pOp2 D.mod (pFun D.toInt (pCons (pOp2 D.fdiv (pOp2 D.ixw (pVar 0) (pC (.int 3))) (pC (.int 7))) (pNil))) (pVar 1)))
@[simp] def t__law_next_2 : S1 :=
  sSeq (sIf (pB (pOp2 D.gt (pOp2 D.ixw (pVar 0) (pC (.int 2))) (pC (.int 0)))) (sSeq (sSet 3 (pOp2 D.mod (pFun D.toInt (pCons (pOp2 D.ixw (pVar 0) (pC (.int 2))) (pNil))) (pVar 1)))
  (t__law_next_1)) (sNil))
  (t__law_next_3)
def p__law_next : S1 :=
  sSeq (sIf (qAnd (pB (pOp2 D.eqx (pOp2 D.ixw (pVar 0) (pC (.int 2))) (pC (.int 0)))) (pB (pOp2 D.lt (pOp2 D.ixw (pVar 0) (pC (.int 1))) (pFun D.lenx (pCons (pOp2 D.ixw (pVar 0) (pC (.int 0))) (pNil)))))) (sSeq (sSet 2 (pOp2 D.ixw (pOp2 D.ixw (pVar 0) (pC (.int 0))) (pOp2 D.ixw (pVar 0) (pC (.int 1)))))
  (t__law_next_0)) (sNil))
  (t__law_next_2)
def f__law_next := runIo p__law_next 4 2
@[simp] def t__law_map_2 : S1 :=
  sSeq (sSet 8 (pOp2 D.ixw (pLst (pCons (pC (.bl false)) (pCons (pC (.bl true)) (pCons (pOp2 D.eqx (pCallIo f__law_next 0 (pCons (pC (.int 2)) (pNil))) (pC (.int 0))) (pNil))))) (pVar 2)))
  (sExpr (pMutL opAppend 4 (pCons (pTup (pCons (pOp2 D.add (pC (.str "w")) (pFun D.toStrx (pCons (pVar 5) (pNil)))) (pCons (pCap (pVar 6)) (pCons (pCap (pVar 7)) (pCons (pOp2 D.add (pVar 1) (pCallIo f__law_next 0 (pCons (pC (.int 9)) (pNil)))) (pCons (pCap (pVar 8)) (pNil))))))) (pNil))))
@[simp] def t__law_map_1 : S1 :=
  sSeq (sIf (qAnd (pB (pOp2 D.eqx (pVar 6) (pVar 7))) (pB (pOp2 D.gt (pCallIo f__law_next 0 (pCons (pC (.int 5)) (pNil))) (pC (.int 0))))) (sSet 7 (pOp2 D.ixw (pVar 3) (pOp2 D.mod (pOp2 D.add (pMutL opIndex 3 (pCons (pCap (pVar 6)) (pNil))) (pC (.int 1))) (pFun D.lenx (pCons (pVar 3) (pNil)))))) (sNil))
  (t__law_map_2)
@[simp] def t__law_map_0 : S1 :=
  sSeq (sSet 7 (pOp2 D.ixw (pVar 3) (pCallIo f__law_next 0 (pCons (pFun D.lenx (pCons (pVar 3) (pNil))) (pNil)))))
  (t__law_map_1)
def l__law_map_0 : S1 :=
  sSeq (sSet 6 (pOp2 D.ixw (pVar 3) (pCallIo f__law_next 0 (pCons (pFun D.lenx (pCons (pVar 3) (pNil))) (pNil)))))
  (t__law_map_0)
@[simp] def t__law_map_4 : S1 :=
  sSeq (sFor (iRange1 (pCons (pCallIo f__law_next 0 (pCons (pOp2 D.ixw (pLst (pCons (pC (.int 4)) (pCons (pC (.int 8)) (pCons (pC (.int 12)) (pNil))))) (pCallIo f__law_next 0 (pCons (pC (.int 3)) (pNil)))) (pNil))) (pNil))) (bName 5) (l__law_map_0))
  (sRet (pTup (pCons (pFun D.toTup (pCons (pVar 3) (pNil))) (pCons (pFun D.toTup (pCons (pFun D.srt (pCons (pVar 4) (pNil))) (pNil))) (pNil)))))
@[simp] def t__law_map_3 : S1 :=
  sSeq (sSet 4 (pLst (pNil)))
  (t__law_map_4)
def p__law_map : S1 :=
  sSeq (sSet 3 (pSl (pLst (pCons (pC (.str "a")) (pCons (pC (.str "b_1")) (pCons (pC (.str "c")) (pCons (pC (.str "d")) (pCons (pC (.str "e")) (pCons (pC (.str "f2")) (pCons (pC (.str "g")) (pNil))))))))) (oNone) (oSome (pOp2 D.add (pC (.int 1)) (pCallIo f__law_next 0 (pCons (pC (.int 7)) (pNil)))))))
  (t__law_map_3)
def f__law_map := runIo p__law_map 9 3
def l_arcs_of_0 : S1 :=
  sSeq (sExpr (pMutL opAppend 1 (pCons (pTup (pCons (pCap (pVar 3)) (pCons (pCap (pVar 4)) (pCons (pCap (pVar 5)) (pCons (pTup (pCons (pCap (pVar 2)) (pCons (pC (.bl true)) (pNil)))) (pNil)))))) (pNil))))
  (sIf (qNot (qTru (pVar 6))) (sExpr (pMutL opAppend 1 (pCons (pTup (pCons (pCap (pVar 4)) (pCons (pCap (pVar 3)) (pCons (pCap (pVar 5)) (pCons (pTup (pCons (pCap (pVar 2)) (pCons (pC (.bl false)) (pNil)))) (pNil)))))) (pNil)))) (sNil))
@[simp] def t_arcs_of_0 : S1 :=
  sSeq (sFor (iSeq (pOp2 D.ixw (pVar 0) (pC (.int 1)))) (bSeq 5 (bCons (bName 2) (bCons (bName 3) (bCons (bName 4) (bCons (bName 5) (bCons (bName 6) (bNil))))))) (l_arcs_of_0))
  (sRet (pVar 1))
def p_arcs_of : S1 :=
  sSeq (sSet 1 (pLst (pNil)))
  (t_arcs_of_0)
def f_arcs_of := runDef p_arcs_of 7 1
def kb_steps_from_0 : B1 :=
  bName 2
def kk_steps_from_0 : P1 :=
  pVar 2
def g_steps_from_0 : S2 :=
  g2App 1 (pVar 3) (pTup (pCons (pCap (pVar 4)) (pCons (pCap (pVar 6)) (pNil))))
@[simp] def t_steps_from_0 : S1 :=
  sRet (pVar 1)
def p_steps_from : S1 :=
  sNest 1 (gNew 1 (iSeq (pOp2 D.ixw (pVar 0) (pC (.int 0)))) [2] (kb_steps_from_0) qYes (kk_steps_from_0)) (g2For 1 (iSeq (pCall f_arcs_of (pCons (pVar 0) (pNil)))) (bSeq 4 (bCons (bName 3) (bCons (bName 4) (bCons (bName 5) (bCons (bName 6) (bNil)))))) (g_steps_from_0)) (t_steps_from_0)
def f_steps_from := runDef p_steps_from 7 1
def p_nodes_of : S1 :=
  sRet (pFun D.toList (pCons (pOp2 D.ixw (pVar 0) (pC (.int 0))) (pNil)))
def f_nodes_of := runDef p_nodes_of 1 1
def p_is_first : S1 :=
  sRet (pOp2 D.eqx (pOp2 D.mod (pOp2 D.ixw (pVar 0) (pVar 1)) (pC (.int 2))) (pC (.int 0)))
def f_is_first := runDef p_is_first 2 2
def kb_coming_0 : B1 :=
  bSeq 2 (bCons (bName 12) (bCons (bName 13) (bNil)))
def kp_coming_0 : P1 :=
  pCap (pVar 13)
def kq_coming_0 : PT1 :=
  pB (pOp2 D.inw (pVar 12) (pVar 6))
def l_coming_0 : S1 :=
  sSeq (sSet 11 (pLc (iSeq (pOp2 D.ixw (pVar 5) (pVar 10))) [12, 13] (kb_coming_0) (kq_coming_0) (kp_coming_0)))
  (sIf (qAnd (pB (pOp2 D.ninw (pVar 10) (pVar 6))) (qAnd (qTru (pVar 11)) (qOr (qTru (pCall f_is_first (pCons (pVar 4) (pCons (pVar 10) (pNil))))) (pB (pOp2 D.eqx (pFun D.lenx (pCons (pVar 11) (pNil))) (pFun D.lenx (pCons (pOp2 D.ixw (pVar 5) (pVar 10)) (pNil)))))))) (sSetX 9 (pIf (qTru (pCall f_is_first (pCons (pVar 4) (pCons (pVar 10) (pNil))))) (pOp2 D.ixw (pVar 11) (pC (.int 0))) (pC .non)) (pVar 10)) (sNil))
def l_coming_1 : S1 :=
  sExpr (pMutL opAppend 7 (pCons (pTup (pCons (pCap (pVar 10)) (pCons (pOp2 D.add (pFun D.lenx (pCons (pVar 7) (pNil))) (pC (.int 1))) (pCons (pOp2 D.ixw (pVar 9) (pVar 10)) (pNil))))) (pNil)))
def kb_coming_1 : B1 :=
  bName 10
def kp_coming_1 : P1 :=
  pFun D.lenx (pCons (pVar 7) (pNil))
def kk_coming_1 : P1 :=
  pVar 10
@[simp] def t_coming_2 : S1 :=
  sSeq (sExpr (pUpdD 6 (pDc (iKeysD (pFrz (pVar 9))) [10] (kb_coming_1) (qYes) (kk_coming_1) (kp_coming_1))))
  (sSet 8 (pOp2 D.gt (pFun D.lenx (pCons (pVar 9) (pNil))) (pC (.int 0))))
@[simp] def t_coming_1 : S1 :=
  sSeq (sFor (iSeq (pFun D.srt (pCons (pVar 9) (pNil)))) (bName 10) (l_coming_1))
  (t_coming_2)
@[simp] def t_coming_0 : S1 :=
  sSeq (sFor (iSeq (pCall f_nodes_of (pCons (pVar 0) (pNil)))) (bName 10) (l_coming_0))
  (t_coming_1)
def w_coming_0 : PT1 :=
  qTru (pVar 8)
def l_coming_2 : S1 :=
  sSeq (sSet 9 (pDct0))
  (t_coming_0)
def kb_coming_2 : B1 :=
  bName 10
def kp_coming_2 : P1 :=
  pCap (pVar 10)
def kq_coming_2 : PT1 :=
  pB (pOp2 D.ninw (pVar 10) (pVar 6))
@[simp] def t_coming_8 : S1 :=
  sSeq (sIf (pB (pOp2 D.inw (pVar 2) (pVar 6))) (sRet (pTup (pCons (pC (.str "comes")) (pCons (pFun D.toTup (pCons (pFun D.sortedH (pCons (pVar 7) (pNil))) (pNil))) (pNil))))) (sNil))
  (sRet (pTup (pCons (pC (.str "stays")) (pCons (pFun D.toTup (pCons (pLc (iSeq (pCall f_nodes_of (pCons (pVar 0) (pNil)))) [10] (kb_coming_2) (kq_coming_2) (kp_coming_2)) (pNil))) (pNil)))))
@[simp] def t_coming_7 : S1 :=
  sSeq (sWhile (w_coming_0) (l_coming_2))
  (t_coming_8)
@[simp] def t_coming_6 : S1 :=
  sSeq (sSet 8 (pC (.bl true)))
  (t_coming_7)
@[simp] def t_coming_5 : S1 :=
  sSeq (sSet 7 (pLst (pNil)))
  (t_coming_6)
@[simp] def t_coming_4 : S1 :=
  sSeq (sSet 6 (pDct1 (pCap (pVar 3)) (pC (.int 0))))
  (t_coming_5)
@[simp] def t_coming_3 : S1 :=
  sSeq (sSet 5 (pCall f_steps_from (pCons (pVar 0) (pNil))))
  (t_coming_4)
def p_coming : S1 :=
  sSeq (sSet 4 (pFun D.toDictx (pCons (pVar 1) (pNil))))
  (t_coming_3)
def f_coming := runDef p_coming 14 4
def l__law_steps_0 : S1 :=
  sSeq (sExpr (pMutL opAppend 1 (pCons (pTup (pCons (pCap (pVar 3)) (pCons (pCap (pVar 4)) (pCons (pCap (pVar 5)) (pCons (pTup (pCons (pCap (pVar 2)) (pCons (pC (.bl true)) (pNil)))) (pNil)))))) (pNil))))
  (sIf (qNot (qTru (pVar 6))) (sExpr (pMutL opAppend 1 (pCons (pTup (pCons (pCap (pVar 4)) (pCons (pCap (pVar 3)) (pCons (pCap (pVar 5)) (pCons (pTup (pCons (pCap (pVar 2)) (pCons (pC (.bl false)) (pNil)))) (pNil)))))) (pNil)))) (sNil))
@[simp] def t__law_steps_0 : S1 :=
  sSeq (sFor (iSeq (pOp2 D.ixw (pVar 0) (pC (.int 1)))) (bSeq 5 (bCons (bName 2) (bCons (bName 3) (bCons (bName 4) (bCons (bName 5) (bCons (bName 6) (bNil))))))) (l__law_steps_0))
  (sRet (pVar 1))
def p__law_steps : S1 :=
  sSeq (sSet 1 (pLst (pNil)))
  (t__law_steps_0)
def f__law_steps := runDef p__law_steps 7 1
def p__law_is : S1 :=
  sRet (pAndT (pFun D.isa (pCons (pVar 0) (pCons (pC (.ty "tuple")) (pNil)))) (pAndT (pOp2 D.eqx (pFun D.lenx (pCons (pVar 0) (pNil))) (pVar 2)) (pAndT (pFun D.isa (pCons (pOp2 D.ixw (pVar 0) (pC (.int 0))) (pCons (pC (.ty "str")) (pNil)))) (pOp2 D.eqx (pOp2 D.ixw (pVar 0) (pC (.int 0))) (pVar 1)))))
def f__law_is := runDef p__law_is 3 3
def kb__law_are_nodes_0 : B1 :=
  bName 2
def kp__law_are_nodes_0 : P1 :=
  pCap (pVar 2)
def kq__law_are_nodes_0 : PT1 :=
  qOr (qNot (qTru (pFun D.isa (pCons (pVar 2) (pCons (pC (.ty "str")) (pNil)))))) (pB (pOp2 D.ninw (pVar 2) (pOp2 D.ixw (pVar 0) (pC (.int 0)))))
def p__law_are_nodes : S1 :=
  sSeq (sIf (qOr (qNot (qTru (pFun D.isa (pCons (pVar 1) (pCons (pC (.ty "tuple")) (pNil)))))) (pB (pOp2 D.nex (pLc (iSeq (pVar 1)) [2] (kb__law_are_nodes_0) (kq__law_are_nodes_0) (kp__law_are_nodes_0)) (pLst (pNil))))) (sRet (pC (.bl false))) (sNil))
  (sRet (pOp2 D.eqx (pFun D.toList (pCons (pVar 1) (pNil))) (pOp1 D.sortSet (pVar 1))))
def f__law_are_nodes := runDef p__law_are_nodes 3 2
def p__law_is_whole : S1 :=
  sRet (pAndT (pFun D.isa (pCons (pVar 0) (pCons (pC (.ty "int")) (pNil)))) (pNotT (pFun D.isa (pCons (pVar 0) (pCons (pC (.ty "bool")) (pNil))))))
def f__law_is_whole := runDef p__law_is_whole 1 1
def l__law_same_0 (rec : List D → Option C) : S1 :=
  sIf (qNot (qTru (pCall rec (pCons (pOp2 D.ixw (pVar 0) (pVar 2)) (pCons (pOp2 D.ixw (pVar 1) (pVar 2)) (pNil)))))) (sRet (pC (.bl false))) (sNil)
@[simp] def t__law_same_6 (rec : List D → Option C) : S1 :=
  sSeq (sFor (iRange1 (pCons (pFun D.lenx (pCons (pVar 1) (pNil))) (pNil))) (bName 2) (l__law_same_0 rec))
  (sRet (pC (.bl true)))
@[simp] def t__law_same_5 (rec : List D → Option C) : S1 :=
  sSeq (sIf (pB (pOp2 D.nex (pFun D.lenx (pCons (pVar 0) (pNil))) (pFun D.lenx (pCons (pVar 1) (pNil))))) (sRet (pC (.bl false))) (sNil))
  (t__law_same_6 rec)
@[simp] def t__law_same_4 (rec : List D → Option C) : S1 :=
  sSeq (sIf (qAnd (qTru (pFun D.isa (pCons (pVar 1) (pCons (pC (.ty "list")) (pNil))))) (qNot (qTru (pFun D.isa (pCons (pVar 0) (pCons (pC (.ty "list")) (pNil))))))) (sRet (pC (.bl false))) (sNil))
  (t__law_same_5 rec)
@[simp] def t__law_same_3 (rec : List D → Option C) : S1 :=
  sSeq (sIf (qAnd (qTru (pFun D.isa (pCons (pVar 1) (pCons (pC (.ty "tuple")) (pNil))))) (qNot (qTru (pFun D.isa (pCons (pVar 0) (pCons (pC (.ty "tuple")) (pNil))))))) (sRet (pC (.bl false))) (sNil))
  (t__law_same_4 rec)
@[simp] def t__law_same_2 (rec : List D → Option C) : S1 :=
  sSeq (sIf (qTru (pFun D.isa (pCons (pVar 1) (pCons (pC (.ty "str")) (pNil))))) (sRet (pAndT (pFun D.isa (pCons (pVar 0) (pCons (pC (.ty "str")) (pNil)))) (pOp2 D.eqx (pVar 0) (pVar 1)))) (sNil))
  (t__law_same_3 rec)
@[simp] def t__law_same_1 (rec : List D → Option C) : S1 :=
  sSeq (sIf (qTru (pFun D.isa (pCons (pVar 1) (pCons (pC (.ty "int")) (pNil))))) (sRet (pAndT (pFun D.isa (pCons (pVar 0) (pCons (pC (.ty "int")) (pNil)))) (pAndT (pNotT (pFun D.isa (pCons (pVar 0) (pCons (pC (.ty "bool")) (pNil))))) (pOp2 D.eqx (pVar 0) (pVar 1))))) (sNil))
  (t__law_same_2 rec)
@[simp] def t__law_same_0 (rec : List D → Option C) : S1 :=
  sSeq (sIf (qTru (pFun D.isa (pCons (pVar 1) (pCons (pC (.ty "bool")) (pNil))))) (sRet (pAndT (pFun D.isa (pCons (pVar 0) (pCons (pC (.ty "bool")) (pNil)))) (pOp2 D.eqx (pVar 0) (pVar 1)))) (sNil))
  (t__law_same_1 rec)
def p__law_same (rec : List D → Option C) : S1 :=
  sSeq (sIf (pB (pOp2 D.isNone (pVar 1) (pC .non))) (sRet (pOp2 D.isNone (pVar 0) (pC .non))) (sNil))
  (t__law_same_0 rec)
def f__law_same : Nat → List D → Option C
  | 0 => fun _ => none
  | n + 1 => runDef (p__law_same (f__law_same n)) 3 2
def kb__law_accepts_0 : B1 :=
  bSeq 4 (bCons (bName 9) (bCons (bName 10) (bCons (bName 11) (bCons (bName 12) (bNil)))))
def kp__law_accepts_0 : P1 :=
  pCap (pVar 10)
def kq__law_accepts_0 : PT1 :=
  pB (pOp2 D.eqx (pVar 9) (pVar 7))
def kb__law_accepts_1 : B1 :=
  bName 10
def kp__law_accepts_1 : P1 :=
  pCap (pVar 10)
def kq__law_accepts_1 : PT1 :=
  pB (pOp2 D.inw (pVar 10) (pOp2 D.ixw (pVar 4) (pC (.int 1))))
@[simp] def t__law_accepts_0 : S1 :=
  sSeq (sSet 13 (pLc (iSeq (pVar 8)) [10] (kb__law_accepts_1) (kq__law_accepts_1) (kp__law_accepts_1)))
  (sIf (qOr (qAnd (pB (pOp2 D.eqx (pOp2 D.mod (pOp2 D.ixw (pVar 5) (pVar 7)) (pC (.int 2))) (pC (.int 0)))) (pB (pOp2 D.lt (pFun D.lenx (pCons (pVar 13) (pNil))) (pFun D.lenx (pCons (pVar 8) (pNil)))))) (qAnd (pB (pOp2 D.eqx (pOp2 D.mod (pOp2 D.ixw (pVar 5) (pVar 7)) (pC (.int 2))) (pC (.int 1)))) (qAnd (pB (pOp2 D.eqx (pVar 13) (pLst (pNil)))) (pB (pOp2 D.nex (pVar 8) (pLst (pNil))))))) (sRet (pC (.bl false))) (sNil))
def l__law_accepts_0 : S1 :=
  sSeq (sSet 8 (pLc (iSeq (pVar 6)) [9, 10, 11, 12] (kb__law_accepts_0) (kq__law_accepts_0) (kp__law_accepts_0)))
  (t__law_accepts_0)
@[simp] def t__law_accepts_1 : S1 :=
  sSeq (sFor (iSeq (pOp2 D.ixw (pVar 4) (pC (.int 1)))) (bName 7) (l__law_accepts_0))
  (sRet (pC (.bl true)))
def kb__law_accepts_2 : B1 :=
  bName 14
def kp__law_accepts_2 : P1 :=
  pCap (pVar 14)
def kq__law_accepts_2 : PT1 :=
  qOr (qNot (qTru (pFun D.isa (pCons (pVar 14) (pCons (pC (.ty "tuple")) (pNil)))))) (pB (pOp2 D.nex (pFun D.lenx (pCons (pVar 14) (pNil))) (pC (.int 3))))
def kb__law_accepts_3 : B1 :=
  bName 14
def kp__law_accepts_3 : P1 :=
  pOp2 D.ixw (pVar 14) (pC (.int 0))
def kb__law_accepts_4 : B1 :=
  bName 14
def kp__law_accepts_4 : P1 :=
  pCap (pVar 14)
def kq__law_accepts_4 : PT1 :=
  qOr (qNot (qTru (pCall f__law_is_whole (pCons (pOp2 D.ixw (pVar 14) (pC (.int 1))) (pNil))))) (qOr (pB (pOp2 D.lt (pOp2 D.ixw (pVar 14) (pC (.int 1))) (pC (.int 1)))) (pB (pOp2 D.eqx (pOp2 D.ixw (pVar 14) (pC (.int 0))) (pVar 3))))
def kb__law_accepts_5 : B1 :=
  bName 14
def kp__law_accepts_5 : P1 :=
  pTup (pCons (pOp2 D.ixw (pVar 14) (pC (.int 0))) (pCons (pOp2 D.ixw (pVar 14) (pC (.int 1))) (pNil)))
def kb__law_accepts_6 : B1 :=
  bSeq 4 (bCons (bName 9) (bCons (bName 10) (bCons (bName 11) (bCons (bName 12) (bNil)))))
def kp__law_accepts_6 : P1 :=
  pTup (pCons (pCap (pVar 10)) (pCons (pCap (pVar 12)) (pNil)))
def kq__law_accepts_6 : PT1 :=
  pB (pOp2 D.eqx (pVar 9) (pVar 7))
def kb__law_accepts_7 : B1 :=
  bSeq 2 (bCons (bName 10) (bCons (bName 12) (bNil)))
def kp__law_accepts_7 : P1 :=
  pCap (pVar 12)
def kq__law_accepts_7 : PT1 :=
  qAnd (pB (pOp2 D.inw (pVar 10) (pVar 15))) (pB (pOp2 D.lt (pOp2 D.ixw (pVar 15) (pVar 10)) (pVar 16)))
def kb__law_accepts_8 : B1 :=
  bName 12
def kp__law_accepts_8 : P1 :=
  pCap (pVar 12)
def kq__law_accepts_8 : PT1 :=
  qTru (pCall (f__law_same 12) (pCons (pVar 12) (pCons (pVar 17) (pNil))))
@[simp] def t__law_accepts_3 : S1 :=
  sSeq (sIf (qAnd (pB (pOp2 D.eqx (pOp2 D.mod (pOp2 D.ixw (pVar 5) (pVar 7)) (pC (.int 2))) (pC (.int 0)))) (pB (pOp2 D.eqx (pLc (iSeq (pVar 18)) [12] (kb__law_accepts_8) (kq__law_accepts_8) (kp__law_accepts_8)) (pLst (pNil))))) (sRet (pC (.bl false))) (sNil))
  (sIf (qAnd (pB (pOp2 D.eqx (pOp2 D.mod (pOp2 D.ixw (pVar 5) (pVar 7)) (pC (.int 2))) (pC (.int 1)))) (qOr (pB (pOp2 D.isNotNone (pVar 17) (pC .non))) (qOr (pB (pOp2 D.eqx (pVar 8) (pLst (pNil)))) (pB (pOp2 D.lt (pFun D.lenx (pCons (pVar 18) (pNil))) (pFun D.lenx (pCons (pVar 8) (pNil)))))))) (sRet (pC (.bl false))) (sNil))
@[simp] def t__law_accepts_2 : S1 :=
  sSeq (sSet 18 (pLc (iSeq (pVar 8)) [10, 12] (kb__law_accepts_7) (kq__law_accepts_7) (kp__law_accepts_7)))
  (t__law_accepts_3)
def l__law_accepts_1 : S1 :=
  sSeq (sSet 8 (pLc (iSeq (pVar 6)) [9, 10, 11, 12] (kb__law_accepts_6) (kq__law_accepts_6) (kp__law_accepts_6)))
  (t__law_accepts_2)
@[simp] def t__law_accepts_10 : S1 :=
  sSeq (sFor (iSeq (pOp2 D.ixw (pVar 4) (pC (.int 1)))) (bSeq 3 (bCons (bName 7) (bCons (bName 16) (bCons (bName 17) (bNil))))) (l__law_accepts_1))
  (sRet (pC (.bl true)))
@[simp] def t__law_accepts_9 : S1 :=
  sSeq (sIf (pB (pOp2 D.ninw (pVar 2) (pVar 15))) (sRet (pC (.bl false))) (sNil))
  (t__law_accepts_10)
@[simp] def t__law_accepts_8 : S1 :=
  sSeq (sSet 15 (pFun D.toDictx (pCons (pOp2 D.add (pLc (iSeq (pOp2 D.ixw (pVar 4) (pC (.int 1)))) [14] (kb__law_accepts_5) (qYes) (kp__law_accepts_5)) (pLst (pCons (pTup (pCons (pCap (pVar 3)) (pCons (pC (.int 0)) (pNil)))) (pNil)))) (pNil))))
  (t__law_accepts_9)
@[simp] def t__law_accepts_7 : S1 :=
  sSeq (sIf (qOr (qNot (qTru (pCall f__law_are_nodes (pCons (pVar 0) (pCons (pFun D.toTup (pCons (pLc (iSeq (pOp2 D.ixw (pVar 4) (pC (.int 1)))) [14] (kb__law_accepts_3) (qYes) (kp__law_accepts_3)) (pNil))) (pNil)))))) (pB (pOp2 D.nex (pLc (iSeq (pOp2 D.ixw (pVar 4) (pC (.int 1)))) [14] (kb__law_accepts_4) (kq__law_accepts_4) (kp__law_accepts_4)) (pLst (pNil))))) (sRet (pC (.bl false))) (sNil))
  (t__law_accepts_8)
@[simp] def t__law_accepts_6 : S1 :=
  sSeq (sIf (qOr (qNot (qTru (pCall f__law_is (pCons (pVar 4) (pCons (pC (.str "comes")) (pCons (pC (.int 2)) (pNil))))))) (qOr (qNot (qTru (pFun D.isa (pCons (pOp2 D.ixw (pVar 4) (pC (.int 1))) (pCons (pC (.ty "tuple")) (pNil)))))) (pB (pOp2 D.nex (pLc (iSeq (pOp2 D.ixw (pVar 4) (pC (.int 1)))) [14] (kb__law_accepts_2) (kq__law_accepts_2) (kp__law_accepts_2)) (pLst (pNil)))))) (sRet (pC (.bl false))) (sNil))
  (t__law_accepts_7)
@[simp] def t__law_accepts_5 : S1 :=
  sSeq (sIf (qTru (pCall f__law_is (pCons (pVar 4) (pCons (pC (.str "stays")) (pCons (pC (.int 2)) (pNil)))))) (sSeq (sIf (qOr (qNot (qTru (pCall f__law_are_nodes (pCons (pVar 0) (pCons (pOp2 D.ixw (pVar 4) (pC (.int 1))) (pNil)))))) (qOr (pB (pOp2 D.ninw (pVar 2) (pOp2 D.ixw (pVar 4) (pC (.int 1))))) (pB (pOp2 D.inw (pVar 3) (pOp2 D.ixw (pVar 4) (pC (.int 1))))))) (sRet (pC (.bl false))) (sNil))
  (t__law_accepts_1)) (sNil))
  (t__law_accepts_6)
@[simp] def t__law_accepts_4 : S1 :=
  sSeq (sSet 6 (pCall f__law_steps (pCons (pVar 0) (pNil))))
  (t__law_accepts_5)
def p__law_accepts : S1 :=
  sSeq (sSet 5 (pFun D.toDictx (pCons (pVar 1) (pNil))))
  (t__law_accepts_4)
def f__law_accepts := runDef p__law_accepts 19 5
def p_is_told : S1 :=
  sSeq (sIf (qOr (qNot (qTru (pFun D.isa (pCons (pVar 0) (pCons (pC (.ty "tuple")) (pNil)))))) (pB (pOp2 D.nex (pFun D.lenx (pCons (pVar 0) (pNil))) (pVar 2)))) (sRet (pC (.bl false))) (sNil))
  (sRet (pAndT (pFun D.isa (pCons (pOp2 D.ixw (pVar 0) (pC (.int 0))) (pCons (pC (.ty "str")) (pNil)))) (pOp2 D.inw (pOp2 D.ixw (pVar 0) (pC (.int 0))) (pVar 1))))
def f_is_told := runDef p_is_told 3 3
def kb_are_nodes_0 : B1 :=
  bName 2
def kp_are_nodes_0 : P1 :=
  pCap (pAndT (pFun D.isa (pCons (pVar 2) (pCons (pC (.ty "str")) (pNil)))) (pOp2 D.inw (pVar 2) (pOp2 D.ixw (pVar 0) (pC (.int 0)))))
def p_are_nodes : S1 :=
  sSeq (sIf (qOr (qNot (qTru (pFun D.isa (pCons (pVar 1) (pCons (pC (.ty "tuple")) (pNil)))))) (pB (pOp2 D.inw (pC (.bl false)) (pLc (iSeq (pVar 1)) [2] (kb_are_nodes_0) (qYes) (kp_are_nodes_0))))) (sRet (pC (.bl false))) (sNil))
  (sRet (pOp2 D.eqx (pFun D.toList (pCons (pVar 1) (pNil))) (pOp1 D.sortSet (pVar 1))))
def f_are_nodes := runDef p_are_nodes 3 2
def kb_holds_0 : B1 :=
  bSeq 2 (bCons (bName 5) (bCons (bName 6) (bNil)))
def kp_holds_0 : P1 :=
  pCap (pVar 5)
def kq_holds_0 : PT1 :=
  pB (pOp2 D.inw (pVar 5) (pVar 3))
@[simp] def t_holds_0 : S1 :=
  sSeq (sIf (qTru (pCall f_is_first (pCons (pVar 0) (pCons (pVar 2) (pNil))))) (sRet (pOp2 D.eqx (pFun D.lenx (pCons (pVar 4) (pNil))) (pFun D.lenx (pCons (pOp2 D.ixw (pVar 1) (pVar 2)) (pNil))))) (sNil))
  (sRet (pOrT (pOp2 D.gt (pFun D.lenx (pCons (pVar 4) (pNil))) (pC (.int 0))) (pOp2 D.eqx (pFun D.lenx (pCons (pOp2 D.ixw (pVar 1) (pVar 2)) (pNil))) (pC (.int 0)))))
def p_holds : S1 :=
  sSeq (sSet 4 (pLc (iSeq (pOp2 D.ixw (pVar 1) (pVar 2))) [5, 6] (kb_holds_0) (kq_holds_0) (kp_holds_0)))
  (t_holds_0)
def f_holds := runDef p_holds 7 4
def p_is_whole : S1 :=
  sRet (pAndT (pFun D.isa (pCons (pVar 0) (pCons (pC (.ty "int")) (pNil)))) (pNotT (pFun D.isa (pCons (pVar 0) (pCons (pC (.ty "bool")) (pNil))))))
def f_is_whole := runDef p_is_whole 1 1
def p_is_step : S1 :=
  sRet (pAndT (pFun D.isa (pCons (pVar 0) (pCons (pC (.ty "tuple")) (pNil)))) (pAndT (pOp2 D.eqx (pFun D.lenx (pCons (pVar 0) (pNil))) (pC (.int 2))) (pAndT (pFun D.isa (pCons (pOp2 D.ixw (pVar 0) (pC (.int 0))) (pCons (pC (.ty "str")) (pNil)))) (pFun D.isa (pCons (pOp2 D.ixw (pVar 0) (pC (.int 1))) (pCons (pC (.ty "bool")) (pNil)))))))
def f_is_step := runDef p_is_step 1 1
def kb_leads_0 : B1 :=
  bSeq 2 (bCons (bName 8) (bCons (bName 9) (bNil)))
def kp_leads_0 : P1 :=
  pCap (pVar 9)
def kq_leads_0 : PT1 :=
  qAnd (pB (pOp2 D.inw (pVar 8) (pVar 2))) (pB (pOp2 D.lt (pOp2 D.ixw (pVar 2) (pVar 8)) (pVar 5)))
@[simp] def t_leads_1 : S1 :=
  sSeq (sIf (qTru (pCall f_is_first (pCons (pVar 0) (pCons (pVar 4) (pNil))))) (sRet (pAndT (pCall f_is_step (pCons (pVar 6) (pNil))) (pOp2 D.inw (pVar 6) (pVar 7)))) (sNil))
  (sRet (pAndT (pOp2 D.isNone (pVar 6) (pC .non)) (pChain D.eq D.gt (pFun D.lenx (pCons (pVar 7) (pNil))) (pFun D.lenx (pCons (pOp2 D.ixw (pVar 1) (pVar 4)) (pNil))) (pC (.int 0)))))
@[simp] def t_leads_0 : S1 :=
  sSeq (sSet 7 (pLc (iSeq (pOp2 D.ixw (pVar 1) (pVar 4))) [8, 9] (kb_leads_0) (kq_leads_0) (kp_leads_0)))
  (t_leads_1)
def p_leads : S1 :=
  sSeq (sAsg (pVar 3) (bSeq 3 (bCons (bName 4) (bCons (bName 5) (bCons (bName 6) (bNil))))))
  (t_leads_0)
def f_leads := runDef p_leads 10 4
def kb_judge_coming_0 : B1 :=
  bName 7
def kp_judge_coming_0 : P1 :=
  pCall f_holds (pCons (pVar 5) (pCons (pVar 6) (pCons (pVar 7) (pCons (pOp2 D.ixw (pVar 4) (pC (.int 1))) (pNil)))))
def kb_judge_coming_1 : B1 :=
  bName 8
def kp_judge_coming_1 : P1 :=
  pCap (pAndT (pFun D.isa (pCons (pVar 8) (pCons (pC (.ty "tuple")) (pNil)))) (pOp2 D.eqx (pFun D.lenx (pCons (pVar 8) (pNil))) (pC (.int 3))))
def kb_judge_coming_2 : B1 :=
  bName 8
def kp_judge_coming_2 : P1 :=
  pOp2 D.ixw (pVar 8) (pC (.int 0))
def kb_judge_coming_3 : B1 :=
  bName 8
def kp_judge_coming_3 : P1 :=
  pCall f_is_whole (pCons (pOp2 D.ixw (pVar 8) (pC (.int 1))) (pNil))
def kb_judge_coming_4 : B1 :=
  bSeq 3 (bCons (bName 7) (bCons (bName 10) (bCons (bName 11) (bNil))))
def kp_judge_coming_4 : P1 :=
  pCap (pVar 10)
def kk_judge_coming_4 : P1 :=
  pVar 7
def kp_judge_coming_5 : P1 :=
  pOp2 D.lt (pVar 10) (pC (.int 1))
def kb_judge_coming_6 : B1 :=
  bName 8
def kp_judge_coming_6 : P1 :=
  pCall f_leads (pCons (pVar 5) (pCons (pVar 6) (pCons (pVar 9) (pCons (pVar 8) (pNil)))))
@[simp] def t_judge_coming_8 : S1 :=
  sSeq (sSetX 9 (pC (.int 0)) (pVar 3))
  (sRet (pOp2 D.ninw (pC (.bl false)) (pLc (iSeq (pOp2 D.ixw (pVar 4) (pC (.int 1)))) [8] (kb_judge_coming_6) (qYes) (kp_judge_coming_6))))
@[simp] def t_judge_coming_7 : S1 :=
  sSeq (sIf (qOr (pB (pOp2 D.inw (pVar 3) (pVar 9))) (qOr (pB (pOp2 D.inw (pC (.bl true)) (pValsC 9 10 (kp_judge_coming_5)))) (qAnd (pB (pOp2 D.nex (pVar 2) (pVar 3))) (pB (pOp2 D.ninw (pVar 2) (pVar 9)))))) (sRet (pC (.bl false))) (sNil))
  (t_judge_coming_8)
@[simp] def t_judge_coming_6 : S1 :=
  sSeq (sSet 9 (pDc (iSeq (pOp2 D.ixw (pVar 4) (pC (.int 1)))) [7, 10, 11] (kb_judge_coming_4) (qYes) (kk_judge_coming_4) (kp_judge_coming_4)))
  (t_judge_coming_7)
@[simp] def t_judge_coming_5 : S1 :=
  sSeq (sIf (pB (pOp2 D.inw (pC (.bl false)) (pLc (iSeq (pOp2 D.ixw (pVar 4) (pC (.int 1)))) [8] (kb_judge_coming_3) (qYes) (kp_judge_coming_3)))) (sRet (pC (.bl false))) (sNil))
  (t_judge_coming_6)
@[simp] def t_judge_coming_4 : S1 :=
  sSeq (sIf (qNot (qTru (pCall f_are_nodes (pCons (pVar 0) (pCons (pFun D.toTup (pCons (pLc (iSeq (pOp2 D.ixw (pVar 4) (pC (.int 1)))) [8] (kb_judge_coming_2) (qYes) (kp_judge_coming_2)) (pNil))) (pNil)))))) (sRet (pC (.bl false))) (sNil))
  (t_judge_coming_5)
@[simp] def t_judge_coming_3 : S1 :=
  sSeq (sIf (pB (pOp2 D.inw (pC (.bl false)) (pLc (iSeq (pOp2 D.ixw (pVar 4) (pC (.int 1)))) [8] (kb_judge_coming_1) (qYes) (kp_judge_coming_1)))) (sRet (pC (.bl false))) (sNil))
  (t_judge_coming_4)
@[simp] def t_judge_coming_2 : S1 :=
  sSeq (sIf (qOr (qNot (qTru (pCall f_is_told (pCons (pVar 4) (pCons (pTup (pCons (pC (.str "comes")) (pNil))) (pCons (pC (.int 2)) (pNil))))))) (qNot (qTru (pFun D.isa (pCons (pOp2 D.ixw (pVar 4) (pC (.int 1))) (pCons (pC (.ty "tuple")) (pNil))))))) (sRet (pC (.bl false))) (sNil))
  (t_judge_coming_3)
@[simp] def t_judge_coming_1 : S1 :=
  sSeq (sIf (qTru (pCall f_is_told (pCons (pVar 4) (pCons (pTup (pCons (pC (.str "stays")) (pNil))) (pCons (pC (.int 2)) (pNil)))))) (sSeq (sIf (qOr (qNot (qTru (pCall f_are_nodes (pCons (pVar 0) (pCons (pOp2 D.ixw (pVar 4) (pC (.int 1))) (pNil)))))) (qOr (pB (pOp2 D.ninw (pVar 2) (pOp2 D.ixw (pVar 4) (pC (.int 1))))) (pB (pOp2 D.inw (pVar 3) (pOp2 D.ixw (pVar 4) (pC (.int 1))))))) (sRet (pC (.bl false))) (sNil))
  (sRet (pOp2 D.ninw (pC (.bl false)) (pLc (iSeq (pOp2 D.ixw (pVar 4) (pC (.int 1)))) [7] (kb_judge_coming_0) (qYes) (kp_judge_coming_0))))) (sNil))
  (t_judge_coming_2)
@[simp] def t_judge_coming_0 : S1 :=
  sSeq (sSet 6 (pCall f_steps_from (pCons (pVar 0) (pNil))))
  (t_judge_coming_1)
def p_judge_coming : S1 :=
  sSeq (sSet 5 (pFun D.toDictx (pCons (pVar 1) (pNil))))
  (t_judge_coming_0)
def f_judge_coming := runDef p_judge_coming 12 5
def kb__law_atoms_0 : B1 :=
  bName 3
def kp__law_atoms_0 : P1 :=
  pCap (pVar 3)
def kq__law_atoms_0 : PT1 :=
  pB (pOp2 D.ninw (pVar 3) (pVar 1))
def l__law_atoms_0 (rec : List D → Option C) : S1 :=
  sSet 1 (pOp2 D.add (pVar 1) (pLc (iSeq (pCall rec (pCons (pVar 2) (pNil)))) [3] (kb__law_atoms_0) (kq__law_atoms_0) (kp__law_atoms_0)))
@[simp] def t__law_atoms_2 (rec : List D → Option C) : S1 :=
  sSeq (sFor (iSeq (pVar 0)) (bName 2) (l__law_atoms_0 rec))
  (sRet (pVar 1))
@[simp] def t__law_atoms_1 (rec : List D → Option C) : S1 :=
  sSeq (sSet 1 (pLst (pNil)))
  (t__law_atoms_2 rec)
@[simp] def t__law_atoms_0 (rec : List D → Option C) : S1 :=
  sSeq (sIf (qTru (pFun D.isa (pCons (pVar 0) (pCons (pTup (pCons (pC (.ty "str")) (pCons (pC (.ty "int")) (pNil)))) (pNil))))) (sRet (pLst (pCons (pCap (pVar 0)) (pNil)))) (sNil))
  (t__law_atoms_1 rec)
def p__law_atoms (rec : List D → Option C) : S1 :=
  sSeq (sIf (qOr (qTru (pFun D.isa (pCons (pVar 0) (pCons (pC (.ty "bool")) (pNil))))) (qNot (qTru (pFun D.isa (pCons (pVar 0) (pCons (pTup (pCons (pC (.ty "str")) (pCons (pC (.ty "int")) (pCons (pC (.ty "tuple")) (pNil))))) (pNil))))))) (sRet (pLst (pNil))) (sNil))
  (t__law_atoms_0 rec)
def f__law_atoms : Nat → List D → Option C
  | 0 => fun _ => none
  | n + 1 => runDef (p__law_atoms (f__law_atoms n)) 4 1
def kb__law_exchanged_0 : B1 :=
  bName 3
def kp__law_exchanged_0 (rec : List D → Option C) : P1 :=
  pCall rec (pCons (pVar 3) (pCons (pVar 1) (pCons (pVar 2) (pNil))))
@[simp] def t__law_exchanged_0 (rec : List D → Option C) : S1 :=
  sSeq (sIf (qTru (pFun D.isa (pCons (pVar 0) (pCons (pTup (pCons (pC (.ty "str")) (pCons (pC (.ty "int")) (pNil)))) (pNil))))) (sRet (pIf (pB (pOp2 D.eqx (pVar 0) (pVar 1))) (pVar 2) (pIf (pB (pOp2 D.eqx (pVar 0) (pVar 2))) (pVar 1) (pVar 0)))) (sNil))
  (sRet (pFun D.toTup (pCons (pLc (iSeq (pVar 0)) [3] (kb__law_exchanged_0) (qYes) (kp__law_exchanged_0 rec)) (pNil))))
def p__law_exchanged (rec : List D → Option C) : S1 :=
  sSeq (sIf (qOr (qTru (pFun D.isa (pCons (pVar 0) (pCons (pC (.ty "bool")) (pNil))))) (qNot (qTru (pFun D.isa (pCons (pVar 0) (pCons (pTup (pCons (pC (.ty "str")) (pCons (pC (.ty "int")) (pCons (pC (.ty "tuple")) (pNil))))) (pNil))))))) (sRet (pVar 0)) (sNil))
  (t__law_exchanged_0 rec)
def f__law_exchanged : Nat → List D → Option C
  | 0 => fun _ => none
  | n + 1 => runDef (p__law_exchanged (f__law_exchanged n)) 4 3
def kb__law_turned_about_0 : B1 :=
  bName 4
def kp__law_turned_about_0 : P1 :=
  pCap (pVar 4)
def kq__law_turned_about_0 : PT1 :=
  pB (pOp2 D.eqx (pFun D.isa (pCons (pVar 4) (pCons (pC (.ty "str")) (pNil)))) (pOp2 D.lt (pVar 2) (pC (.int 2))))
@[simp] def t__law_turned_about_3 : S1 :=
  sSeq (sPar 7 8 (pCons (pCallIo f__law_next 0 (pCons (pFun D.lenx (pCons (pVar 1) (pNil))) (pNil))) (pCons (pCallIo f__law_next 0 (pCons (pFun D.lenx (pCons (pVar 1) (pNil))) (pNil))) (pNil))))
  (sRet (pIf (qAnd (pB (pOp2 D.gt (pVar 7) (pC (.int 0)))) (pB (pOp2 D.gt (pVar 8) (pC (.int 0))))) (pOp2 D.add (pOp2 D.add (pSl (pVar 1) (oNone) (oSome (pVar 7))) (pSl (pVar 1) (oSome (pVar 8)) (oSome (pOp2 D.add (pVar 8) (pC (.int 1)))))) (pSl (pVar 1) (oSome (pOp2 D.add (pVar 7) (pC (.int 1)))) (oNone))) (pVar 1)))
@[simp] def t__law_turned_about_2 : S1 :=
  sSeq (sIf (qAnd (pB (pOp2 D.eqx (pFun D.lenx (pCons (pVar 1) (pNil))) (pC (.int 2)))) (qAnd (qTru (pFun D.isa (pCons (pOp2 D.ixw (pVar 1) (pC (.int 1))) (pCons (pC (.ty "tuple")) (pNil))))) (pB (pOp2 D.nex (pOp2 D.ixw (pVar 1) (pC (.int 1))) (pTup (pNil)))))) (sSeq (sPar 7 8 (pCons (pCallIo f__law_next 0 (pCons (pFun D.lenx (pCons (pOp2 D.ixw (pVar 1) (pC (.int 1))) (pNil))) (pNil))) (pCons (pCallIo f__law_next 0 (pCons (pFun D.lenx (pCons (pOp2 D.ixw (pVar 1) (pC (.int 1))) (pNil))) (pNil))) (pNil))))
  (sRet (pTup (pCons (pOp2 D.ixw (pVar 1) (pC (.int 0))) (pCons (pOp2 D.add (pOp2 D.add (pSl (pOp2 D.ixw (pVar 1) (pC (.int 1))) (oNone) (oSome (pVar 7))) (pSl (pOp2 D.ixw (pVar 1) (pC (.int 1))) (oSome (pVar 8)) (oSome (pOp2 D.add (pVar 8) (pC (.int 1)))))) (pSl (pOp2 D.ixw (pVar 1) (pC (.int 1))) (oSome (pOp2 D.add (pVar 7) (pC (.int 1)))) (oNone))) (pNil)))))) (sNil))
  (t__law_turned_about_3)
@[simp] def t__law_turned_about_1 : S1 :=
  sSeq (sIf (qAnd (pB (pOp2 D.lt (pVar 2) (pC (.int 3)))) (pB (pOp2 D.nex (pVar 3) (pLst (pNil))))) (sSeq (sPar 5 6 (pCons (pOp2 D.ixw (pVar 3) (pCallIo f__law_next 0 (pCons (pFun D.lenx (pCons (pVar 3) (pNil))) (pNil)))) (pCons (pOp2 D.ixw (pVar 3) (pCallIo f__law_next 0 (pCons (pFun D.lenx (pCons (pVar 3) (pNil))) (pNil)))) (pNil))))
  (sRet (pOp2 D.add (pSl (pVar 1) (oNone) (oSome (pC (.int 1)))) (pCall (f__law_exchanged 12) (pCons (pSl (pVar 1) (oSome (pC (.int 1))) (oNone)) (pCons (pVar 5) (pCons (pVar 6) (pNil)))))))) (sNil))
  (t__law_turned_about_2)
@[simp] def t__law_turned_about_0 : S1 :=
  sSeq (sSet 3 (pLc (iSeq (pCall (f__law_atoms 12) (pCons (pSl (pVar 1) (oSome (pC (.int 1))) (oNone)) (pNil)))) [4] (kb__law_turned_about_0) (kq__law_turned_about_0) (kp__law_turned_about_0)))
  (t__law_turned_about_1)
def p__law_turned_about : S1 :=
  sSeq (sSet 2 (pCallIo f__law_next 0 (pCons (pC (.int 4)) (pNil))))
  (t__law_turned_about_0)
def f__law_turned_about := runIo p__law_turned_about 9 2
def kb__law_changed_0 : B1 :=
  bName 4
def kp__law_changed_0 : P1 :=
  pOp2 D.ixw (pVar 4) (pC (.int 0))
def kb__law_changed_1 : B1 :=
  bName 7
def kp__law_changed_1 : P1 :=
  pCap (pVar 7)
def kq__law_changed_1 : PT1 :=
  qTru (pFun D.isa (pCons (pVar 7) (pCons (pC (.ty "str")) (pNil))))
@[simp] def t__law_changed_6 : S1 :=
  sSeq (sSet 6 (pOp2 D.add (pVar 6) (pLst (pCons (pOp2 D.add (pVar 2) (pTup (pCons (pOp2 D.ixw (pOp2 D.ixw (pVar 1) (pC (.int 0))) (pC (.int 0))) (pNil)))) (pCons (pOp2 D.add (pVar 2) (pTup (pCons (pTup (pCons (pC (.str "w0")) (pCons (pC (.bl true)) (pNil)))) (pNil)))) (pCons (pFun D.toTup (pCons (pOp1 D.sortSet (pOp2 D.add (pLc (iSeq (pVar 2)) [7] (kb__law_changed_1) (kq__law_changed_1) (kp__law_changed_1)) (pLst (pCons (pOp2 D.ixw (pOp2 D.ixw (pVar 1) (pC (.int 0))) (pOp1 D.neg (pC (.int 1)))) (pNil))))) (pNil))) (pNil)))))))
  (sRet (pOp2 D.ixw (pVar 6) (pCallIo f__law_next 0 (pCons (pFun D.lenx (pCons (pVar 6) (pNil))) (pNil)))))
@[simp] def t__law_changed_5 : S1 :=
  sSeq (sSet 6 (pLst (pCons (pOp2 D.add (pSl (pVar 2) (oNone) (oSome (pVar 5))) (pSl (pVar 2) (oSome (pOp2 D.add (pVar 5) (pC (.int 1)))) (oNone))) (pCons (pOp2 D.add (pVar 2) (pSl (pVar 2) (oNone) (oSome (pC (.int 1))))) (pCons (pOp1 D.rev (pVar 2)) (pCons (pOp2 D.add (pSl (pVar 2) (oSome (pVar 5)) (oNone)) (pSl (pVar 2) (oNone) (oSome (pVar 5)))) (pCons (pFun D.toList (pCons (pVar 2) (pNil))) (pCons (pSl (pVar 2) (oNone) (oSome (pVar 5))) (pCons (pTup (pNil)) (pNil))))))))))
  (t__law_changed_6)
@[simp] def t__law_changed_4 : S1 :=
  sSeq (sSet 5 (pCallIo f__law_next 0 (pCons (pOp2 D.add (pFun D.lenx (pCons (pVar 2) (pNil))) (pC (.int 1))) (pNil))))
  (t__law_changed_5)
@[simp] def t__law_changed_3 : S1 :=
  sSeq (sIf (qNot (qTru (pFun D.isa (pCons (pVar 2) (pCons (pC (.ty "tuple")) (pNil)))))) (sRet (pTup (pNil))) (sNil))
  (t__law_changed_4)
@[simp] def t__law_changed_2 (rec : D → List D → Option (C × D)) : S1 :=
  sSeq (sIf (qAnd (qTru (pFun D.isa (pCons (pVar 2) (pCons (pC (.ty "tuple")) (pNil))))) (qAnd (pB (pOp2 D.nex (pVar 2) (pTup (pNil)))) (pB (pOp2 D.gt (pCallIo f__law_next 0 (pCons (pC (.int 3)) (pNil))) (pC (.int 0)))))) (sSeq (sSet 5 (pCallIo f__law_next 0 (pCons (pFun D.lenx (pCons (pVar 2) (pNil))) (pNil))))
  (sRet (pOp2 D.add (pOp2 D.add (pSl (pVar 2) (oNone) (oSome (pVar 5))) (pTup (pCons (pCallIo rec 0 (pCons (pCap (pVar 1)) (pCons (pOp2 D.ixw (pVar 2) (pVar 5)) (pNil)))) (pNil)))) (pSl (pVar 2) (oSome (pOp2 D.add (pVar 5) (pC (.int 1)))) (oNone))))) (sNil))
  (t__law_changed_3)
@[simp] def t__law_changed_1 (rec : D → List D → Option (C × D)) : S1 :=
  sSeq (sIf (qTru (pFun D.isa (pCons (pVar 2) (pCons (pC (.ty "str")) (pNil))))) (sSeq (sSet 3 (pOp2 D.add (pOp2 D.add (pFun D.toList (pCons (pOp2 D.ixw (pVar 1) (pC (.int 0))) (pNil))) (pLc (iSeq (pOp2 D.ixw (pVar 1) (pC (.int 1)))) [4] (kb__law_changed_0) (qYes) (kp__law_changed_0))) (pLst (pCons (pC (.str "none such")) (pCons (pC (.str "")) (pNil))))))
  (sRet (pIf (pB (pOp2 D.gt (pCallIo f__law_next 0 (pCons (pC (.int 9)) (pNil))) (pC (.int 0)))) (pOp2 D.ixw (pVar 3) (pCallIo f__law_next 0 (pCons (pFun D.lenx (pCons (pVar 3) (pNil))) (pNil)))) (pOp2 D.ixw (pLst (pCons (pC (.int 5)) (pCons (pC .non) (pCons (pTup (pCons (pC (.str "a")) (pNil))) (pNil))))) (pCallIo f__law_next 0 (pCons (pC (.int 3)) (pNil))))))) (sNil))
  (t__law_changed_2 rec)
@[simp] def t__law_changed_0 (rec : D → List D → Option (C × D)) : S1 :=
  sSeq (sIf (qOr (pB (pOp2 D.isNone (pVar 2) (pC .non))) (qTru (pFun D.isa (pCons (pVar 2) (pCons (pC (.ty "int")) (pNil)))))) (sRet (pOp2 D.ixw (pLst (pCons (pOp2 D.add (pOrT (pVar 2) (pC (.int 0))) (pC (.int 1))) (pCons (pOp2 D.sub (pOrT (pVar 2) (pC (.int 0))) (pC (.int 1))) (pCons (pC (.int 0)) (pCons (pC .non) (pCons (pOp2 D.eqx (pVar 2) (pC (.int 1))) (pCons (pFun D.toStrx (pCons (pVar 2) (pNil))) (pNil)))))))) (pCallIo f__law_next 0 (pCons (pC (.int 6)) (pNil))))) (sNil))
  (t__law_changed_1 rec)
def p__law_changed (rec : D → List D → Option (C × D)) : S1 :=
  sSeq (sIf (qTru (pFun D.isa (pCons (pVar 2) (pCons (pC (.ty "bool")) (pNil))))) (sRet (pOp2 D.ixw (pLst (pCons (pNotT (pVar 2)) (pCons (pFun D.toInt (pCons (pVar 2) (pNil))) (pNil)))) (pCallIo f__law_next 0 (pCons (pC (.int 2)) (pNil))))) (sNil))
  (t__law_changed_0 rec)
def f__law_changed : Nat → D → List D → Option (C × D)
  | 0 => fun _ _ => none
  | n + 1 => runIo (p__law_changed (f__law_changed n)) 8 3
@[simp] def t__law_odd_1 : S1 :=
  sSeq (sIf (pB (pOp2 D.gt (pVar 4) (pC (.int 4)))) (sRet (pCallIo f__law_turned_about 0 (pCons (pCap (pVar 2)) (pNil)))) (sNil))
  (sRet (pIf (pB (pOp2 D.eqx (pVar 4) (pC (.int 0)))) (pOp2 D.ixw (pVar 3) (pCallIo f__law_next 0 (pCons (pFun D.lenx (pCons (pVar 3) (pNil))) (pNil)))) (pCallIo (f__law_changed 12) 0 (pCons (pCap (pVar 1)) (pCons (pCap (pVar 2)) (pNil))))))
@[simp] def t__law_odd_0 : S1 :=
  sSeq (sSet 4 (pCallIo f__law_next 0 (pCons (pC (.int 9)) (pNil))))
  (t__law_odd_1)
def p__law_odd : S1 :=
  sSeq (sSet 3 (pLst (pCons (pC .non) (pCons (pC (.str "")) (pCons (pC (.str "yes")) (pCons (pDct0) (pCons (pTup (pNil)) (pCons (pSl (pVar 2) (oNone) (oSome (pC (.int 1)))) (pCons (pFun D.toList (pCons (pVar 2) (pNil))) (pCons (pOp2 D.add (pVar 2) (pTup (pCons (pC (.int 0)) (pNil)))) (pCons (pOp2 D.add (pTup (pCons (pLst (pCons (pOp2 D.ixw (pVar 2) (pC (.int 0))) (pNil))) (pNil))) (pSl (pVar 2) (oSome (pC (.int 1))) (oNone))) (pCons (pOp2 D.add (pTup (pCons (pC (.str "none such")) (pNil))) (pSl (pVar 2) (oSome (pC (.int 1))) (oNone))) (pCons (pC (.int 7)) (pNil))))))))))))))
  (t__law_odd_0)
def f__law_odd := runIo p__law_odd 5 3
def kb_law_0 : B1 :=
  bName 6
def kp_law_0 : P1 :=
  pTup (pCons (pCap (pVar 6)) (pCons (pOp2 D.sub (pCallIo f__law_next 1 (pCons (pC (.int 13)) (pNil))) (pC (.int 6))) (pNil)))
def l_law_0 : S1 :=
  sSeq (sSet 11 (pIf (pB (pOp2 D.lt (pVar 10) (pC (.int 10)))) (pCallIo f__law_odd 1 (pCons (pCap (pVar 4)) (pCons (pCap (pVar 9)) (pNil)))) (pOp2 D.ixw (pVar 2) (pOp2 D.sub (pVar 10) (pC (.int 10))))))
  (sIf (qNot (qTru (pCall (f__law_same 12) (pCons (pCall f_judge_coming (pCons (pVar 4) (pCons (pVar 5) (pCons (pVar 7) (pCons (pVar 8) (pCons (pVar 11) (pNil))))))) (pCons (pCall f__law_accepts (pCons (pVar 4) (pCons (pVar 5) (pCons (pVar 7) (pCons (pVar 8) (pCons (pVar 11) (pNil))))))) (pNil)))))) (sRet (pC (.bl false))) (sNil))
@[simp] def t_law_5 : S1 :=
  sSeq (sSet 2 (pOp2 D.add (pSl (pVar 2) (oSome (pOp1 D.neg (pC (.int 3)))) (oNone)) (pLst (pCons (pCap (pVar 9)) (pNil)))))
  (sFor (iRange1 (pCons (pOp2 D.add (pC (.int 10)) (pFun D.lenx (pCons (pVar 2) (pNil)))) (pNil))) (bName 10) (l_law_0))
@[simp] def t_law_4 : S1 :=
  sSeq (sIf (qOr (qNot (qTru (pCall f__law_accepts (pCons (pVar 4) (pCons (pVar 5) (pCons (pVar 7) (pCons (pVar 8) (pCons (pVar 9) (pNil))))))))) (pB (pOp2 D.notBl (pCall f_judge_coming (pCons (pVar 4) (pCons (pVar 5) (pCons (pVar 7) (pCons (pVar 8) (pCons (pVar 9) (pNil))))))) (pC (.bl true))))) (sRet (pC (.bl false))) (sNil))
  (t_law_5)
@[simp] def t_law_3 : S1 :=
  sSeq (sSet 9 (pCall f_coming (pCons (pVar 4) (pCons (pVar 5) (pCons (pVar 7) (pCons (pVar 8) (pNil)))))))
  (t_law_4)
@[simp] def t_law_2 : S1 :=
  sSeq (sSet 8 (pOp2 D.ixw (pOp2 D.ixw (pVar 4) (pC (.int 0))) (pCallIo f__law_next 1 (pCons (pFun D.lenx (pCons (pOp2 D.ixw (pVar 4) (pC (.int 0))) (pNil))) (pNil)))))
  (t_law_3)
@[simp] def t_law_1 : S1 :=
  sSeq (sSet 7 (pOp2 D.ixw (pOp2 D.ixw (pVar 4) (pC (.int 0))) (pCallIo f__law_next 1 (pCons (pFun D.lenx (pCons (pOp2 D.ixw (pVar 4) (pC (.int 0))) (pNil))) (pNil)))))
  (t_law_2)
@[simp] def t_law_0 : S1 :=
  sSeq (sSet 5 (pFun D.toTup (pCons (pLc (iSeq (pOp2 D.ixw (pVar 4) (pC (.int 0)))) [6] (kb_law_0) (qYes) (kp_law_0)) (pNil))))
  (t_law_1)
def l_law_1 : S1 :=
  sSeq (sSet 4 (pCallIo f__law_map 1 (pCons (pC (.int 1)) (pCons (pC (.int 2)) (pNil)))))
  (t_law_0)
@[simp] def t_law_7 : S1 :=
  sSeq (sFor (iRange1 (pCons (pC (.int 3)) (pNil))) (bName 3) (l_law_1))
  (sRet (pC (.bl true)))
@[simp] def t_law_6 : S1 :=
  sSeq (sSet 2 (pLst (pNil)))
  (t_law_7)
def p_law : S1 :=
  sSeq (sSet 1 (pLst (pCons (pFun D.toList (pCons (pVar 0) (pNil))) (pCons (pC (.int 0)) (pCons (pC (.int 0)) (pCons (pC (.int 1)) (pNil)))))))
  (t_law_6)
def f_law := runDef p_law 12 1
end Mir

/-! maps as data, and what the mirrors' words tell of them -/
namespace Dn
open PySem L2
section
variable {ρ ρ1 : Env} {x y : D} {b : Bool}
@[simp] theorem o_okd1 {k : Nat} : D.okd k .non = true := by unfold D.okd; rfl
@[simp] theorem o_okd2 {k : Nat} : D.okd k (.bl b) = true := by unfold D.okd; rfl
@[simp] theorem o_okd3 {k : Nat} {i : Int} : D.okd k (.int i) = true := by unfold D.okd; rfl
@[simp] theorem o_okd4 {k : Nat} {s : Str} : D.okd k (.str s) = true := by unfold D.okd; rfl
@[simp] theorem o_okd5 {k : Nat} {l : List D} : D.okd (k + 1) (.tup l) = D.okdL k l := by rw [D.okd]
@[simp] theorem o_okd6 {k : Nat} {l : List D} : D.okd (k + 1) (.lst l) = D.okdL k l := by rw [D.okd]
@[simp] theorem o_okd5' {l : List D} : D.okd 50 (.tup l) = D.okdL 49 l := o_okd5
@[simp] theorem o_okd6' {l : List D} : D.okd 50 (.lst l) = D.okdL 49 l := o_okd6
@[simp] theorem o_okdL0 {k : Nat} : D.okdL k [] = true := by rw [D.okdL]
@[simp] theorem o_okdL1 {k : Nat} {l : List D} : D.okdL k (x :: l) = (D.okd k x && D.okdL k l) := by rw [D.okdL]
@[simp] theorem o_okdLs {k : Nat} {α : Type} {f : α → Str} {l : List α} : D.okdL k (l.map fun a => .str (f a)) = true := by simp [D.okdL_eq]
@[simp] theorem o_okdLs' {k : Nat} {l : List Str} : D.okdL k (l.map D.str) = true := by simp [D.okdL_eq]
@[simp] theorem o_okdLb {k : Nat} {l : List Bool} : D.okdL k (l.map D.bl) = true := by simp [D.okdL_eq]
@[simp] theorem o_okdLm {k : Nat} {α : Type} {f : α → D} {l : List α} : D.okdL k (l.map f) = l.all fun a => D.okd k (f a) := by rw [D.okdL_eq, List.all_map]; rfl
@[simp] theorem o_okdA {k : Nat} {l m : List D} : D.okdL k (l ++ m) = (D.okdL k l && D.okdL k m) := by simp [D.okdL_eq]
@[simp] theorem o_eqx : D.eqx x y = if (x.okd 50 && y.okd 50) = true then some (.ro (.bl (D.eqv x y))) else none := rfl
@[simp] theorem o_nex : D.nex x y = if (x.okd 50 && y.okd 50) = true then some (.ro (.bl (!D.eqv x y))) else none := rfl
@[simp] theorem o_inzL {l : List D} : D.inz x (.lst l) = if (x.okd 50 && D.okdL 50 l) = true then some (.ro (.bl (l.any fun z => D.eqv z x))) else none := rfl
@[simp] theorem o_inzT {l : List D} : D.inz x (.tup l) = if (x.okd 50 && D.okdL 50 l) = true then some (.ro (.bl (l.any fun z => D.eqv z x))) else none := rfl
@[simp] theorem o_ninzL {l : List D} : D.ninz x (.lst l) = if (x.okd 50 && D.okdL 50 l) = true then some (.ro (.bl (!l.any fun z => D.eqv z x))) else none := rfl
@[simp] theorem o_ninzT {l : List D} : D.ninz x (.tup l) = if (x.okd 50 && D.okdL 50 l) = true then some (.ro (.bl (!l.any fun z => D.eqv z x))) else none := rfl
@[simp] theorem o_eqvI {i j : Int} : D.eqv (.int i) (.int j) = decide (i = j) := by simp [D.eqv]
@[simp] theorem o_eqvS {i j : Str} : D.eqv (.str i) (.str j) = decide (i = j) := by simp [D.eqv]
@[simp] theorem o_eqvB {i j : Bool} : D.eqv (.bl i) (.bl j) = decide (i = j) := by simp [D.eqv]
@[simp] theorem o_eqvT {i j : List D} : D.eqv (.tup i) (.tup j) = D.eqvL i j := by simp [D.eqv]
@[simp] theorem o_eqvL {i j : List D} : D.eqv (.lst i) (.lst j) = D.eqvL i j := by simp [D.eqv]
@[simp] theorem o_eqvL0 {j : List D} : D.eqvL [] j = j.isEmpty := by simp [D.eqvL]
@[simp] theorem o_eqvL0' {j : List D} : D.eqvL j [] = j.isEmpty := by cases j <;> simp [D.eqvL]
@[simp] theorem o_eqvL1 {i j : List D} : D.eqvL (x :: i) (y :: j) = (D.eqv x y && D.eqvL i j) := by simp [D.eqvL]
@[simp] theorem o_eqvLs : ∀ {i j : List Str}, D.eqvL (i.map D.str) (j.map D.str) = decide (i = j)
  | [], [] => by simp
  | [], _ :: _ => by simp
  | _ :: _, [] => by simp
  | a :: i, b :: j => by simp [o_eqvLs (i := i) (j := j)]
@[simp] theorem o_anyS {s : Str} : ∀ {l : List Str}, ((l.map D.str).any fun z => D.eqv z (.str s)) = decide (s ∈ l)
  | [] => by simp
  | a :: l => by simp only [List.map_cons, List.any_cons, o_anyS (l := l), o_eqvS, List.mem_cons]; rw [decide_eq_decide.mpr (eq_comm (a := a) (b := s)), ← Bool.decide_or]
@[simp] theorem o_anyB {s : Bool} : ∀ {l : List Bool}, ((l.map D.bl).any fun z => D.eqv z (.bl s)) = decide (s ∈ l)
  | [] => by simp
  | a :: l => by simp only [List.map_cons, List.any_cons, o_anyB (l := l), o_eqvB, List.mem_cons]; rw [decide_eq_decide.mpr (eq_comm (a := a) (b := s)), ← Bool.decide_or]
@[simp] theorem o_anyS' {s : Str} {l : List Str} : l.any ((fun z => D.eqv z (.str s)) ∘ D.str) = decide (s ∈ l) := by rw [← List.any_map, o_anyS]
@[simp] theorem o_anyB' {s : Bool} {l : List Bool} : l.any ((fun z => D.eqv z (.bl s)) ∘ D.bl) = decide (s ∈ l) := by rw [← List.any_map, o_anyB]
@[simp] theorem o_strsD : ∀ {l : List Str}, strsD (l.map D.str) = some l
  | [] => rfl
  | a :: l => by simp [strsD, o_strsD (l := l)]
@[simp] theorem o_sortSetL {l : List Str} : D.sortSet (.lst (l.map .str)) = if l.length ≤ 1000 then some (.own (.lst ((DnS.sortSet l).map .str))) else none := by simp [D.sortSet]
@[simp] theorem o_sortSetT {l : List Str} : D.sortSet (.tup (l.map .str)) = if l.length ≤ 1000 then some (.own (.lst ((DnS.sortSet l).map .str))) else none := by simp [D.sortSet]
@[simp] theorem o_ixxL {l : List D} {i : Int} : D.ixx (.lst l) (.int i) = (atI l i).map .ro := rfl
@[simp] theorem o_ixxT {l : List D} {i : Int} : D.ixx (.tup l) (.int i) = (atI l i).map .ro := rfl
@[simp] theorem o_lenxL {l : List D} : D.lenx [.lst l] = some (.ro (.int l.length)) := rfl
@[simp] theorem o_lenxT {l : List D} : D.lenx [.tup l] = some (.ro (.int l.length)) := rfl
@[simp] theorem o_lenxD {l : List (Key × D)} : D.lenx [.dct l] = some (.ro (.int l.length)) := rfl
@[simp] theorem o_isaI : D.isa [x, .ty "int"] = (D.tyName x).map fun m => .ro (.bl (m = "int" || m = "bool")) := by
  show (D.tyName x).bind _ = _
  cases D.tyName x <;> rfl
@[simp] theorem o_isaB : D.isa [x, .ty "bool"] = (D.tyName x).map fun m => .ro (.bl (decide (m = "bool"))) := by
  show (D.tyName x).bind _ = _
  cases D.tyName x <;> rfl
@[simp] theorem o_isaS : D.isa [x, .ty "str"] = (D.tyName x).map fun m => .ro (.bl (decide (m = "str"))) := by
  show (D.tyName x).bind _ = _
  cases D.tyName x <;> rfl
@[simp] theorem o_isaT : D.isa [x, .ty "tuple"] = (D.tyName x).map fun m => .ro (.bl (decide (m = "tuple"))) := by
  show (D.tyName x).bind _ = _
  cases D.tyName x <;> rfl
@[simp] theorem o_isaL : D.isa [x, .ty "list"] = (D.tyName x).map fun m => .ro (.bl (decide (m = "list"))) := by
  show (D.tyName x).bind _ = _
  cases D.tyName x <;> rfl
@[simp] theorem o_isa3 : D.isa [x, .tup [.ty "str", .ty "int", .ty "tuple"]] = (D.tyName x).map fun m => .ro (.bl (decide (m = "str") || ((m = "int" || m = "bool") || decide (m = "tuple")))) := by
  show (D.tyName x).bind _ = _
  cases D.tyName x <;> simp [isAnyD, tyIs]
@[simp] theorem o_isa2 : D.isa [x, .tup [.ty "str", .ty "int"]] = (D.tyName x).map fun m => .ro (.bl (decide (m = "str") || (m = "int" || m = "bool"))) := by
  show (D.tyName x).bind _ = _
  cases D.tyName x <;> simp [isAnyD, tyIs]
@[simp] theorem o_ty7 {l : List (Key × D)} : D.tyName (.dct l) = some "dict" := rfl
@[simp] theorem o_ty8 {l : List (Key × D)} : D.tyName (.fdc l) = some "dict" := rfl
@[simp] theorem o_dct0 : pDct0 ρ = some (.own (.dct []), ρ) := rfl
end
section
variable {α : Type} {a b c : α} {l : List α}
@[simp] theorem atI_0 : atI (a :: l) 0 = some a := by simp [atI, ixN]
@[simp] theorem atI_1 : atI (a :: b :: l) 1 = some b := by
  have h : (1 : Int) < (l.length : Int) + 1 + 1 := by omega
  simp [atI, ixN, h]
@[simp] theorem atI_2 : atI (a :: b :: c :: l) 2 = some c := by
  have h : (2 : Int) < (l.length : Int) + 1 + 1 + 1 := by omega
  simp [atI, ixN, h]
end
/-! loops over encoded lists -/
theorem loop_pre {α : Type} {b : B1} {s : S1} (enc : α → D) (I : List α → Env → Prop) {xs : List α} {ρ0 : Env} (h0 : I [] ρ0)
    (step : ∀ pre x post ρ, xs = pre ++ x :: post → I pre ρ → ∃ ρ2, ((b (enc x) ρ).bind fun ρ1 => s ρ1) = some (.nx ρ2) ∧ I (pre ++ [x]) ρ2) : ∃ ρ', loopL b s (xs.map enc) ρ0 = some (.nx ρ') ∧ I xs ρ' := by
  obtain ⟨ρ', h1, h2⟩ := loop_inv (b := b) (s := s) (fun k ρ => I (xs.take k) ρ) (items := xs.map enc) (ρ0 := ρ0) (by simpa using h0) fun k d ρ hk hd hI => by
    rw [List.length_map] at hk
    rw [List.getElem?_map, List.getElem?_eq_getElem hk] at hd
    cases hd
    obtain ⟨ρ2, e, h⟩ := step (xs.take k) xs[k] (xs.drop (k + 1)) ρ (by simp) hI
    exact ⟨ρ2, e, by rw [List.take_succ_eq_append_getElem hk]; exact h⟩
  exact ⟨ρ', h1, by simpa using h2⟩
/-! comprehensions -/
def bodyC (vs : List Nat) (b : B1) (q : PT1) (p : P1) (d : D) (ρ : Env) : Option (Option D × Env) := (b d ρ).bind fun ρ1 => (q ρ1).bind fun t => if t.1 = true then (p t.2).bind fun a => (cap a.1 a.2).bind fun a2 => some (some a2.1.d, forget vs a2.2) else some (none, forget vs t.2)
theorem loopC_body {vs : List Nat} {b : B1} {q : PT1} {p : P1} {g : D → Option D} {ρ : Env} : ∀ {ds : List D}, (∀ d ∈ ds, bodyC vs b q p d ρ = some (g d, ρ)) → loopC vs b q p ds ρ = some (ds.filterMap g, ρ)
  | [], _ => rfl
  | d :: ds, h => by
    have ih := loopC_body (vs := vs) (b := b) (q := q) (p := p) (g := g) (ρ := ρ) (ds := ds) fun x hx => h x (List.mem_cons_of_mem _ hx)
    have h1 := h d (List.mem_cons_self ..)
    unfold bodyC at h1
    unfold loopC
    simp only [Option.bind_eq_some_iff] at h1
    obtain ⟨ρ1, e1, t, e2, h1⟩ := h1
    rw [e1, Option.bind_some, e2, Option.bind_some]
    by_cases ht : t.1 = true
    · rw [if_pos ht] at h1 ⊢
      simp only [Option.bind_eq_some_iff] at h1
      obtain ⟨a, e3, a2, e4, e5⟩ := h1
      cases e5' : g d with
      | none => rw [e5'] at e5; cases e5
      | some x =>
        rw [e5'] at e5
        simp only [Option.some.injEq, Prod.mk.injEq] at e5
        rw [e3, Option.bind_some, e4, Option.bind_some, e5.2, ih, List.filterMap_cons_some e5', ← e5.1]; rfl
    · rw [if_neg ht] at h1 ⊢
      cases e5' : g d with
      | none => 
        rw [e5'] at h1
        simp only [Option.some.injEq, Prod.mk.injEq] at h1
        rw [h1.2, ih, List.filterMap_cons_none e5']
      | some x => rw [e5'] at h1; simp at h1
/-- over an encoded list: a value for each item, or none -/
theorem loopC_enc {α : Type} {vs : List Nat} {b : B1} {q : PT1} {p : P1} (enc : α → D) (g : α → Option D) {ρ : Env} {xs : List α} (h : ∀ a ∈ xs, bodyC vs b q p (enc a) ρ = some (g a, ρ)) : loopC vs b q p (xs.map enc) ρ = some (xs.filterMap g, ρ) := by
  induction xs with
  | nil => rfl
  | cons a xs ih =>
    have ih := ih fun x hx => h x (List.mem_cons_of_mem _ hx)
    have h1 := h a (List.mem_cons_self ..)
    unfold bodyC at h1
    rw [List.map_cons]
    unfold loopC
    simp only [Option.bind_eq_some_iff] at h1
    obtain ⟨ρ1, e1, t, e2, h1⟩ := h1
    rw [e1, Option.bind_some, e2, Option.bind_some]
    by_cases ht : t.1 = true
    · rw [if_pos ht] at h1 ⊢
      simp only [Option.bind_eq_some_iff] at h1
      obtain ⟨a1, e3, a2, e4, e5⟩ := h1
      cases e5' : g a with
      | none => rw [e5'] at e5; cases e5
      | some x =>
        rw [e5'] at e5
        simp only [Option.some.injEq, Prod.mk.injEq] at e5
        rw [e3, Option.bind_some, e4, Option.bind_some, e5.2, ih, List.filterMap_cons_some e5', ← e5.1]; rfl
    · rw [if_neg ht] at h1 ⊢
      cases e5' : g a with
      | none => 
        rw [e5'] at h1
        simp only [Option.some.injEq, Prod.mk.injEq] at h1
        rw [h1.2, ih, List.filterMap_cons_none e5']
      | some x => rw [e5'] at h1; simp at h1
/-- each item gives a value -/
theorem loopC_encM {α : Type} {vs : List Nat} {b : B1} {q : PT1} {p : P1} (enc : α → D) (g : α → D) {ρ : Env} {xs : List α} (h : ∀ a ∈ xs, bodyC vs b q p (enc a) ρ = some (some (g a), ρ)) : loopC vs b q p (xs.map enc) ρ = some (xs.map g, ρ) := by
  rw [loopC_enc enc (fun a => some (g a)) h]; simp
/-- those that pass give a value -/
theorem loopC_encF {α : Type} {vs : List Nat} {b : B1} {q : PT1} {p : P1} (enc : α → D) (t : α → Bool) (g : α → D) {ρ : Env} {xs : List α} (h : ∀ a ∈ xs, bodyC vs b q p (enc a) ρ = some (if t a = true then some (g a) else none, ρ)) : loopC vs b q p (xs.map enc) ρ = some ((xs.filter t).map g, ρ) := by
  rw [loopC_enc enc _ h]
  congr 2
  clear h
  induction xs with
  | nil => rfl
  | cons a xs ih => by_cases ht : t a = true <;> simp [ht, List.filterMap_cons, List.filter_cons, ih]
/-! the words that DnM does not speak of -/
section
variable {ρ ρ1 : Env} {d x y : D} {c : C} {i j n : Nat} {b : Bool} {p pa pb pc pi : P1} {ps : PAs}
def sxC (j : Nat) (p pi : P1) (ρ : Env) : D → Option Out
  | .dct _ => sSetK j p pi ρ
  | _ => sSetIx j p pi ρ
@[simp] theorem v_setX : sSetX j p pi ρ = (p ρ).bind fun a => (cap a.1 a.2).bind fun b => (ioData b.2 j).bind fun d0 => sxC j p pi ρ d0.2 := by
  unfold sSetX sxC; rfl
@[simp] theorem v_sxL {l : List D} : sxC j p pi ρ (.lst l) = sSetIx j p pi ρ := rfl
@[simp] theorem v_sxD {l : List (Key × D)} : sxC j p pi ρ (.dct l) = (p ρ).bind fun a => (cap a.1 a.2).bind fun b => (ioData b.2 j).bind fun _ => (pi b.2).bind fun i => (ioData i.2 j).bind fun d => skC b.1.d i.2 j d i.1 := rfl
@[simp] theorem v_skC {ds : List (Key × D)} {s : Str} : skC d ρ j (b, .dct ds) (.ro (.str s)) = if decide (ds.length < 16777216) = true then some (.nx (ρ.set j (some (ioCell b (.dct (putD ds (.inr s) d)))))) else none := rfl
@[simp] theorem v_skCi {ds : List (Key × D)} {s : Int} : skC d ρ j (b, .dct ds) (.ro (.int s)) = if decide (ds.length < 16777216) = true then some (.nx (ρ.set j (some (ioCell b (.dct (putD ds (.inl s) d)))))) else none := rfl
def spC (i j : Nat) (ρ : Env) : List C → Option Out
  | [.ro u, .ro w] => (setE j (.ro w) ρ).bind fun ρ1 => (setE i (.ro u) ρ1).map .nx
  | _ => none
@[simp] theorem v_sPar : sPar i j ps ρ = (ps ρ).bind fun a => spC i j a.2 a.1 := by
  unfold sPar; congr 1
@[simp] theorem v_spC : spC i j ρ [.ro x, .ro y] = (setE j (.ro y) ρ).bind fun ρ1 => (setE i (.ro x) ρ1).map .nx := rfl
def frC (ρ : Env) : C → Option (C × Env)
  | .view i => match ρ[i]? with
    | some (some (.own (.dct ds))) => some (.ro (.fdc ds), ρ.set i (some (.ro (.fdc ds))))
    | _ => none
  | .own (.dct ds) => some (.ro (.fdc ds), ρ)
  | .ro (.fdc ds) => some (.ro (.fdc ds), ρ)
  | _ => none
@[simp] theorem v_frz : pFrz p ρ = (p ρ).bind fun a => frC a.2 a.1 := rfl
@[simp] theorem v_frC1 {ds : List (Key × D)} : frC ρ (.own (.dct ds)) = some (.ro (.fdc ds), ρ) := rfl
@[simp] theorem v_frC2 {ds : List (Key × D)} : frC ρ (.ro (.fdc ds)) = some (.ro (.fdc ds), ρ) := rfl
def frV (i : Nat) (ρ : Env) : Option (Option C) → Option (C × Env)
  | some (some (.own (.dct ds))) => some (.ro (.fdc ds), ρ.set i (some (.ro (.fdc ds))))
  | _ => none
@[simp] theorem v_frC3 : frC ρ (.view i) = frV i ρ ρ[i]? := by
  unfold frC frV; rfl
@[simp] theorem v_frV {ds : List (Key × D)} : frV i ρ (some (some (.own (.dct ds)))) = some (.ro (.fdc ds), ρ.set i (some (.ro (.fdc ds)))) := rfl
def ivC (ρ : Env) : C → Option (List D × Env)
  | .ro (.fdc ds) => some (ds.map fun q => q.2, ρ)
  | _ => none
@[simp] theorem v_vals : iValsD p ρ = (p ρ).bind fun a => ivC a.2 a.1 := rfl
@[simp] theorem v_ivC {ds : List (Key × D)} : ivC ρ (.ro (.fdc ds)) = some (ds.map fun q => q.2, ρ) := rfl
def ikC (ρ : Env) : C → Option (List D × Env)
  | .ro (.fdc ds) => some (ds.map fun q => keyD q.1, ρ)
  | _ => none
@[simp] theorem v_keys : iKeysD p ρ = (p ρ).bind fun a => ikC a.2 a.1 := rfl
@[simp] theorem v_ikC {ds : List (Key × D)} : ikC ρ (.ro (.fdc ds)) = some (ds.map fun q => keyD q.1, ρ) := rfl
@[simp] theorem v_popAt {l : List D} {k : Int} : opPopAt l [.int k] = if (decide (0 ≤ k) && decide (k.natAbs < 4611686018427387904)) = true then (l[k.toNat]?).map fun y => (l.eraseIdx k.toNat, y) else none := id rfl
@[simp] theorem v_index {l : List D} : opIndex l [y] = if (y.flatS && l.all D.flatS) = true then (l.findIdx? fun z => sameS z y).map fun j => (l, .int (j : Nat)) else none := rfl
@[simp] theorem o_revL {l : List D} : D.rev (.lst l) = some (.own (.lst l.reverse)) := rfl
@[simp] theorem o_revT {l : List D} : D.rev (.tup l) = some (.ro (.tup l.reverse)) := rfl
@[simp] theorem o_max2 {k m : Int} : D.max2 [.int k, .int m] = some (.ro (.int (if m > k then m else k))) := rfl
@[simp] theorem o_min2 {k m : Int} : D.min2 [.int k, .int m] = some (.ro (.int (if m < k then m else k))) := rfl
@[simp] theorem v_dct1 : pDct1 pa pb ρ = (pa ρ).bind fun a => (pb a.2).bind fun b => if (a.1.kept && b.1.kept) = true then (D.key a.1.d).map fun k => (.own (.dct [(k, b.1.d)]), b.2) else none := rfl
@[simp] theorem o_key {s : Str} : D.key (.str s) = some (.inr s) := rfl
@[simp] theorem o_keyI {k : Int} : D.key (.int k) = some (.inl k) := rfl
@[simp] theorem o_clean1 : C.clean (.ro d) = d.imm := rfl
@[simp] theorem o_clean2 {l : List D} : C.clean (.own (.lst l)) = D.immL l := rfl
@[simp] theorem o_imm1 : D.imm (.bl b) = true := by unfold D.imm; rfl
@[simp] theorem o_imm2 {k : Int} : D.imm (.int k) = true := by unfold D.imm; rfl
@[simp] theorem o_imm3 {s : Str} : D.imm (.str s) = true := by unfold D.imm; rfl
@[simp] theorem o_imm4 : D.imm .non = true := by unfold D.imm; rfl
@[simp] theorem o_imm5 {l : List D} : D.imm (.tup l) = D.immL l := by rw [D.imm]
@[simp] theorem o_immL {l : List D} : D.immL l = l.all D.imm := D.immL_eq l
@[simp] theorem o_toStrI {k : Int} : D.toStrx [.int k] = if decide (k.natAbs.log2 < 1920) = true then some (.ro (.str (toString k))) else none := id rfl
@[simp] theorem o_toStrN : D.toStrx [.non] = some (.ro (.str "None")) := rfl
@[simp] theorem o_flatS1 {s : Str} : D.flatS (.str s) = true := rfl
@[simp] theorem o_flatS2 {k : Int} : D.flatS (.int k) = true := rfl
@[simp] theorem o_sameS1 {s t : Str} : sameS (.str s) (.str t) = decide (s = t) := rfl
def chC (g : D → D → Option C) (pc : P1) (b : C × Env) : C → Option (C × Env)
  | .ro (.bl true) => (pc b.2).bind fun c => (dat c.2 b.1).bind fun y => (dat c.2 c.1).bind fun z => (g y z).map fun r => (r, c.2)
  | .ro (.bl false) => some (.ro (.bl false), b.2)
  | _ => none
@[simp] theorem o_chC {g : D → D → Option C} {bb : C × Env} : chC g pc bb (.ro (.bl b)) = if b = true then (pc bb.2).bind fun c => (dat c.2 bb.1).bind fun y => (dat c.2 c.1).bind fun z => (g y z).map fun r => (r, c.2) else some (.ro (.bl false), bb.2) := by cases b <;> rfl
@[simp] theorem o_chain {f g : D → D → Option C} : pChain f g pa pb pc ρ = (pa ρ).bind fun a => (pb a.2).bind fun b => (dat b.2 a.1).bind fun x => (dat b.2 b.1).bind fun y => (f x y).bind fun c => chC g pc b c := by
  rfl
end
/-! while -/
theorem while_ok {q : PT1} {s : S1} (I : Nat → Env → Prop) (J : Env → Prop)
    (step : ∀ k ρ, I k ρ → (∃ ρ1, q ρ = some (false, ρ1) ∧ J ρ1) ∨ (∃ ρ1 ρ2 k', q ρ = some (true, ρ1) ∧ s ρ1 = some (.nx ρ2) ∧ k' < k ∧ I k' ρ2)) {n : Nat} {ρ0 : Env} (h : I n ρ0) (hn : n ≤ 1000000) : ∃ ρ', sWhile q s ρ0 = some (.nx ρ') ∧ J ρ' := by
  have go : ∀ (k : Nat) (f : Nat) (ρ : Env), k < f → I k ρ → ∃ ρ', loopW q s f ρ = some (.nx ρ') ∧ J ρ' := by
    intro k
    induction k using Nat.strongRecOn with
    | _ k ih =>
      intro f ρ hf hI
      cases f with
      | zero => omega
      | succ f =>
        rcases step k ρ hI with ⟨ρ1, e1, hJ⟩ | ⟨ρ1, ρ2, k', e1, e2, hk, hI'⟩
        · exact ⟨ρ1, by simp [loopW, e1], hJ⟩
        · obtain ⟨ρ', e3, hJ⟩ := ih k' hk f ρ2 (by omega) hI'
          exact ⟨ρ', by simp [loopW, e1, e2, e3], hJ⟩
  exact go n bigN ρ0 (Nat.lt_of_le_of_lt hn (by decide)) h
/-- a loop that may return: what it returns, or where it comes to -/
theorem loop_rt {α : Type} {b : B1} {s : S1} (enc : α → D) (I : List α → Env → Prop) (R : C → Prop) {xs : List α} {ρ0 : Env} (h0 : I [] ρ0)
    (step : ∀ pre x post ρ, xs = pre ++ x :: post → I pre ρ → (∃ ρ2, ((b (enc x) ρ).bind fun ρ1 => s ρ1) = some (.nx ρ2) ∧ I (pre ++ [x]) ρ2) ∨ (∃ c ρ2, ((b (enc x) ρ).bind fun ρ1 => s ρ1) = some (.rt c ρ2) ∧ R c)) :
    (∃ ρ', loopL b s (xs.map enc) ρ0 = some (.nx ρ') ∧ I xs ρ') ∨ ∃ c ρ', loopL b s (xs.map enc) ρ0 = some (.rt c ρ') ∧ R c := by
  have go : ∀ (post pre : List α) (ρ : Env), xs = pre ++ post → I pre ρ → (∃ ρ', loopL b s (post.map enc) ρ = some (.nx ρ') ∧ I xs ρ') ∨ ∃ c ρ', loopL b s (post.map enc) ρ = some (.rt c ρ') ∧ R c := by
    intro post
    induction post with
    | nil => intro pre ρ hx hI; rw [List.append_nil] at hx; subst hx; exact .inl ⟨ρ, rfl, hI⟩
    | cons x post ih =>
      intro pre ρ hx hI
      rw [List.map_cons]
      rcases step pre x post ρ hx hI with ⟨ρ2, e, hI2⟩ | ⟨c, ρ2, e, hR⟩
      · have ih := ih (pre ++ [x]) ρ2 (by rw [hx]; simp) hI2
        rw [Option.bind_eq_some_iff] at e
        obtain ⟨ρ1, e1, e2⟩ := e
        simpa [loopL, e1, e2] using ih
      · right
        rw [Option.bind_eq_some_iff] at e
        obtain ⟨ρ1, e1, e2⟩ := e
        exact ⟨c, ρ2, by simp [loopL, e1, e2], hR⟩
  exact go xs [] ρ0 rfl h0
section
variable {x y : D} {ρ : Env}
@[simp] theorem o_inwL {l : List D} : D.inw y (.lst l) = D.inz y (.lst l) := by cases y <;> rfl
@[simp] theorem o_inwT {l : List D} : D.inw y (.tup l) = D.inz y (.tup l) := by cases y <;> rfl
@[simp] theorem o_ninwL {l : List D} : D.ninw y (.lst l) = D.ninz y (.lst l) := by cases y <;> rfl
@[simp] theorem o_ninwT {l : List D} : D.ninw y (.tup l) = D.ninz y (.tup l) := by cases y <;> rfl
@[simp] theorem o_inwD {l : List (Key × D)} {k : Str} : D.inw (.str k) (.dct l) = D.inz (.str k) (.dct l) := rfl
@[simp] theorem o_ninwD {l : List (Key × D)} {k : Str} : D.ninw (.str k) (.dct l) = D.ninz (.str k) (.dct l) := rfl
@[simp] theorem o_inwF {l : List (Key × D)} {k : Str} : D.inw (.str k) (.fdc l) = D.inz (.str k) (.fdc l) := rfl
@[simp] theorem o_ninwF {l : List (Key × D)} {k : Str} : D.ninw (.str k) (.fdc l) = D.ninz (.str k) (.fdc l) := rfl
@[simp] theorem o_inwX {l : List (D × D)} : D.inw y (.dtt l) = (D.tk y).map fun k => .ro (.bl (getT l k).isSome) := by cases y <;> rfl
@[simp] theorem o_ninwX {l : List (D × D)} : D.ninw y (.dtt l) = (D.tk y).map fun k => .ro (.bl (!(getT l k).isSome)) := by cases y <;> rfl
@[simp] theorem o_inwE {l : List D} : D.inw (.tup l) (.dct []) = (D.tk (.tup l)).map fun _ => .ro (.bl false) := rfl
@[simp] theorem o_ninwE {l : List D} : D.ninw (.tup l) (.dct []) = (D.tk (.tup l)).map fun _ => .ro (.bl true) := rfl
@[simp] theorem o_ixwL {l : List D} : D.ixw (.lst l) y = D.ixx (.lst l) y := rfl
@[simp] theorem o_ixwT {l : List D} : D.ixw (.tup l) y = D.ixx (.tup l) y := rfl
@[simp] theorem o_ixwD {l : List (Key × D)} : D.ixw (.dct l) y = D.ixx (.dct l) y := rfl
@[simp] theorem o_ixwF {l : List (Key × D)} : D.ixw (.fdc l) y = D.ixx (.fdc l) y := rfl
@[simp] theorem o_ixwX {l : List (D × D)} : D.ixw (.dtt l) y = (D.tk y).bind fun k => (getT l k).map .ro := rfl
@[simp] theorem v_pDc {it : I1} {vs : List Nat} {b : B1} {q : PT1} {pk pv : P1} : pDc it vs b q pk pv ρ = (it ρ).bind fun a => (loopK vs b q pk pv a.1 (.dct []) (forget vs a.2)).map fun r => (.own r.1, r.2) := rfl
end
/-! dict comprehensions -/
def roD : C → Option D
  | .ro d => some d
  | _ => none
@[simp] theorem roD1 {d : D} : roD (.ro d) = some d := rfl
def bodyK (vs : List Nat) (b : B1) (q : PT1) (pk pv : P1) (d : D) (ρ : Env) : Option (Option (D × D) × Env) := (b d ρ).bind fun ρ1 => (q ρ1).bind fun t => if t.1 = true then (pk t.2).bind fun a => (roD a.1).bind fun dk => (pv a.2).bind fun v => (cap v.1 v.2).bind fun v2 => some (some (dk, v2.1.d), forget vs v2.2) else some (none, forget vs t.2)
theorem loopK_enc {α : Type} {vs : List Nat} {b : B1} {q : PT1} {pk pv : P1} (enc : α → D) (g : α → Option (D × D)) {ρ : Env} (I : List α → D → Prop) : ∀ {pre xs : List α} {acc : D}, I pre acc →
    (∀ pre' a post acc, pre ++ xs = pre' ++ a :: post → I pre' acc → bodyK vs b q pk pv (enc a) ρ = some (g a, ρ) ∧ ((g a = none ∧ I (pre' ++ [a]) acc) ∨ ∃ k v acc', g a = some (k, v) ∧ dPut acc k v = some acc' ∧ I (pre' ++ [a]) acc')) →
    ∃ acc', loopK vs b q pk pv (xs.map enc) acc ρ = some (acc', ρ) ∧ I (pre ++ xs) acc'
  | pre, [], acc, h0, _ => ⟨acc, rfl, by simpa using h0⟩
  | pre, a :: xs, acc, h0, h => by
    obtain ⟨h1, h2⟩ := h pre a xs acc rfl h0
    have e : pre ++ [a] ++ xs = pre ++ a :: xs := by simp
    have ih := fun {acc'} (hI : I (pre ++ [a]) acc') => loopK_enc enc g I (xs := xs) hI fun pre' c post acc hp => h pre' c post acc (e ▸ hp)
    unfold bodyK at h1
    rw [List.map_cons]
    unfold loopK
    simp only [Option.bind_eq_some_iff] at h1
    obtain ⟨ρ1, e1, t, e2, h1⟩ := h1
    rw [e1, Option.bind_some, e2, Option.bind_some]
    rcases h2 with ⟨hg, hI⟩ | ⟨k, v, acc2, hg, hp, hI⟩
    · by_cases ht : t.1 = true
      · rw [if_pos ht] at h1
        simp only [Option.bind_eq_some_iff] at h1
        obtain ⟨a1, _, dk, _, v, _, v2, _, e5⟩ := h1
        rw [hg] at e5; cases e5
      · rw [if_neg ht] at h1 ⊢
        simp only [Option.some.injEq, Prod.mk.injEq] at h1
        obtain ⟨acc', h3, h4⟩ := ih hI
        exact ⟨acc', by rw [h1.2]; exact h3, e ▸ h4⟩
    · by_cases ht : t.1 = true
      · rw [if_pos ht] at h1 ⊢
        simp only [Option.bind_eq_some_iff] at h1
        obtain ⟨⟨c, ρ3⟩, e3, dk, e4, v', e6, v2, e7, e5⟩ := h1
        cases c with
        | ro d =>
          cases e4
          rw [hg] at e5
          simp only [Option.some.injEq, Prod.mk.injEq] at e5
          obtain ⟨⟨rfl, rfl⟩, e8⟩ := e5
          obtain ⟨acc', h3, h4⟩ := ih hI
          refine ⟨acc', ?_, e ▸ h4⟩
          rw [e3]; simp only [Option.bind_some]
          simp only at e6
          rw [e6, Option.bind_some, e7, Option.bind_some, hp, Option.bind_some, e8]; exact h3
        | _ => cases e4
      · rw [if_neg ht] at h1
        simp only [Option.some.injEq, Prod.mk.injEq] at h1
        rw [hg] at h1; cases h1.1
end Dn



/-! texts in order; dicts by texts -/
namespace Dn
open PySem L2 DnS
theorem eraseDups_nodup : ∀ {l : List Str}, l.Nodup → l.eraseDups = l
  | [], _ => by simp
  | x :: l, h => by
    obtain ⟨h1, h2⟩ := List.nodup_cons.mp h
    have e : (l.filter fun b => !b == x) = l := by
      rw [List.filter_eq_self]
      intro a ha
      have : a ≠ x := fun z => h1 (z ▸ ha)
      simp [this]
    rw [List.eraseDups_cons, e, eraseDups_nodup h2]
theorem sort_sorted {l : List Str} (h : l.Pairwise fun x y => leS x y = true) : l.mergeSort leS = l :=
  sorted_one (List.mergeSort_perm _ _) (List.pairwise_mergeSort leS_trans leS_total _) h
theorem sort_idem (l : List Str) : (l.mergeSort leS).mergeSort leS = l.mergeSort leS := sort_sorted (List.pairwise_mergeSort leS_trans leS_total _)
/-- a sorted list without doubles is the sorted set of itself -/
theorem sortSet_sort {l : List Str} (h : l.Nodup) : sortSet (l.mergeSort leS) = l.mergeSort leS := by
  unfold sortSet
  rw [eraseDups_nodup ((List.mergeSort_perm l leS).nodup_iff.mpr h), sort_idem]
theorem mem_sortSet {l : List Str} {x : Str} : x ∈ sortSet l ↔ x ∈ l := by
  unfold sortSet
  rw [(List.mergeSort_perm _ _).mem_iff, List.mem_eraseDups]
theorem sortSet_nodup (l : List Str) : (sortSet l).Nodup := by
  unfold sortSet
  exact (List.mergeSort_perm _ _).nodup_iff.mpr (nodup_dups _ _ (Nat.le_refl _))
theorem sortSet_sorted (l : List Str) : (sortSet l).Pairwise fun x y => leS x y = true := List.pairwise_mergeSort leS_trans leS_total _
theorem sortSet_len (l : List Str) : (sortSet l).length ≤ l.length := by
  unfold sortSet
  rw [List.length_mergeSort]
  exact dups_len _ _ (Nat.le_refl _)
theorem sortSet_ext {l m : List Str} (h : ∀ x, x ∈ l ↔ x ∈ m) : sortSet l = sortSet m := by
  refine sorted_one ?_ (sortSet_sorted l) (sortSet_sorted m)
  exact (List.perm_ext_iff_of_nodup (sortSet_nodup l) (sortSet_nodup m)).mpr fun x => by rw [mem_sortSet, mem_sortSet, h]
theorem sort_perm {l m : List Str} (h : l.Perm m) : l.mergeSort leS = m.mergeSort leS :=
  sorted_one ((List.mergeSort_perm _ _).trans (h.trans (List.mergeSort_perm _ _).symm)) (List.pairwise_mergeSort leS_trans leS_total _) (List.pairwise_mergeSort leS_trans leS_total _)
theorem leK_str (a b : Str) : leK (.inr a) (.inr b) = leS a b := rfl
theorem leB_str (a b : Str) : D.leB (.str a) (.str b) = leS a b := rfl
theorem sort_enc {α β : Type} {f : α → β} {r : α → α → Bool} {s : β → β → Bool} (h : ∀ a b, s (f a) (f b) = r a b) (l : List α) : (l.map f).mergeSort s = (l.mergeSort r).map f :=
  (List.map_mergeSort (r := r) (s := s) (f := f) fun a _ b _ => (h a b).symm).symm
theorem srtOk_str {l : List Str} (h : l.length ≤ 16777216) : D.srtOk (l.map .str) = true := by
  simp [D.srtOk, D.py, D.pyD, isAtP, PyData.depth, PySem.W.alike, h]
theorem o_srtL {l : List Str} (h : l.length ≤ 16777216) : D.srt [.lst (l.map .str)] = some (.own (.lst ((l.mergeSort leS).map .str))) := by
  have e : D.srt [.lst (l.map .str)] = D.sorted [.lst (l.map .str)] := by simp only [D.srt, D.asD]
  rw [e]
  simp only [D.sorted, srtOk_str h, if_pos]
  rw [sort_enc leB_str]
/-! dicts by texts -/
def sdct {α : Type} (enc : α → D) (fs : List (Str × α)) : List (Key × D) := fs.map fun p => (.inr p.1, enc p.2)
section
variable {α : Type} {enc : α → D} {fs : List (Str × α)} {k : Str} {v : α}
theorem getK_s : getK (sdct enc fs) (.inr k) = (fs.lookup k).map enc := by
  induction fs with
  | nil => rfl
  | cons p fs ih =>
    obtain ⟨a, b⟩ := p
    unfold getK sdct at *
    rw [List.map_cons, List.find?_cons, List.lookup_cons]
    by_cases h : a = k
    · subst h; simp
    · have h2 : (k == a) = false := by simp [Ne.symm h]
      simp only [Sum.inr.injEq, h, decide_false, h2]
      exact ih
theorem getK_in : (getK (sdct enc fs) (.inr k)).isSome = decide (k ∈ fs.map (·.1)) := by
  rw [getK_s, Option.isSome_map]
  induction fs with
  | nil => simp
  | cons p fs ih =>
    obtain ⟨a, b⟩ := p
    rw [List.lookup_cons]
    by_cases h : k = a
    · subst h; simp
    · have h2 : (k == a) = false := by simp [h]
      simp only [h2, ih, List.map_cons, List.mem_cons, h, false_or]
theorem putD_new (h : k ∉ fs.map (·.1)) : putD (sdct enc fs) (.inr k) (enc v) = sdct enc (fs ++ [(k, v)]) := by
  unfold putD sdct
  have : ((fs.map fun p => ((Sum.inr p.1, enc p.2) : Key × D)).any fun p => decide (p.1 = .inr k)) = false := by
    rw [List.any_eq_false]
    intro p hp
    obtain ⟨q, hq, rfl⟩ := List.mem_map.mp hp
    simp only [Sum.inr.injEq, decide_eq_true_eq]
    exact fun z => h (List.mem_map.mpr ⟨q, hq, z⟩)
  rw [this]; simp
def sput (fs : List (Str × α)) (k : Str) (v : α) : List (Str × α) := if k ∈ fs.map (·.1) then fs.map (fun p => if p.1 = k then (p.1, v) else p) else fs ++ [(k, v)]
theorem putD_s : putD (sdct enc fs) (.inr k) (enc v) = sdct enc (sput fs k v) := by
  by_cases h : k ∈ fs.map (·.1)
  · unfold sput; rw [if_pos h]
    unfold putD sdct
    have : ((fs.map fun p => ((Sum.inr p.1, enc p.2) : Key × D)).any fun p => decide (p.1 = .inr k)) = true := by
      rw [List.any_eq_true]
      obtain ⟨q, hq, e⟩ := List.mem_map.mp h
      exact ⟨(.inr q.1, enc q.2), List.mem_map.mpr ⟨q, hq, rfl⟩, by simp [e]⟩
    rw [this, if_pos rfl, List.map_map, List.map_map]
    refine List.map_congr_left fun p _ => ?_
    by_cases h : p.1 = k <;> simp [h]
  · unfold sput; rw [if_neg h]; exact putD_new h
@[simp] theorem sdct_len : (sdct enc fs).length = fs.length := by simp [sdct]
@[simp] theorem sdct_nil : sdct enc [] = [] := rfl
theorem sdct_one : sdct enc [(k, v)] = [(.inr k, enc v)] := rfl
@[simp] theorem o_inzD {ds : List (Key × D)} : D.inz (.str k) (.dct ds) = some (.ro (.bl (getK ds (.inr k)).isSome)) := rfl
@[simp] theorem o_ninzD {ds : List (Key × D)} : D.ninz (.str k) (.dct ds) = some (.ro (.bl (!(getK ds (.inr k)).isSome))) := rfl
@[simp] theorem o_inzF {ds : List (Key × D)} : D.inz (.str k) (.fdc ds) = some (.ro (.bl (getK ds (.inr k)).isSome)) := rfl
@[simp] theorem o_ninzF {ds : List (Key × D)} : D.ninz (.str k) (.fdc ds) = some (.ro (.bl (!(getK ds (.inr k)).isSome))) := rfl
@[simp] theorem o_ixxD {ds : List (Key × D)} : D.ixx (.dct ds) (.str k) = (getK ds (.inr k)).map .ro := rfl
@[simp] theorem o_ixxF {ds : List (Key × D)} : D.ixx (.fdc ds) (.str k) = (getK ds (.inr k)).map .ro := rfl
theorem o_srtD (x : D) (h : D.asD x = some (sdct enc fs)) : D.srt [x] = some (.own (.lst (((fs.map (·.1)).mergeSort leS).map .str))) := by
  simp only [D.srt]
  rw [h]
  have e1 : (sdct enc fs).map (·.1) = (fs.map (·.1)).map Sum.inr := by simp [sdct]
  have e2 : oneKind ((sdct enc fs).map (·.1)) = true := by
    rw [e1]; simp [oneKind, isStrK]
  simp only [e2, if_pos]
  rw [e1, sort_enc (r := leS) (fun a b => leK_str a b), List.map_map]
  rfl
end
end Dn



/-! maps, papers -/
namespace Pl
open PySem L2 Dn
structure Edge where (name one other : Str) (w : Int) (ow : Bool)
def Edge.d (e : Edge) : D := .tup [.str e.name, .str e.one, .str e.other, .int e.w, .bl e.ow]
structure Gr where (nodes : List Str) (edges : List Edge)
def Gr.d (g : Gr) : D := .tup [.tup (g.nodes.map .str), .tup (g.edges.map Edge.d)]
structure Arc where (s t : Str) (w : Int) (name : Str) (fwd : Bool)
def stp (n : Str) (b : Bool) : D := .tup [.str n, .bl b]
def Arc.d (a : Arc) : D := .tup [.str a.s, .str a.t, .int a.w, stp a.name a.fwd]
def Edge.arcs (e : Edge) : List Arc := ⟨e.one, e.other, e.w, e.name, true⟩ :: if e.ow = true then [] else [⟨e.other, e.one, e.w, e.name, false⟩]
def Gr.arcs (g : Gr) : List Arc := g.edges.flatMap Edge.arcs
def Gr.opn (g : Gr) : Gr := ⟨g.nodes, g.edges.map fun e => { e with ow := false }⟩
def Gr.only (g : Gr) (ns : List Str) : Gr := ⟨g.nodes, g.edges.filter fun e => e.name ∈ ns⟩
def Gr.names (g : Gr) : List Str := g.edges.map (·.name)
@[simp] theorem g_ix0 (g : Gr) : D.ixx g.d (.int 0) = some (.ro (.tup (g.nodes.map .str))) := rfl
@[simp] theorem g_ix1 (g : Gr) : D.ixx g.d (.int 1) = some (.ro (.tup (g.edges.map Edge.d))) := rfl
@[simp] theorem e_ix0 (e : Edge) : D.ixx e.d (.int 0) = some (.ro (.str e.name)) := rfl
@[simp] theorem e_ix1 (e : Edge) : D.ixx e.d (.int 1) = some (.ro (.str e.one)) := rfl
@[simp] theorem e_ix2 (e : Edge) : D.ixx e.d (.int 2) = some (.ro (.str e.other)) := rfl
@[simp] theorem e_ix3 (e : Edge) : D.ixx e.d (.int 3) = some (.ro (.int e.w)) := rfl
@[simp] theorem e_ix4 (e : Edge) : D.ixx e.d (.int 4) = some (.ro (.bl e.ow)) := rfl
@[simp] theorem g_iw0 (g : Gr) : D.ixw g.d (.int 0) = some (.ro (.tup (g.nodes.map .str))) := rfl
@[simp] theorem g_iw1 (g : Gr) : D.ixw g.d (.int 1) = some (.ro (.tup (g.edges.map Edge.d))) := rfl
@[simp] theorem e_iw0 (e : Edge) : D.ixw e.d (.int 0) = some (.ro (.str e.name)) := rfl
@[simp] theorem e_iw1 (e : Edge) : D.ixw e.d (.int 1) = some (.ro (.str e.one)) := rfl
@[simp] theorem e_iw2 (e : Edge) : D.ixw e.d (.int 2) = some (.ro (.str e.other)) := rfl
@[simp] theorem e_iw3 (e : Edge) : D.ixw e.d (.int 3) = some (.ro (.int e.w)) := rfl
@[simp] theorem e_iw4 (e : Edge) : D.ixw e.d (.int 4) = some (.ro (.bl e.ow)) := rfl
theorem arcs_len : ∀ es : List Edge, (es.flatMap Edge.arcs).length ≤ 2 * es.length
  | [] => by simp
  | e :: es => by
    have := arcs_len es
    simp only [List.flatMap_cons, List.length_append, List.length_cons]
    have : e.arcs.length ≤ 2 := by unfold Edge.arcs; split <;> simp
    omega
theorem garcs_len (g : Gr) : g.arcs.length ≤ 2 * g.edges.length := arcs_len _
theorem opn_nodes (g : Gr) : g.opn.nodes = g.nodes := rfl
theorem opn_edges (g : Gr) : g.opn.edges.length = g.edges.length := by simp [Gr.opn]
/-- a map that is drawn -/
structure Gr.Ok (g : Gr) : Prop where
  one : 0 < g.nodes.length
  few : g.nodes.length ≤ 10
  fewE : g.edges.length ≤ 20
  nd : g.nodes.Nodup
  sorted : g.nodes.Pairwise fun x y => DnS.leS x y = true
  nde : g.names.Nodup
  ends : ∀ e ∈ g.edges, e.one ∈ g.nodes ∧ e.other ∈ g.nodes
def Gr.closed (g : Gr) (ns : List Str) : Bool := !g.arcs.any fun a => decide (a.s ∈ ns) && !decide (a.t ∈ ns)
/-- texts, each once, in order, all known -/
def textsIn (known : List Str) : D → Bool
  | .tup ds => match strsD ds with
    | some ss => ss.all (fun s => decide (s ∈ known)) && decide (ss = DnS.sortSet ss)
    | none => false
  | _ => false
/-- a word, one of some, with so many parts -/
def told (x : D) (ws : List Str) (n : Nat) : Bool := match x with
  | .tup ds => decide (ds.length = n) && match ds with
    | .str s :: _ => decide (s ∈ ws)
    | _ => false
  | _ => false
mutual
/-- papers: tuples, lists, texts, numbers, .. ; so many parts, so great numbers, so deep -/
def D.sm (N : Nat) : Nat → D → Bool
  | _, .non => true
  | _, .bl _ => true
  | _, .int i => decide (i.natAbs ≤ N)
  | _, .str _ => true
  | 0, .tup _ => false
  | 0, .lst _ => false
  | k + 1, .tup xs => decide (xs.length ≤ N) && D.smL N k xs
  | k + 1, .lst xs => decide (xs.length ≤ N) && D.smL N k xs
  | _, .dct _ => false
  | _, .dtt _ => false
  | _, .fdc _ => false
  | _, .wtp _ => false
  | _, .raw _ => false
  | _, .scr _ => false
  | _, .ty _ => false
def D.smL (N : Nat) : Nat → List D → Bool
  | _, [] => true
  | k, x :: xs => D.sm N k x && D.smL N k xs
end
theorem smL_eq (N k : Nat) : ∀ xs : List D, D.smL N k xs = xs.all (D.sm N k)
  | [] => by simp [D.smL]
  | x :: xs => by simp [D.smL, smL_eq N k xs]
mutual
theorem sm_mono {N M : Nat} (h : N ≤ M) : ∀ (k : Nat) (d : D), D.sm N k d = true → D.sm M (k + 1) d = true ∧ D.sm M k d = true
  | _, .non, _ => by simp [D.sm]
  | _, .bl _, _ => by simp [D.sm]
  | _, .int i, e => by simp only [D.sm, decide_eq_true_eq] at *; omega
  | _, .str _, _ => by simp [D.sm]
  | 0, .tup _, e => by simp [D.sm] at e
  | 0, .lst _, e => by simp [D.sm] at e
  | k + 1, .tup xs, e => by
    simp only [D.sm, Bool.and_eq_true, decide_eq_true_eq] at *
    have := smL_mono h k xs e.2
    exact ⟨⟨by omega, this.1⟩, by omega, this.2⟩
  | k + 1, .lst xs, e => by
    simp only [D.sm, Bool.and_eq_true, decide_eq_true_eq] at *
    have := smL_mono h k xs e.2
    exact ⟨⟨by omega, this.1⟩, by omega, this.2⟩
  | _, .dct _, e => by simp [D.sm] at e
  | _, .dtt _, e => by simp [D.sm] at e
  | _, .fdc _, e => by simp [D.sm] at e
  | _, .wtp _, e => by simp [D.sm] at e
  | _, .raw _, e => by simp [D.sm] at e
  | _, .scr _, e => by simp [D.sm] at e
  | _, .ty _, e => by simp [D.sm] at e
theorem smL_mono {N M : Nat} (h : N ≤ M) : ∀ (k : Nat) (ds : List D), D.smL N k ds = true → D.smL M (k + 1) ds = true ∧ D.smL M k ds = true
  | _, [], _ => by simp [D.smL]
  | k, d :: ds, e => by
    simp only [D.smL, Bool.and_eq_true] at *
    have h1 := sm_mono h k d e.1
    have h2 := smL_mono h k ds e.2
    exact ⟨⟨h1.1, h2.1⟩, h1.2, h2.2⟩
end
theorem sm_le {N M k j : Nat} {d : D} (h : N ≤ M) (hk : k ≤ j) (e : D.sm N k d = true) : D.sm M j d = true := by
  induction hk with
  | refl => exact (sm_mono h k d e).2
  | step _ ih => exact (sm_mono (Nat.le_refl M) _ d ih).1
theorem smL_le {N M k j : Nat} {ds : List D} (h : N ≤ M) (hk : k ≤ j) (e : D.smL N k ds = true) : D.smL M j ds = true := by
  rw [smL_eq, List.all_eq_true] at *
  exact fun x hx => sm_le h hk (e x hx)
mutual
theorem sm_okd {N : Nat} : ∀ (k : Nat) (d : D), D.sm N k d = true → D.okd k d = true
  | _, .non, _ => by simp
  | _, .bl _, _ => by simp
  | _, .int i, e => by simp
  | _, .str _, _ => by simp
  | 0, .tup _, e => by simp [D.sm] at e
  | 0, .lst _, e => by simp [D.sm] at e
  | k + 1, .tup xs, e => by
    simp only [D.sm, Bool.and_eq_true] at e
    rw [D.okd]; exact smL_okd k xs e.2
  | k + 1, .lst xs, e => by
    simp only [D.sm, Bool.and_eq_true] at e
    rw [D.okd]; exact smL_okd k xs e.2
  | _, .dct _, e => by simp [D.sm] at e
  | _, .dtt _, e => by simp [D.sm] at e
  | _, .fdc _, e => by simp [D.sm] at e
  | _, .wtp _, e => by simp [D.sm] at e
  | _, .raw _, e => by simp [D.sm] at e
  | _, .scr _, e => by simp [D.sm] at e
  | _, .ty _, e => by simp [D.sm] at e
theorem smL_okd {N : Nat} : ∀ (k : Nat) (ds : List D), D.smL N k ds = true → D.okdL k ds = true
  | _, [], _ => by simp
  | k, d :: ds, e => by
    simp only [D.smL, Bool.and_eq_true] at e
    simp [sm_okd k d e.1, smL_okd k ds e.2]
end
theorem okd_le {k j : Nat} : ∀ {d : D}, k ≤ j → D.okd k d = true → D.okd j d = true := by
  have h1 : ∀ (k : Nat) (d : D), D.okd k d = true → D.okd (k + 1) d = true := by
    intro k
    induction k with
    | zero => intro d e; cases d <;> simp [D.okd] at e ⊢
    | succ k ih =>
      intro d e
      cases d with
      | tup xs => rw [D.okd, D.okdL_eq, List.all_eq_true] at *; exact fun x hx => ih x (e x hx)
      | lst xs => rw [D.okd, D.okdL_eq, List.all_eq_true] at *; exact fun x hx => ih x (e x hx)
      | _ => simp [D.okd] at e ⊢
  intro d hk e
  induction hk with
  | refl => exact e
  | step _ ih => exact h1 _ _ ih
theorem okdL_le {k j : Nat} {ds : List D} (hk : k ≤ j) (e : D.okdL k ds = true) : D.okdL j ds = true := by
  rw [D.okdL_eq, List.all_eq_true] at *
  exact fun x hx => okd_le hk (e x hx)
/-- what is handed to a judge -/
def Asked (x : D) : Prop := x = .dct [] ∨ D.sm 1000 20 x = true
theorem sm_ty {N k : Nat} {d : D} (e : D.sm N k d = true) : ∃ m, D.tyName d = some m := by
  cases d <;> first | exact ⟨_, rfl⟩ | simp [D.sm] at e
theorem Asked.ty {x : D} (h : Asked x) : ∃ m, D.tyName x = some m := by
  rcases h with rfl | h
  · exact ⟨_, rfl⟩
  · exact sm_ty h

def isIn (known : List Str) : D → Bool
  | .str s => decide (s ∈ known)
  | _ => false
theorem texts_cases (known : List Str) : ∀ ds : List D, (∃ ss : List Str, ds = ss.map .str ∧ ∀ s ∈ ss, s ∈ known) ∨ ((∃ d ∈ ds, isIn known d = false) ∧ textsIn known (.tup ds) = false)
  | [] => .inl ⟨[], rfl, by simp⟩
  | d :: ds => by
    cases d with
    | str s =>
      by_cases hs : s ∈ known
      · rcases texts_cases known ds with ⟨ss, rfl, h⟩ | ⟨⟨d, hd, h1⟩, h2⟩
        · exact .inl ⟨s :: ss, rfl, by simpa [hs] using h⟩
        · refine .inr ⟨⟨d, List.mem_cons_of_mem _ hd, h1⟩, ?_⟩
          simp only [textsIn, strsD]
          cases e : strsD ds with
          | none => rfl
          | some ss =>
            have e2 := strsD_eq e
            subst e2
            obtain ⟨s', hs', rfl⟩ := List.mem_map.mp hd
            have h3 : s' ∉ known := by simpa [isIn] using h1
            simp only [Option.map_some]
            rw [Bool.and_eq_false_iff]
            left
            rw [List.all_eq_false]
            exact ⟨s', List.mem_cons_of_mem _ hs', by simp [h3]⟩
      · refine .inr ⟨⟨_, List.mem_cons_self .., by simp [isIn, hs]⟩, ?_⟩
        simp only [textsIn, strsD]
        cases e : strsD ds with
        | none => rfl
        | some ss => simp [hs]
    | _ => exact .inr ⟨⟨_, List.mem_cons_self .., rfl⟩, rfl⟩
theorem textsIn_strs {known ss : List Str} (h : ∀ s ∈ ss, s ∈ known) : textsIn known (.tup (ss.map .str)) = decide (ss = DnS.sortSet ss) := by
  simp only [textsIn, o_strsD]
  rw [show ss.all (fun s => decide (s ∈ known)) = true from by simpa using h]; simp
theorem Asked.cases {x : D} (h : Asked x) : (∃ ds, x = .tup ds ∧ ds.length ≤ 1000 ∧ ∀ d ∈ ds, D.sm 1000 19 d = true) ∨ ((∀ ds, x ≠ .tup ds) ∧ ∃ m, D.tyName x = some m ∧ m ≠ "tuple") := by
  rcases h with rfl | h
  · exact .inr ⟨fun ds h => (D.noConfusion h), _, rfl, by decide⟩
  · cases x with
    | tup ds =>
      simp only [D.sm, Bool.and_eq_true, decide_eq_true_eq, smL_eq, List.all_eq_true] at h
      exact .inl ⟨ds, rfl, h.1, h.2⟩
    | non => exact .inr ⟨fun ds h => (D.noConfusion h), _, rfl, by decide⟩
    | bl _ => exact .inr ⟨fun ds h => (D.noConfusion h), _, rfl, by decide⟩
    | int _ => exact .inr ⟨fun ds h => (D.noConfusion h), _, rfl, by decide⟩
    | str _ => exact .inr ⟨fun ds h => (D.noConfusion h), _, rfl, by decide⟩
    | lst _ => exact .inr ⟨fun ds h => (D.noConfusion h), _, rfl, by decide⟩
    | _ => simp [D.sm] at h
theorem textsIn_no {known : List Str} {x : D} (h : ∀ ds, x ≠ .tup ds) : textsIn known x = false := by
  cases x <;> first | rfl | exact absurd rfl (h _)
theorem Asked.of {x : D} (h : D.sm 1000 19 x = true) : Asked x := .inr (sm_le (Nat.le_refl _) (by decide) h)
theorem told_no {ws : List Str} {n : Nat} {x : D} (h : ∀ ds, x ≠ .tup ds) : told x ws n = false := by
  cases x <;> first | rfl | exact absurd rfl (h _)
end Pl



/-! what is reached from a node -/
namespace Pl
open PySem L2 Dn
abbrev Step := Str × Bool
def stepsD (st : List Step) : D := .tup (st.map fun p => stp p.1 p.2)
abbrev Found := List (Str × List Step)
inductive Grown (as : List Arc) (s : Str) : Found → Prop
  | start : Grown as s [(s, [])]
  | add {fs : Found} {st : List Step} {a : Arc} : Grown as s fs → (a.s, st) ∈ fs → a ∈ as → a.t ∉ fs.map (·.1) → Grown as s (fs ++ [(a.t, st ++ [(a.name, a.fwd)])])
/-- all that is reached, with the shortest steps -/
structure Reach (as : List Arc) (s : Str) (fs : Found) : Prop where
  grown : Grown as s fs
  closed : ∀ q ∈ fs, ∀ a ∈ as, a.s = q.1 → ∃ r ∈ fs, r.1 = a.t ∧ r.2.length ≤ q.2.length + 1
theorem Grown.nodup {as : List Arc} {s : Str} {fs : Found} (h : Grown as s fs) : (fs.map (·.1)).Nodup := by
  induction h with
  | start => simp
  | add h1 h2 h3 h4 ih =>
    rw [List.map_append, List.nodup_append]
    exact ⟨ih, by simp, by intro a ha b hb; simp at hb; subst hb; exact fun z => h4 (z ▸ ha)⟩
theorem Grown.start_in {as : List Arc} {s : Str} {fs : Found} (h : Grown as s fs) : (s, []) ∈ fs := by
  induction h with
  | start => simp
  | add h1 h2 h3 h4 ih => exact List.mem_append_left _ ih
theorem Grown.nodes {as : List Arc} {s : Str} {fs : Found} {ns : List Str} (h : Grown as s fs) (hs : s ∈ ns) (ha : ∀ a ∈ as, a.t ∈ ns) : ∀ v ∈ fs.map (·.1), v ∈ ns := by
  induction h with
  | start => simpa using hs
  | add h1 h2 h3 h4 ih =>
    intro v hv
    rw [List.map_append, List.mem_append] at hv
    rcases hv with hv | hv
    · exact ih v hv
    · simp at hv; subst hv; exact ha _ h3
theorem nodup_le {α : Type} [DecidableEq α] : ∀ {l m : List α}, l.Nodup → (∀ x ∈ l, x ∈ m) → l.length ≤ m.length
  | [], _, _, _ => by simp
  | x :: l, m, h, hs => by
    obtain ⟨h1, h2⟩ := List.nodup_cons.mp h
    have hx := hs x (List.mem_cons_self ..)
    have := nodup_le (l := l) (m := m.erase x) h2 fun y hy => by
      have hne : y ≠ x := fun z => h1 (z ▸ hy)
      rw [List.mem_erase_of_ne hne]; exact hs y (List.mem_cons_of_mem _ hy)
    rw [List.length_erase_of_mem hx] at this
    have hp : 0 < m.length := List.length_pos_of_mem hx
    simp only [List.length_cons]; omega
theorem lookup_of {α : Type} {fs : List (Str × α)} (h : (fs.map (·.1)).Nodup) {p : Str × α} (hp : p ∈ fs) : fs.lookup p.1 = some p.2 := by
  induction fs with
  | nil => cases hp
  | cons q fs ih =>
    obtain ⟨a, b⟩ := q
    rw [List.map_cons, List.nodup_cons] at h
    rw [List.lookup_cons]
    rcases List.mem_cons.mp hp with rfl | hp
    · simp
    · have hne : p.1 ≠ a := fun z => h.1 (List.mem_map.mpr ⟨p, hp, z⟩)
      have : (p.1 == a) = false := by simp [hne]
      rw [this]; exact ih h.2 hp
theorem of_lookup {α : Type} {fs : List (Str × α)} {k : Str} {v : α} (h : fs.lookup k = some v) : (k, v) ∈ fs := by
  induction fs with
  | nil => cases h
  | cons q fs ih =>
    obtain ⟨a, b⟩ := q
    rw [List.lookup_cons] at h
    by_cases hk : k = a
    · subst hk; simp at h; subst h; exact List.mem_cons_self ..
    · have : (k == a) = false := by simp [hk]
      rw [this] at h; exact List.mem_cons_of_mem _ (ih h)
theorem Grown.short {as : List Arc} {s : Str} {fs : Found} (h : Grown as s fs) : ∀ p ∈ fs, p.2.length < fs.length := by
  induction h with
  | start => simp
  | add h1 h2 h3 h4 ih =>
    intro p hp
    rw [List.length_append]
    rcases List.mem_append.mp hp with hp | hp
    · have := ih p hp; simp; omega
    · simp at hp; subst hp; have := ih _ h2; simp; omega
/-- the nodes of a map hold its arcs -/
structure Gr.Wf (g : Gr) : Prop where
  few : g.nodes.length ≤ 1000
  fewE : g.edges.length ≤ 1000
  nd : g.nodes.Nodup
  ends : ∀ e ∈ g.edges, e.one ∈ g.nodes ∧ e.other ∈ g.nodes
theorem Gr.Ok.wf {g : Gr} (h : g.Ok) : g.Wf := ⟨by have := h.few; omega, by have := h.fewE; omega, h.nd, h.ends⟩
theorem Gr.Wf.opn {g : Gr} (h : g.Wf) : g.opn.Wf := ⟨h.few, by rw [opn_edges]; exact h.fewE, h.nd, fun e he => by
  obtain ⟨e', h1, rfl⟩ := List.mem_map.mp he
  exact h.ends e' h1⟩
theorem Gr.Wf.only {g : Gr} (h : g.Wf) (ns : List Str) : (g.only ns).Wf := ⟨h.few, Nat.le_trans (List.length_filter_le _ _) h.fewE, h.nd, fun e he => h.ends e (List.mem_filter.mp he).1⟩
theorem Gr.Wf.arc {g : Gr} (h : g.Wf) {a : Arc} (ha : a ∈ g.arcs) : a.s ∈ g.nodes ∧ a.t ∈ g.nodes := by
  obtain ⟨e, he, ha⟩ := List.mem_flatMap.mp ha
  have := h.ends e he
  unfold Edge.arcs at ha
  rcases List.mem_cons.mp ha with rfl | ha
  · exact this
  · split at ha
    · cases ha
    · rw [List.mem_singleton] at ha; subst ha; exact ⟨this.2, this.1⟩
inductive Conn (as : List Arc) (s : Str) : Str → Prop
  | refl : Conn as s s
  | step {a : Arc} : Conn as s a.s → a ∈ as → Conn as s a.t
theorem Grown.conn {as : List Arc} {s : Str} {fs : Found} (h : Grown as s fs) : ∀ v ∈ fs.map (·.1), Conn as s v := by
  induction h with
  | start => intro v hv; simp at hv; subst hv; exact .refl
  | @add fs st a h1 h2 h3 h4 ih =>
    intro v hv
    rw [List.map_append, List.mem_append] at hv
    rcases hv with hv | hv
    · exact ih v hv
    · simp at hv; subst hv; exact .step (ih a.s (List.mem_map.mpr ⟨_, h2, rfl⟩)) h3
theorem Reach.mem {as : List Arc} {s : Str} {fs : Found} (h : Reach as s fs) (v : Str) : v ∈ fs.map (·.1) ↔ Conn as s v := by
  refine ⟨h.grown.conn v, fun c => ?_⟩
  induction c with
  | refl => exact List.mem_map.mpr ⟨_, h.grown.start_in, rfl⟩
  | @step a _ ha ih =>
    obtain ⟨q, hq, e⟩ := List.mem_map.mp ih
    obtain ⟨r, hr, e2, _⟩ := h.closed q hq a ha e.symm
    exact List.mem_map.mpr ⟨r, hr, e2⟩
theorem same_len {l m : List Str} (hl : l.Nodup) (hm : m.Nodup) (h : ∀ v, v ∈ l ↔ v ∈ m) : l.length = m.length :=
  ((List.perm_ext_iff_of_nodup hl hm).mpr h).length_eq
end Pl



/-! papers that are turned -/
namespace Pl
open PySem L2 Dn
mutual
def D.sz : D → Nat
  | .tup xs => D.szL xs + 1
  | .lst xs => D.szL xs + 1
  | _ => 1
def D.szL : List D → Nat
  | [] => 0
  | x :: xs => D.sz x + D.szL xs
end
theorem sm_tup {N k : Nat} {l : List D} : D.sm N (k + 1) (.tup l) = true ↔ l.length ≤ N ∧ ∀ x ∈ l, D.sm N k x = true := by
  simp only [D.sm, Bool.and_eq_true, decide_eq_true_eq, smL_eq, List.all_eq_true]
theorem sm_lst {N k : Nat} {l : List D} : D.sm N (k + 1) (.lst l) = true ↔ l.length ≤ N ∧ ∀ x ∈ l, D.sm N k x = true := by
  simp only [D.sm, Bool.and_eq_true, decide_eq_true_eq, smL_eq, List.all_eq_true]
theorem sm_str {N k : Nat} {s : Str} : D.sm N k (.str s) = true := by cases k <;> rfl
theorem sm_bl {N k : Nat} {s : Bool} : D.sm N k (.bl s) = true := by cases k <;> rfl
theorem sm_non {N k : Nat} : D.sm N k .non = true := by cases k <;> rfl
theorem sm_int {N k : Nat} {i : Int} : D.sm N k (.int i) = true ↔ i.natAbs ≤ N := by cases k <;> simp [D.sm]
theorem szL_mem {l : List D} {x : D} (h : x ∈ l) : D.sz x ≤ D.szL l := by
  induction l with
  | nil => cases h
  | cons y l ih =>
    simp only [D.szL]
    rcases List.mem_cons.mp h with rfl | h
    · omega
    · have := ih h; omega
theorem szL_app (l m : List D) : D.szL (l ++ m) = D.szL l + D.szL m := by
  induction l with
  | nil => simp [D.szL]
  | cons y l ih => simp [D.szL, ih]; omega
theorem cut_mem {α : Type} {l : List α} {lo hi : Option Int} {x : α} (h : x ∈ cutD l lo hi) : x ∈ l := by
  unfold cutD at h
  exact List.mem_of_mem_drop (List.mem_of_mem_take h)
theorem cut_len {α : Type} (l : List α) (lo hi : Option Int) : (cutD l lo hi).length ≤ l.length := by
  unfold cutD
  rw [List.length_take, List.length_drop]; omega
theorem pick_ok {l : List D} {v : Nat} (h : v < l.length) {P : D → Prop} (hp : ∀ x ∈ l, P x) : ∃ x, atI l (v : Int) = some x ∧ P x :=
  ⟨l[v], by rw [atI_nat h]; simp [h], hp _ (List.getElem_mem _)⟩
theorem last_ok {α : Type} {l : List α} (h : 0 < l.length) : ∃ x, atI l (-1) = some x ∧ x ∈ l := by
  refine ⟨l[l.length - 1], ?_, List.getElem_mem _⟩
  have h1 : ¬ (0 : Int) ≤ -1 := by omega
  have h2 : -(l.length : Int) ≤ -1 := by omega
  have h3 : ((-1 : Int) + l.length).toNat = l.length - 1 := by omega
  unfold atI ixN
  rw [if_neg h1, if_pos h2, h3]
  simp [List.getElem?_eq_getElem (show l.length - 1 < l.length by omega)]
/-- a name or a number -/
def Atom (N : Nat) (d : D) : Prop := (∃ s, d = .str s) ∨ ∃ i : Int, d = .int i ∧ i.natAbs ≤ N
theorem Atom.sm {N : Nat} {d : D} (h : Atom N d) (k : Nat) : D.sm N k d = true := by
  rcases h with ⟨s, rfl⟩ | ⟨i, rfl, h⟩
  · exact sm_str
  · exact sm_int.mpr h
theorem strs_of : ∀ (xs : List D), ∃ ts : List Str, (xs.filter fun d => decide (D.tyName d = some "str")) = ts.map .str ∧ ts.length ≤ xs.length
  | [] => ⟨[], rfl, by simp⟩
  | a :: l => by
    obtain ⟨ts, h1, h2⟩ := strs_of l
    by_cases ha : D.tyName a = some "str"
    · cases a <;> simp [D.tyName] at ha
      exact ⟨_ :: ts, by rw [List.filter_cons, if_pos (by simp), h1]; rfl, by simpa using h2⟩
    · exact ⟨ts, by rw [List.filter_cons, if_neg (by simpa using ha), h1], by simp; omega⟩
/-- what an io def's body hands back -/
def outRo (o : Option Out) : Option (D × D) := match o with
  | some (.rt (.ro r) ρ) => (ioAt ρ).map fun d2 => (r, d2)
  | _ => none
theorem outRo_of {o : Option Out} {y d2 : D} (h : outRo o = some (y, d2)) : ∃ ρ, o = some (.rt (.ro y) ρ) ∧ ioAt ρ = some d2 := by
  unfold outRo at h
  split at h
  · rename_i r ρ
    rw [Option.map_eq_some_iff] at h
    obtain ⟨a, h1, h2⟩ := h
    cases h2
    exact ⟨ρ, rfl, h1⟩
  · cases h
/-- what a law hands on: a word first -/
structure Told (N k : Nat) (x : D) : Prop where
  sm : D.sm N (k + 1) x = true
  sz : D.sz x ≤ 100000
  hd : ∃ (w : Str) (ds : List D), x = .tup (.str w :: ds)
end Pl



/-! what is told of maps, and its shape -/
namespace Pl
open PySem L2 Dn
theorem Told.asked {N k : Nat} {x : D} (h : Told N k x) (hN : N ≤ 1000) (hk : k ≤ 19) : Asked x := .inr (sm_le hN (by omega) h.sm)
theorem first_node (g : Gr) (h : 0 < g.nodes.length) : ∃ v l, g.nodes = v :: l := by
  cases hh : g.nodes with
  | nil => rw [hh] at h; simp at h
  | cons a l => exact ⟨a, l, rfl⟩
theorem all_len {ns : List Str} {as : List Arc} {v : Str} {l : List Str} (hnd : ns.Nodup) (hl : l.Nodup) (hm : ∀ u, u ∈ l ↔ Conn as v u) (hin : ∀ u, Conn as v u → u ∈ ns) : l.length = ns.length ↔ ∀ u ∈ ns, Conn as v u := by
  constructor
  · intro h u hu
    rw [← hm]
    apply Classical.byContradiction
    intro hn
    have := nodup_le (l := u :: l) (m := ns) (List.nodup_cons.mpr ⟨hn, hl⟩) fun x hx => (List.mem_cons.mp hx).elim (fun e => e ▸ hu) fun hx => hin x ((hm x).mp hx)
    simp at this; omega
  · intro h
    exact same_len hl hnd fun u => ⟨fun hu => hin u ((hm u).mp hu), fun hu => (hm u).mpr (h u hu)⟩
theorem Gr.Wf.conn {g : Gr} (h : g.Wf) {v : Str} (hv : v ∈ g.nodes) : ∀ u, Conn g.arcs v u → u ∈ g.nodes := fun u hu => by
  induction hu with
  | refl => exact hv
  | step _ ha _ => exact (h.arc ha).2
/-- where the steps of a found node come in -/
def lastN (fs : Found) : List Str := fs.filterMap fun p => p.2.getLast?.map (·.1)
theorem arc_of {g : Gr} {a : Arc} (h : a ∈ g.arcs) : ∃ e ∈ g.edges, e.name = a.name ∧ e.w = a.w ∧ ((a.fwd = true ∧ a.s = e.one ∧ a.t = e.other) ∨ (a.fwd = false ∧ a.s = e.other ∧ a.t = e.one ∧ e.ow = false)) := by
  obtain ⟨e, he, ha⟩ := List.mem_flatMap.mp h
  refine ⟨e, he, ?_⟩
  unfold Edge.arcs at ha
  rcases List.mem_cons.mp ha with rfl | ha
  · exact ⟨rfl, rfl, .inl ⟨rfl, rfl, rfl⟩⟩
  · split at ha
    · cases ha
    · rename_i ho
      rw [List.mem_singleton] at ha; subst ha
      exact ⟨rfl, rfl, .inr ⟨rfl, rfl, rfl, by simpa using ho⟩⟩
theorem arc_fwd {g : Gr} {e : Edge} (h : e ∈ g.edges) : (⟨e.one, e.other, e.w, e.name, true⟩ : Arc) ∈ g.arcs := List.mem_flatMap.mpr ⟨e, h, List.mem_cons_self ..⟩
theorem arc_bwd {g : Gr} {e : Edge} (h : e ∈ g.edges) (ho : e.ow = false) : (⟨e.other, e.one, e.w, e.name, false⟩ : Arc) ∈ g.arcs := List.mem_flatMap.mpr ⟨e, h, by unfold Edge.arcs; rw [ho]; simp⟩
theorem only_arc {g : Gr} {ns : List Str} {a : Arc} : a ∈ (g.only ns).arcs ↔ a ∈ g.arcs ∧ a.name ∈ ns := by
  constructor
  · intro h
    obtain ⟨e, he, ha⟩ := List.mem_flatMap.mp h
    obtain ⟨h1, h2⟩ := List.mem_filter.mp he
    have hn : a.name = e.name := by
      unfold Edge.arcs at ha
      rcases List.mem_cons.mp ha with rfl | ha
      · rfl
      · split at ha
        · cases ha
        · rw [List.mem_singleton] at ha; subst ha; rfl
    exact ⟨List.mem_flatMap.mpr ⟨e, h1, ha⟩, by rw [hn]; simpa using h2⟩
  · rintro ⟨h, hn⟩
    obtain ⟨e, he, ha⟩ := List.mem_flatMap.mp h
    have hn2 : a.name = e.name := by
      unfold Edge.arcs at ha
      rcases List.mem_cons.mp ha with rfl | ha
      · rfl
      · split at ha
        · cases ha
        · rw [List.mem_singleton] at ha; subst ha; rfl
    exact List.mem_flatMap.mpr ⟨e, List.mem_filter.mpr ⟨he, by rw [← hn2]; simpa using hn⟩, ha⟩
theorem grown_only {g : Gr} {v : Str} {fs : Found} (h : Grown g.arcs v fs) : (∀ n ∈ lastN fs, n ∈ g.names) ∧ ∀ ns : List Str, (∀ n ∈ lastN fs, n ∈ ns) → ∀ u ∈ fs.map (·.1), Conn (g.only ns).arcs v u := by
  induction h with
  | start => exact ⟨by simp [lastN], fun ns _ u hu => by simp at hu; subst hu; exact .refl⟩
  | @add fs st a h1 h2 h3 h4 ih =>
    obtain ⟨i1, i2⟩ := ih
    have e : lastN (fs ++ [(a.t, st ++ [(a.name, a.fwd)])]) = lastN fs ++ [a.name] := by simp [lastN]
    rw [e]
    refine ⟨?_, ?_⟩
    · intro n hn
      rcases List.mem_append.mp hn with hn | hn
      · exact i1 n hn
      · rw [List.mem_singleton] at hn; subst hn
        obtain ⟨f, hf, f1, _⟩ := arc_of h3
        exact List.mem_map.mpr ⟨f, hf, f1⟩
    · intro ns hns u hu
      rw [List.map_append, List.mem_append] at hu
      have i3 := i2 ns fun n hn => hns n (List.mem_append_left _ hn)
      rcases hu with hu | hu
      · exact i3 u hu
      · simp at hu; subst hu
        exact .step (i3 a.s (List.mem_map.mpr ⟨_, h2, rfl⟩)) (only_arc.mpr ⟨h3, hns a.name (by simp)⟩)
theorem nodup_inj {α β : Type} {f : α → β} : ∀ {l : List α}, (l.map f).Nodup → ∀ {a b : α}, a ∈ l → b ∈ l → f a = f b → a = b
  | x :: l, h, a, b, ha, hb, e => by
    rw [List.map_cons, List.nodup_cons] at h
    cases ha with
    | head =>
      cases hb with
      | head => rfl
      | tail _ hb => exact absurd (List.mem_map.mpr ⟨b, hb, e.symm⟩) h.1
    | tail _ ha =>
      cases hb with
      | head => exact absurd (List.mem_map.mpr ⟨a, ha, e⟩) h.1
      | tail _ hb => exact nodup_inj h.2 ha hb e
theorem edge_eq {g : Gr} (h : g.names.Nodup) {e f : Edge} (he : e ∈ g.edges) (hf : f ∈ g.edges) (hn : e.name = f.name) : e = f := nodup_inj h he hf hn
theorem textsIn_sort {known l : List Str} (h : ∀ s ∈ l, s ∈ known) (hn : l.Nodup) : textsIn known (.tup ((l.mergeSort DnS.leS).map .str)) = true := by
  rw [textsIn_strs fun s hs => h s ((List.mergeSort_perm _ _).mem_iff.mp hs), sortSet_sort hn]
  simp
theorem textsIn_set {known l : List Str} (h : ∀ s ∈ l, s ∈ known) : textsIn known (.tup ((DnS.sortSet l).map .str)) = true := by
  rw [textsIn_strs fun s hs => h s (mem_sortSet.mp hs)]
  have : DnS.sortSet (DnS.sortSet l) = DnS.sortSet l := sortSet_ext fun x => mem_sortSet
  rw [this]; simp
/-- some of the nodes, in their order -/
theorem textsIn_sub {known l : List Str} (hs : known.Pairwise fun x y => DnS.leS x y = true) (hn : known.Nodup) (h : l.Sublist known) : textsIn known (.tup (l.map .str)) = true := by
  rw [textsIn_strs fun s hs => h.subset hs]
  have : DnS.sortSet l = l := by unfold DnS.sortSet; rw [eraseDups_nodup (hn.sublist h), sort_sorted (hs.sublist h)]
  rw [this]; simp
theorem closed_iff {g : Gr} {ns : List Str} : g.closed ns = true ↔ ∀ a ∈ g.arcs, a.s ∈ ns → a.t ∈ ns := by
  unfold Gr.closed
  rw [Bool.not_eq_true', List.any_eq_false]
  simp
theorem closed_reach {g : Gr} {v : Str} {fs : Found} (h : Reach g.arcs v fs) {ns : List Str} (hn : ∀ s, s ∈ ns ↔ s ∈ fs.map (·.1)) : g.closed ns = true := by
  rw [closed_iff]
  intro a ha hs
  rw [hn] at hs ⊢
  obtain ⟨q, hq, e⟩ := List.mem_map.mp hs
  obtain ⟨r, hr, e2, _⟩ := h.closed q hq a ha e.symm
  exact List.mem_map.mpr ⟨r, hr, e2⟩
theorem szL_strs : ∀ l : List Str, D.szL (l.map .str) = l.length
  | [] => rfl
  | a :: l => by simp [D.szL, szL_strs l, D.sz]; omega
theorem sm_strs {N k : Nat} {l : List Str} (h : l.length ≤ N) : D.sm N (k + 1) (.tup (l.map .str)) = true := sm_tup.mpr ⟨by simpa using h, fun y hy => by obtain ⟨a, _, rfl⟩ := List.mem_map.mp hy; exact sm_str⟩
theorem told_strs {w : Str} {l : List Str} (h : l.length ≤ 90) : Told 100 2 (.tup [.str w, .tup (l.map .str)]) := by
  refine ⟨sm_tup.mpr ⟨by simp, ?_⟩, ?_, w, _, rfl⟩
  · intro x hx
    simp at hx
    rcases hx with rfl | rfl
    · exact sm_str
    · exact sm_strs (by omega)
  · simp [D.sz, D.szL, szL_strs]; omega
theorem told_strs2 {w : Str} {l m : List Str} (h : l.length ≤ 90) (h2 : m.length ≤ 90) : Told 100 2 (.tup [.str w, .tup (l.map .str), .tup (m.map .str)]) := by
  refine ⟨sm_tup.mpr ⟨by simp, ?_⟩, ?_, w, _, rfl⟩
  · intro x hx
    simp at hx
    rcases hx with rfl | rfl | rfl
    · exact sm_str
    · exact sm_strs (by omega)
    · exact sm_strs (by omega)
  · simp [D.sz, D.szL, szL_strs]; omega
theorem lastN_len (fs : Found) : (lastN fs).length ≤ fs.length := List.length_filterMap_le ..
theorem told_cut (g : Gr) (hg : g.Ok) {l : List Str} (h : ∀ s ∈ l, s ∈ g.nodes) (hn : l.Nodup) : l.length ≤ 10 := by
  have := nodup_le hn h
  have := hg.few
  omega
/-- for a word and three parts -/
theorem told_three {x : D} {w : Str} (h : told x [w] 3 = true) : ∃ y z, x = .tup [.str w, y, z] := by
  unfold told at h
  split at h
  · rename_i ds
    simp only [Bool.and_eq_true, decide_eq_true_eq] at h
    obtain ⟨h1, h2⟩ := h
    match ds, h1 with
    | [a, b, c], _ =>
      cases a <;> simp at h2
      subst h2; exact ⟨b, c, rfl⟩
  · cases h
theorem asked_trd {w : Str} {y z : D} (h : Asked (.tup [.str w, y, z])) : Asked y ∧ Asked z := by
  rcases h.cases with ⟨ds, e, _, h2⟩ | ⟨h, _⟩
  · cases e; exact ⟨.of (h2 y (by simp)), .of (h2 z (by simp))⟩
  · exact absurd rfl (h _)
theorem told_is3 {w : Str} {y z : D} : told (.tup [.str w, y, z]) [w] 3 = true := by simp [told]
end Pl



/-! steps, and dicts by steps -/
namespace Pl
open PySem L2 Dn
def stKey (n : Str) (b : Bool) : NestedKey := .tup [.text n, .num (if b = true then 1 else 0)]
@[simp] theorem tk_stp (n : Str) (b : Bool) : D.tk (stp n b) = some (stKey n b) := by
  simp only [stp, D.tk, D.nk, D.nkL, Option.map_some, Option.bind_some]
  rw [if_pos (by cases b <;> simp [NestedKey.depth, NestedKey.depthAll])]
  rfl
theorem stKey_inj {n m : Str} {b c : Bool} : stKey n b = stKey m c ↔ n = m ∧ b = c := by
  unfold stKey
  constructor
  · intro h
    injection h with h
    injection h with h1 h2
    injection h2 with h2 _
    injection h1 with h1
    injection h2 with h2
    exact ⟨h1, by cases b <;> cases c <;> simp at h2 <;> rfl⟩
  · rintro ⟨rfl, rfl⟩; rfl
/-- a dict by the steps of some arcs -/
def stepDict (as : List Arc) (val : Arc → D) : D := match as with
  | [] => .dct []
  | a :: l => .dtt ((a :: l).map fun a => (stp a.name a.fwd, val a))
def isArc (n : Str) (b : Bool) (a : Arc) : Bool := decide (a.name = n) && decide (a.fwd = b)
theorem getT_step {as : List Arc} {val : Arc → D} {n : Str} {b : Bool} : getT (as.map fun a => (stp a.name a.fwd, val a)) (stKey n b) = (as.find? (isArc n b)).map val := by
  induction as with
  | nil => rfl
  | cons a l ih =>
    unfold getT at *
    rw [List.map_cons, List.find?_cons, List.find?_cons]
    by_cases h : isArc n b a = true
    · have h2 : a.name = n ∧ a.fwd = b := by simpa [isArc] using h
      rw [h]; simp [tk_stp, h2.1, h2.2]
    · have h2 : ¬ (stKey a.name a.fwd = stKey n b) := fun z => h (by have := stKey_inj.mp z; simp [isArc, this.1, this.2])
      simp only [tk_stp, Option.some.injEq, h2, decide_false, h]
      exact ih
@[simp] theorem step_in {as : List Arc} {val : Arc → D} {n : Str} {b : Bool} : D.inw (stp n b) (stepDict as val) = some (.ro (.bl (as.find? (isArc n b)).isSome)) := by
  cases as with
  | nil =>
    show D.inw (.tup [.str n, .bl b]) (.dct []) = _
    rw [o_inwE, show D.tup [.str n, .bl b] = stp n b from rfl, tk_stp]; rfl
  | cons a l =>
    show D.inw (stp n b) (.dtt _) = _
    rw [o_inwX, tk_stp, Option.map_some, getT_step, Option.isSome_map]
@[simp] theorem step_nin {as : List Arc} {val : Arc → D} {n : Str} {b : Bool} : D.ninw (stp n b) (stepDict as val) = some (.ro (.bl (!(as.find? (isArc n b)).isSome))) := by
  cases as with
  | nil =>
    show D.ninw (.tup [.str n, .bl b]) (.dct []) = _
    rw [o_ninwE, show D.tup [.str n, .bl b] = stp n b from rfl, tk_stp]; rfl
  | cons a l =>
    show D.ninw (stp n b) (.dtt _) = _
    rw [o_ninwX, tk_stp, Option.map_some, getT_step, Option.isSome_map]
theorem step_ix {as : List Arc} {val : Arc → D} {n : Str} {b : Bool} {a : Arc} (h : as.find? (isArc n b) = some a) : D.ixw (stepDict as val) (stp n b) = some (.ro (val a)) := by
  cases as with
  | nil => cases h
  | cons c l =>
    show D.ixw (.dtt _) (stp n b) = _
    rw [o_ixwX, tk_stp, Option.bind_some, getT_step, h]; rfl
theorem step_put {pre : List Arc} {val : Arc → D} {a : Arc} (h : ∀ c ∈ pre, ¬ (c.name = a.name ∧ c.fwd = a.fwd)) (hl : pre.length < 16777216) : dPut (stepDict pre val) (stp a.name a.fwd) (val a) = some (stepDict (pre ++ [a]) val) := by
  cases pre with
  | nil =>
    show dPut (.dct []) _ _ = _
    have : D.key (stp a.name a.fwd) = none := rfl
    simp [dPut, this, stepDict]
  | cons c l =>
    show dPut (.dtt _) _ _ = _
    have hl' : l.length + 1 < 16777216 := by simpa using hl
    have hn : ((c :: l).map fun a => (stp a.name a.fwd, val a)).any (fun p => decide (D.tk p.1 = some (stKey a.name a.fwd))) = false := by
      rw [List.any_eq_false]
      intro p hp
      obtain ⟨q, hq, rfl⟩ := List.mem_map.mp hp
      simp only [tk_stp, Option.some.injEq, decide_eq_true_eq]
      exact fun z => h q hq (stKey_inj.mp z)
    simp only [dPut, tk_stp, Option.map_some, putT, hn]
    simp [hl', stepDict]
/-- {step: .. for .. in arcs} -/
theorem stepDict_comp {vs : List Nat} {b : B1} {pk pv : P1} {ρ : Dn.Env} {as : List Arc} (val : Arc → D) (hl : as.length ≤ 10000) (nd : (as.map fun a => (a.name, a.fwd)).Nodup)
    (h : ∀ a ∈ as, bodyK vs b qYes pk pv a.d ρ = some (some (stp a.name a.fwd, val a), ρ)) : loopK vs b qYes pk pv (as.map Arc.d) (.dct []) ρ = some (stepDict as val, ρ) := by
  obtain ⟨acc, h1, h2⟩ := loopK_enc (vs := vs) (b := b) (q := qYes) (pk := pk) (pv := pv) Arc.d (fun a => some (stp a.name a.fwd, val a)) (ρ := ρ) (fun pre acc => acc = stepDict pre val) (pre := []) (xs := as) (acc := .dct []) rfl (by
    rintro pre a post acc hp rfl
    rw [List.nil_append] at hp
    refine ⟨h a (by rw [hp]; simp), .inr ⟨_, _, stepDict (pre ++ [a]) val, rfl, ?_, rfl⟩⟩
    refine step_put (fun c hc z => ?_) (by rw [hp] at hl; simp at hl; omega)
    rw [hp, List.map_append, List.nodup_append] at nd
    exact nd.2.2 (c.name, c.fwd) (List.mem_map.mpr ⟨c, hc, rfl⟩) (a.name, a.fwd) (List.mem_map.mpr ⟨a, by simp, rfl⟩) (by rw [z.1, z.2]))
  rw [List.nil_append] at h2
  rw [h1, h2]
theorem steps_nd {g : Gr} (h : g.names.Nodup) : (g.arcs.map fun a => (a.name, a.fwd)).Nodup := by
  unfold Gr.names at h
  unfold Gr.arcs
  generalize g.edges = es at h
  induction es with
  | nil => exact List.Pairwise.nil
  | cons e es ih =>
    rw [List.map_cons, List.nodup_cons] at h
    rw [List.flatMap_cons, List.map_append, List.nodup_append]
    refine ⟨?_, ih h.2, ?_⟩
    · unfold Edge.arcs; split <;> simp
    · rintro ⟨n, b⟩ hx ⟨m, c⟩ hy z
      obtain ⟨a, ha, e1⟩ := List.mem_map.mp hx
      obtain ⟨a', ha', e2⟩ := List.mem_map.mp hy
      obtain ⟨f, hf, ha'⟩ := List.mem_flatMap.mp ha'
      have n1 : ∀ (e : Edge) (a : Arc), a ∈ e.arcs → a.name = e.name := fun e a ha => by
        unfold Edge.arcs at ha
        rcases List.mem_cons.mp ha with rfl | ha
        · rfl
        · split at ha
          · cases ha
          · rw [List.mem_singleton] at ha; subst ha; rfl
      have h1 := n1 _ _ ha
      have h2 := n1 _ _ ha'
      have e3 : a.name = a'.name := by rw [← e2] at z; rw [← e1] at z; exact congrArg Prod.fst z
      exact h.1 (List.mem_map.mpr ⟨f, hf, by rw [← h2, ← h1, e3]⟩)
/-- where steps lead, or nowhere -/
def follow (as : List Arc) : Str → List Step → Option Str
  | s, [] => some s
  | s, p :: st => (as.find? (isArc p.1 p.2)).bind fun a => if a.s = s then follow as a.t st else none
def isStepD : D → Option Step
  | .tup [.str n, .bl b] => some (n, b)
  | _ => none
def stepsOf : List D → Option (List Step)
  | [] => some []
  | d :: ds => (isStepD d).bind fun p => (stepsOf ds).map fun st => p :: st
def endD (g : Gr) (s : Str) (x : D) : D := match x with
  | .tup ds => (match (stepsOf ds).bind (follow g.arcs s) with
    | some e => .str e
    | none => .non)
  | _ => .non
theorem isStepD_eq {d : D} {p : Step} (h : isStepD d = some p) : d = stp p.1 p.2 := by
  unfold isStepD at h
  split at h
  · cases h; rfl
  · cases h
theorem stepsOf_eq : ∀ {ds : List D} {st : List Step}, stepsOf ds = some st → ds = st.map fun p => stp p.1 p.2
  | [], _, h => by cases h; rfl
  | d :: ds, st, h => by
    simp only [stepsOf, Option.bind_eq_some_iff, Option.map_eq_some_iff] at h
    obtain ⟨p, h1, st', h2, rfl⟩ := h
    rw [isStepD_eq h1, stepsOf_eq h2]; rfl
theorem stepsOf_all {ds : List D} : (∃ d ∈ ds, isStepD d = none) ↔ stepsOf ds = none := by
  induction ds with
  | nil => simp [stepsOf]
  | cons d ds ih =>
    simp only [stepsOf, List.mem_cons, exists_eq_or_imp]
    cases h : isStepD d with
    | none => simp
    | some p => simp [ih]
@[simp] theorem isStepD_stp (n : Str) (b : Bool) : isStepD (stp n b) = some (n, b) := rfl
@[simp] theorem stepsOf_stp (st : List Step) : stepsOf (st.map fun p => stp p.1 p.2) = some st := by
  induction st with
  | nil => rfl
  | cons p st ih => simp [stepsOf, ih]
/-- what is found leads there -/
theorem follow_app {as : List Arc} : ∀ {s t : Str} {st : List Step} {a : Arc}, follow as s st = some t → as.find? (isArc a.name a.fwd) = some a → a.s = t → follow as s (st ++ [(a.name, a.fwd)]) = some a.t
  | s, t, [], a, h, hf, ht => by
    cases h
    simp [follow, hf, ht]
  | s, t, p :: st, a, h, hf, ht => by
    simp only [follow, Option.bind_eq_some_iff] at h
    obtain ⟨b, h1, h2⟩ := h
    simp only [List.cons_append, follow, h1, Option.bind_some]
    split at h2
    · rename_i hb
      rw [if_pos hb]; exact follow_app h2 hf ht
    · cases h2
theorem find_self {as : List Arc} (nd : (as.map fun a => (a.name, a.fwd)).Nodup) {a : Arc} (h : a ∈ as) : as.find? (isArc a.name a.fwd) = some a := by
  cases hf : as.find? (isArc a.name a.fwd) with
  | none =>
    have := List.find?_eq_none.mp hf a h
    simp [isArc] at this
  | some b =>
    have h1 := List.find?_some hf
    have h2 := List.mem_of_find?_eq_some hf
    simp [isArc] at h1
    rw [nodup_inj nd h2 h (by rw [h1.1, h1.2])]
theorem grown_follow {as : List Arc} (nd : (as.map fun a => (a.name, a.fwd)).Nodup) {s : Str} {fs : Found} (h : Grown as s fs) : ∀ p ∈ fs, follow as s p.2 = some p.1 := by
  induction h with
  | start => intro p hp; simp at hp; subst hp; rfl
  | add h1 h2 h3 h4 ih =>
    intro p hp
    rcases List.mem_append.mp hp with hp | hp
    · exact ih p hp
    · rw [List.mem_singleton] at hp; subst hp
      exact follow_app (ih _ h2) (find_self nd h3) rfl
end Pl



/-! ways open both ways, trees, and what sorting leaves -/
namespace Pl
open PySem L2 Dn PyProof.Rows W
theorem opn_arc {g : Gr} {a : Arc} (h : a ∈ g.opn.arcs) : ∃ e ∈ g.edges, e.name = a.name ∧ e.w = a.w ∧ ((a.s = e.one ∧ a.t = e.other) ∨ (a.s = e.other ∧ a.t = e.one)) := by
  obtain ⟨e, he, h1, h2, h3⟩ := arc_of h
  obtain ⟨e', he', rfl⟩ := List.mem_map.mp he
  exact ⟨e', he', h1, h2, h3.imp (fun h => h.2) fun h => ⟨h.2.1, h.2.2.1⟩⟩
theorem opn_step {g : Gr} {e : Edge} (h : e ∈ g.edges) {v u w : Str} (c : Conn g.opn.arcs v u) (hu : (u = e.one ∧ w = e.other) ∨ (u = e.other ∧ w = e.one)) : Conn g.opn.arcs v w := by
  have h' : ({ e with ow := false } : Edge) ∈ g.opn.edges := List.mem_map.mpr ⟨e, h, rfl⟩
  rcases hu with ⟨rfl, rfl⟩ | ⟨rfl, rfl⟩
  · exact .step (a := ⟨e.one, e.other, e.w, e.name, true⟩) c (arc_fwd (e := { e with ow := false }) h')
  · exact .step (a := ⟨e.other, e.one, e.w, e.name, false⟩) c (arc_bwd (e := { e with ow := false }) h' rfl)
/-- the edges by which the nodes were found -/
theorem grown_tree {g : Gr} (hnd : g.names.Nodup) {v : Str} {fs : Found} (h : Grown g.opn.arcs v fs) :
    (lastN fs).length + 1 = fs.length ∧ (lastN fs).Nodup ∧ (∀ n ∈ lastN fs, ∃ e ∈ g.edges, e.name = n ∧ e.one ∈ fs.map (·.1) ∧ e.other ∈ fs.map (·.1)) ∧
    ∀ ns : List Str, (∀ n ∈ lastN fs, n ∈ ns) → ∀ u ∈ fs.map (·.1), Conn (g.only ns).opn.arcs v u := by
  induction h with
  | start => exact ⟨rfl, List.Pairwise.nil, by simp [lastN], fun ns _ u hu => by simp at hu; subst hu; exact .refl⟩
  | @add fs st a h1 h2 h3 h4 ih =>
    obtain ⟨i1, i2, i3, i4⟩ := ih
    have e : lastN (fs ++ [(a.t, st ++ [(a.name, a.fwd)])]) = lastN fs ++ [a.name] := by simp [lastN]
    obtain ⟨f, hf, f1, _, f2⟩ := opn_arc h3
    have hs : a.s ∈ fs.map (·.1) := List.mem_map.mpr ⟨_, h2, rfl⟩
    rw [e]
    refine ⟨by simp; omega, ?_, ?_, ?_⟩
    · rw [List.nodup_append]
      refine ⟨i2, by simp, ?_⟩
      intro x hx y hy z
      rw [List.mem_singleton] at hy; subst hy; subst z
      obtain ⟨f', hf', g1, g2, g3⟩ := i3 _ hx
      have := edge_eq hnd hf hf' (f1.trans g1.symm)
      subst this
      rcases f2 with ⟨_, q⟩ | ⟨_, q⟩
      · exact h4 (q ▸ g3)
      · exact h4 (q ▸ g2)
    · intro n hn
      have up : ∀ x, x ∈ fs.map (·.1) → x ∈ (fs ++ [(a.t, st ++ [(a.name, a.fwd)])]).map (·.1) := fun x hx => by rw [List.map_append]; exact List.mem_append_left _ hx
      have ht : a.t ∈ (fs ++ [(a.t, st ++ [(a.name, a.fwd)])]).map (·.1) := by simp
      rcases List.mem_append.mp hn with hn | hn
      · obtain ⟨e', he', g1, g2, g3⟩ := i3 n hn
        exact ⟨e', he', g1, up _ g2, up _ g3⟩
      · rw [List.mem_singleton] at hn; subst hn
        refine ⟨f, hf, f1, ?_⟩
        rcases f2 with ⟨q1, q2⟩ | ⟨q1, q2⟩
        · exact ⟨q1 ▸ up _ hs, q2 ▸ ht⟩
        · exact ⟨q2 ▸ ht, q1 ▸ up _ hs⟩
    · intro ns hns u hu
      have hns' : ∀ n ∈ lastN fs, n ∈ ns := fun n hn => hns n (List.mem_append_left _ hn)
      rw [List.map_append, List.mem_append] at hu
      rcases hu with hu | hu
      · exact i4 ns hns' u hu
      · simp at hu; subst hu
        have hfn : f ∈ (g.only ns).edges := List.mem_filter.mpr ⟨hf, by simp [f1, hns a.name (by simp)]⟩
        exact opn_step hfn (i4 ns hns' a.s hs) (f2.imp (fun h => ⟨h.1, h.2⟩) fun h => ⟨h.1, h.2⟩)
/-- joined by edges, both ways -/
inductive Lk (es : List Edge) (u : Str) : Str → Prop
  | refl : Lk es u u
  | fwd {e : Edge} : Lk es u e.one → e ∈ es → Lk es u e.other
  | bwd {e : Edge} : Lk es u e.other → e ∈ es → Lk es u e.one
theorem lk_conn {g : Gr} {u v : Str} : Conn g.opn.arcs u v ↔ Lk g.edges u v := by
  constructor
  · intro h
    induction h with
    | refl => exact .refl
    | step _ ha ih =>
      obtain ⟨e, he, _, _, h | h⟩ := opn_arc ha
      · rw [h.2]; rw [h.1] at ih; exact .fwd ih he
      · rw [h.2]; rw [h.1] at ih; exact .bwd ih he
  · intro h
    induction h with
    | refl => exact .refl
    | fwd _ he ih => exact opn_step he ih (.inl ⟨rfl, rfl⟩)
    | bwd _ he ih => exact opn_step he ih (.inr ⟨rfl, rfl⟩)
theorem Lk.trans {es : List Edge} {u v w : Str} (h : Lk es u v) (h2 : Lk es v w) : Lk es u w := by
  induction h2 with
  | refl => exact h
  | fwd _ he ih => exact .fwd ih he
  | bwd _ he ih => exact .bwd ih he
theorem Lk.symm {es : List Edge} {u v : Str} (h : Lk es u v) : Lk es v u := by
  induction h with
  | refl => exact .refl
  | @fwd e _ he ih => exact .trans (.bwd (e := e) .refl he) ih
  | @bwd e _ he ih => exact .trans (.fwd (e := e) .refl he) ih
theorem Lk.edge {es : List Edge} {e : Edge} (h : e ∈ es) : Lk es e.one e.other := .fwd .refl h
theorem Lk.all {es es' : List Edge} {u v : Str} (h : Lk es u v) (he : ∀ e ∈ es, Lk es' e.one e.other) : Lk es' u v := by
  induction h with
  | refl => exact .refl
  | fwd _ h ih => exact ih.trans (he _ h)
  | bwd _ h ih => exact ih.trans (he _ h).symm
theorem Lk.mono {es es' : List Edge} {u v : Str} (h : Lk es u v) (he : ∀ e ∈ es, e ∈ es') : Lk es' u v := h.all fun e h => .edge (he e h)
/-- without one edge -/
theorem Lk.split {es es' : List Edge} {f : Edge} (he : ∀ e ∈ es, e = f ∨ e ∈ es') {u v : Str} (h : Lk es u v) : Lk es' u v ∨ (Lk es' u f.one ∧ Lk es' f.other v) ∨ (Lk es' u f.other ∧ Lk es' f.one v) := by
  induction h with
  | refl => exact .inl .refl
  | @fwd e _ h ih =>
    rcases he e h with rfl | h
    · rcases ih with ih | ⟨i1, i2⟩ | ⟨i1, i2⟩
      · exact .inr (.inl ⟨ih, .refl⟩)
      · exact .inr (.inl ⟨i1, .refl⟩)
      · exact .inl i1
    · rcases ih with ih | ⟨i1, i2⟩ | ⟨i1, i2⟩
      · exact .inl (.fwd ih h)
      · exact .inr (.inl ⟨i1, .fwd i2 h⟩)
      · exact .inr (.inr ⟨i1, .fwd i2 h⟩)
  | @bwd e _ h ih =>
    rcases he e h with rfl | h
    · rcases ih with ih | ⟨i1, i2⟩ | ⟨i1, i2⟩
      · exact .inr (.inr ⟨ih, .refl⟩)
      · exact .inl i1
      · exact .inr (.inr ⟨i1, .refl⟩)
    · rcases ih with ih | ⟨i1, i2⟩ | ⟨i1, i2⟩
      · exact .inl (.bwd ih h)
      · exact .inr (.inl ⟨i1, .bwd i2 h⟩)
      · exact .inr (.inr ⟨i1, .bwd i2 h⟩)
/-- some edges of a map, and these without one -/
abbrev Gr.E (g : Gr) (ns : List Str) : List Edge := (g.only ns).edges
abbrev wo (ns : List Str) (n : Str) : List Str := ns.filter fun m => !decide (m = n)
theorem mem_E {g : Gr} {ns : List Str} {e : Edge} : e ∈ g.E ns ↔ e ∈ g.edges ∧ e.name ∈ ns := by
  unfold Gr.E Gr.only; rw [List.mem_filter]; simp
theorem mem_wo {ns : List Str} {n m : Str} : m ∈ wo ns n ↔ m ∈ ns ∧ m ≠ n := by unfold wo; rw [List.mem_filter]; simp
theorem E_wo {g : Gr} (hnd : g.names.Nodup) {ns : List Str} {f : Edge} (hf : f ∈ g.edges) : ∀ e ∈ g.E ns, e = f ∨ e ∈ g.E (wo ns f.name) := by
  intro e he
  obtain ⟨h1, h2⟩ := mem_E.mp he
  by_cases h : e.name = f.name
  · exact .inl (edge_eq hnd h1 hf h)
  · exact .inr (mem_E.mpr ⟨h1, mem_wo.mpr ⟨h2, h⟩⟩)
theorem wo_len {ns : List Str} {n : Str} (hn : ns.Nodup) (h : n ∈ ns) : (wo ns n).length + 1 ≤ ns.length := by
  have := nodup_le (l := n :: wo ns n) (m := ns) (List.nodup_cons.mpr ⟨fun z => (mem_wo.mp z).2 rfl, hn.sublist List.filter_sublist⟩) fun x hx => (List.mem_cons.mp hx).elim (fun e => e ▸ h) fun hx => (mem_wo.mp hx).1
  simpa using this
theorem only_names {g : Gr} (h : g.names.Nodup) (ns : List Str) : (g.only ns).names.Nodup := by
  unfold Gr.names Gr.only
  exact h.sublist (List.filter_sublist.map _)
/-- a found map over all nodes has as many edges as a tree, at least -/
theorem span_len {g : Gr} (hg : g.Ok) {ns : List Str} {v : Str} {fs : Found} (hr : Reach (g.only ns).opn.arcs v fs) (hv : v ∈ g.nodes) (hall : ∀ u ∈ g.nodes, Lk (g.E ns) v u) :
    (lastN fs).length + 1 = g.nodes.length ∧ (lastN fs).Nodup ∧ (∀ n ∈ lastN fs, n ∈ ns) ∧ ∀ u ∈ g.nodes, Lk (g.E (lastN fs)) v u := by
  obtain ⟨t1, t2, t3, t4⟩ := grown_tree (only_names hg.nde ns) hr.grown
  have hin : ∀ u, Conn (g.only ns).opn.arcs v u → u ∈ g.nodes := ((hg.wf.only ns).opn).conn hv
  have hl : (fs.map (·.1)).length = g.nodes.length := (all_len hg.nd hr.grown.nodup (fun u => hr.mem u) hin).mpr fun u hu => lk_conn.mpr (hall u hu)
  rw [List.length_map] at hl
  refine ⟨by omega, t2, fun n hn => ?_, fun u hu => ?_⟩
  · obtain ⟨e, he, rfl, _⟩ := t3 n hn
    exact (mem_E.mp he).2
  · have := t4 (lastN fs) (fun n hn => hn) u ((hr.mem u).mpr (lk_conn.mpr (hall u hu)))
    rw [lk_conn] at this
    refine this.mono fun e he => ?_
    obtain ⟨h1, h2⟩ := mem_E (g := g.only ns).mp he
    exact mem_E.mpr ⟨(mem_E.mp h1).1, h2⟩
theorem leB_total : W.TotalLe D.leB := W.sortLe_total (listOrd itemOrd) false fun b => keyToks (D.pyD b)
theorem leB_sorted (l : List D) : (l.mergeSort D.leB).Pairwise fun x y => D.leB x y = true := W.sort_pairwise leB_total l
theorem leB_int (i j : Int) (xs ys : List D) (px py : List PyData) (hx : D.pyL xs = some px) (hy : D.pyL ys = some py) (h : D.leB (.tup (.int i :: xs)) (.tup (.int j :: ys)) = true) : i ≤ j := by
  have h : (!W.dataLt (D.pyD (.tup (.int j :: ys))) (D.pyD (.tup (.int i :: xs)))) = true := h
  have e1 : D.pyD (.tup (.int j :: ys)) = .tuple (.int j :: py) := by simp [D.pyD, D.py, D.pyL, hy]
  have e2 : D.pyD (.tup (.int i :: xs)) = .tuple (.int i :: px) := by simp [D.pyD, D.py, D.pyL, hx]
  rw [e1, e2, W.dataLt_tuple, W.dataLt_cons (by simp [W.alike]), W.dataLt_int] at h
  simp only [PyData.eqv, beq_iff_eq] at h
  by_cases hij : j = i
  · omega
  · rw [if_neg hij] at h
    simp at h; exact h
/-- a loop that hands back one thing at the first that does not pass -/
theorem loop_all {α : Type} {b : B1} {s : S1} (enc : α → D) (I : Dn.Env → Prop) (p : α → Bool) (c : C) {xs : List α} {ρ0 : Dn.Env} (h0 : I ρ0)
    (step : ∀ x ∈ xs, ∀ ρ, I ρ → (p x = true → ∃ ρ2, ((b (enc x) ρ).bind fun ρ1 => s ρ1) = some (.nx ρ2) ∧ I ρ2) ∧ (p x = false → ∃ ρ2, ((b (enc x) ρ).bind fun ρ1 => s ρ1) = some (.rt c ρ2))) :
    (xs.all p = true ∧ ∃ ρ', loopL b s (xs.map enc) ρ0 = some (.nx ρ') ∧ I ρ') ∨ (xs.all p = false ∧ ∃ ρ', loopL b s (xs.map enc) ρ0 = some (.rt c ρ')) := by
  induction xs generalizing ρ0 with
  | nil => exact .inl ⟨rfl, ρ0, rfl, h0⟩
  | cons x xs ih =>
    obtain ⟨h1, h2⟩ := step x (by simp) ρ0 h0
    cases hp : p x with
    | true =>
      obtain ⟨ρ2, e, hI⟩ := h1 hp
      rcases ih hI (fun y hy => step y (List.mem_cons_of_mem _ hy)) with ⟨h3, ρ', h4, h5⟩ | ⟨h3, ρ', h4⟩
      · refine .inl ⟨by simp [hp, h3], ρ', ?_, h5⟩
        rw [List.map_cons, loopL, ← Option.bind_assoc, e]; exact h4
      · refine .inr ⟨by rw [List.all_cons, hp, h3]; rfl, ρ', ?_⟩
        rw [List.map_cons, loopL, ← Option.bind_assoc, e]; exact h4
    | false =>
      obtain ⟨ρ2, e⟩ := h2 hp
      refine .inr ⟨by rw [List.all_cons, hp]; rfl, ρ2, ?_⟩
      rw [List.map_cons, loopL, ← Option.bind_assoc, e]; rfl
/-- {text: .. for .. in ..} -/
theorem textDict_comp {α β : Type} {vs : List Nat} {b : B1} {pk pv : P1} {ρ : Dn.Env} {xs : List α} (enc : α → D) (key : α → Str) (val : α → β) (ve : β → D) (hl : xs.length ≤ 10000) (nd : (xs.map key).Nodup)
    (h : ∀ a ∈ xs, bodyK vs b qYes pk pv (enc a) ρ = some (some (.str (key a), ve (val a)), ρ)) : loopK vs b qYes pk pv (xs.map enc) (.dct []) ρ = some (.dct (sdct ve (xs.map fun a => (key a, val a))), ρ) := by
  obtain ⟨acc, h1, h2⟩ := loopK_enc (vs := vs) (b := b) (q := qYes) (pk := pk) (pv := pv) enc (fun a => some (.str (key a), ve (val a))) (ρ := ρ) (fun pre acc => acc = .dct (sdct ve (pre.map fun a => (key a, val a)))) (pre := []) (xs := xs) (acc := .dct []) rfl (by
    rintro pre a post acc hp rfl
    rw [List.nil_append] at hp
    refine ⟨h a (by rw [hp]; simp), .inr ⟨_, _, .dct (sdct ve ((pre ++ [a]).map fun a => (key a, val a))), rfl, ?_, rfl⟩⟩
    have hn : key a ∉ (pre.map fun a => (key a, val a)).map (·.1) := by
      rw [hp, List.map_append, List.nodup_append] at nd
      intro z
      rw [List.map_map] at z
      obtain ⟨c, hc, e⟩ := List.mem_map.mp z
      exact nd.2.2 (key c) (List.mem_map.mpr ⟨c, hc, rfl⟩) (key a) (by simp) e
    have hlen : pre.length < 16777216 := by rw [hp] at hl; simp at hl; omega
    rw [List.map_append]
    show dPut (.dct _) _ _ = some (.dct (sdct ve ((pre.map fun a => (key a, val a)) ++ [(key a, val a)])))
    rw [← putD_new hn]
    have hz : decide ((sdct ve (pre.map fun a => (key a, val a))).length < sizeLine) = true := by
      rw [decide_eq_true_eq, sdct_len, List.length_map]; exact hlen
    simp only [dPut, hz, if_true, D.key])
  rw [List.nil_append] at h2
  rw [h1, h2]
/-- a loop that hands back something at the first that passes -/
theorem loop_find {α : Type} {b : B1} {s : S1} (enc : α → D) (I : Dn.Env → Prop) (p : α → Bool) (c : α → C) {xs : List α} {ρ0 : Dn.Env} (h0 : I ρ0)
    (step : ∀ x ∈ xs, ∀ ρ, I ρ → (p x = false → ∃ ρ2, ((b (enc x) ρ).bind fun ρ1 => s ρ1) = some (.nx ρ2) ∧ I ρ2) ∧ (p x = true → ∃ ρ2, ((b (enc x) ρ).bind fun ρ1 => s ρ1) = some (.rt (c x) ρ2))) :
    (xs.find? p = none ∧ ∃ ρ', loopL b s (xs.map enc) ρ0 = some (.nx ρ') ∧ I ρ') ∨ (∃ x, xs.find? p = some x ∧ ∃ ρ', loopL b s (xs.map enc) ρ0 = some (.rt (c x) ρ')) := by
  induction xs generalizing ρ0 with
  | nil => exact .inl ⟨rfl, ρ0, rfl, h0⟩
  | cons x xs ih =>
    obtain ⟨h1, h2⟩ := step x (by simp) ρ0 h0
    cases hp : p x with
    | false =>
      obtain ⟨ρ2, e, hI⟩ := h1 hp
      rcases ih hI (fun y hy => step y (List.mem_cons_of_mem _ hy)) with ⟨h3, ρ', h4, h5⟩ | ⟨y, h3, ρ', h4⟩
      · refine .inl ⟨by rw [List.find?_cons, hp]; exact h3, ρ', ?_, h5⟩
        rw [List.map_cons, loopL, ← Option.bind_assoc, e]; exact h4
      · refine .inr ⟨y, by rw [List.find?_cons, hp]; exact h3, ρ', ?_⟩
        rw [List.map_cons, loopL, ← Option.bind_assoc, e]; exact h4
    | true =>
      obtain ⟨ρ2, e⟩ := h2 hp
      refine .inr ⟨x, by rw [List.find?_cons, hp], ρ2, ?_⟩
      rw [List.map_cons, loopL, ← Option.bind_assoc, e]; rfl
/-- where a way of steps begins, and whether it comes back there -/
def startD (g : Gr) (y : D) : Option Str := match y with
  | .tup (d :: _) => (isStepD d).bind fun p => (g.arcs.find? (isArc p.1 p.2)).map (·.s)
  | _ => none
def strO : Option Str → D
  | some s => .str s
  | none => .non
@[simp] theorem strO_some {s : Str} : strO (some s) = .str s := rfl
@[simp] theorem strO_none : strO none = .non := rfl
def ringB (g : Gr) (y : D) : Bool := match startD g y with
  | some s => D.eqv (endD g s y) (.str s)
  | none => false
theorem endD_okd (g : Gr) (s : Str) (x : D) : (endD g s x).okd 50 = true := by
  unfold endD
  split
  · split <;> simp
  · simp
end Pl



namespace Dn
open PySem L2
section
variable {ρ : Env} {p : P1}
def iiC (ρ : Env) : C → Option (List D × Env)
  | .ro (.fdc ds) => some (ds.map fun q => .wtp [keyD q.1, q.2], ρ)
  | _ => none
@[simp] theorem v_items : iItemsD p ρ = (p ρ).bind fun a => iiC a.2 a.1 := rfl
@[simp] theorem v_iiC {ds : List (Key × D)} : iiC ρ (.ro (.fdc ds)) = some (ds.map fun q => .wtp [keyD q.1, q.2], ρ) := rfl
@[simp] theorem keyD_r {s : Str} : keyD (.inr s) = .str s := rfl
@[simp] theorem keyD_l {s : Int} : keyD (.inl s) = .int s := rfl
@[simp] theorem o_suml {l : List D} : D.suml [.lst l] = (intsD l).map fun ns => .ro (.int ns.sum) := rfl
@[simp] theorem o_toDict {l : List D} : D.toDict [.lst l] = (pairsD l).map fun ps => .own (.dct (mergeD [] ps)) := rfl
@[simp] theorem intsD_map {α : Type} {f : α → Int} {l : List α} : intsD (l.map fun a => .int (f a)) = some (l.map f) := by
  induction l with
  | nil => rfl
  | cons a l ih => simp [intsD, ih]
@[simp] theorem v_augX {f : D → D → Option C} {pi : P1} {i : Nat} : sAugX f i pi p ρ = (ioData ρ i).bind fun d0 => match d0.2 with
  | .dct _ => sAugK f i pi p ρ
  | _ => sAugIx f i pi p ρ := rfl
@[simp] theorem v_augK {f : D → D → Option C} {pi : P1} {i : Nat} : sAugK f i pi p ρ = (ioData ρ i).bind fun _ => (pi ρ).bind fun k => (ioData k.2 i).bind fun d => akC f p k.2 i k.1 d.2 := rfl
@[simp] theorem v_akC {f : D → D → Option C} {i : Nat} {ky : D} {l : List (Key × D)} : akC f p ρ i (.ro ky) (.dct l) = (D.key ky).bind fun kk => (getK l kk).bind fun x => (p ρ).bind fun b => (dat b.2 b.1).bind fun y => (f x y).bind fun c => (ioData b.2 i).bind fun d2 => match c, d2.2 with
    | .ro z, .dct l2 => if decide (l2.length < sizeLine) = true then some (.nx (b.2.set i (some (ioCell d2.1 (.dct (putD l2 kk z)))))) else none
    | _, _ => none := rfl
@[simp] theorem v_popD {i : Nat} : pPopD i p ρ = (ioData ρ i).bind fun d0 => match d0.2 with
  | .dct _ => (p ρ).bind fun k => (ioData k.2 i).bind fun d => dpC k.2 i d k.1
  | _ => none := rfl
@[simp] theorem v_dpC {i : Nat} {bb : Bool} {ky : D} {l : List (Key × D)} : dpC ρ i (bb, .dct l) (.ro ky) = (D.key ky).bind fun kk => (getK l kk).map fun x => (.ro x, ρ.set i (some (ioCell bb (.dct (dropD l kk))))) := rfl
end
theorem while_rt {q : PT1} {s : S1} (I : Nat → Env → Prop) (J : Env → Prop) (R : C → Prop)
    (step : ∀ k ρ, I k ρ → (∃ ρ1, q ρ = some (false, ρ1) ∧ J ρ1) ∨ (∃ ρ1 ρ2 k', q ρ = some (true, ρ1) ∧ s ρ1 = some (.nx ρ2) ∧ k' < k ∧ I k' ρ2) ∨ (∃ ρ1 c ρ2, q ρ = some (true, ρ1) ∧ s ρ1 = some (.rt c ρ2) ∧ R c)) {n : Nat} {ρ0 : Env} (h : I n ρ0) (hn : n ≤ 1000000) :
    (∃ ρ', sWhile q s ρ0 = some (.nx ρ') ∧ J ρ') ∨ ∃ c ρ', sWhile q s ρ0 = some (.rt c ρ') ∧ R c := by
  have go : ∀ (k : Nat) (f : Nat) (ρ : Env), k < f → I k ρ → (∃ ρ', loopW q s f ρ = some (.nx ρ') ∧ J ρ') ∨ ∃ c ρ', loopW q s f ρ = some (.rt c ρ') ∧ R c := by
    intro k
    induction k using Nat.strongRecOn with
    | _ k ih =>
      intro f ρ hf hI
      cases f with
      | zero => omega
      | succ f =>
        rcases step k ρ hI with ⟨ρ1, e1, hJ⟩ | ⟨ρ1, ρ2, k', e1, e2, hk, hI'⟩ | ⟨ρ1, c, ρ2, e1, e2, hR⟩
        · exact .inl ⟨ρ1, by simp [loopW, e1], hJ⟩
        · rcases ih k' hk f ρ2 (by omega) hI' with ⟨ρ', e3, hJ⟩ | ⟨c, ρ', e3, hR⟩
          · exact .inl ⟨ρ', by simp [loopW, e1, e2, e3], hJ⟩
          · exact .inr ⟨c, ρ', by simp [loopW, e1, e2, e3], hR⟩
        · exact .inr ⟨c, ρ2, by simp [loopW, e1, e2], hR⟩
  exact go n bigN ρ0 (Nat.lt_of_le_of_lt hn (by decide)) h
theorem items_sdct {α : Type} {enc : α → D} {fs : List (Str × α)} : (sdct enc fs).map (fun q => D.wtp [keyD q.1, q.2]) = fs.map fun p => .wtp [.str p.1, enc p.2] := by simp [sdct]
theorem keys_sdct {α : Type} {enc : α → D} {fs : List (Str × α)} : (sdct enc fs).map (fun q => keyD q.1) = fs.map fun p => .str p.1 := by simp [sdct]
end Dn
namespace Pl
open PySem L2 Dn
/-! ways of steps -/
theorem follow_append {as : List Arc} : ∀ {s : Str} {st st2 : List Step}, follow as s (st ++ st2) = (follow as s st).bind fun t => follow as t st2
  | s, [], st2 => rfl
  | s, p :: st, st2 => by
    rw [List.cons_append, follow, follow, Option.bind_assoc]
    congr 1; funext a
    by_cases h : a.s = s
    · rw [if_pos h, if_pos h]; exact follow_append
    · rw [if_neg h, if_neg h]; rfl
def flipS (p : Step) : Step := (p.1, !p.2)
theorem follow_one {as : List Arc} {s : Str} {p : Step} {a : Arc} (h : as.find? (isArc p.1 p.2) = some a) (hs : a.s = s) : follow as s [p] = some a.t := by
  simp [follow, h, hs]
theorem opn_names (g : Gr) : g.opn.names = g.names := by simp [Gr.names, Gr.opn]
/-- each step of a map that is open both ways can be turned about -/
theorem opn_flip {g : Gr} (hn : g.names.Nodup) {p : Step} {a : Arc} (h : g.opn.arcs.find? (isArc p.1 p.2) = some a) : ∃ b, g.opn.arcs.find? (isArc (flipS p).1 (flipS p).2) = some b ∧ b.s = a.t ∧ b.t = a.s := by
  have ha := List.mem_of_find?_eq_some h
  have hp := List.find?_some h
  simp [isArc] at hp
  have nd := steps_nd (g := g.opn) (by rw [opn_names]; exact hn)
  obtain ⟨e, he, h1, _, h2⟩ := arc_of ha
  obtain ⟨e', he', rfl⟩ := List.mem_map.mp he
  rcases h2 with ⟨q1, q2, q3⟩ | ⟨q1, q2, q3, _⟩
  · have hb := arc_bwd he rfl
    refine ⟨⟨e'.other, e'.one, e'.w, e'.name, false⟩, ?_, q3.symm, q2.symm⟩
    rw [show (flipS p).1 = e'.name from hp.1.symm.trans h1.symm, show (flipS p).2 = false by simp [flipS, ← hp.2, q1]]
    exact find_self nd hb
  · have hb := arc_fwd he
    refine ⟨⟨e'.one, e'.other, e'.w, e'.name, true⟩, ?_, q3.symm, q2.symm⟩
    rw [show (flipS p).1 = e'.name from hp.1.symm.trans h1.symm, show (flipS p).2 = true by simp [flipS, ← hp.2, q1]]
    exact find_self nd hb
theorem follow_rev {g : Gr} (hn : g.names.Nodup) : ∀ {st : List Step} {s t : Str}, follow g.opn.arcs s st = some t → follow g.opn.arcs t (st.reverse.map flipS) = some s
  | [], s, t, h => by cases h; rfl
  | p :: st, s, t, h => by
    simp only [follow, Option.bind_eq_some_iff] at h
    obtain ⟨a, h1, h2⟩ := h
    by_cases hs : a.s = s
    · rw [if_pos hs] at h2
      have ih := follow_rev hn h2
      obtain ⟨b, b1, b2, b3⟩ := opn_flip hn h1
      rw [List.reverse_cons, List.map_append, follow_append, ih]
      simp only [Option.bind_some, List.map_cons, List.map_nil]
      rw [follow_one b1 b2, b3, hs]
    · rw [if_neg hs] at h2; cases h2
theorem startD_follow {g : Gr} {f t : Str} {p : Step} {st : List Step} (h : follow g.arcs f (p :: st) = some t) : startD g (stepsD (p :: st)) = some f := by
  simp only [follow, Option.bind_eq_some_iff] at h
  obtain ⟨a, h1, h2⟩ := h
  by_cases hs : a.s = f
  · simp [startD, stepsD, h1, hs]
  · rw [if_neg hs] at h2; cases h2
theorem endD_follow {g : Gr} {f : Str} {st : List Step} : endD g f (stepsD st) = strO (follow g.arcs f st) := by
  unfold endD stepsD
  simp only [stepsOf_stp, Option.bind_some]
  cases follow g.arcs f st <;> rfl
theorem ringB_follow {g : Gr} {f : Str} {st : List Step} (hne : st ≠ []) (h : follow g.arcs f st = some f) : ringB g (stepsD st) = true := by
  obtain ⟨p, st, rfl⟩ := List.exists_cons_of_ne_nil hne
  unfold ringB
  rw [startD_follow h]
  simp only [endD_follow, h, strO_some, o_eqvS, decide_true]
theorem szL_steps : ∀ st : List Step, D.szL (st.map fun p => stp p.1 p.2) = 3 * st.length
  | [] => rfl
  | a :: l => by
    have := szL_steps l
    rw [List.map_cons, D.szL, this]
    simp [stp, D.sz, D.szL]; omega
theorem sm_steps {N k : Nat} {st : List Step} (h : st.length ≤ N) (h2 : 2 ≤ N) : D.sm N (k + 2) (stepsD st) = true := sm_tup.mpr ⟨by simpa using h, fun y hy => by
  obtain ⟨a, _, rfl⟩ := List.mem_map.mp hy
  exact sm_tup.mpr ⟨by simpa using h2, by intro y hy; simp at hy; rcases hy with rfl | rfl; exact sm_str; exact sm_bl⟩⟩
theorem told_steps {w : Str} {st : List Step} (h : st.length ≤ 90) : Told 100 2 (.tup [.str w, stepsD st]) := by
  refine ⟨sm_tup.mpr ⟨by simp, ?_⟩, ?_, w, _, rfl⟩
  · intro x hx
    simp at hx
    rcases hx with rfl | rfl
    · exact sm_str
    · exact sm_steps (by omega) (by decide)
  · simp [D.sz, D.szL, stepsD, szL_steps]; omega
/-- a comprehension whose turns change what stands around -/
theorem loopC_pre {α : Type} {vs : List Nat} {b : B1} {q : PT1} {p : P1} (enc : α → D) (I : List α → List D → Dn.Env → Prop) {xs : List α} {ρ0 : Dn.Env} (h0 : I [] [] ρ0)
    (step : ∀ pre x post out ρ, xs = pre ++ x :: post → I pre out ρ → ∃ d ρ2, bodyC vs b q p (enc x) ρ = some (some d, ρ2) ∧ I (pre ++ [x]) (out ++ [d]) ρ2) : ∃ out ρ', loopC vs b q p (xs.map enc) ρ0 = some (out, ρ') ∧ I xs out ρ' := by
  have go : ∀ (post pre : List α) (out : List D) (ρ : Dn.Env), xs = pre ++ post → I pre out ρ → ∃ more ρ', loopC vs b q p (post.map enc) ρ = some (more, ρ') ∧ I xs (out ++ more) ρ' := by
    intro post
    induction post with
    | nil => intro pre out ρ hx hI; rw [List.append_nil] at hx; subst hx; exact ⟨[], ρ, rfl, by rw [List.append_nil]; exact hI⟩
    | cons x post ih =>
      intro pre out ρ hx hI
      obtain ⟨d, ρ2, e1, h1⟩ := step pre x post out ρ hx hI
      obtain ⟨more, ρ', e2, h2⟩ := ih (pre ++ [x]) (out ++ [d]) ρ2 (by rw [hx]; simp) h1
      refine ⟨d :: more, ρ', ?_, by rw [List.append_assoc] at h2; exact h2⟩
      unfold bodyC at e1
      rw [List.map_cons]
      simp only [Option.bind_eq_some_iff] at e1
      obtain ⟨ρa, ea, ⟨t, ρb⟩, eb, e1⟩ := e1
      unfold loopC
      rw [ea, Option.bind_some, eb, Option.bind_some]
      cases t with
      | false => simp at e1
      | true =>
        simp only [if_true, Option.bind_eq_some_iff] at e1
        obtain ⟨⟨c1, ρc⟩, ec, ⟨c2, ρd⟩, ed, e1⟩ := e1
        cases e1
        simp only [if_true]
        rw [ec, Option.bind_some, ed, Option.bind_some]
        simp only at e2 ⊢
        rw [e2]; rfl
  obtain ⟨more, ρ', e, h⟩ := go xs [] [] ρ0 rfl h0
  exact ⟨more, ρ', e, h⟩
theorem loopC_preO {α : Type} {vs : List Nat} {b : B1} {q : PT1} {p : P1} (enc : α → D) (I : List α → List D → Dn.Env → Prop) {xs : List α} {ρ0 : Dn.Env} (h0 : I [] [] ρ0)
    (step : ∀ pre x post out ρ, xs = pre ++ x :: post → I pre out ρ → ∃ (d : Option D) (ρ2 : Dn.Env), bodyC vs b q p (enc x) ρ = some (d, ρ2) ∧ I (pre ++ [x]) (out ++ d.toList) ρ2) : ∃ out ρ', loopC vs b q p (xs.map enc) ρ0 = some (out, ρ') ∧ I xs out ρ' := by
  have go : ∀ (post pre : List α) (out : List D) (ρ : Dn.Env), xs = pre ++ post → I pre out ρ → ∃ more ρ', loopC vs b q p (post.map enc) ρ = some (more, ρ') ∧ I xs (out ++ more) ρ' := by
    intro post
    induction post with
    | nil => intro pre out ρ hx hI; rw [List.append_nil] at hx; subst hx; exact ⟨[], ρ, rfl, by rw [List.append_nil]; exact hI⟩
    | cons x post ih =>
      intro pre out ρ hx hI
      obtain ⟨d, ρ2, e1, h1⟩ := step pre x post out ρ hx hI
      obtain ⟨more, ρ', e2, h2⟩ := ih (pre ++ [x]) (out ++ d.toList) ρ2 (by rw [hx]; simp) h1
      refine ⟨d.toList ++ more, ρ', ?_, by rw [List.append_assoc] at h2; exact h2⟩
      unfold bodyC at e1
      rw [List.map_cons]
      simp only [Option.bind_eq_some_iff] at e1
      obtain ⟨ρa, ea, ⟨t, ρb⟩, eb, e1⟩ := e1
      unfold loopC
      rw [ea, Option.bind_some, eb, Option.bind_some]
      cases t with
      | false =>
        simp at e1
        obtain ⟨rfl, rfl⟩ := e1
        simp only [Bool.false_eq_true, if_false]
        simpa using e2
      | true =>
        simp only [if_true, Option.bind_eq_some_iff] at e1
        obtain ⟨⟨c1, ρc⟩, ec, ⟨c2, ρd⟩, ed, e1⟩ := e1
        cases e1
        simp only [if_true]
        rw [ec, Option.bind_some, ed, Option.bind_some]
        simp only at e2 ⊢
        rw [e2]; rfl
  obtain ⟨more, ρ', e, h⟩ := go xs [] [] ρ0 rfl h0
  exact ⟨more, ρ', e, h⟩
/-! dicts with a number for each of some texts -/
def byD (ns : List Str) (f : Str → Int) : D := .dct (sdct D.int (ns.map fun n => (n, f n)))
theorem by_lookup {ns : List Str} {f : Str → Int} {n : Str} (h : n ∈ ns) : (ns.map fun n => (n, f n)).lookup n = some (f n) := by
  induction ns with
  | nil => cases h
  | cons a ns ih =>
    rw [List.map_cons, List.lookup_cons]
    by_cases hn : n = a
    · subst hn; simp
    · have : (n == a) = false := by simp [hn]
      rw [this]; exact ih (by rcases List.mem_cons.mp h with h | h; exact absurd h hn; exact h)
theorem by_put {ns : List Str} {f : Str → Int} {k : Str} {v : Int} (h : k ∈ ns) : putD (sdct D.int (ns.map fun n => (n, f n))) (.inr k) (.int v) = sdct D.int (ns.map fun n => (n, if n = k then v else f n)) := by
  have : ((sdct D.int (ns.map fun n => (n, f n))).any fun p => decide (p.1 = .inr k)) = true := by
    rw [List.any_eq_true]
    exact ⟨(.inr k, .int (f k)), by simp [sdct]; exact ⟨k, h, rfl, rfl⟩, by simp⟩
  unfold putD
  rw [if_pos this]
  simp only [sdct, List.map_map]
  refine List.map_congr_left fun n _ => ?_
  by_cases hn : n = k <;> simp [hn]
theorem drop_sdct {α : Type} {enc : α → D} {fs : List (Str × α)} {k : Str} : dropD (sdct enc fs) (.inr k) = sdct enc (fs.filter fun p => !decide (p.1 = k)) := by
  unfold dropD sdct
  rw [List.filter_map]
  congr 2
  funext p
  simp [Function.comp]
theorem filter_sub {l m : List Str} (h : l.Sublist m) (hn : m.Nodup) : m.filter (fun x => decide (x ∈ l)) = l := by
  induction h with
  | slnil => rfl
  | @cons l m a h ih =>
    rw [List.nodup_cons] at hn
    have : a ∉ l := fun z => hn.1 (h.subset z)
    rw [List.filter_cons]; simp only [this, decide_false, Bool.false_eq_true, if_false]
    exact ih hn.2
  | @cons_cons l m a h ih =>
    rw [List.nodup_cons] at hn
    rw [List.filter_cons]
    simp only [List.mem_cons, true_or, decide_true, if_true]
    congr 1
    rw [← ih hn.2]
    have e : (m.filter fun x => decide (x ∈ l)) = l := ih hn.2
    rw [e]
    refine Eq.trans (List.filter_congr fun x hx => ?_) e
    have : x ≠ a := fun z => hn.1 (z ▸ hx)
    simp [this]
end Pl



/-! t.index, l.remove, sorted of a tuple -/
namespace Dn
open PySem L2
section
variable {ρ : Env} {pa pb : P1}
def txC2 (ds : List D) (ρ : Env) : C → Option (C × Env)
  | .ro (.str z) => (tixD ds z).map fun j => (.ro (.int (j : Nat)), ρ)
  | _ => none
def txC (pb : P1) (ρ : Env) : C → Option (C × Env)
  | .ro (.tup ds) => (pb ρ).bind fun b => txC2 ds b.2 b.1
  | _ => none
@[simp] theorem v_tix : pTix pa pb ρ = (pa ρ).bind fun a => txC pb a.2 a.1 := rfl
@[simp] theorem v_txC {ds : List D} : txC pb ρ (.ro (.tup ds)) = (pb ρ).bind fun b => txC2 ds b.2 b.1 := rfl
@[simp] theorem v_txC2 {ds : List D} {z : Str} : txC2 ds ρ (.ro (.str z)) = (tixD ds z).map fun j => (.ro (.int (j : Nat)), ρ) := rfl
theorem o_remove {l : List Str} {z : Str} (h : z ∈ l) : opRemove (l.map .str) [.str z] = some ((l.erase z).map .str, .non) := by
  unfold opRemove
  simp only [o_strsD, Option.bind_some, Option.map_eq_some_iff]
  have e : (l.findIdx? fun s => decide (s = z)) = some (l.findIdx fun s => decide (s = z)) := by
    rw [List.findIdx?_eq_some_iff_findIdx_eq]; exact ⟨List.findIdx_lt_length_of_exists ⟨z, h, by simp⟩, rfl⟩
  refine ⟨_, e, ?_⟩
  have : l.eraseIdx (l.findIdx fun s => decide (s = z)) = l.erase z := by
    rw [List.erase_eq_eraseIdx]
    have e2 : List.idxOf? z l = some (l.findIdx fun s => decide (s = z)) := by
      rw [← e]; unfold List.idxOf?
      congr 1
    rw [e2]
  rw [this]
@[simp] theorem o_srtxS {ss : List Str} : D.srtx [.tup (ss.map .str)] = some (.own (.lst ((ss.mergeSort DnS.leS).map .str))) := by
  unfold D.srtx
  simp only [o_strsD, Option.map_some]
  rfl
end
theorem cut_from {α : Type} (l : List α) (j : Nat) : cutD l (some (j : Int)) none = l.drop j := by
  unfold cutD
  rw [HT.sIx_nat, HT.sIx_none]
  by_cases h : j ≤ l.length
  · rw [Nat.min_eq_left h, List.take_of_length_le (by rw [List.length_drop]; omega)]
  · rw [Nat.min_eq_right (by omega), List.drop_of_length_le (Nat.le_refl _), List.drop_of_length_le (by omega)]; simp
theorem cut_to {α : Type} (l : List α) (j : Nat) : cutD l none (some (j : Int)) = l.take j := by
  unfold cutD
  rw [HT.sIx_nat, HT.sIx_none]
  simp only [List.drop_zero, Nat.sub_zero]
  by_cases h : j ≤ l.length
  · rw [Nat.min_eq_left h]
  · rw [Nat.min_eq_right (by omega), List.take_length, List.take_of_length_le (by omega)]
theorem cut_in {α : Type} (l : List α) (i j : Nat) : cutD l (some (i : Int)) (some (j : Int)) = (l.drop i).take (j - i) := by
  unfold cutD
  rw [HT.sIx_nat, HT.sIx_nat]
  by_cases h : i ≤ l.length
  · rw [Nat.min_eq_left h]
    by_cases h2 : j ≤ l.length
    · rw [Nat.min_eq_left h2]
    · rw [Nat.min_eq_right (Nat.le_of_not_le h2), List.take_of_length_le (by rw [List.length_drop]; exact Nat.le_refl _), List.take_of_length_le (by rw [List.length_drop]; omega)]
  · rw [Nat.min_eq_right (a := i) (Nat.le_of_not_le h), List.drop_of_length_le (Nat.le_refl _), List.drop_of_length_le (Nat.le_of_not_le h)]; simp
end Dn
namespace Pl
open PySem L2 Dn
def ixOf (ss : List Str) (s : Str) : Nat := ss.findIdx fun x => decide (x = s)
theorem ixOf_lt {ss : List Str} {s : Str} (h : s ∈ ss) : ixOf ss s < ss.length := List.findIdx_lt_length_of_exists ⟨s, h, by simp⟩
theorem ixOf_ge {ss : List Str} {s : Str} (h : s ∉ ss) : ixOf ss s = ss.length := by
  unfold ixOf; rw [List.findIdx_eq_length]; intro x hx; simp; exact fun e => h (e ▸ hx)
theorem ixOf_in {ss : List Str} {s : Str} (h : ixOf ss s < ss.length) : s ∈ ss := by
  apply Classical.byContradiction; intro z; rw [ixOf_ge z] at h; omega
theorem tix_ok {ss : List Str} {s : Str} (h : s ∈ ss) : tixD (ss.map .str) s = some (ixOf ss s) := by
  unfold tixD ixOf
  rw [o_strsD, Option.bind_some, List.findIdx?_eq_some_iff_findIdx_eq]
  exact ⟨ixOf_lt h, rfl⟩
theorem ixOf_app {ss ts : List Str} {s : Str} (h : s ∈ ss) : ixOf (ss ++ ts) s = ixOf ss s := by
  unfold ixOf
  rw [List.findIdx_append]; exact if_pos (ixOf_lt h)
theorem ixOf_new {ss : List Str} {s : Str} (h : s ∉ ss) : ixOf (ss ++ [s]) s = ss.length := by
  have e := ixOf_ge h
  unfold ixOf at *
  rw [List.findIdx_append, e, if_neg (by omega)]; simp
theorem ixOf_get {ss : List Str} {s : Str} (h : s ∈ ss) : ss[ixOf ss s]? = some s := by
  have := List.findIdx_getElem (xs := ss) (p := fun x => decide (x = s)) (w := ixOf_lt h)
  rw [List.getElem?_eq_getElem (ixOf_lt h)]
  exact congrArg some (of_decide_eq_true this)
/-- texts alone, or something else -/
theorem strs_or : ∀ ds : List D, (∃ ss : List Str, ds = ss.map .str) ∨ (strsD ds = none ∧ ∃ d ∈ ds, ∀ s, d ≠ .str s)
  | [] => .inl ⟨[], rfl⟩
  | d :: ds => by
    rcases strs_or ds with ⟨ss, rfl⟩ | ⟨h1, x, h2, h3⟩
    · cases d with
      | str s => exact .inl ⟨s :: ss, rfl⟩
      | _ => exact .inr ⟨rfl, _, List.mem_cons_self .., fun s h => D.noConfusion h⟩
    · refine .inr ⟨?_, x, List.mem_cons_of_mem _ h2, h3⟩
      cases d <;> simp [strsD, h1]
def isStrD : D → Bool
  | .str _ => true
  | _ => false
theorem isStrD_no {d : D} (h : ∀ s, d ≠ .str s) : isStrD d = false := by
  cases d <;> first | rfl | exact absurd rfl (h _)
end Pl
namespace Dn
open PySem L2
section
variable {ρ : Env} {vs : List Nat} {b : B1} {q : PT1} {p : P1} {s : S1} {j : Nat} {ds l : List D}
@[simp] theorem o_toDictxL : D.toDictx [.lst l] = (pairsD l).map fun ps => .own (.dct (mergeD [] ps)) := rfl
@[simp] theorem o_toDictxT : D.toDictx [.tup l] = (pairsD l).map fun ps => .own (.dct (mergeD [] ps)) := rfl
@[simp] theorem o_toDictxD {l : List (Key × D)} : D.toDictx [.dct l] = some (.own (.dct l)) := rfl
@[simp] theorem o_toDictxF {l : List (Key × D)} : D.toDictx [.fdc l] = some (.own (.dct l)) := rfl
def laC : Option (Option C) → Option (List D)
  | some (some (.own (.lst ds))) => some ds
  | some (some (.io (.lst ds))) => some ds
  | _ => none
@[simp] theorem v_lstAt : lstAt ρ j = laC ρ[j]? := rfl
@[simp] theorem v_laC1 : laC (some (some (.own (.lst ds)))) = some ds := rfl
@[simp] theorem v_laC2 : laC (some (some (.io (.lst ds)))) = some ds := rfl
@[simp] theorem v_pLcV : pLcV j vs b q p ρ = (lstAt ρ j).bind fun _ => (loopCV j vs b q p bigV 0 (forget vs ρ)).map fun r => (.own (.lst r.1), r.2) := rfl
@[simp] theorem v_forV {bb : B1} : sForV j bb s ρ = (lstAt ρ j).bind fun _ => loopLV j bb s bigV 0 ρ := rfl
/-- where the turns leave all as it is, a live walk is a walk -/
theorem loopCV_eq (hl : lstAt ρ j = some ds) (hn : ds.length < bigV) (h : ∀ d ∈ ds, ∃ o, bodyC vs b q p d ρ = some (o, ρ)) : loopCV j vs b q p bigV 0 ρ = loopC vs b q p ds ρ := by
  have go : ∀ (m k : Nat), m + k = bigV → k ≤ ds.length → loopCV j vs b q p m k ρ = loopC vs b q p (ds.drop k) ρ := by
    intro m
    induction m with
    | zero => intro k h1 h2; omega
    | succ m ih =>
      intro k h1 h2
      unfold loopCV
      rw [hl, Option.bind_some]
      by_cases hk : k < ds.length
      · obtain ⟨o, ho⟩ := h ds[k] (List.getElem_mem hk)
        rw [List.getElem?_eq_getElem hk, List.drop_eq_getElem_cons hk, loopC]
        dsimp only
        have ih := ih (k + 1) (by omega) (by omega)
        unfold bodyC at ho
        simp only [Option.bind_eq_some_iff] at ho
        obtain ⟨ρ1, e1, t, e2, ho⟩ := ho
        rw [e1, Option.bind_some, Option.bind_some, e2, Option.bind_some, Option.bind_some]
        by_cases ht : t.1 = true
        · rw [if_pos ht] at ho ⊢
          rw [if_pos ht]
          simp only [Option.bind_eq_some_iff] at ho
          obtain ⟨a, e3, a2, e4, e5⟩ := ho
          simp only [Option.some.injEq, Prod.mk.injEq] at e5
          rw [e3, Option.bind_some, Option.bind_some, e4, Option.bind_some, Option.bind_some, e5.2, ih]
        · rw [if_neg ht] at ho ⊢
          rw [if_neg ht]
          simp only [Option.some.injEq, Prod.mk.injEq] at ho
          rw [ho.2, ih]
      · rw [List.getElem?_eq_none (Nat.le_of_not_lt hk), List.drop_eq_nil_of_le (Nat.le_of_not_lt hk)]; rfl
  have := go bigV 0 rfl (Nat.zero_le _)
  rwa [List.drop_zero] at this
theorem loopLV_eq {bb : B1} (I : Nat → Env → Prop) (hI : ∀ k ρ, I k ρ → lstAt ρ j = some ds) (hn : ds.length < bigV) (step : ∀ k d ρ ρ2, ds[k]? = some d → I k ρ → (((bb d ρ).bind fun ρ1 => s ρ1) = some (.nx ρ2) ∨ ((bb d ρ).bind fun ρ1 => s ρ1) = some (.ct ρ2)) → I (k + 1) ρ2) (h0 : I 0 ρ) : loopLV j bb s bigV 0 ρ = loopL bb s ds ρ := by
  have go : ∀ (m k : Nat) (ρ : Env), m + k = bigV → k ≤ ds.length → I k ρ → loopLV j bb s m k ρ = loopL bb s (ds.drop k) ρ := by
    intro m
    induction m with
    | zero => intro k ρ h1 h2; omega
    | succ m ih =>
      intro k ρ h1 h2 hk0
      unfold loopLV
      rw [hI k ρ hk0, Option.bind_some]
      by_cases hk : k < ds.length
      · rw [List.getElem?_eq_getElem hk, List.drop_eq_getElem_cons hk, loopL]
        dsimp only
        cases e1 : bb ds[k] ρ with
        | none => rfl
        | some ρ1 =>
          rw [Option.bind_some, Option.bind_some]
          cases e2 : s ρ1 with
          | none => rfl
          | some o =>
            rw [Option.bind_some, Option.bind_some]
            cases o with
            | nx ρ2 => exact ih (k + 1) ρ2 (by omega) (by omega) (step k _ ρ ρ2 (List.getElem?_eq_getElem hk) hk0 (.inl (by rw [e1]; exact e2)))
            | ct ρ2 => exact ih (k + 1) ρ2 (by omega) (by omega) (step k _ ρ ρ2 (List.getElem?_eq_getElem hk) hk0 (.inr (by rw [e1]; exact e2)))
            | bk ρ2 => rfl
            | rt c ρ2 => rfl
      · rw [List.getElem?_eq_none (Nat.le_of_not_lt hk), List.drop_eq_nil_of_le (Nat.le_of_not_lt hk)]; rfl
  have := go bigV 0 ρ rfl (Nat.zero_le _) h0
  rwa [List.drop_zero] at this
theorem bodyC_some {α : Type} {enc : α → D} {g : α → Option D} {xs : List α} (h : ∀ a ∈ xs, bodyC vs b q p (enc a) ρ = some (g a, ρ)) : ∀ d ∈ xs.map enc, ∃ o, bodyC vs b q p d ρ = some (o, ρ) := fun d hd => by
  obtain ⟨a, ha, rfl⟩ := List.mem_map.mp hd
  exact ⟨_, h a ha⟩
/-- live, over an encoded list: those that pass give a value -/
theorem loopCV_encF {α : Type} (enc : α → D) (t : α → Bool) (g : α → D) {xs : List α} (hl : lstAt ρ j = some (xs.map enc)) (hn : xs.length ≤ 10000000) (h : ∀ a ∈ xs, bodyC vs b q p (enc a) ρ = some (if t a = true then some (g a) else none, ρ)) : loopCV j vs b q p bigV 0 ρ = some ((xs.filter t).map g, ρ) := by
  rw [loopCV_eq hl (by rw [List.length_map]; unfold bigV; omega) (bodyC_some h)]
  exact loopC_encF enc t g h
theorem loopCV_encM {α : Type} (enc : α → D) (g : α → D) {xs : List α} (hl : lstAt ρ j = some (xs.map enc)) (hn : xs.length ≤ 10000000) (h : ∀ a ∈ xs, bodyC vs b q p (enc a) ρ = some (some (g a), ρ)) : loopCV j vs b q p bigV 0 ρ = some (xs.map g, ρ) := by
  rw [loopCV_eq hl (by rw [List.length_map]; unfold bigV; omega) (bodyC_some h)]
  exact loopC_encM enc g h
end
end Dn
namespace Pl
open PySem L2 Dn
theorem leB_strs (a b : Str) (xs ys : List D) (px py : List PyData) (hx : D.pyL xs = some px) (hy : D.pyL ys = some py) (h : D.leB (.tup (.str a :: xs)) (.tup (.str b :: ys)) = true) : DnS.leS a b = true := by
  have h : (!W.dataLt (D.pyD (.tup (.str b :: ys))) (D.pyD (.tup (.str a :: xs)))) = true := h
  have e1 : D.pyD (.tup (.str b :: ys)) = .tuple (.str b :: py) := by simp [D.pyD, D.py, D.pyL, hy]
  have e2 : D.pyD (.tup (.str a :: xs)) = .tuple (.str a :: px) := by simp [D.pyD, D.py, D.pyL, hx]
  rw [e1, e2, W.dataLt_tuple, W.dataLt_cons (by simp [W.alike])] at h
  by_cases hij : b = a
  · subst hij
    have := DnS.leS_total b b
    simpa using this
  · have hne : PyData.eqv (.str b) (.str a) = false := by simp [PyData.eqv, hij]
    rw [hne] at h
    exact h
@[simp] theorem steps_imm (st : List Step) : (stepsD st).imm = true := by simp [stepsD, stp]
theorem filter_nil_all {α : Type} (p : α → Bool) (l : List α) : (l.filter fun a => !p a).isEmpty = l.all p := by
  induction l with
  | nil => rfl
  | cons a l ih => cases h : p a <;> simp [h, ih]
theorem find_filter {α : Type} {p : α → Bool} {l : List α} : (∃ a r, l.filter p = a :: r ∧ l.find? p = some a) ∨ (l.filter p = [] ∧ l.find? p = none) := by
  induction l with
  | nil => exact .inr ⟨rfl, rfl⟩
  | cons a l ih =>
    rw [List.filter_cons, List.find?_cons]
    cases h : p a with
    | true => exact .inl ⟨a, l.filter p, by simp, by simp⟩
    | false => simpa using ih
theorem Conn.trans {as : List Arc} {u v w : Str} (h : Conn as u v) (h2 : Conn as v w) : Conn as u w := by
  induction h2 with
  | refl => exact h
  | step _ ha ih => exact .step ih ha
theorem Conn.arc {as : List Arc} {a : Arc} (h : a ∈ as) : Conn as a.s a.t := .step .refl h
theorem Conn.mono {as bs : List Arc} {u v : Str} (h : Conn as u v) (hs : ∀ a ∈ as, a ∈ bs) : Conn bs u v := by
  induction h with
  | refl => exact .refl
  | step _ ha ih => exact .step ih (hs _ ha)
/-- a way into a set of nodes steps into it -/
theorem Conn.enter {as : List Arc} {u v : Str} (h : Conn as u v) (P : Str → Prop) (hu : ¬ P u) (hv : P v) : ∃ a ∈ as, ¬ P a.s ∧ P a.t := by
  induction h with
  | refl => exact absurd hv hu
  | @step a _ ha ih =>
    by_cases h : P a.s
    · exact ih h
    · exact ⟨a, ha, h, hv⟩
end Pl
namespace Pl
open PySem L2 Dn
theorem atI_last {α : Type} {l : List α} {x : α} : atI (l ++ [x]) (-1) = some x := by
  unfold atI ixN
  rw [if_neg (by omega), if_pos (by simp; omega)]
  have : ((-1 : Int) + ((l ++ [x]).length : Nat)).toNat = l.length := by simp; omega
  rw [this]; simp
theorem lookup_map {α : Type} {ns : List Str} {f : Str → α} {n : Str} (h : n ∈ ns) : (ns.map fun n => (n, f n)).lookup n = some (f n) := by
  induction ns with
  | nil => cases h
  | cons a ns ih =>
    rw [List.map_cons, List.lookup_cons]
    by_cases hn : n = a
    · subst hn; simp
    · have : (n == a) = false := by simp [hn]
      rw [this]; exact ih (by rcases List.mem_cons.mp h with h | h; exact absurd h hn; exact h)
theorem lookup_in {α : Type} {ps : List (Str × α)} {n : Str} (h : n ∈ ps.map (·.1)) : ∃ b, ps.lookup n = some b := by
  induction ps with
  | nil => cases h
  | cons p ps ih =>
    rw [List.lookup_cons]
    by_cases hn : n = p.1
    · exact ⟨p.2, by simp [hn]⟩
    · have : (n == p.1) = false := by simp [hn]
      rw [this]
      exact ih (by rcases List.mem_cons.mp h with h | h; exact absurd h hn; exact h)
theorem mergeD_new {α : Type} {enc : α → D} : ∀ {ps acc : List (Str × α)}, (acc ++ ps |>.map (·.1)).Nodup → mergeD (sdct enc acc) (sdct enc ps) = sdct enc (acc ++ ps)
  | [], acc, _ => by simp [mergeD]
  | p :: ps, acc, h => by
    have hk : p.1 ∉ acc.map (·.1) := by
      rw [List.map_append, List.nodup_append] at h
      exact fun z => h.2.2 _ z p.1 (by simp) rfl
    have e : mergeD (sdct enc acc) (sdct enc (p :: ps)) = mergeD (putD (sdct enc acc) (.inr p.1) (enc p.2)) (sdct enc ps) := rfl
    rw [e, putD_new hk, mergeD_new (by simpa using h)]
    simp
theorem snoc_of {α : Type} {l : List α} (h : l ≠ []) : ∃ l0 x, l = l0 ++ [x] := by
  rcases List.eq_nil_or_concat l with h2 | ⟨l0, x, h2⟩
  · exact absurd h2 h
  · exact ⟨l0, x, by simpa using h2⟩
end Pl
namespace Pl
open PySem L2 Dn
@[simp] theorem o_toIntB {b : Bool} : D.toInt [.bl b] = some (.ro (.int (if b = true then 1 else 0))) := by
  cases b <;> rfl
def ends (n : Str) (e : Edge) : Int := (if e.one = n then 1 else 0) + (if e.other = n then 1 else 0)
/-- how many ends of some edges there are at a node -/
def deg (g : Gr) (ns : List Str) (n : Str) : Int := ((g.E ns).map (ends n)).sum
/-! turning edges over along a way -/
def tog (T : List Str) (n : Str) : List Str := if n ∈ T then T.filter (fun m => !decide (m = n)) else T ++ [n]
theorem mem_tog {T : List Str} {n m : Str} : m ∈ tog T n ↔ (m ∈ T ∧ m ≠ n) ∨ (m = n ∧ n ∉ T) := by
  unfold tog
  split
  · rename_i h
    rw [List.mem_filter]
    simp only [Bool.not_eq_true', decide_eq_false_iff_not]
    constructor
    · exact fun z => .inl z
    · rintro (z | ⟨_, z⟩)
      · exact z
      · exact absurd h z
  · rename_i h
    rw [List.mem_append, List.mem_singleton]
    constructor
    · rintro (z | z)
      · exact .inl ⟨z, fun e => h (e ▸ z)⟩
      · exact .inr ⟨z, h⟩
    · rintro (⟨z, _⟩ | ⟨z, _⟩)
      · exact .inl z
      · exact .inr z
theorem tog_nodup {T : List Str} (h : T.Nodup) (n : Str) : (tog T n).Nodup := by
  unfold tog
  split
  · exact h.sublist List.filter_sublist
  · rename_i hn
    rw [List.nodup_append]
    exact ⟨h, by simp, by intro a ha b hb; rw [List.mem_singleton] at hb; subst hb; exact fun e => hn (e ▸ ha)⟩
/-- the sum over some edges, by the edges that are in -/
def degL (T : List Str) (n : Str) (es : List Edge) : Int := (es.map fun e => if e.name ∈ T then ends n e else 0).sum
theorem deg_eq (g : Gr) (T : List Str) (n : Str) : deg g T n = degL T n g.edges := by
  unfold deg degL Gr.E Gr.only
  simp only
  induction g.edges with
  | nil => rfl
  | cons e es ih =>
    by_cases h : e.name ∈ T
    · simp [h, ih]
    · simp [h, ih]
theorem degL_out {T : List Str} {m : Str} (n : Str) {es : List Edge} (h : ∀ e ∈ es, e.name ≠ m) : degL (tog T m) n es = degL T n es := by
  unfold degL
  congr 1
  refine List.map_congr_left fun e he => ?_
  have : e.name ∈ tog T m ↔ e.name ∈ T := by
    rw [mem_tog]
    constructor
    · rintro (⟨z, _⟩ | ⟨z, _⟩)
      · exact z
      · exact absurd z (h e he)
    · exact fun z => .inl ⟨z, h e he⟩
  by_cases h2 : e.name ∈ T
  · rw [if_pos (this.mpr h2), if_pos h2]
  · rw [if_neg fun z => h2 (this.mp z), if_neg h2]
theorem degL_tog {T : List Str} {f : Edge} (n : Str) : ∀ {es : List Edge}, (es.map (·.name)).Nodup → f ∈ es → (degL (tog T f.name) n es + degL T n es) % 2 = ends n f % 2
  | e :: es, hn, hf => by
    rw [List.map_cons, List.nodup_cons] at hn
    have c : ∀ (T : List Str), degL T n (e :: es) = (if e.name ∈ T then ends n e else 0) + degL T n es := fun T => by simp [degL]
    rw [c, c]
    rcases List.mem_cons.mp hf with rfl | hf
    · have h1 := degL_out (T := T) n (m := f.name) (es := es) fun e he z => hn.1 (List.mem_map.mpr ⟨e, he, z⟩)
      rw [h1]
      have h2 : f.name ∈ tog T f.name ↔ f.name ∉ T := by rw [mem_tog]; simp
      by_cases h3 : f.name ∈ T
      · rw [if_neg fun z => h2.mp z h3, if_pos h3]; omega
      · rw [if_pos (h2.mpr h3), if_neg h3]; omega
    · have ih := degL_tog (T := T) n hn.2 hf
      have hne : e.name ≠ f.name := fun z => hn.1 (List.mem_map.mpr ⟨f, hf, z.symm⟩)
      have h2 : e.name ∈ tog T f.name ↔ e.name ∈ T := by
        rw [mem_tog]
        constructor
        · rintro (⟨z, _⟩ | ⟨z, _⟩)
          · exact z
          · exact absurd z hne
        · exact fun z => .inl ⟨z, hne⟩
      by_cases h3 : e.name ∈ T
      · rw [if_pos (h2.mpr h3), if_pos h3]; omega
      · rw [if_neg fun z => h3 (h2.mp z), if_neg h3]; omega
def b01 (b : Bool) : Int := if b = true then 1 else 0
/-- along a way only its ends turn over -/
theorem deg_way {g : Gr} (hn : g.names.Nodup) (n : Str) : ∀ {st : List Step} {s t : Str} {T : List Str}, follow g.opn.arcs s st = some t →
    (deg g (st.foldl (fun T p => tog T p.1) T) n + deg g T n) % 2 = (b01 (decide (s = n)) + b01 (decide (t = n))) % 2
  | [], s, t, T, h => by
    cases h
    show (deg g T n + deg g T n) % 2 = _
    omega
  | p :: st, s, t, T, h => by
    simp only [follow, Option.bind_eq_some_iff] at h
    obtain ⟨a, h1, h2⟩ := h
    by_cases hs : a.s = s
    · rw [if_pos hs] at h2
      have ih := deg_way hn n (T := tog T p.1) h2
      have ha := List.mem_of_find?_eq_some h1
      have hp := List.find?_some h1
      simp [isArc] at hp
      obtain ⟨e, he, k1, _, k2⟩ := opn_arc ha
      have hd := degL_tog (T := T) (f := e) n (es := g.edges) hn he
      rw [← deg_eq, ← deg_eq, k1, hp.1] at hd
      rw [List.foldl_cons]
      have hend : ends n e % 2 = (b01 (decide (a.s = n)) + b01 (decide (a.t = n))) % 2 := by
        unfold ends b01
        rcases k2 with ⟨q1, q2⟩ | ⟨q1, q2⟩
        · rw [q1, q2]; simp
        · rw [q1, q2]; simp only [decide_eq_true_eq]; rw [Int.add_comm]
      rw [← hs]
      omega
    · rw [if_neg hs] at h2; cases h2
theorem fold_nodup : ∀ {st : List Step} {T : List Str}, T.Nodup → (st.foldl (fun T p => tog T p.1) T).Nodup
  | [], _, h => h
  | p :: st, T, h => by rw [List.foldl_cons]; exact fold_nodup (tog_nodup h p.1)
theorem fold_in {g : Gr} : ∀ {st : List Step} {T : List Str}, (∀ n ∈ T, n ∈ g.names) → (∀ p ∈ st, p.1 ∈ g.names) → ∀ n ∈ st.foldl (fun T p => tog T p.1) T, n ∈ g.names
  | [], _, h, _ => h
  | p :: st, T, h, h2 => by
    rw [List.foldl_cons]
    refine fold_in (T := tog T p.1) (fun n hn => ?_) fun q hq => h2 q (List.mem_cons_of_mem _ hq)
    rcases mem_tog.mp hn with ⟨z, _⟩ | ⟨z, _⟩
    · exact h n z
    · exact z ▸ h2 p (by simp)
theorem follow_names {g : Gr} : ∀ {st : List Step} {s t : Str}, follow g.opn.arcs s st = some t → ∀ p ∈ st, p.1 ∈ g.names
  | [], _, _, _ => by simp
  | p :: st, s, t, h => by
    simp only [follow, Option.bind_eq_some_iff] at h
    obtain ⟨a, h1, h2⟩ := h
    by_cases hs : a.s = s
    · rw [if_pos hs] at h2
      have ha := List.mem_of_find?_eq_some h1
      have hp := List.find?_some h1
      simp [isArc] at hp
      obtain ⟨e, he, k1, _⟩ := opn_arc ha
      intro q hq
      rcases List.mem_cons.mp hq with rfl | hq
      · exact List.mem_map.mpr ⟨e, he, k1.trans hp.1⟩
      · exact follow_names h2 q hq
    · rw [if_neg hs] at h2; cases h2
theorem fold_new : ∀ {st : List Step} {T : List Str}, (T ++ st.map (·.1)).Nodup → st.foldl (fun T p => tog T p.1) T = T ++ st.map (·.1)
  | [], T, _ => by simp
  | p :: st, T, h => by
    have hp : p.1 ∉ T := fun z => (List.nodup_append.mp h).2.2 _ z p.1 (by simp) rfl
    have e : tog T p.1 = T ++ [p.1] := by unfold tog; rw [if_neg hp]
    rw [List.foldl_cons, e, fold_new (T := T ++ [p.1]) (by simpa using h)]
    simp
/-- how many ends there are at a node -/
def dg (g : Gr) (n : Str) : Int := (g.edges.map (ends n)).sum
theorem only_all {g : Gr} {U : List Str} (h : ∀ e ∈ g.edges, e.name ∈ U) : g.E U = g.edges := by
  show g.edges.filter _ = _
  rw [List.filter_eq_self]; intro e he; simpa using h e he
theorem deg_perm {g : Gr} {U V : List Str} (h : ∀ x, x ∈ U ↔ x ∈ V) (n : Str) : deg g U n = deg g V n := by
  unfold deg
  congr 2
  show g.edges.filter _ = g.edges.filter _
  refine List.filter_congr fun e _ => ?_
  rw [decide_eq_decide]; exact h e.name
/-- all edges at a node are among some -/
theorem deg_full {g : Gr} {U : List Str} {n : Str} (h : ∀ e ∈ g.edges, e.one = n ∨ e.other = n → e.name ∈ U) : deg g U n = dg g n := by
  rw [deg_eq]
  unfold degL dg
  congr 1
  refine List.map_congr_left fun e he => ?_
  by_cases hn : e.one = n ∨ e.other = n
  · rw [if_pos (h e he hn)]
  · have h1 : e.one ≠ n := fun z => hn (.inl z)
    have h2 : e.other ≠ n := fun z => hn (.inr z)
    simp [ends, h1, h2]
end Pl



namespace Pl
open PySem L2 Dn Mir
--@ arcs_of
theorem arcs_of_ok (g : Gr) (h : g.edges.length ≤ 1000) : f_arcs_of [g.d] = some (.own (.lst (g.arcs.map Arc.d))) := by
  obtain ⟨ρ', el, hI⟩ := loop_pre (b := (bSeq 5 (bCons (bName 2) (bCons (bName 3) (bCons (bName 4) (bCons (bName 5) (bCons (bName 6) (bNil)))))))) (s := l_arcs_of_0) Edge.d
    (fun pre ρ => ∃ x2 x3 x4 x5 x6, ρ = [some (.ro g.d), some (.own (.lst ((pre.flatMap Edge.arcs).map Arc.d))), x2, x3, x4, x5, x6]) (xs := g.edges) (ρ0 := [some (.ro g.d), some (.own (.lst [])), none, none, none, none, none]) ⟨_, _, _, _, _, rfl⟩ (by
      rintro pre ⟨name, one, other, w, ow⟩ post ρ hx ⟨x2, x3, x4, x5, x6, rfl⟩
      have hl : (pre.flatMap Edge.arcs).length + 2 < 16777216 := by
        have := arcs_len pre
        have : pre.length ≤ g.edges.length := by rw [hx]; simp
        omega
      have h1 : (pre.flatMap Edge.arcs).length < 16777216 := by omega
      have h2 : (pre.flatMap Edge.arcs).length + 1 < 16777216 := by omega
      cases ow <;> simp [l_arcs_of_0, Edge.d, h1, h2, -List.length_flatMap] <;> simp [Edge.arcs, Arc.d, stp])
  obtain ⟨x2, x3, x4, x5, x6, rfl⟩ := hI
  simp [f_arcs_of, runDef, p_arcs_of, el]
  rfl
--@ _law_steps
theorem law_steps_ok (g : Gr) (h : g.edges.length ≤ 1000) : f__law_steps [g.d] = some (.own (.lst (g.arcs.map Arc.d))) := by
  obtain ⟨ρ', el, hI⟩ := loop_pre (b := (bSeq 5 (bCons (bName 2) (bCons (bName 3) (bCons (bName 4) (bCons (bName 5) (bCons (bName 6) (bNil)))))))) (s := l__law_steps_0) Edge.d
    (fun pre ρ => ∃ x2 x3 x4 x5 x6, ρ = [some (.ro g.d), some (.own (.lst ((pre.flatMap Edge.arcs).map Arc.d))), x2, x3, x4, x5, x6]) (xs := g.edges) (ρ0 := [some (.ro g.d), some (.own (.lst [])), none, none, none, none, none]) ⟨_, _, _, _, _, rfl⟩ (by
      rintro pre ⟨name, one, other, w, ow⟩ post ρ hx ⟨x2, x3, x4, x5, x6, rfl⟩
      have hl : (pre.flatMap Edge.arcs).length + 2 < 16777216 := by
        have := arcs_len pre
        have : pre.length ≤ g.edges.length := by rw [hx]; simp
        omega
      have h1 : (pre.flatMap Edge.arcs).length < 16777216 := by omega
      have h2 : (pre.flatMap Edge.arcs).length + 1 < 16777216 := by omega
      cases ow <;> simp [l__law_steps_0, Edge.d, h1, h2, -List.length_flatMap] <;> simp [Edge.arcs, Arc.d, stp])
  obtain ⟨x2, x3, x4, x5, x6, rfl⟩ := hI
  simp [f__law_steps, runDef, p__law_steps, el]
  rfl
--@ are_nodes
theorem are_nodes_ok (g : Gr) (x : D) (hx : Asked x) : f_are_nodes [g.d, x] = some (.ro (.bl (textsIn g.nodes x))) := by
  rcases hx.cases with ⟨ds, rfl, hl, hs⟩ | ⟨hn, m, hm, hm2⟩
  · have e := loopC_encM (vs := [2]) (b := kb_are_nodes_0) (q := qYes) (p := kp_are_nodes_0) (fun d : D => d) (fun d => .bl (isIn g.nodes d)) (ρ := [some (.ro g.d), some (.ro (.tup ds)), none]) (xs := ds) (by
      intro d hd
      have hs := hs d hd
      cases d <;> first | (simp [D.sm] at hs; done) | simp [bodyC, kb_are_nodes_0, kp_are_nodes_0, isIn])
    rw [List.map_id'] at e
    have h1 : ds.length ≤ 16777216 := by omega
    rcases texts_cases g.nodes ds with ⟨ss, rfl, h⟩ | ⟨⟨d, hd, h2⟩, h3⟩
    · have hall : ¬ ∃ x, x ∈ ss ∧ ¬ x ∈ g.nodes := fun ⟨x, h1, h2⟩ => h2 (h x h1)
      have h1 : ss.length ≤ 16777216 := by simpa using h1
      have hl : ss.length ≤ 1000 := by simpa using hl
      rw [textsIn_strs h]
      simp [f_are_nodes, runDef, p_are_nodes, h1, e, isIn, hl, hall]
    · have hany : ∃ x ∈ ds, isIn g.nodes x = false := ⟨d, hd, h2⟩
      rw [h3]
      simp [f_are_nodes, runDef, p_are_nodes, h1, e, hany]
  · rw [textsIn_no hn]
    simp [f_are_nodes, runDef, p_are_nodes, hm, hm2]
--@ _law_are_nodes
theorem law_are_nodes_ok (g : Gr) (x : D) (hx : Asked x) : f__law_are_nodes [g.d, x] = some (.ro (.bl (textsIn g.nodes x))) := by
  rcases hx.cases with ⟨ds, rfl, hl, hs⟩ | ⟨hn, m, hm, hm2⟩
  · have e := loopC_encF (vs := [2]) (b := kb__law_are_nodes_0) (q := kq__law_are_nodes_0) (p := kp__law_are_nodes_0) (fun d : D => d) (fun d => !isIn g.nodes d) (fun d => d) (ρ := [some (.ro g.d), some (.ro (.tup ds)), none]) (xs := ds) (by
      intro d hd
      have hs := hs d hd
      cases d with
      | str s => by_cases h : s ∈ g.nodes <;> simp [bodyC, kb__law_are_nodes_0, kp__law_are_nodes_0, kq__law_are_nodes_0, isIn, h]
      | _ => first | (simp [D.sm] at hs; done) | simp [bodyC, kb__law_are_nodes_0, kp__law_are_nodes_0, kq__law_are_nodes_0, isIn])
    rw [List.map_id', List.map_id'] at e
    have h1 : ds.length ≤ 16777216 := by omega
    have hok : D.okdL 49 (ds.filter fun d => !isIn g.nodes d) = true := by
      rw [D.okdL_eq, List.all_eq_true]
      exact fun x hx => okd_le (by decide) (sm_okd _ _ (hs x (List.mem_filter.mp hx).1))
    rcases texts_cases g.nodes ds with ⟨ss, rfl, h⟩ | ⟨⟨d, hd, h2⟩, h3⟩
    · have hall : (ss.map D.str).filter (fun d => !isIn g.nodes d) = [] := by
        rw [List.filter_eq_nil_iff]; intro d hd
        obtain ⟨s, hs, rfl⟩ := List.mem_map.mp hd
        simp [isIn, h s hs]
      have h1 : ss.length ≤ 16777216 := by simpa using h1
      have hl : ss.length ≤ 1000 := by simpa using hl
      rw [hall] at e
      rw [textsIn_strs h]
      simp [f__law_are_nodes, runDef, p__law_are_nodes, h1, e, isIn, hl]
    · have hany : (ds.filter fun d => !isIn g.nodes d) ≠ [] := fun z => by
        rw [List.filter_eq_nil_iff] at z
        exact z d hd (by simp [h2])
      obtain ⟨y, ys, hy⟩ := List.exists_cons_of_ne_nil hany
      rw [hy] at e hok
      rw [h3]
      simp [f__law_are_nodes, runDef, p__law_are_nodes, h1, e, hok, -o_okdL1]
  · rw [textsIn_no hn]
    simp [f__law_are_nodes, runDef, p__law_are_nodes, hm, hm2]
--@ is_told
theorem is_told_ok (x : D) (hx : Asked x) (ws : List Str) (n : Nat) (hn : 0 < n) : f_is_told [x, .tup (ws.map .str), .int n] = some (.ro (.bl (told x ws n))) := by
  rcases hx.cases with ⟨ds, rfl, hl, hs⟩ | ⟨hn', m, hm, hm2⟩
  · by_cases h : ds.length = n
    · cases ds with
      | nil => simp at h; omega
      | cons d ds =>
        have hs := hs d (List.mem_cons_self ..)
        have h' : (ds.length : Int) + 1 = n := by simp at h; omega
        cases d <;> first | (simp [D.sm] at hs; done) | simp [f_is_told, runDef, p_is_told, told, h, h']
    · have h' : ¬ (ds.length : Int) = n := by omega
      simp [f_is_told, runDef, p_is_told, told, h, h']
  · rw [told_no hn']
    simp [f_is_told, runDef, p_is_told, hm, hm2]
--@ _law_is
theorem law_is_ok (x : D) (hx : Asked x) (w : Str) (n : Nat) (hn : 0 < n) : f__law_is [x, .str w, .int n] = some (.ro (.bl (told x [w] n))) := by
  rcases hx.cases with ⟨ds, rfl, hl, hs⟩ | ⟨hn', m, hm, hm2⟩
  · by_cases h : ds.length = n
    · cases ds with
      | nil => simp at h; omega
      | cons d ds =>
        have hs := hs d (List.mem_cons_self ..)
        have h' : (ds.length : Int) + 1 = n := by simp at h; omega
        cases d <;> first | (simp [D.sm] at hs; done) | simp [f__law_is, runDef, p__law_is, told, h, h']
    · have h' : ¬ (ds.length : Int) = n := by omega
      simp [f__law_is, runDef, p__law_is, told, h, h']
  · rw [told_no hn']
    simp [f__law_is, runDef, p__law_is, hm, hm2]
--@ _law_next
structure St where
  cells : List Int
  pos : Nat
  big : Int
  seed : Int
  hp : pos ≤ cells.length
  hb : 0 ≤ big
def enc (s : St) : D := .lst [.lst (s.cells.map .int), .int s.pos, .int s.big, .int s.seed]
theorem next_ok (s : St) (n : Int) (h0 : 0 < n) (h1 : n < 2 ^ 64) : ∃ (s' : St) (v : Int), f__law_next (enc s) [.int n] = some (.ro (.int v), enc s') ∧ 0 ≤ v ∧ v < n := by
  obtain ⟨cells, pos, big, seed, hp, hb⟩ := s
  have h2 : n.natAbs < 18446744073709551616 := by omega
  by_cases hc : big = 0 ∧ pos < cells.length
  · obtain ⟨rfl, hpos⟩ := hc
    by_cases hcell : (1000000000000000000 : Int) ≤ cells[pos]
    · have hbig : 0 < cells[pos] := by omega
      refine ⟨⟨cells, pos + 1, cells[pos] / n, seed, hpos, Int.ediv_nonneg (by omega) (by omega)⟩, cells[pos] % n, ?_, Int.emod_nonneg _ (by omega), Int.emod_lt_of_pos _ h0⟩
      simp [f__law_next, runIo, p__law_next, enc, atI, ixN, hpos, hcell, hbig, h0, h2, ioAt]
    · refine ⟨⟨cells, pos + 1, 0, ((seed * 48271 + cells[pos] % 2147483647 + 7) % 2147483647 * 69621 + 12345) % 2147483647, hpos, hb⟩, ((seed * 48271 + cells[pos] % 2147483647 + 7) % 2147483647 * 69621 + 12345) % 2147483647 / 7 % n, ?_, Int.emod_nonneg _ (by omega), Int.emod_lt_of_pos _ h0⟩
      simp [f__law_next, runIo, p__law_next, enc, atI, ixN, hpos, hcell, h0, h2, ioAt]
  · have hc' : (¬ big = 0) ∨ (¬ (pos : Int) < cells.length) := by
      by_cases hz : big = 0
      · exact .inr fun h => hc ⟨hz, by omega⟩
      · exact .inl hz
    by_cases hbig : 0 < big
    · refine ⟨⟨cells, pos, big / n, seed, hp, Int.ediv_nonneg hb (by omega)⟩, big % n, ?_, Int.emod_nonneg _ (by omega), Int.emod_lt_of_pos _ h0⟩
      rcases hc' with hc' | hc' <;> simp [f__law_next, runIo, p__law_next, enc, atI, ixN, hc', hbig, h0, h2, ioAt, Int.ne_of_gt hbig]
    · have hz : big = 0 := by omega
      subst hz
      have hpos : ¬ pos < cells.length := by omega
      refine ⟨⟨cells, pos, 0, (seed * 69621 + 12345) % 2147483647, hp, hb⟩, (seed * 69621 + 12345) % 2147483647 / 7 % n, ?_, Int.emod_nonneg _ (by omega), Int.emod_lt_of_pos _ h0⟩
      simp [f__law_next, runIo, p__law_next, enc, atI, ixN, hpos, h0, h2, ioAt]
/-- a draw among n -/
theorem next_nat (s : St) (n : Nat) (h0 : 0 < n) (h1 : n ≤ 100000) : ∃ (s' : St) (v : Nat), f__law_next (enc s) [.int n] = some (.ro (.int v), enc s') ∧ v < n := by
  obtain ⟨s', v, e, h2, h3⟩ := next_ok s n (by omega) (by omega)
  exact ⟨s', v.toNat, by rw [e, show ((v.toNat : Nat) : Int) = v by omega], by omega⟩
--@ _law_map
def all7 : List Str := ["a", "b_1", "c", "d", "e", "f2", "g"]
def wname (k : Nat) : Str := ("w" : Str) ++ ((toString (k : Int) : String) : Str)
theorem all7_nd : all7.Nodup := by decide +kernel
theorem all7_sorted : all7.Pairwise fun x y => DnS.leS x y = true := by
  have : all7.Pairwise fun x y => ¬ y.cps.toList < x.cps.toList := by decide +kernel
  exact this.imp fun h => DnS.leS_iff.mpr h
theorem wname_inj : ∀ i j : Nat, i < 20 → j < 20 → wname i = wname j → i = j := by
  have : ∀ i j : Fin 20, wname i.val = wname j.val → i = j := by decide +kernel
  intro i j hi hj h
  exact congrArg Fin.val (this ⟨i, hi⟩ ⟨j, hj⟩ h)
theorem str_len {k : Nat} (h : k < 20) : (("w" : Str).length + ((toString (k : Int) : String) : Str).length ≤ 16777216) := by
  have : ∀ i : Fin 20, (("w" : Str).length + ((toString ((i.val : Nat) : Int) : String) : Str).length ≤ 16777216) := by decide +kernel
  exact this ⟨k, h⟩
theorem log_small {k : Nat} (h : k < 20) : ((k : Int).natAbs.log2 < 1920) := by
  rw [Int.natAbs_natCast]
  have : k.log2 < 5 := by
    by_cases hk : k = 0
    · subst hk; decide
    · rw [Nat.log2_lt hk]; omega
  omega
theorem pyE (e : Edge) : D.py e.d = some (.tuple [.str e.name, .str e.one, .str e.other, .int e.w, .bool e.ow]) := by simp [Edge.d, D.py, D.pyL]
theorem srtOk_edge {es : List Edge} (h : es.length ≤ 16777216) : D.srtOk (es.map Edge.d) = true := by
  unfold D.srtOk
  simp only [Bool.and_eq_true, Bool.or_eq_true, List.all_eq_true, List.mem_map, decide_eq_true_eq]
  refine ⟨⟨⟨by simp [h], ?_⟩, ?_⟩, .inl ?_⟩
  · rintro _ ⟨e, _, rfl⟩
    rw [D.pyD, pyE]; simp [PyData.depth, PyData.depthAll]
  · rintro _ ⟨e, _, rfl⟩ _ ⟨f, _, rfl⟩
    rw [D.pyD, D.pyD, pyE, pyE]; simp [PySem.W.alike, PySem.W.alikeAll]
  · rintro _ ⟨e, _, rfl⟩
    rw [D.pyD, pyE]; rfl
def leE (e f : Edge) : Bool := D.leB e.d f.d
theorem o_srtE {es : List Edge} (h : es.length ≤ 16777216) : D.srt [.lst (es.map Edge.d)] = some (.own (.lst ((es.mergeSort leE).map Edge.d))) := by
  have e : D.srt [.lst (es.map Edge.d)] = D.sorted [.lst (es.map Edge.d)] := by simp only [D.srt, D.asD]
  rw [e]
  simp only [D.sorted, srtOk_edge h, if_pos]
  rw [sort_enc (f := Edge.d) (r := leE) fun a b => rfl]
theorem find_str {s : Str} : ∀ {l : List Str}, s ∈ l → ∃ j, (l.map D.str).findIdx? (fun z => sameS z (.str s)) = some j ∧ j < l.length
  | a :: l, h => by
    by_cases hs : a = s
    · exact ⟨0, by simp [hs, List.findIdx?_cons], by simp⟩
    · obtain ⟨j, h1, h2⟩ := find_str (l := l) (by rcases List.mem_cons.mp h with h | h; exact absurd h.symm hs; exact h)
      exact ⟨j + 1, by simp [List.findIdx?_cons, hs, h1], by simpa using h2⟩
/-- what a drawn map is, besides -/
structure Gr.Dr (g : Gr) (low : Int) (dir : Nat) : Prop where
  w : ∀ e ∈ g.edges, low ≤ e.w ∧ e.w ≤ low + 8
  dir : ∀ e ∈ g.edges, (dir = 0 → e.ow = false) ∧ (dir = 1 → e.ow = true)
  srt : g.names.Pairwise fun x y => DnS.leS x y = true
  nm : ∀ n ∈ g.names, ∃ k, k < 20 ∧ n = wname k
  few : g.edges.length ≤ 12 ∧ g.nodes.length ≤ 7
theorem edges_srt (es : List Edge) : ((es.mergeSort leE).map (·.name)).Pairwise fun x y => DnS.leS x y = true := by
  have h := leB_sorted (es.map Edge.d)
  rw [sort_enc (f := Edge.d) (r := leE) (fun a b => rfl), List.pairwise_map] at h
  rw [List.pairwise_map]
  refine h.imp fun {e f} h => ?_
  exact leB_strs _ _ _ _ [.str e.one, .str e.other, .int e.w, .bool e.ow] [.str f.one, .str f.other, .int f.w, .bool f.ow] (by simp [D.pyL, D.py]) (by simp [D.pyL, D.py]) h
theorem law_map_ok (s : St) (low : Int) (dir : Nat) (hd : dir < 3) : ∃ (s' : St) (g : Gr), f__law_map (enc s) [.int low, .int dir] = some (.ro g.d, enc s') ∧ g.Ok ∧ g.Dr low dir := by
  obtain ⟨s1, v, e1, h1⟩ := next_nat s 7 (by decide) (by decide)
  obtain ⟨ns, hns⟩ : ∃ ns, ns = all7.take (v + 1) := ⟨_, rfl⟩
  have hcut : cutD [D.str "a", D.str "b_1", D.str "c", D.str "d", D.str "e", D.str "f2", D.str "g"] none (some (1 + (v : Int))) = ns.map .str := by
    subst hns
    have : v = 0 ∨ v = 1 ∨ v = 2 ∨ v = 3 ∨ v = 4 ∨ v = 5 ∨ v = 6 := by omega
    rcases this with rfl | rfl | rfl | rfl | rfl | rfl | rfl <;> rfl
  have hlen : ns.length = v + 1 := by subst hns; rw [List.length_take]; show min (v + 1) 7 = _; omega
  have hnd : ns.Nodup := by subst hns; exact all7_nd.sublist (List.take_sublist _ _)
  have hso : ns.Pairwise fun x y => DnS.leS x y = true := by subst hns; exact all7_sorted.sublist (List.take_sublist _ _)
  clear hns
  obtain ⟨s2, u, e2, h2⟩ := next_nat s1 3 (by decide) (by decide)
  obtain ⟨m, hm, hm1, hm2⟩ : ∃ m : Nat, atI [D.int 4, D.int 8, D.int 12] (u : Int) = some (.int m) ∧ 0 < m ∧ m ≤ 12 := by
    have : u = 0 ∨ u = 1 ∨ u = 2 := by omega
    rcases this with rfl | rfl | rfl
    · exact ⟨4, rfl, by decide, by decide⟩
    · exact ⟨8, rfl, by decide, by decide⟩
    · exact ⟨12, rfl, by decide, by decide⟩
  obtain ⟨s3, n, e3, h3⟩ := next_nat s2 m hm1 (by omega)
  have hsm : smallI n = true := by simp [smallI]; omega
  have hat : ∀ i : Nat, (h : i < ns.length) → atI (ns.map D.str) (i : Int) = some (.str ns[i]) := fun i h => by
    rw [atI_nat (by simpa using h)]; simp [h]
  obtain ⟨ρ', el, hI⟩ := loop_rng (b := bName 5) (s := l__law_map_0)
    (fun k ρ => ∃ s es x5 x6 x7 x8, ρ = [some (.io (enc s)), some (.ro (.int low)), some (.ro (.int dir)), some (.own (.lst (ns.map .str))), some (.own (.lst (es.map Edge.d))), x5, x6, x7, x8] ∧ es.length = k ∧ es.map (·.name) = (List.range k).map wname ∧
      ∀ e ∈ es, (e.one ∈ ns ∧ e.other ∈ ns) ∧ (low ≤ e.w ∧ e.w ≤ low + 8) ∧ (dir = 0 → e.ow = false) ∧ (dir = 1 → e.ow = true)) (n := n) (ρ0 := [some (.io (enc s3)), some (.ro (.int low)), some (.ro (.int dir)), some (.own (.lst (ns.map .str))), some (.own (.lst [])), none, none, none, none])
    ⟨s3, [], _, _, _, _, rfl, rfl, rfl, by simp⟩ (by
      rintro k ρ hk ⟨s, es, x5, x6, x7, x8, rfl, hel, hnm, hes⟩
      obtain ⟨s4, i, e4, h4⟩ := next_nat s ns.length (by omega) (by omega)
      obtain ⟨s5, j, e5, h5⟩ := next_nat s4 ns.length (by omega) (by omega)
      have rest : ∀ (s6 : St) (j' : Nat) (hj : j' < ns.length), ∃ (s8 : St) (e : Edge), t__law_map_2 [some (.io (enc s6)), some (.ro (.int low)), some (.ro (.int dir)), some (.own (.lst (ns.map .str))), some (.own (.lst (es.map Edge.d))), some (.ro (.int k)), some (.ro (.str ns[i])), some (.ro (.str ns[j'])), x8] =
          some (.nx [some (.io (enc s8)), some (.ro (.int low)), some (.ro (.int dir)), some (.own (.lst (ns.map .str))), some (.own (.lst ((es ++ [e]).map Edge.d))), some (.ro (.int k)), some (.ro (.str ns[i])), some (.ro (.str ns[j'])), some (.ro (.bl e.ow))]) ∧
          e.name = wname k ∧ (e.one ∈ ns ∧ e.other ∈ ns) ∧ (low ≤ e.w ∧ e.w ≤ low + 8) ∧ (dir = 0 → e.ow = false) ∧ (dir = 1 → e.ow = true) := by
        intro s6 j' hj
        obtain ⟨s7, c, e7, h7⟩ := next_nat s6 2 (by decide) (by decide)
        obtain ⟨s8, w, e8, h8⟩ := next_nat s7 9 (by decide) (by decide)
        have e7' : f__law_next (enc s6) [.int 2] = some (.ro (.int c), enc s7) := e7
        have e8' : f__law_next (enc s7) [.int 9] = some (.ro (.int w), enc s8) := e8
        obtain ⟨b, hb, hb0, hb1⟩ : ∃ b : Bool, atI [D.bl false, D.bl true, D.bl (decide (c = 0))] (dir : Int) = some (.bl b) ∧ (dir = 0 → b = false) ∧ (dir = 1 → b = true) := by
          have : dir = 0 ∨ dir = 1 ∨ dir = 2 := by omega
          rcases this with rfl | rfl | rfl
          · exact ⟨_, rfl, by simp, by simp⟩
          · exact ⟨_, rfl, by simp, by simp⟩
          · exact ⟨_, rfl, by simp, by simp⟩
        refine ⟨s8, ⟨wname k, ns[i], ns[j'], low + w, b⟩, ?_, rfl, ⟨List.getElem_mem _, List.getElem_mem _⟩, ⟨by show low ≤ low + _; omega, by show low + (w : Int) ≤ low + 8; omega⟩, hb0, hb1⟩
        have l1 : es.length < 16777216 := by omega
        have l2 : (Str.ofString "w").length + (Str.ofString (k : Int).repr).length ≤ 16777216 := by simpa using str_len (k := k) (by omega)
        have l3 := log_small (k := k) (by omega)
        simp [e7', e8', hb, l1, l2, l3, Edge.d, wname, -Int.natAbs_natCast]
      have inv : ∀ (s8 : St) (e : Edge) (y5 y6 y7 y8 : Option C), e.name = wname k ∧ (e.one ∈ ns ∧ e.other ∈ ns) ∧ (low ≤ e.w ∧ e.w ≤ low + 8) ∧ (dir = 0 → e.ow = false) ∧ (dir = 1 → e.ow = true) →
          ∃ (s : St) (es' : List Edge) (x5 x6 x7 x8 : Option C), [some (C.io (enc s8)), some (.ro (.int low)), some (.ro (.int dir)), some (.own (.lst (ns.map .str))), some (.own (.lst ((es ++ [e]).map Edge.d))), y5, y6, y7, y8] = [some (.io (enc s)), some (.ro (.int low)), some (.ro (.int dir)), some (.own (.lst (ns.map .str))), some (.own (.lst (es'.map Edge.d))), x5, x6, x7, x8] ∧ es'.length = k + 1 ∧ es'.map (·.name) = (List.range (k + 1)).map wname ∧
      ∀ e ∈ es', (e.one ∈ ns ∧ e.other ∈ ns) ∧ (low ≤ e.w ∧ e.w ≤ low + 8) ∧ (dir = 0 → e.ow = false) ∧ (dir = 1 → e.ow = true) := by
        intro s8 e y5 y6 y7 y8 h
        refine ⟨s8, es ++ [e], _, _, _, _, rfl, by simp [hel], by rw [List.map_append, hnm, List.range_succ, List.map_append]; simp [h.1], ?_⟩
        intro e' he'
        rcases List.mem_append.mp he' with he' | he'
        · exact hes e' he'
        · rw [List.mem_singleton] at he'; subst he'; exact h.2
      have hmod2 : ∀ q : Nat, ((q : Int) + 1) % (ns.length : Int) = ((q + 1) % ns.length : Nat) := fun q => by simp
      by_cases hij : ns[i] = ns[j]
      · obtain ⟨s6, c, e6, h6⟩ := next_nat s5 5 (by decide) (by decide)
        have e6' : f__law_next (enc s5) [.int 5] = some (.ro (.int c), enc s6) := e6
        by_cases hc : 0 < c
        · obtain ⟨q, hq, hq2⟩ := find_str (s := ns[i]) (l := ns) (List.getElem_mem _)
          have hlt : (q + 1) % ns.length < ns.length := Nat.mod_lt _ (by omega)
          have hpos : 0 < ns.length := by omega
          obtain ⟨s8, e, hr, he⟩ := rest s6 _ hlt
          refine ⟨_, ?_, inv s8 e (some (.ro (.int k))) (some (.ro (.str ns[i]))) (some (.ro (.str ns[(q + 1) % ns.length]))) (some (.ro (.bl e.ow))) he⟩
          have ha := hat _ hlt
          rw [hij] at hr hq
          simp [l__law_map_0, e4, hat i h4, e5, hat j h5, hij, e6', hc, hq, hmod2, hpos, ha, hr, -Int.natCast_emod, -t__law_map_2]
        · obtain ⟨s8, e, hr, he⟩ := rest s6 j h5
          refine ⟨_, ?_, inv s8 e (some (.ro (.int k))) (some (.ro (.str ns[i]))) (some (.ro (.str ns[j]))) (some (.ro (.bl e.ow))) he⟩
          rw [hij] at hr
          simp [l__law_map_0, e4, hat i h4, e5, hat j h5, hij, e6', hc, hr, -t__law_map_2]
      · obtain ⟨s8, e, hr, he⟩ := rest s5 j h5
        refine ⟨_, ?_, inv s8 e (some (.ro (.int k))) (some (.ro (.str ns[i]))) (some (.ro (.str ns[j]))) (some (.ro (.bl e.ow))) he⟩
        simp [l__law_map_0, e4, hat i h4, e5, hat j h5, hij, hr, -t__law_map_2])
  obtain ⟨s4, es, x5, x6, x7, x8, rfl, hel, hnm, hes⟩ := hI
  have e1' : f__law_next (enc s) [.int 7] = some (.ro (.int v), enc s1) := e1
  have e2' : f__law_next (enc s1) [.int 3] = some (.ro (.int u), enc s2) := e2
  have hn : (n : Int).toNat = n := rfl
  have hp := List.mergeSort_perm es leE
  refine ⟨s4, ⟨ns, es.mergeSort leE⟩, ?_, ⟨by show 0 < ns.length; omega, by show ns.length ≤ 10; omega, by show (es.mergeSort leE).length ≤ 20; rw [List.length_mergeSort]; omega, hnd, hso, ?_, fun e he => (hes e (hp.mem_iff.mp he)).1⟩, ⟨fun e he => (hes e (hp.mem_iff.mp he)).2.1, fun e he => (hes e (hp.mem_iff.mp he)).2.2, edges_srt es, fun m hm => ?_, by show (es.mergeSort leE).length ≤ 12; rw [List.length_mergeSort]; omega, by show ns.length ≤ 7; omega⟩⟩
  · simp [f__law_map, runIo, p__law_map, e1', hcut, e2', hm, e3, hsm, el, ioAt, o_srtE (es := es) (by omega)]
    rfl
  · show ((es.mergeSort leE).map (·.name)).Nodup
    rw [(hp.map _).nodup_iff, hnm, List.nodup_iff_pairwise_ne, List.pairwise_map]
    refine List.Pairwise.imp_of_mem ?_ (List.nodup_iff_pairwise_ne.mp List.nodup_range)
    intro a b ha hb hab z
    rw [List.mem_range] at ha hb
    exact hab (wname_inj a b (by omega) (by omega) z)
  · have hm : m ∈ (es.mergeSort leE).map (·.name) := hm
    rw [(hp.map _).mem_iff, hnm] at hm
    obtain ⟨j, hj, rfl⟩ := List.mem_map.mp hm
    exact ⟨j, by have := List.mem_range.mp hj; omega, rfl⟩
--@ _law_atoms
theorem law_atoms_ok (N : Nat) : ∀ (n k : Nat) (x : D), k < n → D.sm N k x = true → D.sz x ≤ 1000000 → ∃ l, f__law_atoms n [x] = some (.own (.lst l)) ∧ (∀ a ∈ l, Atom N a) ∧ l.length ≤ D.sz x
  | 0, k, x, h, _, _ => by omega
  | n + 1, k, x, h, hx, hz => by
    cases x with
    | non => exact ⟨[], by simp [f__law_atoms, runDef, p__law_atoms], by simp, by simp⟩
    | bl b => exact ⟨[], by simp [f__law_atoms, runDef, p__law_atoms], by simp, by simp⟩
    | int i => exact ⟨[.int i], by simp [f__law_atoms, runDef, p__law_atoms], by simpa using .inr ⟨i, rfl, sm_int.mp hx⟩, by simp [D.sz]⟩
    | str s => exact ⟨[.str s], by simp [f__law_atoms, runDef, p__law_atoms], by simpa using .inl ⟨s, rfl⟩, by simp [D.sz]⟩
    | lst l => exact ⟨[], by simp [f__law_atoms, runDef, p__law_atoms], by simp, by simp⟩
    | tup xs =>
      cases k with
      | zero => simp [D.sm] at hx
      | succ k =>
        obtain ⟨_, hx⟩ := sm_tup.mp hx
        obtain ⟨ρ', el, hI⟩ := loop_pre (b := bName 2) (s := l__law_atoms_0 (f__law_atoms n)) (fun d : D => d)
          (fun pre ρ => ∃ l x2, ρ = [some (.ro (.tup xs)), some (.own (.lst l)), x2, none] ∧ (∀ a ∈ l, Atom N a) ∧ l.length ≤ D.szL pre) (xs := xs) (ρ0 := [some (.ro (.tup xs)), some (.own (.lst [])), none, none]) ⟨[], _, rfl, by simp, by simp⟩ (by
            rintro pre x post ρ hxs ⟨l, x2, rfl, hl, hlen⟩
            have hm : x ∈ xs := by rw [hxs]; simp
            have hsz := szL_mem hm
            simp only [D.sz] at hz
            obtain ⟨m, e, hm1, hm2⟩ := law_atoms_ok N n k x (by omega) (hx x hm) (by omega)
            have e2 := loopC_encF (vs := [3]) (b := kb__law_atoms_0) (q := kq__law_atoms_0) (p := kp__law_atoms_0) (fun d : D => d) (fun d => !(l.any fun z => D.eqv z d)) (fun d => d) (ρ := [some (.ro (.tup xs)), some (.own (.lst l)), some (.ro x), none]) (xs := m) (by
              intro d hd
              have hd := (hm1 d hd).sm 0
              have hok := sm_okd _ _ ((hm1 d ‹_›).sm 50)
              have hokl : D.okdL 50 l = true := by
                rw [D.okdL_eq, List.all_eq_true]; exact fun y hy => sm_okd _ _ ((hl y hy).sm 50)
              cases hh : l.any fun z => D.eqv z d <;> simp [bodyC, kb__law_atoms_0, kp__law_atoms_0, kq__law_atoms_0, hok, hokl, hh, -List.any_eq_true, -List.any_eq_false])
            rw [List.map_id', List.map_id'] at e2
            have hsum : D.szL pre + D.sz x ≤ D.szL xs := by rw [hxs, szL_app]; simp only [D.szL]; omega
            have l1 : m.length ≤ 16777216 := by omega
            have hfl : (m.filter fun d => !(l.any fun z => D.eqv z d)).length ≤ m.length := List.length_filter_le _ _
            have l2 : l.length + (m.filter fun d => !(l.any fun z => D.eqv z d)).length ≤ 16777216 := by omega
            refine ⟨_, ?_, l ++ (m.filter fun d => !(l.any fun z => D.eqv z d)), some (.ro x), rfl, ?_, ?_⟩
            · generalize (m.filter fun d => !(l.any fun z => D.eqv z d)) = ms at *
              simp [l__law_atoms_0, e, l1, e2, l2]
            · intro a ha
              rcases List.mem_append.mp ha with ha | ha
              · exact hl a ha
              · exact hm1 a (List.mem_filter.mp ha).1
            · rw [List.length_append, szL_app]; simp only [D.szL]; omega)
        obtain ⟨l, x2, rfl, h1, h2⟩ := hI
        rw [List.map_id'] at el
        exact ⟨l, by simp [f__law_atoms, runDef, p__law_atoms, el], h1, by simp only [D.sz]; omega⟩
    | _ => simp [D.sm] at hx
--@ _law_exchanged
theorem law_exchanged_ok (N : Nat) (u w : D) (hu : Atom N u) (hw : Atom N w) : ∀ (n k : Nat) (x : D), k < n → D.sm N k x = true → N ≤ 1000000 → ∃ y, f__law_exchanged n [x, u, w] = some (.ro y) ∧ D.sm N k y = true ∧ (∀ l, x = .tup l → ∃ m, y = .tup m ∧ m.length = l.length)
  | 0, k, x, h, _, _ => by omega
  | n + 1, k, x, h, hx, hN => by
    have ou := sm_okd _ _ (hu.sm 50)
    have ow := sm_okd _ _ (hw.sm 50)
    have atom : ∀ a, Atom N a → (∃ z, D.tyName a = some z ∧ z ≠ "bool" ∧ (z = "str" ∨ z = "int")) → ∃ y, f__law_exchanged (n + 1) [a, u, w] = some (.ro y) ∧ D.sm N k y = true := by
      intro a ha ⟨z, hz, hz1, hz2⟩
      have oa := sm_okd _ _ (ha.sm 50)
      have hz3 : (decide (z = "str") || (z = "int" || z = "bool")) = true := by rcases hz2 with rfl | rfl <;> rfl
      have hz4 : (decide (z = "str") || ((z = "int" || z = "bool") || decide (z = "tuple"))) = true := by rcases hz2 with rfl | rfl <;> rfl
      cases h1 : D.eqv a u with
      | true => exact ⟨w, by rcases hz2 with rfl | rfl <;> simp [f__law_exchanged, runDef, p__law_exchanged, hz, oa, ou, ow, h1], hw.sm k⟩
      | false =>
        cases h2 : D.eqv a w with
        | true => exact ⟨u, by rcases hz2 with rfl | rfl <;> simp [f__law_exchanged, runDef, p__law_exchanged, hz, oa, ou, ow, h1, h2], hu.sm k⟩
        | false => exact ⟨a, by rcases hz2 with rfl | rfl <;> simp [f__law_exchanged, runDef, p__law_exchanged, hz, oa, ou, ow, h1, h2], ha.sm k⟩
    cases x with
    | non => exact ⟨.non, by simp [f__law_exchanged, runDef, p__law_exchanged], sm_non, fun l z => D.noConfusion z⟩
    | bl b => exact ⟨.bl b, by simp [f__law_exchanged, runDef, p__law_exchanged], sm_bl, fun l z => D.noConfusion z⟩
    | int i =>
      obtain ⟨y, h1, h2⟩ := atom _ (.inr ⟨i, rfl, sm_int.mp hx⟩) ⟨_, rfl, by decide, .inr rfl⟩
      exact ⟨y, h1, h2, fun l z => D.noConfusion z⟩
    | str s =>
      obtain ⟨y, h1, h2⟩ := atom _ (.inl ⟨s, rfl⟩) ⟨_, rfl, by decide, .inl rfl⟩
      exact ⟨y, h1, h2, fun l z => D.noConfusion z⟩
    | lst l => exact ⟨.lst l, by simp [f__law_exchanged, runDef, p__law_exchanged], hx, fun l z => D.noConfusion z⟩
    | tup xs =>
      cases k with
      | zero => simp [D.sm] at hx
      | succ k =>
        obtain ⟨hl, hx⟩ := sm_tup.mp hx
        have hall : ∀ x ∈ xs, ∃ y, f__law_exchanged n [x, u, w] = some (.ro y) ∧ D.sm N k y = true := fun x hm => by
          obtain ⟨y, h1, h2, _⟩ := law_exchanged_ok N u w hu hw n k x (by omega) (hx x hm) hN
          exact ⟨y, h1, h2⟩
        let gg : D → D := fun x => ((f__law_exchanged n [x, u, w]).getD (.ro .non)).d
        have e2 := loopC_encM (vs := [3]) (b := kb__law_exchanged_0) (q := qYes) (p := kp__law_exchanged_0 (f__law_exchanged n)) (fun d : D => d) gg (ρ := [some (.ro (.tup xs)), some (.ro u), some (.ro w), none]) (xs := xs) (by
          intro x hm
          obtain ⟨y, h1, h2⟩ := hall x hm
          simp [bodyC, kb__law_exchanged_0, kp__law_exchanged_0, h1, gg])
        rw [List.map_id'] at e2
        have l1 : xs.length ≤ 16777216 := by omega
        refine ⟨.tup (xs.map gg), by simp [f__law_exchanged, runDef, p__law_exchanged, e2, l1], sm_tup.mpr ⟨by simpa using hl, ?_⟩, fun l z => by cases z; exact ⟨_, rfl, by simp⟩⟩
        intro y hy
        obtain ⟨x, hm, rfl⟩ := List.mem_map.mp hy
        obtain ⟨y, h1, h2⟩ := hall x hm
        simp [gg, h1, h2]
    | _ => simp [D.sm] at hx
--@ _law_turned_about
theorem law_turned_ok (N k : Nat) (hN : N ≤ 500) (hk : k ≤ 10) (s : St) (x : D) (hx : Told N k x) : ∃ (s' : St) (y : D), f__law_turned_about (enc s) [x] = some (.ro y, enc s') ∧ D.sm (3 * N + 2) (k + 1) y = true := by
  obtain ⟨w, ds, rfl⟩ := hx.hd
  obtain ⟨hl, hm⟩ := sm_tup.mp hx.sm
  obtain ⟨xs, hxs⟩ : ∃ xs, xs = D.str w :: ds := ⟨_, rfl⟩
  have h0 : xs[0]? = some (.str w) := by rw [hxs]; rfl
  have hz := hx.sz
  rw [← hxs] at hl hm hz ⊢
  have hpos : 0 < xs.length := by rw [hxs]; simp
  have hcl := cut_len xs
  obtain ⟨s1, pick, e1, h1⟩ := next_nat s 4 (by decide) (by decide)
  have e1' : f__law_next (enc s) [.int 4] = some (.ro (.int pick), enc s1) := e1
  have hrest : D.sm N (k + 1) (.tup (cutD xs (some 1) none)) = true := sm_tup.mpr ⟨Nat.le_trans (hcl _ _) hl, fun y hy => hm y (cut_mem hy)⟩
  have hszl : ∀ l : List D, D.szL (cutD l (some 1) none) ≤ D.szL l := fun l => by
    cases l with
    | nil => simp [cutD, D.szL]
    | cons a l =>
      have hh : HT.sIx (l.length + 1) 0 (some 1) = 1 := by simp [HT.sIx]
      have hh2 : HT.sIx (l.length + 1) (l.length + 1) none = l.length + 1 := rfl
      simp only [cutD, List.length_cons, hh, hh2, List.drop_succ_cons, List.drop_zero, Nat.add_sub_cancel, List.take_length, D.szL]; omega
  have hrz : D.sz (.tup (cutD xs (some 1) none)) ≤ 100000 := by
    simp only [D.sz] at hz ⊢
    have := hszl xs; omega
  obtain ⟨at1, e2, ha1, ha2⟩ := law_atoms_ok N 12 (k + 1) _ (by omega) hrest (by omega)
  have e3 := loopC_encF (vs := [4]) (b := kb__law_turned_about_0) (q := kq__law_turned_about_0) (p := kp__law_turned_about_0) (fun d : D => d) (fun d => decide (decide (D.tyName d = some "str") = decide ((pick : Int) < 2))) (fun d => d) (ρ := [some (.io (enc s1)), some (.ro (.tup xs)), some (.ro (.int pick)), none, none, none, none, none, none]) (xs := at1) (by
    intro d hd
    rcases ha1 d hd with ⟨s, rfl⟩ | ⟨i, rfl, _⟩ <;> by_cases hp : (pick : Int) < 2 <;> simp [bodyC, kb__law_turned_about_0, kp__law_turned_about_0, kq__law_turned_about_0, hp])
  rw [List.map_id', List.map_id'] at e3
  obtain ⟨at2, hat2⟩ : ∃ at2, at2 = at1.filter fun d => decide (decide (D.tyName d = some "str") = decide ((pick : Int) < 2)) := ⟨_, rfl⟩
  rw [← hat2] at e3
  have hA : ∀ a ∈ at2, Atom N a := fun a ha => ha1 a (by rw [hat2] at ha; exact (List.mem_filter.mp ha).1)
  have hal : at2.length ≤ 100000 := by rw [hat2]; exact Nat.le_trans (List.length_filter_le _ _) (by omega)
  clear hat2
  have hokl : D.okdL 49 at2 = true := by
    rw [D.okdL_eq, List.all_eq_true]; exact fun y hy => sm_okd _ _ ((hA y hy).sm 49)
  have l1 : at1.length ≤ 16777216 := by omega
  have smm : ∀ y ∈ xs, D.sm (3 * N + 2) k y = true := fun y hy => sm_le (by omega) (Nat.le_refl _) (hm y hy)
  have cmem : ∀ lo hi, ∀ y ∈ cutD xs lo hi, D.sm (3 * N + 2) k y = true := fun lo hi y hy => smm y (cut_mem hy)
  have caseB : ∀ (_ : ¬ (pick < 3 ∧ at2.isEmpty = false)), ∃ (s' : St) (y : D), f__law_turned_about (enc s) [.tup xs] = some (.ro y, enc s') ∧ D.sm (3 * N + 2) (k + 1) y = true := by
    intro hno
    have hno' : ¬ (((pick : Int) < 3) ∧ at2.isEmpty = false) := fun h => hno ⟨by omega, h.2⟩
    by_cases h2 : ∃ y ys, xs = [.str w, .tup (y :: ys)]
    · obtain ⟨y, ys, hx2⟩ := h2
      obtain ⟨zs, hzs⟩ : ∃ zs, zs = y :: ys := ⟨_, rfl⟩
      rw [← hzs] at hx2
      have hzp : 0 < zs.length := by rw [hzs]; simp
      have hze : zs.isEmpty = false := by rw [hzs]; rfl
      have hmz := hm (.tup zs) (by rw [hx2]; simp)
      cases k with
      | zero => simp [D.sm] at hmz
      | succ k =>
        obtain ⟨hzl, hmz⟩ := sm_tup.mp hmz
        obtain ⟨s2, i, e4, h4⟩ := next_nat s1 zs.length hzp (by omega)
        obtain ⟨s3, j, e5, h5⟩ := next_nat s2 zs.length hzp (by omega)
        have hcz := cut_len zs
        have c1 := hcz none (some (i : Int))
        have c2 := hcz (some (j : Int)) (some ((j : Int) + 1))
        have c3 := hcz (some ((i : Int) + 1)) none
        have ok1 : D.okdL 49 zs = true := by
          rw [D.okdL_eq, List.all_eq_true]; exact fun q hq => okd_le (by omega) (sm_okd _ _ (hmz q hq))
        have a1 : (cutD zs none (some (i : Int))).length + (cutD zs (some (j : Int)) (some ((j : Int) + 1))).length ≤ 16777216 := by omega
        have a2 : (cutD zs none (some (i : Int))).length + (cutD zs (some (j : Int)) (some ((j : Int) + 1))).length + (cutD zs (some ((i : Int) + 1)) none).length ≤ 16777216 := by omega
        refine ⟨s3, .tup [.str w, .tup (cutD zs none (some (i : Int)) ++ cutD zs (some (j : Int)) (some ((j : Int) + 1)) ++ cutD zs (some ((i : Int) + 1)) none)], ?_, ?_⟩
        · subst hx2
          have a2' : (cutD zs none (some (i : Int))).length + ((cutD zs (some (j : Int)) (some ((j : Int) + 1))).length + (cutD zs (some ((i : Int) + 1)) none).length) ≤ 16777216 := by omega
          by_cases hp : (pick : Int) < 3
          · have he : at2.isEmpty = true := by cases h : at2.isEmpty with
              | true => rfl
              | false => exact absurd ⟨hp, h⟩ hno'
            simp [f__law_turned_about, runIo, p__law_turned_about, e1', e2, l1, e3, hokl, hp, he, ok1, hze, e4, e5, a1, a2, a2', ioAt]
          · simp [f__law_turned_about, runIo, p__law_turned_about, e1', e2, l1, e3, hokl, hp, ok1, hze, e4, e5, a1, a2, a2', ioAt]
        · refine sm_tup.mpr ⟨by simp, ?_⟩
          intro q hq
          simp only [List.mem_cons, List.not_mem_nil, or_false] at hq
          rcases hq with rfl | rfl
          · exact sm_str
          · refine sm_tup.mpr ⟨by simp only [List.length_append]; omega, ?_⟩
            intro q hq
            have : q ∈ zs := by
              rcases List.mem_append.mp hq with hq | hq
              · rcases List.mem_append.mp hq with hq | hq <;> exact cut_mem hq
              · exact cut_mem hq
            exact sm_le (by omega) (Nat.le_refl _) (hmz q this)
    · obtain ⟨s2, i, e4, h4⟩ := next_nat s1 xs.length hpos (by omega)
      obtain ⟨s3, j, e5, h5⟩ := next_nat s2 xs.length hpos (by omega)
      have c1 := hcl none (some (i : Int))
      have c2 := hcl (some (j : Int)) (some ((j : Int) + 1))
      have c3 := hcl (some ((i : Int) + 1)) none
      have a1 : (cutD xs none (some (i : Int))).length + (cutD xs (some (j : Int)) (some ((j : Int) + 1))).length ≤ 16777216 := by omega
      have a2 : (cutD xs none (some (i : Int))).length + ((cutD xs (some (j : Int)) (some ((j : Int) + 1))).length + (cutD xs (some ((i : Int) + 1)) none).length) ≤ 16777216 := by omega
      have a3 : (cutD xs none (some (i : Int))).length + (cutD xs (some (j : Int)) (some ((j : Int) + 1))).length + (cutD xs (some ((i : Int) + 1)) none).length ≤ 16777216 := by omega
      have key : t__law_turned_about_2 [some (.io (enc s1)), some (.ro (.tup xs)), some (.ro (.int pick)), some (.own (.lst at2)), none, none, none, none, none] =
          t__law_turned_about_3 [some (.io (enc s1)), some (.ro (.tup xs)), some (.ro (.int pick)), some (.own (.lst at2)), none, none, none, none, none] := by
        by_cases hlen : xs.length = 2
        · match xs, hlen, h0 with
          | [a, b], _, h0 =>
            simp only [List.getElem?_cons_zero, Option.some.injEq] at h0; subst h0
            have hb := hm b (by simp)
            cases b with
            | tup zs => cases zs with
              | nil => simp [-t__law_turned_about_3]
              | cons y ys => exact absurd ⟨y, ys, rfl⟩ h2
            | _ => first | (simp [D.sm] at hb; done) | simp [-t__law_turned_about_3]
        · have hlen' : ¬ (xs.length : Int) = 2 := by omega
          simp [hlen', -t__law_turned_about_3]
      have key1 : t__law_turned_about_1 [some (.io (enc s1)), some (.ro (.tup xs)), some (.ro (.int pick)), some (.own (.lst at2)), none, none, none, none, none] =
          t__law_turned_about_3 [some (.io (enc s1)), some (.ro (.tup xs)), some (.ro (.int pick)), some (.own (.lst at2)), none, none, none, none, none] := by
        rw [← key]
        by_cases hp : (pick : Int) < 3
        · have he : at2.isEmpty = true := by cases h : at2.isEmpty with
            | true => rfl
            | false => exact absurd ⟨hp, h⟩ hno'
          simp [hp, he, hokl, -t__law_turned_about_2]
        · simp [hp, -t__law_turned_about_2]
      by_cases hij : 0 < i ∧ 0 < j
      · refine ⟨s3, .tup (cutD xs none (some (i : Int)) ++ cutD xs (some (j : Int)) (some ((j : Int) + 1)) ++ cutD xs (some ((i : Int) + 1)) none), ?_, ?_⟩
        · simp [f__law_turned_about, runIo, p__law_turned_about, e1', e2, l1, e3, key1, e4, e5, hij, a1, a2, a3, ioAt, -t__law_turned_about_1]
        · refine sm_tup.mpr ⟨by simp only [List.length_append]; omega, ?_⟩
          intro q hq
          rcases List.mem_append.mp hq with hq | hq
          · rcases List.mem_append.mp hq with hq | hq <;> exact cmem _ _ q hq
          · exact cmem _ _ q hq
      · refine ⟨s3, .tup xs, ?_, sm_tup.mpr ⟨by omega, smm⟩⟩
        rw [Classical.not_and_iff_not_or_not] at hij
        rcases hij with hij | hij
        · simp [f__law_turned_about, runIo, p__law_turned_about, e1', e2, l1, e3, key1, e4, e5, hij, a1, a2, a3, ioAt, -t__law_turned_about_1]
        · by_cases hi : 0 < i <;> simp [f__law_turned_about, runIo, p__law_turned_about, e1', e2, l1, e3, key1, e4, e5, hij, hi, a1, a2, a3, ioAt, -t__law_turned_about_1]
  by_cases hA1 : pick < 3 ∧ at2.isEmpty = false
  · obtain ⟨hp, he⟩ := hA1
    have hap : 0 < at2.length := List.length_pos_iff.mpr (List.isEmpty_eq_false_iff.mp he)
    have hbig : at2.length ≤ 100000 := by omega
    · obtain ⟨s2, i, e4, h4⟩ := next_nat s1 at2.length hap hbig
      obtain ⟨s3, j, e5, h5⟩ := next_nat s2 at2.length hap hbig
      obtain ⟨u, hu, huA⟩ := pick_ok h4 hA
      obtain ⟨v, hv, hvA⟩ := pick_ok h5 hA
      obtain ⟨y, e6, hy, hyt⟩ := law_exchanged_ok N u v huA hvA 12 (k + 1) _ (by omega) hrest (by omega)
      obtain ⟨m, rfl, hml⟩ := hyt _ rfl
      have c1 := hcl none (some 1)
      have c2 := hcl (some 1) none
      have a1 : (cutD xs none (some 1)).length + m.length ≤ 16777216 := by omega
      have hp' : (pick : Int) < 3 := by omega
      refine ⟨s3, .tup (cutD xs none (some 1) ++ m), ?_, sm_tup.mpr ⟨by simp only [List.length_append]; omega, ?_⟩⟩
      · simp [f__law_turned_about, runIo, p__law_turned_about, e1', e2, l1, e3, hokl, hp', he, e4, e5, hu, hv, e6, a1, ioAt]
      · intro q hq
        rcases List.mem_append.mp hq with hq | hq
        · exact cmem _ _ q hq
        · exact sm_le (by omega) (Nat.le_refl _) ((sm_tup.mp hy).2 q hq)
  · exact caseB hA1
--@ _law_changed
theorem log_lt {i : Int} {N : Nat} (h : i.natAbs ≤ N) (hN : N ≤ 1000000) : i.natAbs.log2 < 1920 := by
  by_cases hk : i.natAbs = 0
  · rw [hk]; decide
  · rw [Nat.log2_lt hk]
    calc i.natAbs ≤ 1000000 := by omega
      _ < 2 ^ 20 := by decide
      _ ≤ 2 ^ 1920 := Nat.pow_le_pow_right (by decide) (by decide)
theorem law_changed_ok (N : Nat) (hN : N ≤ 500) (g : Gr) (hg : g.Wf) (hg1 : 0 < g.nodes.length) : ∀ (n k : Nat) (s : St) (x : D), k < n → k ≤ 10 → D.sm N k x = true → ∃ (s' : St) (y : D), f__law_changed n (enc s) [g.d, x] = some (.ro y, enc s') ∧ D.sm (2 * N + 10) (k + 2) y = true
  | 0, k, s, x, h, _, _ => by omega
  | n + 1, k, s, x, h, hk, hx => by
    have num : ∀ i : Int, i.natAbs ≤ N → ∀ (e1 : Bool) (t : Str) (v : Nat), v < 6 → ∃ y, atI [D.int (i + 1), .int (i - 1), .int 0, .non, .bl e1, .str t] (v : Int) = some y ∧ D.sm (2 * N + 10) (k + 2) y = true := by
      intro i hi e1 t v hv
      refine pick_ok (by simpa using hv) fun y hy => ?_
      simp only [List.mem_cons, List.not_mem_nil, or_false] at hy
      rcases hy with rfl | rfl | rfl | rfl | rfl | rfl
      · exact sm_int.mpr (by omega)
      · exact sm_int.mpr (by omega)
      · exact sm_int.mpr (by simp)
      · exact sm_non
      · exact sm_bl
      · exact sm_str
    cases x with
    | non =>
      obtain ⟨s1, v, e1, h1⟩ := next_nat s 6 (by decide) (by decide)
      have e1' : f__law_next (enc s) [.int 6] = some (.ro (.int v), enc s1) := e1
      obtain ⟨y, hy, hy2⟩ := num 0 (by simp) false "None" v h1
      have hy' : atI [D.int 1, .int (-1), .int 0, .non, .bl false, .str "None"] (v : Int) = some y := hy
      have hq : D.eqv .non (.int 1) = false := by simp [D.eqv]
      exact ⟨s1, y, by simp [f__law_changed, runIo, p__law_changed, e1', hy', hq, ioAt], hy2⟩
    | bl b =>
      obtain ⟨s1, v, e1, h1⟩ := next_nat s 2 (by decide) (by decide)
      have e1' : f__law_next (enc s) [.int 2] = some (.ro (.int v), enc s1) := e1
      obtain ⟨y, hy, hy2⟩ := pick_ok (l := [D.bl !b, D.int (if b = true then 1 else 0)]) (v := v) (by simpa using h1) (P := fun y => D.sm (2 * N + 10) (k + 2) y = true) (by
        intro y hy
        simp only [List.mem_cons, List.not_mem_nil, or_false] at hy
        rcases hy with rfl | rfl
        · exact sm_bl
        · exact sm_int.mpr (by cases b <;> simp))
      have hti : D.toInt [.bl b] = some (.ro (.int (if b = true then 1 else 0))) := rfl
      exact ⟨s1, y, by simp [f__law_changed, runIo, p__law_changed, e1', hy, hti, ioAt], hy2⟩
    | int i =>
      obtain ⟨s1, v, e1, h1⟩ := next_nat s 6 (by decide) (by decide)
      have e1' : f__law_next (enc s) [.int 6] = some (.ro (.int v), enc s1) := e1
      have hi := sm_int.mp hx
      obtain ⟨y, hy, hy2⟩ := num i hi (decide (i = 1)) ((i.repr : String) : Str) v h1
      have hlg := log_lt hi (by omega)
      refine ⟨s1, y, ?_, hy2⟩
      by_cases h0 : i = 0
      · subst h0
        have hy' : atI [D.int 1, .int (-1), .int 0, .non, .bl false, .str (((0 : Int).repr : String) : Str)] (v : Int) = some y := hy
        simp [f__law_changed, runIo, p__law_changed, e1', hy', ioAt]
      · simp [f__law_changed, runIo, p__law_changed, e1', hy, h0, hlg, ioAt]
    | str t =>
      have hf := hg.few
      have hfE := hg.fewE
      obtain ⟨s1, v, e1, h1⟩ := next_nat s 9 (by decide) (by decide)
      have e1' : f__law_next (enc s) [.int 9] = some (.ro (.int v), enc s1) := e1
      have hok : ∀ y ∈ [D.int 5, .non, .tup [.str "a"]], D.sm (2 * N + 10) (k + 2) y = true := by
        intro y hy
        simp only [List.mem_cons, List.not_mem_nil, or_false] at hy
        rcases hy with rfl | rfl | rfl
        · exact sm_int.mpr (by simp)
        · exact sm_non
        · exact sm_tup.mpr ⟨by simp, by intro y hy; simp at hy; subst hy; exact sm_str⟩
      have e2 := loopC_encM (vs := [4]) (b := kb__law_changed_0) (q := qYes) (p := kp__law_changed_0) Edge.d (fun e => .str e.name) (ρ := [some (.io (enc s)), some (.ro g.d), some (.ro (.str t)), none, none, none, none, none]) (xs := g.edges) (by
        intro e _
        simp [bodyC, kb__law_changed_0, kp__law_changed_0])
      obtain ⟨all, hall⟩ : ∃ all, all = g.nodes.map D.str ++ g.edges.map (fun e => D.str e.name) ++ [D.str "none such", D.str ""] := ⟨_, rfl⟩
      have hal : all.length = g.nodes.length + g.edges.length + 2 := by rw [hall]; simp; omega
      have hal' : all.length = g.nodes.length + (g.edges.length + 2) := by rw [hal]; omega
      have hap : 0 < all.length := by omega
      have l1 : g.edges.length ≤ 16777216 := by omega
      have l2 : g.nodes.length + g.edges.length ≤ 16777216 := by omega
      have l3 : g.nodes.length + g.edges.length + 2 ≤ 16777216 := by omega
      have l3' : g.nodes.length + (g.edges.length + 2) ≤ 16777216 := by omega
      by_cases hv : 0 < v
      · obtain ⟨s2, i, e3, h3⟩ := next_nat s1 all.length hap (by omega)
        obtain ⟨y, hy, hy2⟩ := pick_ok h3 (P := fun y => D.sm (2 * N + 10) (k + 2) y = true) (by
          intro y hy
          rw [hall] at hy
          simp only [List.mem_append, List.mem_map, List.mem_cons, List.not_mem_nil, or_false] at hy
          rcases hy with (⟨a, _, rfl⟩ | ⟨a, _, rfl⟩) | rfl | rfl <;> exact sm_str)
        refine ⟨s2, y, ?_, hy2⟩
        rw [hall, List.append_assoc] at hy
        rw [hal] at e3
        have e3' : f__law_next (enc s1) [.int ((g.nodes.length : Int) + ((g.edges.length : Int) + 2))] = some (.ro (.int i), enc s2) := by
          have := e3
          rwa [show ((g.nodes.length + g.edges.length + 2 : Nat) : Int) = (g.nodes.length : Int) + ((g.edges.length : Int) + 2) by omega] at this
        simp [f__law_changed, runIo, p__law_changed, e2, l1, l2, l3, l3', e1', hv, e3', hy, ioAt]
      · obtain ⟨s2, i, e3, h3⟩ := next_nat s1 3 (by decide) (by decide)
        have e3' : f__law_next (enc s1) [.int 3] = some (.ro (.int i), enc s2) := e3
        obtain ⟨y, hy, hy2⟩ := pick_ok (l := [D.int 5, .non, .tup [.str "a"]]) (v := i) (by simpa using h3) hok
        exact ⟨s2, y, by simp [f__law_changed, runIo, p__law_changed, e2, l1, l2, l3, l3', e1', hv, e3', hy, ioAt], hy2⟩
    | lst l => exact ⟨s, .tup [], by simp [f__law_changed, runIo, p__law_changed, ioAt], sm_tup.mpr ⟨by simp, by simp⟩⟩
    | tup xs =>
      cases k with
      | zero => simp [D.sm] at hx
      | succ k =>
        obtain ⟨hl, hx⟩ := sm_tup.mp hx
        have hcl := cut_len xs
        have hokd : D.okdL 49 xs = true := by
          rw [D.okdL_eq, List.all_eq_true]; exact fun y hy => okd_le (by omega) (sm_okd _ _ (hx y hy))
        have hup : ∀ y ∈ xs, D.sm (2 * N + 10) (k + 2) y = true := fun y hy => sm_le (by omega) (by omega) (hx y hy)
        -- one of the new papers
        have last : ∀ (s1 : St), ∃ (s' : St) (y : D), outRo (t__law_changed_4 [some (.io (enc s1)), some (.ro g.d), some (.ro (.tup xs)), none, none, none, none, none]) = some (y, enc s') ∧ D.sm (2 * N + 10) (k + 3) y = true := by
          intro s1
          obtain ⟨s2, i, e3, h3⟩ := next_nat s1 (xs.length + 1) (by omega) (by omega)
          have e3' : f__law_next (enc s1) [.int ((xs.length : Int) + 1)] = some (.ro (.int i), enc s2) := e3
          obtain ⟨nf, hnf, hnf2⟩ : ∃ nf, atI (g.nodes.map D.str) 0 = some (.str nf) ∧ True := by
            cases hh : g.nodes with
            | nil => rw [hh] at hg1; simp at hg1
            | cons a l => exact ⟨a, by simp, trivial⟩
          obtain ⟨nl, hnl, hnl2⟩ := last_ok (l := g.nodes.map D.str) (by simpa using hg1)
          obtain ⟨nls, _, rfl⟩ := List.mem_map.mp hnl2
          obtain ⟨ts, hts, htl⟩ := strs_of xs
          have e4 := loopC_encF (vs := [7]) (b := kb__law_changed_1) (q := kq__law_changed_1) (p := kp__law_changed_1) (fun d : D => d) (fun d => decide (D.tyName d = some "str")) (fun d => d) (ρ := [some (.io (enc s2)), some (.ro g.d), some (.ro (.tup xs)), none, none, some (.ro (.int i)), some (.own (.lst [.tup (cutD xs none (some (i : Int)) ++ cutD xs (some ((i : Int) + 1)) none), .tup (xs ++ cutD xs none (some 1)), .tup xs.reverse, .tup (cutD xs (some (i : Int)) none ++ cutD xs none (some (i : Int))), .lst xs, .tup (cutD xs none (some (i : Int))), .tup []])), none]) (xs := xs) (by
            intro d hd
            obtain ⟨m, hm⟩ := sm_ty (hx d hd)
            by_cases h : m = "str" <;> simp [bodyC, kb__law_changed_1, kp__law_changed_1, kq__law_changed_1, hm, h])
          rw [List.map_id', List.map_id', hts] at e4
          have c1 := hcl none (some (i : Int))
          have c2 := hcl (some ((i : Int) + 1)) none
          have c3 := hcl none (some 1)
          have c4 := hcl (some (i : Int)) none
          have a1 : (cutD xs none (some (i : Int))).length + (cutD xs (some ((i : Int) + 1)) none).length ≤ 16777216 := by omega
          have a2 : xs.length + (cutD xs none (some 1)).length ≤ 16777216 := by omega
          have a3 : (cutD xs (some (i : Int)) none).length + (cutD xs none (some (i : Int))).length ≤ 16777216 := by omega
          have a4 : xs.length + 1 ≤ 16777216 := by omega
          have a5 : ts.length + 1 ≤ 16777216 := by omega
          have a6 : ts.length + 1 ≤ 1000 := by omega
          have a7 : xs.length ≤ 16777216 := by omega
          have e5 : D.sortSet (.lst (ts.map D.str ++ [.str nls])) = some (.own (.lst ((DnS.sortSet (ts ++ [nls])).map .str))) := by
            rw [show ts.map D.str ++ [.str nls] = (ts ++ [nls]).map .str by simp, o_sortSetL, if_pos (by simpa using a6)]
          have hss := sortSet_len (ts ++ [nls])
          rw [List.length_append] at hss
          obtain ⟨s3, j, e6, h6⟩ := next_nat s2 10 (by decide) (by decide)
          have e6' : f__law_next (enc s2) [.int 10] = some (.ro (.int j), enc s3) := e6
          obtain ⟨y, hy, hy2⟩ := pick_ok (l := [.tup (cutD xs none (some (i : Int)) ++ cutD xs (some ((i : Int) + 1)) none), .tup (xs ++ cutD xs none (some 1)), .tup xs.reverse, .tup (cutD xs (some (i : Int)) none ++ cutD xs none (some (i : Int))), .lst xs, .tup (cutD xs none (some (i : Int))), .tup [], .tup (xs ++ [.str nf]), .tup (xs ++ [.tup [.str "w0", .bl true]]), .tup ((DnS.sortSet (ts ++ [nls])).map .str)]) (v := j) (by simpa using h6) (P := fun y => D.sm (2 * N + 10) (k + 3) y = true) (by
            intro y hy
            simp only [List.mem_cons, List.not_mem_nil, or_false] at hy
            have hc : ∀ lo hi, ∀ y ∈ cutD xs lo hi, D.sm (2 * N + 10) (k + 2) y = true := fun lo hi y hy => hup y (cut_mem hy)
            rcases hy with rfl | rfl | rfl | rfl | rfl | rfl | rfl | rfl | rfl | rfl
            · exact sm_tup.mpr ⟨by rw [List.length_append]; omega, fun y hy => (List.mem_append.mp hy).elim (hc _ _ y) (hc _ _ y)⟩
            · exact sm_tup.mpr ⟨by rw [List.length_append]; omega, fun y hy => (List.mem_append.mp hy).elim (hup y) (hc _ _ y)⟩
            · exact sm_tup.mpr ⟨by rw [List.length_reverse]; omega, fun y hy => hup y (List.mem_reverse.mp hy)⟩
            · exact sm_tup.mpr ⟨by rw [List.length_append]; omega, fun y hy => (List.mem_append.mp hy).elim (hc _ _ y) (hc _ _ y)⟩
            · exact sm_lst.mpr ⟨by omega, hup⟩
            · exact sm_tup.mpr ⟨by omega, hc _ _⟩
            · exact sm_tup.mpr ⟨by simp, by simp⟩
            · exact sm_tup.mpr ⟨by rw [List.length_append]; simp; omega, fun y hy => (List.mem_append.mp hy).elim (hup y) fun h => by simp at h; subst h; exact sm_str⟩
            · exact sm_tup.mpr ⟨by rw [List.length_append]; simp; omega, fun y hy => (List.mem_append.mp hy).elim (hup y) fun h => by
                simp at h; subst h
                exact sm_tup.mpr ⟨by simp, by intro y hy; simp at hy; rcases hy with rfl | rfl; exact sm_str; exact sm_bl⟩⟩
            · exact sm_tup.mpr ⟨by rw [List.length_map]; simp at hss; omega, fun y hy => by obtain ⟨a, _, rfl⟩ := List.mem_map.mp hy; exact sm_str⟩)
          refine ⟨s3, y, ?_, hy2⟩
          simp [e3', a1, a2, a3, a4, a5, a7, e4, hnf, hnl, e5, e6', hy, outRo, ioAt]
        by_cases he : xs.isEmpty = true
        · obtain ⟨s2, y, h1, h2⟩ := last s
          obtain ⟨ρ, h3, h4⟩ := outRo_of h1
          exact ⟨s2, y, by simp [f__law_changed, runIo, p__law_changed, hokd, he, h3, h4, -t__law_changed_4], h2⟩
        · have he : xs.isEmpty = false := by simpa using he
          have hpos : 0 < xs.length := List.length_pos_iff.mpr (List.isEmpty_eq_false_iff.mp he)
          obtain ⟨s1, v, e1, h1⟩ := next_nat s 3 (by decide) (by decide)
          have e1' : f__law_next (enc s) [.int 3] = some (.ro (.int v), enc s1) := e1
          by_cases hv : 0 < v
          · obtain ⟨s2, i, e2, h2⟩ := next_nat s1 xs.length hpos (by omega)
            obtain ⟨z, hz, hzm⟩ := pick_ok h2 hx
            obtain ⟨s3, y, e3, hy⟩ := law_changed_ok N hN g hg hg1 n k s2 z (by omega) (by omega) hzm
            have c1 := hcl none (some (i : Int))
            have c2 := hcl (some ((i : Int) + 1)) none
            have a1 : (cutD xs none (some (i : Int))).length + 1 ≤ 16777216 := by omega
            have a2 : (cutD xs none (some (i : Int))).length + (1 + (cutD xs (some ((i : Int) + 1)) none).length) ≤ 16777216 := by omega
            have a3 : (cutD xs none (some (i : Int))).length + 1 + (cutD xs (some ((i : Int) + 1)) none).length ≤ 16777216 := by omega
            have a4 : (cutD xs none (some (i : Int))).length + ((cutD xs (some ((i : Int) + 1)) none).length + 1) ≤ 16777216 := by omega
            refine ⟨s3, .tup (cutD xs none (some (i : Int)) ++ [y] ++ cutD xs (some ((i : Int) + 1)) none), by simp [f__law_changed, runIo, p__law_changed, hokd, he, e1', hv, e2, hz, e3, a1, a2, a3, a4, ioAt], sm_tup.mpr ⟨by simp only [List.length_append, List.length_cons, List.length_nil]; omega, ?_⟩⟩
            intro q hq
            rcases List.mem_append.mp hq with hq | hq
            · rcases List.mem_append.mp hq with hq | hq
              · exact hup q (cut_mem hq)
              · simp at hq; subst hq; exact hy
            · exact hup q (cut_mem hq)
          · obtain ⟨s2, y, h1, h2⟩ := last s1
            obtain ⟨ρ, h3, h4⟩ := outRo_of h1
            exact ⟨s2, y, by simp [f__law_changed, runIo, p__law_changed, hokd, he, e1', hv, h3, h4, -t__law_changed_4], h2⟩
    | _ => simp [D.sm] at hx
--@ _law_odd
theorem law_odd_ok (N k : Nat) (hN : N ≤ 250) (hk : k ≤ 8) (g : Gr) (hg : g.Wf) (hg1 : 0 < g.nodes.length) (s : St) (x : D) (hx : Told N k x) : ∃ (s' : St) (y : D), f__law_odd (enc s) [g.d, x] = some (.ro y, enc s') ∧ Asked y := by
  obtain ⟨w, ds, rfl⟩ := hx.hd
  obtain ⟨hl, hm⟩ := sm_tup.mp hx.sm
  obtain ⟨xs, hxs⟩ : ∃ xs, xs = D.str w :: ds := ⟨_, rfl⟩
  have h0 : atI xs 0 = some (.str w) := by rw [hxs]; simp
  rw [← hxs] at hl hm hx ⊢
  have hcl := cut_len xs
  have c1 := hcl none (some 1)
  have c2 := hcl (some 1) none
  have a1 : xs.length + 1 ≤ 16777216 := by omega
  have a2 : 1 + (cutD xs (some 1) none).length ≤ 16777216 := by omega
  have a3 : (cutD xs (some 1) none).length + 1 ≤ 16777216 := by omega
  obtain ⟨s1, v, e1, h1⟩ := next_nat s 9 (by decide) (by decide)
  have e1' : f__law_next (enc s) [.int 9] = some (.ro (.int v), enc s1) := e1
  by_cases hv : (4 : Int) < v
  · obtain ⟨s2, y, e2, hy⟩ := law_turned_ok N k (by omega) (by omega) s1 (.tup xs) hx
    exact ⟨s2, y, by simp [f__law_odd, runIo, p__law_odd, h0, a1, a2, a3, e1', hv, e2, ioAt], .inr (sm_le (by omega) (by omega) hy)⟩
  · by_cases hz : v = 0
    · subst hz
      obtain ⟨s2, i, e2, h2⟩ := next_nat s1 11 (by decide) (by decide)
      have e2' : f__law_next (enc s1) [.int 11] = some (.ro (.int i), enc s2) := e2
      have hmm : ∀ q ∈ xs, D.sm 1000 18 q = true := fun q hq => sm_le (by omega) (by omega) (hm q hq)
      obtain ⟨y, hy, hy2⟩ := pick_ok (l := [.non, .str "", .str "yes", .dct [], .tup [], .tup (cutD xs none (some 1)), .lst xs, .tup (xs ++ [.int 0]), .tup (.lst [.str w] :: cutD xs (some 1) none), .tup (.str "none such" :: cutD xs (some 1) none), .int 7]) (v := i) (by simpa using h2) (P := Asked) (by
        intro y hy
        simp only [List.mem_cons, List.not_mem_nil, or_false] at hy
        have hc : ∀ lo hi, ∀ q ∈ cutD xs lo hi, D.sm 1000 19 q = true := fun lo hi q hq => sm_le (Nat.le_refl _) (by decide) (hmm q (cut_mem hq))
        have hm9 : ∀ q ∈ xs, D.sm 1000 19 q = true := fun q hq => sm_le (Nat.le_refl _) (by decide) (hmm q hq)
        rcases hy with rfl | rfl | rfl | rfl | rfl | rfl | rfl | rfl | rfl | rfl | rfl
        · exact .inr sm_non
        · exact .inr sm_str
        · exact .inr sm_str
        · exact .inl rfl
        · exact .inr (sm_tup.mpr ⟨by simp, by simp⟩)
        · exact .inr (sm_tup.mpr ⟨by omega, hc _ _⟩)
        · exact .inr (sm_lst.mpr ⟨by omega, hm9⟩)
        · exact .inr (sm_tup.mpr ⟨by simp; omega, fun q hq => (List.mem_append.mp hq).elim (hm9 q) fun h => by simp at h; subst h; exact sm_int.mpr (by simp)⟩)
        · exact .inr (sm_tup.mpr ⟨by simp; omega, fun q hq => (List.mem_cons.mp hq).elim (fun h => by subst h; exact sm_lst.mpr ⟨by simp, by intro z hz; simp at hz; subst hz; exact sm_str⟩) (hc _ _ q)⟩)
        · exact .inr (sm_tup.mpr ⟨by simp; omega, fun q hq => (List.mem_cons.mp hq).elim (fun h => by subst h; exact sm_str) (hc _ _ q)⟩)
        · exact .inr (sm_int.mpr (by simp)))
      exact ⟨s2, y, by simp [f__law_odd, runIo, p__law_odd, h0, a1, a2, a3, e1', e2', hy, ioAt], hy2⟩
    · have hz' : ¬ (v : Int) = 0 := by omega
      obtain ⟨s2, y, e2, hy⟩ := law_changed_ok N (by omega) g hg hg1 12 (k + 1) s1 (.tup xs) (by omega) (by omega) hx.sm
      exact ⟨s2, y, by simp [f__law_odd, runIo, p__law_odd, h0, a1, a2, a3, e1', hv, hz, e2, ioAt], .inr (sm_le (by omega) (by omega) hy)⟩
--@ _law_same
theorem same_bl (n : Nat) (a b : Bool) : f__law_same (n + 1) [.bl a, .bl b] = some (.ro (.bl (decide (a = b)))) := by
  simp [f__law_same, runDef, p__law_same]
--@ *
theorem told_two {x : D} {w : Str} (h : told x [w] 2 = true) : ∃ y, x = .tup [.str w, y] := by
  unfold told at h
  split at h
  · rename_i ds
    simp only [Bool.and_eq_true, decide_eq_true_eq] at h
    obtain ⟨h1, h2⟩ := h
    match ds, h1 with
    | [a, b], _ =>
      cases a <;> simp at h2
      subst h2; exact ⟨b, rfl⟩
  · cases h
theorem told_is {w : Str} {y : D} : told (.tup [.str w, y]) [w] 2 = true := by simp [told]
theorem told_not {w v : Str} {y : D} (h : w ≠ v) : told (.tup [.str w, y]) [v] 2 = false := by simp [told, h]
theorem textsIn_true {known : List Str} {x : D} (h : textsIn known x = true) : ∃ ss : List Str, x = .tup (ss.map .str) ∧ (∀ s ∈ ss, s ∈ known) ∧ ss = DnS.sortSet ss := by
  cases x with
  | tup ds =>
    rcases texts_cases known ds with ⟨ss, rfl, h1⟩ | ⟨_, h2⟩
    · rw [textsIn_strs h1] at h
      exact ⟨ss, rfl, h1, of_decide_eq_true h⟩
    · rw [h2] at h; cases h
  | _ => cases h
theorem asked_snd {w : Str} {y : D} (h : Asked (.tup [.str w, y])) : Asked y := by
  rcases h.cases with ⟨ds, e, _, h2⟩ | ⟨h, _⟩
  · cases e; exact .of (h2 y (by simp))
  · exact absurd rfl (h _)
--@ is_step
theorem is_step_ok {N k : Nat} (x : D) (h : D.sm N k x = true) : f_is_step [x] = some (.ro (.bl (isStepD x).isSome)) := by
  cases x with
  | tup ds =>
    cases k with
    | zero => simp [D.sm] at h
    | succ k =>
      obtain ⟨_, h⟩ := sm_tup.mp h
      match ds, h with
      | [], _ => simp [f_is_step, runDef, p_is_step, isStepD]
      | [a], _ => simp [f_is_step, runDef, p_is_step]; cases a <;> rfl
      | a :: b :: c :: l, _ =>
        have hl : ¬ ((l.length : Int) + 1 + 1 + 1 = 2) := by omega
        have e : isStepD (.tup (a :: b :: c :: l)) = none := by cases a <;> first | rfl | (cases b <;> rfl)
        rw [e]
        simp [f_is_step, runDef, p_is_step, hl]
      | [a, b], h =>
        have h1 := h a (by simp)
        have h2 := h b (by simp)
        cases a with
        | str s => cases b <;> first | (simp [D.sm] at h2; done) | simp [f_is_step, runDef, p_is_step, isStepD]
        | _ => first | (simp [D.sm] at h1; done) | simp [f_is_step, runDef, p_is_step, isStepD]
  | _ => first | (simp [D.sm] at h; done) | simp [f_is_step, runDef, p_is_step, isStepD]
--@ _law_same
def eqStr (y : D) (a : Str) : Bool := match y with | .str s => decide (a = s) | _ => false
def eqBl (y : D) (a : Bool) : Bool := match y with | .bl s => decide (a = s) | _ => false
def isStp (x : D) (a : Str) (b : Bool) : Bool := match isStepD x with | some p => decide (a = p.1) && decide (b = p.2) | none => false
theorem same_succ {n : Nat} {as : List D} : f__law_same (n + 1) as = runDef (p__law_same (f__law_same n)) 3 2 as := rfl
theorem same_str {N k n : Nat} (y : D) (h : D.sm N k y = true) (a : Str) : f__law_same (n + 1) [.str a, y] = some (.ro (.bl (eqStr y a))) := by
  rw [same_succ]
  generalize f__law_same n = rec
  cases y with
  | str s => simp [runDef, p__law_same, eqStr]
  | _ => first | (simp [D.sm] at h; done) | simp [runDef, p__law_same, eqStr]
theorem same_b {N k n : Nat} (y : D) (h : D.sm N k y = true) (a : Bool) : f__law_same (n + 1) [.bl a, y] = some (.ro (.bl (eqBl y a))) := by
  rw [same_succ]
  generalize f__law_same n = rec
  cases y with
  | bl s => simp [runDef, p__law_same, eqBl]
  | _ => first | (simp [D.sm] at h; done) | simp [runDef, p__law_same, eqBl]
theorem same_stp {N k n : Nat} (x : D) (h : D.sm N k x = true) (a : Str) (b : Bool) : f__law_same (n + 2) [stp a b, x] = some (.ro (.bl (isStp x a b))) := by
  have e0 : stp a b = .tup [.str a, .bl b] := rfl
  rw [e0, same_succ]
  cases x with
  | tup ds =>
    cases k with
    | zero => simp [D.sm] at h
    | succ k =>
      obtain ⟨_, h⟩ := sm_tup.mp h
      match ds, h with
      | [], _ => generalize f__law_same (n + 1) = rec; simp [runDef, p__law_same, isStp, isStepD]
      | [c], _ =>
        have e : isStp (.tup [c]) a b = false := by cases c <;> rfl
        rw [e]; generalize f__law_same (n + 1) = rec; simp [runDef, p__law_same]
      | c :: d :: f :: l, _ =>
        have hl : ¬ (2 : Int) = (l.length : Int) + 1 + 1 + 1 := by omega
        have e : isStp (.tup (c :: d :: f :: l)) a b = false := by cases c <;> first | rfl | (cases d <;> rfl)
        rw [e]
        generalize f__law_same (n + 1) = rec
        simp [runDef, p__law_same, hl]
      | [c, d], h =>
        have s1 := same_str (n := n) c (h c (by simp)) a
        have s2 := same_b (n := n) d (h d (by simp)) b
        have e : isStp (.tup [c, d]) a b = (eqStr c a && eqBl d b) := by cases c <;> first | rfl | (cases d <;> first | rfl | simp [isStp, isStepD, eqBl])
        have hsm : smallI 2 = true := by decide
        have h2 : rangeD 0 2 = [.int 0, .int 1] := rfl
        rw [e]
        generalize f__law_same (n + 1) = rec at s1 s2 ⊢
        cases h3 : eqStr c a with
        | false => rw [h3] at s1; simp [runDef, p__law_same, hsm, h2, loopL, l__law_same_0, s1]
        | true =>
          rw [h3] at s1
          cases h4 : eqBl d b with
          | false => rw [h4] at s2; simp [runDef, p__law_same, hsm, h2, loopL, l__law_same_0, s1, s2]
          | true => rw [h4] at s2; simp [runDef, p__law_same, hsm, h2, loopL, l__law_same_0, s1, s2]
  | _ => first | (simp [D.sm] at h; done) | (generalize f__law_same (n + 1) = rec; simp [runDef, p__law_same, isStp, isStepD])
end Pl



namespace Dn
open PySem L2
@[simp] theorem v_nest {j : Nat} {new : Dn.Env → Option (Dn.Env × NL)} {s : S2} {rest : S1} {ρ : Dn.Env} : sNest j new s rest ρ = (new ρ).bind fun a => (s a.1 a.2).bind fun r => rest (r.1.set j (some (.own (nlD r.2)))) := rfl
@[simp] theorem v_gNew {j : Nat} {it : I1} {vs : List Nat} {b : B1} {q : PT1} {pk : P1} {ρ : Dn.Env} : gNew j it vs b q pk ρ = (it ρ).bind fun a => (loopN vs b q pk a.1 [] (forget vs a.2)).bind fun r => if j < r.2.length then some (r.2.set j none, r.1) else none := rfl
@[simp] theorem v_g2For {j : Nat} {it : I1} {b : B1} {s : S2} {ρ : Dn.Env} {nl : NL} : g2For j it b s ρ nl = (it ρ).bind fun a => if noN j a.2 = true then loop2 j b s a.1 a.2 nl else none := rfl
@[simp] theorem v_g2App {j : Nat} {pk pe : P1} {ρ : Dn.Env} {nl : NL} : g2App j pk pe ρ nl = (pk ρ).bind fun a => (dat a.2 a.1).bind fun dk => (D.key dk).bind fun k => (getL nl k).bind fun ds => (pe a.2).bind fun b => if (b.1.kept && noN j b.2 && decide (ds.length < sizeLine)) = true then some (b.2, setL nl k (ds ++ [b.1.d])) else none := rfl
def nlS (fs : List (Str × List D)) : NL := fs.map fun p => (.inr p.1, p.2)
theorem loopN_strs {vs : List Nat} {b : B1} {q : PT1} {pk : P1} {ρ : Dn.Env} : ∀ {ns pre : List Str}, (pre ++ ns).Nodup → (pre ++ ns).length < 10000 → (∀ n ∈ ns, ∃ ρa ρb c, b (.str n) ρ = some ρa ∧ q ρa = some (true, ρb) ∧ pk ρb = some (.ro (.str n), c) ∧ forget vs c = ρ) →
    loopN vs b q pk (ns.map .str) (nlS (pre.map fun n => (n, []))) ρ = some (nlS ((pre ++ ns).map fun n => (n, [])), ρ)
  | [], pre, _, _, _ => by simp [loopN]
  | n :: ns, pre, hn, hl, h => by
    obtain ⟨ρa, ρb, c, h1, h2, h3, h4⟩ := h n (by simp)
    have hnew : ((nlS (pre.map fun n => (n, []))).any fun p => decide (p.1 = .inr n)) = false := by
      rw [List.any_eq_false]
      intro p hp
      simp only [nlS, List.map_map, List.mem_map, Function.comp] at hp
      obtain ⟨m, hm, rfl⟩ := hp
      intro z
      have z : m = n := by simpa using z
      subst z
      rw [List.nodup_append] at hn
      exact hn.2.2 m hm m (by simp) rfl
    have hlen : (nlS (pre.map fun n => (n, []))).length < sizeLine := by
      simp only [nlS, List.length_map]
      simp only [List.length_append, List.length_cons] at hl
      have : (10000 : Nat) ≤ sizeLine := by decide
      omega
    rw [List.map_cons, loopN, h1, Option.bind_some, h2, Option.bind_some]
    simp only [if_true, h3, Option.bind_some, dat, D.key, C.kept, hnew, Bool.not_false, Bool.and_true, Bool.true_and, decide_eq_true hlen, h4]
    have e : nlS (pre.map fun n => (n, [])) ++ [(.inr n, [])] = nlS ((pre ++ [n]).map fun n => (n, [])) := by simp [nlS]
    rw [e, loopN_strs (pre := pre ++ [n]) (by simpa using hn) (by simpa using hl) fun m hm => h m (List.mem_cons_of_mem _ hm)]
    simp
theorem loop2_pre {α : Type} {j : Nat} {b : B1} {s : S2} (enc : α → D) (I : List α → Dn.Env → NL → Prop) {xs : List α} {ρ0 : Dn.Env} {nl0 : NL} (h0 : I [] ρ0 nl0)
    (step : ∀ pre x post ρ nl, xs = pre ++ x :: post → I pre ρ nl → ∃ ρ1 ρ2 nl2, b (enc x) ρ = some ρ1 ∧ noN j ρ1 = true ∧ s ρ1 nl = some (ρ2, nl2) ∧ I (pre ++ [x]) ρ2 nl2) : ∃ ρ' nl', loop2 j b s (xs.map enc) ρ0 nl0 = some (ρ', nl') ∧ I xs ρ' nl' := by
  have go : ∀ (post pre : List α) (ρ : Dn.Env) (nl : NL), xs = pre ++ post → I pre ρ nl → ∃ ρ' nl', loop2 j b s (post.map enc) ρ nl = some (ρ', nl') ∧ I xs ρ' nl' := by
    intro post
    induction post with
    | nil => intro pre ρ nl e h; rw [List.append_nil] at e; subst e; exact ⟨ρ, nl, rfl, h⟩
    | cons x post ih =>
      intro pre ρ nl e h
      obtain ⟨ρ1, ρ2, nl2, h1, h2, h3, h4⟩ := step pre x post ρ nl e h
      obtain ⟨ρ', nl', h5, h6⟩ := ih (pre ++ [x]) ρ2 nl2 (by rw [e]; simp) h4
      refine ⟨ρ', nl', ?_, h6⟩
      rw [List.map_cons, loop2, h1, Option.bind_some, if_pos h2, h3]
      exact h5
  exact go xs [] ρ0 nl0 rfl h0
theorem getL_map {ns : List Str} {f : Str → List D} {n : Str} (h : n ∈ ns) : getL (nlS (ns.map fun m => (m, f m))) (.inr n) = some (f n) := by
  induction ns with
  | nil => cases h
  | cons m ns ih =>
    show (if (Sum.inr m : Key) = .inr n then some (f m) else getL (nlS (ns.map fun m => (m, f m))) (.inr n)) = _
    by_cases hm : m = n
    · subst hm; rw [if_pos rfl]
    · rw [if_neg (fun z => hm (Sum.inr.inj z))]
      exact ih ((List.mem_cons.mp h).resolve_left fun z => hm z.symm)
theorem setL_map {ns : List Str} {f : Str → List D} {n : Str} {x : List D} (hn : ns.Nodup) (h : n ∈ ns) : setL (nlS (ns.map fun m => (m, f m))) (.inr n) x = nlS (ns.map fun m => (m, if m = n then x else f m)) := by
  induction ns with
  | nil => cases h
  | cons m ns ih =>
    obtain ⟨h1, h2⟩ := List.nodup_cons.mp hn
    show (if (Sum.inr m : Key) = .inr n then ((Sum.inr m : Key), x) :: nlS (ns.map fun m => (m, f m)) else (.inr m, f m) :: setL (nlS (ns.map fun m => (m, f m))) (.inr n) x) = (.inr m, if m = n then x else f m) :: nlS (ns.map fun m => (m, if m = n then x else f m))
    by_cases hm : m = n
    · subst hm
      rw [if_pos rfl, if_pos rfl]
      congr 1
      unfold nlS
      rw [List.map_map, List.map_map]
      refine List.map_congr_left fun k hk => ?_
      have : k ≠ m := fun z => h1 (z ▸ hk)
      simp [this]
    · rw [if_neg (fun z => hm (Sum.inr.inj z)), if_neg hm, ih h2 ((List.mem_cons.mp h).resolve_left fun z => hm z.symm)]
end Dn
namespace Pl
open PySem L2 Dn Mir
/-! the steps of each node -/
def Arc.ts (a : Arc) : D := .tup [.str a.t, stp a.name a.fwd]
def outA (as : List Arc) (v : Str) : List Arc := as.filter fun a => decide (a.s = v)
def outsD (g : Gr) : List (Key × D) := sdct (fun l : List Arc => D.lst (l.map Arc.ts)) (g.nodes.map fun v => (v, outA g.arcs v))
--@ steps_from
theorem steps_from_ok (g : Gr) (hg : g.Wf) : f_steps_from [g.d] = some (.own (.dct (outsD g))) := by
  have hfE := hg.fewE
  have hfN := hg.few
  have hal := garcs_len g
  have c := loopN_strs (vs := [2]) (b := kb_steps_from_0) (q := qYes) (pk := kk_steps_from_0) (ρ := [some (.ro g.d), none, none, none, none, none, none]) (ns := g.nodes) (pre := []) (by simpa using hg.nd) (by simp; omega) (fun n _ => ⟨[some (.ro g.d), none, some (.ro (.str n)), none, none, none, none], [some (.ro g.d), none, some (.ro (.str n)), none, none, none, none], [some (.ro g.d), none, some (.ro (.str n)), none, none, none, none], by simp [kb_steps_from_0], rfl, by simp [kk_steps_from_0], rfl⟩)
  rw [List.nil_append] at c
  have c : loopN [2] kb_steps_from_0 qYes kk_steps_from_0 (g.nodes.map .str) [] [some (.ro g.d), none, none, none, none, none, none] = some (nlS (g.nodes.map fun n => (n, [])), [some (.ro g.d), none, none, none, none, none, none]) := c
  obtain ⟨ρ', nl', el, x3, x4, x5, x6, rfl, rfl⟩ := loop2_pre (j := 1) (b := (bSeq 4 (bCons (bName 3) (bCons (bName 4) (bCons (bName 5) (bCons (bName 6) (bNil))))))) (s := g_steps_from_0) Arc.d
    (fun pre ρ nl => ∃ x3 x4 x5 x6, ρ = [some (.ro g.d), none, none, x3, x4, x5, x6] ∧ nl = nlS (g.nodes.map fun v => (v, (outA pre v).map Arc.ts))) (xs := g.arcs)
    (ρ0 := [some (.ro g.d), none, none, none, none, none, none]) (nl0 := nlS (g.nodes.map fun v => (v, []))) ⟨_, _, _, _, rfl, rfl⟩ (by
      rintro pre a post ρ nl hx ⟨x3, x4, x5, x6, rfl, rfl⟩
      have ha : a ∈ g.arcs := by rw [hx]; simp
      obtain ⟨hs, ht⟩ := hg.arc ha
      have hlen : ((outA pre a.s).map Arc.ts).length < sizeLine := by
        rw [List.length_map]
        have h1 : (outA pre a.s).length ≤ pre.length := List.length_filter_le _ _
        have h2 : pre.length ≤ g.arcs.length := by rw [hx]; simp
        have : (10000 : Nat) ≤ sizeLine := by decide
        omega
      refine ⟨[some (.ro g.d), none, none, some (.ro (.str a.s)), some (.ro (.str a.t)), some (.ro (.int a.w)), some (.ro (stp a.name a.fwd))], [some (.ro g.d), none, none, some (.ro (.str a.s)), some (.ro (.str a.t)), some (.ro (.int a.w)), some (.ro (stp a.name a.fwd))], setL (nlS (g.nodes.map fun v => (v, (outA pre v).map Arc.ts))) (.inr a.s) ((outA pre a.s).map Arc.ts ++ [a.ts]), ?_, rfl, ?_, _, _, _, _, rfl, ?_⟩
      · simp [Arc.d]
      · have h := getL_map (f := fun v => (outA pre v).map Arc.ts) hs
        unfold g_steps_from_0
        simp [h, D.key, hlen, noN, C.kept, Arc.ts, C.d]
        simpa using hlen
      · rw [setL_map hg.nd hs]
        congr 1
        refine List.map_congr_left fun v _ => ?_
        by_cases hv : v = a.s
        · subst hv; simp [outA]
        · have : ¬ a.s = v := fun z => hv z.symm
          simp [outA, hv, this])
  have h1 : g.arcs.length ≤ 16777216 := by omega
  have h2 : g.nodes.length ≤ 16777216 := by omega
  have hn1 : ∀ x : Dn.Env, noN 1 (some (.ro g.d) :: none :: x) = true := fun _ => rfl
  simp [f_steps_from, runDef, p_steps_from, arcs_of_ok g hfE, h1, h2, c, hn1, el]
  simp [nlD, nlS, outsD, sdct, Function.comp_def]
end Pl



namespace Pl
open PySem L2 Dn Mir
abbrev Ws := List (Str × Int)
def wdD (ws : Ws) : D := .tup (ws.map fun p => .tup [.str p.1, .int p.2])
def evn (ws : Ws) (v : Str) : Bool := decide ((ws.lookup v).getD 0 % 2 = 0)
def innA (as : List Arc) (ss : List Str) (v : Str) : List Arc := (outA as v).filter fun a => decide (a.t ∈ ss)
def holdsB (g : Gr) (ws : Ws) (ss : List Str) (v : Str) : Bool := if evn ws v = true then decide ((innA g.arcs ss v).length = (outA g.arcs v).length) else decide (0 < (innA g.arcs ss v).length) || decide ((outA g.arcs v).length = 0)
def isLow (rs : Ws) (k : Int) (a : Arc) : Bool := match rs.lookup a.t with
  | some r => decide (r < k)
  | none => false
def lowA (as : List Arc) (rs : Ws) (v : Str) (k : Int) : List Arc := (outA as v).filter (isLow rs k)
def isOf (c : D) (l : List Arc) : Bool := match isStepD c with
  | some p => decide (p ∈ l.map fun a => (a.name, a.fwd))
  | none => false
def leadsB (g : Gr) (ws rs : Ws) (v : Str) (k : Int) (c : D) : Bool := if evn ws v = true then isOf c (lowA g.arcs rs v k) else c.isN && (decide ((lowA g.arcs rs v k).length = (outA g.arcs v).length) && decide (0 < (outA g.arcs v).length))
theorem pairsD_map {α : Type} (enc : α → D) : ∀ ps : List (Str × α), pairsD (ps.map fun p => .tup [.str p.1, enc p.2]) = some (sdct enc ps)
  | [] => rfl
  | p :: ps => by
    rw [List.map_cons]
    simp only [pairsD, o_key, Option.bind_some, pairsD_map enc ps, Option.map_some]
    rfl
theorem wd_dict {ws : Ws} (h : (ws.map (·.1)).Nodup) : D.toDictx [wdD ws] = some (.own (.dct (sdct D.int ws))) := by
  unfold wdD
  rw [o_toDictxT, pairsD_map, Option.map_some]
  have := mergeD_new (enc := D.int) (ps := ws) (acc := []) (by simpa using h)
  rw [sdct_nil] at this
  rw [this]; rfl
theorem wl_dict {ws : Ws} (h : (ws.map (·.1)).Nodup) : D.toDictx [.lst (ws.map fun p => .tup [.str p.1, .int p.2])] = some (.own (.dct (sdct D.int ws))) := by
  rw [o_toDictxL, pairsD_map, Option.map_some]
  have := mergeD_new (enc := D.int) (ps := ws) (acc := []) (by simpa using h)
  rw [sdct_nil] at this
  rw [this]; rfl
--@ is_first
theorem is_first_ok {ws : Ws} {v : Str} (h : v ∈ ws.map (·.1)) : f_is_first [.dct (sdct D.int ws), .str v] = some (.ro (.bl (evn ws v))) := by
  obtain ⟨b, hb⟩ := lookup_in h
  simp [f_is_first, runDef, p_is_first, getK_s, hb, evn]
theorem outs_get {g : Gr} {v : Str} (h : v ∈ g.nodes) : getK (outsD g) (.inr v) = some (.lst ((outA g.arcs v).map Arc.ts)) := by
  unfold outsD
  rw [getK_s, lookup_map h]; rfl
theorem outA_len (g : Gr) (v : Str) : (outA g.arcs v).length ≤ g.arcs.length := List.length_filter_le _ _
--@ holds
theorem holds_ok (g : Gr) (hg : g.Ok) {ws : Ws} (hw : ws.map (·.1) = g.nodes) {v : Str} (hv : v ∈ g.nodes) (ss : List Str) : f_holds [.dct (sdct D.int ws), .dct (outsD g), .str v, .tup (ss.map .str)] = some (.ro (.bl (holdsB g ws ss v))) := by
  have hfE := hg.fewE
  have hal := garcs_len g
  have ho := outA_len g v
  have e1 := is_first_ok (ws := ws) (v := v) (by rw [hw]; exact hv)
  have c := loopC_encF (vs := [5, 6]) (b := kb_holds_0) (q := kq_holds_0) (p := kp_holds_0) Arc.ts (fun a => decide (a.t ∈ ss)) (fun a => .str a.t) (ρ := [some (.ro (.dct (sdct D.int ws))), some (.ro (.dct (outsD g))), some (.ro (.str v)), some (.ro (.tup (ss.map .str))), none, none, none]) (xs := outA g.arcs v) (by
    intro a _
    by_cases h : a.t ∈ ss <;> simp [bodyC, kb_holds_0, kq_holds_0, kp_holds_0, Arc.ts, h])
  have h1 : (outA g.arcs v).length ≤ 16777216 := by omega
  have hi : ((outA g.arcs v).filter fun a => decide (a.t ∈ ss)) = innA g.arcs ss v := rfl
  rw [hi] at c
  cases he : evn ws v with
  | true =>
    rw [he] at e1
    have hT : holdsB g ws ss v = decide ((innA g.arcs ss v).length = (outA g.arcs v).length) := by simp [holdsB, he]
    have hz : (((innA g.arcs ss v).length : Nat) : Int) = (outA g.arcs v).length ↔ (innA g.arcs ss v).length = (outA g.arcs v).length := by omega
    rw [hT]
    simp [f_holds, runDef, p_holds, outs_get hv, h1, c, e1, hz]
  | false =>
    rw [he] at e1
    have hT : holdsB g ws ss v = (decide (0 < (innA g.arcs ss v).length) || decide ((outA g.arcs v).length = 0)) := by simp [holdsB, he]
    rw [hT]
    by_cases h0 : 0 < (innA g.arcs ss v).length
    · simp [f_holds, runDef, p_holds, outs_get hv, h1, c, e1, h0]
    · simp [f_holds, runDef, p_holds, outs_get hv, h1, c, e1, h0]
theorem isOf_any (c : D) (l : List Arc) : ((isStepD c).isSome && l.any fun a => (stp a.name a.fwd).eqv c) = isOf c l := by
  unfold isOf
  cases h : isStepD c with
  | none => simp
  | some p =>
    have : c = stp p.1 p.2 := by
      unfold isStepD at h
      split at h
      · cases h; rfl
      · cases h
    subst this
    rw [Option.isSome_some, Bool.true_and, Bool.eq_iff_iff, List.any_eq_true]
    simp only [decide_eq_true_eq, List.mem_map]
    constructor
    · rintro ⟨a, ha, he⟩
      simp [stp] at he
      exact ⟨a, ha, Prod.ext he.1 he.2⟩
    · rintro ⟨a, ha, he⟩
      refine ⟨a, ha, ?_⟩
      rw [← he]; simp [stp]
--@ leads
theorem leads_ok (g : Gr) (hg : g.Ok) {ws rs : Ws} (hw : ws.map (·.1) = g.nodes) {v : Str} (hv : v ∈ g.nodes) (k : Int) {c : D} {m : Nat} (hm : m < 40) (hc : D.sm 1000 m c = true) : f_leads [.dct (sdct D.int ws), .dct (outsD g), .dct (sdct D.int rs), .tup [.str v, .int k, c]] = some (.ro (.bl (leadsB g ws rs v k c))) := by
  have hfE := hg.fewE
  have hal := garcs_len g
  have ho := outA_len g v
  have e1 := is_first_ok (ws := ws) (v := v) (by rw [hw]; exact hv)
  have e2 := is_step_ok c hc
  have hok : D.okd 49 c = true := okd_le (by omega) (sm_okd _ _ hc)
  have hok2 : D.okd 50 c = true := okd_le (by omega) (sm_okd _ _ hc)
  have cc := loopC_encF (vs := [8, 9]) (b := kb_leads_0) (q := kq_leads_0) (p := kp_leads_0) Arc.ts (isLow rs k) (fun a => stp a.name a.fwd) (ρ := [some (.ro (.dct (sdct D.int ws))), some (.ro (.dct (outsD g))), some (.ro (.dct (sdct D.int rs))), some (.ro (.tup [.str v, .int k, c])), some (.ro (.str v)), some (.ro (.int k)), some (.ro c), none, none, none]) (xs := outA g.arcs v) (by
    intro a _
    cases h : rs.lookup a.t with
    | none => simp [bodyC, kb_leads_0, kq_leads_0, kp_leads_0, Arc.ts, getK_s, isLow, h]
    | some r => by_cases hr : r < k <;> simp [bodyC, kb_leads_0, kq_leads_0, kp_leads_0, Arc.ts, getK_s, isLow, h, hr])
  have hi : ((outA g.arcs v).filter (isLow rs k)) = lowA g.arcs rs v k := rfl
  rw [hi] at cc
  have h1 : (outA g.arcs v).length ≤ 16777216 := by omega
  have hstp : ∀ l : List Arc, D.okdL 49 (l.map fun a => stp a.name a.fwd) = true := fun l => by simp [stp]
  cases he : evn ws v with
  | true =>
    rw [he] at e1
    have hT : leadsB g ws rs v k c = isOf c (lowA g.arcs rs v k) := by simp [leadsB, he]
    rw [hT, ← isOf_any]
    cases hs : (isStepD c).isSome with
    | false =>
      rw [hs] at e2
      simp [f_leads, runDef, p_leads, outs_get hv, h1, cc, e1, e2]
    | true =>
      rw [hs] at e2
      simp [f_leads, runDef, p_leads, outs_get hv, h1, cc, e1, e2, hok, hok2, stp]
      try simp [Function.comp_def, stp]
  | false =>
    rw [he] at e1
    have hT : leadsB g ws rs v k c = (c.isN && (decide ((lowA g.arcs rs v k).length = (outA g.arcs v).length) && decide (0 < (outA g.arcs v).length))) := by simp [leadsB, he]
    rw [hT]
    cases hn : c.isN with
    | false => simp [f_leads, runDef, p_leads, outs_get hv, h1, cc, e1, hn]
    | true =>
      by_cases q : (lowA g.arcs rs v k).length = (outA g.arcs v).length
      · simp [f_leads, runDef, p_leads, outs_get hv, h1, cc, e1, hn, q]
      · have q2 : ¬ (((lowA g.arcs rs v k).length : Nat) : Int) = (outA g.arcs v).length := by omega
        simp [f_leads, runDef, p_leads, outs_get hv, h1, cc, e1, hn, q, q2]
end Pl



namespace Dn
open PySem L2
def mxU (ρ : Env) (j : Nat) : C × Env → Option (C × Env)
  | (.own (.dct es), ρ1) => (ioData ρ1 j).bind fun d => duC ρ1 j d es
  | (.ro (.dct es), ρ1) => (ioData ρ1 j).bind fun d => duC ρ1 j d es
  | _ => none
@[simp] theorem v_updD {j : Nat} {p : P1} {ρ : Env} : pUpdD j p ρ = (ioData ρ j).bind fun d0 => match d0.2 with
  | .dct _ => (p ρ).bind fun i => mxU ρ j i
  | _ => none := by
  unfold pUpdD mxU
  cases ioData ρ j with
  | none => rfl
  | some d0 =>
    rcases d0 with ⟨b, d⟩
    cases d with
    | dct l =>
      show (p ρ).bind _ = (p ρ).bind _
      cases p ρ with
      | none => rfl
      | some i =>
        rcases i with ⟨c, ρ1⟩
        cases c with
        | own d => cases d <;> rfl
        | ro d => cases d <;> rfl
        | _ => rfl
    | _ => rfl
@[simp] theorem v_mxU {j : Nat} {ρ ρ1 : Env} {es : List (Key × D)} : mxU ρ j (.own (.dct es), ρ1) = (ioData ρ1 j).bind fun d => duC ρ1 j d es := rfl
@[simp] theorem v_duC {j : Nat} {ρ : Env} {bb : Bool} {l es : List (Key × D)} : duC ρ j (bb, .dct l) es = if decide (l.length + es.length ≤ 16777216) = true then some (.ro .non, ρ.set j (some (ioCell bb (.dct (mergeD l es))))) else none := rfl
def vcC (i : Nat) (p : P1) (ρ : Env) : Option (Option C) → Option (C × Env)
  | some (some (.own (.dct ds))) => if (decide (i < ρ.length) && decide (ds.length < sizeLine)) = true then (valsL i ρ.length p (ds.map (·.2))).map fun rs => (.own (.lst rs), ρ) else none
  | _ => none
@[simp] theorem v_valsC {j i : Nat} {p : P1} {ρ : Env} : pValsC j i p ρ = vcC i p ρ ρ[j]? := by
  unfold pValsC vcC; rfl
@[simp] theorem v_vcC {i : Nat} {p : P1} {ρ : Env} {ds : List (Key × D)} : vcC i p ρ (some (some (.own (.dct ds)))) = if (decide (i < ρ.length) && decide (ds.length < sizeLine)) = true then (valsL i ρ.length p (ds.map (·.2))).map fun rs => (.own (.lst rs), ρ) else none := rfl
theorem valsL_enc {α : Type} {i n : Nat} {p : P1} (enc g : α → D) : ∀ {xs : List α}, (∀ a ∈ xs, ∃ ρ', p ((List.replicate n none).set i (some (.ro (enc a)))) = some (.ro (g a), ρ') ∧ (g a).atomic = true) → valsL i n p (xs.map enc) = some (xs.map g)
  | [], _ => rfl
  | a :: xs, h => by
    obtain ⟨ρ', h1, h2⟩ := h a (by simp)
    rw [List.map_cons, valsL, h1, Option.bind_some]
    dsimp only
    rw [if_pos h2, valsL_enc enc g fun b hb => h b (List.mem_cons_of_mem _ hb)]; rfl
end Dn
namespace Pl
open PySem L2 Dn Mir
/-! entries: a node, a rank, a step -/
abbrev Ent := Str × Int × D
def entT (p : Ent) : D := .tup [.str p.1, .int p.2.1, p.2.2]
def entD : D → Option Ent
  | .tup [.str v, .int k, c] => some (v, k, c)
  | _ => none
def ents : List D → Option (List Ent)
  | [] => some []
  | d :: ds => (entD d).bind fun p => (ents ds).map fun l => p :: l
def isTri : D → Bool
  | .tup [_, _, _] => true
  | _ => false
def isRk : D → Bool
  | .tup [_, .int _, _] => true
  | _ => false
def fst0 : D → D
  | .tup (a :: _) => a
  | d => d
theorem tri_shape {d : D} (h : isTri d = true) : ∃ a b c, d = .tup [a, b, c] := by
  unfold isTri at h; split at h
  · exact ⟨_, _, _, rfl⟩
  · cases h
theorem rk_shape {d : D} (h : isRk d = true) : ∃ a k c, d = .tup [a, .int k, c] := by
  unfold isRk at h; split at h
  · exact ⟨_, _, _, rfl⟩
  · cases h
theorem ent_eq {d : D} {p : Ent} (h : entD d = some p) : d = entT p := by
  unfold entD at h; split at h
  · cases h; rfl
  · cases h
theorem ents_eq : ∀ {ds : List D} {es : List Ent}, ents ds = some es → ds = es.map entT
  | [], _, h => by cases h; rfl
  | d :: ds, es, h => by
    simp only [ents, Option.bind_eq_some_iff, Option.map_eq_some_iff] at h
    obtain ⟨p, h1, l, h2, rfl⟩ := h
    rw [List.map_cons, ← ents_eq h2, ← ent_eq h1]
@[simp] theorem ents_map : ∀ es : List Ent, ents (es.map entT) = some es
  | [] => rfl
  | p :: es => by rw [List.map_cons, ents, ents_map es]; rfl
theorem ents_none : ∀ {ds : List D}, (∃ d ∈ ds, isRk d = false) → ents ds = none
  | [], h => by obtain ⟨_, h, _⟩ := h; cases h
  | d :: ds, ⟨x, hx, hn⟩ => by
    rcases List.mem_cons.mp hx with rfl | hx
    · have : entD x = none := by
        unfold entD; split
        · simp [isRk] at hn
        · rfl
      simp [ents, this]
    · have := ents_none ⟨x, hx, hn⟩
      simp [ents, this]
theorem tri_rk {d : D} (h : isTri d = false) : isRk d = false := by
  unfold isRk; split
  · simp [isTri] at h
  · rfl
theorem ents_some : ∀ {ds : List D} {ss : List Str}, (∀ d ∈ ds, isRk d = true) → ds.map fst0 = ss.map .str → ∃ es, ents ds = some es ∧ es.map (·.1) = ss
  | [], ss, _, h => by cases ss with
    | nil => exact ⟨[], rfl, rfl⟩
    | cons _ _ => cases h
  | d :: ds, ss, h, e => by
    obtain ⟨a, k, c, rfl⟩ := rk_shape (h d (by simp))
    cases ss with
    | nil => cases e
    | cons s ss =>
      rw [List.map_cons, List.map_cons] at e
      obtain ⟨e1, e2⟩ := List.cons.inj e
      have e1 : a = .str s := e1
      subst e1
      obtain ⟨es, h1, h2⟩ := ents_some (ds := ds) (ss := ss) (fun d hd => h d (List.mem_cons_of_mem _ hd)) e2
      exact ⟨(s, k, c) :: es, by simp [ents, entD, h1], by simp [h2]⟩
theorem fst_ents (es : List Ent) : (es.map entT).map fst0 = (es.map (·.1)).map .str := by
  rw [List.map_map, List.map_map]; rfl
def rks (es : List Ent) (e : Str) : Ws := es.map (fun p => (p.1, p.2.1)) ++ [(e, 0)]
def staysB (g : Gr) (ws : Ws) (s e : Str) (y : D) : Bool := textsIn g.nodes y && match y with
  | .tup ds => (match strsD ds with
    | some ss => decide (s ∈ ss) && !decide (e ∈ ss) && ss.all (holdsB g ws ss)
    | none => false)
  | _ => false
def comesE (g : Gr) (ws : Ws) (s e : Str) (es : List Ent) : Bool := textsIn g.nodes (.tup ((es.map (·.1)).map .str)) && !decide (e ∈ es.map (·.1)) && (es.all fun p => decide (1 ≤ p.2.1)) && (decide (s = e) || decide (s ∈ es.map (·.1))) && es.all fun p => leadsB g ws (rks es e) p.1 p.2.1 p.2.2
def comesB (g : Gr) (ws : Ws) (s e : Str) (y : D) : Bool := match y with
  | .tup ds => (match ents ds with
    | some es => comesE g ws s e es
    | none => false)
  | _ => false
def accB (g : Gr) (ws : Ws) (s e : Str) (x : D) : Bool := match x with
  | .tup [.str w, y] => if w = "stays" then staysB g ws s e y else if w = "comes" then comesB g ws s e y else false
  | _ => false
section
variable {g : Gr} {ws : Ws} {s e : Str}
theorem acc_stays {y : D} : accB g ws s e (.tup [.str "stays", y]) = staysB g ws s e y := by simp [accB]
theorem acc_comes {y : D} : accB g ws s e (.tup [.str "comes", y]) = comesB g ws s e y := by
  have : ¬ (("comes" : Str) = "stays") := by decide +kernel
  simp [accB, this]
theorem acc_no {x : D} (h1 : told x ["stays"] 2 = false) (h2 : told x ["comes"] 2 = false) : accB g ws s e x = false := by
  unfold accB; split
  · rename_i w y
    by_cases hw : w = "stays"
    · subst hw; rw [told_is] at h1; cases h1
    · by_cases hw2 : w = "comes"
      · subst hw2; rw [told_is] at h2; cases h2
      · rw [if_neg hw, if_neg hw2]
  · rfl
theorem stays_no {y : D} (h : textsIn g.nodes y = false) : staysB g ws s e y = false := by unfold staysB; rw [h]; rfl
theorem stays_strs {ss : List Str} (h : textsIn g.nodes (.tup (ss.map .str)) = true) : staysB g ws s e (.tup (ss.map .str)) = (decide (s ∈ ss) && !decide (e ∈ ss) && ss.all (holdsB g ws ss)) := by simp [staysB, h]
theorem comes_no {y : D} (h : ∀ ds, y ≠ .tup ds) : comesB g ws s e y = false := by cases y <;> first | rfl | exact absurd rfl (h _)
theorem comes_none {ds : List D} (h : ents ds = none) : comesB g ws s e (.tup ds) = false := by simp [comesB, h]
theorem comes_ents {es : List Ent} : comesB g ws s e (.tup (es.map entT)) = comesE g ws s e es := by simp [comesB]
theorem comes_txt {ds : List D} (h : textsIn g.nodes (.tup (ds.map fst0)) = false) : comesB g ws s e (.tup ds) = false := by
  cases he : ents ds with
  | none => exact comes_none he
  | some es =>
    have := ents_eq he
    subst this
    rw [fst_ents] at h
    rw [comes_ents]; unfold comesE; rw [h]; rfl
end
theorem asked_fst {ds : List D} (hl : ds.length ≤ 1000) (hs : ∀ d ∈ ds, D.sm 1000 19 d = true) (ht : ∀ d ∈ ds, isTri d = true) : Asked (.tup (ds.map fst0)) := by
  refine .inr (sm_tup.mpr ⟨by rw [List.length_map]; exact hl, fun y hy => ?_⟩)
  obtain ⟨d, hd, rfl⟩ := List.mem_map.mp hy
  obtain ⟨a, b, c, rfl⟩ := tri_shape (ht d hd)
  obtain ⟨_, h⟩ := sm_tup.mp (hs _ hd)
  exact sm_le (Nat.le_refl _) (by decide) (h a (by simp))
theorem all_any {α : Type} (l : List α) (p : α → Bool) : (!(l.any ((fun z => z.eqv (.bl false)) ∘ fun a => D.bl (p a)))) = l.all p := by
  rw [List.all_eq_not_any_not]
  congr 2
  funext a
  cases h : p a <;> simp [h, D.eqv]
--@ judge_coming
theorem judge_ok (g : Gr) (ws : Ws) (s e : Str) (x : D) (hx : Asked x) (hg : g.Ok) (hw : ws.map (·.1) = g.nodes) (hs : s ∈ g.nodes) (he : e ∈ g.nodes) : f_judge_coming [g.d, wdD ws, .str s, .str e, x] = some (.ro (.bl (accB g ws s e x))) := by
  have t1 : f_is_told [x, .tup [.str "stays"], .int 2] = some (.ro (.bl (told x ["stays"] 2))) := is_told_ok x hx ["stays"] 2 (by decide)
  have t2 : f_is_told [x, .tup [.str "comes"], .int 2] = some (.ro (.bl (told x ["comes"] 2))) := is_told_ok x hx ["comes"] 2 (by decide)
  have dd := wd_dict (ws := ws) (by rw [hw]; exact hg.nd)
  have sf := steps_from_ok g hg.wf
  cases h1 : told x ["stays"] 2 with
  | true =>
    obtain ⟨y, rfl⟩ := told_two h1
    have hy := asked_snd hx
    rw [acc_stays]
    have n1 := are_nodes_ok g y hy
    cases ht : textsIn g.nodes y with
    | false =>
      rw [ht] at n1
      rw [stays_no ht]
      simp [f_judge_coming, runDef, p_judge_coming, dd, sf, t1, h1, n1, -o_toDictxT]
    | true =>
      rw [ht] at n1
      obtain ⟨ss, rfl, hin, _⟩ := textsIn_true ht
      rw [stays_strs ht]
      have hsl : ss.length ≤ 16777216 := by
        rcases hy.cases with ⟨ds, q, h, _⟩ | ⟨h, _⟩
        · cases q; rw [List.length_map] at h; omega
        · exact absurd rfl (h _)
      have c := loopC_encM (vs := [7]) (b := kb_judge_coming_0) (q := qYes) (p := kp_judge_coming_0) D.str (fun v => .bl (holdsB g ws ss v)) (ρ := [some (.ro g.d), some (.ro (wdD ws)), some (.ro (.str s)), some (.ro (.str e)), some (.ro (.tup [.str "stays", .tup (ss.map .str)])), some (.own (.dct (sdct D.int ws))), some (.own (.dct (outsD g))), none, none, none, none, none]) (xs := ss) (by
        intro v hv
        have := holds_ok g hg hw (hin v hv) ss
        simp [bodyC, kb_judge_coming_0, kp_judge_coming_0, this])
      have hb1 : D.okdL 50 (ss.map fun v => D.bl (holdsB g ws ss v)) = true := by simp
      have hfin := all_any ss (holdsB g ws ss)
      by_cases q1 : s ∈ ss
      · by_cases q2 : e ∈ ss
        · simp [f_judge_coming, runDef, p_judge_coming, dd, sf, t1, h1, n1, q1, q2, -o_toDictxT]
        · rw [← hfin]
          simp [f_judge_coming, runDef, p_judge_coming, dd, sf, t1, h1, n1, q1, q2, hsl, c, hb1, -o_toDictxT]
      · simp [f_judge_coming, runDef, p_judge_coming, dd, sf, t1, h1, n1, q1, -o_toDictxT]
  | false =>
    cases h2 : told x ["comes"] 2 with
    | false =>
      rw [acc_no h1 h2]
      simp [f_judge_coming, runDef, p_judge_coming, dd, sf, t1, h1, t2, h2, -o_toDictxT]
    | true =>
      obtain ⟨y, rfl⟩ := told_two h2
      have hy := asked_snd hx
      rw [acc_comes]
      rcases hy.cases with ⟨ds, rfl, hl, hds⟩ | ⟨hno, m, hm, hm2⟩
      · have hl2 : ds.length ≤ 16777216 := by omega
        obtain ⟨ρ0, hρ0⟩ : ∃ ρ0 : Dn.Env, ρ0 = [some (.ro g.d), some (.ro (wdD ws)), some (.ro (.str s)), some (.ro (.str e)), some (.ro (.tup [.str "comes", .tup ds])), some (.own (.dct (sdct D.int ws))), some (.own (.dct (outsD g))), none, none, none, none, none] := ⟨_, rfl⟩
        have c1 := loopC_encM (vs := [8]) (b := kb_judge_coming_1) (q := qYes) (p := kp_judge_coming_1) (fun d : D => d) (fun d => .bl (isTri d)) (ρ := ρ0) (xs := ds) (by
          intro d hd
          subst hρ0
          have hsd := hds d hd
          cases d with
          | tup es =>
            match es with
            | [] => simp [bodyC, kb_judge_coming_1, kp_judge_coming_1, isTri]
            | [a] => simp [bodyC, kb_judge_coming_1, kp_judge_coming_1, isTri]
            | [a, b] => simp [bodyC, kb_judge_coming_1, kp_judge_coming_1, isTri]
            | [a, b, c] => simp [bodyC, kb_judge_coming_1, kp_judge_coming_1, isTri]
            | a :: b :: c :: d :: l =>
              have : ¬ ((l.length : Int) + 1 + 1 + 1 + 1 = 3) := by omega
              simp [bodyC, kb_judge_coming_1, kp_judge_coming_1, isTri, this]
          | _ => first | (simp [D.sm] at hsd; done) | simp [bodyC, kb_judge_coming_1, kp_judge_coming_1, isTri])
        rw [List.map_id'] at c1
        have hb1 : D.okdL 50 (ds.map fun d => D.bl (isTri d)) = true := by simp
        by_cases htri : ∃ x ∈ ds, isTri x = false
        · have hT : comesB g ws s e (.tup ds) = false := by
            obtain ⟨d, hd, h⟩ := htri
            exact comes_none (ents_none ⟨d, hd, tri_rk h⟩)
          rw [hT]
          rw [hρ0] at c1
          simp [f_judge_coming, runDef, p_judge_coming, dd, sf, t1, h1, t2, h2, hl2, c1, hb1, htri, -o_toDictxT]
        · have htr : ∀ d ∈ ds, isTri d = true := fun d hd => by
            cases h : isTri d with
            | true => rfl
            | false => exact absurd ⟨d, hd, h⟩ htri
          have c2 := loopC_encM (vs := [8]) (b := kb_judge_coming_2) (q := qYes) (p := kp_judge_coming_2) (fun d : D => d) fst0 (ρ := ρ0) (xs := ds) (by
            intro d hd
            subst hρ0
            obtain ⟨a, b, c, rfl⟩ := tri_shape (htr d hd)
            simp [bodyC, kb_judge_coming_2, kp_judge_coming_2, fst0])
          rw [List.map_id'] at c2
          have n1 := are_nodes_ok g _ (asked_fst hl hds htr)
          cases ht : textsIn g.nodes (.tup (ds.map fst0)) with
          | false =>
            rw [ht] at n1
            rw [comes_txt ht]
            rw [hρ0] at c1 c2
            simp [f_judge_coming, runDef, p_judge_coming, dd, sf, t1, h1, t2, h2, hl2, c1, hb1, htri, c2, n1, -o_toDictxT]
          | true =>
            rw [ht] at n1
            obtain ⟨ss, hss, hin, hso⟩ := textsIn_true ht
            have hss : ds.map fst0 = ss.map .str := by injection hss
            have hsn : ss.Nodup := by rw [hso]; exact sortSet_nodup ss
            have c3 := loopC_encM (vs := [8]) (b := kb_judge_coming_3) (q := qYes) (p := kp_judge_coming_3) (fun d : D => d) (fun d => .bl (isRk d)) (ρ := ρ0) (xs := ds) (by
              intro d hd
              subst hρ0
              obtain ⟨a, b, c, rfl⟩ := tri_shape (htr d hd)
              obtain ⟨_, h⟩ := sm_tup.mp (hds _ hd)
              have s2 := h b (by simp)
              cases b <;> first | (simp [D.sm] at s2; done) | simp [bodyC, kb_judge_coming_3, kp_judge_coming_3, f_is_whole, runDef, p_is_whole, isRk])
            rw [List.map_id'] at c3
            have hb3 : D.okdL 50 (ds.map fun d => D.bl (isRk d)) = true := by simp
            by_cases hrk : ∃ x ∈ ds, isRk x = false
            · rw [comes_none (ents_none hrk)]
              rw [hρ0] at c1 c2 c3
              simp [f_judge_coming, runDef, p_judge_coming, dd, sf, t1, h1, t2, h2, hl2, c1, hb1, htri, c2, n1, c3, hb3, hrk, -o_toDictxT]
            · have hrt : ∀ d ∈ ds, isRk d = true := fun d hd => by
                cases h : isRk d with
                | true => rfl
                | false => exact absurd ⟨d, hd, h⟩ hrk
              obtain ⟨es, hes, hef⟩ := ents_some hrt hss
              have hde := ents_eq hes
              have hT : comesB g ws s e (.tup ds) = comesE g ws s e es := by rw [hde, comes_ents]
              have hnd : (es.map fun p => p.1).Nodup := by rw [hef]; exact hsn
              have htx : textsIn g.nodes (.tup ((es.map (·.1)).map .str)) = true := by rw [hef, ← hss]; exact ht
              have c4 := textDict_comp (vs := [7, 10, 11]) (b := kb_judge_coming_4) (pk := kk_judge_coming_4) (pv := kp_judge_coming_4) (ρ := ρ0) (xs := es) entT (fun p => p.1) (fun p => p.2.1) D.int (by rw [hde] at hl; rw [List.length_map] at hl; omega) hnd (by
                intro p _
                subst hρ0
                simp [bodyK, kb_judge_coming_4, kk_judge_coming_4, kp_judge_coming_4, entT])
              rw [← hde] at c4
              obtain ⟨rs, hrs⟩ : ∃ rs : Ws, rs = es.map fun p => (p.1, p.2.1) := ⟨_, rfl⟩
              rw [← hrs] at c4
              have hrf : rs.map (·.1) = es.map (·.1) := by rw [hrs, List.map_map]; rfl
              rw [hT]
              unfold comesE
              rw [htx, Bool.true_and]
              by_cases q1 : e ∈ es.map (·.1)
              · have : (getK (sdct D.int rs) (.inr e)).isSome = true := by rw [getK_in, hrf]; exact decide_eq_true q1
                rw [decide_eq_true q1]
                rw [hρ0] at c1 c2 c3 c4
                simp [f_judge_coming, runDef, p_judge_coming, dd, sf, t1, h1, t2, h2, hl2, c1, hb1, htri, c2, n1, c3, hb3, hrk, c4, this, -o_toDictxT]
              · have q1' : (getK (sdct D.int rs) (.inr e)).isSome = false := by rw [getK_in, hrf]; exact decide_eq_false q1
                rw [decide_eq_false q1, Bool.not_false, Bool.true_and]
                have hvals : (sdct D.int rs).map (·.2) = es.map fun p => D.int p.2.1 := by simp [sdct, hrs, Function.comp_def]
                have hdsl : (sdct D.int rs).length = es.length := by simp [sdct, hrs]
                have hesl : es.length ≤ 1000 := by rw [hde] at hl; rw [List.length_map] at hl; exact hl
                have c5 := valsL_enc (i := 10) (n := 12) (p := kp_judge_coming_5) (fun p : Ent => D.int p.2.1) (fun p => .bl (decide (p.2.1 < 1))) (xs := es) (fun p _ => ⟨[none, none, none, none, none, none, none, none, none, none, some (.ro (.int p.2.1)), none], by
                  have : (List.replicate 12 none).set 10 (some (.ro (.int p.2.1))) = ([none, none, none, none, none, none, none, none, none, none, some (.ro (.int p.2.1)), none] : Dn.Env) := rfl
                  rw [this]; simp [kp_judge_coming_5], rfl⟩)
                rw [← hvals] at c5
                have hb5 : D.okdL 50 (es.map fun p => D.bl (decide (p.2.1 < 1))) = true := by simp
                have hdl : rs.length < 16777216 := by rw [hrs, List.length_map]; omega
                have hb6' : True := trivial
                by_cases q2 : ∀ p ∈ es, 1 ≤ p.2.1
                · have q2a : (es.all fun p => decide (1 ≤ p.2.1)) = true := by rw [List.all_eq_true]; exact fun p hp => decide_eq_true (q2 p hp)
                  have q2b : (es.any ((fun z => z.eqv (.bl true)) ∘ fun p : Ent => D.bl (decide (p.2.1 < 1)))) = false := by
                    rw [List.any_eq_false]
                    intro p hp
                    have := q2 p hp
                    have h : ¬ p.2.1 < 1 := by omega
                    simp [h, D.eqv]
                  rw [q2a, Bool.true_and]
                  have hput : putD (sdct D.int rs) (.inr e) (.int 0) = sdct D.int (rks es e) := by
                    have := putD_s (enc := D.int) (fs := rs) (k := e) (v := 0)
                    rw [this]
                    unfold sput
                    rw [if_neg (by rw [hrf]; exact q1), hrs]; rfl
                  have c6 := loopC_encM (vs := [8]) (b := kb_judge_coming_6) (q := qYes) (p := kp_judge_coming_6) entT (fun p => .bl (leadsB g ws (rks es e) p.1 p.2.1 p.2.2)) (ρ := [some (.ro g.d), some (.ro (wdD ws)), some (.ro (.str s)), some (.ro (.str e)), some (.ro (.tup [.str "comes", .tup ds])), some (.own (.dct (sdct D.int ws))), some (.own (.dct (outsD g))), none, none, some (.own (.dct (sdct D.int (rks es e)))), none, none]) (xs := es) (by
                    intro p hp
                    have hsm := hds (entT p) (by rw [hde]; exact List.mem_map.mpr ⟨p, hp, rfl⟩)
                    obtain ⟨_, hsm⟩ := sm_tup.mp hsm
                    have hv : p.1 ∈ g.nodes := hin _ (by rw [← hef]; exact List.mem_map.mpr ⟨p, hp, rfl⟩)
                    have := leads_ok g hg (rs := rks es e) hw hv p.2.1 (c := p.2.2) (m := 18) (by omega) (hsm p.2.2 (by simp))
                    simp [bodyC, kb_judge_coming_6, kp_judge_coming_6, entT, this])
                  rw [← hde] at c6
                  have hb6 : D.okdL 50 (es.map fun p => D.bl (leadsB g ws (rks es e) p.1 p.2.1 p.2.2)) = true := by simp
                  have hfin := all_any es fun p => leadsB g ws (rks es e) p.1 p.2.1 p.2.2
                  rw [← hfin]
                  rw [hρ0] at c1 c2 c3 c4
                  by_cases q3 : s = e
                  · subst q3
                    simp [f_judge_coming, runDef, p_judge_coming, dd, sf, t1, h1, t2, h2, hl2, c1, hb1, htri, c2, n1, c3, hb3, hrk, c4, q1', c5, hb5, q2b, hdl, hput, c6, hb6, -o_toDictxT]
                  · by_cases q4 : s ∈ es.map (·.1)
                    · have q4' : (getK (sdct D.int rs) (.inr s)).isSome = true := by rw [getK_in, hrf]; exact decide_eq_true q4
                      rw [decide_eq_true q4, Bool.or_true, Bool.true_and]
                      simp [f_judge_coming, runDef, p_judge_coming, dd, sf, t1, h1, t2, h2, hl2, c1, hb1, htri, c2, n1, c3, hb3, hrk, c4, q1', c5, hb5, q2b, hdl, hput, c6, hb6, q3, q4', -o_toDictxT]
                    · have q4' : (getK (sdct D.int rs) (.inr s)).isSome = false := by rw [getK_in, hrf]; exact decide_eq_false q4
                      rw [decide_eq_false q4, decide_eq_false q3, Bool.or_false, Bool.false_and]
                      simp [f_judge_coming, runDef, p_judge_coming, dd, sf, t1, h1, t2, h2, hl2, c1, hb1, htri, c2, n1, c3, hb3, hrk, c4, q1', c5, hb5, q2b, hdl, q3, q4', -o_toDictxT]
                · have q2a : (es.all fun p => decide (1 ≤ p.2.1)) = false := by
                    rw [Bool.eq_false_iff]; intro z; rw [List.all_eq_true] at z
                    exact q2 fun p hp => of_decide_eq_true (z p hp)
                  have q2b : (es.any ((fun z => z.eqv (.bl true)) ∘ fun p : Ent => D.bl (decide (p.2.1 < 1)))) = true := by
                    rw [List.any_eq_true]
                    apply Classical.byContradiction
                    intro z
                    exact q2 fun p hp => by
                      apply Classical.byContradiction
                      intro h; exact z ⟨p, hp, by have : p.2.1 < 1 := by omega
                                                  simp [this, D.eqv]⟩
                  rw [q2a, Bool.false_and, Bool.false_and]
                  rw [hρ0] at c1 c2 c3 c4
                  simp [f_judge_coming, runDef, p_judge_coming, dd, sf, t1, h1, t2, h2, hl2, c1, hb1, htri, c2, n1, c3, hb3, hrk, c4, q1', c5, hb5, q2b, hdl, -o_toDictxT]
      · rw [comes_no hno]
        simp [f_judge_coming, runDef, p_judge_coming, dd, sf, t1, h1, t2, h2, hm, hm2, -o_toDictxT]
end Pl



namespace Pl
open PySem L2 Dn Mir
def badD (e : Str) (d : D) : Bool := match d with
  | .tup [a, .int k, _] => decide (k < 1) || D.eqv a (.str e)
  | _ => true
theorem isOf_stp (c : D) (l : List Arc) : isOf c l = !(l.filter fun a => isStp c a.name a.fwd).isEmpty := by
  rw [Bool.eq_iff_iff]
  simp only [Bool.not_eq_true', List.isEmpty_eq_false_iff, ne_eq, List.filter_eq_nil_iff]
  unfold isOf isStp
  cases isStepD c with
  | none => simp
  | some p =>
    simp only [decide_eq_true_eq, List.mem_map]
    constructor
    · rintro ⟨a, ha, he⟩ z
      exact z a ha (by rw [← he]; simp)
    · intro z
      apply Classical.byContradiction
      intro h
      refine z fun a ha he => h ⟨a, ha, ?_⟩
      simp at he
      exact Prod.ext he.1 he.2
--@ _law_accepts k84
theorem accepts_ok (g : Gr) (ws : Ws) (s e : Str) (x : D) (hx : Asked x) (hg : g.Ok) (hw : ws.map (·.1) = g.nodes) (hs : s ∈ g.nodes) (he : e ∈ g.nodes) : f__law_accepts [g.d, wdD ws, .str s, .str e, x] = some (.ro (.bl (accB g ws s e x))) := by
  have t1 : f__law_is [x, .str "stays", .int 2] = some (.ro (.bl (told x ["stays"] 2))) := law_is_ok x hx "stays" 2 (by decide)
  have t2 : f__law_is [x, .str "comes", .int 2] = some (.ro (.bl (told x ["comes"] 2))) := law_is_ok x hx "comes" 2 (by decide)
  have dd := wd_dict (ws := ws) (by rw [hw]; exact hg.nd)
  have hfE := hg.fewE
  have hal := garcs_len g
  have ha1 : g.arcs.length ≤ 16777216 := by omega
  have sf := law_steps_ok g (by omega)
  have wt : ∀ v ∈ g.nodes, ∃ b, ws.lookup v = some b ∧ evn ws v = decide (b % 2 = 0) := fun v hv => by
    obtain ⟨b, hb⟩ := lookup_in (ps := ws) (n := v) (by rw [hw]; exact hv)
    exact ⟨b, hb, by simp [evn, hb]⟩
  cases h1 : told x ["stays"] 2 with
  | true =>
    obtain ⟨y, rfl⟩ := told_two h1
    have hy := asked_snd hx
    rw [acc_stays]
    have n1 := law_are_nodes_ok g y hy
    cases ht : textsIn g.nodes y with
    | false =>
      rw [ht] at n1
      rw [stays_no ht]
      simp [f__law_accepts, runDef, p__law_accepts, dd, sf, t1, h1, n1, -o_toDictxT]
    | true =>
      rw [ht] at n1
      obtain ⟨ss, rfl, hin, _⟩ := textsIn_true ht
      rw [stays_strs ht]
      have hsl : ss.length ≤ 16777216 := by
        rcases hy.cases with ⟨ds, q, h, _⟩ | ⟨h, _⟩
        · cases q; rw [List.length_map] at h; omega
        · exact absurd rfl (h _)
      by_cases q1 : s ∈ ss
      · by_cases q2 : e ∈ ss
        · simp [f__law_accepts, runDef, p__law_accepts, dd, sf, t1, h1, n1, q1, q2, -o_toDictxT]
        · have hall := loop_all (b := bName 7) (s := l__law_accepts_0) D.str
            (fun ρ => ∃ c6 x7 x8 x13, (c6 = .own (.lst (g.arcs.map Arc.d)) ∨ c6 = .ro (.lst (g.arcs.map Arc.d))) ∧ ρ = [some (.ro g.d), some (.ro (wdD ws)), some (.ro (.str s)), some (.ro (.str e)), some (.ro (.tup [.str "stays", .tup (ss.map .str)])), some (.own (.dct (sdct D.int ws))), some c6, x7, x8, none, none, none, none, x13, none, none, none, none, none]) (holdsB g ws ss) (.ro (.bl false)) (xs := ss)
            (ρ0 := [some (.ro g.d), some (.ro (wdD ws)), some (.ro (.str s)), some (.ro (.str e)), some (.ro (.tup [.str "stays", .tup (ss.map .str)])), some (.own (.dct (sdct D.int ws))), some (.own (.lst (g.arcs.map Arc.d))), none, none, none, none, none, none, none, none, none, none, none, none]) ⟨_, none, none, none, .inl rfl, rfl⟩ (by
              rintro v hv ρ ⟨c6, x7, x8, x13, hc6, rfl⟩
              obtain ⟨b, hb, hev⟩ := wt v (hin v hv)
              have ho := outA_len g v
              have h8 : (outA g.arcs v).length ≤ 16777216 := by omega
              have c0 := loopC_encF (vs := [9, 10, 11, 12]) (b := kb__law_accepts_0) (q := kq__law_accepts_0) (p := kp__law_accepts_0) Arc.d (fun a => decide (a.s = v)) (fun a => .str a.t) (ρ := [some (.ro g.d), some (.ro (wdD ws)), some (.ro (.str s)), some (.ro (.str e)), some (.ro (.tup [.str "stays", .tup (ss.map .str)])), some (.own (.dct (sdct D.int ws))), some (.ro (.lst (g.arcs.map Arc.d))), some (.ro (.str v)), x8, none, none, none, none, x13, none, none, none, none, none]) (xs := g.arcs) (by
                intro a _
                by_cases h : a.s = v <;> simp [bodyC, kb__law_accepts_0, kq__law_accepts_0, kp__law_accepts_0, Arc.d, h])
              have e0 : (g.arcs.filter fun a => decide (a.s = v)) = outA g.arcs v := rfl
              rw [e0] at c0
              have c1 := loopC_encF (vs := [10]) (b := kb__law_accepts_1) (q := kq__law_accepts_1) (p := kp__law_accepts_1) (fun a : Arc => D.str a.t) (fun a => decide (a.t ∈ ss)) (fun a => .str a.t) (ρ := [some (.ro g.d), some (.ro (wdD ws)), some (.ro (.str s)), some (.ro (.str e)), some (.ro (.tup [.str "stays", .tup (ss.map .str)])), some (.own (.dct (sdct D.int ws))), some (.ro (.lst (g.arcs.map Arc.d))), some (.ro (.str v)), some (.ro (.lst ((outA g.arcs v).map fun a => D.str a.t))), none, none, none, none, x13, none, none, none, none, none]) (xs := outA g.arcs v) (by
                intro a _
                by_cases h : a.t ∈ ss <;> simp [bodyC, kb__law_accepts_1, kq__law_accepts_1, kp__law_accepts_1, h])
              have e1 : ((outA g.arcs v).filter fun a => decide (a.t ∈ ss)) = innA g.arcs ss v := rfl
              rw [e1] at c1
              have hle : (innA g.arcs ss v).length ≤ (outA g.arcs v).length := List.length_filter_le _ _
              obtain ⟨R, hR⟩ : ∃ R : Dn.Env, R = [some (.ro g.d), some (.ro (wdD ws)), some (.ro (.str s)), some (.ro (.str e)), some (.ro (.tup [.str "stays", .tup (ss.map .str)])), some (.own (.dct (sdct D.int ws))), some (.ro (.lst (g.arcs.map Arc.d))), some (.ro (.str v)), some (.ro (.lst ((outA g.arcs v).map fun a => D.str a.t))), none, none, none, none, some (.own (.lst ((innA g.arcs ss v).map fun a => D.str a.t))), none, none, none, none, none] := ⟨_, rfl⟩
              have body : ((bName 7) (D.str v) [some (.ro g.d), some (.ro (wdD ws)), some (.ro (.str s)), some (.ro (.str e)), some (.ro (.tup [.str "stays", .tup (ss.map .str)])), some (.own (.dct (sdct D.int ws))), some c6, x7, x8, none, none, none, none, x13, none, none, none, none, none]).bind (fun ρ1 => l__law_accepts_0 ρ1) = some (if holdsB g ws ss v = true then .nx R else .rt (.ro (.bl false)) R) := by
                have hT : holdsB g ws ss v = if evn ws v = true then decide ((innA g.arcs ss v).length = (outA g.arcs v).length) else decide (0 < (innA g.arcs ss v).length) || decide ((outA g.arcs v).length = 0) := rfl
                rw [hT, hev, hR]
                have hlt : (((innA g.arcs ss v).length : Nat) : Int) < (outA g.arcs v).length ↔ ¬ (innA g.arcs ss v).length = (outA g.arcs v).length := by omega
                by_cases hb2 : b % 2 = 0
                · by_cases hq : (innA g.arcs ss v).length = (outA g.arcs v).length
                  · rcases hc6 with rfl | rfl <;> simp [l__law_accepts_0, ha1, c0, h8, c1, getK_s, hb, hb2, hq]
                  · have hq2 := hlt.mpr hq
                    rcases hc6 with rfl | rfl <;> simp [l__law_accepts_0, ha1, c0, h8, c1, getK_s, hb, hb2, hq, hq2]
                · have hb3 : b % 2 = 1 := by omega
                  cases hi : innA g.arcs ss v with
                  | nil =>
                    rw [hi] at c1
                    cases hoo : outA g.arcs v with
                    | nil => rw [hoo] at c0 c1; simp only [List.map_nil] at c0 c1; rcases hc6 with rfl | rfl <;> simp [l__law_accepts_0, ha1, c0, h8, c1, getK_s, hb, hb3]
                    | cons a l =>
                      rw [hoo] at c0 c1 h8
                      simp only [List.map_nil, List.map_cons] at c0 c1
                      have h9 : l.length + 1 ≤ 16777216 := h8
                      rcases hc6 with rfl | rfl <;> simp [l__law_accepts_0, ha1, c0, h9, c1, getK_s, hb, hb3]
                  | cons a l =>
                    rw [hi] at c1
                    rcases hc6 with rfl | rfl <;> simp [l__law_accepts_0, ha1, c0, h8, c1, getK_s, hb, hb3]
              rw [body]
              refine ⟨fun h => ⟨R, by rw [if_pos h], _, _, _, _, .inr rfl, hR⟩, fun h => ⟨R, by rw [if_neg (by rw [h]; decide)]⟩⟩)
          rcases hall with ⟨ha, ρ', el, hI⟩ | ⟨ha, ρ', el⟩
          · simp [f__law_accepts, runDef, p__law_accepts, dd, sf, t1, h1, n1, q1, q2, hsl, el, ha, -o_toDictxT]
          · simp [f__law_accepts, runDef, p__law_accepts, dd, sf, t1, h1, n1, q1, q2, hsl, el, ha, -o_toDictxT]
      · simp [f__law_accepts, runDef, p__law_accepts, dd, sf, t1, h1, n1, q1, -o_toDictxT]
  | false =>
    cases h2 : told x ["comes"] 2 with
    | false =>
      rw [acc_no h1 h2]
      simp [f__law_accepts, runDef, p__law_accepts, dd, sf, t1, h1, t2, h2, -o_toDictxT]
    | true =>
      obtain ⟨y, rfl⟩ := told_two h2
      have hy := asked_snd hx
      rw [acc_comes]
      rcases hy.cases with ⟨ds, rfl, hl, hds⟩ | ⟨hno, m, hm, hm2⟩
      · have hl2 : ds.length ≤ 16777216 := by omega
        obtain ⟨ρ0, hρ0⟩ : ∃ ρ0 : Dn.Env, ρ0 = [some (.ro g.d), some (.ro (wdD ws)), some (.ro (.str s)), some (.ro (.str e)), some (.ro (.tup [.str "comes", .tup ds])), some (.own (.dct (sdct D.int ws))), some (.own (.lst (g.arcs.map Arc.d))), none, none, none, none, none, none, none, none, none, none, none, none] := ⟨_, rfl⟩
        have cons_ok : ∀ (p : D → Bool), ds.filter p ≠ [] → ∃ a r, ds.filter p = a :: r ∧ D.okd 49 a = true ∧ D.okdL 49 r = true := fun p hne => by
          obtain ⟨a, r, hr⟩ := List.exists_cons_of_ne_nil hne
          have hok : ∀ y ∈ a :: r, D.okd 49 y = true := fun y hy => by
            rw [← hr] at hy
            exact okd_le (by omega) (sm_okd _ _ (hds y (List.mem_filter.mp hy).1))
          exact ⟨a, r, hr, hok a (by simp), by rw [D.okdL_eq, List.all_eq_true]; exact fun y hy => hok y (List.mem_cons_of_mem _ hy)⟩
        have c2 := loopC_encF (vs := [14]) (b := kb__law_accepts_2) (q := kq__law_accepts_2) (p := kp__law_accepts_2) (fun d : D => d) (fun d => !isTri d) (fun d => d) (ρ := ρ0) (xs := ds) (by
          intro d hd
          subst hρ0
          have hsd := hds d hd
          cases d with
          | tup es =>
            match es with
            | [] => simp [bodyC, kb__law_accepts_2, kq__law_accepts_2, kp__law_accepts_2, isTri]
            | [a] => simp [bodyC, kb__law_accepts_2, kq__law_accepts_2, kp__law_accepts_2, isTri]
            | [a, b] => simp [bodyC, kb__law_accepts_2, kq__law_accepts_2, kp__law_accepts_2, isTri]
            | [a, b, c] => simp [bodyC, kb__law_accepts_2, kq__law_accepts_2, kp__law_accepts_2, isTri]
            | a :: b :: c :: d :: l =>
              have : ¬ ((l.length : Int) + 1 + 1 + 1 + 1 = 3) := by omega
              simp [bodyC, kb__law_accepts_2, kq__law_accepts_2, kp__law_accepts_2, isTri, this]
          | _ => first | (simp [D.sm] at hsd; done) | simp [bodyC, kb__law_accepts_2, kq__law_accepts_2, kp__law_accepts_2, isTri])
        rw [List.map_id', List.map_id'] at c2
        by_cases htr : ∀ d ∈ ds, isTri d = true
        · have hnil : (ds.filter fun d => !isTri d) = [] := by
            rw [List.filter_eq_nil_iff]; intro d hd; simp [htr d hd]
          rw [hnil] at c2
          have c3 := loopC_encM (vs := [14]) (b := kb__law_accepts_3) (q := qYes) (p := kp__law_accepts_3) (fun d : D => d) fst0 (ρ := ρ0) (xs := ds) (by
            intro d hd
            subst hρ0
            obtain ⟨a, b, c, rfl⟩ := tri_shape (htr d hd)
            simp [bodyC, kb__law_accepts_3, kp__law_accepts_3, fst0])
          rw [List.map_id'] at c3
          have n1 := law_are_nodes_ok g _ (asked_fst hl hds htr)
          cases ht : textsIn g.nodes (.tup (ds.map fst0)) with
          | false =>
            rw [ht] at n1
            rw [comes_txt ht]
            rw [hρ0] at c2 c3
            simp [f__law_accepts, runDef, p__law_accepts, dd, sf, t1, h1, t2, h2, hl2, c2, c3, n1, -o_toDictxT]
          | true =>
            rw [ht] at n1
            obtain ⟨ss, hss, hin, hso⟩ := textsIn_true ht
            have hss : ds.map fst0 = ss.map .str := by injection hss
            have hsn : ss.Nodup := by rw [hso]; exact sortSet_nodup ss
            have c4 := loopC_encF (vs := [14]) (b := kb__law_accepts_4) (q := kq__law_accepts_4) (p := kp__law_accepts_4) (fun d : D => d) (badD e) (fun d => d) (ρ := ρ0) (xs := ds) (by
              intro d hd
              subst hρ0
              obtain ⟨a, b, c, rfl⟩ := tri_shape (htr d hd)
              obtain ⟨_, h⟩ := sm_tup.mp (hds _ hd)
              have s1 := h a (by simp)
              have s2 := h b (by simp)
              have hoa : D.okd 50 a = true := okd_le (by omega) (sm_okd _ _ s1)
              cases b with
              | int k =>
                by_cases hk : k < 1
                · simp [bodyC, kb__law_accepts_4, kq__law_accepts_4, kp__law_accepts_4, f__law_is_whole, runDef, p__law_is_whole, badD, hk]
                · cases hq : a.eqv (.str e) <;> simp [bodyC, kb__law_accepts_4, kq__law_accepts_4, kp__law_accepts_4, f__law_is_whole, runDef, p__law_is_whole, badD, hk, hoa, hq]
              | _ => first | (simp [D.sm] at s2; done) | simp [bodyC, kb__law_accepts_4, kq__law_accepts_4, kp__law_accepts_4, f__law_is_whole, runDef, p__law_is_whole, badD])
            rw [List.map_id', List.map_id'] at c4
            by_cases hbad : ds.filter (badD e) = []
            · rw [hbad] at c4
              have hgood : ∀ d ∈ ds, badD e d = false := fun d hd => by
                have := List.filter_eq_nil_iff.mp hbad d hd
                simpa using this
              have hrt : ∀ d ∈ ds, isRk d = true := fun d hd => by
                have h1 := hgood d hd
                obtain ⟨a, b, c, rfl⟩ := tri_shape (htr d hd)
                cases b <;> first | rfl | (simp [badD] at h1)
              obtain ⟨es, hes, hef⟩ := ents_some hrt hss
              have hde := ents_eq hes
              have hT : comesB g ws s e (.tup ds) = comesE g ws s e es := by rw [hde, comes_ents]
              have hnd : (es.map fun p => p.1).Nodup := by rw [hef]; exact hsn
              have htx : textsIn g.nodes (.tup ((es.map (·.1)).map .str)) = true := by rw [hef, ← hss]; exact ht
              have q1 : e ∉ es.map (·.1) := fun z => by
                obtain ⟨p, hp, hpe⟩ := List.mem_map.mp z
                have := hgood (entT p) (by rw [hde]; exact List.mem_map.mpr ⟨p, hp, rfl⟩)
                simp [badD, entT, hpe] at this
              have q2 : (es.all fun p => decide (1 ≤ p.2.1)) = true := by
                rw [List.all_eq_true]
                intro p hp
                have := hgood (entT p) (by rw [hde]; exact List.mem_map.mpr ⟨p, hp, rfl⟩)
                simp [badD, entT] at this
                exact decide_eq_true (by omega)
              have hesl : es.length ≤ 1000 := by rw [hde] at hl; rw [List.length_map] at hl; exact hl
              have c5 := loopC_encM (vs := [14]) (b := kb__law_accepts_5) (q := qYes) (p := kp__law_accepts_5) entT (fun p => .tup [.str p.1, .int p.2.1]) (ρ := ρ0) (xs := es) (by
                intro p _
                subst hρ0
                simp [bodyC, kb__law_accepts_5, kp__law_accepts_5, entT])
              rw [← hde] at c5
              have hrk : (rks es e).map (·.1) = es.map (·.1) ++ [e] := by unfold rks; rw [List.map_append, List.map_map]; rfl
              have hdict := wl_dict (ws := rks es e) (by rw [hrk, List.nodup_append]; exact ⟨hnd, by simp, fun x hx y hy z => by simp at hy; subst hy; subst z; exact q1 hx⟩)
              have hcat : (es.map fun p => D.tup [.str p.1, .int p.2.1]) ++ [D.tup [.str e, .int 0]] = (rks es e).map fun p => D.tup [.str p.1, .int p.2] := by unfold rks; rw [List.map_append, List.map_map]; rfl
              have hin' : (getK (sdct D.int (rks es e)) (.inr s)).isSome = (decide (s = e) || decide (s ∈ es.map (·.1))) := by
                rw [getK_in, hrk, Bool.eq_iff_iff]; simp [or_comm]
              rw [hT]
              unfold comesE
              rw [htx, q2, decide_eq_false q1, Bool.not_false, Bool.true_and, Bool.true_and, Bool.true_and]
              rw [hρ0] at c2 c3 c4 c5
              have hlen5 : es.length + 1 ≤ 16777216 := by omega
              cases q3 : (decide (s = e) || decide (s ∈ es.map (·.1))) with
              | false =>
                rw [q3] at hin'
                simp [f__law_accepts, runDef, p__law_accepts, dd, sf, t1, h1, t2, h2, hl2, c2, c3, n1, c4, c5, hlen5, hcat, hdict, hin', -o_toDictxT, -o_toDictxL]
              | true =>
                rw [q3] at hin'
                rw [Bool.true_and]
                have hall := loop_all (b := (bSeq 3 (bCons (bName 7) (bCons (bName 16) (bCons (bName 17) (bNil)))))) (s := l__law_accepts_1) entT
                  (fun ρ => ∃ c6 x7 x8 x16 x17 x18, (c6 = .own (.lst (g.arcs.map Arc.d)) ∨ c6 = .ro (.lst (g.arcs.map Arc.d))) ∧ ρ = [some (.ro g.d), some (.ro (wdD ws)), some (.ro (.str s)), some (.ro (.str e)), some (.ro (.tup [.str "comes", .tup ds])), some (.own (.dct (sdct D.int ws))), some c6, x7, x8, none, none, none, none, none, none, some (.own (.dct (sdct D.int (rks es e)))), x16, x17, x18]) (fun p => leadsB g ws (rks es e) p.1 p.2.1 p.2.2) (.ro (.bl false)) (xs := es)
                  (ρ0 := [some (.ro g.d), some (.ro (wdD ws)), some (.ro (.str s)), some (.ro (.str e)), some (.ro (.tup [.str "comes", .tup ds])), some (.own (.dct (sdct D.int ws))), some (.own (.lst (g.arcs.map Arc.d))), none, none, none, none, none, none, none, none, some (.own (.dct (sdct D.int (rks es e)))), none, none, none]) ⟨_, none, none, none, none, none, .inl rfl, rfl⟩ (by
                    rintro ⟨v, k, c⟩ hp ρ ⟨c6, x7, x8, x16, x17, x18, hc6, rfl⟩
                    dsimp only
                    have hsm := hds (entT (v, k, c)) (by rw [hde]; exact List.mem_map.mpr ⟨_, hp, rfl⟩)
                    obtain ⟨_, hsm⟩ := sm_tup.mp hsm
                    have hsc : D.sm 1000 18 c = true := hsm c (by simp)
                    have hv : v ∈ g.nodes := hin _ (by rw [← hef]; exact List.mem_map.mpr ⟨_, hp, rfl⟩)
                    obtain ⟨b, hb, hev⟩ := wt v hv
                    have ho := outA_len g v
                    have h8 : (outA g.arcs v).length ≤ 16777216 := by omega
                    have c8 := loopC_encF (vs := [9, 10, 11, 12]) (b := kb__law_accepts_6) (q := kq__law_accepts_6) (p := kp__law_accepts_6) Arc.d (fun a => decide (a.s = v)) Arc.ts (ρ := [some (.ro g.d), some (.ro (wdD ws)), some (.ro (.str s)), some (.ro (.str e)), some (.ro (.tup [.str "comes", .tup ds])), some (.own (.dct (sdct D.int ws))), some (.ro (.lst (g.arcs.map Arc.d))), some (.ro (.str v)), x8, none, none, none, none, none, none, some (.own (.dct (sdct D.int (rks es e)))), some (.ro (.int k)), some (.ro c), x18]) (xs := g.arcs) (by
                      intro a _
                      by_cases h : a.s = v <;> simp [bodyC, kb__law_accepts_6, kq__law_accepts_6, kp__law_accepts_6, Arc.d, Arc.ts, h])
                    have e0 : (g.arcs.filter fun a => decide (a.s = v)) = outA g.arcs v := rfl
                    rw [e0] at c8
                    have c9 := loopC_encF (vs := [10, 12]) (b := kb__law_accepts_7) (q := kq__law_accepts_7) (p := kp__law_accepts_7) Arc.ts (isLow (rks es e) k) (fun a => stp a.name a.fwd) (ρ := [some (.ro g.d), some (.ro (wdD ws)), some (.ro (.str s)), some (.ro (.str e)), some (.ro (.tup [.str "comes", .tup ds])), some (.own (.dct (sdct D.int ws))), some (.ro (.lst (g.arcs.map Arc.d))), some (.ro (.str v)), some (.ro (.lst ((outA g.arcs v).map Arc.ts))), none, none, none, none, none, none, some (.own (.dct (sdct D.int (rks es e)))), some (.ro (.int k)), some (.ro c), x18]) (xs := outA g.arcs v) (by
                      intro a _
                      cases h : (rks es e).lookup a.t with
                      | none => simp [bodyC, kb__law_accepts_7, kq__law_accepts_7, kp__law_accepts_7, Arc.ts, getK_s, isLow, h]
                      | some r => by_cases hr : r < k <;> simp [bodyC, kb__law_accepts_7, kq__law_accepts_7, kp__law_accepts_7, Arc.ts, getK_s, isLow, h, hr])
                    have e1 : (outA g.arcs v).filter (isLow (rks es e) k) = lowA g.arcs (rks es e) v k := rfl
                    rw [e1] at c9
                    have hle : (lowA g.arcs (rks es e) v k).length ≤ (outA g.arcs v).length := List.length_filter_le _ _
                    obtain ⟨L, hL⟩ : ∃ L, L = lowA g.arcs (rks es e) v k := ⟨_, rfl⟩
                    obtain ⟨O, hO⟩ : ∃ O, O = outA g.arcs v := ⟨_, rfl⟩
                    have h8L : L.length ≤ 16777216 := by rw [hL]; omega
                    have c10 := loopC_encF (vs := [12]) (b := kb__law_accepts_8) (q := kq__law_accepts_8) (p := kp__law_accepts_8) (fun a : Arc => stp a.name a.fwd) (fun a => isStp c a.name a.fwd) (fun a => stp a.name a.fwd) (ρ := [some (.ro g.d), some (.ro (wdD ws)), some (.ro (.str s)), some (.ro (.str e)), some (.ro (.tup [.str "comes", .tup ds])), some (.own (.dct (sdct D.int ws))), some (.ro (.lst (g.arcs.map Arc.d))), some (.ro (.str v)), some (.ro (.lst (O.map Arc.ts))), none, none, none, none, none, none, some (.own (.dct (sdct D.int (rks es e)))), some (.ro (.int k)), some (.ro c), some (.ro (.lst (L.map fun a => stp a.name a.fwd)))]) (xs := L) (by
                      intro a _
                      have := same_stp (n := 10) c hsc a.name a.fwd
                      cases hq : isStp c a.name a.fwd <;> simp [bodyC, kb__law_accepts_8, kq__law_accepts_8, kp__law_accepts_8, this, hq])
                    rw [← hL, ← hO] at c9
                    rw [← hO] at c8
                    rw [← hL, ← hO] at hle
                    rw [← hO] at h8
                    have hsk : ∀ (n : Str) (b : Bool), D.okd 49 (stp n b) = true := fun n b => by simp [stp]
                    have hts : ∀ a : Arc, D.okd 49 a.ts = true := fun a => by simp [Arc.ts, stp]
                    have hst : ∀ l : List Arc, D.okdL 49 (l.map fun a => stp a.name a.fwd) = true := fun l => by simp [stp]
                    have hso : ∀ l : List Arc, D.okdL 49 (l.map Arc.ts) = true := fun l => by simp [Arc.ts, stp]
                    have hT : leadsB g ws (rks es e) v k c = if evn ws v = true then !(L.filter fun a => isStp c a.name a.fwd).isEmpty else c.isN && (decide (L.length = O.length) && decide (0 < O.length)) := by
                      rw [← isOf_stp, hL, hO]; rfl
                    have hlt : ((L.length : Nat) : Int) < O.length ↔ ¬ L.length = O.length := by omega
                    have body : ∃ R : Dn.Env, ((bSeq 3 (bCons (bName 7) (bCons (bName 16) (bCons (bName 17) (bNil))))) (entT (v, k, c)) [some (.ro g.d), some (.ro (wdD ws)), some (.ro (.str s)), some (.ro (.str e)), some (.ro (.tup [.str "comes", .tup ds])), some (.own (.dct (sdct D.int ws))), some c6, x7, x8, none, none, none, none, none, none, some (.own (.dct (sdct D.int (rks es e)))), x16, x17, x18]).bind (fun ρ1 => l__law_accepts_1 ρ1) = some (if leadsB g ws (rks es e) v k c = true then .nx R else .rt (.ro (.bl false)) R) ∧ ∃ c6 x7 x8 x16 x17 x18, (c6 = .own (.lst (g.arcs.map Arc.d)) ∨ c6 = .ro (.lst (g.arcs.map Arc.d))) ∧ R = [some (.ro g.d), some (.ro (wdD ws)), some (.ro (.str s)), some (.ro (.str e)), some (.ro (.tup [.str "comes", .tup ds])), some (.own (.dct (sdct D.int ws))), some c6, x7, x8, none, none, none, none, none, none, some (.own (.dct (sdct D.int (rks es e)))), x16, x17, x18] := by
                      rw [hT, hev]
                      by_cases hb2 : b % 2 = 0
                      · refine ⟨[some (.ro g.d), some (.ro (wdD ws)), some (.ro (.str s)), some (.ro (.str e)), some (.ro (.tup [.str "comes", .tup ds])), some (.own (.dct (sdct D.int ws))), some (.ro (.lst (g.arcs.map Arc.d))), some (.ro (.str v)), some (.ro (.lst (O.map Arc.ts))), none, none, none, none, none, none, some (.own (.dct (sdct D.int (rks es e)))), some (.ro (.int k)), some (.ro c), some (.ro (.lst (L.map fun a => stp a.name a.fwd)))], ?_, _, _, _, _, _, _, .inr rfl, rfl⟩
                        cases hF : L.filter fun a => isStp c a.name a.fwd with
                        | nil =>
                          rw [hF] at c10
                          simp only [List.map_nil] at c10
                          rcases hc6 with rfl | rfl <;> simp [l__law_accepts_1, entT, ha1, c8, h8, c9, h8L, c10, getK_s, hb, hb2]
                        | cons a r =>
                          rw [hF] at c10
                          simp only [List.map_cons] at c10
                          have hr := hst r
                          rcases hc6 with rfl | rfl <;> simp [l__law_accepts_1, entT, ha1, c8, h8, c9, h8L, c10, getK_s, hb, hb2, hsk]
                      · have hb3 : b % 2 = 1 := by omega
                        refine ⟨[some (.ro g.d), some (.ro (wdD ws)), some (.ro (.str s)), some (.ro (.str e)), some (.ro (.tup [.str "comes", .tup ds])), some (.own (.dct (sdct D.int ws))), some (.ro (.lst (g.arcs.map Arc.d))), some (.ro (.str v)), some (.ro (.lst (O.map Arc.ts))), none, none, none, none, none, none, some (.own (.dct (sdct D.int (rks es e)))), some (.ro (.int k)), some (.ro c), some (.own (.lst (L.map fun a => stp a.name a.fwd)))], ?_, _, _, _, _, _, _, .inr rfl, rfl⟩
                        cases hn : c.isN with
                        | false => rcases hc6 with rfl | rfl <;> simp [l__law_accepts_1, entT, ha1, c8, h8, c9, getK_s, hb, hb3, hn]
                        | true =>
                          by_cases hq : L.length = O.length
                          · cases O with
                            | nil => simp only [List.map_nil] at c8 c9; rcases hc6 with rfl | rfl <;> simp [l__law_accepts_1, entT, ha1, c8, c9, getK_s, hb, hb3, hn, hq]
                            | cons a r =>
                              have h9 : r.length + 1 ≤ 16777216 := h8
                              have hr := hso r
                              simp only [List.map_cons] at c8 c9
                              have hq3 : ¬ (((L.length : Nat) : Int) < (r.length : Int) + 1) := by simp only [List.length_cons] at hq; omega
                              rcases hc6 with rfl | rfl <;> simp [l__law_accepts_1, entT, ha1, c8, h9, c9, getK_s, hb, hb3, hn, hq, hq3, hts]
                          · have hq2 := hlt.mpr hq
                            cases O with
                            | nil => exact absurd (Nat.le_antisymm hle (Nat.zero_le _)) hq
                            | cons a r =>
                              have h9 : r.length + 1 ≤ 16777216 := h8
                              have hr := hso r
                              simp only [List.map_cons] at c8 c9
                              have hq3 : (((L.length : Nat) : Int) < (r.length : Int) + 1) := by simp only [List.length_cons] at hq hq2; omega
                              have hq4 : ¬ L.length = r.length + 1 := by simpa using hq
                              rcases hc6 with rfl | rfl <;> simp [l__law_accepts_1, entT, ha1, c8, h9, c9, getK_s, hb, hb3, hn, hq, hq3, hq4, hts]
                    obtain ⟨R, hbody, hR⟩ := body
                    rw [hbody]
                    refine ⟨fun h => ⟨R, by rw [if_pos h], hR⟩, fun h => ⟨R, by rw [if_neg (by rw [h]; decide)]⟩⟩)
                rw [← hde] at hall
                rcases hall with ⟨ha, ρ', el, hI⟩ | ⟨ha, ρ', el⟩
                · rw [ha]
                  simp [f__law_accepts, runDef, p__law_accepts, dd, sf, t1, h1, t2, h2, hl2, c2, c3, n1, c4, c5, hlen5, hcat, hdict, hin', el, -o_toDictxT, -o_toDictxL]
                · rw [ha]
                  simp [f__law_accepts, runDef, p__law_accepts, dd, sf, t1, h1, t2, h2, hl2, c2, c3, n1, c4, c5, hlen5, hcat, hdict, hin', el, -o_toDictxT, -o_toDictxL]
            · obtain ⟨a, r, hr, hok1, hok2⟩ := cons_ok _ hbad
              rw [hr] at c4
              have hT : comesB g ws s e (.tup ds) = false := by
                cases hes : ents ds with
                | none => exact comes_none hes
                | some es =>
                  have hde := ents_eq hes
                  have : comesB g ws s e (.tup ds) = comesE g ws s e es := by rw [hde, comes_ents]
                  rw [this]
                  obtain ⟨p, hp, hpa⟩ : ∃ p ∈ es, entT p = a := by
                    have : a ∈ ds := (List.mem_filter.mp (by rw [hr]; simp : a ∈ ds.filter (badD e))).1
                    rw [hde] at this
                    obtain ⟨p, hp, h⟩ := List.mem_map.mp this
                    exact ⟨p, hp, h⟩
                  have hb : badD e (entT p) = true := by rw [hpa]; exact (List.mem_filter.mp (by rw [hr]; simp : a ∈ ds.filter (badD e))).2
                  simp [badD, entT] at hb
                  unfold comesE
                  rcases hb with hb | hb
                  · have : (es.all fun p => decide (1 ≤ p.2.1)) = false := by
                      rw [List.all_eq_false]; exact ⟨p, hp, by simp; omega⟩
                    rw [this]; simp
                  · have : decide (e ∈ es.map (·.1)) = true := decide_eq_true (List.mem_map.mpr ⟨p, hp, hb⟩)
                    rw [this]; simp
              rw [hT]
              rw [hρ0] at c2 c3 c4
              simp [f__law_accepts, runDef, p__law_accepts, dd, sf, t1, h1, t2, h2, hl2, c2, c3, n1, c4, hok1, hok2, -o_toDictxT]
        · obtain ⟨d, hd, hdn⟩ : ∃ d ∈ ds, isTri d = false := by
            apply Classical.byContradiction
            intro z
            exact htr fun d hd => by
              cases h : isTri d with
              | true => rfl
              | false => exact absurd ⟨d, hd, h⟩ z
          have hT : comesB g ws s e (.tup ds) = false := comes_none (ents_none ⟨d, hd, tri_rk hdn⟩)
          have hne : (ds.filter fun d => !isTri d) ≠ [] := by
            intro z; rw [List.filter_eq_nil_iff] at z
            exact z d hd (by rw [hdn]; rfl)
          obtain ⟨a, r, hr, hok1, hok2⟩ := cons_ok _ hne
          rw [hr] at c2
          rw [hT]
          rw [hρ0] at c2
          simp [f__law_accepts, runDef, p__law_accepts, dd, sf, t1, h1, t2, h2, hl2, c2, hok1, hok2, -o_toDictxT]
      · rw [comes_no hno]
        simp [f__law_accepts, runDef, p__law_accepts, dd, sf, t1, h1, t2, h2, hm, hm2, -o_toDictxT]
end Pl



namespace Pl
open PySem L2 Dn Mir
def Lw (es : List Ent) (e : Str) (k : Int) (t : Str) : Prop := t = e ∨ ∃ q ∈ es, q.1 = t ∧ q.2.1 < k
def Lead (g : Gr) (ws : Ws) (es : List Ent) (e : Str) (p : Ent) : Prop := if evn ws p.1 = true then ∃ a ∈ outA g.arcs p.1, p.2.2 = stp a.name a.fwd ∧ Lw es e p.2.1 a.t else p.2.2 = .non ∧ outA g.arcs p.1 ≠ [] ∧ ∀ a ∈ outA g.arcs p.1, Lw es e p.2.1 a.t
structure EOk (g : Gr) (ws : Ws) (e : Str) (es : List Ent) : Prop where
  nd : (es.map fun p => p.1).Nodup
  ne : e ∉ es.map fun p => p.1
  sub : ∀ p ∈ es, p.1 ∈ g.nodes
  rk : ∀ p ∈ es, 1 ≤ p.2.1 ∧ p.2.1 ≤ es.length
  lead : ∀ p ∈ es, Lead g ws es e p
theorem Lw.mono {es es' : List Ent} {e t : Str} {k : Int} (h : Lw es e k t) (hs : ∀ q ∈ es, q ∈ es') : Lw es' e k t := by
  rcases h with h | ⟨q, hq, h⟩
  · exact .inl h
  · exact .inr ⟨q, hs q hq, h⟩
theorem Lead.mono {g : Gr} {ws : Ws} {es es' : List Ent} {e : Str} {p : Ent} (h : Lead g ws es e p) (hs : ∀ q ∈ es, q ∈ es') : Lead g ws es' e p := by
  unfold Lead at h ⊢
  split at h
  · obtain ⟨a, h1, h2, h3⟩ := h
    rename_i hq
    rw [if_pos hq]; exact ⟨a, h1, h2, h3.mono hs⟩
  · rename_i hq
    rw [if_neg hq]; exact ⟨h.1, h.2.1, fun a ha => (h.2.2 a ha).mono hs⟩
theorem low_of {es : List Ent} {e : Str} {k : Int} {a : Arc} (hn : (es.map fun p => p.1).Nodup) (he : e ∉ es.map fun p => p.1) (hk : 1 ≤ k) (h : Lw es e k a.t) : isLow (rks es e) k a = true := by
  have hrk : (rks es e).map (·.1) = es.map (·.1) ++ [e] := by unfold rks; rw [List.map_append, List.map_map]; rfl
  have hnd : ((rks es e).map (·.1)).Nodup := by
    rw [hrk, List.nodup_append]
    exact ⟨hn, by simp, fun x hx y hy z => by simp at hy; subst hy; subst z; exact he hx⟩
  unfold isLow
  rcases h with h | ⟨q, hq, h1, h2⟩
  · have hm : (e, (0 : Int)) ∈ rks es e := by unfold rks; simp
    have := lookup_of hnd hm
    rw [h, this]; simp; omega
  · have hm : (q.1, q.2.1) ∈ rks es e := by unfold rks; exact List.mem_append_left _ (List.mem_map.mpr ⟨q, hq, rfl⟩)
    have := lookup_of hnd hm
    rw [← h1, this]; simpa using h2
theorem leads_of {g : Gr} {ws : Ws} {e : Str} {es : List Ent} (h : EOk g ws e es) {p : Ent} (hp : p ∈ es) : leadsB g ws (rks es e) p.1 p.2.1 p.2.2 = true := by
  have hl := h.lead p hp
  have hk := (h.rk p hp).1
  unfold Lead at hl
  unfold leadsB
  by_cases hq : evn ws p.1 = true
  · rw [if_pos hq] at hl ⊢
    obtain ⟨a, h1, h2, h3⟩ := hl
    rw [h2]
    have : a ∈ lowA g.arcs (rks es e) p.1 p.2.1 := List.mem_filter.mpr ⟨h1, low_of h.nd h.ne hk h3⟩
    simp only [isOf, isStepD, stp, decide_eq_true_eq]
    exact List.mem_map.mpr ⟨a, this, rfl⟩
  · rw [if_neg hq] at hl ⊢
    obtain ⟨h1, h2, h3⟩ := hl
    have hall : lowA g.arcs (rks es e) p.1 p.2.1 = outA g.arcs p.1 := List.filter_eq_self.mpr fun a ha => low_of h.nd h.ne hk (h3 a ha)
    rw [h1, hall]
    have : 0 < (outA g.arcs p.1).length := List.length_pos_iff.mpr h2
    simp [this, D.isN]
/-! the turns -/
def gd (as : List Arc) (K : List Str) (v : Str) : List Arc := (outA as v).filter fun a => decide (a.t ∈ K)
def cnd (g : Gr) (ws : Ws) (K : List Str) (v : Str) : Bool := !decide (v ∈ K) && (!(gd g.arcs K v).isEmpty && (evn ws v || decide ((gd g.arcs K v).length = (outA g.arcs v).length)))
def pick (g : Gr) (ws : Ws) (K : List Str) (v : Str) : D := if evn ws v = true then (match gd g.arcs K v with | a :: _ => stp a.name a.fwd | [] => .non) else .non
def addE (g : Gr) (ws : Ws) (K : List Str) : Nat → List Str → List Ent
  | _, [] => []
  | n, v :: r => (v, ((n : Nat) : Int) + 1, pick g ws K v) :: addE g ws K (n + 1) r
theorem addE_snoc (g : Gr) (ws : Ws) (K : List Str) : ∀ (n : Nat) (pre : List Str) (v : Str), addE g ws K n (pre ++ [v]) = addE g ws K n pre ++ [(v, ((n + pre.length : Nat) : Int) + 1, pick g ws K v)]
  | n, [], v => by simp [addE]
  | n, u :: pre, v => by
    rw [List.cons_append, addE, addE_snoc g ws K (n + 1) pre v, addE, List.cons_append, List.length_cons]
    have : n + 1 + pre.length = n + (pre.length + 1) := by omega
    rw [this]
theorem addE_len (g : Gr) (ws : Ws) (K : List Str) : ∀ (n : Nat) (l : List Str), (addE g ws K n l).length = l.length
  | _, [] => rfl
  | n, v :: l => by simp [addE, addE_len g ws K (n + 1) l]
theorem addE_fst (g : Gr) (ws : Ws) (K : List Str) : ∀ (n : Nat) (l : List Str), (addE g ws K n l).map (fun p => p.1) = l
  | _, [] => rfl
  | n, v :: l => by simp [addE, addE_fst g ws K (n + 1) l]
theorem addE_mem (g : Gr) (ws : Ws) (K : List Str) : ∀ (n : Nat) (l : List Str) (p : Ent), p ∈ addE g ws K n l → p.1 ∈ l ∧ (n : Int) + 1 ≤ p.2.1 ∧ p.2.1 ≤ (n + l.length : Nat) ∧ p.2.2 = pick g ws K p.1
  | _, [], p, h => by cases h
  | n, v :: l, p, h => by
    rcases List.mem_cons.mp h with rfl | h
    · exact ⟨by simp, by simp, by simp; omega, rfl⟩
    · obtain ⟨h1, h2, h3, h4⟩ := addE_mem g ws K (n + 1) l p h
      exact ⟨List.mem_cons_of_mem _ h1, by omega, by simp only [List.length_cons]; omega, h4⟩
theorem eok_add {g : Gr} (hg : g.Ok) {ws : Ws} {e : Str} {es : List Ent} {K : List Str} (h : EOk g ws e es) (hK : ∀ v, v ∈ K ↔ v = e ∨ v ∈ es.map fun p => p.1) : EOk g ws e (es ++ addE g ws K es.length (g.nodes.filter (cnd g ws K))) := by
  have hcn : ∀ v ∈ g.nodes.filter (cnd g ws K), v ∈ g.nodes ∧ v ∉ K ∧ gd g.arcs K v ≠ [] ∧ (evn ws v = true ∨ (gd g.arcs K v).length = (outA g.arcs v).length) := fun v hv => by
    obtain ⟨h1, h2⟩ := List.mem_filter.mp hv
    simp only [cnd, Bool.and_eq_true, Bool.not_eq_true', decide_eq_false_iff_not, Bool.or_eq_true, decide_eq_true_eq, List.isEmpty_eq_false_iff] at h2
    exact ⟨h1, h2.1, h2.2.1, h2.2.2⟩
  refine ⟨?_, ?_, fun p hp => ?_, fun p hp => ?_, fun p hp => ?_⟩
  · rw [List.map_append, addE_fst, List.nodup_append]
    refine ⟨h.nd, hg.nd.sublist List.filter_sublist, fun x hx y hy z => ?_⟩
    subst z
    exact (hcn x hy).2.1 ((hK x).mpr (.inr hx))
  · rw [List.map_append, addE_fst, List.mem_append]
    rintro (z | z)
    · exact h.ne z
    · exact (hcn e z).2.1 ((hK e).mpr (.inl rfl))
  · rcases List.mem_append.mp hp with hp | hp
    · exact h.sub p hp
    · exact (hcn _ (addE_mem g ws K _ _ p hp).1).1
  · rw [List.length_append, addE_len]
    rcases List.mem_append.mp hp with hp | hp
    · have := h.rk p hp; omega
    · obtain ⟨_, h2, h3, _⟩ := addE_mem g ws K _ _ p hp; omega
  · rcases List.mem_append.mp hp with hp | hp
    · exact (h.lead p hp).mono fun q hq => List.mem_append_left _ hq
    · obtain ⟨h1, h2, _, h4⟩ := addE_mem g ws K _ _ p hp
      obtain ⟨_, _, c2, c3⟩ := hcn _ h1
      have low : ∀ t, t ∈ K → Lw (es ++ addE g ws K es.length (g.nodes.filter (cnd g ws K))) e p.2.1 t := fun t ht => by
        rcases (hK t).mp ht with z | z
        · exact .inl z
        · obtain ⟨q, hq, hq1⟩ := List.mem_map.mp z
          exact .inr ⟨q, List.mem_append_left _ hq, hq1, by have := h.rk q hq; omega⟩
      unfold Lead
      by_cases hq : evn ws p.1 = true
      · rw [if_pos hq]
        obtain ⟨a, r, har⟩ := List.exists_cons_of_ne_nil c2
        have ha : a ∈ gd g.arcs K p.1 := by rw [har]; simp
        obtain ⟨ha1, ha2⟩ := List.mem_filter.mp ha
        exact ⟨a, ha1, by rw [h4]; unfold pick; rw [if_pos hq, har], low _ (of_decide_eq_true ha2)⟩
      · rw [if_neg hq]
        have hl := c3.resolve_left hq
        have hall : ∀ a ∈ outA g.arcs p.1, decide (a.t ∈ K) = true := List.length_filter_eq_length_iff.mp hl
        refine ⟨by rw [h4]; unfold pick; rw [if_neg hq], fun z => c2 (by unfold gd; rw [z]; rfl), fun a ha => low _ (of_decide_eq_true (hall a ha))⟩
end Pl



namespace Pl
open PySem L2 Dn Mir
def idD (d : D) : D := d
abbrev stC (g : Gr) (ws : Ws) (s e : Str) (rs : Ws) (es : List Ent) (b : Bool) (x9 x10 x11 : Option C) : Dn.Env := [some (.ro g.d), some (.ro (wdD ws)), some (.ro (.str s)), some (.ro (.str e)), some (.own (.dct (sdct D.int ws))), some (.own (.dct (outsD g))), some (.own (.dct (sdct D.int rs))), some (.own (.lst (es.map entT))), some (.ro (.bl b)), x9, x10, x11, none, none]
theorem pass1 (g : Gr) (hg : g.Ok) (ws : Ws) (hw : ws.map (·.1) = g.nodes) (s e : Str) (rs : Ws) (es : List Ent) (b : Bool) (x10 x11 : Option C) : ∃ y10 y11, loopL (bName 10) l_coming_0 (g.nodes.map .str) (stC g ws s e rs es b (some (.own (.dct []))) x10 x11) = some (.nx (stC g ws s e rs es b (some (.own (.dct (sdct idD ((g.nodes.filter (cnd g ws (rs.map (·.1)))).map fun v => (v, pick g ws (rs.map (·.1)) v)))))) y10 y11)) := by
  have hfE := hg.fewE
  have hfN := hg.few
  have hal := garcs_len g
  obtain ⟨K, hK⟩ : ∃ K, K = rs.map (·.1) := ⟨_, rfl⟩
  rw [← hK]
  obtain ⟨ρ', el, y10, y11, rfl⟩ := loop_pre (b := bName 10) (s := l_coming_0) D.str
    (fun pre ρ => ∃ x10 x11, ρ = stC g ws s e rs es b (some (.own (.dct (sdct idD ((pre.filter (cnd g ws K)).map fun v => (v, pick g ws K v)))))) x10 x11) (xs := g.nodes)
    (ρ0 := stC g ws s e rs es b (some (.own (.dct []))) x10 x11) ⟨_, _, rfl⟩ (by
      rintro pre v post ρ hx ⟨x10, x11, rfl⟩
      have hv : v ∈ g.nodes := by rw [hx]; simp
      have ho := outA_len g v
      have h8 : (outA g.arcs v).length ≤ 16777216 := by omega
      have e1 := is_first_ok (ws := ws) (v := v) (by rw [hw]; exact hv)
      have hnew : v ∉ ((pre.filter (cnd g ws K)).map fun v => (v, pick g ws K v)).map (·.1) := by
        rw [List.map_map]
        intro z
        obtain ⟨u, hu, hu2⟩ := List.mem_map.mp z
        have hu2 : u = v := hu2
        subst hu2
        have := hg.nd
        rw [hx, List.nodup_append] at this
        exact this.2.2 u (List.mem_filter.mp hu).1 u (by simp) rfl
      have hlen : ((pre.filter (cnd g ws K)).map fun v => (v, pick g ws K v)).length < 16777216 := by
        rw [List.length_map]
        have h1 : (pre.filter (cnd g ws K)).length ≤ pre.length := List.length_filter_le _ _
        have h2 : pre.length ≤ g.nodes.length := by rw [hx]; simp
        omega
      obtain ⟨fr, hfr⟩ : ∃ fr, fr = (pre.filter (cnd g ws K)).map fun v => (v, pick g ws K v) := ⟨_, rfl⟩
      rw [← hfr] at hnew hlen
      have hputv : putD (sdct idD fr) (.inr v) (pick g ws K v) = sdct idD (fr ++ [(v, pick g ws K v)]) := putD_new (enc := idD) hnew
      have c := loopC_encF (vs := [12, 13]) (b := kb_coming_0) (q := kq_coming_0) (p := kp_coming_0) Arc.ts (fun a => decide (a.t ∈ K)) (fun a => stp a.name a.fwd) (ρ := stC g ws s e rs es b (some (.own (.dct (sdct idD fr)))) (some (.ro (.str v))) x11) (xs := outA g.arcs v) (by
        intro a _
        have hin : (getK (sdct D.int rs) (.inr a.t)).isSome = decide (a.t ∈ K) := by rw [getK_in, hK]
        by_cases h : a.t ∈ K
        · rw [decide_eq_true h] at hin; simp [bodyC, kb_coming_0, kq_coming_0, kp_coming_0, Arc.ts, hin, h]
        · rw [decide_eq_false h] at hin; simp [bodyC, kb_coming_0, kq_coming_0, kp_coming_0, Arc.ts, hin, h])
      have e0 : ((outA g.arcs v).filter fun a => decide (a.t ∈ K)) = gd g.arcs K v := rfl
      rw [e0] at c
      unfold stC at c
      rw [← hfr]
      have hfil : (pre ++ [v]).filter (cnd g ws K) = pre.filter (cnd g ws K) ++ if cnd g ws K v = true then [v] else [] := by
        rw [List.filter_append]; congr 1
        by_cases h : cnd g ws K v = true <;> simp [h]
      have hinv : (getK (sdct D.int rs) (.inr v)).isSome = decide (v ∈ K) := by rw [getK_in, hK]
      cases hc : cnd g ws K v with
      | false =>
        refine ⟨stC g ws s e rs es b (some (.own (.dct (sdct idD fr)))) (some (.ro (.str v))) (some (.own (.lst ((gd g.arcs K v).map fun a => stp a.name a.fwd)))), ?_, some (.ro (.str v)), some (.own (.lst ((gd g.arcs K v).map fun a => stp a.name a.fwd))), by rw [hfil, hc]; simp [hfr]⟩
        unfold cnd at hc
        by_cases hvK : v ∈ K
        · rw [decide_eq_true hvK] at hinv
          simp [l_coming_0, outs_get hv, h8, c, hinv]
        · rw [decide_eq_false hvK] at hinv
          rw [decide_eq_false hvK, Bool.not_false, Bool.true_and] at hc
          cases hgd : gd g.arcs K v with
          | nil =>
            rw [hgd] at c; simp only [List.map_nil] at c
            simp [l_coming_0, outs_get hv, h8, c, hinv]
          | cons a r =>
            rw [hgd] at hc c
            simp only [List.map_cons] at c
            simp at hc
            have hne : ¬ ((r.length : Int) + 1 = ((outA g.arcs v).length : Nat)) := by have := hc.2; omega
            simp [l_coming_0, outs_get hv, h8, c, hinv, e1, hc.1, hne]
      | true =>
        refine ⟨stC g ws s e rs es b (some (.own (.dct (sdct idD (fr ++ [(v, pick g ws K v)]))))) (some (.ro (.str v))) (some (.own (.lst ((gd g.arcs K v).map fun a => stp a.name a.fwd)))), ?_, some (.ro (.str v)), some (.own (.lst ((gd g.arcs K v).map fun a => stp a.name a.fwd))), by rw [hfil, hc]; simp [hfr]⟩
        unfold cnd at hc
        simp only [Bool.and_eq_true, Bool.not_eq_true', decide_eq_false_iff_not, Bool.or_eq_true, decide_eq_true_eq, List.isEmpty_eq_false_iff] at hc
        obtain ⟨h1, h2, h3⟩ := hc
        rw [decide_eq_false h1] at hinv
        obtain ⟨a, r, hgd⟩ := List.exists_cons_of_ne_nil h2
        unfold pick at hputv ⊢
        rw [hgd] at c hputv h3 ⊢
        simp only [List.map_cons] at c ⊢
        have himm : (stp a.name a.fwd).imm = true := by simp [stp]
        cases hev : evn ws v with
        | true =>
          rw [hev] at e1
          rw [hev, if_pos rfl] at hputv
          rw [if_pos rfl]
          simp [l_coming_0, outs_get hv, h8, c, hinv, e1, hlen, hputv]
        | false =>
          rw [hev] at e1
          rw [hev, if_neg Bool.false_ne_true] at hputv
          rw [if_neg Bool.false_ne_true]
          have h3 : r.length + 1 = (outA g.arcs v).length := by
            rcases h3 with h3 | h3
            · rw [hev] at h3; cases h3
            · simpa using h3
          have hne : ((r.length : Int) + 1 = ((outA g.arcs v).length : Nat)) := by omega
          simp [l_coming_0, outs_get hv, h8, c, hinv, e1, hlen, hputv, hne])
  exact ⟨y10, y11, el⟩
theorem pass2 (g : Gr) (hg : g.Ok) (ws : Ws) (s e : Str) (rs : Ws) (es : List Ent) (b : Bool) (K F : List Str) (hF : ∀ v ∈ F, v ∈ g.nodes) (hFl : F.length ≤ 10) (hes : es.length ≤ 10) (x10 x11 : Option C) : ∃ y10, loopL (bName 10) l_coming_1 (F.map .str) (stC g ws s e rs es b (some (.own (.dct (sdct idD (F.map fun v => (v, pick g ws K v)))))) x10 x11) = some (.nx (stC g ws s e rs (es ++ addE g ws K es.length F) b (some (.own (.dct (sdct idD (F.map fun v => (v, pick g ws K v)))))) y10 x11)) := by
  obtain ⟨ρ', el, y10, rfl⟩ := loop_pre (b := bName 10) (s := l_coming_1) D.str
    (fun pre ρ => ∃ x10, ρ = stC g ws s e rs (es ++ addE g ws K es.length pre) b (some (.own (.dct (sdct idD (F.map fun v => (v, pick g ws K v)))))) x10 x11) (xs := F)
    (ρ0 := stC g ws s e rs es b (some (.own (.dct (sdct idD (F.map fun v => (v, pick g ws K v)))))) x10 x11) ⟨x10, by simp [addE]⟩ (by
      rintro pre v post ρ hx ⟨x10, rfl⟩
      have hv : v ∈ F := by rw [hx]; simp
      have hlk : (F.map fun v => (v, pick g ws K v)).lookup v = some (pick g ws K v) := lookup_map (f := fun v => pick g ws K v) hv
      have hpl : pre.length ≤ F.length := by rw [hx]; simp
      have hlen : (es ++ addE g ws K es.length pre).length = es.length + pre.length := by rw [List.length_append, addE_len]
      have hlt : es.length + pre.length < 16777216 := by omega
      have hlt2 : es.length + (addE g ws K es.length pre).length < 16777216 := by rw [addE_len]; exact hlt
      refine ⟨stC g ws s e rs (es ++ addE g ws K es.length (pre ++ [v])) b (some (.own (.dct (sdct idD (F.map fun v => (v, pick g ws K v)))))) (some (.ro (.str v))) x11, ?_, some (.ro (.str v)), rfl⟩
      rw [addE_snoc]
      simp [l_coming_1, getK_s, hlk, idD, addE_len, hlt, entT])
  exact ⟨y10, el⟩
end Pl



namespace Pl
open PySem L2 Dn Mir
theorem turn_ok (g : Gr) (hg : g.Ok) (ws : Ws) (hw : ws.map (·.1) = g.nodes) (s e : Str) (rs : Ws) (es : List Ent) (hes : es.length ≤ 10) (hrs : rs.length ≤ 20) (hKn : (rs.map (·.1)).Nodup) (x9 x10 x11 : Option C) (E : Int) (F : List Str) (hE : E = ((es.length + F.length : Nat) : Int)) (hF : F = g.nodes.filter (cnd g ws (rs.map (·.1)))) : ∃ y9 y10 y11, l_coming_2 (stC g ws s e rs es true x9 x10 x11) = some (.nx (stC g ws s e (rs ++ F.map fun v => (v, E)) (es ++ addE g ws (rs.map (·.1)) es.length F) (decide (0 < F.length)) y9 y10 y11)) := by
  have hfN := hg.few
  have hN : g.nodes.length ≤ 16777216 := by omega
  obtain ⟨K, hK⟩ : ∃ K, K = rs.map (·.1) := ⟨_, rfl⟩
  obtain ⟨y10, y11, e1⟩ := pass1 g hg ws hw s e rs es true x10 x11
  rw [← hF, ← hK] at e1
  have hFs : F.Pairwise fun x y => DnS.leS x y = true := by rw [hF]; exact hg.sorted.sublist List.filter_sublist
  have hFn : F.Nodup := by rw [hF]; exact hg.nd.sublist List.filter_sublist
  have hFm : ∀ v ∈ F, v ∈ g.nodes := fun v hv => by rw [hF] at hv; exact (List.mem_filter.mp hv).1
  have hFK : ∀ v ∈ F, v ∉ K := fun v hv => by
    rw [hF] at hv
    have := (List.mem_filter.mp hv).2
    simp only [cnd, Bool.and_eq_true, Bool.not_eq_true', decide_eq_false_iff_not] at this
    rw [hK]; exact this.1
  have hFl : F.length ≤ 10 := by rw [hF]; exact Nat.le_trans (List.length_filter_le _ _) hfN
  obtain ⟨y10', e2⟩ := pass2 g hg ws s e rs es true K F hFm hFl hes y10 y11
  have e8 : f_nodes_of [g.d] = some (.own (.lst (g.nodes.map .str))) := by simp [f_nodes_of, runDef, p_nodes_of]
  obtain ⟨fr, hfr⟩ : ∃ fr, fr = F.map fun v => (v, pick g ws K v) := ⟨_, rfl⟩
  rw [← hfr] at e1 e2
  have hfk : fr.map (·.1) = F := by rw [hfr, List.map_map]; exact (List.map_congr_left fun _ _ => rfl).trans (List.map_id _)
  have hsrt : D.srt [.dct (sdct idD fr)] = some (.own (.lst (F.map .str))) := by
    rw [o_srtD (enc := idD) (fs := fr) _ rfl, hfk, sort_sorted hFs]
  obtain ⟨es', hes'⟩ : ∃ es', es' = es ++ addE g ws K es.length F := ⟨_, rfl⟩
  have hel : es'.length = es.length + F.length := by rw [hes', List.length_append, addE_len]
  rw [← hes'] at e2
  have hke : (sdct idD fr).map (fun q => keyD q.1) = F.map .str := by rw [← hfk]; simp [sdct, keyD]
  have c := textDict_comp (vs := [10]) (b := kb_coming_1) (pk := kk_coming_1) (pv := kp_coming_1) (ρ := stC g ws s e rs es' true (some (.ro (.fdc (sdct idD fr)))) none y11) (xs := F) D.str (fun v => v) (fun _ => E) D.int (by omega) (by simpa using hFn) (by
    intro v _
    have : (es'.map entT).length = es.length + F.length := by rw [List.length_map, hel]
    have h2 : (es'.length : Int) = E := by rw [hE, hel]
    simp [bodyK, kb_coming_1, kk_coming_1, kp_coming_1, h2])
  unfold stC at c
  have hmg : mergeD (sdct D.int rs) (sdct D.int (F.map fun v => (v, E))) = sdct D.int (rs ++ F.map fun v => (v, E)) := by
    refine mergeD_new (by
      rw [List.map_append, List.nodup_append]
      have hk2 : (F.map fun v => (v, E)).map (·.1) = F := by rw [List.map_map]; exact (List.map_congr_left fun _ _ => rfl).trans (List.map_id _)
      rw [hk2]
      exact ⟨hKn, hFn, fun x hx y hy z => by subst z; exact hFK x hy (by rw [hK]; exact hx)⟩)
  rw [← hK, ← hes']
  have hl1 : (sdct D.int rs).length = rs.length := by simp [sdct]
  have hl2 : (sdct D.int (F.map fun v => (v, E))).length = F.length := by simp [sdct]
  have hl3 : rs.length + F.length ≤ 16777216 := by omega
  have hl4 : (sdct idD fr).length = F.length := by rw [hfr]; simp [sdct]
  have hl5 : F.length ≤ 16777216 := by omega
  have hl6 : D.lenx [.fdc (sdct idD fr)] = some (.ro (.int F.length)) := by show some (C.ro (.int ((sdct idD fr).length : Nat))) = _; rw [hl4]
  refine ⟨some (.ro (.fdc (sdct idD fr))), none, y11, ?_⟩
  unfold stC at e1 e2 ⊢
  simp [l_coming_2, e8, hN, e1, hsrt, hl5, e2, hke, c, hl1, hl2, hl3, hl4, hl6, hmg]
end Pl



namespace Pl
open PySem L2 Dn Mir
structure Wi (g : Gr) (ws : Ws) (e : Str) (rs : Ws) (es : List Ent) : Prop where
  ok : EOk g ws e es
  nd : (rs.map (·.1)).Nodup
  keys : ∀ v, v ∈ rs.map (·.1) ↔ v = e ∨ v ∈ es.map fun p => p.1
theorem Wi.len {g : Gr} (hg : g.Ok) {ws : Ws} {e : Str} {rs : Ws} {es : List Ent} (h : Wi g ws e rs es) : es.length ≤ 10 ∧ rs.length ≤ 11 := by
  have hf := hg.few
  have h1 := nodup_le h.ok.nd (m := g.nodes) fun v hv => by
    obtain ⟨p, hp, rfl⟩ := List.mem_map.mp hv; exact h.ok.sub p hp
  have h2 := nodup_le h.nd (m := e :: es.map fun p => p.1) fun v hv => by
    rcases (h.keys v).mp hv with z | z
    · exact z ▸ List.mem_cons_self ..
    · exact List.mem_cons_of_mem _ z
  simp only [List.length_map, List.length_cons] at h1 h2
  omega
theorem Wi.next {g : Gr} (hg : g.Ok) {ws : Ws} {e : Str} {rs : Ws} {es : List Ent} (h : Wi g ws e rs es) (E : Int) : Wi g ws e (rs ++ (g.nodes.filter (cnd g ws (rs.map (·.1)))).map fun v => (v, E)) (es ++ addE g ws (rs.map (·.1)) es.length (g.nodes.filter (cnd g ws (rs.map (·.1))))) := by
  obtain ⟨F, hF⟩ : ∃ F, F = g.nodes.filter (cnd g ws (rs.map (·.1))) := ⟨_, rfl⟩
  have hk2 : (F.map fun v => (v, E)).map (·.1) = F := by rw [List.map_map]; exact (List.map_congr_left fun _ _ => rfl).trans (List.map_id _)
  refine ⟨eok_add hg h.ok h.keys, ?_, fun v => ?_⟩
  · rw [← hF, List.map_append, hk2, List.nodup_append]
    refine ⟨h.nd, by rw [hF]; exact hg.nd.sublist List.filter_sublist, fun x hx y hy z => ?_⟩
    subst z
    rw [hF] at hy
    have := (List.mem_filter.mp hy).2
    simp only [cnd, Bool.and_eq_true, Bool.not_eq_true', decide_eq_false_iff_not] at this
    exact this.1 hx
  · rw [← hF, List.map_append, hk2, List.mem_append, h.keys v, List.map_append, addE_fst, List.mem_append, or_assoc]
theorem headsOk_es {g : Gr} {ws : Ws} {e : Str} {es : List Ent} (h : EOk g ws e es) (hl : es.length ≤ 10) : D.headsOk (es.map entT) = true := by
  have hc : ∀ p ∈ es, p.2.2 = .non ∨ ∃ n b, p.2.2 = stp n b := fun p hp => by
    have := h.lead p hp
    unfold Lead at this
    split at this
    · obtain ⟨a, _, h2, _⟩ := this; exact .inr ⟨_, _, h2⟩
    · exact .inl this.1
  have hpy : ∀ p ∈ es, (∃ c, D.py (entT p) = some (.tuple [.str p.1, .int p.2.1, c]) ∧ c.depth ≤ 2 ∧ PySem.W.alike c c = true) := fun p hp => by
    rcases hc p hp with q | ⟨n, b, q⟩
    · exact ⟨.none, by simp [entT, D.py, D.pyL, q], by simp [PyData.depth], rfl⟩
    · exact ⟨.tuple [.str n, .bool b], by simp [entT, D.py, D.pyL, q, stp], by simp [PyData.depth, PyData.depthAll], by simp [PySem.W.alike, PySem.W.alikeAll]⟩
  have hz : szOk (es.map entT).length = true := by rw [List.length_map]; simp [szOk]; omega
  unfold D.headsOk
  rw [hz, Bool.true_and, Bool.and_eq_true, List.all_eq_true, List.all_eq_true]
  refine ⟨fun d hd => ?_, fun d hd => ?_⟩
  · obtain ⟨p, hp, rfl⟩ := List.mem_map.mp hd
    obtain ⟨c, h1, h2, _⟩ := hpy p hp
    simp [D.pyD, h1, DnH.headT, PyData.depth, PyData.depthAll]
    omega
  · rw [List.all_eq_true]
    intro d' hd'
    obtain ⟨p, hp, rfl⟩ := List.mem_map.mp hd
    obtain ⟨p', hp', rfl⟩ := List.mem_map.mp hd'
    obtain ⟨c, h1, _, h3⟩ := hpy p hp
    obtain ⟨c', h1', _, _⟩ := hpy p' hp'
    by_cases hq : p.1 = p'.1
    · have := nodup_inj h.nd hp hp' hq
      subst this
      rw [h1] at h1'; cases h1'
      simp [D.pyD, h1, PySem.W.alike, PySem.W.alikeAll, h3]
    · simp [D.pyD, h1, h1', DnH.headT, hq]
end Pl



namespace Pl
open PySem L2 Dn Mir
theorem leS_refl (x : Str) : DnS.leS x x = true := by
  have := DnS.leS_total x x
  simpa using this
theorem leB_heads {g : Gr} {ws : Ws} {e : Str} {es : List Ent} (h : EOk g ws e es) {p q : Ent} (hp : p ∈ es) (hq : q ∈ es) (hl : D.leB (entT p) (entT q) = true) : DnS.leS p.1 q.1 = true := by
  have hc : ∀ p ∈ es, ∃ c, D.pyD (entT p) = .tuple [.str p.1, .int p.2.1, c] := fun p hp => by
    have := h.lead p hp
    unfold Lead at this
    split at this
    · obtain ⟨a, _, h2, _⟩ := this
      exact ⟨.tuple [.str a.name, .bool a.fwd], by simp [D.pyD, entT, D.py, D.pyL, h2, stp]⟩
    · exact ⟨.none, by simp [D.pyD, entT, D.py, D.pyL, this.1]⟩
  obtain ⟨c, h1⟩ := hc p hp
  obtain ⟨c', h2⟩ := hc q hq
  have hl : (!PySem.W.dataLt (D.pyD (entT q)) (D.pyD (entT p))) = true := hl
  rw [h1, h2, PySem.W.dataLt_tuple, PySem.W.dataLt_cons (by rfl), PySem.W.dataLt_str] at hl
  by_cases hpq : p.1 = q.1
  · rw [hpq]; exact leS_refl _
  · have : ¬ PyData.eqv (.str q.1) (.str p.1) = true := by
      have hqp : ¬ q.1 = p.1 := fun z => hpq z.symm
      simp [PyData.eqv, hqp]
    rw [if_neg this] at hl
    rw [DnS.leS_iff]
    simpa using hl
theorem sorted_es {g : Gr} {ws : Ws} {e : Str} {es : List Ent} (h : EOk g ws e es) : ∃ es2 : List Ent, (es.map entT).mergeSort D.leB = es2.map entT ∧ es2.Perm es ∧ (es2.map fun p => p.1).Pairwise fun x y => DnS.leS x y = true := by
  refine ⟨es.mergeSort fun p q => D.leB (entT p) (entT q), (List.map_mergeSort (r := fun p q => D.leB (entT p) (entT q)) (s := D.leB) (f := entT) (fun a _ b _ => rfl)).symm, List.mergeSort_perm _ _, ?_⟩
  have hs := leB_sorted (es.map entT)
  rw [← List.map_mergeSort (r := fun p q => D.leB (entT p) (entT q)) (s := D.leB) (f := entT) (fun a _ b _ => rfl), List.pairwise_map] at hs
  rw [List.pairwise_map]
  refine hs.imp_of_mem fun {a b} ha hb hab => leB_heads h ((List.mergeSort_perm _ _).mem_iff.mp ha) ((List.mergeSort_perm _ _).mem_iff.mp hb) hab
theorem EOk.perm {g : Gr} {ws : Ws} {e : Str} {es es2 : List Ent} (h : EOk g ws e es) (hp : es2.Perm es) : EOk g ws e es2 where
  nd := (hp.map _).nodup_iff.mpr h.nd
  ne := fun z => h.ne ((hp.map _).mem_iff.mp z)
  sub := fun p hq => h.sub p (hp.mem_iff.mp hq)
  rk := fun p hq => by rw [hp.length_eq]; exact h.rk p (hp.mem_iff.mp hq)
  lead := fun p hq => (h.lead p (hp.mem_iff.mp hq)).mono fun q hq => hp.mem_iff.mpr hq
theorem txt_sorted {known ss : List Str} (h : ∀ s ∈ ss, s ∈ known) (hn : ss.Nodup) (hs : ss.Pairwise fun x y => DnS.leS x y = true) : textsIn known (.tup (ss.map .str)) = true := by
  rw [textsIn_strs h]
  have := sortSet_sort hn
  rw [sort_sorted hs] at this
  exact decide_eq_true this.symm
--@ coming
theorem coming_ok (g : Gr) (ws : Ws) (s e : Str) (hg : g.Ok) (hw : ws.map (·.1) = g.nodes) (hs : s ∈ g.nodes) (he : e ∈ g.nodes) : ∃ x, f_coming [g.d, wdD ws, .str s, .str e] = some (.ro x) ∧ Told 100 3 x ∧ accB g ws s e x = true := by
  have hfN := hg.few
  have hN : g.nodes.length ≤ 16777216 := by omega
  have dd := wd_dict (ws := ws) (by rw [hw]; exact hg.nd)
  have sf := steps_from_ok g hg.wf
  have e8 : f_nodes_of [g.d] = some (.own (.lst (g.nodes.map .str))) := by simp [f_nodes_of, runDef, p_nodes_of]
  have w0 : Wi g ws e [(e, 0)] [] := ⟨⟨by simp, by simp, by simp, by simp, by simp⟩, by simp, by simp⟩
  obtain ⟨ρ', ew, rs, es, x9, x10, x11, rfl, hwi, hcl⟩ := while_ok (q := w_coming_0) (s := l_coming_2)
    (fun k ρ => ∃ rs es b x9 x10 x11, ρ = stC g ws s e rs es b x9 x10 x11 ∧ Wi g ws e rs es ∧ (b = true → k = 20 - es.length) ∧ (b = false → ∀ v ∈ g.nodes, cnd g ws (rs.map (·.1)) v = false))
    (fun ρ => ∃ rs es x9 x10 x11, ρ = stC g ws s e rs es false x9 x10 x11 ∧ Wi g ws e rs es ∧ ∀ v ∈ g.nodes, cnd g ws (rs.map (·.1)) v = false)
    (by
      rintro k ρ ⟨rs, es, b, x9, x10, x11, rfl, hwi, hk, hc⟩
      cases b with
      | false => exact .inl ⟨_, by simp [w_coming_0], rs, es, x9, x10, x11, rfl, hwi, hc rfl⟩
      | true =>
        obtain ⟨l1, l2⟩ := hwi.len hg
        obtain ⟨F, hF⟩ : ∃ F, F = g.nodes.filter (cnd g ws (rs.map (·.1))) := ⟨_, rfl⟩
        obtain ⟨y9, y10, y11, et⟩ := turn_ok g hg ws hw s e rs es l1 (by omega) hwi.nd x9 x10 x11 _ F rfl hF
        have hn := hwi.next hg ((es.length + F.length : Nat) : Int)
        rw [← hF] at hn
        obtain ⟨l3, _⟩ := hn.len hg
        rw [List.length_append, addE_len] at l3
        have hk := hk rfl
        by_cases h0 : 0 < F.length
        · refine .inr ⟨_, _, 20 - (es ++ addE g ws (rs.map (·.1)) es.length F).length, by simp [w_coming_0], et, ?_, _, _, _, _, _, _, rfl, hn, fun _ => rfl, fun z => ?_⟩
          · rw [List.length_append, addE_len]; omega
          · rw [decide_eq_true h0] at z; cases z
        · have hF0 : F = [] := List.eq_nil_of_length_eq_zero (by omega)
          refine .inr ⟨_, _, 0, by simp [w_coming_0], et, by omega, _, _, _, _, _, _, rfl, hn, fun z => ?_, fun _ v hv => ?_⟩
          · rw [decide_eq_false h0] at z; cases z
          · have hrs : (rs ++ F.map fun v => (v, ((es.length + F.length : Nat) : Int))).map (·.1) = rs.map (·.1) := by rw [hF0]; simp
            rw [hrs]
            cases hcv : cnd g ws (rs.map (·.1)) v with
            | false => rfl
            | true =>
              have : v ∈ F := by rw [hF]; exact List.mem_filter.mpr ⟨hv, hcv⟩
              rw [hF0] at this; cases this) (n := 20) (ρ0 := stC g ws s e [(e, 0)] [] true none none none) ⟨_, _, _, _, _, _, rfl, w0, fun _ => rfl, fun z => by cases z⟩ (by omega)
  obtain ⟨l1, l2⟩ := hwi.len hg
  have d0 : sdct D.int [(e, 0)] = [(.inr e, .int 0)] := rfl
  unfold stC at ew
  rw [d0] at ew
  simp only [List.map_nil] at ew
  have hins : (getK (sdct D.int rs) (.inr s)).isSome = decide (s ∈ rs.map (·.1)) := getK_in
  by_cases hsK : s ∈ rs.map (·.1)
  · rw [decide_eq_true hsK] at hins
    obtain ⟨es2, q1, q2, q3⟩ := sorted_es hwi.ok
    have hk2 := hwi.ok.perm q2
    have hsh : D.sortedH [.lst (es.map entT)] = some (.own (.lst (es2.map entT))) := by
      simp only [D.sortedH]
      rw [if_pos (headsOk_es hwi.ok l1), q1]
    have hl2 : es2.length ≤ 10 := by rw [q2.length_eq]; exact l1
    refine ⟨.tup [.str "comes", .tup (es2.map entT)], ?_, ⟨sm_tup.mpr ⟨by simp, ?_⟩, ?_, "comes", _, rfl⟩, ?_⟩
    · simp [f_coming, runDef, p_coming, dd, sf, ew, hins, hsh, -o_toDictxT]
    · intro x hx
      simp only [List.mem_cons, List.not_mem_nil, or_false] at hx
      rcases hx with rfl | rfl
      · exact sm_str
      · refine sm_tup.mpr ⟨by rw [List.length_map]; omega, fun d hd => ?_⟩
        obtain ⟨p, hp, rfl⟩ := List.mem_map.mp hd
        have hr := hk2.rk p hp
        have hc : D.sm 100 1 p.2.2 = true := by
          have := hk2.lead p hp
          unfold Lead at this
          split at this
          · obtain ⟨a, _, h2, _⟩ := this; rw [h2]; simp [stp, D.sm, D.smL]
          · rw [this.1]; rfl
        refine sm_tup.mpr ⟨by simp, fun x hx => ?_⟩
        simp only [List.mem_cons, List.not_mem_nil, or_false] at hx
        rcases hx with rfl | rfl | rfl
        · exact sm_str
        · simp [D.sm]; omega
        · exact hc
    · have hz : ∀ d ∈ es2.map entT, D.sz d ≤ 7 := by
        intro d hd
        obtain ⟨p, hp, rfl⟩ := List.mem_map.mp hd
        have hc : D.sz p.2.2 ≤ 3 := by
          have := hk2.lead p hp
          unfold Lead at this
          split at this
          · obtain ⟨a, _, h2, _⟩ := this; rw [h2]; simp [stp, D.sz, D.szL]
          · rw [this.1]; simp [D.sz]
        simp only [entT, D.sz, D.szL]; omega
      have hb : ∀ l : List D, (∀ d ∈ l, D.sz d ≤ 7) → D.szL l ≤ l.length * 7 := by
        intro l
        induction l with
        | nil => intro _; simp [D.szL]
        | cons a l ih =>
          intro h
          have h1 := h a (by simp)
          have h2 := ih fun d hd => h d (List.mem_cons_of_mem _ hd)
          simp only [D.szL, List.length_cons]; omega
      have := hb _ hz
      rw [List.length_map] at this
      simp only [D.sz, D.szL]; omega
    · rw [acc_comes, comes_ents]
      have htx : textsIn g.nodes (.tup ((es2.map fun p => p.1).map .str)) = true := txt_sorted (fun v hv => by obtain ⟨p, hp, rfl⟩ := List.mem_map.mp hv; exact hk2.sub p hp) hk2.nd q3
      have hin : (decide (s = e) || decide (s ∈ es2.map (·.1))) = true := by
        rcases (hwi.keys s).mp hsK with z | z
        · rw [decide_eq_true z]; rfl
        · rw [decide_eq_true ((q2.map _).mem_iff.mpr z)]; simp
      unfold comesE
      have hrk : (es2.all fun p => decide (1 ≤ p.2.1)) = true := by rw [List.all_eq_true]; exact fun p hp => decide_eq_true (hk2.rk p hp).1
      have hle : (es2.all fun p => leadsB g ws (rks es2 e) p.1 p.2.1 p.2.2) = true := by rw [List.all_eq_true]; exact fun p hp => leads_of hk2 hp
      rw [htx, hin, hrk, hle, decide_eq_false hk2.ne]; rfl
  · rw [decide_eq_false hsK] at hins
    have c := loopC_encF (vs := [10]) (b := kb_coming_2) (q := kq_coming_2) (p := kp_coming_2) D.str (fun v => !decide (v ∈ rs.map (·.1))) D.str (ρ := [some (.ro g.d), some (.ro (wdD ws)), some (.ro (.str s)), some (.ro (.str e)), some (.own (.dct (sdct D.int ws))), some (.own (.dct (outsD g))), some (.own (.dct (sdct D.int rs))), some (.own (.lst (es.map entT))), some (.ro (.bl false)), x9, none, x11, none, none]) (xs := g.nodes) (by
      intro v _
      have : (getK (sdct D.int rs) (.inr v)).isSome = decide (v ∈ rs.map (·.1)) := getK_in
      by_cases h : v ∈ rs.map (·.1)
      · rw [decide_eq_true h] at this; simp [bodyC, kb_coming_2, kq_coming_2, kp_coming_2, this, h]
      · rw [decide_eq_false h] at this; simp [bodyC, kb_coming_2, kq_coming_2, kp_coming_2, this, h])
    obtain ⟨S, hS⟩ : ∃ S, S = g.nodes.filter fun v => !decide (v ∈ rs.map (·.1)) := ⟨_, rfl⟩
    rw [← hS] at c
    have hSm : ∀ v, v ∈ S ↔ v ∈ g.nodes ∧ v ∉ rs.map (·.1) := fun v => by rw [hS, List.mem_filter]; simp
    have hSl : S.length ≤ 10 := by rw [hS]; exact Nat.le_trans (List.length_filter_le _ _) hfN
    refine ⟨.tup [.str "stays", .tup (S.map .str)], ?_, ⟨sm_tup.mpr ⟨by simp, ?_⟩, ?_, "stays", _, rfl⟩, ?_⟩
    · simp [f_coming, runDef, p_coming, dd, sf, ew, hins, e8, hN, c, -o_toDictxT]
    · intro x hx
      simp only [List.mem_cons, List.not_mem_nil, or_false] at hx
      rcases hx with rfl | rfl
      · exact sm_str
      · exact sm_strs (by omega)
    · simp [D.sz, D.szL, szL_strs]; omega
    · have htx : textsIn g.nodes (.tup (S.map .str)) = true := txt_sorted (fun v hv => ((hSm v).mp hv).1) (by rw [hS]; exact hg.nd.sublist List.filter_sublist) (by rw [hS]; exact hg.sorted.sublist List.filter_sublist)
      rw [acc_stays, stays_strs htx]
      have m1 : s ∈ S := (hSm s).mpr ⟨hs, hsK⟩
      have m2 : e ∉ S := fun z => ((hSm e).mp z).2 ((hwi.keys e).mpr (.inl rfl))
      rw [decide_eq_true m1, decide_eq_false m2, Bool.not_false, Bool.true_and, Bool.true_and, List.all_eq_true]
      intro v hv
      obtain ⟨v1, v2⟩ := (hSm v).mp hv
      have hc := hcl v v1
      unfold cnd at hc
      rw [decide_eq_false v2, Bool.not_false, Bool.true_and] at hc
      have hio : ∀ a ∈ outA g.arcs v, a.t ∈ S ↔ a.t ∉ rs.map (·.1) := fun a ha => by
        have := (hg.wf.arc (List.mem_filter.mp ha).1).2
        rw [hSm]; exact ⟨fun z => z.2, fun z => ⟨this, z⟩⟩
      unfold holdsB
      cases hgd : (gd g.arcs (rs.map (·.1)) v) with
      | nil =>
        have hall : innA g.arcs S v = outA g.arcs v := List.filter_eq_self.mpr fun a ha => decide_eq_true ((hio a ha).mpr fun z => by
          have : a ∈ gd g.arcs (rs.map (·.1)) v := List.mem_filter.mpr ⟨ha, decide_eq_true z⟩
          rw [hgd] at this; cases this)
        rw [hall]
        by_cases hev : evn ws v = true
        · rw [if_pos hev]; simp
        · rw [if_neg hev]
          cases outA g.arcs v <;> simp
      | cons a r =>
        rw [hgd] at hc
        simp at hc
        have hev : ¬ evn ws v = true := by rw [hc.1]; decide
        rw [if_neg hev]
        have : ∃ b ∈ outA g.arcs v, b.t ∉ rs.map (·.1) := by
          apply Classical.byContradiction
          intro z
          have hall : gd g.arcs (rs.map (·.1)) v = outA g.arcs v := List.filter_eq_self.mpr fun b hb => decide_eq_true (by
            apply Classical.byContradiction
            intro h; exact z ⟨b, hb, h⟩)
          rw [hgd] at hall
          exact hc.2 (by rw [← hall]; rfl)
        obtain ⟨b, hb, hb2⟩ := this
        have hbi : b ∈ innA g.arcs S v := List.mem_filter.mpr ⟨hb, decide_eq_true ((hio b hb).mpr hb2)⟩
        have : 0 < (innA g.arcs S v).length := List.length_pos_of_mem hbi
        rw [decide_eq_true this]; rfl
end Pl



namespace Pl
open PySem L2 Dn Mir
--@ law
theorem law_ok (ns : List Int) : f_law [.scr ns] = some (.ro (.bl true)) := by
  obtain ⟨ρ', el, hI⟩ := loop_rng (b := bName 3) (s := l_law_1)
    (fun k ρ => ∃ (s : St) (seen : List D) (x3 x4 x5 x6 x7 x8 x9 x10 x11 : Option C), ρ = [some (.ro (.scr ns)), some (.own (enc s)), some (.own (.lst seen)), x3, x4, x5, x6, x7, x8, x9, x10, x11] ∧ (∀ x ∈ seen, Told 100 3 x) ∧ seen.length ≤ k) (n := 3)
    (ρ0 := [some (.ro (.scr ns)), some (.own (enc ⟨ns, 0, 0, 1, Nat.zero_le _, Int.le_refl _⟩)), some (.own (.lst [])), none, none, none, none, none, none, none, none, none]) ⟨_, [], _, _, _, _, _, _, _, _, _, rfl, by simp, by simp⟩ (by
      rintro k ρ hk ⟨s, seen, x3, x4, x5, x6, x7, x8, x9, x10, x11, rfl, hseen, hlen⟩
      obtain ⟨s1, g, e1, hg, hd⟩ := law_map_ok s 1 2 (by decide)
      have e1' : f__law_map (enc s) [.int 1, .int 2] = some (.ro g.d, enc s1) := e1
      have hfN := hg.few
      have hN : g.nodes.length ≤ 16777216 := by omega
      obtain ⟨out, ρw, ew, s2, ws, hws, rfl, rfl⟩ := loopC_pre (vs := [6]) (b := kb_law_0) (q := qYes) (p := kp_law_0) D.str
        (fun pre out ρ => ∃ (s : St) (ws : Ws), ws.map (·.1) = pre ∧ out = ws.map (fun p => D.tup [.str p.1, .int p.2]) ∧ ρ = [some (.ro (.scr ns)), some (.own (enc s)), some (.own (.lst seen)), some (.ro (.int k)), some (.ro g.d), x5, none, x7, x8, x9, x10, x11]) (xs := g.nodes)
        (ρ0 := [some (.ro (.scr ns)), some (.own (enc s1)), some (.own (.lst seen)), some (.ro (.int k)), some (.ro g.d), x5, none, x7, x8, x9, x10, x11]) ⟨s1, [], rfl, rfl, rfl⟩ (by
          rintro pre n post out ρ hx ⟨s, ws, hw, rfl, rfl⟩
          obtain ⟨s', v, e, hv⟩ := next_nat s 13 (by decide) (by decide)
          have e' : f__law_next (enc s) [.int 13] = some (.ro (.int v), enc s') := e
          refine ⟨.tup [.str n, .int (v - 6)], [some (.ro (.scr ns)), some (.own (enc s')), some (.own (.lst seen)), some (.ro (.int k)), some (.ro g.d), x5, none, x7, x8, x9, x10, x11], ?_, s', ws ++ [(n, (v : Int) - 6)], by simp [hw], by simp, rfl⟩
          simp [bodyC, kb_law_0, kp_law_0, e'])
      have hw : ws.map (·.1) = g.nodes := hws
      have hwl : ws.length ≤ 16777216 := by have := congrArg List.length hw; rw [List.length_map] at this; omega
      have hwd : D.toTup [.lst (ws.map fun p => D.tup [.str p.1, .int p.2])] = some (.ro (wdD ws)) := by
        have hzz : (ws.map fun p => D.tup [.str p.1, .int p.2]).length ≤ 16777216 := by rw [List.length_map]; exact hwl
        simp [wdD]
      have hwi : (wdD ws).imm = true := by simp [wdD]
      obtain ⟨s3, i, f1, f2⟩ := next_nat s2 g.nodes.length hg.one (by omega)
      have f1' : f__law_next (enc s2) [.int (g.nodes.length : Int)] = some (.ro (.int i), enc s3) := f1
      obtain ⟨st, f3, hst⟩ : ∃ st, atI (g.nodes.map D.str) (i : Int) = some (.str st) ∧ st ∈ g.nodes := by
        obtain ⟨y, hy, z, hz, rfl⟩ := pick_ok (l := g.nodes.map D.str) (v := i) (by simpa using f2) (P := fun y => ∃ z, z ∈ g.nodes ∧ y = .str z) (fun y hy => by obtain ⟨z, hz, rfl⟩ := List.mem_map.mp hy; exact ⟨z, hz, rfl⟩)
        exact ⟨z, hy, hz⟩
      obtain ⟨s4, i', h1, h2⟩ := next_nat s3 g.nodes.length hg.one (by omega)
      have h1' : f__law_next (enc s3) [.int (g.nodes.length : Int)] = some (.ro (.int i'), enc s4) := h1
      obtain ⟨en, h3, hen⟩ : ∃ en, atI (g.nodes.map D.str) (i' : Int) = some (.str en) ∧ en ∈ g.nodes := by
        obtain ⟨y, hy, z, hz, rfl⟩ := pick_ok (l := g.nodes.map D.str) (v := i') (by simpa using h2) (P := fun y => ∃ z, z ∈ g.nodes ∧ y = .str z) (fun y hy => by obtain ⟨z, hz, rfl⟩ := List.mem_map.mp hy; exact ⟨z, hz, rfl⟩)
        exact ⟨z, hy, hz⟩
      obtain ⟨x, e2, hx, hacc⟩ := coming_ok g ws st en hg hw hst hen
      have hxa := hx.asked (by decide) (by decide)
      have e3 := accepts_ok g ws st en x hxa hg hw hst hen
      have e4 := judge_ok g ws st en x hxa hg hw hst hen
      rw [hacc] at e3 e4
      have hnb : D.notBl (.bl true) (.bl true) = some (.ro (.bl false)) := rfl
      have hcl := cut_len seen (some (-3)) none
      have a1 : (cutD seen (some (-3)) none).length + 1 ≤ 16777216 := by omega
      obtain ⟨seen', hs'⟩ : ∃ seen', seen' = cutD seen (some (-3)) none ++ [x] := ⟨_, rfl⟩
      have hsl : seen'.length = (cutD seen (some (-3)) none).length + 1 := by rw [hs']; simp
      have hsm : ∀ y ∈ seen', Told 100 3 y := fun y hy => by
        rw [hs'] at hy
        rcases List.mem_append.mp hy with hy | hy
        · exact hseen y (cut_mem hy)
        · rw [List.mem_singleton] at hy; subst hy; exact hx
      obtain ⟨ρ', el, hI⟩ := loop_rng (b := bName 10) (s := l_law_0)
        (fun j ρ => ∃ (s : St) (x10 x11 : Option C), ρ = [some (.ro (.scr ns)), some (.own (enc s)), some (.own (.lst seen')), some (.ro (.int k)), some (.ro g.d), some (.ro (wdD ws)), none, some (.ro (.str st)), some (.ro (.str en)), some (.ro x), x10, x11]) (n := 10 + seen'.length)
        (ρ0 := [some (.ro (.scr ns)), some (.own (enc s4)), some (.own (.lst seen')), some (.ro (.int k)), some (.ro g.d), some (.ro (wdD ws)), none, some (.ro (.str st)), some (.ro (.str en)), some (.ro x), x10, x11]) ⟨_, _, _, rfl⟩ (by
          rintro j ρ hj ⟨s, x10, x11, rfl⟩
          have fin : ∀ (s2 : St) (y : D), Asked y → sIf (qNot (qTru (pCall (f__law_same 12) (pCons (pCall f_judge_coming (pCons (pVar 4) (pCons (pVar 5) (pCons (pVar 7) (pCons (pVar 8) (pCons (pVar 11) (pNil))))))) (pCons (pCall f__law_accepts (pCons (pVar 4) (pCons (pVar 5) (pCons (pVar 7) (pCons (pVar 8) (pCons (pVar 11) (pNil))))))) (pNil)))))) (sRet (pC (.bl false))) (sNil) [some (.ro (.scr ns)), some (.own (enc s2)), some (.own (.lst seen')), some (.ro (.int k)), some (.ro g.d), some (.ro (wdD ws)), none, some (.ro (.str st)), some (.ro (.str en)), some (.ro x), some (.ro (.int j)), some (.ro y)] =
              some (.nx [some (.ro (.scr ns)), some (.own (enc s2)), some (.own (.lst seen')), some (.ro (.int k)), some (.ro g.d), some (.ro (wdD ws)), none, some (.ro (.str st)), some (.ro (.str en)), some (.ro x), some (.ro (.int j)), some (.ro y)]) := by
            intro s2 y hy
            simp [judge_ok g ws st en y hy hg hw hst hen, accepts_ok g ws st en y hy hg hw hst hen, same_bl]
          by_cases hj10 : (j : Int) < 10
          · obtain ⟨s2, y, e5, hy⟩ := law_odd_ok 100 3 (by decide) (by decide) g hg.wf hg.one s x hx
            exact ⟨_, by simp [l_law_0, hj10, e5, -v_sIf]; exact fin s2 y hy, s2, _, _, rfl⟩
          · have hlt : j - 10 < seen'.length := by omega
            obtain ⟨y, hy, hyt⟩ := pick_ok hlt (P := Asked) (fun y hy => (hsm y hy).asked (by decide) (by decide))
            rw [show ((j - 10 : Nat) : Int) = (j : Int) - 10 by omega] at hy
            exact ⟨_, by simp [l_law_0, hj10, hy, -v_sIf]; exact fin s y hyt, s, _, _, rfl⟩)
      obtain ⟨s9, y10, y11, rfl⟩ := hI
      have hsm2 : smallI ((10 : Int) + (seen'.length : Int)) = true := by simp [smallI]; omega
      have htn : ((10 : Int) + (seen'.length : Int)).toNat = 10 + seen'.length := by omega
      refine ⟨_, ?_, s9, seen', some (.ro (.int k)), some (.ro g.d), some (.ro (wdD ws)), none, some (.ro (.str st)), some (.ro (.str en)), some (.ro x), y10, y11, rfl, hsm, by omega⟩
      simp [l_law_1, e1', hN, ew, hwd, f1', f3, h1', h3, e2, e3, e4, hnb, a1, ← hs', hsm2, htn, el])
  obtain ⟨s, seen, x3, x4, x5, x6, x7, x8, x9, x10, x11, rfl, _, _⟩ := hI
  have hsm : smallI 3 = true := by decide
  have ei : enc ⟨ns, 0, 0, 1, Nat.zero_le _, Int.le_refl _⟩ = .lst [.lst (ns.map .int), .int 0, .int 0, .int 1] := rfl
  rw [ei] at el
  have h3 : (3 : Int).toNat = 3 := rfl
  simp [f_law, runDef, p_law, hsm, el]
end Pl



namespace Wlk
open PySem PySem.Spec PyProof.Rows L2 Dn Mir
def top (i : Nat) : Stmt := PySem.Challenge.pw_waywhole_k84_games_to_come_to_a_node.main.body.getD i (.Pass ⟨0, 0, 0, 0⟩)
abbrev FnP (K : PySem.W.Frag) (x : Str) (st : Stmt) (f : Addr) (fd : FuncData) : Prop := FunD K x x (defArgs st) (defBody st) (defScope st) [] [] f fd
structure Bi (mg : Str → Option Value) : Prop where
  b_bool : mg "bool" = none
  b_dict : mg "dict" = none
  b_int : mg "int" = none
  b_isinstance : mg "isinstance" = none
  b_len : mg "len" = none
  b_list : mg "list" = none
  b_range : mg "range" = none
  b_set : mg "set" = none
  b_sorted : mg "sorted" = none
  b_str : mg "str" = none
  b_tuple : mg "tuple" = none
variable {P : Program} {w : World} {K : PySem.W.Frag} {mg : Str → Option Value} {base : Heap}
theorem sc_15 : FnScope ["state", "limit", "cell", "value"] ["state", "limit"] (defScope (top 15)) := ⟨rfl, rfl, rfl, by decide +kernel, rfl, by decide +kernel, by decide +kernel⟩
theorem ok__law_next {f : Addr} {fd : FuncData} (Fn : FnP K "_law_next" (top 15) f fd) (B : Bi mg) : FnOk P w K mg base CX0 1 f fd ["state", "limit"] (SpIo ⟨K, w⟩ f__law_next) :=
  ok_io (K := ⟨K, w⟩) Fn sc_15 4 2 rfl rfl fun F cdv A outer s0 H E hK hr => dss_cons (ds_if (dt_w (dw_and (dt_eqx hK hr.units (de_ixw hK hr.units (de_v 0) (de_int)) (de_int)) (dw_and1 (dt_cmp o_lt s_lt (de_ixw hK hr.units (de_v 0) (de_int)) (de_lenx hK rfl B.b_len (da_cons (de_ixw hK hr.units (de_v 0) (de_int)) (da_nil))) (nomark _))))) (dss_cons (ds_set (i := 2) sc_15.nd rfl (Or.inl rfl) (de_ixw hK hr.units (de_ixw hK hr.units (de_v 0) (de_int)) (de_ixw hK hr.units (de_v 0) (de_int)))) (dss_cons (ds_iaddIx hK (pv 0) (de_int) (de_int)) (dss_one (ds_if (dt_cmp op_ge s_ge (de_v 2) (de_pow (de_int) (de_int)) (nomark _)) (dss_one (ds_setX hr.units (de_v 2) (pv 0) (de_int))) (dss_one (ds_setX hr.units (de_mod (de_toInt rfl B.b_int (da_cons (de_add (de_add (de_mul (de_ixw hK hr.units (de_v 0) (de_int)) (de_int)) (de_mod (de_toInt rfl B.b_int (da_cons (de_v 2) (da_nil))) (de_int)) hK) (de_int) hK) (da_nil))) (de_int)) (pv 0) (de_int))))))) (dss_nil)) (dss_cons (ds_if (dt_cmp op_gt s_gt (de_ixw hK hr.units (de_v 0) (de_int)) (de_int) (nomark _)) (dss_cons (ds_set (i := 3) sc_15.nd rfl (Or.inl rfl) (de_mod (de_toInt rfl B.b_int (da_cons (de_ixw hK hr.units (de_v 0) (de_int)) (da_nil))) (de_v 1))) (dss_cons (ds_setX hr.units (de_fdiv (de_ixw hK hr.units (de_v 0) (de_int)) (de_v 1)) (pv 0) (de_int)) (dss_one (ds_ret (de_v 3))))) (dss_nil)) (dss_cons (ds_setX hr.units (de_mod (de_toInt rfl B.b_int (da_cons (de_add (de_mul (de_ixw hK hr.units (de_v 0) (de_int)) (de_int)) (de_int) hK) (da_nil))) (de_int)) (pv 0) (de_int)) (dss_one (ds_ret (de_mod (de_toInt rfl B.b_int (da_cons (de_fdiv (de_ixw hK hr.units (de_v 0) (de_int)) (de_int)) (da_nil))) (de_v 1))))))
theorem sc_17 : FnScope ["state", "low", "directed", "nodes", "edges", "k", "one", "other", "is_one_way"] ["state", "low", "directed"] (defScope (top 17)) := ⟨rfl, rfl, rfl, by decide +kernel, rfl, by decide +kernel, by decide +kernel⟩
theorem ok__law_map {f : Addr} {fd : FuncData} (Fn : FnP K "_law_map" (top 17) f fd) (B : Bi mg) (c__law_next : Cal P w K mg base "_law_next" 1 ["state", "limit"] (SpIo ⟨K, w⟩ f__law_next)) : FnOk P w K mg base CX0 2 f fd ["state", "low", "directed"] (SpIo ⟨K, w⟩ f__law_map) :=
  ok_io (K := ⟨K, w⟩) Fn sc_17 9 3 rfl rfl fun F cdv A outer s0 H E hK hr => dss_cons (ds_set (i := 3) sc_17.nd rfl (Or.inl rfl) (de_sl hK (de_lst (da_cons (de_str) (da_cons (de_str) (da_cons (de_str) (da_cons (de_str) (da_cons (de_str) (da_cons (de_str) (da_cons (de_str) (da_nil))))))))) (do_none) (do_some (de_add (de_int) (de_doIo hK c__law_next hr (by first | omega | (simp only [Nat.add_eq]; omega)) rfl (pv 0) (da_cons (de_int) (da_nil))) hK)))) (dss_cons (ds_set (i := 4) sc_17.nd rfl (Or.inl rfl) (de_lst (da_nil))) (dss_cons (ds_for PassesOwn.never rfl (di_range1 rfl B.b_range (da_cons (de_doIo hK c__law_next hr (by first | omega | (simp only [Nat.add_eq]; omega)) rfl (pv 0) (da_cons (de_ixw hK hr.units (de_lst (da_cons (de_int) (da_cons (de_int) (da_cons (de_int) (da_nil))))) (de_doIo hK c__law_next hr (by first | omega | (simp only [Nat.add_eq]; omega)) rfl (pv 0) (da_cons (de_int) (da_nil)))) (da_nil))) (da_nil))) (dg_name sc_17.nd rfl (by first | exact Or.inl rfl | exact Or.inr rfl)) (dss_cons (ds_set (i := 6) sc_17.nd rfl (Or.inl rfl) (de_ixw hK hr.units (de_v 3) (de_doIo hK c__law_next hr (by first | omega | (simp only [Nat.add_eq]; omega)) rfl (pv 0) (da_cons (de_lenx hK rfl B.b_len (da_cons (de_v 3) (da_nil))) (da_nil))))) (dss_cons (ds_set (i := 7) sc_17.nd rfl (Or.inl rfl) (de_ixw hK hr.units (de_v 3) (de_doIo hK c__law_next hr (by first | omega | (simp only [Nat.add_eq]; omega)) rfl (pv 0) (da_cons (de_lenx hK rfl B.b_len (da_cons (de_v 3) (da_nil))) (da_nil))))) (dss_cons (ds_if (dt_w (dw_and (dt_eqx hK hr.units (de_v 6) (de_v 7)) (dw_and1 (dt_cmp op_gt s_gt (de_doIo hK c__law_next hr (by first | omega | (simp only [Nat.add_eq]; omega)) rfl (pv 0) (da_cons (de_int) (da_nil))) (de_int) (nomark _))))) (dss_one (ds_set (i := 7) sc_17.nd rfl (Or.inl rfl) (de_ixw hK hr.units (de_v 3) (de_mod (de_add (de_lm hK PySem.F.slot_list_index PySem.F.type_list_index mt_index s_index (pv 3) (da_cons (de_cap (de_v 6)) (da_nil))) (de_int) hK) (de_lenx hK rfl B.b_len (da_cons (de_v 3) (da_nil))))))) (dss_nil)) (dss_cons (ds_set (i := 8) sc_17.nd rfl (Or.inl rfl) (de_ixw hK hr.units (de_lst (da_cons (de_bl) (da_cons (de_bl) (da_cons (de_eqx hK hr.units (de_doIo hK c__law_next hr (by first | omega | (simp only [Nat.add_eq]; omega)) rfl (pv 0) (da_cons (de_int) (da_nil))) (de_int)) (da_nil))))) (de_v 2))) (dss_one (ds_expr (de_lm hK PySem.F.slot_list_append PySem.F.type_list_append mt_append s_append (pv 4) (da_cons (de_tup (da_cons (de_add (de_str) (de_toStrx rfl B.b_str (da_cons (de_v 5) (da_nil))) hK) (da_cons (de_cap (de_v 6)) (da_cons (de_cap (de_v 7)) (da_cons (de_add (de_v 1) (de_doIo hK c__law_next hr (by first | omega | (simp only [Nat.add_eq]; omega)) rfl (pv 0) (da_cons (de_int) (da_nil))) hK) (da_cons (de_cap (de_v 8)) (da_nil))))))) (da_nil)))))))))) (dss_one (ds_ret (de_tup (da_cons (de_toTup hK rfl B.b_tuple (da_cons (de_v 3) (da_nil))) (da_cons (de_toTup hK rfl B.b_tuple (da_cons (de_srt hK rfl hr.units rfl B.b_sorted (da_cons (de_v 4) (da_nil))) (da_nil))) (da_nil))))))))
theorem sc_2 : FnScope ["graph", "found", "name", "one", "other", "weight", "is_one_way"] ["graph"] (defScope (top 2)) := ⟨rfl, rfl, rfl, by decide +kernel, rfl, by decide +kernel, by decide +kernel⟩
theorem ok_arcs_of {f : Addr} {fd : FuncData} (Fn : FnP K "arcs_of" (top 2) f fd) (B : Bi mg) : FnOk P w K mg base CX0 1 f fd ["graph"] (Sp0 ⟨K, w⟩ f_arcs_of) :=
  ok_def (K := ⟨K, w⟩) Fn sc_2 7 1 rfl rfl fun F cdv A outer s0 H E hK hr => dss_cons (ds_set (i := 1) sc_2.nd rfl (Or.inl rfl) (de_lst (da_nil))) (dss_cons (ds_for PassesOwn.never rfl (di_seq hK (de_ixw hK hr.units (de_v 0) (de_int))) (dg_seq hK rfl (dgs_cons (dg_name sc_2.nd rfl (by first | exact Or.inl rfl | exact Or.inr rfl)) (dgs_cons (dg_name sc_2.nd rfl (by first | exact Or.inl rfl | exact Or.inr rfl)) (dgs_cons (dg_name sc_2.nd rfl (by first | exact Or.inl rfl | exact Or.inr rfl)) (dgs_cons (dg_name sc_2.nd rfl (by first | exact Or.inl rfl | exact Or.inr rfl)) (dgs_cons (dg_name sc_2.nd rfl (by first | exact Or.inl rfl | exact Or.inr rfl)) (dgs_nil))))))) (dss_cons (ds_expr (de_lm hK PySem.F.slot_list_append PySem.F.type_list_append mt_append s_append (pv 1) (da_cons (de_tup (da_cons (de_cap (de_v 3)) (da_cons (de_cap (de_v 4)) (da_cons (de_cap (de_v 5)) (da_cons (de_tup (da_cons (de_cap (de_v 2)) (da_cons (de_bl) (da_nil)))) (da_nil)))))) (da_nil)))) (dss_one (ds_if (dt_not (dt_tru hK (de_v 6))) (dss_one (ds_expr (de_lm hK PySem.F.slot_list_append PySem.F.type_list_append mt_append s_append (pv 1) (da_cons (de_tup (da_cons (de_cap (de_v 4)) (da_cons (de_cap (de_v 3)) (da_cons (de_cap (de_v 5)) (da_cons (de_tup (da_cons (de_cap (de_v 2)) (da_cons (de_bl) (da_nil)))) (da_nil)))))) (da_nil))))) (dss_nil))))) (dss_one (ds_ret (de_v 1))))
theorem sc_8 : FnScope ["graph", "found", "node", "one", "other", "_", "step"] ["graph"] (defScope (top 8)) := ⟨rfl, rfl, rfl, by decide +kernel, rfl, by decide +kernel, by decide +kernel⟩
theorem ok_steps_from {f : Addr} {fd : FuncData} (Fn : FnP K "steps_from" (top 8) f fd) (B : Bi mg) (c_arcs_of : Cal P w K mg base "arcs_of" 1 ["graph"] (Sp0 ⟨K, w⟩ f_arcs_of)) : FnOk P w K mg base CX0 2 f fd ["graph"] (Sp0 ⟨K, w⟩ f_steps_from) :=
  ok_def (K := ⟨K, w⟩) Fn sc_8 7 1 rfl rfl fun F cdv A outer s0 H E hK hr => g_nest (g_new (i := 1) hK hr.units rfl sc_8.nd rfl rfl (swd_true rfl rfl rfl (by first | rfl | decide +kernel)) (di_seq hK (de_ixw hK hr.units (de_v 0) (de_int))) (blkOk_by (own := [("node", 2)]) (N := ["graph", "found", "node", "one", "other", "_", "step"]) (sc := defScope (top 8)) (by decide +kernel)) (fun _ _ _ _ _ => dg_name sc_8.nd rfl (by first | exact Or.inl rfl | exact Or.inr rfl)) (fun _ _ _ _ _ => dts_nil) (fun _ _ _ _ _ => de_v 2) (fun _ _ _ _ _ => de_lst (da_nil)) (by decide)) (g_for PassesOwn.never rfl (di_seq hK (de_do hK c_arcs_of hr (by first | omega | (simp only [Nat.add_eq]; omega)) rfl (da_cons (de_v 0) (da_nil)))) (dg_seq hK rfl (dgs_cons (dg_name sc_8.nd rfl (by first | exact Or.inl rfl | exact Or.inr rfl)) (dgs_cons (dg_name sc_8.nd rfl (by first | exact Or.inl rfl | exact Or.inr rfl)) (dgs_cons (dg_name sc_8.nd rfl (by first | exact Or.inl rfl | exact Or.inr rfl)) (dgs_cons (dg_name sc_8.nd rfl (by first | exact Or.inl rfl | exact Or.inr rfl)) (dgs_nil)))))) (pss_one (g_app hK (pe_bm PySem.F.plainAttrs_list PySem.F.slot_list_append PySem.F.type_list_append mt_append (pe_dget (lt1 hr.units) (pv 1) (de_v 3) (fun _ _ => rfl)) (da_cons (de_tup (da_cons (de_cap (de_v 4)) (da_cons (de_cap (de_v 6)) (da_nil)))) (da_nil))))) (by decide)) (dss_one (ds_ret (de_v 1)))
theorem sc_1 : FnScope ["graph"] ["graph"] (defScope (top 1)) := ⟨rfl, rfl, rfl, by decide +kernel, rfl, by decide +kernel, by decide +kernel⟩
theorem ok_nodes_of {f : Addr} {fd : FuncData} (Fn : FnP K "nodes_of" (top 1) f fd) (B : Bi mg) : FnOk P w K mg base CX0 1 f fd ["graph"] (Sp0 ⟨K, w⟩ f_nodes_of) :=
  ok_def (K := ⟨K, w⟩) Fn sc_1 1 1 rfl rfl fun F cdv A outer s0 H E hK hr => dss_one (ds_ret (de_toList hK rfl B.b_list (da_cons (de_ixw hK hr.units (de_v 0) (de_int)) (da_nil))))
theorem sc_9 : FnScope ["weights", "node"] ["weights", "node"] (defScope (top 9)) := ⟨rfl, rfl, rfl, by decide +kernel, rfl, by decide +kernel, by decide +kernel⟩
theorem ok_is_first {f : Addr} {fd : FuncData} (Fn : FnP K "is_first" (top 9) f fd) (B : Bi mg) : FnOk P w K mg base CX0 1 f fd ["weights", "node"] (Sp0 ⟨K, w⟩ f_is_first) :=
  ok_def (K := ⟨K, w⟩) Fn sc_9 2 2 rfl rfl fun F cdv A outer s0 H E hK hr => dss_one (ds_ret (de_eqx hK hr.units (de_mod (de_ixw hK hr.units (de_v 0) (de_v 1)) (de_int)) (de_int)))
theorem sc_10 : FnScope ["graph", "told", "start", "end", "weights", "steps", "ranks", "entries", "grown", "fresh", "node", "good", "other", "step"] ["graph", "told", "start", "end"] (defScope (top 10)) := ⟨rfl, rfl, rfl, by decide +kernel, rfl, by decide +kernel, by decide +kernel⟩
theorem ok_coming {f : Addr} {fd : FuncData} (Fn : FnP K "coming" (top 10) f fd) (B : Bi mg) (c_steps_from : Cal P w K mg base "steps_from" 2 ["graph"] (Sp0 ⟨K, w⟩ f_steps_from)) (c_nodes_of : Cal P w K mg base "nodes_of" 1 ["graph"] (Sp0 ⟨K, w⟩ f_nodes_of)) (c_is_first : Cal P w K mg base "is_first" 1 ["weights", "node"] (Sp0 ⟨K, w⟩ f_is_first)) : FnOk P w K mg base CX0 3 f fd ["graph", "told", "start", "end"] (Sp0 ⟨K, w⟩ f_coming) :=
  ok_def (K := ⟨K, w⟩) Fn sc_10 14 4 rfl rfl fun F cdv A outer s0 H E hK hr => dss_cons (ds_set (i := 4) sc_10.nd rfl (Or.inl rfl) (de_toDictx hK rfl rfl B.b_dict (da_cons (de_v 1) (da_nil)))) (dss_cons (ds_set (i := 5) sc_10.nd rfl (Or.inl rfl) (de_do hK c_steps_from hr (by first | omega | (simp only [Nat.add_eq]; omega)) rfl (da_cons (de_v 0) (da_nil)))) (dss_cons (ds_set (i := 6) sc_10.nd rfl (Or.inr rfl) (de_dct1 (de_cap (de_v 3)) (de_int))) (dss_cons (ds_set (i := 7) sc_10.nd rfl (Or.inr rfl) (de_lst (da_nil))) (dss_cons (ds_set (i := 8) sc_10.nd rfl (Or.inl rfl) (de_bl)) (dss_cons (ds_while PassesOwn.never (dt_tru hK (de_v 8)) (dss_cons (ds_set (i := 9) sc_10.nd rfl (Or.inl rfl) (de_dct0)) (dss_cons (ds_for PassesOwn.never rfl (di_seq hK (de_do hK c_nodes_of hr (by first | omega | (simp only [Nat.add_eq]; omega)) rfl (da_cons (de_v 0) (da_nil)))) (dg_name sc_10.nd rfl (by first | exact Or.inl rfl | exact Or.inr rfl)) (dss_cons (ds_setLc (i := 11) rfl sc_10.nd rfl rfl (sw_true rfl rfl rfl (by first | rfl | decide +kernel)) (di_seq hK (de_ixw hK hr.units (de_v 5) (de_v 10))) (blkOk_by (own := [("other", 12), ("step", 13)]) (N := ["graph", "told", "start", "end", "weights", "steps", "ranks", "entries", "grown", "fresh", "node", "good", "other", "step"]) (sc := defScope (top 10)) (by decide +kernel)) (fun _ _ _ _ _ => dg_seq hK rfl (dgs_cons (dg_name sc_10.nd rfl (by first | exact Or.inl rfl | exact Or.inr rfl)) (dgs_cons (dg_name sc_10.nd rfl (by first | exact Or.inl rfl | exact Or.inr rfl)) (dgs_nil)))) (fun _ _ _ _ _ => dts_one (dt_inw hK hr.units (de_v 12) (de_v 6))) (fun _ _ _ _ _ => de_cap (de_v 13)) (by decide)) (dss_one (ds_if (dt_w (dw_and (dt_ninw hK hr.units (de_v 10) (de_v 6)) (dw_and (dt_tru hK (de_v 11)) (dw_and1 (dt_w (dw_or (dt_tru hK (de_do hK c_is_first hr (by first | omega | (simp only [Nat.add_eq]; omega)) rfl (da_cons (de_v 4) (da_cons (de_v 10) (da_nil))))) (dw_or1 (dt_eqx hK hr.units (de_lenx hK rfl B.b_len (da_cons (de_v 11) (da_nil))) (de_lenx hK rfl B.b_len (da_cons (de_ixw hK hr.units (de_v 5) (de_v 10)) (da_nil))))))))))) (dss_one (ds_setX hr.units (de_if (dt_tru hK (de_do hK c_is_first hr (by first | omega | (simp only [Nat.add_eq]; omega)) rfl (da_cons (de_v 4) (da_cons (de_v 10) (da_nil))))) (de_ixw hK hr.units (de_v 11) (de_int)) (de_non)) (pv 9) (de_v 10))) (dss_nil))))) (dss_cons (ds_for PassesOwn.never rfl (di_seq hK (de_srt hK rfl hr.units rfl B.b_sorted (da_cons (de_v 9) (da_nil)))) (dg_name sc_10.nd rfl (by first | exact Or.inl rfl | exact Or.inr rfl)) (dss_one (ds_expr (de_lm hK PySem.F.slot_list_append PySem.F.type_list_append mt_append s_append (pv 7) (da_cons (de_tup (da_cons (de_cap (de_v 10)) (da_cons (de_add (de_lenx hK rfl B.b_len (da_cons (de_v 7) (da_nil))) (de_int) hK) (da_cons (de_ixw hK hr.units (de_v 9) (de_v 10)) (da_nil))))) (da_nil)))))) (dss_cons (ds_expr (de_updD hK (pv 6) (de_dcS hK hr.units rfl sc_10.nd (di_keysD (de_frz (de_v 9))) (blkOk_by (own := [("node", 10)]) (N := ["graph", "told", "start", "end", "weights", "steps", "ranks", "entries", "grown", "fresh", "node", "good", "other", "step"]) (sc := defScope (top 10)) (by decide +kernel)) (fun F hK _ _ _ _ _ => dg_name sc_10.nd rfl (by first | exact Or.inl rfl | exact Or.inr rfl)) (fun F hK _ _ _ _ _ => dts_nil) (fun F hK _ _ _ _ _ => de_v 10) (fun F hK _ _ _ _ _ => de_lenx hK rfl B.b_len (da_cons (de_v 7) (da_nil))) (by decide)))) (dss_one (ds_set (i := 8) sc_10.nd rfl (Or.inl rfl) (de_cmp op_gt s_gt (de_lenx hK rfl B.b_len (da_cons (de_v 9) (da_nil))) (de_int) (nomark _))))))))) (dss_cons (ds_if (dt_inw hK hr.units (de_v 2) (de_v 6)) (dss_one (ds_ret (de_tup (da_cons (de_str) (da_cons (de_toTup hK rfl B.b_tuple (da_cons (de_sortedH hK hr.units rfl B.b_sorted (da_cons (de_v 7) (da_nil))) (da_nil))) (da_nil)))))) (dss_nil)) (dss_one (ds_ret (de_tup (da_cons (de_str) (da_cons (de_toTup hK rfl B.b_tuple (da_cons (de_lc rfl sc_10.nd (di_seq hK (de_do hK c_nodes_of hr (by first | omega | (simp only [Nat.add_eq]; omega)) rfl (da_cons (de_v 0) (da_nil)))) (blkOk_by (own := [("node", 10)]) (N := ["graph", "told", "start", "end", "weights", "steps", "ranks", "entries", "grown", "fresh", "node", "good", "other", "step"]) (sc := defScope (top 10)) (by decide +kernel)) (fun _ _ _ _ _ => dg_name sc_10.nd rfl (by first | exact Or.inl rfl | exact Or.inr rfl)) (fun _ _ _ _ _ => dts_one (dt_ninw hK hr.units (de_v 10) (de_v 6))) (fun _ _ _ _ _ => de_cap (de_v 10)) (by decide)) (da_nil))) (da_nil))))))))))))
theorem sc_18 : FnScope ["graph", "found", "name", "one", "other", "weight", "is_one_way"] ["graph"] (defScope (top 18)) := ⟨rfl, rfl, rfl, by decide +kernel, rfl, by decide +kernel, by decide +kernel⟩
theorem ok__law_steps {f : Addr} {fd : FuncData} (Fn : FnP K "_law_steps" (top 18) f fd) (B : Bi mg) : FnOk P w K mg base CX0 1 f fd ["graph"] (Sp0 ⟨K, w⟩ f__law_steps) :=
  ok_def (K := ⟨K, w⟩) Fn sc_18 7 1 rfl rfl fun F cdv A outer s0 H E hK hr => dss_cons (ds_set (i := 1) sc_18.nd rfl (Or.inl rfl) (de_lst (da_nil))) (dss_cons (ds_for PassesOwn.never rfl (di_seq hK (de_ixw hK hr.units (de_v 0) (de_int))) (dg_seq hK rfl (dgs_cons (dg_name sc_18.nd rfl (by first | exact Or.inl rfl | exact Or.inr rfl)) (dgs_cons (dg_name sc_18.nd rfl (by first | exact Or.inl rfl | exact Or.inr rfl)) (dgs_cons (dg_name sc_18.nd rfl (by first | exact Or.inl rfl | exact Or.inr rfl)) (dgs_cons (dg_name sc_18.nd rfl (by first | exact Or.inl rfl | exact Or.inr rfl)) (dgs_cons (dg_name sc_18.nd rfl (by first | exact Or.inl rfl | exact Or.inr rfl)) (dgs_nil))))))) (dss_cons (ds_expr (de_lm hK PySem.F.slot_list_append PySem.F.type_list_append mt_append s_append (pv 1) (da_cons (de_tup (da_cons (de_cap (de_v 3)) (da_cons (de_cap (de_v 4)) (da_cons (de_cap (de_v 5)) (da_cons (de_tup (da_cons (de_cap (de_v 2)) (da_cons (de_bl) (da_nil)))) (da_nil)))))) (da_nil)))) (dss_one (ds_if (dt_not (dt_tru hK (de_v 6))) (dss_one (ds_expr (de_lm hK PySem.F.slot_list_append PySem.F.type_list_append mt_append s_append (pv 1) (da_cons (de_tup (da_cons (de_cap (de_v 4)) (da_cons (de_cap (de_v 3)) (da_cons (de_cap (de_v 5)) (da_cons (de_tup (da_cons (de_cap (de_v 2)) (da_cons (de_bl) (da_nil)))) (da_nil)))))) (da_nil))))) (dss_nil))))) (dss_one (ds_ret (de_v 1))))
theorem sc_21 : FnScope ["told", "word", "count"] ["told", "word", "count"] (defScope (top 21)) := ⟨rfl, rfl, rfl, by decide +kernel, rfl, by decide +kernel, by decide +kernel⟩
theorem ok__law_is {f : Addr} {fd : FuncData} (Fn : FnP K "_law_is" (top 21) f fd) (B : Bi mg) : FnOk P w K mg base CX0 1 f fd ["told", "word", "count"] (Sp0 ⟨K, w⟩ f__law_is) :=
  ok_def (K := ⟨K, w⟩) Fn sc_21 3 3 rfl rfl fun F cdv A outer s0 H E hK hr => dss_one (ds_ret (de_andT hK (de_isa hK rfl B.b_isinstance (da_cons (de_v 0) (da_cons (de_ty rfl B.b_tuple PyProof.Rows.boot_tuple) (da_nil)))) (de_andT hK (de_eqx hK hr.units (de_lenx hK rfl B.b_len (da_cons (de_v 0) (da_nil))) (de_v 2)) (de_andT hK (de_isa hK rfl B.b_isinstance (da_cons (de_ixw hK hr.units (de_v 0) (de_int)) (da_cons (de_ty rfl B.b_str PyProof.Rows.boot_str) (da_nil)))) (de_one (de_eqx hK hr.units (de_ixw hK hr.units (de_v 0) (de_int)) (de_v 1)))))))
theorem sc_19 : FnScope ["graph", "nodes", "node"] ["graph", "nodes"] (defScope (top 19)) := ⟨rfl, rfl, rfl, by decide +kernel, rfl, by decide +kernel, by decide +kernel⟩
theorem ok__law_are_nodes {f : Addr} {fd : FuncData} (Fn : FnP K "_law_are_nodes" (top 19) f fd) (B : Bi mg) : FnOk P w K mg base CX0 1 f fd ["graph", "nodes"] (Sp0 ⟨K, w⟩ f__law_are_nodes) :=
  ok_def (K := ⟨K, w⟩) Fn sc_19 3 2 rfl rfl fun F cdv A outer s0 H E hK hr => dss_cons (ds_if (dt_w (dw_or (dt_not (dt_tru hK (de_isa hK rfl B.b_isinstance (da_cons (de_v 1) (da_cons (de_ty rfl B.b_tuple PyProof.Rows.boot_tuple) (da_nil)))))) (dw_or1 (dt_nex hK hr.units (de_lc rfl sc_19.nd (di_seq hK (de_v 1)) (blkOk_by (own := [("node", 2)]) (N := ["graph", "nodes", "node"]) (sc := defScope (top 19)) (by decide +kernel)) (fun _ _ _ _ _ => dg_name sc_19.nd rfl (by first | exact Or.inl rfl | exact Or.inr rfl)) (fun _ _ _ _ _ => dts_one (dt_w (dw_or (dt_not (dt_tru hK (de_isa hK rfl B.b_isinstance (da_cons (de_v 2) (da_cons (de_ty rfl B.b_str PyProof.Rows.boot_str) (da_nil)))))) (dw_or1 (dt_ninw hK hr.units (de_v 2) (de_ixw hK hr.units (de_v 0) (de_int))))))) (fun _ _ _ _ _ => de_cap (de_v 2)) (by decide)) (de_lst (da_nil)))))) (dss_one (ds_ret (de_bl))) (dss_nil)) (dss_one (ds_ret (de_eqx hK hr.units (de_toList hK rfl B.b_list (da_cons (de_v 1) (da_nil))) (de_sortSet hK rfl hr.units rfl B.b_sorted rfl B.b_set (de_v 1)))))
theorem sc_20 : FnScope ["value"] ["value"] (defScope (top 20)) := ⟨rfl, rfl, rfl, by decide +kernel, rfl, by decide +kernel, by decide +kernel⟩
theorem ok__law_is_whole {f : Addr} {fd : FuncData} (Fn : FnP K "_law_is_whole" (top 20) f fd) (B : Bi mg) : FnOk P w K mg base CX0 1 f fd ["value"] (Sp0 ⟨K, w⟩ f__law_is_whole) :=
  ok_def (K := ⟨K, w⟩) Fn sc_20 1 1 rfl rfl fun F cdv A outer s0 H E hK hr => dss_one (ds_ret (de_andT hK (de_isa hK rfl B.b_isinstance (da_cons (de_v 0) (da_cons (de_ty rfl B.b_int PyProof.Rows.boot_int) (da_nil)))) (de_one (de_notT hK (de_isa hK rfl B.b_isinstance (da_cons (de_v 0) (da_cons (de_ty rfl B.b_bool PyProof.Rows.boot_bool) (da_nil))))))))
theorem sc_16 : FnScope ["actual", "expected", "k"] ["actual", "expected"] (defScope (top 16)) := ⟨rfl, rfl, rfl, by decide +kernel, rfl, by decide +kernel, by decide +kernel⟩
theorem ok__law_same {f : Addr} {fd : FuncData} (Fn : FnP K "_law_same" (top 16) f fd) (B : Bi mg) (kp : PySem.W.keepIn K (.ref f) = true) (gm : mg "_law_same" = some (.ref f)) : ∀ n, FnOk P w K mg base CX0 (0 + n) f fd ["actual", "expected"] (Sp0 ⟨K, w⟩ (f__law_same n))
  | 0 => ⟨fun vs H Q E h => (let ⟨N, ds, c, r, e, _⟩ := h; nomatch e), fun A outer s H args us vs Q E _ _ _ _ h => (let ⟨N, ds, c, r, e, _⟩ := h; nomatch e)⟩
  | m + 1 => by
    have crec : Cal P w K mg base "_law_same" (0 + m) ["actual", "expected"] (Sp0 ⟨K, w⟩ (f__law_same m)) := ⟨f, fd, gm, kp, Fn.bindsN (fun _ _ _ _ _ _ us hl => match us, hl with | [_, _], _ => rfl), ok__law_same Fn B kp gm m⟩
    exact ok_def (K := ⟨K, w⟩) Fn sc_16 3 2 rfl rfl fun F cdv A outer s0 H E hK hr => dss_cons (ds_if (dt_cmp op_isN s_isN (de_v 1) (de_non) (nomark _)) (dss_one (ds_ret (de_cmp op_isN s_isN (de_v 0) (de_non) (nomark _)))) (dss_nil)) (dss_cons (ds_if (dt_tru hK (de_isa hK rfl B.b_isinstance (da_cons (de_v 1) (da_cons (de_ty rfl B.b_bool PyProof.Rows.boot_bool) (da_nil))))) (dss_one (ds_ret (de_andT hK (de_isa hK rfl B.b_isinstance (da_cons (de_v 0) (da_cons (de_ty rfl B.b_bool PyProof.Rows.boot_bool) (da_nil)))) (de_one (de_eqx hK hr.units (de_v 0) (de_v 1)))))) (dss_nil)) (dss_cons (ds_if (dt_tru hK (de_isa hK rfl B.b_isinstance (da_cons (de_v 1) (da_cons (de_ty rfl B.b_int PyProof.Rows.boot_int) (da_nil))))) (dss_one (ds_ret (de_andT hK (de_isa hK rfl B.b_isinstance (da_cons (de_v 0) (da_cons (de_ty rfl B.b_int PyProof.Rows.boot_int) (da_nil)))) (de_andT hK (de_notT hK (de_isa hK rfl B.b_isinstance (da_cons (de_v 0) (da_cons (de_ty rfl B.b_bool PyProof.Rows.boot_bool) (da_nil))))) (de_one (de_eqx hK hr.units (de_v 0) (de_v 1))))))) (dss_nil)) (dss_cons (ds_if (dt_tru hK (de_isa hK rfl B.b_isinstance (da_cons (de_v 1) (da_cons (de_ty rfl B.b_str PyProof.Rows.boot_str) (da_nil))))) (dss_one (ds_ret (de_andT hK (de_isa hK rfl B.b_isinstance (da_cons (de_v 0) (da_cons (de_ty rfl B.b_str PyProof.Rows.boot_str) (da_nil)))) (de_one (de_eqx hK hr.units (de_v 0) (de_v 1)))))) (dss_nil)) (dss_cons (ds_if (dt_w (dw_and (dt_tru hK (de_isa hK rfl B.b_isinstance (da_cons (de_v 1) (da_cons (de_ty rfl B.b_tuple PyProof.Rows.boot_tuple) (da_nil))))) (dw_and1 (dt_not (dt_tru hK (de_isa hK rfl B.b_isinstance (da_cons (de_v 0) (da_cons (de_ty rfl B.b_tuple PyProof.Rows.boot_tuple) (da_nil))))))))) (dss_one (ds_ret (de_bl))) (dss_nil)) (dss_cons (ds_if (dt_w (dw_and (dt_tru hK (de_isa hK rfl B.b_isinstance (da_cons (de_v 1) (da_cons (de_ty rfl B.b_list PyProof.Rows.boot_list) (da_nil))))) (dw_and1 (dt_not (dt_tru hK (de_isa hK rfl B.b_isinstance (da_cons (de_v 0) (da_cons (de_ty rfl B.b_list PyProof.Rows.boot_list) (da_nil))))))))) (dss_one (ds_ret (de_bl))) (dss_nil)) (dss_cons (ds_if (dt_nex hK hr.units (de_lenx hK rfl B.b_len (da_cons (de_v 0) (da_nil))) (de_lenx hK rfl B.b_len (da_cons (de_v 1) (da_nil)))) (dss_one (ds_ret (de_bl))) (dss_nil)) (dss_cons (ds_for PassesOwn.never rfl (di_range1 rfl B.b_range (da_cons (de_lenx hK rfl B.b_len (da_cons (de_v 1) (da_nil))) (da_nil))) (dg_name sc_16.nd rfl (by first | exact Or.inl rfl | exact Or.inr rfl)) (dss_one (ds_if (dt_not (dt_tru hK (de_do hK crec hr (Nat.le_refl _) rfl (da_cons (de_ixw hK hr.units (de_v 0) (de_v 2)) (da_cons (de_ixw hK hr.units (de_v 1) (de_v 2)) (da_nil)))))) (dss_one (ds_ret (de_bl))) (dss_nil)))) (dss_one (ds_ret (de_bl))))))))))
theorem sc_27 : FnScope ["graph", "weights", "start", "end", "told", "known", "steps", "node", "goes", "one", "other", "weight", "step", "inner", "entry", "ranks", "rank", "chosen", "lower"] ["graph", "weights", "start", "end", "told"] (defScope (top 27)) := ⟨rfl, rfl, rfl, by decide +kernel, rfl, by decide +kernel, by decide +kernel⟩
theorem ok__law_accepts {f : Addr} {fd : FuncData} (Fn : FnP K "_law_accepts" (top 27) f fd) (B : Bi mg) (c__law_steps : Cal P w K mg base "_law_steps" 1 ["graph"] (Sp0 ⟨K, w⟩ f__law_steps)) (c__law_is : Cal P w K mg base "_law_is" 1 ["told", "word", "count"] (Sp0 ⟨K, w⟩ f__law_is)) (c__law_are_nodes : Cal P w K mg base "_law_are_nodes" 1 ["graph", "nodes"] (Sp0 ⟨K, w⟩ f__law_are_nodes)) (c__law_is_whole : Cal P w K mg base "_law_is_whole" 1 ["value"] (Sp0 ⟨K, w⟩ f__law_is_whole)) (c__law_same : Cal P w K mg base "_law_same" 12 ["actual", "expected"] (Sp0 ⟨K, w⟩ (f__law_same 12))) : FnOk P w K mg base CX0 13 f fd ["graph", "weights", "start", "end", "told"] (Sp0 ⟨K, w⟩ f__law_accepts) :=
  ok_def (K := ⟨K, w⟩) Fn sc_27 19 5 rfl rfl fun F cdv A outer s0 H E hK hr => dss_cons (ds_set (i := 5) sc_27.nd rfl (Or.inl rfl) (de_toDictx hK rfl rfl B.b_dict (da_cons (de_v 1) (da_nil)))) (dss_cons (ds_set (i := 6) sc_27.nd rfl (Or.inl rfl) (de_do hK c__law_steps hr (by first | omega | (simp only [Nat.add_eq]; omega)) rfl (da_cons (de_v 0) (da_nil)))) (dss_cons (ds_if (dt_tru hK (de_do hK c__law_is hr (by first | omega | (simp only [Nat.add_eq]; omega)) rfl (da_cons (de_v 4) (da_cons (de_str) (da_cons (de_int) (da_nil)))))) (dss_cons (ds_if (dt_w (dw_or (dt_not (dt_tru hK (de_do hK c__law_are_nodes hr (by first | omega | (simp only [Nat.add_eq]; omega)) rfl (da_cons (de_v 0) (da_cons (de_ixw hK hr.units (de_v 4) (de_int)) (da_nil)))))) (dw_or (dt_ninw hK hr.units (de_v 2) (de_ixw hK hr.units (de_v 4) (de_int))) (dw_or1 (dt_inw hK hr.units (de_v 3) (de_ixw hK hr.units (de_v 4) (de_int))))))) (dss_one (ds_ret (de_bl))) (dss_nil)) (dss_cons (ds_for PassesOwn.never rfl (di_seq hK (de_ixw hK hr.units (de_v 4) (de_int))) (dg_name sc_27.nd rfl (by first | exact Or.inl rfl | exact Or.inr rfl)) (dss_cons (ds_setLc (i := 8) rfl sc_27.nd rfl rfl (sw_true rfl rfl rfl (by first | rfl | decide +kernel)) (di_seq hK (de_v 6)) (blkOk_by (own := [("one", 9), ("other", 10), ("weight", 11), ("step", 12)]) (N := ["graph", "weights", "start", "end", "told", "known", "steps", "node", "goes", "one", "other", "weight", "step", "inner", "entry", "ranks", "rank", "chosen", "lower"]) (sc := defScope (top 27)) (by decide +kernel)) (fun _ _ _ _ _ => dg_seq hK rfl (dgs_cons (dg_name sc_27.nd rfl (by first | exact Or.inl rfl | exact Or.inr rfl)) (dgs_cons (dg_name sc_27.nd rfl (by first | exact Or.inl rfl | exact Or.inr rfl)) (dgs_cons (dg_name sc_27.nd rfl (by first | exact Or.inl rfl | exact Or.inr rfl)) (dgs_cons (dg_name sc_27.nd rfl (by first | exact Or.inl rfl | exact Or.inr rfl)) (dgs_nil)))))) (fun _ _ _ _ _ => dts_one (dt_eqx hK hr.units (de_v 9) (de_v 7))) (fun _ _ _ _ _ => de_cap (de_v 10)) (by decide)) (dss_cons (ds_setLc (i := 13) rfl sc_27.nd rfl rfl (sw_true rfl rfl rfl (by first | rfl | decide +kernel)) (di_seq hK (de_v 8)) (blkOk_by (own := [("other", 10)]) (N := ["graph", "weights", "start", "end", "told", "known", "steps", "node", "goes", "one", "other", "weight", "step", "inner", "entry", "ranks", "rank", "chosen", "lower"]) (sc := defScope (top 27)) (by decide +kernel)) (fun _ _ _ _ _ => dg_name sc_27.nd rfl (by first | exact Or.inl rfl | exact Or.inr rfl)) (fun _ _ _ _ _ => dts_one (dt_inw hK hr.units (de_v 10) (de_ixw hK hr.units (de_v 4) (de_int)))) (fun _ _ _ _ _ => de_cap (de_v 10)) (by decide)) (dss_one (ds_if (dt_w (dw_or (dt_w (dw_and (dt_eqx hK hr.units (de_mod (de_ixw hK hr.units (de_v 5) (de_v 7)) (de_int)) (de_int)) (dw_and1 (dt_cmp o_lt s_lt (de_lenx hK rfl B.b_len (da_cons (de_v 13) (da_nil))) (de_lenx hK rfl B.b_len (da_cons (de_v 8) (da_nil))) (nomark _))))) (dw_or1 (dt_w (dw_and (dt_eqx hK hr.units (de_mod (de_ixw hK hr.units (de_v 5) (de_v 7)) (de_int)) (de_int)) (dw_and (dt_eqx hK hr.units (de_v 13) (de_lst (da_nil))) (dw_and1 (dt_nex hK hr.units (de_v 8) (de_lst (da_nil)))))))))) (dss_one (ds_ret (de_bl))) (dss_nil)))))) (dss_one (ds_ret (de_bl))))) (dss_nil)) (dss_cons (ds_if (dt_w (dw_or (dt_not (dt_tru hK (de_do hK c__law_is hr (by first | omega | (simp only [Nat.add_eq]; omega)) rfl (da_cons (de_v 4) (da_cons (de_str) (da_cons (de_int) (da_nil))))))) (dw_or (dt_not (dt_tru hK (de_isa hK rfl B.b_isinstance (da_cons (de_ixw hK hr.units (de_v 4) (de_int)) (da_cons (de_ty rfl B.b_tuple PyProof.Rows.boot_tuple) (da_nil)))))) (dw_or1 (dt_nex hK hr.units (de_lc rfl sc_27.nd (di_seq hK (de_ixw hK hr.units (de_v 4) (de_int))) (blkOk_by (own := [("entry", 14)]) (N := ["graph", "weights", "start", "end", "told", "known", "steps", "node", "goes", "one", "other", "weight", "step", "inner", "entry", "ranks", "rank", "chosen", "lower"]) (sc := defScope (top 27)) (by decide +kernel)) (fun _ _ _ _ _ => dg_name sc_27.nd rfl (by first | exact Or.inl rfl | exact Or.inr rfl)) (fun _ _ _ _ _ => dts_one (dt_w (dw_or (dt_not (dt_tru hK (de_isa hK rfl B.b_isinstance (da_cons (de_v 14) (da_cons (de_ty rfl B.b_tuple PyProof.Rows.boot_tuple) (da_nil)))))) (dw_or1 (dt_nex hK hr.units (de_lenx hK rfl B.b_len (da_cons (de_v 14) (da_nil))) (de_int)))))) (fun _ _ _ _ _ => de_cap (de_v 14)) (by decide)) (de_lst (da_nil))))))) (dss_one (ds_ret (de_bl))) (dss_nil)) (dss_cons (ds_if (dt_w (dw_or (dt_not (dt_tru hK (de_do hK c__law_are_nodes hr (by first | omega | (simp only [Nat.add_eq]; omega)) rfl (da_cons (de_v 0) (da_cons (de_toTup hK rfl B.b_tuple (da_cons (de_lc rfl sc_27.nd (di_seq hK (de_ixw hK hr.units (de_v 4) (de_int))) (blkOk_by (own := [("entry", 14)]) (N := ["graph", "weights", "start", "end", "told", "known", "steps", "node", "goes", "one", "other", "weight", "step", "inner", "entry", "ranks", "rank", "chosen", "lower"]) (sc := defScope (top 27)) (by decide +kernel)) (fun _ _ _ _ _ => dg_name sc_27.nd rfl (by first | exact Or.inl rfl | exact Or.inr rfl)) (fun _ _ _ _ _ => dts_nil) (fun _ _ _ _ _ => de_ixw hK hr.units (de_v 14) (de_int)) (by decide)) (da_nil))) (da_nil)))))) (dw_or1 (dt_nex hK hr.units (de_lc rfl sc_27.nd (di_seq hK (de_ixw hK hr.units (de_v 4) (de_int))) (blkOk_by (own := [("entry", 14)]) (N := ["graph", "weights", "start", "end", "told", "known", "steps", "node", "goes", "one", "other", "weight", "step", "inner", "entry", "ranks", "rank", "chosen", "lower"]) (sc := defScope (top 27)) (by decide +kernel)) (fun _ _ _ _ _ => dg_name sc_27.nd rfl (by first | exact Or.inl rfl | exact Or.inr rfl)) (fun _ _ _ _ _ => dts_one (dt_w (dw_or (dt_not (dt_tru hK (de_do hK c__law_is_whole hr (by first | omega | (simp only [Nat.add_eq]; omega)) rfl (da_cons (de_ixw hK hr.units (de_v 14) (de_int)) (da_nil))))) (dw_or (dt_cmp o_lt s_lt (de_ixw hK hr.units (de_v 14) (de_int)) (de_int) (nomark _)) (dw_or1 (dt_eqx hK hr.units (de_ixw hK hr.units (de_v 14) (de_int)) (de_v 3))))))) (fun _ _ _ _ _ => de_cap (de_v 14)) (by decide)) (de_lst (da_nil)))))) (dss_one (ds_ret (de_bl))) (dss_nil)) (dss_cons (ds_set (i := 15) sc_27.nd rfl (Or.inr rfl) (de_toDictx hK rfl rfl B.b_dict (da_cons (de_add (de_lc rfl sc_27.nd (di_seq hK (de_ixw hK hr.units (de_v 4) (de_int))) (blkOk_by (own := [("entry", 14)]) (N := ["graph", "weights", "start", "end", "told", "known", "steps", "node", "goes", "one", "other", "weight", "step", "inner", "entry", "ranks", "rank", "chosen", "lower"]) (sc := defScope (top 27)) (by decide +kernel)) (fun _ _ _ _ _ => dg_name sc_27.nd rfl (by first | exact Or.inl rfl | exact Or.inr rfl)) (fun _ _ _ _ _ => dts_nil) (fun _ _ _ _ _ => de_tup (da_cons (de_ixw hK hr.units (de_v 14) (de_int)) (da_cons (de_ixw hK hr.units (de_v 14) (de_int)) (da_nil)))) (by decide)) (de_lst (da_cons (de_tup (da_cons (de_cap (de_v 3)) (da_cons (de_int) (da_nil)))) (da_nil))) hK) (da_nil)))) (dss_cons (ds_if (dt_ninw hK hr.units (de_v 2) (de_v 15)) (dss_one (ds_ret (de_bl))) (dss_nil)) (dss_cons (ds_for PassesOwn.never rfl (di_seq hK (de_ixw hK hr.units (de_v 4) (de_int))) (dg_seq hK rfl (dgs_cons (dg_name sc_27.nd rfl (by first | exact Or.inl rfl | exact Or.inr rfl)) (dgs_cons (dg_name sc_27.nd rfl (by first | exact Or.inl rfl | exact Or.inr rfl)) (dgs_cons (dg_name sc_27.nd rfl (by first | exact Or.inl rfl | exact Or.inr rfl)) (dgs_nil))))) (dss_cons (ds_setLc (i := 8) rfl sc_27.nd rfl rfl (sw_true rfl rfl rfl (by first | rfl | decide +kernel)) (di_seq hK (de_v 6)) (blkOk_by (own := [("one", 9), ("other", 10), ("weight", 11), ("step", 12)]) (N := ["graph", "weights", "start", "end", "told", "known", "steps", "node", "goes", "one", "other", "weight", "step", "inner", "entry", "ranks", "rank", "chosen", "lower"]) (sc := defScope (top 27)) (by decide +kernel)) (fun _ _ _ _ _ => dg_seq hK rfl (dgs_cons (dg_name sc_27.nd rfl (by first | exact Or.inl rfl | exact Or.inr rfl)) (dgs_cons (dg_name sc_27.nd rfl (by first | exact Or.inl rfl | exact Or.inr rfl)) (dgs_cons (dg_name sc_27.nd rfl (by first | exact Or.inl rfl | exact Or.inr rfl)) (dgs_cons (dg_name sc_27.nd rfl (by first | exact Or.inl rfl | exact Or.inr rfl)) (dgs_nil)))))) (fun _ _ _ _ _ => dts_one (dt_eqx hK hr.units (de_v 9) (de_v 7))) (fun _ _ _ _ _ => de_tup (da_cons (de_cap (de_v 10)) (da_cons (de_cap (de_v 12)) (da_nil)))) (by decide)) (dss_cons (ds_setLc (i := 18) rfl sc_27.nd rfl rfl (sw_true rfl rfl rfl (by first | rfl | decide +kernel)) (di_seq hK (de_v 8)) (blkOk_by (own := [("other", 10), ("step", 12)]) (N := ["graph", "weights", "start", "end", "told", "known", "steps", "node", "goes", "one", "other", "weight", "step", "inner", "entry", "ranks", "rank", "chosen", "lower"]) (sc := defScope (top 27)) (by decide +kernel)) (fun _ _ _ _ _ => dg_seq hK rfl (dgs_cons (dg_name sc_27.nd rfl (by first | exact Or.inl rfl | exact Or.inr rfl)) (dgs_cons (dg_name sc_27.nd rfl (by first | exact Or.inl rfl | exact Or.inr rfl)) (dgs_nil)))) (fun _ _ _ _ _ => dts_one (dt_w (dw_and (dt_inw hK hr.units (de_v 10) (de_v 15)) (dw_and1 (dt_cmp o_lt s_lt (de_ixw hK hr.units (de_v 15) (de_v 10)) (de_v 16) (nomark _)))))) (fun _ _ _ _ _ => de_cap (de_v 12)) (by decide)) (dss_cons (ds_if (dt_w (dw_and (dt_eqx hK hr.units (de_mod (de_ixw hK hr.units (de_v 5) (de_v 7)) (de_int)) (de_int)) (dw_and1 (dt_eqx hK hr.units (de_lc rfl sc_27.nd (di_seq hK (de_v 18)) (blkOk_by (own := [("step", 12)]) (N := ["graph", "weights", "start", "end", "told", "known", "steps", "node", "goes", "one", "other", "weight", "step", "inner", "entry", "ranks", "rank", "chosen", "lower"]) (sc := defScope (top 27)) (by decide +kernel)) (fun _ _ _ _ _ => dg_name sc_27.nd rfl (by first | exact Or.inl rfl | exact Or.inr rfl)) (fun _ _ _ _ _ => dts_one (dt_tru hK (de_do hK c__law_same hr (by first | omega | (simp only [Nat.add_eq]; omega)) rfl (da_cons (de_v 12) (da_cons (de_v 17) (da_nil)))))) (fun _ _ _ _ _ => de_cap (de_v 12)) (by decide)) (de_lst (da_nil)))))) (dss_one (ds_ret (de_bl))) (dss_nil)) (dss_one (ds_if (dt_w (dw_and (dt_eqx hK hr.units (de_mod (de_ixw hK hr.units (de_v 5) (de_v 7)) (de_int)) (de_int)) (dw_and1 (dt_w (dw_or (dt_cmp op_notN s_notN (de_v 17) (de_non) (nomark _)) (dw_or (dt_eqx hK hr.units (de_v 8) (de_lst (da_nil))) (dw_or1 (dt_cmp o_lt s_lt (de_lenx hK rfl B.b_len (da_cons (de_v 18) (da_nil))) (de_lenx hK rfl B.b_len (da_cons (de_v 8) (da_nil))) (nomark _))))))))) (dss_one (ds_ret (de_bl))) (dss_nil))))))) (dss_one (ds_ret (de_bl))))))))))
theorem sc_4 : FnScope ["told", "words", "count"] ["told", "words", "count"] (defScope (top 4)) := ⟨rfl, rfl, rfl, by decide +kernel, rfl, by decide +kernel, by decide +kernel⟩
theorem ok_is_told {f : Addr} {fd : FuncData} (Fn : FnP K "is_told" (top 4) f fd) (B : Bi mg) : FnOk P w K mg base CX0 1 f fd ["told", "words", "count"] (Sp0 ⟨K, w⟩ f_is_told) :=
  ok_def (K := ⟨K, w⟩) Fn sc_4 3 3 rfl rfl fun F cdv A outer s0 H E hK hr => dss_cons (ds_if (dt_w (dw_or (dt_not (dt_tru hK (de_isa hK rfl B.b_isinstance (da_cons (de_v 0) (da_cons (de_ty rfl B.b_tuple PyProof.Rows.boot_tuple) (da_nil)))))) (dw_or1 (dt_nex hK hr.units (de_lenx hK rfl B.b_len (da_cons (de_v 0) (da_nil))) (de_v 2))))) (dss_one (ds_ret (de_bl))) (dss_nil)) (dss_one (ds_ret (de_andT hK (de_isa hK rfl B.b_isinstance (da_cons (de_ixw hK hr.units (de_v 0) (de_int)) (da_cons (de_ty rfl B.b_str PyProof.Rows.boot_str) (da_nil)))) (de_one (de_inw hK hr.units (de_ixw hK hr.units (de_v 0) (de_int)) (de_v 1))))))
theorem sc_5 : FnScope ["graph", "nodes", "node"] ["graph", "nodes"] (defScope (top 5)) := ⟨rfl, rfl, rfl, by decide +kernel, rfl, by decide +kernel, by decide +kernel⟩
theorem ok_are_nodes {f : Addr} {fd : FuncData} (Fn : FnP K "are_nodes" (top 5) f fd) (B : Bi mg) : FnOk P w K mg base CX0 1 f fd ["graph", "nodes"] (Sp0 ⟨K, w⟩ f_are_nodes) :=
  ok_def (K := ⟨K, w⟩) Fn sc_5 3 2 rfl rfl fun F cdv A outer s0 H E hK hr => dss_cons (ds_if (dt_w (dw_or (dt_not (dt_tru hK (de_isa hK rfl B.b_isinstance (da_cons (de_v 1) (da_cons (de_ty rfl B.b_tuple PyProof.Rows.boot_tuple) (da_nil)))))) (dw_or1 (dt_inw hK hr.units (de_bl) (de_lc rfl sc_5.nd (di_seq hK (de_v 1)) (blkOk_by (own := [("node", 2)]) (N := ["graph", "nodes", "node"]) (sc := defScope (top 5)) (by decide +kernel)) (fun _ _ _ _ _ => dg_name sc_5.nd rfl (by first | exact Or.inl rfl | exact Or.inr rfl)) (fun _ _ _ _ _ => dts_nil) (fun _ _ _ _ _ => de_cap (de_andT hK (de_isa hK rfl B.b_isinstance (da_cons (de_v 2) (da_cons (de_ty rfl B.b_str PyProof.Rows.boot_str) (da_nil)))) (de_one (de_inw hK hr.units (de_v 2) (de_ixw hK hr.units (de_v 0) (de_int)))))) (by decide)))))) (dss_one (ds_ret (de_bl))) (dss_nil)) (dss_one (ds_ret (de_eqx hK hr.units (de_toList hK rfl B.b_list (da_cons (de_v 1) (da_nil))) (de_sortSet hK rfl hr.units rfl B.b_sorted rfl B.b_set (de_v 1)))))
theorem sc_12 : FnScope ["weights", "steps", "node", "nodes", "inner", "other", "_"] ["weights", "steps", "node", "nodes"] (defScope (top 12)) := ⟨rfl, rfl, rfl, by decide +kernel, rfl, by decide +kernel, by decide +kernel⟩
theorem ok_holds {f : Addr} {fd : FuncData} (Fn : FnP K "holds" (top 12) f fd) (B : Bi mg) (c_is_first : Cal P w K mg base "is_first" 1 ["weights", "node"] (Sp0 ⟨K, w⟩ f_is_first)) : FnOk P w K mg base CX0 2 f fd ["weights", "steps", "node", "nodes"] (Sp0 ⟨K, w⟩ f_holds) :=
  ok_def (K := ⟨K, w⟩) Fn sc_12 7 4 rfl rfl fun F cdv A outer s0 H E hK hr => dss_cons (ds_setLc (i := 4) rfl sc_12.nd rfl rfl (sw_true rfl rfl rfl (by first | rfl | decide +kernel)) (di_seq hK (de_ixw hK hr.units (de_v 1) (de_v 2))) (blkOk_by (own := [("other", 5), ("_", 6)]) (N := ["weights", "steps", "node", "nodes", "inner", "other", "_"]) (sc := defScope (top 12)) (by decide +kernel)) (fun _ _ _ _ _ => dg_seq hK rfl (dgs_cons (dg_name sc_12.nd rfl (by first | exact Or.inl rfl | exact Or.inr rfl)) (dgs_cons (dg_name sc_12.nd rfl (by first | exact Or.inl rfl | exact Or.inr rfl)) (dgs_nil)))) (fun _ _ _ _ _ => dts_one (dt_inw hK hr.units (de_v 5) (de_v 3))) (fun _ _ _ _ _ => de_cap (de_v 5)) (by decide)) (dss_cons (ds_if (dt_tru hK (de_do hK c_is_first hr (by first | omega | (simp only [Nat.add_eq]; omega)) rfl (da_cons (de_v 0) (da_cons (de_v 2) (da_nil))))) (dss_one (ds_ret (de_eqx hK hr.units (de_lenx hK rfl B.b_len (da_cons (de_v 4) (da_nil))) (de_lenx hK rfl B.b_len (da_cons (de_ixw hK hr.units (de_v 1) (de_v 2)) (da_nil)))))) (dss_nil)) (dss_one (ds_ret (de_orT hK (de_cmp op_gt s_gt (de_lenx hK rfl B.b_len (da_cons (de_v 4) (da_nil))) (de_int) (nomark _)) (de_one (de_eqx hK hr.units (de_lenx hK rfl B.b_len (da_cons (de_ixw hK hr.units (de_v 1) (de_v 2)) (da_nil))) (de_int)))))))
theorem sc_3 : FnScope ["value"] ["value"] (defScope (top 3)) := ⟨rfl, rfl, rfl, by decide +kernel, rfl, by decide +kernel, by decide +kernel⟩
theorem ok_is_whole {f : Addr} {fd : FuncData} (Fn : FnP K "is_whole" (top 3) f fd) (B : Bi mg) : FnOk P w K mg base CX0 1 f fd ["value"] (Sp0 ⟨K, w⟩ f_is_whole) :=
  ok_def (K := ⟨K, w⟩) Fn sc_3 1 1 rfl rfl fun F cdv A outer s0 H E hK hr => dss_one (ds_ret (de_andT hK (de_isa hK rfl B.b_isinstance (da_cons (de_v 0) (da_cons (de_ty rfl B.b_int PyProof.Rows.boot_int) (da_nil)))) (de_one (de_notT hK (de_isa hK rfl B.b_isinstance (da_cons (de_v 0) (da_cons (de_ty rfl B.b_bool PyProof.Rows.boot_bool) (da_nil))))))))
theorem sc_6 : FnScope ["step"] ["step"] (defScope (top 6)) := ⟨rfl, rfl, rfl, by decide +kernel, rfl, by decide +kernel, by decide +kernel⟩
theorem ok_is_step {f : Addr} {fd : FuncData} (Fn : FnP K "is_step" (top 6) f fd) (B : Bi mg) : FnOk P w K mg base CX0 1 f fd ["step"] (Sp0 ⟨K, w⟩ f_is_step) :=
  ok_def (K := ⟨K, w⟩) Fn sc_6 1 1 rfl rfl fun F cdv A outer s0 H E hK hr => dss_one (ds_ret (de_andT hK (de_isa hK rfl B.b_isinstance (da_cons (de_v 0) (da_cons (de_ty rfl B.b_tuple PyProof.Rows.boot_tuple) (da_nil)))) (de_andT hK (de_eqx hK hr.units (de_lenx hK rfl B.b_len (da_cons (de_v 0) (da_nil))) (de_int)) (de_andT hK (de_isa hK rfl B.b_isinstance (da_cons (de_ixw hK hr.units (de_v 0) (de_int)) (da_cons (de_ty rfl B.b_str PyProof.Rows.boot_str) (da_nil)))) (de_one (de_isa hK rfl B.b_isinstance (da_cons (de_ixw hK hr.units (de_v 0) (de_int)) (da_cons (de_ty rfl B.b_bool PyProof.Rows.boot_bool) (da_nil)))))))))
theorem sc_13 : FnScope ["weights", "steps", "ranks", "entry", "node", "rank", "chosen", "lower", "other", "step"] ["weights", "steps", "ranks", "entry"] (defScope (top 13)) := ⟨rfl, rfl, rfl, by decide +kernel, rfl, by decide +kernel, by decide +kernel⟩
theorem ok_leads {f : Addr} {fd : FuncData} (Fn : FnP K "leads" (top 13) f fd) (B : Bi mg) (c_is_first : Cal P w K mg base "is_first" 1 ["weights", "node"] (Sp0 ⟨K, w⟩ f_is_first)) (c_is_step : Cal P w K mg base "is_step" 1 ["step"] (Sp0 ⟨K, w⟩ f_is_step)) : FnOk P w K mg base CX0 2 f fd ["weights", "steps", "ranks", "entry"] (Sp0 ⟨K, w⟩ f_leads) :=
  ok_def (K := ⟨K, w⟩) Fn sc_13 10 4 rfl rfl fun F cdv A outer s0 H E hK hr => dss_cons (ds_asg (de_v 3) (dg_seq hK rfl (dgs_cons (dg_name sc_13.nd rfl (by first | exact Or.inl rfl | exact Or.inr rfl)) (dgs_cons (dg_name sc_13.nd rfl (by first | exact Or.inl rfl | exact Or.inr rfl)) (dgs_cons (dg_name sc_13.nd rfl (by first | exact Or.inl rfl | exact Or.inr rfl)) (dgs_nil)))))) (dss_cons (ds_setLc (i := 7) rfl sc_13.nd rfl rfl (sw_true rfl rfl rfl (by first | rfl | decide +kernel)) (di_seq hK (de_ixw hK hr.units (de_v 1) (de_v 4))) (blkOk_by (own := [("other", 8), ("step", 9)]) (N := ["weights", "steps", "ranks", "entry", "node", "rank", "chosen", "lower", "other", "step"]) (sc := defScope (top 13)) (by decide +kernel)) (fun _ _ _ _ _ => dg_seq hK rfl (dgs_cons (dg_name sc_13.nd rfl (by first | exact Or.inl rfl | exact Or.inr rfl)) (dgs_cons (dg_name sc_13.nd rfl (by first | exact Or.inl rfl | exact Or.inr rfl)) (dgs_nil)))) (fun _ _ _ _ _ => dts_one (dt_w (dw_and (dt_inw hK hr.units (de_v 8) (de_v 2)) (dw_and1 (dt_cmp o_lt s_lt (de_ixw hK hr.units (de_v 2) (de_v 8)) (de_v 5) (nomark _)))))) (fun _ _ _ _ _ => de_cap (de_v 9)) (by decide)) (dss_cons (ds_if (dt_tru hK (de_do hK c_is_first hr (by first | omega | (simp only [Nat.add_eq]; omega)) rfl (da_cons (de_v 0) (da_cons (de_v 4) (da_nil))))) (dss_one (ds_ret (de_andT hK (de_do hK c_is_step hr (by first | omega | (simp only [Nat.add_eq]; omega)) rfl (da_cons (de_v 6) (da_nil))) (de_one (de_inw hK hr.units (de_v 6) (de_v 7)))))) (dss_nil)) (dss_one (ds_ret (de_andT hK (de_cmp op_isN s_isN (de_v 6) (de_non) (nomark _)) (de_one (de_chain op_eq s_eq op_gt s_gt (de_lenx hK rfl B.b_len (da_cons (de_v 7) (da_nil))) (de_lenx hK rfl B.b_len (da_cons (de_ixw hK hr.units (de_v 1) (de_v 4)) (da_nil))) (de_int))))))))
theorem sc_11 : FnScope ["graph", "told", "start", "end", "paper", "weights", "steps", "node", "entry", "ranks", "rank", "_"] ["graph", "told", "start", "end", "paper"] (defScope (top 11)) := ⟨rfl, rfl, rfl, by decide +kernel, rfl, by decide +kernel, by decide +kernel⟩
theorem ok_judge_coming {f : Addr} {fd : FuncData} (Fn : FnP K "judge_coming" (top 11) f fd) (B : Bi mg) (c_steps_from : Cal P w K mg base "steps_from" 2 ["graph"] (Sp0 ⟨K, w⟩ f_steps_from)) (c_is_told : Cal P w K mg base "is_told" 1 ["told", "words", "count"] (Sp0 ⟨K, w⟩ f_is_told)) (c_are_nodes : Cal P w K mg base "are_nodes" 1 ["graph", "nodes"] (Sp0 ⟨K, w⟩ f_are_nodes)) (c_holds : Cal P w K mg base "holds" 2 ["weights", "steps", "node", "nodes"] (Sp0 ⟨K, w⟩ f_holds)) (c_is_whole : Cal P w K mg base "is_whole" 1 ["value"] (Sp0 ⟨K, w⟩ f_is_whole)) (c_leads : Cal P w K mg base "leads" 2 ["weights", "steps", "ranks", "entry"] (Sp0 ⟨K, w⟩ f_leads)) : FnOk P w K mg base CX0 3 f fd ["graph", "told", "start", "end", "paper"] (Sp0 ⟨K, w⟩ f_judge_coming) :=
  ok_def (K := ⟨K, w⟩) Fn sc_11 12 5 rfl rfl fun F cdv A outer s0 H E hK hr => dss_cons (ds_set (i := 5) sc_11.nd rfl (Or.inr rfl) (de_toDictx hK rfl rfl B.b_dict (da_cons (de_v 1) (da_nil)))) (dss_cons (ds_set (i := 6) sc_11.nd rfl (Or.inr rfl) (de_do hK c_steps_from hr (by first | omega | (simp only [Nat.add_eq]; omega)) rfl (da_cons (de_v 0) (da_nil)))) (dss_cons (ds_if (dt_tru hK (de_do hK c_is_told hr (by first | omega | (simp only [Nat.add_eq]; omega)) rfl (da_cons (de_v 4) (da_cons (de_tup (da_cons (de_str) (da_nil))) (da_cons (de_int) (da_nil)))))) (dss_cons (ds_if (dt_w (dw_or (dt_not (dt_tru hK (de_do hK c_are_nodes hr (by first | omega | (simp only [Nat.add_eq]; omega)) rfl (da_cons (de_v 0) (da_cons (de_ixw hK hr.units (de_v 4) (de_int)) (da_nil)))))) (dw_or (dt_ninw hK hr.units (de_v 2) (de_ixw hK hr.units (de_v 4) (de_int))) (dw_or1 (dt_inw hK hr.units (de_v 3) (de_ixw hK hr.units (de_v 4) (de_int))))))) (dss_one (ds_ret (de_bl))) (dss_nil)) (dss_one (ds_ret (de_ninw hK hr.units (de_bl) (de_lc rfl sc_11.nd (di_seq hK (de_ixw hK hr.units (de_v 4) (de_int))) (blkOk_by (own := [("node", 7)]) (N := ["graph", "told", "start", "end", "paper", "weights", "steps", "node", "entry", "ranks", "rank", "_"]) (sc := defScope (top 11)) (by decide +kernel)) (fun _ _ _ _ _ => dg_name sc_11.nd rfl (by first | exact Or.inl rfl | exact Or.inr rfl)) (fun _ _ _ _ _ => dts_nil) (fun _ _ _ _ _ => de_do hK c_holds hr (by first | omega | (simp only [Nat.add_eq]; omega)) rfl (da_cons (de_v 5) (da_cons (de_v 6) (da_cons (de_v 7) (da_cons (de_ixw hK hr.units (de_v 4) (de_int)) (da_nil)))))) (by decide)))))) (dss_nil)) (dss_cons (ds_if (dt_w (dw_or (dt_not (dt_tru hK (de_do hK c_is_told hr (by first | omega | (simp only [Nat.add_eq]; omega)) rfl (da_cons (de_v 4) (da_cons (de_tup (da_cons (de_str) (da_nil))) (da_cons (de_int) (da_nil))))))) (dw_or1 (dt_not (dt_tru hK (de_isa hK rfl B.b_isinstance (da_cons (de_ixw hK hr.units (de_v 4) (de_int)) (da_cons (de_ty rfl B.b_tuple PyProof.Rows.boot_tuple) (da_nil))))))))) (dss_one (ds_ret (de_bl))) (dss_nil)) (dss_cons (ds_if (dt_inw hK hr.units (de_bl) (de_lc rfl sc_11.nd (di_seq hK (de_ixw hK hr.units (de_v 4) (de_int))) (blkOk_by (own := [("entry", 8)]) (N := ["graph", "told", "start", "end", "paper", "weights", "steps", "node", "entry", "ranks", "rank", "_"]) (sc := defScope (top 11)) (by decide +kernel)) (fun _ _ _ _ _ => dg_name sc_11.nd rfl (by first | exact Or.inl rfl | exact Or.inr rfl)) (fun _ _ _ _ _ => dts_nil) (fun _ _ _ _ _ => de_cap (de_andT hK (de_isa hK rfl B.b_isinstance (da_cons (de_v 8) (da_cons (de_ty rfl B.b_tuple PyProof.Rows.boot_tuple) (da_nil)))) (de_one (de_eqx hK hr.units (de_lenx hK rfl B.b_len (da_cons (de_v 8) (da_nil))) (de_int))))) (by decide))) (dss_one (ds_ret (de_bl))) (dss_nil)) (dss_cons (ds_if (dt_not (dt_tru hK (de_do hK c_are_nodes hr (by first | omega | (simp only [Nat.add_eq]; omega)) rfl (da_cons (de_v 0) (da_cons (de_toTup hK rfl B.b_tuple (da_cons (de_lc rfl sc_11.nd (di_seq hK (de_ixw hK hr.units (de_v 4) (de_int))) (blkOk_by (own := [("entry", 8)]) (N := ["graph", "told", "start", "end", "paper", "weights", "steps", "node", "entry", "ranks", "rank", "_"]) (sc := defScope (top 11)) (by decide +kernel)) (fun _ _ _ _ _ => dg_name sc_11.nd rfl (by first | exact Or.inl rfl | exact Or.inr rfl)) (fun _ _ _ _ _ => dts_nil) (fun _ _ _ _ _ => de_ixw hK hr.units (de_v 8) (de_int)) (by decide)) (da_nil))) (da_nil)))))) (dss_one (ds_ret (de_bl))) (dss_nil)) (dss_cons (ds_if (dt_inw hK hr.units (de_bl) (de_lc rfl sc_11.nd (di_seq hK (de_ixw hK hr.units (de_v 4) (de_int))) (blkOk_by (own := [("entry", 8)]) (N := ["graph", "told", "start", "end", "paper", "weights", "steps", "node", "entry", "ranks", "rank", "_"]) (sc := defScope (top 11)) (by decide +kernel)) (fun _ _ _ _ _ => dg_name sc_11.nd rfl (by first | exact Or.inl rfl | exact Or.inr rfl)) (fun _ _ _ _ _ => dts_nil) (fun _ _ _ _ _ => de_do hK c_is_whole hr (by first | omega | (simp only [Nat.add_eq]; omega)) rfl (da_cons (de_ixw hK hr.units (de_v 8) (de_int)) (da_nil))) (by decide))) (dss_one (ds_ret (de_bl))) (dss_nil)) (dss_cons (ds_set (i := 9) sc_11.nd rfl (Or.inr rfl) (de_dc hK hr.units rfl sc_11.nd (di_seq hK (de_ixw hK hr.units (de_v 4) (de_int))) (blkOk_by (own := [("node", 7), ("rank", 10), ("_", 11)]) (N := ["graph", "told", "start", "end", "paper", "weights", "steps", "node", "entry", "ranks", "rank", "_"]) (sc := defScope (top 11)) (by decide +kernel)) (fun _ _ _ _ _ => dg_seq hK rfl (dgs_cons (dg_name sc_11.nd rfl (by first | exact Or.inl rfl | exact Or.inr rfl)) (dgs_cons (dg_name sc_11.nd rfl (by first | exact Or.inl rfl | exact Or.inr rfl)) (dgs_cons (dg_name sc_11.nd rfl (by first | exact Or.inl rfl | exact Or.inr rfl)) (dgs_nil))))) (fun _ _ _ _ _ => dts_nil) (fun _ _ _ _ _ => de_v 7) (fun _ _ _ _ _ => de_cap (de_v 10)) (by decide))) (dss_cons (ds_if (dt_w (dw_or (dt_inw hK hr.units (de_v 3) (de_v 9)) (dw_or (dt_inw hK hr.units (de_bl) (de_valsC hK rfl sc_11.nd (pv 9) (blkOk_by (own := [("rank", 10)]) (N := ["graph", "told", "start", "end", "paper", "weights", "steps", "node", "entry", "ranks", "rank", "_"]) (sc := defScope (top 11)) (by decide +kernel)) (fun _ _ _ _ _ => pg_name sc_11.nd rfl (by first | exact Or.inl rfl | exact Or.inr rfl)) (fun F hK _ _ _ _ _ => de_cmp o_lt s_lt (de_v 10) (de_int) (nomark _)))) (dw_or1 (dt_w (dw_and (dt_nex hK hr.units (de_v 2) (de_v 3)) (dw_and1 (dt_ninw hK hr.units (de_v 2) (de_v 9))))))))) (dss_one (ds_ret (de_bl))) (dss_nil)) (dss_cons (ds_setX hr.units (de_int) (pv 9) (de_v 3)) (dss_one (ds_ret (de_ninw hK hr.units (de_bl) (de_lc rfl sc_11.nd (di_seq hK (de_ixw hK hr.units (de_v 4) (de_int))) (blkOk_by (own := [("entry", 8)]) (N := ["graph", "told", "start", "end", "paper", "weights", "steps", "node", "entry", "ranks", "rank", "_"]) (sc := defScope (top 11)) (by decide +kernel)) (fun _ _ _ _ _ => dg_name sc_11.nd rfl (by first | exact Or.inl rfl | exact Or.inr rfl)) (fun _ _ _ _ _ => dts_nil) (fun _ _ _ _ _ => de_do hK c_leads hr (by first | omega | (simp only [Nat.add_eq]; omega)) rfl (da_cons (de_v 5) (da_cons (de_v 6) (da_cons (de_v 9) (da_cons (de_v 8) (da_nil)))))) (by decide))))))))))))))
theorem sc_23 : FnScope ["value", "found", "part", "atom"] ["value"] (defScope (top 23)) := ⟨rfl, rfl, rfl, by decide +kernel, rfl, by decide +kernel, by decide +kernel⟩
theorem ok__law_atoms {f : Addr} {fd : FuncData} (Fn : FnP K "_law_atoms" (top 23) f fd) (B : Bi mg) (kp : PySem.W.keepIn K (.ref f) = true) (gm : mg "_law_atoms" = some (.ref f)) : ∀ n, FnOk P w K mg base CX0 (0 + n) f fd ["value"] (Sp0 ⟨K, w⟩ (f__law_atoms n))
  | 0 => ⟨fun vs H Q E h => (let ⟨N, ds, c, r, e, _⟩ := h; nomatch e), fun A outer s H args us vs Q E _ _ _ _ h => (let ⟨N, ds, c, r, e, _⟩ := h; nomatch e)⟩
  | m + 1 => by
    have crec : Cal P w K mg base "_law_atoms" (0 + m) ["value"] (Sp0 ⟨K, w⟩ (f__law_atoms m)) := ⟨f, fd, gm, kp, Fn.bindsN (fun _ _ _ _ _ _ us hl => match us, hl with | [_], _ => rfl), ok__law_atoms Fn B kp gm m⟩
    exact ok_def (K := ⟨K, w⟩) Fn sc_23 4 1 rfl rfl fun F cdv A outer s0 H E hK hr => dss_cons (ds_if (dt_w (dw_or (dt_tru hK (de_isa hK rfl B.b_isinstance (da_cons (de_v 0) (da_cons (de_ty rfl B.b_bool PyProof.Rows.boot_bool) (da_nil))))) (dw_or1 (dt_not (dt_tru hK (de_isa hK rfl B.b_isinstance (da_cons (de_v 0) (da_cons (de_tup (da_cons (de_ty rfl B.b_str PyProof.Rows.boot_str) (da_cons (de_ty rfl B.b_int PyProof.Rows.boot_int) (da_cons (de_ty rfl B.b_tuple PyProof.Rows.boot_tuple) (da_nil))))) (da_nil))))))))) (dss_one (ds_ret (de_lst (da_nil)))) (dss_nil)) (dss_cons (ds_if (dt_tru hK (de_isa hK rfl B.b_isinstance (da_cons (de_v 0) (da_cons (de_tup (da_cons (de_ty rfl B.b_str PyProof.Rows.boot_str) (da_cons (de_ty rfl B.b_int PyProof.Rows.boot_int) (da_nil)))) (da_nil))))) (dss_one (ds_ret (de_lst (da_cons (de_cap (de_v 0)) (da_nil))))) (dss_nil)) (dss_cons (ds_set (i := 1) sc_23.nd rfl (Or.inr rfl) (de_lst (da_nil))) (dss_cons (ds_for PassesOwn.never rfl (di_seq hK (de_v 0)) (dg_name sc_23.nd rfl (by first | exact Or.inl rfl | exact Or.inr rfl)) (dss_one (ds_set (i := 1) sc_23.nd rfl (Or.inr rfl) (de_add (de_v 1) (de_lc rfl sc_23.nd (di_seq hK (de_do hK crec hr (Nat.le_refl _) rfl (da_cons (de_v 2) (da_nil)))) (blkOk_by (own := [("atom", 3)]) (N := ["value", "found", "part", "atom"]) (sc := defScope (top 23)) (by decide +kernel)) (fun _ _ _ _ _ => dg_name sc_23.nd rfl (by first | exact Or.inl rfl | exact Or.inr rfl)) (fun _ _ _ _ _ => dts_one (dt_ninw hK hr.units (de_v 3) (de_v 1))) (fun _ _ _ _ _ => de_cap (de_v 3)) (by decide)) hK)))) (dss_one (ds_ret (de_v 1))))))
theorem sc_24 : FnScope ["value", "one", "other", "part"] ["value", "one", "other"] (defScope (top 24)) := ⟨rfl, rfl, rfl, by decide +kernel, rfl, by decide +kernel, by decide +kernel⟩
theorem ok__law_exchanged {f : Addr} {fd : FuncData} (Fn : FnP K "_law_exchanged" (top 24) f fd) (B : Bi mg) (kp : PySem.W.keepIn K (.ref f) = true) (gm : mg "_law_exchanged" = some (.ref f)) : ∀ n, FnOk P w K mg base CX0 (0 + n) f fd ["value", "one", "other"] (Sp0 ⟨K, w⟩ (f__law_exchanged n))
  | 0 => ⟨fun vs H Q E h => (let ⟨N, ds, c, r, e, _⟩ := h; nomatch e), fun A outer s H args us vs Q E _ _ _ _ h => (let ⟨N, ds, c, r, e, _⟩ := h; nomatch e)⟩
  | m + 1 => by
    have crec : Cal P w K mg base "_law_exchanged" (0 + m) ["value", "one", "other"] (Sp0 ⟨K, w⟩ (f__law_exchanged m)) := ⟨f, fd, gm, kp, Fn.bindsN (fun _ _ _ _ _ _ us hl => match us, hl with | [_, _, _], _ => rfl), ok__law_exchanged Fn B kp gm m⟩
    exact ok_def (K := ⟨K, w⟩) Fn sc_24 4 3 rfl rfl fun F cdv A outer s0 H E hK hr => dss_cons (ds_if (dt_w (dw_or (dt_tru hK (de_isa hK rfl B.b_isinstance (da_cons (de_v 0) (da_cons (de_ty rfl B.b_bool PyProof.Rows.boot_bool) (da_nil))))) (dw_or1 (dt_not (dt_tru hK (de_isa hK rfl B.b_isinstance (da_cons (de_v 0) (da_cons (de_tup (da_cons (de_ty rfl B.b_str PyProof.Rows.boot_str) (da_cons (de_ty rfl B.b_int PyProof.Rows.boot_int) (da_cons (de_ty rfl B.b_tuple PyProof.Rows.boot_tuple) (da_nil))))) (da_nil))))))))) (dss_one (ds_ret (de_v 0))) (dss_nil)) (dss_cons (ds_if (dt_tru hK (de_isa hK rfl B.b_isinstance (da_cons (de_v 0) (da_cons (de_tup (da_cons (de_ty rfl B.b_str PyProof.Rows.boot_str) (da_cons (de_ty rfl B.b_int PyProof.Rows.boot_int) (da_nil)))) (da_nil))))) (dss_one (ds_ret (de_if (dt_eqx hK hr.units (de_v 0) (de_v 1)) (de_v 2) (de_if (dt_eqx hK hr.units (de_v 0) (de_v 2)) (de_v 1) (de_v 0))))) (dss_nil)) (dss_one (ds_ret (de_toTup hK rfl B.b_tuple (da_cons (de_lc rfl sc_24.nd (di_seq hK (de_v 0)) (blkOk_by (own := [("part", 3)]) (N := ["value", "one", "other", "part"]) (sc := defScope (top 24)) (by decide +kernel)) (fun _ _ _ _ _ => dg_name sc_24.nd rfl (by first | exact Or.inl rfl | exact Or.inr rfl)) (fun _ _ _ _ _ => dts_nil) (fun _ _ _ _ _ => de_do hK crec hr (Nat.le_refl _) rfl (da_cons (de_v 3) (da_cons (de_v 1) (da_cons (de_v 2) (da_nil))))) (by decide)) (da_nil))))))
theorem sc_25 : FnScope ["state", "told", "pick", "atoms", "atom", "one", "other", "k", "j"] ["state", "told"] (defScope (top 25)) := ⟨rfl, rfl, rfl, by decide +kernel, rfl, by decide +kernel, by decide +kernel⟩
theorem ok__law_turned_about {f : Addr} {fd : FuncData} (Fn : FnP K "_law_turned_about" (top 25) f fd) (B : Bi mg) (c__law_next : Cal P w K mg base "_law_next" 1 ["state", "limit"] (SpIo ⟨K, w⟩ f__law_next)) (c__law_atoms : Cal P w K mg base "_law_atoms" 12 ["value"] (Sp0 ⟨K, w⟩ (f__law_atoms 12))) (c__law_exchanged : Cal P w K mg base "_law_exchanged" 12 ["value", "one", "other"] (Sp0 ⟨K, w⟩ (f__law_exchanged 12))) : FnOk P w K mg base CX0 13 f fd ["state", "told"] (SpIo ⟨K, w⟩ f__law_turned_about) :=
  ok_io (K := ⟨K, w⟩) Fn sc_25 9 2 rfl rfl fun F cdv A outer s0 H E hK hr => dss_cons (ds_set (i := 2) sc_25.nd rfl (Or.inr rfl) (de_doIo hK c__law_next hr (by first | omega | (simp only [Nat.add_eq]; omega)) rfl (pv 0) (da_cons (de_int) (da_nil)))) (dss_cons (ds_setLc (i := 3) rfl sc_25.nd rfl rfl (sw_true rfl rfl rfl (by first | rfl | decide +kernel)) (di_seq hK (de_do hK c__law_atoms hr (by first | omega | (simp only [Nat.add_eq]; omega)) rfl (da_cons (de_sl hK (de_v 1) (do_some (de_int)) (do_none)) (da_nil)))) (blkOk_by (own := [("atom", 4)]) (N := ["state", "told", "pick", "atoms", "atom", "one", "other", "k", "j"]) (sc := defScope (top 25)) (by decide +kernel)) (fun _ _ _ _ _ => dg_name sc_25.nd rfl (by first | exact Or.inl rfl | exact Or.inr rfl)) (fun _ _ _ _ _ => dts_one (dt_eqx hK hr.units (de_isa hK rfl B.b_isinstance (da_cons (de_v 4) (da_cons (de_ty rfl B.b_str PyProof.Rows.boot_str) (da_nil)))) (de_cmp o_lt s_lt (de_v 2) (de_int) (nomark _)))) (fun _ _ _ _ _ => de_cap (de_v 4)) (by decide)) (dss_cons (ds_if (dt_w (dw_and (dt_cmp o_lt s_lt (de_v 2) (de_int) (nomark _)) (dw_and1 (dt_nex hK hr.units (de_v 3) (de_lst (da_nil)))))) (dss_cons (ds_par (i := 5) (j := 6) rfl sc_25.nd rfl rfl (by decide) rfl rfl (da_cons (de_ixw hK hr.units (de_v 3) (de_doIo hK c__law_next hr (by first | omega | (simp only [Nat.add_eq]; omega)) rfl (pv 0) (da_cons (de_lenx hK rfl B.b_len (da_cons (de_v 3) (da_nil))) (da_nil)))) (da_cons (de_ixw hK hr.units (de_v 3) (de_doIo hK c__law_next hr (by first | omega | (simp only [Nat.add_eq]; omega)) rfl (pv 0) (da_cons (de_lenx hK rfl B.b_len (da_cons (de_v 3) (da_nil))) (da_nil)))) (da_nil)))) (dss_one (ds_ret (de_add (de_sl hK (de_v 1) (do_none) (do_some (de_int))) (de_do hK c__law_exchanged hr (by first | omega | (simp only [Nat.add_eq]; omega)) rfl (da_cons (de_sl hK (de_v 1) (do_some (de_int)) (do_none)) (da_cons (de_v 5) (da_cons (de_v 6) (da_nil))))) hK)))) (dss_nil)) (dss_cons (ds_if (dt_w (dw_and (dt_eqx hK hr.units (de_lenx hK rfl B.b_len (da_cons (de_v 1) (da_nil))) (de_int)) (dw_and (dt_tru hK (de_isa hK rfl B.b_isinstance (da_cons (de_ixw hK hr.units (de_v 1) (de_int)) (da_cons (de_ty rfl B.b_tuple PyProof.Rows.boot_tuple) (da_nil))))) (dw_and1 (dt_nex hK hr.units (de_ixw hK hr.units (de_v 1) (de_int)) (de_tup (da_nil))))))) (dss_cons (ds_par (i := 7) (j := 8) rfl sc_25.nd rfl rfl (by decide) rfl rfl (da_cons (de_doIo hK c__law_next hr (by first | omega | (simp only [Nat.add_eq]; omega)) rfl (pv 0) (da_cons (de_lenx hK rfl B.b_len (da_cons (de_ixw hK hr.units (de_v 1) (de_int)) (da_nil))) (da_nil))) (da_cons (de_doIo hK c__law_next hr (by first | omega | (simp only [Nat.add_eq]; omega)) rfl (pv 0) (da_cons (de_lenx hK rfl B.b_len (da_cons (de_ixw hK hr.units (de_v 1) (de_int)) (da_nil))) (da_nil))) (da_nil)))) (dss_one (ds_ret (de_tup (da_cons (de_ixw hK hr.units (de_v 1) (de_int)) (da_cons (de_add (de_add (de_sl hK (de_ixw hK hr.units (de_v 1) (de_int)) (do_none) (do_some (de_v 7))) (de_sl hK (de_ixw hK hr.units (de_v 1) (de_int)) (do_some (de_v 8)) (do_some (de_add (de_v 8) (de_int) hK))) hK) (de_sl hK (de_ixw hK hr.units (de_v 1) (de_int)) (do_some (de_add (de_v 7) (de_int) hK)) (do_none)) hK) (da_nil))))))) (dss_nil)) (dss_cons (ds_par (i := 7) (j := 8) rfl sc_25.nd rfl rfl (by decide) rfl rfl (da_cons (de_doIo hK c__law_next hr (by first | omega | (simp only [Nat.add_eq]; omega)) rfl (pv 0) (da_cons (de_lenx hK rfl B.b_len (da_cons (de_v 1) (da_nil))) (da_nil))) (da_cons (de_doIo hK c__law_next hr (by first | omega | (simp only [Nat.add_eq]; omega)) rfl (pv 0) (da_cons (de_lenx hK rfl B.b_len (da_cons (de_v 1) (da_nil))) (da_nil))) (da_nil)))) (dss_one (ds_ret (de_if (dt_w (dw_and (dt_cmp op_gt s_gt (de_v 7) (de_int) (nomark _)) (dw_and1 (dt_cmp op_gt s_gt (de_v 8) (de_int) (nomark _))))) (de_add (de_add (de_sl hK (de_v 1) (do_none) (do_some (de_v 7))) (de_sl hK (de_v 1) (do_some (de_v 8)) (do_some (de_add (de_v 8) (de_int) hK))) hK) (de_sl hK (de_v 1) (do_some (de_add (de_v 7) (de_int) hK)) (do_none)) hK) (de_v 1))))))))
theorem sc_22 : FnScope ["state", "graph", "value", "names", "edge", "k", "more", "part"] ["state", "graph", "value"] (defScope (top 22)) := ⟨rfl, rfl, rfl, by decide +kernel, rfl, by decide +kernel, by decide +kernel⟩
theorem ok__law_changed {f : Addr} {fd : FuncData} (Fn : FnP K "_law_changed" (top 22) f fd) (B : Bi mg) (kp : PySem.W.keepIn K (.ref f) = true) (gm : mg "_law_changed" = some (.ref f)) (c__law_next : Cal P w K mg base "_law_next" 1 ["state", "limit"] (SpIo ⟨K, w⟩ f__law_next)) : ∀ n, FnOk P w K mg base CX0 (1 + n) f fd ["state", "graph", "value"] (SpIo ⟨K, w⟩ (f__law_changed n))
  | 0 => ⟨fun vs H Q E h => (let ⟨N, a, ws, d, ds, c, d2, e1, e2, e3, e4, e, _⟩ := h; nomatch e), fun A outer s H args us vs Q E _ _ _ _ h => (let ⟨N, a, ws, d, ds, c, d2, e1, e2, e3, e4, e, _⟩ := h; nomatch e)⟩
  | m + 1 => by
    have crec : Cal P w K mg base "_law_changed" (1 + m) ["state", "graph", "value"] (SpIo ⟨K, w⟩ (f__law_changed m)) := ⟨f, fd, gm, kp, Fn.bindsN (fun _ _ _ _ _ _ us hl => match us, hl with | [_, _, _], _ => rfl), ok__law_changed Fn B kp gm c__law_next m⟩
    exact ok_io (K := ⟨K, w⟩) Fn sc_22 8 3 rfl rfl fun F cdv A outer s0 H E hK hr => dss_cons (ds_if (dt_tru hK (de_isa hK rfl B.b_isinstance (da_cons (de_v 2) (da_cons (de_ty rfl B.b_bool PyProof.Rows.boot_bool) (da_nil))))) (dss_one (ds_ret (de_ixw hK hr.units (de_lst (da_cons (de_notT hK (de_v 2)) (da_cons (de_toInt rfl B.b_int (da_cons (de_v 2) (da_nil))) (da_nil)))) (de_doIo hK c__law_next hr (by first | omega | (simp only [Nat.add_eq]; omega)) rfl (pv 0) (da_cons (de_int) (da_nil)))))) (dss_nil)) (dss_cons (ds_if (dt_w (dw_or (dt_cmp op_isN s_isN (de_v 2) (de_non) (nomark _)) (dw_or1 (dt_tru hK (de_isa hK rfl B.b_isinstance (da_cons (de_v 2) (da_cons (de_ty rfl B.b_int PyProof.Rows.boot_int) (da_nil)))))))) (dss_one (ds_ret (de_ixw hK hr.units (de_lst (da_cons (de_add (de_orT hK (de_v 2) (de_one (de_int))) (de_int) hK) (da_cons (de_sub (de_orT hK (de_v 2) (de_one (de_int))) (de_int)) (da_cons (de_int) (da_cons (de_non) (da_cons (de_eqx hK hr.units (de_v 2) (de_int)) (da_cons (de_toStrx rfl B.b_str (da_cons (de_v 2) (da_nil))) (da_nil)))))))) (de_doIo hK c__law_next hr (by first | omega | (simp only [Nat.add_eq]; omega)) rfl (pv 0) (da_cons (de_int) (da_nil)))))) (dss_nil)) (dss_cons (ds_if (dt_tru hK (de_isa hK rfl B.b_isinstance (da_cons (de_v 2) (da_cons (de_ty rfl B.b_str PyProof.Rows.boot_str) (da_nil))))) (dss_cons (ds_set (i := 3) sc_22.nd rfl (Or.inl rfl) (de_add (de_add (de_toList hK rfl B.b_list (da_cons (de_ixw hK hr.units (de_v 1) (de_int)) (da_nil))) (de_lc rfl sc_22.nd (di_seq hK (de_ixw hK hr.units (de_v 1) (de_int))) (blkOk_by (own := [("edge", 4)]) (N := ["state", "graph", "value", "names", "edge", "k", "more", "part"]) (sc := defScope (top 22)) (by decide +kernel)) (fun _ _ _ _ _ => dg_name sc_22.nd rfl (by first | exact Or.inl rfl | exact Or.inr rfl)) (fun _ _ _ _ _ => dts_nil) (fun _ _ _ _ _ => de_ixw hK hr.units (de_v 4) (de_int)) (by decide)) hK) (de_lst (da_cons (de_str) (da_cons (de_str) (da_nil)))) hK)) (dss_one (ds_ret (de_if (dt_cmp op_gt s_gt (de_doIo hK c__law_next hr (by first | omega | (simp only [Nat.add_eq]; omega)) rfl (pv 0) (da_cons (de_int) (da_nil))) (de_int) (nomark _)) (de_ixw hK hr.units (de_v 3) (de_doIo hK c__law_next hr (by first | omega | (simp only [Nat.add_eq]; omega)) rfl (pv 0) (da_cons (de_lenx hK rfl B.b_len (da_cons (de_v 3) (da_nil))) (da_nil)))) (de_ixw hK hr.units (de_lst (da_cons (de_int) (da_cons (de_non) (da_cons (de_tup (da_cons (de_str) (da_nil))) (da_nil))))) (de_doIo hK c__law_next hr (by first | omega | (simp only [Nat.add_eq]; omega)) rfl (pv 0) (da_cons (de_int) (da_nil)))))))) (dss_nil)) (dss_cons (ds_if (dt_w (dw_and (dt_tru hK (de_isa hK rfl B.b_isinstance (da_cons (de_v 2) (da_cons (de_ty rfl B.b_tuple PyProof.Rows.boot_tuple) (da_nil))))) (dw_and (dt_nex hK hr.units (de_v 2) (de_tup (da_nil))) (dw_and1 (dt_cmp op_gt s_gt (de_doIo hK c__law_next hr (by first | omega | (simp only [Nat.add_eq]; omega)) rfl (pv 0) (da_cons (de_int) (da_nil))) (de_int) (nomark _)))))) (dss_cons (ds_set (i := 5) sc_22.nd rfl (Or.inl rfl) (de_doIo hK c__law_next hr (by first | omega | (simp only [Nat.add_eq]; omega)) rfl (pv 0) (da_cons (de_lenx hK rfl B.b_len (da_cons (de_v 2) (da_nil))) (da_nil)))) (dss_one (ds_ret (de_add (de_add (de_sl hK (de_v 2) (do_none) (do_some (de_v 5))) (de_tup (da_cons (de_doIo hK crec hr (Nat.le_refl _) rfl (pv 0) (da_cons (de_cap (de_v 1)) (da_cons (de_ixw hK hr.units (de_v 2) (de_v 5)) (da_nil)))) (da_nil))) hK) (de_sl hK (de_v 2) (do_some (de_add (de_v 5) (de_int) hK)) (do_none)) hK)))) (dss_nil)) (dss_cons (ds_if (dt_not (dt_tru hK (de_isa hK rfl B.b_isinstance (da_cons (de_v 2) (da_cons (de_ty rfl B.b_tuple PyProof.Rows.boot_tuple) (da_nil)))))) (dss_one (ds_ret (de_tup (da_nil)))) (dss_nil)) (dss_cons (ds_set (i := 5) sc_22.nd rfl (Or.inl rfl) (de_doIo hK c__law_next hr (by first | omega | (simp only [Nat.add_eq]; omega)) rfl (pv 0) (da_cons (de_add (de_lenx hK rfl B.b_len (da_cons (de_v 2) (da_nil))) (de_int) hK) (da_nil)))) (dss_cons (ds_set (i := 6) sc_22.nd rfl (Or.inl rfl) (de_lst (da_cons (de_add (de_sl hK (de_v 2) (do_none) (do_some (de_v 5))) (de_sl hK (de_v 2) (do_some (de_add (de_v 5) (de_int) hK)) (do_none)) hK) (da_cons (de_add (de_v 2) (de_sl hK (de_v 2) (do_none) (do_some (de_int))) hK) (da_cons (de_rev hK (de_v 2)) (da_cons (de_add (de_sl hK (de_v 2) (do_some (de_v 5)) (do_none)) (de_sl hK (de_v 2) (do_none) (do_some (de_v 5))) hK) (da_cons (de_toList hK rfl B.b_list (da_cons (de_v 2) (da_nil))) (da_cons (de_sl hK (de_v 2) (do_none) (do_some (de_v 5))) (da_cons (de_tup (da_nil)) (da_nil)))))))))) (dss_cons (ds_set (i := 6) sc_22.nd rfl (Or.inl rfl) (de_add (de_v 6) (de_lst (da_cons (de_add (de_v 2) (de_tup (da_cons (de_ixw hK hr.units (de_ixw hK hr.units (de_v 1) (de_int)) (de_int)) (da_nil))) hK) (da_cons (de_add (de_v 2) (de_tup (da_cons (de_tup (da_cons (de_str) (da_cons (de_bl) (da_nil)))) (da_nil))) hK) (da_cons (de_toTup hK rfl B.b_tuple (da_cons (de_sortSet hK rfl hr.units rfl B.b_sorted rfl B.b_set (de_add (de_lc rfl sc_22.nd (di_seq hK (de_v 2)) (blkOk_by (own := [("part", 7)]) (N := ["state", "graph", "value", "names", "edge", "k", "more", "part"]) (sc := defScope (top 22)) (by decide +kernel)) (fun _ _ _ _ _ => dg_name sc_22.nd rfl (by first | exact Or.inl rfl | exact Or.inr rfl)) (fun _ _ _ _ _ => dts_one (dt_tru hK (de_isa hK rfl B.b_isinstance (da_cons (de_v 7) (da_cons (de_ty rfl B.b_str PyProof.Rows.boot_str) (da_nil)))))) (fun _ _ _ _ _ => de_cap (de_v 7)) (by decide)) (de_lst (da_cons (de_ixw hK hr.units (de_ixw hK hr.units (de_v 1) (de_int)) (de_neg (de_int))) (da_nil))) hK)) (da_nil))) (da_nil))))) hK)) (dss_one (ds_ret (de_ixw hK hr.units (de_v 6) (de_doIo hK c__law_next hr (by first | omega | (simp only [Nat.add_eq]; omega)) rfl (pv 0) (da_cons (de_lenx hK rfl B.b_len (da_cons (de_v 6) (da_nil))) (da_nil)))))))))))))
theorem sc_26 : FnScope ["state", "graph", "told", "odd", "pick"] ["state", "graph", "told"] (defScope (top 26)) := ⟨rfl, rfl, rfl, by decide +kernel, rfl, by decide +kernel, by decide +kernel⟩
theorem ok__law_odd {f : Addr} {fd : FuncData} (Fn : FnP K "_law_odd" (top 26) f fd) (B : Bi mg) (c__law_next : Cal P w K mg base "_law_next" 1 ["state", "limit"] (SpIo ⟨K, w⟩ f__law_next)) (c__law_turned_about : Cal P w K mg base "_law_turned_about" 13 ["state", "told"] (SpIo ⟨K, w⟩ f__law_turned_about)) (c__law_changed : Cal P w K mg base "_law_changed" 13 ["state", "graph", "value"] (SpIo ⟨K, w⟩ (f__law_changed 12))) : FnOk P w K mg base CX0 14 f fd ["state", "graph", "told"] (SpIo ⟨K, w⟩ f__law_odd) :=
  ok_io (K := ⟨K, w⟩) Fn sc_26 5 3 rfl rfl fun F cdv A outer s0 H E hK hr => dss_cons (ds_set (i := 3) sc_26.nd rfl (Or.inl rfl) (de_lst (da_cons (de_non) (da_cons (de_str) (da_cons (de_str) (da_cons (de_dct0) (da_cons (de_tup (da_nil)) (da_cons (de_sl hK (de_v 2) (do_none) (do_some (de_int))) (da_cons (de_toList hK rfl B.b_list (da_cons (de_v 2) (da_nil))) (da_cons (de_add (de_v 2) (de_tup (da_cons (de_int) (da_nil))) hK) (da_cons (de_add (de_tup (da_cons (de_lst (da_cons (de_ixw hK hr.units (de_v 2) (de_int)) (da_nil))) (da_nil))) (de_sl hK (de_v 2) (do_some (de_int)) (do_none)) hK) (da_cons (de_add (de_tup (da_cons (de_str) (da_nil))) (de_sl hK (de_v 2) (do_some (de_int)) (do_none)) hK) (da_cons (de_int) (da_nil)))))))))))))) (dss_cons (ds_set (i := 4) sc_26.nd rfl (Or.inl rfl) (de_doIo hK c__law_next hr (by first | omega | (simp only [Nat.add_eq]; omega)) rfl (pv 0) (da_cons (de_int) (da_nil)))) (dss_cons (ds_if (dt_cmp op_gt s_gt (de_v 4) (de_int) (nomark _)) (dss_one (ds_ret (de_doIo hK c__law_turned_about hr (by first | omega | (simp only [Nat.add_eq]; omega)) rfl (pv 0) (da_cons (de_cap (de_v 2)) (da_nil))))) (dss_nil)) (dss_one (ds_ret (de_if (dt_eqx hK hr.units (de_v 4) (de_int)) (de_ixw hK hr.units (de_v 3) (de_doIo hK c__law_next hr (by first | omega | (simp only [Nat.add_eq]; omega)) rfl (pv 0) (da_cons (de_lenx hK rfl B.b_len (da_cons (de_v 3) (da_nil))) (da_nil)))) (de_doIo hK c__law_changed hr (by first | omega | (simp only [Nat.add_eq]; omega)) rfl (pv 0) (da_cons (de_cap (de_v 1)) (da_cons (de_cap (de_v 2)) (da_nil)))))))))
theorem sc_28 : FnScope ["script", "state", "seen", "turn", "graph", "weights", "node", "start", "end", "told", "k", "asked"] ["script"] (defScope (top 28)) := ⟨rfl, rfl, rfl, by decide +kernel, rfl, by decide +kernel, by decide +kernel⟩
theorem ok_law {f : Addr} {fd : FuncData} (Fn : FnP K "law" (top 28) f fd) (B : Bi mg) (c__law_map : Cal P w K mg base "_law_map" 2 ["state", "low", "directed"] (SpIo ⟨K, w⟩ f__law_map)) (c__law_next : Cal P w K mg base "_law_next" 1 ["state", "limit"] (SpIo ⟨K, w⟩ f__law_next)) (c_coming : Cal P w K mg base "coming" 3 ["graph", "told", "start", "end"] (Sp0 ⟨K, w⟩ f_coming)) (c__law_accepts : Cal P w K mg base "_law_accepts" 13 ["graph", "weights", "start", "end", "told"] (Sp0 ⟨K, w⟩ f__law_accepts)) (c_judge_coming : Cal P w K mg base "judge_coming" 3 ["graph", "told", "start", "end", "paper"] (Sp0 ⟨K, w⟩ f_judge_coming)) (c__law_odd : Cal P w K mg base "_law_odd" 14 ["state", "graph", "told"] (SpIo ⟨K, w⟩ f__law_odd)) (c__law_same : Cal P w K mg base "_law_same" 12 ["actual", "expected"] (Sp0 ⟨K, w⟩ (f__law_same 12))) : FnOk P w K mg base CX0 15 f fd ["script"] (Sp0 ⟨K, w⟩ f_law) :=
  ok_def (K := ⟨K, w⟩) Fn sc_28 12 1 rfl rfl fun F cdv A outer s0 H E hK hr => dss_cons (ds_set (i := 1) sc_28.nd rfl (Or.inr rfl) (de_lst (da_cons (de_toList hK rfl B.b_list (da_cons (de_v 0) (da_nil))) (da_cons (de_int) (da_cons (de_int) (da_cons (de_int) (da_nil))))))) (dss_cons (ds_set (i := 2) sc_28.nd rfl (Or.inl rfl) (de_lst (da_nil))) (dss_cons (ds_for PassesOwn.never rfl (di_range1 rfl B.b_range (da_cons (de_int) (da_nil))) (dg_name sc_28.nd rfl (by first | exact Or.inl rfl | exact Or.inr rfl)) (dss_cons (ds_set (i := 4) sc_28.nd rfl (Or.inl rfl) (de_doIo hK c__law_map hr (by first | omega | (simp only [Nat.add_eq]; omega)) rfl (pv 1) (da_cons (de_int) (da_cons (de_int) (da_nil))))) (dss_cons (ds_set (i := 5) sc_28.nd rfl (Or.inl rfl) (de_toTup hK rfl B.b_tuple (da_cons (de_lc rfl sc_28.nd (di_seq hK (de_ixw hK hr.units (de_v 4) (de_int))) (blkOk_by (own := [("node", 6)]) (N := ["script", "state", "seen", "turn", "graph", "weights", "node", "start", "end", "told", "k", "asked"]) (sc := defScope (top 28)) (by decide +kernel)) (fun _ _ _ _ _ => dg_name sc_28.nd rfl (by first | exact Or.inl rfl | exact Or.inr rfl)) (fun _ _ _ _ _ => dts_nil) (fun _ _ _ _ _ => de_tup (da_cons (de_cap (de_v 6)) (da_cons (de_sub (de_doIo hK c__law_next hr (by first | omega | (simp only [Nat.add_eq]; omega)) rfl (pv 1) (da_cons (de_int) (da_nil))) (de_int)) (da_nil)))) (by decide)) (da_nil)))) (dss_cons (ds_set (i := 7) sc_28.nd rfl (Or.inl rfl) (de_ixw hK hr.units (de_ixw hK hr.units (de_v 4) (de_int)) (de_doIo hK c__law_next hr (by first | omega | (simp only [Nat.add_eq]; omega)) rfl (pv 1) (da_cons (de_lenx hK rfl B.b_len (da_cons (de_ixw hK hr.units (de_v 4) (de_int)) (da_nil))) (da_nil))))) (dss_cons (ds_set (i := 8) sc_28.nd rfl (Or.inl rfl) (de_ixw hK hr.units (de_ixw hK hr.units (de_v 4) (de_int)) (de_doIo hK c__law_next hr (by first | omega | (simp only [Nat.add_eq]; omega)) rfl (pv 1) (da_cons (de_lenx hK rfl B.b_len (da_cons (de_ixw hK hr.units (de_v 4) (de_int)) (da_nil))) (da_nil))))) (dss_cons (ds_set (i := 9) sc_28.nd rfl (Or.inl rfl) (de_do hK c_coming hr (by first | omega | (simp only [Nat.add_eq]; omega)) rfl (da_cons (de_v 4) (da_cons (de_v 5) (da_cons (de_v 7) (da_cons (de_v 8) (da_nil))))))) (dss_cons (ds_if (dt_w (dw_or (dt_not (dt_tru hK (de_do hK c__law_accepts hr (by first | omega | (simp only [Nat.add_eq]; omega)) rfl (da_cons (de_v 4) (da_cons (de_v 5) (da_cons (de_v 7) (da_cons (de_v 8) (da_cons (de_v 9) (da_nil))))))))) (dw_or1 (dt_cmp op_notBl s_notBl (de_do hK c_judge_coming hr (by first | omega | (simp only [Nat.add_eq]; omega)) rfl (da_cons (de_v 4) (da_cons (de_v 5) (da_cons (de_v 7) (da_cons (de_v 8) (da_cons (de_v 9) (da_nil))))))) (de_bl) (nomark _))))) (dss_one (ds_ret (de_bl))) (dss_nil)) (dss_cons (ds_set (i := 2) sc_28.nd rfl (Or.inl rfl) (de_add (de_sl hK (de_v 2) (do_some (de_neg (de_int))) (do_none)) (de_lst (da_cons (de_cap (de_v 9)) (da_nil))) hK)) (dss_one (ds_for PassesOwn.never rfl (di_range1 rfl B.b_range (da_cons (de_add (de_int) (de_lenx hK rfl B.b_len (da_cons (de_v 2) (da_nil))) hK) (da_nil))) (dg_name sc_28.nd rfl (by first | exact Or.inl rfl | exact Or.inr rfl)) (dss_cons (ds_set (i := 11) sc_28.nd rfl (Or.inl rfl) (de_if (dt_cmp o_lt s_lt (de_v 10) (de_int) (nomark _)) (de_doIo hK c__law_odd hr (by first | omega | (simp only [Nat.add_eq]; omega)) rfl (pv 1) (da_cons (de_cap (de_v 4)) (da_cons (de_cap (de_v 9)) (da_nil)))) (de_ixw hK hr.units (de_v 2) (de_sub (de_v 10) (de_int))))) (dss_one (ds_if (dt_not (dt_tru hK (de_do hK c__law_same hr (by first | omega | (simp only [Nat.add_eq]; omega)) rfl (da_cons (de_do hK c_judge_coming hr (by first | omega | (simp only [Nat.add_eq]; omega)) rfl (da_cons (de_v 4) (da_cons (de_v 5) (da_cons (de_v 7) (da_cons (de_v 8) (da_cons (de_v 11) (da_nil))))))) (da_cons (de_do hK c__law_accepts hr (by first | omega | (simp only [Nat.add_eq]; omega)) rfl (da_cons (de_v 4) (da_cons (de_v 5) (da_cons (de_v 7) (da_cons (de_v 8) (da_cons (de_v 11) (da_nil))))))) (da_nil)))))) (dss_one (ds_ret (de_bl))) (dss_nil)))))))))))))) (dss_one (ds_ret (de_bl)))))
/-! the head -/
def d_15 : He.DefD := ⟨("_law_next", none), "_law_next", "_law_next", defArgs (top 15), defBody (top 15), defScope (top 15), [], []⟩
def d_17 : He.DefD := ⟨("_law_map", none), "_law_map", "_law_map", defArgs (top 17), defBody (top 17), defScope (top 17), [], []⟩
def d_2 : He.DefD := ⟨("arcs_of", none), "arcs_of", "arcs_of", defArgs (top 2), defBody (top 2), defScope (top 2), [], []⟩
def d_8 : He.DefD := ⟨("steps_from", none), "steps_from", "steps_from", defArgs (top 8), defBody (top 8), defScope (top 8), [], []⟩
def d_1 : He.DefD := ⟨("nodes_of", none), "nodes_of", "nodes_of", defArgs (top 1), defBody (top 1), defScope (top 1), [], []⟩
def d_9 : He.DefD := ⟨("is_first", none), "is_first", "is_first", defArgs (top 9), defBody (top 9), defScope (top 9), [], []⟩
def d_10 : He.DefD := ⟨("coming", none), "coming", "coming", defArgs (top 10), defBody (top 10), defScope (top 10), [], []⟩
def d_18 : He.DefD := ⟨("_law_steps", none), "_law_steps", "_law_steps", defArgs (top 18), defBody (top 18), defScope (top 18), [], []⟩
def d_21 : He.DefD := ⟨("_law_is", none), "_law_is", "_law_is", defArgs (top 21), defBody (top 21), defScope (top 21), [], []⟩
def d_19 : He.DefD := ⟨("_law_are_nodes", none), "_law_are_nodes", "_law_are_nodes", defArgs (top 19), defBody (top 19), defScope (top 19), [], []⟩
def d_20 : He.DefD := ⟨("_law_is_whole", none), "_law_is_whole", "_law_is_whole", defArgs (top 20), defBody (top 20), defScope (top 20), [], []⟩
def d_16 : He.DefD := ⟨("_law_same", none), "_law_same", "_law_same", defArgs (top 16), defBody (top 16), defScope (top 16), [], []⟩
def d_27 : He.DefD := ⟨("_law_accepts", none), "_law_accepts", "_law_accepts", defArgs (top 27), defBody (top 27), defScope (top 27), [], []⟩
def d_4 : He.DefD := ⟨("is_told", none), "is_told", "is_told", defArgs (top 4), defBody (top 4), defScope (top 4), [], []⟩
def d_5 : He.DefD := ⟨("are_nodes", none), "are_nodes", "are_nodes", defArgs (top 5), defBody (top 5), defScope (top 5), [], []⟩
def d_12 : He.DefD := ⟨("holds", none), "holds", "holds", defArgs (top 12), defBody (top 12), defScope (top 12), [], []⟩
def d_3 : He.DefD := ⟨("is_whole", none), "is_whole", "is_whole", defArgs (top 3), defBody (top 3), defScope (top 3), [], []⟩
def d_6 : He.DefD := ⟨("is_step", none), "is_step", "is_step", defArgs (top 6), defBody (top 6), defScope (top 6), [], []⟩
def d_13 : He.DefD := ⟨("leads", none), "leads", "leads", defArgs (top 13), defBody (top 13), defScope (top 13), [], []⟩
def d_11 : He.DefD := ⟨("judge_coming", none), "judge_coming", "judge_coming", defArgs (top 11), defBody (top 11), defScope (top 11), [], []⟩
def d_23 : He.DefD := ⟨("_law_atoms", none), "_law_atoms", "_law_atoms", defArgs (top 23), defBody (top 23), defScope (top 23), [], []⟩
def d_24 : He.DefD := ⟨("_law_exchanged", none), "_law_exchanged", "_law_exchanged", defArgs (top 24), defBody (top 24), defScope (top 24), [], []⟩
def d_25 : He.DefD := ⟨("_law_turned_about", none), "_law_turned_about", "_law_turned_about", defArgs (top 25), defBody (top 25), defScope (top 25), [], []⟩
def d_22 : He.DefD := ⟨("_law_changed", none), "_law_changed", "_law_changed", defArgs (top 22), defBody (top 22), defScope (top 22), [], []⟩
def d_26 : He.DefD := ⟨("_law_odd", none), "_law_odd", "_law_odd", defArgs (top 26), defBody (top 26), defScope (top 26), [], []⟩
def d_28 : He.DefD := ⟨("law", none), "law", "law", defArgs (top 28), defBody (top 28), defScope (top 28), [], []⟩
def fn : List He.DefD := ([d_15, d_17, d_2, d_8, d_1, d_9, d_10, d_18, d_21, d_19, d_20, d_16, d_27, d_4, d_5, d_12, d_3, d_6, d_13, d_11, d_23, d_24, d_25, d_22] : List He.DefD) ++ (([d_26, d_28] : List He.DefD))
def fa : List He.Fa := ([.glo "_law_next", .glo "_law_map", .glo "arcs_of", .glo "steps_from", .glo "nodes_of", .glo "is_first", .glo "coming", .glo "_law_steps", .glo "_law_is", .glo "_law_are_nodes", .glo "_law_is_whole", .glo "_law_same", .glo "_law_accepts", .glo "is_told", .glo "are_nodes", .glo "holds", .glo "is_whole", .glo "is_step", .glo "leads", .glo "judge_coming", .glo "_law_atoms", .glo "_law_exchanged", .glo "_law_turned_about", .glo "_law_changed"] : List He.Fa) ++ (([.glo "_law_odd", .glo "law", .free "bool", .free "dict", .free "int", .free "isinstance", .free "len", .free "list", .free "range", .free "set", .free "sorted", .free "str", .free "tuple"] : List He.Fa))
abbrev R : PySem.W.OpenRow := PySem.W.OpenLaw.row PySem.Challenge.rw_waywhole_k84_games_to_come_to_a_node
abbrev hk : PySem.W.Hook := He.hookD 4 fa fn
def ob (s : PySem.W.SharedT) : He.AlD := He.obsDG 4 fa fn (HandSHeadRun.getT s)
theorem ob_eq (s : PySem.W.SharedT) : ob s = hk.obs s.abs := He.obsDG_eq (HandSHeadRun.getT_eq s)
def loose : List Str := (["nodes_of", "arcs_of", "is_whole", "is_told", "are_nodes", "is_step", "steps_from", "is_first", "coming", "judge_coming", "holds", "leads", "_law_next", "_law_same", "_law_map", "_law_steps", "_law_are_nodes", "_law_is_whole", "_law_is", "_law_changed", "_law_atoms", "_law_exchanged", "_law_turned_about", "_law_odd"] : List Str) ++ ((["_law_accepts"] : List Str))
theorem run (w : World) : HandSHeadRun.RunEq R (PySem.W.view R.prog [28]) hk ob 4000 loose w := by
  intro os
  kernel_rfl
theorem facts {P : Program} {w : World} {K : PySem.W.Frag} {h : Heap} {mg : Str → Option Value} {f : Addr} (X : K.In h) (G : h.Ns mainGlobals mg) (hfa : mg ("law" : Str) = some (.ref f)) (c : He.SaysD fa fn K) :
    ∃ fd : FuncData, (∀ (s : Shared) (v : Value), BindsTo s fd ⟨[v], []⟩ [("script", v)]) ∧ ∀ base : Heap, K.In base → base.Ns mainGlobals mg → FnOk P w K mg base CX0 15 f fd ["script"] (Sp0 ⟨K, w⟩ f_law) := by
  obtain ⟨fd15, F15⟩ := c.def_ 0 (d := d_15) rfl
  obtain ⟨fd17, F17⟩ := c.def_ 1 (d := d_17) rfl
  obtain ⟨fd2, F2⟩ := c.def_ 2 (d := d_2) rfl
  obtain ⟨fd8, F8⟩ := c.def_ 3 (d := d_8) rfl
  obtain ⟨fd1, F1⟩ := c.def_ 4 (d := d_1) rfl
  obtain ⟨fd9, F9⟩ := c.def_ 5 (d := d_9) rfl
  obtain ⟨fd10, F10⟩ := c.def_ 6 (d := d_10) rfl
  obtain ⟨fd18, F18⟩ := c.def_ 7 (d := d_18) rfl
  obtain ⟨fd21, F21⟩ := c.def_ 8 (d := d_21) rfl
  obtain ⟨fd19, F19⟩ := c.def_ 9 (d := d_19) rfl
  obtain ⟨fd20, F20⟩ := c.def_ 10 (d := d_20) rfl
  obtain ⟨fd16, F16⟩ := c.def_ 11 (d := d_16) rfl
  obtain ⟨fd27, F27⟩ := c.def_ 12 (d := d_27) rfl
  obtain ⟨fd4, F4⟩ := c.def_ 13 (d := d_4) rfl
  obtain ⟨fd5, F5⟩ := c.def_ 14 (d := d_5) rfl
  obtain ⟨fd12, F12⟩ := c.def_ 15 (d := d_12) rfl
  obtain ⟨fd3, F3⟩ := c.def_ 16 (d := d_3) rfl
  obtain ⟨fd6, F6⟩ := c.def_ 17 (d := d_6) rfl
  obtain ⟨fd13, F13⟩ := c.def_ 18 (d := d_13) rfl
  obtain ⟨fd11, F11⟩ := c.def_ 19 (d := d_11) rfl
  obtain ⟨fd23, F23⟩ := c.def_ 20 (d := d_23) rfl
  obtain ⟨fd24, F24⟩ := c.def_ 21 (d := d_24) rfl
  obtain ⟨fd25, F25⟩ := c.def_ 22 (d := d_25) rfl
  obtain ⟨fd22, F22⟩ := c.def_ 23 (d := d_22) rfl
  obtain ⟨fd26, F26⟩ := c.def_ 24 (d := d_26) rfl
  obtain ⟨fd28, F28⟩ := c.def_ 25 (d := d_28) rfl
  have B : Bi mg := ⟨He.free_ok X G (c.fact 26 (f := .free "bool") rfl), He.free_ok X G (c.fact 27 (f := .free "dict") rfl), He.free_ok X G (c.fact 28 (f := .free "int") rfl), He.free_ok X G (c.fact 29 (f := .free "isinstance") rfl), He.free_ok X G (c.fact 30 (f := .free "len") rfl), He.free_ok X G (c.fact 31 (f := .free "list") rfl), He.free_ok X G (c.fact 32 (f := .free "range") rfl), He.free_ok X G (c.fact 33 (f := .free "set") rfl), He.free_ok X G (c.fact 34 (f := .free "sorted") rfl), He.free_ok X G (c.fact 35 (f := .free "str") rfl), He.free_ok X G (c.fact 36 (f := .free "tuple") rfl)⟩
  have e := hfa.symm.trans (He.glo_ok X G (c.fact 25 (f := .glo "law") rfl))
  cases e
  have b := FunD.bindsA (ps := ["script"]) F28 fun _ _ _ _ _ _ us hl => match us, hl with | [_], _ => rfl
  refine ⟨fd28, fun s v => b s [v] rfl, fun base _ _ => ?_⟩
  have c__law_next : Cal P w K mg base "_law_next" 1 ["state", "limit"] (SpIo ⟨K, w⟩ f__law_next) := cal (He.glo_ok X G (c.fact 0 (f := .glo "_law_next") rfl)) F15.kp (F15.bindsN fun _ _ _ _ _ _ us hl => match us, hl with | [_, _], _ => rfl) (ok__law_next F15 B)
  have c__law_map : Cal P w K mg base "_law_map" 2 ["state", "low", "directed"] (SpIo ⟨K, w⟩ f__law_map) := cal (He.glo_ok X G (c.fact 1 (f := .glo "_law_map") rfl)) F17.kp (F17.bindsN fun _ _ _ _ _ _ us hl => match us, hl with | [_, _, _], _ => rfl) (ok__law_map F17 B c__law_next)
  have c_arcs_of : Cal P w K mg base "arcs_of" 1 ["graph"] (Sp0 ⟨K, w⟩ f_arcs_of) := cal (He.glo_ok X G (c.fact 2 (f := .glo "arcs_of") rfl)) F2.kp (F2.bindsN fun _ _ _ _ _ _ us hl => match us, hl with | [_], _ => rfl) (ok_arcs_of F2 B)
  have c_steps_from : Cal P w K mg base "steps_from" 2 ["graph"] (Sp0 ⟨K, w⟩ f_steps_from) := cal (He.glo_ok X G (c.fact 3 (f := .glo "steps_from") rfl)) F8.kp (F8.bindsN fun _ _ _ _ _ _ us hl => match us, hl with | [_], _ => rfl) (ok_steps_from F8 B c_arcs_of)
  have c_nodes_of : Cal P w K mg base "nodes_of" 1 ["graph"] (Sp0 ⟨K, w⟩ f_nodes_of) := cal (He.glo_ok X G (c.fact 4 (f := .glo "nodes_of") rfl)) F1.kp (F1.bindsN fun _ _ _ _ _ _ us hl => match us, hl with | [_], _ => rfl) (ok_nodes_of F1 B)
  have c_is_first : Cal P w K mg base "is_first" 1 ["weights", "node"] (Sp0 ⟨K, w⟩ f_is_first) := cal (He.glo_ok X G (c.fact 5 (f := .glo "is_first") rfl)) F9.kp (F9.bindsN fun _ _ _ _ _ _ us hl => match us, hl with | [_, _], _ => rfl) (ok_is_first F9 B)
  have c_coming : Cal P w K mg base "coming" 3 ["graph", "told", "start", "end"] (Sp0 ⟨K, w⟩ f_coming) := cal (He.glo_ok X G (c.fact 6 (f := .glo "coming") rfl)) F10.kp (F10.bindsN fun _ _ _ _ _ _ us hl => match us, hl with | [_, _, _, _], _ => rfl) (ok_coming F10 B c_steps_from c_nodes_of c_is_first)
  have c__law_steps : Cal P w K mg base "_law_steps" 1 ["graph"] (Sp0 ⟨K, w⟩ f__law_steps) := cal (He.glo_ok X G (c.fact 7 (f := .glo "_law_steps") rfl)) F18.kp (F18.bindsN fun _ _ _ _ _ _ us hl => match us, hl with | [_], _ => rfl) (ok__law_steps F18 B)
  have c__law_is : Cal P w K mg base "_law_is" 1 ["told", "word", "count"] (Sp0 ⟨K, w⟩ f__law_is) := cal (He.glo_ok X G (c.fact 8 (f := .glo "_law_is") rfl)) F21.kp (F21.bindsN fun _ _ _ _ _ _ us hl => match us, hl with | [_, _, _], _ => rfl) (ok__law_is F21 B)
  have c__law_are_nodes : Cal P w K mg base "_law_are_nodes" 1 ["graph", "nodes"] (Sp0 ⟨K, w⟩ f__law_are_nodes) := cal (He.glo_ok X G (c.fact 9 (f := .glo "_law_are_nodes") rfl)) F19.kp (F19.bindsN fun _ _ _ _ _ _ us hl => match us, hl with | [_, _], _ => rfl) (ok__law_are_nodes F19 B)
  have c__law_is_whole : Cal P w K mg base "_law_is_whole" 1 ["value"] (Sp0 ⟨K, w⟩ f__law_is_whole) := cal (He.glo_ok X G (c.fact 10 (f := .glo "_law_is_whole") rfl)) F20.kp (F20.bindsN fun _ _ _ _ _ _ us hl => match us, hl with | [_], _ => rfl) (ok__law_is_whole F20 B)
  have c__law_same : Cal P w K mg base "_law_same" 12 ["actual", "expected"] (Sp0 ⟨K, w⟩ (f__law_same 12)) := cal (He.glo_ok X G (c.fact 11 (f := .glo "_law_same") rfl)) F16.kp (F16.bindsN fun _ _ _ _ _ _ us hl => match us, hl with | [_, _], _ => rfl) (((ok__law_same F16 B F16.kp (He.glo_ok X G (c.fact 11 (f := .glo "_law_same") rfl)) 12).mono (by decide)))
  have c__law_accepts : Cal P w K mg base "_law_accepts" 13 ["graph", "weights", "start", "end", "told"] (Sp0 ⟨K, w⟩ f__law_accepts) := cal (He.glo_ok X G (c.fact 12 (f := .glo "_law_accepts") rfl)) F27.kp (F27.bindsN fun _ _ _ _ _ _ us hl => match us, hl with | [_, _, _, _, _], _ => rfl) (ok__law_accepts F27 B c__law_steps c__law_is c__law_are_nodes c__law_is_whole c__law_same)
  have c_is_told : Cal P w K mg base "is_told" 1 ["told", "words", "count"] (Sp0 ⟨K, w⟩ f_is_told) := cal (He.glo_ok X G (c.fact 13 (f := .glo "is_told") rfl)) F4.kp (F4.bindsN fun _ _ _ _ _ _ us hl => match us, hl with | [_, _, _], _ => rfl) (ok_is_told F4 B)
  have c_are_nodes : Cal P w K mg base "are_nodes" 1 ["graph", "nodes"] (Sp0 ⟨K, w⟩ f_are_nodes) := cal (He.glo_ok X G (c.fact 14 (f := .glo "are_nodes") rfl)) F5.kp (F5.bindsN fun _ _ _ _ _ _ us hl => match us, hl with | [_, _], _ => rfl) (ok_are_nodes F5 B)
  have c_holds : Cal P w K mg base "holds" 2 ["weights", "steps", "node", "nodes"] (Sp0 ⟨K, w⟩ f_holds) := cal (He.glo_ok X G (c.fact 15 (f := .glo "holds") rfl)) F12.kp (F12.bindsN fun _ _ _ _ _ _ us hl => match us, hl with | [_, _, _, _], _ => rfl) (ok_holds F12 B c_is_first)
  have c_is_whole : Cal P w K mg base "is_whole" 1 ["value"] (Sp0 ⟨K, w⟩ f_is_whole) := cal (He.glo_ok X G (c.fact 16 (f := .glo "is_whole") rfl)) F3.kp (F3.bindsN fun _ _ _ _ _ _ us hl => match us, hl with | [_], _ => rfl) (ok_is_whole F3 B)
  have c_is_step : Cal P w K mg base "is_step" 1 ["step"] (Sp0 ⟨K, w⟩ f_is_step) := cal (He.glo_ok X G (c.fact 17 (f := .glo "is_step") rfl)) F6.kp (F6.bindsN fun _ _ _ _ _ _ us hl => match us, hl with | [_], _ => rfl) (ok_is_step F6 B)
  have c_leads : Cal P w K mg base "leads" 2 ["weights", "steps", "ranks", "entry"] (Sp0 ⟨K, w⟩ f_leads) := cal (He.glo_ok X G (c.fact 18 (f := .glo "leads") rfl)) F13.kp (F13.bindsN fun _ _ _ _ _ _ us hl => match us, hl with | [_, _, _, _], _ => rfl) (ok_leads F13 B c_is_first c_is_step)
  have c_judge_coming : Cal P w K mg base "judge_coming" 3 ["graph", "told", "start", "end", "paper"] (Sp0 ⟨K, w⟩ f_judge_coming) := cal (He.glo_ok X G (c.fact 19 (f := .glo "judge_coming") rfl)) F11.kp (F11.bindsN fun _ _ _ _ _ _ us hl => match us, hl with | [_, _, _, _, _], _ => rfl) (ok_judge_coming F11 B c_steps_from c_is_told c_are_nodes c_holds c_is_whole c_leads)
  have c__law_atoms : Cal P w K mg base "_law_atoms" 12 ["value"] (Sp0 ⟨K, w⟩ (f__law_atoms 12)) := cal (He.glo_ok X G (c.fact 20 (f := .glo "_law_atoms") rfl)) F23.kp (F23.bindsN fun _ _ _ _ _ _ us hl => match us, hl with | [_], _ => rfl) (((ok__law_atoms F23 B F23.kp (He.glo_ok X G (c.fact 20 (f := .glo "_law_atoms") rfl)) 12).mono (by decide)))
  have c__law_exchanged : Cal P w K mg base "_law_exchanged" 12 ["value", "one", "other"] (Sp0 ⟨K, w⟩ (f__law_exchanged 12)) := cal (He.glo_ok X G (c.fact 21 (f := .glo "_law_exchanged") rfl)) F24.kp (F24.bindsN fun _ _ _ _ _ _ us hl => match us, hl with | [_, _, _], _ => rfl) (((ok__law_exchanged F24 B F24.kp (He.glo_ok X G (c.fact 21 (f := .glo "_law_exchanged") rfl)) 12).mono (by decide)))
  have c__law_turned_about : Cal P w K mg base "_law_turned_about" 13 ["state", "told"] (SpIo ⟨K, w⟩ f__law_turned_about) := cal (He.glo_ok X G (c.fact 22 (f := .glo "_law_turned_about") rfl)) F25.kp (F25.bindsN fun _ _ _ _ _ _ us hl => match us, hl with | [_, _], _ => rfl) (ok__law_turned_about F25 B c__law_next c__law_atoms c__law_exchanged)
  have c__law_changed : Cal P w K mg base "_law_changed" 13 ["state", "graph", "value"] (SpIo ⟨K, w⟩ (f__law_changed 12)) := cal (He.glo_ok X G (c.fact 23 (f := .glo "_law_changed") rfl)) F22.kp (F22.bindsN fun _ _ _ _ _ _ us hl => match us, hl with | [_, _, _], _ => rfl) (((ok__law_changed F22 B F22.kp (He.glo_ok X G (c.fact 23 (f := .glo "_law_changed") rfl)) c__law_next 12).mono (by decide)))
  have c__law_odd : Cal P w K mg base "_law_odd" 14 ["state", "graph", "told"] (SpIo ⟨K, w⟩ f__law_odd) := cal (He.glo_ok X G (c.fact 24 (f := .glo "_law_odd") rfl)) F26.kp (F26.bindsN fun _ _ _ _ _ _ us hl => match us, hl with | [_, _, _], _ => rfl) (ok__law_odd F26 B c__law_next c__law_turned_about c__law_changed)
  exact ok_law F28 B c__law_map c__law_next c_coming c__law_accepts c_judge_coming c__law_odd c__law_same
end Wlk
open PySem PySem.W PySem.Calls PyProof.Rows
theorem Wlk.holds_of (hlaw : ∀ ns : List Int, ns.length ≤ 63 → Mir.f_law [.scr ns] = some (.ro (.bl true))) : PySem.Challenge.rw_waywhole_k84_games_to_come_to_a_node.Holds := by
  w_on; o_law
  refine HandSHeadRun.head_any (r := OpenLaw.row PySem.Challenge.rw_waywhole_k84_games_to_come_to_a_node) (q := view (OpenLaw.row PySem.Challenge.rw_waywhole_k84_games_to_come_to_a_node).prog [28]) (H := Wlk.hk) (ob := Wlk.ob) (M := 4000) (loose := Wlk.loose) (d := HandSHeadRun.topDef (OpenLaw.row PySem.Challenge.rw_waywhole_k84_games_to_come_to_a_node).prog 28) (kwd := []) Wlk.ob_eq
    (by kernel_rfl) (fun s => by kernel_rfl) Wlk.run (by kernel_rfl) (by kernel_rfl) (by kernel_rfl) (by rfl) (by first | assumption | decide +kernel) (by decide +kernel) ⟨rfl, rfl, rfl, rfl, rfl, by decide +kernel⟩ ?hw ?hc
  case hw => w_witness2
  case hc =>
    refine Dn.walk_ofEB (l := PySem.Challenge.rw_waywhole_k84_games_to_come_to_a_node) (n := 63) (k := 15) (x := "script") (CX := L2.CX0) rfl (by decide) (by kernel_rfl) ⟨rfl, by decide, by decide⟩ ?F (fun _ _ _ _ z => z)
    intro w mg fa h Y G hmg0
    obtain ⟨K, KX, c⟩ := Y
    have hmg : mg ("law" : PySem.Str) = some (.ref fa) := by
      have e : (HandSHeadRun.topDef (OpenLaw.row PySem.Challenge.rw_waywhole_k84_games_to_come_to_a_node).prog 28).name = ("law" : PySem.Str) := by kernel_rfl
      rw [← e]
      exact hmg0
    obtain ⟨fd, hb, hF⟩ := Wlk.facts (P := (PySem.Challenge.rw_waywhole_k84_games_to_come_to_a_node).prog) (w := w) KX G hmg c
    exact ⟨K, fd, Dn.Sp0 ⟨K, w⟩ Mir.f_law, KX, hb, fun H a ns hl _ hO hS => Dn.sp_law hO hS (hlaw ns hl), hF⟩

theorem PySem.Challenge.cw_waywhole_k84_games_to_come_to_a_node_holds : PySem.Challenge.rw_waywhole_k84_games_to_come_to_a_node.Holds :=
  Wlk.holds_of (fun ns _ => Pl.law_ok ns)
