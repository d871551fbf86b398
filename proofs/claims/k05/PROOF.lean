import PyProof.Rows.All
import Wide.All
import OpenK.AllK
import Wide.FinOn
import HandS.ForMost
import HandS.Exc
import KE.SortData
import KE.DataEq
import KE.DataFind
import KE.KDictKeyed
import PyProof.ReprRoads
import HandS.TupAny
import HandS.TupLe
import HandS.Style
import KE.DataCmp
import HandS.Flow
import HandS.IsInst
import HandS.RaiseMore
import HandS.Zip
import KE.GoesMore
import KE.DatumOrd
import HandS.SortKw
import HandS.Words
import HandS.TupSets
import PyProof.StrLawsRepr
import HandS.DictComp
import HandS.SetBool
import HandS.SetKeys
import KE.KDictCopyH
import HandS.DictTup
import KE.KDictSum
import HandS.ExcInit
import HandS.ExcField
import PySem.Challenge.RW_fallpaid_k05_whole_fallen_just_where
local macro_rules | `(tactic| trivial) => `(tactic| first | rfl | (intros; rfl) | (exact fun _ _ => rfl) | (exact Or.inl rfl) | (exact Or.inr (Or.inl rfl)) | (exact Or.inr (Or.inr rfl)) | (exact Or.inr rfl) | decide +kernel)
set_option Elab.async false
set_option linter.all false
set_option autoImplicit false
set_option maxRecDepth 100000
/-! Fp: a small interpreter over plain data, and what it has to do with the hand layer's heap. -/
namespace Fp
open PySem L2

/-! ### values -/
/-- a value: plain data that nobody changes any more, a def of the program, a built-in class, a list or dict that may still change (by its number), a set of data, a tuple or list of such -/
inductive D where
  | p (d : PyData)
  | fn (x : Str)
  | ty (n : String)
  | loc (n : Nat)
  | ro (xs : List PyData)
  | set (xs : List PyData)
  | tup (xs : List D)
  | pr (xs : List PyData)

/-- an object that may still change -/
inductive MO where
  | lst (xs : List PyData)
  | dic (kvs : List (PyData × PyData))
abbrev Store := List MO
abbrev Slots := List (Option D)

/-- an error of the program's own: its class, its fields -/
structure Ex where
  cls : Str
  fs : List (Str × PyData)

inductive Out (α : Type) where
  | ok (a : α) (S : Store)
  | exc (x : Ex) (S : Store)
  | bad
abbrev M (α : Type) := Slots → Store → Out α
def Out.bind {α β : Type} (o : Out α) (g : α → Store → Out β) : Out β := match o with
  | .ok a S => g a S
  | .exc x S => .exc x S
  | .bad => .bad
def M.bind {α β : Type} (m : M α) (g : α → M β) : M β := fun ρ S => (m ρ S).bind fun a S' => g a ρ S'
def M.pure {α : Type} (a : α) : M α := fun _ S => .ok a S
def Out.of {α : Type} (S : Store) : Option α → Out α
  | some a => .ok a S
  | none => .bad
/-- a step by the store, that changes nothing -/
def M.look {α β : Type} (m : M α) (g : α → Store → Option β) : M β := fun ρ S => (m ρ S).bind fun a S' => .of S' (g a S')

/-! ### what stands where -/
/-- the context: the program, what the top has left, the defs' places -/
structure Gam where
  P : Program
  w : World
  K : PySem.W.Frag
  mg : Str → Option Value
  base : Heap
  fa : Str → Option Addr
  ca : Str → Option Addr

/-- a dict whose keys are tuples, by its entries -/
def dicT (P : Program) (w : World) (a : Addr) (xs : List (NestedKey × Addr × Value)) : HO :=
  .ext fun h => ∃ o es ep, h.get? a = some o ∧ o.ExactDict ∧ o.data = .dict es ep ∧ es.toList = xs.map (entryOfKey (nestedKind P w))
/-- a dict by its keys and values -/
def DicAt (Γ : Gam) (H : Hp) (a : Addr) (ks vs : List V) (nk : Option (List NestedKey)) : Prop :=
  match nk with
  | none => ∃ kvs, H a = some (.dK kvs) ∧ ks = kvs.map (fun x => kV x.1) ∧ vs = kvs.map (·.2)
  | some ns => ∃ xs : List (NestedKey × Addr × Value), H a = some (dicT Γ.P Γ.w a xs) ∧ ns = xs.map (·.1) ∧ ks = xs.map (fun x => V.ref x.2.1) ∧ Vals vs (xs.map (·.2.2)) ∧ (a == sysModules) = false ∧ xs.length ≤ sizeLine ∧ (xs.map (·.1)).Nodup ∧ (∀ x ∈ xs, x.1.depth ≤ 8) ∧ xs ≠ []

mutual
/-- a key of a dict of tuples -/
def nkey : PyData → Option NestedKey
  | .none => some .none
  | .int i => some (.num i)
  | .str x => some (.text x)
  | .tuple xs => (nkeys xs).map .tup
  | .bool _ => none
  | .list _ => none
  | .dict _ => none
def nkeys : List PyData → Option (List NestedKey)
  | [] => some []
  | x :: xs => (nkey x).bind fun k => (nkeys xs).map fun ks => k :: ks
end

/-- a list that stays, a tuple that stays: of the top, or tracked outside of μ -/
def KL (K : PySem.W.Frag) (a : Addr) (vs : List V) : Prop :=
  ∃ (o : Obj) (its : Array Value) (n : Nat), K.lookup a = some o ∧ o.cls = .type "list" ∧ o.dict = none ∧ o.data = .seq its n ∧ its.size ≤ sizeLine ∧ Vals vs its.toList
def KT (K : PySem.W.Frag) (a : Addr) (vs : List V) : Prop :=
  ∃ (o : Obj) (its : Array Value) (n : Nat), K.lookup a = some o ∧ o.cls = .type "tuple" ∧ o.data = .seq its n ∧ its.size ≤ sizeLine ∧ Vals vs its.toList
def FzL (K : PySem.W.Frag) (H : Hp) (μ : List Addr) (a : Addr) (vs : List V) : Prop := (Rd H a (.lst vs) ∧ a ∉ μ) ∨ KL K a vs
def FzT (K : PySem.W.Frag) (H : Hp) (μ : List Addr) (a : Addr) (vs : List V) : Prop := (Rd H a (.tup vs) ∧ a ∉ μ) ∨ KT K a vs
theorem FzL.sq {K : PySem.W.Frag} {H : Hp} {μ : List Addr} {a : Addr} {vs : List V} (h : FzL K H μ a vs) : SqL K H a vs := h.elim (fun z => .inl z.1) .inr
/-- the same, an object that is known to have no attributes of its own -/
def FzX (K : PySem.W.Frag) (H : Hp) (μ : List Addr) (a : Addr) (vs : List V) : Prop := ((∃ o, H a = some (.frz o (.tup vs)) ∧ o.dict = none) ∧ a ∉ μ) ∨ (KT K a vs ∧ ∃ o, K.lookup a = some o ∧ o.dict = none)
theorem FzX.fzt {K : PySem.W.Frag} {H : Hp} {μ : List Addr} {a : Addr} {vs : List V} (h : FzX K H μ a vs) : FzT K H μ a vs := h.elim (fun ⟨⟨o, e, _⟩, n⟩ => .inl ⟨.inr ⟨o, e⟩, n⟩) fun z => .inr z.1
theorem FzT.sq {K : PySem.W.Frag} {H : Hp} {μ : List Addr} {a : Addr} {vs : List V} (h : FzT K H μ a vs) : SqT K H a vs := h.elim (fun z => .inl z.1) .inr
theorem FzX.sq {K : PySem.W.Frag} {H : Hp} {μ : List Addr} {a : Addr} {vs : List V} (h : FzX K H μ a vs) : SqT K H a vs := h.fzt.sq

mutual
/-- v is the data d, all of it outside of μ -/
inductive Rp (Γ : Gam) (H : Hp) (μ : List Addr) : V → PyData → Prop
  | non : Rp Γ H μ .non .none
  | bl (b : Bool) : Rp Γ H μ (.bl b) (.bool b)
  | int (i : Int) : Rp Γ H μ (.int i) (.int i)
  | str (x : Str) : Rp Γ H μ (.str x) (.str x)
  | lst {a : Addr} {vs : List V} {ds : List PyData} : H a = some (.lst vs) → a ∉ μ → RpAll Γ H μ vs ds → Rp Γ H μ (.ref a) (.list ds)
  | tup {a : Addr} {vs : List V} {ds : List PyData} : FzX Γ.K H μ a vs → RpAll Γ H μ vs ds → Rp Γ H μ (.ref a) (.tuple ds)
  | dic {a : Addr} {ks vs : List V} {nk : Option (List NestedKey)} {ds es : List PyData} {kvs : List (PyData × PyData)} : DicAt Γ H a ks vs nk → a ∉ μ → RpAll Γ H μ ks ds → RpAll Γ H μ vs es → kvs = ds.zip es → (∀ ns, nk = some ns → nkeys ds = some ns) → Rp Γ H μ (.ref a) (.dict kvs)
inductive RpAll (Γ : Gam) (H : Hp) (μ : List Addr) : List V → List PyData → Prop
  | nil : RpAll Γ H μ [] []
  | cons {v : V} {vs : List V} {d : PyData} {ds : List PyData} : Rp Γ H μ v d → RpAll Γ H μ vs ds → RpAll Γ H μ (v :: vs) (d :: ds)
end

/-- from (μ, H) to (μ', H'): new objects that may change stand at new places, all others stay -/
structure Go (μ : List Addr) (H : Hp) (μ' : List Addr) (H' : Hp) : Prop where
  pre : ∃ ν, μ' = μ ++ ν ∧ ∀ a ∈ ν, H a = none
  keep : ∀ a o, H a = some o → a ∉ μ → H' a = some o
  there : ∀ a, H a ≠ none → H' a ≠ none
theorem Go.refl (μ : List Addr) (H : Hp) : Go μ H μ H := ⟨⟨[], by simp, by simp⟩, fun _ _ e _ => e, fun _ e => e⟩
theorem Go.trans {μ μ1 μ2 : List Addr} {H H1 H2 : Hp} (g : Go μ H μ1 H1) (g' : Go μ1 H1 μ2 H2) : Go μ H μ2 H2 := by
  obtain ⟨⟨ν, rfl, n1⟩, k1, t1⟩ := g
  obtain ⟨⟨ν', rfl, n2⟩, k2, t2⟩ := g'
  refine ⟨⟨ν ++ ν', by simp, fun a ha => ?_⟩, fun a o e ha => k2 a o (k1 a o e ha) fun z => ?_, fun a e => t2 a (t1 a e)⟩
  · rcases List.mem_append.mp ha with h | h
    · exact n1 a h
    · refine Decidable.byContradiction fun z => ?_
      exact t1 a z (n2 a h)
  · rcases List.mem_append.mp z with h | h
    · exact ha h
    · rw [n1 a h] at e; cases e

theorem Go.out {μ μ' : List Addr} {H H' : Hp} (g : Go μ H μ' H') {a : Addr} {o : HO} (h : H a = some o) (ha : a ∉ μ) : a ∉ μ' := by
  obtain ⟨ν, rfl, n⟩ := g.pre
  intro z
  rcases List.mem_append.mp z with z | z
  · exact ha z
  · rw [n a z] at h; cases h
theorem Go.rd {μ μ' : List Addr} {H H' : Hp} (g : Go μ H μ' H') {a : Addr} {u : HO} (h : Rd H a u) (ha : a ∉ μ) : Rd H' a u ∧ a ∉ μ' := by
  rcases h with h | ⟨o, h⟩
  · exact ⟨.inl (g.keep _ _ h ha), g.out h ha⟩
  · exact ⟨.inr ⟨o, g.keep _ _ h ha⟩, g.out h ha⟩
theorem Go.fzl {K : PySem.W.Frag} {μ μ' : List Addr} {H H' : Hp} (g : Go μ H μ' H') {a : Addr} {vs : List V} (h : FzL K H μ a vs) : FzL K H' μ' a vs :=
  h.elim (fun z => .inl (g.rd z.1 z.2)) .inr
theorem Go.fzt {K : PySem.W.Frag} {μ μ' : List Addr} {H H' : Hp} (g : Go μ H μ' H') {a : Addr} {vs : List V} (h : FzT K H μ a vs) : FzT K H' μ' a vs :=
  h.elim (fun z => .inl (g.rd z.1 z.2)) .inr
theorem Go.fzx {K : PySem.W.Frag} {μ μ' : List Addr} {H H' : Hp} (g : Go μ H μ' H') {a : Addr} {vs : List V} (h : FzX K H μ a vs) : FzX K H' μ' a vs :=
  h.elim (fun ⟨⟨o, e, d⟩, n⟩ => .inl ⟨⟨o, g.keep _ _ e n, d⟩, g.out e n⟩) .inr
theorem DicAt.has {Γ : Gam} {H : Hp} {a : Addr} {ks vs : List V} {nk : Option (List NestedKey)} (h : DicAt Γ H a ks vs nk) : ∃ o, H a = some o := by
  cases nk with
  | none => obtain ⟨kvs, e, _⟩ := h; exact ⟨_, e⟩
  | some ns => obtain ⟨xs, e, _⟩ := h; exact ⟨_, e⟩
theorem Go.dicAt {Γ : Gam} {μ μ' : List Addr} {H H' : Hp} (g : Go μ H μ' H') {a : Addr} {ks vs : List V} {nk : Option (List NestedKey)} (h : DicAt Γ H a ks vs nk) (ha : a ∉ μ) : DicAt Γ H' a ks vs nk := by
  cases nk with
  | none =>
    obtain ⟨kvs, e, r⟩ := h
    exact ⟨kvs, g.keep _ _ e ha, r⟩
  | some ns =>
    obtain ⟨xs, e, r⟩ := h
    exact ⟨xs, g.keep _ _ e ha, r⟩
mutual
theorem Rp.go {Γ : Gam} {μ μ' : List Addr} {H H' : Hp} (g : Go μ H μ' H') : ∀ {v : V} {d : PyData}, Rp Γ H μ v d → Rp Γ H' μ' v d
  | _, _, .non => .non
  | _, _, .bl b => .bl b
  | _, _, .int i => .int i
  | _, _, .str x => .str x
  | _, _, .lst h n r => .lst (g.keep _ _ h n) (g.out h n) (RpAll.go g r)
  | _, _, .tup h r => .tup (g.fzx h) (RpAll.go g r)
  | _, _, .dic h n r1 r2 e q => .dic (g.dicAt h n) (let ⟨_, z⟩ := h.has; g.out z n) (RpAll.go g r1) (RpAll.go g r2) e q
theorem RpAll.go {Γ : Gam} {μ μ' : List Addr} {H H' : Hp} (g : Go μ H μ' H') : ∀ {vs : List V} {ds : List PyData}, RpAll Γ H μ vs ds → RpAll Γ H' μ' vs ds
  | _, _, .nil => .nil
  | _, _, .cons h r => .cons (Rp.go g h) (RpAll.go g r)
end

mutual
/-- v is the value d -/
inductive Rv (Γ : Gam) (H : Hp) (μ : List Addr) : V → D → Prop
  | p {v : V} {d : PyData} : Rp Γ H μ v d → Rv Γ H μ v (.p d)
  | fn {x : Str} {a : Addr} : Γ.fa x = some a → Rv Γ H μ (.ref a) (.fn x)
  | ty (n : String) : Rv Γ H μ (.ty n) (.ty n)
  | loc {n : Nat} {a : Addr} : μ[n]? = some a → Rv Γ H μ (.ref a) (.loc n)
  | ro {a : Addr} {vs : List V} {ds : List PyData} : FzL Γ.K H μ a vs → RpAll Γ H μ vs ds → Rv Γ H μ (.ref a) (.ro ds)
  | tup {a : Addr} {vs : List V} {ds : List D} : FzX Γ.K H μ a vs → RvAll Γ H μ vs ds → Rv Γ H μ (.ref a) (.tup ds)
  | pr {a : Addr} {vs : List V} {ds : List PyData} : FzT Γ.K H μ a vs → RpAll Γ H μ vs ds → Rv Γ H μ (.ref a) (.pr ds)
inductive RvAll (Γ : Gam) (H : Hp) (μ : List Addr) : List V → List D → Prop
  | nil : RvAll Γ H μ [] []
  | cons {v : V} {vs : List V} {d : D} {ds : List D} : Rv Γ H μ v d → RvAll Γ H μ vs ds → RvAll Γ H μ (v :: vs) (d :: ds)
end
theorem Go.at {μ μ' : List Addr} {H H' : Hp} (g : Go μ H μ' H') {n : Nat} {a : Addr} (h : μ[n]? = some a) : μ'[n]? = some a := by
  obtain ⟨ν, rfl, _⟩ := g.pre
  rw [List.getElem?_append_left (List.getElem?_eq_some_iff.mp h).1]
  exact h
mutual
theorem Rv.go {Γ : Gam} {μ μ' : List Addr} {H H' : Hp} (g : Go μ H μ' H') : ∀ {v : V} {d : D}, Rv Γ H μ v d → Rv Γ H' μ' v d
  | _, _, .p h => .p (h.go g)
  | _, _, .fn h => .fn h
  | _, _, .ty n => .ty n
  | _, _, .loc h => .loc (g.at h)
  | _, _, .ro h r => .ro (g.fzl h) (RpAll.go g r)
  | _, _, .tup h r => .tup (g.fzx h) (RvAll.go g r)
  | _, _, .pr h r => .pr (g.fzt h) (RpAll.go g r)
theorem RvAll.go {Γ : Gam} {μ μ' : List Addr} {H H' : Hp} (g : Go μ H μ' H') : ∀ {vs : List V} {ds : List D}, RvAll Γ H μ vs ds → RvAll Γ H' μ' vs ds
  | _, _, .nil => .nil
  | _, _, .cons h r => .cons (Rv.go g h) (RvAll.go g r)
end
theorem RpAll.length {Γ : Gam} {μ : List Addr} {H : Hp} : ∀ {vs : List V} {ds : List PyData}, RpAll Γ H μ vs ds → vs.length = ds.length
  | _, _, .nil => rfl
  | _, _, .cons _ r => by rw [List.length_cons, List.length_cons, r.length]
theorem RvAll.length {Γ : Gam} {μ : List Addr} {H : Hp} : ∀ {vs : List V} {ds : List D}, RvAll Γ H μ vs ds → vs.length = ds.length
  | _, _, .nil => rfl
  | _, _, .cons _ r => by rw [List.length_cons, List.length_cons, r.length]
theorem RpAll.at {Γ : Gam} {μ : List Addr} {H : Hp} : ∀ {vs : List V} {ds : List PyData} {i : Nat} {v : V}, RpAll Γ H μ vs ds → vs[i]? = some v → ∃ d, ds[i]? = some d ∧ Rp Γ H μ v d
  | _, _, i, _, .nil, e => by rw [List.getElem?_nil] at e; cases e
  | _, _, 0, _, .cons h _, e => by
    simp at e
    subst e
    exact ⟨_, rfl, h⟩
  | _, _, i + 1, _, .cons _ r, e => by
    obtain ⟨d, e1, h⟩ := RpAll.at (i := i) r (by simpa using e)
    exact ⟨d, by simpa using e1, h⟩
theorem RpAll.of {Γ : Gam} {μ : List Addr} {H : Hp} : ∀ {vs : List V} {ds : List PyData} {i : Nat} {d : PyData}, RpAll Γ H μ vs ds → ds[i]? = some d → ∃ v, vs[i]? = some v ∧ Rp Γ H μ v d
  | _, _, i, _, .nil, e => by rw [List.getElem?_nil] at e; cases e
  | _, _, 0, _, .cons h _, e => by
    simp at e
    subst e
    exact ⟨_, rfl, h⟩
  | _, _, i + 1, _, .cons _ r, e => by
    obtain ⟨d, e1, h⟩ := RpAll.of (i := i) r (by simpa using e)
    exact ⟨d, by simpa using e1, h⟩

/-! ### the store, the slots -/
def MoOk (Γ : Gam) (H : Hp) (μ : List Addr) (a : Addr) : MO → Prop
  | .lst xs => ∃ vs, H a = some (.lst vs) ∧ RpAll Γ H μ vs xs
  | .dic kvs => ∃ ks vs nk ds es, DicAt Γ H a ks vs nk ∧ RpAll Γ H μ ks ds ∧ RpAll Γ H μ vs es ∧ kvs = ds.zip es ∧ (∀ ns, nk = some ns → nkeys ds = some ns)
structure Sto (Γ : Gam) (μ : List Addr) (S : Store) (H : Hp) : Prop where
  len : μ.length = S.length
  nd : μ.Nodup
  at_ : ∀ (n : Nat) (a : Addr) (o : MO), μ[n]? = some a → S[n]? = some o → MoOk Γ H μ a o
structure Rel (Γ : Gam) (μ : List Addr) (ρ : Slots) (S : Store) (σ : St) (H : Hp) : Prop where
  sto : Sto Γ μ S H
  len : σ.length = ρ.length
  env : ∀ (i : Nat) (d : D), ρ[i]? = some (some d) → ∃ v, σ[i]? = some (some v) ∧ Rv Γ H μ v d
theorem Rel.go {Γ : Gam} {μ μ' : List Addr} {ρ : Slots} {S S' : Store} {σ : St} {H H' : Hp} (R : Rel Γ μ ρ S σ H) (g : Go μ H μ' H') (s : Sto Γ μ' S' H') : Rel Γ μ' ρ S' σ H' :=
  ⟨s, R.len, fun i d e => let ⟨v, h1, h2⟩ := R.env i d e; ⟨v, h1, h2.go g⟩⟩

/-- an error of the program's own, as it lies in the heap -/
structure ExRel (Γ : Gam) (H : Hp) (μ : List Addr) (x : Ex) (cls : Value) (d : Option Addr) : Prop where
  cls : ∃ C, Γ.ca x.cls = some C ∧ cls = .ref C
  fs : ∃ dx vs, d = some dx ∧ H dx = some (.xd ((x.fs.map (·.1)).zip vs)) ∧ RpAll Γ H μ vs (x.fs.map (·.2))

/-! ### readings by the interpreter -/
/-- what is wanted of an outcome -/
def Fin {α β : Type} (Γ : Gam) (W : WX) (Rx : Hp → List Addr → β → α → Prop) (μ : List Addr) (σ : St) (H : Hp) (o : Out α) (Q : β → Hp → Prop) : Prop := match o with
  | .ok a S' => ∀ μ' H' b, Go μ H μ' H' → Sto Γ μ' S' H' → Rx H' μ' b a → Q b H'
  | .exc x S' => ∀ μ' H' c d, Go μ H μ' H' → Sto Γ μ' S' H' → ExRel Γ H' μ' x c d → W c d σ H'
  | .bad => False
def rd {α β : Type} (Γ : Gam) (W : WX) (Rx : Hp → List Addr → β → α → Prop) (f : M α) : St → Hp → (β → Hp → Prop) → Prop := fun σ H Q =>
  ∃ μ ρ S, Rel Γ μ ρ S σ H ∧ Fin Γ W Rx μ σ H (f ρ S) Q
theorem Fin.go {α β : Type} {Γ : Gam} {W : WX} {Rx : Hp → List Addr → β → α → Prop} {μ μ' : List Addr} {σ : St} {H H' : Hp} {o : Out α} {Q : β → Hp → Prop} (f : Fin Γ W Rx μ σ H o Q) (g : Go μ H μ' H') : Fin Γ W Rx μ' σ H' o Q := by
  cases o with
  | ok a S => exact fun μ2 H2 b g2 s r => f μ2 H2 b (g.trans g2) s r
  | exc x S => exact fun μ2 H2 c d g2 s r => f μ2 H2 c d (g.trans g2) s r
  | bad => exact f
/-- the first part of a row of steps -/
theorem Fin.cut {α α' β β' : Type} {Γ : Gam} {W : WX} {Rx : Hp → List Addr → β → α → Prop} {Ry : Hp → List Addr → β' → α' → Prop} {μ : List Addr} {σ : St} {H : Hp} {o : Out α} {k : α → Store → Out α'} {Q : β' → Hp → Prop} {Q' : β → Hp → Prop}
    (f : Fin Γ W Ry μ σ H (o.bind k) Q) (h : ∀ μ' H' S' a b, Go μ H μ' H' → Sto Γ μ' S' H' → Rx H' μ' b a → Fin Γ W Ry μ' σ H' (k a S') Q → Q' b H') : Fin Γ W Rx μ σ H o Q' := by
  cases o with
  | ok a S => exact fun μ2 H2 b g2 s r => h μ2 H2 S a b g2 s r (Fin.go (o := k a S) f g2)
  | exc x S => exact fun μ2 H2 c d g2 s r => f μ2 H2 c d g2 s r
  | bad => exact f
theorem rd.cut {α α' β β' : Type} {Γ : Gam} {W : WX} {Rx : Hp → List Addr → β → α → Prop} {Ry : Hp → List Addr → β' → α' → Prop} {σ : St} {H : Hp} {m : M α} {k : α → M α'} {Q : β' → Hp → Prop} {Q' : β → Hp → Prop}
    (f : rd Γ W Ry (m.bind k) σ H Q) (h : ∀ μ ρ H' S' a b, Rel Γ μ ρ S' σ H' → Rx H' μ b a → Fin Γ W Ry μ σ H' (k a ρ S') Q → Q' b H') : rd Γ W Rx m σ H Q' := by
  obtain ⟨μ, ρ, S, R, f⟩ := f
  exact ⟨μ, ρ, S, R, Fin.cut (k := fun a S' => k a ρ S') f fun μ' H' S' a b g s r q => h μ' ρ H' S' a b (R.go g s) r q⟩
/-- at the end -/
theorem Fin.here {α β : Type} {Γ : Gam} {W : WX} {Rx : Hp → List Addr → β → α → Prop} {μ : List Addr} {σ : St} {H : Hp} {a : α} {S : Store} {Q : β → Hp → Prop} {b : β} (f : Fin Γ W Rx μ σ H (.ok a S) Q) (s : Sto Γ μ S H) (r : Rx H μ b a) : Q b H :=
  f μ H b (Go.refl _ _) s r
theorem Fin.of {α β : Type} {Γ : Gam} {W : WX} {Rx : Hp → List Addr → β → α → Prop} {μ : List Addr} {σ : St} {H : Hp} {S : Store} {o : Option α} {Q : β → Hp → Prop} (f : Fin Γ W Rx μ σ H (.of S o) Q) : ∃ a, o = some a ∧ Fin Γ W Rx μ σ H (.ok a S) Q := by
  cases o with
  | none => exact f.elim
  | some a => exact ⟨a, rfl, f⟩

abbrev rdE (Γ : Gam) (W : WX) (f : M D) : TE := rd Γ W (fun H μ v d => Rv Γ H μ v d) f
abbrev rdA (Γ : Gam) (W : WX) (f : M (List D)) : TA := rd Γ W (fun H μ vs ds => RvAll Γ H μ vs ds) f
abbrev rdT (Γ : Gam) (W : WX) (f : M Bool) : TT := rd Γ W (fun _ _ b a => b = a) f
/-- a new list of such items -/
abbrev rdL (Γ : Gam) (W : WX) (f : M (List PyData)) : TE := fun σ H Q => rd Γ W (fun H μ vs ds => RpAll Γ H μ vs ds) f σ H fun vs H' => ∀ p, H' p = none → Q (.ref p) (upd H' p (.lst vs))
theorem PE.mono {X : Cx} {e : Expr} {t u : TE} (h : PE X e t) (i : ∀ σ H Q, u σ H Q → t σ H Q) : PE X e u := ⟨fun pins s σ H Q I q => h.run pins s σ H Q I (i σ H Q q)⟩
theorem PT.mono {X : Cx} {e : Expr} {t u : TT} (h : PT X e t) (i : ∀ σ H Q, u σ H Q → t σ H Q) : PT X e u := ⟨fun pins s σ H Q I q => h.run pins s σ H Q I (i σ H Q q)⟩
theorem PA.mono {X : Cx} {e : List Expr} {t u : TA} (h : PA X e t) (i : ∀ σ H Q, u σ H Q → t σ H Q) : PA X e u := ⟨fun pos pins s σ H Q I q => h.run pos pins s σ H Q I (i σ H Q q)⟩
theorem PS.mono {X : Cx} {e : Stmt} {t u : TS} (h : PS X e t) (i : ∀ D σ H, u D σ H → t D σ H) : PS X e u := ⟨fun pins s σ H D I q => h.run pins s σ H D I (i D σ H q)⟩
theorem PSs.mono {X : Cx} {e : List Stmt} {t u : TS} (h : PSs X e t) (i : ∀ D σ H, u D σ H → t D σ H) : PSs X e u := ⟨fun pins s σ H D I q => h.run pins s σ H D I (i D σ H q)⟩
end Fp

set_option Elab.async false
set_option linter.all false
set_option autoImplicit false
set_option maxRecDepth 100000
/-! Fp: new tuples, with the object as it lies. -/
namespace Fp
open PySem PySem.Spec L2 PyProof.Rows
section
variable {X : Cx} {pins : List (Addr × Obj)} {s : Shared} {σ : L2.St} {H : Hp}
/-- what a new tuple's user is told -/
def NewT (H : Hp) (vs : List V) (Q : VK) : Prop := ∀ p o, H p = none → o.dict = none → Q (.ref p) (upd H p (.frz o (.tup vs)))
theorem NewT.laid {vs : List V} {us : List Value} {Q : VK} (q : NewT H vs Q) (I : Inv X pins σ H s) (r : Vals vs us) (few : vs.length ≤ sizeLine) : EP X pins σ Q (.ref s.heap.objs.size) { s with heap := s.heap.push { cls := .type "tuple", data := .seq us.toArray } } := by
  have at_ : (s.heap.push { cls := .type "tuple", data := .seq us.toArray }).get? s.heap.objs.size = some { cls := .type "tuple", data := .seq us.toArray } := Heap.get?_push_size _ rfl
  refine ⟨.ref s.heap.objs.size, _, I.laid (t' := s.toks) (o := .frz { cls := .type "tuple", data := .seq us.toArray } (.tup vs)) (fun b u e => Heap.get?_push_of_some _ e) (Nat.le_refl _) ⟨at_, few, us, r, _, at_, rfl, 0, rfl⟩, rfl, q _ _ (I.hok.fresh (Nat.le_refl _)) rfl⟩
/-- (a, b, ..) -/
theorem pe_tupX {es : List Expr} {t : TA} {x1 : Nat} {pos : Pos} (h : PA X es t) : PE X (.Tuple es x1 pos) (fun σ H Q => t σ H fun vs H1 => vs.length ≤ sizeLine ∧ NewT H1 vs Q) := by
  refine ⟨fun pins s σ H Q I q => wpAny_Tuple_spliced (thn (h.run pos pins s σ H _ I q) ?_)⟩
  rintro us s1 ⟨vs, H1, I1, r, few, nt⟩
  exact ⟨by rw [← r.length]; exact few, nt.laid I1 r few⟩
/-- t + u -/
def rCatX (K : PySem.W.Frag) : R2 := fun x y H Q => ∃ a b xs ys, x = .ref a ∧ y = .ref b ∧ SqT K H a xs ∧ SqT K H b ys ∧ xs.length + ys.length ≤ sizeLine ∧ (xs = [] → Q (.ref b) H) ∧ (xs ≠ [] → ys = [] → Q (.ref a) H) ∧ (xs ≠ [] → ys ≠ [] → NewT H (xs ++ ys) Q)
theorem op_catX : OpR X (binaryOp .Add) (rCatX X.K) := by
  intro ps sh sg hp x y v u Q I rx ry told
  obtain ⟨a, b, xs, ys, rfl, rfl, ha, hb, hz, q0, q1, q2⟩ := told
  by_cases nx : xs = []
  · exact op_catA ps sh sg hp _ _ v u Q I rx ry ⟨a, b, xs, ys, rfl, rfl, ha, hb, hz, q0, fun z => absurd nx z, fun z => absurd nx z⟩
  · cases rx
    cases ry
    obtain ⟨us, r1, t1, _⟩ := I.tuple ha
    obtain ⟨ws, r2, t2, _⟩ := I.tuple hb
    have l1 := r1.length
    have l2 := r2.length
    refine HT.cat_tup t1 t2 (fun z => nx (r1.nil_iff.mp z)) (fun z => ⟨.ref a, hp, I, rfl, q1 nx (r2.nil_iff.mp z)⟩) (fun z => ?_) (by omega)
    exact (q2 nx fun w => z (r2.nil_iff.mpr w)).laid I (r1.append r2) (by rw [List.length_append]; exact hz)
/-- t[lo:hi] -/
def rSlX (K : PySem.W.Frag) : V → Option Int → Option Int → Hp → VK → Prop := fun x lo hi H Q => ∃ a xs, x = .ref a ∧ SqT K H a xs ∧
  (HT.sIx xs.length 0 lo = 0 ∧ HT.sIx xs.length xs.length hi = xs.length → Q (.ref a) H) ∧ (¬ (HT.sIx xs.length 0 lo = 0 ∧ HT.sIx xs.length xs.length hi = xs.length) → NewT H (cutV xs lo hi) Q)
theorem sl_tupX : SlR X (rSlX X.K) := by
  intro ps sh sg hp x v vl vu lo hi sl Q I rx hs pl pu told
  obtain ⟨a, xs, rfl, hx, q1, q2⟩ := told
  by_cases whole : HT.sIx xs.length 0 lo = 0 ∧ HT.sIx xs.length xs.length hi = xs.length
  · exact sl_tupA ps sh sg hp _ v vl vu lo hi sl Q I rx hs pl pu ⟨a, xs, rfl, hx, q1, fun z => absurd whole z⟩
  · cases rx
    obtain ⟨us, r, t, few⟩ := I.tuple hx
    have size : us.toArray.size = xs.length := by rw [List.size_toArray, r.length]
    refine ⟨"tuple", _, PyProof.Rows.slot_tuple_getitem.lookup, t.typeIs, HT.getItem_tuple_cut t hs pl pu (by rw [size]; exact whole) ?_ (by rw [size]; exact few)⟩
    rw [size]
    exact (q2 whole).laid I ((r.drop _).take _) (Nat.le_trans (cutV_length xs lo hi) few)
/-- tuple(..) -/
theorem call_tupleX : CallR X (.type "tuple") (fun xs H Q => ∃ p ys, xs = [.ref p] ∧ ((SqL X.K H p ys ∧ NewT H ys Q) ∨ (SqT X.K H p ys ∧ Q (.ref p) H))) := by
  intro ps sh sg hp xs us Q I r told
  obtain ⟨p, ys, rfl, ⟨hq, q⟩ | ⟨hq, q⟩⟩ := told
  · rw [r.ref1]
    obtain ⟨ws, rel, pl, few⟩ := I.list hq
    refine call_tuple_list pl.isList (fun h' kp => ?_) (by have := rel.length; simp only [List.size_toArray]; omega)
    exact q.laid (I.kept (t' := sh.toks) kp) rel few
  · exact call_tuple_of ps sh sg hp _ us Q I r ⟨p, ys, rfl, .inr ⟨hq, q⟩⟩
end
end Fp

set_option Elab.async false
set_option linter.all false
set_option autoImplicit false
set_option maxRecDepth 100000
/-! Fp: steps of the store; readings of operators, calls, tests. -/
namespace Fp
open PySem L2
section
variable {Γ : Gam} {W : WX} {μ μ' : List Addr} {S S' : Store} {H H' : Hp} {σ : St} {ρ : Slots} {X : Cx}

theorem Sto.ix (s : Sto Γ μ S H) {n : Nat} {a : Addr} (h : μ[n]? = some a) : ∃ o, S[n]? = some o ∧ MoOk Γ H μ a o := by
  have hn := (List.getElem?_eq_some_iff.mp h).1
  rw [s.len] at hn
  exact ⟨S[n], List.getElem?_eq_getElem hn, s.at_ n a _ h (List.getElem?_eq_getElem hn)⟩
theorem Sto.xi (s : Sto Γ μ S H) {n : Nat} {o : MO} (h : S[n]? = some o) : ∃ a, μ[n]? = some a ∧ MoOk Γ H μ a o := by
  have hn := (List.getElem?_eq_some_iff.mp h).1
  rw [← s.len] at hn
  exact ⟨μ[n], List.getElem?_eq_getElem hn, s.at_ n _ _ (List.getElem?_eq_getElem hn) h⟩
theorem MoOk.has {a : Addr} {o : MO} (h : MoOk Γ H μ a o) : ∃ u, H a = some u := by
  cases o with
  | lst xs => obtain ⟨vs, e, _⟩ := h; exact ⟨_, e⟩
  | dic kvs => obtain ⟨ks, vs, nk, ds, es, e, _⟩ := h; exact e.has
theorem Sto.has (s : Sto Γ μ S H) {a : Addr} (h : a ∈ μ) : ∃ u, H a = some u := by
  obtain ⟨n, hn⟩ := List.getElem?_of_mem h
  obtain ⟨o, _, m⟩ := s.ix hn
  exact m.has
theorem Sto.out (s : Sto Γ μ S H) {p : Addr} (h : H p = none) : p ∉ μ := fun z => by
  obtain ⟨u, e⟩ := s.has z
  rw [h] at e; cases e
theorem DicAt.eq {a : Addr} {ks vs : List V} {nk : Option (List NestedKey)} (h : DicAt Γ H a ks vs nk) (e : H' a = H a) : DicAt Γ H' a ks vs nk := by
  cases nk with
  | none =>
    obtain ⟨kvs, q, r⟩ := h
    exact ⟨kvs, e.trans q, r⟩
  | some ns =>
    obtain ⟨xs, q, r⟩ := h
    exact ⟨xs, e.trans q, r⟩
theorem MoOk.step {a : Addr} {o : MO} (h : MoOk Γ H μ a o) (g : Go μ H μ' H') (e : H' a = H a) : MoOk Γ H' μ' a o := by
  cases o with
  | lst xs =>
    obtain ⟨vs, q, r⟩ := h
    exact ⟨vs, e.trans q, r.go g⟩
  | dic kvs =>
    obtain ⟨ks, vs, nk, ds, es, q, r1, r2, r3⟩ := h
    exact ⟨ks, vs, nk, ds, es, q.eq e, r1.go g, r2.go g, r3⟩
theorem Go.lay (μ : List Addr) {H : Hp} {p : Addr} (hp : H p = none) (o : HO) : Go μ H μ (upd H p o) :=
  ⟨⟨[], by simp, by simp⟩, fun a u e _ => by rw [upd_ne (ne_of_none e hp)]; exact e, fun a e => by
    by_cases z : a = p
    · subst z; rw [upd_same]; simp
    · rw [upd_ne z]; exact e⟩
theorem Sto.lay (s : Sto Γ μ S H) {p : Addr} (hp : H p = none) (o : HO) : Sto Γ μ S (upd H p o) :=
  ⟨s.len, s.nd, fun n a m h1 h2 => (s.at_ n a m h1 h2).step (Go.lay μ hp o) (upd_ne fun z => s.out hp (z ▸ List.mem_of_getElem? h1))⟩
theorem Go.alloc (μ : List Addr) {H : Hp} {p : Addr} (hp : H p = none) (o : HO) : Go μ H (μ ++ [p]) (upd H p o) :=
  ⟨⟨[p], rfl, fun a ha => by rw [List.mem_singleton] at ha; rw [ha]; exact hp⟩, (Go.lay μ hp o).keep, (Go.lay μ hp o).there⟩
theorem Sto.alloc (s : Sto Γ μ S H) {p : Addr} (hp : H p = none) {o : HO} {m : MO} (h : MoOk Γ (upd H p o) (μ ++ [p]) p m) : Sto Γ (μ ++ [p]) (S ++ [m]) (upd H p o) := by
  refine ⟨by simp [s.len], ?_, fun n a m' h1 h2 => ?_⟩
  · rw [List.nodup_append]
    refine ⟨s.nd, by simp, fun a ha b hb => ?_⟩
    rw [List.mem_singleton] at hb
    subst hb
    exact fun z => s.out hp (z ▸ ha)
  · by_cases hn : n < μ.length
    · rw [List.getElem?_append_left hn] at h1
      rw [List.getElem?_append_left (by rw [← s.len]; exact hn)] at h2
      exact (s.at_ n a m' h1 h2).step (Go.alloc μ hp o) (upd_ne fun z => s.out hp (z ▸ List.mem_of_getElem? h1))
    · have hn1 : n = μ.length := by
        have := (List.getElem?_eq_some_iff.mp h1).1
        rw [List.length_append, List.length_singleton] at this
        omega
      subst hn1
      rw [List.getElem?_append_right (Nat.le_refl _), Nat.sub_self] at h1
      rw [s.len, List.getElem?_append_right (Nat.le_refl _), Nat.sub_self] at h2
      simp at h1 h2
      subst h1 h2
      exact h
theorem Go.write (μ : List Addr) {H : Hp} {a : Addr} (ha : a ∈ μ) (o : HO) : Go μ H μ (upd H a o) :=
  ⟨⟨[], by simp, by simp⟩, fun b u e hb => by rw [upd_ne (fun (z : b = a) => hb (by rw [z]; exact ha))]; exact e, fun b e => by
    by_cases z : b = a
    · subst z; rw [upd_same]; simp
    · rw [upd_ne z]; exact e⟩
theorem Sto.write (s : Sto Γ μ S H) {n : Nat} {a : Addr} (ha : μ[n]? = some a) {o : HO} {m : MO} (h : MoOk Γ (upd H a o) μ a m) : Sto Γ μ (S.set n m) (upd H a o) := by
  refine ⟨by simp [s.len], s.nd, fun k b m' h1 h2 => ?_⟩
  by_cases hk : k = n
  · subst hk
    rw [ha] at h1; cases h1
    rw [List.getElem?_set_self (by rw [← s.len]; exact (List.getElem?_eq_some_iff.mp ha).1)] at h2
    cases h2
    exact h
  · rw [List.getElem?_set_ne (Ne.symm hk)] at h2
    have apart : b ≠ a := fun z => by
      subst z
      obtain ⟨h3, e3⟩ := List.getElem?_eq_some_iff.mp h1
      obtain ⟨h4, e4⟩ := List.getElem?_eq_some_iff.mp ha
      exact hk ((List.getElem_inj s.nd).mp (e3.trans e4.symm))
    exact (s.at_ k b m' h1 h2).step (Go.write μ (List.mem_of_getElem? ha) o) (upd_ne apart)

/-! ### what a step gives -/
def Giv (Γ : Gam) (μ : List Addr) (S : Store) (H : Hp) (d : D) (Q : VK) : Prop := ∀ μ' H' v, Go μ H μ' H' → Sto Γ μ' S H' → Rv Γ H' μ' v d → Q v H'
theorem Giv.here {d : D} {Q : VK} {v : V} (g : Giv Γ μ S H d Q) (s : Sto Γ μ S H) (r : Rv Γ H μ v d) : Q v H := g μ H v (Go.refl _ _) s r
theorem Giv.int {i : Int} {Q : VK} (g : Giv Γ μ S H (.p (.int i)) Q) (s : Sto Γ μ S H) : Q (.int i) H := g.here s (.p (.int i))
theorem Giv.bl {i : Bool} {Q : VK} (g : Giv Γ μ S H (.p (.bool i)) Q) (s : Sto Γ μ S H) : Q (.bl i) H := g.here s (.p (.bl i))
theorem Giv.str {i : Str} {Q : VK} (g : Giv Γ μ S H (.p (.str i)) Q) (s : Sto Γ μ S H) : Q (.str i) H := g.here s (.p (.str i))
theorem Giv.non {Q : VK} (g : Giv Γ μ S H (.p .none) Q) (s : Sto Γ μ S H) : Q .non H := g.here s (.p .non)
/-- a new list, a new tuple of data -/
theorem Giv.lst {vs : List V} {ds : List PyData} {Q : VK} (g : Giv Γ μ S H (.p (.list ds)) Q) (s : Sto Γ μ S H) (r : RpAll Γ H μ vs ds) : ∀ p, H p = none → Q (.ref p) (upd H p (.lst vs)) := fun p hp =>
  g μ _ _ (Go.lay μ hp _) (s.lay hp _) (.p (.lst upd_same (s.out hp) (r.go (Go.lay μ hp _))))
theorem Giv.tup {vs : List V} {ds : List PyData} {Q : VK} (g : Giv Γ μ S H (.p (.tuple ds)) Q) (s : Sto Γ μ S H) (r : RpAll Γ H μ vs ds) : ∀ p o, H p = none → o.dict = none → Q (.ref p) (upd H p (.frz o (.tup vs))) := fun p o hp hd =>
  g μ _ _ (Go.lay μ hp _) (s.lay hp _) (.p (.tup (.inl ⟨⟨o, upd_same, hd⟩, s.out hp⟩) (r.go (Go.lay μ hp _))))
theorem Giv.go {d : D} {Q : VK} (f : Giv Γ μ S H d Q) (g : Go μ H μ' H') : Giv Γ μ' S H' d Q := fun μ2 H2 v g2 s r => f μ2 H2 v (g.trans g2) s r

/-- an operator by a function of its operands -/
def rG2 (Γ : Gam) (g : D → D → Store → Option D) : R2 := fun x y H Q => ∃ μ S a b d, Sto Γ μ S H ∧ Rv Γ H μ x a ∧ Rv Γ H μ y b ∧ g a b S = some d ∧ Giv Γ μ S H d Q
def rG1 (Γ : Gam) (g : D → Store → Option D) : V → Hp → VK → Prop := fun x H Q => ∃ μ S a d, Sto Γ μ S H ∧ Rv Γ H μ x a ∧ g a S = some d ∧ Giv Γ μ S H d Q
def rGn (Γ : Gam) (g : List D → Store → Option D) : List V → Hp → VK → Prop := fun xs H Q => ∃ μ S as d, Sto Γ μ S H ∧ RvAll Γ H μ xs as ∧ g as S = some d ∧ Giv Γ μ S H d Q
theorem OpR.mono {f : Value → Value → Sem Value} {r r' : R2} (h : OpR X f r) (i : ∀ x y H Q, r' x y H Q → r x y H Q) : OpR X f r' := fun pins s σ H x y v u Q I rx ry q => h pins s σ H x y v u Q I rx ry (i x y H Q q)
theorem CallR.mono {f : Value} {r r' : List V → Hp → VK → Prop} (h : CallR X f r) (i : ∀ xs H Q, r' xs H Q → r xs H Q) : CallR X f r' := fun pins s σ H vs us Q I rx q => h pins s σ H vs us Q I rx (i vs H Q q)

def eBin (g : D → D → Store → Option D) (fa fb : M D) : M D := fa.bind fun a => fb.bind fun b => fun _ S => .of S (g a b S)
def eUn (g : D → Store → Option D) (fa : M D) : M D := fa.bind fun a => fun _ S => .of S (g a S)
def eNs (g : List D → Store → Option D) (fa : M (List D)) : M D := fa.bind fun a => fun _ S => .of S (g a S)
theorem tOp_of {g : D → D → Store → Option D} {fa fb : M D} {Q : VK} (h : rdE Γ W (eBin g fa fb) σ H Q) : tOp (rG2 Γ g) (rdE Γ W fa) (rdE Γ W fb) σ H Q := by
  refine rd.cut h fun μ ρ H1 S1 a x R1 ra f1 => ?_
  refine ⟨μ, ρ, S1, R1, Fin.cut (k := fun b S' => .of S' (g a b S')) f1 fun μ2 H2 S2 b y g2 s2 rb f2 => ?_⟩
  obtain ⟨d, e, f3⟩ := f2.of
  exact ⟨μ2, S2, a, b, d, s2, ra.go g2, rb, e, f3⟩
theorem e_bin {op : Operator} {g : D → D → Store → Option D} {a b : Expr} {fa fb : M D} {pos : Pos} (ho : OpR X (binaryOp op) (rG2 Γ g)) (ha : PE X a (rdE Γ W fa)) (hb : PE X b (rdE Γ W fb)) : PE X (.BinOp a op b pos) (rdE Γ W (eBin g fa fb)) :=
  PE.mono (pe_op ho ha hb) fun _ _ _ h => tOp_of h
theorem e_cmp {op : CmpOp} {g : D → D → Store → Option D} {a b : Expr} {fa fb : M D} {pos : Pos} (ho : OpR X (compareOp op) (rG2 Γ g)) (ha : PE X a (rdE Γ W fa)) (hb : PE X b (rdE Γ W fb)) (hm : behindInMarks op b = false) : PE X (.Compare a [op] [b] pos) (rdE Γ W (eBin g fa fb)) :=
  PE.mono (pe_cmpR ho ha hb hm) fun _ _ _ h => tOp_of h
theorem e_un {op : UnaryOp} {g : D → Store → Option D} {a : Expr} {fa : M D} {pos : Pos} (ho : UnR X (unaryOp op) (rG1 Γ g)) (ha : PE X a (rdE Γ W fa)) : PE X (.UnaryOp op a pos) (rdE Γ W (eUn g fa)) := by
  refine PE.mono (pe_un ho ha) fun σ H Q h => ?_
  refine rd.cut h fun μ ρ H1 S1 a x R1 ra f1 => ?_
  obtain ⟨d, e, f3⟩ := f1.of
  exact ⟨μ, S1, a, d, R1.sto, ra, e, f3⟩
/-- arguments -/
def aNil : M (List D) := fun _ S => .ok [] S
def aCons (f : M D) (r : M (List D)) : M (List D) := f.bind fun a => r.bind fun as => fun _ S => .ok (a :: as) S
theorem a_nil : PA X [] (rdA Γ W aNil) := PA.mono pa_nil fun σ H Q h => by
  obtain ⟨μ, ρ, S, R, f⟩ := h
  exact Fin.here f R.sto .nil
theorem a_cons {e : Expr} {es : List Expr} {f : M D} {r : M (List D)} (ha : PE X e (rdE Γ W f)) (hr : PA X es (rdA Γ W r)) (hs : starEach (e :: es) X.env = (false, eval e X.env) :: starEach es X.env) : PA X (e :: es) (rdA Γ W (aCons f r)) := by
  refine PA.mono (pa_cons ha hr hs) fun σ H Q h => ?_
  refine rd.cut h fun μ ρ H1 S1 a x R1 ra f1 => ?_
  refine ⟨μ, ρ, S1, R1, Fin.cut (k := fun as S' => .ok (a :: as) S') f1 fun μ2 H2 S2 as xs g2 s2 rs f2 => ?_⟩
  exact Fin.here f2 s2 (.cons (ra.go g2) rs)
theorem tCB_of {g : List D → Store → Option D} {fa : M (List D)} {Q : VK} (h : rdE Γ W (eNs g fa) σ H Q) : tCB (rGn Γ g) (rdA Γ W fa) σ H Q := by
  refine rd.cut h fun μ ρ H1 S1 a x R1 ra f1 => ?_
  obtain ⟨d, e, f3⟩ := f1.of
  exact ⟨μ, S1, a, d, R1.sto, ra, e, f3⟩

/-! ### data out of values -/
def allP : List D → Option (List PyData)
  | [] => some []
  | .p d :: r => (allP r).map fun ds => d :: ds
  | _ :: _ => none
theorem RvAll.allP : ∀ {vs : List V} {as : List D} {ds : List PyData}, RvAll Γ H μ vs as → allP as = some ds → RpAll Γ H μ vs ds
  | _, _, _, .nil, e => by
    cases e
    exact .nil
  | _, _, _, .cons (.p h) r, e => by
    rw [Fp.allP] at e
    obtain ⟨ds, e1, rfl⟩ := Option.map_eq_some_iff.mp e
    exact .cons h (RvAll.allP r e1)
  | _, _, _, .cons (.fn _) _, e => by cases e
  | _, _, _, .cons (.ty _) _, e => by cases e
  | _, _, _, .cons (.loc _) _, e => by cases e
  | _, _, _, .cons (.ro _ _) _, e => by cases e
  | _, _, _, .cons (.tup _ _) _, e => by cases e
/-- a list's items: of one that stays, of one that may change, of one that is only read -/
def viewW (S : Store) : D → Option (List PyData)
  | .p (.list xs) => some xs
  | .loc n => match S[n]? with
    | some (.lst xs) => some xs
    | _ => none
  | _ => none
def viewL (S : Store) : D → Option (List PyData)
  | .ro xs => some xs
  | d => viewW S d
def viewT : D → Option (List PyData)
  | .p (.tuple xs) => some xs
  | _ => none
/-- the data of a value, as it stands -/
def view (S : Store) : D → Option PyData
  | .p d => some d
  | .loc n => match S[n]? with
    | some (.lst xs) => some (.list xs)
    | some (.dic kvs) => some (.dict kvs)
    | none => none
  | .ro xs => some (.list xs)
  | _ => none
theorem viewW_at {v : V} {d : D} {xs : List PyData} (s : Sto Γ μ S H) (r : Rv Γ H μ v d) (e : viewW S d = some xs) : ∃ a vs, v = .ref a ∧ H a = some (.lst vs) ∧ RpAll Γ H μ vs xs := by
  cases r with
  | p h =>
    cases h with
    | lst h1 n h2 =>
      cases e
      exact ⟨_, _, rfl, h1, h2⟩
    | _ => cases e
  | loc h =>
    obtain ⟨o, e1, m⟩ := s.ix h
    simp only [viewW, e1] at e
    cases o with
    | lst ys =>
      cases e
      obtain ⟨vs, q, r⟩ := m
      exact ⟨_, vs, rfl, q, r⟩
    | dic kvs => cases e
  | _ => cases e
theorem viewL_at {v : V} {d : D} {xs : List PyData} (s : Sto Γ μ S H) (r : Rv Γ H μ v d) (e : viewL S d = some xs) : ∃ a vs, v = .ref a ∧ SqL Γ.K H a vs ∧ RpAll Γ H μ vs xs := by
  cases r with
  | ro h r =>
    cases e
    exact ⟨_, _, rfl, h.sq, r⟩
  | p h =>
    obtain ⟨a, vs, e1, q, r⟩ := viewW_at s (.p h) e
    exact ⟨a, vs, e1, SqL.of q, r⟩
  | loc h =>
    obtain ⟨a, vs, e1, q, r⟩ := viewW_at s (.loc h) e
    exact ⟨a, vs, e1, SqL.of q, r⟩
  | _ => cases e
theorem viewT_at {v : V} {d : D} {xs : List PyData} (r : Rv Γ H μ v d) (e : viewT d = some xs) : ∃ a vs, v = .ref a ∧ SqT Γ.K H a vs ∧ RpAll Γ H μ vs xs := by
  cases r with
  | p h =>
    cases h with
    | tup h1 h2 =>
      cases e
      exact ⟨_, _, rfl, h1.sq, h2⟩
    | _ => cases e
  | _ => cases e
end
end Fp

set_option Elab.async false
set_option linter.all false
set_option autoImplicit false
set_option maxRecDepth 100000
/-! Fp: operators and comparisons. -/
namespace Fp
open PySem L2
/-- a body's context, as the interpreter needs it -/
structure Gx (Γ : Gam) (k : Nat) (X : Cx) : Prop where
  P : X.prog = Γ.P
  w : X.w = Γ.w
  K : X.K = Γ.K
  mg : X.mg = Γ.mg
  base : X.base = Γ.base
  nd : X.N.Nodup
  calm : X.calm = true
  room : Room k X.A
  guards : X.A.guards = some []
  ps : PassesOwn (model X.prog X.w) X.A X.env X.xe
section
variable {Γ : Gam} {k : Nat} {W : WX} {μ μ' : List Addr} {S S' : Store} {H H' : Hp} {σ : St} {ρ : Slots} {X : Cx} {pins : List (Addr × Obj)} {s : Shared}

/-! ### data read off the heap -/
mutual
theorem Rp.reads (G : Gx Γ k X) (I : Inv X pins σ H s) : ∀ {v : V} {d : PyData} {u : Value}, Rp Γ H μ v d → d.plain = true → RelV v u → ∃ as, Reads s.heap u d as
  | _, _, _, .non, _, r => by cases r; exact ⟨_, .none⟩
  | _, _, _, .bl b, _, r => by cases r; exact ⟨_, .bool b⟩
  | _, _, _, .int i, _, r => by obtain ⟨t, rfl⟩ := r; exact ⟨_, .int i t⟩
  | _, _, _, .str x, _, r => by obtain ⟨t, rfl⟩ := r; exact ⟨_, .str x t⟩
  | _, _, _, .lst h n hr, hp, r => by
    cases r
    obtain ⟨its, rv, ⟨o, m, ho, hc, _, hd⟩, _⟩ := I.list (SqL.of (K := X.K) h)
    obtain ⟨as, q⟩ := RpAll.reads G I hr (by simpa [PyData.plain] using hp) rv
    exact ⟨_, .list ho hc hd (by simpa using q)⟩
  | _, _, _, .tup h hr, hp, r => by
    cases r
    obtain ⟨its, rv, ⟨o, ho, hc, m, hd⟩, _⟩ := I.tuple (show SqT X.K H _ _ by rw [G.K]; exact h.sq)
    obtain ⟨as, q⟩ := RpAll.reads G I hr (by simpa [PyData.plain] using hp) rv
    exact ⟨_, .tuple ho hc hd (by simpa using q)⟩
  | _, _, _, .dic _ _ _ _ _ _, hp, _ => by simp [PyData.plain] at hp
theorem RpAll.reads (G : Gx Γ k X) (I : Inv X pins σ H s) : ∀ {vs : List V} {ds : List PyData} {us : List Value}, RpAll Γ H μ vs ds → PyData.plainAll ds = true → Vals vs us → ∃ as, ReadsAll s.heap us ds as
  | _, _, _, .nil, _, r => by cases r; exact ⟨_, .nil⟩
  | _, _, _, .cons h hr, hp, r => by
    cases r with
    | cons r1 r2 =>
      rw [PyData.plainAll, Bool.and_eq_true] at hp
      obtain ⟨as, q1⟩ := Rp.reads G I h hp.1 r1
      obtain ⟨bs, q2⟩ := RpAll.reads G I hr hp.2 r2
      exact ⟨_, .cons q1 q2⟩
end
theorem view_reads (G : Gx Γ k X) (I : Inv X pins σ H s) (st : Sto Γ μ S H) {v : V} {d : D} {x : PyData} {u : Value} (r : Rv Γ H μ v d) (e : view S d = some x) (hp : x.plain = true) (ru : RelV v u) : ∃ as, Reads s.heap u x as := by
  cases r with
  | p h =>
    cases e
    exact h.reads G I hp ru
  | loc h =>
    obtain ⟨o, e1, m⟩ := st.ix h
    simp only [view, e1] at e
    cases o with
    | lst ys =>
      cases e
      obtain ⟨vs, q, r⟩ := m
      cases ru
      obtain ⟨its, rv, ⟨o, m, ho, hc, _, hd⟩, _⟩ := I.list (SqL.of (K := X.K) q)
      obtain ⟨as, q⟩ := r.reads G I (by simpa [PyData.plain] using hp) rv
      exact ⟨_, .list ho hc hd (by simpa using q)⟩
    | dic kvs =>
      cases e
      simp [PyData.plain] at hp
  | ro h r =>
    cases e
    cases ru
    obtain ⟨its, rv, ⟨o, m, ho, hc, _, hd⟩, _⟩ := I.list (show SqL X.K H _ _ by rw [G.K]; exact h.sq)
    obtain ⟨as, q⟩ := r.reads G I (by simpa [PyData.plain] using hp) rv
    exact ⟨_, .list ho hc hd (by simpa using q)⟩
  | _ => cases e
/-- data that may be compared: no dict within, not too deep -/
def okD (d : PyData) : Bool := d.plain && decide (d.depth ≤ 60)
theorem okD_plain {d : PyData} (h : okD d = true) : d.plain = true := (Bool.and_eq_true_iff.mp h).1
theorem okD_depth {d : PyData} (h : okD d = true) : d.depth ≤ 60 := of_decide_eq_true (Bool.and_eq_true_iff.mp h).2

/-! ### + - * // % ** -/
def gAdd (a b : D) (S : Store) : Option D := match a, b with
  | .p (.int i), .p (.int j) => some (.p (.int (i + j)))
  | .p (.str x), .p (.str y) => if x.length + y.length ≤ sizeLine then some (.p (.str (x ++ y))) else none
  | .p (.tuple xs), .p (.tuple ys) => if xs.length + ys.length ≤ sizeLine then some (.p (.tuple (xs ++ ys))) else none
  | a, b => match viewW S a, viewW S b with
    | some xs, some ys => if xs.length + ys.length ≤ sizeLine then some (.p (.list (xs ++ ys))) else none
    | _, _ => none
theorem RpAll.append : ∀ {vs ws : List V} {ds es : List PyData}, RpAll Γ H μ vs ds → RpAll Γ H μ ws es → RpAll Γ H μ (vs ++ ws) (ds ++ es)
  | _, _, _, _, .nil, r => r
  | _, _, _, _, .cons h r, r' => .cons h (RpAll.append r r')
theorem RpAll.nil_iff {vs : List V} {ds : List PyData} (r : RpAll Γ H μ vs ds) : vs = [] ↔ ds = [] := by
  cases r with
  | nil => simp
  | cons _ _ => simp
theorem Giv.tupR {x : PyData} {ds : List PyData} {v : V} {Q : VK} (g : Giv Γ μ S H (.p (.tuple ds)) Q) (s : Sto Γ μ S H) (r : Rp Γ H μ v x) (e : x = .tuple ds) : Q v H := g.here s (.p (e ▸ r))
theorem o_add (G : Gx Γ k X) : OpR X (binaryOp .Add) (rG2 Γ gAdd) := by
  intro pins s σ H x y v u Q I
  intro rx ry h
  obtain ⟨μ, S, a, b, d, st, ra, rb, e, q⟩ := h
  have lists : (∃ xs ys, viewW S a = some xs ∧ viewW S b = some ys ∧ xs.length + ys.length ≤ sizeLine ∧ d = .p (.list (xs ++ ys))) → wpAny (model X.prog X.w) X.A (binaryOp .Add v u) (EP X pins σ Q) X.xe s := by
    rintro ⟨xs, ys, e1, e2, hz, rfl⟩
    obtain ⟨p1, vs, rfl, h1, r1⟩ := viewW_at st ra e1
    obtain ⟨p2, ws, rfl, h2, r2⟩ := viewW_at st rb e2
    exact op_cat pins s σ H _ _ v u Q I rx ry ⟨p1, p2, vs, ws, rfl, rfl, h1, h2, by rw [r1.length, r2.length]; exact hz, q.lst st (r1.append r2)⟩
  unfold gAdd at e
  split at e
  · cases e
    cases ra with
    | p h1 =>
      cases h1
      cases rb with
      | p h2 =>
        cases h2
        exact op_add pins s σ H _ _ v u Q I rx ry ⟨_, _, rfl, rfl, q.int st⟩
  · split at e
    · rename_i hz
      cases e
      cases ra with
      | p h1 =>
        cases h1
        cases rb with
        | p h2 =>
          cases h2
          exact op_add_str pins s σ H _ _ v u Q I rx ry ⟨_, _, rfl, rfl, hz, q.str st⟩
    · cases e
  · split at e
    · rename_i hz
      cases e
      cases ra with
      | p h1 =>
        cases rb with
        | p h2 =>
          cases id h1 with
          | tup t1 r1 =>
            cases id h2 with
            | tup t2 r2 =>
              refine op_catX pins s σ H _ _ v u Q I rx ry ⟨_, _, _, _, rfl, rfl, by rw [G.K]; exact t1.sq, by rw [G.K]; exact t2.sq, by rw [r1.length, r2.length]; exact hz, fun z => ?_, fun _ z => ?_, fun _ _ => q.tup st (r1.append r2)⟩
              · exact q.tupR st h2 (by rw [r1.nil_iff.mp z]; rfl)
              · exact q.tupR st h1 (by rw [r2.nil_iff.mp z, List.append_nil])
    · cases e
  · split at e
    · rename_i e1 e2
      split at e
      · cases e
        exact lists ⟨_, _, e1, e2, by assumption, rfl⟩
      · cases e
    · cases e
/-- two ints -/
def gII (c : Int → Int → Bool) (f : Int → Int → Int) (a b : D) (_ : Store) : Option D := match a, b with
  | .p (.int i), .p (.int j) => if c i j = true then some (.p (.int (f i j))) else none
  | _, _ => none
theorem o_ii {fo : Value → Value → Sem Value} {C : Int → Int → Prop} {c : Int → Int → Bool} {f : Int → Int → Int} (ho : OpR X fo (rI C fun i j => .int (f i j))) (hc : ∀ i j, c i j = true → C i j) : OpR X fo (rG2 Γ (gII c f)) := by
  refine OpR.mono ho fun x y H Q h => ?_
  obtain ⟨μ, S, a, b, d, st, ra, rb, e, q⟩ := h
  unfold gII at e
  split at e
  · split at e
    · rename_i hz
      cases e
      cases ra with
      | p h1 =>
        cases h1
        cases rb with
        | p h2 =>
          cases h2
          exact ⟨_, _, rfl, rfl, hc _ _ hz, q.int st⟩
    · cases e
  · cases e
def gSub := gII (fun _ _ => true) fun i j => i - j
def gMulI := gII (fun i j => (decide (-(2 ^ 64) < i) && decide (i < 2 ^ 64)) || (decide (-(2 ^ 64) < j) && decide (j < 2 ^ 64))) fun i j => i * j
def gDiv := gII (fun _ j => decide (0 < j) && decide (j < 1073741824)) fun i j => i / j
def gMod := gII (fun _ j => decide (0 < j)) fun i j => i % j
def gPow := gII (fun i j => decide (0 ≤ j) && decide (j ≤ 1000000) && decide (i.natAbs < 2 ^ 64)) fun i j => i ^ j.toNat
theorem o_sub : OpR X (binaryOp .Sub) (rG2 Γ gSub) := o_ii (C := fun _ _ => True) (OpR.mono op_sub fun x y H Q ⟨i, j, e1, e2, _, q⟩ => ⟨i, j, e1, e2, q⟩) fun _ _ _ => trivial
theorem o_mulI : OpR X (binaryOp .Mult) (rG2 Γ gMulI) := o_ii op_mul fun i j h => by simpa [CMul] using h
theorem o_div : OpR X (binaryOp .FloorDiv) (rG2 Γ gDiv) := o_ii op_fdiv fun i j h => by simpa [CDiv] using h
theorem o_mod : OpR X (binaryOp .Mod) (rG2 Γ gMod) := o_ii op_mod fun i j h => by simpa using h
theorem o_pow : OpR X (binaryOp .Pow) (rG2 Γ gPow) := o_ii op_pow fun i j h => by simpa [CPow, and_assoc] using h
/-- a product of ints, a list so many times -/
def gMul (a b : D) (S : Store) : Option D := match viewW S a, b with
  | some xs, .p (.int n) => if 0 ≤ n ∧ n ≤ 1000000 ∧ xs.length * n.toNat ≤ sizeLine then some (.p (.list (List.replicate n.toNat xs).flatten)) else none
  | _, _ => gMulI a b S
theorem RpAll.rep {vs : List V} {ds : List PyData} (r : RpAll Γ H μ vs ds) : ∀ n : Nat, RpAll Γ H μ (List.replicate n vs).flatten (List.replicate n ds).flatten
  | 0 => .nil
  | n + 1 => by
    simp only [List.replicate_succ, List.flatten_cons]
    exact r.append (r.rep n)
theorem o_mul : OpR X (binaryOp .Mult) (rG2 Γ gMul) := by
  intro pins s σ H x y v u Q I
  intro rx ry h
  obtain ⟨μ, S, a, b, d, st, ra, rb, e, q⟩ := h
  unfold gMul at e
  split at e
  · rename_i e1
    split at e
    · rename_i hz
      cases e
      obtain ⟨p1, vs, rfl, h1, r1⟩ := viewW_at st ra e1
      cases rb with
      | p h2 =>
        cases h2
        exact op_rep pins s σ H _ _ v u Q I rx ry ⟨p1, _, vs, rfl, rfl, h1, by omega, by omega, by rw [r1.length]; exact hz.2.2, q.lst st (r1.rep _)⟩
    · cases e
  · exact o_mulI pins s σ H _ _ v u Q I rx ry ⟨μ, S, a, _, d, st, ra, rb, e, q⟩
def gNeg (a : D) (_ : Store) : Option D := match a with
  | .p (.int i) => some (.p (.int (-i)))
  | _ => none
theorem o_neg : UnR X (unaryOp .USub) (rG1 Γ gNeg) := by
  intro pins s σ H x v Q I rx h
  obtain ⟨μ, S, a, d, st, ra, e, q⟩ := h
  unfold gNeg at e
  split at e
  · cases e
    cases ra with
    | p h1 =>
      cases h1
      exact un_neg pins s σ H _ v Q I rx ⟨_, rfl, q.int st⟩
  · cases e

/-! ### comparisons -/
def cmpD (op : CmpOp) (x y : PyData) : Bool := match op with
  | .Eq => PyData.eqv x y
  | .NotEq => !PyData.eqv x y
  | .Lt => PySem.W.dataLt x y
  | .Gt => PySem.W.dataLt y x
  | .LtE => !PySem.W.dataLt y x
  | .GtE => !PySem.W.dataLt x y
  | _ => false
def isNon : PyData → Bool
  | .none => true
  | _ => false
def cmpOk (op : CmpOp) (x y : PyData) : Bool := match op with
  | .Eq | .NotEq => okD x && okD y
  | .Lt | .Gt | .LtE | .GtE => okD x && okD y && PySem.W.alike x y && !isNon x
  | _ => false
def bCmp (op : CmpOp) (a b : D) (S : Store) : Option Bool := match view S a, view S b with
  | some x, some y => if cmpOk op x y = true then some (cmpD op x y) else none
  | _, _ => none
/-- an answer as a value -/
def gB (g : D → D → Store → Option Bool) (a b : D) (S : Store) : Option D := (g a b S).map fun k => .p (.bool k)
theorem min_room {k : Nat} {A : Around} {x y : PyData} (hr : Room k A) (hx : x.depth ≤ 60) : A.units + min x.depth y.depth < cLine := by
  have := hr.units
  omega
theorem o_cmp (G : Gx Γ k X) (op : CmpOp) : OpR X (compareOp op) (rG2 Γ (gB (bCmp op))) := by
  intro pins s σ H x y v u Q I
  intro rx ry h
  obtain ⟨μ, S, a, b, d, st, ra, rb, e, q⟩ := h
  obtain ⟨kk, ek, hd⟩ := Option.map_eq_some_iff.mp e
  clear e
  subst hd
  have e := ek
  clear ek
  unfold bCmp at e
  split at e
  · rename_i x1 y1 ex ey
    split at e
    · rename_i hc
      cases e
      have fin : EP X pins σ Q (.bool (cmpD op x1 y1)) s := ⟨.bl _, H, I, rfl, q.bl st⟩
      cases op with
      | Eq =>
        simp only [cmpOk, Bool.and_eq_true] at hc
        obtain ⟨as, r1⟩ := view_reads G I st ra ex (okD_plain hc.1) rx
        obtain ⟨bs, r2⟩ := view_reads G I st rb ey (okD_plain hc.2) ry
        exact SeqAt.eq_plain r1 r2 (okD_plain hc.1) (okD_plain hc.2) (min_room G.room (okD_depth hc.1)) fin
      | NotEq =>
        simp only [cmpOk, Bool.and_eq_true] at hc
        obtain ⟨as, r1⟩ := view_reads G I st ra ex (okD_plain hc.1) rx
        obtain ⟨bs, r2⟩ := view_reads G I st rb ey (okD_plain hc.2) ry
        exact SeqAt.ne_plain r1 r2 (okD_plain hc.1) (okD_plain hc.2) (min_room G.room (okD_depth hc.1)) fin
      | Is => cases hc
      | IsNot => cases hc
      | In => cases hc
      | NotIn => cases hc
      | _ =>
        simp only [cmpOk, Bool.and_eq_true] at hc
        obtain ⟨⟨⟨c1, c2⟩, c3⟩, c4⟩ := hc
        obtain ⟨as, r1⟩ := view_reads G I st ra ex (okD_plain c1) rx
        obtain ⟨bs, r2⟩ := view_reads G I st rb ey (okD_plain c2) ry
        have hn : x1 ≠ .none := fun z => by
          subst z
          simp [isNon] at c4
        have hm := min_room (y := y1) G.room (okD_depth c1)
        first
          | exact PySem.W.lt_data r1 r2 c3 hn hm fin
          | exact PySem.W.gt_data r1 r2 c3 hn hm fin
          | exact PySem.W.le_data r1 r2 c3 hn hm fin
          | exact PySem.W.ge_data r1 r2 c3 hn hm fin
    · cases e
  · cases e
/-- is None, is a truth -/
def isNonD : D → Bool
  | .p .none => true
  | _ => false
theorem Rv.isNon {v : V} {d : D} (r : Rv Γ H μ v d) : decide (v = .non) = isNonD d := by
  cases r with
  | p h => cases h <;> rfl
  | _ => rfl
def bIs (neg : Bool) (a b : D) (_ : Store) : Option Bool := match a, b with
  | .p (.bool x), .p (.bool y) => some (if neg then !decide (x = y) else decide (x = y))
  | a, .p .none => some (if neg then !isNonD a else isNonD a)
  | _, _ => none
theorem o_is : OpR X (compareOp .Is) (rG2 Γ (gB (bIs false))) := by
  intro pins s σ H x y v u Q I
  intro rx ry h
  obtain ⟨μ, S, a, b, d, st, ra, rb, e, q⟩ := h
  obtain ⟨kk, ek, hd⟩ := Option.map_eq_some_iff.mp e
  clear e
  subst hd
  have e := ek
  clear ek
  unfold bIs at e
  split at e
  · cases e
    cases ra with
    | p h1 =>
      cases h1
      cases rb with
      | p h2 =>
        cases h2
        exact op_is_bl pins s σ H _ _ v u Q I rx ry ⟨_, _, rfl, rfl, q.bl st⟩
  · cases e
    cases rb with
    | p h2 =>
      cases h2
      exact op_isN pins s σ H _ _ v u Q I rx ry ⟨rfl, by rw [ra.isNon]; exact q.bl st⟩
  · cases e
theorem o_isnot : OpR X (compareOp .IsNot) (rG2 Γ (gB (bIs true))) := by
  intro pins s σ H x y v u Q I
  intro rx ry h
  obtain ⟨μ, S, a, b, d, st, ra, rb, e, q⟩ := h
  obtain ⟨kk, ek, hd⟩ := Option.map_eq_some_iff.mp e
  clear e
  subst hd
  have e := ek
  clear ek
  unfold bIs at e
  split at e
  · cases e
    cases ra with
    | p h1 =>
      cases h1
      cases rb with
      | p h2 =>
        cases h2
        exact op_isnot_bl pins s σ H _ _ v u Q I rx ry ⟨_, _, rfl, rfl, q.bl st⟩
  · cases e
    cases rb with
    | p h2 =>
      cases h2
      exact op_notN pins s σ H _ _ v u Q I rx ry ⟨rfl, by rw [ra.isNon]; exact q.bl st⟩
  · cases e
end
end Fp

set_option Elab.async false
set_option linter.all false
set_option autoImplicit false
set_option maxRecDepth 100000
/-! Fp: in, truth, subscripts, slices, displays. -/
namespace Fp
open PySem L2
section
variable {Γ : Gam} {k : Nat} {W : WX} {μ μ' : List Addr} {S S' : Store} {H H' : Hp} {σ : St} {ρ : Slots} {X : Cx} {pins : List (Addr × Obj)} {s : Shared}

/-! ### dicts: keys -/
def pkey : PyData → Option Key
  | .int i => some (.inl i)
  | .str x => some (.inr x)
  | _ => none
def isTupD : PyData → Bool
  | .tuple _ => true
  | _ => false
mutual
theorem nkey_inj : ∀ (d e : PyData) (n : NestedKey), nkey d = some n → nkey e = some n → d = e
  | .none, e, n, h1, h2 => by
    cases h1
    cases e with
    | none => rfl
    | tuple ys =>
      simp only [nkey, Option.map_eq_some_iff] at h2
      obtain ⟨_, _, h2⟩ := h2
      cases h2
    | int _ => cases h2
    | str _ => cases h2
    | bool _ => cases h2
    | list _ => cases h2
    | dict _ => cases h2
  | .int i, e, n, h1, h2 => by
    cases h1
    cases e with
    | int j => cases h2; rfl
    | tuple ys =>
      simp only [nkey, Option.map_eq_some_iff] at h2
      obtain ⟨_, _, h2⟩ := h2
      cases h2
    | none => cases h2
    | str _ => cases h2
    | bool _ => cases h2
    | list _ => cases h2
    | dict _ => cases h2
  | .str i, e, n, h1, h2 => by
    cases h1
    cases e with
    | str j => cases h2; rfl
    | tuple ys =>
      simp only [nkey, Option.map_eq_some_iff] at h2
      obtain ⟨_, _, h2⟩ := h2
      cases h2
    | none => cases h2
    | int _ => cases h2
    | bool _ => cases h2
    | list _ => cases h2
    | dict _ => cases h2
  | .tuple xs, e, n, h1, h2 => by
    simp only [nkey, Option.map_eq_some_iff] at h1
    obtain ⟨ns, h1, rfl⟩ := h1
    cases e with
    | tuple ys =>
      simp only [nkey, Option.map_eq_some_iff] at h2
      obtain ⟨ms, h2, h3⟩ := h2
      cases h3
      rw [nkeys_inj xs ys ns h1 h2]
    | none => cases h2
    | int _ => cases h2
    | str _ => cases h2
    | bool _ => cases h2
    | list _ => cases h2
    | dict _ => cases h2
  | .bool _, _, _, h1, _ => by cases h1
  | .list _, _, _, h1, _ => by cases h1
  | .dict _, _, _, h1, _ => by cases h1
theorem nkeys_inj : ∀ (xs ys : List PyData) (ns : List NestedKey), nkeys xs = some ns → nkeys ys = some ns → xs = ys
  | [], [], _, _, _ => rfl
  | [], y :: ys, ns, h1, h2 => by
    cases h1
    simp only [nkeys, Option.bind_eq_some_iff, Option.map_eq_some_iff] at h2
    obtain ⟨_, _, _, _, h2⟩ := h2
    cases h2
  | x :: xs, [], ns, h1, h2 => by
    cases h2
    simp only [nkeys, Option.bind_eq_some_iff, Option.map_eq_some_iff] at h1
    obtain ⟨_, _, _, _, h1⟩ := h1
    cases h1
  | x :: xs, y :: ys, ns, h1, h2 => by
    simp only [nkeys, Option.bind_eq_some_iff, Option.map_eq_some_iff] at h1 h2
    obtain ⟨n1, a1, m1, b1, rfl⟩ := h1
    obtain ⟨n2, a2, m2, b2, h3⟩ := h2
    cases h3
    rw [nkey_inj x y n1 a1 a2, nkeys_inj xs ys m1 b1 b2]
end
mutual
theorem eqv_nkey : ∀ (d e : PyData), (nkey d).isSome = true → (nkey e).isSome = true → (PyData.eqv d e = true ↔ d = e)
  | .none, e, _, h => by cases e <;> simp [PyData.eqv]
  | .int i, e, _, h => by cases e <;> simp_all [PyData.eqv, nkey]
  | .str i, e, _, h => by cases e <;> simp [PyData.eqv]
  | .tuple xs, e, h1, h2 => by
    cases e with
    | tuple ys =>
      have a1 : (nkeys xs).isSome = true := by simpa [nkey] using h1
      have a2 : (nkeys ys).isSome = true := by simpa [nkey] using h2
      rw [PyData.eqv, eqv_nkeys xs ys a1 a2]
      simp
    | _ => simp [PyData.eqv]
  | .bool _, _, h, _ => by cases h
  | .list _, _, h, _ => by cases h
  | .dict _, _, h, _ => by cases h
theorem eqv_nkeys : ∀ (xs ys : List PyData), (nkeys xs).isSome = true → (nkeys ys).isSome = true → (PyData.eqvAll xs ys = true ↔ xs = ys)
  | [], [], _, _ => by simp [PyData.eqvAll]
  | [], _ :: _, _, _ => by simp [PyData.eqvAll]
  | _ :: _, [], _, _ => by simp [PyData.eqvAll]
  | x :: xs, y :: ys, h1, h2 => by
    have p : ∀ (z : PyData) (zs : List PyData), (nkeys (z :: zs)).isSome = true → (nkey z).isSome = true ∧ (nkeys zs).isSome = true := fun z zs h => by
      simp only [nkeys] at h
      cases e1 : nkey z with
      | none => rw [e1] at h; cases h
      | some n =>
        rw [e1] at h
        cases e2 : nkeys zs with
        | none => rw [e2] at h; cases h
        | some ns => exact ⟨rfl, rfl⟩
    rw [PyData.eqvAll, Bool.and_eq_true, eqv_nkey x y (p x xs h1).1 (p y ys h2).1, eqv_nkeys xs ys (p x xs h1).2 (p y ys h2).2]
    simp
end
/-- a look into a dict -/
def dget (kvs : List (PyData × PyData)) (x : PyData) : Option PyData := (kvs.find? fun kv => PyData.eqv kv.1 x).map (·.2)
/-- the key fits the dict: ints and texts, or tuples -/
def keyOk (kvs : List (PyData × PyData)) (x : PyData) : Bool :=
  ((pkey x).isSome && kvs.all fun kv => (pkey kv.1).isSome) || (isTupD x && (nkey x).isSome && decide (x.depth ≤ 8) && kvs.all fun kv => isTupD kv.1 && (nkey kv.1).isSome)
def viewD (S : Store) : D → Option (List (PyData × PyData))
  | .p (.dict kvs) => some kvs
  | .loc n => match S[n]? with
    | some (.dic kvs) => some kvs
    | _ => none
  | _ => none
/-- what stands at a dict's place -/
def DicOk (Γ : Gam) (H : Hp) (μ : List Addr) (a : Addr) (kvs : List (PyData × PyData)) : Prop :=
  ∃ ks vs nk ds es, DicAt Γ H a ks vs nk ∧ RpAll Γ H μ ks ds ∧ RpAll Γ H μ vs es ∧ kvs = ds.zip es ∧ (∀ ns, nk = some ns → nkeys ds = some ns)
theorem viewD_at {v : V} {d : D} {kvs : List (PyData × PyData)} (s : Sto Γ μ S H) (r : Rv Γ H μ v d) (e : viewD S d = some kvs) : ∃ a, v = .ref a ∧ DicOk Γ H μ a kvs := by
  cases r with
  | p h =>
    cases h with
    | dic h1 n h2 h3 h4 h5 =>
      cases e
      exact ⟨_, rfl, _, _, _, _, _, h1, h2, h3, h4, h5⟩
    | _ => cases e
  | loc h =>
    obtain ⟨o, e1, m⟩ := s.ix h
    simp only [viewD, e1] at e
    cases o with
    | lst ys => cases e
    | dic ys =>
      cases e
      exact ⟨_, rfl, m⟩
  | _ => cases e
theorem pkey_rp {v : V} {d : PyData} {q : Key} (r : Rp Γ H μ v d) (e : pkey d = some q) : v = kV q := by
  cases r with
  | int i => cases e; rfl
  | str x => cases e; rfl
  | _ => cases e
theorem pkey_of {d : PyData} {q : Key} (r : Rp Γ H μ (kV q) d) : pkey d = some q := by
  cases q with
  | inl i => cases r; rfl
  | inr i => cases r; rfl
theorem pkey_eqv {d e : PyData} {p q : Key} (h1 : pkey d = some p) (h2 : pkey e = some q) : PyData.eqv d e = decide (p = q) := by
  cases d <;> cases h1 <;> cases e <;> cases h2 <;> simp [PyData.eqv] <;> (rw [Bool.eq_iff_iff]; simp)
theorem dget_K : ∀ {kvs : List (Key × V)} {ds es : List PyData} {x : PyData} {q : Key}, RpAll Γ H μ (kvs.map fun x => kV x.1) ds → RpAll Γ H μ (kvs.map (·.2)) es → pkey x = some q →
    (match valV kvs q, dget (ds.zip es) x with | some v, some e => Rp Γ H μ v e | none, none => True | _, _ => False)
  | [], _, _, _, _, .nil, .nil, _ => by trivial
  | (q', v) :: r, _, _, x, q, .cons (d := d) (ds := ds) h1 t1, .cons (d := e) (ds := es) h2 t2, hq => by
    have ih := dget_K t1 t2 hq
    have hk := pkey_of h1
    by_cases c : q' = q
    · rw [valV_pos c]
      have : dget ((d, e) :: ds.zip es) x = some e := by simp [dget, pkey_eqv hk hq, c]
      show (match some v, dget ((d, e) :: ds.zip es) x with | some v, some e => Rp Γ H μ v e | none, none => True | _, _ => False)
      rw [this]
      exact h2
    · rw [valV_neg c]
      have : dget ((d, e) :: ds.zip es) x = dget (ds.zip es) x := by simp [dget, pkey_eqv hk hq, c]
      show (match valV r q, dget ((d, e) :: ds.zip es) x with | some v, some e => Rp Γ H μ v e | none, none => True | _, _ => False)
      rw [this]
      exact ih

mutual
theorem Rp.nested (G : Gx Γ k X) (I : Inv X pins σ H s) : ∀ {v : V} {d : PyData} {u : Value} {n : NestedKey}, Rp Γ H μ v d → nkey d = some n → RelV v u → NestedIs s.heap n u
  | _, _, _, _, .non, e, r => by cases e; cases r; exact .none
  | _, _, _, _, .bl _, e, _ => by cases e
  | _, _, _, _, .int i, e, r => by cases e; obtain ⟨t, rfl⟩ := r; exact .int i t
  | _, _, _, _, .str x, e, r => by cases e; obtain ⟨t, rfl⟩ := r; exact .text x t
  | _, _, _, _, .lst _ _ _, e, _ => by cases e
  | _, _, _, _, .tup h hr, e, r => by
    cases r
    simp only [nkey, Option.map_eq_some_iff] at e
    obtain ⟨ns, e, rfl⟩ := e
    obtain ⟨its, rv, ⟨o, ho, hc, m, hd⟩, _⟩ := I.tuple (show SqT X.K H _ _ by rw [G.K]; exact h.sq)
    exact .tup ho hc hd (by simpa using RpAll.nested G I hr e rv)
  | _, _, _, _, .dic _ _ _ _ _ _, e, _ => by cases e
theorem RpAll.nested (G : Gx Γ k X) (I : Inv X pins σ H s) : ∀ {vs : List V} {ds : List PyData} {us : List Value} {ns : List NestedKey}, RpAll Γ H μ vs ds → nkeys ds = some ns → Vals vs us → NestedAll s.heap ns us
  | _, _, _, _, .nil, e, r => by cases e; cases r; exact .nil
  | _, _, _, _, .cons h hr, e, r => by
    cases r with
    | cons r1 r2 =>
      simp only [nkeys, Option.bind_eq_some_iff, Option.map_eq_some_iff] at e
      obtain ⟨n, e1, ns, e2, rfl⟩ := e
      exact .cons (Rp.nested G I h e1 r1) (RpAll.nested G I hr e2 r2)
end
mutual
theorem nkey_depth : ∀ (d : PyData) (n : NestedKey), nkey d = some n → n.depth = d.depth
  | .none, _, e => by cases e; rfl
  | .int _, _, e => by cases e; rfl
  | .str _, _, e => by cases e; rfl
  | .tuple xs, _, e => by
    simp only [nkey, Option.map_eq_some_iff] at e
    obtain ⟨ns, e, rfl⟩ := e
    rw [NestedKey.depth, PyData.depth, nkeys_depth xs ns e]
  | .bool _, _, e => by cases e
  | .list _, _, e => by cases e
  | .dict _, _, e => by cases e
theorem nkeys_depth : ∀ (xs : List PyData) (ns : List NestedKey), nkeys xs = some ns → NestedKey.depthAll ns = PyData.depthAll xs
  | [], _, e => by cases e; rfl
  | x :: xs, _, e => by
    simp only [nkeys, Option.bind_eq_some_iff, Option.map_eq_some_iff] at e
    obtain ⟨n, e1, ns, e2, rfl⟩ := e
    rw [NestedKey.depthAll, PyData.depthAll, nkey_depth x n e1, nkeys_depth xs ns e2]
end
theorem nkeys_at : ∀ {ds : List PyData} {ns : List NestedKey} {i : Nat} {n : NestedKey}, nkeys ds = some ns → ns[i]? = some n → ∃ d, ds[i]? = some d ∧ nkey d = some n
  | [], _, _, _, e, h => by cases e; simp at h
  | d :: ds, _, i, n, e, h => by
    simp only [nkeys, Option.bind_eq_some_iff, Option.map_eq_some_iff] at e
    obtain ⟨m, e1, ms, e2, rfl⟩ := e
    cases i with
    | zero =>
      simp at h
      subst h
      exact ⟨d, rfl, e1⟩
    | succ i =>
      obtain ⟨d', h1, h2⟩ := nkeys_at (i := i) e2 (by simpa using h)
      exact ⟨d', by simpa using h1, h2⟩
/-- a dict of tuples, as the library tells it -/
theorem dicT_at (G : Gx Γ k X) (I : Inv X pins σ H s) {a : Addr} {xs : List (NestedKey × Addr × Value)} {ds : List PyData} (h : H a = some (dicT Γ.P Γ.w a xs)) (hr : RpAll Γ H μ (xs.map fun x => V.ref x.2.1) ds) (hn : nkeys ds = some (xs.map (·.1))) (nd : (xs.map (·.1)).Nodup) (hd : ∀ x ∈ xs, x.1.depth ≤ 8) :
    s.heap.DictOfH (nestedKind X.prog X.w) a xs := by
  obtain ⟨⟨o, es, ep, h1, h2, h3, h4⟩, _⟩ := I.hok a _ h
  rw [← G.P, ← G.w] at h4
  refine ⟨o, es, ep, h1, h2, h3, h4, fun x hx => ?_, nd⟩
  obtain ⟨i, hi⟩ := List.getElem?_of_mem hx
  obtain ⟨d, e1, e2⟩ := nkeys_at (i := i) (n := x.1) hn (by rw [List.getElem?_map, hi]; rfl)
  obtain ⟨d', e3, r⟩ := hr.at (i := i) (v := V.ref x.2.1) (by rw [List.getElem?_map, hi]; rfl)
  rw [e1] at e3; cases e3
  exact ⟨r.nested G I e2 rfl, hd x hx⟩
theorem nkeys_some {d : PyData} {ds : List PyData} {n : NestedKey} {ns : List NestedKey} (h : nkeys (d :: ds) = some (n :: ns)) : nkey d = some n ∧ nkeys ds = some ns := by
  simp only [nkeys, Option.bind_eq_some_iff, Option.map_eq_some_iff] at h
  obtain ⟨m, e1, ms, e2, e3⟩ := h
  cases e3
  exact ⟨e1, e2⟩
theorem dget_T : ∀ {xs : List (NestedKey × Addr × Value)} {ds es : List PyData} {vs : List V} {x : PyData} {n : NestedKey}, nkeys ds = some (xs.map (·.1)) → Vals vs (xs.map (·.2.2)) → RpAll Γ H μ vs es → nkey x = some n →
    (match atKey xs n, dget (ds.zip es) x with | some p, some e => ∃ v, RelV v p.2 ∧ Rp Γ H μ v e | none, none => True | _, _ => False)
  | [], [], _, _, _, _, _, .nil, .nil, _ => by trivial
  | [], _ :: _, _, _, _, _, h, _, _, _ => by
    simp only [nkeys, Option.bind_eq_some_iff, Option.map_eq_some_iff, List.map_nil] at h
    obtain ⟨_, _, _, _, h⟩ := h
    cases h
  | _ :: _, [], _, _, _, _, h, _, _, _ => by cases h
  | (m, a, u) :: r, d :: ds, _, _, x, n, h, .cons q1 q2, .cons (d := e) (ds := es) r1 r2, hx => by
    obtain ⟨h1, h2⟩ := nkeys_some h
    have ih := dget_T h2 q2 r2 hx
    have key : PyData.eqv d x = true ↔ d = x := eqv_nkey d x (by rw [h1]; rfl) (by rw [hx]; rfl)
    by_cases c : m = n
    · subst c
      have hdx : d = x := nkey_inj d x m h1 hx
      have e1 : dget ((d, e) :: ds.zip es) x = some e := by simp [dget, key.mpr hdx]
      have e2 : atKey ((m, a, u) :: r) m = some (a, u) := by simp [atKey]
      show (match atKey ((m, a, u) :: r) m, dget ((d, e) :: ds.zip es) x with | some p, some e => ∃ v, RelV v p.2 ∧ Rp Γ H μ v e | none, none => True | _, _ => False)
      rw [e1, e2]
      exact ⟨_, q1, r1⟩
    · have hdx : ¬ d = x := fun z => by
        subst z
        rw [h1] at hx
        exact c (Option.some.inj hx)
      have hf : PyData.eqv d x = false := Bool.eq_false_iff.mpr fun z => hdx (key.mp z)
      have e1 : dget ((d, e) :: ds.zip es) x = dget (ds.zip es) x := by simp [dget, List.find?_cons, hf]
      have e2 : atKey ((m, a, u) :: r) n = atKey r n := by simp [atKey, c]
      show (match atKey ((m, a, u) :: r) n, dget ((d, e) :: ds.zip es) x with | some p, some e => ∃ v, RelV v p.2 ∧ Rp Γ H μ v e | none, none => True | _, _ => False)
      rw [e1, e2]
      exact ih
theorem Rp.tupRef {v : V} {d : PyData} (r : Rp Γ H μ v d) (h : isTupD d = true) : ∃ a, v = .ref a := by
  cases r with
  | tup _ _ => exact ⟨_, rfl⟩
  | _ => cases h
theorem room8 {k : Nat} {A : Around} (hr : Room k A) : A.in1.units + 8 < cLine := by
  have := hr.units
  show A.units + 1 + 8 < cLine
  omega
theorem isTup_pkey {d : PyData} (h : isTupD d = true) : pkey d = none := by cases d <;> first | rfl | cases h
/-- the two forms of a dict that a key fits -/
theorem dic_cases {a : Addr} {kvs : List (PyData × PyData)} {x : PyData} (h : DicOk Γ H μ a kvs) (hk : keyOk kvs x = true) :
    (∃ kvs' ds es q, H a = some (.dK kvs') ∧ RpAll Γ H μ (kvs'.map fun x => kV x.1) ds ∧ RpAll Γ H μ (kvs'.map (·.2)) es ∧ kvs = ds.zip es ∧ pkey x = some q) ∨
    (∃ xs ds es vs n, H a = some (dicT Γ.P Γ.w a xs) ∧ RpAll Γ H μ (xs.map fun x => V.ref x.2.1) ds ∧ Vals vs (xs.map (·.2.2)) ∧ RpAll Γ H μ vs es ∧ nkeys ds = some (xs.map (·.1)) ∧ (xs.map (·.1)).Nodup ∧ (∀ x ∈ xs, x.1.depth ≤ 8) ∧ (a == sysModules) = false ∧ xs.length ≤ sizeLine ∧ kvs = ds.zip es ∧ isTupD x = true ∧ nkey x = some n ∧ n.depth ≤ 8) ∨
    (H a = some (.dK []) ∧ kvs = [] ∧ isTupD x = true ∧ ∃ n, nkey x = some n ∧ n.depth ≤ 8) ∨
    (∃ q, H a = some (dicT Γ.P Γ.w a []) ∧ kvs = [] ∧ pkey x = some q ∧ (a == sysModules) = false) := by
  obtain ⟨ks, vs, nk, ds, es, h1, h2, h3, h4, h5⟩ := h
  cases nk with
  | none =>
    obtain ⟨kvs', e, rfl, rfl⟩ := h1
    cases hq : pkey x with
    | some q => exact .inl ⟨kvs', ds, es, q, e, h2, h3, h4, rfl⟩
    | none =>
      simp only [keyOk, hq, Option.isSome_none, Bool.false_and, Bool.false_or, Bool.and_eq_true, decide_eq_true_eq] at hk
      obtain ⟨⟨⟨c1, c2⟩, c3⟩, c4⟩ := hk
      obtain ⟨n, hn⟩ := Option.isSome_iff_exists.mp c2
      cases kvs' with
      | nil =>
        cases h2
        refine .inr (.inr (.inl ⟨e, by rw [h4]; rfl, c1, n, hn, by rw [nkey_depth _ _ hn]; exact c3⟩))
      | cons p r =>
        cases h2 with
        | cons q1 q2 =>
          cases h3 with
          | cons r1 r2 =>
            rw [h4] at c4
            simp only [List.zip_cons_cons, List.all_cons, Bool.and_eq_true] at c4
            have z := pkey_of q1
            rw [isTup_pkey c4.1.1] at z
            cases z
  | some ns =>
    obtain ⟨xs, e, rfl, rfl, hv, hs, hz, hnd, hdp, hne⟩ := h1
    have hnk := h5 _ rfl
    cases hq : pkey x with
    | none =>
      simp only [keyOk, hq, Option.isSome_none, Bool.false_and, Bool.false_or, Bool.and_eq_true, decide_eq_true_eq] at hk
      obtain ⟨⟨⟨c1, c2⟩, c3⟩, c4⟩ := hk
      obtain ⟨n, hn⟩ := Option.isSome_iff_exists.mp c2
      exact .inr (.inl ⟨xs, ds, es, vs, n, e, h2, hv, h3, hnk, hnd, hdp, hs, hz, h4, c1, hn, by rw [nkey_depth _ _ hn]; exact c3⟩)
    | some q =>
      cases xs with
      | nil =>
        cases h2
        exact .inr (.inr (.inr ⟨q, e, by rw [h4]; rfl, rfl, hs⟩))
      | cons p r =>
        cases h2 with
        | cons q1 q2 =>
          cases hv with
          | cons v1 v2 =>
            cases h3 with
            | cons r1 r2 =>
              have ht : isTupD x = false := by
                cases x <;> first | rfl | cases hq
              rw [h4] at hk
              simp only [keyOk, hq, ht, List.zip_cons_cons, List.all_cons, Option.isSome_some, Bool.true_and, Bool.false_and, Bool.or_false, Bool.and_eq_true] at hk
              obtain ⟨q', hq'⟩ := Option.isSome_iff_exists.mp hk.1
              have z := pkey_rp q1 hq'
              cases q' <;> cases z
end
end Fp

set_option Elab.async false
set_option linter.all false
set_option autoImplicit false
set_option maxRecDepth 100000
/-! Fp: in, truth, subscripts, slices, displays. -/
namespace Fp
open PySem L2
section
variable {Γ : Gam} {k : Nat} {W : WX} {μ μ' : List Addr} {S S' : Store} {H H' : Hp} {σ : St} {ρ : Slots} {X : Cx} {pins : List (Addr × Obj)} {s : Shared}

/-! ### in -/
def oneSign : Str → Option Nat
  | ⟨⟨[c]⟩⟩ => some c
  | _ => none
def bIn (neg : Bool) (a b : D) (S : Store) : Option Bool := match view S a, view S b with
  | some x, some (.list ys) => if okD x && PyData.plainAll ys && decide (PyData.depthAll ys ≤ 60) then some (xor neg (ys.any fun y => PyData.eqv y x)) else none
  | some x, some (.tuple ys) => if okD x && PyData.plainAll ys && decide (PyData.depthAll ys ≤ 60) then some (xor neg (ys.any fun y => PyData.eqv y x)) else none
  | some x, some (.dict kvs) => if keyOk kvs x then some (xor neg (dget kvs x).isSome) else none
  | some (.str x), some (.str y) => (oneSign x).map fun c => xor neg (decide (c ∈ y.cps.toList))
  | _, _ => none
theorem view_dict {v : V} {d : D} {kvs : List (PyData × PyData)} (s : Sto Γ μ S H) (r : Rv Γ H μ v d) (e : view S d = some (.dict kvs)) : ∃ a, v = .ref a ∧ DicOk Γ H μ a kvs := by
  refine viewD_at s r ?_
  cases r with
  | p h => cases e; rfl
  | loc h =>
    obtain ⟨o, e1, m⟩ := s.ix h
    simp only [view, e1] at e
    cases o with
    | lst ys => cases e
    | dic ys => cases e; simp [viewD, e1]
  | ro h r => cases e
  | _ => cases e
theorem pairs_nil {prog : Program} {w : World} {K : Type} [DecidableEq K] {knd : KeyKind prog w K} {l : List DictEntry} (h : Pairs knd l []) : l = [] := by
  cases h
  rfl
/-- a key looked for in a dict -/
theorem dic_in (G : Gx Γ k X) (I : Inv X pins σ H s) (st : Sto Γ μ S H) {neg : Bool} {x : V} {v : Value} {d : D} {px : PyData} {a : Addr} {kvs : List (PyData × PyData)} (rx : Rv Γ H μ x d) (ex : view S d = some px) (ru : RelV x v) (h : DicOk Γ H μ a kvs) (hk : keyOk kvs px = true)
    {Q : Value → Shared → Prop} {E : Value → Shared → Prop} (q : ∀ tk, Q (.bool (xor neg (dget kvs px).isSome)) { s with toks := tk }) : wpAny (model X.prog X.w) X.A (compareOp (if neg then .NotIn else .In) v (.ref a)) Q E s := by
  have hp : Rp Γ H μ x px := by
    cases rx with
    | p h1 => cases ex; exact h1
    | loc h1 =>
      obtain ⟨o, e1, m⟩ := st.ix h1
      simp only [view, e1] at ex
      cases o <;> cases ex <;> simp [keyOk, pkey, isTupD] at hk
    | ro _ _ => cases ex; simp [keyOk, pkey, isTupD] at hk
    | _ => cases ex
  have hu : X.A.units + 1 < cLine := hu_of G.room
  rcases dic_cases h hk with ⟨kvs', ds, es, q', h1, h2, h3, h4, h5⟩ | ⟨xs, ds, es, vs, n, h1, h2, h3, h4, h5, h6, h7, h8, h9, h10, h11, h12, h13⟩ | ⟨h1, h2, h3, n, h4, h5⟩ | ⟨q', h1, h2, h3, h4⟩
  · have hx := pkey_rp hp h5
    subst hx
    have key := dget_K h2 h3 h5
    rw [← h4] at key
    obtain ⟨z, hd, ws, rel, dd⟩ := dk_of I.hok h1
    have e : (valueAt ws q').isSome = (dget kvs px).isSome := by
      rw [← (rel.val q').isSome_eq]
      cases e1 : valV kvs' q' <;> cases e2 : dget kvs px <;> simp_all
    cases neg with
    | false => exact wpAny_in_of (kV_is ru) hd dd.mapOf (by rw [show (valueAt ws q').isSome = (xor false (dget kvs px).isSome) by rw [e]; simp]; exact q _)
    | true =>
      exact wpAny_notIn_of (kV_is ru) hd dd.mapOf (by rw [show (!(valueAt ws q').isSome) = (xor true (dget kvs px).isSome) by rw [e]; simp]; exact q _)
  · obtain ⟨b, rfl⟩ := hp.tupRef h11
    cases ru
    have key := dget_T h5 h3 h4 h12
    rw [← h10] at key
    have dd := dicT_at G I h1 h2 h5 h6 h7
    have hkey : (nestedKind X.prog X.w).is s.heap n b := ⟨hp.nested G I h12 rfl, h13⟩
    have e : (valueAt (pairsH xs) n).isSome = (dget kvs px).isSome := by
      rw [valueAt_pairsH, Option.isSome_map]
      cases e1 : atKey xs n <;> cases e2 : dget kvs px <;> simp_all
    cases neg with
    | false => exact in_keyed (room8 G.room) hkey h8 ⟨xs, dd, rfl⟩ (by rw [show (valueAt (pairsH xs) n).isSome = (xor false (dget kvs px).isSome) by rw [e]; simp]; exact q _)
    | true => exact notIn_keyed (room8 G.room) hkey h8 ⟨xs, dd, rfl⟩ (by rw [show (!(valueAt (pairsH xs) n).isSome) = (xor true (dget kvs px).isSome) by rw [e]; simp]; exact q _)
  · obtain ⟨b, rfl⟩ := hp.tupRef h3
    cases ru
    have hkey : (nestedKind X.prog X.w).is s.heap n b := ⟨hp.nested G I h4 rfl, h5⟩
    obtain ⟨z, hd, ws, rel, dd⟩ := dk_of I.hok h1
    cases rel
    obtain ⟨o, es, ep, g1, g2, g3, g4, g5, g6⟩ := dd
    have dd : s.heap.DictOfH (nestedKind X.prog X.w) a [] := ⟨o, es, ep, g1, g2, g3, by rw [pairs_nil g5]; rfl, by simp, by simp⟩
    rw [h2] at q
    cases neg with
    | false => exact in_keyed (room8 G.room) hkey hd ⟨[], dd, rfl⟩ (q _)
    | true => exact notIn_keyed (room8 G.room) hkey hd ⟨[], dd, rfl⟩ (q _)
  · have hx := pkey_rp hp h3
    subst hx
    obtain ⟨⟨o, es, ep, g1, g2, g3, g4⟩, _⟩ := I.hok a _ h1
    have he : es = #[] := by simpa using g4
    subst he
    have dd : s.heap.DictOf (mixKind X.prog X.w) a [] := ⟨o, #[], ep, g1, g2, g3, by intro e he; simp at he, .nil, by simp⟩
    rw [h2] at q
    cases neg with
    | false => exact wpAny_in_of (kV_is ru) h4 dd.mapOf (q _)
    | true => exact wpAny_notIn_of (kV_is ru) h4 dd.mapOf (q _)

theorem oneSign_eq {x : Str} {c : Nat} (h : oneSign x = some c) : x = ⟨#[c]⟩ := by
  unfold oneSign at h
  split at h
  · cases h; rfl
  · cases h
theorem o_inG (G : Gx Γ k X) (neg : Bool) : OpR X (compareOp (if neg then .NotIn else .In)) (rG2 Γ (gB (bIn neg))) := by
  intro pins s σ H x y v u Q I
  intro rx ry h
  obtain ⟨μ, S, a, b, d, st, ra, rb, e, q⟩ := h
  obtain ⟨kk, ek, hd⟩ := Option.map_eq_some_iff.mp e
  clear e
  subst hd
  have e := ek
  clear ek
  unfold bIn at e
  split at e
  · rename_i px ys ex ey
    split at e
    · rename_i hc
      cases e
      simp only [decide_eq_true_eq, Bool.and_eq_true] at hc
      obtain ⟨⟨c1, c2⟩, c3⟩ := hc
      obtain ⟨as, r1⟩ := view_reads G I st ra ex (okD_plain c1) rx
      obtain ⟨bs, r2⟩ := view_reads G I st rb ey (by simpa [PyData.plain] using c2) ry
      have hu : X.A.units + 1 + min (PyData.depthAll ys) px.depth < cLine := by have := G.room.units; omega
      have fin := show EP X pins σ Q (.bool (xor neg (ys.any fun y => PyData.eqv y px))) s from ⟨.bl _, H, I, rfl, q.bl st⟩
      cases neg with
      | false => exact SeqAt.in_list_data r2 r1 c2 (okD_plain c1) hu (by simpa using fin)
      | true => exact SeqAt.notIn_list_data r2 r1 c2 (okD_plain c1) hu (by simpa using fin)
    · cases e
  · rename_i px ys ex ey
    split at e
    · rename_i hc
      cases e
      simp only [decide_eq_true_eq, Bool.and_eq_true] at hc
      obtain ⟨⟨c1, c2⟩, c3⟩ := hc
      obtain ⟨as, r1⟩ := view_reads G I st ra ex (okD_plain c1) rx
      obtain ⟨bs, r2⟩ := view_reads G I st rb ey (by simpa [PyData.plain] using c2) ry
      have hu : X.A.units + 1 + min (PyData.depthAll ys) px.depth < cLine := by have := G.room.units; omega
      have fin := show EP X pins σ Q (.bool (xor neg (ys.any fun y => PyData.eqv y px))) s from ⟨.bl _, H, I, rfl, q.bl st⟩
      cases neg with
      | false => exact SeqAt.in_tuple_data r2 r1 c2 (okD_plain c1) hu (by simpa using fin)
      | true => exact SeqAt.notIn_tuple_data r2 r1 c2 (okD_plain c1) hu (by simpa using fin)
    · cases e
  · rename_i px kvs ex ey
    split at e
    · rename_i hc
      cases e
      obtain ⟨p, rfl, hd⟩ := view_dict st rb ey
      cases ry
      exact dic_in G I st ra ex rx hd hc fun tk => ⟨.bl _, H, I.tok tk, rfl, q.bl st⟩
    · cases e
  · rename_i px py ex ey
    obtain ⟨c, hc, rfl⟩ := Option.map_eq_some_iff.mp e
    have e1 := oneSign_eq hc
    subst e1
    have h1 : x = .str ⟨#[c]⟩ := by
      cases ra with
      | p h => cases ex; cases h; rfl
      | loc h =>
        obtain ⟨o, e1, m⟩ := st.ix h
        simp only [view, e1] at ex
        cases o <;> cases ex
      | ro _ _ => cases ex
      | _ => cases ex
    have h2 : y = .str py := by
      cases rb with
      | p h => cases ey; cases h; rfl
      | loc h =>
        obtain ⟨o, e1, m⟩ := st.ix h
        simp only [view, e1] at ey
        cases o <;> cases ey
      | ro _ _ => cases ey
      | _ => cases ey
    cases neg with
    | false => exact op_in_sign pins s σ H x y v u Q I rx ry ⟨c, py, h1, h2, by simpa using q.bl st⟩
    | true => exact op_notIn_sign pins s σ H x y v u Q I rx ry ⟨c, py, h1, h2, by simpa using q.bl st⟩
  · cases e

/-! ### truth -/
def truD (S : Store) : D → Option Bool
  | .p .none => some false
  | .p (.bool b) => some b
  | .p (.int i) => some (i != 0)
  | .p (.str x) => if x.length ≤ sizeLine then some (x.length != 0) else none
  | .p (.tuple xs) => some (!xs.isEmpty)
  | .tup xs => some (!xs.isEmpty)
  | d => (viewL S d).map fun xs => !xs.isEmpty
theorem RpAll.empty {vs : List V} {ds : List PyData} (r : RpAll Γ H μ vs ds) : ds.isEmpty = vs.isEmpty := by cases r <;> rfl
theorem RvAll.empty {vs : List V} {ds : List D} (r : RvAll Γ H μ vs ds) : ds.isEmpty = vs.isEmpty := by cases r <;> rfl
theorem tru_of (G : Gx Γ k X) (st : Sto Γ μ S H) {v : V} {d : D} {b : Bool} (r : Rv Γ H μ v d) (e : truD S d = some b) : TruV X.K v H b := by
  have lists : ∀ {d : D}, Rv Γ H μ v d → (viewL S d).map (fun xs => !xs.isEmpty) = some b → TruV X.K v H b := fun {d} r e => by
    obtain ⟨xs, e1, rfl⟩ := Option.map_eq_some_iff.mp e
    obtain ⟨a, vs, rfl, h1, h2⟩ := viewL_at st r e1
    exact .inl ⟨vs, by rw [G.K]; exact h1, by rw [h2.empty]⟩
  cases r with
  | p h =>
    cases id h with
    | non => cases e; rfl
    | bl b => cases e; rfl
    | int i => cases e; rfl
    | str x =>
      simp only [truD] at e
      split at e
      · cases e
        exact ⟨by assumption, by rw [Bool.eq_iff_iff]; simp⟩
      · cases e
    | tup h1 h2 =>
      cases e
      exact .inr (.inl ⟨_, by rw [G.K]; exact h1.sq, by rw [h2.empty]⟩)
    | lst h1 h2 h3 => exact lists (.p h) e
    | dic _ _ _ _ _ _ => cases e
  | tup h1 h2 =>
    cases e
    exact .inr (.inl ⟨_, by rw [G.K]; exact h1.sq, by rw [h2.empty]⟩)
  | loc h => exact lists (.loc h) e
  | ro h h' => exact lists (.ro h h') e
  | fn h => cases e
  | ty n => cases e
  | pr _ _ => cases e
def eTru (f : M D) : M Bool := f.bind fun a => fun _ S => .of S (truD S a)
theorem t_truth (G : Gx Γ k X) {e : Expr} {f : M D} (h : PE X e (rdE Γ W f)) (he : ∀ whole, isTrue e X.env whole = (do let v ← whole; standAt e.pos; holding [v] (truthy v))) : PT X e (rdT Γ W (eTru f)) := by
  refine PT.mono (pt_truth h he) fun σ H Q q => ?_
  refine rd.cut q fun μ ρ H1 S1 a x R1 ra f1 => ?_
  obtain ⟨b, e, f3⟩ := f1.of
  exact ⟨b, tru_of G R1.sto ra e, Fin.here f3 R1.sto rfl⟩
/-- and, or, not: tests -/
def tAndM (f g : M Bool) : M Bool := f.bind fun b => if b then g else fun _ S => .ok false S
def tOrM (f g : M Bool) : M Bool := f.bind fun b => if b then fun _ S => .ok true S else g
def tNotM (f : M Bool) : M Bool := f.bind fun b => fun _ S => .ok (!b) S
structure PW' (X : Cx) (Γ : Gam) (W : WX) (e : Expr) (f : M Bool) : Prop where
  w : PW X e (rdT Γ W f)
theorem PW.mono {X : Cx} {e : Expr} {t u : TT} (h : PW X e t) (i : ∀ σ H Q, u σ H Q → t σ H Q) : PW X e u := ⟨fun wh pins s σ H Q I q => h.run wh pins s σ H Q I (i σ H Q q)⟩
theorem t_and {a b : Expr} {rest : List Expr} {f g : M Bool} {pos : Pos} (ha : PT X a (rdT Γ W f)) (hb : PW X (.BoolOp .And (b :: rest) pos) (rdT Γ W g)) : PW X (.BoolOp .And (a :: b :: rest) pos) (rdT Γ W (tAndM f g)) := by
  refine PW.mono (pw_and ha hb) fun σ H Q q => ?_
  refine rd.cut q fun μ ρ H1 S1 a x R1 ra f1 => ?_
  subst ra
  cases x with
  | true => exact ⟨μ, ρ, S1, R1, f1⟩
  | false => exact Fin.here f1 R1.sto rfl
theorem t_or {a b : Expr} {rest : List Expr} {f g : M Bool} {pos : Pos} (ha : PT X a (rdT Γ W f)) (hb : PW X (.BoolOp .Or (b :: rest) pos) (rdT Γ W g)) : PW X (.BoolOp .Or (a :: b :: rest) pos) (rdT Γ W (tOrM f g)) := by
  refine PW.mono (pw_or ha hb) fun σ H Q q => ?_
  refine rd.cut q fun μ ρ H1 S1 a x R1 ra f1 => ?_
  subst ra
  cases x with
  | true => exact Fin.here f1 R1.sto rfl
  | false => exact ⟨μ, ρ, S1, R1, f1⟩
theorem t_not {a : Expr} {f : M Bool} {pos : Pos} (ha : PT X a (rdT Γ W f)) : PT X (.UnaryOp .Not a pos) (rdT Γ W (tNotM f)) := by
  refine PT.mono (pt_not ha) fun σ H Q q => ?_
  refine rd.cut q fun μ ρ H1 S1 a x R1 ra f1 => ?_
  subst ra
  exact Fin.here f1 R1.sto rfl
/-- a comparison as a test -/
def eCmpT (g : D → D → Store → Option Bool) (fa fb : M D) : M Bool := fa.bind fun a => fb.bind fun b => fun _ S => .of S (g a b S)
theorem t_cmp {op : CmpOp} {g : D → D → Store → Option Bool} {a b : Expr} {fa fb : M D} {pos : Pos} (ho : OpR X (compareOp op) (rG2 Γ (gB g))) (ha : PE X a (rdE Γ W fa)) (hb : PE X b (rdE Γ W fb)) (hm : behindInMarks op b = false) :
    PT X (.Compare a [op] [b] pos) (rdT Γ W (eCmpT g fa fb)) := by
  refine PT.mono (pt_cmpR ho ha hb hm) fun σ H Q q => ?_
  refine rd.cut q fun μ ρ H1 S1 a x R1 ra f1 => ?_
  refine ⟨μ, ρ, S1, R1, Fin.cut (k := fun b S' => .of S' (g a b S')) f1 fun μ2 H2 S2 b y g2 s2 rb f2 => ?_⟩
  obtain ⟨kk, e, f3⟩ := f2.of
  refine ⟨μ2, S2, a, b, .p (.bool kk), s2, ra.go g2, rb, by rw [gB, e]; rfl, fun μ3 H3 v g3 s3 r3 => ?_⟩
  cases r3 with
  | p h =>
    cases h
    exact ⟨kk, rfl, f3 μ3 H3 kk g3 s3 rfl⟩
/-- a < b < c -/
def eChain (g g' : D → D → Store → Option Bool) (fa fb fc : M D) : M Bool := fa.bind fun a => fb.bind fun b => fun ρ S => (Out.of S (g a b S)).bind fun kk S1 => if kk then (fc ρ S1).bind fun c S2 => .of S2 (g' b c S2) else .ok false S1
theorem chain_of {g g' : D → D → Store → Option Bool} {fa fb fc : M D} {Q : VK} (q : rdT Γ W (eChain g g' fa fb fc) σ H fun k H' => Q (.bl k) H') : tChain (rG2 Γ (gB g)) (rG2 Γ (gB g')) (rdE Γ W fa) (rdE Γ W fb) (rdE Γ W fc) σ H Q := by
  refine rd.cut q fun μ ρ H1 S1 a x R1 ra f1 => ?_
  refine ⟨μ, ρ, S1, R1, Fin.cut (k := fun b S => (Out.of S (g a b S)).bind fun kk S1 => if kk then (fc ρ S1).bind fun c S2 => .of S2 (g' b c S2) else .ok false S1) f1 fun μ2 H2 S2 b y g2 s2 rb f2 => ?_⟩
  have R2 := R1.go g2 s2
  cases e : g a b S2 with
  | none => rw [e] at f2; exact f2.elim
  | some kk =>
    rw [e] at f2
    refine ⟨μ2, S2, a, b, .p (.bool kk), s2, ra.go g2, rb, by rw [gB, e]; rfl, fun μ3 H3 v g3 s3 r3 => ?_⟩
    cases r3 with
    | p h =>
      cases h
      refine ⟨kk, rfl, ?_⟩
      have f3 := Fin.go (o := if kk = true then (fc ρ S2).bind fun c S2 => .of S2 (g' b c S2) else .ok false S2) f2 g3
      cases kk with
      | false => exact f3 μ3 H3 false (Go.refl _ _) s3 rfl
      | true =>
        refine ⟨μ3, ρ, S2, R2.go g3 s3, Fin.cut (k := fun c S2 => .of S2 (g' b c S2)) f3 fun μ4 H4 S4 c z g4 s4 rc f4 => ?_⟩
        obtain ⟨k4, e4, f5⟩ := f4.of
        refine ⟨μ4, S4, b, c, .p (.bool k4), s4, (rb.go g3).go g4, rc, by rw [gB, e4]; rfl, fun μ5 H5 v g5 s5 r5 => ?_⟩
        cases r5 with
        | p h =>
          cases h
          exact f5 μ5 H5 k4 g5 s5 rfl
/-- a test's answer as a value -/
def eB (f : M Bool) : M D := f.bind fun b => fun _ S => .ok (.p (.bool b)) S
theorem rdB {f : M Bool} {Q : VK} (q : rdE Γ W (eB f) σ H Q) : rdT Γ W f σ H fun k H' => Q (.bl k) H' := by
  refine rd.cut q fun μ ρ H1 S1 a x R1 ra f1 => ?_
  subst ra
  exact Fin.here f1 R1.sto (.p (.bl _))
theorem e_chain {op op' : CmpOp} {g g' : D → D → Store → Option Bool} {a b c : Expr} {fa fb fc : M D} {pos : Pos} (ho : OpR X (compareOp op) (rG2 Γ (gB g))) (ho' : OpR X (compareOp op') (rG2 Γ (gB g'))) (ha : PE X a (rdE Γ W fa)) (hb : PE X b (rdE Γ W fb)) (hc : PE X c (rdE Γ W fc)) (hm : lastMarks [op, op'] [b, c] = false) :
    PE X (.Compare a [op, op'] [b, c] pos) (rdE Γ W (eB (eChain g g' fa fb fc))) :=
  PE.mono (pe_chain ho ho' ha hb hc hm) fun σ H Q q => chain_of (rdB q)
theorem t_chain {op op' : CmpOp} {g g' : D → D → Store → Option Bool} {a b c : Expr} {fa fb fc : M D} {pos : Pos} (ho : OpR X (compareOp op) (rG2 Γ (gB g))) (ho' : OpR X (compareOp op') (rG2 Γ (gB g'))) (ha : PE X a (rdE Γ W fa)) (hb : PE X b (rdE Γ W fb)) (hc : PE X c (rdE Γ W fc)) (hm : lastMarks [op, op'] [b, c] = false) :
    PT X (.Compare a [op, op'] [b, c] pos) (rdT Γ W (eChain g g' fa fb fc)) :=
  PT.mono (pt_chain ho ho' ha hb hc hm) fun σ H Q q => chain_of (Q := fun x H' => ∃ k, x = .bl k ∧ Q k H') (by
    obtain ⟨μ, ρ, S, R, f⟩ := q
    refine ⟨μ, ρ, S, R, ?_⟩
    cases h : eChain g g' fa fb fc ρ S with
    | ok a S => rw [h] at f; exact fun μ' H' b g s r => ⟨b, rfl, f μ' H' b g s r⟩
    | exc x S => rw [h] at f; exact f
    | bad => rw [h] at f; exact f)
/-- a comparison as a value -/
theorem e_cmpB {op : CmpOp} {g : D → D → Store → Option Bool} {a b : Expr} {fa fb : M D} {pos : Pos} (ho : OpR X (compareOp op) (rG2 Γ (gB g))) (ha : PE X a (rdE Γ W fa)) (hb : PE X b (rdE Γ W fb)) (hm : behindInMarks op b = false) :
    PE X (.Compare a [op] [b] pos) (rdE Γ W (eB (eCmpT g fa fb))) := by
  refine PE.mono (pe_cmpR ho ha hb hm) fun σ H Q q => ?_
  refine rd.cut (rdB q) fun μ ρ H1 S1 a x R1 ra f1 => ?_
  refine ⟨μ, ρ, S1, R1, Fin.cut (k := fun b S' => .of S' (g a b S')) f1 fun μ2 H2 S2 b y g2 s2 rb f2 => ?_⟩
  obtain ⟨kk, e, f3⟩ := f2.of
  refine ⟨μ2, S2, a, b, .p (.bool kk), s2, ra.go g2, rb, by rw [gB, e]; rfl, fun μ3 H3 v g3 s3 r3 => ?_⟩
  cases r3 with
  | p h =>
    cases h
    exact f3 μ3 H3 kk g3 s3 rfl
end
end Fp

set_option Elab.async false
set_option linter.all false
set_option autoImplicit false
set_option maxRecDepth 100000
/-! Fp: names, constants, subscripts, slices, displays, and, or, if. -/
namespace Fp
open PySem L2
section
variable {Γ : Gam} {k : Nat} {W : WX} {μ μ' : List Addr} {S S' : Store} {H H' : Hp} {σ : St} {ρ : Slots} {X : Cx} {pins : List (Addr × Obj)} {s : Shared}

/-! ### names, constants -/
def eVar (i : Nat) : M D := fun ρ S => match ρ[i]? with
  | some (some d) => .ok d S
  | _ => .bad
theorem e_var {i : Nat} {x : Str} {pos : Pos} (hN : X.N[i]? = some x) (hv : Vis X.env.scope x) (hd : (x == ("__debug__" : Str)) = false) (hcd : (x == ("__classdict__" : Str)) = false) : PE X (.Name x pos) (rdE Γ W (eVar i)) := by
  refine PE.mono (pe_var hN hv hd hcd) fun σ H Q q => ?_
  obtain ⟨μ, ρ, S, R, f⟩ := q
  unfold eVar at f
  split at f
  · rename_i d e
    obtain ⟨v, h1, h2⟩ := R.env i d e
    exact ⟨v, h1, Fin.here f R.sto h2⟩
  · exact f.elim
def eC (d : D) : M D := fun _ S => .ok d S
theorem e_c {e : Expr} {v : V} {d : D} (h : PE X e (tC v)) (r : ∀ H μ, Rv Γ H μ v d) : PE X e (rdE Γ W (eC d)) := PE.mono h fun σ H Q q => by
  obtain ⟨μ, ρ, S, R, f⟩ := q
  exact Fin.here f R.sto (r H μ)
theorem e_int {i : Int} {j : Nat} {pos : Pos} : PE X (.Constant (.int i) j pos) (rdE Γ W (eC (.p (.int i)))) := e_c pe_int fun _ _ => .p (.int i)
theorem e_bl {i : Bool} {j : Nat} {pos : Pos} : PE X (.Constant (.bool i) j pos) (rdE Γ W (eC (.p (.bool i)))) := e_c pe_bl fun _ _ => .p (.bl i)
theorem e_str {i : Str} {j : Nat} {pos : Pos} : PE X (.Constant (.str i) j pos) (rdE Γ W (eC (.p (.str i)))) := e_c pe_str fun _ _ => .p (.str i)
theorem e_non {j : Nat} {pos : Pos} : PE X (.Constant .none j pos) (rdE Γ W (eC (.p .none))) := e_c pe_non fun _ _ => .p .non
theorem e_fn {x : Str} {a : Addr} {pos : Pos} (G : Gx Γ k X) (hg : Gl X x) (hm : Γ.mg x = some (.ref a)) (hf : Γ.fa x = some a) (hdb : (x == ("__debug__" : Str)) = false) : PE X (.Name x pos) (rdE Γ W (eC (.fn x))) :=
  e_c (pe_glob hg (by rw [G.mg]; exact hm) (v := .ref a) rfl hdb) fun _ _ => .fn hf
/-- a constant of the module -/
theorem e_glob {x : Str} {pos : Pos} {u : Value} {v : V} {d : D} (G : Gx Γ k X) (hg : Gl X x) (hm : Γ.mg x = some u) (r : RelV v u) (hv : ∀ H μ, Rv Γ H μ v d) (hdb : (x == ("__debug__" : Str)) = false) : PE X (.Name x pos) (rdE Γ W (eC d)) :=
  e_c (pe_glob hg (by rw [G.mg]; exact hm) r hdb) hv

/-! ### subscripts -/
theorem atI_len {α β : Type} {xs : List α} {ys : List β} {i : Int} {y : β} (hl : xs.length = ys.length) (h : atI ys i = some y) : ∃ j : Nat, ys[j]? = some y ∧ ∀ x, xs[j]? = some x → atI xs i = some x := by
  unfold atI at h
  obtain ⟨j, h1, h2⟩ := Option.bind_eq_some_iff.mp h
  exact ⟨j, h2, fun x hx => by unfold atI; rw [hl, h1]; exact hx⟩
theorem RpAll.atI {vs : List V} {ds : List PyData} {i : Int} {d : PyData} (r : RpAll Γ H μ vs ds) (h : L2.atI ds i = some d) : ∃ v, L2.atI vs i = some v ∧ Rp Γ H μ v d := by
  obtain ⟨j, h1, h2⟩ := atI_len (xs := vs) r.length h
  obtain ⟨v, e, q⟩ := r.of h1
  exact ⟨v, h2 v e, q⟩
theorem RvAll.of : ∀ {vs : List V} {ds : List D} {i : Nat} {d : D}, RvAll Γ H μ vs ds → ds[i]? = some d → ∃ v, vs[i]? = some v ∧ Rv Γ H μ v d
  | _, _, i, _, .nil, e => by rw [List.getElem?_nil] at e; cases e
  | _, _, 0, _, .cons h _, e => by
    simp at e
    subst e
    exact ⟨_, rfl, h⟩
  | _, _, i + 1, _, .cons _ r, e => by
    obtain ⟨d, e1, h⟩ := RvAll.of (i := i) r (by simpa using e)
    exact ⟨d, by simpa using e1, h⟩
theorem RvAll.atI {vs : List V} {ds : List D} {i : Int} {d : D} (r : RvAll Γ H μ vs ds) (h : L2.atI ds i = some d) : ∃ v, L2.atI vs i = some v ∧ Rv Γ H μ v d := by
  obtain ⟨j, h1, h2⟩ := atI_len (xs := vs) r.length h
  obtain ⟨v, e, q⟩ := r.of h1
  exact ⟨v, h2 v e, q⟩
def gIxV (a : D) (x : PyData) (S : Store) : Option D := match viewD S a with
  | some kvs => if keyOk kvs x then (dget kvs x).map .p else none
  | none => match viewL S a, x with
    | some xs, .int i => (atI xs i).map .p
    | _, _ => none
def gIx (a b : D) (S : Store) : Option D := match a, b with
  | .p (.str x), .p (.int i) => if x.length ≤ sizeLine then (atI x.cps.toList i).map fun c => .p (.str ⟨#[c]⟩) else none
  | .p (.tuple xs), .p (.int i) => (atI xs i).map .p
  | .tup xs, .p (.int i) => atI xs i
  | a, .p x => gIxV a x S
  | _, _ => none
theorem viewD_type (G : Gx Γ k X) (I : Inv X pins σ H s) {a : Addr} {kvs : List (PyData × PyData)} (h : DicOk Γ H μ a kvs) : ∃ o, s.heap.get? a = some o ∧ o.ExactDict := by
  obtain ⟨ks, vs, nk, ds, es, h1, _⟩ := h
  cases nk with
  | none =>
    obtain ⟨kvs', e, _⟩ := h1
    obtain ⟨_, _, _, _, o, _, _, g1, g2, _⟩ := dk_of I.hok e
    exact ⟨o, g1, g2⟩
  | some ns =>
    obtain ⟨xs, e, _⟩ := h1
    obtain ⟨⟨o, _, _, g1, g2, _⟩, _⟩ := I.hok a _ e
    exact ⟨o, g1, g2⟩
/-- d[x], there -/
theorem dic_get (G : Gx Γ k X) (I : Inv X pins σ H s) {a : Addr} {kvs : List (PyData × PyData)} {px e : PyData} {x : V} {u : Value} (h : DicOk Γ H μ a kvs) (hk : keyOk kvs px = true) (hp : Rp Γ H μ x px) (ru : RelV x u) (he : dget kvs px = some e) :
    ∃ v w', RelV v w' ∧ Rp Γ H μ v e ∧ ∀ {Q : Value → Shared → Prop} {E : Value → Shared → Prop}, (∀ tk, Q w' { s with toks := tk }) → wpAny (model X.prog X.w) X.A (getItem (.ref a) u) Q E s := by
  rcases dic_cases h hk with ⟨kvs', ds, es, q', h1, h2, h3, h4, h5⟩ | ⟨xs, ds, es, vs, n, h1, h2, h3, h4, h5, h6, h7, h8, h9, h10, h11, h12, h13⟩ | ⟨h1, h2, h3, n, h4, h5⟩ | ⟨q', h1, h2, h3, h4⟩
  · have hx := pkey_rp hp h5
    subst hx
    have key := dget_K h2 h3 h5
    rw [← h4, he] at key
    obtain ⟨z, hd, ws, rel, dd⟩ := dk_of I.hok h1
    cases e1 : valV kvs' q' with
    | none => rw [e1] at key; exact key.elim
    | some v =>
      rw [e1] at key
      obtain ⟨w', hw, rw'⟩ := RelO.some_of (v := v) (o := valueAt ws q') (by rw [← e1]; exact rel.val q')
      exact ⟨v, w', rw', key, fun q => wpAny_getItem_of (kV_is ru) dd.mapOf hw (q _)⟩
  · obtain ⟨b, rfl⟩ := hp.tupRef h11
    cases ru
    have key := dget_T h5 h3 h4 h12
    rw [← h10, he] at key
    have dd := dicT_at G I h1 h2 h5 h6 h7
    have hkey : (nestedKind X.prog X.w).is s.heap n b := ⟨hp.nested G I h12 rfl, h13⟩
    cases e1 : atKey xs n with
    | none => rw [e1] at key; exact key.elim
    | some p =>
      rw [e1] at key
      obtain ⟨v, r1, r2⟩ := key
      exact ⟨v, p.2, r1, r2, fun q => wpAny_getItem_heap (room8 G.room) hkey dd e1 (q _)⟩
  · rw [h2] at he; cases he
  · rw [h2] at he; cases he
theorem o_ix (G : Gx Γ k X) : IxR X (rG2 Γ gIx) := by
  intro value slice pins s σ H x y v u Q I
  intro rx ry h hs
  obtain ⟨μ, S, a, b, d, st, ra, rb, e, q⟩ := h
  unfold gIx at e
  split at e
  · split at e
    · rename_i hz
      obtain ⟨c, hc, rfl⟩ := Option.map_eq_some_iff.mp e
      cases ra with
      | p h1 =>
        cases h1
        cases rb with
        | p h2 =>
          cases h2
          exact ix_str value slice pins s σ H _ _ v u Q I rx ry ⟨_, _, c, rfl, rfl, hz, hc, q.str st⟩ hs
    · cases e
  · obtain ⟨c, hc, rfl⟩ := Option.map_eq_some_iff.mp e
    cases ra with
    | p h1 =>
      cases h1 with
      | tup t r =>
        cases rb with
        | p h2 =>
          cases h2
          obtain ⟨z, hz, rz⟩ := r.atI hc
          exact ix_tup value slice pins s σ H _ _ v u Q I rx ry ⟨_, _, _, z, rfl, rfl, by rw [G.K]; exact t.sq, hz, q.here st (.p rz)⟩ hs
  · cases ra with
    | tup t r =>
      cases rb with
      | p h2 =>
        cases h2
        obtain ⟨z, hz, rz⟩ := r.atI e
        exact ix_tup value slice pins s σ H _ _ v u Q I rx ry ⟨_, _, _, z, rfl, rfl, by rw [G.K]; exact t.sq, hz, q.here st rz⟩ hs
  · unfold gIxV at e
    cases ed : viewD S a with
    | some kvs =>
      rw [ed] at e
      simp only at e
      split at e
      · rename_i hk
        obtain ⟨pe, he, rfl⟩ := Option.map_eq_some_iff.mp e
        obtain ⟨a', rfl, hd⟩ := viewD_at st ra ed
        cases rx
        cases rb with
        | p hp =>
          obtain ⟨z, w', r1, r2, go⟩ := dic_get G I hd hk hp ry he
          obtain ⟨o, g1, g2⟩ := viewD_type G I hd
          refine PyProof.Rows.subscriptTail_builtinR (x := w') (T := "dict") ⟨o, g1, g2.1⟩ PySem.F.slot_dict_getitem.lookup ?_ hs
          exact go fun tk => ⟨rfl, z, H, I.tok tk, r1, q.here st (.p r2)⟩
      · cases e
    | none =>
      rw [ed] at e
      simp only at e
      cases el : viewL S a with
      | none => rw [el] at e; cases e
      | some xs =>
        rw [el] at e
        split at e
        · rename_i xs' i' he1 _ _ _
          cases he1
          obtain ⟨c, hc, rfl⟩ := Option.map_eq_some_iff.mp e
          obtain ⟨a', vs, rfl, h1, r⟩ := viewL_at st ra el
          cases rb with
          | p h2 =>
            cases h2
            obtain ⟨z, hz, rz⟩ := r.atI hc
            exact ix_list value slice pins s σ H _ _ v u Q I rx ry ⟨_, _, _, z, rfl, rfl, by rw [G.K]; exact h1, hz, q.here st (.p rz)⟩ hs
        · cases e
  · cases e
theorem e_ix (G : Gx Γ k X) {a b : Expr} {fa fb : M D} {pos : Pos} (ha : PE X a (rdE Γ W fa)) (hb : PE X b (rdE Γ W fb)) (hs : PlainIx b) : PE X (.Subscript a b pos) (rdE Γ W (eBin gIx fa fb)) :=
  PE.mono (pe_ix (o_ix G) ha hb hs) fun _ _ _ h => tOp_of h

/-! ### slices -/
def cutD {α : Type} (xs : List α) (lo hi : Option Int) : List α := (xs.drop (HT.sIx xs.length 0 lo)).take (HT.sIx xs.length xs.length hi - HT.sIx xs.length 0 lo)
theorem RpAll.drop : ∀ {vs : List V} {ds : List PyData} (n : Nat), RpAll Γ H μ vs ds → RpAll Γ H μ (vs.drop n) (ds.drop n)
  | _, _, 0, r => r
  | _, _, _ + 1, .nil => .nil
  | _, _, n + 1, .cons _ r => RpAll.drop n r
theorem RpAll.take : ∀ {vs : List V} {ds : List PyData} (n : Nat), RpAll Γ H μ vs ds → RpAll Γ H μ (vs.take n) (ds.take n)
  | _, _, 0, _ => .nil
  | _, _, _ + 1, .nil => .nil
  | _, _, n + 1, .cons h r => .cons h (RpAll.take n r)
theorem RpAll.cut {vs : List V} {ds : List PyData} (lo hi : Option Int) (r : RpAll Γ H μ vs ds) : RpAll Γ H μ (cutV vs lo hi) (cutD ds lo hi) := by
  unfold cutV cutD
  rw [r.length]
  exact (r.drop _).take _
def partD : D → Option (Option Int)
  | .p (.int i) => some (some i)
  | _ => none
def gSl (a : D) (lo hi : Option Int) (S : Store) : Option D := match a with
  | .p (.str x) => if x.length ≤ sizeLine then some (.p (.str (cutS x lo hi))) else none
  | .p (.tuple xs) => some (.p (.tuple (cutD xs lo hi)))
  | a => (viewL S a).map fun xs => .p (.list (cutD xs lo hi))
def rSlG (Γ : Gam) : V → Option Int → Option Int → Hp → VK → Prop := fun x lo hi H Q => ∃ μ S a d, Sto Γ μ S H ∧ Rv Γ H μ x a ∧ gSl a lo hi S = some d ∧ Giv Γ μ S H d Q
theorem cutD_all {α : Type} {xs : List α} {lo hi : Option Int} (h1 : HT.sIx xs.length 0 lo = 0) (h2 : HT.sIx xs.length xs.length hi = xs.length) : cutD xs lo hi = xs := by
  unfold cutD
  rw [h1, h2]
  simp
theorem o_sl (G : Gx Γ k X) : SlR X (rSlG Γ) := by
  intro pins s σ H x v vl vu lo hi sl Q I
  intro rx hs pl pu h
  obtain ⟨μ, S, a, d, st, ra, e, q⟩ := h
  unfold gSl at e
  split at e
  · split at e
    · rename_i hz
      cases e
      cases ra with
      | p h1 =>
        cases h1
        exact sl_str pins s σ H _ v vl vu lo hi sl Q I rx hs pl pu ⟨_, rfl, hz, q.str st⟩
    · cases e
  · cases e
    cases ra with
    | p h1 =>
      cases id h1 with
      | tup t r =>
        refine sl_tupX pins s σ H _ v vl vu lo hi sl Q I rx hs pl pu ⟨_, _, rfl, by rw [G.K]; exact t.sq, fun z => ?_, fun _ => q.tup st (r.cut lo hi)⟩
        rw [r.length] at z
        exact q.here st (.p (by rw [cutD_all z.1 z.2]; exact h1))
  · obtain ⟨xs, ex, rfl⟩ := Option.map_eq_some_iff.mp e
    obtain ⟨a', vs, rfl, h1, r⟩ := viewL_at st ra ex
    exact sl_list pins s σ H _ v vl vu lo hi sl Q I rx hs pl pu ⟨_, _, rfl, by rw [G.K]; exact h1, q.lst st (r.cut lo hi)⟩
/-- a part of a slice -/
abbrev rdO (Γ : Gam) (W : WX) (f : M (Option Int)) : TO := rd Γ W (fun _ _ b a => b = a) f
theorem PO.mono {e : Option Expr} {t u : TO} (h : PO X e t) (i : ∀ σ H Q, u σ H Q → t σ H Q) : PO X e u := ⟨fun pins s σ H Q I q => h.run pins s σ H Q I (i σ H Q q)⟩
def oNone : M (Option Int) := fun _ S => .ok none S
def oSome (f : M D) : M (Option Int) := f.bind fun a => fun _ S => .of S (partD a)
theorem o_none : PO X none (rdO Γ W oNone) := PO.mono po_none fun σ H Q q => by
  obtain ⟨μ, ρ, S, R, f⟩ := q
  exact Fin.here f R.sto rfl
theorem o_some {e : Expr} {f : M D} (h : PE X e (rdE Γ W f)) : PO X (some e) (rdO Γ W (oSome f)) := PO.mono (po_some h) fun σ H Q q => by
  refine rd.cut q fun μ ρ H1 S1 a x R1 ra f1 => ?_
  obtain ⟨i, e, f3⟩ := f1.of
  unfold partD at e
  split at e
  · cases e
    cases ra with
    | p h =>
      cases h
      exact ⟨_, rfl, Fin.here f3 R1.sto rfl⟩
  · cases e
def eSl (fa : M D) (fl fh : M (Option Int)) : M D := fa.bind fun a => fl.bind fun lo => fh.bind fun hi => fun _ S => .of S (gSl a lo hi S)
theorem e_sl (G : Gx Γ k X) {a : Expr} {lo hi : Option Expr} {fa : M D} {fl fh : M (Option Int)} {p2 pos : Pos} (ha : PE X a (rdE Γ W fa)) (hl : PO X lo (rdO Γ W fl)) (hh : PO X hi (rdO Γ W fh)) : PE X (.Subscript a (.Slice lo hi none p2) pos) (rdE Γ W (eSl fa fl fh)) := by
  refine PE.mono (pe_slice (o_sl G) ha hl hh) fun σ H Q q => ?_
  refine rd.cut q fun μ ρ H1 S1 a x R1 ra f1 => ?_
  refine ⟨μ, ρ, S1, R1, Fin.cut (k := fun lo S' => (fh ρ S').bind fun hi S2 => .of S2 (gSl a lo hi S2)) f1 fun μ2 H2 S2 lo l g2 s2 rl f2 => ?_⟩
  subst rl
  have R2 := R1.go g2 s2
  refine ⟨μ2, ρ, S2, R2, Fin.cut (k := fun hi S2 => .of S2 (gSl a l hi S2)) f2 fun μ3 H3 S3 hi h g3 s3 rh f3 => ?_⟩
  subst rh
  obtain ⟨d, e, f4⟩ := f3.of
  exact ⟨μ3, S3, a, d, s3, (ra.go g2).go g3, e, f4⟩

/-! ### displays -/
def mkTup (ds : List D) : D := match allP ds with
  | some xs => .p (.tuple xs)
  | none => .tup ds
theorem Giv.mkTup {vs : List V} {ds : List D} {Q : VK} (g : Giv Γ μ S H (mkTup ds) Q) (s : Sto Γ μ S H) (r : RvAll Γ H μ vs ds) : NewT H vs Q := fun p o hp hd => by
  unfold Fp.mkTup at g
  split at g
  · rename_i xs e
    exact g.tup s (r.allP e) p o hp hd
  · exact g μ _ _ (Go.lay μ hp _) (s.lay hp _) (.tup (.inl ⟨⟨o, upd_same, hd⟩, s.out hp⟩) (r.go (Go.lay μ hp _)))
def eTup (fa : M (List D)) : M D := fa.bind fun ds => fun _ S => if ds.length ≤ 1000 then .ok (mkTup ds) S else .bad
theorem line1000 {n : Nat} (h : n ≤ 1000) : n ≤ sizeLine := Nat.le_of_lt (small1000 h)
theorem e_tup {es : List Expr} {fa : M (List D)} {x1 : Nat} {pos : Pos} (h : PA X es (rdA Γ W fa)) : PE X (.Tuple es x1 pos) (rdE Γ W (eTup fa)) := by
  refine PE.mono (pe_tupX h) fun σ H Q q => ?_
  refine rd.cut q fun μ ρ H1 S1 a x R1 ra f1 => ?_
  by_cases hl : a.length ≤ 1000
  · rw [if_pos hl] at f1
    exact ⟨by rw [ra.length]; exact line1000 hl, Giv.mkTup f1 R1.sto ra⟩
  · rw [if_neg hl] at f1
    exact f1.elim
def lDisp (fa : M (List D)) : M (List PyData) := fa.bind fun ds => fun _ S => if ds.length ≤ 1000 then .of S (allP ds) else .bad
theorem l_disp {es : List Expr} {fa : M (List D)} {pos : Pos} (h : PA X es (rdA Γ W fa)) : PE X (.List es pos) (rdL Γ W (lDisp fa)) := by
  refine PE.mono (pe_lst h) fun σ H Q q => ?_
  refine rd.cut q fun μ ρ H1 S1 a x R1 ra f1 => ?_
  by_cases hl : a.length ≤ 1000
  · rw [if_pos hl] at f1
    obtain ⟨xs, e, f3⟩ := f1.of
    exact ⟨by rw [ra.length]; exact line1000 hl, Fin.here f3 R1.sto (ra.allP e)⟩
  · rw [if_neg hl] at f1
    exact f1.elim
/-- a new list that stays; one that may change -/
def eFrz (f : M (List PyData)) : M D := f.bind fun xs => fun _ S => .ok (.p (.list xs)) S
def eThw (f : M (List PyData)) : M D := f.bind fun xs => fun _ S => .ok (.loc S.length) (S ++ [.lst xs])
theorem e_frz {e : Expr} {f : M (List PyData)} (h : PE X e (rdL Γ W f)) : PE X e (rdE Γ W (eFrz f)) := by
  refine PE.mono h fun σ H Q q => ?_
  refine rd.cut q fun μ ρ H1 S1 a x R1 ra f1 => ?_
  exact Giv.lst f1 R1.sto ra
theorem e_thw {e : Expr} {f : M (List PyData)} (h : PE X e (rdL Γ W f)) : PE X e (rdE Γ W (eThw f)) := by
  refine PE.mono h fun σ H Q q => ?_
  refine rd.cut q fun μ ρ H1 S1 a x R1 ra f1 p hp => ?_
  have g := Go.alloc μ hp (.lst x)
  refine f1 (μ ++ [p]) _ _ g (R1.sto.alloc hp (m := .lst a) ⟨x, upd_same, ra.go g⟩) (.loc ?_)
  rw [← R1.sto.len, List.getElem?_append_right (Nat.le_refl _), Nat.sub_self]
  rfl

/-! ### and, or, not, if -/
def eAnd (f g : M D) : M D := f.bind fun a => fun ρ S => match truD S a with
  | some true => g ρ S
  | some false => .ok a S
  | none => .bad
def eOr (f g : M D) : M D := f.bind fun a => fun ρ S => match truD S a with
  | some true => .ok a S
  | some false => g ρ S
  | none => .bad
theorem e_and (G : Gx Γ k X) {a b : Expr} {rest : List Expr} {f g : M D} {pos : Pos} (ha : PE X a (rdE Γ W f)) (hb : PE X (.BoolOp .And (b :: rest) pos) (rdE Γ W g)) : PE X (.BoolOp .And (a :: b :: rest) pos) (rdE Γ W (eAnd f g)) := by
  refine PE.mono (pe_andT ha hb) fun σ H Q q => ?_
  refine rd.cut q fun μ ρ H1 S1 a x R1 ra f1 => ?_
  cases e : truD S1 a with
  | none => simp only [e] at f1; exact f1.elim
  | some kk =>
    simp only [e] at f1
    refine ⟨kk, tru_of G R1.sto ra e, ?_⟩
    cases kk with
    | true => exact ⟨μ, ρ, S1, R1, f1⟩
    | false => exact Fin.here f1 R1.sto ra
theorem e_or (G : Gx Γ k X) {a b : Expr} {rest : List Expr} {f g : M D} {pos : Pos} (ha : PE X a (rdE Γ W f)) (hb : PE X (.BoolOp .Or (b :: rest) pos) (rdE Γ W g)) : PE X (.BoolOp .Or (a :: b :: rest) pos) (rdE Γ W (eOr f g)) := by
  refine PE.mono (pe_orT ha hb) fun σ H Q q => ?_
  refine rd.cut q fun μ ρ H1 S1 a x R1 ra f1 => ?_
  cases e : truD S1 a with
  | none => simp only [e] at f1; exact f1.elim
  | some kk =>
    simp only [e] at f1
    refine ⟨kk, tru_of G R1.sto ra e, ?_⟩
    cases kk with
    | true => exact Fin.here f1 R1.sto ra
    | false => exact ⟨μ, ρ, S1, R1, f1⟩
def eNot (f : M D) : M D := f.bind fun a => fun _ S => .of S ((truD S a).map fun b => .p (.bool (!b)))
theorem e_not (G : Gx Γ k X) {a : Expr} {f : M D} {pos : Pos} (ha : PE X a (rdE Γ W f)) : PE X (.UnaryOp .Not a pos) (rdE Γ W (eNot f)) := by
  refine PE.mono (pe_notT ha) fun σ H Q q => ?_
  refine rd.cut q fun μ ρ H1 S1 a x R1 ra f1 => ?_
  obtain ⟨d, e, f3⟩ := f1.of
  obtain ⟨b, e1, rfl⟩ := Option.map_eq_some_iff.mp e
  exact ⟨b, tru_of G R1.sto ra e1, Fin.here f3 R1.sto (.p (.bl _))⟩
def eIf {α : Type} (c : M Bool) (f g : M α) : M α := c.bind fun b => if b then f else g
theorem e_if {c a b : Expr} {fc : M Bool} {f g : M D} {pos : Pos} (hc : PT X c (rdT Γ W fc)) (ha : PE X a (rdE Γ W f)) (hb : PE X b (rdE Γ W g)) : PE X (.IfExp c a b pos) (rdE Γ W (eIf fc f g)) := by
  refine PE.mono (pe_ifExp hc ha hb) fun σ H Q q => ?_
  refine rd.cut q fun μ ρ H1 S1 a x R1 ra f1 => ?_
  subst ra
  cases x with
  | true => exact ⟨μ, ρ, S1, R1, f1⟩
  | false => exact ⟨μ, ρ, S1, R1, f1⟩
end
end Fp

set_option Elab.async false
set_option linter.all false
set_option autoImplicit false
set_option maxRecDepth 100000
/-! Fp: calls of built-ins. -/
namespace Fp
open PySem L2
section
variable {Γ : Gam} {k : Nat} {W : WX} {μ μ' : List Addr} {S S' : Store} {H H' : Hp} {σ : St} {ρ : Slots} {X : Cx} {pins : List (Addr × Obj)} {s : Shared}

/-! ### len -/
def lenD (S : Store) : D → Option Nat
  | .p (.str x) => if x.length ≤ sizeLine then some x.length else none
  | .p (.tuple xs) => some xs.length
  | .tup xs => some xs.length
  | a => match viewD S a with
    | some kvs => some kvs.length
    | none => (viewL S a).map (·.length)
def gLen (as : List D) (S : Store) : Option D := match as with
  | [a] => (lenD S a).map fun (n : Nat) => D.p (.int (n : Int))
  | _ => none
theorem RvAll.one {vs : List V} {a : D} (r : RvAll Γ H μ vs [a]) : ∃ v, vs = [v] ∧ Rv Γ H μ v a := by
  cases r with
  | cons h t => cases t; exact ⟨_, rfl, h⟩
theorem RvAll.two {vs : List V} {a b : D} (r : RvAll Γ H μ vs [a, b]) : ∃ v w, vs = [v, w] ∧ Rv Γ H μ v a ∧ Rv Γ H μ w b := by
  cases r with
  | cons h t =>
    obtain ⟨w, rfl, h2⟩ := t.one
    exact ⟨_, w, rfl, h, h2⟩
theorem zip_len {α β : Type} {as : List α} {bs : List β} (h : as.length = bs.length) : (as.zip bs).length = as.length := by
  rw [List.length_zip, h, Nat.min_self]
theorem dic_len (G : Gx Γ k X) (I : Inv X pins σ H s) {a : Addr} {kvs : List (PyData × PyData)} (h : DicOk Γ H μ a kvs) {Q : Value → Shared → Prop} {E : Value → Shared → Prop} (q : ∀ t s', Inv X pins σ H s' → Q (.int kvs.length t) s') : wpAny (model X.prog X.w) X.A (call (.builtin "len") [.ref a]) Q E s := by
  obtain ⟨ks, vs, nk, ds, es, h1, h2, h3, h4, h5⟩ := h
  have el : kvs.length = ks.length ∧ ks.length = vs.length → kvs.length = ks.length := fun z => z.1
  have e1 := h2.length
  have e2 := h3.length
  cases nk with
  | none =>
    obtain ⟨kvs', e, rfl, rfl⟩ := h1
    rw [List.length_map] at e1 e2
    have e3 : kvs.length = kvs'.length := by rw [h4, zip_len (by omega)]; omega
    rw [e3] at q
    exact d_len I (.inl e) q
  | some ns =>
    obtain ⟨xs, e, rfl, rfl, hv, hs, hz, hnd, hdp, hne⟩ := h1
    have dd := dicT_at G I e h2 (h5 _ rfl) hnd hdp
    have e0 := hv.length
    rw [List.length_map] at e1 e0
    have e3 : kvs.length = (pairsH xs).length := by rw [h4, pairsH_length, zip_len (by omega)]; omega
    have hsz : sizeLine = 16777216 := sizeLine_eq
    rw [pairsH_length] at e3
    refine PyProof.Rows.call_len_slot (n := kvs.length) dd.typeIs PySem.F.slot_dict_len (fun Q' hq => len_keyed hs ⟨xs, dd, rfl⟩ (by rw [pairsH_length, ← e3]; exact hq)) (by omega) (by omega) (q _ _ (I.tok _))
theorem c_len (G : Gx Γ k X) : CallR X (.builtin "len") (rGn Γ gLen) := by
  intro pins s σ H vs us Q I
  intro r h
  obtain ⟨μ, S, as, d, st, ra, e, q⟩ := h
  unfold gLen at e
  split at e
  · rename_i a
    obtain ⟨n, en, rfl⟩ := Option.map_eq_some_iff.mp e
    obtain ⟨v, rfl, rv⟩ := ra.one
    have go : ∀ {m : Nat}, LenV X.K v H m → m = n → wpAny (model X.prog X.w) X.A (call (.builtin "len") us) (EP X pins σ Q) X.xe s := fun {m} hl e1 => by
      subst e1
      exact call_len pins s σ H _ us Q I r ⟨v, m, rfl, hl, q.int st⟩
    have rest : ∀ {d : D}, Rv Γ H μ v d → (match viewD S d with | some kvs => some kvs.length | none => (viewL S d).map (·.length)) = some n → wpAny (model X.prog X.w) X.A (call (.builtin "len") us) (EP X pins σ Q) X.xe s := fun {d} rv en => by
      cases ed : viewD S d with
      | some kvs =>
        rw [ed] at en
        cases en
        obtain ⟨a', rfl, hd⟩ := viewD_at st rv ed
        rw [r.ref1]
        exact dic_len G I hd fun t s' I' => ⟨.int _, H, I', ⟨_, rfl⟩, q.int st⟩
      | none =>
        rw [ed] at en
        obtain ⟨xs, ex, rfl⟩ := Option.map_eq_some_iff.mp en
        obtain ⟨a', vs, rfl, h1, h2⟩ := viewL_at st rv ex
        exact go (.inl ⟨vs, by rw [G.K]; exact h1, rfl⟩) h2.length
    cases rv with
    | p hp =>
      cases id hp with
      | str x =>
        simp only [lenD] at en
        split at en
        · cases en
          exact go ⟨by assumption, rfl⟩ rfl
        · cases en
      | tup h1 h2 =>
        cases en
        exact go (.inr ⟨_, by rw [G.K]; exact h1.sq, rfl⟩) h2.length
      | lst h1 h2 h3 => exact rest (.p hp) en
      | dic h1 h2 h3 h4 h5 h6 => exact rest (.p hp) en
      | non => cases en
      | bl _ => cases en
      | int _ => cases en
    | tup h1 h2 =>
      cases en
      exact go (.inr ⟨_, by rw [G.K]; exact h1.sq, rfl⟩) h2.length
    | loc h => exact rest (.loc h) en
    | ro h h' => exact rest (.ro h h') en
    | fn h => cases en
    | ty n => cases en
    | pr _ _ => cases en
  · cases e

/-! ### tuple, list -/
def gTupleOf (as : List D) (S : Store) : Option D := match as with
  | [.p (.tuple xs)] => some (.p (.tuple xs))
  | [a] => (viewL S a).map fun xs => .p (.tuple xs)
  | _ => none
theorem c_tuple (G : Gx Γ k X) : CallR X (.type "tuple") (rGn Γ gTupleOf) := by
  intro pins s σ H vs us Q I
  intro r h
  obtain ⟨μ, S, as, d, st, ra, e, q⟩ := h
  unfold gTupleOf at e
  split at e
  · cases e
    obtain ⟨v, rfl, rv⟩ := ra.one
    cases rv with
    | p hp =>
      cases id hp with
      | tup h1 h2 => exact call_tuple_of pins s σ H _ us Q I r ⟨_, _, rfl, .inr ⟨by rw [G.K]; exact h1.sq, q.here st (.p hp)⟩⟩
  · obtain ⟨xs, ex, rfl⟩ := Option.map_eq_some_iff.mp e
    obtain ⟨v, rfl, rv⟩ := ra.one
    obtain ⟨a', vs, rfl, h1, h2⟩ := viewL_at st rv ex
    exact call_tupleX pins s σ H _ us Q I r ⟨_, _, rfl, .inl ⟨by rw [G.K]; exact h1, q.tup st h2⟩⟩
  · cases e
/-- what gives a new list -/
def GivL (Γ : Gam) (μ : List Addr) (S : Store) (H : Hp) (xs : List PyData) (Q : VK) : Prop := ∀ μ' H' vs, Go μ H μ' H' → Sto Γ μ' S H' → RpAll Γ H' μ' vs xs → ∀ p, H' p = none → Q (.ref p) (upd H' p (.lst vs))
def rGnL (Γ : Gam) (g : List D → Store → Option (List PyData)) : List V → Hp → VK → Prop := fun xs H Q => ∃ μ S as ds, Sto Γ μ S H ∧ RvAll Γ H μ xs as ∧ g as S = some ds ∧ GivL Γ μ S H ds Q
def lNs (g : List D → Store → Option (List PyData)) (fa : M (List D)) : M (List PyData) := fa.bind fun a => fun _ S => .of S (g a S)
theorem tCBL_of {g : List D → Store → Option (List PyData)} {fa : M (List D)} {Q : VK} (h : rdL Γ W (lNs g fa) σ H Q) : tCB (rGnL Γ g) (rdA Γ W fa) σ H Q := by
  refine rd.cut h fun μ ρ H1 S1 a x R1 ra f1 => ?_
  obtain ⟨d, e, f3⟩ := f1.of
  exact ⟨μ, S1, a, d, R1.sto, ra, e, f3⟩
def itemsD (S : Store) : D → Option (List PyData)
  | .p (.tuple xs) => some xs
  | a => viewL S a
def gListOf (as : List D) (S : Store) : Option (List PyData) := match as with
  | [a] => itemsD S a
  | _ => none
theorem itemsD_at {v : V} {d : D} {xs : List PyData} (st : Sto Γ μ S H) (r : Rv Γ H μ v d) (e : itemsD S d = some xs) : ∃ a vs, v = .ref a ∧ (SqL Γ.K H a vs ∨ SqT Γ.K H a vs) ∧ RpAll Γ H μ vs xs := by
  unfold itemsD at e
  split at e
  · cases e
    obtain ⟨a, vs, h1, h2, h3⟩ := viewT_at r rfl
    exact ⟨a, vs, h1, .inr h2, h3⟩
  · obtain ⟨a, vs, h1, h2, h3⟩ := viewL_at st r e
    exact ⟨a, vs, h1, .inl h2, h3⟩
theorem c_list (G : Gx Γ k X) : CallR X (.type "list") (rGnL Γ gListOf) := by
  intro pins s σ H vs us Q I
  intro r h
  obtain ⟨μ, S, as, d, st, ra, e, q⟩ := h
  unfold gListOf at e
  split at e
  · obtain ⟨v, rfl, rv⟩ := ra.one
    obtain ⟨a', vs, rfl, h1, h2⟩ := itemsD_at st rv e
    exact call_list_of pins s σ H _ us Q I r ⟨_, _, rfl, by rw [G.K]; exact h1, q μ H vs (Go.refl _ _) st h2⟩
  · cases e

/-! ### sum, any, all, max, min -/
def allI : List PyData → Option (List Int)
  | [] => some []
  | .int i :: r => (allI r).map fun ns => i :: ns
  | _ :: _ => none
def allB : List PyData → Option (List Bool)
  | [] => some []
  | .bool i :: r => (allB r).map fun ns => i :: ns
  | _ :: _ => none
theorem RpAll.ints : ∀ {vs : List V} {ds : List PyData} {ns : List Int}, RpAll Γ H μ vs ds → allI ds = some ns → vs = ns.map V.int
  | _, _, _, .nil, e => by cases e; rfl
  | _, _, _, .cons h r, e => by
    cases h with
    | int i =>
      rw [allI] at e
      obtain ⟨ms, e1, rfl⟩ := Option.map_eq_some_iff.mp e
      rw [RpAll.ints r e1]
      rfl
    | _ => cases e
theorem RpAll.bools : ∀ {vs : List V} {ds : List PyData} {ns : List Bool}, RpAll Γ H μ vs ds → allB ds = some ns → vs = ns.map V.bl
  | _, _, _, .nil, e => by cases e; rfl
  | _, _, _, .cons h r, e => by
    cases h with
    | bl i =>
      rw [allB] at e
      obtain ⟨ms, e1, rfl⟩ := Option.map_eq_some_iff.mp e
      rw [RpAll.bools r e1]
      rfl
    | _ => cases e
def gSum (as : List D) (S : Store) : Option D := match as with
  | [a] => (viewL S a).bind fun xs => (allI xs).map fun ns => .p (.int ns.sum)
  | _ => none
def gAny (as : List D) (S : Store) : Option D := match as with
  | [a] => (viewL S a).bind fun xs => (allB xs).map fun bs => .p (.bool (bs.any id))
  | _ => none
def gAll (as : List D) (S : Store) : Option D := match as with
  | [a] => (viewL S a).bind fun xs => (allB xs).map fun bs => .p (.bool (bs.all id))
  | _ => none
def maxL : Int → List Int → Int
  | m, [] => m
  | m, n :: r => maxL (if m < n then n else m) r
def minL : Int → List Int → Int
  | m, [] => m
  | m, n :: r => minL (if n < m then n else m) r
theorem maxL_spec : ∀ (r : List Int) (m : Int), maxL m r ∈ m :: r ∧ ∀ a ∈ m :: r, a ≤ maxL m r
  | [], m => by simp [maxL]
  | n :: r, m => by
    have e : ∃ x, (if m < n then n else m) = x ∧ (x = n ∨ x = m) ∧ m ≤ x ∧ n ≤ x := by
      by_cases c : m < n
      · exact ⟨n, if_pos c, .inl rfl, by omega, by omega⟩
      · exact ⟨m, if_neg c, .inr rfl, by omega, by omega⟩
    obtain ⟨x, e, hx, h3, h4⟩ := e
    obtain ⟨h1, h2⟩ := maxL_spec r x
    rw [maxL, e]
    refine ⟨?_, fun a ha => ?_⟩
    · rcases List.mem_cons.mp h1 with z | z
      · rw [z]
        rcases hx with y | y <;> simp [y]
      · simp [z]
    · have h5 := h2 x (List.mem_cons_self ..)
      rcases List.mem_cons.mp ha with z | z
      · omega
      · rcases List.mem_cons.mp z with y | y
        · omega
        · exact h2 a (List.mem_cons_of_mem _ y)
theorem minL_spec : ∀ (r : List Int) (m : Int), minL m r ∈ m :: r ∧ ∀ a ∈ m :: r, minL m r ≤ a
  | [], m => by simp [minL]
  | n :: r, m => by
    have e : ∃ x, (if n < m then n else m) = x ∧ (x = n ∨ x = m) ∧ x ≤ m ∧ x ≤ n := by
      by_cases c : n < m
      · exact ⟨n, if_pos c, .inl rfl, by omega, by omega⟩
      · exact ⟨m, if_neg c, .inr rfl, by omega, by omega⟩
    obtain ⟨x, e, hx, h3, h4⟩ := e
    obtain ⟨h1, h2⟩ := minL_spec r x
    rw [minL, e]
    refine ⟨?_, fun a ha => ?_⟩
    · rcases List.mem_cons.mp h1 with z | z
      · rw [z]
        rcases hx with y | y <;> simp [y]
      · simp [z]
    · have h5 := h2 x (List.mem_cons_self ..)
      rcases List.mem_cons.mp ha with z | z
      · omega
      · rcases List.mem_cons.mp z with y | y
        · omega
        · exact h2 a (List.mem_cons_of_mem _ y)
def gMax (as : List D) (S : Store) : Option D := match as with
  | [a] => (viewL S a).bind fun xs => match allI xs with
    | some (n :: r) => some (.p (.int (maxL n r)))
    | _ => none
  | _ => none
def gMin (as : List D) (S : Store) : Option D := match as with
  | [a] => (viewL S a).bind fun xs => match allI xs with
    | some (n :: r) => some (.p (.int (minL n r)))
    | _ => none
  | _ => none
theorem c_sum (G : Gx Γ k X) : CallR X (.builtin "sum") (rGn Γ gSum) := by
  refine CallR.mono (cr_sum G.calm) fun vs H Q h => ?_
  obtain ⟨μ, S, as, d, st, ra, e, q⟩ := h
  unfold gSum at e
  split at e
  · obtain ⟨xs, ex, e⟩ := Option.bind_eq_some_iff.mp e
    obtain ⟨ns, en, rfl⟩ := Option.map_eq_some_iff.mp e
    obtain ⟨v, rfl, rv⟩ := ra.one
    obtain ⟨a', vs, rfl, h1, h2⟩ := viewL_at st rv ex
    exact ⟨a', ns, rfl, by rw [G.K, ← h2.ints en]; exact h1, q.int st⟩
  · cases e
theorem c_any (G : Gx Γ k X) : CallR X (.builtin "any") (rGn Γ gAny) := by
  refine CallR.mono (cr_any G.calm) fun vs H Q h => ?_
  obtain ⟨μ, S, as, d, st, ra, e, q⟩ := h
  unfold gAny at e
  split at e
  · obtain ⟨xs, ex, e⟩ := Option.bind_eq_some_iff.mp e
    obtain ⟨ns, en, rfl⟩ := Option.map_eq_some_iff.mp e
    obtain ⟨v, rfl, rv⟩ := ra.one
    obtain ⟨a', vs, rfl, h1, h2⟩ := viewL_at st rv ex
    exact ⟨a', ns, rfl, by rw [G.K, ← h2.bools en]; exact h1, q.bl st⟩
  · cases e
theorem c_all (G : Gx Γ k X) : CallR X (.builtin "all") (rGn Γ gAll) := by
  refine CallR.mono (cr_all G.calm) fun vs H Q h => ?_
  obtain ⟨μ, S, as, d, st, ra, e, q⟩ := h
  unfold gAll at e
  split at e
  · obtain ⟨xs, ex, e⟩ := Option.bind_eq_some_iff.mp e
    obtain ⟨ns, en, rfl⟩ := Option.map_eq_some_iff.mp e
    obtain ⟨v, rfl, rv⟩ := ra.one
    obtain ⟨a', vs, rfl, h1, h2⟩ := viewL_at st rv ex
    exact ⟨a', ns, rfl, by rw [G.K, ← h2.bools en]; exact h1, q.bl st⟩
  · cases e
theorem c_max (G : Gx Γ k X) : CallR X (.builtin "max") (rGn Γ gMax) := by
  refine CallR.mono (cr_max G.calm) fun vs H Q h => ?_
  obtain ⟨μ, S, as, d, st, ra, e, q⟩ := h
  unfold gMax at e
  split at e
  · obtain ⟨xs, ex, e⟩ := Option.bind_eq_some_iff.mp e
    obtain ⟨v, rfl, rv⟩ := ra.one
    obtain ⟨a', vs, rfl, h1, h2⟩ := viewL_at st rv ex
    split at e
    · rename_i n r en
      cases e
      refine ⟨a', n :: r, rfl, by rw [G.K, ← h2.ints en]; exact h1, by simp, fun m hm hb => ?_⟩
      obtain ⟨g1, g2⟩ := maxL_spec r n
      have e1 : m = maxL n r := Int.le_antisymm (g2 m hm) (hb _ g1)
      rw [e1]
      exact q.int st
    · cases e
  · cases e
theorem c_min (G : Gx Γ k X) : CallR X (.builtin "min") (rGn Γ gMin) := by
  refine CallR.mono (cr_min G.calm) fun vs H Q h => ?_
  obtain ⟨μ, S, as, d, st, ra, e, q⟩ := h
  unfold gMin at e
  split at e
  · obtain ⟨xs, ex, e⟩ := Option.bind_eq_some_iff.mp e
    obtain ⟨v, rfl, rv⟩ := ra.one
    obtain ⟨a', vs, rfl, h1, h2⟩ := viewL_at st rv ex
    split at e
    · rename_i n r en
      cases e
      refine ⟨a', n :: r, rfl, by rw [G.K, ← h2.ints en]; exact h1, by simp, fun m hm hb => ?_⟩
      obtain ⟨g1, g2⟩ := minL_spec r n
      have e1 : m = minL n r := Int.le_antisymm (hb _ g1) (g2 m hm)
      rw [e1]
      exact q.int st
    · cases e
  · cases e

/-! ### sorted -/
def sortOk (ds : List PyData) : Bool :=
  decide (ds.length ≤ sizeLine) && (ds.all fun d => okD d && ds.all fun e => PySem.W.alike d e) &&
    ((ds.all fun d => match d with | .tuple (_ :: _) => true | _ => false) || ds.all fun d => !isNon d && !isTupD d)
def sortP (ds : List PyData) : List PyData := ds.mergeSort (PySem.W.dataLe false id)
def gSortedL (as : List D) (S : Store) : Option (List PyData) := match as with
  | [a] => (viewL S a).bind fun xs => if sortOk xs then some (sortP xs) else none
  | _ => none
theorem each_of {R : Value → PyData → Prop} : ∀ {vs : List V} {us : List Value} {ds : List PyData}, RpAll Γ H μ vs ds → Vals vs us → (∀ v u d, d ∈ ds → RelV v u → Rp Γ H μ v d → R u d) → PySem.W.EachIs R us ds
  | _, _, _, .nil, .nil, _ => .nil
  | _, _, _, .cons h r, .cons q t, f => .cons (f _ _ _ (List.mem_cons_self ..) q h) (each_of r t fun v u d hd => f v u d (List.mem_cons_of_mem _ hd))
theorem of_each : ∀ {us : List Value} {ds : List PyData}, PySem.W.EachIs (fun u d => ∃ v, RelV v u ∧ Rp Γ H μ v d) us ds → ∃ vs, Vals vs us ∧ RpAll Γ H μ vs ds
  | _, _, .nil => ⟨[], .nil, .nil⟩
  | _, _, .cons ⟨v, h1, h2⟩ t => by
    obtain ⟨vs, q1, q2⟩ := of_each t
    exact ⟨v :: vs, .cons h1 q1, .cons h2 q2⟩
theorem sortOk_len {ds : List PyData} (h : sortOk ds = true) : ds.length ≤ sizeLine := by
  simp only [sortOk, Bool.and_eq_true, decide_eq_true_eq] at h
  exact h.1.1
theorem sortOk_ok {ds : List PyData} (h : sortOk ds = true) {d : PyData} (hd : d ∈ ds) : okD d = true := by
  simp only [sortOk, Bool.and_eq_true, List.all_eq_true] at h
  exact (h.1.2 d hd).1
theorem sortOk_alike {ds : List PyData} (h : sortOk ds = true) : PySem.W.AllAlike (ds.map id) := by
  simp only [sortOk, Bool.and_eq_true, List.all_eq_true] at h
  rw [List.map_id]
  exact fun d hd e he => (h.1.2 d hd).2 e he
theorem sortOk_kind {ds : List PyData} (h : sortOk ds = true) : PySem.W.Sortable (ds.map id) := by
  simp only [sortOk, Bool.and_eq_true, Bool.or_eq_true, List.all_eq_true] at h
  rw [List.map_id]
  rcases h.2 with z | z
  · refine .inl fun d hd => ?_
    have := z d hd
    split at this
    · exact ⟨_, _, rfl⟩
    · cases this
  · refine .inr fun d hd => ?_
    have := z d hd
    refine ⟨fun e => ?_, fun xs e => ?_⟩
    · subst e; simp [isNon] at this
    · subst e; simp [isTupD] at this
theorem c_sorted (G : Gx Γ k X) : CallR X (.builtin "sorted") (rGnL Γ gSortedL) := by
  intro pins s σ H vs us Q I
  intro r h
  obtain ⟨μ, S, as, d, st, ra, e, q⟩ := h
  unfold gSortedL at e
  split at e
  · obtain ⟨xs, ex, e⟩ := Option.bind_eq_some_iff.mp e
    split at e
    · rename_i hok
      cases e
      obtain ⟨v, rfl, rv⟩ := ra.one
      obtain ⟨a', vs, rfl, h1, h2⟩ := viewL_at st rv ex
      rw [r.ref1]
      obtain ⟨its, rvs, hl, hz⟩ := I.list (show SqL X.K H a' vs by rw [G.K]; exact h1)
      have e1 : PySem.W.EachIs (fun u d => ∃ v, RelV v u ∧ Rp Γ H μ v d) its xs := each_of h2 rvs fun v u d _ r1 r2 => ⟨v, r1, r2⟩
      have e2 : PySem.W.EachIs (fun u d => ∃ as, Reads s.heap u (id d) as) its xs := each_of h2 rvs fun v u d hd r1 r2 => r2.reads G I (okD_plain (sortOk_ok hok hd)) r1
      refine PySem.W.sorted_data (enc := id) hl.isList e1 e2 (sortOk_alike hok) (sortOk_kind hok) (sortOk_len hok) (fun d hd => ?_) fun out hlen he => ?_
      · have := okD_depth (sortOk_ok hok hd)
        have := G.room.units
        show X.A.units + 2 + d.depth < cLine
        omega
      · obtain ⟨ws, q1, q2⟩ := of_each he
        obtain ⟨ep, he'⟩ := PyProof.Rows.sortedAll_at s.heap its (List.toArray out)
        have hwl : ws.length ≤ sizeLine := by
          have := q1.length
          have := sortOk_len hok
          omega
        exact ⟨.ref _, upd H (s.heap.objs.size + 1) (.lst ws), I.laid (t' := s.toks) (fun _ _ => PyProof.Rows.sortedAll_old) (Nat.le_succ _) ⟨hwl, out, ep, q1, by simpa using he'⟩, rfl, q μ H ws (Go.refl _ _) st q2 _ (I.hok.fresh (Nat.le_succ _))⟩
    · cases e
  · cases e

/-! ### repr, str, int -/
def showOk (d : PyData) : Bool := d.plain && d.showable && !d.hasDict && decide (d.depth ≤ 60) && decide (d.shown.length ≤ sizeLine)
def gRepr (as : List D) (S : Store) : Option D := match as with
  | [a] => (view S a).bind fun d => if showOk d then some (.p (.str d.shown)) else none
  | _ => none
theorem c_repr (G : Gx Γ k X) : CallR X (.builtin "repr") (rGn Γ gRepr) := by
  intro pins s σ H vs us Q I
  intro r h
  obtain ⟨μ, S, as, d, st, ra, e, q⟩ := h
  unfold gRepr at e
  split at e
  · obtain ⟨x, ex, e⟩ := Option.bind_eq_some_iff.mp e
    split at e
    · rename_i hok
      cases e
      simp only [showOk, Bool.and_eq_true, Bool.not_eq_true', decide_eq_true_eq] at hok
      obtain ⟨⟨⟨⟨c1, c2⟩, c3⟩, c4⟩, c5⟩ := hok
      obtain ⟨v, rfl, rv⟩ := ra.one
      obtain ⟨u1, rfl, ru⟩ := vals1 r
      obtain ⟨as, hr⟩ := view_reads G I st rv ex c1 ru
      have fin : ∀ h' t tk, (∀ b o, s.heap.get? b = some o → h'.get? b = some o) → EP X pins σ Q (.str x.shown t) { s with heap := h', toks := tk } := fun h' t tk hk => ⟨.str _, H, I.kept hk, ⟨_, rfl⟩, q.str st⟩
      cases hr with
      | none => exact PySem.P.repr_of_none (fin s.heap _ _ fun _ _ z => z)
      | bool b => exact PySem.P.repr_of_bool (by
          have := fin s.heap s.toks (s.toks + 1) fun _ _ z => z
          simpa [PyData.shown] using this)
      | int i t => exact PySem.P.repr_of_int (by simpa [PyData.showable] using c2) (fin s.heap _ _ fun _ _ z => z)
      | str y t => exact PySem.P.repr_of_str (fin s.heap _ _ fun _ _ z => z) (by simpa [PyData.shown] using c5)
      | list a1 a2 a3 a4 => exact repr_of_reads' (.list a1 a2 a3 a4) c2 (fun z => by rw [c3] at z; cases z) G.guards (by have := G.room.units; omega) (fun _ _ z => z) (fun h' t tk hk => fin h' t tk hk) c5
      | tuple a1 a2 a3 a4 => exact repr_of_reads' (.tuple a1 a2 a3 a4) c2 (fun z => by rw [c3] at z; cases z) G.guards (by have := G.room.units; omega) (fun _ _ z => z) (fun h' t tk hk => fin h' t tk hk) c5
      | dict a1 a2 a3 a4 a5 => simp [PyData.plain] at c1
    · cases e
  · cases e
end
end Fp

set_option Elab.async false
set_option linter.all false
set_option autoImplicit false
set_option maxRecDepth 100000
/-! Fp: isinstance, int, str; calls of built-ins by their names. -/
namespace Fp
open PySem L2
section
variable {Γ : Gam} {k : Nat} {W : WX} {μ μ' : List Addr} {S S' : Store} {H H' : Hp} {σ : St} {ρ : Slots} {X : Cx} {pins : List (Addr × Obj)} {s : Shared}

/-! ### isinstance -/
def tyP : PyData → String
  | .none => "NoneType"
  | .bool _ => "bool"
  | .int _ => "int"
  | .str _ => "str"
  | .list _ => "list"
  | .tuple _ => "tuple"
  | .dict _ => "dict"
def isiNames : List String := ["int", "bool", "str", "list", "tuple"]
def isiB (a n : String) : Bool := (a == n) || (a == "bool" && n == "int")
theorem isi_ok : (["NoneType", "bool", "int", "str", "list", "tuple", "dict"].all fun a => isiNames.all fun n => decide (kitB a n = some (isiB a n))) = true := by decide +kernel
theorem isi_kit {d : PyData} {n : String} (h : n ∈ isiNames) : kitB (tyP d) n = some (isiB (tyP d) n) := by
  have z := isi_ok
  rw [List.all_eq_true] at z
  have y := z (tyP d) (by cases d <;> simp [tyP])
  rw [List.all_eq_true] at y
  exact of_decide_eq_true (y n h)
def tysD : List D → Option (List String)
  | [] => some []
  | .ty n :: r => if n ∈ isiNames then (tysD r).map fun ns => n :: ns else none
  | _ :: _ => none
def gIsi (as : List D) (S : Store) : Option D := match as with
  | [a, .ty n] => if n ∈ isiNames then (view S a).bind fun d => if d.plain then some (.p (.bool (isiB (tyP d) n))) else none else none
  | [a, .tup ts] => (tysD ts).bind fun ns => (view S a).bind fun d => if d.plain then some (.p (.bool (ns.any fun n => isiB (tyP d) n))) else none
  | _ => none
theorem Rp.tyX (G : Gx Γ k X) {v : V} {d : PyData} (r : Rp Γ H μ v d) (hp : d.plain = true) : TyX X.K H v (.type (tyP d)) := by
  cases r with
  | non => exact .base .non
  | bl b => exact .base (.bl b)
  | int i => exact .base (.int i)
  | str x => exact .base (.str x)
  | lst h n q => exact .base (.lst h)
  | tup h q =>
    rcases h with ⟨⟨o, h, _⟩, _⟩ | ⟨⟨o, its, n, h1, h2, _⟩, _⟩
    · exact .fTuple h
    · exact .kTuple (by rw [G.K]; exact h1) h2
  | dic _ _ _ _ _ _ => simp [PyData.plain] at hp
theorem view_tyX (G : Gx Γ k X) (st : Sto Γ μ S H) {v : V} {d : D} {x : PyData} (r : Rv Γ H μ v d) (e : view S d = some x) (hp : x.plain = true) : TyX X.K H v (.type (tyP x)) := by
  cases r with
  | p h => cases e; exact h.tyX G hp
  | loc h =>
    obtain ⟨o, e1, m⟩ := st.ix h
    simp only [view, e1] at e
    cases o with
    | lst ys =>
      cases e
      obtain ⟨vs, q, r⟩ := m
      exact .base (.lst q)
    | dic ys =>
      cases e
      simp [PyData.plain] at hp
  | ro h r =>
    cases e
    rcases h with ⟨h | ⟨o, h⟩, _⟩ | ⟨o, its, n, h1, h2, _⟩
    · exact .base (.lst h)
    · exact .base (.frz h)
    · exact .kList (by rw [G.K]; exact h1) h2
  | _ => cases e
theorem tys_cls : ∀ {vs : List V} {ts : List D} {ns : List String} {us : List Value}, RvAll Γ H μ vs ts → tysD ts = some ns → Vals vs us → us = ns.map Value.type ∧ ∀ n ∈ ns, n ∈ isiNames
  | _, _, _, _, .nil, e, .nil => by cases e; exact ⟨rfl, by simp⟩
  | _, _, _, _, .cons h r, e, .cons q t => by
    cases h with
    | ty n =>
      rw [tysD] at e
      split at e
      · rename_i hn
        obtain ⟨ns, e1, rfl⟩ := Option.map_eq_some_iff.mp e
        obtain ⟨h1, h2⟩ := tys_cls r e1 t
        cases q
        subst h1
        exact ⟨rfl, fun m hm => (List.mem_cons.mp hm).elim (fun z => z ▸ hn) (h2 m)⟩
      · cases e
    | _ => cases e
theorem kitAny_of {K : PySem.W.Frag} {d : PyData} : ∀ {ns : List String}, (∀ n ∈ ns, n ∈ isiNames) → PySem.W.kitAny K (.type (tyP d)) (ns.map Value.type) = some (ns.any fun n => isiB (tyP d) n)
  | [], _ => rfl
  | n :: ns, h => by
    refine kitAny_cons (b := isiB (tyP d) n) (kit_ty (isi_kit (h n (List.mem_cons_self ..)))) (fun z => ?_) (fun z => ?_)
    · rw [List.any_cons, z, Bool.false_or]
      exact kitAny_of fun m hm => h m (List.mem_cons_of_mem _ hm)
    · rw [List.any_cons, z, Bool.true_or]
theorem c_isi (G : Gx Γ k X) : CallR X (.builtin "isinstance") (rGn Γ gIsi) := by
  intro pins s σ H vs us Q I
  intro r h
  obtain ⟨μ, S, as, d, st, ra, e, q⟩ := h
  unfold gIsi at e
  split at e
  · split at e
    · rename_i hn
      obtain ⟨x, ex, e⟩ := Option.bind_eq_some_iff.mp e
      split at e
      · rename_i hp
        cases e
        obtain ⟨v, w, rfl, rv, rw'⟩ := ra.two
        cases rw' with
        | ty n => exact call_isi pins s σ H _ us Q I r ⟨v, _, _, _, _, rfl, .ty _, view_tyX G st rv ex hp, kit_ty (isi_kit hn), q.bl st⟩
      · cases e
    · cases e
  · obtain ⟨ns, en, e⟩ := Option.bind_eq_some_iff.mp e
    obtain ⟨x, ex, e⟩ := Option.bind_eq_some_iff.mp e
    split at e
    · rename_i hp
      cases e
      obtain ⟨v, w, rfl, rv, rw'⟩ := ra.two
      cases rw' with
      | tup h1 h2 =>
        obtain ⟨w1, w2, rfl, r1, r2⟩ := vals2 r
        cases (show w2 = Value.ref _ from r2)
        obtain ⟨P, Z, p, hx⟩ := kit_of I r1 (view_tyX G st rv ex hp)
        obtain ⟨its, rv2, ⟨o, g1, g2, n, g3⟩, _⟩ := I.tuple (show SqT X.K H _ _ by rw [G.K]; exact h1.sq)
        obtain ⟨e3, hns⟩ := tys_cls h2 en rv2
        subst e3
        obtain ⟨oc, od, dt, sl⟩ := o
        simp only at g2 g3
        subst g2 g3
        exact PySem.W.kia_tup Z I.kIn p g1 (kitAny_of hns) hx fun tk => ⟨.bl _, H, I.tok tk, rfl, q.bl st⟩
    · cases e
  · cases e

/-! ### int, str -/
def gInt (as : List D) (_ : Store) : Option D := match as with
  | [.p (.int i)] => some (.p (.int i))
  | [.p (.bool b)] => some (.p (.int (if b then 1 else 0)))
  | _ => none
theorem c_int : CallR X (.type "int") (rGn Γ gInt) := by
  refine CallR.mono call_int1 fun vs H Q h => ?_
  obtain ⟨μ, S, as, d, st, ra, e, q⟩ := h
  unfold gInt at e
  split at e
  · cases e
    obtain ⟨v, rfl, rv⟩ := ra.one
    cases rv with
    | p h => cases h; exact .inl ⟨_, rfl, q.int st⟩
  · cases e
    obtain ⟨v, rfl, rv⟩ := ra.one
    cases rv with
    | p h => cases h; exact .inr ⟨_, rfl, q.int st⟩
  · cases e
def gStr (as : List D) (_ : Store) : Option D := match as with
  | [.p (.int i)] => if i.natAbs.log2 < 1920 then some (.p (.str (toString i))) else none
  | _ => none
theorem c_str : CallR X (.type "str") (rGn Γ gStr) := by
  refine CallR.mono call_str_int fun vs H Q h => ?_
  obtain ⟨μ, S, as, d, st, ra, e, q⟩ := h
  unfold gStr at e
  split at e
  · split at e
    · rename_i hz
      cases e
      obtain ⟨v, rfl, rv⟩ := ra.one
      cases rv with
      | p h => cases h; exact ⟨_, rfl, hz, q.str st⟩
    · cases e
  · cases e

/-! ### a built-in called by its name -/
/-- the built-ins that the interpreter knows -/
inductive Bi where
  | len | tuple | sum | any | all | max | min | repr | isinstance | int | str
  deriving DecidableEq
def Bi.g : Bi → List D → Store → Option D
  | .len => gLen
  | .tuple => gTupleOf
  | .sum => gSum
  | .any => gAny
  | .all => gAll
  | .max => gMax
  | .min => gMin
  | .repr => gRepr
  | .isinstance => gIsi
  | .int => gInt
  | .str => gStr
def Bi.nm : Bi → String
  | .len => "len"
  | .tuple => "tuple"
  | .sum => "sum"
  | .any => "any"
  | .all => "all"
  | .max => "max"
  | .min => "min"
  | .repr => "repr"
  | .isinstance => "isinstance"
  | .int => "int"
  | .str => "str"
def Bi.isTy : Bi → Bool
  | .tuple | .int | .str => true
  | _ => false
def Bi.val (b : Bi) : Value := if b.isTy then .type b.nm else .builtin b.nm
theorem bi_boot (b : Bi) : bootBuiltins (Str.ofString b.nm) = some b.val := by
  cases b <;> decide +kernel
theorem bi_call (G : Gx Γ k X) (b : Bi) : CallR X b.val (rGn Γ b.g) := by
  cases b with
  | len => exact c_len G
  | tuple => exact c_tuple G
  | sum => exact c_sum G
  | any => exact c_any G
  | all => exact c_all G
  | max => exact c_max G
  | min => exact c_min G
  | repr => exact c_repr G
  | isinstance => exact c_isi G
  | int => exact c_int
  | str => exact c_str
theorem bi_name (b : Bi) : Str.ofString b.nm ≠ "__name__" ∧ (Str.ofString b.nm == ("__debug__" : Str)) = false := by
  cases b <;> decide +kernel
theorem e_bi (G : Gx Γ k X) (b : Bi) {e : Expr} {es : List Expr} {f : M (List D)} {p pos : Pos} (hg : Gl X (Str.ofString b.nm)) (hm : Γ.mg (Str.ofString b.nm) = none) (ha : PA X (e :: es) (rdA Γ W f))
    (he : starEach (e :: es) X.env = (false, eval e X.env) :: starEach es X.env) (hpl : (backTo pos (starEach es X.env)).any (·.1) = false) : PE X (.Call (.Name (Str.ofString b.nm) p) (e :: es) [] pos) (rdE Γ W (eNs b.g f)) := by
  have hm' : X.mg (Str.ofString b.nm) = none := by rw [G.mg]; exact hm
  have hb := bi_boot b
  have hc := bi_call G b
  have hn := bi_name b
  unfold Bi.val at hb hc
  by_cases ht : b.isTy = true
  · rw [if_pos ht] at hb hc
    exact PE.mono (pe_callTy hc hg hm' hb ha hn.1 hn.2 he hpl) fun σ H Q h => tCB_of h
  · rw [if_neg ht] at hb hc
    exact PE.mono (pe_callB hc hg hm' hb ha hn.1 hn.2 he hpl) fun σ H Q h => tCB_of h
/-- those that give a new list -/
inductive Bl where
  | list | sorted
  deriving DecidableEq
def Bl.g : Bl → List D → Store → Option (List PyData)
  | .list => gListOf
  | .sorted => gSortedL
def Bl.nm : Bl → String
  | .list => "list"
  | .sorted => "sorted"
theorem l_bl (G : Gx Γ k X) (b : Bl) {e : Expr} {es : List Expr} {f : M (List D)} {p pos : Pos} (hg : Gl X (Str.ofString b.nm)) (hm : Γ.mg (Str.ofString b.nm) = none) (ha : PA X (e :: es) (rdA Γ W f))
    (he : starEach (e :: es) X.env = (false, eval e X.env) :: starEach es X.env) (hpl : (backTo pos (starEach es X.env)).any (·.1) = false) : PE X (.Call (.Name (Str.ofString b.nm) p) (e :: es) [] pos) (rdL Γ W (lNs b.g f)) := by
  have hm' : X.mg (Str.ofString b.nm) = none := by rw [G.mg]; exact hm
  cases b with
  | list => exact PE.mono (pe_callTy (c_list G) hg hm' (by decide +kernel) ha (by decide +kernel) (by decide +kernel) he hpl) fun σ H Q h => tCBL_of h
  | sorted => exact PE.mono (pe_callB (c_sorted G) hg hm' (by decide +kernel) ha (by decide +kernel) (by decide +kernel) he hpl) fun σ H Q h => tCBL_of h
end
end Fp

set_option Elab.async false
set_option linter.all false
set_option autoImplicit false
set_option maxRecDepth 100000
/-! Fp: how arguments come to parameters. -/
namespace Fp
open PySem L2

/-- the values by the parameters' order: the positional ones, then those by names -/
def reord {α : Type} (ps : List Str) (us : List α) (kw : List (Str × α)) : List (Str × α) := ps.filterMap fun n => (((ps.zip us) ++ kw).lookup n).map (n, ·)
theorem lookup_append {α : Type} (n : Str) : ∀ (a b : List (Str × α)), (a ++ b).lookup n = ((a.lookup n).or (b.lookup n))
  | [], b => by simp
  | (k, v) :: a, b => by
    simp only [List.cons_append, List.lookup_cons]
    cases n == k with
    | true => rfl
    | false => exact lookup_append n a b
theorem kw_loop {f : Str × Value → List (Str × Value) × List (Str × Value) → Sem (ForInStep (List (Str × Value) × List (Str × Value)))} {ok : Str → Bool}
    (hf : ∀ k v sl ex, ok k = true → (sl.lookup k).isSome = false → f (k, v) (sl, ex) = pure (.yield (sl ++ [(k, v)], ex))) :
    ∀ (kws : List (Str × Value)) (sl ex : List (Str × Value)), (∀ x ∈ kws, ok x.1 = true) → (kws.map (·.1)).Nodup → (∀ x ∈ kws, sl.lookup x.1 = none) → forIn kws (sl, ex) f = pure (sl ++ kws, ex)
  | [], sl, ex, _, _, _ => by rw [List.forIn_nil, List.append_nil]
  | (k, v) :: r, sl, ex, h1, h2, h3 => by
    rw [List.forIn_cons, hf k v sl ex (h1 _ (List.mem_cons_self ..)) (by rw [h3 _ (List.mem_cons_self ..)]; rfl)]
    rw [List.map_cons, List.nodup_cons] at h2
    have ih := kw_loop hf r (sl ++ [(k, v)]) ex (fun x hx => h1 x (List.mem_cons_of_mem _ hx)) h2.2 fun x hx => by
      rw [lookup_append, h3 x (List.mem_cons_of_mem _ hx)]
      have : (x.1 == k) = false := by
        rw [beq_eq_false_iff_ne]
        intro z
        exact h2.1 (by rw [← z]; exact List.mem_map_of_mem (f := (·.1)) hx)
      simp [List.lookup_cons, this]
    rw [List.append_assoc] at ih
    exact ih
theorem ko_loop {f : Str → List (Str × Value) × List Str → Sem (ForInStep (List (Str × Value) × List Str))} (hf : ∀ n sl ex, (sl.lookup n).isSome = true → f n (sl, ex) = pure (.yield (sl, ex))) :
    ∀ (ns : List Str) (sl : List (Str × Value)) (ex : List Str), (∀ n ∈ ns, (sl.lookup n).isSome = true) → forIn ns (sl, ex) f = pure (sl, ex)
  | [], sl, ex, _ => by rw [List.forIn_nil]
  | n :: r, sl, ex, h => by
    rw [List.forIn_cons, hf n sl ex (h n (List.mem_cons_self ..))]
    exact ko_loop hf r sl ex fun m hm => h m (List.mem_cons_of_mem _ hm)
theorem lookup_zip_none {α : Type} : ∀ {ps : List Str} {us : List α} {n : Str}, n ∉ ps.take us.length → (ps.zip us).lookup n = none
  | [], _, _, _ => rfl
  | _ :: _, [], _, _ => rfl
  | p :: ps, u :: us, n, h => by
    rw [List.length_cons, List.take_succ_cons, List.mem_cons, not_or] at h
    have hb : (n == p) = false := by rw [beq_eq_false_iff_ne]; exact h.1
    rw [List.zip_cons_cons, List.lookup_cons, hb]
    exact lookup_zip_none h.2
theorem lookup_zip_some {α : Type} : ∀ {ps : List Str} {us : List α} {n : Str}, n ∈ ps.take us.length → ((ps.zip us).lookup n).isSome = true
  | [], _, _, h => by simp at h
  | _ :: _, [], _, h => by simp at h
  | p :: ps, u :: us, n, h => by
    rw [List.length_cons, List.take_succ_cons, List.mem_cons] at h
    rw [List.zip_cons_cons, List.lookup_cons]
    cases hb : n == p with
    | true => rfl
    | false =>
      rw [beq_eq_false_iff_ne] at hb
      exact lookup_zip_some (h.resolve_left hb)
theorem lookup_mem_some {α : Type} : ∀ {l : List (Str × α)} {n : Str}, n ∈ l.map (·.1) → (l.lookup n).isSome = true
  | [], _, h => by simp at h
  | (k, v) :: l, n, h => by
    rw [List.lookup_cons]
    cases hb : n == k with
    | true => rfl
    | false =>
      rw [beq_eq_false_iff_ne] at hb
      rw [List.map_cons, List.mem_cons] at h
      exact lookup_mem_some (h.resolve_left hb)
theorem zip_left {α β : Type} : ∀ {a b : List α} {c : List β}, c.length ≤ a.length → (a ++ b).zip c = a.zip c
  | [], b, [], _ => by simp
  | [], b, _ :: _, h => by simp at h
  | _ :: _, _, [], _ => by simp
  | x :: a, b, y :: c, h => by
    rw [List.cons_append, List.zip_cons_cons, List.zip_cons_cons, zip_left (by simpa using h)]
/-- the parameters without stars and defaults; the ones in front by place, the others by name -/
structure Plain (fd : FuncData) (ns ks : List Str) : Prop where
  po : fd.params.posonlyargs = []
  va : fd.params.vararg = none
  kw : fd.params.kwarg = none
  df : fd.defaults = .none
  ns : fd.params.args.map (·.arg) = ns
  ks : fd.params.kwonlyargs.map (·.arg) = ks
def sigOk (ns ks : List Str) (n : Nat) (kws : List Str) : Bool :=
  decide (n ≤ ns.length) && decide (kws.Nodup) && (kws.all fun k => decide (k ∈ ns ++ ks) && decide (k ∉ (ns ++ ks).take n)) && ((ns ++ ks).all fun p => decide (p ∈ (ns ++ ks).take n) || decide (p ∈ kws))
theorem bind_gen {fd : FuncData} {ns ks : List Str} {us : List Value} {kws : List (Str × Value)} (h : Plain fd ns ks) (hs : sigOk ns ks us.length (kws.map (·.1)) = true) :
    bindArgs fd ⟨us, kws⟩ = pure (reord (ns ++ ks) us kws) := by
  simp only [sigOk, Bool.and_eq_true, List.all_eq_true, decide_eq_true_eq, Bool.or_eq_true] at hs
  obtain ⟨⟨⟨h1, h2⟩, h3⟩, h4⟩ := hs
  have tk : (ns ++ ks).take us.length = ns.take us.length := List.take_append_of_le_length h1
  have zk : (ns ++ ks).zip us = ns.zip us := by
    exact zip_left h1
  have all : ∀ p ∈ ns ++ ks, ((ns.zip us ++ kws).lookup p).isSome = true := fun p hp => by
    rw [lookup_append]
    rcases h4 p hp with z | z
    · rw [tk] at z
      have := lookup_zip_some (us := us) z
      cases e : (ns.zip us).lookup p with
      | none => rw [e] at this; cases this
      | some v => rfl
    · have := lookup_mem_some z
      cases e : (ns.zip us).lookup p with
      | none => rw [Option.none_or]; exact this
      | some v => rfl
  simp only [bindArgs, h.po, h.va, h.kw, h.df, h.ns, h.ks, List.map_nil, List.nil_append]
  rw [kw_loop (ok := fun k => ns.contains k || ks.contains k) (fun k v sl ex g1 g2 => by simp only [g1, g2, if_true, Bool.false_eq_true, if_false]) kws (ns.zip us) [] (fun x hx => ?_) h2 fun x hx => ?_]
  · have hg : ¬ (us.length > ns.length) := by omega
    have hm : (ns.filter fun n => ((ns.zip us ++ kws).lookup n).isNone) = [] := by
      rw [List.filter_eq_nil_iff]
      intro p hp
      have := all p (List.mem_append_left _ hp)
      cases e : (ns.zip us ++ kws).lookup p with
      | none => rw [e] at this; cases this
      | some v => simp
    have pb : ∀ {α β : Type} (a : α) (f : α → Sem β), (pure a >>= f) = f a := fun _ _ => rfl
    have sq : seqItems? Value.none = pure none := rfl
    have em : (#[] : Array Value).toList = [] := rfl
    have dl : (List.drop (0 - ns.length) ([] : List Value)) = [] := List.drop_nil
    simp only [pb, sq, Option.getD_none, em, List.length_nil, dl, Nat.sub_zero, List.take_length, hm, List.isEmpty_nil, Bool.not_true, Bool.false_eq_true, if_false, hg, decide_false, Bool.false_and, List.zip_nil_right, List.forIn_nil]
    rw [ko_loop (fun n sl ex g => by
      have : (sl.lookup n).isNone = false := by cases e : sl.lookup n <;> simp_all
      simp only [this, Bool.false_eq_true, if_false]) ks _ [] fun n hn => all n (List.mem_append_right _ hn)]
    simp only [pb, List.isEmpty_nil, Bool.not_true, Bool.false_eq_true, if_false]
    rw [reord, zk]
  · have := (h3 x.1 (List.mem_map_of_mem hx)).1
    simpa using this
  · refine lookup_zip_none ?_
    rw [← tk]
    exact (h3 x.1 (List.mem_map_of_mem hx)).2
end Fp

set_option Elab.async false
set_option linter.all false
set_option autoImplicit false
set_option maxRecDepth 100000
/-! Fp: calls of the program's own defs. -/
namespace Fp
open PySem L2

/-! ### arguments by names -/
inductive Ek {α β : Type} (R : α → β → Prop) : List (Str × α) → List (Str × β) → Prop
  | nil : Ek R [] []
  | cons {n : Str} {a : α} {b : β} {as : List (Str × α)} {bs : List (Str × β)} : R a b → Ek R as bs → Ek R ((n, a) :: as) ((n, b) :: bs)
theorem Ek.lookup {α β : Type} {R : α → β → Prop} {n : Str} : ∀ {as : List (Str × α)} {bs : List (Str × β)}, Ek R as bs → (∃ a b, as.lookup n = some a ∧ bs.lookup n = some b ∧ R a b) ∨ (as.lookup n = none ∧ bs.lookup n = none)
  | _, _, .nil => .inr ⟨rfl, rfl⟩
  | _, _, .cons (n := m) h t => by
    rw [List.lookup_cons, List.lookup_cons]
    cases n == m with
    | true => exact .inl ⟨_, _, rfl, rfl, h⟩
    | false => exact t.lookup
theorem Ek.append {α β : Type} {R : α → β → Prop} : ∀ {as as' : List (Str × α)} {bs bs' : List (Str × β)}, Ek R as bs → Ek R as' bs' → Ek R (as ++ as') (bs ++ bs')
  | _, _, _, _, .nil, r => r
  | _, _, _, _, .cons h t, r => .cons h (t.append r)
theorem Ek.reord {α β : Type} {R : α → β → Prop} {as : List (Str × α)} {bs : List (Str × β)} (h : Ek R as bs) : ∀ ps : List Str, Ek R (ps.filterMap fun n => (as.lookup n).map (n, ·)) (ps.filterMap fun n => (bs.lookup n).map (n, ·))
  | [] => .nil
  | p :: ps => by
    rw [List.filterMap_cons, List.filterMap_cons]
    rcases h.lookup (n := p) with ⟨a, b, e1, e2, r⟩ | ⟨e1, e2⟩
    · rw [e1, e2]
      exact .cons r (h.reord ps)
    · rw [e1, e2]
      exact h.reord ps
def vals {α : Type} (l : List (Str × α)) : List α := l.map (·.2)
/-- the parameters' values -/
def order {α : Type} (ps : List Str) (us : List α) (ks : List Str) (ws : List α) : List α := vals (reord ps us (ks.zip ws))
theorem reord_zip {α : Type} {ps : List Str} {us : List α} {kw : List (Str × α)} (h : ∀ p ∈ ps, (((ps.zip us) ++ kw).lookup p).isSome = true) : reord ps us kw = ps.zip (vals (reord ps us kw)) := by
  unfold reord
  generalize hl : ps.zip us ++ kw = l at h ⊢
  clear hl
  induction ps with
  | nil => rfl
  | cons p ps ih =>
    have h1 := h p (List.mem_cons_self ..)
    cases e : l.lookup p with
    | none => rw [e] at h1; cases h1
    | some v =>
      rw [List.filterMap_cons, e]
      show (p, v) :: _ = (p :: ps).zip (vals ((p, v) :: _))
      rw [vals, List.map_cons, List.zip_cons_cons]
      exact congrArg _ (ih fun q hq => h q (List.mem_cons_of_mem _ hq))
theorem sig_all {α : Type} {ns ks kws : List Str} {us ws : List α} (hs : sigOk ns ks us.length kws = true) (hw : ws.length = kws.length) : ∀ p ∈ ns ++ ks, ((((ns ++ ks).zip us) ++ kws.zip ws).lookup p).isSome = true := fun p hp => by
  simp only [sigOk, Bool.and_eq_true, List.all_eq_true, decide_eq_true_eq, Bool.or_eq_true] at hs
  rw [lookup_append]
  rcases hs.2 p hp with z | z
  · have := lookup_zip_some (us := us) z
    cases e : ((ns ++ ks).zip us).lookup p with
    | none => rw [e] at this; cases this
    | some v => rfl
  · have := lookup_mem_some (l := kws.zip ws) (n := p) (by rw [List.map_fst_zip (by omega)]; exact z)
    cases e : ((ns ++ ks).zip us).lookup p with
    | none => rw [Option.none_or]; exact this
    | some v => rfl
theorem zip_fst {α : Type} {kws : List Str} {ws : List α} (hw : ws.length = kws.length) : (kws.zip ws).map (·.1) = kws := List.map_fst_zip (by omega)

section
variable {Γ : Gam} {k : Nat} {W : WX} {μ μ' : List Addr} {S S' : Store} {H H' : Hp} {σ : St} {ρ : Slots} {X : Cx} {pins : List (Addr × Obj)} {s : Shared}
theorem Vals.ek : ∀ {ns : List Str} {vs : List V} {us : List Value}, Vals vs us → Ek RelV (ns.zip vs) (ns.zip us)
  | [], _, _, _ => .nil
  | _ :: _, _, _, .nil => .nil
  | _ :: _, _, _, .cons h t => .cons h (Vals.ek t)
theorem RvAll.ek : ∀ {ns : List Str} {vs : List V} {us : List D}, RvAll Γ H μ vs us → Ek (Rv Γ H μ) (ns.zip vs) (ns.zip us)
  | [], _, _, _ => .nil
  | _ :: _, _, _, .nil => .nil
  | _ :: _, _, _, .cons h t => .cons h (RvAll.ek t)
theorem Ek.vals_ : ∀ {as : List (Str × V)} {bs : List (Str × Value)}, Ek RelV as bs → Vals (vals as) (vals bs)
  | _, _, .nil => .nil
  | _, _, .cons h t => .cons h t.vals_
theorem Ek.rvs : ∀ {as : List (Str × V)} {bs : List (Str × D)}, Ek (Rv Γ H μ) as bs → RvAll Γ H μ (vals as) (vals bs)
  | _, _, .nil => .nil
  | _, _, .cons h t => .cons h t.rvs
theorem Vals.order {ps ks : List Str} {vs zs : List V} {us ws : List Value} (h : Vals vs us) (h' : Vals zs ws) : Vals (order ps vs ks zs) (order ps us ks ws) :=
  ((Vals.ek h).append (Vals.ek h')).reord ps |>.vals_
theorem RvAll.order {ps ks : List Str} {vs zs : List V} {us ws : List D} (h : RvAll Γ H μ vs us) (h' : RvAll Γ H μ zs ws) : RvAll Γ H μ (order ps vs ks zs) (order ps us ks ws) :=
  ((RvAll.ek h).append (RvAll.ek h')).reord ps |>.rvs

/-! ### a def's promise by the interpreter -/
abbrev Fx := List D → Store → Out D
def spOf (Γ : Gam) (n : Nat) (fx : Fx) : Sp := fun vs H Q E => vs.length = n ∧ ∃ μ S as, Sto Γ μ S H ∧ RvAll Γ H μ vs as ∧ Fin Γ (fun c d _ H' => E c d H') (fun H μ v d => Rv Γ H μ v d) μ [] H (fx as S) Q
/-- a def keeps its promise (where no repr is under way) -/
structure FnG (Γ : Gam) (k : Nat) (f : Addr) (fd : FuncData) (ps : List Str) (sp : Sp) : Prop where
  len : ∀ vs H Q E, sp vs H Q E → ps.length = vs.length
  run : ∀ (A : Around) (outer : List Env) (s : Shared) (H : Hp) (args : Args) (us : List Value) (vs : List V) (Q : VK) (E : XK), Room k A → A.guards = some [] → Env0 Γ.P Γ.w Γ.K Γ.mg Γ.base A outer s H → BindsTo s fd args (ps.zip us) → Vals vs us → sp vs H Q E →
    codeAny (model Γ.P Γ.w) A (.call (.ref f) args) (CR (L2.CX Γ.P Γ.w) outer Γ.P Γ.w H s Q E) s
theorem g_run {f : Addr} {fd : FuncData} {ps : List Str} {sp : Sp} {Q : VK} {us : List Value} {kw : List (Str × Value)} {ws : List Value} {vs : List V} (G : Gx Γ k X) (tk : Takes X W) (F : FnG Γ k f fd ps sp) (I : Inv X pins σ H s) (hb : BindsTo s fd ⟨us, kw⟩ (ps.zip ws)) (rv : Vals vs ws) (h : sp vs H Q fun c d H' => W c d σ H') :
    wpAny (model X.prog X.w) X.A (call (.ref f) us kw) (EP X pins σ Q) X.xe s := by
  have e0 : Env0 Γ.P Γ.w Γ.K Γ.mg Γ.base X.A X.stack s H := by
    have := I.env0
    rw [G.P, G.w, G.K, G.mg, G.base] at this
    exact this
  have q := F.run X.A X.stack s H ⟨us, kw⟩ ws vs Q _ G.room G.guards e0 hb rv h
  rw [← G.P, ← G.w] at q
  refine wpAny_call (codeAny_mono q fun r s' hq => ?_)
  cases r with
  | ok fl =>
    cases fl with
    | ret u => exact I.after hq
    | next => exact hq.elim
    | brk => exact hq.elim
    | cont => exact hq.elim
  | error e => exact tk e s' (XE.of_call I (fun _ _ _ z => z) hq)

/-- a def of the program: where it stands, its parameters, what the interpreter makes of it -/
structure Fd (Γ : Gam) (k : Nat) (x : Str) (ns ks : List Str) (fx : Fx) : Prop where
  ex : ∃ a fd, Γ.mg x = some (.ref a) ∧ Γ.fa x = some a ∧ PySem.W.keepIn Γ.K (.ref a) = true ∧ Plain fd ns ks ∧ FnG Γ k a fd (ns ++ ks) (spOf Γ (ns ++ ks).length fx)
def eCall (ns ks : List Str) (fx : Fx) (kws : List Str) (fa fk : M (List D)) : M D := fa.bind fun as => fk.bind fun bs => fun _ S => if sigOk ns ks as.length kws = true ∧ bs.length = kws.length then fx (order (ns ++ ks) as kws bs) S else .bad
abbrev rdK (Γ : Gam) (W : WX) (f : M (List D)) : TA := rd Γ W (fun H μ vs ds => RvAll Γ H μ vs ds) f
theorem PK.mono {e : List Keyword} {t u : TA} (h : PK X e t) (i : ∀ σ H Q, u σ H Q → t σ H Q) : PK X e u := ⟨fun pos pins s σ H Q I q => h.run pos pins s σ H Q I (i σ H Q q)⟩
theorem k_nil : PK X [] (rdK Γ W aNil) := PK.mono pk_nil fun σ H Q h => by
  obtain ⟨μ, ρ, S, R, f⟩ := h
  exact Fin.here f R.sto .nil
theorem k_cons {e : Expr} {kws : List Keyword} {nm : Option Str} {kpos : Pos} {f : M D} {r : M (List D)} (ha : PE X e (rdE Γ W f)) (hr : PK X kws (rdK Γ W r)) : PK X (⟨nm, e, kpos⟩ :: kws) (rdK Γ W (aCons f r)) := by
  refine PK.mono (pk_cons ha hr) fun σ H Q h => ?_
  refine rd.cut h fun μ ρ H1 S1 a x R1 ra f1 => ?_
  refine ⟨μ, ρ, S1, R1, Fin.cut (k := fun as S' => .ok (a :: as) S') f1 fun μ2 H2 S2 as xs g2 s2 rs f2 => ?_⟩
  exact Fin.here f2 s2 (.cons (ra.go g2) rs)
theorem Fin.toSp {fx : Fx} {vs : List V} {as : List D} {Q : VK} {n : Nat} (hn : vs.length = n) (st : Sto Γ μ S H) (ra : RvAll Γ H μ vs as) (f : Fin Γ W (fun H μ v d => Rv Γ H μ v d) μ σ H (fx as S) Q) : spOf Γ n fx vs H Q fun c d H' => W c d σ H' := by
  refine ⟨hn, μ, S, as, st, ra, ?_⟩
  cases h : fx as S with
  | ok a S' => rw [h] at f; exact f
  | exc x S' => rw [h] at f; exact f
  | bad => rw [h] at f; exact f
/-- what is wanted behind the arguments -/
theorem call_end {x : Str} {ns ks kws : List Str} {fx : Fx} {Q : VK} {a : Addr} {fd : FuncData} {us ws : List Value} {vs zs : List V} {as bs : List D} (G : Gx Γ k X) (tk : Takes X W) (hp : Plain fd ns ks) (F : FnG Γ k a fd (ns ++ ks) (spOf Γ (ns ++ ks).length fx)) (I : Inv X pins σ H s)
    (rv : Vals vs us) (rz : Vals zs ws) (st : Sto Γ μ S H) (ra : RvAll Γ H μ vs as) (rb : RvAll Γ H μ zs bs)
    (f : Fin Γ W (fun H μ v d => Rv Γ H μ v d) μ σ H (if sigOk ns ks as.length kws = true ∧ bs.length = kws.length then fx (order (ns ++ ks) as kws bs) S else .bad) Q) : wpAny (model X.prog X.w) X.A (call (.ref a) us (kws.zip ws)) (EP X pins σ Q) X.xe s := by
  by_cases c : sigOk ns ks as.length kws = true ∧ bs.length = kws.length
  · rw [if_pos c] at f
    obtain ⟨c1, c2⟩ := c
    have l1 : us.length = as.length := by rw [← rv.length, ra.length]
    have l2 : ws.length = kws.length := by rw [← rz.length, rb.length, c2]
    rw [← l1] at c1
    have hb := bind_gen (us := us) (kws := kws.zip ws) hp (by rw [zip_fst l2]; exact c1)
    rw [reord_zip (sig_all c1 l2)] at hb
    have ro := Vals.order (ps := ns ++ ks) (ks := kws) rv rz
    have rd := RvAll.order (ps := ns ++ ks) (ks := kws) ra rb
    refine g_run G tk F I (BindsTo.of_eq hb) ro (Fin.toSp ?_ st rd f)
    have e1 := congrArg List.length (reord_zip (sig_all c1 l2))
    rw [ro.length]
    show (vals (reord (ns ++ ks) us (kws.zip ws))).length = _
    rw [vals, List.length_map]
    have e2 := congrArg (List.map (·.1)) (reord_zip (sig_all c1 l2))
    have : ∀ (ps : List Str) (l : List (Str × Value)), (∀ p ∈ ps, (l.lookup p).isSome = true) → (ps.filterMap fun n => (l.lookup n).map (n, ·)).length = ps.length := by
      intro ps l
      induction ps with
      | nil => intro _; rfl
      | cons p ps ih =>
        intro h
        have h1 := h p (List.mem_cons_self ..)
        cases e : l.lookup p with
        | none => rw [e] at h1; cases h1
        | some v =>
          rw [List.filterMap_cons, e]
          show (_ :: _).length = _
          rw [List.length_cons, List.length_cons, ih fun q hq => h q (List.mem_cons_of_mem _ hq)]
    exact this _ _ (sig_all c1 l2)
  · rw [if_neg c] at f
    exact f.elim
theorem e_call {x : Str} {ns ks kws : List Str} {fx : Fx} {e : Expr} {es : List Expr} {kwe : List Keyword} {fa fk : M (List D)} {p pos : Pos} (G : Gx Γ k X) (tk : Takes X W) (F : Fd Γ k x ns ks fx) (hg : Gl X x) (hdb : (x == ("__debug__" : Str)) = false) (ha : PA X (e :: es) (rdA Γ W fa)) (hk : PK X kwe (rdK Γ W fk))
    (hall : (backToKw pos (keywordEach kwe X.env)).all (·.1.isSome) = true) (hks : (backToKw pos (keywordEach kwe X.env)).filterMap (·.1) = kws) (he : starEach (e :: es) X.env = (false, eval e X.env) :: starEach es X.env)
    (hpl : ((backTo pos (starEach (e :: es) X.env)).any (·.1) || (backToKw pos (keywordEach kwe X.env)).any (·.1.isNone)) = false) : PE X (.Call (.Name x p) (e :: es) kwe pos) (rdE Γ W (eCall ns ks fx kws fa fk)) := by
  obtain ⟨a, fd, h1, h2, h3, h4, h5⟩ := F.ex
  constructor
  intro pins s σ H Q I q
  refine wpAny_Call_Name_kw (ld_glob I hg (by rw [G.mg]; exact h1) ?_ hdb)
  refine PySem.W.callWith_KW (h₀ := X.base) I.ok.mod.kin (by rw [G.K]; exact h3) hall (thn (ha.run pos pins s σ H (fun vs H1 => rd Γ W (fun H μ vs ds => RvAll Γ H μ vs ds) fk σ H1 fun zs H2 => ∃ μ2 S2 as bs, Sto Γ μ2 S2 H2 ∧ RvAll Γ H2 μ2 vs as ∧ RvAll Γ H2 μ2 zs bs ∧
    Fin Γ W (fun H μ v d => Rv Γ H μ v d) μ2 σ H2 (if sigOk ns ks as.length kws = true ∧ bs.length = kws.length then fx (order (ns ++ ks) as kws bs) S2 else .bad) Q) I ?_) fun us s1 ⟨vs, H1, I1, r, q1⟩ => ?_) hpl he
  · refine rd.cut q fun μ ρ H1 S1 a x R1 ra f1 => ?_
    refine ⟨μ, ρ, S1, R1, Fin.cut (k := fun bs S' => if sigOk ns ks a.length kws = true ∧ bs.length = kws.length then fx (order (ns ++ ks) a kws bs) S' else .bad) f1 fun μ2 H2 S2 bs zs g2 s2 rs f2 => ?_⟩
    exact ⟨μ2, S2, a, bs, s2, ra.go g2, rs, f2⟩
  · refine thn (hk.run pos pins s1 σ H1 _ I1 q1) fun ws s2 ⟨zs, H2, I2, rz, μ2, S2, as, bs, st, ra, rb, f⟩ => ⟨I2.kIn, ?_⟩
    rw [hks]
    exact call_end (x := x) G tk h4 h5 I2 r rz st ra rb f
theorem e_call0 {x : Str} {ns ks kws : List Str} {fx : Fx} {kwe : List Keyword} {fk : M (List D)} {p pos : Pos} (G : Gx Γ k X) (tk : Takes X W) (F : Fd Γ k x ns ks fx) (hg : Gl X x) (hdb : (x == ("__debug__" : Str)) = false) (hk : PK X kwe (rdK Γ W fk))
    (hall : (backToKw pos (keywordEach kwe X.env)).all (·.1.isSome) = true) (hks : (backToKw pos (keywordEach kwe X.env)).filterMap (·.1) = kws)
    (hpl : ((backTo pos (starEach [] X.env)).any (·.1) || (backToKw pos (keywordEach kwe X.env)).any (·.1.isNone)) = false) : PE X (.Call (.Name x p) [] kwe pos) (rdE Γ W (eCall ns ks fx kws aNil fk)) := by
  obtain ⟨a, fd, h1, h2, h3, h4, h5⟩ := F.ex
  constructor
  intro pins s σ H Q I q
  refine wpAny_Call_Name_kw (ld_glob I hg (by rw [G.mg]; exact h1) ?_ hdb)
  refine PySem.W.callWith_KW0 (h₀ := X.base) I.ok.mod.kin (by rw [G.K]; exact h3) hall (thn (hk.run pos pins s σ H (fun zs H2 => ∃ μ2 S2 bs, Sto Γ μ2 S2 H2 ∧ RvAll Γ H2 μ2 zs bs ∧
    Fin Γ W (fun H μ v d => Rv Γ H μ v d) μ2 σ H2 (if sigOk ns ks ([] : List D).length kws = true ∧ bs.length = kws.length then fx (order (ns ++ ks) [] kws bs) S2 else .bad) Q) I ?_) fun ws s2 ⟨zs, H2, I2, rz, μ2, S2, bs, st, rb, f⟩ => ⟨I2.kIn, ?_⟩) hpl
  · obtain ⟨μ, ρ, S, R, f⟩ := q
    refine ⟨μ, ρ, S, R, Fin.cut (k := fun bs S' => if sigOk ns ks ([] : List D).length kws = true ∧ bs.length = kws.length then fx (order (ns ++ ks) [] kws bs) S' else .bad) f fun μ2 H2 S2 bs zs g2 s2 rs f2 => ?_⟩
    exact ⟨μ2, S2, bs, s2, rs, f2⟩
  · rw [hks]
    exact call_end (x := x) G tk h4 h5 I2 .nil rz st .nil rb f
end
end Fp

set_option Elab.async false
set_option linter.all false
set_option autoImplicit false
set_option maxRecDepth 100000
/-! Fp: statements without loops. -/
namespace Fp
open PySem L2
inductive OutS where
  | nx (ρ : Slots) (S : Store)
  | rt (d : D) (S : Store)
  | bk (ρ : Slots) (S : Store)
  | ct (ρ : Slots) (S : Store)
  | exc (x : Ex) (ρ : Slots) (S : Store)
  | bad
abbrev MS := Slots → Store → OutS
def Out.toS {α : Type} (o : Out α) (ρ : Slots) (g : α → Store → OutS) : OutS := match o with
  | .ok a S => g a S
  | .exc x S => .exc x ρ S
  | .bad => .bad
section
variable {Γ : Gam} {k : Nat} {W : WX} {μ μ' : List Addr} {S S' : Store} {H H' : Hp} {σ : St} {ρ : Slots} {X : Cx} {pins : List (Addr × Obj)} {s : Shared}
def FinS (Γ : Gam) (W : WX) (μ : List Addr) (H : Hp) (o : OutS) (D : Ends) : Prop := match o with
  | .nx ρ' S' => ∀ μ' σ' H', Go μ H μ' H' → Rel Γ μ' ρ' S' σ' H' → D.nx σ' H'
  | .rt d S' => ∀ μ' H' v, Go μ H μ' H' → Sto Γ μ' S' H' → Rv Γ H' μ' v d → D.rt v H'
  | .bk ρ' S' => ∀ μ' σ' H', Go μ H μ' H' → Rel Γ μ' ρ' S' σ' H' → D.bk σ' H'
  | .ct ρ' S' => ∀ μ' σ' H', Go μ H μ' H' → Rel Γ μ' ρ' S' σ' H' → D.ct σ' H'
  | .exc x ρ' S' => ∀ μ' σ' H' c d, Go μ H μ' H' → Rel Γ μ' ρ' S' σ' H' → ExRel Γ H' μ' x c d → W c d σ' H'
  | .bad => False
def rdS (Γ : Gam) (W : WX) (f : MS) : TS := fun D σ H => ∃ μ ρ S, Rel Γ μ ρ S σ H ∧ FinS Γ W μ H (f ρ S) D
theorem FinS.go {o : OutS} {D : Ends} (f : FinS Γ W μ H o D) (g : Go μ H μ' H') : FinS Γ W μ' H' o D := by
  cases o with
  | nx ρ S => exact fun μ2 σ2 H2 g2 r => f μ2 σ2 H2 (g.trans g2) r
  | rt d S => exact fun μ2 H2 v g2 s r => f μ2 H2 v (g.trans g2) s r
  | bk ρ S => exact fun μ2 σ2 H2 g2 r => f μ2 σ2 H2 (g.trans g2) r
  | ct ρ S => exact fun μ2 σ2 H2 g2 r => f μ2 σ2 H2 (g.trans g2) r
  | exc x ρ S => exact fun μ2 σ2 H2 c d g2 r e => f μ2 σ2 H2 c d (g.trans g2) r e
  | bad => exact f
theorem FinS.here {D : Ends} (f : FinS Γ W μ H (.nx ρ S) D) (r : Rel Γ μ ρ S σ H) : D.nx σ H := f μ σ H (Go.refl _ _) r
/-- an expression in a statement -/
theorem FinS.cut {α β : Type} {Rx : Hp → List Addr → β → α → Prop} {m : M α} {g : α → Store → OutS} {D : Ends} {Q : β → Hp → Prop} (R : Rel Γ μ ρ S σ H) (f : FinS Γ W μ H ((m ρ S).toS ρ g) D)
    (h : ∀ μ' H' S' a b, Rel Γ μ' ρ S' σ H' → Go μ H μ' H' → Rx H' μ' b a → FinS Γ W μ' H' (g a S') D → Q b H') : rd Γ W Rx m σ H Q := by
  refine ⟨μ, ρ, S, R, ?_⟩
  cases e : m ρ S with
  | ok a S' =>
    rw [e] at f
    exact fun μ2 H2 b g2 s2 r2 => h μ2 H2 S' a b (R.go g2 s2) g2 r2 (FinS.go (o := g a S') f g2)
  | exc x S' =>
    rw [e] at f
    exact fun μ2 H2 c d g2 s2 r2 => f μ2 σ H2 c d g2 (R.go g2 s2) r2
  | bad =>
    rw [e] at f
    exact f
/-! ### blocks -/
def sNil : MS := fun ρ S => .nx ρ S
def sSeq (f g : MS) : MS := fun ρ S => match f ρ S with
  | .nx ρ' S' => g ρ' S'
  | o => o
theorem ss_nil : PSs X [] (rdS Γ W sNil) := PSs.mono pss_nil fun D σ H q => by
  obtain ⟨μ, ρ, S, R, f⟩ := q
  exact FinS.here f R
theorem ss_cons {st : Stmt} {rest : List Stmt} {f g : MS} (h1 : PS X st (rdS Γ W f)) (h2 : PSs X rest (rdS Γ W g)) : PSs X (st :: rest) (rdS Γ W (sSeq f g)) := by
  refine PSs.mono (pss_cons h1 h2) fun D σ H q => ?_
  obtain ⟨μ, ρ, S, R, fi⟩ := q
  refine ⟨μ, ρ, S, R, ?_⟩
  unfold sSeq at fi
  cases e : f ρ S with
  | nx ρ' S' =>
    rw [e] at fi
    exact fun μ2 σ2 H2 g2 r => ⟨μ2, ρ', S', r, FinS.go (o := g ρ' S') fi g2⟩
  | rt d S' => rw [e] at fi; exact fi
  | bk ρ' S' => rw [e] at fi; exact fi
  | ct ρ' S' => rw [e] at fi; exact fi
  | exc x ρ' S' => rw [e] at fi; exact fi
  | bad => rw [e] at fi; exact fi
def sRet (f : M D) : MS := fun ρ S => (f ρ S).toS ρ fun d S' => .rt d S'
theorem s_ret {e : Expr} {f : M D} {pos : Pos} (h : PE X e (rdE Γ W f)) : PS X (.Return (some e) pos) (rdS Γ W (sRet f)) := PS.mono (ps_ret h) fun D σ H q => by
  obtain ⟨μ, ρ, S, R, fi⟩ := q
  exact FinS.cut R fi fun μ' H' S' a b R' g r f' => f' μ' H' b (Go.refl _ _) R'.sto r
theorem s_retN {pos : Pos} : PS X (.Return none pos) (rdS Γ W fun _ S => .rt (.p .none) S) := PS.mono ps_retN fun D σ H q => by
  obtain ⟨μ, ρ, S, R, fi⟩ := q
  exact fi μ H .non (Go.refl _ _) R.sto (.p .non)
theorem s_pass {pos : Pos} : PS X (.Pass pos) (rdS Γ W sNil) := PS.mono ps_pass fun D σ H q => by
  obtain ⟨μ, ρ, S, R, f⟩ := q
  exact FinS.here f R
theorem s_cont {pos : Pos} : PS X (.Continue pos) (rdS Γ W fun ρ S => .ct ρ S) := PS.mono ps_continue fun D σ H q => by
  obtain ⟨μ, ρ, S, R, f⟩ := q
  exact f μ σ H (Go.refl _ _) R
theorem s_break {pos : Pos} : PS X (.Break pos) (rdS Γ W fun ρ S => .bk ρ S) := PS.mono ps_break fun D σ H q => by
  obtain ⟨μ, ρ, S, R, f⟩ := q
  exact f μ σ H (Go.refl _ _) R
def sExpr (f : M D) : MS := fun ρ S => (f ρ S).toS ρ fun _ S' => .nx ρ S'
theorem s_expr {e : Expr} {f : M D} {pos : Pos} (h : PE X e (rdE Γ W f)) (hs : swapsWith e none pos.line X.env = pure false) : PS X (.Expr e pos) (rdS Γ W (sExpr f)) := PS.mono (ps_expr h hs) fun D σ H q => by
  obtain ⟨μ, ρ, S, R, fi⟩ := q
  exact FinS.cut R fi fun μ' H' S' a b R' g r f' => FinS.here f' R'
def sIf (c : M Bool) (f g : MS) : MS := fun ρ S => (c ρ S).toS ρ fun b S' => if b then f ρ S' else g ρ S'
theorem s_if {c : Expr} {a b : List Stmt} {fc : M Bool} {f g : MS} {pos : Pos} (hc : PT X c (rdT Γ W fc)) (ha : PSs X a (rdS Γ W f)) (hb : PSs X b (rdS Γ W g)) : PS X (.If c a b pos) (rdS Γ W (sIf fc f g)) := PS.mono (ps_if hc ha hb) fun D σ H q => by
  obtain ⟨μ, ρ, S, R, fi⟩ := q
  refine FinS.cut R fi fun μ' H' S' a b R' g r f' => ?_
  subst r
  cases b with
  | true => exact ⟨μ', ρ, S', R', f'⟩
  | false => exact ⟨μ', ρ, S', R', f'⟩

/-! ### targets -/
/-- what a target makes of the slots -/
abbrev Tm := D → Slots → Store → Option Slots
def rdG (Γ : Gam) (t : Tm) : TG := fun v σ H Q => ∃ μ ρ S d ρ', Rel Γ μ ρ S σ H ∧ Rv Γ H μ v d ∧ t d ρ S = some ρ' ∧ ∀ σ', Rel Γ μ ρ' S σ' H → Q σ' H
theorem PG.mono {e : Expr} {t u : TG} (h : PG X e t) (i : ∀ v σ H Q, u v σ H Q → t v σ H Q) : PG X e u := ⟨fun pins s σ H v w Q I r q => h.run pins s σ H v w Q I r (i v σ H Q q)⟩
theorem Rel.set {d : D} {v : V} {i : Nat} (R : Rel Γ μ ρ S σ H) (r : Rv Γ H μ v d) (hi : i < ρ.length) : Rel Γ μ (ρ.set i (some d)) S (σ.set i (some v)) H := by
  refine ⟨R.sto, by simp [R.len], fun j e h => ?_⟩
  by_cases hj : j = i
  · subst hj
    rw [List.getElem?_set_self hi] at h
    cases h
    exact ⟨v, List.getElem?_set_self (by rw [R.len]; exact hi), r⟩
  · rw [List.getElem?_set_ne (Ne.symm hj)] at h
    obtain ⟨w, h1, h2⟩ := R.env j e h
    exact ⟨w, by rw [List.getElem?_set_ne (Ne.symm hj)]; exact h1, h2⟩
def tName (i : Nat) : Tm := fun d ρ _ => if i < ρ.length then some (ρ.set i (some d)) else none
theorem g_name {i : Nat} {x : Str} {pos : Pos} (hN : X.N.Nodup) (hi : X.N[i]? = some x) (hx : Loc X.env.scope x) (hf : X.fn x = true ∨ X.env.scope.names.lookup x = some .local) : PG X (.Name x pos) (rdG Γ (tName i)) := PG.mono (pg_name hN hi hx hf) fun v σ H Q q => by
  obtain ⟨μ, ρ, S, d, ρ', R, r, e, f⟩ := q
  unfold tName at e
  split at e
  · rename_i hl
    cases e
    exact f _ (R.set r hl)
  · cases e
/-- several targets -/
abbrev Tms := List D → Slots → Store → Option Slots
def rdGs (Γ : Gam) (t : Tms) : TGs := fun vs σ H Q => ∃ μ ρ S ds ρ', Rel Γ μ ρ S σ H ∧ RvAll Γ H μ vs ds ∧ t ds ρ S = some ρ' ∧ ∀ σ', Rel Γ μ ρ' S σ' H → Q σ' H
theorem PGs.mono {es : List Expr} {t u : TGs} (h : PGs X es t) (i : ∀ v σ H Q, u v σ H Q → t v σ H Q) : PGs X es u := ⟨fun pins s σ H v w Q I r q => h.run pins s σ H v w Q I r (i v σ H Q q)⟩
def tsNil : Tms := fun ds ρ _ => match ds with
  | [] => some ρ
  | _ => none
def tsCons (t : Tm) (u : Tms) : Tms := fun ds ρ S => match ds with
  | d :: r => (t d ρ S).bind fun ρ' => u r ρ' S
  | [] => none
theorem gs_nil : PGs X [] (rdGs Γ tsNil) := PGs.mono pgs_nil fun vs σ H Q q => by
  obtain ⟨μ, ρ, S, ds, ρ', R, r, e, f⟩ := q
  unfold tsNil at e
  split at e
  · cases e
    cases r
    exact ⟨rfl, f _ R⟩
  · cases e
theorem gs_cons {e : Expr} {es : List Expr} {t : Tm} {u : Tms} (h1 : PG X e (rdG Γ t)) (h2 : PGs X es (rdGs Γ u)) (hs : (assignEach (e :: es) X.env).map (·.2) = assign e X.env :: (assignEach es X.env).map (·.2)) : PGs X (e :: es) (rdGs Γ (tsCons t u)) := by
  refine PGs.mono (pgs_cons h1 h2 hs) fun vs σ H Q q => ?_
  obtain ⟨μ, ρ, S, ds, ρ', R, r, e, f⟩ := q
  cases r with
  | nil => cases e
  | cons q1 q2 =>
    obtain ⟨ρ1, e1, e2⟩ := Option.bind_eq_some_iff.mp e
    exact ⟨_, _, rfl, μ, ρ, S, _, ρ1, R, q1, e1, fun σ1 R1 => ⟨μ, ρ1, S, _, ρ', R1, q2, e2, f⟩⟩
/-- a tuple of that length -/
def tTupM (n : Nat) (u : Tms) : Tm := fun d ρ S => match d with
  | .p (.tuple xs) => if xs.length = n then u (xs.map .p) ρ S else none
  | .tup ds => if ds.length = n then u ds ρ S else none
  | .pr xs => if xs.length = n then u (xs.map .p) ρ S else none
  | _ => none
theorem RpAll.rv : ∀ {vs : List V} {ds : List PyData}, RpAll Γ H μ vs ds → RvAll Γ H μ vs (ds.map .p)
  | _, _, .nil => .nil
  | _, _, .cons h r => .cons (.p h) r.rv
theorem g_tup {es : List Expr} {kk : Nat} {t : Tms} {n : Nat} {pos : Pos} (G : Gx Γ k X) (h : PGs X es (rdGs Γ t)) (hn : (assignEach es X.env).length = n) (hst : (assignEach es X.env).findIdx? (·.1) = none) : PG X (.Tuple es kk pos) (rdG Γ (tTupM n t)) := by
  refine PG.mono (pg_tup G.calm h hn hst) fun v σ H Q q => ?_
  obtain ⟨μ, ρ, S, d, ρ', R, r, e, f⟩ := q
  unfold tTupM at e
  split at e
  · split at e
    · rename_i hl
      cases r with
      | p hp =>
        cases hp with
        | tup h1 h2 => exact ⟨_, _, rfl, by rw [G.K]; exact h1.sq, by rw [h2.length]; exact hl, μ, ρ, S, _, ρ', R, h2.rv, e, f⟩
    · cases e
  · split at e
    · rename_i hl
      cases r with
      | tup h1 h2 => exact ⟨_, _, rfl, by rw [G.K]; exact h1.sq, by rw [h2.length]; exact hl, μ, ρ, S, _, ρ', R, h2, e, f⟩
    · cases e
  · split at e
    · rename_i hl
      cases r with
      | pr h1 h2 => exact ⟨_, _, rfl, by rw [G.K]; exact h1.sq, by rw [h2.length]; exact hl, μ, ρ, S, _, ρ', R, h2.rv, e, f⟩
    · cases e
  · cases e
/-! ### assignments -/
def sAsg (t : Tm) (f : M D) : MS := fun ρ S => (f ρ S).toS ρ fun d S' => match t d ρ S' with
  | some ρ' => .nx ρ' S'
  | none => .bad
theorem asg_of {t : Tm} {f : M D} {D : Ends} (q : rdS Γ W (sAsg t f) D σ H) : tAsg (rdE Γ W f) (rdG Γ t) D σ H := by
  obtain ⟨μ, ρ, S, R, fi⟩ := q
  refine FinS.cut R fi fun μ' H' S' a b R' g r f' => ?_
  cases e : t a ρ S' with
  | none => simp only [e] at f'; exact f'.elim
  | some ρ' =>
    simp only [e] at f'
    exact ⟨μ', ρ, S', a, ρ', R', r, e, fun σ' R2 => FinS.here f' R2⟩
theorem s_asg {tg e : Expr} {f : M D} {t : Tm} {pos : Pos} (he : PE X e (rdE Γ W f)) (hg : PG X tg (rdG Γ t)) (hs : swapsWithSole [tg] e pos.line X.env = pure false) (hw : swappedStores [tg] e X.env = pure none)
    (h1 : (assignEach [tg] X.env).map (·.2) = [assign tg X.env]) : PS X (.Assign [tg] e pos) (rdS Γ W (sAsg t f)) := PS.mono (ps_asg he hg hs hw h1) fun D σ H q => asg_of q
theorem gName_eq {i : Nat} {v : V} {Q : St → Hp → Prop} {t : Tm} (ht : t = tName i) (q : rdG Γ t v σ H Q) : L2.gName i v σ H Q := by
  subst ht
  obtain ⟨μ, ρ, S, d, ρ', R, r, e, f⟩ := q
  unfold tName at e
  split at e
  · rename_i hl
    cases e
    exact f _ (R.set r hl)
  · cases e
theorem s_set {i : Nat} {x : Str} {e : Expr} {f : M D} {pos pos' : Pos} (hN : X.N.Nodup) (hi : X.N[i]? = some x) (hx : Loc X.env.scope x) (he : PE X e (rdE Γ W f)) (hs : swapsWith e (some (.Name x pos')) pos.line X.env = pure false) (hf : X.fn x = true ∨ X.env.scope.names.lookup x = some .local) :
    PS X (.Assign [.Name x pos'] e pos) (rdS Γ W (sAsg (tName i) f)) := by
  refine PS.mono (ps_set hN hi hx he hs hf) fun D σ H q => ?_
  obtain ⟨μ, ρ, S, R, fi⟩ := q
  refine FinS.cut R fi fun μ' H' S' a b R' g r f' => ?_
  unfold tName at f'
  by_cases hl : i < ρ.length
  · simp only [if_pos hl] at f'
    exact FinS.here f' (R'.set r hl)
  · simp only [if_neg hl] at f'
    exact f'.elim
/-- a, b = x, y: two names; three -/
def setAll : List Nat → List D → Slots → Option Slots
  | [], [], ρ => some ρ
  | i :: is, d :: ds, ρ => if i < ρ.length then setAll is ds (ρ.set i (some d)) else none
  | _, _, _ => none
def sPar (is : List Nat) (fa : M (List D)) : MS := fun ρ S => (fa ρ S).toS ρ fun ds S' => match setAll is ds ρ with
  | some ρ' => .nx ρ' S'
  | none => .bad
theorem s_par {i j : Nat} {x y : Str} {a b : Expr} {fa : M (List D)} {px py pt pos : Pos} {kt k2 : Nat} {pt2 : Pos} (G : Gx Γ k X) (hi : X.N[i]? = some x) (hj : X.N[j]? = some y) (hij : i ≠ j) (hx : X.env.scope.names.lookup x = some .local) (hy : X.env.scope.names.lookup y = some .local) (ha : PA X [a, b] (rdA Γ W fa))
    (hw : swappedStores [.Tuple [.Name x px, .Name y py] kt pt] (.Tuple [a, b] k2 pt2) X.env = pure (some [x, y])) (hs : swapsWithSole [.Tuple [.Name x px, .Name y py] kt pt] (.Tuple [a, b] k2 pt2) pos.line X.env = pure false) :
    PS X (.Assign [.Tuple [.Name x px, .Name y py] kt pt] (.Tuple [a, b] k2 pt2) pos) (rdS Γ W (sPar [i, j] fa)) := by
  refine PS.mono (ps_par G.calm G.nd hi hj hij hx hy ha hw hs) fun D σ H q => ?_
  obtain ⟨μ, ρ, S, R, fi⟩ := q
  refine FinS.cut R fi fun μ' H' S' ds vs R' g r f' => ?_
  cases e : setAll [i, j] ds ρ with
  | none => simp only [e] at f'; exact f'.elim
  | some ρ' =>
    simp only [e] at f'
    cases r with
    | nil => cases e
    | cons q1 r =>
      cases r with
      | nil => simp only [setAll] at e; split at e <;> cases e
      | cons q2 r =>
        cases r with
        | cons _ _ => simp only [setAll] at e; split at e <;> (try split at e) <;> cases e
        | nil =>
          simp only [setAll] at e
          split at e
          · rename_i h1
            split at e
            · rename_i h2
              cases e
              exact ⟨_, _, rfl, FinS.here f' ((R'.set q1 h1).set q2 h2)⟩
            · cases e
          · cases e
theorem s_par3 {i j l : Nat} {x y z : Str} {a b c : Expr} {fa : M (List D)} {px py pz pt pos : Pos} {kt k2 : Nat} {pt2 : Pos} (G : Gx Γ k X) (hi : X.N[i]? = some x) (hj : X.N[j]? = some y) (hl : X.N[l]? = some z) (hij : i ≠ j) (hil : i ≠ l) (hjl : j ≠ l) (hx : X.env.scope.names.lookup x = some .local) (hy : X.env.scope.names.lookup y = some .local) (hz : X.env.scope.names.lookup z = some .local) (ha : PA X [a, b, c] (rdA Γ W fa))
    (hw : swappedStores [.Tuple [.Name x px, .Name y py, .Name z pz] kt pt] (.Tuple [a, b, c] k2 pt2) X.env = pure (some [x, y, z])) (hs : swapsWithSole [.Tuple [.Name x px, .Name y py, .Name z pz] kt pt] (.Tuple [a, b, c] k2 pt2) pos.line X.env = pure false) :
    PS X (.Assign [.Tuple [.Name x px, .Name y py, .Name z pz] kt pt] (.Tuple [a, b, c] k2 pt2) pos) (rdS Γ W (sPar [i, j, l] fa)) := by
  refine PS.mono (ps_par3 G.calm G.nd hi hj hl hij hil hjl hx hy hz ha hw hs) fun D σ H q => ?_
  obtain ⟨μ, ρ, S, R, fi⟩ := q
  refine FinS.cut R fi fun μ' H' S' ds vs R' g r f' => ?_
  cases e : setAll [i, j, l] ds ρ with
  | none => simp only [e] at f'; exact f'.elim
  | some ρ' =>
    simp only [e] at f'
    cases r with
    | nil => cases e
    | cons q1 r =>
      cases r with
      | nil => simp only [setAll] at e; split at e <;> cases e
      | cons q2 r =>
        cases r with
        | nil => simp only [setAll] at e; split at e <;> (try split at e) <;> cases e
        | cons q3 r =>
          cases r with
          | cons _ _ => simp only [setAll] at e; split at e <;> (try split at e) <;> (try split at e) <;> cases e
          | nil =>
            simp only [setAll] at e
            split at e
            · rename_i h1
              split at e
              · rename_i h2
                split at e
                · rename_i h3
                  cases e
                  exact ⟨_, _, _, rfl, FinS.here f' (((R'.set q1 h1).set q2 h2).set q3 h3)⟩
                · cases e
              · cases e
            · cases e
end
end Fp

set_option Elab.async false
set_option linter.all false
set_option autoImplicit false
set_option maxRecDepth 100000
/-! Fp: o[i] = v, methods that change a list. -/
namespace Fp
open PySem L2
section
variable {Γ : Gam} {k : Nat} {W : WX} {μ μ' : List Addr} {S S' : Store} {H H' : Hp} {σ : St} {ρ : Slots} {X : Cx} {pins : List (Addr × Obj)} {s : Shared}
/-! ### d[x] = v -/
def dset (kvs : List (PyData × PyData)) (x v : PyData) : List (PyData × PyData) :=
  if (kvs.any fun kv => PyData.eqv kv.1 x) = true then kvs.map (fun kv => if PyData.eqv kv.1 x = true then (kv.1, v) else kv) else kvs ++ [(x, v)]
theorem map_K : ∀ {kvs : List (Key × V)} {ds es : List PyData} {x e : PyData} {q : Key} {v : V}, RpAll Γ H μ (kvs.map fun x => kV x.1) ds → RpAll Γ H μ (kvs.map (·.2)) es → pkey x = some q → Rp Γ H μ v e →
    ((kvs.any fun kv => decide (kv.1 = q)) = ((ds.zip es).any fun kv => PyData.eqv kv.1 x)) ∧
    ∃ es', RpAll Γ H μ ((kvs.map fun kv => if kv.1 = q then (kv.1, v) else kv).map fun x => kV x.1) ds ∧ RpAll Γ H μ ((kvs.map fun kv => if kv.1 = q then (kv.1, v) else kv).map (·.2)) es' ∧ (ds.zip es).map (fun kv => if PyData.eqv kv.1 x = true then (kv.1, e) else kv) = ds.zip es'
  | [], _, _, _, _, _, _, .nil, .nil, _, _ => ⟨rfl, [], .nil, .nil, rfl⟩
  | (p, w) :: r, _, _, x, e, q, v, .cons (d := d) (ds := ds) h1 t1, .cons (d := e1) (ds := es) h2 t2, hq, hv => by
    obtain ⟨i1, es', i2, i3, i4⟩ := map_K t1 t2 hq hv
    have hk := pkey_of h1
    have he := pkey_eqv hk hq
    refine ⟨?_, ?_⟩
    · show (decide (p = q) || r.any _) = (PyData.eqv d x || (ds.zip es).any _)
      rw [he]
      exact congrArg _ i1
    · by_cases c : p = q
      · have hd : PyData.eqv d x = true := by rw [he]; exact decide_eq_true c
        refine ⟨e :: es', ?_, ?_, ?_⟩
        · rw [List.map_cons, if_pos c]
          exact .cons h1 i2
        · rw [List.map_cons, if_pos c]
          exact .cons hv i3
        · show (if PyData.eqv d x = true then (d, e) else (d, e1)) :: _ = (d, e) :: ds.zip es'
          rw [if_pos hd]
          exact congrArg _ i4
      · have hd : ¬ PyData.eqv d x = true := by rw [he]; exact fun z => c (of_decide_eq_true z)
        refine ⟨e1 :: es', ?_, ?_, ?_⟩
        · rw [List.map_cons, if_neg c]
          exact .cons h1 i2
        · rw [List.map_cons, if_neg c]
          exact .cons h2 i3
        · show (if PyData.eqv d x = true then (d, e) else (d, e1)) :: _ = (d, e1) :: ds.zip es'
          rw [if_neg hd]
          exact congrArg _ i4
theorem put_K {kvs : List (Key × V)} {ds es : List PyData} {x e : PyData} {q : Key} {v : V} (h1 : RpAll Γ H μ (kvs.map fun x => kV x.1) ds) (h2 : RpAll Γ H μ (kvs.map (·.2)) es) (hq : pkey x = some q) (hx : Rp Γ H μ (kV q) x) (hv : Rp Γ H μ v e) :
    ∃ ds' es', RpAll Γ H μ ((putK kvs q v).map fun x => kV x.1) ds' ∧ RpAll Γ H μ ((putK kvs q v).map (·.2)) es' ∧ dset (ds.zip es) x e = ds'.zip es' := by
  obtain ⟨i1, es', i2, i3, i4⟩ := map_K h1 h2 hq hv
  unfold putK dset
  rw [i1]
  by_cases c : ((ds.zip es).any fun kv => PyData.eqv kv.1 x) = true
  · rw [if_pos c, if_pos c]
    exact ⟨ds, es', i2, i3, i4⟩
  · rw [if_neg c, if_neg c]
    refine ⟨ds ++ [x], es ++ [e], ?_, ?_, ?_⟩
    · rw [List.map_append]
      exact h1.append (.cons hx .nil)
    · rw [List.map_append]
      exact h2.append (.cons hv .nil)
    · rw [List.zip_append (by have := h1.length; have := h2.length; simp at *; omega)]
      rfl
theorem map_T : ∀ {xs : List (NestedKey × Addr × Value)} {ds es : List PyData} {vs : List V} {x e : PyData} {n : NestedKey} {v : V} {u : Value}, nkeys ds = some (xs.map (·.1)) → Vals vs (xs.map (·.2.2)) → RpAll Γ H μ vs es → nkey x = some n → RelV v u → Rp Γ H μ v e →
    ((atKey xs n).isSome = ((ds.zip es).any fun kv => PyData.eqv kv.1 x)) ∧
    ∃ vs' es', (xs.map (putAt n u)).map (·.1) = xs.map (·.1) ∧ (xs.map (putAt n u)).map (fun x => V.ref x.2.1) = xs.map (fun x => V.ref x.2.1) ∧ Vals vs' ((xs.map (putAt n u)).map (·.2.2)) ∧ RpAll Γ H μ vs' es' ∧ (ds.zip es).map (fun kv => if PyData.eqv kv.1 x = true then (kv.1, e) else kv) = ds.zip es'
  | [], [], _, _, _, _, _, _, _, _, .nil, .nil, _, _, _ => ⟨rfl, [], [], rfl, rfl, .nil, .nil, rfl⟩
  | [], _ :: _, _, _, _, _, _, _, _, h, _, _, _, _, _ => by
    simp only [nkeys, Option.bind_eq_some_iff, Option.map_eq_some_iff, List.map_nil] at h
    obtain ⟨_, _, _, _, h⟩ := h
    cases h
  | _ :: _, [], _, _, _, _, _, _, _, h, _, _, _, _, _ => by cases h
  | (m, a, u0) :: r, d :: ds, _, _, x, e, n, v, u, h, .cons q1 q2, .cons (d := e1) (ds := es) r1 r2, hx, hu, hv => by
    obtain ⟨h1, h2⟩ := nkeys_some h
    obtain ⟨i1, vs', es', i2, i3, i4, i5, i6⟩ := map_T h2 q2 r2 hx hu hv
    have key : PyData.eqv d x = true ↔ d = x := eqv_nkey d x (by rw [h1]; rfl) (by rw [hx]; rfl)
    by_cases c : m = n
    · subst c
      have hd : PyData.eqv d x = true := key.mpr (nkey_inj d x m h1 hx)
      refine ⟨?_, _ :: vs', e :: es', ?_, ?_, ?_, .cons hv i5, ?_⟩
      · show _ = (PyData.eqv d x || _)
        rw [hd]
        simp [atKey]
      · simp only [List.map_cons, i2]
        simp [putAt]
      · simp only [List.map_cons, i3]
        simp [putAt]
      · simp only [List.map_cons]
        refine .cons ?_ i4
        simp [putAt]
        exact hu
      · show (if PyData.eqv d x = true then (d, e) else (d, e1)) :: _ = (d, e) :: ds.zip es'
        rw [if_pos hd]
        exact congrArg _ i6
    · have hd : ¬ PyData.eqv d x = true := fun z => by
        have z := key.mp z
        subst z
        rw [h1] at hx
        exact c (Option.some.inj hx)
      refine ⟨?_, _ :: vs', e1 :: es', ?_, ?_, ?_, .cons r1 i5, ?_⟩
      · show _ = (PyData.eqv d x || _)
        rw [Bool.eq_false_iff.mpr hd, Bool.false_or]
        refine Eq.trans ?_ i1
        simp [atKey, c]
      · simp only [List.map_cons, i2]
        simp [putAt, c]
      · simp only [List.map_cons, i3]
        simp [putAt, c]
      · simp only [List.map_cons]
        refine .cons ?_ i4
        simp [putAt, c]
        exact q1
      · show (if PyData.eqv d x = true then (d, e) else (d, e1)) :: _ = (d, e1) :: ds.zip es'
        rw [if_neg hd]
        exact congrArg _ i6
theorem nkeys_append : ∀ {ds es : List PyData} {ns ms : List NestedKey}, nkeys ds = some ns → nkeys es = some ms → nkeys (ds ++ es) = some (ns ++ ms)
  | [], _, _, _, h1, h2 => by cases h1; exact h2
  | d :: ds, _, _, _, h1, h2 => by
    simp only [nkeys, Option.bind_eq_some_iff, Option.map_eq_some_iff] at h1
    obtain ⟨n, e1, ns, e2, rfl⟩ := h1
    rw [List.cons_append, nkeys, e1, nkeys_append e2 h2]
    rfl
theorem put_T {xs : List (NestedKey × Addr × Value)} {ds es : List PyData} {vs : List V} {x e : PyData} {n : NestedKey} {b : Addr} {v : V} {u : Value} (h0 : RpAll Γ H μ (xs.map fun x => V.ref x.2.1) ds) (h1 : nkeys ds = some (xs.map (·.1))) (h2 : Vals vs (xs.map (·.2.2))) (h3 : RpAll Γ H μ vs es) (h4 : nkey x = some n) (hb : Rp Γ H μ (.ref b) x) (hu : RelV v u) (hv : Rp Γ H μ v e) :
    ∃ ds' es' vs', RpAll Γ H μ ((storedH xs n b u).map fun x => V.ref x.2.1) ds' ∧ nkeys ds' = some ((storedH xs n b u).map (·.1)) ∧ Vals vs' ((storedH xs n b u).map (·.2.2)) ∧ RpAll Γ H μ vs' es' ∧ dset (ds.zip es) x e = ds'.zip es' := by
  obtain ⟨i1, vs', es', i2, i3, i4, i5, i6⟩ := map_T h1 h2 h3 h4 hu hv
  unfold storedH dset
  rw [i1]
  by_cases c : ((ds.zip es).any fun kv => PyData.eqv kv.1 x) = true
  · rw [if_pos c, if_pos c]
    exact ⟨ds, es', vs', by rw [i3]; exact h0, by rw [i2]; exact h1, i4, i5, i6⟩
  · rw [if_neg c, if_neg c]
    refine ⟨ds ++ [x], es ++ [e], vs ++ [v], ?_, ?_, ?_, h3.append (.cons hv .nil), ?_⟩
    · rw [List.map_append]
      exact h0.append (.cons hb .nil)
    · rw [List.map_append]
      exact nkeys_append h1 (by simp [nkeys, h4])
    · rw [List.map_append]
      exact h2.append (.cons hu .nil)
    · rw [List.zip_append (by have := h0.length; have := h2.length; have := h3.length; simp at *; omega)]
      rfl
end
end Fp

set_option Elab.async false
set_option linter.all false
set_option autoImplicit false
set_option maxRecDepth 100000
/-! Fp: o[i] = v. -/
namespace Fp
open PySem L2
section
variable {Γ : Gam} {k : Nat} {W : WX} {μ μ' : List Addr} {S S' : Store} {H H' : Hp} {σ : St} {ρ : Slots} {X : Cx} {pins : List (Addr × Obj)} {s : Shared}
/-- what an object's write asks of the heap's object -/
def gSetI (o i v : D) (S : Store) : Option Store := match o, i, v with
  | .loc n, .p x, .p e => match S[n]? with
    | some (.dic kvs) => if keyOk kvs x = true ∧ kvs.length < sizeLine then some (S.set n (.dic (dset kvs x e))) else none
    | some (.lst xs) => match x with
      | .int j => (ixN xs.length j).map fun m => S.set n (.lst (xs.set m e))
      | _ => none
    | none => none
  | _, _, _ => none
def rSt (Γ : Gam) : TSet := fun o i v H Q => ∃ μ S a b c S', Sto Γ μ S H ∧ Rv Γ H μ o a ∧ Rv Γ H μ i b ∧ Rv Γ H μ v c ∧ gSetI a b c S = some S' ∧ ∀ μ' H', Go μ H μ' H' → Sto Γ μ' S' H' → Q H'
theorem RpAll.set {v : V} {e : PyData} (r : Rp Γ H μ v e) : ∀ {vs : List V} {ds : List PyData} (i : Nat), RpAll Γ H μ vs ds → RpAll Γ H μ (vs.set i v) (ds.set i e)
  | _, _, _, .nil => .nil
  | _, _, 0, .cons _ rest => .cons r rest
  | _, _, i + 1, .cons h t => .cons h (RpAll.set r i t)
theorem storedH_depth {xs : List (NestedKey × Addr × Value)} {n : NestedKey} {b : Addr} {u : Value} (h : ∀ x ∈ xs, x.1.depth ≤ 8) (hn : n.depth ≤ 8) : ∀ x ∈ storedH xs n b u, x.1.depth ≤ 8 := by
  unfold storedH
  intro x hx
  split at hx
  · obtain ⟨y, hy, rfl⟩ := List.mem_map.mp hx
    unfold putAt
    split
    · exact h y hy
    · exact h y hy
  · rcases List.mem_append.mp hx with z | z
    · exact h x z
    · rw [List.mem_singleton] at z
      subst z
      exact hn
theorem storedH_len {xs : List (NestedKey × Addr × Value)} {n : NestedKey} {b : Addr} {u : Value} : (storedH xs n b u).length ≤ xs.length + 1 := by
  unfold storedH
  split <;> simp
theorem storedH_ne {xs : List (NestedKey × Addr × Value)} {n : NestedKey} {b : Addr} {u : Value} : storedH xs n b u ≠ [] := by
  unfold storedH
  split
  · rename_i there
    cases xs with
    | nil => cases there
    | cons _ _ => simp
  · simp
theorem p_set (G : Gx Γ k X) : PSet X (rSt Γ) := by
  intro pins s σ H o i v ov iv u Q I
  intro ro ri rv h
  obtain ⟨μ, S, a, b, c, S', st, ra, rb, rc, e, q⟩ := h
  unfold gSetI at e
  split at e
  · rename_i n x ev
    cases ra with
    | loc ha =>
      rename_i p
      cases ro
      cases rb with
      | p hx =>
        cases rc with
        | p hv =>
          obtain ⟨mo, e1, m⟩ := st.ix ha
          have hmem : p ∈ μ := List.mem_of_getElem? ha
          rw [e1] at e
          cases mo with
          | lst xs =>
            simp only at e
            split at e
            · obtain ⟨j, hj, rfl⟩ := Option.map_eq_some_iff.mp e
              obtain ⟨vs, h1, h2⟩ := m
              cases hx
              have g := Go.write μ (H := H) hmem (.lst (vs.set j v))
              exact set_list pins s σ H _ _ v _ iv u Q I (show RelV (.ref p) (.ref p) from rfl) ri rv ⟨p, vs, _, j, rfl, rfl, h1, by rw [h2.length]; exact hj, q μ _ g (st.write ha (m := .lst (xs.set j ev)) ⟨_, upd_same, (RpAll.set hv j h2).go g⟩)⟩
            · cases e
          | dic kvs =>
            simp only at e
            split at e
            · rename_i hk
              cases e
              obtain ⟨hk, hlt⟩ := hk
              have hu : X.A.units + 1 < cLine := hu_of G.room
              rcases dic_cases m hk with ⟨kvs', ds, es, q', h1, h2, h3, h4, h5⟩ | ⟨xs, ds, es, vs, nn, h1, h2, h3, h4, h5, h6, h7, h8, h9, h10, h11, h12, h13⟩ | ⟨h1, h2, h3, nn, h4, h5⟩ | ⟨q', h1, h2, h3, h4⟩
              · have hxe := pkey_rp hx h5
                subst hxe
                have hl : kvs'.length < sizeLine := by
                  have e2 := h2.length
                  have e3 := h3.length
                  rw [List.length_map] at e2 e3
                  rw [h4, zip_len (by omega)] at hlt
                  omega
                obtain ⟨ds', es', g1, g2, g3⟩ := put_K h2 h3 h5 hx hv
                have g := Go.write μ (H := H) hmem (.dK (putK kvs' q' v))
                refine d_setItem hu I (DPut.k h1 hl) ri rv fun s' I' => ⟨_, I', q μ _ g (st.write ha ?_)⟩
                exact ⟨_, _, none, ds', es', ⟨_, upd_same, rfl, rfl⟩, g1.go g, g2.go g, by rw [h4]; exact g3, fun ns z => by cases z⟩
              · obtain ⟨b, rfl⟩ := hx.tupRef h11
                cases ri
                have dd := dicT_at G I h1 h2 h5 h6 h7
                have hkey : (nestedKind X.prog X.w).is s.heap nn b := ⟨hx.nested G I h12 rfl, h13⟩
                obtain ⟨ds', es', vs', g1, g2, g3, g4, g5⟩ := put_T h2 h5 h3 h4 h12 hx rv hv
                have hl : xs.length < sizeLine := by
                  have e2 := h2.length
                  have e3 := h4.length
                  have e4 := h3.length
                  rw [List.length_map] at e2 e4
                  rw [h10, zip_len (by omega)] at hlt
                  omega
                refine wpAny_setItem_heap (hsz := h9) (room8 G.room) hkey dd fun h' dd' hs => ?_
                obtain ⟨ob, es2, ep, k1, k2, k3, k4, _, k5⟩ := dd'
                have g := Go.write μ (H := H) hmem (dicT Γ.P Γ.w p (storedH xs nn b u))
                refine ⟨upd H p (dicT Γ.P Γ.w p (storedH xs nn b u)), d_write I (by rw [h1]; exact True.intro) hs ⟨ob, k1⟩ ?_, q μ _ g (st.write ha ?_)⟩
                · refine ⟨⟨ob, es2, ep, k1, k2, k3, by rw [← G.P, ← G.w]; exact k4⟩, ⟨ob, k1⟩, fun ha hb hc hd => ?_⟩
                  obtain ⟨o2, es3, ep3, j1, j2⟩ := hc
                  exact ⟨o2, es3, ep3, hd _ j1, j2⟩
                · exact ⟨_, vs', some _, ds', es', ⟨_, upd_same, rfl, rfl, g3, h8, by have := storedH_len (xs := xs) (n := nn) (b := b) (u := u); omega, k5, storedH_depth h7 h13, storedH_ne⟩, g1.go g, g4.go g, by rw [h10]; exact g5, fun ns z => by cases z; exact g2⟩
              · obtain ⟨b, rfl⟩ := hx.tupRef h3
                cases ri
                have hkey : (nestedKind X.prog X.w).is s.heap nn b := ⟨hx.nested G I h4 rfl, h5⟩
                obtain ⟨z, hd, ws, rel, dd⟩ := dk_of I.hok h1
                cases rel
                obtain ⟨o, es, ep, g1, g2, g3, g4, g5, g6⟩ := dd
                have dd : s.heap.DictOfH (nestedKind X.prog X.w) p [] := ⟨o, es, ep, g1, g2, g3, by rw [pairs_nil g5]; rfl, by simp, by simp⟩
                refine wpAny_setItem_heap (hsz := Nat.zero_le _) (room8 G.room) hkey dd fun h' dd' hs => ?_
                obtain ⟨ob, es2, ep, k1, k2, k3, k4, _, k5⟩ := dd'
                have es0 : storedH [] nn b u = [(nn, b, u)] := rfl
                rw [es0] at k4 k5
                have g := Go.write μ (H := H) hmem (dicT Γ.P Γ.w p [(nn, b, u)])
                refine ⟨upd H p (dicT Γ.P Γ.w p [(nn, b, u)]), d_write I (by rw [h1]; exact True.intro) hs ⟨ob, k1⟩ ?_, q μ _ g (st.write ha ?_)⟩
                · refine ⟨⟨ob, es2, ep, k1, k2, k3, by rw [← G.P, ← G.w]; exact k4⟩, ⟨ob, k1⟩, fun ha hb hc hd => ?_⟩
                  obtain ⟨o2, es3, ep3, j1, j2⟩ := hc
                  exact ⟨o2, es3, ep3, hd _ j1, j2⟩
                · refine ⟨_, [v], some _, [x], [ev], ⟨_, upd_same, rfl, rfl, .cons rv .nil, hd, by show 1 ≤ sizeLine; decide, k5, fun y hy => ?_, by simp⟩, (RpAll.cons hx .nil).go g, (RpAll.cons hv .nil).go g, by rw [h2]; rfl, fun ns z => by cases z; simp [nkeys, h4]⟩
                  rw [List.mem_singleton] at hy
                  subst hy
                  exact h5
              · have hxe := pkey_rp hx h3
                subst hxe
                obtain ⟨⟨o, es, ep, g1, g2, g3, g4⟩, _⟩ := I.hok p _ h1
                have he : es = #[] := by simpa using g4
                subst he
                have dd : s.heap.DictOf (mixKind X.prog X.w) p [] := ⟨o, #[], ep, g1, g2, g3, by intro e he; simp at he, .nil, by simp⟩
                refine wpAny_setItem_pairs (hsz := Nat.zero_le _) (kV_is ri) dd fun h' dd' hs => ?_
                have heq : ∃ q, h'.get? p = some q := let ⟨q, _, _, hq, _⟩ := dd'; ⟨q, hq⟩
                have rel : KV [(q', v)] (stored [] q' u) := .cons ⟨rfl, rv⟩ .nil
                have g := Go.write μ (H := H) hmem (.dK [(q', v)])
                refine ⟨upd H p (.dK [(q', v)]), d_write I (by rw [h1]; exact True.intro) hs heq (dk_new (by show 1 ≤ sizeLine; decide) h4 rel dd'), q μ _ g (st.write ha ?_)⟩
                exact ⟨_, _, none, [x], [ev], ⟨_, upd_same, rfl, rfl⟩, (RpAll.cons hx .nil).go g, (RpAll.cons hv .nil).go g, by rw [h2]; rfl, fun ns z => by cases z⟩
            · cases e
  · cases e
def sSub (fo fi fv : M D) : MS := fun ρ S => (fv ρ S).toS ρ fun v S1 => (fo ρ S1).toS ρ fun o S2 => (fi ρ S2).toS ρ fun i S3 => match gSetI o i v S3 with
  | some S4 => .nx ρ S4
  | none => .bad
theorem s_sub {o i e : Expr} {fo fi fv : M D} {pos pos' : Pos} (rule : ∀ (to ti : TE) (ts : TSet), PE X o to → PE X i ti → PSet X ts → PG X (.Subscript o i pos') (L2.gSub to ti ts)) (G : Gx Γ k X) (ho : PE X o (rdE Γ W fo)) (hi : PE X i (rdE Γ W fi)) (hv : PE X e (rdE Γ W fv))
    (hs : swapsWithSole [.Subscript o i pos'] e pos.line X.env = pure false) (hw : swappedStores [.Subscript o i pos'] e X.env = pure none) (h1 : (assignEach [.Subscript o i pos'] X.env).map (·.2) = [assign (.Subscript o i pos') X.env]) :
    PS X (.Assign [.Subscript o i pos'] e pos) (rdS Γ W (sSub fo fi fv)) := by
  refine PS.mono (ps_asg hv (rule _ _ _ ho hi (p_set G)) hs hw h1) fun D σ H q => ?_
  obtain ⟨μ, ρ, S, R, f⟩ := q
  refine FinS.cut R f fun μ1 H1 S1 v x R1 g1 r1 f1 => ?_
  refine FinS.cut R1 f1 fun μ2 H2 S2 o y R2 g2 r2 f2 => ?_
  refine FinS.cut R2 f2 fun μ3 H3 S3 i z R3 g3 r3 f3 => ?_
  cases e : gSetI o i v S3 with
  | none => simp only [e] at f3; exact f3.elim
  | some S4 =>
    simp only [e] at f3
    exact ⟨μ3, S3, o, i, v, S4, R3.sto, r2.go g3, r3, (r1.go g2).go g3, e, fun μ4 H4 g4 s4 => f3 μ4 σ H4 g4 (R3.go g4 s4)⟩
end
end Fp

set_option Elab.async false
set_option linter.all false
set_option autoImplicit false
set_option maxRecDepth 100000
/-! Fp: methods of built-in objects. -/
namespace Fp
open PySem L2
section
variable {Γ : Gam} {k : Nat} {W : WX} {μ μ' : List Addr} {S S' : Store} {H H' : Hp} {σ : St} {ρ : Slots} {X : Cx} {pins : List (Addr × Obj)} {s : Shared}
/-- the built-in type of an object with methods -/
def tyD (S : Store) : D → String
  | .p (.str _) => "str"
  | .p (.list _) => "list"
  | .loc n => match S[n]? with
    | some (.lst _) => "list"
    | _ => ""
  | _ => ""
theorem tyD_v (G : Gx Γ k X) (st : Sto Γ μ S H) {v : V} {d : D} {T : String} (r : Rv Γ H μ v d) (e : tyD S d = T) (hT : (T == "") = false) : tyV X.K T v H := by
  have none_such : ∀ {P : Prop}, "" = T → P := fun {P} z => by subst z; cases hT
  have of_list : ∀ {a : Addr} {vs : List V}, H a = some (.lst vs) → tyV X.K "list" (.ref a) H := fun {a vs} h => .inl ⟨rfl, vs, SqL.of h⟩
  cases r with
  | p h =>
    cases h with
    | str x => exact e.symm
    | lst h1 _ _ => rw [← e]; exact of_list h1
    | non => exact none_such e
    | bl _ => exact none_such e
    | int _ => exact none_such e
    | tup _ _ => exact none_such e
    | dic _ _ _ _ _ _ => exact none_such e
  | loc h =>
    obtain ⟨o, e1, m⟩ := st.ix h
    simp only [tyD, e1] at e
    cases o with
    | dic _ => exact none_such e
    | lst ys =>
      obtain ⟨vs, q, _⟩ := m
      rw [← e]
      exact of_list q
  | fn _ => exact none_such e
  | ty _ => exact none_such e
  | ro _ _ => exact none_such e
  | pr _ _ => exact none_such e
  | tup _ _ => exact none_such e
/-- a method by a function of its object and its arguments -/
abbrev Gm := D → List D → Store → Option (D × Store)
def rMt (Γ : Gam) (g : Gm) : V → List V → Hp → VK → Prop := fun x xs H Q => ∃ μ S o as d S', Sto Γ μ S H ∧ Rv Γ H μ x o ∧ RvAll Γ H μ xs as ∧ g o as S = some (d, S') ∧ ∀ μ' H' v, Go μ H μ' H' → Sto Γ μ' S' H' → Rv Γ H' μ' v d → Q v H'
def outM (r : Option (D × Store)) : Out D := match r with
  | some (d, S) => .ok d S
  | none => .bad
def eMeth (T : String) (g : Gm) (fo : M D) (fa : M (List D)) : M D := fo.bind fun o => fun ρ S => if tyD S o = T then (fa ρ S).bind fun as S' => outM (g o as S') else .bad
theorem meth_of {g : Gm} {o : D} {as : List D} {x : V} {xs : List V} {Q : VK} (st : Sto Γ μ S H) (ro : Rv Γ H μ x o) (ra : RvAll Γ H μ xs as) (f : Fin Γ W (fun H μ v d => Rv Γ H μ v d) μ σ H (outM (g o as S)) Q) : rMt Γ g x xs H Q := by
  cases e : g o as S with
  | none => rw [e] at f; exact f.elim
  | some z =>
    obtain ⟨d, S'⟩ := z
    rw [e] at f
    exact ⟨μ, S, o, as, d, S', st, ro, ra, e, f⟩
/-- the library's rule for o.m(..) comes as a premise: it is named where the call stands -/
theorem e_meth {o call : Expr} {es : List Expr} {fo : M D} {fa : M (List D)} {T id : String} {g : Gm} (G : Gx Γ k X) (rule : ∀ (r : V → List V → Hp → VK → Prop) (to : TE) (t : TA), MtR X id r → PE X o to → PA X es t → PE X call (tBM X.K T r to t))
    (hm : MtM X id (rMt Γ g)) (hT : (T == "") = false) (ho : PE X o (rdE Γ W fo)) (ha : PA X es (rdA Γ W fa)) : PE X call (rdE Γ W (eMeth T g fo fa)) := by
  refine PE.mono (rule _ _ _ hm ho ha) fun σ H Q q => ?_
  refine rd.cut q fun μ ρ H1 S1 d x R1 rx f1 => ?_
  by_cases c : tyD S1 d = T
  · rw [if_pos c] at f1
    exact ⟨tyD_v G R1.sto rx c hT, μ, ρ, S1, R1, Fin.cut (k := fun as S' => outM (g d as S')) f1 fun μ2 H2 S2 as ys g2 s2 ry f2 => meth_of s2 (rx.go g2) ry f2⟩
  · rw [if_neg c] at f1
    exact f1.elim
theorem e_meth0 {o call : Expr} {fo : M D} {T id : String} {g : Gm} (G : Gx Γ k X) (rule : ∀ (r : V → List V → Hp → VK → Prop) (to : TE), MtR X id r → PE X o to → PE X call (tBM0 X.K T r to))
    (hm : MtM X id (rMt Γ g)) (hT : (T == "") = false) (ho : PE X o (rdE Γ W fo)) : PE X call (rdE Γ W (eMeth T g fo aNil)) := by
  refine PE.mono (rule _ _ hm ho) fun σ H Q q => ?_
  refine rd.cut q fun μ ρ H1 S1 d x R1 rx f1 => ?_
  by_cases c : tyD S1 d = T
  · rw [if_pos c] at f1
    exact ⟨tyD_v G R1.sto rx c hT, meth_of R1.sto rx .nil f1⟩
  · rw [if_neg c] at f1
    exact f1.elim
/-! ### list -/
def mAppend : Gm := fun o as S => match o, as with
  | .loc n, [.p e] => match S[n]? with
    | some (.lst xs) => if xs.length < sizeLine then some (.p .none, S.set n (.lst (xs ++ [e]))) else none
    | _ => none
  | _, _ => none
theorem m_append : MtM X "list.append" (rMt Γ mAppend) := by
  intro ps sh sg hp x ys u us Q iv rx rv h
  obtain ⟨μ, S, ob, as, d, S', st, ro, ra, e, q⟩ := h
  unfold mAppend at e
  split at e
  · rename_i n ev
    cases ro with
    | loc ha =>
      obtain ⟨mo, e1, m⟩ := st.ix ha
      rw [e1] at e
      cases mo with
      | dic _ => cases e
      | lst xs =>
        simp only at e
        split at e
        · rename_i hl
          cases e
          obtain ⟨vs', h1, h2⟩ := m
          obtain ⟨y, rfl, ry⟩ := ra.one
          cases ry with
          | p hy =>
            have g := Go.write μ (H := hp) (List.mem_of_getElem? ha) (.lst (vs' ++ [y]))
            exact mt_append ps sh sg hp _ _ u us Q iv rx rv ⟨_, vs', y, rfl, rfl, h1, by rw [h2.length]; exact hl, q μ _ _ g (st.write ha (m := .lst (xs ++ [ev])) ⟨_, upd_same, (h2.append (.cons hy .nil)).go g⟩) (.p .non)⟩
        · cases e
  · cases e
theorem RpAll.dropLast : ∀ {vs : List V} {ds : List PyData}, RpAll Γ H μ vs ds → RpAll Γ H μ vs.dropLast ds.dropLast
  | _, _, .nil => .nil
  | _, _, .cons h .nil => .nil
  | _, _, .cons h (.cons h' r) => .cons h (RpAll.dropLast (.cons h' r))
theorem RpAll.eraseIdx : ∀ {vs : List V} {ds : List PyData} (i : Nat), RpAll Γ H μ vs ds → RpAll Γ H μ (vs.eraseIdx i) (ds.eraseIdx i)
  | _, _, _, .nil => .nil
  | _, _, 0, .cons _ r => r
  | _, _, i + 1, .cons h r => .cons h (RpAll.eraseIdx i r)
def mPop : Gm := fun o as S => match o, as with
  | .loc n, [] => match S[n]? with
    | some (.lst xs) => (xs[xs.length - 1]?).map fun e => (.p e, S.set n (.lst xs.dropLast))
    | _ => none
  | .loc n, [.p (.int i)] => match S[n]? with
    | some (.lst xs) => if -(2 ^ 63) ≤ i ∧ i < 2 ^ 63 then (seqIndex? i xs.length).bind fun j => (xs[j]?).map fun e => (.p e, S.set n (.lst (xs.eraseIdx j))) else none
    | _ => none
  | _, _ => none
theorem m_pop : MtM X "list.pop" (rMt Γ mPop) := by
  intro ps sh sg hp x ys u us Q iv rx rv h
  obtain ⟨μ, S, ob, as, d, S', st, ro, ra, e, q⟩ := h
  unfold mPop at e
  split at e
  · rename_i n
    cases ro with
    | loc ha =>
      obtain ⟨mo, e1, m⟩ := st.ix ha
      rw [e1] at e
      cases mo with
      | dic _ => cases e
      | lst xs =>
        simp only at e
        obtain ⟨ev, he, z⟩ := Option.map_eq_some_iff.mp e
        cases z
        obtain ⟨vs', h1, h2⟩ := m
        cases ra
        obtain ⟨y, hy, ry⟩ := h2.of he
        have g := Go.write μ (H := hp) (List.mem_of_getElem? ha) (.lst vs'.dropLast)
        exact mt_pop ps sh sg hp _ _ u us Q iv rx rv ⟨_, vs', y, rfl, rfl, h1, by rw [h2.length]; exact hy, q μ _ _ g (st.write ha (m := .lst xs.dropLast) ⟨_, upd_same, h2.dropLast.go g⟩) (.p (ry.go g))⟩
  · rename_i n i
    cases ro with
    | loc ha =>
      obtain ⟨mo, e1, m⟩ := st.ix ha
      rw [e1] at e
      cases mo with
      | dic _ => cases e
      | lst xs =>
        simp only at e
        split at e
        · rename_i hi
          obtain ⟨j, hj, e⟩ := Option.bind_eq_some_iff.mp e
          obtain ⟨ev, he, z⟩ := Option.map_eq_some_iff.mp e
          cases z
          obtain ⟨vs', h1, h2⟩ := m
          obtain ⟨y0, rfl, ry0⟩ := ra.one
          cases ry0 with
          | p hy0 =>
            cases hy0
            obtain ⟨y, hy, ry⟩ := h2.of he
            have g := Go.write μ (H := hp) (List.mem_of_getElem? ha) (.lst (vs'.eraseIdx j))
            exact mt_popAt ps sh sg hp _ _ u us Q iv rx rv ⟨_, vs', i, j, y, rfl, rfl, h1, hi.1, hi.2, by rw [h2.length]; exact hj, hy, q μ _ _ g (st.write ha (m := .lst (xs.eraseIdx j)) ⟨_, upd_same, (h2.eraseIdx j).go g⟩) (.p (ry.go g))⟩
        · cases e
  · cases e
def mExtend : Gm := fun o as S => match o, as with
  | .loc n, [a] => match S[n]?, viewW S a with
    | some (.lst xs), some ys => if xs.length + ys.length ≤ sizeLine then some (.p .none, S.set n (.lst (xs ++ ys))) else none
    | _, _ => none
  | _, _ => none
theorem m_extend : MtM X "list.extend" (rMt Γ mExtend) := by
  intro ps sh sg hp x ys u us Q iv rx rv h
  obtain ⟨μ, S, ob, as, d, S', st, ro, ra, e, q⟩ := h
  unfold mExtend at e
  split at e
  · rename_i n a
    cases ro with
    | loc ha =>
      obtain ⟨mo, e1, m⟩ := st.ix ha
      rw [e1] at e
      obtain ⟨y, rfl, ry⟩ := ra.one
      split at e
      · rename_i xs ys ex ey
        cases ex
        split at e
        · rename_i hl
          cases e
          obtain ⟨vs', h1, h2⟩ := m
          obtain ⟨b, ws, rfl, g1, g2⟩ := viewW_at st ry ey
          have g := Go.write μ (H := hp) (List.mem_of_getElem? ha) (.lst (vs' ++ ws))
          exact mt_extend ps sh sg hp _ _ u us Q iv rx rv ⟨_, b, vs', ws, rfl, rfl, h1, g1, by rw [h2.length, g2.length]; exact hl, q μ _ _ g (st.write ha (m := .lst (xs ++ ys)) ⟨_, upd_same, (h2.append g2).go g⟩) (.p .non)⟩
        · cases e
      · cases e
  · cases e
end
end Fp

set_option Elab.async false
set_option linter.all false
set_option autoImplicit false
set_option maxRecDepth 100000
/-! Fp: loops. -/
namespace Fp
open PySem L2
section
variable {Γ : Gam} {k : Nat} {W : WX} {μ μ' : List Addr} {S S' : Store} {H H' : Hp} {σ : St} {ρ : Slots} {X : Cx} {pins : List (Addr × Obj)} {s : Shared}
/-- what is walked: at turn i, by the store: an item, or the end, or nothing is known -/
abbrev ItF := Nat → Store → Option (Option D)
def IterOk (Γ : Gam) (μ0 : List Addr) (H0 : Hp) (J : It) (it : ItF) : Prop := ∀ μ H S i, Go μ0 H0 μ H → Sto Γ μ S H → match it i S with
  | none => True
  | some none => J.stop i H
  | some (some d) => J.go i H ∧ ∀ x H', J.yld i H x H' → Go μ H μ H' ∧ Sto Γ μ S H' ∧ Rv Γ H' μ x d
/-- fuel, and what is walked -/
abbrev MI := M (Nat × ItF)
abbrev rdI (Γ : Gam) (W : WX) (f : MI) : TI := rd Γ W (fun H μ J a => IterOk Γ μ H J a.2) f
theorem PI.mono {tg e : Expr} {t u : TI} (h : PI X tg e t) (i : ∀ σ H R, u σ H R → t σ H R) : PI X tg e u := ⟨fun pins s σ H R I q => h.run pins s σ H R I (i σ H R q)⟩

/-! ### for -/
def forF (t : Tm) (body : MS) (it : ItF) : Nat → Nat → MS
  | 0, _ => fun _ _ => .bad
  | m + 1, i => fun ρ S => match it i S with
    | none => .bad
    | some none => .nx ρ S
    | some (some d) => match t d ρ S with
      | none => .bad
      | some ρ1 => match body ρ1 S with
        | .nx ρ2 S2 => forF t body it m (i + 1) ρ2 S2
        | .ct ρ2 S2 => forF t body it m (i + 1) ρ2 S2
        | .bk ρ2 S2 => .nx ρ2 S2
        | .rt d S2 => .rt d S2
        | .exc x ρ2 S2 => .exc x ρ2 S2
        | .bad => .bad
def sFor (fi : MI) (t : Tm) (body : MS) : MS := fun ρ S => (fi ρ S).toS ρ fun a S' => forF t body a.2 a.1 0 ρ S'
theorem s_for {tg iter : Expr} {body : List Stmt} {fi : MI} {t : Tm} {fb : MS} {pos : Pos} (G : Gx Γ k X) (hi : PI X tg iter (rdI Γ W fi)) (hg : PG X tg (rdG Γ t)) (hb : PSs X body (rdS Γ W fb)) (hs : ∀ x, foldedSetIterable iter X.env x = pure x) :
    PS X (.For tg iter body [] pos) (rdS Γ W (sFor fi t fb)) := by
  refine PS.mono (ps_for G.ps G.calm hi hg hb hs) fun D σ H q => ?_
  obtain ⟨μ0, ρ0, S0, R0, f0⟩ := q
  refine FinS.cut R0 f0 fun μ1 H1 S1 a J R1 g1 r1 f1 => ?_
  refine ⟨fun i m σ H => ∃ μ ρ S, Rel Γ μ ρ S σ H ∧ Go μ1 H1 μ H ∧ FinS Γ W μ H (forF t fb a.2 m i ρ S) D, ⟨a.1, μ1, ρ0, S1, R1, Go.refl _ _, f1⟩, ?_⟩
  rintro i m σ H ⟨μ, ρ, S, R, g, f⟩
  cases m with
  | zero => exact f.elim
  | succ m =>
    have ok := r1 μ H S i g R.sto
    unfold forF at f
    cases e : a.2 i S with
    | none => rw [e] at f; exact f.elim
    | some o =>
      rw [e] at f ok
      cases o with
      | none => exact .inl ⟨ok, FinS.here f R⟩
      | some d =>
        refine .inr ⟨ok.1, fun σ' H' => ∃ μ ρ S, Rel Γ μ ρ S σ' H' ∧ Go μ1 H1 μ H' ∧ FinS Γ W μ H' (forF t fb a.2 m (i + 1) ρ S) D, fun σ' H' z => ⟨m, Nat.lt_succ_self m, z⟩, fun x H' y => ?_⟩
        obtain ⟨g2, s2, r2⟩ := ok.2 x H' y
        simp only at f
        cases e1 : t d ρ S with
        | none => rw [e1] at f; exact f.elim
        | some ρ1 =>
          rw [e1] at f
          simp only at f
          refine ⟨μ, ρ, S, d, ρ1, R.go g2 s2, r2, e1, fun σ' R' => ⟨μ, ρ1, S, R', ?_⟩⟩
          cases e2 : fb ρ1 S with
          | nx ρ2 S2 =>
            rw [e2] at f
            exact fun μ3 σ3 H3 g3 R3 => ⟨μ3, ρ2, S2, R3, (g.trans g2).trans g3, FinS.go (o := forF t fb a.2 m (i + 1) ρ2 S2) f (g2.trans g3)⟩
          | ct ρ2 S2 =>
            rw [e2] at f
            exact fun μ3 σ3 H3 g3 R3 => ⟨μ3, ρ2, S2, R3, (g.trans g2).trans g3, FinS.go (o := forF t fb a.2 m (i + 1) ρ2 S2) f (g2.trans g3)⟩
          | bk ρ2 S2 =>
            rw [e2] at f
            exact fun μ3 σ3 H3 g3 R3 => f μ3 σ3 H3 (g2.trans g3) R3
          | rt d' S2 =>
            rw [e2] at f
            exact fun μ3 H3 v g3 s3 r3 => f μ3 H3 v (g2.trans g3) s3 r3
          | exc ex ρ2 S2 =>
            rw [e2] at f
            exact fun μ3 σ3 H3 c d' g3 R3 er => f μ3 σ3 H3 c d' (g2.trans g3) R3 er
          | bad => rw [e2] at f; exact f.elim
/-! ### while -/
def whileF (c : M Bool) (body : MS) : Nat → MS
  | 0 => fun _ _ => .bad
  | m + 1 => fun ρ S => (c ρ S).toS ρ fun b S1 => if b then match body ρ S1 with
      | .nx ρ2 S2 => whileF c body m ρ2 S2
      | .ct ρ2 S2 => whileF c body m ρ2 S2
      | .bk ρ2 S2 => .nx ρ2 S2
      | .rt d S2 => .rt d S2
      | .exc x ρ2 S2 => .exc x ρ2 S2
      | .bad => .bad
    else .nx ρ S1
theorem s_while {c : Expr} {body : List Stmt} {fc : M Bool} {fb : MS} {pos : Pos} (n : Nat) (G : Gx Γ k X) (hc : PT X c (rdT Γ W fc)) (hb : PSs X body (rdS Γ W fb)) : PS X (.While c body [] pos) (rdS Γ W (whileF fc fb n)) := by
  refine PS.mono (ps_while G.ps hc hb) fun D σ H q => ?_
  obtain ⟨μ0, ρ0, S0, R0, f0⟩ := q
  refine ⟨fun m σ H => ∃ μ ρ S, Rel Γ μ ρ S σ H ∧ FinS Γ W μ H (whileF fc fb m ρ S) D, ⟨n, μ0, ρ0, S0, R0, f0⟩, ?_⟩
  rintro m σ H ⟨μ, ρ, S, R, f⟩
  cases m with
  | zero => exact f.elim
  | succ m =>
    unfold whileF at f
    refine FinS.cut R f fun μ1 H1 S1 a b R1 g1 r1 f1 => ?_
    subst r1
    cases b with
    | false => simp only [Bool.false_eq_true, if_false] at f1 ⊢; exact FinS.here f1 R1
    | true =>
      simp only [if_true] at f1 ⊢
      refine ⟨fun σ' H' => ∃ μ ρ S, Rel Γ μ ρ S σ' H' ∧ FinS Γ W μ H' (whileF fc fb m ρ S) D, fun σ' H' z => ⟨m, Nat.lt_succ_self m, z⟩, μ1, ρ, S1, R1, ?_⟩
      cases e2 : fb ρ S1 with
      | nx ρ2 S2 =>
        rw [e2] at f1
        exact fun μ3 σ3 H3 g3 R3 => ⟨μ3, ρ2, S2, R3, FinS.go (o := whileF fc fb m ρ2 S2) f1 g3⟩
      | ct ρ2 S2 =>
        rw [e2] at f1
        exact fun μ3 σ3 H3 g3 R3 => ⟨μ3, ρ2, S2, R3, FinS.go (o := whileF fc fb m ρ2 S2) f1 g3⟩
      | bk ρ2 S2 =>
        rw [e2] at f1
        exact fun μ3 σ3 H3 g3 R3 => f1 μ3 σ3 H3 g3 R3
      | rt d' S2 =>
        rw [e2] at f1
        exact fun μ3 H3 v g3 s3 r3 => f1 μ3 H3 v g3 s3 r3
      | exc ex ρ2 S2 =>
        rw [e2] at f1
        exact fun μ3 σ3 H3 c d' g3 R3 er => f1 μ3 σ3 H3 c d' g3 R3 er
      | bad => rw [e2] at f1; exact f1.elim

/-! ### lists, tuples, texts -/
def itL (xs : List D) : Nat × ItF := (xs.length + 1, fun i _ => some xs[i]?)
def itP (xs : List PyData) : Nat × ItF := (xs.length + 1, fun i _ => some (xs[i]?.map .p))
def itM (n : Nat) : Nat × ItF := (sizeLine + 1, fun i S => match S[n]? with
  | some (.lst ys) => some (ys[i]?.map .p)
  | _ => none)
def signs (x : Str) : List PyData := x.cps.toList.map fun c => .str ⟨#[c]⟩
def iterOf (a : D) (S : Store) : Option (Nat × ItF) := match a with
  | .p (.tuple xs) => some (itP xs)
  | .tup ds => some (itL ds)
  | .p (.list xs) => some (itP xs)
  | .ro xs => some (itP xs)
  | .p (.str x) => some (itP (signs x))
  | .loc n => match S[n]? with
    | some (.lst _) => some (itM n)
    | _ => none
  | _ => none
theorem it_frz {a : Addr} {vs : List V} {ds : List PyData} (h : FzL Γ.K H μ a vs) (r : RpAll Γ H μ vs ds) : IterOk Γ μ H (Itl Γ.K a) (itP ds).2 := by
  intro μ' H' S' i g st
  have h' := (g.fzl h).sq
  have r' := r.go g
  show match some (ds[i]?.map D.p) with | none => True | some none => _ | some (some d) => _
  cases e : ds[i]? with
  | none =>
    refine ⟨vs, h', ?_⟩
    rw [r.length]
    exact List.getElem?_eq_none_iff.mp e
  | some d =>
    obtain ⟨v, hv, rv⟩ := r'.of e
    refine ⟨⟨vs, v, h', hv⟩, fun x H2 y => ?_⟩
    obtain ⟨rfl, y⟩ := y
    have := y vs h'
    rw [hv] at this
    cases this
    exact ⟨Go.refl _ _, st, .p rv⟩
theorem it_tup {a : Addr} {vs : List V} {ds : List D} (h : FzX Γ.K H μ a vs) (r : RvAll Γ H μ vs ds) {it : ItF} (hi : ∀ i S, it i S = some ds[i]?) : IterOk Γ μ H (Itt Γ.K a) it := by
  intro μ' H' S' i g st
  have h' := (g.fzx h).sq
  have r' := r.go g
  rw [hi]
  cases e : ds[i]? with
  | none =>
    refine ⟨vs, h', ?_⟩
    rw [r.length]
    exact List.getElem?_eq_none_iff.mp e
  | some d =>
    obtain ⟨v, hv, rv⟩ := r'.of e
    refine ⟨⟨vs, v, h', hv⟩, fun x H2 y => ?_⟩
    obtain ⟨rfl, y⟩ := y
    have := y vs h'
    rw [hv] at this
    cases this
    exact ⟨Go.refl _ _, st, rv⟩
theorem it_mut {a : Addr} {n : Nat} (h : μ[n]? = some a) : IterOk Γ μ H (Itl Γ.K a) (itM n).2 := by
  intro μ' H' S' i g st
  obtain ⟨o, e1, m⟩ := st.ix (g.at h)
  show match (match S'[n]? with | some (.lst ys) => some (ys[i]?.map D.p) | _ => none) with | none => True | some none => _ | some (some d) => _
  rw [e1]
  cases o with
  | dic _ => trivial
  | lst ys =>
    obtain ⟨vs, h1, r⟩ := m
    have h' : SqL Γ.K H' a vs := SqL.of h1
    show match some (ys[i]?.map D.p) with | none => True | some none => _ | some (some d) => _
    cases e : ys[i]? with
    | none =>
      refine ⟨vs, h', ?_⟩
      rw [r.length]
      exact List.getElem?_eq_none_iff.mp e
    | some d =>
      obtain ⟨v, hv, rv⟩ := r.of e
      refine ⟨⟨vs, v, h', hv⟩, fun x H2 y => ?_⟩
      obtain ⟨rfl, y⟩ := y
      have := y vs h'
      rw [hv] at this
      cases this
      exact ⟨Go.refl _ _, st, .p rv⟩
theorem it_str {x : Str} : IterOk Γ μ H (Its x) (itP (signs x)).2 := by
  intro μ' H' S' i g st
  show match some ((signs x)[i]?.map D.p) with | none => True | some none => _ | some (some d) => _
  unfold signs
  rw [List.getElem?_map]
  rw [Array.getElem?_toList]
  cases e : x.cps[i]? with
  | none => exact Array.getElem?_eq_none_iff.mp e
  | some c =>
    refine ⟨(Array.getElem?_eq_some_iff.mp e).1, fun v H2 y => ?_⟩
    obtain ⟨rfl, c', hc, rfl⟩ := y
    rw [e] at hc
    cases hc
    exact ⟨Go.refl _ _, st, .p (.str _)⟩
def iSeq (f : M D) : MI := f.bind fun a => fun _ S => .of S (iterOf a S)
theorem i_seq {tg e : Expr} {f : M D} (G : Gx Γ k X) (he : PE X e (rdE Γ W f)) : PI X tg e (rdI Γ W (iSeq f)) := by
  refine ⟨fun ps sh sg hp R iv q => ?_⟩
  obtain ⟨μ, ρ, S, Rl, fin⟩ := q
  have fin : Fin Γ W (fun H μ J a => IterOk Γ μ H J a.2) μ sg hp ((f ρ S).bind fun a S' => .of S' (iterOf a S')) R := fin
  cases ef : f ρ S with
  | bad => rw [ef] at fin; exact fin.elim
  | exc x S1 =>
    rw [ef] at fin
    exact (pi_tup he).run ps sh sg hp R iv ⟨μ, ρ, S, Rl, by rw [ef]; exact fin⟩
  | ok a S1 =>
    rw [ef] at fin
    obtain ⟨z, ez, fin⟩ := Fin.of fin
    have read : ∀ Q : VK, (∀ μ' H' v, Go μ hp μ' H' → Sto Γ μ' S1 H' → Rv Γ H' μ' v a → Q v H') → rdE Γ W f sg hp Q := fun Q h => ⟨μ, ρ, S, Rl, by rw [ef]; exact h⟩
    have asT : (∀ μ' H' v, Go μ hp μ' H' → Sto Γ μ' S1 H' → Rv Γ H' μ' v a → ∃ b vs, v = .ref b ∧ SqT Γ.K H' b vs ∧ IterOk Γ μ' H' (Itt Γ.K b) z.2) → wpAny (model X.prog X.w) X.A (eval e X.env) (fun v s1 => wpAny (model X.prog X.w) X.A (pyIter v) (PIE X ps sg tg R) X.xe s1) X.xe sh := fun h =>
      (pi_tup he).run ps sh sg hp R iv (read _ fun μ' H' v g st r => by
        obtain ⟨b, vs, ev, sq, ok⟩ := h μ' H' v g st r
        rw [G.K]
        exact ⟨b, ev, ⟨vs, sq⟩, fin μ' H' _ g st ok⟩)
    have asL : (∀ μ' H' v, Go μ hp μ' H' → Sto Γ μ' S1 H' → Rv Γ H' μ' v a → ∃ b vs, v = .ref b ∧ SqL Γ.K H' b vs ∧ IterOk Γ μ' H' (Itl Γ.K b) z.2) → wpAny (model X.prog X.w) X.A (eval e X.env) (fun v s1 => wpAny (model X.prog X.w) X.A (pyIter v) (PIE X ps sg tg R) X.xe s1) X.xe sh := fun h =>
      (pi_list he).run ps sh sg hp R iv (read _ fun μ' H' v g st r => by
        obtain ⟨b, vs, ev, sq, ok⟩ := h μ' H' v g st r
        rw [G.K]
        exact ⟨b, ev, ⟨vs, sq⟩, fin μ' H' _ g st ok⟩)
    cases a with
    | p d =>
      cases d with
      | tuple xs =>
        cases ez
        refine asT fun μ' H' v g st r => ?_
        cases r with
        | p r => cases r with
          | tup h1 h2 => exact ⟨_, _, rfl, h1.sq, it_tup h1 h2.rv fun i S => by rw [List.getElem?_map]; rfl⟩
      | list xs =>
        cases ez
        refine asL fun μ' H' v g st r => ?_
        cases r with
        | p r => cases r with
          | lst h1 h2 h3 => exact ⟨_, _, rfl, SqL.of h1, it_frz (.inl ⟨.inl h1, h2⟩) h3⟩
      | str x =>
        cases ez
        refine (pi_str he).run ps sh sg hp R iv (read _ fun μ' H' v g st r => ?_)
        cases r with
        | p r => cases r; exact ⟨x, rfl, fin μ' H' _ g st it_str⟩
      | none => cases ez
      | bool _ => cases ez
      | int _ => cases ez
      | dict _ => cases ez
    | tup ds =>
      cases ez
      refine asT fun μ' H' v g st r => ?_
      cases r with
      | tup h1 h2 => exact ⟨_, _, rfl, h1.sq, it_tup h1 h2 fun i S => rfl⟩
    | pr _ => cases ez
    | ro xs =>
      cases ez
      refine asL fun μ' H' v g st r => ?_
      cases r with
      | ro h1 h2 => exact ⟨_, _, rfl, h1.sq, it_frz h1 h2⟩
    | loc n =>
      refine asL fun μ' H' v g st r => ?_
      cases r with
      | loc h1 =>
        obtain ⟨o, e1, m⟩ := st.ix h1
        simp only [iterOf, e1] at ez
        cases o with
        | dic _ => cases ez
        | lst ys =>
          cases ez
          obtain ⟨vs, h2, _⟩ := m
          exact ⟨_, vs, rfl, SqL.of h2, it_mut h1⟩
    | fn _ => cases ez
    | ty _ => cases ez
    | set _ => cases ez
/-! ### range -/
def itR (lo : Int) (n : Nat) : Nat × ItF := (n + 1, fun i _ => some (if i < n then some (.p (.int (lo + i))) else none))
theorem it_range {lo : Int} {n : Nat} : IterOk Γ μ H (Itr lo n) (itR lo n).2 := by
  intro μ' H' S' i g st
  show match some (if i < n then some (D.p (.int (lo + i))) else none) with | none => True | some none => _ | some (some d) => _
  by_cases h : i < n
  · rw [if_pos h]
    exact ⟨h, fun x H2 y => by obtain ⟨rfl, rfl⟩ := y; exact ⟨Go.refl _ _, st, .p (.int _)⟩⟩
  · rw [if_neg h]
    exact Nat.le_of_not_lt h
def inR (j : Int) : Bool := decide (-(2 ^ 62) ≤ j) && decide (j < 2 ^ 62)
theorem inR_of {j : Int} (h : inR j = true) : -(2 ^ 62) ≤ j ∧ j < 2 ^ 62 := by
  unfold inR at h
  rw [Bool.and_eq_true] at h
  exact ⟨of_decide_eq_true h.1, of_decide_eq_true h.2⟩
def rng1 (ds : List D) (_ : Store) : Option (Nat × ItF) := match ds with
  | [.p (.int j)] => if inR j then some (itR 0 j.toNat) else none
  | _ => none
def rng2 (ds : List D) (_ : Store) : Option (Nat × ItF) := match ds with
  | [.p (.int i), .p (.int j)] => if inR i && inR j then some (itR i (j - i).toNat) else none
  | _ => none
def iNs (g : List D → Store → Option (Nat × ItF)) (fa : M (List D)) : MI := fa.bind fun a => fun _ S => .of S (g a S)
theorem i_range1 {tg a : Expr} {fa : M (List D)} {p pos : Pos} (G : Gx Γ k X) (hg : Gl X "range") (hm : Γ.mg "range" = none) (ha : PA X [a] (rdA Γ W fa)) (hs : starEach [a] X.env = [(false, eval a X.env)]) : PI X tg (.Call (.Name "range" p) [a] [] pos) (rdI Γ W (iNs rng1 fa)) := by
  refine PI.mono (pi_range1 hg (by rw [G.mg]; exact hm) ha hs) fun σ H R q => ?_
  refine rd.cut q fun μ ρ H1 S1 ds xs R1 ra f1 => ?_
  obtain ⟨z, e, f3⟩ := f1.of
  unfold rng1 at e
  split at e
  · split at e
    · rename_i hr
      cases e
      obtain ⟨v, rfl, rv⟩ := ra.one
      cases rv with
      | p hp =>
        cases hp
        exact ⟨_, rfl, (inR_of hr).1, (inR_of hr).2, Fin.here f3 R1.sto it_range⟩
    · cases e
  · cases e
theorem i_range2 {tg a b : Expr} {fa : M (List D)} {p pos : Pos} (G : Gx Γ k X) (hg : Gl X "range") (hm : Γ.mg "range" = none) (ha : PA X [a, b] (rdA Γ W fa)) (hs : starEach [a, b] X.env = [(false, eval a X.env), (false, eval b X.env)]) (hs2 : starEach [b] X.env = [(false, eval b X.env)]) : PI X tg (.Call (.Name "range" p) [a, b] [] pos) (rdI Γ W (iNs rng2 fa)) := by
  refine PI.mono (pi_range2 hg (by rw [G.mg]; exact hm) ha hs hs2) fun σ H R q => ?_
  refine rd.cut q fun μ ρ H1 S1 ds xs R1 ra f1 => ?_
  obtain ⟨z, e, f3⟩ := f1.of
  unfold rng2 at e
  split at e
  · split at e
    · rename_i hr
      cases e
      rw [Bool.and_eq_true] at hr
      obtain ⟨v, w', rfl, rv, rw'⟩ := ra.two
      cases rv with
      | p hp =>
        cases hp
        cases rw' with
        | p hp =>
          cases hp
          exact ⟨_, _, rfl, ⟨(inR_of hr.1).1, (inR_of hr.1).2, (inR_of hr.2).1, (inR_of hr.2).2⟩, Fin.here f3 R1.sto it_range⟩
    · cases e
  · cases e
end
end Fp

set_option Elab.async false
set_option linter.all false
set_option autoImplicit false
set_option maxRecDepth 100000
/-! Fp: enumerate. -/
namespace Fp
open PySem L2
/-- enumerate(v), v anything of which it is known how its iterator comes to be -/
theorem enum_one {v : Value} {made : Obj} {Ok : Heap → Prop} (bg : Begins v made Ok) : Meets (Builtin.«enumerate.__new__» ⟨[.type "enumerate", v], []⟩) fun _ Post sh => Ok sh.heap ∧
    Post (.ok (.ret (.ref (sh.heap.objs.size + 1)))) { sh with heap := (sh.heap.push made).push { cls := .type "enumerate", data := .fields #[.none, .bool false, .ref sh.heap.objs.size, rawInt 0, .none, .none] } } :=
  .of_wp fun prog w A Post sh want => by
    have sub := sub_enumerate
    have next : (sh.heap.push made).objs.size = sh.heap.objs.size + 1 := Heap.size_push ..
    have iter : ∀ {A : Around} {E : Value → Shared → Prop} {Q : Value → Shared → Prop}, Q (.ref sh.heap.objs.size) { sh with heap := sh.heap.push made } → wpAny (model prog w) A (pyIter v) Q E sh := fun q => bg.iter prog w _ _ sh _ want.1 q
    have last := want.2
    rw [← next] at last
    obtain ⟨hp, gens, drawn, toks, os⟩ := sh
    wp_walk
    refine wpAny_stack_any fun frames => wpAny_pure ?_
    split
    · rename_i cls _ _ _ _ _
      cases (cls == Value.type "enumerate") <;> (wp_walk using iter; exact ⟨_, rfl, last⟩)
    · wp_walk using iter
      exact ⟨_, rfl, last⟩
theorem enum_make {prog : Program} {w : World} {A : Around} {E : Value → Shared → Prop} {sh : Shared} {v : Value} {made : Obj} {Ok : Heap → Prop} {Q : Value → Shared → Prop} (bg : Begins v made Ok) (ok : Ok sh.heap)
    (q : ∀ h', IsEnum h' (sh.heap.objs.size + 1) sh.heap.objs.size 0 .none → h'.get? sh.heap.objs.size = some made → (∀ b o, sh.heap.get? b = some o → h'.get? b = some o) → Q (.ref (sh.heap.objs.size + 1)) { sh with heap := h' }) :
    wpAny (model prog w) A (call (.type "enumerate") [v]) Q E sh := by
  have at1 := Heap.get?_push_size (sh.heap.push made) (o := { cls := .type "enumerate", data := .fields #[.none, .bool false, .ref sh.heap.objs.size, rawInt 0, .none, .none] }) rfl
  rw [show (sh.heap.push made).objs.size = sh.heap.objs.size + 1 from Heap.size_push ..] at at1
  exact callType_new F.called_enumerate (by decide) (F.typeCall_enumerate_1 _) (F.newCall_enumerate_1 _) (fun obj => F.args_object_init_2 obj _) F.entry_enumerate_new (enum_one bg)
    ⟨ok, ⟨_, at1, rfl⟩, q _ at1 (Heap.get?_push_of_some _ (Heap.get?_push_size _ bg.free)) fun b o z => Heap.get?_push_of_some _ (Heap.get?_push_of_some _ z)⟩
/-- the tuple at a, each item in a new pair with its number -/
def IteT (K : PySem.W.Frag) (a : Addr) : It where
  go i hp := ∃ (xs : List V) (x : V), SqT K hp a xs ∧ xs[i]? = some x
  yld i hp v hp' := ∃ T x, v = .ref T ∧ hp T = none ∧ hp' = upd hp T (.tup [.int (i : Nat), x]) ∧ ∀ xs, SqT K hp a xs → xs[i]? = some x
  stop i hp := ∃ xs : List V, SqT K hp a xs ∧ xs.length = i
theorem enum_turn {P : Program} {w : World} {K : PySem.W.Frag} {elts : List Expr} {kk : Nat} {tpos : Pos} (a e it : Addr) (a_it : a ≠ it) (a_e : a ≠ e) (e_it : e ≠ it) :
    Turn P w K (.Tuple elts kk tpos) (IteT K a) [e, it] e fun i h => (∃ old, IsEnum h e it ((i : Nat) : Int) old) ∧ h.IsTupleIter it a i := by
  have walk : ∀ (A : Around), A.handled = none → ∀ us : List Value, WalksT P w A e (e :: [it, a]) [e, it] us.toArray.size _ _ _ := fun A calm us =>
    WalksT.enumerateD (Draws.tuple (prog := P) (w := w) (A := A.in1) calm it a a_it us.toArray) e e_it (by simp [e_it, Ne.symm a_e]) (by simp)
  refine ⟨by simp, fun i h tn b mem => ?_, fun i h h' tn keep => ?_, ?_, ?_, fun A i sh Q E tn q => wpAny_pyIter_enum tn.1.choose_spec q⟩
  · obtain ⟨⟨old, en⟩, oi, gi, _, di⟩ := tn
    simp only [List.mem_cons, List.not_mem_nil, or_false] at mem
    rcases mem with rfl | rfl
    · exact ⟨_, en, fun _ z => by cases z⟩
    · exact ⟨oi, gi, fun _ z => by rw [di] at z; cases z⟩
  · obtain ⟨⟨old, en⟩, ti⟩ := tn
    exact ⟨⟨old, keep e (by simp) _ en⟩, ti.at fun o z => keep it (by simp) o z⟩
  · rintro X rfl rfl rfl calm i ps sh sg hp E iv own ⟨en, ti⟩ ⟨xs, x, sq, at_⟩
    obtain ⟨us, rel, isT, _⟩ := iv.tuple sq
    obtain ⟨u, u_at, u_rel⟩ := rel.get at_
    have wk := walk X.A (iv.ok.hd calm) us
    refine wk.item i sh _ E (by simpa using (List.getElem?_eq_some_iff.mp u_at).1) ⟨en, ti, isT⟩ fun T vals h1 tk pv young isT1 mid kept => ⟨.ref T, rfl, ?_⟩
    refine wk.go elts kk tpos i T { sh with heap := h1, toks := tk } _ E mid fun h2 st2 kept2 => ?_
    obtain ⟨tok, u', u'_at, rfl⟩ := pv
    obtain rfl : u' = u := by
      have z : us[i]? = some u' := by simpa using u'_at
      rw [u_at] at z
      exact (Option.some.inj z).symm
    have pair : ObjOk X.prog X.w (upd hp T (.tup [.int (i : Nat), x])) h2 T (.tup [.int (i : Nat), x]) :=
      ⟨by show 2 ≤ sizeLine; decide, [.int i tok, u'], .cons ⟨tok, rfl⟩ (.cons u_rel .nil), isT1.at fun o z => kept2 T o (wk.apart i T h1 mid) z⟩
    refine ⟨.ref T, _, iv.turnedNew (t' := tk) (ch := [e, it]) (fun b o nb z => kept2 b o nb (kept b o nb z)) own young pair, rfl, ⟨T, x, rfl, iv.hok.fresh young, rfl, fun ys sq' => by rw [iv.tuple_inj sq' sq]; exact at_⟩, ⟨st2.1, st2.2.1⟩, fun b mem => ?_⟩
    have old : b < sh.heap.objs.size := by
      simp only [List.mem_cons, List.not_mem_nil, or_false] at mem
      rcases mem with rfl | rfl
      · exact Heap.lt_size en.choose_spec
      · exact Heap.lt_size ti.choose_spec.1
    rw [upd_ne (Nat.ne_of_lt (Nat.lt_of_lt_of_le old young))]
    exact (own b mem).1
  · rintro X rfl rfl rfl calm i ps sh sg hp E iv own ⟨en, ti⟩ ⟨xs, sq, len⟩
    obtain ⟨us, rel, isT, _⟩ := iv.tuple sq
    have size : i = us.toArray.size := by rw [List.size_toArray, ← rel.length, len]
    subst size
    exact (walk X.A (iv.ok.hd calm) us).done sh _ E ⟨en, ti, isT⟩ fun h' tk kept => ⟨rfl, iv.turnedL (t' := tk) (ch := [e, it]) kept own⟩
section
variable {Γ : Gam} {k : Nat} {W : WX} {μ μ' : List Addr} {S S' : Store} {H H' : Hp} {σ : St} {ρ : Slots} {X : Cx} {pins : List (Addr × Obj)} {s : Shared}
def itE (xs : List PyData) : Nat × ItF := (xs.length + 1, fun i _ => if i ≤ xs.length then some (xs[i]?.map fun x => .pr [.int (i : Nat), x]) else none)
/-- enumerate(x) -/
def enumOf (ds : List D) (S : Store) : Option (Nat × ItF) := match ds with
  | [.p (.tuple xs)] => some (itE xs)
  | [.p (.list xs)] => some (itE xs)
  | [.ro xs] => some (itE xs)
  | _ => none
theorem it_enumT {a : Addr} {vs : List V} {ds : List PyData} (h : FzX Γ.K H μ a vs) (r : RpAll Γ H μ vs ds) : IterOk Γ μ H (IteT Γ.K a) (itE ds).2 := by
  intro μ' H' S' i g st
  have h' := (g.fzx h).sq
  have r' := r.go g
  show match (if i ≤ ds.length then some (ds[i]?.map fun x => D.pr [.int (i : Nat), x]) else none) with | none => True | some none => _ | some (some d) => _
  by_cases hi : i ≤ ds.length
  · rw [if_pos hi]
    cases e : ds[i]? with
    | none =>
      refine ⟨vs, h', ?_⟩
      rw [r.length]
      have := List.getElem?_eq_none_iff.mp e
      omega
    | some d =>
      obtain ⟨v, hv, rv⟩ := r'.of e
      refine ⟨⟨vs, v, h', hv⟩, fun x H2 y => ?_⟩
      obtain ⟨T, x', rfl, hT, rfl, y⟩ := y
      have := y vs h'
      rw [hv] at this
      cases this
      have gg := Go.lay μ' hT (.tup [.int (i : Nat), v])
      exact ⟨gg, st.lay hT _, .pr (.inl ⟨.inl upd_same, st.out hT⟩) (.cons (.int _) (.cons (rv.go gg) .nil))⟩
  · rw [if_neg hi]
    trivial
theorem it_enumL {a : Addr} {vs : List V} {ds : List PyData} (h : FzL Γ.K H μ a vs) (r : RpAll Γ H μ vs ds) : IterOk Γ μ H (Ite Γ.K a) (itE ds).2 := by
  intro μ' H' S' i g st
  have h' := (g.fzl h).sq
  have r' := r.go g
  show match (if i ≤ ds.length then some (ds[i]?.map fun x => D.pr [.int (i : Nat), x]) else none) with | none => True | some none => _ | some (some d) => _
  by_cases hi : i ≤ ds.length
  · rw [if_pos hi]
    cases e : ds[i]? with
    | none =>
      refine ⟨vs, h', ?_⟩
      rw [r.length]
      exact List.getElem?_eq_none_iff.mp e
    | some d =>
      obtain ⟨v, hv, rv⟩ := r'.of e
      refine ⟨⟨vs, v, h', hv⟩, fun x H2 y => ?_⟩
      obtain ⟨T, x', rfl, hT, rfl, y⟩ := y
      have := y vs h'
      rw [hv] at this
      cases this
      have gg := Go.lay μ' hT (.tup [.int (i : Nat), v])
      exact ⟨gg, st.lay hT _, .pr (.inl ⟨.inl upd_same, st.out hT⟩) (.cons (.int _) (.cons (rv.go gg) .nil))⟩
  · rw [if_neg hi]
    trivial
theorem i_enum {e : Expr} {fa : M (List D)} {p pos tpos : Pos} {elts : List Expr} {kk : Nat} (G : Gx Γ k X) (hg : Gl X "enumerate") (hm : Γ.mg "enumerate" = none) (ha : PA X [e] (rdA Γ W fa)) (hs : starEach [e] X.env = [(false, eval e X.env)]) :
    PI X (.Tuple elts kk tpos) (.Call (.Name "enumerate" p) [e] [] pos) (rdI Γ W (iNs enumOf fa)) := by
  refine ⟨fun ps sh sg hp R iv q => ?_⟩
  have q : rdA Γ W fa sg hp fun xs H1 => ∃ μ S ds z, Sto Γ μ S H1 ∧ RvAll Γ H1 μ xs ds ∧ enumOf ds S = some z ∧ ∀ J, IterOk Γ μ H1 J z.2 → R J H1 := by
    refine rd.cut q fun μ ρ H1 S1 a x R1 ra f1 => ?_
    obtain ⟨z, e, f3⟩ := f1.of
    exact ⟨μ, S1, a, z, R1.sto, ra, e, fun J ok => Fin.here f3 R1.sto ok⟩
  refine PyProof.Rows.Call_ (ld_blt iv hg (by rw [G.mg]; exact hm) PyProof.Rows.boot_enumerate (PyProof.Rows.callWith_type1 (thn (ha.run pos ps sh sg hp _ iv q) fun us s1 ⟨vs, H1, iv1, r1, μ, S, ds, z, st, ra, ez, end_⟩ => ?_) hs rfl))
  have young : ∀ b ∈ [s1.heap.objs.size + 1, s1.heap.objs.size], FpOk X ps H1 b := fun b mem => by
    have le : s1.heap.objs.size ≤ b := by
      simp only [List.mem_cons, List.not_mem_nil, or_false] at mem
      omega
    exact iv1.fpOk le (iv1.hok.fresh le)
  have ofL : ∀ {a' : Addr} {ys : List V}, us = [.ref a'] → SqL Γ.K H1 a' ys → R (Ite Γ.K a') H1 → wpAny (model X.prog X.w) X.A (call (.type "enumerate") us) (fun v s2 => wpAny (model X.prog X.w) X.A (pyIter v) (PIE X ps sg (.Tuple elts kk tpos) R) X.xe s2) X.xe s1 := fun {a' ys} eu sq rr => by
    subst eu
    rw [← G.K] at sq rr
    obtain ⟨_, _, isl, _⟩ := iv1.list sq
    exact enum_make (begins_list a' _) isl.isList fun h' en oi kept => wpAny_pyIter_enum en
      ⟨_, _, _, _, H1, rfl, iv1.kept (t' := s1.toks) kept, turn_enum a' (s1.heap.objs.size + 1) s1.heap.objs.size, ⟨⟨.none, en⟩, ⟨_, oi, rfl, rfl⟩, Nat.succ_ne_self _⟩, young, rr⟩
  have ofT : ∀ {a' : Addr} {ys : List V}, us = [.ref a'] → SqT Γ.K H1 a' ys → R (IteT Γ.K a') H1 → wpAny (model X.prog X.w) X.A (call (.type "enumerate") us) (fun v s2 => wpAny (model X.prog X.w) X.A (pyIter v) (PIE X ps sg (.Tuple elts kk tpos) R) X.xe s2) X.xe s1 := fun {a' ys} eu sq rr => by
    subst eu
    rw [← G.K] at sq rr
    obtain ⟨us', _, isT, _⟩ := iv1.tuple sq
    have isT : s1.heap.IsTuple a' us'.toArray := isT
    have lt : a' < s1.heap.objs.size := Heap.lt_size isT.choose_spec.1
    exact enum_make (begins_tuple a' _) isT fun h' en oi kept => wpAny_pyIter_enum en
      ⟨_, _, _, _, H1, rfl, iv1.kept (t' := s1.toks) kept, enum_turn a' (s1.heap.objs.size + 1) s1.heap.objs.size (Nat.ne_of_lt lt) (Nat.ne_of_lt (Nat.lt_succ_of_lt lt)) (Nat.succ_ne_self _), ⟨⟨.none, en⟩, _, oi, rfl, rfl⟩, young, rr⟩
  unfold enumOf at ez
  split at ez <;> cases ez
  · obtain ⟨v, rfl, rv⟩ := ra.one
    cases rv with
    | p dp => cases dp with
      | tup h1 h2 => exact ofT r1.ref1 h1.sq (end_ _ (it_enumT h1 h2))
  · obtain ⟨v, rfl, rv⟩ := ra.one
    cases rv with
    | p dp => cases dp with
      | lst h1 h2 h3 => exact ofL r1.ref1 (SqL.of h1) (end_ _ (it_enumL (.inl ⟨.inl h1, h2⟩) h3))
  · obtain ⟨v, rfl, rv⟩ := ra.one
    cases rv with
    | ro h1 h2 => exact ofL r1.ref1 h1.sq (end_ _ (it_enumL h1 h2))
end
end Fp

set_option Elab.async false
set_option linter.all false
set_option autoImplicit false
set_option maxRecDepth 100000
/-! Fp: what a block leaves behind; list comprehensions. -/
namespace Fp
open PySem L2
section
variable {Γ : Gam} {k : Nat} {W : WX} {μ μ' ν : List Addr} {S S' : Store} {H H' : Hp} {σ : St} {ρ : Slots} {X : Cx} {pins : List (Addr × Obj)} {s : Shared}

/-! ### fewer objects that may change -/
mutual
theorem Rp.less (h : ∀ a, a ∈ μ → a ∈ μ') : ∀ {v : V} {d : PyData}, Rp Γ H μ' v d → Rp Γ H μ v d
  | _, _, .non => .non
  | _, _, .bl b => .bl b
  | _, _, .int i => .int i
  | _, _, .str x => .str x
  | _, _, .lst e n r => .lst e (fun z => n (h _ z)) (RpAll.less h r)
  | _, _, .tup e r => .tup (e.elim (fun z => .inl ⟨z.1, fun y => z.2 (h _ y)⟩) .inr) (RpAll.less h r)
  | _, _, .dic e n r1 r2 q1 q2 => .dic e (fun z => n (h _ z)) (RpAll.less h r1) (RpAll.less h r2) q1 q2
theorem RpAll.less (h : ∀ a, a ∈ μ → a ∈ μ') : ∀ {vs : List V} {ds : List PyData}, RpAll Γ H μ' vs ds → RpAll Γ H μ vs ds
  | _, _, .nil => .nil
  | _, _, .cons e r => .cons (Rp.less h e) (RpAll.less h r)
end
theorem MoOk.less (h : ∀ a, a ∈ μ → a ∈ μ') {a : Addr} {o : MO} (m : MoOk Γ H μ' a o) : MoOk Γ H μ a o := by
  cases o with
  | lst xs => obtain ⟨vs, e, r⟩ := m; exact ⟨vs, e, r.less h⟩
  | dic kvs => obtain ⟨ks, vs, nk, ds, es, q, r1, r2, r3⟩ := m; exact ⟨ks, vs, nk, ds, es, q, r1.less h, r2.less h, r3⟩
theorem Sto.cut (st : Sto Γ (μ ++ ν) S H) {n : Nat} (hn : μ.length = n) : Sto Γ μ (S.take n) H := by
  have hl := st.len
  rw [List.length_append] at hl
  refine ⟨by rw [List.length_take]; omega, (List.nodup_append.mp st.nd).1, fun i a o h1 h2 => ?_⟩
  have hi := (List.getElem?_eq_some_iff.mp h1).1
  rw [List.getElem?_take_of_lt (by omega)] at h2
  exact (st.at_ i a o (by rw [List.getElem?_append_left hi]; exact h1) h2).less fun b hb => List.mem_append_left _ hb
theorem Go.cut (g : Go μ H μ' H') : Go μ H μ H' := ⟨⟨[], by simp, by simp⟩, g.keep, g.there⟩
/-- the data of a value that nobody changes beyond n -/
def frz (n : Nat) (S : Store) : D → Option PyData
  | .p y => some y
  | .loc j => if n ≤ j then view S (.loc j) else none
  | _ => none
theorem Rv.frz {v : V} {d : D} {y : PyData} {n : Nat} (st : Sto Γ (μ ++ ν) S H) (hn : μ.length = n) (r : Rv Γ H (μ ++ ν) v d) (e : frz n S d = some y) : Rp Γ H μ v y := by
  have hs : ∀ a, a ∈ μ → a ∈ μ ++ ν := fun a h => List.mem_append_left _ h
  cases r with
  | p h => cases e; exact h.less hs
  | loc h =>
    rename_i j a
    simp only [Fp.frz] at e
    split at e
    · rename_i hj
      have ha : a ∉ μ := fun z => by
        rw [List.getElem?_append_right (by omega)] at h
        exact (List.nodup_append.mp st.nd).2.2 a z a (List.mem_of_getElem? h) rfl
      obtain ⟨o, e1, m⟩ := st.ix h
      simp only [view, e1] at e
      cases o with
      | lst xs =>
        cases e
        obtain ⟨vs, e2, r2⟩ := m
        exact .lst e2 ha (r2.less hs)
      | dic kvs =>
        cases e
        obtain ⟨ks, vs, nk, ds, es, q, r1, r2, r3, r4⟩ := m
        exact .dic q ha (r1.less hs) (r2.less hs) r3 r4
    · cases e
  | _ => cases e
mutual
/-- no object beyond n -/
def D.low (n : Nat) : D → Bool
  | .loc j => decide (j < n)
  | .tup ds => D.lows n ds
  | _ => true
def D.lows (n : Nat) : List D → Bool
  | [] => true
  | d :: ds => D.low n d && D.lows n ds
end
mutual
theorem Rv.low {n : Nat} (hn : μ.length = n) : ∀ {v : V} {d : D}, Rv Γ H (μ ++ ν) v d → D.low n d = true → Rv Γ H μ v d
  | _, _, .p h, _ => .p (h.less fun a z => List.mem_append_left _ z)
  | _, _, .fn h, _ => .fn h
  | _, _, .ty m, _ => .ty m
  | _, _, .loc h, e => .loc (by
    rw [D.low] at e
    have := of_decide_eq_true e
    rw [List.getElem?_append_left (by omega)] at h
    exact h)
  | _, _, .pr h r, _ => .pr (h.elim (fun z => .inl ⟨z.1, fun y => z.2 (List.mem_append_left _ y)⟩) .inr) (r.less fun a z => List.mem_append_left _ z)
  | _, _, .ro h r, _ => .ro (h.elim (fun z => .inl ⟨z.1, fun y => z.2 (List.mem_append_left _ y)⟩) .inr) (r.less fun a z => List.mem_append_left _ z)
  | _, _, .tup h r, e => .tup (h.elim (fun z => .inl ⟨z.1, fun y => z.2 (List.mem_append_left _ y)⟩) .inr) (RvAll.low hn r (by rw [D.low] at e; exact e))
theorem RvAll.low {n : Nat} (hn : μ.length = n) : ∀ {vs : List V} {ds : List D}, RvAll Γ H (μ ++ ν) vs ds → D.lows n ds = true → RvAll Γ H μ vs ds
  | _, _, .nil, _ => .nil
  | _, _, .cons h r, e => by
    rw [D.lows, Bool.and_eq_true] at e
    exact .cons (Rv.low hn h e.1) (RvAll.low hn r e.2)
end

/-! ### targets, with the slots that they write -/
def Off (is : List Nat) (σ σ' : St) : Prop := σ'.length = σ.length ∧ ∀ j : Nat, j ∉ is → σ'[j]? = σ[j]?
def rdGi (Γ : Gam) (is : List Nat) (t : Tm) : TG := fun v σ H Q => ∃ μ ρ S d ρ', Rel Γ μ ρ S σ H ∧ Rv Γ H μ v d ∧ t d ρ S = some ρ' ∧ ∀ σ', Rel Γ μ ρ' S σ' H → Off is σ σ' → Q σ' H
def rdGis (Γ : Gam) (is : List Nat) (t : Tms) : TGs := fun vs σ H Q => ∃ μ ρ S ds ρ', Rel Γ μ ρ S σ H ∧ RvAll Γ H μ vs ds ∧ t ds ρ S = some ρ' ∧ ∀ σ', Rel Γ μ ρ' S σ' H → Off is σ σ' → Q σ' H
theorem g_of {e : Expr} {is : List Nat} {t : Tm} (h : PG X e (rdGi Γ is t)) : PG X e (rdG Γ t) := PG.mono h fun v σ H Q q => by
  obtain ⟨μ, ρ, S, d, ρ', R, r, e, f⟩ := q
  exact ⟨μ, ρ, S, d, ρ', R, r, e, fun σ' R' _ => f σ' R'⟩
theorem gi_name {i : Nat} {x : Str} {pos : Pos} (hN : X.N.Nodup) (hi : X.N[i]? = some x) (hx : Loc X.env.scope x) (hf : X.fn x = true ∨ X.env.scope.names.lookup x = some .local) : PG X (.Name x pos) (rdGi Γ [i] (tName i)) := PG.mono (pg_name hN hi hx hf) fun v σ H Q q => by
  obtain ⟨μ, ρ, S, d, ρ', R, r, e, f⟩ := q
  unfold tName at e
  split at e
  · rename_i hl
    cases e
    exact f _ (R.set r hl) ⟨List.length_set, fun j hj => List.getElem?_set_ne fun z => hj (by rw [z]; exact List.mem_singleton_self _)⟩
  · cases e
theorem gis_nil : PGs X [] (rdGis Γ [] tsNil) := PGs.mono pgs_nil fun vs σ H Q q => by
  obtain ⟨μ, ρ, S, ds, ρ', R, r, e, f⟩ := q
  unfold tsNil at e
  split at e
  · cases e
    cases r
    exact ⟨rfl, f _ R ⟨rfl, fun _ _ => rfl⟩⟩
  · cases e
theorem gis_cons {e : Expr} {es : List Expr} {is js : List Nat} {t : Tm} {u : Tms} (h1 : PG X e (rdGi Γ is t)) (h2 : PGs X es (rdGis Γ js u)) (hs : (assignEach (e :: es) X.env).map (·.2) = assign e X.env :: (assignEach es X.env).map (·.2)) : PGs X (e :: es) (rdGis Γ (is ++ js) (tsCons t u)) := by
  refine PGs.mono (pgs_cons h1 h2 hs) fun vs σ H Q q => ?_
  obtain ⟨μ, ρ, S, ds, ρ', R, r, e, f⟩ := q
  cases r with
  | nil => cases e
  | cons q1 q2 =>
    obtain ⟨ρ1, e1, e2⟩ := Option.bind_eq_some_iff.mp e
    refine ⟨_, _, rfl, μ, ρ, S, _, ρ1, R, q1, e1, fun σ1 R1 k1 => ⟨μ, ρ1, S, _, ρ', R1, q2, e2, fun σ2 R2 k2 => f σ2 R2 ⟨k2.1.trans k1.1, fun j hj => ?_⟩⟩⟩
    rw [k2.2 j fun z => hj (List.mem_append_right _ z), k1.2 j fun z => hj (List.mem_append_left _ z)]
theorem gi_tup {es : List Expr} {kk : Nat} {is : List Nat} {t : Tms} {n : Nat} {pos : Pos} (G : Gx Γ k X) (h : PGs X es (rdGis Γ is t)) (hn : (assignEach es X.env).length = n) (hst : (assignEach es X.env).findIdx? (·.1) = none) : PG X (.Tuple es kk pos) (rdGi Γ is (tTupM n t)) := by
  refine PG.mono (pg_tup G.calm h hn hst) fun v σ H Q q => ?_
  obtain ⟨μ, ρ, S, d, ρ', R, r, e, f⟩ := q
  unfold tTupM at e
  split at e
  · split at e
    · rename_i hl
      cases r with
      | p hp =>
        cases hp with
        | tup h1 h2 => exact ⟨_, _, rfl, by rw [G.K]; exact h1.sq, by rw [h2.length]; exact hl, μ, ρ, S, _, ρ', R, h2.rv, e, f⟩
    · cases e
  · split at e
    · rename_i hl
      cases r with
      | tup h1 h2 => exact ⟨_, _, rfl, by rw [G.K]; exact h1.sq, by rw [h2.length]; exact hl, μ, ρ, S, _, ρ', R, h2, e, f⟩
    · cases e
  · split at e
    · rename_i hl
      cases r with
      | pr h1 h2 => exact ⟨_, _, rfl, by rw [G.K]; exact h1.sq, by rw [h2.length]; exact hl, μ, ρ, S, _, ρ', R, h2.rv, e, f⟩
    · cases e
  · cases e

/-! ### list comprehensions -/
def wipeD (ρ : Slots) (vs : List Nat) : Slots := ρ.mapIdx fun i x => if i ∈ vs then none else x
theorem wipeD_length (ρ : Slots) (vs : List Nat) : (wipeD ρ vs).length = ρ.length := List.length_mapIdx
theorem wipeD_some {i : Nat} {x : D} {vs : List Nat} (h : (wipeD ρ vs)[i]? = some (some x)) : ρ[i]? = some (some x) ∧ i ∉ vs := by
  unfold wipeD at h
  rw [List.getElem?_mapIdx] at h
  obtain ⟨y, hy, e⟩ := Option.map_eq_some_iff.mp h
  by_cases c : i ∈ vs
  · rw [if_pos c] at e; cases e
  · rw [if_neg c] at e; subst e; exact ⟨hy, c⟩
theorem wipe_in {σ : St} {i : Nat} : ∀ {vs : List Nat}, i ∈ vs → i < σ.length → (wipe σ vs)[i]? = some none
  | v :: vs, h, hl => by
    unfold wipe
    by_cases hv : v = i
    · subst hv
      exact List.getElem?_set_self (by rw [wipe_length]; exact hl)
    · rw [List.getElem?_set_ne hv]
      exact wipe_in ((List.mem_cons.mp h).resolve_left fun z => hv z.symm) hl
theorem wipe_eq {σ σ' : St} {vs : List Nat} (hl : σ'.length = σ.length) (h : ∀ j : Nat, j ∉ vs → σ'[j]? = (wipe σ vs)[j]?) : wipe σ' vs = wipe σ vs := by
  apply List.ext_getElem?
  intro j
  by_cases hj : j ∈ vs
  · by_cases hl' : j < σ.length
    · rw [wipe_in hj hl', wipe_in hj (by rw [hl]; exact hl')]
    · rw [List.getElem?_eq_none (by rw [wipe_length]; omega), List.getElem?_eq_none (by rw [wipe_length]; omega)]
  · rw [wipe_out hj]
    exact h j hj
theorem Rel.wipe {vs : List Nat} (R : Rel Γ μ ρ S σ H) : Rel Γ μ (wipeD ρ vs) S (L2.wipe σ vs) H :=
  ⟨R.sto, by rw [wipe_length, wipeD_length, R.len], fun i d e => by
    obtain ⟨e1, e2⟩ := wipeD_some e
    obtain ⟨v, h1, h2⟩ := R.env i d e1
    exact ⟨v, by rw [wipe_out e2]; exact h1, h2⟩⟩
def compF (t : Tm) (c : M Bool) (fe : M D) (it : ItF) (n : Nat) (ρ : Slots) : Nat → Nat → Store → Option Store
  | 0, _, _ => none
  | m + 1, i, S => match it i S with
    | none => none
    | some none => some S
    | some (some d) => match t d ρ S with
      | none => none
      | some ρ1 => match c ρ1 S with
        | .ok false S1 => compF t c fe it n ρ m (i + 1) (S1.take (n + 1))
        | .ok true S1 => match fe ρ1 S1 with
          | .ok d S2 => match S2[n]?, frz (n + 1) S2 d with
            | some (.lst acc), some y => if acc.length < sizeLine then compF t c fe it n ρ m (i + 1) ((S2.take (n + 1)).set n (.lst (acc ++ [y]))) else none
            | _, _ => none
          | _ => none
        | _ => none
def endC (th : Bool) (n : Nat) (o : Option Store) : Out D := match o with
  | none => .bad
  | some S => if th then .ok (.loc n) S else match S[n]? with
    | some (.lst acc) => .ok (.p (.list acc)) (S.take n)
    | _ => .bad
def eComp (th : Bool) (fi : MI) (t : Tm) (c : M Bool) (fe : M D) (vs : List Nat) : M D := fi.bind fun a => fun ρ S => endC th S.length (compF t c fe a.2 S.length (wipeD ρ vs) a.1 0 (S ++ [.lst []]))
abbrev wNo : WX := fun _ _ _ _ => False
theorem comp_of {th : Bool} {fi : MI} {t : Tm} {c : M Bool} {fe : M D} {vs is : List Nat} {Q : VK} (hv : ∀ i ∈ is, i ∈ vs) (q : rdE Γ W (eComp th fi t c fe vs) σ H Q) : tLc (rdI Γ W fi) (rdGi Γ is t) (rdT Γ wNo c) (rdE Γ wNo fe) vs σ H Q := by
  refine rd.cut q fun μ ρ H1 S1 a J R1 ok f1 => ?_
  intro L hL
  have hn : μ.length = S1.length := R1.sto.len
  have hat : (μ ++ [L])[S1.length]? = some L := by rw [← hn, List.getElem?_append_right (Nat.le_refl _), Nat.sub_self]; rfl
  have hn1 : (μ ++ [L]).length = S1.length + 1 := by rw [List.length_append, hn]; rfl
  have mem : L ∈ μ ++ [L] := by simp
  cases eC : compF t c fe a.2 S1.length (wipeD ρ vs) a.1 0 (S1 ++ [.lst []]) with
  | none => rw [eC] at f1; exact f1.elim
  | some S' =>
    rw [eC] at f1
    refine ⟨fun i m H => ∃ S, Sto Γ (μ ++ [L]) S H ∧ Go μ H1 (μ ++ [L]) H ∧ compF t c fe a.2 S1.length (wipeD ρ vs) m i S = some S', ⟨a.1, _, R1.sto.alloc hL (m := .lst []) ⟨[], upd_same, .nil⟩, Go.alloc μ hL _, eC⟩, ?_⟩
    rintro i m H ⟨S, st, g, e⟩
    cases m with
    | zero => cases e
    | succ m =>
      have ok := ok _ H S i g st
      have R : Rel Γ (μ ++ [L]) (wipeD ρ vs) S (L2.wipe σ vs) H := (R1.go g st).wipe
      unfold compF at e
      cases e1 : a.2 i S with
      | none => rw [e1] at e; cases e
      | some o =>
        rw [e1] at e ok
        cases o with
        | none =>
          cases e
          refine .inl ⟨ok, ?_⟩
          unfold endC at f1
          cases th with
          | true => exact f1 _ H _ g st (.loc hat)
          | false =>
            simp only [Bool.false_eq_true, if_false] at f1
            obtain ⟨o, e2, mo⟩ := st.ix hat
            rw [e2] at f1
            cases o with
            | dic _ => exact f1.elim
            | lst acc =>
              obtain ⟨ws, h1, h2⟩ := mo
              have hnd := st.nd
              exact f1 μ H _ g.cut (st.cut hn) (.p (.lst h1 (fun z => (List.nodup_append.mp hnd).2.2 L z L (by simp) rfl) (h2.less fun b hb => List.mem_append_left _ hb)))
        | some d =>
          refine .inr ⟨ok.1, fun H => ∃ S, Sto Γ (μ ++ [L]) S H ∧ Go μ H1 (μ ++ [L]) H ∧ compF t c fe a.2 S1.length (wipeD ρ vs) m (i + 1) S = some S', fun H' z => ⟨m, Nat.lt_succ_self m, z⟩, fun x H' y => ?_⟩
          obtain ⟨g2, s2, r2⟩ := ok.2 x H' y
          simp only at e
          cases e2 : t d (wipeD ρ vs) S with
          | none => rw [e2] at e; cases e
          | some ρ1 =>
            rw [e2] at e
            simp only at e
            refine ⟨μ ++ [L], wipeD ρ vs, S, d, ρ1, R.go g2 s2, r2, e2, fun σ2 R2 k2 => ⟨?_, ?_⟩⟩
            · exact wipe_eq (k2.1.trans (wipe_length _ _)) fun j hj => k2.2 j fun z => hj (hv j z)
            · refine ⟨μ ++ [L], ρ1, S, R2, ?_⟩
              cases e3 : c ρ1 S with
              | bad => rw [e3] at e; cases e
              | exc _ _ => rw [e3] at e; cases e
              | ok b S3 =>
                rw [e3] at e
                intro μ3 H3 b' g3 s3 eb
                have eb : b' = b := eb
                subst eb
                have gg := (g.trans g2).trans g3
                cases b' with
                | false =>
                  rw [if_neg (by decide)]
                  obtain ⟨ν3, rfl, _⟩ := g3.pre
                  exact ⟨_, s3.cut hn1, ⟨g.pre, gg.keep, gg.there⟩, e⟩
                | true =>
                  simp only [if_true]
                  simp only at e
                  refine ⟨μ3, ρ1, S3, R2.go g3 s3, ?_⟩
                  cases e4 : fe ρ1 S3 with
                  | bad => rw [e4] at e; cases e
                  | exc _ _ => rw [e4] at e; cases e
                  | ok d4 S4 =>
                    rw [e4] at e
                    simp only at e
                    intro μ4 H4 y4 g4 s4 r4
                    have g34 := g3.trans g4
                    have gg := gg.trans g4
                    obtain ⟨ν4, rfl, _⟩ := g34.pre
                    split at e
                    · rename_i acc y5 e5 e6
                      split at e
                      · rename_i hl
                        have hat4 : ((μ ++ [L]) ++ ν4)[S1.length]? = some L := by rw [List.getElem?_append_left (by omega)]; exact hat
                        obtain ⟨ws, h1, h2⟩ := s4.at_ _ _ _ hat4 e5
                        have ry := Rv.frz s4 hn1 r4 e6
                        have gw := Go.write (μ ++ [L]) (H := H4) mem (.lst (ws ++ [y4]))
                        refine ⟨ws, h1, by rw [h2.length]; exact hl, _, (s4.cut hn1).write hat (m := .lst (acc ++ [y5])) ⟨_, upd_same, RpAll.go gw ((h2.less fun b hb => List.mem_append_left _ hb).append (.cons ry .nil))⟩, ?_, e⟩
                        have g0 : Go μ H1 (μ ++ [L]) H4 := ⟨g.pre, gg.keep, gg.there⟩
                        exact g0.trans gw
                      · cases e
                    · cases e
end
end Fp
namespace Fp
open PySem L2
section
variable {Γ : Gam} {k : Nat} {W : WX} {μ μ' ν : List Addr} {S S' : Store} {H H' : Hp} {σ : St} {ρ : Slots} {X : Cx} {pins : List (Addr × Obj)} {s : Shared}
theorem Gx.blk {scope : Scope} {cenv : Env} {fp : List Addr} {s0 : Shared} {H0 : Hp} (G : Gx Γ k X) : Gx Γ k (X.blk s0 H0 scope cenv fp) := ⟨G.P, G.w, G.K, G.mg, G.base, G.nd, G.calm, G.room, G.guards, PassesOwn.never⟩
theorem PTs.mono {es : List Expr} {t u : TT} (h : PTs X es t) (i : ∀ σ H Q, u σ H Q → t σ H Q) : PTs X es u := ⟨fun pins s σ H Q I q => h.run pins s σ H Q I (i σ H Q q)⟩
def tYesM : M Bool := fun _ S => .ok true S
theorem ts_nil : PTs X [] (rdT Γ W tYesM) := PTs.mono pts_nil fun σ H Q q => by
  obtain ⟨μ, ρ, S, R, f⟩ := q
  exact Fin.here f R.sto rfl
theorem ts_one {c : Expr} {f : M Bool} (h : PT X c (rdT Γ W f)) : PTs X [c] (rdT Γ W f) := pts_one h
theorem e_comp {th : Bool} {elt tg iter : Expr} {ifs : List Expr} {scope : Scope} {own : List (Str × Nat)} {pos : Pos} {fi : MI} {t : Tm} {c : M Bool} {fe : M D} {is : List Nat} (G : Gx Γ k X) (hi : PI X tg iter (rdI Γ W fi)) (ok : BlkOk X.N X.env.scope scope own) (hv : ∀ i ∈ is, i ∈ own.map (·.2))
    (hg : ∀ (s : Shared) (H : Hp) (C : Addr) (cl : List (Str × Addr)) (fp : List Addr), PG (X.blk s H scope (compEnvC scope cl C X.env) fp) tg (rdGi Γ is t)) (ht : ∀ (s : Shared) (H : Hp) (C : Addr) (cl : List (Str × Addr)) (fp : List Addr), PTs (X.blk s H scope (compEnvC scope cl C X.env) fp) ifs (rdT Γ wNo c))
    (he : ∀ (s : Shared) (H : Hp) (C : Addr) (cl : List (Str × Addr)) (fp : List Addr), PE (X.blk s H scope (compEnvC scope cl C X.env) fp) elt (rdE Γ wNo fe)) (hs : ∀ x, foldedSetIterable iter X.env x = pure x) :
    PE X (.ListComp elt [⟨tg, iter, ifs, 0⟩] scope pos) (rdE Γ W (eComp th fi t c fe (own.map (·.2)))) :=
  PE.mono (pe_lc G.calm G.nd hi ok hg ht he hs) fun σ H Q q => comp_of hv q
theorem s_setComp {th : Bool} {i : Nat} {y : Str} {py : Pos} {elt tg iter : Expr} {ifs : List Expr} {scope : Scope} {own : List (Str × Nat)} {pos spos : Pos} {fi : MI} {t : Tm} {c : M Bool} {fe : M D} {is : List Nat} (G : Gx Γ k X) (hy : X.N[i]? = some y) (hyl : X.env.scope.names.lookup y = some .local)
    (hsw : swapsWith (.ListComp elt [⟨tg, iter, ifs, 0⟩] scope pos) (some (.Name y py)) spos.line X.env = pure true) (hi : PI X tg iter (rdI Γ W fi)) (ok : BlkOk X.N X.env.scope scope own) (hv : ∀ i ∈ is, i ∈ own.map (·.2))
    (hg : ∀ (s : Shared) (H : Hp) (C : Addr) (cl : List (Str × Addr)) (fp : List Addr), PG (X.blk s H scope (compEnvC scope cl C X.env) fp) tg (rdGi Γ is t)) (ht : ∀ (s : Shared) (H : Hp) (C : Addr) (cl : List (Str × Addr)) (fp : List Addr), PTs (X.blk s H scope (compEnvC scope cl C X.env) fp) ifs (rdT Γ wNo c))
    (he : ∀ (s : Shared) (H : Hp) (C : Addr) (cl : List (Str × Addr)) (fp : List Addr), PE (X.blk s H scope (compEnvC scope cl C X.env) fp) elt (rdE Γ wNo fe)) (hs : ∀ x, foldedSetIterable iter X.env x = pure x) :
    PS X (.Assign [.Name y py] (.ListComp elt [⟨tg, iter, ifs, 0⟩] scope pos) spos) (rdS Γ W (sAsg (tName i) (eComp th fi t c fe (own.map (·.2))))) := by
  refine PS.mono (ps_setLc G.calm G.nd hy hyl hsw hi ok hg ht he hs) fun D σ H q => ?_
  have q := asg_of q
  refine comp_of (th := th) hv ?_
  obtain ⟨μ, ρ, S, R, f⟩ := q
  refine ⟨μ, ρ, S, R, ?_⟩
  cases e : eComp th fi t c fe (own.map (·.2)) ρ S with
  | bad => rw [e] at f; exact f
  | exc _ _ => rw [e] at f; exact f
  | ok d S' =>
    rw [e] at f
    exact fun μ' H' v g st r => gName_eq rfl (f μ' H' v g st r)
end
end Fp

set_option Elab.async false
set_option linter.all false
set_option autoImplicit false
set_option maxRecDepth 100000
/-! Fp: dict displays. -/
namespace Fp
open PySem L2
section
variable {Γ : Gam} {k : Nat} {W : WX} {μ μ' ν : List Addr} {S S' : Store} {H H' : Hp} {σ : St} {ρ : Slots} {X : Cx} {pins : List (Addr × Obj)} {s : Shared}
def pairsM : List (M D × M D) → M (List (D × D))
  | [] => fun _ S => .ok [] S
  | x :: r => x.1.bind fun a => x.2.bind fun b => (pairsM r).bind fun ps => fun _ S => .ok ((a, b) :: ps) S
def RvP (Γ : Gam) (H : Hp) (μ : List Addr) (ps : List (V × V)) (ds : List (D × D)) : Prop := RvAll Γ H μ (ps.map (·.1)) (ds.map (·.1)) ∧ RvAll Γ H μ (ps.map (·.2)) (ds.map (·.2))
def trsOf (Γ : Gam) (W : WX) (ps : List (M D × M D)) : List (TE × TE) := ps.map fun x => (rdE Γ W x.1, rdE Γ W x.2)
theorem tPairs_of : ∀ {ps : List (M D × M D)} {H : Hp} {Q : List (V × V) → Hp → Prop}, rd Γ W (RvP Γ) (pairsM ps) σ H Q → tPairs (trsOf Γ W ps) σ H Q
  | [], H, Q, q => by
    obtain ⟨μ, ρ, S, R, f⟩ := q
    exact Fin.here (b := []) f R.sto ⟨.nil, .nil⟩
  | x :: r, H, Q, q => by
    show rdE Γ W x.1 σ H fun a H1 => rdE Γ W x.2 σ H1 fun b H2 => tPairs (trsOf Γ W r) σ H2 fun ps H3 => Q ((a, b) :: ps) H3
    refine rd.cut q fun μ ρ H1 S1 a va R1 ra f1 => ?_
    refine ⟨μ, ρ, S1, R1, Fin.cut (k := fun b S' => ((pairsM r ρ S').bind fun ps S2 => .ok ((a, b) :: ps) S2)) f1 fun μ2 H2 S2 b vb g2 s2 rb f2 => ?_⟩
    refine tPairs_of ⟨μ2, ρ, S2, R1.go g2 s2, Fin.cut (k := fun ps S2 => .ok ((a, b) :: ps) S2) f2 fun μ3 H3 S3 ps vs g3 s3 rs f3 => ?_⟩
    exact Fin.here (b := (va, vb) :: vs) f3 s3 ⟨.cons ((ra.go g2).go g3) rs.1, .cons (rb.go g3) rs.2⟩
def dictData (n : Nat) (S : Store) : List (D × D) → Option (List (PyData × PyData))
  | [] => some []
  | (.p x, v) :: r => if (pkey x).isSome = true then (frz n S v).bind fun y => (dictData n S r).map fun l => (x, y) :: l else none
  | _ :: _ => none
def dsets (l acc : List (PyData × PyData)) : List (PyData × PyData) := l.foldl (fun a kv => dset a kv.1 kv.2) acc
theorem dictData_at {n : Nat} (st : Sto Γ (μ ++ ν) S H) (hn : μ.length = n) : ∀ {ps : List (V × V)} {ds : List (D × D)} {l : List (PyData × PyData)}, RvP Γ H (μ ++ ν) ps ds → dictData n S ds = some l →
    ∃ kvs : List (Key × V), ps = kvs.map (fun kv => (kV kv.1, kv.2)) ∧ RpAll Γ H μ (kvs.map fun kv => kV kv.1) (l.map (·.1)) ∧ RpAll Γ H μ (kvs.map (·.2)) (l.map (·.2))
  | [], [], _, _, e => by cases e; exact ⟨[], rfl, .nil, .nil⟩
  | [], _ :: _, _, r, _ => by cases r.1
  | _ :: _, [], _, r, _ => by cases r.1
  | (a, b) :: ps, (x, y) :: ds, l, r, e => by
    obtain ⟨r1, r2⟩ := r
    cases r1 with
    | cons h1 t1 =>
      cases r2 with
      | cons h2 t2 =>
        cases x with
        | p x =>
          rw [dictData] at e
          split at e
          · rename_i hk
            obtain ⟨z, e1, e2⟩ := Option.bind_eq_some_iff.mp e
            obtain ⟨l', e3, rfl⟩ := Option.map_eq_some_iff.mp e2
            obtain ⟨kvs, i1, i2, i3⟩ := dictData_at st hn ⟨t1, t2⟩ e3
            cases h1 with
            | p h1 =>
              obtain ⟨q, hq⟩ := Option.isSome_iff_exists.mp hk
              have ha := pkey_rp h1 hq
              have ha : a = kV q := ha
              subst ha
              exact ⟨(q, b) :: kvs, by rw [i1]; rfl, .cons (h1.less fun c z => List.mem_append_left _ z) i2, .cons (h2.frz st hn e1) i3⟩
          · cases e
        | _ => cases e
theorem merge_K : ∀ {kvs acc : List (Key × V)} {l : List (PyData × PyData)} {ds es : List PyData}, RpAll Γ H μ (kvs.map fun kv => kV kv.1) (l.map (·.1)) → RpAll Γ H μ (kvs.map (·.2)) (l.map (·.2)) → RpAll Γ H μ (acc.map fun kv => kV kv.1) ds → RpAll Γ H μ (acc.map (·.2)) es →
    ∃ ds' es', RpAll Γ H μ ((mergeK acc kvs).map fun kv => kV kv.1) ds' ∧ RpAll Γ H μ ((mergeK acc kvs).map (·.2)) es' ∧ dsets l (ds.zip es) = ds'.zip es'
  | [], _, [], _, _, _, _, a1, a2 => ⟨_, _, a1, a2, rfl⟩
  | [], _, _ :: _, _, _, r, _, _, _ => by cases r
  | _ :: _, _, [], _, _, r, _, _, _ => by cases r
  | (q, v) :: kvs, acc, (x, e) :: l, ds, es, r1, r2, a1, a2 => by
    cases r1 with
    | cons h1 t1 =>
      cases r2 with
      | cons h2 t2 =>
        obtain ⟨ds1, es1, b1, b2, b3⟩ := put_K a1 a2 (pkey_of h1) h1 h2
        obtain ⟨ds2, es2, c1, c2, c3⟩ := merge_K t1 t2 b1 b2
        refine ⟨ds2, es2, c1, c2, ?_⟩
        rw [← c3, ← b3]
        rfl
/-- a new dict at n: one that may change, or one that stays -/
def endD (th : Bool) (n : Nat) (kvs : List (PyData × PyData)) (S : Store) : Out D := if th then .ok (.loc n) (S.take n ++ [.dic kvs]) else .ok (.p (.dict kvs)) (S.take n)
def eDict (th : Bool) (ps : List (M D × M D)) : M D := fun ρ S => (pairsM ps ρ (S ++ [.dic []])).bind fun ds S' => match S'[S.length]?, dictData (S.length + 1) S' ds with
  | some (.dic []), some l => if l.length ≤ 15 then endD th S.length (dsets l []) S' else .bad
  | _, _ => .bad
theorem endD_fin {th : Bool} {n : Nat} {kvs : List (PyData × PyData)} {Q : VK} {p : Addr} (hn : μ.length = n) (st : Sto Γ (μ ++ [p]) S H) (g : Go μ H' (μ ++ [p]) H) (hm : MoOk Γ H (μ ++ [p]) p (.dic kvs)) (hk : S[n]? = some (.dic kvs)) (f : Fin Γ W (fun H μ v d => Rv Γ H μ v d) μ σ H' (endD th n kvs S) Q) : Q (.ref p) H := by
  have hl := st.len
  simp only [List.length_append, List.length_singleton] at hl
  unfold endD at f
  cases th with
  | true =>
    have hS : S.take n ++ [.dic kvs] = S := by
      have h1 := List.take_append_drop n S
      have h2 : S.drop n = [.dic kvs] := by
        have hlt : n < S.length := by omega
        rw [List.drop_eq_getElem_cons hlt, List.drop_eq_nil_of_le (by omega)]
        rw [List.getElem?_eq_getElem hlt] at hk
        rw [Option.some.inj hk]
      rw [h2] at h1
      exact h1
    simp only [if_true] at f
    rw [hS] at f
    exact f (μ ++ [p]) H _ g st (.loc (by rw [← hn, List.getElem?_append_right (Nat.le_refl _), Nat.sub_self]; rfl))
  | false =>
    simp only [Bool.false_eq_true, if_false] at f
    obtain ⟨ks, vs, nk, ds, es, q, r1, r2, r3, r4⟩ := hm
    have hs : ∀ a, a ∈ μ → a ∈ μ ++ [p] := fun a z => List.mem_append_left _ z
    have hp : p ∉ μ := fun z => (List.nodup_append.mp st.nd).2.2 p z p (by simp) rfl
    exact f μ H _ g.cut (st.cut hn) (.p (.dic q hp (r1.less hs) (r2.less hs) r3 r4))
theorem dK_of_empty {p : Addr} (m : MoOk Γ H μ p (.dic [])) : H p = some (.dK []) := by
  obtain ⟨ks, vs, nk, ds, es, q1, q2, q3, q4, q5⟩ := m
  have l2 := q2.length
  have l3 := q3.length
  have lz := congrArg List.length q4
  rw [List.length_zip] at lz
  cases nk with
  | none =>
    obtain ⟨kvs, e, rfl, rfl⟩ := q1
    rw [List.length_map] at l2 l3
    have : kvs = [] := List.eq_nil_of_length_eq_zero (by simp at lz; omega)
    rw [e, this]
  | some ns =>
    obtain ⟨xs, _, _, rfl, hv, _, _, _, _, ne⟩ := q1
    have lv := hv.length
    rw [List.length_map] at l2 lv
    exact absurd (List.eq_nil_of_length_eq_zero (by simp at lz; omega)) ne
theorem e_dict {th : Bool} {pos : Pos} {keys : List (Option Expr)} {values : List Expr} {ps : List (M D × M D)} (h : PPs X pos keys values (trsOf Γ W ps)) (hall : keys.all (·.isSome) = true) (hl : keys.length = values.length) (h0 : keys ≠ []) (h15 : keys.length ≤ 15) :
    PE X (.Dict keys values pos) (rdE Γ W (eDict th ps)) := by
  refine PE.mono (pe_disp h hall hl h0 h15) fun σ H Q q => ?_
  obtain ⟨μ, ρ, S, R, f⟩ := q
  intro p young
  have ga := Go.alloc μ young (.dK [])
  have R1 := R.go ga (R.sto.alloc young (m := .dic []) ⟨[], [], none, [], [], ⟨[], upd_same, rfl, rfl⟩, .nil, .nil, rfl, fun ns z => by cases z⟩)
  have hN : μ.length = S.length := R.sto.len
  have hN1 : (μ ++ [p]).length = S.length + 1 := by rw [List.length_append, hN]; rfl
  have hat : (μ ++ [p])[S.length]? = some p := by rw [← hN, List.getElem?_append_right (Nat.le_refl _), Nat.sub_self]; rfl
  refine tPairs_of ⟨μ ++ [p], ρ, S ++ [.dic []], R1, ?_⟩
  unfold eDict at f
  cases e : pairsM ps ρ (S ++ [.dic []]) with
  | bad => rw [e] at f; exact f
  | exc x S2 =>
    rw [e] at f
    exact fun μ2 H2 c d g2 s2 er => f μ2 H2 c d (ga.trans g2) s2 er
  | ok ds S2 =>
    rw [e] at f
    intro μ2 H2 vs g2 st2 rp
    obtain ⟨ν, rfl, _⟩ := g2.pre
    have f : Fin Γ W (fun H μ v d => Rv Γ H μ v d) μ σ H (match S2[S.length]?, dictData (S.length + 1) S2 ds with | some (.dic []), some l => if l.length ≤ 15 then endD th S.length (dsets l []) S2 else .bad | _, _ => .bad) Q := f
    split at f
    · rename_i l e1 e2
      split at f
      · rename_i few
        obtain ⟨kvs, rfl, k1, k2⟩ := dictData_at st2 hN1 rp e2
        have still : H2 p = some (.dK []) := dK_of_empty (st2.at_ _ _ _ (by rw [List.getElem?_append_left (by omega)]; exact hat) e1)
        have cnt := k1.length
        rw [List.length_map, List.length_map] at cnt
        refine ⟨still, kvs, rfl, by omega, ?_⟩
        obtain ⟨ds', es', m1, m2, m3⟩ := merge_K k1 k2 (acc := []) (ds := []) (es := []) .nil .nil
        have gw := Go.write (μ ++ [p]) (H := H2) (a := p) (by simp) (.dK (mergeK [] kvs))
        have mo' : MoOk Γ (upd H2 p (.dK (mergeK [] kvs))) (μ ++ [p]) p (.dic (dsets l [])) := ⟨_, _, none, ds', es', ⟨_, upd_same, rfl, rfl⟩, m1.go gw, m2.go gw, m3, fun ns z => by cases z⟩
        have g0 : Go μ H (μ ++ [p]) H2 := ⟨ga.pre, (ga.trans g2).keep, (ga.trans g2).there⟩
        have stc := st2.cut hN1
        have hlen : S.length < (S2.take (S.length + 1)).length := by rw [← stc.len, hN1]; exact Nat.lt_succ_self _
        refine endD_fin (S := (S2.take (S.length + 1)).set S.length (.dic (dsets l []))) hN (stc.write hat mo') (g0.trans gw) mo' (List.getElem?_set_self hlen) (th := th) (W := W) (σ := σ) ?_
        have et : ((S2.take (S.length + 1)).set S.length (.dic (dsets l []))).take S.length = S2.take S.length := by
          rw [List.take_set_of_le (Nat.le_refl _), List.take_take, Nat.min_eq_left (Nat.le_succ _)]
        unfold endD at f ⊢
        rw [et]
        exact f
      · exact f.elim
    · exact f.elim
/-- {} -/
def eDict0 (th : Bool) : M D := fun _ S => endD th S.length [] (S ++ [.dic []])
theorem e_dict0 {th : Bool} {pos : Pos} : PE X (.Dict [] [] pos) (rdE Γ W (eDict0 th)) := PE.mono pe_dnewK fun σ H Q q => by
  obtain ⟨μ, ρ, S, R, f⟩ := q
  intro p hp
  have ga := Go.alloc μ hp (.dK [])
  have mo : MoOk Γ (upd H p (.dK [])) (μ ++ [p]) p (.dic []) := ⟨[], [], none, [], [], ⟨[], upd_same, rfl, rfl⟩, .nil, .nil, rfl, fun ns z => by cases z⟩
  exact endD_fin (th := th) (W := W) (σ := σ) R.sto.len (R.sto.alloc hp mo) ga mo (by rw [List.getElem?_append_right (Nat.le_refl _), Nat.sub_self]; rfl) f
end
end Fp

set_option Elab.async false
set_option linter.all false
set_option autoImplicit false
set_option maxRecDepth 100000
/-! Fp: a def by its body; the law's end. -/
namespace Fp
open PySem L2
section
variable {Γ : Gam} {k : Nat} {W : WX} {μ μ' ν : List Addr} {S S' : Store} {H H' : Hp} {σ : St} {ρ : Slots} {X : Cx} {pins : List (Addr × Obj)} {s : Shared}
mutual
/-- the data of a value beyond n, tuples too -/
def frzT (n : Nat) (S : Store) : D → Option PyData
  | .tup ds => (frzTs n S ds).map .tuple
  | d => frz n S d
def frzTs (n : Nat) (S : Store) : List D → Option (List PyData)
  | [] => some []
  | d :: ds => (frzT n S d).bind fun y => (frzTs n S ds).map fun ys => y :: ys
end
mutual
theorem Rv.frzT {n : Nat} (st : Sto Γ (μ ++ ν) S H) (hn : μ.length = n) : ∀ {v : V} {d : D} {y : PyData}, Rv Γ H (μ ++ ν) v d → Fp.frzT n S d = some y → Rp Γ H μ v y
  | _, _, _, .tup h r, e => by
    rw [Fp.frzT] at e
    obtain ⟨ys, e1, rfl⟩ := Option.map_eq_some_iff.mp e
    exact .tup (h.elim (fun z => .inl ⟨z.1, fun y => z.2 (List.mem_append_left _ y)⟩) .inr) (RvAll.frzTs st hn r e1)
  | _, _, _, .p h, e => Rv.frz st hn (.p h) (by rw [Fp.frzT] at e <;> first | exact e | (intro z hz; cases hz))
  | _, _, _, .fn h, e => Rv.frz st hn (.fn h) (by rw [Fp.frzT] at e <;> first | exact e | (intro z hz; cases hz))
  | _, _, _, .ty m, e => Rv.frz st hn (.ty m) (by rw [Fp.frzT] at e <;> first | exact e | (intro z hz; cases hz))
  | _, _, _, .loc h, e => Rv.frz st hn (.loc h) (by rw [Fp.frzT] at e <;> first | exact e | (intro z hz; cases hz))
  | _, _, _, .pr h r, e => Rv.frz st hn (.pr h r) (by rw [Fp.frzT] at e <;> first | exact e | (intro z hz; cases hz))
  | _, _, _, .ro h r, e => Rv.frz st hn (.ro h r) (by rw [Fp.frzT] at e <;> first | exact e | (intro z hz; cases hz))
theorem RvAll.frzTs {n : Nat} (st : Sto Γ (μ ++ ν) S H) (hn : μ.length = n) : ∀ {vs : List V} {ds : List D} {ys : List PyData}, RvAll Γ H (μ ++ ν) vs ds → Fp.frzTs n S ds = some ys → RpAll Γ H μ vs ys
  | _, _, _, .nil, e => by cases e; exact .nil
  | _, _, _, .cons h r, e => by
    rw [Fp.frzTs] at e
    obtain ⟨y, e1, e2⟩ := Option.bind_eq_some_iff.mp e
    obtain ⟨ys, e3, rfl⟩ := Option.map_eq_some_iff.mp e2
    exact .cons (Rv.frzT st hn h e1) (RvAll.frzTs st hn r e3)
end
/-- a def's end: what it made lies behind; keep: its own object comes out as one that may change -/
def leaveV (keep : Bool) (n : Nat) (d : D) (S : Store) : Out D := match keep, d with
  | true, .loc j => match S[j]? with
    | some o => if n ≤ j then .ok (.loc n) (S.take n ++ [o]) else .bad
    | none => .bad
  | _, d => match frzT n S d with
    | some y => .ok (.p y) (S.take n)
    | none => if D.low n d then .ok d (S.take n) else .bad
def leave (keep : Bool) (n : Nat) (o : OutS) : Out D := match o with
  | .nx _ S => .ok (.p .none) (S.take n)
  | .rt d S => leaveV keep n d S
  | .exc x _ S => .exc x (S.take n)
  | .bk _ _ => .bad
  | .ct _ _ => .bad
  | .bad => .bad
def startD (N : Nat) (as : List D) : Slots := as.map some ++ List.replicate (N - as.length) none
def fxOf (N : Nat) (keep : Bool) (fb : MS) : Fx := fun as S => leave keep S.length (fb (startD N as) S)
theorem start_rel {N : List Str} {vs : List V} {as : List D} (st : Sto Γ μ S H) (r : RvAll Γ H μ vs as) : Rel Γ μ (startD N.length as) S (L2.start N vs) H := by
  refine ⟨st, ?_, fun i d e => ?_⟩
  · unfold L2.start startD
    simp only [List.length_append, List.length_map, List.length_replicate, r.length]
  · unfold startD at e
    by_cases hi : i < as.length
    · rw [List.getElem?_append_left (by simpa using hi), List.getElem?_map] at e
      cases ea : as[i]? with
      | none => rw [ea] at e; cases e
      | some d' =>
        rw [ea] at e
        cases e
        obtain ⟨v, hv, rv⟩ := r.of ea
        refine ⟨v, ?_, rv⟩
        unfold L2.start
        rw [List.getElem?_append_left (by rw [List.length_map, r.length]; exact hi), List.getElem?_map, hv]
        rfl
    · rw [List.getElem?_append_right (by simpa using hi), List.getElem?_replicate] at e
      split at e <;> cases e
theorem leaveV_fin {keep : Bool} {d : D} {Q : VK} {E : XK} {n : Nat} {μ0 : List Addr} {H0 : Hp} (hn : μ0.length = n) (f : Fin Γ (fun c d _ H' => E c d H') (fun H μ v d => Rv Γ H μ v d) μ0 [] H0 (leaveV keep n d S) Q) (g : Go μ0 H0 μ H) (st : Sto Γ μ S H) {v : V} (r : Rv Γ H μ v d) : Q v H := by
  obtain ⟨ν, rfl, hν⟩ := g.pre
  have rest : Fin Γ (fun c d _ H' => E c d H') (fun H μ v d => Rv Γ H μ v d) μ0 [] H0 (match frzT n S d with | some y => .ok (.p y) (S.take n) | none => if D.low n d then .ok d (S.take n) else .bad) Q → Q v H := fun f => by
    cases e : frzT n S d with
    | some y =>
      rw [e] at f
      exact f μ0 H v g.cut (st.cut hn) (.p (r.frzT st hn e))
    | none =>
      rw [e] at f
      simp only at f
      by_cases hl : D.low n d = true
      · rw [if_pos hl] at f
        exact f μ0 H v g.cut (st.cut hn) (r.low hn hl)
      · rw [if_neg hl] at f
        exact f.elim
  unfold leaveV at f
  split at f
  · rename_i j
    cases r with
    | loc ha =>
      rename_i a
      obtain ⟨o, e1, m⟩ := st.ix ha
      rw [e1] at f
      simp only at f
      by_cases hj : n ≤ j
      · rw [if_pos hj] at f
        have haν : a ∈ ν := by
          rw [List.getElem?_append_right (by omega)] at ha
          exact List.mem_of_getElem? ha
        have hnd := List.nodup_append.mp st.nd
        have hs : ∀ b, b ∈ μ0 ++ [a] → b ∈ μ0 ++ ν := fun b hb => by
          rcases List.mem_append.mp hb with z | z
          · exact List.mem_append.mpr (.inl z)
          · rw [List.mem_singleton] at z
            rw [z]
            exact List.mem_append_right _ haν
        have hlen : (S.take n).length = n := by
          have := st.len
          rw [List.length_append] at this
          rw [List.length_take]
          omega
        refine f (μ0 ++ [a]) H _ ⟨⟨[a], rfl, fun b hb => hν b (by rw [List.mem_singleton] at hb; rw [hb]; exact haν)⟩, g.keep, g.there⟩ ⟨?_, ?_, fun i b o' h1 h2 => ?_⟩ (.loc ?_)
        · rw [List.length_append, List.length_append, hlen, hn]; rfl
        · rw [List.nodup_append]
          refine ⟨hnd.1, by simp, fun x hx y hy => ?_⟩
          rw [List.mem_singleton] at hy
          subst hy
          exact fun z => hnd.2.2 x hx y haν z
        · by_cases hi : i < n
          · rw [List.getElem?_append_left (by omega)] at h1
            rw [List.getElem?_append_left (by omega), List.getElem?_take_of_lt hi] at h2
            exact (st.at_ i b o' (by rw [List.getElem?_append_left (by omega)]; exact h1) h2).less hs
          · have hin : i = n := by
              have := (List.getElem?_eq_some_iff.mp h1).1
              rw [List.length_append, List.length_singleton] at this
              omega
            subst hin
            rw [List.getElem?_append_right (by omega), show i - μ0.length = 0 by omega] at h1
            rw [List.getElem?_append_right (by omega), show i - (S.take i).length = 0 by omega] at h2
            simp at h1 h2
            subst h1 h2
            exact m.less hs
        · rw [List.getElem?_append_right (by omega), show n - μ0.length = 0 by omega]
          rfl
      · rw [if_neg hj] at f
        exact f.elim
  · exact rest f
theorem ExRel.less {x : Ex} {c : Value} {d : Option Addr} (h : ∀ a, a ∈ μ → a ∈ μ') (r : ExRel Γ H μ' x c d) : ExRel Γ H μ x c d :=
  ⟨r.cls, let ⟨dx, vs, h1, h2, h3⟩ := r.fs; ⟨dx, vs, h1, h2, h3.less h⟩⟩
theorem leave_fin {keep : Bool} {o : OutS} {Q : VK} {E : XK} {n : Nat} (hn : μ.length = n) (f : Fin Γ (fun c d _ H' => E c d H') (fun H μ v d => Rv Γ H μ v d) μ [] H (leave keep n o) Q) :
    FinS Γ (fun c d _ H' => E c d H') μ H o { nx := fun _ H' => Q .non H', rt := Q } := by
  cases o with
  | nx ρ' S' =>
    intro μ' σ' H' g R
    obtain ⟨ν, rfl, _⟩ := g.pre
    exact f μ H' _ g.cut (R.sto.cut hn) (.p .non)
  | rt d S' =>
    intro μ' H' v g st r
    exact leaveV_fin hn f g st r
  | exc x ρ' S' =>
    intro μ' σ' H' c d g R er
    obtain ⟨ν, rfl, _⟩ := g.pre
    exact f μ H' c d g.cut (R.sto.cut hn) (er.less fun a z => List.mem_append_left _ z)
  | bk _ _ => exact f.elim
  | ct _ _ => exact f.elim
  | bad => exact f.elim
/-- a def's body context -/
abbrev bodyX (Γ : Gam) (N : List Str) (qual : Str) (scope : Scope) (f : Addr) (cd : Value) (A : Around) (outer : List Env) (s : Shared) (H : Hp) (E : XK) : Cx :=
  cxOf (L2.CX Γ.P Γ.w) Γ.P Γ.w Γ.K Γ.mg Γ.base N qual scope f cd A outer s H E
abbrev wOf (E : XK) : WX := fun c d _ H' => E c d H'
theorem body_takes {N : List Str} {qual : Str} {scope : Scope} {f : Addr} {cd : Value} {A : Around} {outer : List Env} {E : XK} : Takes (bodyX Γ N qual scope f cd A outer s H E) (wOf E) :=
  takes_of rfl rfl rfl rfl
theorem body_gx {N : List Str} {qual : Str} {scope : Scope} {f : Addr} {cd : Value} {A : Around} {outer : List Env} {E : XK} (hN : N.Nodup) (hr : Room (k + 1) A) (hg : A.guards = some []) : Gx Γ k (bodyX Γ N qual scope f cd A outer s H E) :=
  ⟨rfl, rfl, rfl, rfl, rfl, hN, rfl, hr.deeper _, hg, passes_of rfl⟩
theorem g_fn {f : Addr} {name qual : Str} {params : Arguments} {body : List Stmt} {scope : Scope} {dV kV doc pm cdv ct oc : Value} {an od : Option Addr} {osl : Array (Option Value)} {N ps : List Str} {fb : MS} {keep : Bool} {n : Nat}
    (lk : Γ.K.lookup f = some ⟨oc, od, .func (PySem.W.fnOf name qual params body scope dV kV doc pm an cdv ct), osl⟩) (hcd : PySem.W.codeIn Γ.K cdv qual = true) (Sc : FnScope N ps scope) (hn : ps.length = n)
    (hbody : ∀ (A : Around) (outer : List Env) (s : Shared) (H : Hp) (E : XK), Gx Γ k (bodyX Γ N qual scope f cdv A outer s H E) → Takes (bodyX Γ N qual scope f cdv A outer s H E) (wOf E) → PSs (bodyX Γ N qual scope f cdv A outer s H E) body (rdS Γ (wOf E) fb)) :
    FnG Γ (k + 1) f (PySem.W.fnOf name qual params body scope dV kV doc pm an cdv ct) ps (spOf Γ n (fxOf N.length keep fb)) := by
  refine ⟨fun vs H Q E h => by rw [h.1, hn], fun A outer s H args us vs Q E hr hgd e0 hb r hsp => ?_⟩
  obtain ⟨hl, μ, S, as, st, ra, fin⟩ := hsp
  have kept : ∀ b o, Γ.base.get? b = some o → s.heap.get? b = some o := fun b o z => (e0.bs b o z).1
  have free := e0.mod.nolimit.keeps kept
  refine codeAny_call_function hr.depth (e0.mod.kin.keeps kept _ _ lk) rfl Sc.co Sc.gen rfl (PySem.W.codeRec_of (e0.mod.kin.keeps kept) hcd) (hb _ _ _ _ ?_)
  have kinds : ∀ y ∈ ps.zip us, scope.names.lookup y.1 = some .local ∨ (scope.names.lookup y.1 = some .cell ∧ ((cellsFrom (s.heap.objs.size + 1) scope.names []).lookup y.1).isSome = true) := fun y mem =>
    (Sc.par y.1 (List.of_mem_zip (a := y.1) (b := y.2) mem).1).imp id fun z => ⟨z, PySem.W.cellsFrom_some _ _ _ (.inl z)⟩
  refine PySem.wpAny_newFunctionEnv_cells Sc.kind kinds fun env he s1 x => ?_
  subst he
  have I := inv_start (CX := L2.CX Γ.P Γ.w) (E := E) Sc hr.hd e0 (hl.trans hn.symm) r x
  have run := (hbody A outer s H E (body_gx Sc.nd hr hgd) body_takes).run [] s1 (L2.start N vs) H _ I ⟨μ, startD N.length as, S, start_rel st ra, leave_fin (keep := keep) st.len fin⟩
  refine ⟨free.keeps x.toInCall.keep, PySem.codeAny_func (wpAny_mono run (fun fl s' done => ?_) fun e s' z => z)⟩
  cases fl with
  | ret u => exact let ⟨v, _, H', J, rv, q⟩ := done; ⟨v, H', J.os, J.bare, J.base, J.hok, rv, q⟩
  | next => exact let ⟨_, H', J, q⟩ := done; ⟨.non, H', J.os, J.bare, J.base, J.hok, rfl, q⟩
  | brk => exact let ⟨_, _, _, no⟩ := done; False.elim no
  | cont => exact let ⟨_, _, _, no⟩ := done; False.elim no
end
end Fp

set_option Elab.async false
set_option linter.all false
set_option autoImplicit false
set_option maxRecDepth 100000
/-! Fp: the law's end. -/
namespace Fp
open PySem PySem.Spec L2
def refOf : Option Value → Option Addr
  | some (.ref a) => some a
  | _ => none
def gam (P : Program) (w : World) (K : PySem.W.Frag) (mg : Str → Option Value) (base : Heap) : Gam := ⟨P, w, K, mg, base, fun x => refOf (mg x), fun x => refOf (mg x)⟩
/-- the law's promise, once the top has run -/
theorem lawG {P : Program} {w : World} {K : PySem.W.Frag} {mg mb : Str → Option Value} {k : Nat} {fa la : Addr} {fd : FuncData} {x : Str} {fx : Fx} {s1 : Shared} {us : List Value} {zs : List Int}
    (inK : K.In s1.heap) (nsG : s1.heap.Ns mainGlobals mg) (nsB : s1.heap.Ns builtinsNs mb) (bb : ∀ x : Str, x ≠ "__name__" → mb x = bootBuiltins x) (nl : s1.heap.NoLimit) (gn : s1.gens = #[])
    (atL : s1.heap.get? la = some { cls := .type "list", data := .seq us.toArray }) (iz : PyProof.Rows.IntsAre us zs) (short : zs.length ≤ sizeLine) (room : Room k callerA)
    (F : ∀ base : Heap, K.In base → base.Ns mainGlobals mg → FnG (gam P w K mg base) k fa fd [x] (spOf (gam P w K mg base) 1 fx)) (bd : ∀ (s : Shared) (u : Value), BindsTo s fd ⟨[u], []⟩ [(x, u)])
    (good : ∃ S, fx [.ro (zs.map .int)] [] = .ok (.p (.bool true)) S) :
    codeAny (model P w) callerA (.call (.ref fa) ⟨[.ref la], []⟩) (fun r s' => r = .ok (.ret (.bool true)) ∧ OldK s1.heap s'.heap ∧ s'.os = s1.os ∧ PyProof.Rows.AllBare s'.gens) s1 := by
  have vz := vals_ints iz
  have nz := iz.length
  have main : ∀ H : Hp, Only H → SqL K H la (zs.map V.int) → HOk P w H s1.heap → (∀ b, H b ≠ none → b = la) → (H la ≠ none → K.lookup la = none) →
      codeAny (model P w) callerA (.call (.ref fa) ⟨[.ref la], []⟩) (fun r s' => r = .ok (.ret (.bool true)) ∧ OldK s1.heap s'.heap ∧ s'.os = s1.os ∧ PyProof.Rows.AllBare s'.gens) s1 := by
    intro H only sq ok one noK
    have hid : ∀ {b : Addr} {o : Obj}, s1.heap.get? b = some o → H b = none → (hidT s1.heap H).get? b = some o := fun p q => hidT_get p q
    have isL : ∀ {b : Addr}, H b ≠ none → s1.heap.get? b = some { cls := .type "list", data := .seq us.toArray } := fun {b} z => by rw [one b z]; exact atL
    have noD : ∀ {b : Addr} {o : Obj} {es : Array DictEntry} {ep : Nat}, s1.heap.get? b = some o → o.data = .dict es ep → H b = none := fun {b o es ep} p q =>
      Classical.byContradiction fun z => by
        have z := isL z
        rw [p] at z
        cases z
        cases q
    have nsH : ∀ {b : Addr} {m : Str → Option Value}, s1.heap.Ns b m → (hidT s1.heap H).Ns b m := fun {b m} ⟨o, es, ep, p, q, r⟩ => ⟨o, es, ep, hid p (noD p q), q, r⟩
    have inH : K.In (hidT s1.heap H) := fun b o p => hid (inK b o p) (Classical.byContradiction fun z => by
      have e := one b z
      subst e
      rw [noK z] at p
      cases p)
    have md : Mod K mg (hidT s1.heap H) := ⟨inH, nsH nsG, ⟨mb, nsH nsB, bb⟩, let ⟨mc, p, q⟩ := nl; ⟨mc, nsH p, q⟩⟩
    have e0 : Env0 P w K mg (hidT s1.heap H) callerA [] s1 H := ⟨rfl, md, fun b o p => of_hidT p, Nat.le_of_eq (hidT_size _ _), trivial, fun b p => absurd (show b ∈ ([] : List Addr) from p) (by simp), ok, .of_eq gn⟩
    obtain ⟨S, eS⟩ := good
    have sp : spOf (gam P w K mg (hidT s1.heap H)) 1 fx [.ref la] H (fun v _ => v = .bl true) fun _ _ _ => False := by
      refine ⟨rfl, [], [], [.ro (zs.map .int)], ⟨rfl, .nil, fun n a o p => by cases p⟩, .cons (.ro (sq.elim (fun z => .inl ⟨z, by simp⟩) .inr) ?_) .nil, ?_⟩
      · have : ∀ l : List Int, RpAll (gam P w K mg (hidT s1.heap H)) H [] (l.map V.int) (l.map .int) := fun l => by
          induction l with
          | nil => exact .nil
          | cons z l ih => exact .cons (.int z) ih
        exact this zs
      · rw [eS]
        intro μ' H' b g st r
        cases r with
        | p hp => cases hp; rfl
    refine codeAny_mono ((F _ inH (nsH nsG)).run callerA [] s1 H ⟨[.ref la], []⟩ [.ref la] [.ref la] _ _ room rfl e0 (bd s1 (.ref la)) (.cons rfl .nil) sp) fun r s' h => ?_
    cases r with
    | error e =>
      obtain ⟨_, _, _, _, _, _, _, _, _, _, _, _, no⟩ := h
      exact no.elim
    | ok fl =>
      cases fl with
      | next => exact False.elim h
      | brk => exact False.elim h
      | cont => exact False.elim h
      | ret u =>
        obtain ⟨v, H', os, bare, un, hok, rv, q⟩ := h
        obtain rfl : v = .bl true := q
        obtain rfl : u = Value.bool true := rv
        refine ⟨rfl, OldK.of_keep fun b o p => ?_, os, bare⟩
        cases q : H b with
        | none => exact un.keep b o p q (fun z => absurd (show b ∈ ([] : List Addr) from z) (by simp)) (by simp)
        | some u =>
          rcases only b with z | ⟨ob, xs, z⟩
          · rw [q] at z; cases z
          · obtain ⟨p1, _⟩ := ok b _ z
            obtain ⟨p2, _⟩ := hok b _ (un.frzs b ob _ z)
            rw [p] at p1; cases p1
            exact p2
  cases hk : K.lookup la with
  | some o =>
    have p := inK la o hk
    rw [atL] at p
    cases p
    exact main (fun _ => none) (fun _ => .inl rfl) (.inr ⟨_, us.toArray, _, hk, rfl, rfl, rfl, by rw [List.size_toArray, nz]; exact short, by simpa using vz⟩) (fun b u z => by cases z) (fun b z => absurd rfl z) fun z => absurd rfl z
  | none =>
    have pos : ∀ {b : Addr} {o : HO}, (if b = la then some (HO.frz { cls := .type "list", data := .seq us.toArray } (.lst (zs.map V.int))) else none) = some o → b = la ∧ o = .frz { cls := .type "list", data := .seq us.toArray } (.lst (zs.map V.int)) := fun {b o} z => by
      split at z
      · rename_i hb
        exact ⟨hb, (Option.some.inj z).symm⟩
      · cases z
    refine main (fun b => if b = la then some (.frz { cls := .type "list", data := .seq us.toArray } (.lst (zs.map V.int))) else none) (fun b => ?_) (.inl (.inr ⟨_, if_pos rfl⟩)) (fun b u z => ?_) (fun b z => ?_) fun _ => hk
    · by_cases hb : b = la
      · right; exact ⟨_, _, if_pos hb⟩
      · left; exact if_neg hb
    · obtain ⟨rfl, rfl⟩ := pos z
      exact ⟨atL, by rw [List.length_map]; exact short, us, _, vz, atL⟩
    · exact Decidable.byContradiction fun hb => z (if_neg hb)
/-- over each World: the law's def stands, and is walked as fx -/
def Walked (P : Program) (K : Params → PySem.W.Frag) (nm x : Str) (k : Nat) (fx : Fx) : Prop :=
  ∀ (w : World) (mg : Str → Option Value) (f : Addr) (top : Heap), (K w.params).In top → top.Ns mainGlobals mg → mg nm = some (.ref f) →
    ∃ fd : FuncData, (∀ sh u, BindsTo sh fd ⟨[u], []⟩ [(x, u)]) ∧ ∀ base, (K w.params).In base → base.Ns mainGlobals mg → FnG (gam P w (K w.params) mg base) k f fd [x] (spOf (gam P w (K w.params) mg base) 1 fx)
theorem walkG {l : PySem.W.OpenLaw} {n k : Nat} {q : Program} {loose : List Str} {XP : (Str → Option Value) → Heap → Prop} {YP : World → Heap → Prop} {d : DefRec} {K : Params → PySem.W.Frag} {fx : Fx} {x : Str}
    (most : l.most = some n) (short : n ≤ sizeLine) (plain : d.params.defaults = []) (room : Room k callerA) (inK : ∀ w h, YP w h → (K w.params).In h) (F : Walked l.prog K d.name x k fx)
    (good : ∀ zs : List Int, zs.length ≤ n → ∃ S, fx [.ro (zs.map .int)] [] = .ok (.p (.bool true)) S) : PySem.W.WalkO q loose XP YP l.row.toRowW d [] fun f us => PySem.call f us := by
  refine Att.attach_call most plain fun w _ s1 mg mb f _ _ _ _ a us zs G Y _ _ _ named obj iz len gens => ?_
  obtain ⟨fd, bd, walked⟩ := F w mg f _ (inK w _ Y) G.T.g named
  exact lawG (inK w _ Y) G.T.g G.T.b G.T.builtins G.T.nolimit gens obj iz (Nat.le_trans len short) room walked bd (good zs len)
end Fp

set_option Elab.async false
set_option linter.all false
set_option autoImplicit false
set_option maxRecDepth 100000
/-! Fp: dict(a list of pairs). -/
namespace Fp
open PySem L2
section
variable {Γ : Gam} {k : Nat} {W : WX} {μ μ' ν : List Addr} {S S' : Store} {H H' : Hp} {σ : St} {ρ : Slots} {X : Cx} {pins : List (Addr × Obj)} {s : Shared}
def pairsOf : List PyData → Option (List (PyData × PyData))
  | [] => some []
  | .tuple [x, y] :: r => (pairsOf r).map fun l => (x, y) :: l
  | _ :: _ => none
def keyT (x : PyData) : Bool := isTupD x && (nkey x).isSome && decide (x.depth ≤ 8)
def gDictOf (as : List D) (S : Store) : Option (List (PyData × PyData)) := match as with
  | [a] => (viewL S a).bind fun xs => (pairsOf xs).bind fun l => if (l.all fun kv => (pkey kv.1).isSome) || (l.all fun kv => keyT kv.1) then some (dsets l []) else none
  | _ => none
def GivD (Γ : Gam) (μ : List Addr) (H : Hp) (kvs : List (PyData × PyData)) (Q : VK) : Prop := ∀ p o, H p = none → MoOk Γ (upd H p o) (μ ++ [p]) p (.dic kvs) → Q (.ref p) (upd H p o)
def rDct (Γ : Gam) (g : List D → Store → Option (List (PyData × PyData))) : List V → Hp → VK → Prop := fun xs H Q => ∃ μ S as kvs, Sto Γ μ S H ∧ RvAll Γ H μ xs as ∧ g as S = some kvs ∧ GivD Γ μ H kvs Q
def eDictOf (th : Bool) (g : List D → Store → Option (List (PyData × PyData))) (fa : M (List D)) : M D := fa.bind fun as => fun _ S => match g as S with
  | some kvs => endD th S.length kvs (S ++ [.dic kvs])
  | none => .bad
theorem dct_of {th : Bool} {g : List D → Store → Option (List (PyData × PyData))} {fa : M (List D)} {Q : VK} (h : rdE Γ W (eDictOf th g fa) σ H Q) : tCB (rDct Γ g) (rdA Γ W fa) σ H Q := by
  refine rd.cut h fun μ ρ H1 S1 as xs R1 ra f1 => ?_
  cases e : g as S1 with
  | none => simp only [e] at f1; exact f1.elim
  | some kvs =>
    simp only [e] at f1
    refine ⟨μ, S1, as, kvs, R1.sto, ra, e, fun p o hp mo => ?_⟩
    exact endD_fin (th := th) (W := W) (σ := σ) R1.sto.len (R1.sto.alloc hp mo) (Go.alloc μ hp o) mo (by rw [List.getElem?_append_right (Nat.le_refl _), Nat.sub_self]; rfl) f1
/-! ### keys that are texts and numbers -/
theorem pairs_K : ∀ {vs : List V} {xs : List PyData} {l : List (PyData × PyData)}, RpAll Γ H μ vs xs → pairsOf xs = some l → (l.all fun kv => (pkey kv.1).isSome) = true →
    ∃ (ps : List Addr) (kvs : List (Key × V)), vs = ps.map V.ref ∧ Paired (fun p kv => SqT Γ.K H p [kV kv.1, kv.2]) ps kvs ∧ RpAll Γ H μ (kvs.map fun kv => kV kv.1) (l.map (·.1)) ∧ RpAll Γ H μ (kvs.map (·.2)) (l.map (·.2))
  | [], [], _, _, e, _ => by cases e; exact ⟨[], [], rfl, .nil, .nil, .nil⟩
  | _, [], _, r, e, _ => by cases r; cases e; exact ⟨[], [], rfl, .nil, .nil, .nil⟩
  | _, x :: xs, l, r, e, hk => by
    unfold pairsOf at e
    split at e
    · rename_i ee; cases ee
    · rename_i a b r' ee
      cases ee
      obtain ⟨l', e1, rfl⟩ := Option.map_eq_some_iff.mp e
      rw [List.all_cons, Bool.and_eq_true] at hk
      cases r with
      | cons h t =>
        obtain ⟨ps, kvs, i1, i2, i3, i4⟩ := pairs_K t e1 hk.2
        cases h with
        | tup h1 h2 =>
          cases h2 with
          | cons ha h2 =>
            cases h2 with
            | cons hb h2 =>
              cases h2
              obtain ⟨q, hq⟩ := Option.isSome_iff_exists.mp hk.1
              have e2 := pkey_rp ha hq
              subst e2
              exact ⟨_ :: ps, (q, _) :: kvs, by rw [i1]; rfl, .cons h1.sq i2, .cons ha i3, .cons hb i4⟩
    · cases e
/-! ### keys that are tuples -/
/-- the pairs as they lie: the pair's place, the key, its place, the value -/
theorem pairs_T (G : Gx Γ k X) (I : Inv X pins σ H s) : ∀ {vs : List V} {us : List Value} {xs : List PyData} {l : List (PyData × PyData)}, RpAll Γ H μ vs xs → Vals vs us → pairsOf xs = some l → (l.all fun kv => keyT kv.1) = true →
    ∃ (Ts : List Addr) (ps : List (NestedKey × Addr × Value)) (ws : List V), us = Ts.map Value.ref ∧ Ts.length = ps.length ∧ (∀ (j : Nat) (T : Addr) (x : NestedKey × Addr × Value), Ts[j]? = some T → ps[j]? = some x → s.heap.IsTuple T #[.ref x.2.1, x.2.2]) ∧
      (∀ x ∈ ps, (nestedKind X.prog X.w).is s.heap x.1 x.2.1) ∧ RpAll Γ H μ (ps.map fun x => V.ref x.2.1) (l.map (·.1)) ∧ nkeys (l.map (·.1)) = some (ps.map (·.1)) ∧ Vals ws (ps.map (·.2.2)) ∧ RpAll Γ H μ ws (l.map (·.2))
  | _, _, [], _, r, rv, e, _ => by
    cases r
    cases rv
    cases e
    exact ⟨[], [], [], rfl, rfl, fun j T x h _ => (by simp at h), fun x h => (by simp at h), .nil, rfl, .nil, .nil⟩
  | _, _, x :: xs, l, r, rv, e, hk => by
    unfold pairsOf at e
    split at e
    · rename_i ee; cases ee
    · rename_i a b r' ee
      cases ee
      obtain ⟨l', e1, rfl⟩ := Option.map_eq_some_iff.mp e
      rw [List.all_cons, Bool.and_eq_true] at hk
      obtain ⟨hk1, hk2⟩ := hk
      unfold keyT at hk1
      rw [Bool.and_eq_true, Bool.and_eq_true] at hk1
      obtain ⟨⟨k1, k2⟩, k3⟩ := hk1
      have k3 := of_decide_eq_true k3
      obtain ⟨n, hn⟩ := Option.isSome_iff_exists.mp k2
      cases r with
      | cons h t =>
        cases rv with
        | cons v1 v2 =>
          obtain ⟨Ts, ps, ws, i1, i2, i3, i4, i5, i6, i7, i8⟩ := pairs_T G I t v2 e1 hk2
          cases h with
          | tup h1 h2 =>
            rename_i T vs2
            cases v1
            cases h2 with
            | cons ha h2 =>
              cases h2 with
              | cons hb h2 =>
                cases h2
                obtain ⟨c, rfl⟩ := ha.tupRef k1
                obtain ⟨its, rt, pt, _⟩ := I.tuple (show SqT X.K H T _ by rw [G.K]; exact h1.sq)
                cases rt with
                | cons q1 rt =>
                  cases rt with
                  | cons q2 rt =>
                    cases rt
                    cases q1
                    rename_i u
                    refine ⟨T :: Ts, (n, c, u) :: ps, _ :: ws, by rw [i1]; rfl, by simp [i2], fun j T' x e1 e2 => ?_, fun x hx => ?_, .cons ha i5, ?_, .cons q2 i7, .cons hb i8⟩
                    · cases j with
                      | zero => cases e1; cases e2; exact pt
                      | succ j => exact i3 j T' x e1 e2
                    · rcases List.mem_cons.mp hx with z | z
                      · subst z
                        exact ⟨ha.nested G I hn rfl, by rw [nkey_depth _ _ hn]; exact k3⟩
                      · exact i4 x z
                    · show nkeys (a :: l'.map (·.1)) = _
                      rw [nkeys, hn, i6]
                      rfl
    · cases e
theorem merge_T : ∀ {ps acc : List (NestedKey × Addr × Value)} {ws : List V} {l : List (PyData × PyData)} {ds es : List PyData} {vs : List V}, RpAll Γ H μ (ps.map fun x => V.ref x.2.1) (l.map (·.1)) → nkeys (l.map (·.1)) = some (ps.map (·.1)) → Vals ws (ps.map (·.2.2)) → RpAll Γ H μ ws (l.map (·.2)) →
    RpAll Γ H μ (acc.map fun x => V.ref x.2.1) ds → nkeys ds = some (acc.map (·.1)) → Vals vs (acc.map (·.2.2)) → RpAll Γ H μ vs es →
    ∃ ds' es' vs', RpAll Γ H μ ((storedAllH acc ps).map fun x => V.ref x.2.1) ds' ∧ nkeys ds' = some ((storedAllH acc ps).map (·.1)) ∧ Vals vs' ((storedAllH acc ps).map (·.2.2)) ∧ RpAll Γ H μ vs' es' ∧ dsets l (ds.zip es) = ds'.zip es'
  | [], _, _, [], _, _, _, _, _, _, _, a1, a2, a3, a4 => ⟨_, _, _, a1, a2, a3, a4, rfl⟩
  | [], _, _, _ :: _, _, _, _, r, _, _, _, _, _, _, _ => by cases r
  | _ :: _, _, _, [], _, _, _, r, _, _, _, _, _, _, _ => by cases r
  | (n, b, u) :: ps, acc, _, (x, e) :: l, ds, es, vs, r1, r2, r3, r4, a1, a2, a3, a4 => by
    cases r1 with
    | cons h1 t1 =>
      cases r3 with
      | cons h3 t3 =>
        cases r4 with
        | cons h4 t4 =>
          obtain ⟨n1, n2⟩ := nkeys_some r2
          obtain ⟨ds1, es1, vs1, b1, b2, b3, b4, b5⟩ := put_T a1 a2 a3 a4 n1 h1 h3 h4
          obtain ⟨ds2, es2, vs2, c1, c2, c3, c4, c5⟩ := merge_T t1 n2 t3 t4 b1 b2 b3 b4
          refine ⟨ds2, es2, vs2, c1, c2, c3, c4, ?_⟩
          rw [← c5, ← b5]
          rfl
theorem storedAllH_len (ps : List (NestedKey × Addr × Value)) : ∀ acc : List (NestedKey × Addr × Value), (storedAllH acc ps).length ≤ acc.length + ps.length := by
  induction ps with
  | nil => intro acc; exact Nat.le_refl _
  | cons p ps ih =>
    intro acc
    have h1 := ih (storedH acc p.1 p.2.1 p.2.2)
    have h2 := storedH_len (xs := acc) (n := p.1) (b := p.2.1) (u := p.2.2)
    show (storedAllH (storedH acc p.1 p.2.1 p.2.2) ps).length ≤ _
    rw [List.length_cons]
    omega
theorem storedAllH_depth : ∀ {ps acc : List (NestedKey × Addr × Value)}, (∀ x ∈ acc, x.1.depth ≤ 8) → (∀ x ∈ ps, x.1.depth ≤ 8) → ∀ x ∈ storedAllH acc ps, x.1.depth ≤ 8
  | [], _, h, _ => h
  | p :: ps, acc, h, h' => storedAllH_depth (ps := ps) (storedH_depth h (h' p (by simp))) fun x hx => h' x (List.mem_cons_of_mem _ hx)
theorem storedAllH_ne : ∀ {ps acc : List (NestedKey × Addr × Value)}, (ps ≠ [] ∨ acc ≠ []) → storedAllH acc ps ≠ []
  | [], _, h => h.resolve_left fun z => z rfl
  | p :: ps, acc, _ => storedAllH_ne (ps := ps) (acc := storedH acc p.1 p.2.1 p.2.2) (.inr storedH_ne)
theorem c_dict (G : Gx Γ k X) : CallR X (.type "dict") (rDct Γ gDictOf) := by
  intro pins s σ H xs us Q I
  intro r h
  obtain ⟨μ, S, as, kvs, st, ra, e, q⟩ := h
  unfold gDictOf at e
  split at e
  · rename_i a
    obtain ⟨zs, e1, e⟩ := Option.bind_eq_some_iff.mp e
    obtain ⟨l, e2, e⟩ := Option.bind_eq_some_iff.mp e
    obtain ⟨v, rfl, rv⟩ := ra.one
    obtain ⟨a', vs, rfl, h1, h2⟩ := viewL_at st rv e1
    split at e
    · rename_i hk
      cases e
      by_cases hK : (l.all fun kv => (pkey kv.1).isSome) = true
      · obtain ⟨ps, kvs', rfl, i2, i3, i4⟩ := pairs_K h2 e2 hK
        refine call_dictP G.calm pins s σ H _ us Q I r ⟨a', ps, kvs', rfl, by rw [G.K]; exact h1, by rw [G.K]; exact i2, fun p hp => ?_⟩
        obtain ⟨ds', es', m1, m2, m3⟩ := merge_K i3 i4 (acc := []) (ds := []) (es := []) .nil .nil
        have ga := Go.alloc μ hp (.dK (mergeK [] kvs'))
        exact q p _ hp ⟨_, _, none, ds', es', ⟨_, upd_same, rfl, rfl⟩, m1.go ga, m2.go ga, m3, fun ns z => by cases z⟩
      · have hT : (l.all fun kv => keyT kv.1) = true := by
          rw [Bool.or_eq_true] at hk
          exact hk.resolve_left hK
        rw [r.ref1]
        obtain ⟨its, rv', pl, hz⟩ := I.list (show SqL X.K H a' vs by rw [G.K]; exact h1)
        obtain ⟨Ts, ps, ws, i1, i2, i3, i4, i5, i6, i7, i8⟩ := pairs_T G I h2 rv' e2 hT
        subst i1
        have hlen := rv'.length
        rw [List.length_map] at hlen
        obtain ⟨ol, n, ho, hc, hd, hdat⟩ := pl
        have tsj : ∀ {j : Nat}, j < Ts.length → Ts[j]? = some (Ts.getD j 0) := fun {j} hj => by
          rw [List.getD_eq_getElem?_getD, List.getElem?_eq_getElem hj]
          rfl
        refine call_dict_pairsH (knd := nestedKind X.prog X.w) (ps := ps) (PairArg.list a' (Ts.map Value.ref).toArray (fun j => Ts.getD j 0) (ps.map fun x => (Value.ref x.2.1, x.2.2))) (I.ok.hd G.calm) (by have := room8 G.room; have := G.room.un; show X.A.units + 1 + 1 + 8 < cLine; omega)
          ⟨⟨ol, n, ho, hc, hd, hdat⟩, by simp [i2], fun j kk vv ej => ?_⟩ ⟨by simp, fun i key v er => ?_⟩ (fun h' hk' x hx => ?_) (by rw [List.length_map]; omega) fun h' tk dd hk' => ?_
        · rw [List.getElem?_map] at ej
          obtain ⟨x, ex, ee⟩ := Option.map_eq_some_iff.mp ej
          cases ee
          have hj : j < Ts.length := by rw [i2]; exact (List.getElem?_eq_some_iff.mp ex).1
          refine ⟨?_, .inl (i3 j _ x (tsj hj) ex)⟩
          rw [List.getElem?_toArray, List.getElem?_map, tsj hj]
          rfl
        · have er : (ps.map fun x => (Value.ref x.2.1, x.2.2))[i]? = some (key, v) := er
          rw [List.getElem?_map] at er
          obtain ⟨x, ex, ee⟩ := Option.map_eq_some_iff.mp er
          cases ee
          exact ⟨x.1, x.2.1, by rw [ex], rfl⟩
        · obtain ⟨j1, j2⟩ := i4 x hx
          refine ⟨NestedIs.at (fun b ob vs n hb hc => hk' b ob (Nat.ne_of_lt (Heap.lt_size hb)) (by simp) hb) _ _ j1, j2⟩
        · have kp : ∀ b o, s.heap.get? b = some o → h'.get? b = some o := fun b o e => hk' b o (by simp) e
          have hm : (s.heap.objs.size == sysModules) = false := by
            rw [beq_eq_false_iff_ne]
            exact Nat.ne_of_gt I.big
          have hfr := I.hok.fresh (Nat.le_refl s.heap.objs.size)
          obtain ⟨ds', es', vs', m1, m2, m3, m4, m5⟩ := merge_T i5 i6 i7 i8 (acc := []) (ds := []) (es := []) (vs := []) .nil rfl .nil .nil
          obtain ⟨ob, es2, ep, g1, g2, g3, g4, g5, g6⟩ := dd
          have ga := Go.alloc μ hfr (dicT Γ.P Γ.w s.heap.objs.size (storedAllH [] ps))
          refine ⟨.ref s.heap.objs.size, upd H s.heap.objs.size (dicT Γ.P Γ.w s.heap.objs.size (storedAllH [] ps)), I.laid (t' := tk) kp (Nat.le_refl _) ?_, rfl, q _ _ hfr ?_⟩
          · refine ⟨⟨ob, es2, ep, g1, g2, g3, by rw [← G.P, ← G.w]; exact g4⟩, ⟨ob, g1⟩, fun ha hb hc hd => ?_⟩
            obtain ⟨o2, es3, ep3, j1, j2⟩ := hc
            exact ⟨o2, es3, ep3, hd _ j1, j2⟩
          · refine ⟨_, vs', some _, ds', es', ⟨_, upd_same, rfl, rfl, m3, hm, ?_, g6, storedAllH_depth (fun x hx => by cases hx) fun x hx => (i4 x hx).2, storedAllH_ne (.inl fun z => hK (by subst z; have := i5.length; cases l <;> simp at this ⊢))⟩, m1.go ga, m4.go ga, m5, fun ns z => by cases z; exact m2⟩
            have := storedAllH_len ps []
            rw [List.length_nil] at this
            omega
    · cases e
  · cases e
end
end Fp

set_option Elab.async false
set_option linter.all false
set_option autoImplicit false
set_option maxRecDepth 100000
/-! Fp: dict(..) by its name, max(.., default=). -/
namespace Fp
open PySem L2
section
variable {Γ : Gam} {k : Nat} {W : WX} {μ μ' ν : List Addr} {S S' : Store} {H H' : Hp} {σ : St} {ρ : Slots} {X : Cx} {pins : List (Addr × Obj)} {s : Shared}
theorem e_dictOf {th : Bool} (G : Gx Γ k X) {e : Expr} {es : List Expr} {f : M (List D)} {p pos : Pos} (hg : Gl X "dict") (hm : Γ.mg "dict" = none) (ha : PA X (e :: es) (rdA Γ W f))
    (he : starEach (e :: es) X.env = (false, eval e X.env) :: starEach es X.env) (hpl : (backTo pos (starEach es X.env)).any (·.1) = false) : PE X (.Call (.Name "dict" p) (e :: es) [] pos) (rdE Γ W (eDictOf th gDictOf f)) :=
  PE.mono (pe_callTy (c_dict G) hg (by rw [G.mg]; exact hm) (by decide +kernel) ha (by decide +kernel) (by decide +kernel) he hpl) fun σ H Q h => dct_of h
/-! ### calls with keywords -/
def rGk (Γ : Gam) (g : List D → List D → Store → Option D) : List V → List V → Hp → VK → Prop := fun xs zs H Q => ∃ μ S as bs d, Sto Γ μ S H ∧ RvAll Γ H μ xs as ∧ RvAll Γ H μ zs bs ∧ g as bs S = some d ∧ Giv Γ μ S H d Q
def eNk (g : List D → List D → Store → Option D) (fa fk : M (List D)) : M D := fa.bind fun as => fk.bind fun bs => fun _ S => .of S (g as bs S)
theorem tCKw_of {g : List D → List D → Store → Option D} {fa fk : M (List D)} {Q : VK} (h : rdE Γ W (eNk g fa fk) σ H Q) : tCKw (rGk Γ g) (rdA Γ W fa) (rdK Γ W fk) σ H Q := by
  refine rd.cut h fun μ ρ H1 S1 as xs R1 ra f1 => ?_
  refine ⟨μ, ρ, S1, R1, Fin.cut (k := fun bs S' => .of S' (g as bs S')) f1 fun μ2 H2 S2 bs zs g2 s2 rb f2 => ?_⟩
  obtain ⟨d, e, f3⟩ := f2.of
  exact ⟨μ2, S2, as, bs, d, s2, ra.go g2, rb, e, f3⟩
def gMaxD (as bs : List D) (S : Store) : Option D := match as, bs with
  | [a], [b] => (viewL S a).bind fun xs => match allI xs with
    | some (n :: r) => some (.p (.int (maxL n r)))
    | some [] => some b
    | none => none
  | _, _ => none
theorem maxOf_eq : ∀ (r : List Int) (n : Int), PySem.W.maxOf n r = maxL n r
  | [], _ => rfl
  | x :: r, n => by
    show PySem.W.maxOf (if decide (n < x) = true then x else n) r = maxL (if n < x then x else n) r
    rw [maxOf_eq r]
    by_cases h : n < x
    · rw [if_pos h, if_pos (decide_eq_true h)]
    · rw [if_neg h, if_neg (by simpa using h)]
theorem allI_map : ∀ {xs : List PyData} {ns : List Int}, allI xs = some ns → xs = ns.map PyData.int
  | [], _, e => by cases e; rfl
  | x :: xs, ns, e => by
    cases x with
    | int i =>
      rw [allI] at e
      obtain ⟨r, e1, rfl⟩ := Option.map_eq_some_iff.mp e
      rw [allI_map e1]
      rfl
    | _ => cases e
theorem plain_ints : ∀ ns : List Int, PyData.plainAll (ns.map PyData.int) = true
  | [] => rfl
  | _ :: ns => by rw [List.map_cons, PyData.plainAll, plain_ints ns]; rfl
theorem c_maxD (G : Gx Γ k X) : CallRK X (.builtin "max") [Str.ofString "default"] (rGk Γ gMaxD) := by
  intro pins s σ H xs zs us ws Q I rx rz h
  obtain ⟨μ, S, as, bs, d, st, ra, rb, e, q⟩ := h
  unfold gMaxD at e
  split at e
  · rename_i a b
    obtain ⟨ds, e1, e⟩ := Option.bind_eq_some_iff.mp e
    obtain ⟨v, rfl, rv⟩ := ra.one
    obtain ⟨z, rfl, rzv⟩ := rb.one
    obtain ⟨a', vs, rfl, h1, h2⟩ := viewL_at st rv e1
    obtain ⟨u, rfl, ru⟩ := rz.one
    rw [rx.ref1]
    cases en : allI ds with
    | none => rw [en] at e; cases e
    | some ns =>
      rw [en] at e
      have eds := allI_map en
      subst eds
      obtain ⟨its, rvs, pl, hz⟩ := I.list (show SqL X.K H a' vs by rw [G.K]; exact h1)
      obtain ⟨adr, rds⟩ := h2.reads G I (plain_ints ns) rvs
      have hold : PySem.W.HoldAll s.heap its.toArray.toList ns := ⟨adr, rds⟩
      show wpAny _ _ (call (.builtin "max") [.ref a'] [(Str.ofString "default", u)]) _ _ _
      refine PySem.W.max_list_datum_default (α := Int) (I.ok.hd G.calm) pl.isList hold (by have := G.room.un; show X.A.units + 1 + 0 < cLine; omega) (fun e0 h' tk hk => ?_) (fun y ys i v' h' tk e0 hi ho hk => ?_)
      · subst e0
        cases e
        exact ⟨z, H, I.kept (t' := tk) hk, ru, q.here st rzv⟩
      · subst e0
        cases e
        obtain ⟨as', hr⟩ := ho
        have hr : Reads h' v' (.int (PySem.W.maxOf y ys)) as' := hr
        cases hr
        rw [maxOf_eq]
        exact ⟨.int (maxL y ys), H, I.kept (t' := tk) hk, ⟨_, rfl⟩, q.int st⟩
  · cases e
theorem e_maxD (G : Gx Γ k X) {e : Expr} {es : List Expr} {kws : List Keyword} {fa fk : M (List D)} {p pos : Pos} (hg : Gl X "max") (hm : Γ.mg "max" = none) (ha : PA X (e :: es) (rdA Γ W fa)) (hk : PK X kws (rdK Γ W fk))
    (he : backTo pos (starEach (e :: es) X.env) = (false, eval e X.env) :: backTo pos (starEach es X.env)) (hpl : (backTo pos (starEach (e :: es) X.env)).any (·.1) = false)
    (hall : (backToKw pos (keywordEach kws X.env)).all (·.1.isSome) = true) (hnone : (backToKw pos (keywordEach kws X.env)).any (·.1.isNone) = false) (hks : (backToKw pos (keywordEach kws X.env)).filterMap (·.1) = [Str.ofString "default"]) :
    PE X (.Call (.Name "max" p) (e :: es) kws pos) (rdE Γ W (eNk gMaxD fa fk)) :=
  PE.mono (pe_callBK (c_maxD G) hg (by rw [G.mg]; exact hm) (by decide +kernel) ha hk (by decide +kernel) (by decide +kernel) he hpl hall hnone hks) fun σ H Q h => tCKw_of h
end
end Fp

set_option Elab.async false
set_option linter.all false
set_option autoImplicit false
set_option maxRecDepth 100000
/-! Fp: what the printed proofs lean on. -/
namespace Fp
open PySem L2
section
variable {Γ : Gam} {k : Nat} {W : WX} {μ μ' ν : List Addr} {S S' : Store} {H H' : Hp} {σ : St} {ρ : Slots} {X : Cx} {pins : List (Addr × Obj)} {s : Shared}
theorem takes_no : Takes X wNo := fun u s' ⟨_, _, _, _, _, _, _, _, _, _, _, _, _, _, _, _, w⟩ => w.elim
theorem FnG.mono {j : Nat} {f : Addr} {fd : FuncData} {ps : List Str} {sp : Sp} (F : FnG Γ j f fd ps sp) (h : j ≤ k) : FnG Γ k f fd ps sp := ⟨F.len, fun A outer s H args us vs Q E hr => F.run A outer s H args us vs Q E (hr.mono h)⟩
theorem Fd.mono {j : Nat} {x : Str} {ns ks : List Str} {fx : Fx} (F : Fd Γ j x ns ks fx) (h : j ≤ k) : Fd Γ k x ns ks fx :=
  ⟨let ⟨a, fd, h1, h2, h3, h4, h5⟩ := F.ex; ⟨a, fd, h1, h2, h3, h4, h5.mono h⟩⟩
/-- a def of the text stands where the module says -/
structure DefAt (K : PySem.W.Frag) (mg : Str → Option Value) (x : Str) (st : Stmt) (f : Addr) (fd : FuncData) : Prop where
  mg : mg x = some (.ref f)
  keep : PySem.W.keepIn K (.ref f) = true
  lk : ∃ oc od kV doc pm an cdv ct osl, fd = PySem.W.fnOf x x (defArgs st) (defBody st) (defScope st) .none kV doc pm an cdv ct ∧ K.lookup f = some ⟨oc, od, .func fd, osl⟩ ∧ PySem.W.codeIn K cdv x = true
theorem fd_of {P : Program} {w : World} {K : PySem.W.Frag} {mg : Str → Option Value} {base : Heap} {x : Str} {st : Stmt} {f : Addr} {fd : FuncData} {N ns ks : List Str} {keep : Bool} {fb : MS}
    (T : DefAt K mg x st f fd) (h1 : (defArgs st).posonlyargs = []) (h2 : (defArgs st).vararg = none) (h3 : (defArgs st).kwarg = none) (h4 : (defArgs st).args.map (·.arg) = ns) (h5 : (defArgs st).kwonlyargs.map (·.arg) = ks) (Sc : FnScope N (ns ++ ks) (defScope st))
    (hbody : ∀ (cdv : Value) (A : Around) (outer : List Env) (s : Shared) (H : Hp) (E : XK), Gx (gam P w K mg base) k (bodyX (gam P w K mg base) N x (defScope st) f cdv A outer s H E) → Takes (bodyX (gam P w K mg base) N x (defScope st) f cdv A outer s H E) (wOf E) →
      PSs (bodyX (gam P w K mg base) N x (defScope st) f cdv A outer s H E) (defBody st) (rdS (gam P w K mg base) (wOf E) fb)) :
    Fd (gam P w K mg base) (k + 1) x ns ks (fxOf N.length keep fb) := by
  obtain ⟨m, kp, oc, od, kV, doc, pm, an, cdv, ct, osl, rfl, lk, cd⟩ := T
  refine ⟨f, _, m, ?_, kp, ⟨h1, h2, h3, rfl, h4, h5⟩, g_fn (keep := keep) (n := (ns ++ ks).length) lk cd Sc rfl fun A outer s H E => hbody cdv A outer s H E⟩
  show refOf (mg x) = some f
  rw [m]
  rfl
/-- the def itself, for the law -/
theorem fnG_of {P : Program} {w : World} {K : PySem.W.Frag} {mg : Str → Option Value} {base : Heap} {x : Str} {st : Stmt} {f : Addr} {fd : FuncData} {N ps : List Str} {keep : Bool} {fb : MS} {n : Nat}
    (T : DefAt K mg x st f fd) (Sc : FnScope N ps (defScope st)) (hn : ps.length = n)
    (hbody : ∀ (cdv : Value) (A : Around) (outer : List Env) (s : Shared) (H : Hp) (E : XK), Gx (gam P w K mg base) k (bodyX (gam P w K mg base) N x (defScope st) f cdv A outer s H E) → Takes (bodyX (gam P w K mg base) N x (defScope st) f cdv A outer s H E) (wOf E) →
      PSs (bodyX (gam P w K mg base) N x (defScope st) f cdv A outer s H E) (defBody st) (rdS (gam P w K mg base) (wOf E) fb)) :
    FnG (gam P w K mg base) (k + 1) f fd ps (spOf (gam P w K mg base) n (fxOf N.length keep fb)) := by
  obtain ⟨m, kp, oc, od, kV, doc, pm, an, cdv, ct, osl, rfl, lk, cd⟩ := T
  exact g_fn (keep := keep) lk cd Sc hn fun A outer s H E => hbody cdv A outer s H E
/-! ### a + b, a new list -/
def lAdd (fa fb : M D) : M (List PyData) := fa.bind fun a => fb.bind fun b => fun _ S => .of S (match viewW S a, viewW S b with
  | some xs, some ys => if xs.length + ys.length ≤ sizeLine then some (xs ++ ys) else none
  | _, _ => none)
theorem l_add {a b : Expr} {fa fb : M D} {pos : Pos} (ha : PE X a (rdE Γ W fa)) (hb : PE X b (rdE Γ W fb)) : PE X (.BinOp a .Add b pos) (rdL Γ W (lAdd fa fb)) := by
  refine PE.mono (pe_op op_cat ha hb) fun σ H Q h => ?_
  refine rd.cut h fun μ ρ H1 S1 a x R1 ra f1 => ?_
  refine ⟨μ, ρ, S1, R1, Fin.cut (k := fun b S' => .of S' (match viewW S' a, viewW S' b with | some xs, some ys => if xs.length + ys.length ≤ sizeLine then some (xs ++ ys) else none | _, _ => none)) f1 fun μ2 H2 S2 b y g2 s2 rb f2 => ?_⟩
  obtain ⟨zs, e, f3⟩ := f2.of
  split at e
  · rename_i xs ys e1 e2
    split at e
    · rename_i hz
      cases e
      obtain ⟨p1, vs, rfl, h1, r1⟩ := viewW_at s2 (ra.go g2) e1
      obtain ⟨p2, ws, rfl, h2, r2⟩ := viewW_at s2 rb e2
      exact ⟨p1, p2, vs, ws, rfl, rfl, h1, h2, by rw [r1.length, r2.length]; exact hz, Fin.here f3 s2 (r1.append r2)⟩
    · cases e
  · cases e
end
/-! ### side conditions -/
end Fp

set_option Elab.async false
set_option linter.all false
set_option autoImplicit false
set_option maxRecDepth 100000
/-! Fp: a set of nested tuples: looking for a key, adding one. The table's own facts are HandS.TupSets'. -/
namespace Fp
open PySem PySem.Spec L2
section
variable {P : Program} {w : World}
/-! ### what the search asks of its keys -/
/-- a question whose answer is of bs, and that changes nothing -/
def Says (P : Program) (w : World) (s : Shared) (bs : List Bool) (m : Sem Bool) : Prop :=
  ∀ (A : Around) (E : Value → Shared → Prop) (Q : Bool → Shared → Prop), (∀ b ∈ bs, Q b s) → wpAny (model P w) A m Q E s
theorem Says.val {s : Shared} {bs : List Bool} {m : Sem Bool} {b : Bool} (e : m = pure b) (h : b ∈ bs) : Says P w s bs m := fun A E Q q => by
  rw [e]; exact wpAny_pure (q b h)
mutual
theorem says_cls : ∀ (k : NestedKey) (v : Value) (n : Nat) (s : Shared), NestedIs s.heap k v → k.depth ≤ n → Says P w s [false] (ofAClassStatement n v)
  | .none, _, n, s, .none, _ => .val (by cases n <;> rfl) (by simp)
  | .num _, _, n, s, .bool _, _ => .val (by cases n <;> rfl) (by simp)
  | .num _, _, n, s, .int _ _, _ => .val (by cases n <;> rfl) (by simp)
  | .text _, _, n, s, .text _ _, _ => .val (by cases n <;> rfl) (by simp)
  | .tup ks, _, 0, s, .tup _ _ _ _, h => by simp [NestedKey.depth] at h
  | .tup ks, _, n + 1, s, .tup (a := a) (o := o) ho hc hd hi, h => fun A E Q q => by
    have each := says_clss ks _ n s hi (by simp only [NestedKey.depth] at h; omega)
    unfold ofAClassStatement
    refine wpAny_bind (wpAny_typeOf (v := .ref a) (T := "tuple") ⟨o, ho, hc⟩ ?_)
    show wpAny (model P w) A (seqItems? (Value.ref a) >>= fun y => _) Q E s
    refine wpAny_bind (wpAny_seqItems ho hd (wpAny_bind ?_))
    refine Eq.mpr (congrArg (fun m => wpAny (model P w) A m _ E s) (Array.forIn_toList).symm) ?_
    refine wpAny_forIn_list _ (fun l (r : Option Bool × Unit) z => z = s ∧ r.1 = none ∧ ∀ v ∈ l, Says P w s [false] (ofAClassStatement n v)) _ (fun v l r z iv => ?_) (fun r z iv => ?_) _ _ ⟨rfl, rfl, each⟩
    · obtain ⟨rfl, _, iv⟩ := iv
      refine wpAny_bind (iv v (by simp) A E _ fun b hb => ?_)
      obtain rfl : b = false := by simpa using hb
      exact wpAny_pure ⟨rfl, rfl, fun u hu => iv u (by simp [hu])⟩
    · obtain ⟨rfl, e, _⟩ := iv
      obtain ⟨r, _⟩ := r
      cases e
      exact wpAny_pure (q false (by simp))
theorem says_clss : ∀ (ks : List NestedKey) (vs : List Value) (n : Nat) (s : Shared), NestedAll s.heap ks vs → NestedKey.depthAll ks ≤ n → ∀ v ∈ vs, Says P w s [false] (ofAClassStatement n v)
  | [], _, _, _, .nil, _, v, hv => by cases hv
  | k :: ks, _, n, s, .cons h1 h2, hd, v, hv => by
    simp only [NestedKey.depthAll] at hd
    rcases List.mem_cons.mp hv with it | hv
    · rw [it]; exact says_cls k _ n s h1 (by omega)
    · exact says_clss ks _ n s h2 (by omega) v hv
end
mutual
theorem says_hbv : ∀ (k : NestedKey) (v : Value) (n : Nat) (s : Shared), NestedIs s.heap k v → Says P w s [true, false] (hashByValue n v)
  | .none, _, n, s, .none => .val (b := true) (by cases n <;> rfl) (by simp)
  | .num _, _, n, s, .bool _ => .val (b := true) (by cases n <;> rfl) (by simp)
  | .num _, _, n, s, .int _ _ => .val (b := true) (by cases n <;> rfl) (by simp)
  | .text _, _, n, s, .text _ _ => .val (b := false) (by cases n <;> rfl) (by simp)
  | .tup ks, _, 0, s, .tup _ _ _ _ => .val (b := false) rfl (by simp)
  | .tup ks, _, n + 1, s, .tup (a := a) (o := o) ho hc hd hi => fun A E Q q => by
    have each := says_hbvs ks _ n s hi
    unfold hashByValue
    refine wpAny_bind (wpAny_specialOf (T := "tuple") ⟨o, ho, hc⟩ F.slot_tuple_hash.lookup ?_)
    show wpAny (model P w) A (seqItems? (Value.ref a) >>= fun y => _) Q E s
    refine wpAny_bind (wpAny_seqItems ho hd (wpAny_bind ?_))
    refine Eq.mpr (congrArg (fun m => wpAny (model P w) A m _ E s) (Array.forIn_toList).symm) ?_
    refine wpAny_forIn_list _ (fun l (r : Option Bool × Unit) z => z = s ∧ r.1 = none ∧ ∀ v ∈ l, Says P w s [true, false] (hashByValue n v)) _ (fun v l r z iv => ?_) (fun r z iv => ?_) _ _ ⟨rfl, rfl, each⟩
    · obtain ⟨rfl, _, iv⟩ := iv
      refine wpAny_bind (iv v (by simp) A E _ fun b hb => ?_)
      cases b with
      | true => exact wpAny_pure ⟨rfl, rfl, fun u hu => iv u (by simp [hu])⟩
      | false => exact wpAny_pure (wpAny_pure (q false (by simp)))
    · obtain ⟨rfl, e, _⟩ := iv
      obtain ⟨r, _⟩ := r
      cases e
      exact wpAny_pure (q true (by simp))
theorem says_hbvs : ∀ (ks : List NestedKey) (vs : List Value) (n : Nat) (s : Shared), NestedAll s.heap ks vs → ∀ v ∈ vs, Says P w s [true, false] (hashByValue n v)
  | [], _, _, _, .nil, v, hv => by cases hv
  | k :: ks, _, n, s, .cons h1 h2, v, hv => by
    rcases List.mem_cons.mp hv with it | hv
    · rw [it]; exact says_hbv k _ n s h1
    · exact says_hbvs ks _ n s h2 v hv
end
/-- an address and the key that lies there -/
abbrev AK := Addr × NestedKey
def KeyIn (h : Heap) (e : AK) : Prop := NestedIs h e.2 (.ref e.1) ∧ e.2.depth ≤ 8
theorem says_seen {s : Shared} {e : AK} (he : KeyIn s.heap e) {ys : List Value} (hy : ∀ y ∈ ys, ∃ d, y = Value.ref d.1 ∧ KeyIn s.heap d) : Says P w s [false] (searchCouldBeSeen (.ref e.1) ys) := fun A E Q q => by
  unfold searchCouldBeSeen
  refine wpAny_bind (wpAny_forIn_list _ (fun l (r : Option Bool × Unit) z => z = s ∧ r.1 = none ∧ ∀ y ∈ l, ∃ d, y = Value.ref d.1 ∧ KeyIn s.heap d) _ (fun v l r z iv => ?_) (fun r z iv => ?_) _ _ ⟨rfl, rfl, hy⟩)
  · obtain ⟨rfl, _, iv⟩ := iv
    obtain ⟨d, rfl, hd⟩ := iv v (by simp)
    have on : z = z ∧ (none : Option Bool) = none ∧ ∀ y ∈ l, ∃ d, y = Value.ref d.1 ∧ KeyIn z.heap d := ⟨rfl, rfl, fun u hu => iv u (by simp [hu])⟩
    dsimp only
    cases hv : (e.1 == d.1 || (carriedByValue (.ref e.1) && carriedByValue (.ref d.1))) with
    | true => exact wp_if_pos rfl (wpAny_pure on)
    | false =>
      refine wp_if_neg (by decide) (wpAny_bind (quiet_key _ _ 8 z he.1 he.2 A E _ ?_))
      refine wp_if_neg (by decide) (wpAny_bind (quiet_key _ _ 8 z hd.1 hd.2 A E _ ?_))
      refine wp_if_neg (by decide) (wpAny_bind (says_cls _ _ 8 z he.1 he.2 A E _ fun b hb => ?_))
      obtain rfl : b = false := by simpa using hb
      refine wp_if_neg (by decide) (wpAny_bind (says_cls _ _ 8 z hd.1 hd.2 A E _ fun b hb => ?_))
      obtain rfl : b = false := by simpa using hb
      exact wp_if_neg (by decide) (wpAny_pure on)
  · obtain ⟨rfl, h, _⟩ := iv
    obtain ⟨r, _⟩ := r
    cases h
    exact wpAny_pure (q false (by simp))
end
end Fp

set_option Elab.async false
set_option linter.all false
set_option autoImplicit false
set_option maxRecDepth 100000
namespace Fp
open PySem PySem.Spec L2
section
variable {P : Program} {w : World} {A : Around} {E : Value → Shared → Prop} {s : Shared} {a : Addr} {L : List AK} {es : Array (Int × Value)} {ep : Nat} {t : SetTable}
abbrev hOf (w : World) (e : AK) : Int := e.2.hash w
def pairOf (w : World) (e : AK) : Int × Value := (hOf w e, .ref e.1)
/-- at a lies a set of the keys L, in the order of its slots -/
structure NSet (w : World) (h : Heap) (a : Addr) (L : List AK) (es : Array (Int × Value)) (ep : Nat) (t : SetTable) : Prop where
  obj : ∃ o, h.get? a = some o ∧ o.ExactSet ∧ o.data = .set es ep t
  has : es.toList = L.map (pairOf w)
  tab : TabOk t (L.map (hOf w))
  dist : (L.map Prod.snd).Nodup
  keys : ∀ e ∈ L, KeyIn h e
  led : (w.params.followText "set-order" = true) ∨ (t.led = true)
  room : 5 * L.length < 3 * t.mask
  few : L.length ≤ 63
theorem NSet.num {h : Heap} (N : NSet w h a L es ep t) : es.size = L.length := by
  rw [← Array.length_toList, N.has, List.length_map]
theorem NSet.slots {h : Heap} (N : NSet w h a L es ep t) : t.place.size = L.length := by
  have := N.tab.sz
  rwa [List.length_map] at this
theorem NSet.fit {h : Heap} (N : NSet w h a L es ep t) : t.fits es.size = true := by
  have h1 := N.num
  have h2 := N.slots
  have h3 := N.room
  simp only [SetTable.fits, SetTable.fill, N.tab.dm, Bool.and_eq_true, beq_iff_eq, decide_eq_true_eq, List.size_toArray, List.length_nil]
  exact ⟨h2.trans h1.symm, by omega⟩
theorem NSet.at {h : Heap} (N : NSet w h a L es ep t) {i : Nat} {e : AK} (he : L[i]? = some e) : es[i]? = some (pairOf w e) := by
  have : es.toList[i]? = some (pairOf w e) := by rw [N.has, List.getElem?_map, he]; rfl
  simpa using this
/-- where the c-th look for the hash h goes -/
abbrev stepAt (m : Nat) (h : Int) (c : Nat) : SetTable.Probe := nth m (runAt m (SetTable.bits h % (m + 1)) (SetTable.bits h)) c
theorem nth_clean (m : Nat) : ∀ (c : Nat) (p : SetTable.Probe), p.dummy = none → (nth m p c).dummy = none
  | 0, _, h => h
  | c + 1, p, h => nth_clean m c _ (by unfold adv; split <;> exact h)
theorem look (N : NSet w s.heap a L es ep t) {e : AK} (he : KeyIn s.heap e) (hu : A.units + 8 < cLine) {K : Nat} (k1 : K < 10 * SetTable.turns t.mask) (k2 : way t.mask (hOf w e) K ∉ t.place.toList) (k3 : ∀ c, c < K → way t.mask (hOf w e) c ∈ t.place.toList) {Q : SetFound → Shared → Prop}
    (yes : e.2 ∈ L.map Prod.snd → Q (.there none) s) (no : e.2 ∉ L.map Prod.snd → Q (.free (way t.mask (hOf w e) K) false) s) : ∀ (f c : Nat) (st : Option SetTable.Probe), st.getD (t.probeStart (hOf w e)) = stepAt t.mask (hOf w e) c → c ≤ K → K < c + f →
      (∀ (i : Nat) (d : AK), L[i]? = some d → d.2 = e.2 → ∃ c', c ≤ c' ∧ c' < K ∧ t.place.toList[i]? = some (way t.mask (hOf w e) c')) → wpAny (model P w) A (setSearchFrom a (.ref e.1) (hOf w e) true f st) Q E s := by
  intro f
  induction f with
  | zero => intro c st _ h1 h2 _; omega
  | succ f ih =>
    intro c st hst h1 h2 left
    obtain ⟨o, ho, hx, hd⟩ := N.obj
    have odd : ¬ t.gaveWay = true := by simp [SetTable.gaveWay, mask_odd N.tab.mok]
    have sh : ∀ q, nth t.mask (stepAt t.mask (hOf w e) c) q = stepAt t.mask (hOf w e) (c + q) := fun q => (nth_add ..).symm
    have hAt : ∀ (i : Nat) (d : AK), L[i]? = some d → ((es[i]?.map (·.1)).getD 0) = hOf w d := fun i d h => by rw [N.at h]; rfl
    rw [setSearchFrom_succ]
    refine wpAny_bind (wpAny_setState_of ho hd N.fit (wp_if_neg odd ?_))
    have went := go_spec t N.tab.ris N.tab.dm (fun i => (es[i]?.map (·.1)).getD 0) (hOf w e) (10 * SetTable.turns t.mask) (K - c) (stepAt t.mask (hOf w e) c) (nth_clean _ _ _ rfl) (by omega)
      (fun q hq => by rw [sh]; exact k3 _ (by omega)) (by rw [sh, Nat.add_sub_cancel' h1]; exact k2)
    rw [hst]
    rcases went with ⟨q, i, hq, hi, hh, fst, pr⟩ | ⟨none_, pr⟩
    · -- one of the same hash
      rw [sh] at hi
      have pr' : t.probe (fun i => (es[i]?.map (·.1)).getD 0) (hOf w e) (stepAt t.mask (hOf w e) c) = some (.candidate (way t.mask (hOf w e) (c + q)) i (stepAt t.mask (hOf w e) (c + q + 1))) := by
        have := pr
        rw [sh, sh] at this
        exact this
      rw [pr']
      have il : i < L.length := by
        have lt := (List.getElem?_eq_some_iff.mp hi).1
        rwa [Array.length_toList, N.slots] at lt
      obtain ⟨d, hdL⟩ : ∃ d, L[i]? = some d := ⟨_, List.getElem?_eq_getElem il⟩
      have dm := List.mem_of_getElem? hdL
      have rest : wpAny (model P w) A (searchRest a (.ref e.1) (hOf w e) true f es t (way t.mask (hOf w e) (c + q)) i (stepAt t.mask (hOf w e) (c + q + 1))) Q E s := by
        have live := slot_live N.tab.ris hi
        unfold searchRest
        rw [N.at hdL]
        refine wpAny_bind (wpAny_holding ((nestedKind P w).eqBool (x := d.2) (y := e.2) hu (N.keys d dm) he ?_))
        refine wpAny_bind (wpAny_setState_of ho hd N.fit ?_)
        by_cases same : d.2 = e.2
        · exact wp_if_pos (by simp [same]) (wpAny_pure (yes (List.mem_map.mpr ⟨d, dm, same⟩)))
        · refine wp_if_neg (by simp [same]) ?_
          rw [sameMem]
          simp only [if_true, live, N.at hdL]
          refine wpAny_bind (wpAny_isSame_ref_self (x := d.1) (wpAny_bind (wpAny_pure ?_))); simp only [if_true]
          refine wp_if_neg (by simp [same]) (ih (c + q + 1) _ rfl (by omega) (by omega) fun j d' hj hk => ?_)
          obtain ⟨c', l1, l2, l3⟩ := left j d' hj hk
          refine ⟨c', ?_, l2, l3⟩
          have n1 : ¬ c' < c + q := fun z => fst (c' - c) j (by omega) (by rw [sh, Nat.add_sub_cancel' l1]; exact l3) ((hAt j d' hj).trans (congrArg (NestedKey.hash w) hk))
          have n2 : c' ≠ c + q := fun z => by
            rw [z] at l3
            have := live.symm.trans (slot_live N.tab.ris l3)
            injection this with this
            rw [← this, hdL] at hj
            exact same ((congrArg Prod.snd (Option.some.inj hj)).trans hk)
          omega
      cases hl : t.led with
      | true => exact wp_if_neg (by simp) rest
      | false =>
        refine wp_if_pos (by simp) (wpAny_bind (says_seen he (fun y hy => ?_) A E _ fun b hb => ?_))
        · obtain ⟨p, hp, rfl⟩ := List.mem_map.mp hy
          have hp : p ∈ es.toList := by
            have : p ∈ es.filter (·.1 == hOf w e) := by simpa using hp
            simpa using (Array.mem_filter.mp this).1
          rw [N.has] at hp
          obtain ⟨d, hdm, rfl⟩ := List.mem_map.mp hp
          exact ⟨d, rfl, N.keys d hdm⟩
        · obtain rfl : b = false := by simpa using hb
          exact wp_if_neg (by simp) rest
    · -- none
      have pr' : t.probe (fun i => (es[i]?.map (·.1)).getD 0) (hOf w e) (stepAt t.mask (hOf w e) c) = some (.empty (way t.mask (hOf w e) K) none) := by
        have := pr
        rw [sh, Nat.add_sub_cancel' h1] at this
        exact this
      rw [pr']
      refine wpAny_pure (no fun hm => ?_)
      obtain ⟨d, hdm, hk⟩ := List.mem_map.mp hm
      obtain ⟨j, hj, rfl⟩ := List.getElem_of_mem hdm
      obtain ⟨c', l1, l2, l3⟩ := left j _ (List.getElem?_eq_getElem hj) hk
      exact none_ (c' - c) j (by omega) (by rw [sh, Nat.add_sub_cancel' l1]; exact l3) ((hAt j _ (List.getElem?_eq_getElem hj)).trans (congrArg (NestedKey.hash w) hk))
/-- from the start -/
theorem look0 (N : NSet w s.heap a L es ep t) {e : AK} (he : KeyIn s.heap e) (hu : A.units + 8 < cLine) {Q : SetFound → Shared → Prop} (yes : e.2 ∈ L.map Prod.snd → Q (.there none) s)
    (no : ∀ K, e.2 ∉ L.map Prod.snd → way t.mask (hOf w e) K ∉ t.place.toList → (∀ c, c < K → way t.mask (hOf w e) c ∈ t.place.toList) → Q (.free (way t.mask (hOf w e) K) false) s) : wpAny (model P w) A (setSearch a (.ref e.1) (hOf w e) true) Q E s := by
  have r := N.room
  obtain ⟨K, k1, k2, k3⟩ := N.tab.first (by rw [List.length_map]; omega) (hOf w e)
  have big : 10 * SetTable.turns t.mask < 100000 := by
    unfold SetTable.turns
    rcases N.tab.mok with z | z | z <;> omega
  refine look N he hu k1 k2 k3 yes (fun h => no K h k2 k3) 100000 0 none rfl (Nat.zero_le _) (by omega) fun i d hd hk => ?_
  have il := (List.getElem?_eq_some_iff.mp hd).1
  have hj : t.place.toList[i]? = some (t.place.toList[i]'(by rw [Array.length_toList, N.slots]; exact il)) := List.getElem?_eq_getElem _
  obtain ⟨c, hc, q⟩ := N.tab.before k2 (show (L.map (hOf w))[i]? = some (hOf w e) by rw [List.getElem?_map, hd]; exact congrArg some (congrArg (NestedKey.hash w) hk)) hj
  exact ⟨c, Nat.zero_le _, hc, by rw [hj, q]⟩
end
end Fp

set_option Elab.async false
set_option linter.all false
set_option autoImplicit false
set_option maxRecDepth 100000
namespace Fp
open PySem PySem.Spec L2
/-! ### rows in another order -/
theorem range_pick {α : Type} : ∀ L : List α, (List.range L.length).filterMap (fun i => L[i]?) = L
  | [] => rfl
  | x :: L => by
    rw [List.length_cons, List.range_succ_eq_map]
    show x :: ((List.range L.length).map Nat.succ).filterMap (fun i => (x :: L)[i]?) = x :: L
    rw [List.filterMap_map]
    exact congrArg (x :: ·) (range_pick L)
theorem pick_map {α β : Type} [Inhabited β] (L : List α) (g : α → β) (z : β) : ∀ l : List Nat, (∀ i ∈ l, i < L.length) → (l.filterMap (fun i => L[i]?)).map g = l.map fun i => (L.map g)[i]?.getD z
  | [], _ => rfl
  | i :: l, h => by
    have hi := h i (by simp)
    rw [List.filterMap_cons_some (List.getElem?_eq_getElem hi), List.map_cons, List.map_cons, pick_map L g z l fun j hj => h j (by simp [hj])]
    congr 1
    rw [List.getElem?_map, List.getElem?_eq_getElem hi]; rfl
section
variable {P : Program} {w : World} {A : Around} {E : Value → Shared → Prop} {s : Shared} {a : Addr} {L : List AK} {es : Array (Int × Value)} {ep : Nat} {t : SetTable}
theorem KeyIn.but {h h' : Heap} {e : AK} (k : KeyIn h e) {o : Obj} (ho : h.get? a = some o) (hd : o.data = .set es ep t) (sb : Heap.SameBut a h h') : KeyIn h' e := by
  refine ⟨NestedIs.at (fun b ob vs n hb hs => ?_) _ _ k.1, k.2⟩
  by_cases z : b = a
  · subst z
    cases ho.symm.trans hb
    rw [hd] at hs
    cases hs
  · rw [sb.2 b z]; exact hb
theorem KeyIn.on {h h' : Heap} {e : AK} (k : KeyIn h e) (on : ∀ b o, h.get? b = some o → h'.get? b = some o) : KeyIn h' e := ⟨NestedIs.at (fun b o _ _ hb _ => on b o hb) _ _ k.1, k.2⟩
/-- a set that is about to be laid anew: all but the places -/
structure NPre (w : World) (h : Heap) (a : Addr) (L : List AK) (es : Array (Int × Value)) (ep : Nat) (t : SetTable) : Prop where
  obj : ∃ o, h.get? a = some o ∧ o.ExactSet ∧ o.data = .set es ep t
  has : es.toList = L.map (pairOf w)
  tab : TabOk t (L.map (hOf w))
  dist : (L.map Prod.snd).Nodup
  keys : ∀ e ∈ L, KeyIn h e
  led : (w.params.followText "set-order" = true) ∨ (t.led = true)
  few : L.length ≤ 63
theorem NPre.whole {h : Heap} (N : NPre w h a L es ep t) (r : 5 * L.length < 3 * t.mask) : NSet w h a L es ep t := ⟨N.obj, N.has, N.tab, N.dist, N.keys, N.led, r, N.few⟩
theorem relay (N : NPre w s.heap a L es ep t) (hm : L.length ≤ t.mask) {want M : Nat} (e1 : SetTable.sizeAbove want = M + 1) (e2 : MaskOk M) (e3 : 5 * L.length < 3 * M) {Q : Unit → Shared → Prop}
    (q : ∀ h' L' es' ep' t', Heap.SameBut a s.heap h' → NSet w h' a L' es' ep' t' → L'.Perm L → Q () { s with heap := h' }) : wpAny (model P w) A (setRelay a want) Q E s := by
  obtain ⟨o, ho, hx, hd⟩ := N.obj
  have n1 : es.size = L.length := by rw [← Array.length_toList, N.has, List.length_map]
  have n2 : t.place.size = L.length := by have := N.tab.sz; rwa [List.length_map] at this
  have hM : M ≤ 127 := by rcases e2 with z | z | z <;> omega
  have fit : t.fits es.size = true := by
    simp only [SetTable.fits, SetTable.fill, N.tab.dm, Bool.and_eq_true, beq_iff_eq, decide_eq_true_eq, List.size_toArray, List.length_nil]
    omega
  obtain ⟨t', ord, r0, r1, r2, r3, r4, _, _⟩ := relaid_ok t (hs := es.map (·.1)) (wanted := want) (M := M) (by omega) e2 (by rw [Array.size_map]; omega)
  rw [Array.size_map, n1] at r1
  have inL : ∀ i ∈ ord.toList, i < L.length := fun i hi => List.mem_range.mp (r1.mem_iff.mp hi)
  have perm : (ord.toList.filterMap fun i => L[i]?).Perm L := by
    have := r1.filterMap fun i => L[i]?
    rwa [range_pick] at this
  have got : (ord.filterMap fun i => es[i]?).toList = (ord.toList.filterMap fun i => L[i]?).map (pairOf w) := by
    have : (fun i : Nat => es[i]?) = fun i => (L[i]?).map (pairOf w) := funext fun i => by
      rw [← Array.getElem?_toList, N.has, List.getElem?_map]
    rw [Array.toList_filterMap, this, List.map_filterMap]
  have hsh : (ord.toList.filterMap fun i => L[i]?).map (hOf w) = ord.toList.map fun i => (es.map (·.1)).getD i 0 := by
    rw [pick_map L (hOf w) 0 _ inL]
    refine List.map_congr_left fun i hi => ?_
    have : (es.map (·.1)).toList = L.map (hOf w) := by rw [Array.toList_map, N.has, List.map_map]; rfl
    rw [Array.getD_eq_getD_getElem?, ← Array.getElem?_toList, this]
  rw [← hsh] at r2
  generalize (ord.toList.filterMap fun i => L[i]?) = L' at perm got r2
  have n3 : (ord.filterMap fun i => es[i]?).size = es.size := by rw [← Array.length_toList, got, List.length_map, perm.length_eq, n1]
  rw [setRelay_eq]
  refine wpAny_bind (wpAny_setState_of ho hd fit (wp_if_neg (by rw [sizeLine_eq]; omega) ?_))
  rw [r0]
  refine wpAny_bind (wp_if_neg (by rw [n3]; simp) (wpAny_pure ?_))
  refine wpAny_storeSet_of ho hd ?_ (by rw [n3, n1, sizeLine_eq]; have := N.few; omega)
  have sb : Heap.SameBut a s.heap (s.heap.update a (Obj.putSet (ord.filterMap fun i => es[i]?) t')) := Heap.SameBut.update ..
  have len := perm.length_eq
  refine q _ L' _ _ t' sb ⟨⟨_, store_at ho hd, hx, rfl⟩, got, r2, (perm.map _).nodup_iff.mpr N.dist, fun e he => (N.keys e (perm.mem_iff.mp he)).but ho hd sb, by rw [r4]; exact N.led, by omega, by have := N.few; omega⟩ perm
theorem put_in (L : List AK) (p : Nat) (e : AK) : (L.take p ++ e :: L.drop p).Perm (e :: L) := by
  have : (L.take p ++ e :: L.drop p).Perm (e :: (L.take p ++ L.drop p)) := List.perm_middle
  rwa [List.take_append_drop] at this
/-- adding a key -/
theorem add (N : NSet w s.heap a L es ep t) {e : AK} (he : KeyIn s.heap e) (hu : A.units + 8 < cLine) (few : L.length < 63) {Q : Bool → Shared → Prop}
    (q : ∀ b h' L' es' ep' t', Heap.SameBut a s.heap h' → NSet w h' a L' es' ep' t' → (if e.2 ∈ L.map Prod.snd then L' = L else L'.Perm (e :: L)) → Q b { s with heap := h' }) : wpAny (model P w) A (setAddHashed a (.ref e.1) (hOf w e)) Q E s := by
  obtain ⟨o, ho, hx, hd⟩ := N.obj
  unfold setAddHashed
  refine wpAny_holding ?_
  rw [show 100000 = 99999 + 1 from rfl, setAddHashedIn_succ a]
  refine wpAny_bind (wpAny_setState_of ho hd N.fit (wp_if_neg (by simp [byScan, Value.scannable]) (wpAny_bind (look0 N he hu (fun hm => ?_) fun K hm k2 k3 => ?_))))
  · exact wpAny_pure (q false s.heap L es ep t (Heap.SameBut.refl ..) N (by rw [if_pos hm]))
  · refine wpAny_bind (wpAny_setState_of ho hd N.fit ?_)
    obtain ⟨p1, p2, p3, p4, p5, p6, _, _, p9⟩ := N.tab.put k2 k3
    rw [List.length_map] at p2 p9
    have nm := N.num
    have rm := N.room
    dsimp only
    generalize hput : t.put (way t.mask (hOf w e) K) = put at p1 p3 p4 p5 p6 p9 ⊢
    obtain ⟨t1, p⟩ := put
    dsimp only at p1 p3 p4 p5 p6 p9 ⊢
    subst p1
    generalize hpp : SetTable.below t.place (way t.mask (hOf w e) K) = p at p2 p3 ⊢
    have perm := put_in L p e
    have rows : (SetTable.insertAt es p (hOf w e, Value.ref e.1)).toList = (L.take p ++ e :: L.drop p).map (pairOf w) := by
      rw [SetTable.toList_insertAt, N.has, List.map_append, List.map_cons, List.map_take, List.map_drop]; rfl
    have hsh : (L.map (hOf w)).take p ++ hOf w e :: (L.map (hOf w)).drop p = (L.take p ++ e :: L.drop p).map (hOf w) := by
      simp only [List.map_append, List.map_cons, List.map_take, List.map_drop]
    rw [hsh] at p3
    generalize SetTable.insertAt es p (hOf w e, Value.ref e.1) = es1 at rows ⊢
    generalize L.take p ++ e :: L.drop p = L1 at perm rows p3
    have len : L1.length = L.length + 1 := perm.length_eq
    have sz1 : es1.size = L1.length := by rw [← Array.length_toList, rows, List.length_map]
    -- by value or not: the table is the same but for one mark
    have after : ∀ pl : Bool, wpAny (model P w) A (do
        storeSet a es1 { t1 with plain := pl }
        if (!false && ({ t1 with plain := pl } : SetTable).tooFull) = true then setRelay a (SetTable.grown (es.size + 1))
        return true) Q E s := fun pl => by
      have T : TabOk { t1 with plain := pl } (L1.map (hOf w)) := ⟨p3.ris, p3.dm, p3.sz, p3.mok, p3.bd, p3.reach⟩
      refine wpAny_bind (wpAny_storeSet_of ho hd ?_ (by rw [sz1, sizeLine_eq]; omega))
      have sb : Heap.SameBut a s.heap (s.heap.update a (Obj.putSet es1 { t1 with plain := pl })) := Heap.SameBut.update ..
      have pre : NPre w (s.heap.update a (Obj.putSet es1 { t1 with plain := pl })) a L1 es1 (ep + 1) { t1 with plain := pl } := by
        refine ⟨⟨_, store_at ho hd, hx, rfl⟩, rows, T, (perm.map _).nodup_iff.mpr (List.nodup_cons.mpr ⟨hm, N.dist⟩), fun d hd' => ?_, ?_, by omega⟩
        · rcases List.mem_cons.mp (perm.mem_iff.mp hd') with z | z
          · rw [z]; exact he.but ho hd sb
          · exact (N.keys d z).but ho hd sb
        · exact p5 ▸ N.led
      generalize s.heap.update a (Obj.putSet es1 { t1 with plain := pl }) = h1 at sb pre ⊢
      have full : ({ t1 with plain := pl } : SetTable).tooFull = decide ((L.length + 1) * 5 ≥ t.mask * 3) := by
        show decide (t1.fill * 5 ≥ t1.mask * 3) = _
        rw [p9, p4]
      cases hf : ({ t1 with plain := pl } : SetTable).tooFull with
      | false =>
        rw [hf] at full
        have : 5 * L1.length < 3 * t1.mask := by
          have := of_decide_eq_false full.symm
          omega
        exact wp_if_neg (by simp) (wpAny_pure (q true h1 L1 es1 _ _ sb (pre.whole this) (by rw [if_neg hm]; exact perm)))
      | true =>
        rw [hf] at full
        have f2 := of_decide_eq_true full.symm
        have two : (t.mask = 7 ∧ L.length = 4) ∨ (t.mask = 31 ∧ L.length = 18) := by
          rcases N.tab.mok with z | z | z <;> omega
        refine wp_if_pos (by simp) (wpAny_bind ?_)
        have fin : ∀ h' L' es' ep' t', Heap.SameBut a h1 h' → NSet w h' a L' es' ep' t' → L'.Perm L1 → wpAny (model P w) A (pure true) Q E { s with heap := h' } := fun h' L' es' ep' t' sb' N' pm =>
          wpAny_pure (q true h' L' es' ep' t' (sb.trans sb') N' (by rw [if_neg hm]; exact pm.trans perm))
        rcases two with ⟨z1, z2⟩ | ⟨z1, z2⟩
        · exact relay (s := { s with heap := h1 }) (M := 31) pre (by show L1.length ≤ t1.mask; omega) (by rw [nm, z2, size_20]) (.inr (.inl rfl)) (by omega) fin
        · exact relay (s := { s with heap := h1 }) (M := 127) pre (by show L1.length ≤ t1.mask; omega) (by rw [nm, z2, size_76]) (.inr (.inr rfl)) (by omega) fin
    cases hp : t1.plain with
    | false =>
      refine wp_if_neg (by simp) (wpAny_bind (wpAny_pure ?_))
      exact after t1.plain
    | true =>
      refine wp_if_pos (by simp) (wpAny_bind (says_hbv _ _ 8 s he.1 A E _ fun b hb => ?_))
      cases b with
      | false => exact after false
      | true => exact after t1.plain
end
end Fp

set_option Elab.async false
set_option linter.all false
set_option autoImplicit false
set_option maxRecDepth 100000
namespace Fp
open PySem PySem.Spec L2 PyProof.Rows
section
variable {P : Program} {w : World} {A : Around} {E : Value → Shared → Prop} {s : Shared} {a : Addr} {L : List AK} {es : Array (Int × Value)} {ep : Nat} {t : SetTable}
/-! ### what a set has got of a row of keys -/
/-- L has the keys of the first i of ks, each once -/
structure Took (ks : List AK) (i : Nat) (L : List AK) : Prop where
  of : ∀ e ∈ L, e ∈ ks
  all : ∀ e ∈ ks.take i, e.2 ∈ L.map Prod.snd
  num : L.length ≤ i
theorem Took.next {ks L L' : List AK} {i : Nat} {e : AK} (T : Took ks i L) (h : ks[i]? = some e) (c : if e.2 ∈ L.map Prod.snd then L' = L else L'.Perm (e :: L)) : Took ks (i + 1) L' := by
  have tk : ks.take (i + 1) = ks.take i ++ [e] := by rw [List.take_add_one, h]; rfl
  have em := List.mem_of_getElem? h
  by_cases hm : e.2 ∈ L.map Prod.snd
  · rw [if_pos hm] at c
    subst c
    refine ⟨T.of, fun d hd => ?_, Nat.le_succ_of_le T.num⟩
    rw [tk, List.mem_append, List.mem_singleton] at hd
    exact hd.elim (T.all d) fun z => z ▸ hm
  · rw [if_neg hm] at c
    refine ⟨fun d hd => ?_, fun d hd => ?_, by have := c.length_eq; have := T.num; simp at *; omega⟩
    · exact (List.mem_cons.mp (c.mem_iff.mp hd)).elim (fun z => z ▸ em) (T.of d)
    · rw [(c.map Prod.snd).mem_iff, List.map_cons, List.mem_cons]
      rw [tk, List.mem_append, List.mem_singleton] at hd
      exact hd.elim (fun z => .inr (T.all d z)) fun z => .inl (z ▸ rfl)
theorem NSet.on {h h' : Heap} (N : NSet w h a L es ep t) (here : ∀ o, h.get? a = some o → h'.get? a = some o) (ks : ∀ e ∈ L, KeyIn h' e) : NSet w h' a L es ep t := by
  obtain ⟨o, ho, r⟩ := N.obj
  exact ⟨⟨o, here o ho, r⟩, N.has, N.tab, N.dist, ks, N.led, N.room, N.few⟩
/-! ### set.update -/
/-- what is kept of an old heap, and the set so far -/
structure SoFar (w : World) (h0 : Heap) (ks : List AK) (S : Addr) (i : Nat) (h : Heap) : Prop where
  old : ∀ b o, h0.get? b = some o → h.get? b = some o
  set : ∃ L es ep t, NSet w h S L es ep t ∧ Took ks i L
theorem upd_loop {I S : Addr} {fp wr : List Addr} {Gn : Array GenState → Array GenState → Prop} {n : Nat} {Pv : Nat → Value → Prop} {St : Nat → Shared → Prop} {R : Result → Shared → Prop} {h0 : Heap} {ks : List AK}
    (W : WalksS P w A.in1 I fp wr Gn n Pv St) (out : S ∉ fp) (hn : n = ks.length) (few : ks.length ≤ 63) (vals : ∀ i v, Pv i v → ∃ e, ks[i]? = some e ∧ v = .ref e.1) (keys : ∀ e ∈ ks, KeyIn h0 e) (new : h0.get? S = none) (wr0 : ∀ b ∈ wr, h0.get? b = none) (hu : A.in1.units + 8 < cLine)
    (last : ∀ s', SoFar w h0 ks S n s'.heap → Gn s.gens s'.gens → s'.drawn = s.drawn → s'.os = s.os → R (.ok (.ret .none)) s') :
    ∀ (left i : Nat) (s1 : Shared), i + left = n → St i s1 → SoFar w h0 ks S i s1.heap → Gn s.gens s1.gens → s1.drawn = s.drawn → s1.os = s.os → codeAny (model P w) A (.builtin "set.update.loop" ⟨[.ref S, .ref I], []⟩) R s1 := by
  have outw : S ∉ wr := fun z => out (W.sub _ z)
  have moved : ∀ {s1 s2 : Shared} {i : Nat}, Moved wr Gn s1 s2 → SoFar w h0 ks S i s1.heap → SoFar w h0 ks S i s2.heap := fun {s1 s2 i} m f => by
    have old : ∀ b o, h0.get? b = some o → s2.heap.get? b = some o := fun b o hb => m.heap b o (fun z => by rw [wr0 b z] at hb; cases hb) (f.old b o hb)
    obtain ⟨L, es, ep, t, N, T⟩ := f.set
    exact ⟨old, L, es, ep, t, N.on (fun o => m.heap S o outw) fun e he => (keys e (T.of e he)).on old, T⟩
  intro left
  induction left with
  | zero =>
    intro i s1 hi st f g d o
    obtain rfl : i = n := hi
    refine codeAny_builtin F.entry_set_update_loop ?_; rw [Around.under_plainId F.plain_set_update_loop]
    exact wpAny_bind (W.done s1 _ _ st fun s2 m => wpAny_pure (last s2 (moved m f) (W.gtrans _ _ _ g m.gens) (m.drawn.trans d) (m.os.trans o)))
  | succ left ih =>
    intro i s1 hi st f g d o
    refine codeAny_builtin F.entry_set_update_loop ?_; rw [Around.under_plainId F.plain_set_update_loop]
    refine wpAny_bind (W.item i s1 _ _ (by omega) st fun v s2 pv st2 m => ?_)
    obtain ⟨e, he, rfl⟩ := vals i v pv
    have f2 := moved m f
    obtain ⟨L, es, ep, t, N, T⟩ := f2.set
    have key : KeyIn s2.heap e := (keys e (List.mem_of_getElem? he)).on f2.old
    refine wpAny_bind (wpAny_holding ?_); unfold setAdd
    refine wpAny_holding (wpAny_bind ((nestedKind P w).pyHash (k := e.2) hu key ?_))
    have hi2 := (List.getElem?_eq_some_iff.mp he).1
    have tn := T.num
    refine add (s := { s2 with toks := s2.toks + (nestedKind P w).draws e.2 }) N key hu (by omega) fun b h' L' es' ep' t' sb N' c => ?_
    refine wpAny_pure ⟨plainId_quiet F.plain_set_update_loop _, ih (i + 1) _ (by omega) (W.frame _ s2 _ _ st2 (Nat.le_add_right _ _) fun b hb o' e' => ?_) ⟨fun b o' hb => ?_, L', es', ep', t', N', T.next he c⟩ (W.gtrans _ _ _ g m.gens) (m.drawn.trans d) (m.os.trans o)⟩
    · rw [sb.2 b fun z => out (z ▸ hb)]; exact e'
    · rw [sb.2 b fun z => by rw [z, new] at hb; cases hb]; exact f2.old b o' hb
end
end Fp

set_option Elab.async false
set_option linter.all false
set_option autoImplicit false
set_option maxRecDepth 100000
set_option maxHeartbeats 3200000
namespace Fp
open PySem PySem.Spec L2 PyProof.Rows
section
variable {P : Program} {w : World} {s : Shared} {A : Around} {E : Value → Shared → Prop}
def set0 (w : World) : Obj := { cls := .type "set", dict := none, data := .set #[] 0 (.fresh 0 0 (!w.params.followText "set-order")) }
/-- set(u): a new set, filled by its __init__ -/
theorem set_made {u : Value} {Q : Value → Shared → Prop} (Q1 : Shared → Prop)
    (init : wpAny (model P w) A.in1.in1 (Builtin.«set.__init__» { pos := [Value.ref s.heap.objs.size] ++ [u] })
      (fun f z => match f with
        | .done f => wants (fun r z => r = Value.none ∧ Q1 z) E (.ok f) z
        | .again c => c.quiet = true ∧ codeAny (model P w) A.in1 c (wants (fun r z => r = Value.none ∧ Q1 z) E) z)
      (fun e z => wants (fun r z => r = Value.none ∧ Q1 z) E (.error e) z) { s with heap := s.heap.push (set0 w) })
    (q : ∀ z, Q1 z → Q (.ref s.heap.objs.size) z) : wpAny (model P w) A (call (.type "set") [u]) Q E s := by
  obtain ⟨c, tl, m1⟩ := F.called_set.mro
  have m2 := F.called_set.made
  have m3 := F.called_set.sub
  have m4 := F.called_set.notType
  have m5 := F.called_set.canCreate
  have m6 := F.typeCall_set_1 u
  refine wpAny_call (codeAny_of_tree (wpAny_pure (M := model P w) ⟨Code.quiet_builtin _ (by decide +kernel), codeAny_builtin F.entry_type_call ?_⟩))
  rw [Around.under_plain (weight_type_call_type "set" [u] []) rfl]
  repeat any_goals first | assumption | wp_step
  refine codeAny_mono (code_set_led1 u (E := E) (Q₁ := fun v z => v = .ref s.heap.objs.size ∧ z = { s with heap := s.heap.push (set0 w) }) ⟨rfl, rfl⟩) fun r z hr => ?_
  rcases r with e | v
  · exact hr
  cases v
  case ret v =>
    obtain ⟨rfl, rfl⟩ := hr
    have at0 : (s.heap.push (set0 w)).get? s.heap.objs.size = some (set0 w) := Heap.get?_push_size _ rfl
    have ty : Shared.TypeIs { s with heap := s.heap.push (set0 w) } (.ref s.heap.objs.size) "set" := ⟨_, at0, rfl⟩
    have i1 := F.called_set.init.lookup
    have i2 := F.called_set.init.bind (.ref s.heap.objs.size)
    repeat any_goals first | assumption | wp_step
    refine codeAny_mono (codeAny_call_builtin (R := wants (fun r z => r = .none ∧ Q1 z) E) F.called_set.init.plain F.entry_set_init (check_set_init_1 ty init)) fun r2 s2 hr2 => ?_
    rcases r2 with e | v
    · exact hr2
    cases v
    case ret v =>
      obtain ⟨rfl, hq⟩ := hr2
      repeat any_goals first | assumption | wp_step
      exact q s2 hq
    all_goals exact hr2.elim
  all_goals exact hr.elim
theorem empty_set {h : Heap} {a : Addr} (at0 : h.get? a = some (set0 w)) : NSet w h a [] #[] 0 (.fresh 0 0 (!w.params.followText "set-order")) where
  obj := ⟨_, at0, ⟨rfl, rfl, rfl⟩, rfl⟩
  has := rfl
  tab := ⟨List.Pairwise.nil, rfl, rfl, .inl rfl, fun _ z => (by cases z), fun _ _ _ z => (by simp at z)⟩
  dist := List.nodup_nil
  keys := fun _ z => (by cases z)
  led := by
    show _ ∨ (!(w.params.followText "set-order")) = true
    cases w.params.followText "set-order" <;> simp
  room := by show 5 * 0 < 3 * 7; decide
  few := Nat.zero_le _
theorem took0 (ks : List AK) : Took ks 0 [] := ⟨fun e he => (by cases he), fun e he => (by simp at he), Nat.zero_le _⟩
/-- set(xs), xs a list or a tuple of keys -/
theorem set_of {l : Addr} {its : Array Value} {ks : List AK} {T : String} {St : Addr → Nat → Heap → Prop} {Q : Value → Shared → Prop} (calm : A.handled = none) (hl : ∃ o, s.heap.get? l = some o ∧ o.cls = .type T)
    (s1 : isSubtype (.type T) (.type "set") = pure false) (s2 : isSubtype (.type T) (.type "frozenset") = pure false) (s3 : (Value.type T == Value.type "dict") = false)
    (iter : ∀ (A' : Around) (E' : Value → Shared → Prop) (z : Shared) (Q' : Value → Shared → Prop), (∀ b o, s.heap.get? b = some o → z.heap.get? b = some o) →
      (∀ ob, (z.heap.push ob).get? z.heap.objs.size = some ob → (∀ b o, z.heap.get? b = some o → (z.heap.push ob).get? b = some o) → St z.heap.objs.size 0 (z.heap.push ob) → Q' (.ref z.heap.objs.size) { z with heap := z.heap.push ob }) → wpAny (model P w) A' (pyIter (.ref l)) Q' E' z)
    (walk : ∀ (A' : Around) (I : Addr), A'.handled = none → l ≠ I → Walks P w A' I [I, l] [I] its.size (fun i v => its[i]? = some v) (St I))
    (vals : its.toList = ks.map fun e => Value.ref e.1) (keys : ∀ e ∈ ks, KeyIn s.heap e) (few : ks.length ≤ 63) (hu : A.units + 20 < cLine)
    (q : ∀ (h' : Heap) (tk : Nat), SoFar w s.heap ks s.heap.objs.size ks.length h' → Q (.ref s.heap.objs.size) { s with heap := h', toks := tk }) : wpAny (model P w) A (call (.type "set") [.ref l]) Q E s := by
  have sz : its.size = ks.length := by rw [← Array.length_toList, vals, List.length_map]
  refine set_made (fun z => ∃ h' tk, z = { s with heap := h', toks := tk } ∧ SoFar w s.heap ks s.heap.objs.size ks.length h') ?_ fun z ⟨h', tk, e, f⟩ => e ▸ q h' tk f
  obtain ⟨ol, hol, hc⟩ := hl
  obtain ⟨cc, dd, da, sl⟩ := ol
  cases hc
  have hol' : (s.heap.push (set0 w)).get? l = some { cls := .type T, dict := dd, data := da, slots := sl } := Heap.get?_push_of_some _ hol
  have lt : l < s.heap.objs.size := Heap.lt_size hol
  have at0 : (s.heap.push (set0 w)).get? s.heap.objs.size = some (set0 w) := Heap.get?_push_size _ rfl
  unfold Builtin.«set.__init__» Builtin.Frozenset.updateFrom noKeywords
  generalize hPI : pyIter = PI
  wp_walk
  subst hPI
  refine iter _ _ _ _ (fun b o e => Heap.get?_push_of_some _ e) fun ob o1 o2 st => wpAny_bind (wpAny_runValue ?_)
  have z1 : (s.heap.push (set0 w)).objs.size = s.heap.objs.size + 1 := Heap.size_push ..
  have ne : l ≠ (s.heap.push (set0 w)).objs.size := by rw [z1]; exact Nat.ne_of_lt (Nat.lt_succ_of_lt lt)
  have gone : ∀ b, s.heap.objs.size ≤ b → s.heap.get? b = none := fun b hb => by
    cases e : s.heap.get? b with
    | none => rfl
    | some o => exact absurd (Nat.lt_of_lt_of_le (Heap.lt_size e) hb) (Nat.lt_irrefl _)
  have Wk := (walk A.in1.in1.in1 _ (by simp [calm]) ne).toS
  refine upd_loop (s := s) (ks := ks) (h0 := s.heap) Wk (S := s.heap.objs.size) ?_ sz few (fun i v hv => ?_) keys (gone _ (Nat.le_refl _)) (fun b hb => gone b ?_) (by show A.units + 1 + 1 + 1 + 8 < cLine; omega) (fun z f g d o => ?_) its.size 0 _ (by omega) st ⟨fun b o e => o2 b o (Heap.get?_push_of_some _ e), [], _, _, _, empty_set (o2 _ _ at0), took0 ks⟩ rfl rfl rfl
  · simp only [List.mem_cons, List.not_mem_nil, or_false, not_or, z1]
    exact ⟨Nat.ne_of_lt (Nat.lt_succ_self _), Nat.ne_of_gt lt⟩
  · have hv' : its.toList[i]? = some v := by rw [Array.getElem?_toList]; exact hv
    rw [vals, List.getElem?_map] at hv'
    obtain ⟨e, he, rfl⟩ := Option.map_eq_some_iff.mp hv'
    exact ⟨e, he, rfl⟩
  · rw [List.mem_singleton.mp hb, z1]; exact Nat.le_succ _
  · obtain ⟨h', g', d', tk', os'⟩ := z
    obtain rfl : g' = s.gens := g
    obtain rfl : d' = s.drawn := d
    obtain rfl : os' = s.os := o
    rw [sz] at f
    exact wpAny_pure (wpAny_pure ⟨rfl, h', tk', rfl, f⟩)
end
end Fp

set_option Elab.async false
set_option linter.all false
set_option autoImplicit false
set_option maxRecDepth 100000
namespace Fp
open PySem L2
/-! ### plain facts: keys, sorting, rows without doubles -/
theorem perm_of_map {α β : Type} {f : α → β} {m : List β} {L : List α} (h : (L.map f).Perm m) : ∃ L' : List α, L'.Perm L ∧ m = L'.map f := by
  generalize e : L.map f = l at h
  induction h generalizing L with
  | nil => exact ⟨L, .refl _, e.symm⟩
  | cons x _ ih =>
    obtain ⟨y, L1, rfl, rfl, e1⟩ := List.map_eq_cons_iff.mp e
    obtain ⟨L2, p, rfl⟩ := ih e1
    exact ⟨y :: L2, p.cons y, rfl⟩
  | swap x y l =>
    obtain ⟨u, L1, rfl, rfl, e1⟩ := List.map_eq_cons_iff.mp e
    obtain ⟨v, L2, rfl, rfl, rfl⟩ := List.map_eq_cons_iff.mp e1
    exact ⟨v :: u :: L2, .swap u v L2, rfl⟩
  | trans _ _ ih1 ih2 =>
    obtain ⟨L1, p1, rfl⟩ := ih1 e
    obtain ⟨L2, p2, rfl⟩ := ih2 rfl
    exact ⟨L2, p2.trans p1, rfl⟩
mutual
theorem toks_inj : ∀ (x y : PyData) (l m : List (Int ⊕ List Nat)), (nkey x).isSome = true → (nkey y).isSome = true → PySem.W.alike x y = true → PySem.W.keyToks x ++ l = PySem.W.keyToks y ++ m → x = y ∧ l = m
  | .none, y, l, m, _, h2, al, e => by
    cases y <;> first | exact ⟨rfl, e⟩ | (simp [PySem.W.alike] at al) | (simp [nkey] at h2)
  | .int i, y, l, m, _, h2, al, e => by
    cases y <;> first | (simp [nkey] at h2; done) | (simp [PySem.W.alike] at al; done) | (simp [PySem.W.keyToks] at e; exact ⟨by rw [e.1], e.2⟩)
  | .str x, y, l, m, _, h2, al, e => by
    cases y <;> first | (simp [nkey] at h2; done) | (simp [PySem.W.alike] at al; done) | (simp only [PySem.W.keyToks, List.cons_append, List.nil_append, List.cons.injEq, Sum.inr.injEq] at e; exact ⟨by rw [PySem.W.str_of_cps e.1], e.2⟩)
  | .tuple xs, y, l, m, h1, h2, al, e => by
    cases y with
    | tuple ys =>
      simp only [nkey, Option.isSome_map] at h1 h2
      simp only [PySem.W.alike] at al
      simp only [PySem.W.keyToks] at e
      obtain ⟨r1, r2⟩ := toksAll_inj xs ys l m h1 h2 al e
      exact ⟨by rw [r1], r2⟩
    | _ => first | (simp [PySem.W.alike] at al) | (simp [nkey] at h2)
  | .bool _, _, _, _, h1, _, _, _ => by simp [nkey] at h1
  | .list _, _, _, _, h1, _, _, _ => by simp [nkey] at h1
  | .dict _, _, _, _, h1, _, _, _ => by simp [nkey] at h1
theorem toksAll_inj : ∀ (xs ys : List PyData) (l m : List (Int ⊕ List Nat)), (nkeys xs).isSome = true → (nkeys ys).isSome = true → PySem.W.alikeAll xs ys = true → PySem.W.keyToksAll xs ++ l = PySem.W.keyToksAll ys ++ m → xs = ys ∧ l = m
  | [], [], l, m, _, _, _, e => by simp [PySem.W.keyToksAll] at e; exact ⟨rfl, e⟩
  | [], y :: ys, l, m, _, _, _, e => by simp [PySem.W.keyToksAll] at e
  | x :: xs, [], l, m, _, _, _, e => by simp [PySem.W.keyToksAll] at e
  | x :: xs, y :: ys, l, m, h1, h2, al, e => by
    obtain ⟨a1, a2⟩ := PySem.W.alike_all_cons al
    simp only [nkeys] at h1 h2
    cases n1 : nkey x with
    | none => rw [n1] at h1; simp at h1
    | some n =>
      cases n2 : nkey y with
      | none => rw [n2] at h2; simp at h2
      | some n' =>
        rw [n1] at h1
        rw [n2] at h2
        simp only [Option.bind_some, Option.isSome_map] at h1 h2
        simp only [PySem.W.keyToksAll, List.cons_append, List.append_assoc, List.cons.injEq, true_and] at e
        obtain ⟨rfl, e'⟩ := toks_inj x y _ _ (by rw [n1]; rfl) (by rw [n2]; rfl) a1 e
        obtain ⟨rfl, r⟩ := toksAll_inj xs ys l m h1 h2 a2 e'
        exact ⟨rfl, r⟩
end
theorem keyT_key {x : PyData} (h : keyT x = true) : (nkey x).isSome = true := by
  simp only [keyT, Bool.and_eq_true] at h
  exact h.1.2
/-- sorting distinct keys does not hang on their order -/
theorem sortP_perm {ds es : List PyData} (p : ds.Perm es) (keys : ∀ d ∈ ds, (nkey d).isSome = true) (al : ∀ d ∈ ds, ∀ e ∈ ds, PySem.W.alike d e = true) : sortP ds = sortP es := by
  have tot : PySem.W.TotalLe (PySem.W.dataLe (β := PyData) false id) := PySem.W.sortLe_total _ _ _
  have pm : (sortP ds).Perm (sortP es) := ((List.mergeSort_perm ds _).trans p).trans (List.mergeSort_perm es _).symm
  refine List.Perm.eq_of_pairwise (le := fun a b => PySem.W.dataLe (β := PyData) false id a b = true) (fun a b ha hb h1 h2 => ?_) (PySem.W.sort_pairwise tot ds) (PySem.W.sort_pairwise tot es) pm
  have ha' := (List.mergeSort_perm ds _).mem_iff.mp ha
  have hb' := p.mem_iff.mpr ((List.mergeSort_perm es _).mem_iff.mp hb)
  have h1' : PyProof.Rows.lexLt PyProof.Rows.itemOrd (PySem.W.keyToks b) (PySem.W.keyToks a) = false := by
    have : (!PyProof.Rows.lexLt PyProof.Rows.itemOrd (PySem.W.keyToks b) (PySem.W.keyToks a)) = true := h1
    simpa using this
  have h2' : PyProof.Rows.lexLt PyProof.Rows.itemOrd (PySem.W.keyToks a) (PySem.W.keyToks b) = false := by
    have : (!PyProof.Rows.lexLt PyProof.Rows.itemOrd (PySem.W.keyToks a) (PySem.W.keyToks b)) = true := h2
    simpa using this
  have e := PyProof.Rows.lex_total _ _ h2' h1'
  exact (toks_inj a b [] [] (keys a ha') (keys b hb') (al a ha' b hb') (by rw [e])).1
theorem sortOk_perm {ds es : List PyData} (p : ds.Perm es) (h : sortOk es = true) : sortOk ds = true := by
  have al : ∀ f : PyData → Bool, ds.all f = es.all f := fun f => by
    rw [Bool.eq_iff_iff, List.all_eq_true (l := ds), List.all_eq_true (l := es)]
    exact ⟨fun z x hx => z x (p.mem_iff.mpr hx), fun z x hx => z x (p.mem_iff.mp hx)⟩
  unfold sortOk at h ⊢
  rw [al, al, al, p.length_eq]
  have : (fun d : PyData => okD d && ds.all fun e => PySem.W.alike d e) = fun d => okD d && es.all fun e => PySem.W.alike d e := funext fun d => by rw [al]
  rw [this]
  exact h
/-! ### a row without doubles -/
def dedupP : List PyData → List PyData
  | [] => []
  | x :: r => if (r.any fun y => PyData.eqv y x) = true then dedupP r else x :: dedupP r
theorem dedup_sub : ∀ {l : List PyData} {x : PyData}, x ∈ dedupP l → x ∈ l
  | y :: r, x, h => by
    unfold dedupP at h
    split at h
    · exact List.mem_cons_of_mem _ (dedup_sub h)
    · rcases List.mem_cons.mp h with same | z
      · exact same ▸ List.mem_cons_self
      · exact List.mem_cons_of_mem _ (dedup_sub z)
theorem dedup_all : ∀ {l : List PyData}, (∀ x ∈ l, (nkey x).isSome = true) → ∀ x ∈ l, x ∈ dedupP l
  | y :: r, k, x, h => by
    have kr : ∀ x ∈ r, (nkey x).isSome = true := fun z hz => k z (List.mem_cons_of_mem _ hz)
    unfold dedupP
    split
    · rename_i c
      have hh := List.mem_cons.mp h; rcases hh with z | z
      · obtain ⟨u, hu, e⟩ := List.any_eq_true.mp c
        have := (eqv_nkey u y (kr u hu) (k y List.mem_cons_self)).mp e
        rw [z, ← this]
        exact dedup_all kr u hu
      · exact dedup_all kr x z
    · rcases List.mem_cons.mp h with z | z
      · rw [z]; exact List.mem_cons_self
      · exact List.mem_cons_of_mem _ (dedup_all kr x z)
theorem dedup_nodup : ∀ {l : List PyData}, (∀ x ∈ l, (nkey x).isSome = true) → (dedupP l).Nodup
  | [], _ => List.nodup_nil
  | y :: r, k => by
    have kr : ∀ x ∈ r, (nkey x).isSome = true := fun z hz => k z (List.mem_cons_of_mem _ hz)
    unfold dedupP
    split
    · exact dedup_nodup kr
    · rename_i c
      refine List.nodup_cons.mpr ⟨fun z => c (List.any_eq_true.mpr ⟨y, dedup_sub z, ?_⟩), dedup_nodup kr⟩
      exact (eqv_nkey y y (k y List.mem_cons_self) (k y List.mem_cons_self)).mpr rfl
/-- what a set has of a row, as data -/
theorem took_data {ks L : List AK} {xs ds : List PyData} (T : Took ks ks.length L) (dist : (L.map Prod.snd).Nodup) (hx : nkeys xs = some (ks.map Prod.snd)) (hd : nkeys ds = some (L.map Prod.snd)) : ds.Perm (dedupP xs) := by
  have inv : ∀ {zs : List PyData} {Z : List AK} {d : PyData}, nkeys zs = some (Z.map Prod.snd) → d ∈ zs → ∃ e ∈ Z, nkey d = some e.2 := by
    intro zs
    induction zs with
    | nil => intro Z d _ h; cases h
    | cons z zs ih =>
      intro Z d h hm
      cases Z with
      | nil => simp only [nkeys] at h; cases e : nkey z <;> rw [e] at h <;> simp at h
      | cons a Z =>
        obtain ⟨h1, h2⟩ := nkeys_some h
        rcases List.mem_cons.mp hm with same | q
        · exact ⟨a, List.mem_cons_self, same ▸ h1⟩
        · obtain ⟨e, he, r⟩ := ih h2 q
          exact ⟨e, List.mem_cons_of_mem _ he, r⟩
  have fwd : ∀ {zs : List PyData} {Z : List AK} {k : NestedKey}, nkeys zs = some (Z.map Prod.snd) → k ∈ Z.map Prod.snd → ∃ d ∈ zs, nkey d = some k := by
    intro zs Z k h hm
    obtain ⟨i, hi, e⟩ := List.getElem_of_mem hm
    obtain ⟨d, h1, h2⟩ := nkeys_at h (show (Z.map Prod.snd)[i]? = some k by rw [List.getElem?_eq_getElem hi, e])
    exact ⟨d, List.mem_of_getElem? h1, h2⟩
  have kx : ∀ x ∈ xs, (nkey x).isSome = true := fun x h => by obtain ⟨e, _, r⟩ := inv hx h; rw [r]; rfl
  have nd : ds.Nodup := by
    have gen : ∀ {zs : List PyData} {Z : List AK}, nkeys zs = some (Z.map Prod.snd) → (Z.map Prod.snd).Nodup → zs.Nodup := by
      intro zs
      induction zs with
      | nil => intro _ _ _; exact List.nodup_nil
      | cons z zs ih =>
        intro Z h n
        cases Z with
        | nil => simp only [nkeys] at h; cases e : nkey z <;> rw [e] at h <;> simp at h
        | cons a Z =>
          obtain ⟨h1, h2⟩ := nkeys_some h
          rw [List.map_cons, List.nodup_cons] at n
          refine List.nodup_cons.mpr ⟨fun hz => ?_, ih h2 n.2⟩
          obtain ⟨e, he, r⟩ := inv h2 hz
          rw [h1] at r
          exact n.1 (List.mem_map.mpr ⟨e, he, (Option.some.inj r).symm⟩)
    exact gen hd dist
  refine (List.perm_ext_iff_of_nodup nd (dedup_nodup kx)).mpr fun d => ⟨fun h => ?_, fun h => ?_⟩
  · obtain ⟨e, he, r⟩ := inv hd h
    obtain ⟨x, hx1, hx2⟩ := fwd hx (List.mem_map.mpr ⟨e, T.of e he, rfl⟩)
    rw [nkey_inj d x _ r hx2]
    exact dedup_all kx x hx1
  · obtain ⟨e, he, r⟩ := inv hx (dedup_sub h)
    obtain ⟨d', h1, h2⟩ := fwd hd (T.all e (by rw [List.take_length]; exact he))
    rw [nkey_inj d d' _ r h2]
    exact h1
end Fp

set_option Elab.async false
set_option linter.all false
set_option autoImplicit false
set_option maxRecDepth 100000
set_option maxHeartbeats 1100000
namespace Fp
open PySem PySem.Spec L2 PyProof.Rows
section
variable {Γ : Gam} {k : Nat} {W : WX} {μ μ' ν : List Addr} {S S' : Store} {H H' : Hp} {σ : L2.St} {ρ : Slots} {X : Cx} {pins : List (Addr × Obj)} {s : Shared}
/-! ### the set in the hand layer's heap -/
/-- all of a set but its keys' own objects -/
structure NSet0 (w : World) (h : Heap) (a : Addr) (L : List AK) : Prop where
  is : ∃ es ep t, (∃ o, h.get? a = some o ∧ o.ExactSet ∧ o.data = .set es ep t) ∧ es.toList = L.map (pairOf w) ∧ TabOk t (L.map (hOf w)) ∧ (w.params.followText "set-order" = true ∨ t.led = true) ∧ 5 * L.length < 3 * t.mask
  dist : (L.map Prod.snd).Nodup
  few : L.length ≤ 63
def setH (w : World) (a : Addr) (L : List AK) : HO := .ext fun h => NSet0 w h a L
theorem NSet0.full {w : World} {h : Heap} {a : Addr} {L : List AK} (N : NSet0 w h a L) (ks : ∀ e ∈ L, KeyIn h e) : ∃ es ep t, NSet w h a L es ep t :=
  let ⟨es, ep, t, h1, h2, h3, h4, h5⟩ := N.is
  ⟨es, ep, t, h1, h2, h3, N.dist, ks, h4, h5, N.few⟩
theorem setH_new {P : Program} {w : World} {h : Heap} {a : Addr} {L : List AK} {es : Array (Int × Value)} {ep : Nat} {t : SetTable} (N : NSet w h a L es ep t) : ObjOk P w H h a (setH w a L) := by
  refine ⟨⟨⟨es, ep, t, N.obj, N.has, N.tab, N.led, N.room⟩, N.dist, N.few⟩, let ⟨o, ho, _⟩ := N.obj; ⟨o, ho⟩, fun h1 h2 n on => ?_⟩
  obtain ⟨es, ep, t, ⟨o, ho, r⟩, q⟩ := n.is
  exact ⟨⟨es, ep, t, ⟨o, on o ho, r⟩, q⟩, n.dist, n.few⟩
/-- a row of keys in the heap -/
theorem keys_at (G : Gx Γ k X) (I : Inv X pins σ H s) : ∀ {vs : List V} {us : List Value} {xs : List PyData}, RpAll Γ H μ vs xs → Vals vs us → (∀ x ∈ xs, keyT x = true) →
    ∃ ks : List AK, us = ks.map (fun e => Value.ref e.1) ∧ vs = ks.map (fun e => V.ref e.1) ∧ nkeys xs = some (ks.map Prod.snd) ∧ ∀ e ∈ ks, KeyIn s.heap e
  | _, _, _, .nil, .nil, _ => ⟨[], rfl, rfl, rfl, fun e he => by cases he⟩
  | _, _, _, .cons (d := d) h r, .cons q t, hk => by
    obtain ⟨ks, i1, i2, i3, i4⟩ := keys_at G I r t fun x hx => hk x (List.mem_cons_of_mem _ hx)
    have kd := hk d List.mem_cons_self
    simp only [keyT, Bool.and_eq_true, decide_eq_true_eq] at kd
    obtain ⟨n, hn⟩ := Option.isSome_iff_exists.mp kd.1.2
    obtain ⟨c, rfl⟩ := h.tupRef kd.1.1
    have hq := h.nested G I hn q
    cases q
    refine ⟨(c, n) :: ks, by rw [i1]; rfl, by rw [i2]; rfl, by rw [nkeys, hn, i3]; rfl, fun e he => ?_⟩
    rcases List.mem_cons.mp he with z | z
    · subst z
      exact ⟨hq, by rw [nkey_depth _ _ hn]; exact kd.2⟩
    · exact i4 e z
/-- the data of some of the keys -/
theorem data_of {ks : List AK} {xs : List PyData} (r : RpAll Γ H μ (ks.map fun e => V.ref e.1) xs) (hn : nkeys xs = some (ks.map Prod.snd)) : ∀ {L : List AK}, (∀ e ∈ L, e ∈ ks) → ∃ ds, RpAll Γ H μ (L.map fun e => V.ref e.1) ds ∧ nkeys ds = some (L.map Prod.snd)
  | [], _ => ⟨[], .nil, rfl⟩
  | e :: L, h => by
    obtain ⟨ds, i1, i2⟩ := data_of r hn (L := L) fun d hd => h d (List.mem_cons_of_mem _ hd)
    obtain ⟨i, hi, he⟩ := List.getElem_of_mem (h e List.mem_cons_self)
    have hi' : ks[i]? = some e := by rw [List.getElem?_eq_getElem hi, he]
    obtain ⟨d, h1, h2⟩ := r.at (i := i) (v := V.ref e.1) (by rw [List.getElem?_map, hi']; rfl)
    obtain ⟨d', h3, h4⟩ := nkeys_at hn (i := i) (n := e.2) (by rw [List.getElem?_map, hi']; rfl)
    cases h1.symm.trans h3
    exact ⟨d :: ds, .cons h2 i1, by rw [nkeys, h4, i2]; rfl⟩
def setOk (xs : List PyData) : Bool := decide (xs.length < 64) && xs.all keyT
/-- set(xs) -/
def rSetN (Γ : Gam) : List V → Hp → VK → Prop := fun vs H Q => ∃ μ S a xs, Sto Γ μ S H ∧ RvAll Γ H μ vs [a] ∧ itemsD S a = some xs ∧ setOk xs = true ∧
  ∀ p L ds, H p = none → RpAll Γ H μ (L.map fun e => V.ref e.1) ds → nkeys ds = some (L.map Prod.snd) → ds.Perm (dedupP xs) → Q (.ref p) (upd H p (setH Γ.w p L))
theorem c_set (G : Gx Γ k X) : CallR X (.type "set") (rSetN Γ) := by
  intro pins s σ H vs us Q I; intro r h
  obtain ⟨μ, S, a, xs, st, ra, ex, ok, q⟩ := h
  obtain ⟨v, rfl, rv⟩ := ra.one
  obtain ⟨l, ws, rfl, hl, hr⟩ := itemsD_at st rv ex
  simp only [setOk, Bool.and_eq_true, decide_eq_true_eq, List.all_eq_true] at ok
  rw [r.ref1]
  have un := G.room.un
  have fin : ∀ (ks : List AK), ws = ks.map (fun e => V.ref e.1) → nkeys xs = some (ks.map Prod.snd) → ∀ (h' : Heap) (tk : Nat), SoFar X.w s.heap ks s.heap.objs.size ks.length h' → EP X pins σ Q (.ref s.heap.objs.size) { s with heap := h', toks := tk } := fun ks e1 e2 h' tk f => by
    subst e1
    obtain ⟨L, es, ep, t, N, T⟩ := f.set
    obtain ⟨ds, d1, d2⟩ := data_of hr e2 T.of
    refine ⟨.ref s.heap.objs.size, upd H s.heap.objs.size (setH X.w s.heap.objs.size L), I.laid (t' := tk) f.old (Nat.le_refl _) (setH_new N), rfl, ?_⟩
    rw [G.w]
    exact q _ L ds (I.hok.fresh (Nat.le_refl _)) d1 d2 (took_data T N.dist e2 d2)
  have num : ∀ {ks : List AK}, ws = ks.map (fun e => V.ref e.1) → ks.length ≤ 63 := fun {ks} e => by
    have := hr.length
    rw [e, List.length_map] at this
    omega
  rcases hl with hl | hl
  · obtain ⟨its, rw', pl, _⟩ := I.list (show SqL X.K H l ws by rw [G.K]; exact hl)
    obtain ⟨ks, k1, k2, k3, k4⟩ := keys_at G I hr rw' ok.2
    have isl := pl.isList
    refine set_of (T := "list") (St := fun I i h => h.IsListIter I l i ∧ h.IsList l its.toArray) (ks := ks) (its := its.toArray) (I.ok.hd G.calm) (let ⟨o, ho, hc, _⟩ := isl; ⟨o, ho, hc⟩) PySem.F.sub_list_set PySem.F.sub_list_frozenset (by decide) (fun A' E' z Q' on qq => ?_) (fun A' J hh ne => Walks.list hh J l ne its.toArray) (by simpa using k1) k4 (num k2) (by omega) (fin ks k2 k3)
    have il : z.heap.IsList l its.toArray := let ⟨o, ho, r⟩ := isl; ⟨o, on _ _ ho, r⟩
    exact wpAny_pyIter_list il (qq _ (Heap.get?_push_size _ rfl) (fun b o e => Heap.get?_push_of_some _ e) ⟨⟨_, Heap.get?_push_size _ rfl, rfl, rfl⟩, il.push _⟩)
  · obtain ⟨its, rw', pl, _⟩ := I.tuple (show SqT X.K H l ws by rw [G.K]; exact hl)
    obtain ⟨ks, k1, k2, k3, k4⟩ := keys_at G I hr rw' ok.2
    refine set_of (T := "tuple") (St := fun I i h => h.IsTupleIter I l i ∧ h.IsTuple l its.toArray) (ks := ks) (its := its.toArray) (I.ok.hd G.calm) (let ⟨o, ho, hc, _⟩ := pl; ⟨o, ho, hc⟩) PySem.F.sub_tuple_set PySem.F.sub_tuple_frozenset (by decide) (fun A' E' z Q' on qq => ?_) (fun A' J hh ne => Walks.tuple hh J l ne its.toArray) (by simpa using k1) k4 (num k2) (by omega) (fin ks k2 k3)
    have il : z.heap.IsTuple l its.toArray := let ⟨o, ho, r⟩ := pl; ⟨o, on _ _ ho, r⟩
    exact wpAny_pyIter_tuple il (qq _ (Heap.get?_push_size _ rfl) (fun b o e => Heap.get?_push_of_some _ e) ⟨⟨_, Heap.get?_push_size _ rfl, rfl, rfl⟩, il.push _⟩)
mutual
theorem reads_key {h h' : Heap} (on : ∀ b o, h.get? b = some o → h'.get? b = some o) : ∀ (d : PyData) (u : Value) (as : List Addr), Reads h u d as → (nkey d).isSome = true → Reads h' u d []
  | _, _, _, .none, _ => .none
  | _, _, _, .int i t, _ => .int i t
  | _, _, _, .str x t, _ => .str x t
  | _, _, _, .tuple h1 h2 h3 h4, k => .tuple (on _ _ h1) h2 h3 (reads_keys on _ _ _ h4 (by simpa [nkey] using k))
  | _, _, _, .bool _, k => by simp [nkey] at k
  | _, _, _, .list _ _ _ _, k => by simp [nkey] at k
  | _, _, _, .dict _ _ _ _ _, k => by simp [nkey] at k
theorem reads_keys {h h' : Heap} (on : ∀ b o, h.get? b = some o → h'.get? b = some o) : ∀ (ds : List PyData) (us : List Value) (as : List Addr), ReadsAll h us ds as → (nkeys ds).isSome = true → ReadsAll h' us ds []
  | _, _, _, .nil, _ => .nil
  | _, _, _, .cons (d := d) r1 r2, k => by
    rw [nkeys] at k
    cases e : nkey d with
    | none => rw [e] at k; simp at k
    | some n =>
      rw [e] at k
      simp only [Option.bind_some, Option.isSome_map] at k
      exact .cons (as := []) (bs := []) (reads_key on _ _ _ r1 (by rw [e]; rfl)) (reads_keys on _ _ _ r2 k)
end
/-- sorted(a set) -/
def rSortS (Γ : Gam) : List V → Hp → VK → Prop := fun vs H Q => ∃ μ S p L ds zs, Sto Γ μ S H ∧ vs = [.ref p] ∧ H p = some (setH Γ.w p L) ∧ RpAll Γ H μ (L.map fun e => V.ref e.1) ds ∧ nkeys ds = some (L.map Prod.snd) ∧ (∀ d ∈ ds, keyT d = true) ∧ ds.Perm zs ∧ sortOk zs = true ∧ GivL Γ μ S H (sortP zs) Q
theorem nkeys_perm {L L' : List AK} {ds : List PyData} (p : L'.Perm L) (r : RpAll Γ H μ (L.map fun e => V.ref e.1) ds) (hn : nkeys ds = some (L.map Prod.snd)) : ∃ ds', RpAll Γ H μ (L'.map fun e => V.ref e.1) ds' ∧ nkeys ds' = some (L'.map Prod.snd) ∧ ds'.Perm ds := by
  induction p generalizing ds with
  | nil => exact ⟨ds, r, hn, .refl _⟩
  | cons e _ ih =>
    cases r with
    | cons h r =>
      obtain ⟨n1, n2⟩ := nkeys_some hn
      obtain ⟨ds', a1, a2, a3⟩ := ih r n2
      exact ⟨_ :: ds', .cons h a1, by rw [nkeys, n1, List.map_cons, a2]; rfl, a3.cons _⟩
  | swap x y l =>
    cases r with
    | cons h r =>
      cases r with
      | cons h' r =>
        obtain ⟨n1, n2⟩ := nkeys_some hn
        obtain ⟨n3, n4⟩ := nkeys_some n2
        exact ⟨_ :: _ :: _, .cons h' (.cons h r), by rw [nkeys, n3, nkeys, n1, n4]; rfl, .swap ..⟩
  | trans _ _ ih1 ih2 =>
    obtain ⟨d1, a1, a2, a3⟩ := ih2 r hn
    obtain ⟨d2, b1, b2, b3⟩ := ih1 a1 a2
    exact ⟨d2, b1, b2, b3.trans a3⟩
theorem c_sortS (G : Gx Γ k X) : CallR X (.builtin "sorted") (rSortS Γ) := by
  intro pins s σ H vs us Q I; intro r h
  obtain ⟨μ, S, a, L, ds, zs, st, rfl, ha, rd, nd, kd, pm, ok, q⟩ := h
  rw [r.ref1]
  have vL : ∀ L : List AK, Vals (L.map fun e => V.ref e.1) (L.map fun e => Value.ref e.1) := fun L => by
    induction L with
    | nil => exact .nil
    | cons e L ih => exact .cons rfl ih
  obtain ⟨ks, k1, k2, k3, k4⟩ := keys_at G I rd (vL L) kd
  have hN : NSet0 Γ.w s.heap a L := (I.hok a _ ha).1
  have kin : ∀ e ∈ L, KeyIn s.heap e := fun e he => by
    obtain ⟨i, hi, hj⟩ := List.getElem_of_mem he
    have e1 : L[i]? = some e := by rw [List.getElem?_eq_getElem hi, hj]
    have e2 : (ks.map fun e => Value.ref e.1)[i]? = some (.ref e.1) := by rw [← k1, List.getElem?_map, e1]; rfl
    have e3 : (ks.map Prod.snd)[i]? = some e.2 := by
      have := k3.symm.trans nd
      rw [Option.some.inj this, List.getElem?_map, e1]; rfl
    rw [List.getElem?_map] at e2 e3
    obtain ⟨d, hd, f1⟩ := Option.map_eq_some_iff.mp e2
    rw [hd] at e3
    have : d = e := Prod.ext (by injection f1) (Option.some.inj e3)
    exact this ▸ k4 d (List.mem_of_getElem? hd)
  obtain ⟨es, ep, t, N⟩ := hN.full kin
  obtain ⟨o, ho, hx, hd⟩ := N.obj
  have num := N.num
  have few := N.few
  have un := G.room.un
  refine Calls.call_function_entry kind_sorted plain_sorted entry_sorted (args_sorted1 (.ref a)) ?_; unfold Builtin.«sorted»
  refine wpAny_bind (m := checkCount "sorted" 1 1 _) (wpAny_pure (wpAny_bind (collect_set (A := X.A.in1) (I.ok.hd G.calm) ⟨o, ho, hx.1, hd⟩ N.fit (by unfold scanBound; omega) N.tab.ris (by rw [← G.w] at N; exact N.led) fun s1 out on big g1 o1 po => ?_)))
  have po' : (L.map fun e => Value.ref e.1).Perm out := by
    have : es.toList.map (·.2) = L.map fun e => Value.ref e.1 := by rw [N.has, List.map_map]; rfl
    rw [← this]
    exact po.symm
  obtain ⟨L1, p1, rfl⟩ := perm_of_map po'
  obtain ⟨ds1, r1, n1, q1⟩ := nkeys_perm p1 rd nd
  have ok1 : sortOk ds1 = true := sortOk_perm (q1.trans pm) ok
  have same : sortP ds1 = sortP zs := sortP_perm (q1.trans pm) (fun d hd => keyT_key (kd d (q1.mem_iff.mp hd))) fun d hd e he => by
    have := sortOk_alike ok1
    rw [List.map_id] at this
    exact this d hd e he
  have len1 : L1.length = L.length := p1.length_eq
  refine wpAny_bind (wpAny_newList ?_ (by rw [List.length_map, sizeLine_eq]; omega))
  have hoL : (s1.heap.push (seqObj "list" (L1.map fun e => Value.ref e.1).toArray 0)).get? s1.heap.objs.size = some (seqObj "list" (L1.map fun e => Value.ref e.1).toArray 0) := Heap.get?_push_size _ rfl
  have kp : ∀ b u, s.heap.get? b = some u → (s1.heap.push (seqObj "list" (L1.map fun e => Value.ref e.1).toArray 0)).get? b = some u := fun b u e => Heap.get?_push_of_some _ (on b u e)
  have rds : PySem.W.EachIs (fun u d => ∃ as, Reads (s1.heap.push (seqObj "list" (L1.map fun e => Value.ref e.1).toArray 0)) u (id d) as ∧ s1.heap.objs.size ∉ as) (L1.map fun e => Value.ref e.1) ds1 := each_of r1 (vL L1) fun v u d hd rv rp => by
    obtain ⟨as, hr⟩ := rp.reads G I (okD_plain (sortOk_ok ok1 hd)) rv
    exact ⟨[], reads_key kp _ _ _ hr (keyT_key (kd d (q1.mem_iff.mp hd))), by simp⟩
  have rel : PySem.W.EachIs (fun u d => ∃ v, RelV v u ∧ Rp Γ H μ v d) (L1.map fun e => Value.ref e.1) ds1 := each_of r1 (vL L1) fun v u d _ rv rp => ⟨v, rv, rp⟩
  refine wpAny_bind (wpAny_holding (PySem.W.list_sort_data (s := { s1 with heap := s1.heap.push (seqObj "list" (L1.map fun e => Value.ref e.1).toArray 0) }) (enc := id) hoL rel rds (sortOk_alike ok1) (sortOk_kind ok1) (sortOk_len ok1) (fun d hd => ?_) fun outs len eo => ?_))
  · have := okD_depth (sortOk_ok ok1 hd)
    show X.A.units + 1 + 1 + d.depth < cLine
    omega
  obtain ⟨ws, v1, v2⟩ := of_each eo
  obtain ⟨c, hc⟩ := sortedHeap_at (vs := L1.map fun e => Value.ref e.1) (out := outs.toArray) hoL
  have wl : ws.length ≤ sizeLine := by
    have := v1.length
    have := sortOk_len ok1
    omega
  have hn : H s1.heap.objs.size = none := I.hok.fresh big
  have kp2 : ∀ b u, s.heap.get? b = some u → (sortedHeap (s1.heap.push (seqObj "list" (L1.map fun e => Value.ref e.1).toArray 0)) s1.heap.objs.size (L1.map fun e => Value.ref e.1) outs.toArray).get? b = some u := fun b u e => by
    have lt : b < s1.heap.objs.size := Heap.lt_size (on b u e)
    rw [sortedHeap_old (Nat.ne_of_lt lt) (by rw [size_push']; exact Nat.lt_succ_of_lt lt)]
    exact kp b u e
  have J : Inv X pins σ (upd H s1.heap.objs.size (.lst ws)) { s with heap := sortedHeap (s1.heap.push (seqObj "list" (L1.map fun e => Value.ref e.1).toArray 0)) s1.heap.objs.size (L1.map fun e => Value.ref e.1) outs.toArray, gens := s1.gens, drawn := s1.drawn, toks := s1.toks } :=
    I.call (ch := []) (Un.laid kp2 big hn) (I.hok.laid kp2 big ⟨wl, outs, c, v1, by simpa using hc⟩) (by rw [g1]; exact I.bare) (fun _ z => nomatch z)
  have v2' : RpAll Γ H μ ws (sortP zs) := by rw [← same]; exact v2
  have Q1 := q μ H ws (Go.refl _ _) st v2' _ hn
  obtain ⟨h1, gg, dd, tt, oo⟩ := s1
  cases o1
  exact wpAny_pure ⟨_, rfl, V.ref _, _, J, rfl, Q1⟩
/-! ### sorted(set(xs)) -/
def gSortSet (as : List D) (S : Store) : Option (List PyData) := match as with
  | [a] => (itemsD S a).bind fun xs => if setOk xs && sortOk (dedupP xs) then some (sortP (dedupP xs)) else none
  | _ => none
theorem l_sortSet (G : Gx Γ k X) {e : Expr} {f : M (List D)} {p p2 pos pos2 : Pos} (hg : Gl X "sorted") (hm : Γ.mg "sorted" = none) (hg2 : Gl X "set") (hm2 : Γ.mg "set" = none) (ha : PA X [e] (rdA Γ W f))
    (he : starEach [e] X.env = [(false, eval e X.env)]) (he2 : starEach [.Call (.Name "set" p2) [e] [] pos2] X.env = [(false, eval (.Call (.Name "set" p2) [e] [] pos2) X.env)]) (hpl : (backTo pos (starEach [] X.env)).any (·.1) = false) :
    PE X (.Call (.Name "sorted" p) [.Call (.Name "set" p2) [e] [] pos2] [] pos) (rdL Γ W (lNs gSortSet f)) := by
  have m1 : X.mg "sorted" = none := by rw [G.mg]; exact hm
  have m2 : X.mg "set" = none := by rw [G.mg]; exact hm2
  have hset : PE X (.Call (.Name "set" p2) [e] [] pos2) (tCB (rSetN Γ) (rdA Γ W f)) := pe_callTy (c_set G) hg2 m2 (by decide +kernel) ha (by decide +kernel) (by decide +kernel) he rfl
  refine PE.mono (pe_callB (c_sortS G) hg m1 (by decide +kernel) (pa_cons hset pa_nil) (by decide +kernel) (by decide +kernel) he2 hpl) fun σ H Q h => ?_
  show rdA Γ W f σ H fun vs H1 => rSetN Γ vs H1 _
  refine rd.cut h fun μ ρ H1 S1 a x R1 ra f1 => ?_
  obtain ⟨ds, ed, f3⟩ := f1.of
  unfold gSortSet at ed
  split at ed
  · rename_i a'
    obtain ⟨xs, ex, ed⟩ := Option.bind_eq_some_iff.mp ed
    split at ed
    · rename_i ok
      cases ed
      rw [Bool.and_eq_true] at ok
      refine ⟨μ, S1, a', xs, R1.sto, ra, ex, ok.1, fun q L ds hq r n pm => ?_⟩
      have go := Go.lay μ hq (setH Γ.w q L)
      have st2 : Sto Γ μ S1 (upd H1 q (setH Γ.w q L)) := R1.sto.lay hq _
      have kx : ∀ d ∈ ds, keyT d = true := fun d hd => by
        have := ok.1
        simp only [setOk, Bool.and_eq_true, List.all_eq_true] at this
        exact this.2 d (dedup_sub (pm.mem_iff.mp hd))
      refine ⟨μ, S1, q, L, ds, dedupP xs, st2, rfl, upd_same, r.go go, n, kx, pm, ok.2, fun μ' H' vs g' s' r' c hc => f3 μ' H' vs (go.trans g') s' r' c hc⟩
    · cases ed
  · cases ed
end
end Fp

set_option linter.all false
set_option autoImplicit false
/-! Fp: the plain side: what loops and comprehensions come to. -/
namespace Fp
open PySem
/-- what is walked are the items xs, whatever the store -/
structure Walk (a : Nat × ItF) (xs : List D) : Prop where
  fuel : a.1 = xs.length + 1
  at_ : ∀ i S, i ≤ xs.length → a.2 i S = some xs[i]?
theorem walk_L (xs : List D) : Walk (itL xs) xs := ⟨rfl, fun _ _ _ => rfl⟩
theorem walk_P (xs : List PyData) : Walk (itP xs) (xs.map D.p) := ⟨by rw [List.length_map]; rfl, fun i S _ => by rw [List.getElem?_map]; rfl⟩
def numbered (xs : List PyData) : List D := xs.mapIdx fun i x => D.pr [.int (i : Nat), x]
theorem walk_E (xs : List PyData) : Walk (itE xs) (numbered xs) := by
  refine ⟨by unfold numbered; rw [List.length_mapIdx]; rfl, fun i S h => ?_⟩
  unfold numbered at h ⊢
  rw [List.length_mapIdx] at h
  show (if i ≤ xs.length then some (xs[i]?.map fun x => D.pr [.int (i : Nat), x]) else none) = _
  rw [if_pos h, List.getElem?_mapIdx]
def rowI (lo : Int) (n : Nat) : List D := (List.range n).map fun (i : Nat) => D.p (.int (lo + (i : Int)))
theorem walk_R (lo : Int) (n : Nat) : Walk (itR lo n) (rowI lo n) := by
  refine ⟨by unfold rowI; rw [List.length_map, List.length_range]; rfl, fun i S _ => ?_⟩
  unfold rowI
  show some (if i < n then some (D.p (.int (lo + i))) else none) = _
  rw [List.getElem?_map]
  by_cases h : i < n
  · rw [if_pos h, List.getElem?_range h]; rfl
  · rw [if_neg h, List.getElem?_eq_none (by simp; omega)]; rfl
/-! ### list comprehensions whose parts change nothing -/
theorem compF_pure {t : Tm} {c : M Bool} {fe : M D} {a : Nat × ItF} {xs : List D} {ρ : Slots} {S : Store} {p : D → Bool} {g : D → PyData} (wk : Walk a xs) (few : xs.length ≤ sizeLine)
    (h : ∀ x ∈ xs, ∀ acc, ∃ ρ1, t x ρ (S ++ [.lst acc]) = some ρ1 ∧ c ρ1 (S ++ [.lst acc]) = .ok (p x) (S ++ [.lst acc]) ∧ (p x = true → fe ρ1 (S ++ [.lst acc]) = .ok (.p (g x)) (S ++ [.lst acc]))) :
    ∀ (m i : Nat) (acc : List PyData), m + i = xs.length + 1 → i ≤ xs.length → acc.length ≤ i → compF t c fe a.2 S.length ρ m i (S ++ [.lst acc]) = some (S ++ [.lst (acc ++ ((xs.drop i).filter p).map g)]) := by
  have cut : ∀ l : List PyData, (S ++ [MO.lst l]).take (S.length + 1) = S ++ [.lst l] := fun l => List.take_of_length_le (by simp)
  intro m
  induction m with
  | zero => intro i acc e1 e0 e2; omega
  | succ m ih =>
    intro i acc e1 e0 e2
    unfold compF
    rw [wk.at_ i _ e0]
    cases ex : xs[i]? with
    | none =>
      have : xs.drop i = [] := List.drop_eq_nil_of_le (List.getElem?_eq_none_iff.mp ex)
      simp [this]
    | some x =>
      obtain ⟨hi, rfl⟩ := List.getElem?_eq_some_iff.mp ex
      obtain ⟨ρ1, h1, h2, h3⟩ := h xs[i] (List.getElem_mem hi) acc
      have dr : xs.drop i = xs[i] :: xs.drop (i + 1) := List.drop_eq_getElem_cons hi
      simp only [h1, h2]
      cases ep : p xs[i] with
      | false =>
        simp only
        rw [cut, ih (i + 1) acc (by omega) hi (by omega), dr, List.filter_cons_of_neg (by simp [ep])]
      | true =>
        simp only [h3 ep]
        have hn : (S ++ [MO.lst acc])[S.length]? = some (.lst acc) := by rw [List.getElem?_append_right (Nat.le_refl _), Nat.sub_self]; rfl
        simp only [hn, frz]
        rw [if_pos (by omega), cut]
        have hset : (S ++ [MO.lst acc]).set S.length (.lst (acc ++ [g xs[i]])) = S ++ [.lst (acc ++ [g xs[i]])] := by
          rw [List.set_append_right _ _ (Nat.le_refl _), Nat.sub_self]; rfl
        rw [hset, ih (i + 1) _ (by omega) hi (by simp; omega), dr, List.filter_cons_of_pos ep]
        simp
/-- a new list that stays, of items that are found without a change -/
theorem comp_stays {a : Nat × ItF} {fi : MI} {t : Tm} {c : M Bool} {fe : M D} {vs : List Nat} {xs : List D} {ρ : Slots} {S0 S : Store} {p : D → Bool} {g : D → PyData} (src : fi ρ S0 = .ok a S) (wk : Walk a xs) (few : xs.length ≤ sizeLine)
    (h : ∀ x ∈ xs, ∀ acc, ∃ ρ1, t x (wipeD ρ vs) (S ++ [.lst acc]) = some ρ1 ∧ c ρ1 (S ++ [.lst acc]) = .ok (p x) (S ++ [.lst acc]) ∧ (p x = true → fe ρ1 (S ++ [.lst acc]) = .ok (.p (g x)) (S ++ [.lst acc]))) :
    eComp false fi t c fe vs ρ S0 = .ok (.p (.list ((xs.filter p).map g))) S := by
  show (fi ρ S0).bind (fun a S => endC false S.length (compF t c fe a.2 S.length (wipeD ρ vs) a.1 0 (S ++ [.lst []]))) = _
  rw [src]
  show endC false S.length (compF t c fe a.2 S.length (wipeD ρ vs) a.1 0 (S ++ [.lst []])) = _
  rw [wk.fuel, compF_pure wk few h (xs.length + 1) 0 [] (by omega) (by omega) (by simp)]
  simp [endC]
/-! ### loops, by what is true ahead of each turn -/
theorem forF_by {a : Nat × ItF} {t : Tm} {body : MS} {xs : List D} {R : OutS → Prop} (wk : Walk a xs) (Iv : Nat → Slots → Store → Prop)
    (step : ∀ (i : Nat) (x : D) (ρ : Slots) (S : Store), xs[i]? = some x → Iv i ρ S → ∃ ρ1, t x ρ S = some ρ1 ∧ match body ρ1 S with
      | .nx ρ2 S2 => Iv (i + 1) ρ2 S2
      | .ct ρ2 S2 => Iv (i + 1) ρ2 S2
      | .bk ρ2 S2 => R (.nx ρ2 S2)
      | .rt d S2 => R (.rt d S2)
      | .exc x ρ2 S2 => R (.exc x ρ2 S2)
      | .bad => False)
    (last : ∀ ρ S, Iv xs.length ρ S → R (.nx ρ S)) : ∀ (m i : Nat) (ρ : Slots) (S : Store), m + i = xs.length + 1 → i ≤ xs.length → Iv i ρ S → R (forF t body a.2 m i ρ S)
  | 0, i, _, _, e1, e2, _ => by omega
  | m + 1, i, ρ, S, e1, e2, iv => by
    unfold forF
    rw [wk.at_ i S e2]
    cases ex : xs[i]? with
    | none =>
      have : i = xs.length := by have := List.getElem?_eq_none_iff.mp ex; omega
      subst this
      exact last ρ S iv
    | some x =>
      obtain ⟨ρ1, h1, h2⟩ := step i x ρ S ex iv
      have hi := (List.getElem?_eq_some_iff.mp ex).1
      simp only [h1]
      cases eb : body ρ1 S with
      | nx ρ2 S2 => rw [eb] at h2; exact forF_by wk Iv step last m (i + 1) ρ2 S2 (by omega) hi h2
      | ct ρ2 S2 => rw [eb] at h2; exact forF_by wk Iv step last m (i + 1) ρ2 S2 (by omega) hi h2
      | bk ρ2 S2 => rw [eb] at h2; exact h2
      | rt d S2 => rw [eb] at h2; exact h2
      | exc z ρ2 S2 => rw [eb] at h2; exact h2
      | bad => rw [eb] at h2; exact h2.elim
theorem for_by {a : Nat × ItF} {fi : MI} {t : Tm} {body : MS} {xs : List D} {ρ : Slots} {S0 S : Store} {R : OutS → Prop} (Iv : Nat → Slots → Store → Prop) (src : fi ρ S0 = .ok a S) (wk : Walk a xs) (first : Iv 0 ρ S)
    (step : ∀ (i : Nat) (x : D) (ρ : Slots) (S : Store), xs[i]? = some x → Iv i ρ S → ∃ ρ1, t x ρ S = some ρ1 ∧ match body ρ1 S with
      | .nx ρ2 S2 => Iv (i + 1) ρ2 S2
      | .ct ρ2 S2 => Iv (i + 1) ρ2 S2
      | .bk ρ2 S2 => R (.nx ρ2 S2)
      | .rt d S2 => R (.rt d S2)
      | .exc x ρ2 S2 => R (.exc x ρ2 S2)
      | .bad => False)
    (last : ∀ ρ S, Iv xs.length ρ S → R (.nx ρ S)) : R (sFor fi t body ρ S0) := by
  show R ((fi ρ S0).toS ρ fun a S' => forF t body a.2 a.1 0 ρ S')
  rw [src]
  show R (forF t body a.2 a.1 0 ρ S)
  rw [wk.fuel]
  exact forF_by wk Iv step last (xs.length + 1) 0 ρ S (by omega) (by omega) first
/-! ### small steps -/
theorem wipeD_at {ρ : Slots} {vs : List Nat} {i : Nat} (h : i ∉ vs) : (wipeD ρ vs)[i]? = ρ[i]? := by
  unfold wipeD
  rw [List.getElem?_mapIdx]
  cases ρ[i]? with
  | none => rfl
  | some x => simp [h]
/-- a name's slot in a block that has set slot m -/
theorem blk_at {ρ : Slots} {m i : Nat} {x : Option D} (h : m ≠ i) : ((wipeD ρ [m]).set m x)[i]? = ρ[i]? := by
  rw [List.getElem?_set_ne h, wipeD_at (by simp; exact fun z => h z.symm)]
theorem blk_own {ρ : Slots} {m : Nat} {x : Option D} (h : m < ρ.length) : ((wipeD ρ [m]).set m x)[m]? = some x := List.getElem?_set_self (by rw [wipeD_length]; exact h)
theorem tName_own {ρ : Slots} {m : Nat} {d : D} {S : Store} (h : m < ρ.length) : tName m d (wipeD ρ [m]) S = some ((wipeD ρ [m]).set m (some d)) := by simp [tName, wipeD_length, h]
theorem allB_map {α : Type} (f : α → Bool) : ∀ l : List α, allB (l.map fun x => PyData.bool (f x)) = some (l.map f)
  | [] => rfl
  | x :: l => by rw [List.map_cons, allB, allB_map f l]; rfl
theorem cmp_eq {x y : PyData} (S : Store) (hx : okD x = true) (hy : okD y = true) : bCmp .Eq (.p x) (.p y) S = some (PyData.eqv x y) := by
  simp only [bCmp, view, cmpOk, hx, hy, cmpD, Bool.and_self, if_true]
theorem cmp_ne {x y : PyData} (S : Store) (hx : okD x = true) (hy : okD y = true) : bCmp .NotEq (.p x) (.p y) S = some (!PyData.eqv x y) := by
  simp only [bCmp, view, cmpOk, hx, hy, cmpD, Bool.and_self, if_true]
theorem ok_str (x : Str) : okD (.str x) = true := by simp [okD, PyData.plain, PyData.depth]
theorem ok_int (i : Int) : okD (.int i) = true := by simp [okD, PyData.plain, PyData.depth]
theorem ok_none : okD .none = true := by simp [okD, PyData.plain, PyData.depth]
theorem leave_p (n : Nat) (y : PyData) (S : Store) : leave false n (.rt (.p y) S) = .ok (.p y) (S.take n) := by simp [leave, leaveV, frzT, frz]
/-! ### one construct, from what its parts come to -/
section
variable {ρ : Slots} {S S1 S2 : Store} {f f' : M D} {d d' : D}
theorem x_bin {g : D → D → Store → Option D} (h : f ρ S = .ok d S1) (h' : f' ρ S1 = .ok d' S2) : eBin g f f' ρ S = .of S2 (g d d' S2) := by simp only [eBin, M.bind, h, h', Out.bind]
theorem x_cmp {g : D → D → Store → Option Bool} {b : Bool} (h : f ρ S = .ok d S1) (h' : f' ρ S1 = .ok d' S2) (e : g d d' S2 = some b) : eCmpT g f f' ρ S = .ok b S2 := by simp only [eCmpT, M.bind, h, h', Out.bind, e, Out.of]
theorem x_b {t : M Bool} {b : Bool} (h : t ρ S = .ok b S1) : eB t ρ S = .ok (.p (.bool b)) S1 := by simp only [eB, M.bind, h, Out.bind]
theorem x_a0 : aNil ρ S = .ok [] S := rfl
theorem x_a1 {fa : M (List D)} {ds : List D} (h : f ρ S = .ok d S1) (h' : fa ρ S1 = .ok ds S2) : aCons f fa ρ S = .ok (d :: ds) S2 := by simp only [aCons, M.bind, h, h', Out.bind]
theorem x_ns {g : List D → Store → Option D} {fa : M (List D)} {ds : List D} (h : fa ρ S = .ok ds S1) : eNs g fa ρ S = .of S1 (g ds S1) := by simp only [eNs, M.bind, h, Out.bind]
theorem x_lns {g : List D → Store → Option (List PyData)} {fa : M (List D)} {ds : List D} {xs : List PyData} (h : fa ρ S = .ok ds S1) (e : g ds S1 = some xs) : lNs g fa ρ S = .ok xs S1 := by simp only [lNs, M.bind, h, Out.bind, e, Out.of]
theorem x_frz {fl : M (List PyData)} {xs : List PyData} (h : fl ρ S = .ok xs S1) : eFrz fl ρ S = .ok (.p (.list xs)) S1 := by simp only [eFrz, M.bind, h, Out.bind]
theorem x_ret (h : f ρ S = .ok d S1) : sRet f ρ S = .rt d S1 := by simp only [sRet, h, Out.toS]
theorem x_seq_rt {a b : MS} (h : a ρ S = .rt d S1) : sSeq a b ρ S = .rt d S1 := by simp only [sSeq, h]
theorem x_seq {a b : MS} {ρ1 : Slots} (h : a ρ S = .nx ρ1 S1) : sSeq a b ρ S = b ρ1 S1 := by simp only [sSeq, h]
theorem x_if {c : M Bool} {a b : MS} {v : Bool} (h : c ρ S = .ok v S1) : sIf c a b ρ S = if v then a ρ S1 else b ρ S1 := by simp only [sIf, h, Out.toS]
theorem x_call {ns ks kws : List Str} {fx : Fx} {fa fk : M (List D)} {as bs : List D} (h : fa ρ S = .ok as S1) (h' : fk ρ S1 = .ok bs S2) (e : (sigOk ns ks as.length kws && decide (bs.length = kws.length)) = true) : eCall ns ks fx kws fa fk ρ S = fx (order (ns ++ ks) as kws bs) S2 := by
  rw [Bool.and_eq_true, decide_eq_true_eq] at e
  simp only [eCall, M.bind, h, h', Out.bind]
  rw [if_pos e]
end
/-- a loop and what comes behind it -/
theorem seq_for {a : Nat × ItF} {fi : MI} {t : Tm} {body rest : MS} {xs : List D} {ρ : Slots} {S0 S : Store} (Post : OutS → Prop) (Iv : Nat → Slots → Store → Prop) (src : fi ρ S0 = .ok a S) (wk : Walk a xs) (first : Iv 0 ρ S)
    (step : ∀ (i : Nat) (x : D) (ρ : Slots) (S : Store), xs[i]? = some x → Iv i ρ S → ∃ ρ1, t x ρ S = some ρ1 ∧ match body ρ1 S with
      | .nx ρ2 S2 => Iv (i + 1) ρ2 S2
      | .ct ρ2 S2 => Iv (i + 1) ρ2 S2
      | .bk ρ2 S2 => Post (rest ρ2 S2)
      | .rt d S2 => Post (.rt d S2)
      | .exc x ρ2 S2 => Post (.exc x ρ2 S2)
      | .bad => False)
    (last : ∀ ρ S, Iv xs.length ρ S → Post (rest ρ S)) : Post (sSeq (sFor fi t body) rest ρ S0) :=
  for_by (R := fun o => Post (match o with | .nx ρ' S' => rest ρ' S' | o => o)) Iv src wk first (fun i x ρ S hx iv => by
    obtain ⟨ρ1, h1, h2⟩ := step i x ρ S hx iv
    refine ⟨ρ1, h1, ?_⟩
    cases e : body ρ1 S <;> rw [e] at h2 <;> exact h2) last
end Fp

set_option linter.all false
set_option autoImplicit false
/-! Fp: the interpreter's terms evaluated by simp. -/
namespace Fp
open PySem
section
variable {α β : Type} {ρ : Slots} {S S1 : Store}
@[simp] theorem v_bind (a : α) (S : Store) (g : α → Store → Out β) : (Out.ok a S).bind g = g a S := id rfl
@[simp] theorem v_of (a : α) (S : Store) : Out.of S (some a) = .ok a S := id rfl
@[simp] theorem v_toS (a : α) (S : Store) (ρ : Slots) (g : α → Store → OutS) : (Out.ok a S).toS ρ g = g a S := id rfl
theorem v_bind_cg {o o' : Out α} {g : α → Store → Out β} (h : o = o') : o.bind g = o'.bind g := by rw [h]
theorem v_toS_cg {o o' : Out α} {g : α → Store → OutS} (h : o = o') : o.toS ρ g = o'.toS ρ g := by rw [h]
def OutS.sq (o : OutS) (g : MS) : OutS := match o with
  | .nx ρ S => g ρ S
  | o => o
theorem v_sq_cg {o o' : OutS} {g : MS} (h : o = o') : o.sq g = o'.sq g := by rw [h]
@[simp] theorem v_sq_nx (ρ : Slots) (S : Store) (g : MS) : (OutS.nx ρ S).sq g = g ρ S := id rfl
@[simp] theorem v_sq_rt (d : D) (S : Store) (g : MS) : (OutS.rt d S).sq g = .rt d S := id rfl
@[simp] theorem v_sq_ct (ρ : Slots) (S : Store) (g : MS) : (OutS.ct ρ S).sq g = .ct ρ S := id rfl
@[simp] theorem v_sq_bk (ρ : Slots) (S : Store) (g : MS) : (OutS.bk ρ S).sq g = .bk ρ S := id rfl
@[simp] theorem v_sq_if {c : Prop} [Decidable c] (a b : OutS) (g : MS) : (if c then a else b).sq g = if c then a.sq g else b.sq g := by split <;> rfl
/-! expressions -/
@[simp] theorem v_bin (g : D → D → Store → Option D) (a b : M D) : eBin g a b ρ S = (a ρ S).bind fun x S1 => (b ρ S1).bind fun y S2 => .of S2 (g x y S2) := id rfl
@[simp] theorem v_un (g : D → Store → Option D) (a : M D) : eUn g a ρ S = (a ρ S).bind fun x S1 => .of S1 (g x S1) := id rfl
@[simp] theorem v_ns (g : List D → Store → Option D) (a : M (List D)) : eNs g a ρ S = (a ρ S).bind fun x S1 => .of S1 (g x S1) := id rfl
@[simp] theorem v_nil : aNil ρ S = .ok [] S := id rfl
@[simp] theorem v_cons (f : M D) (r : M (List D)) : aCons f r ρ S = (f ρ S).bind fun a S1 => (r ρ S1).bind fun as S2 => .ok (a :: as) S2 := id rfl
@[simp] theorem v_tru (f : M D) : eTru f ρ S = (f ρ S).bind fun a S1 => .of S1 (truD S1 a) := id rfl
@[simp] theorem v_and (f g : M Bool) : tAndM f g ρ S = (f ρ S).bind fun b S1 => if b then g ρ S1 else .ok false S1 := by
  show (f ρ S).bind (fun b S1 => (if b then g else fun _ S => .ok false S) ρ S1) = _
  congr 1; funext b S1; cases b <;> rfl
@[simp] theorem v_or (f g : M Bool) : tOrM f g ρ S = (f ρ S).bind fun b S1 => if b then .ok true S1 else g ρ S1 := by
  show (f ρ S).bind (fun b S1 => (if b then fun _ S => .ok true S else g) ρ S1) = _
  congr 1; funext b S1; cases b <;> rfl
@[simp] theorem v_not (f : M Bool) : tNotM f ρ S = (f ρ S).bind fun b S1 => .ok (!b) S1 := id rfl
@[simp] theorem v_yes : tYesM ρ S = .ok true S := id rfl
@[simp] theorem v_cmp (g : D → D → Store → Option Bool) (a b : M D) : eCmpT g a b ρ S = (a ρ S).bind fun x S1 => (b ρ S1).bind fun y S2 => .of S2 (g x y S2) := id rfl
@[simp] theorem v_chain (g g' : D → D → Store → Option Bool) (a b c : M D) : eChain g g' a b c ρ S = (a ρ S).bind fun x S1 => (b ρ S1).bind fun y S2 => (Out.of S2 (g x y S2)).bind fun k S3 => if k then (c ρ S3).bind fun z S4 => .of S4 (g' y z S4) else .ok false S3 := id rfl
@[simp] theorem v_b (f : M Bool) : eB f ρ S = (f ρ S).bind fun b S1 => .ok (.p (.bool b)) S1 := id rfl
@[simp] theorem v_c (d : D) : eC d ρ S = .ok d S := id rfl
@[simp] theorem v_sl (a : M D) (l h : M (Option Int)) : eSl a l h ρ S = (a ρ S).bind fun x S1 => (l ρ S1).bind fun lo S2 => (h ρ S2).bind fun hi S3 => .of S3 (gSl x lo hi S3) := id rfl
@[simp] theorem v_oN : oNone ρ S = .ok none S := id rfl
@[simp] theorem v_oS (f : M D) : oSome f ρ S = (f ρ S).bind fun a S1 => .of S1 (partD a) := id rfl
@[simp] theorem v_tup (f : M (List D)) : eTup f ρ S = (f ρ S).bind fun ds S1 => if ds.length ≤ 1000 then .ok (mkTup ds) S1 else .bad := id rfl
@[simp] theorem v_disp (f : M (List D)) : lDisp f ρ S = (f ρ S).bind fun ds S1 => if ds.length ≤ 1000 then .of S1 (allP ds) else .bad := id rfl
@[simp] theorem v_frz (f : M (List PyData)) : eFrz f ρ S = (f ρ S).bind fun xs S1 => .ok (.p (.list xs)) S1 := id rfl
@[simp] theorem v_thw (f : M (List PyData)) : eThw f ρ S = (f ρ S).bind fun xs S1 => .ok (.loc S1.length) (S1 ++ [.lst xs]) := id rfl
@[simp] theorem v_eIf (c : M Bool) (f g : M α) : eIf c f g ρ S = (c ρ S).bind fun b S1 => if b then f ρ S1 else g ρ S1 := by
  show (c ρ S).bind (fun b S1 => (if b then f else g) ρ S1) = _
  congr 1; funext b S1; cases b <;> rfl
@[simp] theorem v_not' (f : M D) : eNot f ρ S = (f ρ S).bind fun a S1 => .of S1 ((truD S1 a).map fun b => .p (.bool (!b))) := id rfl
@[simp] theorem v_lns (g : List D → Store → Option (List PyData)) (a : M (List D)) : lNs g a ρ S = (a ρ S).bind fun x S1 => .of S1 (g x S1) := id rfl
@[simp] theorem v_nk (g : List D → List D → Store → Option D) (a b : M (List D)) : eNk g a b ρ S = (a ρ S).bind fun x S1 => (b ρ S1).bind fun y S2 => .of S2 (g x y S2) := id rfl
@[simp] theorem v_iseq (f : M D) : iSeq f ρ S = (f ρ S).bind fun a S1 => .of S1 (iterOf a S1) := id rfl
@[simp] theorem v_ins (g : List D → Store → Option (Nat × ItF)) (a : M (List D)) : iNs g a ρ S = (a ρ S).bind fun x S1 => .of S1 (g x S1) := id rfl
@[simp] theorem v_meth (T : String) (g : Gm) (o : M D) (a : M (List D)) : eMeth T g o a ρ S = (o ρ S).bind fun d S1 => if tyD S1 d = T then (a ρ S1).bind fun as S2 => outM (g d as S2) else .bad := id rfl
@[simp] theorem v_outM (d : D) (S : Store) : outM (some (d, S)) = .ok d S := id rfl
@[simp] theorem v_ladd (a b : M D) : lAdd a b ρ S = (a ρ S).bind fun x S1 => (b ρ S1).bind fun y S2 => .of S2 (match viewW S2 x, viewW S2 y with
  | some xs, some ys => if xs.length + ys.length ≤ sizeLine then some (xs ++ ys) else none
  | _, _ => none) := id rfl
@[simp] theorem v_dictOf (th : Bool) (g : List D → Store → Option (List (PyData × PyData))) (a : M (List D)) : eDictOf th g a ρ S = (a ρ S).bind fun as S1 => match g as S1 with
  | some kvs => endD th S1.length kvs (S1 ++ [.dic kvs])
  | none => .bad := id rfl
@[simp] theorem v_dict0 (th : Bool) : eDict0 th ρ S = endD th S.length [] (S ++ [.dic []]) := id rfl
@[simp] theorem v_endD (th : Bool) (kvs kvs' : List (PyData × PyData)) (S : Store) : endD th S.length kvs (S ++ [.dic kvs']) = if th then .ok (.loc S.length) (S ++ [.dic kvs]) else .ok (.p (.dict kvs)) S := by
  unfold endD; cases th <;> simp
/-! names -/
@[simp] theorem v_var0 (d : D) (ρ : Slots) : eVar 0 (some d :: ρ) S = .ok d S := id rfl
@[simp] theorem v_varS (i : Nat) (x : Option D) (ρ : Slots) : eVar (i + 1) (x :: ρ) S = eVar i ρ S := by simp [eVar]
@[simp] theorem v_name0 (d : D) (x : Option D) (ρ : Slots) : tName 0 d (x :: ρ) S = some (some d :: ρ) := by simp [tName]
@[simp] theorem v_nameS (i : Nat) (d : D) (x : Option D) (ρ : Slots) : tName (i + 1) d (x :: ρ) S = (tName i d ρ S).map (x :: ·) := by
  simp only [tName, List.length_cons, List.set_cons_succ]
  by_cases h : i < ρ.length
  · simp [h]
  · simp [h]
@[simp] theorem v_tsN (ρ : Slots) : tsNil [] ρ S = some ρ := id rfl
@[simp] theorem v_tsC (t : Tm) (u : Tms) (d : D) (r : List D) (ρ : Slots) : tsCons t u (d :: r) ρ S = (t d ρ S).bind fun ρ' => u r ρ' S := id rfl
@[simp] theorem v_tTup (n : Nat) (u : Tms) (xs : List PyData) : tTupM n u (.p (.tuple xs)) ρ S = if xs.length = n then u (xs.map .p) ρ S else none := id rfl
@[simp] theorem v_tTup' (n : Nat) (u : Tms) (xs : List D) : tTupM n u (.tup xs) ρ S = if xs.length = n then u xs ρ S else none := id rfl
@[simp] theorem v_wipe (ρ : Slots) : wipeD [] [] = ([] : Slots) := id rfl
theorem v_wipe0 (vs : List Nat) : wipeD [] vs = ([] : Slots) := rfl
theorem v_wipeS (x : Option D) (ρ : Slots) (vs : List Nat) : wipeD (x :: ρ) vs = (if 0 ∈ vs then none else x) :: wipeD ρ ((vs.filter fun n => n != 0).map fun n => n - 1) := by
  unfold wipeD
  rw [List.mapIdx_cons]
  congr 1
  congr 1
  funext i y
  have : (i + 1 ∈ vs) ↔ (i ∈ (vs.filter fun n => n != 0).map fun n => n - 1) := by
    simp only [List.mem_map, List.mem_filter, bne_iff_ne]
    constructor
    · intro h; exact ⟨i + 1, ⟨h, by omega⟩, by omega⟩
    · rintro ⟨a, ⟨h1, h2⟩, h3⟩
      have : a = i + 1 := by omega
      exact this ▸ h1
  by_cases h : i + 1 ∈ vs
  · rw [if_pos h, if_pos (this.mp h)]
  · rw [if_neg h, if_neg fun z => h (this.mpr z)]
/-! statements -/
@[simp] theorem v_sN : sNil ρ S = .nx ρ S := id rfl
@[simp] theorem v_seq (a b : MS) : sSeq a b ρ S = (a ρ S).sq b := by
  unfold sSeq OutS.sq; rfl
@[simp] theorem v_asg (t : Tm) (f : M D) : sAsg t f ρ S = (f ρ S).toS ρ fun d S1 => match t d ρ S1 with
  | some ρ' => .nx ρ' S1
  | none => .bad := id rfl
@[simp] theorem v_sIf (c : M Bool) (a b : MS) : sIf c a b ρ S = (c ρ S).toS ρ fun k S1 => if k then a ρ S1 else b ρ S1 := id rfl
@[simp] theorem v_expr (f : M D) : sExpr f ρ S = (f ρ S).toS ρ fun _ S1 => .nx ρ S1 := id rfl
@[simp] theorem v_ret (f : M D) : sRet f ρ S = (f ρ S).toS ρ fun d S1 => .rt d S1 := id rfl
@[simp] theorem v_par (is : List Nat) (fa : M (List D)) : sPar is fa ρ S = (fa ρ S).toS ρ fun ds S1 => match setAll is ds ρ with
  | some ρ' => .nx ρ' S1
  | none => .bad := id rfl
@[simp] theorem v_sub (o i v : M D) : sSub o i v ρ S = (v ρ S).toS ρ fun x S1 => (o ρ S1).toS ρ fun y S2 => (i ρ S2).toS ρ fun z S3 => match gSetI y z x S3 with
  | some S4 => .nx ρ S4
  | none => .bad := id rfl
/-! calls -/
theorem ofString_inj {a b : String} : Str.ofString a = Str.ofString b ↔ a = b := by
  constructor
  · intro h
    rw [Str.ofString_eq_toList, Str.ofString_eq_toList] at h
    have h1 := Array.toList_inj.mpr (congrArg Str.cps h)
    simp only at h1
    have inj : ∀ (x y : List Char), x.map Char.toNat = y.map Char.toNat → x = y := fun x => by
      induction x with
      | nil => intro y e; cases y <;> simp_all
      | cons c x ih =>
        intro y e
        cases y with
        | nil => simp at e
        | cons d y =>
          simp only [List.cons.injEq, List.map_cons] at e
          rw [ih y e.2, Char.toNat_inj.mp e.1]
    exact String.toList_inj.mp (inj _ _ h1)
  · intro h; rw [h]
@[simp] theorem v_str (a b : String) : (Str.ofString a = Str.ofString b) = (a = b) := propext ofString_inj
@[simp] theorem v_strB (a b : String) : (Str.ofString a == Str.ofString b) = (a == b) := by
  rw [Bool.eq_iff_iff, beq_iff_eq, beq_iff_eq]; exact ofString_inj
@[simp] theorem v_call (ns ks : List Str) (fx : Fx) (kws : List Str) (fa fk : M (List D)) : eCall ns ks fx kws fa fk ρ S = (fa ρ S).bind fun as S1 => (fk ρ S1).bind fun bs S2 => if sigOk ns ks as.length kws = true ∧ bs.length = kws.length then fx (order (ns ++ ks) as kws bs) S2 else .bad := id rfl
theorem v_fx (N : Nat) (keep : Bool) (m : MS) (as : List D) (S : Store) : fxOf N keep m as S = leave keep S.length (m (as.map some ++ List.replicate (N - as.length) none) S) := rfl
@[simp] theorem v_leave (n : Nat) (y : PyData) (S : Store) : leave false n (.rt (.p y) S) = .ok (.p y) (S.take n) := leave_p n y S
end
end Fp

set_option linter.all false
set_option autoImplicit false
/-! Fp: comprehensions and loops for the evaluator. -/
namespace Fp
open PySem
/-- what is walked are the items xs, as long as the store is of that kind -/
structure WalkC (C : Store → Prop) (a : Nat × ItF) (xs : List D) : Prop where
  fuel : xs.length + 1 ≤ a.1
  at_ : ∀ i S, C S → i ≤ xs.length → a.2 i S = some xs[i]?
theorem Walk.c {a : Nat × ItF} {xs : List D} (w : Walk a xs) (C : Store → Prop) : WalkC C a xs := ⟨Nat.le_of_eq w.fuel.symm, fun i S _ h => w.at_ i S h⟩
theorem walkM {n : Nat} {xs : List PyData} (few : xs.length ≤ sizeLine) : WalkC (fun S => S[n]? = some (.lst xs)) (itM n) (xs.map D.p) := by
  refine ⟨by rw [List.length_map]; exact Nat.succ_le_succ few, fun i S h hi => ?_⟩
  show (match S[n]? with | some (.lst ys) => some (ys[i]?.map D.p) | _ => none) = _
  rw [h, List.getElem?_map]
/-- a list comprehension that changes nothing -/
theorem comp_rule {α : Type} {fi : MI} {t : Tm} {c : M Bool} {fe : M D} {vs : List Nat} {ρ : Slots} {S : Store} {a : Nat × ItF} (l : List α) (e : α → D) (p : α → Bool) (g : α → PyData) (src : fi ρ S = .ok a S) (wk : WalkC (fun S' => ∃ acc, S' = S ++ [.lst acc]) a (l.map e)) (few : l.length ≤ sizeLine)
    (h : ∀ x ∈ l, ∀ acc, ∃ ρ1, t (e x) (wipeD ρ vs) (S ++ [.lst acc]) = some ρ1 ∧ c ρ1 (S ++ [.lst acc]) = .ok (p x) (S ++ [.lst acc]) ∧ (p x = true → fe ρ1 (S ++ [.lst acc]) = .ok (.p (g x)) (S ++ [.lst acc]))) :
    eComp false fi t c fe vs ρ S = .ok (.p (.list ((l.filter p).map g))) S := by
  classical
  show (fi ρ S).bind (fun a S => endC false S.length (compF t c fe a.2 S.length (wipeD ρ vs) a.1 0 (S ++ [.lst []]))) = _
  rw [src]
  show endC false S.length (compF t c fe a.2 S.length (wipeD ρ vs) a.1 0 (S ++ [.lst []])) = _
  have key : ∀ (m i : Nat) (acc : List PyData), l.length + 1 ≤ m + i → i ≤ l.length → acc.length ≤ i → compF t c fe a.2 S.length (wipeD ρ vs) m i (S ++ [.lst acc]) = some (S ++ [.lst (acc ++ ((l.drop i).filter p).map g)]) := by
    have cut : ∀ l : List PyData, (S ++ [MO.lst l]).take (S.length + 1) = S ++ [.lst l] := fun l => List.take_of_length_le (by simp)
    intro m
    induction m with
    | zero => intro i acc e1 e0 e2; omega
    | succ m ih =>
      intro i acc e1 e0 e2
      unfold compF
      rw [wk.at_ i _ ⟨acc, rfl⟩ (by simpa using e0), List.getElem?_map]
      cases ex : l[i]? with
      | none =>
        have : l.drop i = [] := List.drop_eq_nil_of_le (List.getElem?_eq_none_iff.mp ex)
        simp [this]
      | some x =>
        obtain ⟨hi, rfl⟩ := List.getElem?_eq_some_iff.mp ex
        obtain ⟨ρ1, h1, h2, h3⟩ := h l[i] (List.getElem_mem hi) acc
        have dr : l.drop i = l[i] :: l.drop (i + 1) := List.drop_eq_getElem_cons hi
        simp only [Option.map_some, h1, h2]
        cases ep : p l[i] with
        | false =>
          simp only
          rw [cut, ih (i + 1) acc (by omega) hi (by omega), dr, List.filter_cons_of_neg (by simp [ep])]
        | true =>
          simp only [h3 ep]
          have hn : (S ++ [MO.lst acc])[S.length]? = some (.lst acc) := by rw [List.getElem?_append_right (Nat.le_refl _), Nat.sub_self]; rfl
          simp only [hn, frz]
          rw [if_pos (by omega), cut]
          have hset : (S ++ [MO.lst acc]).set S.length (.lst (acc ++ [g l[i]])) = S ++ [.lst (acc ++ [g l[i]])] := by
            rw [List.set_append_right _ _ (Nat.le_refl _), Nat.sub_self]; rfl
          rw [hset, ih (i + 1) _ (by omega) hi (by simp; omega), dr, List.filter_cons_of_pos ep]
          simp
  have fu := wk.fuel
  rw [List.length_map] at fu
  rw [key a.1 0 [] (by omega) (by omega) (by simp)]
  simp [endC]
/-- how a turn of a loop goes on -/
def Turns (Iv : Slots → Store → Prop) (Out : OutS → Prop) (Brk : Slots → Store → Prop) (o : OutS) : Prop := match o with
  | .nx ρ S => Iv ρ S
  | .ct ρ S => Iv ρ S
  | .bk ρ S => Brk ρ S
  | .bad => False
  | o => Out o
/-- a loop and what comes behind it; Iv tells what is true once the items done are done -/
theorem for_rule {α : Type} {fi : MI} {t : Tm} {body rest : MS} {ρ : Slots} {S0 S : Store} {a : Nat × ItF} (Post : OutS → Prop) (l : List α) (e : α → D) (Iv : List α → Slots → Store → Prop) (src : fi ρ S0 = .ok a S) (wk : WalkC (fun S => ∃ d ρ, Iv d ρ S) a (l.map e)) (first : Iv [] ρ S)
    (turn : ∀ done x rest', l = done ++ x :: rest' → ∀ ρ S, Iv done ρ S → ∃ ρ1, t (e x) ρ S = some ρ1 ∧ Turns (Iv (done ++ [x])) Post (fun ρ S => Post (rest ρ S)) (body ρ1 S))
    (last : ∀ ρ S, Iv l ρ S → Post (rest ρ S)) : Post ((sFor fi t body ρ S0).sq rest) := by
  show Post (((fi ρ S0).toS ρ fun a S' => forF t body a.2 a.1 0 ρ S').sq rest)
  rw [src]
  show Post ((forF t body a.2 a.1 0 ρ S).sq rest)
  have key : ∀ (m : Nat) (done left : List α) (ρ : Slots) (S : Store), l = done ++ left → left.length + 1 ≤ m → Iv done ρ S → Post ((forF t body a.2 m done.length ρ S).sq rest) := by
    intro m
    induction m with
    | zero => intro done left ρ S e1 e2; omega
    | succ m ih =>
      intro done left ρ S e1 e2 iv
      unfold forF
      rw [wk.at_ done.length S ⟨done, ρ, iv⟩ (by rw [e1]; simp), List.getElem?_map, e1, List.getElem?_append_right (Nat.le_refl _), Nat.sub_self]
      cases left with
      | nil =>
        simp only [List.getElem?_nil, Option.map_none]
        rw [List.append_nil] at e1
        exact last ρ S (e1 ▸ iv)
      | cons x left =>
        obtain ⟨ρ1, h1, h2⟩ := turn done x left e1 ρ S iv
        simp only [List.getElem?_cons_zero, Option.map_some, h1]
        have next : ∀ ρ2 S2, Iv (done ++ [x]) ρ2 S2 → Post ((forF t body a.2 m (done.length + 1) ρ2 S2).sq rest) := fun ρ2 S2 iv2 => by
          have := ih (done ++ [x]) left ρ2 S2 (by rw [e1]; simp) (by simpa using e2) iv2
          rwa [List.length_append] at this
        cases eb : body ρ1 S with
        | nx ρ2 S2 => rw [eb] at h2; exact next ρ2 S2 h2
        | ct ρ2 S2 => rw [eb] at h2; exact next ρ2 S2 h2
        | bk ρ2 S2 => rw [eb] at h2; exact h2
        | rt d S2 => rw [eb] at h2; exact h2
        | exc z ρ2 S2 => rw [eb] at h2; exact h2
        | bad => rw [eb] at h2; exact h2.elim
  have fu := wk.fuel
  rw [List.length_map] at fu
  exact key a.1 [] l ρ S rfl fu first
/-- the numbers of a range -/
theorem walk_range (n : Nat) : Walk (itR 0 n) ((List.range n).map fun (k : Nat) => D.p (.int (k : Int))) := by
  refine ⟨by simp; rfl, fun i S h => ?_⟩
  show some (if i < n then some (D.p (.int (0 + i))) else none) = _
  rw [List.getElem?_map]
  by_cases c : i < n
  · rw [if_pos c, List.getElem?_range c]; simp
  · rw [if_neg c, List.getElem?_eq_none (by simp; omega)]; rfl
/-! ### values -/
@[simp] theorem v_ixT (xs : List PyData) (i : Int) (S : Store) : gIx (.p (.tuple xs)) (.p (.int i)) S = (L2.atI xs i).map .p := id rfl
@[simp] theorem v_ixL (xs : List PyData) (i : Int) (S : Store) : gIx (.p (.list xs)) (.p (.int i)) S = (L2.atI xs i).map .p := id rfl
@[simp] theorem v_ixD (kvs : List (PyData × PyData)) (x : PyData) (S : Store) : gIx (.p (.dict kvs)) (.p x) S = if keyOk kvs x then (dget kvs x).map .p else none := id rfl
@[simp] theorem v_allP0 : allP [] = some [] := id rfl
@[simp] theorem v_allP1 (x : PyData) (r : List D) : allP (.p x :: r) = (allP r).map fun ds => x :: ds := id rfl
@[simp] theorem v_view (x : PyData) (S : Store) : view S (.p x) = some x := id rfl
@[simp] theorem v_viewL (xs : List PyData) (S : Store) : viewL S (.p (.list xs)) = some xs := id rfl
@[simp] theorem v_viewW (xs : List PyData) (S : Store) : viewW S (.p (.list xs)) = some xs := id rfl
@[simp] theorem v_addI (i j : Int) (S : Store) : gAdd (.p (.int i)) (.p (.int j)) S = some (.p (.int (i + j))) := id rfl
@[simp] theorem v_addT (xs ys : List PyData) (S : Store) : gAdd (.p (.tuple xs)) (.p (.tuple ys)) S = if xs.length + ys.length ≤ sizeLine then some (.p (.tuple (xs ++ ys))) else none := id rfl
@[simp] theorem v_addL (xs ys : List PyData) (S : Store) : gAdd (.p (.list xs)) (.p (.list ys)) S = if xs.length + ys.length ≤ sizeLine then some (.p (.list (xs ++ ys))) else none := id rfl
@[simp] theorem v_subI (i j : Int) (S : Store) : gSub (.p (.int i)) (.p (.int j)) S = some (.p (.int (i - j))) := id rfl
@[simp] theorem v_truB (b : Bool) (S : Store) : truD S (.p (.bool b)) = some b := id rfl
@[simp] theorem v_iterT (xs : List PyData) (S : Store) : iterOf (.p (.tuple xs)) S = some (itP xs) := id rfl
@[simp] theorem v_iterL (xs : List PyData) (S : Store) : iterOf (.p (.list xs)) S = some (itP xs) := id rfl
@[simp] theorem v_tupT (xs : List PyData) (S : Store) : Bi.g .tuple [.p (.tuple xs)] S = some (.p (.tuple xs)) := id rfl
@[simp] theorem v_tupL (xs : List PyData) (S : Store) : Bi.g .tuple [.p (.list xs)] S = some (.p (.tuple xs)) := id rfl
@[simp] theorem v_lenT (xs : List PyData) (S : Store) : Bi.g .len [.p (.tuple xs)] S = some (.p (.int xs.length)) := id rfl
@[simp] theorem v_lenL (xs : List PyData) (S : Store) : Bi.g .len [.p (.list xs)] S = some (.p (.int xs.length)) := id rfl
@[simp] theorem v_mkTup (xs : List PyData) : mkTup (xs.map D.p) = .p (.tuple xs) := by
  have : allP (xs.map D.p) = some xs := by
    induction xs with
    | nil => rfl
    | cons x r ih => rw [List.map_cons, v_allP1, ih]; rfl
  unfold mkTup; rw [this]
theorem v_repr {y : PyData} (S : Store) (h : showOk y = true) : Bi.g .repr [.p y] S = some (.p (.str y.shown)) := by
  show (view S (.p y)).bind (fun d => if showOk d then some (D.p (.str d.shown)) else none) = _
  simp [h]
@[simp] theorem eqv_str (a b : Str) : PyData.eqv (.str a) (.str b) = decide (a = b) := by
  rw [Bool.eq_iff_iff, decide_eq_true_eq, eqv_nkey _ _ rfl rfl]; simp
@[simp] theorem eqv_int (a b : Int) : PyData.eqv (.int a) (.int b) = decide (a = b) := by
  rw [Bool.eq_iff_iff, decide_eq_true_eq, eqv_nkey _ _ rfl rfl]; simp
/-- the same text twice -/
theorem v_eqSame {x : Str} (S : Store) : bCmp .Eq (.p (.str x)) (.p (.str x)) S = some true := by
  rw [cmp_eq S (ok_str x) (ok_str x)]
  simp
end Fp
namespace Fp
open PySem
@[simp] theorem v_app (n : Nat) (e : PyData) (S : Store) : mAppend (.loc n) [.p e] S = match S[n]? with
  | some (.lst xs) => if xs.length < sizeLine then some (.p .none, S.set n (.lst (xs ++ [e]))) else none
  | _ => none := id rfl
@[simp] theorem v_tyLoc (n : Nat) (S : Store) : tyD S (.loc n) = match S[n]? with
  | some (.lst _) => "list"
  | _ => "" := id rfl
@[simp] theorem v_iterM (n : Nat) (S : Store) : iterOf (.loc n) S = match S[n]? with
  | some (.lst _) => some (itM n)
  | _ => none := id rfl
@[simp] theorem v_viewLoc (n : Nat) (S : Store) : viewL S (.loc n) = match S[n]? with
  | some (.lst xs) => some xs
  | _ => none := id rfl
@[simp] theorem v_viewWLoc (n : Nat) (S : Store) : viewW S (.loc n) = match S[n]? with
  | some (.lst xs) => some xs
  | _ => none := id rfl
@[simp] theorem v_rng (j : Int) (S : Store) : rng1 [.p (.int j)] S = if inR j then some (itR 0 j.toNat) else none := id rfl
theorem inR_nat {n : Nat} (h : n ≤ 1000000) : inR (n : Int) = true := by
  unfold inR
  simp only [Bool.and_eq_true, decide_eq_true_eq]; omega
@[simp] theorem v_mkTup2 (a b : PyData) : mkTup [.p a, .p b] = .p (.tuple [a, b]) := id rfl
@[simp] theorem v_mkTup3 (a b c : PyData) : mkTup [.p a, .p b, .p c] = .p (.tuple [a, b, c]) := id rfl
@[simp] theorem v_mkTup4 (a b c d : PyData) : mkTup [.p a, .p b, .p c, .p d] = .p (.tuple [a, b, c, d]) := id rfl
@[simp] theorem v_mkTup5 (a b c d e : PyData) : mkTup [.p a, .p b, .p c, .p d, .p e] = .p (.tuple [a, b, c, d, e]) := id rfl
theorem range_split {n x : Nat} {d r : List Nat} (h : List.range n = d ++ x :: r) : x = d.length ∧ d.length < n ∧ d = List.range d.length := by
  have hl : d.length < n := by
    have len := congrArg List.length h
    simp at len
    omega
  have h1 : (List.range n)[d.length]? = some x := by rw [h, List.getElem?_append_right (Nat.le_refl _), Nat.sub_self]; rfl
  rw [List.getElem?_range hl] at h1
  refine ⟨(Option.some.inj h1).symm, hl, ?_⟩
  have := congrArg (List.take d.length) h
  rw [List.take_left, List.take_range, Nat.min_eq_left (Nat.le_of_lt hl)] at this
  exact this.symm
theorem atI_nat {α : Type} (xs : List α) {k : Nat} (h : k < xs.length) : L2.atI xs (k : Int) = some xs[k] := by
  unfold L2.atI L2.ixN
  simp only [show (0 : Int) ≤ (k : Int) from by omega, show (k : Int) < xs.length from by omega, if_true]
  simp [h]
end Fp
namespace Fp
open PySem
theorem for_leave {α : Type} {fi : MI} {t : Tm} {body rest : MS} {ρ : Slots} {S0 S : Store} {a : Nat × ItF} {keep : Bool} {n : Nat} {R : Out D} (l : List α) (e : α → D) (Iv : List α → Slots → Store → Prop) (src : fi ρ S0 = .ok a S) (wk : WalkC (fun S => ∃ d ρ, Iv d ρ S) a (l.map e)) (first : Iv [] ρ S)
    (turn : ∀ done x rest', l = done ++ x :: rest' → ∀ ρ S, Iv done ρ S → ∃ ρ1, t (e x) ρ S = some ρ1 ∧ Turns (Iv (done ++ [x])) (fun o => leave keep n o = R) (fun ρ S => leave keep n (rest ρ S) = R) (body ρ1 S))
    (last : ∀ ρ S, Iv l ρ S → leave keep n (rest ρ S) = R) : leave keep n ((sFor fi t body ρ S0).sq rest) = R := for_rule (fun o => leave keep n o = R) l e Iv src wk first turn last
theorem for_turns {α : Type} {fi : MI} {t : Tm} {body rest : MS} {ρ : Slots} {S0 S : Store} {a : Nat × ItF} {Jv : Slots → Store → Prop} {Out : OutS → Prop} {Brk : Slots → Store → Prop} (l : List α) (e : α → D) (Iv : List α → Slots → Store → Prop) (src : fi ρ S0 = .ok a S) (wk : WalkC (fun S => ∃ d ρ, Iv d ρ S) a (l.map e)) (first : Iv [] ρ S)
    (turn : ∀ done x rest', l = done ++ x :: rest' → ∀ ρ S, Iv done ρ S → ∃ ρ1, t (e x) ρ S = some ρ1 ∧ Turns (Iv (done ++ [x])) (Turns Jv Out Brk) (fun ρ S => Turns Jv Out Brk (rest ρ S)) (body ρ1 S))
    (last : ∀ ρ S, Iv l ρ S → Turns Jv Out Brk (rest ρ S)) : Turns Jv Out Brk ((sFor fi t body ρ S0).sq rest) := for_rule (Turns Jv Out Brk) l e Iv src wk first turn last
@[simp] theorem turns_nx (Iv : Slots → Store → Prop) (Out : OutS → Prop) (Brk : Slots → Store → Prop) (ρ : Slots) (S : Store) : Turns Iv Out Brk (.nx ρ S) = Iv ρ S := id rfl
@[simp] theorem turns_ct (Iv : Slots → Store → Prop) (Out : OutS → Prop) (Brk : Slots → Store → Prop) (ρ : Slots) (S : Store) : Turns Iv Out Brk (.ct ρ S) = Iv ρ S := id rfl
@[simp] theorem turns_bk (Iv : Slots → Store → Prop) (Out : OutS → Prop) (Brk : Slots → Store → Prop) (ρ : Slots) (S : Store) : Turns Iv Out Brk (.bk ρ S) = Brk ρ S := id rfl
@[simp] theorem turns_rt (Iv : Slots → Store → Prop) (Out : OutS → Prop) (Brk : Slots → Store → Prop) (d : D) (S : Store) : Turns Iv Out Brk (.rt d S) = Out (.rt d S) := id rfl
end Fp
namespace Fp
open PySem
theorem turns_cg {Iv : Slots → Store → Prop} {Out : OutS → Prop} {Brk : Slots → Store → Prop} {o o' : OutS} (h : o = o') : Turns Iv Out Brk o = Turns Iv Out Brk o' := by rw [h]
theorem leave_cg {k : Bool} {n : Nat} {o o' : OutS} (h : o = o') : leave k n o = leave k n o' := by rw [h]
end Fp
namespace Fp
open PySem
theorem turns_of {Iv : Slots → Store → Prop} {Out : OutS → Prop} {Brk : Slots → Store → Prop} {o : OutS} (o' : OutS) (h : o = o') (k : Turns Iv Out Brk o') : Turns Iv Out Brk o := h ▸ k
end Fp
namespace Fp
open PySem
theorem WalkC.mono {C C' : Store → Prop} {a : Nat × ItF} {xs : List D} (w : WalkC C a xs) (h : ∀ S, C' S → C S) : WalkC C' a xs := ⟨w.fuel, fun i S c => w.at_ i S (h S c)⟩
theorem cmp_ge (i j : Int) (S : Store) : bCmp .GtE (.p (.int i)) (.p (.int j)) S = some (decide (j ≤ i)) := by
  simp only [bCmp, view, cmpOk, ok_int, PySem.W.alike, isNon, cmpD, PySem.W.dataLt_int]
  by_cases h : i < j
  · simp [h]
  · simp [h]; omega
theorem cmp_lt (i j : Int) (S : Store) : bCmp .Lt (.p (.int i)) (.p (.int j)) S = some (decide (i < j)) := by
  simp only [bCmp, view, cmpOk, ok_int, PySem.W.alike, isNon, cmpD, PySem.W.dataLt_int]
  rfl
theorem cmp_gt (i j : Int) (S : Store) : bCmp .Gt (.p (.int i)) (.p (.int j)) S = some (decide (j < i)) := by
  simp only [bCmp, view, cmpOk, ok_int, PySem.W.alike, isNon, cmpD, PySem.W.dataLt_int]
  rfl
end Fp

set_option linter.all false
set_option autoImplicit false
/-! Fp: data whose text is not too long. -/
namespace Fp
open PySem PyProof.Rows
/-- plain data, at most k deep, its text at most c signs -/
structure Tame (k c : Nat) (d : PyData) : Prop where
  plain : d.plain = true
  show_ : d.showable = true
  nodict : d.hasDict = false
  depth : d.depth ≤ k
  len : d.shown.length ≤ c
theorem Tame.mono {k c k' c' : Nat} {d : PyData} (h : Tame k c d) (hk : k ≤ k') (hc : c ≤ c') : Tame k' c' d := ⟨h.plain, h.show_, h.nodict, Nat.le_trans h.depth hk, Nat.le_trans h.len hc⟩
theorem Tame.showOk {k c : Nat} {d : PyData} (h : Tame k c d) (hk : k ≤ 60) (hc : c ≤ sizeLine) : showOk d = true := by
  have h1 := h.depth
  have h2 := h.len
  simp only [Fp.showOk, h.plain, h.show_, h.nodict, Bool.not_false, Bool.and_true, Bool.true_and, Bool.and_eq_true, decide_eq_true_eq]
  omega
theorem Tame.okD {k c : Nat} {d : PyData} (h : Tame k c d) (hk : k ≤ 60) : okD d = true := by
  have h1 := h.depth
  simp only [Fp.okD, h.plain, Bool.true_and, decide_eq_true_eq]
  omega
theorem tame_none : Tame 0 4 .none := ⟨rfl, rfl, rfl, Nat.le_refl _, by decide +kernel⟩
theorem tame_bool (b : Bool) : Tame 0 5 (.bool b) := ⟨rfl, rfl, rfl, Nat.le_refl _, by cases b <;> decide +kernel⟩
theorem len_ofString (x : String) : (Str.ofString x).length = x.length := by
  rw [Str.ofString_eq_toList]
  show (x.toList.map Char.toNat).toArray.size = _
  simp [String.length_toList]
theorem tame_int {i : Int} (h : i.natAbs < 10 ^ 100) : Tame 0 101 (.int i) := by
  refine ⟨rfl, ?_, rfl, Nat.le_refl _, ?_⟩
  · have : i.natAbs.log2 < 1920 := by
      by_cases z : i.natAbs = 0
      · rw [z]; decide
      · rw [Nat.log2_lt z]
        exact Nat.lt_trans h (by decide +kernel)
    simpa [PyData.showable] using this
  · show (Str.ofString (toString i)).length ≤ _
    rw [len_ofString]
    exact int_text_length_le10 (by decide) h
/-- a short text of common signs -/
def shortS (x : Str) : Bool := decide (x.length ≤ 20) && x.cps.toList.all fun c => decide (c < 16 ^ 8)
theorem tame_str {x : Str} (h : shortS x = true) : Tame 0 202 (.str x) := by
  simp only [shortS, Bool.and_eq_true, decide_eq_true_eq, List.all_eq_true] at h
  refine ⟨rfl, rfl, rfl, Nat.le_refl _, ?_⟩
  have := PySem.StrLaws.reprText_len x h.2
  show (reprText x).length ≤ 202
  omega
theorem all_plain : ∀ {xs : List PyData}, (∀ x ∈ xs, x.plain = true) → PyData.plainAll xs = true
  | [], _ => rfl
  | x :: xs, h => by rw [PyData.plainAll, h x (by simp), all_plain fun y hy => h y (by simp [hy])]; rfl
theorem all_show : ∀ {xs : List PyData}, (∀ x ∈ xs, x.showable = true) → PyData.showableAll xs = true
  | [], _ => rfl
  | x :: xs, h => by rw [PyData.showableAll, h x (by simp), all_show fun y hy => h y (by simp [hy])]; rfl
theorem all_nodict : ∀ {xs : List PyData}, (∀ x ∈ xs, x.hasDict = false) → PyData.hasDictAll xs = false
  | [], _ => rfl
  | x :: xs, h => by rw [PyData.hasDictAll, h x (by simp), all_nodict fun y hy => h y (by simp [hy])]; rfl
theorem all_depth {k : Nat} : ∀ {xs : List PyData}, (∀ x ∈ xs, x.depth ≤ k) → PyData.depthAll xs ≤ k
  | [], _ => Nat.zero_le _
  | x :: xs, h => by rw [PyData.depthAll]; exact Nat.max_le.mpr ⟨h x (by simp), all_depth fun y hy => h y (by simp [hy])⟩
theorem all_piled {c : Nat} : ∀ {xs : List PyData}, (∀ x ∈ xs, x.shown.length ≤ c) → piled (PyData.shownAll xs) ≤ (c + 2) * xs.length
  | [], _ => by simp [PyData.shownAll, piled]
  | x :: xs, h => by
    have h1 := h x (by simp)
    have h2 := all_piled (xs := xs) fun y hy => h y (by simp [hy])
    rw [PyData.shownAll, piled_cons, List.length_cons, Nat.mul_succ]
    omega
theorem textFrom_le : ∀ (ts : List Str) (k : Nat) (acc : Str), (textFrom k acc ts).length ≤ acc.length + piled ts
  | [], _, _ => Nat.le_add_right _ _
  | t :: ts, k, acc => by
    have ih := textFrom_le ts (k + 1) (acc ++ (if k > 0 then ", " else "" : String) ++ t)
    rw [strLen_append, strLen_append] at ih
    have : (((if k > 0 then ", " else "" : String) : Str)).length ≤ 2 := by split <;> decide +kernel
    rw [textFrom, piled_cons]
    omega
theorem tame_list {k c : Nat} {xs : List PyData} (h : ∀ x ∈ xs, Tame k c x) : Tame (k + 1) ((c + 2) * xs.length + 2) (.list xs) := by
  refine ⟨?_, ?_, ?_, ?_, ?_⟩
  · rw [PyData.plain]; exact all_plain fun x hx => (h x hx).plain
  · rw [PyData.showable]; exact all_show fun x hx => (h x hx).show_
  · rw [PyData.hasDict]; exact all_nodict fun x hx => (h x hx).nodict
  · rw [PyData.depth]; exact Nat.succ_le_succ (all_depth fun x hx => (h x hx).depth)
  · have p := all_piled (c := c) fun x hx => (h x hx).len
    rw [PyData.shown]
    unfold listText
    rw [strLen_append]
    have t := textFrom_le (PyData.shownAll xs) 0 "["
    have e1 : ((("[" : String) : Str)).length = 1 := by decide +kernel
    have e2 : ((("]" : String) : Str)).length = 1 := by decide +kernel
    omega
theorem tame_tuple {k c : Nat} {xs : List PyData} (h : ∀ x ∈ xs, Tame k c x) : Tame (k + 1) ((c + 2) * xs.length + 3) (.tuple xs) := by
  refine ⟨?_, ?_, ?_, ?_, ?_⟩
  · rw [PyData.plain]; exact all_plain fun x hx => (h x hx).plain
  · rw [PyData.showable]; exact all_show fun x hx => (h x hx).show_
  · rw [PyData.hasDict]; exact all_nodict fun x hx => (h x hx).nodict
  · rw [PyData.depth]; exact Nat.succ_le_succ (all_depth fun x hx => (h x hx).depth)
  · have p := all_piled (c := c) fun x hx => (h x hx).len
    rw [PyData.shown]
    unfold tupleText; rw [strLen_append, strLen_append]
    have e1 : ((("(" : String) : Str)).length = 1 := by decide +kernel
    have e3 : (((if (PyData.shownAll xs).length == 1 then ",)" else ")" : String) : Str)).length ≤ 2 := by split <;> decide +kernel
    have j : (Str.join ", " (PyData.shownAll xs)).length ≤ piled (PyData.shownAll xs) := by
      by_cases z : PyData.shownAll xs = []
      · rw [z]; decide +kernel
      · have := join_length_add _ z; omega
    omega
end Fp

set_option linter.all false
set_option autoImplicit false
/-! Fp: the feed of drawn numbers (the same dict in every law). -/
namespace Fp
open PySem
set_option maxRecDepth 100000
def feedP (c : List Int) (a l n : Int) : List (PyData × PyData) :=
  [(.str (Str.ofString "cells"), .list (c.map .int)), (.str (Str.ofString "at"), .int a), (.str (Str.ofString "left"), .int l), (.str (Str.ofString "count"), .int n)]
/-- the feed at the head of the store -/
def fd (c : List Int) (a l n : Int) : MO := .dic (feedP c a l n)
theorem feed_key (c : List Int) (a l n : Int) (x : String) : keyOk (feedP c a l n) (.str (Str.ofString x)) = true := by
  simp [keyOk, feedP, pkey]
theorem feed_ix (c : List Int) (a l n : Int) (x : String) (T : Store) : gIx (.loc 0) (.p (.str (Str.ofString x))) (fd c a l n :: T) = (dget (feedP c a l n) (.str (Str.ofString x))).map .p := by
  show gIxV (.loc 0) (.str (Str.ofString x)) (fd c a l n :: T) = _
  unfold gIxV
  show (if keyOk (feedP c a l n) (.str (Str.ofString x)) = true then _ else _) = _
  rw [if_pos (feed_key c a l n x)]
@[simp] theorem feed_cells (c : List Int) (a l n : Int) (T : Store) : gIx (.loc 0) (.p (.str (Str.ofString "cells"))) (fd c a l n :: T) = some (.p (.list (c.map .int))) := by rw [feed_ix]; simp [dget, feedP]
@[simp] theorem feed_at (c : List Int) (a l n : Int) (T : Store) : gIx (.loc 0) (.p (.str (Str.ofString "at"))) (fd c a l n :: T) = some (.p (.int a)) := by rw [feed_ix]; simp [dget, feedP]
@[simp] theorem feed_left (c : List Int) (a l n : Int) (T : Store) : gIx (.loc 0) (.p (.str (Str.ofString "left"))) (fd c a l n :: T) = some (.p (.int l)) := by rw [feed_ix]; simp [dget, feedP]
@[simp] theorem feed_count (c : List Int) (a l n : Int) (T : Store) : gIx (.loc 0) (.p (.str (Str.ofString "count"))) (fd c a l n :: T) = some (.p (.int n)) := by rw [feed_ix]; simp [dget, feedP]
theorem feed_set (c : List Int) (a l n : Int) (x : String) (e : PyData) (T : Store) : gSetI (.loc 0) (.p (.str (Str.ofString x))) (.p e) (fd c a l n :: T) = some (.dic (dset (feedP c a l n) (.str (Str.ofString x)) e) :: T) := by
  show (if keyOk (feedP c a l n) (.str (Str.ofString x)) = true ∧ (feedP c a l n).length < sizeLine then some ((fd c a l n :: T).set 0 (.dic (dset (feedP c a l n) (.str (Str.ofString x)) e))) else none) = _
  rw [if_pos ⟨feed_key c a l n x, by simp [feedP, sizeLine_eq]⟩]
  rfl
@[simp] theorem feed_sat (c : List Int) (a l n v : Int) (T : Store) : gSetI (.loc 0) (.p (.str (Str.ofString "at"))) (.p (.int v)) (fd c a l n :: T) = some (fd c v l n :: T) := by rw [feed_set]; simp [dset, feedP, fd]
@[simp] theorem feed_sleft (c : List Int) (a l n v : Int) (T : Store) : gSetI (.loc 0) (.p (.str (Str.ofString "left"))) (.p (.int v)) (fd c a l n :: T) = some (fd c a v n :: T) := by rw [feed_set]; simp [dset, feedP, fd]
@[simp] theorem feed_scount (c : List Int) (a l n v : Int) (T : Store) : gSetI (.loc 0) (.p (.str (Str.ofString "count"))) (.p (.int v)) (fd c a l n :: T) = some (fd c a l v :: T) := by rw [feed_set]; simp [dset, feedP, fd]
/-! numbers -/
theorem v_mod {i j : Int} (S : Store) (h : 0 < j) : gMod (.p (.int i)) (.p (.int j)) S = some (.p (.int (i % j))) := by
  show (if decide (0 < j) = true then _ else _) = _
  rw [if_pos (by simpa using h)]
theorem v_div {i j : Int} (S : Store) (h : 0 < j) (h2 : j < 1073741824) : gDiv (.p (.int i)) (.p (.int j)) S = some (.p (.int (i / j))) := by
  show (if (decide (0 < j) && decide (j < 1073741824)) = true then _ else _) = _
  rw [if_pos (by simp [h, h2])]
theorem v_mul {i j : Int} (S : Store) (h : (-(2 ^ 64) < i ∧ i < 2 ^ 64) ∨ (-(2 ^ 64) < j ∧ j < 2 ^ 64)) : gMul (.p (.int i)) (.p (.int j)) S = some (.p (.int (i * j))) := by
  show (if ((decide (-(2 ^ 64) < i) && decide (i < 2 ^ 64)) || (decide (-(2 ^ 64) < j) && decide (j < 2 ^ 64))) = true then _ else _) = _
  rw [if_pos (by simpa using h)]
theorem v_pow {i j : Int} (S : Store) (h : 0 ≤ j) (h2 : j ≤ 1000000) (h3 : i.natAbs < 2 ^ 64) : gPow (.p (.int i)) (.p (.int j)) S = some (.p (.int (i ^ j.toNat))) := by
  show (if (decide (0 ≤ j) && decide (j ≤ 1000000) && decide (i.natAbs < 2 ^ 64)) = true then _ else _) = _
  rw [if_pos (by simp [h, h2, h3])]
theorem ints_ok (c : List Int) : okD (.list (c.map .int)) = true := by
  have h1 : PyData.plainAll (c.map .int) = true := all_plain fun x hx => by obtain ⟨k, _, rfl⟩ := List.mem_map.mp hx; rfl
  have h2 : PyData.depthAll (c.map .int) ≤ 0 := all_depth fun x hx => by obtain ⟨k, _, rfl⟩ := List.mem_map.mp hx; exact Nat.le_refl _
  simp [okD, PyData.plain, PyData.depth, h1]
  omega
theorem nil_eqv (l : List PyData) : PyData.eqv (.list l) (.list []) = l.isEmpty := by cases l <;> simp [PyData.eqv, PyData.eqvAll]
theorem nil_ok : okD (.list []) = true := rfl
theorem ix_mod {c : List Int} (h : c ≠ []) (a : Int) (S : Store) : ∃ v, gIx (.p (.list (c.map .int))) (.p (.int (a % (c.length : Int)))) S = some (.p (.int v)) := by
  have hl : 0 < c.length := by cases c <;> simp_all
  have h0 := Int.emod_nonneg a (show (c.length : Int) ≠ 0 by omega)
  have h1 := Int.emod_lt_of_pos a (show (0 : Int) < c.length by omega)
  obtain ⟨k, hk⟩ := Int.eq_ofNat_of_zero_le h0
  have hk2 : k < c.length := by omega
  refine ⟨c[k], ?_⟩
  rw [hk, v_ixL]
  have := atI_nat (c.map PyData.int) (k := k) (by simpa using hk2)
  show ((L2.atI (c.map PyData.int) (k : Int)).map D.p) = _
  rw [this]; simp
end Fp

set_option linter.all false
set_option autoImplicit false
namespace Fp
open PySem
set_option maxRecDepth 100000
theorem for_leaveP (P : Out D → Prop) {α : Type} {fi : MI} {t : Tm} {body rest : MS} {ρ : Slots} {S0 S : Store} {a : Nat × ItF} {keep : Bool} {n : Nat} (l : List α) (e : α → D) (Iv : List α → Slots → Store → Prop) (src : fi ρ S0 = .ok a S) (wk : WalkC (fun S => ∃ d ρ, Iv d ρ S) a (l.map e)) (first : Iv [] ρ S)
    (turn : ∀ done x rest', l = done ++ x :: rest' → ∀ ρ S, Iv done ρ S → ∃ ρ1, t (e x) ρ S = some ρ1 ∧ Turns (Iv (done ++ [x])) (fun o => P (leave keep n o)) (fun ρ S => P (leave keep n (rest ρ S))) (body ρ1 S))
    (last : ∀ ρ S, Iv l ρ S → P (leave keep n (rest ρ S))) : P (leave keep n ((sFor fi t body ρ S0).sq rest)) := for_rule (fun o => P (leave keep n o)) l e Iv src wk first turn last
@[simp] theorem v_mbind {α β : Type} (m : M α) (g : α → M β) (ρ : Slots) (S : Store) : M.bind m g ρ S = (m ρ S).bind fun a S' => g a ρ S' := id rfl
/-- a comprehension whose items change what lies ahead of its list -/
theorem comp_state {α : Type} {fi : MI} {t : Tm} {fe : M D} {vs : List Nat} {ρ : Slots} {S : Store} {a : Nat × ItF} (l : List α) (e : α → D) (Jv : List α → Store → List PyData → Prop) (src : fi ρ S = .ok a S) (wk : Walk a (l.map e)) (few : l.length ≤ sizeLine) (first : Jv [] S [])
    (h : ∀ done x rest', l = done ++ x :: rest' → ∀ B acc, B.length = S.length → Jv done B acc → ∃ ρ1 B' y, t (e x) (wipeD ρ vs) (B ++ [.lst acc]) = some ρ1 ∧ fe ρ1 (B ++ [.lst acc]) = .ok (.p y) (B' ++ [.lst acc]) ∧ B'.length = S.length ∧ Jv (done ++ [x]) B' (acc ++ [y])) :
    ∃ B acc, eComp false fi t tYesM fe vs ρ S = .ok (.p (.list acc)) B ∧ Jv l B acc := by
  have key : ∀ (left done : List α) (m : Nat) (B : Store) (acc : List PyData), l = done ++ left → m = left.length + 1 → B.length = S.length → acc.length = done.length → Jv done B acc →
      ∃ B' acc', compF t tYesM fe a.2 S.length (wipeD ρ vs) m done.length (B ++ [.lst acc]) = some (B' ++ [.lst acc']) ∧ B'.length = S.length ∧ Jv l B' acc' := by
    intro left
    induction left with
    | nil =>
      intro done m B acc e1 e2 e3 e4 jv
      subst e2
      rw [List.append_nil] at e1
      refine ⟨B, acc, ?_, e3, e1 ▸ jv⟩
      show compF t tYesM fe a.2 S.length (wipeD ρ vs) (0 + 1) done.length _ = _
      unfold compF
      rw [wk.at_ done.length _ (by rw [e1]; simp), List.getElem?_map, e1, List.getElem?_eq_none (Nat.le_refl _)]
      rfl
    | cons x left ih =>
      intro done m B acc e1 e2 e3 e4 jv
      subst e2
      obtain ⟨ρ1, B', y, h1, h2, h3, h4⟩ := h done x left e1 B acc e3 jv
      obtain ⟨B2, acc2, g1, g2, g3⟩ := ih (done ++ [x]) (left.length + 1) B' (acc ++ [y]) (by rw [e1]; simp) rfl h3 (by simp [e4]) h4
      refine ⟨B2, acc2, ?_, g2, g3⟩
      rw [← g1]
      show compF t tYesM fe a.2 S.length (wipeD ρ vs) ((left.length + 1) + 1) done.length _ = _
      rw [compF, wk.at_ done.length _ (by rw [e1]; simp), List.getElem?_map, e1, List.getElem?_append_right (Nat.le_refl _), Nat.sub_self]
      simp only [List.getElem?_cons_zero, Option.map_some, h1, v_yes, h2]
      have hn : (B' ++ [MO.lst acc])[S.length]? = some (.lst acc) := by rw [← h3, List.getElem?_append_right (Nat.le_refl _), Nat.sub_self]; rfl
      have cut : (B' ++ [MO.lst acc]).take (S.length + 1) = B' ++ [.lst acc] := List.take_of_length_le (by simp [h3])
      have hset : (B' ++ [MO.lst acc]).set S.length (.lst (acc ++ [y])) = B' ++ [.lst (acc ++ [y])] := by
        rw [← h3, List.set_append_right _ _ (Nat.le_refl _), Nat.sub_self]; rfl
      have hl : acc.length < sizeLine := by
        have := congrArg List.length e1
        simp at this
        omega
      simp only [hn, frz, if_pos hl, cut, hset, List.length_append, List.length_cons, List.length_nil]
  obtain ⟨B, acc, g1, g2, g3⟩ := key l [] (l.length + 1) S [] rfl rfl rfl rfl first
  refine ⟨B, acc, ?_, g3⟩
  show (fi ρ S).bind (fun a S => endC false S.length (compF t tYesM fe a.2 S.length (wipeD ρ vs) a.1 0 (S ++ [.lst []]))) = _
  rw [src, v_bind]
  have fu := wk.fuel
  rw [List.length_map] at fu
  have g1' : compF t tYesM fe a.2 S.length (wipeD ρ vs) (l.length + 1) 0 (S ++ [.lst []]) = some (B ++ [.lst acc]) := g1
  rw [fu, g1']
  simp only [endC, Bool.false_eq_true, if_false]
  rw [← g2, List.getElem?_append_right (Nat.le_refl _), Nat.sub_self]
  simp
end Fp

set_option Elab.async false
set_option linter.all false
set_option autoImplicit false
set_option maxRecDepth 100000
set_option maxHeartbeats 2300000
/-! Fp: any comprehension by its turn's body: list, dict, set alike. -/
namespace Fp
open PySem PySem.Spec L2 PyProof.Rows
/-- what a turn does behind its target's store: frame, the thing that is filled, what is to be reached -/
abbrev Bdy := Env → Addr → (Shared → Prop) → Shared → Prop
abbrev noE : Value → Shared → Prop := fun _ _ => False
/-- a turn's look at the iterator, its target, its body -/
def TurnOf (P : Program) (w : World) (A : Around) (tg : Expr) (it : Value) (env : Env) (D : Addr) (B : Bdy) (last nxt : Shared → Prop) (s : Shared) : Prop :=
  wpAny (model P w) A (pyNext it) (fun r s1 => match r with
    | none => last s1
    | some v => wpAny (model P w) A (letOwnedTupleGo tg it v) (fun _ s2 => wpAny (model P w) A (assign tg env v) (fun _ s3 => B env D nxt s3) noE s2) noE s1) noE s
/-- a comprehension's node: how it starts, how it goes on -/
structure Node (P : Program) (w : World) (A : Around) (node tg iter : Expr) (ifs : List Expr) (gs : List Comprehension) (B : Bdy) : Prop where
  clauses : clausesOf node = ⟨tg, iter, ifs, 0⟩ :: gs
  mono : ∀ (env : Env) (D : Addr) (F F' : Shared → Prop) (s : Shared), (∀ z, F z → F' z) → B env D F s → B env D F' s
  start : ∀ {R : Result → Shared → Prop} {s : Shared} {it acc : Value} {env : Env}, codeAny (model P w) A (.compLoop node 0 it acc env) R s →
    wpAny (model P w) A (pyIter it) (fun i' z => codeAny (model P w) A (.compLoop node 0 i' acc env) R z) (notedBy (model P w) A env fun x z => R (.error x) z) s → codeAny (model P w) A (.compStart node 0 it acc env) R s
  loop : ∀ {R : Result → Shared → Prop} {s : Shared} {it : Value} {D : Addr} {env : Env} (J : Nat → Shared → Prop), (∀ n z, J n z → TurnOf P w A tg it env D B (fun z => R (.ok .next) z) (fun z => ∃ m, m < n ∧ J m z) z) →
    ∀ n, J n s → codeAny (model P w) A (.compLoop node 0 it (.ref D) env) R s
/-- what a comprehension asks -/
def tGen (u0 : Addr → HO) (tb : Addr → L2.St → Hp → (Hp → Prop) → Prop) (wi : TI) (g : TG) (vs : List Nat) : TE := fun σ H Q => wi σ H fun J H1 => ∀ D, H1 D = none → ∃ W : Nat → Nat → Hp → Prop, (∃ m, W 0 m (upd H1 D (u0 D))) ∧ ∀ i m H, W i m H →
  (J.stop i H ∧ Q (.ref D) H) ∨ (J.go i H ∧ ∃ Nx : Hp → Prop, (∀ H', Nx H' → ∃ m', m' < m ∧ W (i + 1) m' H') ∧ ∀ x H', J.yld i H x H' → g x (wipe σ vs) H' fun σ2 H2 => wipe σ2 vs = wipe σ vs ∧ tb D σ2 H2 Nx)
theorem gen_core {X : Cx} {pins : List (Addr × Obj)} {s : Shared} {σ : L2.St} {H : Hp} {Q : VK} {node tg iter : Expr} {ifs : List Expr} {gs : List Comprehension} {scope : Scope} {own : List (Str × Nat)} {pos' : Pos} {wi : TI} {g : TG} {use : Option (Value → Sem Unit)} {Qf : Value → Shared → Prop}
    {new : Sem Value} {o0 : Obj} {u0 : Addr → HO} {tb : Addr → L2.St → Hp → (Hp → Prop) → Prop} {B : Bdy}
    (calm : X.calm = true) (hN : X.N.Nodup) (I : Inv X pins σ H s) (hi : PI X tg iter wi) (ok : BlkOk X.N X.env.scope scope own) (nd : Node X.prog X.w X.A node tg iter ifs gs B)
    (made : ∀ (Q : Value → Shared → Prop) (z : Shared), Q (.ref z.heap.objs.size) { z with heap := z.heap.push o0 } → wpAny (model X.prog X.w) X.A new Q X.xe z)
    (is0 : ∀ (h : Heap) (H : Hp), sysModules < h.objs.size → ObjOk X.prog X.w H (h.push o0) h.objs.size (u0 h.objs.size))
    (hg : ∀ (s : Shared) (H : Hp) (C : Addr) (cl : List (Str × Addr)) (fp : List Addr), PG (X.blk s H scope (compEnvC scope cl C X.env) fp) tg g)
    (hb : ∀ (s0 : Shared) (H0 : Hp) (C : Addr) (cl : List (Str × Addr)) (fp : List Addr) (D : Addr) (pins : List (Addr × Obj)) (s : Shared) (σ : L2.St) (H : Hp) (Nx : Hp → Prop), Inv (X.blk s0 H0 scope (compEnvC scope cl C X.env) fp) pins σ H s → tb D σ H Nx →
      B (compEnvC scope cl C X.env) D (fun z => ∃ H', Inv (X.blk s0 H0 scope (compEnvC scope cl C X.env) fp) pins σ H' z ∧ Nx H') s)
    (hs : ∀ x, foldedSetIterable iter X.env x = pure x) (h : tGen u0 tb wi g (own.map (·.2)) σ H Q)
    (post : ∀ D C z m H', Inv X pins σ H' z → Q (.ref D) H' → z.heap.Ns C m → FpOk X pins H' C → compPost (model X.prog X.w) X.A X.xe use Qf (.ref D) C (.ok .next) z) :
    wpAny (model X.prog X.w) X.A (comprehension node scope X.env pos' new false (eval iter X.env) use) Qf X.xe s := by
  have clo := closure_ok (scope := scope) (env := X.env) fun y hy e => (ok.free y hy e).elim (fun q => I.ok.has _ (.inl q)) fun q => I.ok.has _ (.inr q)
  have src := hi.run pins s σ H _ I h
  refine wpAny_comprehension_free (use := use) nd.clauses hs clo ok.kind (fun y hy e => (ok.uniq y hy).trans (by rw [e])) (thn src fun _ _ r1 => thn r1 fun _ s2 r2 => ?_)
  obtain ⟨it, fp, tn, J, H2, rfl, I2, T, t2, f2, q⟩ := r2
  refine made _ s2 (newEnv_comp ?_)
  have fresh : H2 s2.heap.objs.size = none := I2.hok.fresh (Nat.le_refl _)
  have old : ∀ b ∈ fp, b < s2.heap.objs.size := fun b hb => let ⟨_, e, _⟩ := T.obj _ _ t2 b hb; Heap.lt_size e
  obtain ⟨W, ⟨m0, w0⟩, turn⟩ := q _ fresh
  have I3 : Inv X pins σ (upd H2 s2.heap.objs.size (u0 s2.heap.objs.size)) { s2 with heap := s2.heap.push o0 } :=
    I2.laid (t' := s2.toks) (fun b o e => Heap.get?_push_of_some _ e) (Nat.le_refl _) (is0 _ _ I2.big)
  generalize hD : s2.heap.objs.size = D at *
  generalize hH : upd H2 D (u0 D) = H3 at *
  have f3 : ∀ b ∈ fp, FpOk X pins H3 b ∧ b < (s2.heap.push o0).objs.size := fun b hb => by
    have lt := old b hb
    refine ⟨⟨?_, (f2 b hb).2⟩, by rw [Heap.size_push, hD]; exact Nat.lt_succ_of_lt lt⟩
    rw [← hH, upd_ne (Nat.ne_of_lt lt)]; exact (f2 b hb).1
  have t3 : tn 0 (s2.heap.push o0) := T.keep _ _ _ t2 fun b _ o e => Heap.get?_push_of_some _ e
  have start := block_start I3 ok hN f3
  generalize hs3 : ({ s2 with heap := s2.heap.push o0 } : Shared) = s3 at *
  have e3 : s2.heap.push o0 = s3.heap := by rw [← hs3]
  rw [e3] at f3 t3
  have pg := hg s3 H3 s3.heap.objs.size (cellsFrom (s3.heap.objs.size + 1) scope.names (cloFrom X.env.cells scope.names [])) fp
  have pb := hb s3 H3 s3.heap.objs.size (cellsFrom (s3.heap.objs.size + 1) scope.names (cloFrom X.env.cells scope.names [])) fp D
  show codeAny _ _ (.compStart node 0 (.ref it) (.ref D) (compEnvC scope (cellsFrom (s3.heap.objs.size + 1) scope.names (cloFrom X.env.cells scope.names [])) s3.heap.objs.size X.env)) _ { s3 with heap := pushCells (s3.heap.push { cls := .type "dict", data := .dict #[] }) scope.names }
  generalize hce : compEnvC scope (cellsFrom (s3.heap.objs.size + 1) scope.names (cloFrom X.env.cells scope.names [])) s3.heap.objs.size X.env = ce at start pg pb ⊢
  have cl : ce.locals = s3.heap.objs.size := by rw [← hce]; rfl
  generalize hs4 : ({ s3 with heap := pushCells (s3.heap.push { cls := .type "dict", data := .dict #[] }) scope.names } : Shared) = s4 at start ⊢
  have t4 : tn 0 s4.heap := T.keep _ _ _ t3 fun b _ o e => by rw [← hs4]; exact pushCells_keeps _ _ _ _ (Heap.get?_push_of_some _ e)
  -- the iterator's objects, seen from the block
  have own_fp : ∀ {σ' : L2.St} {H' : Hp} {z : Shared}, Inv (X.blk s3 H3 scope ce fp) [] σ' H' z → (∀ b ∈ fp, H' b = none) → ∀ b ∈ fp, FpOk (X.blk s3 H3 scope ce fp) [] H' b := fun I' no b hb =>
    ⟨no b hb, (I'.ok.exf b hb).1, I'.ok.exfs b hb, .inl hb, fun x c e => (I'.ok.exf b hb).2 x c e, fun p hp => (by simp at hp)⟩
  have go : codeAny (model X.prog X.w) X.A (.compLoop node 0 (.ref it) (.ref D) ce) (compPost (model X.prog X.w) X.A X.xe use Qf (.ref D) s3.heap.objs.size) s4 := by
    refine nd.loop (fun n z => ∃ i H', Inv (X.blk s3 H3 scope ce fp) [] (wipe σ (own.map (·.2))) H' z ∧ tn i z.heap ∧ (∀ b ∈ fp, H' b = none) ∧ W i n H') ?_ m0 ⟨0, H3, start, t4, fun b hb => (f3 b hb).1.1, w0⟩
    rintro n z ⟨i, H5, I5, t5, n5, w5⟩
    rcases turn i n H5 w5 with ⟨stop, done⟩ | ⟨more, Nx, lower, step⟩
    · refine thnF (T.done (X.blk s3 H3 scope ce fp) rfl rfl rfl calm i [] z _ H5 noE I5 (own_fp I5 n5) t5 stop) ?_
      rintro r z6 ⟨rfl, I6⟩
      have gone : H5 s3.heap.objs.size = none := cl ▸ (show H5 ce.locals = none from I6.free)
      obtain ⟨m, ns, _⟩ := I6.loc
      exact post D _ z6 m H5 (I3.call' (ch := fp) I6.os I6.base I6.hok I6.bare fun b hb => let ⟨⟨_, a1, _, a2, a3, a4⟩, _⟩ := f3 b hb; ⟨a2, a1, a3, a4⟩) done (cl ▸ (show z6.heap.Ns ce.locals m from ns)) (I3.fpOk (Nat.le_refl _) gone)
    · refine thnF (T.item (X.blk s3 H3 scope ce fp) rfl rfl rfl calm i [] z _ H5 noE I5 (own_fp I5 n5) t5 more) ?_
      rintro r z6 ⟨u, rfl, r6⟩
      refine thnF r6 ?_
      rintro _ z7 ⟨x, H7, I7, r7, y7, t7, n7⟩
      have held := I7.pinned (own_fp I7 n7) (T.obj _ _ t7)
      refine thnF (pg.run _ z7 _ H7 x u _ held r7 (step x H7 y7)) ?_
      rintro _ z8 ⟨σ8, H8, I8, same, q8⟩
      refine nd.mono _ _ _ _ _ ?_ (pb _ z8 σ8 H8 Nx I8 q8)
      rintro z9 ⟨H9, I9, nx⟩
      obtain ⟨m', less, w9⟩ := lower H9 nx
      have kept : ∀ b ∈ fp, ∀ o, z7.heap.get? b = some o → z9.heap.get? b = some o ∧ H9 b = none := fun b hb o e =>
        have p := I9.pin (b, o) (List.mem_append_right _ (List.mem_append_right _ (mem_pinsAt hb e)))
        ⟨p.1, p.2.1⟩
      refine ⟨m', less, i + 1, H9, (I9.unpinned (pins := [])).weak ?_ ?_, T.keep _ _ _ t7 fun b hb o e => (kept b hb o e).1, fun b hb => ?_, w9⟩
      · rw [← same, wipe_length]
      · intro j v e
        rw [← same] at e
        exact (wipe_some e).1
      · obtain ⟨o, e, _⟩ := T.obj _ _ t7 b hb
        exact (kept b hb o e).2
  exact nd.start go (T.self X.A 0 _ _ _ t4 go)
end Fp

set_option Elab.async false
set_option linter.all false
set_option autoImplicit false
set_option maxRecDepth 100000
set_option maxHeartbeats 2300000
/-! Fp: dict comprehensions, keys texts, numbers, tuples. -/
namespace Fp
open PySem PySem.Spec L2 PyProof.Rows
/-- the tests of a clause -/
abbrev Tests (P : Program) (w : World) (A : Around) (ifs : List Expr) (env : Env) (Q : Bool → Shared → Prop) (s : Shared) : Prop :=
  wpAny (model P w) A (forIn ifs true fun c r => if r = true then do let ok ← isTrue c env (eval c env); pure (ForInStep.yield ok) else pure (ForInStep.yield r)) Q noE s
def dcB (P : Program) (w : World) (A : Around) (ifs : List Expr) (kx vx : Expr) : Bdy := fun env D F s => Tests P w A ifs env (fun ok s1 => if ok = true then
  wpAny (model P w) A (eval kx env) (fun a s2 => wpAny (model P w) A (eval vx env) (fun b s3 => wpAny (model P w) A (dictSet D a b) (fun _ z => F z) noE s3) noE s2) noE s1 else F s1) s
theorem dc_node {P : Program} {w : World} {A : Around} {kx vx tg iter : Expr} {ifs : List Expr} {scope : Scope} {pos : Pos} : Node P w A (.DictComp kx vx [⟨tg, iter, ifs, 0⟩] scope pos) tg iter ifs [] (dcB P w A ifs kx vx) where
  clauses := rfl
  mono := fun env D F F' s up h => thnF h fun ok s1 h1 => by
    cases ok with
    | false => exact up _ h1
    | true => exact thnF (show wpAny (model P w) A (eval kx env) _ noE s1 from h1) fun a s2 h2 => thnF h2 fun b s3 h3 => thnF h3 fun _ z => up z
  start := fun h0 h => codeAny_compStart_dict h0 h
  loop := by
    intro R s it D env J turn n j
    refine compLoop_anyD J ?_ n j
    intro n z hz
    refine thnF (turn n z hz) fun r s1 h1 => ?_
    cases r with
    | none => exact h1
    | some v =>
      refine thnF h1 fun _ s2 h2 => thnF h2 fun _ s3 h3 => thnF h3 fun ok s4 h4 => ?_
      cases ok with
      | false => exact h4
      | true => exact thnF (show wpAny (model P w) A (eval kx env) _ noE s4 from h4) fun a s5 h5 => thnF h5 fun b s6 h6 => thnF h6 fun _ _ q => q
section
variable {Γ : Gam} {k : Nat} {W : WX} {μ μ' ν : List Addr} {S S' : Store} {H H' : Hp} {σ : L2.St} {ρ : Slots} {X : Cx} {pins : List (Addr × Obj)} {s : Shared}
/-- a comprehension's d[x] = e -/
def gDs (n : Nat) (x e : PyData) (S : Store) : Option Store := match S[n]? with
  | some (.dic kvs) => if keyOk kvs x = true ∧ kvs.length < sizeLine then some (S.set n (.dic (dset kvs x e))) else none
  | _ => none
def rDs (Γ : Gam) (D : Addr) (y z : V) (H : Hp) (Nx : Hp → Prop) : Prop := ∃ μ S n x e S', Sto Γ μ S H ∧ μ[n]? = some D ∧ Rp Γ H μ y x ∧ Rp Γ H μ z e ∧ gDs n x e S = some S' ∧ ∀ H', Go μ H μ H' → Sto Γ μ S' H' → Nx H'
theorem dset_ok (G : Gx Γ k X) (I : Inv X pins σ H s) {D : Addr} {y z : V} {u r : Value} {Nx : Hp → Prop} (ry : RelV y u) (rz : RelV z r) (h : rDs Γ D y z H Nx) : wpAny (model X.prog X.w) X.A (dictSet D u r) (fun _ s' => ∃ H', Inv X pins σ H' s' ∧ Nx H') noE s := by
  obtain ⟨μ, S, n, x, ev, S', st, hat, hx, hv, e, q⟩ := h
  obtain ⟨mo, e1, m⟩ := st.ix hat
  have hmem : D ∈ μ := List.mem_of_getElem? hat
  have un := G.room.un
  have r8 : X.A.units + 8 < cLine := by have := room8 G.room; have e : X.A.in1.units = X.A.units + 1 := rfl; omega
  unfold gDs at e
  rw [e1] at e
  cases mo with
  | lst _ => cases e
  | dic kvs =>
  simp only at e
  split at e
  · rename_i hk
    cases e
    obtain ⟨hk, hlt⟩ := hk
    rcases dic_cases m hk with ⟨kvs', ds, es, q', h1, h2, h3, h4, h5⟩ | ⟨xs, ds, es, vs, nn, h1, h2, h3, h4, h5, h6, h7, h8, h9, h10, h11, h12, h13⟩ | ⟨h1, h2, h3, nn, h4, h5⟩ | ⟨q', h1, h2, h3, h4⟩
    · -- texts and numbers
      have few : kvs'.length < sizeLine := by
        have a2 := h2.length
        have a3 := h3.length
        rw [List.length_map] at a2 a3
        rw [h4, zip_len (by omega)] at hlt
        omega
      obtain ⟨ds', es', g1, g2, g3⟩ := put_K h2 h3 h5 (pkey_rp hx h5 ▸ hx) hv
      have g := Go.write μ (H := H) hmem (.dK (putK kvs' q' z))
      refine d_dictSet I h1 few (pkey_rp hx h5 ▸ ry) rz fun s' I' => ⟨_, I', q _ g (st.write hat ?_)⟩
      exact ⟨_, _, none, ds', es', ⟨_, upd_same, rfl, rfl⟩, g1.go g, g2.go g, h4 ▸ g3, fun ns z => by cases z⟩
    · -- tuples
      obtain ⟨b, rfl⟩ := hx.tupRef h11
      cases ry
      have key : (nestedKind X.prog X.w).is s.heap nn b := ⟨hx.nested G I h12 rfl, h13⟩
      obtain ⟨ds', es', vs', g1, g2, g3, g4, g5⟩ := put_T h2 h5 h3 h4 h12 hx rz hv
      have few : xs.length < sizeLine := by
        have a2 := h2.length
        have a3 := h4.length
        have a4 := h3.length
        rw [List.length_map] at a2 a4
        rw [h10, zip_len (by omega)] at hlt
        omega
      have g := Go.write μ (H := H) hmem (dicT Γ.P Γ.w D (storedH xs nn b r))
      refine wpAny_dictSet_heap (hsz := h9) r8 key (dicT_at G I h1 h2 h5 h6 h7) fun h' dd sb => ?_
      obtain ⟨ob, es2, ep, k1, k2, k3, k4, _, k5⟩ := dd
      have slen := storedH_len (xs := xs) (n := nn) (b := b) (u := r)
      refine ⟨upd H D (dicT Γ.P Γ.w D (storedH xs nn b r)), d_write I (by rw [h1]; exact True.intro) sb ⟨ob, k1⟩ ⟨⟨ob, es2, ep, k1, k2, k3, by rw [← G.P, ← G.w]; exact k4⟩, ⟨ob, k1⟩, fun ha hb hc hd => ?_⟩, q _ g (st.write hat ?_)⟩
      · obtain ⟨o2, es3, ep3, j1, j2⟩ := hc
        exact ⟨o2, es3, ep3, hd _ j1, j2⟩
      · exact ⟨_, vs', some _, ds', es', ⟨_, upd_same, rfl, rfl, g3, h8, by omega, k5, storedH_depth h7 h13, storedH_ne⟩, g1.go g, g4.go g, h10 ▸ g5, fun ns z => by cases z; exact g2⟩
    · -- the first tuple
      obtain ⟨b, rfl⟩ := hx.tupRef h3
      cases ry
      have key : (nestedKind X.prog X.w).is s.heap nn b := ⟨hx.nested G I h4 rfl, h5⟩
      obtain ⟨zz, hd, ws, rel, dd⟩ := dk_of I.hok h1
      cases rel
      obtain ⟨o, es, ep, g1, g2, g3, g4, g5, g6⟩ := dd
      have dd : s.heap.DictOfH (nestedKind X.prog X.w) D [] := ⟨o, es, ep, g1, g2, g3, (by rw [pairs_nil g5]; rfl), by simp, by simp⟩
      have g := Go.write μ (H := H) hmem (dicT Γ.P Γ.w D [(nn, b, r)])
      refine wpAny_dictSet_heap (hsz := Nat.zero_le _) r8 key dd fun h' dd' sb => ?_
      obtain ⟨ob, es2, ep, k1, k2, k3, k4, _, k5⟩ := dd'
      rw [show storedH [] nn b r = [(nn, b, r)] from rfl] at k4 k5
      refine ⟨upd H D (dicT Γ.P Γ.w D [(nn, b, r)]), d_write I (by rw [h1]; exact True.intro) sb ⟨ob, k1⟩ ⟨⟨ob, es2, ep, k1, k2, k3, by rw [← G.P, ← G.w]; exact k4⟩, ⟨ob, k1⟩, fun ha hb hc hd => ?_⟩, q _ g (st.write hat ?_)⟩
      · obtain ⟨o2, es3, ep3, j1, j2⟩ := hc
        exact ⟨o2, es3, ep3, hd _ j1, j2⟩
      · refine ⟨_, [z], some _, [x], [ev], ⟨_, upd_same, rfl, rfl, .cons rz .nil, hd, by show 1 ≤ sizeLine; decide, k5, fun y hy => ?_, by simp⟩, (RpAll.cons hx .nil).go g, (RpAll.cons hv .nil).go g, by rw [h2]; rfl, fun ns z => by cases z; simp [nkeys, h4]⟩
        rw [List.mem_singleton.mp hy]; exact h5
    · -- the first text behind tuples
      have same := pkey_rp hx h3
      subst same
      obtain ⟨⟨o, es, ep, g1, g2, g3, g4⟩, _⟩ := I.hok D _ h1
      obtain rfl : es = #[] := by simpa using g4
      have dd : s.heap.DictOf (mixKind X.prog X.w) D [] := ⟨o, #[], ep, g1, g2, g3, by intro e he; simp at he, .nil, by simp⟩
      have g := Go.write μ (H := H) hmem (.dK [(q', z)])
      refine wpAny_dictSet_pairs (hsz := Nat.zero_le _) (kV_is ry) dd fun h' dd' sb => ?_
      have rel : KV [(q', z)] (stored [] q' r) := .cons ⟨rfl, rz⟩ .nil
      refine ⟨upd H D (.dK [(q', z)]), d_write I (by rw [h1]; exact True.intro) sb (let ⟨q, _, _, hq, _⟩ := dd'; ⟨q, hq⟩) (dk_new (by show 1 ≤ sizeLine; decide) h4 rel dd'), q _ g (st.write hat ?_)⟩
      exact ⟨_, _, none, [x], [ev], ⟨_, upd_same, rfl, rfl⟩, (RpAll.cons hx .nil).go g, (RpAll.cons hv .nil).go g, by rw [h2]; rfl, fun ns z => by cases z⟩
  · cases e
/-- {k: v for ..} -/
def dcF (t : Tm) (c : M Bool) (fk fv : M D) (it : ItF) (n : Nat) (ρ : Slots) : Nat → Nat → Store → Option Store
  | 0, _, _ => none
  | m + 1, i, S => match it i S with
    | none => none
    | some none => some S
    | some (some d) => match t d ρ S with
      | none => none
      | some ρ1 => match c ρ1 S with
        | .ok false S1 => dcF t c fk fv it n ρ m (i + 1) (S1.take (n + 1))
        | .ok true S1 => match (fk.bind fun a => fv.bind fun b => fun _ S => Out.of S ((frz (n + 1) S a).bind fun x => (frz (n + 1) S b).bind fun e => gDs n x e (S.take (n + 1)))) ρ1 S1 with
          | .ok S2 _ => dcF t c fk fv it n ρ m (i + 1) S2
          | _ => none
        | _ => none
def endDC (th : Bool) (n : Nat) (o : Option Store) : Out D := match o with
  | none => .bad
  | some S => if th then .ok (.loc n) S else match S[n]? with
    | some (.dic kvs) => .ok (.p (.dict kvs)) (S.take n)
    | _ => .bad
def eDComp (th : Bool) (fi : MI) (t : Tm) (c : M Bool) (fk fv : M D) (vs : List Nat) : M D := fi.bind fun a => fun ρ S => endDC th S.length (dcF t c fk fv a.2 S.length (wipeD ρ vs) a.1 0 (S ++ [.dic []]))
/-- the turn's body as the hand layer has it -/
def tbD (Γ : Gam) (tt : TT) (tk tv : TE) : Addr → L2.St → Hp → (Hp → Prop) → Prop := fun D σ H Nx => tt σ H fun b H1 => if b = true then tk σ H1 fun y H2 => tv σ H2 fun z H3 => rDs Γ D y z H3 Nx else Nx H1
theorem isDic (st : Sto Γ μ S H) {n : Nat} {D : Addr} {o : MO} (hat : μ[n]? = some D) (e : S[n]? = some o) : MoOk Γ H μ D o := st.at_ _ _ _ hat e
theorem dcomp_of {th : Bool} {fi : MI} {t : Tm} {c : M Bool} {fk fv : M D} {vs is : List Nat} {Q : VK} (hv : ∀ i ∈ is, i ∈ vs) (q : rdE Γ W (eDComp th fi t c fk fv vs) σ H Q) : tGen (fun _ => .dK []) (tbD Γ (rdT Γ wNo c) (rdE Γ wNo fk) (rdE Γ wNo fv)) (rdI Γ W fi) (rdGi Γ is t) vs σ H Q := by
  refine rd.cut q fun μ ρ H1 S1 a J R1 ok f1 => ?_
  intro L hL
  have hn : μ.length = S1.length := R1.sto.len
  have hat : (μ ++ [L])[S1.length]? = some L := by rw [← hn, List.getElem?_append_right (Nat.le_refl _), Nat.sub_self]; rfl
  have hn1 : (μ ++ [L]).length = S1.length + 1 := by rw [List.length_append, hn]; rfl
  have mo0 : MoOk Γ (upd H1 L (.dK [])) (μ ++ [L]) L (.dic []) := ⟨[], [], none, [], [], ⟨[], upd_same, rfl, rfl⟩, .nil, .nil, rfl, fun ns z => by cases z⟩
  have ga := Go.alloc μ hL (.dK [])
  cases eC : dcF t c fk fv a.2 S1.length (wipeD ρ vs) a.1 0 (S1 ++ [.dic []]) with
  | none => rw [eC] at f1; exact f1.elim
  | some S' =>
    rw [eC] at f1
    refine ⟨fun i m H => ∃ S, Sto Γ (μ ++ [L]) S H ∧ Go μ H1 (μ ++ [L]) H ∧ dcF t c fk fv a.2 S1.length (wipeD ρ vs) m i S = some S', ⟨a.1, _, R1.sto.alloc hL mo0, ga, eC⟩, ?_⟩
    rintro i m H ⟨S, st, g, e⟩
    cases m with
    | zero => cases e
    | succ m =>
      have ok := ok _ H S i g st
      have R : Rel Γ (μ ++ [L]) (wipeD ρ vs) S (L2.wipe σ vs) H := (R1.go g st).wipe
      unfold dcF at e
      cases e1 : a.2 i S with
      | none => rw [e1] at e; cases e
      | some o =>
        rw [e1] at e ok
        cases o with
        | none =>
          cases e
          refine .inl ⟨ok, ?_⟩
          unfold endDC at f1
          cases th with
          | true => exact f1 _ H _ g st (.loc hat)
          | false =>
            simp only [Bool.false_eq_true, if_false] at f1
            obtain ⟨o, e2, mo⟩ := st.ix hat
            rw [e2] at f1
            cases o with
            | lst _ => exact f1.elim
            | dic kvs =>
              obtain ⟨ks, ws, nk, ds, es, q1, r1, r2, r3, r4⟩ := mo
              have low : ∀ b, b ∈ μ → b ∈ μ ++ [L] := fun b hb => List.mem_append_left _ hb
              have out : L ∉ μ := fun z => (List.nodup_append.mp st.nd).2.2 L z L (by simp) rfl
              exact f1 μ H _ g.cut (st.cut hn) (.p (.dic q1 out (r1.less low) (r2.less low) r3 r4))
        | some d =>
          refine .inr ⟨ok.1, fun H => ∃ S, Sto Γ (μ ++ [L]) S H ∧ Go μ H1 (μ ++ [L]) H ∧ dcF t c fk fv a.2 S1.length (wipeD ρ vs) m (i + 1) S = some S', fun H' z => ⟨m, Nat.lt_succ_self m, z⟩, fun x H' y => ?_⟩
          obtain ⟨g2, s2, r2⟩ := ok.2 x H' y
          simp only at e
          cases e2 : t d (wipeD ρ vs) S with
          | none => rw [e2] at e; cases e
          | some ρ1 =>
            rw [e2] at e
            simp only at e
            refine ⟨μ ++ [L], wipeD ρ vs, S, d, ρ1, R.go g2 s2, r2, e2, fun σ2 R2 k2 => ⟨wipe_eq (k2.1.trans (wipe_length _ _)) fun j hj => k2.2 j fun z => hj (hv j z), μ ++ [L], ρ1, S, R2, ?_⟩⟩
            cases e3 : c ρ1 S with
            | bad => rw [e3] at e; cases e
            | exc _ _ => rw [e3] at e; cases e
            | ok b S3 =>
              rw [e3] at e
              intro μ3 H3 b' g3 s3 eb
              obtain rfl : b' = b := eb
              have gg := (g.trans g2).trans g3
              cases b' with
              | false =>
                rw [if_neg (by decide)]
                obtain ⟨ν3, rfl, _⟩ := g3.pre
                exact ⟨_, s3.cut hn1, ⟨g.pre, gg.keep, gg.there⟩, e⟩
              | true =>
                simp only [if_true]
                simp only at e
                refine ⟨μ3, ρ1, S3, R2.go g3 s3, ?_⟩
                cases e4 : fk ρ1 S3 with
                | bad => simp only [M.bind, e4, Out.bind] at e; cases e
                | exc _ _ => simp only [M.bind, e4, Out.bind] at e; cases e
                | ok d4 S4 =>
                  intro μ4 H4 y4 g4 s4 r4
                  refine ⟨μ4, ρ1, S4, (R2.go g3 s3).go g4 s4, ?_⟩
                  cases e5 : fv ρ1 S4 with
                  | bad => simp only [M.bind, e4, e5, Out.bind] at e; cases e
                  | exc _ _ => simp only [M.bind, e4, e5, Out.bind] at e; cases e
                  | ok d5 S5 =>
                    intro μ5 H5 y5 g5 s5 r5
                    simp only [M.bind, e4, e5, Out.bind] at e
                    have g35 := (g3.trans g4).trans g5
                    have gg := (gg.trans g4).trans g5
                    obtain ⟨ν5, rfl, _⟩ := g35.pre
                    cases e6 : frz (S1.length + 1) S5 d4 with
                    | none => simp only [e6, Option.bind_none, Out.of] at e; cases e
                    | some x6 =>
                      cases e7 : frz (S1.length + 1) S5 d5 with
                      | none => simp only [e6, e7, Option.bind_none, Option.bind_some, Out.of] at e; cases e
                      | some x7 =>
                        cases e8 : gDs S1.length x6 x7 (S5.take (S1.length + 1)) with
                        | none => simp only [e6, e7, e8, Option.bind_some, Out.of] at e; cases e
                        | some S6 =>
                          simp only [e6, e7, e8, Option.bind_some, Out.of] at e
                          have g0 : Go μ H1 (μ ++ [L]) H5 := ⟨g.pre, gg.keep, gg.there⟩
                          exact ⟨μ ++ [L], S5.take (S1.length + 1), S1.length, x6, x7, S6, s5.cut hn1, hat, (r4.go g5).frz s5 hn1 e6, r5.frz s5 hn1 e7, e8, fun H6 g6 s6 => ⟨S6, s6, g0.trans g6, e⟩⟩
theorem e_dcomp {th : Bool} {kx vx tg iter : Expr} {ifs : List Expr} {scope : Scope} {own : List (Str × Nat)} {pos : Pos} {fi : MI} {t : Tm} {c : M Bool} {fk fv : M D} {is : List Nat} (G : Gx Γ k X) (hi : PI X tg iter (rdI Γ W fi)) (ok : BlkOk X.N X.env.scope scope own) (hv : ∀ i ∈ is, i ∈ own.map (·.2))
    (hg : ∀ (s : Shared) (H : Hp) (C : Addr) (cl : List (Str × Addr)) (fp : List Addr), PG (X.blk s H scope (compEnvC scope cl C X.env) fp) tg (rdGi Γ is t)) (ht : ∀ (s : Shared) (H : Hp) (C : Addr) (cl : List (Str × Addr)) (fp : List Addr), PTs (X.blk s H scope (compEnvC scope cl C X.env) fp) ifs (rdT Γ wNo c))
    (hk : ∀ (s : Shared) (H : Hp) (C : Addr) (cl : List (Str × Addr)) (fp : List Addr), PE (X.blk s H scope (compEnvC scope cl C X.env) fp) kx (rdE Γ wNo fk)) (he : ∀ (s : Shared) (H : Hp) (C : Addr) (cl : List (Str × Addr)) (fp : List Addr), PE (X.blk s H scope (compEnvC scope cl C X.env) fp) vx (rdE Γ wNo fv)) (hs : ∀ x, foldedSetIterable iter X.env x = pure x) :
    PE X (.DictComp kx vx [⟨tg, iter, ifs, 0⟩] scope pos) (rdE Γ W (eDComp th fi t c fk fv (own.map (·.2)))) := by
  constructor
  intro pins s σ H Q I h
  rw [arm_eval_DictComp]
  refine gen_core (Q := Q) (o0 := { cls := .type "dict", data := .dict #[] }) G.calm G.nd I hi ok dc_node (fun Q z q => wpAny_newObj_type q) (fun h H big => dk_empty h big) hg ?_ hs (dcomp_of hv h) ?_
  · intro s0 H0 C cl fp D pins s σ H Nx I q
    refine thnF ((ht s0 H0 C cl fp).run _ s σ H _ I q) ?_
    rintro b s1 ⟨H1, I1, q1⟩
    cases b with
    | false => exact ⟨H1, I1, q1⟩
    | true =>
      refine thnF ((hk s0 H0 C cl fp).run _ s1 σ H1 _ I1 q1) ?_
      rintro a s2 ⟨y, H2, I2, r2, q2⟩
      refine thnF ((he s0 H0 C cl fp).run _ s2 σ H2 _ I2 q2) ?_
      rintro b s3 ⟨z, H3, I3, r3, q3⟩
      exact dset_ok G.blk I3 r2 r3 q3
  · intro D C z m H' I' q ns f
    refine ⟨m, ns, fun h2 sb => ?_⟩
    obtain ⟨f0, f1, _, f3, f4, f5⟩ := f
    exact ⟨.ref D, H', I'.turned (t' := z.toks) (fun b o hb e => (sb.2 b hb).trans e) f0 f1 f3 f4 f5, rfl, q⟩
end
end Fp

set_option Elab.async false
set_option linter.all false
set_option autoImplicit false
set_option maxRecDepth 100000
set_option maxHeartbeats 2300000
/-! Fp: set comprehensions of tuples, sorted({..}). -/
namespace Fp
open PySem PySem.Spec L2 PyProof.Rows
def scB (P : Program) (w : World) (A : Around) (ifs : List Expr) (elt : Expr) : Bdy := fun env D F s => Tests P w A ifs env (fun ok s1 => if ok = true then
  wpAny (model P w) A (eval elt env) (fun a s2 => wpAny (model P w) A (call (.builtin "set.add") [.ref D, a]) (fun _ z => F z) noE s2) noE s1 else F s1) s
theorem sc_node {P : Program} {w : World} {A : Around} {elt tg iter : Expr} {ifs : List Expr} {scope : Scope} {pos : Pos} : Node P w A (.SetComp elt [⟨tg, iter, ifs, 0⟩] scope pos) tg iter ifs [] (scB P w A ifs elt) where
  clauses := rfl
  mono := fun env D F F' s up h => thnF h fun ok s1 h1 => by
    cases ok with
    | false => exact up _ h1
    | true => exact thnF (show wpAny (model P w) A (eval elt env) _ noE s1 from h1) fun a s2 h2 => thnF h2 fun _ z => up z
  start := fun h0 h => PpSet.codeAny_compStart_set h0 h
  loop := by
    intro R s it D env J turn n j
    refine PpSet.compLoopS_any J ?_ n j
    intro n z hz
    refine thnF (turn n z hz) fun r s1 h1 => ?_
    cases r with
    | none => exact h1
    | some v =>
      refine thnF h1 fun _ s2 h2 => thnF h2 fun _ s3 h3 => thnF h3 fun ok s4 h4 => ?_
      cases ok with
      | false => exact h4
      | true => exact thnF (show wpAny (model P w) A (eval elt env) _ noE s4 from h4) fun a s5 h5 => thnF h5 fun _ _ q => q
section
variable {Γ : Gam} {k : Nat} {W : WX} {μ μ' ν : List Addr} {S S' : Store} {H H' : Hp} {σ : L2.St} {ρ : Slots} {X : Cx} {pins : List (Addr × Obj)} {s : Shared}
/-! ### a write at a set leaves data as it is -/
/-- an object that no data has -/
structure Alone (Γ : Gam) (H : Hp) (D : Addr) : Prop where
  l : ∀ vs, H D ≠ some (.lst vs)
  t : ∀ vs, ¬ Rd H D (.tup vs)
  k : ∀ kvs, H D ≠ some (.dK kvs)
  x : ∀ xs, H D ≠ some (dicT Γ.P Γ.w D xs)
theorem Rd.off {D a : Addr} {o u : HO} (ne : a ≠ D) (h : Rd H a u) : Rd (upd H D o) a u := h.elim (fun z => .inl (by rw [upd_ne ne]; exact z)) fun ⟨q, z⟩ => .inr ⟨q, by rw [upd_ne ne]; exact z⟩
theorem Alone.dic {D a : Addr} {o : HO} (A : Alone Γ H D) {ks vs : List V} {nk : Option (List NestedKey)} (h : DicAt Γ H a ks vs nk) : DicAt Γ (upd H D o) a ks vs nk := by
  cases nk with
  | none =>
    obtain ⟨kvs, e, r⟩ := h
    exact ⟨kvs, by rw [upd_ne fun z => A.k _ (z ▸ e)]; exact e, r⟩
  | some ns =>
    obtain ⟨xs, e, r⟩ := h
    exact ⟨xs, by rw [upd_ne fun z => A.x xs (by subst z; exact e)]; exact e, r⟩
mutual
theorem Rp.off {D : Addr} {o : HO} (A : Alone Γ H D) : ∀ {v : V} {d : PyData}, Rp Γ H μ v d → Rp Γ (upd H D o) μ v d
  | _, _, .non => .non
  | _, _, .bl b => .bl b
  | _, _, .int i => .int i
  | _, _, .str x => .str x
  | _, _, .lst h n r => .lst (by rw [upd_ne fun z => A.l _ (z ▸ h)]; exact h) n (RpAll.off A r)
  | _, _, .tup h r => .tup (h.elim (fun ⟨⟨q, e, w⟩, n⟩ => .inl ⟨⟨q, by rw [upd_ne fun z => A.t _ (Or.inr ⟨q, by rw [← z]; exact e⟩)]; exact e, w⟩, n⟩) .inr) (RpAll.off A r)
  | _, _, .dic h n r1 r2 e q => .dic (A.dic h) n (RpAll.off A r1) (RpAll.off A r2) e q
theorem RpAll.off {D : Addr} {o : HO} (A : Alone Γ H D) : ∀ {vs : List V} {ds : List PyData}, RpAll Γ H μ vs ds → RpAll Γ (upd H D o) μ vs ds
  | _, _, .nil => .nil
  | _, _, .cons h r => .cons (Rp.off A h) (RpAll.off A r)
end
theorem Sto.off {D : Addr} {o : HO} (A : Alone Γ H D) (st : Sto Γ μ S H) (out : D ∉ μ) : Sto Γ μ S (upd H D o) := by
  refine ⟨st.len, st.nd, fun i a m h1 h2 => ?_⟩
  have ne : a ≠ D := fun z => out (z ▸ List.mem_of_getElem? h1)
  have mo := st.at_ i a m h1 h2
  cases m with
  | lst xs => obtain ⟨vs, e, r⟩ := mo; exact ⟨vs, by rw [upd_ne ne]; exact e, r.off A⟩
  | dic kvs => obtain ⟨ks, vs, nk, ds, es, q, r1, r2, r3⟩ := mo; exact ⟨ks, vs, nk, ds, es, A.dic q, r1.off A, r2.off A, r3⟩
theorem set_alone (I : Inv X pins σ H s) {D : Addr} {w : World} {L : List AK} (h : H D = some (setH w D L)) : Alone Γ H D := by
  refine ⟨fun vs e => ?_, fun vs e => ?_, fun kvs e => ?_, fun xs e => ?_⟩
  · rw [h] at e; cases e
  · rcases e with e | ⟨q, e⟩ <;> (rw [h] at e; cases e)
  · rw [h] at e; cases e
  · rw [h] at e
    have same : (fun z : Heap => NSet0 w z D L) = fun z => ∃ o es ep, z.get? D = some o ∧ o.ExactDict ∧ o.data = .dict es ep ∧ es.toList = xs.map (entryOfKey (nestedKind Γ.P Γ.w)) := by injection e with e; injection e
    have n0 : NSet0 w s.heap D L := (I.hok D _ h).1
    have d0 := n0
    rw [congrFun same s.heap] at d0
    obtain ⟨o, es, ep, h1, _, h3, _⟩ := d0
    obtain ⟨es', ep', t', ⟨o', g1, _, g3⟩, _⟩ := n0.is
    cases h1.symm.trans g1
    rw [h3] at g3; cases g3
/-! ### set.add -/
theorem pairs_eq {α β : Type} : ∀ {l m : List (α × β)}, l.map Prod.fst = m.map Prod.fst → l.map Prod.snd = m.map Prod.snd → l = m
  | [], [], _, _ => rfl
  | [], _ :: _, e, _ => by simp at e
  | _ :: _, [], e, _ => by simp at e
  | x :: l, y :: m, h1, h2 => by
    have k1 := List.cons.inj h1
    have k2 := List.cons.inj h2
    rw [pairs_eq k1.2 k2.2, Prod.ext k1.1 k2.1]
theorem kin_of (G : Gx Γ k X) (I : Inv X pins σ H s) {L : List AK} {ds : List PyData} (r : RpAll Γ H μ (L.map fun e => V.ref e.1) ds) (nk : nkeys ds = some (L.map Prod.snd)) (kd : ∀ d ∈ ds, keyT d = true) : ∀ e ∈ L, KeyIn s.heap e := by
  have vL : ∀ L : List AK, Vals (L.map fun e => V.ref e.1) (L.map fun e => Value.ref e.1) := fun L => by
    induction L with
    | nil => exact .nil
    | cons e L ih => exact .cons rfl ih
  obtain ⟨ks, k1, _, k3, k4⟩ := keys_at G I r (vL L) kd
  have a1 : ks.map Prod.fst = L.map Prod.fst := by
    have := congrArg (List.map fun v => match v with | Value.ref a => a | _ => 0) k1
    rw [List.map_map, List.map_map] at this
    exact this.symm
  have a2 : ks.map Prod.snd = L.map Prod.snd := Option.some.inj (k3.symm.trans nk)
  have e1 : ks = L := pairs_eq a1 a2
  exact e1 ▸ k4
/-- what a set has: its keys, their data -/
structure Has (Γ : Gam) (H : Hp) (μ : List Addr) (D : Addr) (L : List AK) (ds acc : List PyData) : Prop where
  at_ : H D = some (setH Γ.w D L)
  rp : RpAll Γ H μ (L.map fun e => V.ref e.1) ds
  nk : nkeys ds = some (L.map Prod.snd)
  nd : ds.Nodup
  mem : ∀ d, d ∈ ds ↔ d ∈ acc
  kt : ∀ d ∈ acc, keyT d = true
  few : L.length ≤ acc.length
def rSa (Γ : Gam) (D : Addr) (y : V) (H : Hp) (Nx : Hp → Prop) : Prop := ∃ μ S L ds acc x, Sto Γ μ S H ∧ D ∉ μ ∧ Has Γ H μ D L ds acc ∧ Rp Γ H μ y x ∧ keyT x = true ∧ acc.length < 63 ∧
  ∀ H' L' ds', (∀ a, a ≠ D → H' a = H a) → Sto Γ μ S H' → Has Γ H' μ D L' ds' (acc ++ [x]) → Nx H'
theorem sadd_ok (G : Gx Γ k X) (I : Inv X pins σ H s) {D : Addr} {y : V} {u : Value} {Nx : Hp → Prop} (ry : RelV y u) (h : rSa Γ D y H Nx) : wpAny (model X.prog X.w) X.A (call (.builtin "set.add") [.ref D, u]) (fun _ z => ∃ H', Inv X pins σ H' z ∧ Nx H') noE s := by
  obtain ⟨μ, S, L, ds, acc, x, st, out, hs, hx, kx, few, q⟩ := h
  have al : Alone Γ H D := set_alone I hs.at_
  have n0 : NSet0 Γ.w s.heap D L := (I.hok D _ hs.at_).1
  obtain ⟨es, ep, t, N⟩ := n0.full (kin_of G I hs.rp hs.nk fun d hd => hs.kt d ((hs.mem d).mp hd))
  have kx' := kx
  simp only [keyT, Bool.and_eq_true, decide_eq_true_eq] at kx'
  obtain ⟨n, hn⟩ := Option.isSome_iff_exists.mp kx'.1.2
  obtain ⟨c, rfl⟩ := hx.tupRef kx'.1.1
  have hq := hx.nested G I hn ry
  cases ry
  have key : KeyIn s.heap (c, n) := ⟨hq, by rw [nkey_depth _ _ hn]; exact kx'.2⟩
  have un := G.room.un
  have ty : Shared.TypeIs s (.ref D) "set" := by
    obtain ⟨o, ho, hx, _⟩ := N.obj
    exact ⟨o, ho, hx.1⟩
  refine wpAny_call_entry F.slot_set_add ty F.entry_set_add ?_ (F.args_set_add_2 _ _)
  -- the built-in is the adding and None
  show wpAny (model X.prog X.w) X.A.in1 (setAdd D (Value.ref c) >>= fun _ => ret Value.none) _ _ s
  have room : X.A.in1.units + 8 < cLine := by show X.A.units + 1 + 8 < cLine; omega
  refine wpAny_bind ?_
  unfold setAdd
  refine wpAny_holding (wpAny_bind ((nestedKind X.prog X.w).pyHash (k := n) room key ?_))
  rw [← G.w] at N
  have lf := hs.few
  refine add (P := X.prog) (A := X.A.in1) (s := { s with toks := s.toks + (nestedKind X.prog X.w).draws n }) (e := (c, n)) N key (by show X.A.units + 1 + 8 < cLine; omega) (by omega) fun b h' L' es' ep' t' sb N' cs => ?_
  have fin : ∀ ds', RpAll Γ H μ (L'.map fun e => V.ref e.1) ds' → nkeys ds' = some (L'.map Prod.snd) → ds'.Nodup → (∀ d, d ∈ ds' ↔ d ∈ acc ++ [x]) → L'.length ≤ (acc ++ [x]).length → ∃ H', Inv X pins σ H' { s with heap := h', toks := s.toks + (nestedKind X.prog X.w).draws n } ∧ Nx H' := fun ds' a1 a2 a3 a4 a5 => by
    have he : ∃ o, h'.get? D = some o := let ⟨o, ho, _⟩ := N'.obj; ⟨o, ho⟩
    refine ⟨upd H D (setH X.w D L'), I.write (e := D) (t' := s.toks + (nestedKind X.prog X.w).draws n) (by rw [hs.at_]; exact True.intro) (.inl rfl) (fun b o hb e => (sb.2 b hb).trans e) he (setH_new N'), ?_⟩
    rw [G.w]
    refine q _ L' ds' (fun a ne => upd_ne ne) (st.off al out) ⟨upd_same, a1.off al, a2, a3, a4, fun d hd => ?_, a5⟩
    rcases List.mem_append.mp hd with z | z
    · exact hs.kt d z
    · rw [List.mem_singleton.mp z]; exact kx
  suffices told : ∃ H', Inv X pins σ H' { s with heap := h', toks := s.toks + (nestedKind X.prog X.w).draws n } ∧ Nx H' from wpAny_pure ⟨Value.none, rfl, told⟩
  have inL : n ∈ L.map Prod.snd ↔ x ∈ ds := by
    constructor
    · intro hm
      obtain ⟨i, hi, e⟩ := List.getElem_of_mem hm
      obtain ⟨d, h1, h2⟩ := nkeys_at hs.nk (i := i) (n := n) (by rw [List.getElem?_eq_getElem hi, e])
      rw [nkey_inj x d n hn h2]
      exact List.mem_of_getElem? h1
    · intro hm
      obtain ⟨i, hi, e⟩ := List.getElem_of_mem hm
      have e' : ds[i]? = some x := by rw [List.getElem?_eq_getElem hi, e]
      have len := hs.rp.length
      rw [List.length_map] at len
      have hi2 : i < (L.map Prod.snd).length := by rw [List.length_map]; omega
      obtain ⟨d, h1, h2⟩ := nkeys_at hs.nk (i := i) (n := (L.map Prod.snd)[i]) (by rw [List.getElem?_eq_getElem hi2])
      rw [e'] at h1
      cases h1
      rw [hn] at h2
      rw [Option.some.inj h2]
      exact List.getElem_mem hi2
  by_cases hm : n ∈ L.map Prod.snd
  · rw [if_pos (show (c, n).2 ∈ L.map Prod.snd from hm)] at cs
    subst cs
    refine fin ds hs.rp hs.nk hs.nd (fun d => ?_) (by simp; omega)
    rw [List.mem_append, List.mem_singleton, hs.mem d]
    exact ⟨.inl, fun z => z.elim id fun z => (hs.mem d).mp (z ▸ inL.mp hm)⟩
  · rw [if_neg (show ¬ (c, n).2 ∈ L.map Prod.snd from hm)] at cs
    obtain ⟨ds', b1, b2, b3⟩ := nkeys_perm cs (ds := x :: ds) (.cons hx hs.rp) (by rw [nkeys, hn, hs.nk]; rfl)
    refine fin ds' b1 b2 (b3.nodup_iff.mpr (List.nodup_cons.mpr ⟨fun z => hm (inL.mpr z), hs.nd⟩)) (fun d => ?_) (by have := cs.length_eq; simp at *; omega)
    rw [b3.mem_iff, List.mem_cons, List.mem_append, List.mem_singleton, hs.mem d]
    exact Or.comm
end
end Fp

set_option Elab.async false
set_option linter.all false
set_option autoImplicit false
set_option maxRecDepth 100000
set_option maxHeartbeats 2300000
namespace Fp
open PySem PySem.Spec L2 PyProof.Rows
section
variable {Γ : Gam} {k : Nat} {W : WX} {μ μ' ν : List Addr} {S S' : Store} {H H' : Hp} {σ : L2.St} {ρ : Slots} {X : Cx} {pins : List (Addr × Obj)} {s : Shared}
/-- {e for ..}: the items in the order of their making -/
def scF (t : Tm) (c : M Bool) (fe : M D) (it : ItF) (n : Nat) (ρ : Slots) : Nat → Nat → List PyData → Store → Option (List PyData × Store)
  | 0, _, _, _ => none
  | m + 1, i, acc, S => match it i S with
    | none => none
    | some none => some (acc, S)
    | some (some d) => match t d ρ S with
      | none => none
      | some ρ1 => match c ρ1 S with
        | .ok false S1 => scF t c fe it n ρ m (i + 1) acc (S1.take n)
        | .ok true S1 => match fe ρ1 S1 with
          | .ok d S2 => match frz n S2 d with
            | some y => if keyT y = true ∧ acc.length < 63 then scF t c fe it n ρ m (i + 1) (acc ++ [y]) (S2.take n) else none
            | none => none
          | _ => none
        | _ => none
def sComp {α : Type} (g : List PyData → Option α) (fi : MI) (t : Tm) (c : M Bool) (fe : M D) (vs : List Nat) : M α := fi.bind fun a => fun ρ S => match scF t c fe a.2 S.length (wipeD ρ vs) a.1 0 [] S with
  | some r => .of r.2 (g (dedupP r.1))
  | none => .bad
def tbS (Γ : Gam) (tt : TT) (te : TE) : Addr → L2.St → Hp → (Hp → Prop) → Prop := fun D σ H Nx => tt σ H fun b H1 => if b = true then te σ H1 fun y H2 => rSa Γ D y H2 Nx else Nx H1
/-- what a set's user is told -/
def SetFor (Γ : Gam) (zs : List PyData) (μ : List Addr) (S : Store) (D : Addr) (H : Hp) : Prop := ∃ L ds, Sto Γ μ S H ∧ D ∉ μ ∧ H D = some (setH Γ.w D L) ∧ RpAll Γ H μ (L.map fun e => V.ref e.1) ds ∧ nkeys ds = some (L.map Prod.snd) ∧ (∀ d ∈ ds, keyT d = true) ∧ ds.Perm zs
theorem has_perm {D : Addr} {L : List AK} {ds acc : List PyData} (h : Has Γ H μ D L ds acc) : ds.Perm (dedupP acc) := by
  have ka : ∀ d ∈ acc, (nkey d).isSome = true := fun d hd => keyT_key (h.kt d hd)
  refine (List.perm_ext_iff_of_nodup h.nd (dedup_nodup ka)).mpr fun d => ?_
  rw [h.mem d]
  exact ⟨dedup_all ka d, dedup_sub⟩
theorem scomp_of {α β : Type} {Ry : Hp → List Addr → β → α → Prop} {g : List PyData → Option α} {fi : MI} {t : Tm} {c : M Bool} {fe : M D} {vs is : List Nat} {Q : VK} {Q' : β → Hp → Prop} (hv : ∀ i ∈ is, i ∈ vs) (q : rd Γ W Ry (sComp g fi t c fe vs) σ H Q')
    (use : ∀ μ S D H zs a, SetFor Γ zs μ S D H → g zs = some a → Fin Γ W Ry μ σ H (.ok a S) Q' → Q (.ref D) H) :
    tGen (fun D => setH Γ.w D []) (tbS Γ (rdT Γ wNo c) (rdE Γ wNo fe)) (rdI Γ W fi) (rdGi Γ is t) vs σ H Q := by
  refine rd.cut q fun μ ρ H1 S1 a J R1 ok f1 => ?_
  intro L hL
  have hn : μ.length = S1.length := R1.sto.len
  have out : L ∉ μ := fun z => by
    obtain ⟨i, hi⟩ := List.getElem?_of_mem z
    obtain ⟨o, e1, m⟩ := R1.sto.ix hi
    cases o with
    | lst xs => obtain ⟨vs, e, _⟩ := m; rw [hL] at e; cases e
    | dic kvs => obtain ⟨ks, vs, nk, ds, es, q, _⟩ := m; obtain ⟨o, e⟩ := q.has; rw [hL] at e; cases e
  have ga : Go μ H1 μ (upd H1 L (setH Γ.w L [])) := Go.lay μ hL _
  have hs0 : Has Γ (upd H1 L (setH Γ.w L [])) μ L [] [] [] := ⟨upd_same, .nil, rfl, List.nodup_nil, fun d => Iff.rfl, (fun d hd => by cases hd), Nat.le_refl _⟩
  cases eC : scF t c fe a.2 S1.length (wipeD ρ vs) a.1 0 [] S1 with
  | none => simp only [eC] at f1; exact f1.elim
  | some r =>
    obtain ⟨zs, S'⟩ := r
    simp only [eC] at f1
    obtain ⟨x, ex, f1⟩ := f1.of
    refine ⟨fun i m H => ∃ S acc K ds, Sto Γ μ S H ∧ Go μ H1 μ H ∧ Has Γ H μ L K ds acc ∧ scF t c fe a.2 S1.length (wipeD ρ vs) m i acc S = some (zs, S'), ⟨a.1, _, [], [], [], R1.sto.lay hL _, ga, hs0, eC⟩, ?_⟩
    rintro i m H ⟨S, acc, K, ds, st, g, hs, e⟩
    cases m with
    | zero => cases e
    | succ m =>
      have ok := ok _ H S i g st
      have R : Rel Γ μ (wipeD ρ vs) S (L2.wipe σ vs) H := (R1.go g st).wipe
      unfold scF at e
      cases e1 : a.2 i S with
      | none => rw [e1] at e; cases e
      | some o =>
        rw [e1] at e ok
        cases o with
        | none =>
          cases e
          exact .inl ⟨ok, use μ _ L H _ x ⟨K, ds, st, out, hs.at_, hs.rp, hs.nk, fun d hd => hs.kt d ((hs.mem d).mp hd), has_perm hs⟩ ex fun μ2 H2 b g2 s2 r2 => f1 μ2 H2 b (g.trans g2) s2 r2⟩
        | some d =>
          refine .inr ⟨ok.1, fun H => ∃ S acc K ds, Sto Γ μ S H ∧ Go μ H1 μ H ∧ Has Γ H μ L K ds acc ∧ scF t c fe a.2 S1.length (wipeD ρ vs) m (i + 1) acc S = some (zs, S'), fun H' z => ⟨m, Nat.lt_succ_self m, z⟩, fun x H' y => ?_⟩
          obtain ⟨g2, s2, r2⟩ := ok.2 x H' y
          simp only at e
          cases e2 : t d (wipeD ρ vs) S with
          | none => rw [e2] at e; cases e
          | some ρ1 =>
            rw [e2] at e
            simp only at e
            refine ⟨μ, wipeD ρ vs, S, d, ρ1, R.go g2 s2, r2, e2, fun σ2 R2 k2 => ⟨wipe_eq (k2.1.trans (wipe_length _ _)) fun j hj => k2.2 j fun z => hj (hv j z), μ, ρ1, S, R2, ?_⟩⟩
            have keep : ∀ {μ' : List Addr} {H2 : Hp}, Go μ H μ' H2 → Has Γ H2 μ L K ds acc := fun {μ' H2} gg => by
              have gc : Go μ H μ H2 := gg.cut
              exact ⟨gc.keep _ _ hs.at_ out, hs.rp.go gc, hs.nk, hs.nd, hs.mem, hs.kt, hs.few⟩
            cases e3 : c ρ1 S with
            | bad => rw [e3] at e; cases e
            | exc _ _ => rw [e3] at e; cases e
            | ok b S3 =>
              rw [e3] at e
              intro μ3 H3 b' g3 s3 eb
              obtain rfl : b' = b := eb
              cases b' with
              | false =>
                rw [if_neg (by decide)]
                obtain ⟨ν3, rfl, _⟩ := g3.pre
                have gg := g2.trans g3
                exact ⟨_, acc, K, ds, s3.cut hn, (g.trans gg).cut, keep gg, e⟩
              | true =>
                simp only [if_true]
                simp only at e
                refine ⟨μ3, ρ1, S3, R2.go g3 s3, ?_⟩
                cases e4 : fe ρ1 S3 with
                | bad => rw [e4] at e; cases e
                | exc _ _ => rw [e4] at e; cases e
                | ok d4 S4 =>
                  rw [e4] at e
                  simp only at e
                  intro μ4 H4 y4 g4 s4 r4
                  have gg := (g2.trans g3).trans g4
                  obtain ⟨ν4, rfl, _⟩ := gg.pre
                  cases e5 : frz S1.length S4 d4 with
                  | none => rw [e5] at e; cases e
                  | some y5 =>
                    rw [e5] at e
                    simp only at e
                    split at e
                    · rename_i hk
                      refine ⟨μ, S4.take S1.length, K, ds, acc, y5, s4.cut hn, out, keep gg, r4.frz s4 hn e5, hk.1, hk.2, fun H5 L5 ds5 same s5 h5 => ⟨_, _, L5, ds5, s5, ?_, h5, e⟩⟩
                      have g0 : Go μ H1 μ H4 := (g.trans gg).cut
                      have nw : ∀ a, H1 a ≠ none → a ≠ L := fun a z w => z (w ▸ hL)
                      refine ⟨⟨[], by simp, by simp⟩, fun a o ea ha => ?_, fun a ea => ?_⟩
                      · rw [same a (nw a (by rw [ea]; simp))]; exact g0.keep a o ea ha
                      · rw [same a (nw a ea)]; exact g0.there a ea
                    · cases e
theorem s_comp {elt tg iter : Expr} {ifs : List Expr} {scope : Scope} {own : List (Str × Nat)} {pos : Pos} {wi : TI} {g : TG} {tt : TT} {te : TE} (G : Gx Γ k X) (hi : PI X tg iter wi) (ok : BlkOk X.N X.env.scope scope own)
    (hg : ∀ (s : Shared) (H : Hp) (C : Addr) (cl : List (Str × Addr)) (fp : List Addr), PG (X.blk s H scope (compEnvC scope cl C X.env) fp) tg g)
    (hs : ∀ x, foldedSetIterable iter X.env x = pure x) (ht : ∀ (s : Shared) (H : Hp) (C : Addr) (cl : List (Str × Addr)) (fp : List Addr), PTs (X.blk s H scope (compEnvC scope cl C X.env) fp) ifs tt)
    (he : ∀ (s : Shared) (H : Hp) (C : Addr) (cl : List (Str × Addr)) (fp : List Addr), PE (X.blk s H scope (compEnvC scope cl C X.env) fp) elt te) :
    PE X (.SetComp elt [⟨tg, iter, ifs, 0⟩] scope pos) (tGen (fun D => setH Γ.w D []) (tbS Γ tt te) wi g (own.map (·.2))) := by
  constructor
  intro pins s σ H Q I h
  rw [PpSet.eval_SetComp]
  refine gen_core (Q := Q) (o0 := set0 X.w) G.calm G.nd I hi ok sc_node (fun Q z q => PpSet.newSet_ok q) (fun h H big => ?_) hg ?_ hs h ?_
  · have e := empty_set (w := X.w) (h := h.push (set0 X.w)) (a := h.objs.size) (Heap.get?_push_size _ rfl)
    rw [← G.w]
    exact setH_new e
  · intro s0 H0 C cl fp D pins s σ H Nx I q
    refine thnF ((ht s0 H0 C cl fp).run _ s σ H _ I q) ?_
    rintro b s1 ⟨H1, I1, q1⟩
    cases b with
    | false => exact ⟨H1, I1, q1⟩
    | true =>
      refine thnF ((he s0 H0 C cl fp).run _ s1 σ H1 _ I1 q1) ?_
      rintro a s2 ⟨y, H2, I2, r2, q2⟩
      exact sadd_ok G.blk I2 r2 q2
  · intro D C z m H' I' q ns f
    refine ⟨m, ns, fun h2 sb => ?_⟩
    obtain ⟨f0, f1, _, f3, f4, f5⟩ := f
    exact ⟨.ref D, H', I'.turned (t' := z.toks) (fun b o hb e => (sb.2 b hb).trans e) f0 f1 f3 f4 f5, rfl, q⟩
/-- sorted({..}) -/
def gSortD (zs : List PyData) : Option (List PyData) := if sortOk zs = true then some (sortP zs) else none
theorem l_sortSC {elt tg iter : Expr} {ifs : List Expr} {scope : Scope} {own : List (Str × Nat)} {p pos pos2 : Pos} {fi : MI} {t : Tm} {c : M Bool} {fe : M D} {is : List Nat} (G : Gx Γ k X) (hgl : Gl X "sorted") (hm : Γ.mg "sorted" = none) (hi : PI X tg iter (rdI Γ W fi)) (ok : BlkOk X.N X.env.scope scope own) (hv : ∀ i ∈ is, i ∈ own.map (·.2))
    (hg : ∀ (s : Shared) (H : Hp) (C : Addr) (cl : List (Str × Addr)) (fp : List Addr), PG (X.blk s H scope (compEnvC scope cl C X.env) fp) tg (rdGi Γ is t)) (ht : ∀ (s : Shared) (H : Hp) (C : Addr) (cl : List (Str × Addr)) (fp : List Addr), PTs (X.blk s H scope (compEnvC scope cl C X.env) fp) ifs (rdT Γ wNo c))
    (he : ∀ (s : Shared) (H : Hp) (C : Addr) (cl : List (Str × Addr)) (fp : List Addr), PE (X.blk s H scope (compEnvC scope cl C X.env) fp) elt (rdE Γ wNo fe)) (hs : ∀ x, foldedSetIterable iter X.env x = pure x)
    (he2 : starEach [.SetComp elt [⟨tg, iter, ifs, 0⟩] scope pos2] X.env = [(false, eval (.SetComp elt [⟨tg, iter, ifs, 0⟩] scope pos2) X.env)]) (hpl : (backTo pos (starEach [] X.env)).any (·.1) = false) :
    PE X (.Call (.Name "sorted" p) [.SetComp elt [⟨tg, iter, ifs, 0⟩] scope pos2] [] pos) (rdL Γ W (sComp gSortD fi t c fe (own.map (·.2)))) := by
  have m1 : X.mg "sorted" = none := by rw [G.mg]; exact hm
  refine PE.mono (pe_callB (c_sortS G) hgl m1 (by decide +kernel) (pa_cons (s_comp G hi ok hg hs ht he) pa_nil) (by decide +kernel) (by decide +kernel) he2 hpl) fun σ H Q h => ?_
  show tGen _ _ _ _ _ σ H fun v H1 => rSortS Γ [v] H1 Q
  refine scomp_of hv h fun μ S D H zs a f ea fin => ?_
  obtain ⟨L, ds, st, out, h1, h2, h3, h4, h5⟩ := f
  unfold gSortD at ea
  split at ea
  · rename_i so
    cases ea
    exact ⟨μ, S, D, L, ds, zs, st, rfl, h1, h2, h3, h4, h5, so, fun μ' H' vs g' s' r' c hc => fin μ' H' vs g' s' r' c hc⟩
  · cases ea
end
end Fp

set_option Elab.async false
set_option linter.all false
set_option autoImplicit false
set_option maxRecDepth 100000
set_option maxHeartbeats 2300000
/-! Fp: list comprehensions of two clauses. -/
namespace Fp
open PySem PySem.Spec L2 PyProof.Rows
section
variable {Γ : Gam} {k : Nat} {W : WX} {μ μ' ν : List Addr} {S S' : Store} {H H' : Hp} {σ : L2.St} {ρ : Slots} {X : Cx} {pins : List (Addr × Obj)} {s : Shared}
/-- a turn of the filling of the list at L; B is what holds of the heap all along -/
theorem turn_of {t : Tm} {c : M Bool} {fe : M D} {a : Nat × ItF} {vs is : List Nat} {n : Nat} {L : Addr} {J : It} {Sf : Store} {Qe : Hp → Prop} (B : Hp → Prop) (step : ∀ H1 μ' H2, B H1 → Go μ H1 μ' H2 → B H2) (hat : μ[n]? = some L) (hn : μ.length = n + 1) (hv : ∀ i ∈ is, i ∈ vs)
    (ok : ∀ H S i, B H → Sto Γ μ S H → match a.2 i S with | none => True | some none => J.stop i H | some (some d) => J.go i H ∧ ∀ x H', J.yld i H x H' → Go μ H μ H' ∧ Sto Γ μ S H' ∧ Rv Γ H' μ x d)
    (rel : ∀ H S, B H → Sto Γ μ S H → Rel Γ μ ρ S (L2.wipe σ vs) H) (last : ∀ H, B H → Sto Γ μ Sf H → Qe H) {m i : Nat} {H : Hp} {S : Store} (b : B H) (st : Sto Γ μ S H) (e : compF t c fe a.2 n ρ m i S = some Sf) :
    (J.stop i H ∧ Qe H) ∨ (J.go i H ∧ ∃ Nx : Hp → Prop, (∀ H', Nx H' → ∃ m', m' < m ∧ ∃ S, B H' ∧ Sto Γ μ S H' ∧ compF t c fe a.2 n ρ m' (i + 1) S = some Sf) ∧ ∀ x H', J.yld i H x H' → rdGi Γ is t x (L2.wipe σ vs) H' fun σ2 H2 => L2.wipe σ2 vs = L2.wipe σ vs ∧ rdT Γ wNo c σ2 H2 fun b H3 =>
      if b = true then rdE Γ wNo fe σ2 H3 fun y H4 => ∃ acc, H4 L = some (.lst acc) ∧ acc.length < sizeLine ∧ Nx (upd H4 L (.lst (acc ++ [y]))) else Nx H3) := by
  have mem : L ∈ μ := List.mem_of_getElem? hat
  cases m with
  | zero => cases e
  | succ m =>
    have okk := ok H S i b st
    have R := rel H S b st
    unfold compF at e
    cases e1 : a.2 i S with
    | none => rw [e1] at e; cases e
    | some o =>
      rw [e1] at e okk
      cases o with
      | none =>
        cases e
        exact .inl ⟨okk, last H b st⟩
      | some d =>
        refine .inr ⟨okk.1, fun H => ∃ S, B H ∧ Sto Γ μ S H ∧ compF t c fe a.2 n ρ m (i + 1) S = some Sf, fun H' z => ⟨m, Nat.lt_succ_self m, z⟩, fun x H' y => ?_⟩
        obtain ⟨g2, s2, r2⟩ := okk.2 x H' y
        have b2 := step _ _ _ b g2
        simp only at e
        cases e2 : t d ρ S with
        | none => rw [e2] at e; cases e
        | some ρ1 =>
          rw [e2] at e
          simp only at e
          refine ⟨μ, ρ, S, d, ρ1, R.go g2 s2, r2, e2, fun σ2 R2 k2 => ⟨wipe_eq (k2.1.trans (wipe_length _ _)) fun j hj => k2.2 j fun z => hj (hv j z), μ, ρ1, S, R2, ?_⟩⟩
          cases e3 : c ρ1 S with
          | bad => rw [e3] at e; cases e
          | exc _ _ => rw [e3] at e; cases e
          | ok q S3 =>
            rw [e3] at e
            intro μ3 H3 q' g3 s3 eb
            obtain rfl : q' = q := eb
            have b3 := step _ _ _ b2 g3
            cases q' with
            | false =>
              rw [if_neg (by decide)]
              obtain ⟨ν3, rfl, _⟩ := g3.pre
              exact ⟨_, b3, s3.cut hn, e⟩
            | true =>
              simp only [if_true]
              simp only at e
              refine ⟨μ3, ρ1, S3, R2.go g3 s3, ?_⟩
              cases e4 : fe ρ1 S3 with
              | bad => rw [e4] at e; cases e
              | exc _ _ => rw [e4] at e; cases e
              | ok d4 S4 =>
                rw [e4] at e
                simp only at e
                intro μ4 H4 y4 g4 s4 r4
                have g34 := g3.trans g4
                have b4 := step _ _ _ b2 g34
                obtain ⟨ν4, rfl, _⟩ := g34.pre
                split at e
                · rename_i acc y5 e5 e6
                  split at e
                  · rename_i hl
                    obtain ⟨ws, h1, h2⟩ := s4.at_ _ _ _ (show (μ ++ ν4)[n]? = some L by rw [List.getElem?_append_left (by omega)]; exact hat) e5
                    have gw := Go.write μ (H := H4) mem (.lst (ws ++ [y4]))
                    exact ⟨ws, h1, by rw [h2.length]; exact hl, _, step _ _ _ b4 gw, (s4.cut hn).write hat (m := .lst (acc ++ [y5])) ⟨_, upd_same, RpAll.go gw ((h2.less fun b hb => List.mem_append_left _ hb).append (.cons (r4.frz s4 hn e6) .nil))⟩, e⟩
                  · cases e
                · cases e
/-- [e for t in i if c for t1 in i1 if c1] -/
def comp2F (t : Tm) (c : M Bool) (fi1 : MI) (t1 : Tm) (c1 : M Bool) (fe : M D) (it : ItF) (n : Nat) (vs1 : List Nat) (ρ : Slots) : Nat → Nat → Store → Option Store
  | 0, _, _ => none
  | m + 1, i, S => match it i S with
    | none => none
    | some none => some S
    | some (some d) => match t d ρ S with
      | none => none
      | some ρ1 => match c ρ1 S with
        | .ok false S1 => comp2F t c fi1 t1 c1 fe it n vs1 ρ m (i + 1) (S1.take (n + 1))
        | .ok true S1 => match fi1 ρ1 (S1.take (n + 1)) with
          | .ok a1 S2 => if S2.length = n + 1 then match compF t1 c1 fe a1.2 n (wipeD ρ1 vs1) a1.1 0 S2 with
            | some S3 => comp2F t c fi1 t1 c1 fe it n vs1 ρ m (i + 1) S3
            | none => none
            else none
          | _ => none
        | _ => none
def eComp2 (th : Bool) (fi : MI) (t : Tm) (c : M Bool) (fi1 : MI) (t1 : Tm) (c1 : M Bool) (fe : M D) (vs vs1 : List Nat) : M D := fi.bind fun a => fun ρ S => endC th S.length (comp2F t c fi1 t1 c1 fe a.2 S.length vs1 (wipeD ρ vs) a.1 0 (S ++ [.lst []]))
theorem endC_fin {th : Bool} {L : Addr} {n : Nat} {Q : VK} {H1 : Hp} (hn : μ.length = n) (st : Sto Γ (μ ++ [L]) S H) (g : Go μ H1 (μ ++ [L]) H) (f : Fin Γ W (fun H μ v d => Rv Γ H μ v d) μ σ H1 (endC th n (some S)) Q) : Q (.ref L) H := by
  have hat : (μ ++ [L])[n]? = some L := by rw [← hn, List.getElem?_append_right (Nat.le_refl _), Nat.sub_self]; rfl
  unfold endC at f
  cases th with
  | true => exact f _ H _ g st (.loc hat)
  | false =>
    simp only [Bool.false_eq_true, if_false] at f
    obtain ⟨o, e2, mo⟩ := st.ix hat
    rw [e2] at f
    cases o with
    | dic _ => exact f.elim
    | lst acc =>
      obtain ⟨ws, h1, h2⟩ := mo
      exact f μ H _ g.cut (st.cut hn) (.p (.lst h1 (fun z => (List.nodup_append.mp st.nd).2.2 L z L (by simp) rfl) (h2.less fun b hb => List.mem_append_left _ hb)))
theorem comp2_of {th : Bool} {fi : MI} {t : Tm} {c : M Bool} {fi1 : MI} {t1 : Tm} {c1 : M Bool} {fe : M D} {vs is vs1 is1 : List Nat} {Q : VK} (hv : ∀ i ∈ is, i ∈ vs) (hv1 : ∀ i ∈ is1, i ∈ vs1) (q : rdE Γ W (eComp2 th fi t c fi1 t1 c1 fe vs vs1) σ H Q) :
    tLc2 (rdI Γ W fi) (rdGi Γ is t) (rdT Γ wNo c) (rdI Γ wNo fi1) (rdGi Γ is1 t1) (rdT Γ wNo c1) (rdE Γ wNo fe) vs vs1 σ H Q := by
  refine rd.cut q fun μ ρ H1 S1 a J R1 ok f1 => ?_
  intro L hL
  have hn : μ.length = S1.length := R1.sto.len
  have hat : (μ ++ [L])[S1.length]? = some L := by rw [← hn, List.getElem?_append_right (Nat.le_refl _), Nat.sub_self]; rfl
  have hn1 : (μ ++ [L]).length = S1.length + 1 := by rw [List.length_append, hn]; rfl
  cases eC : comp2F t c fi1 t1 c1 fe a.2 S1.length vs1 (wipeD ρ vs) a.1 0 (S1 ++ [.lst []]) with
  | none => rw [eC] at f1; exact f1.elim
  | some S' =>
    rw [eC] at f1
    refine ⟨fun i m H => ∃ S, Sto Γ (μ ++ [L]) S H ∧ Go μ H1 (μ ++ [L]) H ∧ comp2F t c fi1 t1 c1 fe a.2 S1.length vs1 (wipeD ρ vs) m i S = some S', ⟨a.1, _, R1.sto.alloc hL (m := .lst []) ⟨[], upd_same, .nil⟩, Go.alloc μ hL _, eC⟩, ?_⟩
    rintro i m H ⟨S, st, g, e⟩
    cases m with
    | zero => cases e
    | succ m =>
      have ok := ok _ H S i g st
      have R : Rel Γ (μ ++ [L]) (wipeD ρ vs) S (L2.wipe σ vs) H := (R1.go g st).wipe
      unfold comp2F at e
      cases e1 : a.2 i S with
      | none => rw [e1] at e; cases e
      | some o =>
        rw [e1] at e ok
        cases o with
        | none =>
          cases e
          exact .inl ⟨ok, endC_fin hn st g f1⟩
        | some d =>
          refine .inr ⟨ok.1, fun H => ∃ S, Sto Γ (μ ++ [L]) S H ∧ Go μ H1 (μ ++ [L]) H ∧ comp2F t c fi1 t1 c1 fe a.2 S1.length vs1 (wipeD ρ vs) m (i + 1) S = some S', fun H' z => ⟨m, Nat.lt_succ_self m, z⟩, fun x H' y => ?_⟩
          obtain ⟨g2, s2, r2⟩ := ok.2 x H' y
          simp only at e
          cases e2 : t d (wipeD ρ vs) S with
          | none => rw [e2] at e; cases e
          | some ρ1 =>
            rw [e2] at e
            simp only at e
            refine ⟨μ ++ [L], wipeD ρ vs, S, d, ρ1, R.go g2 s2, r2, e2, fun σ2 R2 k2 => ⟨wipe_eq (k2.1.trans (wipe_length _ _)) fun j hj => k2.2 j fun z => hj (hv j z), μ ++ [L], ρ1, S, R2, ?_⟩⟩
            cases e3 : c ρ1 S with
            | bad => rw [e3] at e; cases e
            | exc _ _ => rw [e3] at e; cases e
            | ok b S3 =>
              rw [e3] at e
              intro μ3 H3 b' g3 s3 eb
              obtain rfl : b' = b := eb
              have gg := (g.trans g2).trans g3
              obtain ⟨ν3, rfl, _⟩ := g3.pre
              cases b' with
              | false =>
                rw [if_neg (by decide)]
                exact ⟨_, s3.cut hn1, ⟨g.pre, gg.keep, gg.there⟩, e⟩
              | true =>
                simp only [if_true]
                simp only at e
                have g3c : Go (μ ++ [L]) H' (μ ++ [L]) H3 := g3.cut
                refine ⟨μ ++ [L], ρ1, S3.take (S1.length + 1), R2.go g3c (s3.cut hn1), ?_⟩
                cases e4 : fi1 ρ1 (S3.take (S1.length + 1)) with
                | bad => rw [e4] at e; cases e
                | exc _ _ => rw [e4] at e; cases e
                | ok a1 S4 =>
                  rw [e4] at e
                  simp only at e
                  intro μ4 H4 J1 g4 s4 ok1
                  split at e
                  · rename_i l4
                    cases e5 : compF t1 c1 fe a1.2 S1.length (wipeD ρ1 vs1) a1.1 0 S4 with
                    | none => rw [e5] at e; cases e
                    | some S5 =>
                      rw [e5] at e
                      simp only at e
                      obtain ⟨ν4, rfl, _⟩ := g4.pre
                      have n4 : ν4 = [] := by
                        have := s4.len
                        rw [List.length_append, hn1] at this
                        exact List.eq_nil_of_length_eq_zero (by omega)
                      subst n4
                      rw [List.append_nil] at g4 s4 ok1
                      have g0 : Go μ H1 (μ ++ [L]) H4 := ((g.trans g2).trans g3c).trans g4
                      have cut : ∀ {Ha Hb Hc : Hp} {μ' : List Addr}, Go (μ ++ [L]) Ha (μ ++ [L]) Hb → Go (μ ++ [L]) Hb μ' Hc → Go (μ ++ [L]) Ha (μ ++ [L]) Hc := fun ga gb => ga.trans gb.cut
                      refine ⟨fun j kk H => ∃ S, Go (μ ++ [L]) H4 (μ ++ [L]) H ∧ Sto Γ (μ ++ [L]) S H ∧ compF t1 c1 fe a1.2 S1.length (wipeD ρ1 vs1) kk j S = some S5, ⟨a1.1, S4, Go.refl _ _, s4, e5⟩, ?_⟩
                      rintro j kk Hj ⟨Sj, gj, sj, ej⟩
                      exact turn_of (Qe := fun H => ∃ S, Sto Γ (μ ++ [L]) S H ∧ Go μ H1 (μ ++ [L]) H ∧ comp2F t c fi1 t1 c1 fe a.2 S1.length vs1 (wipeD ρ vs) m (i + 1) S = some S') (fun H => Go (μ ++ [L]) H4 (μ ++ [L]) H) (fun _ _ _ => cut) hat hn1 hv1 (fun H S i gb sb => ok1 _ H S i gb sb) (fun H S gb sb => (((R2.go g3c (s3.cut hn1)).go g4 s4).go gb sb).wipe) (fun H gb sb => ⟨S5, sb, g0.trans gb, e⟩) gj sj ej
                  · cases e
theorem e_comp2 {th : Bool} {elt tg iter tg1 iter1 : Expr} {ifs ifs1 : List Expr} {scope : Scope} {own : List (Str × Nat)} {vs1 : List Nat} {pos : Pos} {fi : MI} {t : Tm} {c : M Bool} {fi1 : MI} {t1 : Tm} {c1 : M Bool} {fe : M D} {is is1 : List Nat} (G : Gx Γ k X) (hi : PI X tg iter (rdI Γ W fi)) (ok : BlkOk X.N X.env.scope scope own) (hv : ∀ i ∈ is, i ∈ own.map (·.2)) (hv1 : ∀ i ∈ is1, i ∈ vs1) (hv2 : ∀ i ∈ vs1, i ∈ own.map (·.2))
    (hg : ∀ (s : Shared) (H : Hp) (C : Addr) (cl : List (Str × Addr)) (fp : List Addr), PG (X.blk s H scope (compEnvC scope cl C X.env) fp) tg (rdGi Γ is t)) (ht : ∀ (s : Shared) (H : Hp) (C : Addr) (cl : List (Str × Addr)) (fp : List Addr), PTs (X.blk s H scope (compEnvC scope cl C X.env) fp) ifs (rdT Γ wNo c))
    (hi1 : ∀ (s : Shared) (H : Hp) (C : Addr) (cl : List (Str × Addr)) (fp : List Addr), PI (X.blk s H scope (compEnvC scope cl C X.env) fp) tg1 iter1 (rdI Γ wNo fi1))
    (hg1 : ∀ (s : Shared) (H : Hp) (C : Addr) (cl : List (Str × Addr)) (fp : List Addr), PG (X.blk s H scope (compEnvC scope cl C X.env) fp) tg1 (rdGi Γ is1 t1)) (ht1 : ∀ (s : Shared) (H : Hp) (C : Addr) (cl : List (Str × Addr)) (fp : List Addr), PTs (X.blk s H scope (compEnvC scope cl C X.env) fp) ifs1 (rdT Γ wNo c1))
    (he : ∀ (s : Shared) (H : Hp) (C : Addr) (cl : List (Str × Addr)) (fp : List Addr), PE (X.blk s H scope (compEnvC scope cl C X.env) fp) elt (rdE Γ wNo fe)) (hs : ∀ x, foldedSetIterable iter X.env x = pure x) (hs1 : ∀ env x, foldedSetIterable iter1 env x = pure x) :
    PE X (.ListComp elt [⟨tg, iter, ifs, 0⟩, ⟨tg1, iter1, ifs1, 0⟩] scope pos) (rdE Γ W (eComp2 th fi t c fi1 t1 c1 fe (own.map (·.2)) vs1)) :=
  PE.mono (pe_lc2 G.calm G.nd hi ok hv2 hg ht hi1 hg1 ht1 he hs hs1) fun σ H Q q => comp2_of hv hv1 q
/-! ### raise where it is never reached -/
def sNever : MS := fun _ _ => .bad
theorem s_never {st : Stmt} : PS X st (rdS Γ W sNever) := PS.mono ps_never fun D σ H q => by
  obtain ⟨μ, ρ, S, R, f⟩ := q
  exact f.elim
end
end Fp

set_option Elab.async false
set_option linter.all false
set_option autoImplicit false
set_option maxRecDepth 100000
set_option maxHeartbeats 2300000
/-! Fp: dict methods: update, setdefault (keys that are tuples). -/
namespace Fp
open PySem PySem.Spec L2 PyProof.Rows
section
variable {Γ : Gam} {k : Nat} {W : WX} {μ μ' ν : List Addr} {S S' : Store} {H H' : Hp} {σ : L2.St} {ρ : Slots} {X : Cx} {pins : List (Addr × Obj)} {s : Shared}
/-- the value is of that type wherever the heap is so -/
def TyNow (X : Cx) (σ : L2.St) (H : Hp) (x : V) (T : String) : Prop := ∀ pins s v, Inv X pins σ H s → RelV x v → s.TypeIs v T ∧ ∀ a, v = .ref a → ∃ ob, s.heap.get? a = some ob ∧ ob.dict = none
def tDm (X : Cx) (T : String) (r : V → List V → Hp → VK → Prop) (to : TE) (t : TA) : TE := fun σ H Q => to σ H fun x H1 => TyNow X σ H1 x T ∧ t σ H1 fun xs H2 => r x xs H2 Q
theorem pe_dm {o e : Expr} {es : List Expr} {to : TE} {t : TA} {name : Str} {apos cpos : Pos} {T id : String} {r : V → List V → Hp → VK → Prop} (pa : PlainAttrs T) (slot : Slot T name id) (hty : typeOf (.builtin id) = pure (.type "method_descriptor")) (hm : MtR X id r) (ho : PE X o to) (ha : PA X (e :: es) t)
    (hbase : attributeBase o name X.env (eval o X.env) = eval o X.env) (hfew : ((backTo cpos (starEach (e :: es) X.env)).all (fun x => !x.1) && (backToKw cpos (keywordEach [] X.env)).all (fun x => x.1.isSome) && decide ((e :: es).length + ([] : List Keyword).length + (if ([] : List Keyword).isEmpty then 0 else 1) < 30)) = true)
    (hline : (apos.endLine == cpos.line) = true) (hs : starEach (e :: es) X.env = (false, eval e X.env) :: starEach es X.env) (hplain : (backTo cpos (starEach es X.env)).any (·.1) = false) :
    PE X (.Call (.Attribute o name apos) (e :: es) [] cpos) (tDm X T r to t) := by
  refine ⟨fun pins s σ H Q I h => wpAny_Call_method_late hbase hfew hline rfl (thn (ho.run pins s σ H _ I h) ?_)⟩
  rintro v s1 ⟨x, H1, I1, r1, ty, q1⟩
  obtain ⟨t1, t2⟩ := ty _ _ _ I1 r1
  refine ⟨T, id, pa, slot, hty, t1, t2, ?_⟩
  have args := ha.run cpos pins s1 σ H1 _ I1 q1
  rw [hs] at args ⊢
  have none_star : ((false, eval e X.env) :: starEach es X.env |> backTo cpos).any (·.1) = false := by
    show (false || (backTo cpos (starEach es X.env)).any (·.1)) = false
    rw [hplain]; rfl
  refine Calls.callWith_builtin none_star (Calls.evalArgs_plain (thn args ?_))
  rintro us s2 ⟨vs, H2, I2, r2, q2⟩
  exact hm pins s2 σ H2 x vs v us Q I2 r1 r2 q2
def dicD (S : Store) (d : D) : Bool := (viewD S d).isSome
theorem dic_ty (st : Sto Γ μ S H) {x : V} {d : D} (r : Rv Γ H μ x d) (e : dicD S d = true) : TyNow X σ H x "dict" := by
  intro pins s v I rv
  obtain ⟨kvs, ek⟩ := Option.isSome_iff_exists.mp e
  obtain ⟨a, rfl, ok⟩ := viewD_at st r ek
  cases rv
  obtain ⟨ks, vs, nk, ds, es, h1, _⟩ := ok
  cases nk with
  | none =>
    obtain ⟨kk, e, _⟩ := h1
    exact tyV_is I (x := .ref a) rfl (.inr (.inr (.inl ⟨rfl, .inl ⟨kk, e⟩⟩)))
  | some ns =>
    obtain ⟨xs, e, _⟩ := h1
    obtain ⟨⟨o, _, _, g1, g2, _⟩, _⟩ := I.hok a _ e
    exact ⟨⟨o, g1, g2.1⟩, fun b z => by cases z; exact ⟨o, g1, g2.2.1⟩⟩
def eDm (g : Gm) (fo : M D) (fa : M (List D)) : M D := fo.bind fun o => fun ρ S => if dicD S o = true then (fa ρ S).bind fun as S' => outM (g o as S') else .bad
theorem e_dm {o call : Expr} {es : List Expr} {fo : M D} {fa : M (List D)} {id : String} {g : Gm} (rule : ∀ (r : V → List V → Hp → VK → Prop) (to : TE) (t : TA), MtR X id r → PE X o to → PA X es t → PE X call (tDm X "dict" r to t)) (hm : MtR X id (rMt Γ g)) (ho : PE X o (rdE Γ W fo)) (ha : PA X es (rdA Γ W fa)) :
    PE X call (rdE Γ W (eDm g fo fa)) := by
  refine PE.mono (rule _ _ _ hm ho ha) fun σ H Q q => ?_
  refine rd.cut q fun μ ρ H1 S1 d x R1 rx f1 => ?_
  by_cases c : dicD S1 d = true
  · rw [if_pos c] at f1
    exact ⟨dic_ty R1.sto rx c, μ, ρ, S1, R1, Fin.cut (k := fun as S' => outM (g d as S')) f1 fun μ2 H2 S2 as ys g2 s2 ry f2 => meth_of s2 (rx.go g2) ry f2⟩
  · rw [if_neg c] at f1
    exact f1.elim
/-! ### dicts of tuples as the library has them -/
theorem dicT_of (G : Gx Γ k X) (I : Inv X pins σ H s) {a : Addr} {kvs : List (PyData × PyData)} (ok : DicOk Γ H μ a kvs) (hk : (kvs.all fun kv => keyT kv.1) = true) :
    ∃ xs ds es vs, s.heap.DictOfH (nestedKind X.prog X.w) a xs ∧ RpAll Γ H μ (xs.map fun x => V.ref x.2.1) ds ∧ nkeys ds = some (xs.map (·.1)) ∧ Vals vs (xs.map (·.2.2)) ∧ RpAll Γ H μ vs es ∧ (a == sysModules) = false ∧ xs.length = kvs.length ∧ kvs.length ≤ sizeLine ∧ kvs = ds.zip es ∧ (∀ x ∈ xs, x.1.depth ≤ 8) ∧
      (kvs ≠ [] → H a = some (dicT Γ.P Γ.w a xs)) ∧ (kvs = [] → H a = some (.dK [])) := by
  obtain ⟨ks, vs, nk, ds, es, h1, h2, h3, h4, h5⟩ := ok
  cases nk with
  | none =>
    obtain ⟨kk, e, rfl, rfl⟩ := h1
    have l2 := h2.length
    have l3 := h3.length
    rw [List.length_map] at l2 l3
    have nil : kk = [] := by
      cases kk with
      | nil => rfl
      | cons p r =>
        exfalso
        cases h2 with
        | cons a1 a2 =>
          cases h3 with
          | cons b1 b2 =>
            rw [h4] at hk
            simp only [List.zip_cons_cons, List.all_cons, Bool.and_eq_true, keyT] at hk
            have := isTup_pkey hk.1.1.1
            rw [pkey_of a1] at this
            cases this
    subst nil
    cases h2
    cases h3
    obtain ⟨z, hd, ws, rel, dd⟩ := dk_of I.hok e
    cases rel
    obtain ⟨o, es, ep, g1, g2, g3, g4, g5, g6⟩ := dd
    exact ⟨[], [], [], [], ⟨o, es, ep, g1, g2, g3, by rw [pairs_nil g5]; rfl, by simp, by simp⟩, .nil, rfl, .nil, .nil, hd, by rw [h4]; rfl, by rw [h4]; exact Nat.zero_le _, h4, (fun x hx => by cases hx), fun z => absurd h4 z, fun _ => e⟩
  | some ns =>
    obtain ⟨xs, e, rfl, rfl, r3, r4, r5, r6, r7, r8⟩ := h1
    have nk := h5 _ rfl
    have len : xs.length = kvs.length := by
      have a2 := h2.length
      have a3 := r3.length
      have a4 := h3.length
      rw [List.length_map] at a2 a3
      rw [h4, zip_len (by omega)]
      omega
    refine ⟨xs, ds, es, vs, dicT_at G I e h2 nk r6 r7, h2, nk, r3, h3, r4, len, by omega, h4, r7, fun _ => e, fun z => ?_⟩
    rw [z] at len
    exact absurd (List.eq_nil_of_length_eq_zero len) r8
theorem storedAll_T {a : Addr} {kvs more : List (PyData × PyData)} {xs ys : List (NestedKey × Addr × Value)} {ds es ds2 es2 : List PyData} {vs ws : List V} (a1 : RpAll Γ H μ (xs.map fun x => V.ref x.2.1) ds) (a2 : nkeys ds = some (xs.map (·.1))) (a3 : Vals vs (xs.map (·.2.2))) (a4 : RpAll Γ H μ vs es)
    (b1 : RpAll Γ H μ (ys.map fun x => V.ref x.2.1) ds2) (b2 : nkeys ds2 = some (ys.map (·.1))) (b3 : Vals ws (ys.map (·.2.2))) (b4 : RpAll Γ H μ ws es2) (em : more = ds2.zip es2) (ek : kvs = ds.zip es) :
    ∃ ds' es' vs', RpAll Γ H μ ((storedAllH xs ys).map fun x => V.ref x.2.1) ds' ∧ nkeys ds' = some ((storedAllH xs ys).map (·.1)) ∧ Vals vs' ((storedAllH xs ys).map (·.2.2)) ∧ RpAll Γ H μ vs' es' ∧ dsets more kvs = ds'.zip es' := by
  have l : ds2.length = es2.length := by
    have q1 := b1.length
    have q2 := b3.length
    have q3 := b4.length
    rw [List.length_map] at q1 q2
    omega
  have m1 : more.map (·.1) = ds2 := by rw [em]; exact List.map_fst_zip (by omega)
  have m2 : more.map (·.2) = es2 := by rw [em]; exact List.map_snd_zip (by omega)
  have := merge_T (l := more) (by rw [m1]; exact b1) (by rw [m1]; exact b2) b3 (by rw [m2]; exact b4) a1 a2 a3 a4
  rw [← ek] at this
  exact this
/-! ### d.update(d2) -/
def isLoc (n : Nat) : D → Bool
  | .loc m => decide (m = n)
  | _ => false
def mUpdate : Gm := fun o as S => match o, as with
  | .loc n, [a] => match S[n]?, viewD S a with
    | some (.dic kvs), some more => if ((kvs.all fun kv => keyT kv.1) && (more.all fun kv => keyT kv.1) && (!kvs.isEmpty || more.isEmpty) && decide (kvs.length + more.length ≤ sizeLine) && !isLoc n a) = true then some (.p .none, S.set n (.dic (dsets more kvs))) else none
    | _, _ => none
  | _, _ => none
theorem put_dic (G : Gx Γ k X) (I : Inv X pins σ H s) (st : Sto Γ μ S H) {n : Nat} {p : Addr} {h' : Heap} {zs : List (NestedKey × Addr × Value)} {kvs : List (PyData × PyData)} {ds es : List PyData} {vs : List V} (hat : μ[n]? = some p) (mu : Mut (H p)) (sb : Heap.SameBut p s.heap h') (dd : h'.DictOfH (nestedKind X.prog X.w) p zs)
    (ne : zs ≠ []) (hm : (p == sysModules) = false) (len : zs.length ≤ sizeLine) (dep : ∀ x ∈ zs, x.1.depth ≤ 8) (r1 : RpAll Γ H μ (zs.map fun x => V.ref x.2.1) ds) (r2 : nkeys ds = some (zs.map (·.1))) (r3 : Vals vs (zs.map (·.2.2))) (r4 : RpAll Γ H μ vs es) (ek : kvs = ds.zip es) (tk : Nat) :
    Inv X pins σ (upd H p (dicT Γ.P Γ.w p zs)) { s with heap := h', toks := tk } ∧ Go μ H μ (upd H p (dicT Γ.P Γ.w p zs)) ∧ Sto Γ μ (S.set n (.dic kvs)) (upd H p (dicT Γ.P Γ.w p zs)) := by
  obtain ⟨ob, es2, ep, k1, k2, k3, k4, _, k5⟩ := dd
  have g := Go.write μ (H := H) (List.mem_of_getElem? hat) (dicT Γ.P Γ.w p zs)
  refine ⟨d_write I mu sb ⟨ob, k1⟩ ⟨⟨ob, es2, ep, k1, k2, k3, by rw [← G.P, ← G.w]; exact k4⟩, ⟨ob, k1⟩, fun ha hb hc hd => ?_⟩, g, st.write hat ?_⟩
  · obtain ⟨o2, es3, ep3, j1, j2⟩ := hc
    exact ⟨o2, es3, ep3, hd _ j1, j2⟩
  · exact ⟨_, vs, some _, ds, es, ⟨_, upd_same, rfl, rfl, r3, hm, len, k5, dep, ne⟩, r1.go g, r4.go g, ek, fun ns z => by cases z; exact r2⟩
theorem m_update (G : Gx Γ k X) : MtR X "dict.update" (rMt Γ mUpdate) := by
  intro pins s σ H x xs v us Q I rx rxs told
  obtain ⟨μ, S, ob, as, d, S', st, ro, ra, e, q⟩ := told
  unfold mUpdate at e
  split at e
  · rename_i n a
    cases ro with
    | loc ha =>
      rename_i p
      obtain ⟨y, rfl, ry⟩ := ra.one
      split at e
      · rename_i kvs more e1 e2
        split at e
        · rename_i c
          cases e
          simp only [Bool.and_eq_true, Bool.or_eq_true, Bool.not_eq_true', decide_eq_true_eq] at c
          obtain ⟨⟨⟨⟨c1, c2⟩, c3⟩, c4⟩, c5⟩ := c
          obtain ⟨b, rfl, ok2⟩ := viewD_at st ry e2
          have ok1 : DicOk Γ H μ p kvs := st.at_ _ _ _ ha e1
          obtain ⟨zs, ds, es, vs, a1, a2, a3, a4, a5, a6, a7, a8, a9, a10, a11, a12⟩ := dicT_of G I ok1 c1
          obtain ⟨ys, ds2, es2, ws, b1, b2, b3, b4, b5, b6, b7, b8, b9, b10, b11, b12⟩ := dicT_of G I ok2 c2
          cases rx
          rw [rxs.ref1]
          have ne : p ≠ b := fun z => by
            subst z
            cases ry with
            | p h =>
              cases h with
              | dic _ n _ _ _ _ => exact n (List.mem_of_getElem? ha)
              | _ => cases e2
            | loc hb =>
              rename_i m
              simp only [isLoc, decide_eq_false_iff_not] at c5
              obtain ⟨i1, j1⟩ := List.getElem?_eq_some_iff.mp ha
              obtain ⟨i2, j2⟩ := List.getElem?_eq_some_iff.mp hb
              exact c5 ((List.getElem_inj st.nd).mp (j2.trans j1.symm))
            | _ => cases e2
          have mu : Mut (H p) := by
            by_cases z : kvs = []
            · rw [a12 z]; exact True.intro
            · rw [a11 z]; exact True.intro
          have kz : kvs = [] ↔ zs = [] := by
            rw [← List.length_eq_zero_iff, ← List.length_eq_zero_iff, a7]
          have hap : zs ≠ [] ∨ ((∀ x ∈ ys, s.TypeIs (.ref x.2.1) "tuple") ∧ (ys.map fun x => (nestedKind X.prog X.w).hash x.1).Nodup) := by
            rcases c3 with z | z
            · exact .inl fun w => by rw [kz.mpr w] at z; cases z
            · have : ys = [] := List.eq_nil_of_length_eq_zero (by rw [b7, List.isEmpty_iff.mp z]; rfl)
              rw [this]
              exact .inr ⟨(fun x hx => by cases hx), List.nodup_nil⟩
          refine call_update_dictH (knd := nestedKind X.prog X.w) (room8 G.room) ne b6 a1 b1 hap (by omega) fun h' dd _ sb => ?_
          obtain ⟨ds', es', vs', m1, m2, m3, m4, m5⟩ := storedAll_T (a := p) a2 a3 a4 a5 b2 b3 b4 b5 b9 a9
          by_cases z : zs = []
          · -- nothing is there, nothing comes
            have yn : ys = [] := by
              rcases c3 with w | w
              · rw [kz.mpr z] at w; cases w
              · exact List.eq_nil_of_length_eq_zero (by rw [b7, List.isEmpty_iff.mp w]; rfl)
            have kn := kz.mpr z
            have mn : more = [] := List.eq_nil_of_length_eq_zero (by rw [← b7, yn]; rfl)
            subst z yn
            have hd := a12 kn
            have g := Go.write μ (H := H) (List.mem_of_getElem? ha) (.dK [])
            obtain ⟨o, es3, ep, g1, g2, g3, g4, _, _⟩ := dd
            have he : es3 = #[] := by simpa [storedAllH] using g4
            subst he
            have dd2 : h'.DictOf (mixKind X.prog X.w) p [] := ⟨o, #[], ep, g1, g2, g3, by intro e he; simp at he, .nil, by simp⟩
            refine ⟨.non, upd H p (.dK []), d_write I mu sb ⟨o, g1⟩ (dk_new (Nat.zero_le _) a6 .nil dd2), rfl, q μ _ _ g (st.write ha ?_) (.p .non)⟩
            rw [kn, mn]
            exact ⟨[], [], none, [], [], ⟨[], upd_same, rfl, rfl⟩, .nil, .nil, rfl, fun ns z => by cases z⟩
          · obtain ⟨I', g, s'⟩ := put_dic G I st ha mu sb dd (storedAllH_ne (.inr z)) a6 (by have := Fp.storedAllH_len ys zs; omega) (storedAllH_depth a10 b10) m1 m2 m3 m4 m5 s.toks
            exact ⟨.non, _, I', rfl, q μ _ _ g s' (.p .non)⟩
        · cases e
      · cases e
  · cases e
/-! ### d.setdefault(x, e) -/
def mSetdef : Gm := fun o as S => match o, as with
  | .loc n, [.p x, .p e] => match S[n]? with
    | some (.dic kvs) => if (keyT x && (kvs.all fun kv => keyT kv.1) && decide (kvs.length < sizeLine)) = true then match dget kvs x with
      | some v => some (.p v, S)
      | none => some (.p e, S.set n (.dic (dset kvs x e)))
      else none
    | _ => none
  | _, _ => none
theorem m_setdef (G : Gx Γ k X) : MtR X "dict.setdefault" (rMt Γ mSetdef) := by
  intro pins s σ H x xs v us Q I rx rxs told
  obtain ⟨μ, S, ob, as, d, S', st, ro, ra, e, q⟩ := told
  unfold mSetdef at e
  split at e
  · rename_i n kx ev
    cases ro with
    | loc ha =>
      rename_i p
      cases rx
      cases ra with
      | cons hy ra =>
        cases ra with
        | cons hz ra =>
          cases ra
          cases rxs with
          | cons ry rxs =>
            cases rxs with
            | cons rz rxs =>
              cases rxs
              cases hy with
              | p hy =>
                cases hz with
                | p hz =>
                  split at e
                  · rename_i kvs e1
                    split at e
                    · rename_i c
                      simp only [Bool.and_eq_true, decide_eq_true_eq] at c
                      obtain ⟨⟨c1, c2⟩, c3⟩ := c
                      obtain ⟨zs, ds, es, vs, a1, a2, a3, a4, a5, a6, a7, a8, a9, a10, a11, a12⟩ := dicT_of G I (st.at_ _ _ _ ha e1) c2
                      simp only [keyT, Bool.and_eq_true, decide_eq_true_eq] at c1
                      obtain ⟨nn, hn⟩ := Option.isSome_iff_exists.mp c1.1.2
                      obtain ⟨b, rfl⟩ := hy.tupRef c1.1.1
                      have key0 := hy.nested G I hn ry
                      cases ry
                      have dn : nn.depth ≤ 8 := by rw [nkey_depth _ _ hn]; exact c1.2
                      have key : (nestedKind X.prog X.w).is s.heap nn b := ⟨key0, dn⟩
                      have got := dget_T a3 a4 a5 hn
                      rw [← a9] at got
                      have mu : Mut (H p) := by
                        by_cases z : kvs = []
                        · rw [a12 z]; exact True.intro
                        · rw [a11 z]; exact True.intro
                      refine call_setdefault_heap (knd := nestedKind X.prog X.w) (hsz := by omega) (room8 G.room) key a6 a1 (fun pv hp => ?_) fun hp h' dd sb => ?_
                      · rw [hp] at got
                        cases eg : dget kvs kx with
                        | none => rw [eg] at got; exact got.elim
                        | some e3 =>
                          rw [eg] at got e
                          cases e
                          obtain ⟨v3, r3, r4⟩ := got
                          exact ⟨v3, H, I.tok _, r3, q μ H _ (Go.refl _ _) st (.p r4)⟩
                      · rw [hp] at got
                        cases eg : dget kvs kx with
                        | some e3 => rw [eg] at got; exact got.elim
                        | none =>
                          rw [eg] at e
                          cases e
                          obtain ⟨ds', es', vs', m1, m2, m3, m4, m5⟩ := put_T a2 a3 a4 a5 hn hy rz hz
                          rw [← a9] at m5
                          obtain ⟨I', g, s'⟩ := put_dic G I st ha mu sb dd storedH_ne a6 (Nat.le_trans Fp.storedH_len (by omega)) (storedH_depth a10 dn) m1 m2 m3 m4 m5 (s.toks + (nestedKind X.prog X.w).draws nn)
                          exact ⟨_, _, I', rz, q μ _ _ g s' (.p (hz.go g))⟩
                    · cases e
                  · cases e
  · cases e
end
end Fp

set_option Elab.async false
set_option linter.all false
set_option autoImplicit false
set_option maxRecDepth 100000
set_option maxHeartbeats 2300000
/-! Fp: sorted(d), sorted(d.items()), dict(a tuple of pairs): keys that are tuples. -/
namespace Fp
open PySem PySem.Spec L2 PyProof.Rows
section
variable {Γ : Gam} {k : Nat} {W : WX} {μ μ' ν : List Addr} {S S' : Store} {H H' : Hp} {σ : L2.St} {ρ : Slots} {X : Cx} {pins : List (Addr × Obj)} {s : Shared}
theorem Sto.more (st : Sto Γ μ S H) (up : ∀ b o, H b = some o → H' b = some o) : Go μ H μ H' ∧ Sto Γ μ S H' := by
  have g : Go μ H μ H' := ⟨⟨[], by simp, by simp⟩, fun a o e _ => up a o e, fun a e z => by
    cases h : H a with
    | none => exact e h
    | some o => rw [up a o h] at z; cases z⟩
  refine ⟨g, st.len, st.nd, fun n a m h1 h2 => (st.at_ n a m h1 h2).step g ?_⟩
  cases h : H a with
  | none => exact absurd (List.mem_of_getElem? h1) (st.out h)
  | some o => exact up a o h
theorem vals_refs {α : Type} (f : α → Addr) : ∀ l : List α, Vals (l.map fun x => V.ref (f x)) (l.map fun x => Value.ref (f x))
  | [] => .nil
  | _ :: l => .cons rfl (vals_refs f l)
/-- the sort of a list that lies at the heap's end -/
theorem sort_tail {E : Value → Shared → Prop} {us : List Value} {vs : List V} {ds : List PyData} {Q : VK} (G : Gx Γ k X) (I : Inv X pins σ H s) (st : Sto Γ μ S H) (rv : Vals vs us) (r : RpAll Γ H μ vs ds) (kd : ∀ d ∈ ds, (nkey d).isSome = true) (ok : sortOk ds = true) (q : GivL Γ μ S H (sortP ds) Q) :
    wpAny (model X.prog X.w) X.A.in1 (call (.builtin "list.sort") [.ref s.heap.objs.size]) (fun _ z => EP X pins σ Q (.ref s.heap.objs.size) z) E { s with heap := s.heap.push (seqObj "list" us.toArray 0) } := by
  have un := G.room.un
  have atL : (s.heap.push (seqObj "list" us.toArray 0)).get? s.heap.objs.size = some (seqObj "list" us.toArray 0) := Heap.get?_push_size _ rfl
  have kp : ∀ b u, s.heap.get? b = some u → (s.heap.push (seqObj "list" us.toArray 0)).get? b = some u := fun b u e => Heap.get?_push_of_some _ e
  have reads : PySem.W.EachIs (fun u d => ∃ as, Reads (s.heap.push (seqObj "list" us.toArray 0)) u (id d) as ∧ s.heap.objs.size ∉ as) us ds := each_of r rv fun v u d hd rv rp => by
    obtain ⟨as, hr⟩ := rp.reads G I (okD_plain (sortOk_ok ok hd)) rv
    exact ⟨[], reads_key kp _ _ _ hr (kd d hd), by simp⟩
  have rel : PySem.W.EachIs (fun u d => ∃ v, RelV v u ∧ Rp Γ H μ v d) us ds := each_of r rv fun v u d _ rv rp => ⟨v, rv, rp⟩
  refine PySem.W.list_sort_data (s := { s with heap := s.heap.push (seqObj "list" us.toArray 0) }) (enc := id) atL rel reads (sortOk_alike ok) (sortOk_kind ok) (sortOk_len ok) (fun d hd => ?_) fun outs len eo => ?_
  · have := okD_depth (sortOk_ok ok hd)
    show X.A.units + 1 + 1 + d.depth < cLine
    omega
  obtain ⟨ws, v1, v2⟩ := of_each eo
  obtain ⟨c, hc⟩ := sortedHeap_at (vs := us) (out := outs.toArray) atL
  have wl : ws.length ≤ sizeLine := by
    have := v1.length
    have := sortOk_len ok
    omega
  have none_ : H s.heap.objs.size = none := I.hok.fresh (Nat.le_refl _)
  have kp2 : ∀ b u, s.heap.get? b = some u → (sortedHeap (s.heap.push (seqObj "list" us.toArray 0)) s.heap.objs.size us outs.toArray).get? b = some u := fun b u e => by
    have lt : b < s.heap.objs.size := Heap.lt_size e
    rw [sortedHeap_old (Nat.ne_of_lt lt) (by rw [size_push']; exact Nat.lt_succ_of_lt lt)]
    exact kp b u e
  exact ⟨.ref _, upd H s.heap.objs.size (.lst ws), I.laid (t' := s.toks) kp2 (Nat.le_refl _) ⟨wl, outs, c, v1, by simpa using hc⟩, rfl, q μ H ws (Go.refl _ _) st v2 _ none_⟩
/-! ### sorted(d) -/
def gSortDict (as : List D) (S : Store) : Option (List PyData) := match as with
  | [a] => (viewD S a).bind fun kvs => if ((kvs.all fun kv => keyT kv.1) && sortOk (kvs.map (·.1))) = true then some (sortP (kvs.map (·.1))) else none
  | _ => none
theorem c_sortDict (G : Gx Γ k X) : CallR X (.builtin "sorted") (rGnL Γ gSortDict) := by
  intro pins s σ H vs us Q I; intro r h
  obtain ⟨μ, S, as, ds, st, ra, e, q⟩ := h
  unfold gSortDict at e
  split at e
  · rename_i a
    obtain ⟨kvs, e1, e⟩ := Option.bind_eq_some_iff.mp e
    split at e
    · rename_i c
      cases e
      rw [Bool.and_eq_true] at c
      obtain ⟨c1, c2⟩ := c
      obtain ⟨v, rfl, rv⟩ := ra.one
      obtain ⟨p, rfl, ok⟩ := viewD_at st rv e1
      obtain ⟨zs, ds, es, vs, a1, a2, a3, a4, a5, a6, a7, a8, a9, _⟩ := dicT_of G I ok c1
      rw [r.ref1]
      have kf : kvs.map (·.1) = ds := by
        rw [a9]
        refine List.map_fst_zip ?_
        have b1 := a2.length
        have b2 := a4.length
        have b3 := a5.length
        rw [List.length_map] at b1 b2
        omega
      rw [kf] at c2 q
      obtain ⟨ets, ep, raw, size, each⟩ := a1.raw
      refine Calls.call_function_entry kind_sorted plain_sorted entry_sorted (args_sorted1 (.ref p)) ?_; unfold Builtin.«sorted»
      refine wpAny_bind (m := checkCount "sorted" 1 1 _) (wpAny_pure (wpAny_bind (PySem.W.kdu_collect (A := X.A.in1) (PySem.KdlSrc.rawDict (es := ets) (ep := ep) a6) (I.ok.hd G.calm) raw (by omega) fun h' tk acc on items => ?_)))
      have out : acc.toList = zs.map fun x => Value.ref x.2.1 := by
        apply List.ext_getElem?; intro j
        rw [Array.getElem?_toList, List.getElem?_map]
        by_cases lt : j < ets.size
        · obtain ⟨y, y1, y2, _, _⟩ := each j lt
          have sz : j < acc.size := by rw [items.1]; exact lt
          obtain ⟨hi, hv⟩ := items.2 j acc[j] (by rw [Array.getElem?_eq_getElem sz])
          rw [Array.getElem?_eq_getElem sz, y1, hv, y2]; rfl
        · rw [Array.getElem?_eq_none (by rw [items.1]; omega), List.getElem?_eq_none (by omega)]; rfl
      have I1 : Inv X pins σ H { s with heap := h', toks := tk } := I.kept on
      have vz : Vals (zs.map fun x => V.ref x.2.1) acc.toList := by
        rw [out]
        exact vals_refs (fun x : NestedKey × Addr × Value => x.2.1) zs
      refine wpAny_bind (wpAny_newList ?_ (by rw [out, List.length_map]; omega))
      have keys : ∀ d ∈ ds, (nkey d).isSome = true := fun d hd => by
        rw [← kf] at hd
        obtain ⟨kv, hkv, rfl⟩ := List.mem_map.mp hd
        exact keyT_key (List.all_eq_true.mp c1 kv hkv)
      refine wpAny_bind (wpAny_holding (wpAny_mono (sort_tail G I1 st vz a2 keys c2 q) (fun _ z x => ?_) fun _ _ e => e))
      exact wpAny_pure ⟨_, rfl, x⟩
    · cases e
  · cases e
end
end Fp

set_option Elab.async false
set_option linter.all false
set_option autoImplicit false
set_option maxRecDepth 100000
set_option maxHeartbeats 2300000
namespace Fp
open PySem PySem.Spec L2 PyProof.Rows
section
variable {Γ : Gam} {k : Nat} {W : WX} {μ μ' ν : List Addr} {S S' : Store} {H H' : Hp} {σ : L2.St} {ρ : Slots} {X : Cx} {pins : List (Addr × Obj)} {s : Shared}
/-! ### sorted(d.items()) -/
def tDm0 (X : Cx) (T : String) (r : V → List V → Hp → VK → Prop) (to : TE) : TE := fun σ H Q => to σ H fun x H1 => TyNow X σ H1 x T ∧ r x [] H1 Q
theorem pe_dm0 {o : Expr} {to : TE} {name : Str} {apos cpos : Pos} {T id : String} {r : V → List V → Hp → VK → Prop} (pa : PlainAttrs T) (slot : Slot T name id) (hty : typeOf (.builtin id) = pure (.type "method_descriptor")) (hm : MtR X id r) (ho : PE X o to)
    (hbase : attributeBase o name X.env (eval o X.env) = eval o X.env) (hline : (apos.endLine == cpos.line) = true) : PE X (.Call (.Attribute o name apos) [] [] cpos) (tDm0 X T r to) := by
  refine ⟨fun pins s σ H Q I h => wpAny_Call_method0_late hbase hline (thn (ho.run pins s σ H _ I h) ?_)⟩
  rintro v s1 ⟨x, H1, I1, r1, ty, q1⟩
  obtain ⟨t1, t2⟩ := ty _ _ _ I1 r1
  exact ⟨T, id, pa, slot, hty, t1, t2, Calls.callWith_builtin rfl (PySem.evalArgs_none (hm pins s1 σ H1 x [] v [] Q I1 r1 .nil q1))⟩
theorem vals_at : ∀ {vs : List V} {us : List Value} {i : Nat} {v : V}, Vals vs us → vs[i]? = some v → ∃ u, us[i]? = some u ∧ RelV v u
  | _, _, i, _, .nil, e => by rw [List.getElem?_nil] at e; cases e
  | _, _, 0, _, .cons h _, e => by
    obtain rfl := Option.some.inj e
    exact ⟨_, rfl, h⟩
  | _, _, i + 1, _, .cons _ r, e => by
    obtain ⟨u, e1, h⟩ := vals_at (i := i) r (by simpa using e)
    exact ⟨u, by simpa using e1, h⟩
/-- the view at p of a dict's pairs -/
def itemsV (p d : Addr) : HO := .ext fun h => h.IsItemsView p d
/-- d.items() of a dict of tuples -/
def rItems (Γ : Gam) : V → List V → Hp → VK → Prop := fun x xs H Q => ∃ μ S a kvs, Sto Γ μ S H ∧ x = .ref a ∧ xs = [] ∧ DicOk Γ H μ a kvs ∧ (kvs.all fun kv => keyT kv.1) = true ∧ ∀ p, H p = none → Q (.ref p) (upd H p (itemsV p a))
theorem m_items (G : Gx Γ k X) : MtR X "dict.items" (rItems Γ) := by
  intro pins s σ H x xs v us Q I rx rxs told
  obtain ⟨μ, S, a, kvs, st, rfl, rfl, ok, kt, q⟩ := told
  cases rx
  cases rxs
  obtain ⟨zs, ds, es, vs, a1, _, _, _, _, a6, _⟩ := dicT_of G I ok kt
  obtain ⟨o, ets, ep, o1, o2, o3, _⟩ := a1
  have none_ : H s.heap.objs.size = none := I.hok.fresh (Nat.le_refl _)
  refine DT.callItems (es := ets) (ep := ep) a6 ⟨o, o1, o2, o3⟩ ⟨.ref s.heap.objs.size, upd H s.heap.objs.size (itemsV s.heap.objs.size a), I.laid (t' := s.toks) (fun b u e => Heap.get?_push_of_some _ e) (Nat.le_refl _) ⟨⟨_, Heap.get?_push_size _ rfl, rfl, rfl⟩, ⟨_, Heap.get?_push_size _ rfl⟩, fun h1 h2 w on => ?_⟩, rfl, q _ none_⟩
  obtain ⟨ob, e, r⟩ := w
  exact ⟨ob, on ob e, r⟩
def pairT (kv : PyData × PyData) : PyData := .tuple [kv.1, kv.2]
def itemsOk (kvs : List (PyData × PyData)) : Bool := (kvs.all fun kv => keyT kv.1) && (kvs.all fun kv => (nkey kv.2).isSome) && sortOk (kvs.map pairT)
def rSortI (Γ : Gam) : List V → Hp → VK → Prop := fun vs H Q => ∃ μ S p a kvs, Sto Γ μ S H ∧ vs = [.ref p] ∧ H p = some (itemsV p a) ∧ DicOk Γ H μ a kvs ∧ itemsOk kvs = true ∧ GivL Γ μ S H (sortP (kvs.map pairT)) Q
theorem pairs_rp (G : Gx Γ k X) : ∀ {zs : List (NestedKey × Addr × Value)} {as : List Addr} {ds es : List PyData} {vs : List V}, RpAll Γ H μ (zs.map fun x => V.ref x.2.1) ds → RpAll Γ H μ vs es → as.length = zs.length → vs.length = zs.length →
    (∀ (j : Nat) (a : Addr), as[j]? = some a → a ∉ μ ∧ ∃ x w, zs[j]? = some x ∧ vs[j]? = some w ∧ ∃ o, H a = some (.frz o (.tup [.ref x.2.1, w])) ∧ o.dict = none) → RpAll Γ H μ (as.map V.ref) ((ds.zip es).map pairT)
  | [], [], _, _, _, .nil, _, _, _, _ => by
    rw [List.zip_nil_left]; exact .nil
  | [], _ :: _, _, _, _, _, _, h, _, _ => by simp at h
  | _ :: _, [], _, _, _, _, _, h, _, _ => by simp at h
  | x :: zs, a :: as, _, _, [], _, _, _, h, _ => by simp at h
  | x :: zs, a :: as, _, _, v :: vs, .cons (d := d) (ds := ds) r1 t1, .cons (d := e) (ds := es) r2 t2, l1, l2, h => by
    have ih := pairs_rp G t1 t2 (by simpa using l1) (by simpa using l2) fun j b hb => by
      obtain ⟨n, x', w, h1, h2, h3⟩ := h (j + 1) b (by simpa using hb)
      exact ⟨n, x', w, by simpa using h1, by simpa using h2, h3⟩
    obtain ⟨out, x', w, h1, h2, h3⟩ := h 0 a rfl
    obtain rfl : x = x' := by simpa using h1
    obtain rfl : v = w := by simpa using h2
    exact .cons (.tup (.inl ⟨h3, out⟩) (.cons r1 (.cons r2 .nil))) ih
/-- objects that lie there already are tracked, exactly -/
theorem track {H0 : Hp} {h' : Heap} {tk : Nat} {U : Addr → HO → Prop} (I0 : Inv X pins σ H0 s) : ∀ (L : List Addr) (H1 : Hp), Inv X pins σ H1 { s with heap := h', toks := tk } → L.Nodup → (∀ a ∈ L, s.heap.objs.size ≤ a ∧ H1 a = none ∧ ∃ u, U a u ∧ ∀ H2, ObjOk X.prog X.w H2 h' a u) →
    ∃ H2, Inv X pins σ H2 { s with heap := h', toks := tk } ∧ (∀ b o, H1 b = some o → H2 b = some o) ∧ ∀ a ∈ L, ∃ u, U a u ∧ H2 a = some u
  | [], H1, I1, _, _ => ⟨H1, I1, fun _ _ e => e, fun a ha => by cases ha⟩
  | a :: L, H1, I1, nd, h => by
    obtain ⟨big, no, u, hu, ok⟩ := h a List.mem_cons_self
    obtain ⟨nin, nd2⟩ := List.nodup_cons.mp nd
    have I2 := I1.take (h' := h') (t' := tk) (fun b ob _ e => e) (I0.fpOk big no) (ok (upd H1 a u))
    obtain ⟨H2, I3, up, all⟩ := track I0 L (upd H1 a u) I2 nd2 fun c hc => by
      have ne : c ≠ a := fun z => nin (z ▸ hc)
      have hh := h c (List.mem_cons_of_mem _ hc)
      exact ⟨hh.1, by rw [upd_ne ne]; exact hh.2.1, hh.2.2⟩
    refine ⟨H2, I3, fun b o e => up b o (by rw [upd_ne (ne_of_none e no)]; exact e), fun c hc => ?_⟩
    rcases List.mem_cons.mp hc with z | z
    · exact ⟨u, z ▸ hu, z ▸ up _ _ upd_same⟩
    · exact all c z
theorem c_sortI (G : Gx Γ k X) : CallR X (.builtin "sorted") (rSortI Γ) := by
  intro pins s σ H vs us Q I; intro r h
  obtain ⟨μ, S, p, a, kvs, st, rfl, hp, ok, c, q⟩ := h
  rw [r.ref1]
  simp only [itemsOk, Bool.and_eq_true, List.all_eq_true] at c
  obtain ⟨⟨c1, c2⟩, c3⟩ := c
  obtain ⟨zs, ds, es, vs, a1, a2, a3, a4, a5, a6, a7, a8, a9, _⟩ := dicT_of G I ok (List.all_eq_true.mpr c1)
  have view : s.heap.IsItemsView p a := (I.hok p _ hp).1
  obtain ⟨ets, ep, raw, size, each⟩ := a1.raw
  obtain ⟨o, o1, o2, o3⟩ := raw
  refine DT.sortedI (es := ets) (ep := ep) (I.ok.hd G.calm) view ⟨o, o1, o2, o3⟩ (by omega) fun h' tk as on lt hl made => ?_
  have nd : as.Nodup := List.Pairwise.imp (fun h => Nat.ne_of_lt h) made.rise
  have vl : vs.length = zs.length := by have := a4.length; rw [List.length_map] at this; exact this
  have I1 : Inv X pins σ H { s with heap := h', toks := tk } := I.kept on
  -- each pair that was made
  have pair : ∀ (j : Nat) (b : Addr), as[j]? = some b → ∃ x w, zs[j]? = some x ∧ vs[j]? = some w ∧ RelV w x.2.2 ∧ h'.get? b = some { cls := .type "tuple", data := .seq #[Value.ref x.2.1, x.2.2] } := fun j b hb => by
    have hj : j < ets.size := by have := (List.getElem?_eq_some_iff.mp hb).1; omega
    obtain ⟨en, e1, e2⟩ := made.pairs j b hb
    obtain ⟨y, y1, y2, y3, _⟩ := each j hj
    rw [Array.getElem?_eq_getElem hj] at e1
    cases e1
    have hv : j < vs.length := by rw [vl]; exact (List.getElem?_eq_some_iff.mp y1).1
    obtain ⟨u, u1, u2⟩ := vals_at a4 (show vs[j]? = some vs[j] by rw [List.getElem?_eq_getElem hv])
    rw [List.getElem?_map, y1] at u1
    cases u1
    refine ⟨y, vs[j], y1, by rw [List.getElem?_eq_getElem hv], u2, ?_⟩
    rw [e2, y2, y3]
  obtain ⟨H2, I2, up, tups⟩ := track (U := fun b u => ∃ (j : Nat) (x : NestedKey × Addr × Value) (w : V) (o : Obj), as[j]? = some b ∧ zs[j]? = some x ∧ vs[j]? = some w ∧ u = .frz o (.tup [.ref x.2.1, w]) ∧ o.dict = none) I as H I1 nd fun b hb => by
    have big : s.heap.objs.size ≤ b := Nat.le_of_lt (made.above b hb)
    have ⟨j, hj⟩ := List.getElem?_of_mem hb
    obtain ⟨x, w, x1, x2, x3, x4⟩ := pair j b hj
    exact ⟨big, I.hok.fresh big, _, ⟨j, x, w, _, hj, x1, x2, rfl, rfl⟩, fun Hq => ⟨x4, by show 2 ≤ sizeLine; decide, [Value.ref x.2.1, x.2.2], .cons rfl (.cons x3 .nil), ⟨_, x4, rfl, 0, rfl⟩⟩⟩
  obtain ⟨g, s2⟩ := st.more up
  have rp : RpAll Γ H2 μ (as.map V.ref) (kvs.map pairT) := by
    rw [a9]
    refine pairs_rp G (a2.go g) (a5.go g) (by omega) vl fun j b hb => ?_
    obtain ⟨_, ⟨j', x, w, ob, e1, e2, e3, rfl, od⟩, h2⟩ := tups b (List.mem_of_getElem? hb)
    have same : j' = j := by
      obtain ⟨i1, f1⟩ := List.getElem?_eq_some_iff.mp hb
      obtain ⟨i2, f2⟩ := List.getElem?_eq_some_iff.mp e1
      exact (List.getElem_inj nd).mp (f2.trans f1.symm)
    subst same
    exact ⟨st.out (I.hok.fresh (Nat.le_of_lt (made.above b (List.mem_of_getElem? hb)))), x, w, e2, e3, ob, h2, od⟩
  have keys : ∀ d ∈ kvs.map pairT, (nkey d).isSome = true := fun d hd => by
    obtain ⟨kv, hkv, rfl⟩ := List.mem_map.mp hd
    have k1 := keyT_key (c1 kv hkv)
    have k2 := c2 kv hkv
    obtain ⟨n1, e1⟩ := Option.isSome_iff_exists.mp k1
    obtain ⟨n2, e2⟩ := Option.isSome_iff_exists.mp k2
    simp [pairT, nkey, nkeys, e1, e2]
  have vz : Vals (as.map V.ref) (as.map Value.ref) := vals_refs (fun a : Addr => a) as
  exact sort_tail (s := { s with heap := h', toks := tk }) G I2 s2 vz rp keys c3 fun μ' H' ws g' s' r' c hc => q μ' H' ws (g.trans g') s' r' c hc
def gSortItems (o : D) (S : Store) : Option (List PyData) := (viewD S o).bind fun kvs => if itemsOk kvs = true then some (sortP (kvs.map pairT)) else none
def lSortItems (fo : M D) : M (List PyData) := fo.bind fun o => fun _ S => .of S (gSortItems o S)
theorem l_sortItems {o : Expr} {fo : M D} {p apos pos pos2 : Pos} (G : Gx Γ k X) (hg : Gl X "sorted") (hm : Γ.mg "sorted" = none) (ho : PE X o (rdE Γ W fo)) (hbase : attributeBase o "items" X.env (eval o X.env) = eval o X.env) (hline : (apos.endLine == pos2.line) = true)
    (he : starEach [.Call (.Attribute o "items" apos) [] [] pos2] X.env = [(false, eval (.Call (.Attribute o "items" apos) [] [] pos2) X.env)]) (hpl : (backTo pos (starEach [] X.env)).any (·.1) = false) :
    PE X (.Call (.Name "sorted" p) [.Call (.Attribute o "items" apos) [] [] pos2] [] pos) (rdL Γ W (lSortItems fo)) := by
  have m1 : X.mg "sorted" = none := by rw [G.mg]; exact hm
  have it := pe_dm0 (apos := apos) (cpos := pos2) PySem.F.plainAttrs_dict PySem.F.slot_dict_items PySem.F.type_dict_items (m_items G) ho hbase hline
  refine PE.mono (pe_callB (c_sortI G) hg m1 (by decide +kernel) (pa_cons it pa_nil) (by decide +kernel) (by decide +kernel) he hpl) fun σ H Q h => ?_
  show tDm0 X "dict" (rItems Γ) (rdE Γ W fo) σ H fun v H1 => rSortI Γ [v] H1 Q
  refine rd.cut h fun μ ρ H1 S1 d x R1 rx f1 => ?_
  obtain ⟨ds, ed, f3⟩ := f1.of
  unfold gSortItems at ed
  obtain ⟨kvs, ek, ed⟩ := Option.bind_eq_some_iff.mp ed
  split at ed
  · rename_i c
    cases ed
    obtain ⟨a, rfl, ok⟩ := viewD_at R1.sto rx ek
    refine ⟨dic_ty R1.sto rx (by unfold dicD; rw [ek]; rfl), μ, S1, a, kvs, R1.sto, rfl, rfl, ok, ?_, fun p hp => ?_⟩
    · simp only [itemsOk, Bool.and_eq_true] at c; exact c.1.1
    · have go := Go.lay μ hp (itemsV p a)
      have st2 := R1.sto.lay hp (itemsV p a)
      obtain ⟨b, eb, ok2⟩ := viewD_at st2 (rx.go go) ek
      cases eb
      exact ⟨μ, S1, p, a, kvs, st2, rfl, upd_same, ok2, c, fun μ' H' vs g' s' r' c hc => f3 μ' H' vs (go.trans g') s' r' c hc⟩
  · cases ed
end
end Fp

set_option Elab.async false
set_option linter.all false
set_option autoImplicit false
set_option maxRecDepth 100000
set_option maxHeartbeats 2300000
/-! Fp: dict(a tuple of pairs), keys that are tuples. -/
namespace Fp
open PySem PySem.Spec L2 PyProof.Rows
section
variable {Γ : Gam} {k : Nat} {W : WX} {μ μ' ν : List Addr} {S S' : Store} {H H' : Hp} {σ : L2.St} {ρ : Slots} {X : Cx} {pins : List (Addr × Obj)} {s : Shared}
def gDictT (as : List D) (S : Store) : Option (List (PyData × PyData)) := match as with
  | [.p (.tuple xs)] => (pairsOf xs).bind fun l => if (l.all fun kv => keyT kv.1) = true then some (dsets l []) else none
  | _ => none
theorem plain_tup (G : Gx Γ k X) (I : Inv X pins σ H s) {a : Addr} {vs : List V} (h : FzX Γ.K H μ a vs) : ∃ us, Vals vs us ∧ vs.length ≤ sizeLine ∧ PlainSeq "tuple" s.heap a us.toArray := by
  obtain ⟨us, r, ⟨o, e, c, n, dt⟩, few⟩ := I.tuple (show SqT X.K H a vs by rw [G.K]; exact h.sq)
  refine ⟨us, r, few, o, n, e, c, ?_, dt⟩
  rcases h with ⟨⟨q, e2, d2⟩, _⟩ | ⟨_, q, e2, d2⟩
  · have := (I.hok a _ e2).1
    rw [e] at this
    cases this
    exact d2
  · have := I.kIn a q (by rw [G.K]; exact e2)
    rw [e] at this
    cases this
    exact d2
theorem c_dictT (G : Gx Γ k X) : CallR X (.type "dict") (rDct Γ gDictT) := by
  intro pins s σ H xs us Q I
  intro r h
  obtain ⟨μ, S, as, kvs, st, ra, e, q⟩ := h
  unfold gDictT at e
  split at e
  · rename_i zs
    obtain ⟨l, e2, e⟩ := Option.bind_eq_some_iff.mp e
    split at e
    · rename_i hT
      cases e
      obtain ⟨v, rfl, rv⟩ := ra.one
      cases rv with
      | p hp =>
      cases hp with
      | tup h1 h2 =>
      rename_i a' vs
      rw [r.ref1]
      obtain ⟨its, rv', few, ol, n, ho, hc, hd, hdat⟩ := plain_tup G I h1
      obtain ⟨Ts, ps, ws, i1, i2, i3, i4, i5, i6, i7, i8⟩ := pairs_T G I h2 rv' e2 hT
      subst i1
      have len := rv'.length
      rw [List.length_map] at len
      have tsj : ∀ {j : Nat}, j < Ts.length → Ts[j]? = some (Ts.getD j 0) := fun {j} hj => by
        rw [List.getD_eq_getElem?_getD, List.getElem?_eq_getElem hj]; rfl
      have un := G.room.un
      have new : H s.heap.objs.size = none := I.hok.fresh (Nat.le_refl _)
      have hm : (s.heap.objs.size == sysModules) = false := by
        rw [beq_eq_false_iff_ne]
        exact Nat.ne_of_gt I.big
      refine call_dict_pairsH (knd := nestedKind X.prog X.w) (ps := ps) (PairArg.tuple a' (Ts.map Value.ref).toArray (fun j => Ts.getD j 0) (ps.map fun x => (Value.ref x.2.1, x.2.2))) (I.ok.hd G.calm) (by show X.A.units + 1 + 1 + 8 < cLine; omega)
        ⟨⟨ol, n, ho, hc, hd, hdat⟩, by simp [i2], fun j kk vv ej => ?_⟩ ⟨by simp, fun i key v er => ?_⟩ (fun h' on x hx => ?_) (by rw [List.length_map]; omega) fun h' tk dd on => ?_
      · obtain ⟨x, ex, ee⟩ := Option.map_eq_some_iff.mp ((List.getElem?_map ..).symm.trans ej)
        cases ee
        have hj : j < Ts.length := i2 ▸ (List.getElem?_eq_some_iff.mp ex).1
        refine ⟨?_, .inl (i3 j _ x (tsj hj) ex)⟩
        rw [List.getElem?_toArray, List.getElem?_map, tsj hj]; rfl
      · obtain ⟨x, ex, ee⟩ := Option.map_eq_some_iff.mp ((List.getElem?_map ..).symm.trans (show (ps.map fun x => (Value.ref x.2.1, x.2.2))[i]? = some (key, v) from er))
        cases ee
        exact ⟨x.1, x.2.1, by rw [ex], rfl⟩
      · obtain ⟨j1, j2⟩ := i4 x hx
        exact ⟨NestedIs.at (fun b ob vs n hb hc => on b ob (Nat.ne_of_lt (Heap.lt_size hb)) (by simp) hb) _ _ j1, j2⟩
      · have kp : ∀ b o, s.heap.get? b = some o → h'.get? b = some o := fun b o e => on b o (by simp) e
        obtain ⟨ds', es', vs', m1, m2, m3, m4, m5⟩ := merge_T i5 i6 i7 i8 (acc := []) (ds := []) (es := []) (vs := []) .nil rfl .nil .nil
        obtain ⟨ob, es2, ep, g1, g2, g3, g4, g5, g6⟩ := dd
        by_cases z : ps = []
        · subst z
          have ln : l = [] := by have := i5.length; cases l <;> simp at this ⊢
          obtain rfl : es2 = #[] := by simpa [storedAllH] using g4
          have ga := Go.alloc μ new (.dK [])
          refine ⟨.ref s.heap.objs.size, upd H s.heap.objs.size (.dK []), I.laid (t' := tk) kp (Nat.le_refl _) (dk_new (Nat.zero_le _) hm .nil ⟨ob, #[], ep, g1, g2, g3, by intro e he; simp at he, .nil, by simp⟩), rfl, q _ _ new ?_⟩
          subst ln
          exact ⟨[], [], none, [], [], ⟨[], upd_same, rfl, rfl⟩, .nil, .nil, rfl, fun ns z => by cases z⟩
        · have ga := Go.alloc μ new (dicT Γ.P Γ.w s.heap.objs.size (storedAllH [] ps))
          refine ⟨.ref s.heap.objs.size, upd H s.heap.objs.size (dicT Γ.P Γ.w s.heap.objs.size (storedAllH [] ps)), I.laid (t' := tk) kp (Nat.le_refl _) ⟨⟨ob, es2, ep, g1, g2, g3, by rw [← G.P, ← G.w]; exact g4⟩, ⟨ob, g1⟩, fun ha hb hc hd => ?_⟩, rfl, q _ _ new ?_⟩
          · obtain ⟨o2, es3, ep3, j1, j2⟩ := hc
            exact ⟨o2, es3, ep3, hd _ j1, j2⟩
          · have sl := Fp.storedAllH_len ps []
            rw [List.length_nil] at sl
            exact ⟨_, vs', some _, ds', es', ⟨_, upd_same, rfl, rfl, m3, hm, by omega, g6, storedAllH_depth (fun x hx => by cases hx) fun x hx => (i4 x hx).2, storedAllH_ne (.inl z)⟩, m1.go ga, m4.go ga, m5, fun ns z => by cases z; exact m2⟩
    · cases e
  · cases e
theorem e_dictT {th : Bool} (G : Gx Γ k X) {e : Expr} {es : List Expr} {f : M (List D)} {p pos : Pos} (hg : Gl X "dict") (hm : Γ.mg "dict" = none) (ha : PA X (e :: es) (rdA Γ W f))
    (he : starEach (e :: es) X.env = (false, eval e X.env) :: starEach es X.env) (hpl : (backTo pos (starEach es X.env)).any (·.1) = false) : PE X (.Call (.Name "dict" p) (e :: es) [] pos) (rdE Γ W (eDictOf th gDictT f)) :=
  PE.mono (pe_callTy (c_dictT G) hg (by rw [G.mg]; exact hm) (by decide +kernel) ha (by decide +kernel) (by decide +kernel) he hpl) fun σ H Q h => dct_of h
theorem l_sortDict (G : Gx Γ k X) {e : Expr} {f : M (List D)} {p pos : Pos} (hg : Gl X "sorted") (hm : Γ.mg "sorted" = none) (ha : PA X [e] (rdA Γ W f)) (he : starEach [e] X.env = [(false, eval e X.env)]) (hpl : (backTo pos (starEach [] X.env)).any (·.1) = false) :
    PE X (.Call (.Name "sorted" p) [e] [] pos) (rdL Γ W (lNs gSortDict f)) := by
  refine PE.mono (pe_callB (c_sortDict G) hg (by rw [G.mg]; exact hm) (by decide +kernel) ha (by decide +kernel) (by decide +kernel) he hpl) fun σ H Q h => ?_
  refine rd.cut h fun μ ρ H1 S1 as xs R1 ra f1 => ?_
  obtain ⟨ds, ed, f3⟩ := f1.of
  exact ⟨μ, S1, as, ds, R1.sto, ra, ed, fun μ' H' vs g' s' r' c hc => f3 μ' H' vs g' s' r' c hc⟩
end
end Fp

set_option Elab.async false
set_option linter.all false
set_option autoImplicit false
set_option maxRecDepth 100000
set_option maxHeartbeats 2300000
/-! Fp: name = {k: v for ..} on one line. -/
namespace Fp
open PySem PySem.Spec L2 PyProof.Rows
section
variable {Γ : Gam} {k : Nat} {W : WX} {μ μ' ν : List Addr} {S S' : Store} {H H' : Hp} {σ : L2.St} {ρ : Slots} {X : Cx} {pins : List (Addr × Obj)} {s : Shared}
theorem swD_true {kx vx : Expr} {gs : List Comprehension} {scope : Scope} {pos py : Pos} {y : Str} {l : Nat} {env : Env} (hk : env.scope.kind = .function) (hy : env.scope.names.lookup y = some .local) (hl : (py.line == pos.line) = true) (ha : (scope.names.any fun (n, k) => n == y && (k == .local || k == .cell)) = false) :
    swapsWith (.DictComp kx vx gs scope pos) (some (.Name y py)) l env = pure true := by
  have e1 : env.kindOf y = some .local := hy
  have e2 : env.blockKind = .function := by unfold Env.blockKind; rw [hk]; rfl
  unfold swapsWith
  simp only [e1, e2, ha, hl, Expr.pos]; rfl
/-- what comes of a name's store behind a comprehension -/
theorem post_name {i : Nat} {y : Str} {py : Pos} {D : Ends} {L C : Addr} {z : Shared} {m : Str → Option Value} {H' : Hp} (hN : X.N.Nodup) (hy : X.N[i]? = some y) (hyl : X.env.scope.names.lookup y = some .local) (I : Inv X pins σ H' z) (q : gName i (.ref L) σ H' D.nx) (ns : z.heap.Ns C m) (f : FpOk X pins H' C) :
    compPost (model X.prog X.w) X.A X.xe (some (assign (.Name y py) X.env)) (fun _ s' => SP X pins D .next s') (.ref L) C (.ok .next) z := by
  show wpAny _ _ (assign (.Name y py) X.env (.ref L)) _ _ z
  refine wpAny_assign_Name (store_ok2 (v := V.ref L) I hN hy (.inl hyl) rfl (fun s2 I2 ⟨a, sb, ha⟩ => ?_) (.inr hyl))
  obtain ⟨f0, f1, _, f3, f4, f5⟩ := f
  have apart : C ≠ a := ha.elim (fun w => w ▸ f1) fun w e => f4 y a w e.symm
  exact ⟨m, ns.sameBut sb apart, fun h3 sb3 => ⟨_, H', I2.turned (t' := s2.toks) (fun b o hb e => (sb3.2 b hb).trans e) f0 f1 f3 f4 f5, q⟩⟩
theorem s_setDComp {th : Bool} {i : Nat} {y : Str} {py : Pos} {kx vx tg iter : Expr} {ifs : List Expr} {scope : Scope} {own : List (Str × Nat)} {pos spos : Pos} {fi : MI} {t : Tm} {c : M Bool} {fk fv : M D} {is : List Nat} (G : Gx Γ k X) (hy : X.N[i]? = some y) (hyl : X.env.scope.names.lookup y = some .local)
    (hsw : swapsWith (.DictComp kx vx [⟨tg, iter, ifs, 0⟩] scope pos) (some (.Name y py)) spos.line X.env = pure true) (hi : PI X tg iter (rdI Γ W fi)) (ok : BlkOk X.N X.env.scope scope own) (hv : ∀ i ∈ is, i ∈ own.map (·.2))
    (hg : ∀ (s : Shared) (H : Hp) (C : Addr) (cl : List (Str × Addr)) (fp : List Addr), PG (X.blk s H scope (compEnvC scope cl C X.env) fp) tg (rdGi Γ is t)) (ht : ∀ (s : Shared) (H : Hp) (C : Addr) (cl : List (Str × Addr)) (fp : List Addr), PTs (X.blk s H scope (compEnvC scope cl C X.env) fp) ifs (rdT Γ wNo c))
    (hk : ∀ (s : Shared) (H : Hp) (C : Addr) (cl : List (Str × Addr)) (fp : List Addr), PE (X.blk s H scope (compEnvC scope cl C X.env) fp) kx (rdE Γ wNo fk)) (he : ∀ (s : Shared) (H : Hp) (C : Addr) (cl : List (Str × Addr)) (fp : List Addr), PE (X.blk s H scope (compEnvC scope cl C X.env) fp) vx (rdE Γ wNo fv)) (hs : ∀ x, foldedSetIterable iter X.env x = pure x) :
    PS X (.Assign [.Name y py] (.DictComp kx vx [⟨tg, iter, ifs, 0⟩] scope pos) spos) (rdS Γ W (sAsg (tName i) (eDComp th fi t c fk fv (own.map (·.2))))) := by
  constructor
  intro pins s σ H D I h
  have h2 : tGen (fun _ => .dK []) (tbD Γ (rdT Γ wNo c) (rdE Γ wNo fk) (rdE Γ wNo fv)) (rdI Γ W fi) (rdGi Γ is t) (own.map (·.2)) σ H fun x H1 => gName i x σ H1 D.nx := by
    have q := asg_of h
    refine dcomp_of (th := th) hv ?_
    obtain ⟨μ, ρ, S, R, f⟩ := q
    refine ⟨μ, ρ, S, R, ?_⟩
    cases e : eDComp th fi t c fk fv (own.map (·.2)) ρ S with
    | bad => rw [e] at f; exact f
    | exc _ _ => rw [e] at f; exact f
    | ok d S' =>
      rw [e] at f
      exact fun μ' H' v g st r => gName_eq rfl (f μ' H' v g st r)
  rw [exec_Assign_Name_used (hs := hsw)]; refine wpAny_bind (wpAny_standAt (wpAny_bind ?_))
  show wpAny _ X.A (do let _ ← comprehension (.DictComp kx vx [⟨tg, iter, ifs, 0⟩] scope pos) scope X.env (firstIterPos [⟨tg, iter, ifs, 0⟩] pos) newDict false (eval iter X.env) (some (assign (.Name y py) X.env))) _ _ s
  refine wpAny_bind (thn (gen_core (Qf := fun _ s' => SP X pins D .next s') (o0 := { cls := .type "dict", data := .dict #[] }) G.calm G.nd I hi ok dc_node (fun Q z q => wpAny_newObj_type q) (fun h H big => dk_empty h big) hg ?_ hs h2 fun L C z m H' I' q ns f => post_name G.nd hy hyl I' q ns f) fun _ z hq => wpAny_pure (wpAny_pure hq))
  intro s0 H0 C cl fp D pins s σ H Nx I q
  refine thnF ((ht s0 H0 C cl fp).run _ s σ H _ I q) ?_
  rintro b s1 ⟨H1, I1, q1⟩
  cases b with
  | false => exact ⟨H1, I1, q1⟩
  | true =>
    refine thnF ((hk s0 H0 C cl fp).run _ s1 σ H1 _ I1 q1) ?_
    rintro a s2 ⟨y, H2, I2, r2, q2⟩
    refine thnF ((he s0 H0 C cl fp).run _ s2 σ H2 _ I2 q2) ?_
    rintro b s3 ⟨z, H3, I3, r3, q3⟩
    exact dset_ok G.blk I3 r2 r3 q3
end
end Fp

set_option linter.all false
set_option autoImplicit false
set_option maxRecDepth 100000
/-! Fp: the new words for the evaluator. -/
namespace Fp
open PySem
/-- the filling of a list by the items from i on -/
theorem compF_run {α : Type} {t : Tm} {c : M Bool} {fe : M D} {ρ : Slots} {S : Store} {a : Nat × ItF} (l : List α) (e : α → D) (p : α → Bool) (g : α → PyData) (wk : WalkC (fun S' => ∃ acc, S' = S ++ [.lst acc]) a (l.map e))
    (h : ∀ x ∈ l, ∀ acc, ∃ ρ1, t (e x) ρ (S ++ [.lst acc]) = some ρ1 ∧ c ρ1 (S ++ [.lst acc]) = .ok (p x) (S ++ [.lst acc]) ∧ (p x = true → fe ρ1 (S ++ [.lst acc]) = .ok (.p (g x)) (S ++ [.lst acc]))) (acc : List PyData) (few : acc.length + l.length ≤ sizeLine) :
    compF t c fe a.2 S.length ρ a.1 0 (S ++ [.lst acc]) = some (S ++ [.lst (acc ++ (l.filter p).map g)]) := by
  have cut : ∀ l : List PyData, (S ++ [MO.lst l]).take (S.length + 1) = S ++ [.lst l] := fun l => List.take_of_length_le (by simp)
  have key : ∀ (m i : Nat) (acc : List PyData), l.length + 1 ≤ m + i → i ≤ l.length → acc.length + (l.length - i) ≤ sizeLine → compF t c fe a.2 S.length ρ m i (S ++ [.lst acc]) = some (S ++ [.lst (acc ++ ((l.drop i).filter p).map g)]) := by
    intro m
    induction m with
    | zero => intro i acc e1 e0 e2; omega
    | succ m ih =>
      intro i acc e1 e0 e2
      unfold compF
      rw [wk.at_ i _ ⟨acc, rfl⟩ (by simpa using e0), List.getElem?_map]
      by_cases hi : i < l.length
      · obtain ⟨ρ1, h1, h2, h3⟩ := h l[i] (List.getElem_mem hi) acc
        rw [List.getElem?_eq_getElem hi]
        simp only [Option.map_some, h1, h2, List.drop_eq_getElem_cons hi]
        cases ep : p l[i] with
        | false =>
          simp only
          rw [cut, ih (i + 1) acc (by omega) hi (by omega), List.filter_cons_of_neg (by simp [ep])]
        | true =>
          have hn : (S ++ [MO.lst acc])[S.length]? = some (.lst acc) := by rw [List.getElem?_append_right (Nat.le_refl _), Nat.sub_self]; rfl
          simp only [h3 ep, hn, frz]
          have hset : (S ++ [MO.lst acc]).set S.length (.lst (acc ++ [g l[i]])) = S ++ [.lst (acc ++ [g l[i]])] := by
            rw [List.set_append_right _ _ (Nat.le_refl _), Nat.sub_self]; rfl
          rw [if_pos (by omega), cut, hset, ih (i + 1) _ (by omega) hi (by simp; omega), List.filter_cons_of_pos ep]
          simp
      · rw [List.getElem?_eq_none (by omega), List.drop_eq_nil_of_le (by omega)]
        simp
  have fu := wk.fuel
  rw [List.length_map] at fu
  simpa using key a.1 0 acc (by omega) (by omega) (by omega)
/-- a list comprehension of two clauses that changes nothing -/
theorem comp2_rule {α β : Type} {fi : MI} {t : Tm} {fi1 : MI} {t1 : Tm} {c1 : M Bool} {fe : M D} {vs vs1 : List Nat} {ρ : Slots} {S : Store} {a : Nat × ItF} (l : List α) (e : α → D) (m : α → List β) (e1 : β → D) (p : α → β → Bool) (g : α → β → PyData) (src : fi ρ S = .ok a S)
    (wk : WalkC (fun S' => ∃ acc, S' = S ++ [.lst acc]) a (l.map e)) (few : (l.flatMap m).length ≤ sizeLine)
    (h : ∀ x ∈ l, ∀ acc, ∃ ρ1 a1, t (e x) (wipeD ρ vs) (S ++ [.lst acc]) = some ρ1 ∧ fi1 ρ1 (S ++ [.lst acc]) = .ok a1 (S ++ [.lst acc]) ∧ WalkC (fun S' => ∃ acc, S' = S ++ [.lst acc]) a1 ((m x).map e1) ∧
      ∀ y ∈ m x, ∀ acc, ∃ ρ2, t1 (e1 y) (wipeD ρ1 vs1) (S ++ [.lst acc]) = some ρ2 ∧ c1 ρ2 (S ++ [.lst acc]) = .ok (p x y) (S ++ [.lst acc]) ∧ (p x y = true → fe ρ2 (S ++ [.lst acc]) = .ok (.p (g x y)) (S ++ [.lst acc]))) :
    eComp2 false fi t tYesM fi1 t1 c1 fe vs vs1 ρ S = .ok (.p (.list (l.flatMap fun x => ((m x).filter (p x)).map (g x)))) S := by
  have cut : ∀ l : List PyData, (S ++ [MO.lst l]).take (S.length + 1) = S ++ [.lst l] := fun l => List.take_of_length_le (by simp)
  have key : ∀ (k i : Nat) (acc : List PyData), l.length + 1 ≤ k + i → i ≤ l.length → acc.length + ((l.drop i).flatMap m).length ≤ sizeLine →
      comp2F t tYesM fi1 t1 c1 fe a.2 S.length vs1 (wipeD ρ vs) k i (S ++ [.lst acc]) = some (S ++ [.lst (acc ++ (l.drop i).flatMap fun x => ((m x).filter (p x)).map (g x))]) := by
    intro k
    induction k with
    | zero => intro i acc e1 e0 e2; omega
    | succ k ih =>
      intro i acc h1 h0 h2
      unfold comp2F
      rw [wk.at_ i _ ⟨acc, rfl⟩ (by simpa using h0), List.getElem?_map]
      by_cases hi : i < l.length
      · obtain ⟨ρ1, a1, g1, g2, g3, g4⟩ := h l[i] (List.getElem_mem hi) acc
        rw [List.getElem?_eq_getElem hi]
        rw [List.drop_eq_getElem_cons hi, List.flatMap_cons, List.length_append] at h2
        simp only [Option.map_some, g1, v_yes, cut, g2, List.length_append, List.length_cons, List.length_nil, if_true]
        rw [compF_run (m l[i]) e1 (p l[i]) (g l[i]) g3 g4 acc (by omega)]
        simp only
        rw [ih (i + 1) _ (by omega) hi ?_, List.drop_eq_getElem_cons hi, List.flatMap_cons]
        · simp
        · have := List.length_filter_le (p l[i]) (m l[i])
          simp only [List.length_append, List.length_map] at h2 ⊢
          omega
      · rw [List.getElem?_eq_none (by omega), List.drop_eq_nil_of_le (by omega)]
        simp
  show (fi ρ S).bind (fun a S => endC false S.length (comp2F t tYesM fi1 t1 c1 fe a.2 S.length vs1 (wipeD ρ vs) a.1 0 (S ++ [.lst []]))) = _
  have fu := wk.fuel
  rw [List.length_map] at fu
  rw [src, v_bind, key a.1 0 [] (by omega) (by omega) (by simpa using few)]
  simp [endC]
/-- a set comprehension that changes nothing -/
theorem sc_rule {α β : Type} {fi : MI} {t : Tm} {c : M Bool} {fe : M D} {vs : List Nat} {ρ : Slots} {S : Store} {a : Nat × ItF} (G : List PyData → Option β) (l : List α) (e : α → D) (p : α → Bool) (g : α → PyData) (src : fi ρ S = .ok a S) (wk : WalkC (fun S' => S' = S) a (l.map e)) (few : l.length ≤ 63) (keys : ∀ x ∈ l, keyT (g x) = true)
    (h : ∀ x ∈ l, ∃ ρ1, t (e x) (wipeD ρ vs) S = some ρ1 ∧ c ρ1 S = .ok (p x) S ∧ (p x = true → fe ρ1 S = .ok (.p (g x)) S)) : sComp G fi t c fe vs ρ S = .of S (G (dedupP ((l.filter p).map g))) := by
  have key : ∀ (m i : Nat) (acc : List PyData), l.length + 1 ≤ m + i → i ≤ l.length → acc.length ≤ i → scF t c fe a.2 S.length (wipeD ρ vs) m i acc S = some (acc ++ ((l.drop i).filter p).map g, S) := by
    intro m
    induction m with
    | zero => intro i acc e1 e0 e2; omega
    | succ m ih =>
      intro i acc e1 e0 e2
      unfold scF
      rw [wk.at_ i _ rfl (by simpa using e0), List.getElem?_map]
      by_cases hi : i < l.length
      · obtain ⟨ρ1, h1, h2, h3⟩ := h l[i] (List.getElem_mem hi)
        rw [List.getElem?_eq_getElem hi]
        simp only [Option.map_some, h1, h2, List.drop_eq_getElem_cons hi, List.take_length]
        cases ep : p l[i] with
        | false =>
          simp only
          rw [List.take_length, ih (i + 1) acc (by omega) hi (by omega), List.filter_cons_of_neg (by simp [ep])]
        | true =>
          simp only [h3 ep, frz, List.take_length]
          rw [if_pos ⟨keys _ (List.getElem_mem hi), by omega⟩, ih (i + 1) _ (by omega) hi (by simp; omega), List.filter_cons_of_pos ep]
          simp
      · rw [List.getElem?_eq_none (by omega), List.drop_eq_nil_of_le (by omega)]
        simp
  have fu := wk.fuel
  rw [List.length_map] at fu
  show (fi ρ S).bind (fun a S => match scF t c fe a.2 S.length (wipeD ρ vs) a.1 0 [] S with | some r => .of r.2 (G (dedupP r.1)) | none => .bad) = _
  rw [src, v_bind, key a.1 0 [] (by omega) (by omega) (by simp)]
  simp
/-- a dict comprehension that changes nothing else -/
theorem dcF_run {α : Type} {t : Tm} {c : M Bool} {fk fv : M D} {ρ : Slots} {S : Store} {a : Nat × ItF} (l : List α) (e : α → D) (p : α → Bool) (kf vf : α → PyData) (wk : WalkC (fun S' => ∃ acc, S' = S ++ [.dic acc]) a (l.map e)) (few : l.length ≤ sizeLine)
    (fit : ∀ (l1 : List α) (x : α), (∀ y ∈ l1, y ∈ l) → x ∈ l → keyOk (dsets (l1.map fun y => (kf y, vf y)) []) (kf x) = true) (len : ∀ l1 : List α, (dsets (l1.map fun y => (kf y, vf y)) []).length ≤ l1.length)
    (h : ∀ x ∈ l, ∀ acc, ∃ ρ1, t (e x) ρ (S ++ [.dic acc]) = some ρ1 ∧ c ρ1 (S ++ [.dic acc]) = .ok (p x) (S ++ [.dic acc]) ∧ (p x = true → fk ρ1 (S ++ [.dic acc]) = .ok (.p (kf x)) (S ++ [.dic acc]) ∧ fv ρ1 (S ++ [.dic acc]) = .ok (.p (vf x)) (S ++ [.dic acc]))) :
    dcF t c fk fv a.2 S.length ρ a.1 0 (S ++ [.dic []]) = some (S ++ [.dic (dsets ((l.filter p).map fun x => (kf x, vf x)) [])]) := by
  have cut : ∀ l : List (PyData × PyData), (S ++ [MO.dic l]).take (S.length + 1) = S ++ [.dic l] := fun l => List.take_of_length_le (by simp)
  have key : ∀ (m i : Nat) (l1 : List α), l.length + 1 ≤ m + i → i ≤ l.length → l1.length ≤ i → (∀ y ∈ l1, y ∈ l) →
      dcF t c fk fv a.2 S.length ρ m i (S ++ [.dic (dsets (l1.map fun y => (kf y, vf y)) [])]) = some (S ++ [.dic (dsets ((l1 ++ (l.drop i).filter p).map fun x => (kf x, vf x)) [])]) := by
    intro m
    induction m with
    | zero => intro i l1 e1 e0 e2; omega
    | succ m ih =>
      intro i l1 e1 e0 e2 e3
      unfold dcF
      rw [wk.at_ i _ ⟨_, rfl⟩ (by simpa using e0), List.getElem?_map]
      by_cases hi : i < l.length
      · obtain ⟨ρ1, h1, h2, h3⟩ := h l[i] (List.getElem_mem hi) (dsets (l1.map fun y => (kf y, vf y)) [])
        rw [List.getElem?_eq_getElem hi]
        simp only [Option.map_some, h1, h2, List.drop_eq_getElem_cons hi]
        cases ep : p l[i] with
        | false =>
          simp only
          rw [cut, ih (i + 1) l1 (by omega) hi (by omega) e3, List.filter_cons_of_neg (by simp [ep])]
        | true =>
          obtain ⟨h4, h5⟩ := h3 ep
          have hn : (S ++ [MO.dic (dsets (l1.map fun y => (kf y, vf y)) [])])[S.length]? = some (.dic (dsets (l1.map fun y => (kf y, vf y)) [])) := by rw [List.getElem?_append_right (Nat.le_refl _), Nat.sub_self]; rfl
          have ok : keyOk (dsets (l1.map fun y => (kf y, vf y)) []) (kf l[i]) = true ∧ (dsets (l1.map fun y => (kf y, vf y)) []).length < sizeLine := ⟨fit l1 _ e3 (List.getElem_mem hi), by have := len l1; omega⟩
          have put : gDs S.length (kf l[i]) (vf l[i]) (S ++ [MO.dic (dsets (l1.map fun y => (kf y, vf y)) [])]) = some (S ++ [.dic (dsets ((l1 ++ [l[i]]).map fun y => (kf y, vf y)) [])]) := by
            unfold gDs
            rw [hn]
            simp only
            rw [if_pos ok, List.set_append_right _ _ (Nat.le_refl _), Nat.sub_self, List.map_append]
            simp [dsets]
          simp only [v_mbind, h4, h5, v_bind, frz, Option.bind_some, cut, put, v_of]
          rw [ih (i + 1) (l1 ++ [l[i]]) (by omega) hi (by simp; omega) (fun y hy => ?_), List.filter_cons_of_pos ep]
          · simp
          · rcases List.mem_append.mp hy with z | z
            · exact e3 y z
            · rw [List.mem_singleton.mp z]; exact List.getElem_mem hi
      · rw [List.getElem?_eq_none (by omega), List.drop_eq_nil_of_le (by omega)]
        simp
  have fu := wk.fuel
  rw [List.length_map] at fu
  have := key a.1 0 [] (by omega) (by omega) (by simp) (fun y hy => by cases hy)
  simpa [dsets] using this
@[simp] theorem v_tTupPr (n : Nat) (u : Tms) (xs : List PyData) (ρ : Slots) (S : Store) : tTupM n u (.pr xs) ρ S = if xs.length = n then u (xs.map .p) ρ S else none := id rfl
@[simp] theorem v_dm (g : Gm) (o : M D) (a : M (List D)) (ρ : Slots) (S : Store) : eDm g o a ρ S = (o ρ S).bind fun d S1 => if dicD S1 d = true then (a ρ S1).bind fun as S2 => outM (g d as S2) else .bad := id rfl
@[simp] theorem v_sortItems (o : M D) (ρ : Slots) (S : Store) : lSortItems o ρ S = (o ρ S).bind fun d S1 => .of S1 (gSortItems d S1) := id rfl
@[simp] theorem v_eAnd (f g : M D) (ρ : Slots) (S : Store) : eAnd f g ρ S = (f ρ S).bind fun a S1 => match truD S1 a with
  | some true => g ρ S1
  | some false => .ok a S1
  | none => .bad := id rfl
@[simp] theorem v_eOr (f g : M D) (ρ : Slots) (S : Store) : eOr f g ρ S = (f ρ S).bind fun a S1 => match truD S1 a with
  | some true => .ok a S1
  | some false => g ρ S1
  | none => .bad := id rfl
end Fp

set_option Elab.async false
set_option linter.all false
set_option autoImplicit false
set_option maxRecDepth 100000
set_option maxHeartbeats 2300000
/-! Fp: raise C(e) of an own class whose __init__ calls its base's and keeps one field; try .. except C as n: x = n.f -/
namespace Fp
open PySem PySem.Spec L2 PyProof.Rows
section
variable {Γ : Gam} {k : Nat} {W : WX} {μ μ' ν : List Addr} {S S' : Store} {H H' : Hp} {σ : L2.St} {ρ : Slots} {X : Cx} {pins : List (Addr × Obj)} {s : Shared}
/-- what is known of a class over ValueError, ahead of its own errors -/
structure BaseC (K : PySem.W.Frag) (mg : Str → Option Value) (b : Str) (B : Addr) : Prop where
  g : mg b = some (.ref B)
  sp : PySem.W.specialIn K (.ref B) "__getattribute__" = some (some (.builtin "type.__getattribute__"))
  ty : PySem.W.typeIn K (.ref B) = some (.type "type")
  rd : PySem.W.readsIn K B (.type "type") = true
  ini : PySem.W.findCls K (.ref B) (.type "type") "__init__" = some (.val (.builtin "ValueError.__init__"))
/-- B.__init__(self, ..) -/
theorem pe_clsinit {b : Str} {B : Addr} {e : Expr} {es : List Expr} {ta : TA} {p1 p2 pos : Pos} {pl : Sem Bool} (T : BaseC X.K X.mg b B) (hg : Gl X b) (hd : (b == ("__debug__" : Str)) = false) (ha : PA X (e :: es) ta)
    (hc : eval (.Call (.Attribute (.Name b p1) "__init__" p2) (e :: es) [] pos) X.env = (do
      let ov ← eval (.Name b p1) X.env
      standAt p2.atName
      let (g, own) ← holding [ov] (getMethod ov "__init__" pl)
      callWith pos g own (backTo pos (starEach (e :: es) X.env)) (backToKw pos (keywordEach [] X.env))))
    (hpl : (backTo pos (starEach es X.env)).any (·.1) = false) (he : starEach (e :: es) X.env = (false, eval e X.env) :: starEach es X.env) :
    PE X (.Call (.Attribute (.Name b p1) "__init__" p2) (e :: es) [] pos) (tVeI X.K ta) := by
  constructor
  intro pins s σ H Q I h
  obtain ⟨m, fr⟩ := I.fr
  refine PySem.W.methodCall_KW (ld_glob I hg T.g (PySem.W.method_of_cls fr I.ok.mod.kin T.sp (PySem.W.cls_val fr I.ok.mod.kin T.ty T.rd T.ini (by decide +kernel) ?_)) hd) hc
  refine PyProof.Rows.callWith_method1 (thn (ha.run pos pins _ σ H _ (I.tok _) h) ?_) he hpl
  rintro us s1 ⟨vs, H1, I1, r1, a, C, ws, rfl, few, T2, ea, q⟩
  cases r1 with
  | cons ra rest =>
    cases ra
    have len := rest.length
    exact oinit_ok T2 I1 ea (by rw [sizeLine_eq]; omega) fun s' J => ⟨.non, H1, J, rfl, q⟩
end
end Fp

set_option Elab.async false
set_option linter.all false
set_option autoImplicit false
set_option maxRecDepth 100000
set_option maxHeartbeats 2300000
/-! Fp: own error classes, their __init__, raise -/
namespace Fp
open PySem PySem.Spec L2 PyProof.Rows
def clsBody (st : Stmt) : List Stmt := match st with
  | .ClassDef _ _ _ b .. => b
  | _ => []
section
variable {Γ : Gam} {k : Nat} {W : WX} {μ μ' ν : List Addr} {S S' : Store} {H H' : Hp} {σ : L2.St} {ρ : Slots} {X : Cx} {pins : List (Addr × Obj)} {s : Shared}
/-- what an __init__ does that keeps its arguments by these names -/
def spI (K : PySem.W.Frag) (fs : List Str) : Sp := fun vs H Q _ => ∃ (a C : Addr) (ys : List V), vs = .ref a :: ys ∧ ys.length = fs.length ∧ OexC K C ∧ (∀ f ∈ fs, PySem.W.findIn K (.ref C) f = some none) ∧ H a = some (exo a C none) ∧
  ∀ dx, H dx = none → dx ≠ a → Q .non (upd (upd H dx (exd dx (fs.reverse.zip ys.reverse))) a (exo a C (some dx)))
/-- the body of an __init__ of one field -/
def tI1 (K : PySem.W.Frag) (txt f : Str) : TS := tSeq (tDrop (tVeI K (tCons (tVar 0) (tCons (tC (.str txt)) tNil)))) (tSeq (tOst K f (tVar 0) (tVar 1)) tNext)
/-- .. of two -/
def tI2 (K : PySem.W.Frag) (txt f g : Str) : TS := tSeq (tDrop (tVeI K (tCons (tVar 0) (tCons (tC (.str txt)) tNil)))) (tSeq (tOst K f (tVar 0) (tVar 1)) (tSeq (tOst K g (tVar 0) (tVar 2)) tNext))
theorem init1_run {K : PySem.W.Frag} {f txt : Str} {Q : VK} {E : XK} {vs : List V} {N : List Str} (h : spI K [f] vs H Q E) : tI1 K txt f { nx := fun _ H' => Q .non H', rt := Q } (L2.start N vs) H := by
  obtain ⟨a, C, ys, rfl, hl, T, hno, ea, q⟩ := h
  match ys, hl with
  | [y], _ =>
    have e0 : (L2.start N [V.ref a, y])[0]? = some (some (.ref a)) := rfl
    have e1 : (L2.start N [V.ref a, y])[1]? = some (some y) := rfl
    exact ⟨_, e0, a, C, [.str txt], rfl, by simp, T, ea, _, e1, _, e0, a, C, rfl, T, hno f (by simp), .inl ⟨ea, fun dx n ne => q dx n ne⟩⟩
theorem init2_run {K : PySem.W.Frag} {f g txt : Str} {Q : VK} {E : XK} {vs : List V} {N : List Str} (h : spI K [f, g] vs H Q E) : tI2 K txt f g { nx := fun _ H' => Q .non H', rt := Q } (L2.start N vs) H := by
  obtain ⟨a, C, ys, rfl, hl, T, hno, ea, q⟩ := h
  match ys, hl with
  | [y, z], _ =>
    have e0 : (L2.start N [V.ref a, y, z])[0]? = some (some (.ref a)) := rfl
    have e1 : (L2.start N [V.ref a, y, z])[1]? = some (some y) := rfl
    have e2 : (L2.start N [V.ref a, y, z])[2]? = some (some z) := rfl
    refine ⟨_, e0, a, C, [.str txt], rfl, by simp, T, ea, _, e1, _, e0, a, C, rfl, T, hno f (by simp), .inl ⟨ea, fun dx n ne => ?_⟩⟩
    refine ⟨_, e2, _, e0, a, C, rfl, T, hno g (by simp), .inr ⟨dx, [(f, y)], upd_same, by rw [upd_ne ne, upd_same], by simp, ?_⟩⟩
    have same : upd (upd (upd H dx (exd dx [(f, y)])) a (exo a C (some dx))) dx (exd dx [(g, z), (f, y)]) = upd (upd H dx (exd dx ([f, g].reverse.zip [y, z].reverse))) a (exo a C (some dx)) := by
      funext b
      by_cases h1 : b = dx
      · subst h1
        rw [upd_same, upd_ne ne, upd_same]
        rfl
      · by_cases h2 : b = a
        · subst h2
          rw [upd_ne h1, upd_same, upd_same]
        · rw [upd_ne h1, upd_ne h2, upd_ne h1, upd_ne h2, upd_ne h1]
    have q' := q dx n ne
    rw [← same] at q'
    exact q'
/-- where the __init__ of the class at C stands -/
structure InitAt (K : PySem.W.Frag) (C : Addr) (qual : Str) (st : Stmt) (f : Addr) (fd : FuncData) : Prop where
  ini : PySem.W.findIn K (.ref C) "__init__" = some (some (.ref f))
  ty : PySem.W.typeIn K (.ref f) = some (.type "function")
  lk : ∃ oc od kV doc pm an cdv ct osl, fd = PySem.W.fnOf "__init__" qual (defArgs st) (defBody st) (defScope st) .none kV doc pm an cdv ct ∧ K.lookup f = some ⟨oc, od, .func fd, osl⟩ ∧ PySem.W.codeIn K cdv qual = true
/-- an own class of errors -/
structure ErrC (Γ : Gam) (x : Str) (C : Addr) (fs : List Str) : Prop where
  mg : Γ.mg x = some (.ref C)
  ca : Γ.ca x = some C
  oex : OexC Γ.K C
  xf : XfC Γ.K C
  no : ∀ f ∈ fs, PySem.W.findIn Γ.K (.ref C) f = some none
  same : PySem.W.exmOne Γ.K (.ref C) (.ref C) = some true
  ini : ∃ fI fd ps, PySem.W.findIn Γ.K (.ref C) "__init__" = some (some (.ref fI)) ∧ PySem.W.typeIn Γ.K (.ref fI) = some (.type "function") ∧ Binds Γ.K fd ps [] ∧ FnOk Γ.P Γ.w Γ.K Γ.mg Γ.base (L2.CX Γ.P Γ.w) 1 fI fd ps (spI Γ.K fs)
theorem RpAll.rev : ∀ {vs : List V} {ds : List PyData}, RpAll Γ H μ vs ds → RpAll Γ H μ vs.reverse ds.reverse
  | _, _, .nil => .nil
  | _, _, .cons h r => by
    rw [List.reverse_cons]; rw [List.reverse_cons]
    exact (RpAll.rev r).append (.cons h .nil)
/-- raise C(..) -/
def sRaise (x : Str) (fs : List Str) (fa : M (List D)) : MS := fun ρ S => (fa ρ S).toS ρ fun as S' => match frzTs S'.length S' as with
  | some ys => if ys.length = fs.length ∧ ys.length ≤ 1000 then .exc ⟨x, fs.reverse.zip ys.reverse⟩ ρ S' else .bad
  | none => .bad
theorem s_raise {x : Str} {C : Addr} {fs : List Str} {e : Expr} {es : List Expr} {fa : M (List D)} {p pos pos' : Pos} (G : Gx Γ k X) (tk : Takes X W) (hk : 2 ≤ k) (T : ErrC Γ x C fs) (hg : Gl X x) (hdb : (x == ("__debug__" : Str)) = false) (ha : PA X (e :: es) (rdA Γ W fa))
    (hpl : (backTo pos (starEach es X.env)).any (·.1) = false) (he : starEach (e :: es) X.env = (false, eval e X.env) :: starEach es X.env) :
    PS X (.Raise (some (.Call (.Name x p) (e :: es) [] pos)) none pos') (rdS Γ W (sRaise x fs fa)) := by
  obtain ⟨fI, fd, ps, i1, i2, i3, i4⟩ := T.ini
  have oexX : OexC X.K C := by rw [G.K]; exact T.oex
  have okX : FnOk X.prog X.w X.K X.mg X.base (L2.CX X.prog X.w) 1 fI fd ps (spI X.K fs) := by rw [G.P, G.w, G.K, G.mg, G.base]; exact i4
  refine PS.mono (ps_raise G.calm tk (pmk_oex oexX (by rw [G.K]; exact i1) (by rw [G.K]; exact i2) okX (G.room.mono hk) (by rw [G.K]; exact i3) .nil (passes_call tk fun _ _ _ _ z => z.elim) hg (by rw [G.mg]; exact T.mg) ha hdb he hpl)) fun D σ H q => ?_
  obtain ⟨μ, ρ, S, R, fi⟩ := q
  refine FinS.cut R fi fun μ1 H1 S1 as vs R1 g1 r1 f1 => ?_
  cases hy : frzTs S1.length S1 as with
  | none => rw [hy] at f1; exact f1.elim
  | some ys =>
    rw [hy] at f1
    simp only at f1
    by_cases hl : ys.length = fs.length ∧ ys.length ≤ 1000
    · rw [if_pos hl] at f1
      have rp : RpAll Γ H1 μ1 vs ys := RvAll.frzTs (ν := []) (by rw [List.append_nil]; exact R1.sto) R1.sto.len (by rw [List.append_nil]; exact r1) hy
      refine ⟨by rw [rp.length]; exact hl.2, fun a na => ⟨a, C, vs, by rw [List.append_nil], by rw [rp.length]; exact hl.1, oexX, by rw [G.K]; exact T.no, upd_same, fun dx ndx ne => ?_⟩⟩
      have n1 : H1 dx = none := by rw [upd_ne ne] at ndx; exact ndx
      refine ⟨rfl, dx, fs.reverse.zip vs.reverse, upd_same, by rw [upd_ne ne, upd_same], n1, ?_⟩
      have same : upd (L2.del (upd (upd (upd H1 a (exo a C none)) dx (exd dx (fs.reverse.zip vs.reverse))) a (exo a C (some dx))) a) dx (.xd (fs.reverse.zip vs.reverse)) = upd H1 dx (.xd (fs.reverse.zip vs.reverse)) := by
        funext b
        by_cases h1 : b = dx
        · subst h1
          rw [upd_same, upd_same]
        · by_cases h2 : b = a
          · subst h2
            rw [upd_ne h1, upd_ne h1, del_same, na]
          · rw [upd_ne h1, upd_ne h1, del_ne h2, upd_ne h2, upd_ne h1, upd_ne h2]
      rw [same]
      have g2 := Go.lay μ1 n1 (.xd (fs.reverse.zip vs.reverse))
      refine f1 μ1 σ _ _ _ g2 (R1.go g2 (R1.sto.lay n1 _)) ⟨⟨C, T.ca, rfl⟩, dx, vs.reverse, rfl, ?_, ?_⟩
      · rw [upd_same]
        show some (HO.xd (fs.reverse.zip vs.reverse)) = some (HO.xd (((fs.reverse.zip ys.reverse).map (·.1)).zip vs.reverse))
        rw [List.map_fst_zip (by simp [hl.1])]
      · show RpAll Γ _ μ1 vs.reverse ((fs.reverse.zip ys.reverse).map (·.2))
        rw [List.map_snd_zip (by simp [hl.1])]
        exact (rp.go g2).rev
    · rw [if_neg hl] at f1
      exact f1.elim
end
end Fp

set_option Elab.async false
set_option linter.all false
set_option autoImplicit false
set_option maxRecDepth 100000
set_option maxHeartbeats 2300000
/-! Fp: __init__ by its body; try .. except C as n: y = n.f -/
namespace Fp
open PySem PySem.Spec L2 PyProof.Rows
section
variable {Γ : Gam} {k : Nat} {W : WX} {μ μ' ν : List Addr} {S S' : Store} {H H' : Hp} {σ : L2.St} {ρ : Slots} {X : Cx} {pins : List (Addr × Obj)} {s : Shared}
theorem ini_binds {K : PySem.W.Frag} {fd : FuncData} {ps : List Str} (hp : Plain fd ps []) (hs : ∀ n, n = ps.length → sigOk ps [] n [] = true) (hr : ∀ us : List Value, us.length = ps.length → reord (ps ++ []) us [] = ps.zip us) : Binds K fd ps [] := by
  refine Binds.all fun us hl => ?_
  have h := bind_gen (kws := []) hp (hs us.length hl)
  rw [h]
  exact congrArg _ (hr us hl)
theorem ini1 {P : Program} {w : World} {K : PySem.W.Frag} {mg : Str → Option Value} {base : Heap} {C : Addr} {qual : Str} {st : Stmt} {f : Addr} {fd : FuncData} {N ps : List Str} {fl txt : Str} (T : InitAt K C qual st f fd) (hps : ps.length = 2) (Sc : FnScope N ps (defScope st))
    (hbody : ∀ (cdv : Value) (A : Around) (outer : List Env) (s : Shared) (H : Hp) (E : XK), PSs (bodyX (gam P w K mg base) N qual (defScope st) f cdv A outer s H E) (defBody st) (tI1 K txt fl)) : FnOk P w K mg base (L2.CX P w) 1 f fd ps (spI K [fl]) := by
  obtain ⟨_, _, oc, od, kV, doc, pm, an, cdv, ct, osl, rfl, lk, cd⟩ := T
  refine fn_of (k := 0) lk cd Sc (fun vs H Q E h => ?_) fun A outer s H vs Q E _ h => ⟨_, hbody cdv A outer s H E, init1_run h⟩
  obtain ⟨a, C', ys, rfl, hl, _⟩ := h
  rw [hps, List.length_cons, hl]
  rfl
theorem ini2 {P : Program} {w : World} {K : PySem.W.Frag} {mg : Str → Option Value} {base : Heap} {C : Addr} {qual : Str} {st : Stmt} {f : Addr} {fd : FuncData} {N ps : List Str} {fl gl txt : Str} (T : InitAt K C qual st f fd) (hps : ps.length = 3) (Sc : FnScope N ps (defScope st))
    (hbody : ∀ (cdv : Value) (A : Around) (outer : List Env) (s : Shared) (H : Hp) (E : XK), PSs (bodyX (gam P w K mg base) N qual (defScope st) f cdv A outer s H E) (defBody st) (tI2 K txt fl gl)) : FnOk P w K mg base (L2.CX P w) 1 f fd ps (spI K [fl, gl]) := by
  obtain ⟨_, _, oc, od, kV, doc, pm, an, cdv, ct, osl, rfl, lk, cd⟩ := T
  refine fn_of (k := 0) lk cd Sc (fun vs H Q E h => ?_) fun A outer s H vs Q E _ h => ⟨_, hbody cdv A outer s H E, init2_run h⟩
  obtain ⟨a, C', ys, rfl, hl, _⟩ := h
  rw [hps, List.length_cons, hl]
  rfl
theorem Gx.tr {pn : List (Addr × Obj)} {xe : Value → Shared → Prop} (G : Gx Γ k X) (h : PassesOwn (model X.prog X.w) X.A X.env xe) : Gx Γ k (X.tr pn xe) := ⟨G.P, G.w, G.K, G.mg, G.base, G.nd, G.calm, G.room, G.guards, h⟩
/-- try: body, except x as n: y = n.f; slot i is n's, slot j is y's -/
def sTryF (x f : Str) (i j : Nat) (fb : MS) : MS := fun ρ S => match fb ρ S with
  | .nx ρ' S' => .nx ρ' S'
  | .exc e ρ' S' => if e.cls = x ∧ i < ρ'.length ∧ j < ρ'.length ∧ i ≠ j then match e.fs.lookup f with
      | some y => .nx ((ρ'.set i none).set j (some (.p y))) S'
      | none => .bad
    else .bad
  | .rt d S' => .rt d S'
  | .bk ρ' S' => .bk ρ' S'
  | .ct ρ' S' => .ct ρ' S'
  | .bad => .bad
theorem RpAll.field {f : Str} : ∀ {vs : List V} {l : List (Str × PyData)} {y : PyData}, RpAll Γ H μ vs (l.map (·.2)) → l.lookup f = some y → ∃ v, ((l.map (·.1)).zip vs).lookup f = some v ∧ Rp Γ H μ v y
  | _, [], _, _, e => by cases e
  | _, (g, z) :: l, y, .cons (v := v) h r, e => by
    rw [List.lookup_cons] at e
    rw [List.map_cons, List.zip_cons_cons, List.lookup_cons]
    cases hq : f == g with
    | true =>
      rw [hq] at e
      cases e
      exact ⟨v, rfl, h⟩
    | false =>
      rw [hq] at e
      exact RpAll.field r e
theorem Rel.blank {i : Nat} {u : Option V} (R : Rel Γ μ ρ S σ H) : Rel Γ μ (ρ.set i none) S (σ.set i u) H := by
  refine ⟨R.sto, by simp [R.len], fun j d h => ?_⟩
  by_cases hj : j = i
  · subst hj
    by_cases hl : j < ρ.length
    · rw [List.getElem?_set_self hl] at h; cases h
    · rw [List.getElem?_eq_none (by simpa using hl)] at h; cases h
  · rw [List.getElem?_set_ne (Ne.symm hj)] at h
    obtain ⟨v, e1, e2⟩ := R.env j d h
    exact ⟨v, by rw [List.getElem?_set_ne (Ne.symm hj)]; exact e1, e2⟩
theorem s_tryF {x n y f : Str} {C : Addr} {fs : List Str} {i j : Nat} {body : List Stmt} {fb : MS} {np pos pos' p1 p2 p3 p4 : Pos} (G : Gx Γ k X) (tk : Takes X W) (T : ErrC Γ x C fs) (hf : f ∈ fs) (h1 : X.stack = X.env :: X.outer) (h2 : X.env.frame = some X.env.locals) (hi : X.N[i]? = some n)
    (hln : X.env.kindOf n = some .local) (hg : Gl X x) (hdb : (x == ("__debug__" : Str)) = false) (hvn : Vis X.env.scope n) (hnd : (n == ("__debug__" : Str)) = false) (hnc : (n == ("__classdict__" : Str)) = false) (hj : X.N[j]? = some y) (hy : Loc X.env.scope y) (hfy : X.fn y = true ∨ X.env.scope.names.lookup y = some .local)
    (hb : ∀ (W : WX) (pn : List (Addr × Obj)) (xe : Value → Shared → Prop), Gx Γ k (X.tr pn xe) → Takes (X.tr pn xe) W → PSs (X.tr pn xe) body (rdS Γ W fb))
    (hat : attributeBase (.Name n p1) f X.env (eval (.Name n p1) X.env) = eval (.Name n p1) X.env) (hsw : swapsWith (.Attribute (.Name n p1) f p2) (some (.Name y p3)) p4.line X.env = pure false) :
    PS X (.Try body [.ExceptHandler (some (.Name x np)) (some n) [.Assign [.Name y p3] (.Attribute (.Name n p1) f p2) p4] pos'] [] [] pos) (rdS Γ W (sTryF x f i j fb)) := by
  have xfX : XfC X.K C := by rw [G.K]; exact T.xf
  have noX : PySem.W.findIn X.K (.ref C) f = some none := by rw [G.K]; exact T.no f hf
  refine PS.mono (ps_try_as h1 h2 G.nd hi hln ⟨hg, hdb, .inl (by rw [G.mg]; exact T.mg)⟩ tk (fun W' pn xe t ps => hb W' pn xe (G.tr ps) t)
    fun a oe cls d pn hz hd => pss_cons (ps_set (X := X.suite a ((a, oe) :: pn)) (i := j) G.nd hj hy (pe_xf xfX noX hz hd (pe_var (i := i) hi hvn hnd hnc) hat) hsw hfy) pss_nil) fun D σ H q => ?_
  obtain ⟨μ, ρ, S, R, fi⟩ := q
  refine ⟨μ, ρ, S, R, ?_⟩
  unfold sTryF at fi
  cases e : fb ρ S with
  | nx ρ' S' => rw [e] at fi; exact fi
  | rt d S' => rw [e] at fi; exact fi
  | bk ρ' S' => rw [e] at fi; exact fi
  | ct ρ' S' => rw [e] at fi; exact fi
  | bad => rw [e] at fi; exact fi
  | exc ex ρ' S' =>
    rw [e] at fi
    simp only at fi
    intro μ1 σ1 H1 c d g1 R1 er
    by_cases hc : ex.cls = x ∧ i < ρ'.length ∧ j < ρ'.length ∧ i ≠ j
    · rw [if_pos hc] at fi
      obtain ⟨⟨C', ec, rfl⟩, dx, vs, rfl, hx, rp⟩ := er
      rw [hc.1, T.ca] at ec
      cases ec
      cases hl : ex.fs.lookup f with
      | none => rw [hl] at fi; exact fi.elim
      | some z =>
        rw [hl] at fi
        obtain ⟨v, lv, rv⟩ := rp.field hl
        refine ⟨true, by rw [G.K]; exact T.same, fun _ a na => ?_, fun no => by cases no⟩
        have hil : i < σ1.length := by rw [R1.len]; exact hc.2.1
        refine ⟨.ref a, List.getElem?_set_self hil, rfl, rfl, dx, _, v, rfl, hx, lv, ?_⟩
        refine fi μ1 _ H1 g1 ?_
        have same : ((σ1.set i (some (.ref a))).set j (some v)).set i none = (σ1.set i none).set j (some v) := by
          rw [List.set_comm _ _ (Ne.symm hc.2.2.2), List.set_set]
        rw [same]
        exact R1.blank.set (.p rv) (by rw [List.length_set]; exact hc.2.2.1)
    · rw [if_neg hc] at fi
      exact fi.elim
end
end Fp

set_option Elab.async false
set_option linter.all false
set_option autoImplicit false
set_option maxRecDepth 100000
set_option maxHeartbeats 2300000
/-! Fp: an own class of errors, by what the top has left. -/
namespace Fp
open PySem PySem.Spec L2 PyProof.Rows
/-- what the top has left of an own class over another own class -/
structure ErrT (K : PySem.W.Frag) (mg : Str → Option Value) (x : Str) (C : Addr) (b : Str) (B : Addr) (qual : Str) (st : Stmt) (f : Addr) (fd : FuncData) (fs : List Str) : Prop where
  gl : mg x = some (.ref C)
  base : BaseC K mg b B
  ini : InitAt K C qual st f fd
  oex : OexC K C
  xf : XfC K C
  no : ∀ g ∈ fs, PySem.W.findIn K (.ref C) g = some none
  same : PySem.W.exmOne K (.ref C) (.ref C) = some true
theorem same_of {K : PySem.W.Frag} {S : Addr} (h1 : PySem.W.subIn K (.ref S) (.type "BaseException") = some true) (h2 : PySem.W.isClsIn K S = true) (h3 : PySem.W.typeIn K (.ref S) = some (.type "type")) (h4 : PySem.W.subIn K (.ref S) (.ref S) = some true) : PySem.W.exmOne K (.ref S) (.ref S) = some true := by
  have h5 : (PySem.W.clsIn K S).isSome = true := h2
  simp [PySem.W.exmOne, PySem.W.kitCls, h1, h3, h4, h5]
theorem err_of {P : Program} {w : World} {K : PySem.W.Frag} {mg : Str → Option Value} {base : Heap} {x b qual : Str} {C B f : Addr} {st : Stmt} {fd : FuncData} {fs ps : List Str} (T : ErrT K mg x C b B qual st f fd fs)
    (h1 : (defArgs st).posonlyargs = []) (h2 : (defArgs st).vararg = none) (h3 : (defArgs st).kwarg = none) (h4 : (defArgs st).args.map (·.arg) = ps) (h5 : (defArgs st).kwonlyargs.map (·.arg) = [])
    (hs : ∀ n, n = ps.length → sigOk ps [] n [] = true) (hr : ∀ us : List Value, us.length = ps.length → reord (ps ++ []) us [] = ps.zip us)
    (ok : FnOk P w K mg base (L2.CX P w) 1 f fd ps (spI K fs)) : ErrC (gam P w K mg base) x C fs := by
  refine ⟨T.gl, ?_, T.oex, T.xf, T.no, T.same, f, fd, ps, T.ini.ini, T.ini.ty, ?_, ok⟩
  · show refOf (mg x) = some C
    rw [T.gl]; rfl
  · obtain ⟨oc, od, kV, doc, pm, an, cdv, ct, osl, rfl, _, _⟩ := T.ini.lk
    exact ini_binds ⟨h1, h2, h3, rfl, h4, h5⟩ hs hr
end Fp

set_option Elab.async false
set_option linter.all false
set_option autoImplicit false
set_option maxRecDepth 100000
set_option maxHeartbeats 2300000
/-! Fp: t[lo:hi:step] of a tuple. -/
namespace Fp
open PySem PySem.Spec L2 PyProof.Rows PySem.Builtin.Slice
/-- the places of a slice with a step -/
def stepped (n : Nat) (lo hi : Option Int) (st : Int) : List Nat :=
  (List.range (slicePlaces (sliceAdjust lo hi st n).1 (sliceAdjust lo hi st n).2 st)).map fun (m : Nat) => ((sliceAdjust lo hi st n).1 + (m : Int) * st).toNat
/-- .. its items -/
def cut3 {α : Type} (xs : List α) (lo hi : Option Int) (st : Int) : List α := (stepped xs.length lo hi st).filterMap (xs[·]?)
theorem places_le {a b st : Int} {n : Nat} (up : 0 < st → 0 ≤ a ∧ b ≤ n) (down : st < 0 → a ≤ (n : Int) - 1 ∧ -1 ≤ b) (h0 : st ≠ 0) : slicePlaces a b st ≤ n := by
  unfold slicePlaces
  by_cases hp : 0 < st
  · obtain ⟨h1, h2⟩ := up hp
    rw [if_pos hp]
    split
    · have := Int.ediv_le_self (a := b - a - 1) st (by omega)
      omega
    · simp
  · obtain ⟨h1, h2⟩ := down (by omega)
    rw [if_neg hp]
    split
    · have := Int.ediv_le_self (a := a - b - 1) (-st) (by omega)
      omega
    · simp
theorem stepped_len {n : Nat} {lo hi : Option Int} {st : Int} (h0 : st ≠ 0) : (stepped n lo hi st).length ≤ n := by
  unfold stepped
  rw [List.length_map]; rw [List.length_range]
  refine places_le (fun hp => ?_) (fun hn => ?_) h0
  · have hn : ¬ st < 0 := by omega
    unfold sliceAdjust
    simp only [hn, if_false]
    constructor
    · cases lo with
      | none => simp
      | some v => simp only; split <;> omega
    · cases hi with
      | none => simp
      | some v => simp only; split <;> omega
  · unfold sliceAdjust
    simp only [hn, if_true]
    constructor
    · cases lo with
      | none => simp
      | some v => simp only; split <;> omega
    · cases hi with
      | none => simp
      | some v => simp only; split <;> omega
theorem cut3_len {α : Type} {xs : List α} {lo hi : Option Int} {st : Int} (h0 : st ≠ 0) : (cut3 xs lo hi st).length ≤ xs.length := Nat.le_trans (List.length_filterMap_le ..) (stepped_len h0)
theorem cut3_mem {α : Type} {xs : List α} {lo hi : Option Int} {st : Int} {x : α} (h : x ∈ cut3 xs lo hi st) : x ∈ xs := by
  obtain ⟨k, _, e⟩ := List.mem_filterMap.mp h
  exact List.mem_of_getElem? e
theorem cut3_map {α β : Type} (f : α → β) (xs : List α) (lo hi : Option Int) (st : Int) : cut3 (xs.map f) lo hi st = (cut3 xs lo hi st).map f := by
  unfold cut3
  rw [List.length_map, List.map_filterMap]
  refine congrArg (fun g => List.filterMap g _) (funext fun k => ?_)
  rw [List.getElem?_map]
theorem paired_pick {α β : Type} {R : α → β → Prop} {xs : List α} {ys : List β} (h : Paired R xs ys) (js : List Nat) : Paired R (js.filterMap fun j => xs[j]?) (js.filterMap fun j => ys[j]?) := by
  have at_ : ∀ {xs : List α} {ys : List β}, Paired R xs ys → ∀ j : Nat, (xs[j]? = none ∧ ys[j]? = none) ∨ ∃ x y, xs[j]? = some x ∧ ys[j]? = some y ∧ R x y := by
    intro xs ys h
    induction h with
    | nil => intro j; simp
    | cons h _ ih =>
      intro j
      cases j with
      | zero => exact .inr ⟨_, _, rfl, rfl, h⟩
      | succ j => simpa using ih j
  induction js with
  | nil => exact .nil
  | cons j js ih =>
    rcases at_ h j with ⟨e1, e2⟩ | ⟨x, y, e1, e2, r⟩
    · rw [List.filterMap_cons_none e1, List.filterMap_cons_none e2]; exact ih
    · rw [List.filterMap_cons_some e1, List.filterMap_cons_some e2]; exact .cons r ih
section
variable {Γ : Gam} {k : Nat} {W : WX} {μ μ' ν : List Addr} {S S' : Store} {H H' : Hp} {σ : L2.St} {ρ : Slots} {X : Cx} {pins : List (Addr × Obj)} {s : Shared}
theorem RpAll.two : ∀ {vs : List V} {ds : List PyData}, RpAll Γ H μ vs ds → Paired (Rp Γ H μ) vs ds
  | _, _, .nil => .nil
  | _, _, .cons h r => .cons h r.two
theorem RpAll.ofTwo : ∀ {vs : List V} {ds : List PyData}, Paired (Rp Γ H μ) vs ds → RpAll Γ H μ vs ds
  | _, _, .nil => .nil
  | _, _, .cons h r => .cons h (RpAll.ofTwo r)
theorem RpAll.cut3 {vs : List V} {ds : List PyData} (lo hi : Option Int) (st : Int) (r : RpAll Γ H μ vs ds) : RpAll Γ H μ (Fp.cut3 vs lo hi st) (Fp.cut3 ds lo hi st) := by
  unfold Fp.cut3
  rw [r.length]
  exact RpAll.ofTwo (paired_pick r.two _)
theorem vals_cut3 {vs : List V} {us : List Value} (lo hi : Option Int) (st : Int) (r : Vals vs us) : Vals (Fp.cut3 vs lo hi st) (Fp.cut3 us lo hi st) := by
  unfold Fp.cut3
  rw [r.length]
  exact paired_pick r _
theorem tup_step {P : Program} {w : World} {A : Around} {E : Value → Shared → Prop} {t sl : Addr} {items : Array Value} {vl vu vs : Value} {lo hi : Option Int} {st : Int} {Q : Value → Shared → Prop}
    (ht : IsTup s.heap t items) (hs : s.heap.IsSliceOf sl vl vu vs) (pl : IsPart vl lo) (pu : IsPart vu hi) (ps : IsPart vs (some st)) (h0 : st ≠ 0) (h1 : st ≠ 1) (few : items.size ≤ sizeLine)
    (q : Q (.ref s.heap.objs.size) { s with heap := s.heap.push { cls := .type "tuple", data := .seq (Fp.cut3 items.toList lo hi st).toArray } }) : wpAny (model P w) A (getItem (.ref t) (.ref sl)) Q E s := by
  obtain ⟨ob, at_, cl, da⟩ := id hs
  have isl : s.TypeIs (.ref sl) "slice" := ⟨ob, at_, cl⟩
  have size : sizeOk (.seq (Fp.cut3 items.toList lo hi st).toArray) := by
    show (Fp.cut3 items.toList lo hi st).toArray.size ≤ sizeLine
    have le := cut3_len (xs := items.toList) (lo := lo) (hi := hi) h0
    rw [Array.length_toList] at le
    exact Nat.le_trans le few
  unfold getItem; (try with_reducible refine wpAny_holding ?_); (first | refine wpAny_bind (wpAny_pure ?_) | skip)
  refine wpAny_bind (wpAny_sequenceKey ht.typeIs (by decide) (wpAny_bind (wpAny_callSpecial?_slot (name := Str.ofString "__getitem__") ht.typeIs slot_tuple_getitem
    (wpAny_call_entry slot_tuple_getitem ht.typeIs PySem.F.entry_tuple_getitem ?_ (PySem.F.args_tuple_getitem_2 _ _)))))
  show wpAny _ _ (Builtin.Tuple.tupleItemsOf (.ref t) >>= _) _ _ _
  refine wpAny_bind (tupleItemsOf_ ht (wpAny_bind (wpAny_typeOf isl ?_)))
  rw [if_pos (by decide)]
  have ne : ¬ ((st == 0) = true) := by simpa using h0
  refine wpAny_bind (m := sliceApplied (.ref sl) (pure (items.size : Int))) ?_
  unfold sliceApplied sliceFields
  refine wpAny_bind (wpAny_bind (wpAny_field at_ da (x := vl) rfl (wpAny_bind (wpAny_field at_ da (x := vu) rfl (wpAny_bind (wpAny_field at_ da (x := vs) rfl (wpAny_pure ?_)))))))
  refine wpAny_bind (HT.slicePart_ ps ?_)
  show wpAny _ _ (if (st == 0) = true then _ else _) _ _ _
  rw [if_neg ne]
  refine wpAny_bind (HT.slicePart_ pl (wpAny_bind (HT.slicePart_ pu (wpAny_bind (wpAny_pure (wpAny_pure ?_))))))
  have no : ¬ (((sliceAdjust lo hi st items.size).1 == 0 && st == 1 && slicePlaces (sliceAdjust lo hi st items.size).1 (sliceAdjust lo hi st items.size).2 st == items.size) = true) := by
    intro z
    simp only [Bool.and_eq_true, beq_iff_eq] at z
    exact h1 z.1.2
  show wpAny _ _ (if ((sliceAdjust lo hi st items.size).1 == 0 && st == 1 && slicePlaces (sliceAdjust lo hi st items.size).1 (sliceAdjust lo hi st items.size).2 st == items.size) = true then _ else _) _ _ _
  rw [if_neg no]
  have eq : (List.range (slicePlaces (sliceAdjust lo hi st items.size).1 (sliceAdjust lo hi st items.size).2 st)).filterMap (fun (m : Nat) => items[((sliceAdjust lo hi st items.size).1 + (m : Int) * st).toNat]?) = Fp.cut3 items.toList lo hi st := by
    unfold Fp.cut3 stepped
    rw [List.filterMap_map, Array.length_toList]
    refine congrArg (fun g => List.filterMap g _) (funext fun m => ?_)
    simp
  have q' : ∀ xs, xs = Fp.cut3 items.toList lo hi st → wpAny (model P w) A (pure (Value.ref s.heap.objs.size)) Q E { s with heap := s.heap.push { cls := .type "tuple", data := .seq xs.toArray } } := fun xs e => by rw [e]; exact wpAny_pure q
  have size' : ∀ xs, xs = Fp.cut3 items.toList lo hi st → sizeOk (.seq xs.toArray) := fun xs e => by rw [e]; exact size
  exact wpAny_bind (m := Builtin.Tuple.tupleExact _) (wpAny_newObj_type (wpAny_pure ⟨_, rfl, q' _ eq⟩) (size' _ eq))
/-- a[lo:hi:step] of a tuple -/
def tSl3 (K : PySem.W.Frag) (te : TE) (tl th tt : TO) : TE := fun σ H Q => te σ H fun x H1 => tl σ H1 fun l H2 => th σ H2 fun u H3 => tt σ H3 fun o H4 => ∃ a xs st, o = some st ∧ st ≠ 0 ∧ st ≠ 1 ∧ x = .ref a ∧ SqT K H4 a xs ∧ NewT H4 (Fp.cut3 xs l u st) Q
theorem pe_slice3 {e ste : Expr} {lo hi : Option Expr} {te : TE} {tl th tt : TO} {p2 pos : Pos} (he : PE X e te) (hl : PO X lo tl) (hu : PO X hi th) (ht : PO X (some ste) tt) : PE X (.Subscript e (.Slice lo hi (some ste) p2) pos) (tSl3 X.K te tl th tt) := by
  constructor
  intro pins s σ H Q I h
  refine Subscript_ (thn (he.run pins s σ H _ I h) ?_)
  rintro v s1 ⟨x, H1, I1, rx, q1⟩
  refine wpAny_Slice (thn (hl.run pins s1 σ H1 _ I1 q1) ?_)
  rintro vl s2 ⟨l, H2, I2, pl, q2⟩
  refine thn (hu.run pins s2 σ H2 _ I2 q2) ?_
  rintro vu s3 ⟨u, H3, I3, pu, q3⟩
  refine thn (ht.run pins s3 σ H3 _ I3 q3) ?_
  rintro vt s4 ⟨o, H4, I4, pt, a, xs, k, rfl, h0, h1, rfl, hx, q⟩
  have I5 : Inv X pins σ H4 { s4 with heap := s4.heap.push { cls := .type "slice", data := .fields #[vl, vu, vt] } } := I4.kept (t' := s4.toks) fun b ob z => Heap.get?_push_of_some _ z
  cases rx
  obtain ⟨us, r, t, few⟩ := I5.tuple hx
  show wpAny (model X.prog X.w) X.A (subscriptTail e (.Slice lo hi (some ste) p2) (.ref a) (.ref s4.heap.objs.size)) (EP X pins σ Q) X.xe { s4 with heap := s4.heap.push { cls := .type "slice", data := .fields #[vl, vu, vt] } }
  have size : us.toArray.size = xs.length := by rw [List.size_toArray, r.length]
  refine tail_any (ops := [.ref a, .ref s4.heap.objs.size]) t.typeIs PyProof.Rows.slot_tuple_getitem.lookup (tup_step t (Heap.IsSliceOf.new _ vl vu vt) pl pu pt h0 h1 (by rw [size]; exact few) ?_) (by with_unfolding_all rfl)
  exact q.laid I5 (vals_cut3 l u k r) (Nat.le_trans (cut3_len h0) few)
def gSl3 (a : D) (lo hi : Option Int) (st : Option Int) : Option D := match a, st with
  | .p (.tuple xs), some k => if k ≠ 0 ∧ k ≠ 1 then some (.p (.tuple (Fp.cut3 xs lo hi k))) else none
  | _, _ => none
def eSl3 (fa : M D) (fl fh ft : M (Option Int)) : M D := fa.bind fun a => fl.bind fun lo => fh.bind fun hi => ft.bind fun st => fun _ S => .of S (gSl3 a lo hi st)
theorem e_sl3 (G : Gx Γ k X) {a ste : Expr} {lo hi : Option Expr} {fa : M D} {fl fh ft : M (Option Int)} {p2 pos : Pos} (ha : PE X a (rdE Γ W fa)) (hl : PO X lo (rdO Γ W fl)) (hh : PO X hi (rdO Γ W fh)) (ht : PO X (some ste) (rdO Γ W ft)) : PE X (.Subscript a (.Slice lo hi (some ste) p2) pos) (rdE Γ W (eSl3 fa fl fh ft)) := by
  refine PE.mono (pe_slice3 ha hl hh ht) fun σ H Q q => ?_
  refine rd.cut q fun μ ρ H1 S1 a x R1 ra f1 => ?_
  refine ⟨μ, ρ, S1, R1, Fin.cut (k := fun lo S' => (fh ρ S').bind fun hi S2 => (ft ρ S2).bind fun st S3 => .of S3 (gSl3 a lo hi st)) f1 fun μ2 H2 S2 lo l g2 s2 rl f2 => ?_⟩
  subst rl
  have R2 := R1.go g2 s2
  refine ⟨μ2, ρ, S2, R2, Fin.cut (k := fun hi S2 => (ft ρ S2).bind fun st S3 => .of S3 (gSl3 a l hi st)) f2 fun μ3 H3 S3 hi h g3 s3 rh f3 => ?_⟩
  subst rh
  have R3 := R2.go g3 s3
  refine ⟨μ3, ρ, S3, R3, Fin.cut (k := fun st S3 => .of S3 (gSl3 a l h st)) f3 fun μ4 H4 S4 st t g4 s4 rt f4 => ?_⟩
  subst rt
  obtain ⟨d, e, f5⟩ := f4.of
  have ra4 := ((ra.go g2).go g3).go g4
  unfold gSl3 at e
  split at e
  · split at e
    · rename_i hz
      cases e
      cases ra4 with
      | p h1 =>
        cases h1 with
        | tup tt r => exact ⟨_, _, _, rfl, hz.1, hz.2, rfl, by rw [G.K]; exact tt.sq, fun p o hp hd => f5 μ4 _ _ (Go.lay μ4 hp _) (s4.lay hp _) (.p (.tup (.inl ⟨⟨o, upd_same, hd⟩, s4.out hp⟩) ((r.cut3 l h _).go (Go.lay μ4 hp _))))⟩
    · cases e
  · cases e
@[simp] theorem v_sl3 (a : M D) (l h t : M (Option Int)) (ρ : Slots) (S : Store) : eSl3 a l h t ρ S = (a ρ S).bind fun x S1 => (l ρ S1).bind fun lo S2 => (h ρ S2).bind fun hi S3 => (t ρ S3).bind fun st S4 => .of S4 (gSl3 x lo hi st) := id rfl
end
end Fp

set_option linter.all false
set_option autoImplicit false
/-! Fp: errors for the evaluator. -/
namespace Fp
open PySem
section
variable {α β : Type} {ρ : Slots} {S S1 : Store}
@[simp] theorem v_bind_exc (x : Ex) (S : Store) (g : α → Store → Out β) : (Out.exc x S).bind g = .exc x S := id rfl
@[simp] theorem v_toS_exc (x : Ex) (S : Store) (ρ : Slots) (g : α → Store → OutS) : (Out.exc x S).toS ρ g = .exc x ρ S := id rfl
@[simp] theorem v_sq_exc (x : Ex) (ρ : Slots) (S : Store) (g : MS) : (OutS.exc x ρ S).sq g = .exc x ρ S := id rfl
@[simp] theorem turns_exc (Iv : Slots → Store → Prop) (Out : OutS → Prop) (Brk : Slots → Store → Prop) (x : Ex) (ρ : Slots) (S : Store) : Turns Iv Out Brk (.exc x ρ S) = Out (.exc x ρ S) := id rfl
@[simp] theorem v_leave_exc (k : Bool) (n : Nat) (x : Ex) (ρ : Slots) (S : Store) : leave k n (.exc x ρ S) = .exc x (S.take n) := id rfl
@[simp] theorem v_raise (x : Str) (fs : List Str) (fa : M (List D)) : sRaise x fs fa ρ S = (fa ρ S).toS ρ fun as S' => match frzTs S'.length S' as with
  | some ys => if ys.length = fs.length ∧ ys.length ≤ 1000 then .exc ⟨x, fs.reverse.zip ys.reverse⟩ ρ S' else .bad
  | none => .bad := id rfl
@[simp] theorem frz1 (n : Nat) (S : Store) (y : PyData) : frzTs n S [.p y] = some [y] := id rfl
@[simp] theorem frz2 (n : Nat) (S : Store) (y z : PyData) : frzTs n S [.p y, .p z] = some [y, z] := id rfl
@[simp] theorem v_tryF (x f : Str) (i j : Nat) (fb : MS) : sTryF x f i j fb ρ S = match fb ρ S with
  | .nx ρ' S' => .nx ρ' S'
  | .exc e ρ' S' => if e.cls = x ∧ i < ρ'.length ∧ j < ρ'.length ∧ i ≠ j then match e.fs.lookup f with
      | some y => .nx ((ρ'.set i none).set j (some (.p y))) S'
      | none => .bad
    else .bad
  | .rt d S' => .rt d S'
  | .bk ρ' S' => .bk ρ' S'
  | .ct ρ' S' => .ct ρ' S'
  | .bad => .bad := id rfl
end
end Fp

set_option Elab.async false
set_option linter.all false
set_option autoImplicit false
set_option maxRecDepth 100000
set_option maxHeartbeats 5000000
namespace K5
open PySem L2 Fp
def top (i : Nat) : Stmt := PySem.Challenge.pw_fallpaid_k05_whole_fallen_just_where.main.body.getD i (.Pass ⟨0, 0, 0, 0⟩)
abbrev st_last_word : Stmt := top 5
abbrev st_is_settled : Stmt := top 6
abbrev st_is_fallen : Stmt := top 7
abbrev st_is_firm : Stmt := top 8
abbrev st_standing_places : Stmt := top 9
abbrev st_heart_places : Stmt := top 10
abbrev st_heart_writings : Stmt := top 12
abbrev st_rests_straight : Stmt := top 13
abbrev st_below_resting : Stmt := top 14
abbrev st_words_joined : Stmt := top 15
abbrev st__law_feed : Stmt := top 17
abbrev st__law_draw : Stmt := top 18
abbrev st__law_pool : Stmt := top 19
abbrev st__law_last : Stmt := top 20
abbrev st__law_strip : Stmt := top 21
abbrev st__law_refused : Stmt := top 22
abbrev st__law_joined_right : Stmt := top 23
abbrev st__law_clash_right : Stmt := top 24
abbrev st__law_deed_right : Stmt := top 25
abbrev st__law_wider_right : Stmt := top 26
abbrev st_law : Stmt := top 27
abbrev st_NoName : Stmt := (clsBody (top 3)).getD 0 (.Pass ⟨0, 0, 0, 0⟩)
structure Tx (K : PySem.W.Frag) (mg : Str → Option Value) : Prop where
  d_last_word : ∃ a fd, DefAt K mg (Str.ofString "last_word") st_last_word a fd
  d_is_settled : ∃ a fd, DefAt K mg (Str.ofString "is_settled") st_is_settled a fd
  d_is_fallen : ∃ a fd, DefAt K mg (Str.ofString "is_fallen") st_is_fallen a fd
  d_is_firm : ∃ a fd, DefAt K mg (Str.ofString "is_firm") st_is_firm a fd
  d_standing_places : ∃ a fd, DefAt K mg (Str.ofString "standing_places") st_standing_places a fd
  d_heart_places : ∃ a fd, DefAt K mg (Str.ofString "heart_places") st_heart_places a fd
  d_heart_writings : ∃ a fd, DefAt K mg (Str.ofString "heart_writings") st_heart_writings a fd
  d_rests_straight : ∃ a fd, DefAt K mg (Str.ofString "rests_straight") st_rests_straight a fd
  d_below_resting : ∃ a fd, DefAt K mg (Str.ofString "below_resting") st_below_resting a fd
  d_words_joined : ∃ a fd, DefAt K mg (Str.ofString "words_joined") st_words_joined a fd
  d__law_feed : ∃ a fd, DefAt K mg (Str.ofString "_law_feed") st__law_feed a fd
  d__law_draw : ∃ a fd, DefAt K mg (Str.ofString "_law_draw") st__law_draw a fd
  d__law_pool : ∃ a fd, DefAt K mg (Str.ofString "_law_pool") st__law_pool a fd
  d__law_last : ∃ a fd, DefAt K mg (Str.ofString "_law_last") st__law_last a fd
  d__law_strip : ∃ a fd, DefAt K mg (Str.ofString "_law_strip") st__law_strip a fd
  d__law_refused : ∃ a fd, DefAt K mg (Str.ofString "_law_refused") st__law_refused a fd
  d__law_joined_right : ∃ a fd, DefAt K mg (Str.ofString "_law_joined_right") st__law_joined_right a fd
  d__law_clash_right : ∃ a fd, DefAt K mg (Str.ofString "_law_clash_right") st__law_clash_right a fd
  d__law_deed_right : ∃ a fd, DefAt K mg (Str.ofString "_law_deed_right") st__law_deed_right a fd
  d__law_wider_right : ∃ a fd, DefAt K mg (Str.ofString "_law_wider_right") st__law_wider_right a fd
  d_law : ∃ a fd, DefAt K mg (Str.ofString "law") st_law a fd
  b_all : mg (Str.ofString "all") = none
  b_any : mg (Str.ofString "any") = none
  b_dict : mg (Str.ofString "dict") = none
  b_enumerate : mg (Str.ofString "enumerate") = none
  b_len : mg (Str.ofString "len") = none
  b_list : mg (Str.ofString "list") = none
  b_max : mg (Str.ofString "max") = none
  b_range : mg (Str.ofString "range") = none
  b_repr : mg (Str.ofString "repr") = none
  b_set : mg (Str.ofString "set") = none
  b_sorted : mg (Str.ofString "sorted") = none
  b_tuple : mg (Str.ofString "tuple") = none
  e_NoName : ∃ C B f fd, ErrT K mg (Str.ofString "NoName") C (Str.ofString "BookError") B (Str.ofString "NoName.__init__") st_NoName f fd [(Str.ofString "name")]
theorem sc_NoName : FnScope [(Str.ofString "self"), (Str.ofString "name")] [(Str.ofString "self"), (Str.ofString "name")] (defScope st_NoName) := ⟨rfl, rfl, rfl, by decide +kernel, rfl, by decide +kernel, by decide +kernel⟩
theorem ok_NoName {P : Program} {w : World} {K : PySem.W.Frag} {mg : Str → Option Value} {base : Heap} (T : Tx K mg) : ∃ C, ErrC (gam P w K mg base) (Str.ofString "NoName") C [(Str.ofString "name")] := by
  obtain ⟨C, B, f, fd, E⟩ := T.e_NoName
  refine ⟨C, err_of (ps := [(Str.ofString "self"), (Str.ofString "name")]) E rfl rfl rfl rfl rfl (fun n h => by subst h; rfl) (fun us h => match us, h with | [_, _], _ => rfl) (ini1 (txt := (Str.ofString "no such deed")) E.ini rfl sc_NoName fun cdv A outer s H E2 => ?_)⟩
  exact pss_cons (ps_expr (pe_clsinit E.base (by trivial) (by trivial) (pa_cons (pe_var (i := 0) rfl (by trivial) (by trivial) (by trivial)) (pa_cons pe_str pa_nil)) rfl rfl rfl)) (pss_cons (ps_ost (pe_var (i := 0) rfl (by trivial) (by trivial) (by trivial)) (pe_var (i := 1) rfl (by trivial) (by trivial) (by trivial))) pss_nil)
/-! ### last_word -/
def m_last_word : MS := (sSeq (sFor (iSeq (eVar 0)) (tTupM 2 (tsCons (tName 2) (tsCons (tName 3) tsNil))) (sSeq (sIf (eCmpT (bCmp .Eq) (eVar 2) (eVar 1)) (sSeq (sRet (eVar 3))
    sNil) sNil)
    sNil))
    (sSeq (sRet (eC (.p .none)))
    sNil))
def fx_last_word : Fx := fxOf 4 false m_last_word
theorem sc_last_word : FnScope [(Str.ofString "words"), (Str.ofString "name"), (Str.ofString "own"), (Str.ofString "ending")] [(Str.ofString "words"), (Str.ofString "name")] (defScope st_last_word) := ⟨rfl, rfl, rfl, by decide +kernel, rfl, by decide +kernel, by decide +kernel⟩
theorem ok_last_word {P : Program} {w : World} {K : PySem.W.Frag} {mg : Str → Option Value} {base : Heap} (T : Tx K mg) : Fd (gam P w K mg base) 1 (Str.ofString "last_word") [(Str.ofString "words"), (Str.ofString "name")] [] fx_last_word := by
  obtain ⟨a, fd, TF⟩ := T.d_last_word

  refine fd_of TF rfl rfl rfl rfl rfl sc_last_word ?_
  intro cdv A outer s H E G tk
  exact (ss_cons (s_for G (i_seq G (e_var (i := 0) (by trivial) (by trivial) (by trivial) (by trivial))) (g_of (gi_tup G (gis_cons (gi_name (i := 2) (Gx.nd G) (by trivial) (by trivial) (by trivial)) (gis_cons (gi_name (i := 3) (Gx.nd G) (by trivial) (by trivial) (by trivial)) gis_nil (by trivial)) (by trivial)) (by trivial) (by trivial))) (ss_cons (s_if (t_cmp (o_cmp G .Eq) (e_var (i := 2) (by trivial) (by trivial) (by trivial) (by trivial)) (e_var (i := 1) (by trivial) (by trivial) (by trivial) (by trivial)) (by trivial)) (ss_cons (s_ret (e_var (i := 3) (by trivial) (by trivial) (by trivial) (by trivial)))
    ss_nil) ss_nil)
    ss_nil) (by trivial))
    (ss_cons (s_ret e_non)
    ss_nil))
/-! ### is_settled -/
def m_is_settled : MS := (sSeq (sRet (eB (eCmpT (bCmp .Eq) (eCall [(Str.ofString "words"), (Str.ofString "name")] [] fx_last_word [] (aCons (eVar 0) (aCons (eVar 1) aNil)) aNil) (eC (.p (.str (Str.ofString "settled")))))))
    sNil)
def fx_is_settled : Fx := fxOf 2 false m_is_settled
theorem sc_is_settled : FnScope [(Str.ofString "words"), (Str.ofString "name")] [(Str.ofString "words"), (Str.ofString "name")] (defScope st_is_settled) := ⟨rfl, rfl, rfl, by decide +kernel, rfl, by decide +kernel, by decide +kernel⟩
theorem ok_is_settled {P : Program} {w : World} {K : PySem.W.Frag} {mg : Str → Option Value} {base : Heap} (T : Tx K mg) : Fd (gam P w K mg base) 2 (Str.ofString "is_settled") [(Str.ofString "words"), (Str.ofString "name")] [] fx_is_settled := by
  obtain ⟨a, fd, TF⟩ := T.d_is_settled
  have F_last_word := (ok_last_word (P := P) (w := w) (base := base) T).mono (k := 1) (by decide)
  refine fd_of TF rfl rfl rfl rfl rfl sc_is_settled ?_
  intro cdv A outer s H E G tk
  exact (ss_cons (s_ret (e_cmpB (o_cmp G .Eq) (e_call G tk F_last_word (by trivial) (by trivial) (a_cons (e_var (i := 0) (by trivial) (by trivial) (by trivial) (by trivial)) (a_cons (e_var (i := 1) (by trivial) (by trivial) (by trivial) (by trivial)) a_nil (by trivial)) (by trivial)) k_nil (by trivial) (by trivial) (by trivial) (by trivial)) e_str (by trivial)))
    ss_nil)
/-! ### is_fallen -/
def m_is_fallen : MS := (sSeq (sRet (eNs (Bi.g .any) (aCons (eComp false (iSeq (eBin gAdd (eFrz (lDisp (aCons (eVar 1) aNil))) (eComp false (iSeq (eVar 2)) (tName 4) tYesM (eBin gIx (eVar 4) (eC (.p (.int 0)))) [4]))) (tName 3) tYesM (eB (eCmpT (bCmp .Eq) (eCall [(Str.ofString "words"), (Str.ofString "name")] [] fx_last_word [] (aCons (eVar 0) (aCons (eVar 3) aNil)) aNil) (eC (.p (.str (Str.ofString "taken")))))) [3]) aNil)))
    sNil)
def fx_is_fallen : Fx := fxOf 5 false m_is_fallen
theorem sc_is_fallen : FnScope [(Str.ofString "words"), (Str.ofString "name"), (Str.ofString "below"), (Str.ofString "own"), (Str.ofString "mark")] [(Str.ofString "words"), (Str.ofString "name"), (Str.ofString "below")] (defScope st_is_fallen) := ⟨rfl, rfl, rfl, by decide +kernel, rfl, by decide +kernel, by decide +kernel⟩
theorem ok_is_fallen {P : Program} {w : World} {K : PySem.W.Frag} {mg : Str → Option Value} {base : Heap} (T : Tx K mg) : Fd (gam P w K mg base) 2 (Str.ofString "is_fallen") [(Str.ofString "words"), (Str.ofString "name"), (Str.ofString "below")] [] fx_is_fallen := by
  obtain ⟨a, fd, TF⟩ := T.d_is_fallen
  have F_last_word := (ok_last_word (P := P) (w := w) (base := base) T).mono (k := 1) (by decide)
  refine fd_of TF rfl rfl rfl rfl rfl sc_is_fallen ?_
  intro cdv A outer s H E G tk
  exact (ss_cons (s_ret (e_bi G .any (by trivial) T.b_any (a_cons (e_comp (th := false) (own := [((Str.ofString "own"), 3)]) (is := [3]) G (i_seq G (e_bin (o_add G) (e_frz (l_disp (a_cons (e_var (i := 1) (by trivial) (by trivial) (by trivial) (by trivial)) a_nil (by trivial)))) (e_comp (th := false) (own := [((Str.ofString "mark"), 4)]) (is := [4]) G (i_seq G (e_var (i := 2) (by trivial) (by trivial) (by trivial) (by trivial))) (blkOk_by (by trivial)) (by decide) (fun s H C cl fp => (gi_name (i := 4) (Gx.nd (Gx.blk G)) (by trivial) (by trivial) (by trivial))) (fun s H C cl fp => ts_nil) (fun s H C cl fp => (e_ix (Gx.blk G) (e_var (i := 4) (by trivial) (by trivial) (by trivial) (by trivial)) e_int (by trivial))) (by trivial)))) (blkOk_by (by trivial)) (by decide) (fun s H C cl fp => (gi_name (i := 3) (Gx.nd (Gx.blk G)) (by trivial) (by trivial) (by trivial))) (fun s H C cl fp => ts_nil) (fun s H C cl fp => (e_cmpB (o_cmp (Gx.blk G) .Eq) (e_call (Gx.blk G) takes_no F_last_word (by trivial) (by trivial) (a_cons (e_var (i := 0) (by trivial) (by trivial) (by trivial) (by trivial)) (a_cons (e_var (i := 3) (by trivial) (by trivial) (by trivial) (by trivial)) a_nil (by trivial)) (by trivial)) k_nil (by trivial) (by trivial) (by trivial) (by trivial)) e_str (by trivial))) (by trivial)) a_nil (by trivial)) (by trivial) (by trivial)))
    ss_nil)
/-! ### is_firm -/
def m_is_firm : MS := (sSeq (sRet (eNs (Bi.g .all) (aCons (eComp false (iSeq (eBin gAdd (eFrz (lDisp (aCons (eVar 1) aNil))) (eComp false (iSeq (eVar 2)) (tName 4) tYesM (eBin gIx (eVar 4) (eC (.p (.int 0)))) [4]))) (tName 3) tYesM (eCall [(Str.ofString "words"), (Str.ofString "name")] [] fx_is_settled [] (aCons (eVar 0) (aCons (eVar 3) aNil)) aNil) [3]) aNil)))
    sNil)
def fx_is_firm : Fx := fxOf 5 false m_is_firm
theorem sc_is_firm : FnScope [(Str.ofString "words"), (Str.ofString "name"), (Str.ofString "below"), (Str.ofString "own"), (Str.ofString "mark")] [(Str.ofString "words"), (Str.ofString "name"), (Str.ofString "below")] (defScope st_is_firm) := ⟨rfl, rfl, rfl, by decide +kernel, rfl, by decide +kernel, by decide +kernel⟩
theorem ok_is_firm {P : Program} {w : World} {K : PySem.W.Frag} {mg : Str → Option Value} {base : Heap} (T : Tx K mg) : Fd (gam P w K mg base) 3 (Str.ofString "is_firm") [(Str.ofString "words"), (Str.ofString "name"), (Str.ofString "below")] [] fx_is_firm := by
  obtain ⟨a, fd, TF⟩ := T.d_is_firm
  have F_is_settled := (ok_is_settled (P := P) (w := w) (base := base) T).mono (k := 2) (by decide)
  refine fd_of TF rfl rfl rfl rfl rfl sc_is_firm ?_
  intro cdv A outer s H E G tk
  exact (ss_cons (s_ret (e_bi G .all (by trivial) T.b_all (a_cons (e_comp (th := false) (own := [((Str.ofString "own"), 3)]) (is := [3]) G (i_seq G (e_bin (o_add G) (e_frz (l_disp (a_cons (e_var (i := 1) (by trivial) (by trivial) (by trivial) (by trivial)) a_nil (by trivial)))) (e_comp (th := false) (own := [((Str.ofString "mark"), 4)]) (is := [4]) G (i_seq G (e_var (i := 2) (by trivial) (by trivial) (by trivial) (by trivial))) (blkOk_by (by trivial)) (by decide) (fun s H C cl fp => (gi_name (i := 4) (Gx.nd (Gx.blk G)) (by trivial) (by trivial) (by trivial))) (fun s H C cl fp => ts_nil) (fun s H C cl fp => (e_ix (Gx.blk G) (e_var (i := 4) (by trivial) (by trivial) (by trivial) (by trivial)) e_int (by trivial))) (by trivial)))) (blkOk_by (by trivial)) (by decide) (fun s H C cl fp => (gi_name (i := 3) (Gx.nd (Gx.blk G)) (by trivial) (by trivial) (by trivial))) (fun s H C cl fp => ts_nil) (fun s H C cl fp => (e_call (Gx.blk G) takes_no F_is_settled (by trivial) (by trivial) (a_cons (e_var (i := 0) (by trivial) (by trivial) (by trivial) (by trivial)) (a_cons (e_var (i := 3) (by trivial) (by trivial) (by trivial) (by trivial)) a_nil (by trivial)) (by trivial)) k_nil (by trivial) (by trivial) (by trivial) (by trivial))) (by trivial)) a_nil (by trivial)) (by trivial) (by trivial)))
    ss_nil)
/-! ### standing_places -/
def m_standing_places : MS := (sSeq (sAsg (tTupM 2 (tsCons (tName 2) (tsCons (tName 3) tsNil))) (eVar 1))
    (sSeq (sAsg (tName 4) (eThw (lDisp aNil)))
    (sSeq (sFor (iNs enumOf (aCons (eVar 3) aNil)) (tTupM 2 (tsCons (tName 5) (tsCons (tTupM 5 (tsCons (tName 6) (tsCons (tName 7) (tsCons (tName 8) (tsCons (tName 9) (tsCons (tName 10) tsNil)))))) tsNil))) (sSeq (sIf (tNotM (eTru (eCall [(Str.ofString "words"), (Str.ofString "name"), (Str.ofString "below")] [] fx_is_fallen [] (aCons (eVar 0) (aCons (eVar 6) (aCons (eVar 10) aNil))) aNil))) (sSeq (sExpr (eMeth "list" mAppend (eVar 4) (aCons (eVar 5) aNil)))
    sNil) sNil)
    sNil))
    (sSeq (sRet (eNs (Bi.g .tuple) (aCons (eVar 4) aNil)))
    sNil))))
def fx_standing_places : Fx := fxOf 11 false m_standing_places
theorem sc_standing_places : FnScope [(Str.ofString "words"), (Str.ofString "row"), (Str.ofString "base"), (Str.ofString "writings"), (Str.ofString "found"), (Str.ofString "k"), (Str.ofString "name"), (Str.ofString "hand"), (Str.ofString "sort"), (Str.ofString "value"), (Str.ofString "below")] [(Str.ofString "words"), (Str.ofString "row")] (defScope st_standing_places) := ⟨rfl, rfl, rfl, by decide +kernel, rfl, by decide +kernel, by decide +kernel⟩
theorem ok_standing_places {P : Program} {w : World} {K : PySem.W.Frag} {mg : Str → Option Value} {base : Heap} (T : Tx K mg) : Fd (gam P w K mg base) 3 (Str.ofString "standing_places") [(Str.ofString "words"), (Str.ofString "row")] [] fx_standing_places := by
  obtain ⟨a, fd, TF⟩ := T.d_standing_places
  have F_is_fallen := (ok_is_fallen (P := P) (w := w) (base := base) T).mono (k := 2) (by decide)
  refine fd_of TF rfl rfl rfl rfl rfl sc_standing_places ?_
  intro cdv A outer s H E G tk
  exact (ss_cons (s_asg (e_var (i := 1) (by trivial) (by trivial) (by trivial) (by trivial)) (g_of (gi_tup G (gis_cons (gi_name (i := 2) (Gx.nd G) (by trivial) (by trivial) (by trivial)) (gis_cons (gi_name (i := 3) (Gx.nd G) (by trivial) (by trivial) (by trivial)) gis_nil (by trivial)) (by trivial)) (by trivial) (by trivial))) (by trivial) (by trivial) (by trivial))
    (ss_cons (s_set (i := 4) (Gx.nd G) (by trivial) (by trivial) (e_thw (l_disp a_nil)) (by trivial) (by trivial))
    (ss_cons (s_for G (i_enum G (by trivial) T.b_enumerate (a_cons (e_var (i := 3) (by trivial) (by trivial) (by trivial) (by trivial)) a_nil (by trivial)) (by trivial)) (g_of (gi_tup G (gis_cons (gi_name (i := 5) (Gx.nd G) (by trivial) (by trivial) (by trivial)) (gis_cons (gi_tup G (gis_cons (gi_name (i := 6) (Gx.nd G) (by trivial) (by trivial) (by trivial)) (gis_cons (gi_name (i := 7) (Gx.nd G) (by trivial) (by trivial) (by trivial)) (gis_cons (gi_name (i := 8) (Gx.nd G) (by trivial) (by trivial) (by trivial)) (gis_cons (gi_name (i := 9) (Gx.nd G) (by trivial) (by trivial) (by trivial)) (gis_cons (gi_name (i := 10) (Gx.nd G) (by trivial) (by trivial) (by trivial)) gis_nil (by trivial)) (by trivial)) (by trivial)) (by trivial)) (by trivial)) (by trivial) (by trivial)) gis_nil (by trivial)) (by trivial)) (by trivial) (by trivial))) (ss_cons (s_if (t_not (t_truth G (e_call G tk F_is_fallen (by trivial) (by trivial) (a_cons (e_var (i := 0) (by trivial) (by trivial) (by trivial) (by trivial)) (a_cons (e_var (i := 6) (by trivial) (by trivial) (by trivial) (by trivial)) (a_cons (e_var (i := 10) (by trivial) (by trivial) (by trivial) (by trivial)) a_nil (by trivial)) (by trivial)) (by trivial)) k_nil (by trivial) (by trivial) (by trivial) (by trivial)) (by trivial))) (ss_cons (s_expr (e_meth G (fun _ _ _ hm ho ha => pe_bm PySem.F.plainAttrs_list PySem.F.slot_list_append PySem.F.type_list_append hm ho ha) m_append (by trivial) (e_var (i := 4) (by trivial) (by trivial) (by trivial) (by trivial)) (a_cons (e_var (i := 5) (by trivial) (by trivial) (by trivial) (by trivial)) a_nil (by trivial))) (by trivial))
    ss_nil) ss_nil)
    ss_nil) (by trivial))
    (ss_cons (s_ret (e_bi G .tuple (by trivial) T.b_tuple (a_cons (e_var (i := 4) (by trivial) (by trivial) (by trivial) (by trivial)) a_nil (by trivial)) (by trivial) (by trivial)))
    ss_nil))))
/-! ### heart_places -/
def m_heart_places : MS := (sSeq (sAsg (tTupM 2 (tsCons (tName 2) (tsCons (tName 3) tsNil))) (eVar 1))
    (sSeq (sAsg (tName 4) (eCall [(Str.ofString "words"), (Str.ofString "row")] [] fx_standing_places [] (aCons (eVar 0) (aCons (eVar 1) aNil)) aNil))
    (sSeq (sAsg (tName 5) (eNk gMaxD (aCons (eComp false (iSeq (eVar 4)) (tName 6) (eCmpT (bCmp .Eq) (eBin gIx (eBin gIx (eVar 3) (eVar 6)) (eC (.p (.int 2)))) (eC (.p (.str (Str.ofString "set"))))) (eVar 6) [6]) aNil) (aCons (eC (.p (.int 0))) aNil)))
    (sSeq (sRet (eNs (Bi.g .tuple) (aCons (eComp false (iSeq (eVar 4)) (tName 6) (eCmpT (bCmp .GtE) (eVar 6) (eVar 5)) (eVar 6) [6]) aNil)))
    sNil))))
def fx_heart_places : Fx := fxOf 7 false m_heart_places
theorem sc_heart_places : FnScope [(Str.ofString "words"), (Str.ofString "row"), (Str.ofString "base"), (Str.ofString "writings"), (Str.ofString "places"), (Str.ofString "begin"), (Str.ofString "k")] [(Str.ofString "words"), (Str.ofString "row")] (defScope st_heart_places) := ⟨rfl, rfl, rfl, by decide +kernel, rfl, by decide +kernel, by decide +kernel⟩
theorem ok_heart_places {P : Program} {w : World} {K : PySem.W.Frag} {mg : Str → Option Value} {base : Heap} (T : Tx K mg) : Fd (gam P w K mg base) 4 (Str.ofString "heart_places") [(Str.ofString "words"), (Str.ofString "row")] [] fx_heart_places := by
  obtain ⟨a, fd, TF⟩ := T.d_heart_places
  have F_standing_places := (ok_standing_places (P := P) (w := w) (base := base) T).mono (k := 3) (by decide)
  refine fd_of TF rfl rfl rfl rfl rfl sc_heart_places ?_
  intro cdv A outer s H E G tk
  exact (ss_cons (s_asg (e_var (i := 1) (by trivial) (by trivial) (by trivial) (by trivial)) (g_of (gi_tup G (gis_cons (gi_name (i := 2) (Gx.nd G) (by trivial) (by trivial) (by trivial)) (gis_cons (gi_name (i := 3) (Gx.nd G) (by trivial) (by trivial) (by trivial)) gis_nil (by trivial)) (by trivial)) (by trivial) (by trivial))) (by trivial) (by trivial) (by trivial))
    (ss_cons (s_set (i := 4) (Gx.nd G) (by trivial) (by trivial) (e_call G tk F_standing_places (by trivial) (by trivial) (a_cons (e_var (i := 0) (by trivial) (by trivial) (by trivial) (by trivial)) (a_cons (e_var (i := 1) (by trivial) (by trivial) (by trivial) (by trivial)) a_nil (by trivial)) (by trivial)) k_nil (by trivial) (by trivial) (by trivial) (by trivial)) (by trivial) (by trivial))
    (ss_cons (s_set (i := 5) (Gx.nd G) (by trivial) (by trivial) (e_maxD G (by trivial) T.b_max (a_cons (e_comp (th := false) (own := [((Str.ofString "k"), 6)]) (is := [6]) G (i_seq G (e_var (i := 4) (by trivial) (by trivial) (by trivial) (by trivial))) (blkOk_by (by trivial)) (by decide) (fun s H C cl fp => (gi_name (i := 6) (Gx.nd (Gx.blk G)) (by trivial) (by trivial) (by trivial))) (fun s H C cl fp => (ts_one (t_cmp (o_cmp (Gx.blk G) .Eq) (e_ix (Gx.blk G) (e_ix (Gx.blk G) (e_var (i := 3) (by trivial) (by trivial) (by trivial) (by trivial)) (e_var (i := 6) (by trivial) (by trivial) (by trivial) (by trivial)) (by trivial)) e_int (by trivial)) e_str (by trivial)))) (fun s H C cl fp => (e_var (i := 6) (by trivial) (by trivial) (by trivial) (by trivial))) (by trivial)) a_nil (by trivial)) (k_cons e_int k_nil) (by trivial) (by trivial) (by trivial) (by trivial) (by trivial)) (by trivial) (by trivial))
    (ss_cons (s_ret (e_bi G .tuple (by trivial) T.b_tuple (a_cons (e_comp (th := false) (own := [((Str.ofString "k"), 6)]) (is := [6]) G (i_seq G (e_var (i := 4) (by trivial) (by trivial) (by trivial) (by trivial))) (blkOk_by (by trivial)) (by decide) (fun s H C cl fp => (gi_name (i := 6) (Gx.nd (Gx.blk G)) (by trivial) (by trivial) (by trivial))) (fun s H C cl fp => (ts_one (t_cmp (o_cmp (Gx.blk G) .GtE) (e_var (i := 6) (by trivial) (by trivial) (by trivial) (by trivial)) (e_var (i := 5) (by trivial) (by trivial) (by trivial) (by trivial)) (by trivial)))) (fun s H C cl fp => (e_var (i := 6) (by trivial) (by trivial) (by trivial) (by trivial))) (by trivial)) a_nil (by trivial)) (by trivial) (by trivial)))
    ss_nil))))
/-! ### heart_writings -/
def m_heart_writings : MS := (sSeq (sRet (eComp2 false (iSeq (eVar 1)) (tTupM 2 (tsCons (tName 2) (tsCons (tName 3) tsNil))) tYesM (iSeq (eCall [(Str.ofString "words"), (Str.ofString "row")] [] fx_heart_places [] (aCons (eVar 0) (aCons (eTup (aCons (eVar 2) (aCons (eVar 3) aNil))) aNil)) aNil)) (tName 4) tYesM (eBin gIx (eVar 3) (eVar 4)) [2, 3, 4] [4]))
    sNil)
def fx_heart_writings : Fx := fxOf 5 false m_heart_writings
theorem sc_heart_writings : FnScope [(Str.ofString "words"), (Str.ofString "rows"), (Str.ofString "base"), (Str.ofString "writings"), (Str.ofString "k")] [(Str.ofString "words"), (Str.ofString "rows")] (defScope st_heart_writings) := ⟨rfl, rfl, rfl, by decide +kernel, rfl, by decide +kernel, by decide +kernel⟩
theorem ok_heart_writings {P : Program} {w : World} {K : PySem.W.Frag} {mg : Str → Option Value} {base : Heap} (T : Tx K mg) : Fd (gam P w K mg base) 5 (Str.ofString "heart_writings") [(Str.ofString "words"), (Str.ofString "rows")] [] fx_heart_writings := by
  obtain ⟨a, fd, TF⟩ := T.d_heart_writings
  have F_heart_places := (ok_heart_places (P := P) (w := w) (base := base) T).mono (k := 4) (by decide)
  refine fd_of TF rfl rfl rfl rfl rfl sc_heart_writings ?_
  intro cdv A outer s H E G tk
  exact (ss_cons (s_ret (e_comp2 (th := false) (own := [((Str.ofString "base"), 2), ((Str.ofString "writings"), 3), ((Str.ofString "k"), 4)]) (vs1 := [4]) (is := [2, 3]) (is1 := [4]) G (i_seq G (e_var (i := 1) (by trivial) (by trivial) (by trivial) (by trivial))) (blkOk_by (by trivial)) (by decide) (by decide) (by decide) (fun s H C cl fp => (gi_tup (Gx.blk G) (gis_cons (gi_name (i := 2) (Gx.nd (Gx.blk G)) (by trivial) (by trivial) (by trivial)) (gis_cons (gi_name (i := 3) (Gx.nd (Gx.blk G)) (by trivial) (by trivial) (by trivial)) gis_nil (by trivial)) (by trivial)) (by trivial) (by trivial))) (fun s H C cl fp => ts_nil) (fun s H C cl fp => (i_seq (Gx.blk G) (e_call (Gx.blk G) takes_no F_heart_places (by trivial) (by trivial) (a_cons (e_var (i := 0) (by trivial) (by trivial) (by trivial) (by trivial)) (a_cons (e_tup (a_cons (e_var (i := 2) (by trivial) (by trivial) (by trivial) (by trivial)) (a_cons (e_var (i := 3) (by trivial) (by trivial) (by trivial) (by trivial)) a_nil (by trivial)) (by trivial))) a_nil (by trivial)) (by trivial)) k_nil (by trivial) (by trivial) (by trivial) (by trivial)))) (fun s H C cl fp => (gi_name (i := 4) (Gx.nd (Gx.blk G)) (by trivial) (by trivial) (by trivial))) (fun s H C cl fp => ts_nil) (fun s H C cl fp => (e_ix (Gx.blk G) (e_var (i := 3) (by trivial) (by trivial) (by trivial) (by trivial)) (e_var (i := 4) (by trivial) (by trivial) (by trivial) (by trivial)) (by trivial))) (by trivial) (by trivial)))
    ss_nil)
/-! ### rests_straight -/
def m_rests_straight : MS := (sSeq (sRet (eNs (Bi.g .tuple) (aCons (eFrz (sComp gSortD (iSeq (eCall [(Str.ofString "words"), (Str.ofString "rows")] [] fx_heart_writings [] (aCons (eVar 0) (aCons (eVar 1) aNil)) aNil)) (tName 2) tYesM (eTup (aCons (eBin gIx (eVar 2) (eC (.p (.int 0)))) (aCons (eBin gIx (eVar 2) (eC (.p (.int 1)))) aNil))) [2])) aNil)))
    sNil)
def fx_rests_straight : Fx := fxOf 3 false m_rests_straight
theorem sc_rests_straight : FnScope [(Str.ofString "words"), (Str.ofString "rows"), (Str.ofString "writing")] [(Str.ofString "words"), (Str.ofString "rows")] (defScope st_rests_straight) := ⟨rfl, rfl, rfl, by decide +kernel, rfl, by decide +kernel, by decide +kernel⟩
theorem ok_rests_straight {P : Program} {w : World} {K : PySem.W.Frag} {mg : Str → Option Value} {base : Heap} (T : Tx K mg) : Fd (gam P w K mg base) 6 (Str.ofString "rests_straight") [(Str.ofString "words"), (Str.ofString "rows")] [] fx_rests_straight := by
  obtain ⟨a, fd, TF⟩ := T.d_rests_straight
  have F_heart_writings := (ok_heart_writings (P := P) (w := w) (base := base) T).mono (k := 5) (by decide)
  refine fd_of TF rfl rfl rfl rfl rfl sc_rests_straight ?_
  intro cdv A outer s H E G tk
  exact (ss_cons (s_ret (e_bi G .tuple (by trivial) T.b_tuple (a_cons (e_frz (l_sortSC (own := [((Str.ofString "writing"), 2)]) (is := [2]) G (by trivial) T.b_sorted (i_seq G (e_call G tk F_heart_writings (by trivial) (by trivial) (a_cons (e_var (i := 0) (by trivial) (by trivial) (by trivial) (by trivial)) (a_cons (e_var (i := 1) (by trivial) (by trivial) (by trivial) (by trivial)) a_nil (by trivial)) (by trivial)) k_nil (by trivial) (by trivial) (by trivial) (by trivial))) (blkOk_by (by trivial)) (by decide) (fun s H C cl fp => (gi_name (i := 2) (Gx.nd (Gx.blk G)) (by trivial) (by trivial) (by trivial))) (fun s H C cl fp => ts_nil) (fun s H C cl fp => (e_tup (a_cons (e_ix (Gx.blk G) (e_var (i := 2) (by trivial) (by trivial) (by trivial) (by trivial)) e_int (by trivial)) (a_cons (e_ix (Gx.blk G) (e_var (i := 2) (by trivial) (by trivial) (by trivial) (by trivial)) e_int (by trivial)) a_nil (by trivial)) (by trivial)))) (by trivial) (by trivial) (by trivial))) a_nil (by trivial)) (by trivial) (by trivial)))
    ss_nil)
/-! ### below_resting -/
def m_below_resting : MS := (sSeq (sAsg (tName 2) (eDComp true (iSeq (eCall [(Str.ofString "words"), (Str.ofString "rows")] [] fx_rests_straight [] (aCons (eVar 0) (aCons (eVar 1) aNil)) aNil)) (tName 4) tYesM (eVar 4) (eC (.p (.bool true))) [4]))
    (sSeq (sFor (iSeq (eCall [(Str.ofString "words"), (Str.ofString "rows")] [] fx_heart_writings [] (aCons (eVar 0) (aCons (eVar 1) aNil)) aNil)) (tName 3) (sSeq (sExpr (eDm mUpdate (eVar 2) (aCons (eDComp false (iSeq (eBin gIx (eVar 3) (eC (.p (.int 4))))) (tName 4) tYesM (eVar 4) (eC (.p (.bool true))) [4]) aNil)))
    sNil))
    (sSeq (sRet (eNs (Bi.g .tuple) (aCons (eFrz (lNs gSortDict (aCons (eVar 2) aNil))) aNil)))
    sNil)))
def fx_below_resting : Fx := fxOf 5 false m_below_resting
theorem sc_below_resting : FnScope [(Str.ofString "words"), (Str.ofString "rows"), (Str.ofString "found"), (Str.ofString "writing"), (Str.ofString "mark")] [(Str.ofString "words"), (Str.ofString "rows")] (defScope st_below_resting) := ⟨rfl, rfl, rfl, by decide +kernel, rfl, by decide +kernel, by decide +kernel⟩
theorem ok_below_resting {P : Program} {w : World} {K : PySem.W.Frag} {mg : Str → Option Value} {base : Heap} (T : Tx K mg) : Fd (gam P w K mg base) 7 (Str.ofString "below_resting") [(Str.ofString "words"), (Str.ofString "rows")] [] fx_below_resting := by
  obtain ⟨a, fd, TF⟩ := T.d_below_resting
  have F_heart_writings := (ok_heart_writings (P := P) (w := w) (base := base) T).mono (k := 6) (by decide)
  have F_rests_straight := (ok_rests_straight (P := P) (w := w) (base := base) T).mono (k := 6) (by decide)
  refine fd_of TF rfl rfl rfl rfl rfl sc_below_resting ?_
  intro cdv A outer s H E G tk
  exact (ss_cons (s_setDComp (i := 2) (th := true) (own := [((Str.ofString "mark"), 4)]) (is := [4]) G (by trivial) (by trivial) (swD_true (by trivial) (by trivial) (by trivial) (by trivial)) (i_seq G (e_call G tk F_rests_straight (by trivial) (by trivial) (a_cons (e_var (i := 0) (by trivial) (by trivial) (by trivial) (by trivial)) (a_cons (e_var (i := 1) (by trivial) (by trivial) (by trivial) (by trivial)) a_nil (by trivial)) (by trivial)) k_nil (by trivial) (by trivial) (by trivial) (by trivial))) (blkOk_by (by trivial)) (by decide) (fun s H C cl fp => (gi_name (i := 4) (Gx.nd (Gx.blk G)) (by trivial) (by trivial) (by trivial))) (fun s H C cl fp => ts_nil) (fun s H C cl fp => (e_var (i := 4) (by trivial) (by trivial) (by trivial) (by trivial))) (fun s H C cl fp => e_bl) (by trivial))
    (ss_cons (s_for G (i_seq G (e_call G tk F_heart_writings (by trivial) (by trivial) (a_cons (e_var (i := 0) (by trivial) (by trivial) (by trivial) (by trivial)) (a_cons (e_var (i := 1) (by trivial) (by trivial) (by trivial) (by trivial)) a_nil (by trivial)) (by trivial)) k_nil (by trivial) (by trivial) (by trivial) (by trivial))) (g_of (gi_name (i := 3) (Gx.nd G) (by trivial) (by trivial) (by trivial))) (ss_cons (s_expr (e_dm (fun _ _ _ hm ho ha => pe_dm PySem.F.plainAttrs_dict PySem.F.slot_dict_update PySem.F.type_dict_update hm ho ha (by trivial) (by trivial) (by trivial) (by trivial) (by trivial)) (m_update G) (e_var (i := 2) (by trivial) (by trivial) (by trivial) (by trivial)) (a_cons (e_dcomp (th := false) (own := [((Str.ofString "mark"), 4)]) (is := [4]) G (i_seq G (e_ix G (e_var (i := 3) (by trivial) (by trivial) (by trivial) (by trivial)) e_int (by trivial))) (blkOk_by (by trivial)) (by decide) (fun s H C cl fp => (gi_name (i := 4) (Gx.nd (Gx.blk G)) (by trivial) (by trivial) (by trivial))) (fun s H C cl fp => ts_nil) (fun s H C cl fp => (e_var (i := 4) (by trivial) (by trivial) (by trivial) (by trivial))) (fun s H C cl fp => e_bl) (by trivial)) a_nil (by trivial))) (by trivial))
    ss_nil) (by trivial))
    (ss_cons (s_ret (e_bi G .tuple (by trivial) T.b_tuple (a_cons (e_frz (l_sortDict G (by trivial) T.b_sorted (a_cons (e_var (i := 2) (by trivial) (by trivial) (by trivial) (by trivial)) a_nil (by trivial)) (by trivial) (by trivial))) a_nil (by trivial)) (by trivial) (by trivial)))
    ss_nil)))
/-! ### words_joined -/
def m_words_joined : MS := (sSeq (sAsg (tName 2) (eDictOf true gDictT (aCons (eVar 0) aNil)))
    (sSeq (sFor (iSeq (eVar 1)) (tTupM 2 (tsCons (tName 3) (tsCons (tName 4) tsNil))) (sSeq (sIf (eCmpT (bCmp .NotEq) (eDm mSetdef (eVar 2) (aCons (eVar 3) (aCons (eVar 4) aNil))) (eVar 4)) (sSeq (sRaise (Str.ofString "NoName") [(Str.ofString "name")] (aCons (eVar 3) aNil))
    sNil) sNil)
    sNil))
    (sSeq (sRet (eNs (Bi.g .tuple) (aCons (eFrz (lSortItems (eVar 2))) aNil)))
    sNil)))
def fx_words_joined : Fx := fxOf 5 false m_words_joined
theorem sc_words_joined : FnScope [(Str.ofString "words"), (Str.ofString "more"), (Str.ofString "found"), (Str.ofString "name"), (Str.ofString "ending")] [(Str.ofString "words"), (Str.ofString "more")] (defScope st_words_joined) := ⟨rfl, rfl, rfl, by decide +kernel, rfl, by decide +kernel, by decide +kernel⟩
theorem ok_words_joined {P : Program} {w : World} {K : PySem.W.Frag} {mg : Str → Option Value} {base : Heap} (T : Tx K mg) : Fd (gam P w K mg base) 3 (Str.ofString "words_joined") [(Str.ofString "words"), (Str.ofString "more")] [] fx_words_joined := by
  obtain ⟨a, fd, TF⟩ := T.d_words_joined
  obtain ⟨C_NoName, R_NoName⟩ := ok_NoName (P := P) (w := w) (base := base) T

  refine fd_of TF rfl rfl rfl rfl rfl sc_words_joined ?_
  intro cdv A outer s H E G tk
  exact (ss_cons (s_set (i := 2) (Gx.nd G) (by trivial) (by trivial) (e_dictT (th := true) G (by trivial) T.b_dict (a_cons (e_var (i := 0) (by trivial) (by trivial) (by trivial) (by trivial)) a_nil (by trivial)) (by trivial) (by trivial)) (by trivial) (by trivial))
    (ss_cons (s_for G (i_seq G (e_var (i := 1) (by trivial) (by trivial) (by trivial) (by trivial))) (g_of (gi_tup G (gis_cons (gi_name (i := 3) (Gx.nd G) (by trivial) (by trivial) (by trivial)) (gis_cons (gi_name (i := 4) (Gx.nd G) (by trivial) (by trivial) (by trivial)) gis_nil (by trivial)) (by trivial)) (by trivial) (by trivial))) (ss_cons (s_if (t_cmp (o_cmp G .NotEq) (e_dm (fun _ _ _ hm ho ha => pe_dm PySem.F.plainAttrs_dict PySem.F.slot_dict_setdefault PySem.F.type_dict_setdefault hm ho ha (by trivial) (by trivial) (by trivial) (by trivial) (by trivial)) (m_setdef G) (e_var (i := 2) (by trivial) (by trivial) (by trivial) (by trivial)) (a_cons (e_var (i := 3) (by trivial) (by trivial) (by trivial) (by trivial)) (a_cons (e_var (i := 4) (by trivial) (by trivial) (by trivial) (by trivial)) a_nil (by trivial)) (by trivial))) (e_var (i := 4) (by trivial) (by trivial) (by trivial) (by trivial)) (by trivial)) (ss_cons (s_raise G tk (by decide) R_NoName (by trivial) (by trivial) (a_cons (e_var (i := 3) (by trivial) (by trivial) (by trivial) (by trivial)) a_nil (by trivial)) (by trivial) (by trivial))
    ss_nil) ss_nil)
    ss_nil) (by trivial))
    (ss_cons (s_ret (e_bi G .tuple (by trivial) T.b_tuple (a_cons (e_frz (l_sortItems G (by trivial) T.b_sorted (e_var (i := 2) (by trivial) (by trivial) (by trivial) (by trivial)) (by trivial) (by trivial) (by trivial) (by trivial))) a_nil (by trivial)) (by trivial) (by trivial)))
    ss_nil)))
/-! ### _law_feed -/
def m__law_feed : MS := (sSeq (sRet (eDict true [((eC (.p (.str (Str.ofString "cells")))), (eFrz (lNs (Bl.g .list) (aCons (eSl (eVar 0) oNone (oSome (eC (.p (.int 63))))) aNil)))), ((eC (.p (.str (Str.ofString "at")))), (eC (.p (.int 0)))), ((eC (.p (.str (Str.ofString "left")))), (eC (.p (.int 0)))), ((eC (.p (.str (Str.ofString "count")))), (eC (.p (.int 0))))]))
    sNil)
def fx__law_feed : Fx := fxOf 1 true m__law_feed
theorem sc__law_feed : FnScope [(Str.ofString "_law_script")] [(Str.ofString "_law_script")] (defScope st__law_feed) := ⟨rfl, rfl, rfl, by decide +kernel, rfl, by decide +kernel, by decide +kernel⟩
theorem ok__law_feed {P : Program} {w : World} {K : PySem.W.Frag} {mg : Str → Option Value} {base : Heap} (T : Tx K mg) : Fd (gam P w K mg base) 1 (Str.ofString "_law_feed") [(Str.ofString "_law_script")] [] fx__law_feed := by
  obtain ⟨a, fd, TF⟩ := T.d__law_feed

  refine fd_of TF rfl rfl rfl rfl rfl sc__law_feed ?_
  intro cdv A outer s H E G tk
  exact (ss_cons (s_ret (e_dict (th := true) (ps := [((eC (.p (.str (Str.ofString "cells")))), (eFrz (lNs (Bl.g .list) (aCons (eSl (eVar 0) oNone (oSome (eC (.p (.int 63))))) aNil)))), ((eC (.p (.str (Str.ofString "at")))), (eC (.p (.int 0)))), ((eC (.p (.str (Str.ofString "left")))), (eC (.p (.int 0)))), ((eC (.p (.str (Str.ofString "count")))), (eC (.p (.int 0))))]) (pps_cons e_str (e_frz (l_bl G .list (by trivial) T.b_list (a_cons (e_sl G (e_var (i := 0) (by trivial) (by trivial) (by trivial) (by trivial)) o_none (o_some e_int)) a_nil (by trivial)) (by trivial) (by trivial))) (pps_cons e_str e_int (pps_cons e_str e_int (pps_cons e_str e_int pps_nil)))) (by trivial) (by trivial) (by trivial) (by trivial)))
    ss_nil)
/-! ### _law_draw -/
def m__law_draw : MS := (sSeq (sSub (eVar 0) (eC (.p (.str (Str.ofString "count")))) (eBin gAdd (eBin gIx (eVar 0) (eC (.p (.str (Str.ofString "count"))))) (eC (.p (.int 1)))))
    (sSeq (sIf (eCmpT (bCmp .Gt) (eBin gIx (eVar 0) (eC (.p (.str (Str.ofString "left"))))) (eC (.p (.int 0)))) (sSeq (sAsg (tName 2) (eBin gMod (eBin gIx (eVar 0) (eC (.p (.str (Str.ofString "left"))))) (eVar 1)))
    (sSeq (sSub (eVar 0) (eC (.p (.str (Str.ofString "left")))) (eBin gDiv (eBin gIx (eVar 0) (eC (.p (.str (Str.ofString "left"))))) (eVar 1)))
    (sSeq (sRet (eVar 2))
    sNil))) sNil)
    (sSeq (sAsg (tName 3) (eBin gIx (eVar 0) (eC (.p (.str (Str.ofString "at"))))))
    (sSeq (sSub (eVar 0) (eC (.p (.str (Str.ofString "at")))) (eBin gAdd (eVar 3) (eC (.p (.int 1)))))
    (sSeq (sAsg (tName 4) (eIf (eCmpT (bCmp .NotEq) (eBin gIx (eVar 0) (eC (.p (.str (Str.ofString "cells"))))) (eFrz (lDisp aNil))) (eBin gIx (eBin gIx (eVar 0) (eC (.p (.str (Str.ofString "cells"))))) (eBin gMod (eVar 3) (eNs (Bi.g .len) (aCons (eBin gIx (eVar 0) (eC (.p (.str (Str.ofString "cells"))))) aNil)))) (eC (.p (.int 41)))))
    (sSeq (sIf (tAndM (eCmpT (bCmp .GtE) (eVar 4) (eBin gPow (eC (.p (.int 10))) (eC (.p (.int 18))))) (eCmpT (bCmp .Lt) (eVar 3) (eNs (Bi.g .len) (aCons (eBin gIx (eVar 0) (eC (.p (.str (Str.ofString "cells"))))) aNil)))) (sSeq (sSub (eVar 0) (eC (.p (.str (Str.ofString "left")))) (eBin gDiv (eVar 4) (eVar 1)))
    (sSeq (sRet (eBin gMod (eVar 4) (eVar 1)))
    sNil)) sNil)
    (sSeq (sAsg (tName 5) (eBin gMod (eBin gAdd (eBin gAdd (eBin gMod (eVar 4) (eC (.p (.int 1000000409)))) (eBin gMul (eC (.p (.int 110017))) (eBin gIx (eVar 0) (eC (.p (.str (Str.ofString "count"))))))) (eC (.p (.int 97)))) (eC (.p (.int 2147483563)))))
    (sSeq (sAsg (tName 5) (eBin gMod (eBin gAdd (eBin gAdd (eBin gMul (eVar 5) (eVar 5)) (eBin gMul (eC (.p (.int 3316247))) (eBin gIx (eVar 0) (eC (.p (.str (Str.ofString "count"))))))) (eC (.p (.int 89)))) (eC (.p (.int 2147483549)))))
    (sSeq (sRet (eBin gMod (eBin gDiv (eBin gMod (eBin gAdd (eBin gMul (eVar 5) (eVar 5)) (eBin gMul (eC (.p (.int 67))) (eVar 5))) (eC (.p (.int 2147483543)))) (eC (.p (.int 16)))) (eVar 1)))
    sNil)))))))))
def fx__law_draw : Fx := fxOf 6 false m__law_draw
theorem sc__law_draw : FnScope [(Str.ofString "_law_feed_here"), (Str.ofString "_law_many"), (Str.ofString "_law_figure"), (Str.ofString "_law_at"), (Str.ofString "_law_cell"), (Str.ofString "_law_mixed")] [(Str.ofString "_law_feed_here"), (Str.ofString "_law_many")] (defScope st__law_draw) := ⟨rfl, rfl, rfl, by decide +kernel, rfl, by decide +kernel, by decide +kernel⟩
theorem ok__law_draw {P : Program} {w : World} {K : PySem.W.Frag} {mg : Str → Option Value} {base : Heap} (T : Tx K mg) : Fd (gam P w K mg base) 1 (Str.ofString "_law_draw") [(Str.ofString "_law_feed_here"), (Str.ofString "_law_many")] [] fx__law_draw := by
  obtain ⟨a, fd, TF⟩ := T.d__law_draw

  refine fd_of TF rfl rfl rfl rfl rfl sc__law_draw ?_
  intro cdv A outer s H E G tk
  exact (ss_cons (s_sub (fun _ _ _ ho hi hs => pg_sub ho hi hs) G (e_var (i := 0) (by trivial) (by trivial) (by trivial) (by trivial)) e_str (e_bin (o_add G) (e_ix G (e_var (i := 0) (by trivial) (by trivial) (by trivial) (by trivial)) e_str (by trivial)) e_int) (by trivial) (by trivial) (by trivial))
    (ss_cons (s_if (t_cmp (o_cmp G .Gt) (e_ix G (e_var (i := 0) (by trivial) (by trivial) (by trivial) (by trivial)) e_str (by trivial)) e_int (by trivial)) (ss_cons (s_set (i := 2) (Gx.nd G) (by trivial) (by trivial) (e_bin o_mod (e_ix G (e_var (i := 0) (by trivial) (by trivial) (by trivial) (by trivial)) e_str (by trivial)) (e_var (i := 1) (by trivial) (by trivial) (by trivial) (by trivial))) (by trivial) (by trivial))
    (ss_cons (s_sub (fun _ _ _ ho hi hs => pg_sub ho hi hs) G (e_var (i := 0) (by trivial) (by trivial) (by trivial) (by trivial)) e_str (e_bin o_div (e_ix G (e_var (i := 0) (by trivial) (by trivial) (by trivial) (by trivial)) e_str (by trivial)) (e_var (i := 1) (by trivial) (by trivial) (by trivial) (by trivial))) (by trivial) (by trivial) (by trivial))
    (ss_cons (s_ret (e_var (i := 2) (by trivial) (by trivial) (by trivial) (by trivial)))
    ss_nil))) ss_nil)
    (ss_cons (s_set (i := 3) (Gx.nd G) (by trivial) (by trivial) (e_ix G (e_var (i := 0) (by trivial) (by trivial) (by trivial) (by trivial)) e_str (by trivial)) (by trivial) (by trivial))
    (ss_cons (s_sub (fun _ _ _ ho hi hs => pg_sub ho hi hs) G (e_var (i := 0) (by trivial) (by trivial) (by trivial) (by trivial)) e_str (e_bin (o_add G) (e_var (i := 3) (by trivial) (by trivial) (by trivial) (by trivial)) e_int) (by trivial) (by trivial) (by trivial))
    (ss_cons (s_set (i := 4) (Gx.nd G) (by trivial) (by trivial) (e_if (t_cmp (o_cmp G .NotEq) (e_ix G (e_var (i := 0) (by trivial) (by trivial) (by trivial) (by trivial)) e_str (by trivial)) (e_frz (l_disp a_nil)) (by trivial)) (e_ix G (e_ix G (e_var (i := 0) (by trivial) (by trivial) (by trivial) (by trivial)) e_str (by trivial)) (e_bin o_mod (e_var (i := 3) (by trivial) (by trivial) (by trivial) (by trivial)) (e_bi G .len (by trivial) T.b_len (a_cons (e_ix G (e_var (i := 0) (by trivial) (by trivial) (by trivial) (by trivial)) e_str (by trivial)) a_nil (by trivial)) (by trivial) (by trivial))) (by trivial)) e_int) (by trivial) (by trivial))
    (ss_cons (s_if (PW.pt (t_and (t_cmp (o_cmp G .GtE) (e_var (i := 4) (by trivial) (by trivial) (by trivial) (by trivial)) (e_bin o_pow e_int e_int) (by trivial)) (pw_and1 (t_cmp (o_cmp G .Lt) (e_var (i := 3) (by trivial) (by trivial) (by trivial) (by trivial)) (e_bi G .len (by trivial) T.b_len (a_cons (e_ix G (e_var (i := 0) (by trivial) (by trivial) (by trivial) (by trivial)) e_str (by trivial)) a_nil (by trivial)) (by trivial) (by trivial)) (by trivial))))) (ss_cons (s_sub (fun _ _ _ ho hi hs => pg_sub ho hi hs) G (e_var (i := 0) (by trivial) (by trivial) (by trivial) (by trivial)) e_str (e_bin o_div (e_var (i := 4) (by trivial) (by trivial) (by trivial) (by trivial)) (e_var (i := 1) (by trivial) (by trivial) (by trivial) (by trivial))) (by trivial) (by trivial) (by trivial))
    (ss_cons (s_ret (e_bin o_mod (e_var (i := 4) (by trivial) (by trivial) (by trivial) (by trivial)) (e_var (i := 1) (by trivial) (by trivial) (by trivial) (by trivial))))
    ss_nil)) ss_nil)
    (ss_cons (s_set (i := 5) (Gx.nd G) (by trivial) (by trivial) (e_bin o_mod (e_bin (o_add G) (e_bin (o_add G) (e_bin o_mod (e_var (i := 4) (by trivial) (by trivial) (by trivial) (by trivial)) e_int) (e_bin o_mul e_int (e_ix G (e_var (i := 0) (by trivial) (by trivial) (by trivial) (by trivial)) e_str (by trivial)))) e_int) e_int) (by trivial) (by trivial))
    (ss_cons (s_set (i := 5) (Gx.nd G) (by trivial) (by trivial) (e_bin o_mod (e_bin (o_add G) (e_bin (o_add G) (e_bin o_mul (e_var (i := 5) (by trivial) (by trivial) (by trivial) (by trivial)) (e_var (i := 5) (by trivial) (by trivial) (by trivial) (by trivial))) (e_bin o_mul e_int (e_ix G (e_var (i := 0) (by trivial) (by trivial) (by trivial) (by trivial)) e_str (by trivial)))) e_int) e_int) (by trivial) (by trivial))
    (ss_cons (s_ret (e_bin o_mod (e_bin o_div (e_bin o_mod (e_bin (o_add G) (e_bin o_mul (e_var (i := 5) (by trivial) (by trivial) (by trivial) (by trivial)) (e_var (i := 5) (by trivial) (by trivial) (by trivial) (by trivial))) (e_bin o_mul e_int (e_var (i := 5) (by trivial) (by trivial) (by trivial) (by trivial)))) e_int) e_int) (e_var (i := 1) (by trivial) (by trivial) (by trivial) (by trivial))))
    ss_nil)))))))))
/-! ### _law_pool -/
def m__law_pool : MS := (sSeq (sPar [2, 3] (aCons (eThw (lDisp aNil)) (aCons (eDict true [((eC (.p (.str (Str.ofString "ash")))), (eC (.p (.int 0)))), ((eC (.p (.str (Str.ofString "elm")))), (eC (.p (.int 0)))), ((eC (.p (.str (Str.ofString "oak")))), (eC (.p (.int 0))))]) aNil)))
    (sSeq (sFor (iNs rng1 (aCons (eCall [(Str.ofString "_law_feed_here"), (Str.ofString "_law_many")] [] fx__law_draw [] (aCons (eVar 0) (aCons (eBin gAdd (eVar 1) (eC (.p (.int 1)))) aNil)) aNil) aNil)) (tName 4) (sSeq (sPar [5, 6, 7] (aCons (eBin gIx (eFrz (lDisp (aCons (eC (.p (.str (Str.ofString "ash")))) (aCons (eC (.p (.str (Str.ofString "elm")))) (aCons (eC (.p (.str (Str.ofString "oak")))) aNil))))) (eCall [(Str.ofString "_law_feed_here"), (Str.ofString "_law_many")] [] fx__law_draw [] (aCons (eVar 0) (aCons (eC (.p (.int 3))) aNil)) aNil)) (aCons (eFrz (lDisp aNil)) (aCons (eThw (lDisp aNil)) aNil))))
    (sSeq (sFor (iSeq (eVar 2)) (tName 8) (sSeq (sIf (eCmpT (bCmp .Eq) (eCall [(Str.ofString "_law_feed_here"), (Str.ofString "_law_many")] [] fx__law_draw [] (aCons (eVar 0) (aCons (eC (.p (.int 4))) aNil)) aNil) (eC (.p (.int 0)))) (sSeq (sExpr (eMeth "list" mAppend (eVar 7) (aCons (eBin gIx (eVar 8) (eC (.p (.int 0)))) aNil)))
    (sSeq (sAsg (tName 6) (eBin gAdd (eBin gAdd (eVar 6) (eFrz (lDisp (aCons (eSl (eVar 8) oNone (oSome (eC (.p (.int 2))))) aNil)))) (eFrz (lNs (Bl.g .list) (aCons (eBin gIx (eVar 8) (eC (.p (.int 2)))) aNil)))))
    sNil)) sNil)
    sNil))
    (sSeq (sAsg (tName 9) (eBin gIx (eFrz (lDisp (aCons (eC (.p (.str (Str.ofString "ann")))) (aCons (eC (.p (.str (Str.ofString "bo")))) (aCons (eC (.p (.str (Str.ofString "cy")))) (aCons (eC (.p (.str (Str.ofString "dee")))) aNil)))))) (eCall [(Str.ofString "_law_feed_here"), (Str.ofString "_law_many")] [] fx__law_draw [] (aCons (eVar 0) (aCons (eC (.p (.int 4))) aNil)) aNil)))
    (sSeq (sExpr (eMeth "list" mAppend (eVar 2) (aCons (eTup (aCons (eTup (aCons (eVar 5) (aCons (eBin gIx (eVar 3) (eVar 5)) aNil))) (aCons (eVar 9) (aCons (eNs (Bi.g .tuple) (aCons (eFrz (lNs gSortSet (aCons (eVar 6) aNil))) aNil)) (aCons (eNs (Bi.g .tuple) (aCons (eFrz (lNs (Bl.g .sorted) (aCons (eVar 7) aNil))) aNil)) aNil))))) aNil)))
    (sSeq (sSub (eVar 3) (eVar 5) (eBin gAdd (eBin gIx (eVar 3) (eVar 5)) (eC (.p (.int 1)))))
    sNil))))))
    (sSeq (sRet (eVar 2))
    sNil)))
def fx__law_pool : Fx := fxOf 10 false m__law_pool
theorem sc__law_pool : FnScope [(Str.ofString "_law_feed_here"), (Str.ofString "_law_many"), (Str.ofString "_law_found"), (Str.ofString "_law_counts"), (Str.ofString "_law_k"), (Str.ofString "_law_place"), (Str.ofString "_law_under"), (Str.ofString "_law_straight"), (Str.ofString "_law_own"), (Str.ofString "_law_hand")] [(Str.ofString "_law_feed_here"), (Str.ofString "_law_many")] (defScope st__law_pool) := ⟨rfl, rfl, rfl, by decide +kernel, rfl, by decide +kernel, by decide +kernel⟩
theorem ok__law_pool {P : Program} {w : World} {K : PySem.W.Frag} {mg : Str → Option Value} {base : Heap} (T : Tx K mg) : Fd (gam P w K mg base) 2 (Str.ofString "_law_pool") [(Str.ofString "_law_feed_here"), (Str.ofString "_law_many")] [] fx__law_pool := by
  obtain ⟨a, fd, TF⟩ := T.d__law_pool
  have F__law_draw := (ok__law_draw (P := P) (w := w) (base := base) T).mono (k := 1) (by decide)
  refine fd_of TF rfl rfl rfl rfl rfl sc__law_pool ?_
  intro cdv A outer s H E G tk
  exact (ss_cons (s_par (i := 2) (j := 3) G (by trivial) (by trivial) (by trivial) (by trivial) (by trivial) (a_cons (e_thw (l_disp a_nil)) (a_cons (e_dict (th := true) (ps := [((eC (.p (.str (Str.ofString "ash")))), (eC (.p (.int 0)))), ((eC (.p (.str (Str.ofString "elm")))), (eC (.p (.int 0)))), ((eC (.p (.str (Str.ofString "oak")))), (eC (.p (.int 0))))]) (pps_cons e_str e_int (pps_cons e_str e_int (pps_cons e_str e_int pps_nil))) (by trivial) (by trivial) (by trivial) (by trivial)) a_nil (by trivial)) (by trivial)) (by trivial) (by trivial))
    (ss_cons (s_for G (i_range1 G (by trivial) T.b_range (a_cons (e_call G tk F__law_draw (by trivial) (by trivial) (a_cons (e_var (i := 0) (by trivial) (by trivial) (by trivial) (by trivial)) (a_cons (e_bin (o_add G) (e_var (i := 1) (by trivial) (by trivial) (by trivial) (by trivial)) e_int) a_nil (by trivial)) (by trivial)) k_nil (by trivial) (by trivial) (by trivial) (by trivial)) a_nil (by trivial)) (by trivial)) (g_of (gi_name (i := 4) (Gx.nd G) (by trivial) (by trivial) (by trivial))) (ss_cons (s_par3 (i := 5) (j := 6) (l := 7) G (by trivial) (by trivial) (by trivial) (by trivial) (by trivial) (by trivial) (by trivial) (by trivial) (by trivial) (a_cons (e_ix G (e_frz (l_disp (a_cons e_str (a_cons e_str (a_cons e_str a_nil (by trivial)) (by trivial)) (by trivial)))) (e_call G tk F__law_draw (by trivial) (by trivial) (a_cons (e_var (i := 0) (by trivial) (by trivial) (by trivial) (by trivial)) (a_cons e_int a_nil (by trivial)) (by trivial)) k_nil (by trivial) (by trivial) (by trivial) (by trivial)) (by trivial)) (a_cons (e_frz (l_disp a_nil)) (a_cons (e_thw (l_disp a_nil)) a_nil (by trivial)) (by trivial)) (by trivial)) (by trivial) (by trivial))
    (ss_cons (s_for G (i_seq G (e_var (i := 2) (by trivial) (by trivial) (by trivial) (by trivial))) (g_of (gi_name (i := 8) (Gx.nd G) (by trivial) (by trivial) (by trivial))) (ss_cons (s_if (t_cmp (o_cmp G .Eq) (e_call G tk F__law_draw (by trivial) (by trivial) (a_cons (e_var (i := 0) (by trivial) (by trivial) (by trivial) (by trivial)) (a_cons e_int a_nil (by trivial)) (by trivial)) k_nil (by trivial) (by trivial) (by trivial) (by trivial)) e_int (by trivial)) (ss_cons (s_expr (e_meth G (fun _ _ _ hm ho ha => pe_bm PySem.F.plainAttrs_list PySem.F.slot_list_append PySem.F.type_list_append hm ho ha) m_append (by trivial) (e_var (i := 7) (by trivial) (by trivial) (by trivial) (by trivial)) (a_cons (e_ix G (e_var (i := 8) (by trivial) (by trivial) (by trivial) (by trivial)) e_int (by trivial)) a_nil (by trivial))) (by trivial))
    (ss_cons (s_set (i := 6) (Gx.nd G) (by trivial) (by trivial) (e_bin (o_add G) (e_bin (o_add G) (e_var (i := 6) (by trivial) (by trivial) (by trivial) (by trivial)) (e_frz (l_disp (a_cons (e_sl G (e_var (i := 8) (by trivial) (by trivial) (by trivial) (by trivial)) o_none (o_some e_int)) a_nil (by trivial))))) (e_frz (l_bl G .list (by trivial) T.b_list (a_cons (e_ix G (e_var (i := 8) (by trivial) (by trivial) (by trivial) (by trivial)) e_int (by trivial)) a_nil (by trivial)) (by trivial) (by trivial)))) (by trivial) (by trivial))
    ss_nil)) ss_nil)
    ss_nil) (by trivial))
    (ss_cons (s_set (i := 9) (Gx.nd G) (by trivial) (by trivial) (e_ix G (e_frz (l_disp (a_cons e_str (a_cons e_str (a_cons e_str (a_cons e_str a_nil (by trivial)) (by trivial)) (by trivial)) (by trivial)))) (e_call G tk F__law_draw (by trivial) (by trivial) (a_cons (e_var (i := 0) (by trivial) (by trivial) (by trivial) (by trivial)) (a_cons e_int a_nil (by trivial)) (by trivial)) k_nil (by trivial) (by trivial) (by trivial) (by trivial)) (by trivial)) (by trivial) (by trivial))
    (ss_cons (s_expr (e_meth G (fun _ _ _ hm ho ha => pe_bm PySem.F.plainAttrs_list PySem.F.slot_list_append PySem.F.type_list_append hm ho ha) m_append (by trivial) (e_var (i := 2) (by trivial) (by trivial) (by trivial) (by trivial)) (a_cons (e_tup (a_cons (e_tup (a_cons (e_var (i := 5) (by trivial) (by trivial) (by trivial) (by trivial)) (a_cons (e_ix G (e_var (i := 3) (by trivial) (by trivial) (by trivial) (by trivial)) (e_var (i := 5) (by trivial) (by trivial) (by trivial) (by trivial)) (by trivial)) a_nil (by trivial)) (by trivial))) (a_cons (e_var (i := 9) (by trivial) (by trivial) (by trivial) (by trivial)) (a_cons (e_bi G .tuple (by trivial) T.b_tuple (a_cons (e_frz (l_sortSet G (by trivial) T.b_sorted (by trivial) T.b_set (a_cons (e_var (i := 6) (by trivial) (by trivial) (by trivial) (by trivial)) a_nil (by trivial)) (by trivial) (by trivial) (by trivial))) a_nil (by trivial)) (by trivial) (by trivial)) (a_cons (e_bi G .tuple (by trivial) T.b_tuple (a_cons (e_frz (l_bl G .sorted (by trivial) T.b_sorted (a_cons (e_var (i := 7) (by trivial) (by trivial) (by trivial) (by trivial)) a_nil (by trivial)) (by trivial) (by trivial))) a_nil (by trivial)) (by trivial) (by trivial)) a_nil (by trivial)) (by trivial)) (by trivial)) (by trivial))) a_nil (by trivial))) (by trivial))
    (ss_cons (s_sub (fun _ _ _ ho hi hs => pg_sub ho hi hs) G (e_var (i := 3) (by trivial) (by trivial) (by trivial) (by trivial)) (e_var (i := 5) (by trivial) (by trivial) (by trivial) (by trivial)) (e_bin (o_add G) (e_ix G (e_var (i := 3) (by trivial) (by trivial) (by trivial) (by trivial)) (e_var (i := 5) (by trivial) (by trivial) (by trivial) (by trivial)) (by trivial)) e_int) (by trivial) (by trivial) (by trivial))
    ss_nil))))) (by trivial))
    (ss_cons (s_ret (e_var (i := 2) (by trivial) (by trivial) (by trivial) (by trivial)))
    ss_nil)))
/-! ### _law_last -/
def m__law_last : MS := (sSeq (sAsg (tName 3) (eThw (lDisp aNil)))
    (sSeq (sFor (iSeq (eFrz (lNs (Bl.g .sorted) (aCons (eBin gAdd (eComp false (iSeq (eVar 1)) (tName 6) tYesM (eBin gIx (eVar 6) (eC (.p (.int 0)))) [6]) (eFrz (lDisp (aCons (eTup (aCons (eC (.p (.str (Str.ofString "a")))) (aCons (eC (.p (.int 0))) aNil))) (aCons (eTup (aCons (eC (.p (.str (Str.ofString "oak")))) (aCons (eC (.p (.int 20))) aNil))) aNil))))) aNil)))) (tName 4) (sSeq (sAsg (tName 5) (eCall [(Str.ofString "_law_feed_here"), (Str.ofString "_law_many")] [] fx__law_draw [] (aCons (eVar 0) (aCons (eVar 2) aNil)) aNil))
    (sSeq (sIf (eCmpT (bCmp .Lt) (eVar 5) (eC (.p (.int 2)))) (sSeq (sExpr (eMeth "list" mAppend (eVar 3) (aCons (eTup (aCons (eVar 4) (aCons (eBin gIx (eFrz (lDisp (aCons (eC (.p (.str (Str.ofString "settled")))) (aCons (eC (.p (.str (Str.ofString "taken")))) aNil)))) (eVar 5)) aNil))) aNil)))
    sNil) sNil)
    sNil)))
    (sSeq (sRet (eNs (Bi.g .tuple) (aCons (eVar 3) aNil)))
    sNil)))
def fx__law_last : Fx := fxOf 7 false m__law_last
theorem sc__law_last : FnScope [(Str.ofString "_law_feed_here"), (Str.ofString "_law_pool_here"), (Str.ofString "_law_many"), (Str.ofString "_law_found"), (Str.ofString "_law_one"), (Str.ofString "_law_way"), (Str.ofString "_law_own")] [(Str.ofString "_law_feed_here"), (Str.ofString "_law_pool_here"), (Str.ofString "_law_many")] (defScope st__law_last) := ⟨rfl, rfl, rfl, by decide +kernel, rfl, by decide +kernel, by decide +kernel⟩
theorem ok__law_last {P : Program} {w : World} {K : PySem.W.Frag} {mg : Str → Option Value} {base : Heap} (T : Tx K mg) : Fd (gam P w K mg base) 2 (Str.ofString "_law_last") [(Str.ofString "_law_feed_here"), (Str.ofString "_law_pool_here"), (Str.ofString "_law_many")] [] fx__law_last := by
  obtain ⟨a, fd, TF⟩ := T.d__law_last
  have F__law_draw := (ok__law_draw (P := P) (w := w) (base := base) T).mono (k := 1) (by decide)
  refine fd_of TF rfl rfl rfl rfl rfl sc__law_last ?_
  intro cdv A outer s H E G tk
  exact (ss_cons (s_set (i := 3) (Gx.nd G) (by trivial) (by trivial) (e_thw (l_disp a_nil)) (by trivial) (by trivial))
    (ss_cons (s_for G (i_seq G (e_frz (l_bl G .sorted (by trivial) T.b_sorted (a_cons (e_bin (o_add G) (e_comp (th := false) (own := [((Str.ofString "_law_own"), 6)]) (is := [6]) G (i_seq G (e_var (i := 1) (by trivial) (by trivial) (by trivial) (by trivial))) (blkOk_by (by trivial)) (by decide) (fun s H C cl fp => (gi_name (i := 6) (Gx.nd (Gx.blk G)) (by trivial) (by trivial) (by trivial))) (fun s H C cl fp => ts_nil) (fun s H C cl fp => (e_ix (Gx.blk G) (e_var (i := 6) (by trivial) (by trivial) (by trivial) (by trivial)) e_int (by trivial))) (by trivial)) (e_frz (l_disp (a_cons (e_tup (a_cons e_str (a_cons e_int a_nil (by trivial)) (by trivial))) (a_cons (e_tup (a_cons e_str (a_cons e_int a_nil (by trivial)) (by trivial))) a_nil (by trivial)) (by trivial))))) a_nil (by trivial)) (by trivial) (by trivial)))) (g_of (gi_name (i := 4) (Gx.nd G) (by trivial) (by trivial) (by trivial))) (ss_cons (s_set (i := 5) (Gx.nd G) (by trivial) (by trivial) (e_call G tk F__law_draw (by trivial) (by trivial) (a_cons (e_var (i := 0) (by trivial) (by trivial) (by trivial) (by trivial)) (a_cons (e_var (i := 2) (by trivial) (by trivial) (by trivial) (by trivial)) a_nil (by trivial)) (by trivial)) k_nil (by trivial) (by trivial) (by trivial) (by trivial)) (by trivial) (by trivial))
    (ss_cons (s_if (t_cmp (o_cmp G .Lt) (e_var (i := 5) (by trivial) (by trivial) (by trivial) (by trivial)) e_int (by trivial)) (ss_cons (s_expr (e_meth G (fun _ _ _ hm ho ha => pe_bm PySem.F.plainAttrs_list PySem.F.slot_list_append PySem.F.type_list_append hm ho ha) m_append (by trivial) (e_var (i := 3) (by trivial) (by trivial) (by trivial) (by trivial)) (a_cons (e_tup (a_cons (e_var (i := 4) (by trivial) (by trivial) (by trivial) (by trivial)) (a_cons (e_ix G (e_frz (l_disp (a_cons e_str (a_cons e_str a_nil (by trivial)) (by trivial)))) (e_var (i := 5) (by trivial) (by trivial) (by trivial) (by trivial)) (by trivial)) a_nil (by trivial)) (by trivial))) a_nil (by trivial))) (by trivial))
    ss_nil) ss_nil)
    ss_nil)) (by trivial))
    (ss_cons (s_ret (e_bi G .tuple (by trivial) T.b_tuple (a_cons (e_var (i := 3) (by trivial) (by trivial) (by trivial) (by trivial)) a_nil (by trivial)) (by trivial) (by trivial)))
    ss_nil)))
/-! ### _law_strip -/
def m__law_strip : MS := (sSeq (sAsg (tName 2) (eThw (lDisp aNil)))
    (sSeq (sFor (iSeq (eVar 1)) (tName 3) (sSeq (sIf (eCmpT (bCmp .Gt) (eCall [(Str.ofString "_law_feed_here"), (Str.ofString "_law_many")] [] fx__law_draw [] (aCons (eVar 0) (aCons (eC (.p (.int 3))) aNil)) aNil) (eC (.p (.int 0)))) (sSeq (sAsg (tName 4) (eBin gIx (eFrz (lDisp (aCons (eC (.p (.int 0))) (aCons (eC (.p (.int 1))) (aCons (eUn gNeg (eC (.p (.int 1)))) (aCons (eC (.p (.int 7))) (aCons (eUn gNeg (eC (.p (.int 40)))) (aCons (eBin gPow (eC (.p (.int 10))) (eC (.p (.int 6)))) aNil)))))))) (eCall [(Str.ofString "_law_feed_here"), (Str.ofString "_law_many")] [] fx__law_draw [] (aCons (eVar 0) (aCons (eC (.p (.int 6))) aNil)) aNil)))
    (sSeq (sExpr (eMeth "list" mAppend (eVar 2) (aCons (eTup (aCons (eBin gIx (eVar 3) (eC (.p (.int 0)))) (aCons (eBin gIx (eVar 3) (eC (.p (.int 1)))) (aCons (eBin gIx (eFrz (lDisp (aCons (eC (.p (.str (Str.ofString "set")))) (aCons (eC (.p (.str (Str.ofString "add")))) (aCons (eC (.p (.str (Str.ofString "add")))) aNil))))) (eCall [(Str.ofString "_law_feed_here"), (Str.ofString "_law_many")] [] fx__law_draw [] (aCons (eVar 0) (aCons (eC (.p (.int 3))) aNil)) aNil)) (aCons (eVar 4) (aCons (eBin gIx (eVar 3) (eC (.p (.int 2)))) aNil)))))) aNil)))
    sNil)) sNil)
    sNil))
    (sSeq (sRet (eTup (aCons (eBin gIx (eFrz (lDisp (aCons (eC (.p (.int 0))) (aCons (eC (.p (.int 5))) (aCons (eUn gNeg (eBin gPow (eC (.p (.int 10))) (eC (.p (.int 6))))) aNil))))) (eCall [(Str.ofString "_law_feed_here"), (Str.ofString "_law_many")] [] fx__law_draw [] (aCons (eVar 0) (aCons (eC (.p (.int 3))) aNil)) aNil)) (aCons (eNs (Bi.g .tuple) (aCons (eVar 2) aNil)) aNil))))
    sNil)))
def fx__law_strip : Fx := fxOf 5 false m__law_strip
theorem sc__law_strip : FnScope [(Str.ofString "_law_feed_here"), (Str.ofString "_law_pool_here"), (Str.ofString "_law_found"), (Str.ofString "_law_own"), (Str.ofString "_law_value")] [(Str.ofString "_law_feed_here"), (Str.ofString "_law_pool_here")] (defScope st__law_strip) := ⟨rfl, rfl, rfl, by decide +kernel, rfl, by decide +kernel, by decide +kernel⟩
theorem ok__law_strip {P : Program} {w : World} {K : PySem.W.Frag} {mg : Str → Option Value} {base : Heap} (T : Tx K mg) : Fd (gam P w K mg base) 2 (Str.ofString "_law_strip") [(Str.ofString "_law_feed_here"), (Str.ofString "_law_pool_here")] [] fx__law_strip := by
  obtain ⟨a, fd, TF⟩ := T.d__law_strip
  have F__law_draw := (ok__law_draw (P := P) (w := w) (base := base) T).mono (k := 1) (by decide)
  refine fd_of TF rfl rfl rfl rfl rfl sc__law_strip ?_
  intro cdv A outer s H E G tk
  exact (ss_cons (s_set (i := 2) (Gx.nd G) (by trivial) (by trivial) (e_thw (l_disp a_nil)) (by trivial) (by trivial))
    (ss_cons (s_for G (i_seq G (e_var (i := 1) (by trivial) (by trivial) (by trivial) (by trivial))) (g_of (gi_name (i := 3) (Gx.nd G) (by trivial) (by trivial) (by trivial))) (ss_cons (s_if (t_cmp (o_cmp G .Gt) (e_call G tk F__law_draw (by trivial) (by trivial) (a_cons (e_var (i := 0) (by trivial) (by trivial) (by trivial) (by trivial)) (a_cons e_int a_nil (by trivial)) (by trivial)) k_nil (by trivial) (by trivial) (by trivial) (by trivial)) e_int (by trivial)) (ss_cons (s_set (i := 4) (Gx.nd G) (by trivial) (by trivial) (e_ix G (e_frz (l_disp (a_cons e_int (a_cons e_int (a_cons (e_un o_neg e_int) (a_cons e_int (a_cons (e_un o_neg e_int) (a_cons (e_bin o_pow e_int e_int) a_nil (by trivial)) (by trivial)) (by trivial)) (by trivial)) (by trivial)) (by trivial)))) (e_call G tk F__law_draw (by trivial) (by trivial) (a_cons (e_var (i := 0) (by trivial) (by trivial) (by trivial) (by trivial)) (a_cons e_int a_nil (by trivial)) (by trivial)) k_nil (by trivial) (by trivial) (by trivial) (by trivial)) (by trivial)) (by trivial) (by trivial))
    (ss_cons (s_expr (e_meth G (fun _ _ _ hm ho ha => pe_bm PySem.F.plainAttrs_list PySem.F.slot_list_append PySem.F.type_list_append hm ho ha) m_append (by trivial) (e_var (i := 2) (by trivial) (by trivial) (by trivial) (by trivial)) (a_cons (e_tup (a_cons (e_ix G (e_var (i := 3) (by trivial) (by trivial) (by trivial) (by trivial)) e_int (by trivial)) (a_cons (e_ix G (e_var (i := 3) (by trivial) (by trivial) (by trivial) (by trivial)) e_int (by trivial)) (a_cons (e_ix G (e_frz (l_disp (a_cons e_str (a_cons e_str (a_cons e_str a_nil (by trivial)) (by trivial)) (by trivial)))) (e_call G tk F__law_draw (by trivial) (by trivial) (a_cons (e_var (i := 0) (by trivial) (by trivial) (by trivial) (by trivial)) (a_cons e_int a_nil (by trivial)) (by trivial)) k_nil (by trivial) (by trivial) (by trivial) (by trivial)) (by trivial)) (a_cons (e_var (i := 4) (by trivial) (by trivial) (by trivial) (by trivial)) (a_cons (e_ix G (e_var (i := 3) (by trivial) (by trivial) (by trivial) (by trivial)) e_int (by trivial)) a_nil (by trivial)) (by trivial)) (by trivial)) (by trivial)) (by trivial))) a_nil (by trivial))) (by trivial))
    ss_nil)) ss_nil)
    ss_nil) (by trivial))
    (ss_cons (s_ret (e_tup (a_cons (e_ix G (e_frz (l_disp (a_cons e_int (a_cons e_int (a_cons (e_un o_neg (e_bin o_pow e_int e_int)) a_nil (by trivial)) (by trivial)) (by trivial)))) (e_call G tk F__law_draw (by trivial) (by trivial) (a_cons (e_var (i := 0) (by trivial) (by trivial) (by trivial) (by trivial)) (a_cons e_int a_nil (by trivial)) (by trivial)) k_nil (by trivial) (by trivial) (by trivial) (by trivial)) (by trivial)) (a_cons (e_bi G .tuple (by trivial) T.b_tuple (a_cons (e_var (i := 2) (by trivial) (by trivial) (by trivial) (by trivial)) a_nil (by trivial)) (by trivial) (by trivial)) a_nil (by trivial)) (by trivial))))
    ss_nil)))
/-! ### _law_refused -/
def m__law_refused : MS := (sSeq (sAsg (tName 2) (eC (.p .none)))
    (sSeq (sTryF (Str.ofString "NoName") (Str.ofString "name") 3 2 (sSeq (sExpr (eCall [(Str.ofString "words"), (Str.ofString "more")] [] fx_words_joined [] (aCons (eVar 0) (aCons (eVar 1) aNil)) aNil))
    sNil))
    (sSeq (sRet (eVar 2))
    sNil)))
def fx__law_refused : Fx := fxOf 4 false m__law_refused
theorem sc__law_refused : FnScope [(Str.ofString "_law_last_here"), (Str.ofString "_law_fresh"), (Str.ofString "_law_found"), (Str.ofString "e")] [(Str.ofString "_law_last_here"), (Str.ofString "_law_fresh")] (defScope st__law_refused) := ⟨rfl, rfl, rfl, by decide +kernel, rfl, by decide +kernel, by decide +kernel⟩
theorem ok__law_refused {P : Program} {w : World} {K : PySem.W.Frag} {mg : Str → Option Value} {base : Heap} (T : Tx K mg) : Fd (gam P w K mg base) 4 (Str.ofString "_law_refused") [(Str.ofString "_law_last_here"), (Str.ofString "_law_fresh")] [] fx__law_refused := by
  obtain ⟨a, fd, TF⟩ := T.d__law_refused
  obtain ⟨C_NoName, R_NoName⟩ := ok_NoName (P := P) (w := w) (base := base) T
  have F_words_joined := (ok_words_joined (P := P) (w := w) (base := base) T).mono (k := 3) (by decide)
  refine fd_of TF rfl rfl rfl rfl rfl sc__law_refused ?_
  intro cdv A outer s H E G tk
  exact (ss_cons (s_set (i := 2) (Gx.nd G) (by trivial) (by trivial) e_non (by trivial) (by trivial))
    (ss_cons (s_tryF (i := 3) (j := 2) G tk R_NoName (by decide) (by trivial) (by trivial) (by trivial) (by trivial) (by trivial) (by trivial) (by trivial) (by trivial) (by trivial) (by trivial) (by trivial) (by trivial) (fun W2 pn xe G2 tk2 => (ss_cons (s_expr (e_call G2 tk2 F_words_joined (by trivial) (by trivial) (a_cons (e_var (i := 0) (by trivial) (by trivial) (by trivial) (by trivial)) (a_cons (e_var (i := 1) (by trivial) (by trivial) (by trivial) (by trivial)) a_nil (by trivial)) (by trivial)) k_nil (by trivial) (by trivial) (by trivial) (by trivial)) (by trivial))
    ss_nil)) (by trivial) (by trivial))
    (ss_cons (s_ret (e_var (i := 2) (by trivial) (by trivial) (by trivial) (by trivial)))
    ss_nil)))
/-! ### _law_joined_right -/
def m__law_joined_right : MS := (sSeq (sAsg (tTupM 3 (tsCons (tName 1) (tsCons (tName 2) (tsCons (tName 3) tsNil)))) (eVar 0))
    (sSeq (sAsg (tName 4) (eCall [(Str.ofString "words"), (Str.ofString "more")] [] fx_words_joined [] (aCons (eVar 1) (aCons (eCall [(Str.ofString "words"), (Str.ofString "more")] [] fx_words_joined [] (aCons (eVar 2) (aCons (eVar 3) aNil)) aNil) aNil)) aNil))
    (sSeq (sAsg (tName 5) (eFrz (lDisp (aCons (eCall [(Str.ofString "words"), (Str.ofString "more")] [] fx_words_joined [] (aCons (eCall [(Str.ofString "words"), (Str.ofString "more")] [] fx_words_joined [] (aCons (eVar 3) (aCons (eVar 2) aNil)) aNil) (aCons (eVar 1) aNil)) aNil) aNil))))
    (sSeq (sAsg (tName 5) (eBin gAdd (eVar 5) (eFrz (lDisp (aCons (eCall [(Str.ofString "words"), (Str.ofString "more")] [] fx_words_joined [] (aCons (eVar 2) (aCons (eCall [(Str.ofString "words"), (Str.ofString "more")] [] fx_words_joined [] (aCons (eVar 1) (aCons (eVar 3) aNil)) aNil) aNil)) aNil) (aCons (eCall [(Str.ofString "words"), (Str.ofString "more")] [] fx_words_joined [] (aCons (eVar 4) (aCons (eVar 1) aNil)) aNil) aNil))))))
    (sSeq (sAsg (tName 5) (eBin gAdd (eVar 5) (eFrz (lDisp (aCons (eCall [(Str.ofString "words"), (Str.ofString "more")] [] fx_words_joined [] (aCons (eVar 4) (aCons (eVar 4) aNil)) aNil) (aCons (eCall [(Str.ofString "words"), (Str.ofString "more")] [] fx_words_joined [] (aCons (eTup aNil) (aCons (eVar 4) aNil)) aNil) (aCons (eCall [(Str.ofString "words"), (Str.ofString "more")] [] fx_words_joined [] (aCons (eVar 4) (aCons (eTup aNil) aNil)) aNil) aNil)))))))
    (sSeq (sIf (eCmpT (bCmp .NotEq) (eComp false (iSeq (eVar 5)) (tName 8) (eCmpT (bCmp .NotEq) (eNs (Bi.g .repr) (aCons (eVar 8) aNil)) (eNs (Bi.g .repr) (aCons (eVar 4) aNil))) (eVar 8) [8]) (eFrz (lDisp aNil))) (sSeq (sRet (eC (.p (.bool false))))
    sNil) sNil)
    (sSeq (sFor (iSeq (eVar 4)) (tTupM 2 (tsCons (tName 6) (tsCons (tName 7) tsNil))) (sSeq (sIf (tOrM (eCmpT (bCmp .NotEq) (eCall [(Str.ofString "words"), (Str.ofString "name")] [] fx_last_word [] (aCons (eVar 4) (aCons (eVar 6) aNil)) aNil) (eVar 7)) (eCmpT (bIn true) (eVar 7) (eComp false (iSeq (eVar 0)) (tName 10) tYesM (eCall [(Str.ofString "words"), (Str.ofString "name")] [] fx_last_word [] (aCons (eVar 10) (aCons (eVar 6) aNil)) aNil) [10]))) (sSeq (sRet (eC (.p (.bool false))))
    sNil) sNil)
    sNil))
    (sSeq (sRet (eB (eCmpT (bCmp .Eq) (eComp false (iSeq (eBin gAdd (eBin gAdd (eVar 1) (eVar 2)) (eVar 3))) (tName 9) (eCmpT (bIn true) (eVar 9) (eVar 4)) (eVar 9) [9]) (eFrz (lDisp aNil)))))
    sNil))))))))
def fx__law_joined_right : Fx := fxOf 11 false m__law_joined_right
theorem sc__law_joined_right : FnScope [(Str.ofString "_law_parts"), (Str.ofString "_law_one"), (Str.ofString "_law_two"), (Str.ofString "_law_three"), (Str.ofString "_law_whole"), (Str.ofString "_law_some"), (Str.ofString "_law_own"), (Str.ofString "_law_word"), (Str.ofString "_law_told"), (Str.ofString "_law_pair"), (Str.ofString "_law_part")] [(Str.ofString "_law_parts")] (defScope st__law_joined_right) := ⟨rfl, rfl, rfl, by decide +kernel, rfl, by decide +kernel, by decide +kernel⟩
theorem ok__law_joined_right {P : Program} {w : World} {K : PySem.W.Frag} {mg : Str → Option Value} {base : Heap} (T : Tx K mg) : Fd (gam P w K mg base) 4 (Str.ofString "_law_joined_right") [(Str.ofString "_law_parts")] [] fx__law_joined_right := by
  obtain ⟨a, fd, TF⟩ := T.d__law_joined_right
  have F_last_word := (ok_last_word (P := P) (w := w) (base := base) T).mono (k := 3) (by decide)
  have F_words_joined := (ok_words_joined (P := P) (w := w) (base := base) T).mono (k := 3) (by decide)
  refine fd_of TF rfl rfl rfl rfl rfl sc__law_joined_right ?_
  intro cdv A outer s H E G tk
  exact (ss_cons (s_asg (e_var (i := 0) (by trivial) (by trivial) (by trivial) (by trivial)) (g_of (gi_tup G (gis_cons (gi_name (i := 1) (Gx.nd G) (by trivial) (by trivial) (by trivial)) (gis_cons (gi_name (i := 2) (Gx.nd G) (by trivial) (by trivial) (by trivial)) (gis_cons (gi_name (i := 3) (Gx.nd G) (by trivial) (by trivial) (by trivial)) gis_nil (by trivial)) (by trivial)) (by trivial)) (by trivial) (by trivial))) (by trivial) (by trivial) (by trivial))
    (ss_cons (s_set (i := 4) (Gx.nd G) (by trivial) (by trivial) (e_call G tk F_words_joined (by trivial) (by trivial) (a_cons (e_var (i := 1) (by trivial) (by trivial) (by trivial) (by trivial)) (a_cons (e_call G tk F_words_joined (by trivial) (by trivial) (a_cons (e_var (i := 2) (by trivial) (by trivial) (by trivial) (by trivial)) (a_cons (e_var (i := 3) (by trivial) (by trivial) (by trivial) (by trivial)) a_nil (by trivial)) (by trivial)) k_nil (by trivial) (by trivial) (by trivial) (by trivial)) a_nil (by trivial)) (by trivial)) k_nil (by trivial) (by trivial) (by trivial) (by trivial)) (by trivial) (by trivial))
    (ss_cons (s_set (i := 5) (Gx.nd G) (by trivial) (by trivial) (e_frz (l_disp (a_cons (e_call G tk F_words_joined (by trivial) (by trivial) (a_cons (e_call G tk F_words_joined (by trivial) (by trivial) (a_cons (e_var (i := 3) (by trivial) (by trivial) (by trivial) (by trivial)) (a_cons (e_var (i := 2) (by trivial) (by trivial) (by trivial) (by trivial)) a_nil (by trivial)) (by trivial)) k_nil (by trivial) (by trivial) (by trivial) (by trivial)) (a_cons (e_var (i := 1) (by trivial) (by trivial) (by trivial) (by trivial)) a_nil (by trivial)) (by trivial)) k_nil (by trivial) (by trivial) (by trivial) (by trivial)) a_nil (by trivial)))) (by trivial) (by trivial))
    (ss_cons (s_set (i := 5) (Gx.nd G) (by trivial) (by trivial) (e_bin (o_add G) (e_var (i := 5) (by trivial) (by trivial) (by trivial) (by trivial)) (e_frz (l_disp (a_cons (e_call G tk F_words_joined (by trivial) (by trivial) (a_cons (e_var (i := 2) (by trivial) (by trivial) (by trivial) (by trivial)) (a_cons (e_call G tk F_words_joined (by trivial) (by trivial) (a_cons (e_var (i := 1) (by trivial) (by trivial) (by trivial) (by trivial)) (a_cons (e_var (i := 3) (by trivial) (by trivial) (by trivial) (by trivial)) a_nil (by trivial)) (by trivial)) k_nil (by trivial) (by trivial) (by trivial) (by trivial)) a_nil (by trivial)) (by trivial)) k_nil (by trivial) (by trivial) (by trivial) (by trivial)) (a_cons (e_call G tk F_words_joined (by trivial) (by trivial) (a_cons (e_var (i := 4) (by trivial) (by trivial) (by trivial) (by trivial)) (a_cons (e_var (i := 1) (by trivial) (by trivial) (by trivial) (by trivial)) a_nil (by trivial)) (by trivial)) k_nil (by trivial) (by trivial) (by trivial) (by trivial)) a_nil (by trivial)) (by trivial))))) (by trivial) (by trivial))
    (ss_cons (s_set (i := 5) (Gx.nd G) (by trivial) (by trivial) (e_bin (o_add G) (e_var (i := 5) (by trivial) (by trivial) (by trivial) (by trivial)) (e_frz (l_disp (a_cons (e_call G tk F_words_joined (by trivial) (by trivial) (a_cons (e_var (i := 4) (by trivial) (by trivial) (by trivial) (by trivial)) (a_cons (e_var (i := 4) (by trivial) (by trivial) (by trivial) (by trivial)) a_nil (by trivial)) (by trivial)) k_nil (by trivial) (by trivial) (by trivial) (by trivial)) (a_cons (e_call G tk F_words_joined (by trivial) (by trivial) (a_cons (e_tup a_nil) (a_cons (e_var (i := 4) (by trivial) (by trivial) (by trivial) (by trivial)) a_nil (by trivial)) (by trivial)) k_nil (by trivial) (by trivial) (by trivial) (by trivial)) (a_cons (e_call G tk F_words_joined (by trivial) (by trivial) (a_cons (e_var (i := 4) (by trivial) (by trivial) (by trivial) (by trivial)) (a_cons (e_tup a_nil) a_nil (by trivial)) (by trivial)) k_nil (by trivial) (by trivial) (by trivial) (by trivial)) a_nil (by trivial)) (by trivial)) (by trivial))))) (by trivial) (by trivial))
    (ss_cons (s_if (t_cmp (o_cmp G .NotEq) (e_comp (th := false) (own := [((Str.ofString "_law_told"), 8)]) (is := [8]) G (i_seq G (e_var (i := 5) (by trivial) (by trivial) (by trivial) (by trivial))) (blkOk_by (by trivial)) (by decide) (fun s H C cl fp => (gi_name (i := 8) (Gx.nd (Gx.blk G)) (by trivial) (by trivial) (by trivial))) (fun s H C cl fp => (ts_one (t_cmp (o_cmp (Gx.blk G) .NotEq) (e_bi (Gx.blk G) .repr (by trivial) T.b_repr (a_cons (e_var (i := 8) (by trivial) (by trivial) (by trivial) (by trivial)) a_nil (by trivial)) (by trivial) (by trivial)) (e_bi (Gx.blk G) .repr (by trivial) T.b_repr (a_cons (e_var (i := 4) (by trivial) (by trivial) (by trivial) (by trivial)) a_nil (by trivial)) (by trivial) (by trivial)) (by trivial)))) (fun s H C cl fp => (e_var (i := 8) (by trivial) (by trivial) (by trivial) (by trivial))) (by trivial)) (e_frz (l_disp a_nil)) (by trivial)) (ss_cons (s_ret e_bl)
    ss_nil) ss_nil)
    (ss_cons (s_for G (i_seq G (e_var (i := 4) (by trivial) (by trivial) (by trivial) (by trivial))) (g_of (gi_tup G (gis_cons (gi_name (i := 6) (Gx.nd G) (by trivial) (by trivial) (by trivial)) (gis_cons (gi_name (i := 7) (Gx.nd G) (by trivial) (by trivial) (by trivial)) gis_nil (by trivial)) (by trivial)) (by trivial) (by trivial))) (ss_cons (s_if (PW.pt (t_or (t_cmp (o_cmp G .NotEq) (e_call G tk F_last_word (by trivial) (by trivial) (a_cons (e_var (i := 4) (by trivial) (by trivial) (by trivial) (by trivial)) (a_cons (e_var (i := 6) (by trivial) (by trivial) (by trivial) (by trivial)) a_nil (by trivial)) (by trivial)) k_nil (by trivial) (by trivial) (by trivial) (by trivial)) (e_var (i := 7) (by trivial) (by trivial) (by trivial) (by trivial)) (by trivial)) (pw_or1 (t_cmp (o_inG G true) (e_var (i := 7) (by trivial) (by trivial) (by trivial) (by trivial)) (e_comp (th := false) (own := [((Str.ofString "_law_part"), 10)]) (is := [10]) G (i_seq G (e_var (i := 0) (by trivial) (by trivial) (by trivial) (by trivial))) (blkOk_by (by trivial)) (by decide) (fun s H C cl fp => (gi_name (i := 10) (Gx.nd (Gx.blk G)) (by trivial) (by trivial) (by trivial))) (fun s H C cl fp => ts_nil) (fun s H C cl fp => (e_call (Gx.blk G) takes_no F_last_word (by trivial) (by trivial) (a_cons (e_var (i := 10) (by trivial) (by trivial) (by trivial) (by trivial)) (a_cons (e_var (i := 6) (by trivial) (by trivial) (by trivial) (by trivial)) a_nil (by trivial)) (by trivial)) k_nil (by trivial) (by trivial) (by trivial) (by trivial))) (by trivial)) (by trivial))))) (ss_cons (s_ret e_bl)
    ss_nil) ss_nil)
    ss_nil) (by trivial))
    (ss_cons (s_ret (e_cmpB (o_cmp G .Eq) (e_comp (th := false) (own := [((Str.ofString "_law_pair"), 9)]) (is := [9]) G (i_seq G (e_bin (o_add G) (e_bin (o_add G) (e_var (i := 1) (by trivial) (by trivial) (by trivial) (by trivial)) (e_var (i := 2) (by trivial) (by trivial) (by trivial) (by trivial))) (e_var (i := 3) (by trivial) (by trivial) (by trivial) (by trivial)))) (blkOk_by (by trivial)) (by decide) (fun s H C cl fp => (gi_name (i := 9) (Gx.nd (Gx.blk G)) (by trivial) (by trivial) (by trivial))) (fun s H C cl fp => (ts_one (t_cmp (o_inG (Gx.blk G) true) (e_var (i := 9) (by trivial) (by trivial) (by trivial) (by trivial)) (e_var (i := 4) (by trivial) (by trivial) (by trivial) (by trivial)) (by trivial)))) (fun s H C cl fp => (e_var (i := 9) (by trivial) (by trivial) (by trivial) (by trivial))) (by trivial)) (e_frz (l_disp a_nil)) (by trivial)))
    ss_nil))))))))
/-! ### _law_clash_right -/
def m__law_clash_right : MS := (sSeq (sAsg (tName 2) (eComp false (iSeq (eVar 0)) (tTupM 2 (tsCons (tName 4) (tsCons (tName 5) tsNil))) (eCmpT (bIn true) (eCall [(Str.ofString "words"), (Str.ofString "name")] [] fx_last_word [] (aCons (eVar 1) (aCons (eVar 4) aNil)) aNil) (eTup (aCons (eC (.p .none)) (aCons (eVar 5) aNil)))) (eVar 4) [4, 5]))
    (sSeq (sAsg (tName 3) (eIf (eCmpT (bCmp .NotEq) (eVar 2) (eFrz (lDisp aNil))) (eBin gIx (eVar 2) (eC (.p (.int 0)))) (eC (.p .none))))
    (sSeq (sRet (eB (eCmpT (bCmp .Eq) (eFrz (lDisp (aCons (eCall [(Str.ofString "_law_last_here"), (Str.ofString "_law_fresh")] [] fx__law_refused [] (aCons (eVar 0) (aCons (eVar 1) aNil)) aNil) (aCons (eCall [(Str.ofString "_law_last_here"), (Str.ofString "_law_fresh")] [] fx__law_refused [] (aCons (eVar 1) (aCons (eVar 0) aNil)) aNil) aNil)))) (eFrz (lDisp (aCons (eVar 3) (aCons (eVar 3) aNil)))))))
    sNil)))
def fx__law_clash_right : Fx := fxOf 6 false m__law_clash_right
theorem sc__law_clash_right : FnScope [(Str.ofString "_law_last_here"), (Str.ofString "_law_fresh"), (Str.ofString "_law_clash"), (Str.ofString "_law_due"), (Str.ofString "_law_own"), (Str.ofString "_law_word")] [(Str.ofString "_law_last_here"), (Str.ofString "_law_fresh")] (defScope st__law_clash_right) := ⟨rfl, rfl, rfl, by decide +kernel, rfl, by decide +kernel, by decide +kernel⟩
theorem ok__law_clash_right {P : Program} {w : World} {K : PySem.W.Frag} {mg : Str → Option Value} {base : Heap} (T : Tx K mg) : Fd (gam P w K mg base) 5 (Str.ofString "_law_clash_right") [(Str.ofString "_law_last_here"), (Str.ofString "_law_fresh")] [] fx__law_clash_right := by
  obtain ⟨a, fd, TF⟩ := T.d__law_clash_right
  have F__law_refused := (ok__law_refused (P := P) (w := w) (base := base) T).mono (k := 4) (by decide)
  have F_last_word := (ok_last_word (P := P) (w := w) (base := base) T).mono (k := 4) (by decide)
  refine fd_of TF rfl rfl rfl rfl rfl sc__law_clash_right ?_
  intro cdv A outer s H E G tk
  exact (ss_cons (s_setComp (i := 2) (th := false) (own := [((Str.ofString "_law_own"), 4), ((Str.ofString "_law_word"), 5)]) (is := [4, 5]) G (by trivial) (by trivial) (sw_true (by trivial) (by trivial) (by trivial) (by trivial)) (i_seq G (e_var (i := 0) (by trivial) (by trivial) (by trivial) (by trivial))) (blkOk_by (by trivial)) (by decide) (fun s H C cl fp => (gi_tup (Gx.blk G) (gis_cons (gi_name (i := 4) (Gx.nd (Gx.blk G)) (by trivial) (by trivial) (by trivial)) (gis_cons (gi_name (i := 5) (Gx.nd (Gx.blk G)) (by trivial) (by trivial) (by trivial)) gis_nil (by trivial)) (by trivial)) (by trivial) (by trivial))) (fun s H C cl fp => (ts_one (t_cmp (o_inG (Gx.blk G) true) (e_call (Gx.blk G) takes_no F_last_word (by trivial) (by trivial) (a_cons (e_var (i := 1) (by trivial) (by trivial) (by trivial) (by trivial)) (a_cons (e_var (i := 4) (by trivial) (by trivial) (by trivial) (by trivial)) a_nil (by trivial)) (by trivial)) k_nil (by trivial) (by trivial) (by trivial) (by trivial)) (e_tup (a_cons e_non (a_cons (e_var (i := 5) (by trivial) (by trivial) (by trivial) (by trivial)) a_nil (by trivial)) (by trivial))) (by trivial)))) (fun s H C cl fp => (e_var (i := 4) (by trivial) (by trivial) (by trivial) (by trivial))) (by trivial))
    (ss_cons (s_set (i := 3) (Gx.nd G) (by trivial) (by trivial) (e_if (t_cmp (o_cmp G .NotEq) (e_var (i := 2) (by trivial) (by trivial) (by trivial) (by trivial)) (e_frz (l_disp a_nil)) (by trivial)) (e_ix G (e_var (i := 2) (by trivial) (by trivial) (by trivial) (by trivial)) e_int (by trivial)) e_non) (by trivial) (by trivial))
    (ss_cons (s_ret (e_cmpB (o_cmp G .Eq) (e_frz (l_disp (a_cons (e_call G tk F__law_refused (by trivial) (by trivial) (a_cons (e_var (i := 0) (by trivial) (by trivial) (by trivial) (by trivial)) (a_cons (e_var (i := 1) (by trivial) (by trivial) (by trivial) (by trivial)) a_nil (by trivial)) (by trivial)) k_nil (by trivial) (by trivial) (by trivial) (by trivial)) (a_cons (e_call G tk F__law_refused (by trivial) (by trivial) (a_cons (e_var (i := 1) (by trivial) (by trivial) (by trivial) (by trivial)) (a_cons (e_var (i := 0) (by trivial) (by trivial) (by trivial) (by trivial)) a_nil (by trivial)) (by trivial)) k_nil (by trivial) (by trivial) (by trivial) (by trivial)) a_nil (by trivial)) (by trivial)))) (e_frz (l_disp (a_cons (e_var (i := 3) (by trivial) (by trivial) (by trivial) (by trivial)) (a_cons (e_var (i := 3) (by trivial) (by trivial) (by trivial) (by trivial)) a_nil (by trivial)) (by trivial)))) (by trivial)))
    ss_nil)))
/-! ### _law_deed_right -/
def m__law_deed_right : MS := (sSeq (sAsg (tTupM 2 (tsCons (tName 3) (tsCons (tName 4) tsNil))) (eTup (aCons (eTup (aCons (eC (.p (.str (Str.ofString "zzzzzzzz")))) (aCons (eC (.p (.int 3))) aNil))) (aCons (eCall [(Str.ofString "words"), (Str.ofString "rows")] [] fx_below_resting [] (aCons (eVar 0) (aCons (eVar 1) aNil)) aNil) aNil))))
    (sSeq (sIf (tOrM (eTru (eCall [(Str.ofString "words"), (Str.ofString "name"), (Str.ofString "below")] [] fx_is_fallen [] (aCons (eVar 0) (aCons (eVar 3) (aCons (eVar 4) aNil))) aNil)) (eTru (eCall [(Str.ofString "words"), (Str.ofString "name"), (Str.ofString "below")] [] fx_is_fallen [] (aCons (eVar 0) (aCons (eVar 3) (aCons (eTup aNil) aNil))) aNil))) (sSeq (sRet (eC (.p (.bool false))))
    sNil) sNil)
    (sSeq (sAsg (tName 5) (eCall [(Str.ofString "words"), (Str.ofString "rows")] [] fx_rests_straight [] (aCons (eVar 0) (aCons (eVar 1) aNil)) aNil))
    (sSeq (sIf (eCmpT (bCmp .NotEq) (eComp false (iSeq (eVar 5)) (tName 10) (eCmpT (bIn true) (eVar 10) (eVar 4)) (eVar 10) [10]) (eFrz (lDisp aNil))) (sSeq (sRet (eC (.p (.bool false))))
    sNil) sNil)
    (sSeq (sIf (eCmpT (bCmp .NotEq) (eComp false (iSeq (eVar 4)) (tName 10) (eCmpT (bIn false) (eBin gIx (eVar 10) (eC (.p (.int 0)))) (eComp false (iSeq (eVar 0)) (tTupM 2 (tsCons (tName 11) (tsCons (tName 12) tsNil))) (eCmpT (bCmp .Eq) (eVar 12) (eC (.p (.str (Str.ofString "taken"))))) (eVar 11) [11, 12])) (eVar 10) [10]) (eFrz (lDisp aNil))) (sSeq (sRet (eC (.p (.bool false))))
    sNil) sNil)
    (sSeq (sFor (iSeq (eBin gAdd (eVar 2) (eTup (aCons (eTup (aCons (eVar 3) (aCons (eC (.p (.str (Str.ofString "taken")))) aNil))) (aCons (eTup (aCons (eVar 3) (aCons (eC (.p (.str (Str.ofString "settled")))) aNil))) aNil))))) (tName 6) (sSeq (sIf (eCmpT (bIs false) (eCall [(Str.ofString "words"), (Str.ofString "name")] [] fx_last_word [] (aCons (eVar 0) (aCons (eBin gIx (eVar 6) (eC (.p (.int 0)))) aNil)) aNil) (eC (.p .none))) (sSeq (sAsg (tName 7) (eCall [(Str.ofString "words"), (Str.ofString "more")] [] fx_words_joined [] (aCons (eVar 0) (aCons (eTup (aCons (eVar 6) aNil)) aNil)) aNil))
    (sSeq (sAsg (tName 8) (eAnd (eB (eCmpT (bCmp .Eq) (eBin gIx (eVar 6) (eC (.p (.int 1)))) (eC (.p (.str (Str.ofString "taken")))))) (eB (eCmpT (bIn false) (eBin gIx (eVar 6) (eC (.p (.int 0)))) (eBin gAdd (eFrz (lDisp (aCons (eVar 3) aNil))) (eComp false (iSeq (eVar 4)) (tName 10) tYesM (eBin gIx (eVar 10) (eC (.p (.int 0)))) [10]))))))
    (sSeq (sIf (eCmpT (bCmp .NotEq) (eCall [(Str.ofString "words"), (Str.ofString "name"), (Str.ofString "below")] [] fx_is_fallen [] (aCons (eVar 7) (aCons (eVar 3) (aCons (eVar 4) aNil))) aNil) (eVar 8)) (sSeq (sRet (eC (.p (.bool false))))
    sNil) sNil)
    (sSeq (sIf (eCmpT (bCmp .NotEq) (eCall [(Str.ofString "words"), (Str.ofString "name")] [] fx_is_settled [] (aCons (eVar 7) (aCons (eVar 3) aNil)) aNil) (eB (eCmpT (bCmp .Eq) (eVar 6) (eTup (aCons (eVar 3) (aCons (eC (.p (.str (Str.ofString "settled")))) aNil)))))) (sSeq (sRet (eC (.p (.bool false))))
    sNil) sNil)
    sNil)))) sNil)
    sNil))
    (sSeq (sAsg (tName 9) (eNs (Bi.g .tuple) (aCons (eFrz (lNs gSortSet (aCons (eBin gAdd (eComp false (iSeq (eVar 4)) (tName 10) tYesM (eTup (aCons (eBin gIx (eVar 10) (eC (.p (.int 0)))) (aCons (eC (.p (.str (Str.ofString "settled")))) aNil))) [10]) (eFrz (lDisp (aCons (eTup (aCons (eVar 3) (aCons (eC (.p (.str (Str.ofString "settled")))) aNil))) aNil)))) aNil))) aNil)))
    (sSeq (sRet (eCall [(Str.ofString "words"), (Str.ofString "name"), (Str.ofString "below")] [] fx_is_firm [] (aCons (eVar 9) (aCons (eVar 3) (aCons (eVar 4) aNil))) aNil))
    sNil))))))))
def fx__law_deed_right : Fx := fxOf 13 false m__law_deed_right
theorem sc__law_deed_right : FnScope [(Str.ofString "_law_last_here"), (Str.ofString "_law_strips"), (Str.ofString "_law_fresh"), (Str.ofString "_law_one"), (Str.ofString "_law_under"), (Str.ofString "_law_straight"), (Str.ofString "_law_pair"), (Str.ofString "_law_more_now"), (Str.ofString "_law_hit"), (Str.ofString "_law_settled_all"), (Str.ofString "_law_mark"), (Str.ofString "_law_own"), (Str.ofString "_law_word")] [(Str.ofString "_law_last_here"), (Str.ofString "_law_strips"), (Str.ofString "_law_fresh")] (defScope st__law_deed_right) := ⟨rfl, rfl, rfl, by decide +kernel, rfl, by decide +kernel, by decide +kernel⟩
theorem ok__law_deed_right {P : Program} {w : World} {K : PySem.W.Frag} {mg : Str → Option Value} {base : Heap} (T : Tx K mg) : Fd (gam P w K mg base) 8 (Str.ofString "_law_deed_right") [(Str.ofString "_law_last_here"), (Str.ofString "_law_strips"), (Str.ofString "_law_fresh")] [] fx__law_deed_right := by
  obtain ⟨a, fd, TF⟩ := T.d__law_deed_right
  have F_is_firm := (ok_is_firm (P := P) (w := w) (base := base) T).mono (k := 7) (by decide)
  have F_last_word := (ok_last_word (P := P) (w := w) (base := base) T).mono (k := 7) (by decide)
  have F_is_settled := (ok_is_settled (P := P) (w := w) (base := base) T).mono (k := 7) (by decide)
  have F_is_fallen := (ok_is_fallen (P := P) (w := w) (base := base) T).mono (k := 7) (by decide)
  have F_words_joined := (ok_words_joined (P := P) (w := w) (base := base) T).mono (k := 7) (by decide)
  have F_rests_straight := (ok_rests_straight (P := P) (w := w) (base := base) T).mono (k := 7) (by decide)
  have F_below_resting := (ok_below_resting (P := P) (w := w) (base := base) T).mono (k := 7) (by decide)
  refine fd_of TF rfl rfl rfl rfl rfl sc__law_deed_right ?_
  intro cdv A outer s H E G tk
  exact (ss_cons (s_asg (e_tup (a_cons (e_tup (a_cons e_str (a_cons e_int a_nil (by trivial)) (by trivial))) (a_cons (e_call G tk F_below_resting (by trivial) (by trivial) (a_cons (e_var (i := 0) (by trivial) (by trivial) (by trivial) (by trivial)) (a_cons (e_var (i := 1) (by trivial) (by trivial) (by trivial) (by trivial)) a_nil (by trivial)) (by trivial)) k_nil (by trivial) (by trivial) (by trivial) (by trivial)) a_nil (by trivial)) (by trivial))) (g_of (gi_tup G (gis_cons (gi_name (i := 3) (Gx.nd G) (by trivial) (by trivial) (by trivial)) (gis_cons (gi_name (i := 4) (Gx.nd G) (by trivial) (by trivial) (by trivial)) gis_nil (by trivial)) (by trivial)) (by trivial) (by trivial))) (by trivial) (by trivial) (by trivial))
    (ss_cons (s_if (PW.pt (t_or (t_truth G (e_call G tk F_is_fallen (by trivial) (by trivial) (a_cons (e_var (i := 0) (by trivial) (by trivial) (by trivial) (by trivial)) (a_cons (e_var (i := 3) (by trivial) (by trivial) (by trivial) (by trivial)) (a_cons (e_var (i := 4) (by trivial) (by trivial) (by trivial) (by trivial)) a_nil (by trivial)) (by trivial)) (by trivial)) k_nil (by trivial) (by trivial) (by trivial) (by trivial)) (by trivial)) (pw_or1 (t_truth G (e_call G tk F_is_fallen (by trivial) (by trivial) (a_cons (e_var (i := 0) (by trivial) (by trivial) (by trivial) (by trivial)) (a_cons (e_var (i := 3) (by trivial) (by trivial) (by trivial) (by trivial)) (a_cons (e_tup a_nil) a_nil (by trivial)) (by trivial)) (by trivial)) k_nil (by trivial) (by trivial) (by trivial) (by trivial)) (by trivial))))) (ss_cons (s_ret e_bl)
    ss_nil) ss_nil)
    (ss_cons (s_set (i := 5) (Gx.nd G) (by trivial) (by trivial) (e_call G tk F_rests_straight (by trivial) (by trivial) (a_cons (e_var (i := 0) (by trivial) (by trivial) (by trivial) (by trivial)) (a_cons (e_var (i := 1) (by trivial) (by trivial) (by trivial) (by trivial)) a_nil (by trivial)) (by trivial)) k_nil (by trivial) (by trivial) (by trivial) (by trivial)) (by trivial) (by trivial))
    (ss_cons (s_if (t_cmp (o_cmp G .NotEq) (e_comp (th := false) (own := [((Str.ofString "_law_mark"), 10)]) (is := [10]) G (i_seq G (e_var (i := 5) (by trivial) (by trivial) (by trivial) (by trivial))) (blkOk_by (by trivial)) (by decide) (fun s H C cl fp => (gi_name (i := 10) (Gx.nd (Gx.blk G)) (by trivial) (by trivial) (by trivial))) (fun s H C cl fp => (ts_one (t_cmp (o_inG (Gx.blk G) true) (e_var (i := 10) (by trivial) (by trivial) (by trivial) (by trivial)) (e_var (i := 4) (by trivial) (by trivial) (by trivial) (by trivial)) (by trivial)))) (fun s H C cl fp => (e_var (i := 10) (by trivial) (by trivial) (by trivial) (by trivial))) (by trivial)) (e_frz (l_disp a_nil)) (by trivial)) (ss_cons (s_ret e_bl)
    ss_nil) ss_nil)
    (ss_cons (s_if (t_cmp (o_cmp G .NotEq) (e_comp (th := false) (own := [((Str.ofString "_law_mark"), 10)]) (is := [10]) G (i_seq G (e_var (i := 4) (by trivial) (by trivial) (by trivial) (by trivial))) (blkOk_by (by trivial)) (by decide) (fun s H C cl fp => (gi_name (i := 10) (Gx.nd (Gx.blk G)) (by trivial) (by trivial) (by trivial))) (fun s H C cl fp => (ts_one (t_cmp (o_inG (Gx.blk G) false) (e_ix (Gx.blk G) (e_var (i := 10) (by trivial) (by trivial) (by trivial) (by trivial)) e_int (by trivial)) (e_comp (th := false) (own := [((Str.ofString "_law_own"), 11), ((Str.ofString "_law_word"), 12)]) (is := [11, 12]) (Gx.blk G) (i_seq (Gx.blk G) (e_var (i := 0) (by trivial) (by trivial) (by trivial) (by trivial))) (blkOk_by (by trivial)) (by decide) (fun s H C cl fp => (gi_tup (Gx.blk (Gx.blk G)) (gis_cons (gi_name (i := 11) (Gx.nd (Gx.blk (Gx.blk G))) (by trivial) (by trivial) (by trivial)) (gis_cons (gi_name (i := 12) (Gx.nd (Gx.blk (Gx.blk G))) (by trivial) (by trivial) (by trivial)) gis_nil (by trivial)) (by trivial)) (by trivial) (by trivial))) (fun s H C cl fp => (ts_one (t_cmp (o_cmp (Gx.blk (Gx.blk G)) .Eq) (e_var (i := 12) (by trivial) (by trivial) (by trivial) (by trivial)) e_str (by trivial)))) (fun s H C cl fp => (e_var (i := 11) (by trivial) (by trivial) (by trivial) (by trivial))) (by trivial)) (by trivial)))) (fun s H C cl fp => (e_var (i := 10) (by trivial) (by trivial) (by trivial) (by trivial))) (by trivial)) (e_frz (l_disp a_nil)) (by trivial)) (ss_cons (s_ret e_bl)
    ss_nil) ss_nil)
    (ss_cons (s_for G (i_seq G (e_bin (o_add G) (e_var (i := 2) (by trivial) (by trivial) (by trivial) (by trivial)) (e_tup (a_cons (e_tup (a_cons (e_var (i := 3) (by trivial) (by trivial) (by trivial) (by trivial)) (a_cons e_str a_nil (by trivial)) (by trivial))) (a_cons (e_tup (a_cons (e_var (i := 3) (by trivial) (by trivial) (by trivial) (by trivial)) (a_cons e_str a_nil (by trivial)) (by trivial))) a_nil (by trivial)) (by trivial))))) (g_of (gi_name (i := 6) (Gx.nd G) (by trivial) (by trivial) (by trivial))) (ss_cons (s_if (t_cmp o_is (e_call G tk F_last_word (by trivial) (by trivial) (a_cons (e_var (i := 0) (by trivial) (by trivial) (by trivial) (by trivial)) (a_cons (e_ix G (e_var (i := 6) (by trivial) (by trivial) (by trivial) (by trivial)) e_int (by trivial)) a_nil (by trivial)) (by trivial)) k_nil (by trivial) (by trivial) (by trivial) (by trivial)) e_non (by trivial)) (ss_cons (s_set (i := 7) (Gx.nd G) (by trivial) (by trivial) (e_call G tk F_words_joined (by trivial) (by trivial) (a_cons (e_var (i := 0) (by trivial) (by trivial) (by trivial) (by trivial)) (a_cons (e_tup (a_cons (e_var (i := 6) (by trivial) (by trivial) (by trivial) (by trivial)) a_nil (by trivial))) a_nil (by trivial)) (by trivial)) k_nil (by trivial) (by trivial) (by trivial) (by trivial)) (by trivial) (by trivial))
    (ss_cons (s_set (i := 8) (Gx.nd G) (by trivial) (by trivial) (e_and G (e_cmpB (o_cmp G .Eq) (e_ix G (e_var (i := 6) (by trivial) (by trivial) (by trivial) (by trivial)) e_int (by trivial)) e_str (by trivial)) (pe_one (e_cmpB (o_inG G false) (e_ix G (e_var (i := 6) (by trivial) (by trivial) (by trivial) (by trivial)) e_int (by trivial)) (e_bin (o_add G) (e_frz (l_disp (a_cons (e_var (i := 3) (by trivial) (by trivial) (by trivial) (by trivial)) a_nil (by trivial)))) (e_comp (th := false) (own := [((Str.ofString "_law_mark"), 10)]) (is := [10]) G (i_seq G (e_var (i := 4) (by trivial) (by trivial) (by trivial) (by trivial))) (blkOk_by (by trivial)) (by decide) (fun s H C cl fp => (gi_name (i := 10) (Gx.nd (Gx.blk G)) (by trivial) (by trivial) (by trivial))) (fun s H C cl fp => ts_nil) (fun s H C cl fp => (e_ix (Gx.blk G) (e_var (i := 10) (by trivial) (by trivial) (by trivial) (by trivial)) e_int (by trivial))) (by trivial))) (by trivial)))) (by trivial) (by trivial))
    (ss_cons (s_if (t_cmp (o_cmp G .NotEq) (e_call G tk F_is_fallen (by trivial) (by trivial) (a_cons (e_var (i := 7) (by trivial) (by trivial) (by trivial) (by trivial)) (a_cons (e_var (i := 3) (by trivial) (by trivial) (by trivial) (by trivial)) (a_cons (e_var (i := 4) (by trivial) (by trivial) (by trivial) (by trivial)) a_nil (by trivial)) (by trivial)) (by trivial)) k_nil (by trivial) (by trivial) (by trivial) (by trivial)) (e_var (i := 8) (by trivial) (by trivial) (by trivial) (by trivial)) (by trivial)) (ss_cons (s_ret e_bl)
    ss_nil) ss_nil)
    (ss_cons (s_if (t_cmp (o_cmp G .NotEq) (e_call G tk F_is_settled (by trivial) (by trivial) (a_cons (e_var (i := 7) (by trivial) (by trivial) (by trivial) (by trivial)) (a_cons (e_var (i := 3) (by trivial) (by trivial) (by trivial) (by trivial)) a_nil (by trivial)) (by trivial)) k_nil (by trivial) (by trivial) (by trivial) (by trivial)) (e_cmpB (o_cmp G .Eq) (e_var (i := 6) (by trivial) (by trivial) (by trivial) (by trivial)) (e_tup (a_cons (e_var (i := 3) (by trivial) (by trivial) (by trivial) (by trivial)) (a_cons e_str a_nil (by trivial)) (by trivial))) (by trivial)) (by trivial)) (ss_cons (s_ret e_bl)
    ss_nil) ss_nil)
    ss_nil)))) ss_nil)
    ss_nil) (by trivial))
    (ss_cons (s_set (i := 9) (Gx.nd G) (by trivial) (by trivial) (e_bi G .tuple (by trivial) T.b_tuple (a_cons (e_frz (l_sortSet G (by trivial) T.b_sorted (by trivial) T.b_set (a_cons (e_bin (o_add G) (e_comp (th := false) (own := [((Str.ofString "_law_mark"), 10)]) (is := [10]) G (i_seq G (e_var (i := 4) (by trivial) (by trivial) (by trivial) (by trivial))) (blkOk_by (by trivial)) (by decide) (fun s H C cl fp => (gi_name (i := 10) (Gx.nd (Gx.blk G)) (by trivial) (by trivial) (by trivial))) (fun s H C cl fp => ts_nil) (fun s H C cl fp => (e_tup (a_cons (e_ix (Gx.blk G) (e_var (i := 10) (by trivial) (by trivial) (by trivial) (by trivial)) e_int (by trivial)) (a_cons e_str a_nil (by trivial)) (by trivial)))) (by trivial)) (e_frz (l_disp (a_cons (e_tup (a_cons (e_var (i := 3) (by trivial) (by trivial) (by trivial) (by trivial)) (a_cons e_str a_nil (by trivial)) (by trivial))) a_nil (by trivial))))) a_nil (by trivial)) (by trivial) (by trivial) (by trivial))) a_nil (by trivial)) (by trivial) (by trivial)) (by trivial) (by trivial))
    (ss_cons (s_ret (e_call G tk F_is_firm (by trivial) (by trivial) (a_cons (e_var (i := 9) (by trivial) (by trivial) (by trivial) (by trivial)) (a_cons (e_var (i := 3) (by trivial) (by trivial) (by trivial) (by trivial)) (a_cons (e_var (i := 4) (by trivial) (by trivial) (by trivial) (by trivial)) a_nil (by trivial)) (by trivial)) (by trivial)) k_nil (by trivial) (by trivial) (by trivial) (by trivial)))
    ss_nil))))))))
/-! ### _law_wider_right -/
def m__law_wider_right : MS := (sSeq (sFor (iNs rng1 (aCons (eBin gAdd (eNs (Bi.g .len) (aCons (eVar 1) aNil)) (eC (.p (.int 1)))) aNil)) (tName 2) (sSeq (sPar [3, 4] (aCons (eCall [(Str.ofString "words"), (Str.ofString "rows")] [] fx_below_resting [] (aCons (eVar 0) (aCons (eSl (eVar 1) oNone (oSome (eVar 2))) aNil)) aNil) (aCons (eCall [(Str.ofString "words"), (Str.ofString "rows")] [] fx_below_resting [] (aCons (eVar 0) (aCons (eSl (eVar 1) (oSome (eVar 2)) oNone) aNil)) aNil) aNil)))
    (sSeq (sIf (eCmpT (bCmp .NotEq) (eCall [(Str.ofString "words"), (Str.ofString "rows")] [] fx_below_resting [] (aCons (eVar 0) (aCons (eVar 1) aNil)) aNil) (eNs (Bi.g .tuple) (aCons (eFrz (lNs gSortSet (aCons (eBin gAdd (eVar 3) (eVar 4)) aNil))) aNil))) (sSeq (sRet (eC (.p (.bool false))))
    sNil) sNil)
    (sSeq (sAsg (tName 5) (eBin gAdd (eCall [(Str.ofString "words"), (Str.ofString "rows")] [] fx_rests_straight [] (aCons (eVar 0) (aCons (eSl (eVar 1) oNone (oSome (eVar 2))) aNil)) aNil) (eCall [(Str.ofString "words"), (Str.ofString "rows")] [] fx_rests_straight [] (aCons (eVar 0) (aCons (eSl (eVar 1) (oSome (eVar 2)) oNone) aNil)) aNil)))
    (sSeq (sIf (eCmpT (bCmp .NotEq) (eCall [(Str.ofString "words"), (Str.ofString "rows")] [] fx_rests_straight [] (aCons (eVar 0) (aCons (eVar 1) aNil)) aNil) (eNs (Bi.g .tuple) (aCons (eFrz (lNs gSortSet (aCons (eVar 5) aNil))) aNil))) (sSeq (sRet (eC (.p (.bool false))))
    sNil) sNil)
    sNil)))))
    (sSeq (sFor (iSeq (eVar 1)) (tName 6) (sSeq (sFor (iSeq (eCall [(Str.ofString "words"), (Str.ofString "row")] [] fx_standing_places [] (aCons (eVar 0) (aCons (eVar 6) aNil)) aNil)) (tName 2) (sSeq (sIf (eTru (eCall [(Str.ofString "words"), (Str.ofString "name"), (Str.ofString "below")] [] fx_is_fallen [] (aCons (eVar 0) (aCons (eBin gIx (eBin gIx (eBin gIx (eVar 6) (eC (.p (.int 1)))) (eVar 2)) (eC (.p (.int 0)))) (aCons (eBin gIx (eBin gIx (eBin gIx (eVar 6) (eC (.p (.int 1)))) (eVar 2)) (eC (.p (.int 4)))) aNil))) aNil)) (sSeq (sRet (eC (.p (.bool false))))
    sNil) sNil)
    sNil))
    sNil))
    (sSeq (sRet (eC (.p (.bool true))))
    sNil)))
def fx__law_wider_right : Fx := fxOf 7 false m__law_wider_right
theorem sc__law_wider_right : FnScope [(Str.ofString "_law_last_here"), (Str.ofString "_law_strips"), (Str.ofString "_law_k"), (Str.ofString "_law_ahead"), (Str.ofString "_law_behind"), (Str.ofString "_law_parts"), (Str.ofString "_law_strip_here")] [(Str.ofString "_law_last_here"), (Str.ofString "_law_strips")] (defScope st__law_wider_right) := ⟨rfl, rfl, rfl, by decide +kernel, rfl, by decide +kernel, by decide +kernel⟩
theorem ok__law_wider_right {P : Program} {w : World} {K : PySem.W.Frag} {mg : Str → Option Value} {base : Heap} (T : Tx K mg) : Fd (gam P w K mg base) 8 (Str.ofString "_law_wider_right") [(Str.ofString "_law_last_here"), (Str.ofString "_law_strips")] [] fx__law_wider_right := by
  obtain ⟨a, fd, TF⟩ := T.d__law_wider_right
  have F_standing_places := (ok_standing_places (P := P) (w := w) (base := base) T).mono (k := 7) (by decide)
  have F_is_fallen := (ok_is_fallen (P := P) (w := w) (base := base) T).mono (k := 7) (by decide)
  have F_rests_straight := (ok_rests_straight (P := P) (w := w) (base := base) T).mono (k := 7) (by decide)
  have F_below_resting := (ok_below_resting (P := P) (w := w) (base := base) T).mono (k := 7) (by decide)
  refine fd_of TF rfl rfl rfl rfl rfl sc__law_wider_right ?_
  intro cdv A outer s H E G tk
  exact (ss_cons (s_for G (i_range1 G (by trivial) T.b_range (a_cons (e_bin (o_add G) (e_bi G .len (by trivial) T.b_len (a_cons (e_var (i := 1) (by trivial) (by trivial) (by trivial) (by trivial)) a_nil (by trivial)) (by trivial) (by trivial)) e_int) a_nil (by trivial)) (by trivial)) (g_of (gi_name (i := 2) (Gx.nd G) (by trivial) (by trivial) (by trivial))) (ss_cons (s_par (i := 3) (j := 4) G (by trivial) (by trivial) (by trivial) (by trivial) (by trivial) (a_cons (e_call G tk F_below_resting (by trivial) (by trivial) (a_cons (e_var (i := 0) (by trivial) (by trivial) (by trivial) (by trivial)) (a_cons (e_sl G (e_var (i := 1) (by trivial) (by trivial) (by trivial) (by trivial)) o_none (o_some (e_var (i := 2) (by trivial) (by trivial) (by trivial) (by trivial)))) a_nil (by trivial)) (by trivial)) k_nil (by trivial) (by trivial) (by trivial) (by trivial)) (a_cons (e_call G tk F_below_resting (by trivial) (by trivial) (a_cons (e_var (i := 0) (by trivial) (by trivial) (by trivial) (by trivial)) (a_cons (e_sl G (e_var (i := 1) (by trivial) (by trivial) (by trivial) (by trivial)) (o_some (e_var (i := 2) (by trivial) (by trivial) (by trivial) (by trivial))) o_none) a_nil (by trivial)) (by trivial)) k_nil (by trivial) (by trivial) (by trivial) (by trivial)) a_nil (by trivial)) (by trivial)) (by trivial) (by trivial))
    (ss_cons (s_if (t_cmp (o_cmp G .NotEq) (e_call G tk F_below_resting (by trivial) (by trivial) (a_cons (e_var (i := 0) (by trivial) (by trivial) (by trivial) (by trivial)) (a_cons (e_var (i := 1) (by trivial) (by trivial) (by trivial) (by trivial)) a_nil (by trivial)) (by trivial)) k_nil (by trivial) (by trivial) (by trivial) (by trivial)) (e_bi G .tuple (by trivial) T.b_tuple (a_cons (e_frz (l_sortSet G (by trivial) T.b_sorted (by trivial) T.b_set (a_cons (e_bin (o_add G) (e_var (i := 3) (by trivial) (by trivial) (by trivial) (by trivial)) (e_var (i := 4) (by trivial) (by trivial) (by trivial) (by trivial))) a_nil (by trivial)) (by trivial) (by trivial) (by trivial))) a_nil (by trivial)) (by trivial) (by trivial)) (by trivial)) (ss_cons (s_ret e_bl)
    ss_nil) ss_nil)
    (ss_cons (s_set (i := 5) (Gx.nd G) (by trivial) (by trivial) (e_bin (o_add G) (e_call G tk F_rests_straight (by trivial) (by trivial) (a_cons (e_var (i := 0) (by trivial) (by trivial) (by trivial) (by trivial)) (a_cons (e_sl G (e_var (i := 1) (by trivial) (by trivial) (by trivial) (by trivial)) o_none (o_some (e_var (i := 2) (by trivial) (by trivial) (by trivial) (by trivial)))) a_nil (by trivial)) (by trivial)) k_nil (by trivial) (by trivial) (by trivial) (by trivial)) (e_call G tk F_rests_straight (by trivial) (by trivial) (a_cons (e_var (i := 0) (by trivial) (by trivial) (by trivial) (by trivial)) (a_cons (e_sl G (e_var (i := 1) (by trivial) (by trivial) (by trivial) (by trivial)) (o_some (e_var (i := 2) (by trivial) (by trivial) (by trivial) (by trivial))) o_none) a_nil (by trivial)) (by trivial)) k_nil (by trivial) (by trivial) (by trivial) (by trivial))) (by trivial) (by trivial))
    (ss_cons (s_if (t_cmp (o_cmp G .NotEq) (e_call G tk F_rests_straight (by trivial) (by trivial) (a_cons (e_var (i := 0) (by trivial) (by trivial) (by trivial) (by trivial)) (a_cons (e_var (i := 1) (by trivial) (by trivial) (by trivial) (by trivial)) a_nil (by trivial)) (by trivial)) k_nil (by trivial) (by trivial) (by trivial) (by trivial)) (e_bi G .tuple (by trivial) T.b_tuple (a_cons (e_frz (l_sortSet G (by trivial) T.b_sorted (by trivial) T.b_set (a_cons (e_var (i := 5) (by trivial) (by trivial) (by trivial) (by trivial)) a_nil (by trivial)) (by trivial) (by trivial) (by trivial))) a_nil (by trivial)) (by trivial) (by trivial)) (by trivial)) (ss_cons (s_ret e_bl)
    ss_nil) ss_nil)
    ss_nil)))) (by trivial))
    (ss_cons (s_for G (i_seq G (e_var (i := 1) (by trivial) (by trivial) (by trivial) (by trivial))) (g_of (gi_name (i := 6) (Gx.nd G) (by trivial) (by trivial) (by trivial))) (ss_cons (s_for G (i_seq G (e_call G tk F_standing_places (by trivial) (by trivial) (a_cons (e_var (i := 0) (by trivial) (by trivial) (by trivial) (by trivial)) (a_cons (e_var (i := 6) (by trivial) (by trivial) (by trivial) (by trivial)) a_nil (by trivial)) (by trivial)) k_nil (by trivial) (by trivial) (by trivial) (by trivial))) (g_of (gi_name (i := 2) (Gx.nd G) (by trivial) (by trivial) (by trivial))) (ss_cons (s_if (t_truth G (e_call G tk F_is_fallen (by trivial) (by trivial) (a_cons (e_var (i := 0) (by trivial) (by trivial) (by trivial) (by trivial)) (a_cons (e_ix G (e_ix G (e_ix G (e_var (i := 6) (by trivial) (by trivial) (by trivial) (by trivial)) e_int (by trivial)) (e_var (i := 2) (by trivial) (by trivial) (by trivial) (by trivial)) (by trivial)) e_int (by trivial)) (a_cons (e_ix G (e_ix G (e_ix G (e_var (i := 6) (by trivial) (by trivial) (by trivial) (by trivial)) e_int (by trivial)) (e_var (i := 2) (by trivial) (by trivial) (by trivial) (by trivial)) (by trivial)) e_int (by trivial)) a_nil (by trivial)) (by trivial)) (by trivial)) k_nil (by trivial) (by trivial) (by trivial) (by trivial)) (by trivial)) (ss_cons (s_ret e_bl)
    ss_nil) ss_nil)
    ss_nil) (by trivial))
    ss_nil) (by trivial))
    (ss_cons (s_ret e_bl)
    ss_nil)))
/-! ### law -/
def m_law : MS := (sSeq (sAsg (tName 1) (eCall [(Str.ofString "_law_script")] [] fx__law_feed [] (aCons (eVar 0) aNil) aNil))
    (sSeq (sFor (iNs rng1 (aCons (eC (.p (.int 5))) aNil)) (tName 2) (sSeq (sAsg (tName 3) (eCall [(Str.ofString "_law_feed_here"), (Str.ofString "_law_many")] [] fx__law_pool [] (aCons (eVar 1) (aCons (eC (.p (.int 10))) aNil)) aNil))
    (sSeq (sAsg (tName 4) (eNs (Bi.g .tuple) (aCons (eComp false (iNs rng1 (aCons (eC (.p (.int 2))) aNil)) (tName 9) tYesM (eCall [(Str.ofString "_law_feed_here"), (Str.ofString "_law_pool_here")] [] fx__law_strip [] (aCons (eVar 1) (aCons (eVar 3) aNil)) aNil) [9]) aNil)))
    (sSeq (sPar [5, 6] (aCons (eCall [(Str.ofString "_law_feed_here"), (Str.ofString "_law_pool_here"), (Str.ofString "_law_many")] [] fx__law_last [] (aCons (eVar 1) (aCons (eVar 3) (aCons (eC (.p (.int 3))) aNil))) aNil) (aCons (eCall [(Str.ofString "_law_feed_here"), (Str.ofString "_law_pool_here"), (Str.ofString "_law_many")] [] fx__law_last [] (aCons (eVar 1) (aCons (eVar 3) (aCons (eC (.p (.int 4))) aNil))) aNil) aNil)))
    (sSeq (sAsg (tName 7) (eCall [(Str.ofString "_law_feed_here"), (Str.ofString "_law_many")] [] fx__law_draw [] (aCons (eVar 1) (aCons (eBin gAdd (eNs (Bi.g .len) (aCons (eVar 5) aNil)) (eC (.p (.int 1)))) aNil)) aNil))
    (sSeq (sIf (tNotM (eTru (eCall [(Str.ofString "_law_parts")] [] fx__law_joined_right [] (aCons (eTup (aCons (eSl (eVar 5) oNone (oSome (eVar 7))) (aCons (eSl (eVar 5) (oSome (eVar 7)) oNone) (aCons (eSl3 (eVar 5) (oSome (eC (.p (.int 1)))) oNone (oSome (eC (.p (.int 2))))) aNil)))) aNil) aNil))) (sSeq (sRet (eC (.p (.bool false))))
    sNil) sNil)
    (sSeq (sIf (tNotM (eTru (eCall [(Str.ofString "_law_parts")] [] fx__law_joined_right [] (aCons (eTup (aCons (eTup aNil) (aCons (eVar 6) (aCons (eSl (eVar 6) oNone (oSome (eC (.p (.int 1))))) aNil)))) aNil) aNil))) (sSeq (sRet (eC (.p (.bool false))))
    sNil) sNil)
    (sSeq (sIf (tOrM (tNotM (eTru (eCall [(Str.ofString "_law_last_here"), (Str.ofString "_law_fresh")] [] fx__law_clash_right [] (aCons (eVar 5) (aCons (eVar 6) aNil)) aNil))) (tNotM (eTru (eCall [(Str.ofString "_law_last_here"), (Str.ofString "_law_fresh")] [] fx__law_clash_right [] (aCons (eVar 6) (aCons (eSl (eVar 5) oNone (oSome (eVar 7))) aNil)) aNil)))) (sSeq (sRet (eC (.p (.bool false))))
    sNil) sNil)
    (sSeq (sFor (iSeq (eTup (aCons (eVar 5) (aCons (eVar 6) (aCons (eTup aNil) aNil))))) (tName 8) (sSeq (sIf (tOrM (tNotM (eTru (eCall [(Str.ofString "_law_last_here"), (Str.ofString "_law_strips"), (Str.ofString "_law_fresh")] [] fx__law_deed_right [] (aCons (eVar 8) (aCons (eVar 4) (aCons (eBin gAdd (eVar 5) (eVar 6)) aNil))) aNil))) (tNotM (eTru (eCall [(Str.ofString "_law_last_here"), (Str.ofString "_law_strips")] [] fx__law_wider_right [] (aCons (eVar 8) (aCons (eVar 4) aNil)) aNil)))) (sSeq (sRet (eC (.p (.bool false))))
    sNil) sNil)
    sNil))
    sNil)))))))))
    (sSeq (sRet (eC (.p (.bool true))))
    sNil)))
def fx_law : Fx := fxOf 10 false m_law
theorem sc_law : FnScope [(Str.ofString "_law_script"), (Str.ofString "_law_feed_here"), (Str.ofString "_law_turn"), (Str.ofString "_law_pool_here"), (Str.ofString "_law_strips"), (Str.ofString "_law_whole"), (Str.ofString "_law_other"), (Str.ofString "_law_at"), (Str.ofString "_law_last_here"), (Str.ofString "_law_k")] [(Str.ofString "_law_script")] (defScope st_law) := ⟨rfl, rfl, rfl, by decide +kernel, rfl, by decide +kernel, by decide +kernel⟩
theorem ok_law {P : Program} {w : World} {K : PySem.W.Frag} {mg : Str → Option Value} {base : Heap} {a : Addr} {fd : FuncData} (T : Tx K mg) (TF : DefAt K mg (Str.ofString "law") st_law a fd) : FnG (gam P w K mg base) 9 a fd [(Str.ofString "_law_script")] (spOf (gam P w K mg base) 1 fx_law) := by
  have F__law_deed_right := (ok__law_deed_right (P := P) (w := w) (base := base) T).mono (k := 8) (by decide)
  have F__law_wider_right := (ok__law_wider_right (P := P) (w := w) (base := base) T).mono (k := 8) (by decide)
  have F__law_clash_right := (ok__law_clash_right (P := P) (w := w) (base := base) T).mono (k := 8) (by decide)
  have F__law_joined_right := (ok__law_joined_right (P := P) (w := w) (base := base) T).mono (k := 8) (by decide)
  have F__law_draw := (ok__law_draw (P := P) (w := w) (base := base) T).mono (k := 8) (by decide)
  have F__law_last := (ok__law_last (P := P) (w := w) (base := base) T).mono (k := 8) (by decide)
  have F__law_strip := (ok__law_strip (P := P) (w := w) (base := base) T).mono (k := 8) (by decide)
  have F__law_pool := (ok__law_pool (P := P) (w := w) (base := base) T).mono (k := 8) (by decide)
  have F__law_feed := (ok__law_feed (P := P) (w := w) (base := base) T).mono (k := 8) (by decide)
  refine fnG_of TF sc_law rfl ?_
  intro cdv A outer s H E G tk
  exact (ss_cons (s_set (i := 1) (Gx.nd G) (by trivial) (by trivial) (e_call G tk F__law_feed (by trivial) (by trivial) (a_cons (e_var (i := 0) (by trivial) (by trivial) (by trivial) (by trivial)) a_nil (by trivial)) k_nil (by trivial) (by trivial) (by trivial) (by trivial)) (by trivial) (by trivial))
    (ss_cons (s_for G (i_range1 G (by trivial) T.b_range (a_cons e_int a_nil (by trivial)) (by trivial)) (g_of (gi_name (i := 2) (Gx.nd G) (by trivial) (by trivial) (by trivial))) (ss_cons (s_set (i := 3) (Gx.nd G) (by trivial) (by trivial) (e_call G tk F__law_pool (by trivial) (by trivial) (a_cons (e_var (i := 1) (by trivial) (by trivial) (by trivial) (by trivial)) (a_cons e_int a_nil (by trivial)) (by trivial)) k_nil (by trivial) (by trivial) (by trivial) (by trivial)) (by trivial) (by trivial))
    (ss_cons (s_set (i := 4) (Gx.nd G) (by trivial) (by trivial) (e_bi G .tuple (by trivial) T.b_tuple (a_cons (e_comp (th := false) (own := [((Str.ofString "_law_k"), 9)]) (is := [9]) G (i_range1 G (by trivial) T.b_range (a_cons e_int a_nil (by trivial)) (by trivial)) (blkOk_by (by trivial)) (by decide) (fun s H C cl fp => (gi_name (i := 9) (Gx.nd (Gx.blk G)) (by trivial) (by trivial) (by trivial))) (fun s H C cl fp => ts_nil) (fun s H C cl fp => (e_call (Gx.blk G) takes_no F__law_strip (by trivial) (by trivial) (a_cons (e_var (i := 1) (by trivial) (by trivial) (by trivial) (by trivial)) (a_cons (e_var (i := 3) (by trivial) (by trivial) (by trivial) (by trivial)) a_nil (by trivial)) (by trivial)) k_nil (by trivial) (by trivial) (by trivial) (by trivial))) (by trivial)) a_nil (by trivial)) (by trivial) (by trivial)) (by trivial) (by trivial))
    (ss_cons (s_par (i := 5) (j := 6) G (by trivial) (by trivial) (by trivial) (by trivial) (by trivial) (a_cons (e_call G tk F__law_last (by trivial) (by trivial) (a_cons (e_var (i := 1) (by trivial) (by trivial) (by trivial) (by trivial)) (a_cons (e_var (i := 3) (by trivial) (by trivial) (by trivial) (by trivial)) (a_cons e_int a_nil (by trivial)) (by trivial)) (by trivial)) k_nil (by trivial) (by trivial) (by trivial) (by trivial)) (a_cons (e_call G tk F__law_last (by trivial) (by trivial) (a_cons (e_var (i := 1) (by trivial) (by trivial) (by trivial) (by trivial)) (a_cons (e_var (i := 3) (by trivial) (by trivial) (by trivial) (by trivial)) (a_cons e_int a_nil (by trivial)) (by trivial)) (by trivial)) k_nil (by trivial) (by trivial) (by trivial) (by trivial)) a_nil (by trivial)) (by trivial)) (by trivial) (by trivial))
    (ss_cons (s_set (i := 7) (Gx.nd G) (by trivial) (by trivial) (e_call G tk F__law_draw (by trivial) (by trivial) (a_cons (e_var (i := 1) (by trivial) (by trivial) (by trivial) (by trivial)) (a_cons (e_bin (o_add G) (e_bi G .len (by trivial) T.b_len (a_cons (e_var (i := 5) (by trivial) (by trivial) (by trivial) (by trivial)) a_nil (by trivial)) (by trivial) (by trivial)) e_int) a_nil (by trivial)) (by trivial)) k_nil (by trivial) (by trivial) (by trivial) (by trivial)) (by trivial) (by trivial))
    (ss_cons (s_if (t_not (t_truth G (e_call G tk F__law_joined_right (by trivial) (by trivial) (a_cons (e_tup (a_cons (e_sl G (e_var (i := 5) (by trivial) (by trivial) (by trivial) (by trivial)) o_none (o_some (e_var (i := 7) (by trivial) (by trivial) (by trivial) (by trivial)))) (a_cons (e_sl G (e_var (i := 5) (by trivial) (by trivial) (by trivial) (by trivial)) (o_some (e_var (i := 7) (by trivial) (by trivial) (by trivial) (by trivial))) o_none) (a_cons (e_sl3 G (e_var (i := 5) (by trivial) (by trivial) (by trivial) (by trivial)) (o_some e_int) o_none (o_some e_int)) a_nil (by trivial)) (by trivial)) (by trivial))) a_nil (by trivial)) k_nil (by trivial) (by trivial) (by trivial) (by trivial)) (by trivial))) (ss_cons (s_ret e_bl)
    ss_nil) ss_nil)
    (ss_cons (s_if (t_not (t_truth G (e_call G tk F__law_joined_right (by trivial) (by trivial) (a_cons (e_tup (a_cons (e_tup a_nil) (a_cons (e_var (i := 6) (by trivial) (by trivial) (by trivial) (by trivial)) (a_cons (e_sl G (e_var (i := 6) (by trivial) (by trivial) (by trivial) (by trivial)) o_none (o_some e_int)) a_nil (by trivial)) (by trivial)) (by trivial))) a_nil (by trivial)) k_nil (by trivial) (by trivial) (by trivial) (by trivial)) (by trivial))) (ss_cons (s_ret e_bl)
    ss_nil) ss_nil)
    (ss_cons (s_if (PW.pt (t_or (t_not (t_truth G (e_call G tk F__law_clash_right (by trivial) (by trivial) (a_cons (e_var (i := 5) (by trivial) (by trivial) (by trivial) (by trivial)) (a_cons (e_var (i := 6) (by trivial) (by trivial) (by trivial) (by trivial)) a_nil (by trivial)) (by trivial)) k_nil (by trivial) (by trivial) (by trivial) (by trivial)) (by trivial))) (pw_or1 (t_not (t_truth G (e_call G tk F__law_clash_right (by trivial) (by trivial) (a_cons (e_var (i := 6) (by trivial) (by trivial) (by trivial) (by trivial)) (a_cons (e_sl G (e_var (i := 5) (by trivial) (by trivial) (by trivial) (by trivial)) o_none (o_some (e_var (i := 7) (by trivial) (by trivial) (by trivial) (by trivial)))) a_nil (by trivial)) (by trivial)) k_nil (by trivial) (by trivial) (by trivial) (by trivial)) (by trivial)))))) (ss_cons (s_ret e_bl)
    ss_nil) ss_nil)
    (ss_cons (s_for G (i_seq G (e_tup (a_cons (e_var (i := 5) (by trivial) (by trivial) (by trivial) (by trivial)) (a_cons (e_var (i := 6) (by trivial) (by trivial) (by trivial) (by trivial)) (a_cons (e_tup a_nil) a_nil (by trivial)) (by trivial)) (by trivial)))) (g_of (gi_name (i := 8) (Gx.nd G) (by trivial) (by trivial) (by trivial))) (ss_cons (s_if (PW.pt (t_or (t_not (t_truth G (e_call G tk F__law_deed_right (by trivial) (by trivial) (a_cons (e_var (i := 8) (by trivial) (by trivial) (by trivial) (by trivial)) (a_cons (e_var (i := 4) (by trivial) (by trivial) (by trivial) (by trivial)) (a_cons (e_bin (o_add G) (e_var (i := 5) (by trivial) (by trivial) (by trivial) (by trivial)) (e_var (i := 6) (by trivial) (by trivial) (by trivial) (by trivial))) a_nil (by trivial)) (by trivial)) (by trivial)) k_nil (by trivial) (by trivial) (by trivial) (by trivial)) (by trivial))) (pw_or1 (t_not (t_truth G (e_call G tk F__law_wider_right (by trivial) (by trivial) (a_cons (e_var (i := 8) (by trivial) (by trivial) (by trivial) (by trivial)) (a_cons (e_var (i := 4) (by trivial) (by trivial) (by trivial) (by trivial)) a_nil (by trivial)) (by trivial)) k_nil (by trivial) (by trivial) (by trivial) (by trivial)) (by trivial)))))) (ss_cons (s_ret e_bl)
    ss_nil) ss_nil)
    ss_nil) (by trivial))
    ss_nil)))))))) (by trivial))
    (ss_cons (s_ret e_bl)
    ss_nil)))
end K5

set_option linter.all false
set_option autoImplicit false
namespace K5
open PySem Fp
/-! names, marks, words as data -/
abbrev Nm := Str × Int
def nmP (n : Nm) : PyData := .tuple [.str n.1, .int n.2]
abbrev Ws := List (Nm × Str)
def wP (w : Nm × Str) : PyData := .tuple [nmP w.1, .str w.2]
def wsP (ws : Ws) : PyData := .tuple (ws.map wP)
theorem nm_ok (n : Nm) : okD (nmP n) = true := by
  simp [okD, nmP, PyData.plain, PyData.plainAll, PyData.depth, PyData.depthAll]
theorem nm_eqv (a b : Nm) : PyData.eqv (nmP a) (nmP b) = decide (a = b) := by
  obtain ⟨a1, a2⟩ := a
  obtain ⟨b1, b2⟩ := b
  rw [Bool.eq_iff_iff]
  rw [decide_eq_true_eq]
  have h1 : (nkey (nmP (a1, a2))).isSome = true := by simp [nmP, nkey, nkeys]
  have h2 : (nkey (nmP (b1, b2))).isSome = true := by simp [nmP, nkey, nkeys]
  rw [eqv_nkey _ _ h1 h2]
  simp [nmP]
/-- the word that stands for a name: the first one -/
def lw (ws : Ws) (n : Nm) : PyData := match ws.find? fun w => decide (w.1 = n) with
  | some w => .str w.2
  | none => .none
theorem last_word_is (ws : Ws) (n : Nm) (S : Store) : fx_last_word [.p (wsP ws), .p (nmP n)] S = .ok (.p (lw ws n)) S := by
  show leave false S.length (m_last_word (startD 4 [.p (wsP ws), .p (nmP n)]) S) = _
  refine seq_for (xs := (ws.map wP).map D.p) (S := S) (fun o => leave false S.length o = .ok (.p (lw ws n)) S) (fun i ρ S' => S' = S ∧ (∃ a b, ρ = [some (.p (wsP ws)), some (.p (nmP n)), a, b]) ∧ ws.find? (fun w => decide (w.1 = n)) = (ws.drop i).find? fun w => decide (w.1 = n)) rfl (walk_P _) ?_ ?_ ?_
  · exact ⟨rfl, ⟨none, none, rfl⟩, rfl⟩
  · rintro i x ρ S' hx ⟨rfl, ⟨a, b, rfl⟩, hf⟩
    rw [List.map_map, List.getElem?_map] at hx
    obtain ⟨w, hw, rfl⟩ := Option.map_eq_some_iff.mp hx
    have hd : ws.drop i = w :: ws.drop (i + 1) := by
      obtain ⟨hi, e⟩ := List.getElem?_eq_some_iff.mp hw
      rw [List.drop_eq_getElem_cons hi, e]
    refine ⟨[some (.p (wsP ws)), some (.p (nmP n)), some (.p (nmP w.1)), some (.p (.str w.2))], rfl, ?_⟩
    have hc : eCmpT (bCmp .Eq) (eVar 2) (eVar 1) [some (.p (wsP ws)), some (.p (nmP n)), some (.p (nmP w.1)), some (.p (.str w.2))] S' = .ok (decide (w.1 = n)) S' := by
      show Out.of S' (bCmp .Eq (.p (nmP w.1)) (.p (nmP n)) S') = _
      simp [bCmp, view, cmpOk, nm_ok, cmpD, nm_eqv, Out.of]
    simp only [sSeq, sIf, hc, Out.toS]
    by_cases c : w.1 = n
    · simp only [c, decide_true, if_true, sRet, Out.toS, eVar]
      show leave false S'.length _ = _
      have : lw ws n = .str w.2 := by simp [lw, hf, hd, c]
      rw [this]
      simp [leave, leaveV, frzT, frz]
    · simp only [c, decide_false, Bool.false_eq_true, if_false, sNil]
      exact ⟨by trivial, ⟨_, _, rfl⟩, by rw [hf, hd]; simp [c]⟩
  · rintro ρ S' ⟨rfl, _, hf⟩
    have : lw ws n = .none := by simp [lw, hf]
    rw [this]
    simp [sSeq, sRet, eC, Out.toS, leave, leaveV, frzT, frz]
end K5

set_option linter.all false
set_option autoImplicit false
namespace K5
open PySem Fp L2
theorem lw_ok (ws : Ws) (n : Nm) : okD (lw ws n) = true := by
  unfold lw
  split <;> simp [okD, PyData.plain, PyData.depth]
/-- the name has that word -/
def has (ws : Ws) (n : Nm) (x : Str) : Bool := PyData.eqv (lw ws n) (.str x)
theorem is_settled_is (ws : Ws) (n : Nm) (S : Store) : fx_is_settled [.p (wsP ws), .p (nmP n)] S = .ok (.p (.bool (has ws n "settled"))) S := by
  have call : eCall [(Str.ofString "words"), (Str.ofString "name")] [] fx_last_word [] (aCons (eVar 0) (aCons (eVar 1) aNil)) aNil [some (.p (wsP ws)), some (.p (nmP n))] S = .ok (.p (lw ws n)) S := by
    rw [← last_word_is]
    rfl
  show leave false S.length (m_is_settled [some (.p (wsP ws)), some (.p (nmP n))] S) = _
  have e : eB (eCmpT (bCmp .Eq) (eCall [(Str.ofString "words"), (Str.ofString "name")] [] fx_last_word [] (aCons (eVar 0) (aCons (eVar 1) aNil)) aNil) (eC (.p (.str (Str.ofString "settled"))))) [some (.p (wsP ws)), some (.p (nmP n))] S = .ok (.p (.bool (has ws n "settled"))) S := by
    simp only [eB, eCmpT, M.bind, call, Out.bind, eC, cmp_eq S (lw_ok ws n) (ok_str _), Out.of]
    rfl
  simp only [m_is_settled, sSeq, sRet, e, Out.toS, leave_p, List.take_length]
/-! ### below -/
abbrev Bl_ := List (Nm × Str)
def bP (b : Nm × Str) : PyData := .tuple [nmP b.1, .str b.2]
def blP (bs : Bl_) : PyData := .tuple (bs.map bP)
theorem every_is {ρ : Slots} {S : Store} {n : Nm} {bs : Bl_} {i j : Nat} {l : List Nat} (h1 : ρ[i]? = some (some (.p (nmP n)))) (h2 : ρ[j]? = some (some (.p (blP bs)))) (few : bs.length < 1000) (m : Nat) (hm : m < ρ.length) :
    eBin gAdd (eFrz (lDisp (aCons (eVar i) aNil))) (eComp false (iSeq (eVar j)) (tName m) tYesM (eBin gIx (eVar m) (eC (.p (.int 0)))) [m]) ρ S = .ok (.p (.list (nmP n :: bs.map fun b => nmP b.1))) S := by
  have hl : 1000 ≤ sizeLine := by rw [sizeLine_eq]; decide
  have comp : eComp false (iSeq (eVar j)) (tName m) tYesM (eBin gIx (eVar m) (eC (.p (.int 0)))) [m] ρ S = .ok (.p (.list (bs.map fun b => nmP b.1))) S := by
    have key := comp_stays (fi := iSeq (eVar j)) (t := tName m) (c := tYesM) (fe := eBin gIx (eVar m) (eC (.p (.int 0)))) (vs := [m]) (xs := (bs.map bP).map D.p) (ρ := ρ) (S0 := S) (S := S) (p := fun _ => true)
      (g := fun d => match d with | .p (.tuple (x :: _)) => x | _ => .none) ?_ (walk_P _) (by simp; omega) ?_
    · rw [key]
      rw [List.filter_eq_self.mpr (fun _ _ => rfl), List.map_map, List.map_map]
      rfl
    · show ((eVar j) ρ S).bind _ = _
      simp only [eVar, h2, Out.bind]
      rfl
    · intro x hx acc
      rw [List.map_map] at hx
      obtain ⟨b, _, rfl⟩ := List.mem_map.mp hx
      refine ⟨(wipeD ρ [m]).set m (some (.p (bP b))), by simp [tName, wipeD_length, hm], rfl, fun _ => ?_⟩
      have hv : ((wipeD ρ [m]).set m (some (.p (bP b))))[m]? = some (some (.p (bP b))) := List.getElem?_set_self (by rw [wipeD_length]; exact hm)
      simp only [eBin, M.bind, eVar, hv, Out.bind, eC]
      rfl
  have one : eFrz (lDisp (aCons (eVar i) aNil)) ρ S = .ok (.p (.list [nmP n])) S := by
    simp only [eFrz, lDisp, aCons, aNil, M.bind, eVar, h1, Out.bind]
    rfl
  show ((eFrz (lDisp (aCons (eVar i) aNil))) ρ S).bind (fun a S1 => (eComp false (iSeq (eVar j)) (tName m) tYesM (eBin gIx (eVar m) (eC (.p (.int 0)))) [m] ρ S1).bind fun b S2 => .of S2 (gAdd a b S2)) = _
  rw [one]
  show (eComp false (iSeq (eVar j)) (tName m) tYesM (eBin gIx (eVar m) (eC (.p (.int 0)))) [m] ρ S).bind (fun b S2 => .of S2 (gAdd (.p (.list [nmP n])) b S2)) = _
  rw [comp]
  show Out.of S (if ([nmP n] : List PyData).length + (bs.map fun b => nmP b.1).length ≤ sizeLine then some (D.p (.list ([nmP n] ++ bs.map fun b => nmP b.1))) else none) = _
  rw [if_pos (by simp; omega)]
  rfl
/-- [last_word(words, own) == x for own in ..] -/
theorem words_comp {ρ : Slots} {S : Store} {ws : Ws} {ns : List Nm} {fe : M D} {m : Nat} {x : Str} (h0 : ρ[0]? = some (some (.p (wsP ws)))) (hm : m < ρ.length) (m0 : m ≠ 0) (few : ns.length ≤ 1000) (src : fe ρ S = .ok (.p (.list (ns.map nmP))) S) :
    eComp false (iSeq fe) (tName m) tYesM (eB (eCmpT (bCmp .Eq) (eCall [(Str.ofString "words"), (Str.ofString "name")] [] fx_last_word [] (aCons (eVar 0) (aCons (eVar m) aNil)) aNil) (eC (.p (.str x))))) [m] ρ S = .ok (.p (.list (ns.map fun n => .bool (has ws n x)))) S := by
  have hl : 1000 ≤ sizeLine := by rw [sizeLine_eq]; decide
  have key := comp_stays (fi := iSeq fe) (t := tName m) (c := tYesM) (fe := eB (eCmpT (bCmp .Eq) (eCall [(Str.ofString "words"), (Str.ofString "name")] [] fx_last_word [] (aCons (eVar 0) (aCons (eVar m) aNil)) aNil) (eC (.p (.str x))))) (vs := [m]) (xs := (ns.map nmP).map D.p) (ρ := ρ) (S0 := S) (S := S) (p := fun _ => true)
    (g := fun d => match d with | .p (.tuple [.str a, .int b]) => .bool (has ws (a, b) x) | _ => .none) ?_ (walk_P _) (by simp; omega) ?_
  · rw [key, List.filter_eq_self.mpr (fun _ _ => rfl), List.map_map, List.map_map]
    rfl
  · show (fe ρ S).bind (fun a S' => .of S' (iterOf a S')) = _
    rw [src]
    rfl
  · intro d hd acc
    rw [List.map_map] at hd
    obtain ⟨n, _, rfl⟩ := List.mem_map.mp hd
    refine ⟨_, tName_own hm, rfl, fun _ => ?_⟩
    have call : eCall [(Str.ofString "words"), (Str.ofString "name")] [] fx_last_word [] (aCons (eVar 0) (aCons (eVar m) aNil)) aNil ((wipeD ρ [m]).set m (some (.p (nmP n)))) (S ++ [.lst acc]) = .ok (.p (lw ws n)) (S ++ [.lst acc]) := by
      rw [← last_word_is]
      simp only [eCall, aCons, aNil, M.bind, eVar, blk_at m0, h0, blk_own hm, Out.bind]
      rfl
    simp only [Function.comp, eB, eCmpT, M.bind, call, Out.bind, eC, cmp_eq _ (lw_ok ws n) (ok_str _), Out.of]
    rfl
def fallen (ws : Ws) (n : Nm) (bs : Bl_) : Bool := (n :: bs.map (·.1)).any fun m => has ws m "taken"
theorem is_fallen_is (ws : Ws) (n : Nm) (bs : Bl_) (few : bs.length < 1000) (S : Store) : fx_is_fallen [.p (wsP ws), .p (nmP n), .p (blP bs)] S = .ok (.p (.bool (fallen ws n bs))) S := by
  have ev := every_is (ρ := [some (.p (wsP ws)), some (.p (nmP n)), some (.p (blP bs)), none, none]) (S := S) (n := n) (bs := bs) (i := 1) (j := 2) (l := []) rfl rfl few 4 (by simp)
  have cp := words_comp (ws := ws) (ns := n :: bs.map (·.1)) (m := 3) (x := Str.ofString "taken") (ρ := [some (.p (wsP ws)), some (.p (nmP n)), some (.p (blP bs)), none, none]) (S := S) rfl (by simp) (by decide) (by simp; omega) (ev.trans (by rw [List.map_cons, List.map_map]; rfl))
  show leave false S.length (m_is_fallen [some (.p (wsP ws)), some (.p (nmP n)), some (.p (blP bs)), none, none] S) = _
  have an := x_ns (g := Bi.g .any) (x_a1 cp x_a0)
  have res : Bi.g .any [.p (.list ((n :: bs.map (·.1)).map fun n => PyData.bool (has ws n (Str.ofString "taken"))))] S = some (.p (.bool (fallen ws n bs))) := by
    simp only [Bi.g, gAny, viewL, viewW, Option.bind_some, allB_map, Option.map_some]
    simp [fallen, List.any_map, Function.comp_def]
  rw [res] at an
  unfold m_is_fallen
  rw [x_seq_rt (x_ret an), leave_p, List.take_length]
/-- [is_settled(words, own) for own in ..] -/
theorem settled_comp {ρ : Slots} {S : Store} {ws : Ws} {ns : List Nm} {fe : M D} {m : Nat} (h0 : ρ[0]? = some (some (.p (wsP ws)))) (hm : m < ρ.length) (m0 : m ≠ 0) (few : ns.length ≤ 1000) (src : fe ρ S = .ok (.p (.list (ns.map nmP))) S) :
    eComp false (iSeq fe) (tName m) tYesM (eCall [(Str.ofString "words"), (Str.ofString "name")] [] fx_is_settled [] (aCons (eVar 0) (aCons (eVar m) aNil)) aNil) [m] ρ S = .ok (.p (.list (ns.map fun n => .bool (has ws n "settled")))) S := by
  have hl : 1000 ≤ sizeLine := by rw [sizeLine_eq]; decide
  have key := comp_stays (fi := iSeq fe) (t := tName m) (c := tYesM) (fe := eCall [(Str.ofString "words"), (Str.ofString "name")] [] fx_is_settled [] (aCons (eVar 0) (aCons (eVar m) aNil)) aNil) (vs := [m]) (xs := (ns.map nmP).map D.p) (ρ := ρ) (S0 := S) (S := S) (p := fun _ => true)
    (g := fun d => match d with | .p (.tuple [.str a, .int b]) => .bool (has ws (a, b) "settled") | _ => .none) ?_ (walk_P _) (by simp; omega) ?_
  · rw [key, List.filter_eq_self.mpr (fun _ _ => rfl), List.map_map, List.map_map]
    rfl
  · show (fe ρ S).bind (fun a S' => .of S' (iterOf a S')) = _
    rw [src]
    rfl
  · intro d hd acc
    rw [List.map_map] at hd
    obtain ⟨n, _, rfl⟩ := List.mem_map.mp hd
    refine ⟨_, tName_own hm, rfl, fun _ => ?_⟩
    have v0 : eVar 0 ((wipeD ρ [m]).set m (some (.p (nmP n)))) (S ++ [.lst acc]) = .ok (.p (wsP ws)) (S ++ [.lst acc]) := by simp only [eVar, blk_at m0, h0]
    have vm : eVar m ((wipeD ρ [m]).set m (some (.p (nmP n)))) (S ++ [.lst acc]) = .ok (.p (nmP n)) (S ++ [.lst acc]) := by simp only [eVar, blk_own hm]
    exact (x_call (x_a1 v0 (x_a1 vm x_a0)) x_a0 rfl).trans (is_settled_is ws n _)
def firm (ws : Ws) (n : Nm) (bs : Bl_) : Bool := (n :: bs.map (·.1)).all fun m => has ws m "settled"
theorem is_firm_is (ws : Ws) (n : Nm) (bs : Bl_) (few : bs.length < 1000) (S : Store) : fx_is_firm [.p (wsP ws), .p (nmP n), .p (blP bs)] S = .ok (.p (.bool (firm ws n bs))) S := by
  have ev := every_is (ρ := [some (.p (wsP ws)), some (.p (nmP n)), some (.p (blP bs)), none, none]) (S := S) (n := n) (bs := bs) (i := 1) (j := 2) (l := []) rfl rfl few 4 (by simp)
  have cp := settled_comp (ws := ws) (ns := n :: bs.map (·.1)) (m := 3) (ρ := [some (.p (wsP ws)), some (.p (nmP n)), some (.p (blP bs)), none, none]) (S := S) rfl (by simp) (by decide) (by simp; omega) (ev.trans (by rw [List.map_cons, List.map_map]; rfl))
  show leave false S.length (m_is_firm [some (.p (wsP ws)), some (.p (nmP n)), some (.p (blP bs)), none, none] S) = _
  have an := x_ns (g := Bi.g .all) (x_a1 cp x_a0)
  have res : Bi.g .all [.p (.list ((n :: bs.map (·.1)).map fun n => PyData.bool (has ws n "settled")))] S = some (.p (.bool (firm ws n bs))) := by
    simp only [Bi.g, gAll, viewL, viewW, Option.bind_some, allB_map, Option.map_some]
    simp [firm, List.all_map, Function.comp_def]
  rw [res] at an
  unfold m_is_firm
  rw [x_seq_rt (x_ret an), leave_p, List.take_length]
end K5

set_option linter.all false
set_option autoImplicit false
namespace K5
open PySem Fp L2
abbrev Wr := Nm × Str × Str × Int × Bl_
def wrP (w : Wr) : PyData := .tuple [nmP w.1, .str w.2.1, .str w.2.2.1, .int w.2.2.2.1, blP w.2.2.2.2]
def rowP (b : Int) (wrs : List Wr) : PyData := .tuple [.int b, .tuple (wrs.map wrP)]
def stands (ws : Ws) (w : Wr) : Bool := !fallen ws w.1 w.2.2.2.2
/-- the places of the writings that stand -/
def standing (ws : Ws) (wrs : List Wr) : List Nat := (wrs.zipIdx.filter fun x => stands ws x.1).map (·.2)
def natsP (l : List Nat) : List PyData := l.map fun (k : Nat) => PyData.int (k : Int)
theorem standing_snoc (ws : Ws) (l : List Wr) (w : Wr) : standing ws (l ++ [w]) = standing ws l ++ (if stands ws w then [l.length] else []) := by
  unfold standing
  rw [List.zipIdx_append, List.filter_append, List.map_append]
  by_cases c : stands ws w = true
  · simp [c]
  · simp [c]
theorem standing_len (ws : Ws) (l : List Wr) : (standing ws l).length ≤ l.length := by
  unfold standing
  rw [List.length_map]
  refine Nat.le_trans (List.length_filter_le _ _) ?_
  simp
theorem standing_places_is (ws : Ws) (b : Int) (wrs : List Wr) (few : wrs.length < 1000) (fb : ∀ w ∈ wrs, w.2.2.2.2.length < 1000) (S : Store) : fx_standing_places [.p (wsP ws), .p (rowP b wrs)] S = .ok (.p (.tuple (natsP (standing ws wrs)))) S := by
  have hl : 1000 ≤ sizeLine := by rw [sizeLine_eq]; decide
  show leave false S.length (m_standing_places (startD 11 [.p (wsP ws), .p (rowP b wrs)]) S) = _
  have at_n : ∀ l : List PyData, (S ++ [MO.lst l])[S.length]? = some (.lst l) := fun l => by rw [List.getElem?_append_right (Nat.le_refl _), Nat.sub_self]; rfl
  unfold m_standing_places
  rw [x_seq (a := sAsg (tTupM 2 (tsCons (tName 2) (tsCons (tName 3) tsNil))) (eVar 1)) (ρ1 := [some (.p (wsP ws)), some (.p (rowP b wrs)), some (.p (.int b)), some (.p (.tuple (wrs.map wrP))), none, none, none, none, none, none, none]) (S1 := S) rfl]
  rw [x_seq (a := sAsg (tName 4) (eThw (lDisp aNil))) (ρ1 := [some (.p (wsP ws)), some (.p (rowP b wrs)), some (.p (.int b)), some (.p (.tuple (wrs.map wrP))), some (.loc S.length), none, none, none, none, none, none]) (S1 := S ++ [.lst []]) rfl]
  refine seq_for (fi := iNs enumOf (aCons (eVar 3) aNil)) (xs := numbered (wrs.map wrP)) (S := S ++ [.lst []]) (ρ := [some (.p (wsP ws)), some (.p (rowP b wrs)), some (.p (.int b)), some (.p (.tuple (wrs.map wrP))), some (.loc S.length), none, none, none, none, none, none])
    (S0 := S ++ [.lst []]) (fun o => leave false S.length o = .ok (.p (.tuple (natsP (standing ws wrs)))) S)
    (fun i ρ S' => S' = S ++ [.lst (natsP (standing ws (wrs.take i)))] ∧ ∃ a1 a2 a3 a4 a5 a6, ρ = [some (.p (wsP ws)), some (.p (rowP b wrs)), some (.p (.int b)), some (.p (.tuple (wrs.map wrP))), some (.loc S.length), a1, a2, a3, a4, a5, a6]) rfl (walk_E _) ?_ ?_ ?_
  · exact ⟨rfl, none, none, none, none, none, none, rfl⟩
  · rintro i x ρ S' hx ⟨rfl, a1, a2, a3, a4, a5, a6, rfl⟩
    unfold Fp.numbered at hx
    rw [List.getElem?_mapIdx, List.getElem?_map] at hx
    obtain ⟨y, hy, rfl⟩ := Option.map_eq_some_iff.mp hx
    obtain ⟨w, hw, rfl⟩ := Option.map_eq_some_iff.mp hy
    obtain ⟨hi, ew⟩ := List.getElem?_eq_some_iff.mp hw
    have tk : wrs.take (i + 1) = wrs.take i ++ [w] := by rw [List.take_add_one, hw]; rfl
    have tl : (wrs.take i).length = i := List.length_take_of_le (Nat.le_of_lt hi)
    refine ⟨[some (.p (wsP ws)), some (.p (rowP b wrs)), some (.p (.int b)), some (.p (.tuple (wrs.map wrP))), some (.loc S.length), some (.p (.int (i : Nat))), some (.p (nmP w.1)), some (.p (.str w.2.1)), some (.p (.str w.2.2.1)), some (.p (.int w.2.2.2.1)), some (.p (blP w.2.2.2.2))], rfl, ?_⟩
    generalize hρ : ([some (.p (wsP ws)), some (.p (rowP b wrs)), some (.p (.int b)), some (.p (.tuple (wrs.map wrP))), some (.loc S.length), some (.p (.int (i : Nat))), some (.p (nmP w.1)), some (.p (.str w.2.1)), some (.p (.str w.2.2.1)), some (.p (.int w.2.2.2.1)), some (.p (blP w.2.2.2.2))] : Slots) = ρ1
    generalize hS : S ++ [MO.lst (natsP (standing ws (wrs.take i)))] = S1
    have call : eCall [(Str.ofString "words"), (Str.ofString "name"), (Str.ofString "below")] [] fx_is_fallen [] (aCons (eVar 0) (aCons (eVar 6) (aCons (eVar 10) aNil))) aNil ρ1 S1 = .ok (.p (.bool (fallen ws w.1 w.2.2.2.2))) S1 := by
      rw [← is_fallen_is ws w.1 w.2.2.2.2 (fb w (List.mem_of_getElem? hw)) S1, ← hρ]
      rfl
    have test : tNotM (eTru (eCall [(Str.ofString "words"), (Str.ofString "name"), (Str.ofString "below")] [] fx_is_fallen [] (aCons (eVar 0) (aCons (eVar 6) (aCons (eVar 10) aNil))) aNil)) ρ1 S1 = .ok (stands ws w) S1 := by
      simp only [tNotM, eTru, M.bind, call, Out.bind, truD, Out.of]
      rfl
    have app : stands ws w = true → eMeth "list" mAppend (eVar 4) (aCons (eVar 5) aNil) ρ1 S1 = .ok (.p .none) (S ++ [.lst (natsP (standing ws (wrs.take (i + 1))))]) := fun c => by
      have len := standing_len ws (wrs.take i)
      rw [tl] at len
      subst hρ hS
      show (if tyD (S ++ [MO.lst (natsP (standing ws (wrs.take i)))]) (.loc S.length) = "list" then outM (mAppend (.loc S.length) [.p (.int (i : Nat))] (S ++ [MO.lst (natsP (standing ws (wrs.take i)))])) else Out.bad) = _
      simp only [tyD, mAppend, at_n, if_true]
      rw [if_pos (by simp only [natsP, List.length_map]; omega)]
      show Out.ok (D.p .none) ((S ++ [MO.lst (natsP (standing ws (wrs.take i)))]).set S.length _) = _
      rw [List.set_append_right _ _ (Nat.le_refl _), Nat.sub_self, tk, standing_snoc, if_pos c, tl]
      simp [natsP]
    rw [x_seq (S1 := S ++ [.lst (natsP (standing ws (wrs.take (i + 1))))]) (ρ1 := ρ1)]
    · subst hρ
      exact ⟨rfl, _, _, _, _, _, _, rfl⟩
    · rw [x_if test]
      by_cases c : stands ws w = true
      · rw [if_pos c]
        simp only [sSeq, sExpr, app c, Out.toS, sNil]
      · rw [if_neg c, tk, standing_snoc, if_neg c, List.append_nil, hS]
        rfl
  · rintro ρ S' ⟨rfl, a1, a2, a3, a4, a5, a6, rfl⟩
    have e : (numbered (wrs.map wrP)).length = wrs.length := by simp [Fp.numbered]
    rw [e, List.take_length]
    have res : eNs (Bi.g .tuple) (aCons (eVar 4) aNil) [some (.p (wsP ws)), some (.p (rowP b wrs)), some (.p (.int b)), some (.p (.tuple (wrs.map wrP))), some (.loc S.length), a1, a2, a3, a4, a5, a6] (S ++ [.lst (natsP (standing ws wrs))]) = .ok (.p (.tuple (natsP (standing ws wrs)))) (S ++ [.lst (natsP (standing ws wrs))]) := by
      show Out.of _ (gTupleOf [.loc S.length] (S ++ [.lst (natsP (standing ws wrs))])) = _
      simp only [gTupleOf, viewL, viewW, at_n]
      rfl
    rw [x_seq_rt (x_ret res), leave_p]
    simp
end K5

set_option linter.all false
set_option autoImplicit false
namespace K5
open PySem Fp L2
theorem standing_lt (ws : Ws) (wrs : List Wr) {k : Nat} (h : k ∈ standing ws wrs) : k < wrs.length := by
  unfold standing at h
  obtain ⟨x, hx, rfl⟩ := List.mem_map.mp h
  have := List.mem_zipIdx (List.mem_filter.mp hx).1
  omega
def sortIs (wrs : List Wr) (k : Nat) : Bool := match wrs[k]? with
  | some w => PyData.eqv (.str w.2.2.1) (.str "set")
  | none => false
def beginOf (l : List Nat) : Int := match l.map fun (k : Nat) => (k : Int) with
  | n :: r => maxL n r
  | [] => 0
def heart (ws : Ws) (wrs : List Wr) : List Nat := (standing ws wrs).filter fun k => !decide ((k : Int) < beginOf ((standing ws wrs).filter (sortIs wrs)))
theorem atI_nat {α : Type} (xs : List α) {k : Nat} (h : k < xs.length) : atI xs (k : Int) = some xs[k] := by
  unfold atI ixN
  simp only [show (0 : Int) ≤ (k : Int) from by omega, show (k : Int) < xs.length from by omega, if_true]
  simp [h]
theorem allI_nats : ∀ l : List Nat, allI (natsP l) = some (l.map fun (k : Nat) => (k : Int))
  | [] => rfl
  | k :: l => by
    show (allI (natsP l)).map _ = _
    rw [allI_nats l]
    rfl
/-- [k for k in places if ..] -/
theorem places_comp {ρ : Slots} {S : Store} {ps : List Nat} {fe : M D} {c : M Bool} {m : Nat} {q : Nat → Bool} (hm : m < ρ.length) (few : ps.length ≤ 1000) (src : fe ρ S = .ok (.p (.tuple (natsP ps))) S)
    (hc : ∀ k ∈ ps, ∀ acc, c ((wipeD ρ [m]).set m (some (.p (.int (k : Nat))))) (S ++ [.lst acc]) = .ok (q k) (S ++ [.lst acc])) :
    eComp false (iSeq fe) (tName m) c (eVar m) [m] ρ S = .ok (.p (.list (natsP (ps.filter q)))) S := by
  have hl : 1000 ≤ sizeLine := by rw [sizeLine_eq]; decide
  have key := comp_stays (fi := iSeq fe) (t := tName m) (c := c) (fe := eVar m) (vs := [m]) (xs := (natsP ps).map D.p) (ρ := ρ) (S0 := S) (S := S) (p := fun d => match d with | .p (.int k) => q k.toNat | _ => false)
    (g := fun d => match d with | .p y => y | _ => .none) ?_ (walk_P _) (by simp [natsP]; omega) ?_
  · rw [key]
    unfold natsP
    rw [List.map_map, List.filter_map]
    rw [List.map_map]
    rfl
  · show (fe ρ S).bind (fun a S' => .of S' (iterOf a S')) = _
    rw [src]
    rfl
  · intro d hd acc
    unfold natsP at hd
    rw [List.map_map] at hd
    obtain ⟨k, hk, rfl⟩ := List.mem_map.mp hd
    refine ⟨_, tName_own hm, hc k hk acc, fun _ => ?_⟩
    simp only [eVar, blk_own hm, Function.comp]
theorem heart_places_is (ws : Ws) (b : Int) (wrs : List Wr) (few : wrs.length < 1000) (fb : ∀ w ∈ wrs, w.2.2.2.2.length < 1000) (S : Store) : fx_heart_places [.p (wsP ws), .p (rowP b wrs)] S = .ok (.p (.tuple (natsP (heart ws wrs)))) S := by
  have sl := standing_len ws wrs
  show leave false S.length (m_heart_places (startD 7 [.p (wsP ws), .p (rowP b wrs)]) S) = _
  unfold m_heart_places
  rw [x_seq (a := sAsg (tTupM 2 (tsCons (tName 2) (tsCons (tName 3) tsNil))) (eVar 1)) (ρ1 := [some (.p (wsP ws)), some (.p (rowP b wrs)), some (.p (.int b)), some (.p (.tuple (wrs.map wrP))), none, none, none]) (S1 := S) rfl]
  have call : eCall [(Str.ofString "words"), (Str.ofString "row")] [] fx_standing_places [] (aCons (eVar 0) (aCons (eVar 1) aNil)) aNil [some (.p (wsP ws)), some (.p (rowP b wrs)), some (.p (.int b)), some (.p (.tuple (wrs.map wrP))), none, none, none] S = .ok (.p (.tuple (natsP (standing ws wrs)))) S := by
    rw [← standing_places_is ws b wrs few fb S]
    rfl
  have a1 : sAsg (tName 4) (eCall [(Str.ofString "words"), (Str.ofString "row")] [] fx_standing_places [] (aCons (eVar 0) (aCons (eVar 1) aNil)) aNil) [some (.p (wsP ws)), some (.p (rowP b wrs)), some (.p (.int b)), some (.p (.tuple (wrs.map wrP))), none, none, none] S
      = .nx [some (.p (wsP ws)), some (.p (rowP b wrs)), some (.p (.int b)), some (.p (.tuple (wrs.map wrP))), some (.p (.tuple (natsP (standing ws wrs)))), none, none] S := by
    simp only [sAsg, call, Out.toS]
    rfl
  rw [x_seq a1]
  have c1 := places_comp (ρ := [some (.p (wsP ws)), some (.p (rowP b wrs)), some (.p (.int b)), some (.p (.tuple (wrs.map wrP))), some (.p (.tuple (natsP (standing ws wrs)))), none, none]) (S := S) (ps := standing ws wrs) (fe := eVar 4) (m := 6) (q := sortIs wrs)
    (c := eCmpT (bCmp .Eq) (eBin gIx (eBin gIx (eVar 3) (eVar 6)) (eC (.p (.int 2)))) (eC (.p (.str (Str.ofString "set"))))) (by simp) (by omega) rfl (fun k hk acc => by
      have lt := standing_lt ws wrs hk
      have i1 : eBin gIx (eVar 3) (eVar 6) ((wipeD [some (.p (wsP ws)), some (.p (rowP b wrs)), some (.p (.int b)), some (.p (.tuple (wrs.map wrP))), some (.p (.tuple (natsP (standing ws wrs)))), none, none] [6]).set 6 (some (.p (.int (k : Nat))))) (S ++ [.lst acc]) = .ok (.p (wrP wrs[k])) (S ++ [.lst acc]) := by
        refine (x_bin (g := gIx) (d := .p (.tuple (wrs.map wrP))) (d' := .p (.int (k : Nat))) rfl rfl).trans ?_
        simp only [gIx, atI_nat (wrs.map wrP) (by simpa using lt), List.getElem_map, Option.map_some, Out.of]
      have i2 := (x_bin (g := gIx) i1 (show eC (.p (.int 2)) _ _ = .ok (.p (.int 2)) _ from rfl))
      have i3 : gIx (.p (wrP wrs[k])) (.p (.int 2)) (S ++ [.lst acc]) = some (.p (.str wrs[k].2.2.1)) := rfl
      rw [i3] at i2
      refine x_cmp i2 (show eC (.p (.str (Str.ofString "set"))) _ _ = .ok (.p (.str (Str.ofString "set"))) _ from rfl) ?_
      rw [cmp_eq _ (ok_str _) (ok_str _)]
      simp only [sortIs, List.getElem?_eq_getElem lt])
  have mx : eNk gMaxD (aCons (eComp false (iSeq (eVar 4)) (tName 6) (eCmpT (bCmp .Eq) (eBin gIx (eBin gIx (eVar 3) (eVar 6)) (eC (.p (.int 2)))) (eC (.p (.str (Str.ofString "set"))))) (eVar 6) [6]) aNil) (aCons (eC (.p (.int 0))) aNil)
      [some (.p (wsP ws)), some (.p (rowP b wrs)), some (.p (.int b)), some (.p (.tuple (wrs.map wrP))), some (.p (.tuple (natsP (standing ws wrs)))), none, none] S = .ok (.p (.int (beginOf ((standing ws wrs).filter (sortIs wrs))))) S := by
    have h1 := x_a1 c1 x_a0
    have h2 : ∀ ρ : Slots, aCons (eC (.p (.int 0))) aNil ρ S = .ok [.p (.int 0)] S := fun _ => rfl
    simp only [eNk, M.bind, h1, h2, Out.bind, gMaxD, viewL, viewW, Option.bind_some, allI_nats, beginOf]
    cases (List.filter (sortIs wrs) (standing ws wrs)) <;> rfl
  have a2 : sAsg (tName 5) (eNk gMaxD (aCons (eComp false (iSeq (eVar 4)) (tName 6) (eCmpT (bCmp .Eq) (eBin gIx (eBin gIx (eVar 3) (eVar 6)) (eC (.p (.int 2)))) (eC (.p (.str (Str.ofString "set"))))) (eVar 6) [6]) aNil) (aCons (eC (.p (.int 0))) aNil))
      [some (.p (wsP ws)), some (.p (rowP b wrs)), some (.p (.int b)), some (.p (.tuple (wrs.map wrP))), some (.p (.tuple (natsP (standing ws wrs)))), none, none] S
      = .nx [some (.p (wsP ws)), some (.p (rowP b wrs)), some (.p (.int b)), some (.p (.tuple (wrs.map wrP))), some (.p (.tuple (natsP (standing ws wrs)))), some (.p (.int (beginOf ((standing ws wrs).filter (sortIs wrs))))), none] S := by
    simp only [sAsg, mx, Out.toS]
    rfl
  rw [x_seq a2]
  have c2 := places_comp (ρ := [some (.p (wsP ws)), some (.p (rowP b wrs)), some (.p (.int b)), some (.p (.tuple (wrs.map wrP))), some (.p (.tuple (natsP (standing ws wrs)))), some (.p (.int (beginOf ((standing ws wrs).filter (sortIs wrs))))), none]) (S := S) (ps := standing ws wrs) (fe := eVar 4) (m := 6)
    (q := fun k => !decide ((k : Int) < beginOf ((standing ws wrs).filter (sortIs wrs)))) (c := eCmpT (bCmp .GtE) (eVar 6) (eVar 5)) (by simp) (by omega) rfl (fun k hk acc => by
      refine x_cmp (d := .p (.int (k : Nat))) (d' := .p (.int (beginOf ((standing ws wrs).filter (sortIs wrs))))) rfl rfl ?_
      simp only [bCmp, view, cmpOk, ok_int, PySem.W.alike, Fp.isNon, cmpD, PySem.W.dataLt_int]
      rfl)
  have tp : eNs (Bi.g .tuple) (aCons (eComp false (iSeq (eVar 4)) (tName 6) (eCmpT (bCmp .GtE) (eVar 6) (eVar 5)) (eVar 6) [6]) aNil) _ S = .ok (.p (.tuple (natsP (heart ws wrs)))) S := (x_ns (g := Bi.g .tuple) (x_a1 c2 x_a0)).trans rfl
  rw [x_seq_rt (x_ret tp), leave_p, List.take_length]
end K5

set_option linter.all false
set_option autoImplicit false
namespace K5
open PySem Fp L2
theorem heart_lt (ws : Ws) (wrs : List Wr) {k : Nat} (h : k ∈ heart ws wrs) : k < wrs.length := standing_lt ws wrs (List.mem_filter.mp h).1
theorem heart_len (ws : Ws) (wrs : List Wr) : (heart ws wrs).length ≤ wrs.length := Nat.le_trans (List.length_filter_le _ _) (standing_len ws wrs)
/-- the writings at those places -/
def atAll (wrs : List Wr) (l : List Nat) : List Wr := l.filterMap fun k => wrs[k]?
theorem atAll_map (wrs : List Wr) : ∀ l : List Nat, (∀ k ∈ l, k < wrs.length) → (l.map fun k => match wrs[k]? with | some w => wrP w | none => .none) = (atAll wrs l).map wrP
  | [], _ => rfl
  | k :: l, h => by
    have hk := h k (by simp)
    have ih := atAll_map wrs l fun j hj => h j (List.mem_cons_of_mem _ hj)
    unfold atAll at ih ⊢
    rw [List.filterMap_cons_some (List.getElem?_eq_getElem hk), List.map_cons, List.map_cons, ih, List.getElem?_eq_getElem hk]
def firstSet : List Wr → Bool
  | w :: _ => PyData.eqv (.str w.2.2.1) (.str "set")
  | [] => false
def rowVal (ws : Ws) (b : Int) (wrs : List Wr) : Int := (if firstSet (atAll wrs (heart ws wrs)) then 0 else b) + ((atAll wrs (heart ws wrs)).map fun w => w.2.2.2.1).sum
theorem allI_vals : ∀ l : List Wr, allI (l.map fun w => PyData.int w.2.2.2.1) = some (l.map fun w => w.2.2.2.1)
  | [] => rfl
  | w :: l => by
    show (allI (l.map fun w => PyData.int w.2.2.2.1)).map _ = _
    rw [allI_vals l]
    rfl
theorem plain_bl : ∀ bs : Bl_, PyData.plainAll (bs.map bP) = true
  | [] => rfl
  | b :: bs => by rw [List.map_cons, PyData.plainAll, plain_bl bs]; simp [bP, nmP, PyData.plain, PyData.plainAll]
theorem depth_bl : ∀ bs : Bl_, PyData.depthAll (bs.map bP) ≤ 3
  | [] => by rw [List.map_nil, PyData.depthAll]; omega
  | b :: bs => by
    have := depth_bl bs
    rw [List.map_cons, PyData.depthAll]; simp only [bP, nmP, PyData.depth, PyData.depthAll]
    omega
theorem plain_wr : ∀ l : List Wr, PyData.plainAll (l.map wrP) = true
  | [] => rfl
  | w :: l => by rw [List.map_cons, PyData.plainAll, plain_wr l]; simp [wrP, blP, nmP, PyData.plain, PyData.plainAll, plain_bl]
theorem depth_wr : ∀ l : List Wr, PyData.depthAll (l.map wrP) ≤ 10
  | [] => by rw [List.map_nil, PyData.depthAll]; omega
  | w :: l => by
    have := depth_wr l
    have := depth_bl w.2.2.2.2
    rw [List.map_cons, PyData.depthAll]; simp only [wrP, blP, nmP, PyData.depth, PyData.depthAll]
    omega
theorem ok_wrs (l : List Wr) : okD (.list (l.map wrP)) = true := by
  have := depth_wr l
  simp [okD, PyData.plain, PyData.depth, plain_wr]
  omega
end K5

set_option linter.all false
set_option autoImplicit false
namespace K5
open PySem Fp L2
theorem plain_strs : ∀ l : List Str, PyData.plainAll (l.map PyData.str) = true
  | [] => rfl
  | x :: l => by rw [List.map_cons, PyData.plainAll, plain_strs l]; simp [PyData.plain]
theorem depth_strs : ∀ l : List Str, PyData.depthAll (l.map PyData.str) ≤ 1
  | [] => Nat.zero_le _
  | x :: l => by
    have ih := depth_strs l
    simp only [PyData.depth, List.map_cons, PyData.depthAll]; omega
theorem ok_strs (l : List Str) : okD (.list (l.map PyData.str)) = true := by
  have h1 := depth_strs l
  have h2 := plain_strs l
  simp [okD, PyData.plain, PyData.depth, h2]
  omega
/-- the first of them, or nothing -/
def firstW : List Str → PyData
  | x :: _ => .str x
  | [] => .none
/-- the words that stand for a name -/
def wordsOf (ws : Ws) (n : Nm) : List Str := (ws.filter fun w => decide (w.1 = n)).map (·.2)
theorem lw_words (ws : Ws) (n : Nm) : lw ws n = firstW (wordsOf ws n) := by
  unfold lw wordsOf
  rw [← List.head?_filter]
  cases ws.filter fun w => decide (w.1 = n) <;> rfl
end K5

set_option linter.all false
set_option autoImplicit false
namespace K5
open PySem Fp L2
theorem plain_nms : ∀ l : List Nm, PyData.plainAll (l.map nmP) = true
  | [] => rfl
  | x :: l => by rw [List.map_cons, PyData.plainAll, plain_nms l]; simp [nmP, PyData.plain, PyData.plainAll]
theorem depth_nms : ∀ l : List Nm, PyData.depthAll (l.map nmP) ≤ 2
  | [] => Nat.zero_le _
  | x :: l => by
    have ih := depth_nms l
    simp only [List.map_cons, nmP, PyData.depthAll, PyData.depth]
    omega
theorem ok_nms (l : List Nm) : okD (.list (l.map nmP)) = true := by
  have h1 := depth_nms l
  have h2 := plain_nms l
  simp [okD, PyData.plain, PyData.depth, h2]
  omega
theorem nms_empty (l : List Nm) : PyData.eqv (.list (l.map nmP)) (.list []) = l.isEmpty := by
  cases l <;> simp [PyData.eqv, PyData.eqvAll]
/-- [own for own in every if ..] -/
theorem names_comp {ρ : Slots} {S : Store} {ns : List Nm} {fe : M D} {c : M Bool} {m : Nat} {q : Nm → Bool} (hm : m < ρ.length) (few : ns.length ≤ 1000) (src : fe ρ S = .ok (.p (.list (ns.map nmP))) S)
    (hc : ∀ n ∈ ns, ∀ acc, c ((wipeD ρ [m]).set m (some (.p (nmP n)))) (S ++ [.lst acc]) = .ok (q n) (S ++ [.lst acc])) :
    eComp false (iSeq fe) (tName m) c (eVar m) [m] ρ S = .ok (.p (.list ((ns.filter q).map nmP))) S := by
  have hl : 1000 ≤ sizeLine := by rw [sizeLine_eq]; decide
  have key := comp_stays (fi := iSeq fe) (t := tName m) (c := c) (fe := eVar m) (vs := [m]) (xs := (ns.map nmP).map D.p) (ρ := ρ) (S0 := S) (S := S) (p := fun d => match d with | .p (.tuple [.str a, .int b]) => q (a, b) | _ => false)
    (g := fun d => match d with | .p y => y | _ => .none) ?_ (walk_P _) (by simp; omega) ?_
  · rw [key, List.map_map, List.filter_map, List.map_map]
    rfl
  · show (fe ρ S).bind (fun a S' => .of S' (iterOf a S')) = _
    rw [src]
    rfl
  · intro d hd acc
    rw [List.map_map] at hd
    obtain ⟨n, hn, rfl⟩ := List.mem_map.mp hd
    refine ⟨_, tName_own hm, hc n hn acc, fun _ => ?_⟩
    simp only [eVar, blk_own hm, Function.comp]
end K5

set_option linter.all false
set_option autoImplicit false
namespace K5
open PySem Fp L2
/-- the names that are taken, as the law's dict -/
def hitsP (l : List Nm) : List (PyData × PyData) := l.map fun n => (nmP n, .bool true)
theorem keyT_nm (n : Nm) : keyT (nmP n) = true := by
  simp [keyT, nmP, isTupD, nkey, nkeys, PyData.depth, PyData.depthAll]
theorem dset_new : ∀ (l : List Nm) (n : Nm), n ∉ l → dset (hitsP l) (nmP n) (.bool true) = hitsP (l ++ [n]) := fun l n h => by
  have : ((hitsP l).any fun kv => PyData.eqv kv.1 (nmP n)) = false := by
    rw [List.any_eq_false]
    intro kv hkv
    obtain ⟨m, hm, rfl⟩ := List.mem_map.mp hkv
    rw [nm_eqv]
    simp
    exact fun z => h (z ▸ hm)
  unfold dset
  rw [if_neg (by rw [this]; decide)]
  simp [hitsP]
theorem dsets_new : ∀ (l acc : List Nm), (acc ++ l).Nodup → dsets (hitsP l) (hitsP acc) = hitsP (acc ++ l)
  | [], acc, _ => by simp [dsets, hitsP]
  | n :: l, acc, h => by
    have h1 : n ∉ acc := by
      rw [List.nodup_append] at h
      exact fun z => h.2.2 n z n (by simp) rfl
    show dsets (hitsP l) (dset (hitsP acc) (nmP n) (.bool true)) = _
    rw [dset_new acc n h1, dsets_new l (acc ++ [n]) (by simpa using h)]
    simp
theorem pairs_hits : ∀ l : List Nm, pairsOf (l.map fun n => .tuple [nmP n, .bool true]) = some (hitsP l)
  | [] => rfl
  | n :: l => by
    show (pairsOf (l.map fun n => .tuple [nmP n, .bool true])).map _ = _
    rw [pairs_hits l]
    rfl
theorem dict_hits (l : List Nm) (nd : l.Nodup) (S : Store) : gDictOf [.p (.list (l.map fun n => .tuple [nmP n, .bool true]))] S = some (hitsP l) := by
  have all : ((hitsP l).all fun kv => keyT kv.1) = true := by
    rw [List.all_eq_true]
    intro kv hkv
    obtain ⟨m, _, rfl⟩ := List.mem_map.mp hkv
    exact keyT_nm m
  have ds := dsets_new l [] (by simpa using nd)
  simp only [gDictOf, viewL, viewW, Option.bind_some, pairs_hits, all, Bool.or_true, if_true]
  exact congrArg some ds
end K5
namespace K5
open PySem Fp L2
theorem in_hits (neg : Bool) (l : List Nm) (n : Nm) (S : Store) : bIn neg (.p (nmP n)) (.p (.dict (hitsP l))) S = some (xor neg (decide (n ∈ l))) := by
  have ok : keyOk (hitsP l) (nmP n) = true := by
    have all : ((hitsP l).all fun kv => isTupD kv.1 && (nkey kv.1).isSome) = true := by
      rw [List.all_eq_true]
      intro kv hkv
      obtain ⟨m, _, rfl⟩ := List.mem_map.mp hkv
      simp [nmP, isTupD, nkey, nkeys]
    have k := keyT_nm n
    unfold keyT at k
    simp only [keyOk, all, k, Bool.and_true, Bool.or_true]
  have get : (dget (hitsP l) (nmP n)).isSome = decide (n ∈ l) := by
    unfold dget hitsP
    rw [Option.isSome_map, Bool.eq_iff_iff, List.find?_isSome]
    constructor
    · rintro ⟨kv, hkv, e⟩
      obtain ⟨m, hm, rfl⟩ := List.mem_map.mp hkv
      rw [nm_eqv] at e
      exact decide_eq_true (of_decide_eq_true e ▸ hm)
    · intro e
      exact ⟨_, List.mem_map.mpr ⟨n, of_decide_eq_true e, rfl⟩, by rw [nm_eqv]; exact decide_eq_true rfl⟩
  simp only [bIn, view, ok, if_true, get]
end K5

set_option linter.all false
set_option autoImplicit false
namespace K5
open PySem Fp
set_option maxRecDepth 10000
/-- words whose texts are short -/
def wsOk (ws : Ws) : Prop := ∀ w ∈ ws, shortS w.2 = true
theorem lw_tame {ws : Ws} (h : wsOk ws) (n : Nm) : Tame 0 202 (lw ws n) := by
  unfold lw
  cases e : ws.find? fun w => decide (w.1 = n) with
  | none => exact tame_none.mono (Nat.le_refl _) (by decide)
  | some w => exact tame_str (h w (List.mem_of_find?_eq_some e))
end K5

set_option linter.all false
set_option autoImplicit false
namespace K5
open PySem Fp
set_option maxRecDepth 100000
set_option maxHeartbeats 2100000
@[simp] theorem ix_row0 (b : Int) (wrs : List Wr) (S : Store) : gIx (.p (rowP b wrs)) (.p (.int 0)) S = some (.p (.int b)) := id rfl
@[simp] theorem ix_row1 (b : Int) (wrs : List Wr) (S : Store) : gIx (.p (rowP b wrs)) (.p (.int 1)) S = some (.p (.tuple (wrs.map wrP))) := id rfl
@[simp] theorem ix_wr0 (w : Wr) (S : Store) : gIx (.p (wrP w)) (.p (.int 0)) S = some (.p (nmP w.1)) := id rfl
@[simp] theorem ix_wr2 (w : Wr) (S : Store) : gIx (.p (wrP w)) (.p (.int 2)) S = some (.p (.str w.2.2.1)) := id rfl
@[simp] theorem ix_wr3 (w : Wr) (S : Store) : gIx (.p (wrP w)) (.p (.int 3)) S = some (.p (.int w.2.2.2.1)) := id rfl
@[simp] theorem ix_wr4 (w : Wr) (S : Store) : gIx (.p (wrP w)) (.p (.int 4)) S = some (.p (blP w.2.2.2.2)) := id rfl
@[simp] theorem ix_b0 (w : Nm × Str) (S : Store) : gIx (.p (bP w)) (.p (.int 0)) S = some (.p (nmP w.1)) := id rfl
theorem ix_at {α : Type} (xs : List α) (f : α → PyData) {k : Nat} (h : k < xs.length) (S : Store) : gIx (.p (.tuple (xs.map f))) (.p (.int (k : Nat))) S = some (.p (f xs[k])) := by
  rw [v_ixT, atI_nat (xs.map f) (by simpa using h)]; simp
theorem ix_hd (xs : List PyData) (x : PyData) (S : Store) : gIx (.p (.list (x :: xs))) (.p (.int 0)) S = some (.p x) := by
  rw [v_ixL]; exact congrArg (Option.map D.p) (atI_nat (x :: xs) (k := 0) (by simp))
@[simp] theorem it_bl (l : Bl_) (S : Store) : iterOf (.p (blP l)) S = some (itP (l.map bP)) := id rfl
/-- the names that are taken -/
def hitsOf (ws : Ws) : List Nm := (ws.filter fun w => decide (w.2 = Str.ofString "taken")).map (·.1)
theorem has_hits {ws : Ws} (nd : (ws.map (·.1)).Nodup) (n : Nm) : has ws n "taken" = decide (n ∈ hitsOf ws) := by
  unfold has lw hitsOf
  induction ws with
  | nil => simp [PyData.eqv]
  | cons w ws ih =>
    rw [List.map_cons, List.nodup_cons] at nd; have ih := ih nd.2
    by_cases h : w.1 = n
    · have out : ∀ x, (n, x) ∉ ws := fun x z => nd.1 (List.mem_map.mpr ⟨(n, x), z, h.symm⟩)
      by_cases h2 : w.2 = Str.ofString "taken" <;> simp [List.find?, h, h2, out]
    · by_cases h2 : w.2 = Str.ofString "taken"
      · simp [List.find?, h, h2] at ih ⊢
        rw [ih]
        simp [show ¬ n = w.1 from fun z => h z.symm]
      · simp [List.find?, h, h2] at ih ⊢
        rw [ih]
theorem hits_nodup {ws : Ws} (nd : (ws.map (·.1)).Nodup) : (hitsOf ws).Nodup := by
  unfold hitsOf
  exact (List.filter_sublist.map _).nodup nd
theorem stands_hits {ws : Ws} (nd : (ws.map (·.1)).Nodup) (w : Wr) : stands ws w = (!decide (w.1 ∈ hitsOf ws) && (w.2.2.2.2.filter fun b => decide (b.1 ∈ hitsOf ws)).isEmpty) := by
  unfold stands fallen
  simp only [List.any_cons, has_hits nd, Bool.not_or, List.any_map, Function.comp_def]
  congr 1
  generalize w.2.2.2.2 = l
  induction l with
  | nil => rfl
  | cons b l ih =>
    by_cases h : b.1 ∈ hitsOf ws
    · simp [h]
    · simp only [List.any_cons, h, decide_false, Bool.false_or, ih, List.filter_cons_of_neg, Bool.false_eq_true, not_false_eq_true]
/-- the last set among them -/
def setsOf (wrs : List Wr) (l : List Nat) : List Nat := match (l.filter (sortIs wrs)).getLast? with
  | some k => [k]
  | none => []
theorem setsOf_snoc (wrs : List Wr) (l : List Nat) (k : Nat) : setsOf wrs (l ++ [k]) = if sortIs wrs k then [k] else setsOf wrs l := by
  unfold setsOf
  rw [List.filter_append]
  by_cases h : sortIs wrs k = true
  · simp [h]
  · simp [h]
theorem bl_tame_ok (l : Bl_) : okD (.list (l.map bP)) = true := by
  have h1 := plain_bl l
  have h2 := depth_bl l
  simp [okD, PyData.plain, PyData.depth, h1]
  omega
theorem nats_ok (l : List Nat) : okD (.list (natsP l)) = true := by
  have h1 : PyData.plainAll (natsP l) = true := all_plain fun x hx => by obtain ⟨k, _, rfl⟩ := List.mem_map.mp hx; rfl
  have h2 : PyData.depthAll (natsP l) ≤ 0 := all_depth fun x hx => by obtain ⟨k, _, rfl⟩ := List.mem_map.mp hx; exact Nat.le_refl _
  simp [okD, PyData.plain, PyData.depth, h1]
  omega
theorem empty_eqv (l : List PyData) : PyData.eqv (.list l) (.list []) = l.isEmpty := by cases l <;> simp [PyData.eqv, PyData.eqvAll]
theorem ok_nil : okD (.list []) = true := rfl
theorem standing_up (ws : Ws) (wrs : List Wr) : (standing ws wrs).Pairwise (· < ·) := by
  unfold standing
  have h : (wrs.zipIdx).Pairwise (fun x y => x.2 < y.2) := by
    rw [List.pairwise_iff_getElem]; intro i j hi hj hij
    simpa using hij
  exact List.pairwise_map.mpr (h.sublist List.filter_sublist)
theorem maxL_last : ∀ (n : Nat) (r : List Nat), (n :: r).Pairwise (· < ·) → maxL (n : Int) (r.map fun (k : Nat) => (k : Int)) = (((n :: r).getLast (by simp) : Nat) : Int)
  | n, [], _ => rfl
  | n, x :: r, h => by
    have h1 : n < x := (List.pairwise_cons.mp h).1 x (by simp)
    show maxL (if (n : Int) < (x : Int) then (x : Int) else n) (r.map fun (k : Nat) => (k : Int)) = _
    rw [if_pos (by omega), maxL_last x r (List.pairwise_cons.mp h).2]
    rfl
theorem begin_sets (wrs : List Wr) (l : List Nat) (up : l.Pairwise (· < ·)) : (setsOf wrs l = [] ∧ beginOf (l.filter (sortIs wrs)) = 0) ∨ ∃ k : Nat, setsOf wrs l = [k] ∧ beginOf (l.filter (sortIs wrs)) = (k : Int) := by
  have up2 := up.sublist (List.filter_sublist (p := sortIs wrs))
  unfold setsOf beginOf
  cases e : l.filter (sortIs wrs) with
  | nil => refine .inl ⟨rfl, ?_⟩; rfl
  | cons n r =>
    rw [e] at up2
    refine .inr ⟨(n :: r).getLast (by simp), ?_, ?_⟩
    · rw [List.getLast?_eq_some_getLast (by simp)]
    · exact maxL_last n r up2
end K5

set_option linter.all false
set_option autoImplicit false
namespace K5
open PySem Fp
set_option maxRecDepth 100000
set_option maxHeartbeats 2100000
/-- what a row comes to, going by the places -/
def goVal (wrs : List Wr) (t : Int) (l : List Nat) : Int := l.foldl (fun t k => match wrs[k]? with | some w => if w.2.2.1 = Str.ofString "set" then w.2.2.2.1 else t + w.2.2.2.1 | none => t) t
end K5

set_option linter.all false
set_option autoImplicit false
namespace K5
open PySem Fp
set_option maxRecDepth 100000
set_option maxHeartbeats 2100000
def vals_ (wrs : List Wr) (l : List Nat) : Int := ((atAll wrs l).map fun w => w.2.2.2.1).sum
theorem sortIs_iff (wrs : List Wr) {k : Nat} (h : k < wrs.length) : sortIs wrs k = decide (wrs[k].2.2.1 = Str.ofString "set") := by simp [sortIs, h]
theorem go_add (wrs : List Wr) : ∀ (l : List Nat) (t : Int), (∀ k ∈ l, k < wrs.length ∧ sortIs wrs k = false) → goVal wrs t l = t + vals_ wrs l
  | [], t, _ => by simp [goVal, vals_, atAll]
  | k :: l, t, h => by
    obtain ⟨h1, h2⟩ := h k (by simp)
    rw [sortIs_iff wrs h1] at h2
    have ih := go_add wrs l (t + wrs[k].2.2.2.1) fun j hj => h j (by simp [hj])
    have e : goVal wrs t (k :: l) = goVal wrs (t + wrs[k].2.2.2.1) l := by
      unfold goVal
      rw [List.foldl_cons]
      simp only [List.getElem?_eq_getElem h1, if_neg (of_decide_eq_false h2)]
    rw [e, ih]
    unfold vals_ atAll
    rw [List.filterMap_cons_some (List.getElem?_eq_getElem h1), List.map_cons, List.sum_cons]
    exact Int.add_assoc _ _ _
theorem go_heart (ws : Ws) (b : Int) (wrs : List Wr) : goVal wrs b (heart ws wrs) = rowVal ws b wrs := by
  have up := standing_up ws wrs
  have lt : ∀ k ∈ standing ws wrs, k < wrs.length := fun k hk => standing_lt ws wrs hk
  have upf := up.sublist (List.filter_sublist (p := sortIs wrs))
  unfold rowVal
  rcases begin_sets wrs (standing ws wrs) up with ⟨e1, e2⟩ | ⟨m, e1, e2⟩
  · -- no set stands
    have none_ : ∀ k ∈ standing ws wrs, sortIs wrs k = false := fun k hk => by
      cases c : sortIs wrs k with
      | false => rfl
      | true =>
        have : k ∈ (standing ws wrs).filter (sortIs wrs) := List.mem_filter.mpr ⟨hk, c⟩
        unfold setsOf at e1
        cases e : ((standing ws wrs).filter (sortIs wrs)).getLast? with
        | none => rw [List.getLast?_eq_none_iff] at e; rw [e] at this; cases this
        | some x => rw [e] at e1; cases e1
    have hh : ∀ k ∈ heart ws wrs, k < wrs.length ∧ sortIs wrs k = false := fun k hk => ⟨heart_lt ws wrs hk, none_ k (List.mem_filter.mp hk).1⟩
    rw [go_add wrs _ b hh]
    have fs : firstSet (atAll wrs (heart ws wrs)) = false := by
      cases e : heart ws wrs with
      | nil => rfl
      | cons k r =>
        obtain ⟨h1, h2⟩ := hh k (by rw [e]; simp)
        unfold atAll
        rw [List.filterMap_cons_some (List.getElem?_eq_getElem h1)]
        rw [sortIs_iff wrs h1] at h2
        simpa [firstSet] using h2
    rw [fs]
    rfl
  · -- m is the last that stands
    have mlast : m ∈ (standing ws wrs).filter (sortIs wrs) ∧ ∀ k ∈ (standing ws wrs).filter (sortIs wrs), k ≤ m := by
      unfold setsOf at e1
      cases e : ((standing ws wrs).filter (sortIs wrs)).getLast? with
      | none => rw [e] at e1; cases e1
      | some x =>
        rw [e] at e1
        obtain rfl : x = m := by simpa using e1
        obtain ⟨l', hl'⟩ := List.getLast?_eq_some_iff.mp e
        rw [hl'] at upf ⊢
        refine ⟨by simp, fun k hk => ?_⟩
        rcases List.mem_append.mp hk with z | z
        · exact Nat.le_of_lt ((List.pairwise_append.mp upf).2.2 k z x (by simp))
        · rw [List.mem_singleton.mp z]; exact Nat.le_refl _
    obtain ⟨ms, mset⟩ := List.mem_filter.mp mlast.1
    have hmem : ∀ k, k ∈ heart ws wrs ↔ k ∈ standing ws wrs ∧ m ≤ k := fun k => by
      unfold heart
      rw [e2, List.mem_filter]
      simp
    have mh : m ∈ heart ws wrs := (hmem m).mpr ⟨ms, Nat.le_refl _⟩
    have uph : (heart ws wrs).Pairwise (· < ·) := up.sublist List.filter_sublist
    cases e : heart ws wrs with
    | nil => rw [e] at mh; cases mh
    | cons k r =>
      rw [e] at mh uph hmem
      have km : k = m := by
        have h1 := ((hmem k).mp (by simp)).2
        rcases List.mem_cons.mp mh with z | z
        · exact z.symm
        · have := (List.pairwise_cons.mp uph).1 m z; omega
      subst km
      have kl := lt k ms
      have hr : ∀ j ∈ r, j < wrs.length ∧ sortIs wrs j = false := fun j hj => by
        have h1 := (List.pairwise_cons.mp uph).1 j hj
        have h2 := ((hmem j).mp (by simp [hj])).1
        refine ⟨lt j h2, ?_⟩
        cases c : sortIs wrs j with
        | false => rfl
        | true => have := mlast.2 j (List.mem_filter.mpr ⟨h2, c⟩); omega
      rw [sortIs_iff wrs kl, decide_eq_true_eq] at mset
      have g1 : goVal wrs b (k :: r) = goVal wrs wrs[k].2.2.2.1 r := by
        unfold goVal
        rw [List.foldl_cons]
        simp only [List.getElem?_eq_getElem kl, if_pos mset]
      rw [g1, go_add wrs r _ hr]
      unfold vals_
      have ea : atAll wrs (k :: r) = wrs[k] :: atAll wrs r := by
        unfold atAll; rw [List.filterMap_cons_some (List.getElem?_eq_getElem kl)]
      rw [ea]
      have fs : firstSet (wrs[k] :: atAll wrs r) = true := by simp [firstSet, mset]
      rw [fs]
      simp
end K5

set_option linter.all false
set_option autoImplicit false
namespace K5
open PySem Fp
set_option maxRecDepth 100000
set_option maxHeartbeats 2100000
theorem tame_nats {l : List Nat} {n : Nat} (h : ∀ k ∈ l, k < 1000) (hl : l.length ≤ n) : Tame 1 (103 * n + 3) (.tuple (natsP l)) := by
  refine (tame_tuple (k := 0) (c := 101) fun x hx => ?_).mono (Nat.le_refl _) ?_
  · obtain ⟨k, hk, rfl⟩ := List.mem_map.mp hx
    have := h k hk
    refine tame_int ?_
    rw [Int.natAbs_natCast]
    exact Nat.lt_trans this (by decide +kernel)
  · have : (natsP l).length = l.length := by simp [natsP]
    rw [this]; omega
end K5

set_option linter.all false
set_option autoImplicit false
namespace K5
open PySem Fp
set_option maxRecDepth 100000
set_option maxHeartbeats 2100000
def mix1 (v n : Int) : Int := (v % 1000000409 + 110017 * n + 97) % 2147483563
def mix2 (v n : Int) : Int := (mix1 v n * mix1 v n + 3316247 * n + 89) % 2147483549
def mix3 (v n : Int) : Int := (mix2 v n * mix2 v n + 67 * mix2 v n) % 2147483543 / 16
theorem draw_is (c : List Int) (a l n many : Int) (h0 : 0 < many) (h1 : many < 1073741824) (T : Store) : ∃ r a' l' n', 0 ≤ r ∧ r < many ∧ fx__law_draw [.loc 0, .p (.int many)] (fd c a l n :: T) = .ok (.p (.int r)) (fd c a' l' n' :: T) := by
  have rng : ∀ x : Int, 0 ≤ x % many ∧ x % many < many := fun x => ⟨Int.emod_nonneg x (by omega), Int.emod_lt_of_pos x h0⟩
  have lv : ∀ (x : PyData) (S : Store), leave false (T.length + 1) (.rt (.p x) (fd c a l n :: T)) = .ok (.p x) (fd c a l n :: T) := fun x S => by simp
  by_cases hl : 0 < l
  · refine ⟨l % many, a, l / many, n + 1, (rng l).1, (rng l).2, ?_⟩
    unfold fx__law_draw m__law_draw
    simp [v_fx, List.replicate, cmp_gt, hl, v_mod _ h0, v_div _ h0 h1]
  · have mc : ∀ (k x : Int) (S : Store), -(2 ^ 64) < k → k < 2 ^ 64 → gMul (.p (.int k)) (.p (.int x)) S = some (.p (.int (k * x))) := fun k x S h1 h2 => v_mul S (.inl ⟨h1, h2⟩)
    have m1 := fun x S => mc 110017 x S (by decide) (by decide)
    have m2 := fun x S => mc 3316247 x S (by decide) (by decide)
    have m3 := fun x S => mc 67 x S (by decide) (by decide)
    have mm : ∀ (q x y : Int) (S : Store), 0 < q → q < 2 ^ 64 → gMul (.p (.int (x % q))) (.p (.int y)) S = some (.p (.int (x % q * y))) := fun q x y S h1 h2 => by
      have := Int.emod_nonneg x (show q ≠ 0 by omega)
      have := Int.emod_lt_of_pos x h1
      exact mc _ y S (by omega) (by omega)
    have q1 := fun x y S => mm 2147483563 x y S (by decide) (by decide)
    have q2 := fun x y S => mm 2147483549 x y S (by decide) (by decide)
    have e1 := fun x S => v_mod (i := x) S (show (0 : Int) < 1000000409 by decide)
    have e2 := fun x S => v_mod (i := x) S (show (0 : Int) < 2147483563 by decide)
    have e3 := fun x S => v_mod (i := x) S (show (0 : Int) < 2147483549 by decide)
    have e4 := fun x S => v_mod (i := x) S (show (0 : Int) < 2147483543 by decide)
    have e5 := fun x S => v_div (i := x) S (show (0 : Int) < 16 by decide) (by decide)
    have pw : ∀ S, gPow (.p (.int 10)) (.p (.int 18)) S = some (.p (.int 1000000000000000000)) := fun S => v_pow S (by decide) (by decide) (by decide)
    have ne := fun S => cmp_ne S (ints_ok c) nil_ok
    by_cases hc : c = []
    · subst hc
      refine ⟨mix3 41 (n + 1) % many, a + 1, l, n + 1, (rng _).1, (rng _).2, ?_⟩
      unfold fx__law_draw m__law_draw mix3 mix2 mix1
      simp [v_fx, List.replicate, cmp_gt, hl, v_mod _ h0, v_div _ h0 h1, cmp_ne _ nil_ok nil_ok, nil_eqv, pw, cmp_ge, m1, m2, m3, q1, q2, e1, e2, e3, e4, e5]
    · obtain ⟨v, hv⟩ := ix_mod hc a []
      rw [v_ixL] at hv
      have ml := fun S => v_mod (i := a) S (show (0 : Int) < (c.length : Int) by cases c with | nil => exact absurd rfl hc | cons x r => simp only [List.length_cons]; omega)
      by_cases big : 1000000000000000000 ≤ v ∧ a < (c.length : Int)
      · refine ⟨v % many, a + 1, v / many, n + 1, (rng v).1, (rng v).2, ?_⟩
        unfold fx__law_draw m__law_draw
        simp [v_fx, List.replicate, cmp_gt, hl, v_mod _ h0, v_div _ h0 h1, ne, nil_eqv, hc, pw, cmp_ge, cmp_lt, ml, hv, big.1, big.2]
      · refine ⟨mix3 v (n + 1) % many, a + 1, l, n + 1, (rng _).1, (rng _).2, ?_⟩
        unfold fx__law_draw m__law_draw mix3 mix2 mix1
        simp [v_fx, List.replicate, cmp_gt, hl, v_mod _ h0, v_div _ h0 h1, ne, nil_eqv, hc, pw, cmp_ge, cmp_lt, ml, hv]
        by_cases b1 : 1000000000000000000 ≤ v
        · have b2 : ¬ a < (c.length : Int) := fun z => big ⟨b1, z⟩
          simp [b1, b2, m1, m2, m3, q1, q2, e1, e2, e3, e4, e5, v_mod _ h0]
        · simp [b1, m1, m2, m3, q1, q2, e1, e2, e3, e4, e5, v_mod _ h0]
end K5

set_option linter.all false
set_option autoImplicit false
namespace K5
open PySem Fp
set_option maxRecDepth 100000
set_option maxHeartbeats 2100000
theorem feed_is (zs : List Int) (h : zs.length ≤ 63) : fx__law_feed [.ro (zs.map .int)] [] = .ok (.loc 0) [fd zs 0 0 0] := by
  have cut : cutD (zs.map PyData.int) none (some 63) = zs.map .int := by
    refine cutD_all rfl ?_
    simp [HT.sIx]
    omega
  unfold fx__law_feed m__law_feed
  simp [v_fx, eDict, pairsM, partD, gSl, viewL, cut, Bl.g, gListOf, itemsD]
  simp [dictData, pkey, frz, endD, leave, leaveV, dsets, dset, fd, feedP]
/-- a name that is written in few signs -/
def nmOk (n : Nm) : Prop := shortS n.1 = true ∧ n.2.natAbs < 10 ^ 100
abbrev PEnt := Nm × Str × Bl_ × List Nm
def peP (e : PEnt) : PyData := .tuple [nmP e.1, .str e.2.1, blP e.2.2.1, .tuple (e.2.2.2.map nmP)]
@[simp] theorem ix_pe0 (e : PEnt) (S : Store) : gIx (.p (peP e)) (.p (.int 0)) S = some (.p (nmP e.1)) := id rfl
@[simp] theorem ix_pe1 (e : PEnt) (S : Store) : gIx (.p (peP e)) (.p (.int 1)) S = some (.p (.str e.2.1)) := id rfl
@[simp] theorem ix_pe2 (e : PEnt) (S : Store) : gIx (.p (peP e)) (.p (.int 2)) S = some (.p (blP e.2.2.1)) := id rfl
theorem nm_alike (a b : Nm) : PySem.W.alike (nmP a) (nmP b) = true := by simp [nmP, PySem.W.alike, PySem.W.alikeAll]
theorem sort_ok_map {α : Type} (f : α → PyData) (l : List α) (hl : l.length ≤ 1000) (h1 : ∀ x ∈ l, okD (f x) = true) (h2 : ∀ x ∈ l, ∀ y ∈ l, PySem.W.alike (f x) (f y) = true) (h3 : ∀ x ∈ l, ∃ y r, f x = .tuple (y :: r)) : sortOk (l.map f) = true := by
  simp only [sortOk, Bool.and_eq_true, decide_eq_true_eq, List.all_eq_true, Bool.or_eq_true, List.length_map]
  refine ⟨⟨by rw [sizeLine_eq]; omega, fun d hd => ?_⟩, .inl fun d hd => ?_⟩
  · obtain ⟨x, hx, rfl⟩ := List.mem_map.mp hd
    exact ⟨h1 x hx, fun e he => by obtain ⟨y, hy, rfl⟩ := List.mem_map.mp he; exact h2 x hx y hy⟩
  · obtain ⟨x, hx, rfl⟩ := List.mem_map.mp hd
    obtain ⟨y, r, e⟩ := h3 x hx
    rw [e]
theorem sortP_map {α : Type} (f : α → PyData) (l : List α) : ∃ v : List α, v.Perm l ∧ sortP (l.map f) = v.map f := by
  obtain ⟨v, p, e⟩ := perm_of_map (f := f) (L := l) (m := sortP (l.map f)) (List.mergeSort_perm _ _).symm
  exact ⟨v, p, e⟩
theorem sort_nm (l : List Nm) (hl : l.length ≤ 1000) : ∃ v : List Nm, v.Perm l ∧ ∀ S, Bl.g .sorted [.p (.list (l.map nmP))] S = some (v.map nmP) := by
  obtain ⟨v, p, e⟩ := sortP_map nmP l
  refine ⟨v, p, fun S => ?_⟩
  have ok := sort_ok_map nmP l hl (fun x _ => nm_ok x) (fun x _ y _ => nm_alike x y) fun x _ => ⟨_, _, rfl⟩
  show (viewL S (.p (.list (l.map nmP)))).bind (fun xs => if sortOk xs then some (sortP xs) else none) = _
  simp [ok, e]
/-- what is true of drawn words -/
structure WsG (names : List Nm) (ws : Ws) : Prop where
  sub : (ws.map (·.1)).Sublist names
  ok : wsOk ws
def LastOk (names : List Nm) (c : List Int) (T : Store) (o : Out D) : Prop := ∃ ws v a l n, v.Perm names ∧ WsG v ws ∧ o = .ok (.p (wsP ws)) (fd c a l n :: T)
theorem short_settled : shortS (Str.ofString "settled") = true := by decide +kernel
theorem short_taken : shortS (Str.ofString "taken") = true := by decide +kernel
theorem last_is (fs : List PEnt) (hf : fs.length ≤ 20) (c : List Int) (a l n many : Int) (h0 : 0 < many) (h1 : many < 1073741824) (T : Store) :
    LastOk (fs.map (·.1) ++ [(Str.ofString "a", 0), (Str.ofString "oak", 20)]) c T (fx__law_last [.loc 0, .p (.list (fs.map peP)), .p (.int many)] (fd c a l n :: T)) := by
  unfold fx__law_last m__law_last
  simp [v_fx, List.replicate]
  generalize hN : fs.map (·.1) ++ [(Str.ofString "a", (0 : Int)), (Str.ofString "oak", 20)] = names
  have hlen : names.length ≤ 1000 := by rw [← hN]; simp; omega
  obtain ⟨v, pv, hs⟩ := sort_nm names hlen
  refine for_leaveP (LastOk names c T) v (fun x => .p (nmP x)) (fun done ρ S' => ∃ ws a l n a4 a5 a6, WsG done ws ∧ S' = fd c a l n :: (T ++ [.lst (ws.map wP)]) ∧ ρ = [some (.loc 0), some (.p (.list (fs.map peP))), some (.p (.int many)), some (.loc (T.length + 1)), a4, a5, a6]) (a := itP (v.map nmP)) (S := fd c a l n :: (T ++ [.lst []])) ?s1 ?w1 ?f1 ?t1 ?l1
  case s1 =>
    simp
    rw [comp_rule (l := fs) (e := fun x => .p (peP x)) (p := fun _ => true) (g := fun x => nmP x.1) (a := itP (fs.map peP))]
    rotate_left
    · simp
    · have := walk_P (fs.map peP)
      rw [List.map_map] at this
      exact this.c _
    · rw [sizeLine_eq]; omega
    · intro x hx acc
      simp [v_wipeS, v_wipe0]
    have e2 : (fs.filter fun _ => true).map (fun x => nmP x.1) ++ [.tuple [.str (Str.ofString "a"), .int 0], .tuple [.str (Str.ofString "oak"), .int 20]] = names.map nmP := by
      rw [← hN, List.filter_eq_self.mpr (fun _ _ => rfl)]
      simp [nmP]
    have e3 : ((fs.filter fun _ => true).map (fun x => nmP x.1)).length + 2 ≤ sizeLine := by
      rw [sizeLine_eq, List.filter_eq_self.mpr (fun _ _ => rfl)]; simp; omega
    simp only [v_bind, v_addL, List.length_cons, List.length_nil, if_pos e3, v_of, e2, v_cons, v_nil, hs, v_iterL]
  case w1 =>
    have := walk_P (v.map nmP)
    rw [List.map_map] at this
    exact this.c _
  case f1 => exact ⟨[], a, l, n, none, none, none, ⟨List.Sublist.refl _, fun w hw => by cases hw⟩, rfl, rfl⟩
  case t1 =>
    rintro done x rest' hr ρ S' ⟨ws, a, l, n, a4, a5, a6, g, rfl, rfl⟩
    refine ⟨_, by simp; rfl, ?_⟩
    obtain ⟨r, a', l', n', r0, r1, hd⟩ := draw_is c a l n many h0 h1 (T ++ [.lst (ws.map wP)])
    have wl : (ws.map wP).length < sizeLine := by
      have h1 := g.sub.length_le
      have h2 := congrArg List.length hr
      have h3 := pv.length_eq
      simp at h1 h2
      rw [sizeLine_eq, List.length_map]; omega
    by_cases lt : r < 2
    · have two : r = 0 ∨ r = 1 := by omega
      rcases two with rfl | rfl
      · refine turns_of (.nx [some (.loc 0), some (.p (.list (fs.map peP))), some (.p (.int many)), some (.loc (T.length + 1)), some (.p (nmP x)), some (.p (.int 0)), a6] (fd c a' l' n' :: (T ++ [.lst ((ws ++ [(x, Str.ofString "settled")]).map wP)]))) ?_ ⟨ws ++ [(x, Str.ofString "settled")], a', l', n', _, _, _, ⟨?_, ?_⟩, rfl, rfl⟩
        · simp [sigOk, order, reord, vals, List.lookup, hd, cmp_lt, L2.atI, L2.ixN]
          simp at wl
          simp [wl, wP]
        · rw [List.map_append]; exact g.sub.append (List.Sublist.refl _)
        · intro w hw; rcases List.mem_append.mp hw with z | z
          · exact g.ok w z
          · rw [List.mem_singleton.mp z]; exact short_settled
      · refine turns_of (.nx [some (.loc 0), some (.p (.list (fs.map peP))), some (.p (.int many)), some (.loc (T.length + 1)), some (.p (nmP x)), some (.p (.int 1)), a6] (fd c a' l' n' :: (T ++ [.lst ((ws ++ [(x, Str.ofString "taken")]).map wP)]))) ?_ ⟨ws ++ [(x, Str.ofString "taken")], a', l', n', _, _, _, ⟨?_, ?_⟩, rfl, rfl⟩
        · simp [sigOk, order, reord, vals, List.lookup, hd, cmp_lt, L2.atI, L2.ixN]
          simp at wl
          simp [wl, wP]
        · rw [List.map_append]; exact g.sub.append (List.Sublist.refl _)
        · intro w hw; rcases List.mem_append.mp hw with z | z
          · exact g.ok w z
          · rw [List.mem_singleton.mp z]; exact short_taken
    · refine turns_of (.nx [some (.loc 0), some (.p (.list (fs.map peP))), some (.p (.int many)), some (.loc (T.length + 1)), some (.p (nmP x)), some (.p (.int r)), a6] (fd c a' l' n' :: (T ++ [.lst (ws.map wP)]))) ?_ ⟨ws, a', l', n', _, _, _, ⟨g.sub.trans (List.sublist_append_left _ _), g.ok⟩, rfl, rfl⟩
      simp [sigOk, order, reord, vals, List.lookup, hd, cmp_lt, lt]
  case l1 =>
    rintro ρ S' ⟨ws, a, l, n, a4, a5, a6, g, rfl, rfl⟩
    refine ⟨ws, v, a, l, n, pv, g, ?_⟩
    have tup : Bi.g .tuple [.loc (T.length + 1)] (fd c a l n :: (T ++ [.lst (ws.map wP)])) = some (.p (.tuple (ws.map wP))) := by
      show (viewL _ (.loc (T.length + 1))).map _ = _
      simp
    simp [tup, wsP]
end K5

set_option linter.all false
set_option autoImplicit false
namespace K5
open PySem Fp
set_option maxRecDepth 100000
set_option maxHeartbeats 2100000
theorem pick {xs : List PyData} {r : Int} (h0 : 0 ≤ r) (h1 : r < xs.length) : ∃ x ∈ xs, L2.atI xs r = some x := by
  obtain ⟨k, rfl⟩ := Int.eq_ofNat_of_zero_le h0
  have hk : k < xs.length := by omega
  exact ⟨xs[k], List.getElem_mem hk, atI_nat xs hk⟩
@[simp] theorem v_neg (i : Int) (S : Store) : gNeg (.p (.int i)) S = some (.p (.int (-i))) := id rfl
theorem pow6 (S : Store) : gPow (.p (.int 10)) (.p (.int 6)) S = some (.p (.int 1000000)) := v_pow S (by decide) (by decide) (by decide)
/-- what is true of a drawn row -/
structure StG (fs : List PEnt) (wrs : List Wr) : Prop where
  len : wrs.length ≤ fs.length
  each : ∀ w ∈ wrs, w.2.2.2.1.natAbs ≤ 1000000 ∧ shortS w.2.2.1 = true ∧ ∃ e ∈ fs, w.1 = e.1 ∧ w.2.1 = e.2.1 ∧ w.2.2.2.2 = e.2.2.1
def StripOk (fs : List PEnt) (c : List Int) (T : Store) (o : Out D) : Prop := ∃ b wrs a l n, b.natAbs ≤ 1000000 ∧ StG fs wrs ∧ o = .ok (.p (rowP b wrs)) (fd c a l n :: T)
theorem strip_is (fs : List PEnt) (hf : fs.length ≤ 20) (c : List Int) (a l n : Int) (T : Store) : StripOk fs c T (fx__law_strip [.loc 0, .p (.list (fs.map peP))] (fd c a l n :: T)) := by
  unfold fx__law_strip m__law_strip
  simp [v_fx, List.replicate]
  refine for_leaveP (StripOk fs c T) fs (fun x => .p (peP x)) (fun done ρ S' => ∃ wrs a l n a3 a4, StG done wrs ∧ S' = fd c a l n :: (T ++ [.lst (wrs.map wrP)]) ∧ ρ = [some (.loc 0), some (.p (.list (fs.map peP))), some (.loc (T.length + 1)), a3, a4]) (a := itP (fs.map peP)) (S := fd c a l n :: (T ++ [.lst []])) ?s1 ?w1 ?f1 ?t1 ?l1
  case s1 => simp
  case w1 =>
    have := walk_P (fs.map peP)
    rw [List.map_map] at this
    exact this.c _
  case f1 => exact ⟨[], a, l, n, none, none, ⟨Nat.le_refl _, fun w hw => by cases hw⟩, rfl, rfl⟩
  case t1 =>
    rintro done x rest' hr ρ S' ⟨wrs, a, l, n, a3, a4, g, rfl, rfl⟩
    refine ⟨_, by simp; rfl, ?_⟩
    obtain ⟨r, a1, l1, n1, r0, r1, hd⟩ := draw_is c a l n 3 (by decide) (by decide) (T ++ [.lst (wrs.map wrP)])
    obtain ⟨q, a2, l2, n2, q0, q1, he⟩ := draw_is c a1 l1 n1 6 (by decide) (by decide) (T ++ [.lst (wrs.map wrP)])
    obtain ⟨p, a3', l3, n3, p0, p1, hg⟩ := draw_is c a2 l2 n2 3 (by decide) (by decide) (T ++ [.lst (wrs.map wrP)])
    have wl : wrs.length < sizeLine := by
      have h1 := g.len
      have h2 := congrArg List.length hr
      simp at h2
      rw [sizeLine_eq]; omega
    have up : StG (done ++ [x]) wrs := ⟨by have := g.len; simp; omega, fun w hw => by
      obtain ⟨h1, h2, e, he, h3⟩ := g.each w hw
      exact ⟨h1, h2, e, List.mem_append_left _ he, h3⟩⟩
    by_cases pos : 0 < r
    · obtain ⟨vd, vm, hv⟩ := pick (xs := [.int 0, .int 1, .int (-1), .int 7, .int (-40), .int 1000000]) (r := q) q0 q1
      obtain ⟨v, rfl, hvb⟩ : ∃ v, vd = .int v ∧ v.natAbs ≤ 1000000 := by
        simp only [or_false, List.mem_cons, List.not_mem_nil] at vm
        rcases vm with rfl | rfl | rfl | rfl | rfl | rfl <;> exact ⟨_, rfl, by decide⟩
      obtain ⟨sd, sm, hs⟩ := pick (xs := [.str (Str.ofString "set"), .str (Str.ofString "add"), .str (Str.ofString "add")]) (r := p) p0 p1
      obtain ⟨s, rfl, hsb⟩ : ∃ s, sd = .str s ∧ shortS s = true := by
        simp only [or_false, List.mem_cons, List.not_mem_nil] at sm
        rcases sm with rfl | rfl | rfl <;> exact ⟨_, rfl, by decide +kernel⟩
      refine turns_of (.nx [some (.loc 0), some (.p (.list (fs.map peP))), some (.loc (T.length + 1)), some (.p (peP x)), some (.p (.int v))] (fd c a3' l3 n3 :: (T ++ [.lst ((wrs ++ [(x.1, x.2.1, s, v, x.2.2.1)]).map wrP)]))) ?_ ⟨wrs ++ [(x.1, x.2.1, s, v, x.2.2.1)], a3', l3, n3, _, _, ⟨?_, ?_⟩, rfl, rfl⟩
      · simp [sigOk, order, reord, vals, List.lookup, hd, cmp_gt, pos, he, hg, pow6, hv, hs]
        simp [wl, wrP]
      · have := g.len; simp; omega
      · intro w hw
        rcases List.mem_append.mp hw with z | z
        · exact up.each w z
        · have zz := List.mem_singleton.mp z; rw [zz]
          exact ⟨hvb, hsb, x, by simp, rfl, rfl, rfl⟩
    · refine turns_of (.nx [some (.loc 0), some (.p (.list (fs.map peP))), some (.loc (T.length + 1)), some (.p (peP x)), a4] (fd c a1 l1 n1 :: (T ++ [.lst (wrs.map wrP)]))) ?_ ⟨wrs, a1, l1, n1, _, _, up, rfl, rfl⟩
      simp [sigOk, order, reord, vals, List.lookup, hd, cmp_gt, pos]
  case l1 =>
    rintro ρ S' ⟨wrs, a, l, n, a3, a4, g, rfl, rfl⟩
    obtain ⟨q, a2, l2, n2, q0, q1, he⟩ := draw_is c a l n 3 (by decide) (by decide) (T ++ [.lst (wrs.map wrP)])
    obtain ⟨vd, vm, hv⟩ := pick (xs := [.int 0, .int 5, .int (-1000000)]) (r := q) q0 q1
    obtain ⟨v, rfl, hvb⟩ : ∃ v, vd = .int v ∧ v.natAbs ≤ 1000000 := by
      simp only [or_false, List.mem_cons, List.not_mem_nil] at vm
      rcases vm with rfl | rfl | rfl <;> exact ⟨_, rfl, by decide⟩
    have tup : Bi.g .tuple [.loc (T.length + 1)] (fd c a2 l2 n2 :: (T ++ [.lst (wrs.map wrP)])) = some (.p (.tuple (wrs.map wrP))) := by
      show (viewL _ (.loc (T.length + 1))).map _ = _
      simp
    refine ⟨v, wrs, a2, l2, n2, hvb, g, ?_⟩
    simp [sigOk, order, reord, vals, List.lookup, he, pow6, hv, tup, rowP]
end K5

set_option linter.all false
set_option autoImplicit false
namespace K5
open PySem Fp
set_option maxRecDepth 100000
set_option maxHeartbeats 2100000
/-! ### plain facts -/
theorem nodup_len {α : Type} [DecidableEq α] : ∀ (l m : List α), l.Nodup → (∀ x ∈ l, x ∈ m) → l.length ≤ m.length
  | [], _, _, _ => by simp only [List.length_nil]; exact Nat.zero_le _
  | x :: l, m, nd, h => by
    rw [List.nodup_cons] at nd
    have hx := h x (by simp)
    have ih := nodup_len l (m.erase x) nd.2 fun y hy => by
      have ne : y ≠ x := fun z => nd.1 (z ▸ hy)
      exact (List.mem_erase_of_ne ne).mpr (h y (by simp [hy]))
    rw [List.length_erase_of_mem hx] at ih
    have := List.length_pos_of_mem hx
    simp; omega
theorem bl_keyT (m : Nm × Str) : keyT (bP m) = true := by simp [keyT, bP, nmP, isTupD, nkey, nkeys, PyData.depth, PyData.depthAll]
theorem bl_okD (m : Nm × Str) : okD (bP m) = true := by simp [okD, bP, nmP, PyData.plain, PyData.plainAll, PyData.depth, PyData.depthAll]
theorem bl_alike (a b : Nm × Str) : PySem.W.alike (bP a) (bP b) = true := by simp [bP, nmP, PySem.W.alike, PySem.W.alikeAll]
theorem dedup_map {α : Type} (f : α → PyData) : ∀ l : List α, ∃ d : List α, dedupP (l.map f) = d.map f ∧ (∀ x ∈ d, x ∈ l) ∧ d.length ≤ l.length
  | [] => ⟨[], rfl, fun _ h => h, Nat.le_refl _⟩
  | x :: l => by
    obtain ⟨d, e, h, hl⟩ := dedup_map f l
    rw [List.map_cons, dedupP]
    split
    · exact ⟨d, e, fun y hy => by simp [h y hy], by simp; omega⟩
    · exact ⟨x :: d, by rw [e]; rfl, fun y hy => by
        rcases List.mem_cons.mp hy with z | z
        · simp [z]
        · simp [h y z], by simp; omega⟩
theorem sort_set_b (u : Bl_) (hl : u.length ≤ 63) : ∃ v : Bl_, v.Nodup ∧ (∀ m ∈ v, m ∈ u) ∧ ∀ S, gSortSet [.p (.list (u.map bP))] S = some (v.map bP) := by
  obtain ⟨d, e, sub, dl⟩ := dedup_map bP u
  have keys : ∀ x ∈ u.map bP, (nkey x).isSome = true := fun x hx => by obtain ⟨m, _, rfl⟩ := List.mem_map.mp hx; exact keyT_key (bl_keyT m)
  have nd : d.Nodup := by
    have := dedup_nodup keys
    rw [e] at this
    exact List.Pairwise.of_map bP (fun a b h z => h (z ▸ rfl)) this
  obtain ⟨v, pv, ev⟩ := sortP_map bP d
  refine ⟨v, pv.nodup_iff.mpr nd, fun m hm => sub m (pv.mem_iff.mp hm), fun S => ?_⟩
  have ok1 : setOk (u.map bP) = true := by
    simp only [setOk, Bool.and_eq_true, decide_eq_true_eq, List.all_eq_true, List.length_map]
    exact ⟨by omega, fun x hx => by obtain ⟨m, _, rfl⟩ := List.mem_map.mp hx; exact bl_keyT m⟩
  have ok2 : sortOk (d.map bP) = true := sort_ok_map bP d (by omega) (fun x _ => bl_okD x) (fun x _ y _ => bl_alike x y) fun x _ => ⟨_, _, rfl⟩
  show (itemsD S (.p (.list (u.map bP)))).bind (fun xs => if setOk xs && sortOk (dedupP xs) then some (sortP (dedupP xs)) else none) = _
  show (some (u.map bP)).bind (fun xs => if setOk xs && sortOk (dedupP xs) then some (sortP (dedupP xs)) else none) = _
  simp only [Option.bind_some, e, ok1, ok2, Bool.and_self, if_true, ev]
/-! ### what is true of a drawn pool -/
def mark (e : PEnt) : Nm × Str := (e.1, e.2.1)
structure Ent (prev : List PEnt) (e : PEnt) : Prop where
  nm : nmOk e.1
  hand : shortS e.2.1 = true
  nd : e.2.2.1.Nodup
  under : ∀ m ∈ e.2.2.1, m ∈ prev.map mark
  straight : ∀ s ∈ e.2.2.2, s ∈ prev.map (·.1)
  few : e.2.2.2.length ≤ prev.length
def PoolG (fs : List PEnt) : Prop := ∀ done x rest, fs = done ++ x :: rest → Ent done x
theorem PoolG.nil : PoolG [] := fun done x rest h => by cases done <;> cases h
theorem PoolG.snoc {fs : List PEnt} {e : PEnt} (g : PoolG fs) (h : Ent fs e) : PoolG (fs ++ [e]) := fun done x rest eq => by
  rcases List.eq_nil_or_concat rest with rfl | ⟨r, y, rfl⟩
  · have := List.append_inj' eq (by simp)
    obtain ⟨rfl, h2⟩ := this
    simp at h2
    exact h2 ▸ h
  · have : fs ++ [e] = (done ++ x :: r) ++ [y] := by rw [eq]; simp
    exact g done x r (List.append_inj' this (by simp)).1
theorem Ent.len {prev : List PEnt} {e : PEnt} (h : Ent prev e) : e.2.2.1.length ≤ prev.length := by
  have := nodup_len _ _ h.nd h.under
  simpa using this
def tri : Nat → Nat
  | 0 => 0
  | i + 1 => tri i + (i + 1)
theorem tri_mono : ∀ {i j : Nat}, i ≤ j → tri i ≤ tri j
  | 0, _, _ => Nat.zero_le _
  | i + 1, j + 1, h => by have := tri_mono (i := i) (j := j) (by omega); simp [tri]; omega
/-! ### the counts -/
def cntP (x y z : Int) : List (PyData × PyData) := [(.str (Str.ofString "ash"), .int x), (.str (Str.ofString "elm"), .int y), (.str (Str.ofString "oak"), .int z)]
theorem cnt_new (ρ : Slots) (S : Store) : eDict true [((eC (.p (.str (Str.ofString "ash")))), (eC (.p (.int 0)))), ((eC (.p (.str (Str.ofString "elm")))), (eC (.p (.int 0)))), ((eC (.p (.str (Str.ofString "oak")))), (eC (.p (.int 0))))] ρ S = .ok (.loc S.length) (S ++ [.dic (cntP 0 0 0)]) := by
  simp [eDict, pairsM, dictData, pkey, frz, endD, dsets, dset, cntP]
theorem cnt_key (x y z : Int) (s : String) : keyOk (cntP x y z) (.str (Str.ofString s)) = true := by simp [keyOk, cntP, pkey]
theorem cnt_ix {S : Store} {k : Nat} {x y z : Int} (h : S[k]? = some (.dic (cntP x y z))) (s : String) : gIx (.loc k) (.p (.str (Str.ofString s))) S = (dget (cntP x y z) (.str (Str.ofString s))).map .p := by
  show gIxV (.loc k) (.str (Str.ofString s)) S = _
  unfold gIxV viewD
  simp only [h]
  rw [if_pos (cnt_key x y z s)]
theorem cnt_set {S : Store} {k : Nat} {x y z v : Int} (h : S[k]? = some (.dic (cntP x y z))) (s : String) : gSetI (.loc k) (.p (.str (Str.ofString s))) (.p (.int v)) S = some (S.set k (.dic (dset (cntP x y z) (.str (Str.ofString s)) (.int v)))) := by
  unfold gSetI
  simp only [h]
  rw [if_pos ⟨cnt_key x y z s, by simp [cntP, sizeLine_eq]⟩]
end K5

set_option linter.all false
set_option autoImplicit false
namespace K5
open PySem Fp
set_option maxRecDepth 100000
set_option maxHeartbeats 4100000
@[simp] theorem sl_pe (e : PEnt) (S : Store) : gSl (.p (peP e)) none (some 2) S = some (.p (bP (mark e))) := id rfl
@[simp] theorem li_bl (l : Bl_) (S : Store) : Bl.g .list [.p (blP l)] S = some (l.map bP) := id rfl
@[simp] theorem part2 : partD (.p (.int 2)) = some (some 2) := id rfl
/-- the store of a pool under way -/
def pst (c : List Int) (a l n : Int) (T : Store) (fs : List PEnt) (x y z : Int) (J : Store) (st : List Nm) : Store := fd c a l n :: (T ++ (.lst (fs.map peP) :: .dic (cntP x y z) :: (J ++ [.lst (st.map nmP)])))
theorem at_found (c : List Int) (a l n : Int) (T : Store) (fs : List PEnt) (x y z : Int) (J : Store) (st : List Nm) : (pst c a l n T fs x y z J st)[T.length + 1]? = some (.lst (fs.map peP)) := by simp [pst]
theorem at_cnt (c : List Int) (a l n : Int) (T : Store) (fs : List PEnt) (x y z : Int) (J : Store) (st : List Nm) : (pst c a l n T fs x y z J st)[T.length + 1 + 1]? = some (.dic (cntP x y z)) := by
  simp [pst, List.getElem?_append_right]
theorem at_st (c : List Int) (a l n : Int) (T : Store) (fs : List PEnt) (x y z : Int) (J : Store) (st : List Nm) : (pst c a l n T fs x y z J st)[T.length + (J.length + 1 + 1) + 1]? = some (.lst (st.map nmP)) := by
  simp only [pst, List.getElem?_cons_succ]
  rw [List.getElem?_append_right (by omega)]
  simp
theorem set_st (c : List Int) (a l n : Int) (T : Store) (fs : List PEnt) (x y z : Int) (J : Store) (st st' : List Nm) : (pst c a l n T fs x y z J st).set (T.length + (J.length + 1 + 1) + 1) (.lst (st'.map nmP)) = pst c a l n T fs x y z J st' := by
  simp only [pst, List.set_cons_succ]
  rw [List.set_append_right _ _ (by omega)]
  simp
theorem set_found (c : List Int) (a l n : Int) (T : Store) (fs fs' : List PEnt) (x y z : Int) (J : Store) (st : List Nm) : (pst c a l n T fs x y z J st).set (T.length + 1) (.lst (fs'.map peP)) = pst c a l n T fs' x y z J st := by
  simp [pst]
theorem set_cnt (c : List Int) (a l n : Int) (T : Store) (fs : List PEnt) (x y z x' y' z' : Int) (J : Store) (st : List Nm) : (pst c a l n T fs x y z J st).set (T.length + 1 + 1) (.dic (cntP x' y' z')) = pst c a l n T fs x' y' z' J st := by
  simp only [pst, List.set_cons_succ]
  rw [List.set_append_right _ _ (by omega)]
  simp
theorem ty_st (c : List Int) (a l n : Int) (T : Store) (fs : List PEnt) (x y z : Int) (J : Store) (st : List Nm) : tyD (pst c a l n T fs x y z J st) (.loc (T.length + (J.length + 1 + 1) + 1)) = "list" := by rw [v_tyLoc, at_st]
theorem ty_found (c : List Int) (a l n : Int) (T : Store) (fs : List PEnt) (x y z : Int) (J : Store) (st : List Nm) : tyD (pst c a l n T fs x y z J st) (.loc (T.length + 1)) = "list" := by rw [v_tyLoc, at_found]
theorem app_st (c : List Int) (a l n : Int) (T : Store) (fs : List PEnt) (x y z : Int) (J : Store) (st : List Nm) (e : Nm) (h : st.length ≤ 1000) : mAppend (.loc (T.length + (J.length + 1 + 1) + 1)) [.p (nmP e)] (pst c a l n T fs x y z J st) = some (.p .none, pst c a l n T fs x y z J (st ++ [e])) := by
  rw [v_app, at_st]
  simp only
  rw [if_pos (by rw [List.length_map, sizeLine_eq]; omega), show st.map nmP ++ [nmP e] = (st ++ [e]).map nmP by simp, set_st]
theorem app_found (c : List Int) (a l n : Int) (T : Store) (fs : List PEnt) (x y z : Int) (J : Store) (st : List Nm) (e : PEnt) (h : fs.length ≤ 1000) : mAppend (.loc (T.length + 1)) [.p (peP e)] (pst c a l n T fs x y z J st) = some (.p .none, pst c a l n T (fs ++ [e]) x y z J st) := by
  rw [v_app, at_found]
  simp only
  rw [if_pos (by rw [List.length_map, sizeLine_eq]; omega), show fs.map peP ++ [peP e] = (fs ++ [e]).map peP by simp, set_found]
theorem draw_pst (c : List Int) (a l n many : Int) (h0 : 0 < many) (h1 : many < 1073741824) (T : Store) (fs : List PEnt) (x y z : Int) (J : Store) (st : List Nm) : ∃ r a' l' n', 0 ≤ r ∧ r < many ∧ fx__law_draw [.loc 0, .p (.int many)] (pst c a l n T fs x y z J st) = .ok (.p (.int r)) (pst c a' l' n' T fs x y z J st) := draw_is c a l n many h0 h1 _
theorem sort_st (c : List Int) (T : Store) (fs : List PEnt) (x y z : Int) (J : Store) (st : List Nm) (h : st.length ≤ 1000) : ∃ v : List Nm, v.Perm st ∧ ∀ a l n, Bl.g .sorted [.loc (T.length + (J.length + 1 + 1) + 1)] (pst c a l n T fs x y z J st) = some (v.map nmP) := by
  obtain ⟨v, p, e⟩ := sortP_map nmP st
  refine ⟨v, p, fun a l n => ?_⟩
  have ok := sort_ok_map nmP st h (fun x _ => nm_ok x) (fun x _ y _ => nm_alike x y) fun x _ => ⟨_, _, rfl⟩
  show (viewL (pst c a l n T fs x y z J st) (.loc (T.length + (J.length + 1 + 1) + 1))).bind (fun xs => if sortOk xs then some (sortP xs) else none) = _
  rw [v_viewLoc, at_st]
  simp [ok, e]
/-- the places' names and counts -/
structure Plc (x y z : Int) (s : Str) (v : Int) (x' y' z' : Int) : Prop where
  short : shortS s = true
  get : ∀ {S : Store} {k : Nat}, S[k]? = some (.dic (cntP x y z)) → gIx (.loc k) (.p (.str s)) S = some (.p (.int v))
  put : ∀ {S : Store} {k : Nat}, S[k]? = some (.dic (cntP x y z)) → gSetI (.loc k) (.p (.str s)) (.p (.int (v + 1))) S = some (S.set k (.dic (cntP x' y' z')))
  is : (s = Str.ofString "ash" ∧ v = x ∧ x' = x + 1 ∧ y' = y ∧ z' = z) ∨ (s = Str.ofString "elm" ∧ v = y ∧ x' = x ∧ y' = y + 1 ∧ z' = z) ∨ (s = Str.ofString "oak" ∧ v = z ∧ x' = x ∧ y' = y ∧ z' = z + 1)
theorem plc (x y z : Int) {r : Int} (r0 : 0 ≤ r) (r1 : r < 3) : ∃ s v x' y' z', Plc x y z s v x' y' z' ∧ L2.atI [PyData.str (Str.ofString "ash"), .str (Str.ofString "elm"), .str (Str.ofString "oak")] r = some (.str s) := by
  have three : r = 0 ∨ r = 1 ∨ r = 2 := by omega
  rcases three with rfl | rfl | rfl
  · refine ⟨Str.ofString "ash", x, x + 1, y, z, ⟨by decide +kernel, fun h => by rw [cnt_ix h]; simp [dget, cntP], fun h => by rw [cnt_set h]; simp [dset, cntP], .inl ⟨rfl, rfl, rfl, rfl, rfl⟩⟩, by simp [L2.atI, L2.ixN]⟩
  · refine ⟨Str.ofString "elm", y, x, y + 1, z, ⟨by decide +kernel, fun h => by rw [cnt_ix h]; simp [dget, cntP], fun h => by rw [cnt_set h]; simp [dset, cntP], .inr (.inl ⟨rfl, rfl, rfl, rfl, rfl⟩)⟩, by simp [L2.atI, L2.ixN]⟩
  · refine ⟨Str.ofString "oak", z, x, y, z + 1, ⟨by decide +kernel, fun h => by rw [cnt_ix h]; simp [dget, cntP], fun h => by rw [cnt_set h]; simp [dset, cntP], .inr (.inr ⟨rfl, rfl, rfl, rfl, rfl⟩)⟩, by simp [L2.atI, L2.ixN]⟩
end K5

set_option linter.all false
set_option autoImplicit false
namespace K5
open PySem Fp
set_option maxRecDepth 100000
set_option maxHeartbeats 4100000
theorem turns_seq {Iv : Slots → Store → Prop} {Out : OutS → Prop} {Brk : Slots → Store → Prop} {a b : MS} {ρ ρ1 : Slots} {S S1 : Store} (h : a ρ S = .nx ρ1 S1) (k : Turns Iv Out Brk (b ρ1 S1)) : Turns Iv Out Brk (sSeq a b ρ S) := by
  rw [v_seq, h]; exact k
/-- the counts fit the pool -/
structure CntG (fs : List PEnt) (x y z : Int) : Prop where
  x0 : 0 ≤ x
  y0 : 0 ≤ y
  z0 : 0 ≤ z
  sum : x + y + z = fs.length
  nd : (fs.map (·.1)).Nodup
  is : ∀ e ∈ fs, (e.1.1 = Str.ofString "ash" ∧ 0 ≤ e.1.2 ∧ e.1.2 < x) ∨ (e.1.1 = Str.ofString "elm" ∧ 0 ≤ e.1.2 ∧ e.1.2 < y) ∨ (e.1.1 = Str.ofString "oak" ∧ 0 ≤ e.1.2 ∧ e.1.2 < z)
theorem CntG.snoc {fs : List PEnt} {x y z x' y' z' v : Int} {s : Str} (g : CntG fs x y z) (p : Plc x y z s v x' y' z') (e : PEnt) (he : e.1 = (s, v)) : CntG (fs ++ [e]) x' y' z' := by
  have fresh : e.1 ∉ fs.map (·.1) := fun hm => by
    obtain ⟨d, hd, eq⟩ := List.mem_map.mp hm
    rw [he] at eq
    have h1 : d.1.1 = s := by rw [eq]
    have h2 : d.1.2 = v := by rw [eq]
    rcases p.is with ⟨rfl, rfl, _⟩ | ⟨rfl, rfl, _⟩ | ⟨rfl, rfl, _⟩ <;> rcases g.is d hd with ⟨q1, q2, q3⟩ | ⟨q1, q2, q3⟩ | ⟨q1, q2, q3⟩ <;> first | omega | (rw [h1] at q1; simp at q1)
  have h0 := g.x0
  have h1 := g.y0
  have h2 := g.z0
  have h3 := g.sum
  refine ⟨?_, ?_, ?_, ?_, ?_, ?_⟩
  · rcases p.is with ⟨_, _, rfl, rfl, rfl⟩ | ⟨_, _, rfl, rfl, rfl⟩ | ⟨_, _, rfl, rfl, rfl⟩ <;> omega
  · rcases p.is with ⟨_, _, rfl, rfl, rfl⟩ | ⟨_, _, rfl, rfl, rfl⟩ | ⟨_, _, rfl, rfl, rfl⟩ <;> omega
  · rcases p.is with ⟨_, _, rfl, rfl, rfl⟩ | ⟨_, _, rfl, rfl, rfl⟩ | ⟨_, _, rfl, rfl, rfl⟩ <;> omega
  · rcases p.is with ⟨_, _, rfl, rfl, rfl⟩ | ⟨_, _, rfl, rfl, rfl⟩ | ⟨_, _, rfl, rfl, rfl⟩ <;> simp <;> omega
  · rw [List.map_append]; refine List.nodup_append.mpr ⟨g.nd, by simp, fun a ha b hb => ?_⟩
    simp at hb
    rw [hb]
    exact fun z => fresh (z ▸ ha)
  · intro d hd
    rcases List.mem_append.mp hd with m | m
    · rcases p.is with ⟨_, _, rfl, rfl, rfl⟩ | ⟨_, _, rfl, rfl, rfl⟩ | ⟨_, _, rfl, rfl, rfl⟩ <;> rcases g.is d m with ⟨q1, q2, q3⟩ | ⟨q1, q2, q3⟩ | ⟨q1, q2, q3⟩ <;> first | exact .inl ⟨q1, q2, by omega⟩ | exact .inr (.inl ⟨q1, q2, by omega⟩) | exact .inr (.inr ⟨q1, q2, by omega⟩)
    · rw [List.mem_singleton.mp m, he]
      rcases p.is with ⟨rfl, rfl, rfl, rfl, rfl⟩ | ⟨rfl, rfl, rfl, rfl, rfl⟩ | ⟨rfl, rfl, rfl, rfl, rfl⟩
      · exact .inl ⟨rfl, h0, by show v < v + 1; omega⟩
      · exact .inr (.inl ⟨rfl, h1, by show v < v + 1; omega⟩)
      · exact .inr (.inr ⟨rfl, h2, by show v < v + 1; omega⟩)
theorem CntG.nil : CntG [] 0 0 0 := ⟨by decide, by decide, by decide, rfl, List.nodup_nil, fun e he => by cases he⟩
def PoolOk (c : List Int) (T : Store) (o : Out D) : Prop := ∃ fs a l n x y z, PoolG fs ∧ CntG fs x y z ∧ fs.length ≤ 11 ∧ o = .ok (.p (.list (fs.map peP))) (fd c a l n :: T)
theorem pool_is (c : List Int) (a l n : Int) (T : Store) : PoolOk c T (fx__law_pool [.loc 0, .p (.int 10)] (fd c a l n :: T)) := by
  unfold fx__law_pool m__law_pool
  obtain ⟨r, a1, l1, n1, r0, r1, hd⟩ := draw_is c a l n 11 (by decide) (by decide) (T ++ [.lst [], .dic (cntP 0 0 0)])
  obtain ⟨k, rfl⟩ := Int.eq_ofNat_of_zero_le r0
  have hk : k ≤ 11 := by omega
  simp [v_fx, List.replicate, cnt_new, setAll]
  refine for_leaveP (PoolOk c T) (List.range k) (fun (k : Nat) => D.p (.int (k : Int))) (fun done ρ S' => ∃ fs a l n x y z J a4 a5 a6 a7 a8 a9, PoolG fs ∧ CntG fs x y z ∧ fs.length = done.length ∧ done.length ≤ 11 ∧ S' = fd c a l n :: (T ++ (.lst (fs.map peP) :: .dic (cntP x y z) :: J)) ∧ ρ = [some (.loc 0), some (.p (.int 10)), some (.loc (T.length + 1)), some (.loc (T.length + 1 + 1)), a4, a5, a6, a7, a8, a9])
    (a := itR 0 k) (S := fd c a1 l1 n1 :: (T ++ [.lst [], .dic (cntP 0 0 0)])) ?s1 ?w1 ?f1 ?t1 ?l1
  case s1 =>
    have := inR_nat (show k ≤ 1000000 by omega)
    simp [sigOk, order, reord, vals, List.lookup, hd, this]
  case w1 => exact (walk_range _).c _
  case f1 => exact ⟨[], a1, l1, n1, 0, 0, 0, [], _, _, _, _, _, _, PoolG.nil, CntG.nil, rfl, Nat.zero_le _, rfl, rfl⟩
  case l1 =>
    rintro ρ S' ⟨fs, a, l, n, x, y, z, J, a4, a5, a6, a7, a8, a9, g, cg, hl, hl2, rfl, rfl⟩
    refine ⟨fs, a, l, n, x, y, z, g, cg, by omega, ?_⟩
    have at_ : (fd c a l n :: (T ++ (MO.lst (fs.map peP) :: .dic (cntP x y z) :: J)))[T.length + 1]? = some (.lst (fs.map peP)) := by simp
    simp [leave, leaveV, frzT, frz, view, at_]
  case t1 =>
    rintro done i rest' hr ρ S' ⟨fs, a, l, n, x, y, z, J, a4, a5, a6, a7, a8, a9, g, cg, hl, hl2, rfl, rfl⟩
    obtain ⟨rfl, hlt, _⟩ := range_split hr
    have hfs : fs.length ≤ 10 := by omega
    refine ⟨_, by simp; rfl, ?_⟩
    obtain ⟨r, a1, l1, n1, r0, r1, hd⟩ := draw_is c a l n 3 (by decide) (by decide) (T ++ (.lst (fs.map peP) :: .dic (cntP x y z) :: J))
    obtain ⟨s, v, x', y', z', pl, hp⟩ := plc x y z r0 r1
    refine turns_seq (ρ1 := [some (.loc 0), some (.p (.int 10)), some (.loc (T.length + 1)), some (.loc (T.length + 1 + 1)), some (.p (.int (done.length : Nat))), some (.p (.str s)), some (.p (.list [])), some (.loc (T.length + (J.length + 1 + 1) + 1)), a8, a9]) (S1 := pst c a1 l1 n1 T fs x y z J []) ?_ ?_
    · simp [sigOk, order, reord, vals, List.lookup, hd, hp, setAll, pst]
    rw [v_seq]
    refine for_turns fs (fun e => .p (peP e)) (fun dn ρ S' => ∃ (u : Bl_) (st : List Nm) (a l n : Int) (b8 : Option D), u.length ≤ tri dn.length ∧ (∀ m ∈ u, m ∈ fs.map mark) ∧ st.Sublist (dn.map (·.1)) ∧ S' = pst c a l n T fs x y z J st ∧ ρ = [some (.loc 0), some (.p (.int 10)), some (.loc (T.length + 1)), some (.loc (T.length + 1 + 1)), some (.p (.int (done.length : Nat))), some (.p (.str s)), some (.p (.list (u.map bP))), some (.loc (T.length + (J.length + 1 + 1) + 1)), b8, a9])
      (a := itM (T.length + 1)) (S := pst c a1 l1 n1 T fs x y z J []) ?s2 ?w2 ?f2 ?t2 ?l2
    case s2 => simp [at_found]
    case w2 =>
      have := walkM (n := T.length + 1) (xs := fs.map peP) (by rw [List.length_map, sizeLine_eq]; omega)
      rw [List.map_map] at this
      refine this.mono fun S' ⟨dn, ρ, u, st, a, l, n, b8, _, _, _, h, _⟩ => ?_
      rw [h, at_found]
    case f2 => exact ⟨[], [], a1, l1, n1, _, Nat.le_refl _, (fun m hm => by cases hm), List.Sublist.refl _, rfl, rfl⟩
    case t2 =>
      rintro dn e rest2 hr2 ρ S' ⟨u, st, a, l, n, b8, hu, hm, hs, rfl, rfl⟩
      refine ⟨_, by simp; rfl, ?_⟩
      obtain ⟨q, a2, l2, n2, q0, q1, hq⟩ := draw_pst c a l n 4 (by decide) (by decide) T fs x y z J st
      have ent := g dn e rest2 hr2
      have dl : dn.length < fs.length := by rw [hr2]; simp
      have ul := ent.len
      have stl : st.length ≤ 1000 := by have := hs.length_le; simp at this; omega
      have ut : u.length ≤ 55 := Nat.le_trans hu (tri_mono (show dn.length ≤ 10 by omega))
      by_cases q00 : q = 0
      · subst q00
        refine turns_of (.nx [some (.loc 0), some (.p (.int 10)), some (.loc (T.length + 1)), some (.loc (T.length + 1 + 1)), some (.p (.int (done.length : Nat))), some (.p (.str s)), some (.p (.list ((u ++ [mark e] ++ e.2.2.1).map bP))), some (.loc (T.length + (J.length + 1 + 1) + 1)), some (.p (peP e)), a9] (pst c a2 l2 n2 T fs x y z J (st ++ [e.1]))) ?_ ⟨u ++ [mark e] ++ e.2.2.1, st ++ [e.1], a2, l2, n2, _, ?_, ?_, ?_, rfl, rfl⟩
        · have e1 : u.length + 1 ≤ sizeLine := by rw [sizeLine_eq]; omega
          have e2 : u.length + 1 + e.2.2.1.length ≤ sizeLine := by rw [sizeLine_eq]; omega
          simp [-v_app, sigOk, order, reord, vals, List.lookup, hq, cmp_eq, ok_int, at_st, app_st _ _ _ _ _ _ _ _ _ _ _ _ stl, e1, e2]
        · simp [tri]; omega
        · intro m hm'
          rcases List.mem_append.mp hm' with z | z
          · rcases List.mem_append.mp z with z | z
            · exact hm m z
            · rw [List.mem_singleton.mp z, hr2]; simp
          · have := ent.under m z
            rw [hr2, List.map_append]; exact List.mem_append_left _ this
        · rw [List.map_append]; exact hs.append (List.Sublist.refl _)
      · refine turns_of (.nx [some (.loc 0), some (.p (.int 10)), some (.loc (T.length + 1)), some (.loc (T.length + 1 + 1)), some (.p (.int (done.length : Nat))), some (.p (.str s)), some (.p (.list (u.map bP))), some (.loc (T.length + (J.length + 1 + 1) + 1)), some (.p (peP e)), a9] (pst c a2 l2 n2 T fs x y z J st)) ?_ ⟨u, st, a2, l2, n2, _, ?_, hm, ?_, rfl, rfl⟩
        · simp [sigOk, order, reord, vals, List.lookup, hq, cmp_eq, ok_int, q00]
        · simp [tri]; omega
        · rw [List.map_append]; exact hs.trans (List.sublist_append_left _ _)
    case l2 =>
      rintro ρ S' ⟨u, st, a, l, n, b8, hu, hm, hs, rfl, rfl⟩
      obtain ⟨q, a2, l2, n2, q0, q1, hq⟩ := draw_pst c a l n 4 (by decide) (by decide) T fs x y z J st
      obtain ⟨hdd, hdm, hh⟩ := pick (xs := [.str (Str.ofString "ann"), .str (Str.ofString "bo"), .str (Str.ofString "cy"), .str (Str.ofString "dee")]) (r := q) q0 q1
      obtain ⟨hd', rfl, hds⟩ : ∃ s, hdd = .str s ∧ shortS s = true := by
        simp only [or_false, List.mem_cons, List.not_mem_nil] at hdm
        rcases hdm with rfl | rfl | rfl | rfl <;> exact ⟨_, rfl, by decide +kernel⟩
      have ut : u.length ≤ 63 := Nat.le_trans hu (Nat.le_trans (tri_mono hfs) (by decide))
      have stl : st.length ≤ 1000 := by have := hs.length_le; simp at this; omega
      obtain ⟨w, wn, wm, hw⟩ := sort_set_b u ut
      obtain ⟨t, tp, ht⟩ := sort_st c T fs x y z J st stl
      have hget := pl.get (at_cnt c a2 l2 n2 T fs x y z J st)
      have ent : Ent fs ((s, v), hd', w, t) := by
        refine ⟨⟨pl.short, ?_⟩, hds, wn, fun m h => hm m (wm m h), fun m h => ?_, ?_⟩
        · have h0 := cg.x0
          have h1 := cg.y0
          have h2 := cg.z0
          have h3 := cg.sum
          have hv : v.natAbs ≤ 20 := by rcases pl.is with ⟨_, rfl, _⟩ | ⟨_, rfl, _⟩ | ⟨_, rfl, _⟩ <;> omega
          exact Nat.lt_of_le_of_lt hv (by decide +kernel)
        · exact hs.subset (tp.mem_iff.mp h)
        · have h1 := tp.length_eq
          have h2 := hs.length_le
          simp at h2
          show t.length ≤ _
          omega
      refine turns_of (.nx [some (.loc 0), some (.p (.int 10)), some (.loc (T.length + 1)), some (.loc (T.length + 1 + 1)), some (.p (.int (done.length : Nat))), some (.p (.str s)), some (.p (.list (u.map bP))), some (.loc (T.length + (J.length + 1 + 1) + 1)), b8, some (.p (.str hd'))] (pst c a2 l2 n2 T (fs ++ [((s, v), hd', w, t)]) x' y' z' J st)) ?_ ⟨fs ++ [((s, v), hd', w, t)], a2, l2, n2, x', y', z', J ++ [.lst (st.map nmP)], _, _, _, _, _, _, g.snoc ent, cg.snoc pl _ rfl, by simp [hl], by simp; omega, rfl, rfl⟩
      have hget2 := pl.get (at_cnt c a2 l2 n2 T (fs ++ [((s, v), hd', w, t)]) x y z J st)
      have hput := pl.put (at_cnt c a2 l2 n2 T (fs ++ [((s, v), hd', w, t)]) x y z J st)
      rw [set_cnt] at hput
      have lt : fs.length < sizeLine := by rw [sizeLine_eq]; omega
      have hset : (pst c a2 l2 n2 T fs x y z J st).set (T.length + 1) (.lst (fs.map peP ++ [.tuple [.tuple [.str s, .int v], .str hd', .tuple (w.map bP), .tuple (t.map nmP)]])) = pst c a2 l2 n2 T (fs ++ [((s, v), hd', w, t)]) x y z J st := by
        have := set_found c a2 l2 n2 T fs (fs ++ [((s, v), hd', w, t)]) x y z J st
        rw [List.map_append] at this
        exact this
      simp [sigOk, order, reord, vals, List.lookup, hq, hh, hget, hw, ht, at_found, lt, hset, hget2, hput]
end K5

set_option linter.all false
set_option autoImplicit false
namespace K5
open PySem Fp
set_option maxRecDepth 100000
set_option maxHeartbeats 4100000
/-! ### texts are not too long -/
theorem tame_nm {n : Nm} (h : nmOk n) : Tame 1 411 (nmP n) := by
  refine (tame_tuple (k := 0) (c := 202) fun x hx => ?_).mono (Nat.le_refl _) (by simp)
  simp only [or_false, List.mem_cons, List.not_mem_nil] at hx
  rcases hx with rfl | rfl
  · exact tame_str h.1
  · exact (tame_int h.2).mono (Nat.le_refl _) (by decide)
theorem tame_b {m : Nm × Str} (h : nmOk m.1) (h2 : shortS m.2 = true) : Tame 2 829 (bP m) := by
  refine (tame_tuple (k := 1) (c := 411) fun x hx => ?_).mono (Nat.le_refl _) (by simp)
  simp only [or_false, List.mem_cons, List.not_mem_nil] at hx
  rcases hx with rfl | rfl
  · exact tame_nm h
  · exact (tame_str h2).mono (by decide) (by decide)
theorem tame_map {α : Type} {f : α → PyData} {k c m : Nat} {l : List α} (h : ∀ x ∈ l, Tame k c (f x)) (hl : l.length ≤ m) : Tame (k + 1) ((c + 2) * m + 3) (.tuple (l.map f)) := by
  refine (tame_tuple (k := k) (c := c) fun x hx => ?_).mono (Nat.le_refl _) ?_
  · obtain ⟨y, hy, rfl⟩ := List.mem_map.mp hx
    exact h y hy
  · rw [List.length_map]
    have := Nat.mul_le_mul_left (c + 2) hl
    omega
theorem tame_mapL {α : Type} {f : α → PyData} {k c m : Nat} {l : List α} (h : ∀ x ∈ l, Tame k c (f x)) (hl : l.length ≤ m) : Tame (k + 1) ((c + 2) * m + 2) (.list (l.map f)) := by
  refine (tame_list (k := k) (c := c) fun x hx => ?_).mono (Nat.le_refl _) ?_
  · obtain ⟨y, hy, rfl⟩ := List.mem_map.mp hx
    exact h y hy
  · rw [List.length_map]
    have := Nat.mul_le_mul_left (c + 2) hl
    omega
/-- all of a pool's entries -/
structure PeOk (e : PEnt) : Prop where
  nm : nmOk e.1
  hand : shortS e.2.1 = true
  under : ∀ m ∈ e.2.2.1, nmOk m.1 ∧ shortS m.2 = true
  straight : ∀ s ∈ e.2.2.2, nmOk s
  ul : e.2.2.1.length ≤ 11
  sl : e.2.2.2.length ≤ 11
theorem PoolG.each {fs : List PEnt} (g : PoolG fs) (hl : fs.length ≤ 11) : ∀ e ∈ fs, PeOk e := by
  have nm : ∀ e ∈ fs, nmOk e.1 ∧ shortS e.2.1 = true := fun e he => by
    obtain ⟨d, r, eq⟩ := List.append_of_mem he
    exact ⟨(g d e r eq).nm, (g d e r eq).hand⟩
  intro e he
  obtain ⟨d, r, eq⟩ := List.append_of_mem he
  have ent := g d e r eq
  have dl : d.length ≤ 11 := by have := congrArg List.length eq; simp at this; omega
  refine ⟨ent.nm, ent.hand, fun m hm => ?_, fun s hs => ?_, Nat.le_trans ent.len dl, Nat.le_trans ent.few dl⟩
  · obtain ⟨x, hx, rfl⟩ := List.mem_map.mp (ent.under m hm)
    exact nm x (by rw [eq]; simp [hx])
  · obtain ⟨x, hx, rfl⟩ := List.mem_map.mp (ent.straight s hs)
    exact (nm x (by rw [eq]; simp [hx])).1
theorem tame_pe {e : PEnt} (h : PeOk e) : Tame 4 36587 (peP e) := by
  refine (tame_tuple (k := 3) (c := 9144) fun x hx => ?_).mono (Nat.le_refl _) (by simp)
  simp only [or_false, List.mem_cons, List.not_mem_nil] at hx
  rcases hx with rfl | rfl | rfl | rfl
  · exact (tame_nm h.nm).mono (by decide) (by decide)
  · exact (tame_str h.hand).mono (by decide) (by decide)
  · exact (tame_map (m := 11) (fun m hm => tame_b (h.under m hm).1 (h.under m hm).2) h.ul).mono (by decide) (by decide)
  · exact (tame_map (m := 11) (fun s hs => tame_nm (h.straight s hs)) h.sl).mono (by decide) (by decide)
theorem tame_ws {ws : Ws} (h : ∀ w ∈ ws, nmOk w.1 ∧ shortS w.2 = true) (hl : ws.length ≤ 13) : Tame 3 10806 (wsP ws) :=
  (tame_map (f := wP) (m := 13) (fun w hw => (tame_b (m := w) (h w hw).1 (h w hw).2 : Tame 2 829 (wP w))) hl).mono (by decide) (by decide)
theorem small6 {i : Int} (h : i.natAbs ≤ 1000000) : i.natAbs < 10 ^ 100 := Nat.lt_of_le_of_lt h (by decide +kernel)
theorem tame_row {fs : List PEnt} {b : Int} {wrs : List Wr} (hb : b.natAbs ≤ 1000000) (g : StG fs wrs) (hf : ∀ e ∈ fs, PeOk e) (hl : fs.length ≤ 11) : Tame 6 1006183 (rowP b wrs) := by
  have wr : ∀ w ∈ wrs, Tame 4 45733 (wrP w) := fun w hw => by
    obtain ⟨h1, h2, e, he, q1, q2, q3⟩ := g.each w hw
    have p := hf e he
    refine (tame_tuple (k := 3) (c := 9144) fun x hx => ?_).mono (Nat.le_refl _) (by simp)
    simp only [or_false, List.mem_cons, List.not_mem_nil] at hx
    rcases hx with rfl | rfl | rfl | rfl | rfl
    · rw [q1]; exact (tame_nm p.nm).mono (by decide) (by decide)
    · rw [q2]; exact (tame_str p.hand).mono (by decide) (by decide)
    · exact (tame_str h2).mono (by decide) (by decide)
    · exact (tame_int (small6 h1)).mono (by decide) (by decide)
    · rw [q3]; exact (tame_map (m := 11) (fun m hm => tame_b (p.under m hm).1 (p.under m hm).2) p.ul).mono (by decide) (by decide)
  refine (tame_tuple (k := 5) (c := 503088) fun x hx => ?_).mono (Nat.le_refl _) (by simp)
  simp only [or_false, List.mem_cons, List.not_mem_nil] at hx
  rcases hx with rfl | rfl
  · exact (tame_int (small6 hb)).mono (by decide) (by decide)
  · exact (tame_map (m := 11) wr (Nat.le_trans g.len hl)).mono (by decide) (by decide)
/-! ### values -/
theorem sum_small : ∀ (l : List Wr), (∀ w ∈ l, w.2.2.2.1.natAbs ≤ 1000000) → ((l.map fun (w : Wr) => w.2.2.2.1).sum).natAbs ≤ 1000000 * l.length
  | [], _ => by simp
  | w :: l, h => by
    have h1 := h w (by simp)
    have h2 := sum_small l fun x hx => h x (by simp [hx])
    rw [List.map_cons, List.sum_cons, List.length_cons]
    omega
theorem row_small {ws : Ws} {b : Int} {wrs : List Wr} (hb : b.natAbs ≤ 1000000) (hw : ∀ w ∈ wrs, w.2.2.2.1.natAbs ≤ 1000000) (hl : wrs.length ≤ 11) : (rowVal ws b wrs).natAbs < 10 ^ 100 := by
  have h1 := sum_small (atAll wrs (heart ws wrs)) fun w hw' => by
    unfold atAll at hw'
    obtain ⟨k, _, e⟩ := List.mem_filterMap.mp hw'
    exact hw w (List.mem_of_getElem? e)
  have h2 : (atAll wrs (heart ws wrs)).length ≤ 11 := by
    have := heart_len ws wrs
    have h3 : (atAll wrs (heart ws wrs)).length ≤ (heart ws wrs).length := by unfold atAll; exact List.length_filterMap_le ..
    omega
  have h4 : (rowVal ws b wrs).natAbs ≤ 100000000 := by
    unfold rowVal
    split <;> omega
  exact Nat.lt_of_le_of_lt h4 (by decide +kernel)
/-! ### names -/
theorem names_nodup {fs : List PEnt} {x y z : Int} (g : CntG fs x y z) (hl : fs.length ≤ 11) : (fs.map (·.1) ++ [(Str.ofString "a", (0 : Int)), (Str.ofString "oak", 20)]).Nodup := by
  rw [List.nodup_append]
  refine ⟨g.nd, by simp, fun a ha b hb eq => ?_⟩
  obtain ⟨e, he, rfl⟩ := List.mem_map.mp ha
  have hs := g.sum
  have h0 := g.x0
  have h1 := g.y0
  have h2 := g.z0
  simp only [or_false, List.mem_cons, List.not_mem_nil] at hb
  rcases hb with rfl | rfl <;> rcases g.is e he with ⟨q1, q2, q3⟩ | ⟨q1, q2, q3⟩ | ⟨q1, q2, q3⟩ <;> rw [eq] at q1 q2 q3 <;> first | (simp at q1; done) | (simp at q3; omega)
end K5

set_option linter.all false
set_option autoImplicit false
namespace K5
open PySem Fp
set_option maxRecDepth 100000
set_option maxHeartbeats 4100000
theorem sl1000 : 1000 ≤ sizeLine := by rw [sizeLine_eq]; decide
/-! ### marks, sorted, each once -/
def MK (u : Bl_) : List PyData := sortP (dedupP (u.map bP))
theorem bP_inj {a b : Nm × Str} (h : bP a = bP b) : a = b := by
  obtain ⟨⟨a1, a2⟩, a3⟩ := a
  obtain ⟨⟨b1, b2⟩, b3⟩ := b
  simp [bP, nmP] at h
  obtain ⟨⟨rfl, rfl⟩, rfl⟩ := h
  rfl
theorem sort_b (v : Bl_) (hl : v.length ≤ 1000) : sortOk (v.map bP) = true := sort_ok_map bP v hl (fun x _ => bl_okD x) (fun x _ y _ => bl_alike x y) fun x _ => ⟨_, _, rfl⟩
theorem mk_is (u : Bl_) (hl : u.length ≤ 63) : sortOk (dedupP (u.map bP)) = true ∧ ∃ v : Bl_, MK u = v.map bP ∧ v.Nodup ∧ (∀ m, m ∈ v ↔ m ∈ u) ∧ v.length ≤ u.length := by
  have keys : ∀ x ∈ u.map bP, (nkey x).isSome = true := fun x hx => by obtain ⟨m, _, rfl⟩ := List.mem_map.mp hx; exact keyT_key (bl_keyT m)
  obtain ⟨d, e, sub, len⟩ := dedup_map bP u
  have nd : d.Nodup := by
    have := dedup_nodup keys
    rw [e] at this
    exact List.Pairwise.of_map bP (fun a b h z => h (z ▸ rfl)) this
  have all : ∀ m ∈ u, m ∈ d := fun m hm => by
    have := dedup_all keys (bP m) (List.mem_map.mpr ⟨m, hm, rfl⟩)
    rw [e] at this
    obtain ⟨m', h1, h2⟩ := List.mem_map.mp this
    exact bP_inj h2 ▸ h1
  obtain ⟨v, pv, ev⟩ := sortP_map bP d
  refine ⟨by rw [e]; exact sort_b d (by omega), v, by unfold MK; rw [e, ev], pv.nodup_iff.mpr nd, fun m => ?_, by rw [pv.length_eq]; exact len⟩
  rw [pv.mem_iff]
  exact ⟨sub m, all m⟩
/-- the marks of the heart -/
theorem atAll_len (wrs : List Wr) (l : List Nat) : (atAll wrs l).length ≤ l.length := by unfold atAll; exact List.length_filterMap_le ..
@[simp] theorem ix_wr1 (w : Wr) (S : Store) : gIx (.p (wrP w)) (.p (.int 1)) S = some (.p (.str w.2.1)) := id rfl
/-! ### a dict of marks -/
def trueP (v : Bl_) : List (PyData × PyData) := v.map fun m => (bP m, .bool true)
def add1 (v : Bl_) (m : Nm × Str) : Bl_ := if m ∈ v then v else v ++ [m]
def addB (v u : Bl_) : Bl_ := u.foldl add1 v
theorem bl_eqv (a b : Nm × Str) : PyData.eqv (bP a) (bP b) = decide (a = b) := by
  rw [Bool.eq_iff_iff, decide_eq_true_eq, eqv_nkey _ _ (keyT_key (bl_keyT a)) (keyT_key (bl_keyT b))]
  exact ⟨bP_inj, fun h => h ▸ rfl⟩
theorem dset_true (v : Bl_) (m : Nm × Str) : dset (trueP v) (bP m) (.bool true) = trueP (add1 v m) := by
  have any_ : ((trueP v).any fun kv => PyData.eqv kv.1 (bP m)) = decide (m ∈ v) := by
    rw [Bool.eq_iff_iff, decide_eq_true_eq, List.any_eq_true]
    constructor
    · rintro ⟨kv, hkv, e⟩
      obtain ⟨x, hx, rfl⟩ := List.mem_map.mp hkv
      rw [bl_eqv] at e
      exact of_decide_eq_true e ▸ hx
    · intro h
      exact ⟨_, List.mem_map.mpr ⟨m, h, rfl⟩, by rw [bl_eqv]; exact decide_eq_true rfl⟩
  unfold dset add1
  rw [any_]
  by_cases h : m ∈ v
  · rw [if_pos (decide_eq_true h), if_pos h]
    unfold trueP
    rw [List.map_map]
    apply List.map_congr_left; intro x _
    simp only [Function.comp]
    split <;> rfl
  · rw [if_neg h, if_neg (by simpa using h)]
    simp [trueP]
theorem dsets_true : ∀ (u v : Bl_), dsets (trueP u) (trueP v) = trueP (addB v u)
  | [], v => rfl
  | m :: u, v => by
    show dsets (trueP u) (dset (trueP v) (bP m) (.bool true)) = trueP (addB (add1 v m) u)
    rw [dset_true, dsets_true]
theorem add1_mem {v : Bl_} {m x : Nm × Str} : x ∈ add1 v m ↔ x ∈ v ∨ x = m := by
  unfold add1
  split
  · rename_i h
    exact ⟨.inl, fun z => z.elim id fun z => z ▸ h⟩
  · simp
theorem addB_mem {x : Nm × Str} : ∀ {u v : Bl_}, x ∈ addB v u ↔ x ∈ v ∨ x ∈ u
  | [], v => by simp [addB]
  | m :: u, v => by
    show x ∈ addB (add1 v m) u ↔ _
    rw [addB_mem, add1_mem, List.mem_cons, or_assoc]
theorem add1_len {v : Bl_} {m : Nm × Str} : (add1 v m).length ≤ v.length + 1 := by unfold add1; split <;> simp
theorem addB_len : ∀ {u v : Bl_}, (addB v u).length ≤ v.length + u.length
  | [], v => by simp [addB]
  | m :: u, v => by
    have h1 := addB_len (u := u) (v := add1 v m)
    have h2 := add1_len (v := v) (m := m)
    show (addB (add1 v m) u).length ≤ _
    simp; omega
theorem true_keys (v : Bl_) : ((trueP v).all fun kv => keyT kv.1) = true := by
  rw [List.all_eq_true]
  intro kv h
  obtain ⟨m, _, rfl⟩ := List.mem_map.mp h
  exact bl_keyT m
theorem true_keyOk (v : Bl_) (m : Nm × Str) : keyOk (trueP v) (bP m) = true := by
  have all : ((trueP v).all fun kv => isTupD kv.1 && (nkey kv.1).isSome) = true := by
    rw [List.all_eq_true]
    intro kv h
    obtain ⟨x, _, rfl⟩ := List.mem_map.mp h
    simp [bP, nmP, isTupD, nkey, nkeys]
  have k := bl_keyT m
  unfold keyT at k
  simp only [keyOk, all, k, Bool.and_true, Bool.or_true]
/-- {m: True for m in ..} -/
theorem true_comp {th : Bool} {fi : MI} {t : Tm} {fk : M D} {vs : List Nat} {ρ : Slots} {S : Store} (u : Bl_) (few : u.length ≤ 1000) (src : fi ρ S = .ok (itP (u.map bP)) S) (h : ∀ m ∈ u, ∀ acc, ∃ ρ1, t (.p (bP m)) (wipeD ρ vs) (S ++ [.dic acc]) = some ρ1 ∧ fk ρ1 (S ++ [.dic acc]) = .ok (.p (bP m)) (S ++ [.dic acc])) :
    eDComp th fi t tYesM fk (eC (.p (.bool true))) vs ρ S = endDC th S.length (some (S ++ [.dic (trueP (addB [] u))])) := by
  have sl := sl1000
  have dt : ∀ l1 : Bl_, dsets (l1.map fun y => (bP y, PyData.bool true)) [] = trueP (addB [] l1) := fun l1 => dsets_true l1 []
  have wk := walk_P (u.map bP)
  rw [List.map_map] at wk
  have run := dcF_run (t := t) (c := tYesM) (fk := fk) (fv := eC (.p (.bool true))) (ρ := wipeD ρ vs) (S := S) (a := itP (u.map bP)) u (fun m => .p (bP m)) (fun _ => true) bP (fun _ => .bool true) (wk.c _) (by omega) (fun l1 x _ _ => by rw [dt]; exact true_keyOk _ _) (fun l1 => by
      rw [dt, trueP, List.length_map]
      have := addB_len (u := l1) (v := [])
      simpa using this) (fun m hm acc => by
      obtain ⟨ρ1, h1, h2⟩ := h m hm acc
      exact ⟨ρ1, h1, rfl, fun _ => ⟨h2, rfl⟩⟩)
  rw [List.filter_eq_self.mpr (fun _ _ => rfl), dt] at run
  show (fi ρ S).bind (fun a S => endDC th S.length (dcF t tYesM fk (eC (.p (.bool true))) a.2 S.length (wipeD ρ vs) a.1 0 (S ++ [.dic []]))) = _
  rw [src, v_bind, run]
theorem end_false (S : Store) (x : List (PyData × PyData)) : endDC false S.length (some (S ++ [.dic x])) = .ok (.p (.dict x)) S := by simp [endDC]
def belowOf (v0 : Bl_) (A : List Wr) : Bl_ := A.foldl (fun v w => addB v (addB [] w.2.2.2.2)) v0
theorem belowOf_mem {x : Nm × Str} : ∀ {A : List Wr} {v : Bl_}, x ∈ belowOf v A ↔ x ∈ v ∨ ∃ w ∈ A, x ∈ w.2.2.2.2
  | [], v => by simp [belowOf]
  | w :: A, v => by
    show x ∈ belowOf (addB v (addB [] w.2.2.2.2)) A ↔ _
    rw [belowOf_mem, addB_mem, addB_mem]
    simp [or_assoc]
theorem belowOf_len : ∀ {A : List Wr} {v : Bl_}, (∀ w ∈ A, w.2.2.2.2.length ≤ 11) → (belowOf v A).length ≤ v.length + 11 * A.length
  | [], v, _ => by simp [belowOf]
  | w :: A, v, h => by
    have h1 := belowOf_len (A := A) (v := addB v (addB [] w.2.2.2.2)) fun x hx => h x (by simp [hx])
    have h2 := addB_len (u := addB [] w.2.2.2.2) (v := v)
    have h3 := addB_len (u := w.2.2.2.2) (v := [])
    have h4 := h w (by simp)
    show (belowOf (addB v (addB [] w.2.2.2.2)) A).length ≤ _
    simp at *; omega
/-! ### rows -/
abbrev Rw := Int × List Wr
def rwP (r : Rw) : PyData := rowP r.1 r.2
def rwsP (rs : List Rw) : PyData := .tuple (rs.map rwP)
/-- what is true of some rows whose marks are among L -/
structure RwsOk (L : Bl_) (rs : List Rw) : Prop where
  n : rs.length ≤ 2
  few : ∀ r ∈ rs, r.2.length ≤ 11
  mkm : ∀ r ∈ rs, ∀ w ∈ r.2, (w.1, w.2.1) ∈ L
  bl : ∀ r ∈ rs, ∀ w ∈ r.2, ∀ b ∈ w.2.2.2.2, b ∈ L
  fb : ∀ r ∈ rs, ∀ w ∈ r.2, w.2.2.2.2.length ≤ 11
theorem RwsOk.sub {L : Bl_} {rs rs' : List Rw} (h : RwsOk L rs) (s : rs'.Sublist rs) : RwsOk L rs' :=
  ⟨Nat.le_trans s.length_le h.n, fun r hr => h.few r (s.subset hr), fun r hr => h.mkm r (s.subset hr), fun r hr => h.bl r (s.subset hr), fun r hr => h.fb r (s.subset hr)⟩
/-- the writings of the hearts -/
def heartsW (ws : Ws) (rs : List Rw) : List Wr := rs.flatMap fun r => atAll r.2 (heart ws r.2)
theorem flat_len {α β : Type} (f : α → List β) (m : Nat) : ∀ l : List α, (∀ x ∈ l, (f x).length ≤ m) → (l.flatMap f).length ≤ m * l.length
  | [], _ => by simp
  | x :: l, h => by
    have h1 := h x (by simp)
    have h2 := flat_len f m l fun y hy => h y (by simp [hy])
    rw [List.flatMap_cons, List.length_append, List.length_cons, Nat.mul_succ]
    omega
theorem heartsW_len {L : Bl_} {ws : Ws} {rs : List Rw} (h : RwsOk L rs) : (heartsW ws rs).length ≤ 22 := by
  have := flat_len (fun r : Rw => atAll r.2 (heart ws r.2)) 11 rs fun r hr => by
    have h1 := atAll_len r.2 (heart ws r.2)
    have h2 := heart_len ws r.2
    have h3 := h.few r hr
    omega
  have h4 := h.n
  unfold heartsW
  omega
theorem heartsW_mem {ws : Ws} {rs : List Rw} {w : Wr} (h : w ∈ heartsW ws rs) : ∃ r ∈ rs, w ∈ r.2 := by
  obtain ⟨r, hr, hw⟩ := List.mem_flatMap.mp h
  unfold atAll at hw
  obtain ⟨k, _, e⟩ := List.mem_filterMap.mp hw
  exact ⟨r, hr, List.mem_of_getElem? e⟩
theorem heart_writings_is {L : Bl_} (ws : Ws) (rs : List Rw) (ok : RwsOk L rs) (S : Store) : fx_heart_writings [.p (wsP ws), .p (rwsP rs)] S = .ok (.p (.list ((heartsW ws rs).map wrP))) S := by
  have sl := sl1000
  unfold fx_heart_writings m_heart_writings
  simp only [v_fx, List.replicate, List.map_cons, List.map_nil, List.length_cons, List.length_nil, List.cons_append, List.nil_append, v_seq, v_ret]
  rw [comp2_rule (l := rs) (e := fun r => .p (rwP r)) (m := fun r => heart ws r.2) (e1 := fun (k : Nat) => .p (.int (k : Int))) (p := fun _ _ => true) (g := fun r k => match r.2[k]? with | some w => wrP w | none => .none) (a := itP (rs.map rwP))]
  rotate_left
  · simp [rwsP]
  · have := walk_P (rs.map rwP)
    rw [List.map_map] at this
    exact this.c _
  · have := flat_len (fun r : Rw => heart ws r.2) 11 rs fun r hr => by
      have h2 := heart_len ws r.2
      have h3 := ok.few r hr
      omega
    have h4 := ok.n
    omega
  · intro r hr acc
    have hp := fun S => heart_places_is ws r.1 r.2 (by have := ok.few r hr; omega) (fun w hw => by have := ok.fb r hr w hw; omega) S
    unfold rowP at hp
    refine ⟨[some (.p (wsP ws)), some (.p (rwsP rs)), some (.p (.int r.1)), some (.p (.tuple (r.2.map wrP))), none], itP (natsP (heart ws r.2)), ?_, ?_, ?_, ?_⟩
    · simp [v_wipeS, v_wipe0, rwP, rowP]
    · simp [sigOk, order, reord, vals, List.lookup, hp]
    · have := walk_P (natsP (heart ws r.2))
      unfold natsP at this
      rw [List.map_map] at this
      exact this.c _
    · intro k hk acc2
      have lt := heart_lt ws r.2 hk
      have ixi := fun S => ix_at r.2 wrP lt S
      refine ⟨[some (.p (wsP ws)), some (.p (rwsP rs)), some (.p (.int r.1)), some (.p (.tuple (r.2.map wrP))), some (.p (.int (k : Int)))], by simp [v_wipeS, v_wipe0], by simp, fun _ => ?_⟩
      simp only [v_bin, v_var0, v_varS, v_bind, ixi, v_of, List.getElem?_eq_getElem lt]
  have e : (rs.flatMap fun r => ((heart ws r.2).filter fun _ => true).map fun k => match r.2[k]? with | some w => wrP w | none => .none) = (heartsW ws rs).map wrP := by
    unfold heartsW
    rw [List.map_flatMap]
    refine congrArg (fun f => List.flatMap f rs) (funext fun r => ?_)
    rw [List.filter_eq_self.mpr fun _ _ => rfl]
    exact atAll_map r.2 (heart ws r.2) fun k hk => heart_lt ws r.2 hk
  rw [e]
  simp only [v_toS, v_sq_rt, v_leave, List.take_length]
/-! ### sorted marks, in one way -/
theorem add1_nodup {v : Bl_} {m : Nm × Str} (h : v.Nodup) : (add1 v m).Nodup := by
  unfold add1
  split
  · exact h
  · rename_i n
    exact List.nodup_append.mpr ⟨h, by simp, fun a ha b hb z => n (by rw [List.mem_singleton.mp hb] at z; exact z ▸ ha)⟩
theorem addB_nodup : ∀ {u v : Bl_}, v.Nodup → (addB v u).Nodup
  | [], _, h => h
  | m :: u, v, h => addB_nodup (u := u) (add1_nodup (m := m) h)
theorem mk_perm (u v : Bl_) (nd : v.Nodup) (h : ∀ m, m ∈ v ↔ m ∈ u) : sortP (v.map bP) = MK u := by
  have keys : ∀ x ∈ u.map bP, (nkey x).isSome = true := fun x hx => by obtain ⟨m, _, rfl⟩ := List.mem_map.mp hx; exact keyT_key (bl_keyT m)
  obtain ⟨d, e, sub, _⟩ := dedup_map bP u
  have nd2 : d.Nodup := by
    have := dedup_nodup keys
    rw [e] at this
    exact List.Pairwise.of_map bP (fun a b h z => h (z ▸ rfl)) this
  have all : ∀ m ∈ u, m ∈ d := fun m hm => by
    have := dedup_all keys (bP m) (List.mem_map.mpr ⟨m, hm, rfl⟩)
    rw [e] at this
    obtain ⟨m', h1, h2⟩ := List.mem_map.mp this
    exact bP_inj h2 ▸ h1
  unfold MK
  rw [e]
  have pm : v.Perm d := (List.perm_ext_iff_of_nodup nd nd2).mpr fun m => (h m).trans ⟨all m, sub m⟩
  refine sortP_perm (pm.map bP) (fun x hx => ?_) fun x hx y hy => ?_
  · obtain ⟨m, _, rfl⟩ := List.mem_map.mp hx
    exact keyT_key (bl_keyT m)
  · obtain ⟨m, _, rfl⟩ := List.mem_map.mp hx
    obtain ⟨m2, _, rfl⟩ := List.mem_map.mp hy
    exact bl_alike m m2
theorem mk_v (u : Bl_) : ∃ v : Bl_, MK u = v.map bP ∧ v.Nodup ∧ ∀ m, m ∈ v ↔ m ∈ u := by
  have nd : (addB [] u).Nodup := addB_nodup List.nodup_nil
  have mem : ∀ m, m ∈ addB [] u ↔ m ∈ u := fun m => by rw [addB_mem]; simp
  obtain ⟨v, pv, ev⟩ := sortP_map bP (addB [] u)
  exact ⟨v, by rw [← mk_perm u (addB [] u) nd mem, ev], pv.nodup_iff.mpr nd, fun m => pv.mem_iff.trans (mem m)⟩
theorem mk_cong {u u' : Bl_} (h : ∀ m, m ∈ u ↔ m ∈ u') : MK u = MK u' := by
  obtain ⟨v, e, nd, mem⟩ := mk_v u
  rw [e, ← mk_perm u' v nd fun m => (mem m).trans (h m)]
  obtain ⟨v2, p2, e2⟩ := sortP_map bP v
  rw [← mk_perm u v nd mem, e2] at e
  rw [e2, e]
/-- the marks of the hearts; all that is beneath -/
def marksW (ws : Ws) (rs : List Rw) : Bl_ := (heartsW ws rs).map fun w => (w.1, w.2.1)
def undersW (ws : Ws) (rs : List Rw) : Bl_ := marksW ws rs ++ (heartsW ws rs).flatMap fun w => w.2.2.2.2
theorem rests_is {L : Bl_} (ws : Ws) (rs : List Rw) (ok : RwsOk L rs) (S : Store) : fx_rests_straight [.p (wsP ws), .p (rwsP rs)] S = .ok (.p (.tuple (MK (marksW ws rs)))) S := by
  have hw := fun S => heart_writings_is ws rs ok S
  have hl := heartsW_len (ws := ws) ok
  have sl := sl1000
  unfold fx_rests_straight m_rests_straight
  simp only [v_fx, List.replicate, List.map_cons, List.map_nil, List.length_cons, List.length_nil, List.cons_append, List.nil_append, v_seq, v_ret, v_ns, v_cons, v_frz]
  rw [sc_rule gSortD (l := heartsW ws rs) (e := fun w => .p (wrP w)) (p := fun _ => true) (g := fun w => bP (w.1, w.2.1)) (a := itP ((heartsW ws rs).map wrP))]
  rotate_left
  · simp [sigOk, order, reord, vals, List.lookup, hw]
  · have := walk_P ((heartsW ws rs).map wrP)
    rw [List.map_map] at this
    exact this.c _
  · omega
  · intro w _; exact bl_keyT _
  · intro w _
    refine ⟨[some (.p (wsP ws)), some (.p (rwsP rs)), some (.p (wrP w))], by simp [v_wipeS, v_wipe0], by simp, fun _ => ?_⟩
    simp [mkTup, allP, bP]
  have e1 : ((heartsW ws rs).filter (fun _ => true)).map (fun w : Wr => bP (w.1, w.2.1)) = (marksW ws rs).map bP := by rw [List.filter_eq_self.mpr fun _ _ => rfl]; unfold marksW; rw [List.map_map]; rfl
  obtain ⟨so, _⟩ := mk_is (marksW ws rs) (by unfold marksW; rw [List.length_map]; omega)
  rw [e1]
  simp [gSortD, so, MK]
theorem belowOf_nodup : ∀ {A : List Wr} {v : Bl_}, v.Nodup → (belowOf v A).Nodup
  | [], _, h => h
  | w :: A, v, h => belowOf_nodup (A := A) (addB_nodup h)
theorem below_is {L : Bl_} (ws : Ws) (rs : List Rw) (ok : RwsOk L rs) (S : Store) : fx_below_resting [.p (wsP ws), .p (rwsP rs)] S = .ok (.p (.tuple (MK (undersW ws rs)))) S := by
  have hr := fun S => rests_is ws rs ok S
  have hw := fun S => heart_writings_is ws rs ok S
  have hl := heartsW_len (ws := ws) ok
  have ml : (marksW ws rs).length = (heartsW ws rs).length := by unfold marksW; rw [List.length_map]
  have inA : ∀ w ∈ heartsW ws rs, w.2.2.2.2.length ≤ 11 := fun w hw => by
    obtain ⟨r, h1, h2⟩ := heartsW_mem hw
    exact ok.fb r h1 w h2
  obtain ⟨_, v, ev, nv, mv, lv⟩ := mk_is (marksW ws rs) (by omega)
  have sl := sl1000
  have hu : ∀ m, m ∈ undersW ws rs ↔ m ∈ marksW ws rs ∨ ∃ w ∈ heartsW ws rs, m ∈ w.2.2.2.2 := fun m => by unfold undersW; simp [List.mem_flatMap]
  have hM : ∀ w ∈ heartsW ws rs, (w.1, w.2.1) ∈ marksW ws rs := fun w hw => List.mem_map.mpr ⟨w, hw, rfl⟩
  generalize hA : heartsW ws rs = A at *
  have hAl : ∀ w ∈ A, w.2.2.2.2.length ≤ 11 := inA
  have eq : sortP ((belowOf (addB [] v) A).map bP) = MK (undersW ws rs) := mk_perm _ _ (belowOf_nodup (addB_nodup List.nodup_nil)) fun m => by rw [hu, belowOf_mem, addB_mem, mv]; simp
  have bl := belowOf_len (v := addB [] v) hAl
  have vl := addB_len (u := v) (v := [])
  unfold fx_below_resting m_below_resting
  simp only [v_fx, List.replicate, List.map_cons, List.map_nil, List.length_cons, List.length_nil, List.cons_append, List.nil_append, v_seq, v_asg]
  rw [true_comp v (by omega)]
  rotate_left
  · simp [sigOk, order, reord, vals, List.lookup, hr, ev]
  · intro m _ acc
    exact ⟨[some (.p (wsP ws)), some (.p (rwsP rs)), none, none, some (.p (bP m))], by simp [v_wipeS, v_wipe0], by simp⟩
  simp only [endDC, if_true, v_toS, v_nameS, v_name0, Option.map_some, v_sq_nx]
  refine for_leave A (fun w => .p (wrP w)) (fun done ρ S' => S' = S ++ [.dic (trueP (belowOf (addB [] v) done))] ∧ ∃ b3, ρ = [some (.p (wsP ws)), some (.p (rwsP rs)), some (.loc S.length), b3, none]) (a := itP (A.map wrP)) (S := S ++ [.dic (trueP (addB [] v))]) ?s1 ?w1 ?f1 ?t1 ?l1
  case s1 => simp [sigOk, order, reord, vals, List.lookup, hw]
  case w1 =>
    have := walk_P (A.map wrP)
    rw [List.map_map] at this
    exact this.c _
  case f1 => exact ⟨rfl, _, rfl⟩
  case t1 =>
    rintro done w rest hs ρ S' ⟨rfl, b3, rfl⟩
    refine ⟨_, by simp; rfl, ?_⟩
    have wA : w ∈ A := by rw [hs]; simp
    have wl := hAl w wA
    have lb := belowOf_len (A := done) (v := addB [] v) fun x hx => hAl x (by rw [hs]; simp [hx])
    have dl : done.length ≤ A.length := by rw [hs]; simp
    have al2 := addB_len (u := w.2.2.2.2) (v := [])
    have ne : belowOf (addB [] v) done ≠ [] := fun z => by
      have : (w.1, w.2.1) ∈ belowOf (addB [] v) done := by
        rw [belowOf_mem, addB_mem, mv]
        exact .inl (.inr (hM w wA))
      rw [z] at this; cases this
    refine turns_of (.nx [some (.p (wsP ws)), some (.p (rwsP rs)), some (.loc S.length), some (.p (wrP w)), none] (S ++ [.dic (trueP (belowOf (addB [] v) (done ++ [w])))])) ?_ ⟨rfl, _, rfl⟩
    have dcmp := true_comp (th := false) (fi := iSeq (eBin gIx (eVar 3) (eC (.p (.int 4))))) (t := tName 4) (fk := eVar 4) (vs := [4]) (ρ := [some (.p (wsP ws)), some (.p (rwsP rs)), some (.loc S.length), some (.p (wrP w)), none]) (S := S ++ [.dic (trueP (belowOf (addB [] v) done))]) w.2.2.2.2 (by omega) (by simp) (fun m _ acc => ⟨_, by simp [v_wipeS, v_wipe0]; rfl, by simp⟩)
    have up : mUpdate (.loc S.length) [.p (.dict (trueP (addB [] w.2.2.2.2)))] (S ++ [.dic (trueP (belowOf (addB [] v) done))]) = some (.p .none, S ++ [.dic (trueP (belowOf (addB [] v) (done ++ [w])))]) := by
      have at_ : (S ++ [MO.dic (trueP (belowOf (addB [] v) done))])[S.length]? = some (.dic (trueP (belowOf (addB [] v) done))) := by rw [List.getElem?_append_right (Nat.le_refl _), Nat.sub_self]; rfl
      have ne2 : (trueP (belowOf (addB [] v) done)).isEmpty = false := by
        cases e : belowOf (addB [] v) done with
        | nil => exact absurd e ne
        | cons _ _ => rfl
      have size : (trueP (belowOf (addB [] v) done)).length + (trueP (addB [] w.2.2.2.2)).length ≤ sizeLine := by
        simp only [trueP, List.length_map]
        simp at vl al2
        omega
      unfold mUpdate
      simp only [at_, viewD, true_keys, ne2, isLoc, Bool.not_false, Bool.true_or, Bool.and_self, decide_eq_true size, if_true, dsets_true]
      rw [List.set_append_right _ _ (Nat.le_refl _), Nat.sub_self]
      simp [belowOf]
    have dd : dicD (S ++ [MO.dic (trueP (belowOf (addB [] v) done))]) (.loc S.length) = true := by simp [dicD, viewD]
    rw [end_false] at dcmp
    simp only [v_seq, v_expr, v_dm, v_var0, v_varS, v_bind, dd, if_true, v_cons, v_nil, dcmp, up, v_outM, v_toS, v_sq_nx, v_sN]
  case l1 =>
    rintro ρ S' ⟨rfl, b3, rfl⟩
    have keys : (trueP (belowOf (addB [] v) A)).map (·.1) = (belowOf (addB [] v) A).map bP := by simp [trueP]
    have so : sortOk ((belowOf (addB [] v) A).map bP) = true := sort_b _ (by simp at vl; omega)
    have sd : gSortDict [.loc S.length] (S ++ [.dic (trueP (belowOf (addB [] v) A))]) = some (MK (undersW ws rs)) := by
      simp [gSortDict, viewD, true_keys, keys, so, eq]
    simp [sd]
end K5

set_option linter.all false
set_option autoImplicit false
namespace K5
open PySem Fp
set_option maxRecDepth 100000
set_option maxHeartbeats 4100000
/-! ### words put together -/
def wKV (ws : Ws) : List (PyData × PyData) := ws.map fun w => (nmP w.1, .str w.2)
theorem pairs_w : ∀ ws : Ws, pairsOf (ws.map wP) = some (wKV ws)
  | [] => rfl
  | w :: ws => by
    show (pairsOf (ws.map wP)).map _ = _
    rw [pairs_w ws]; rfl
theorem wKV_keys (ws : Ws) : ((wKV ws).all fun kv => keyT kv.1) = true := by
  rw [List.all_eq_true]
  intro kv h
  obtain ⟨w, _, rfl⟩ := List.mem_map.mp h
  exact keyT_nm w.1
theorem dset_w (ws : Ws) (n : Nm) (x : Str) (h : n ∉ ws.map (·.1)) : dset (wKV ws) (nmP n) (.str x) = wKV (ws ++ [(n, x)]) := by
  have no : ((wKV ws).any fun kv => PyData.eqv kv.1 (nmP n)) = false := by
    rw [List.any_eq_false]
    intro kv hkv
    obtain ⟨w, hw, rfl⟩ := List.mem_map.mp hkv
    rw [nm_eqv]
    simp
    exact fun z => h (z ▸ List.mem_map.mpr ⟨w, hw, rfl⟩)
  unfold dset
  rw [if_neg (by rw [no]; decide)]
  simp [wKV]
/-- the word that stands for a name -/
def wordFor (ws : Ws) (n : Nm) : Option Str := (ws.find? fun w => decide (w.1 = n)).map (·.2)
theorem dget_w (ws : Ws) (n : Nm) : dget (wKV ws) (nmP n) = (wordFor ws n).map .str := by
  unfold dget wKV wordFor
  rw [List.find?_map, Option.map_map, Option.map_map]
  have : (fun kv : PyData × PyData => PyData.eqv kv.1 (nmP n)) ∘ (fun w : Nm × Str => (nmP w.1, PyData.str w.2)) = fun w => decide (w.1 = n) := by
    funext w
    show PyData.eqv (nmP w.1) (nmP n) = _
    rw [nm_eqv]
  rw [this]; rfl
theorem wordFor_none {ws : Ws} {n : Nm} : wordFor ws n = none ↔ n ∉ ws.map (·.1) := by
  unfold wordFor
  rw [Option.map_eq_none_iff, List.find?_eq_none]
  constructor
  · intro h hm
    obtain ⟨w, hw, rfl⟩ := List.mem_map.mp hm
    exact h w hw (by simp)
  · intro h w hw
    simp
    exact fun z => h (z ▸ List.mem_map.mpr ⟨w, hw, rfl⟩)
theorem wordFor_some {ws : Ws} (nd : (ws.map (·.1)).Nodup) {n : Nm} {x : Str} : wordFor ws n = some x ↔ (n, x) ∈ ws := by
  unfold wordFor
  induction ws with
  | nil => simp
  | cons w ws ih =>
    have nd2 := List.nodup_cons.mp nd
    by_cases c : w.1 = n
    · subst c
      simp only [List.find?, decide_true, Option.map_some, Option.some.injEq, List.mem_cons]
      constructor
      · rintro rfl; exact .inl rfl
      · rintro (h | h)
        · rw [← h]
        · exact absurd (List.mem_map.mpr ⟨_, h, rfl⟩) nd2.1
    · have e : decide (w.1 = n) = false := decide_eq_false c
      simp only [List.find?, e, List.mem_cons]
      rw [ih nd2.2]
      exact ⟨.inr, fun h => h.elim (fun z => absurd (by rw [← z]) c) id⟩
theorem wordFor_app (a b : Ws) (n : Nm) (h : n ∉ b.map (·.1)) : wordFor (a ++ b) n = wordFor a n := by
  unfold wordFor
  rw [List.find?_append]
  have : (b.find? fun w => decide (w.1 = n)) = none := by
    rw [List.find?_eq_none]
    intro w hw
    simp
    exact fun z => h (z ▸ List.mem_map.mpr ⟨w, hw, rfl⟩)
  rw [this, Option.or_none]
theorem lw_for (ws : Ws) (n : Nm) : lw ws n = match wordFor ws n with | some x => .str x | none => .none := by
  unfold lw wordFor
  cases ws.find? fun w => decide (w.1 = n) <;> rfl
def newIn (A : Ws) (w : Nm × Str) : Bool := (wordFor A w.1).isNone
def clash (A : Ws) (w : Nm × Str) : Bool := match wordFor A w.1 with
  | some x => decide (x ≠ w.2)
  | none => false
theorem newIn_iff {A : Ws} {w : Nm × Str} : newIn A w = true ↔ w.1 ∉ A.map (·.1) := by
  unfold newIn
  rw [Option.isNone_iff_eq_none, wordFor_none]
/-- words, sorted -/
def WS (u : Ws) : List PyData := sortP (u.map wP)
theorem dsets_w : ∀ (ws acc : Ws), ((acc ++ ws).map (·.1)).Nodup → dsets (wKV ws) (wKV acc) = wKV (acc ++ ws)
  | [], acc, _ => by simp [dsets, wKV]
  | w :: ws, acc, nd => by
    have h1 : w.1 ∉ acc.map (·.1) := by
      rw [List.map_append, List.nodup_append] at nd
      exact fun z => nd.2.2 w.1 z w.1 (by simp) rfl
    show dsets (wKV ws) (dset (wKV acc) (nmP w.1) (.str w.2)) = _
    rw [dset_w acc w.1 w.2 h1, dsets_w ws (acc ++ [(w.1, w.2)]) (by simpa using nd)]
    simp
def noName (n : Nm) : Ex := ⟨Str.ofString "NoName", [(Str.ofString "name", nmP n)]⟩
/-- what words_joined comes to -/
def joinOut (A B : Ws) (S : Store) : Out D := match (B.filter (clash A)).head? with
  | some w => .exc (noName w.1) S
  | none => .ok (.p (.tuple (WS (A ++ B.filter (newIn A))))) S
theorem head_filter_none {α : Type} {p : α → Bool} {l : List α} (h : (l.filter p).head? = none) : ∀ x ∈ l, p x = false := by
  rw [List.head?_eq_none_iff, List.filter_eq_nil_iff] at h
  intro x hx
  simpa using h x hx
theorem joined_is (A B : Ws) (ndA : (A.map (·.1)).Nodup) (ndB : (B.map (·.1)).Nodup) (few : A.length + B.length ≤ 900) (S : Store) : fx_words_joined [.p (wsP A), .p (wsP B)] S = joinOut A B S := by
  have sl := sl1000
  have dw : gDictT [.p (wsP A)] S = some (wKV A) := by
    have := dsets_w A [] (by simpa using ndA)
    simp only [gDictT, wsP, pairs_w, Option.bind_some, wKV_keys, if_true]
    exact congrArg some this
  unfold fx_words_joined m_words_joined
  simp only [v_fx, List.replicate, List.map_cons, List.map_nil, List.length_cons, List.length_nil, List.cons_append, List.nil_append, v_seq, v_asg, v_dictOf, v_cons, v_nil, v_var0, v_varS, v_bind, dw, v_endD, if_true, v_toS, v_nameS, v_name0, Option.map_some, v_sq_nx]
  refine for_leave B (fun w => .p (wP w)) (fun done ρ S' => (∀ w ∈ done, clash A w = false) ∧ S' = S ++ [.dic (wKV (A ++ done.filter (newIn A)))] ∧ ∃ b3 b4, ρ = [some (.p (wsP A)), some (.p (wsP B)), some (.loc S.length), b3, b4]) (a := itP (B.map wP)) (S := S ++ [.dic (wKV A)]) ?s1 ?w1 ?f1 ?t1 ?l1
  case s1 => simp [wsP]
  case w1 =>
    have := walk_P (B.map wP)
    rw [List.map_map] at this
    exact this.c _
  case f1 => exact ⟨by simp, by simp, _, _, rfl⟩
  case t1 =>
    rintro done w rest hr ρ S' ⟨nc, rfl, b3, b4, rfl⟩
    have ndd : w.1 ∉ done.map (·.1) := by
      rw [hr, List.map_append, List.nodup_append] at ndB
      exact fun z => ndB.2.2 w.1 z w.1 (by simp) rfl
    have ndf : w.1 ∉ (done.filter (newIn A)).map (·.1) := fun z => ndd ((List.filter_sublist.map _).subset z)
    refine ⟨[some (.p (wsP A)), some (.p (wsP B)), some (.loc S.length), some (.p (nmP w.1)), some (.p (.str w.2))], by simp [wP], ?_⟩
    have at_ : (S ++ [MO.dic (wKV (A ++ done.filter (newIn A)))])[S.length]? = some (.dic (wKV (A ++ done.filter (newIn A)))) := by rw [List.getElem?_append_right (Nat.le_refl _), Nat.sub_self]; rfl
    have lens : (done.filter (newIn A)).length ≤ done.length := List.length_filter_le ..
    have dl : done.length ≤ B.length := by rw [hr]; simp
    have size : (wKV (A ++ done.filter (newIn A))).length < sizeLine := by simp only [wKV, List.length_map, List.length_append]; omega
    have dd : dicD (S ++ [MO.dic (wKV (A ++ done.filter (newIn A)))]) (.loc S.length) = true := by simp [dicD, viewD]
    have get : dget (wKV (A ++ done.filter (newIn A))) (nmP w.1) = (wordFor A w.1).map .str := by rw [dget_w, wordFor_app _ _ _ ndf]
    cases e : wordFor A w.1 with
    | none =>
      have nw : newIn A w = true := by unfold newIn; rw [e]; rfl
      have nA : w.1 ∉ (A ++ done.filter (newIn A)).map (·.1) := by
        rw [List.map_append, List.mem_append]
        exact fun z => z.elim (wordFor_none.mp e) ndf
      have sd : mSetdef (.loc S.length) [.p (nmP w.1), .p (.str w.2)] (S ++ [.dic (wKV (A ++ done.filter (newIn A)))]) = some (.p (.str w.2), S ++ [.dic (wKV (A ++ (done ++ [w]).filter (newIn A)))]) := by
        unfold mSetdef
        simp only [at_, keyT_nm, wKV_keys, decide_eq_true size, Bool.and_self, if_true, get, e, Option.map_none, dset_w _ w.1 w.2 nA]
        rw [List.set_append_right _ _ (Nat.le_refl _), Nat.sub_self]
        simp [List.filter_append, nw]
      refine turns_of (.nx [some (.p (wsP A)), some (.p (wsP B)), some (.loc S.length), some (.p (nmP w.1)), some (.p (.str w.2))] (S ++ [.dic (wKV (A ++ (done ++ [w]).filter (newIn A)))])) ?_ ⟨?_, rfl, _, _, rfl⟩
      · have ne : ∀ S, bCmp .NotEq (.p (.str w.2)) (.p (.str w.2)) S = some false := fun S => by rw [cmp_ne S (ok_str _) (ok_str _)]; simp
        simp [dd, sd, ne]
      · intro v hv
        rcases List.mem_append.mp hv with z | z
        · exact nc v z
        · rw [List.mem_singleton.mp z]; unfold clash; rw [e]
    | some x =>
      have sd : mSetdef (.loc S.length) [.p (nmP w.1), .p (.str w.2)] (S ++ [.dic (wKV (A ++ done.filter (newIn A)))]) = some (.p (.str x), S ++ [.dic (wKV (A ++ done.filter (newIn A)))]) := by
        unfold mSetdef
        simp only [at_, keyT_nm, wKV_keys, decide_eq_true size, Bool.and_self, if_true, get, e, Option.map_some]
      have nw : newIn A w = false := by unfold newIn; rw [e]; rfl
      have cmp : ∀ S, bCmp .NotEq (.p (.str x)) (.p (.str w.2)) S = some (decide (x ≠ w.2)) := fun S => by rw [cmp_ne S (ok_str _) (ok_str _), eqv_str]; simp
      by_cases c : x = w.2
      · refine turns_of (.nx [some (.p (wsP A)), some (.p (wsP B)), some (.loc S.length), some (.p (nmP w.1)), some (.p (.str w.2))] (S ++ [.dic (wKV (A ++ (done ++ [w]).filter (newIn A)))])) ?_ ⟨?_, rfl, _, _, rfl⟩
        · have ne : ∀ S, bCmp .NotEq (.p (.str w.2)) (.p (.str w.2)) S = some false := fun S => by rw [cmp_ne S (ok_str _) (ok_str _), eqv_str]; simp
          rw [c] at sd
          simp [dd, sd, ne, List.filter_append, nw]
        · intro v hv
          rcases List.mem_append.mp hv with z | z
          · exact nc v z
          · rw [List.mem_singleton.mp z]; unfold clash; rw [e]; simp [c]
      · refine turns_of (.exc (noName w.1) [some (.p (wsP A)), some (.p (wsP B)), some (.loc S.length), some (.p (nmP w.1)), some (.p (.str w.2))] (S ++ [.dic (wKV (A ++ done.filter (newIn A)))])) ?_ ?_
        · simp [dd, sd, cmp, c, noName]
        · have hd : (B.filter (clash A)).head? = some w := by
            have cw : clash A w = true := by unfold clash; rw [e]; simpa using c
            rw [hr, List.filter_append, List.filter_eq_nil_iff.mpr (fun v hv => by rw [nc v hv]; decide), List.nil_append, List.filter_cons_of_pos cw]
            rfl
          simp [joinOut, hd]
  case l1 =>
    rintro ρ S' ⟨nc, rfl, b3, b4, rfl⟩
    have hd : (B.filter (clash A)).head? = none := by
      rw [List.filter_eq_nil_iff.mpr (fun v hv => by rw [nc v hv]; decide)]; rfl
    have items : gSortItems (.loc S.length) (S ++ [.dic (wKV (A ++ B.filter (newIn A)))]) = some (WS (A ++ B.filter (newIn A))) := by
      have ep : (wKV (A ++ B.filter (newIn A))).map pairT = (A ++ B.filter (newIn A)).map wP := by unfold wKV; rw [List.map_map]; rfl
      have bl : (B.filter (newIn A)).length ≤ B.length := List.length_filter_le ..
      have so : sortOk ((A ++ B.filter (newIn A)).map wP) = true := sort_b (A ++ B.filter (newIn A)) (by rw [List.length_append]; omega)
      have nk : ((wKV (A ++ B.filter (newIn A))).all fun kv => (nkey kv.2).isSome) = true := by
        rw [List.all_eq_true]
        intro kv h
        obtain ⟨w, _, rfl⟩ := List.mem_map.mp h
        rfl
      have ok : itemsOk (wKV (A ++ B.filter (newIn A))) = true := by
        simp only [itemsOk, wKV_keys, nk, ep, so, Bool.and_self]
      have vd : viewD (S ++ [.dic (wKV (A ++ B.filter (newIn A)))]) (.loc S.length) = some (wKV (A ++ B.filter (newIn A))) := by simp [viewD]
      unfold gSortItems
      rw [vd, Option.bind_some, if_pos ok, ep]; rfl
    simp [items, joinOut, hd]
/-! ### sorted words, in one way -/
theorem ws_perm {u v : Ws} (p : u.Perm v) : WS u = WS v := by
  refine sortP_perm (p.map wP) (fun x hx => ?_) fun x hx y hy => ?_
  · obtain ⟨m, _, rfl⟩ := List.mem_map.mp hx
    exact keyT_key (bl_keyT m)
  · obtain ⟨m, _, rfl⟩ := List.mem_map.mp hx
    obtain ⟨m2, _, rfl⟩ := List.mem_map.mp hy
    exact bl_alike m m2
theorem ws_v (u : Ws) : ∃ v : Ws, WS u = v.map wP ∧ v.Perm u := by
  obtain ⟨v, pv, ev⟩ := sortP_map wP u
  exact ⟨v, ev, pv⟩
theorem wP_map_inj {a b : Ws} (h : a.map wP = b.map wP) : a = b := (List.map_inj_right fun x y e => bP_inj e).mp h
end K5

set_option linter.all false
set_option autoImplicit false
namespace K5
open PySem Fp
set_option maxRecDepth 100000
set_option maxHeartbeats 4100000
def nameOr : Option Nm → PyData
  | some n => nmP n
  | none => .none
/-- the first clash -/
def clashAt (A B : Ws) : Option Nm := ((B.filter (clash A)).head?).map (·.1)
theorem refused_is (A B : Ws) (ndA : (A.map (·.1)).Nodup) (ndB : (B.map (·.1)).Nodup) (few : A.length + B.length ≤ 900) (S : Store) : fx__law_refused [.p (wsP A), .p (wsP B)] S = .ok (.p (nameOr (clashAt A B))) S := by
  have j := fun S => joined_is A B ndA ndB few S
  unfold fx__law_refused m__law_refused
  simp only [v_fx, List.replicate, List.map_cons, List.map_nil, List.length_cons, List.length_nil, List.cons_append, List.nil_append, v_seq, v_asg, v_c, v_toS, v_nameS, v_name0, Option.map_some, v_sq_nx, v_tryF, v_expr]
  unfold clashAt
  cases e : (B.filter (clash A)).head? with
  | none =>
    have j' : ∀ S, fx_words_joined [.p (wsP A), .p (wsP B)] S = .ok (.p (.tuple (WS (A ++ B.filter (newIn A))))) S := fun S => by rw [j]; unfold joinOut; rw [e]
    simp [sigOk, order, reord, vals, List.lookup, j', nameOr]
  | some w =>
    have j' : ∀ S, fx_words_joined [.p (wsP A), .p (wsP B)] S = .exc (noName w.1) S := fun S => by rw [j]; unfold joinOut; rw [e]
    simp [sigOk, order, reord, vals, List.lookup, j', nameOr, noName]
/-- words of names that rise as these -/
structure WOk (N : List Nm) (A : Ws) : Prop where
  sub : (A.map (·.1)).Sublist N
theorem WOk.nd {N : List Nm} {A : Ws} (h : WOk N A) (nd : N.Nodup) : (A.map (·.1)).Nodup := h.sub.nodup nd
theorem WOk.len {N : List Nm} {A : Ws} (h : WOk N A) : A.length ≤ N.length := by have := h.sub.length_le; simpa using this
theorem WOk.part {N : List Nm} {A B : Ws} (h : WOk N A) (s : B.Sublist A) : WOk N B := ⟨(s.map _).trans h.sub⟩
theorem WOk.nil (N : List Nm) : WOk N [] := ⟨List.nil_sublist _⟩
def unlike (A B : Ws) (n : Nm) : Bool := match wordFor A n, wordFor B n with
  | some x, some y => decide (x ≠ y)
  | _, _ => false
theorem unlike_comm (A B : Ws) (n : Nm) : unlike A B n = unlike B A n := by
  unfold unlike
  cases wordFor A n <;> cases wordFor B n <;> simp [eq_comm]
theorem sub_head {N l : List Nm} (s : l.Sublist N) (nd : N.Nodup) (p : Nm → Bool) (h : ∀ n ∈ N, p n = true → n ∈ l) : (l.filter p).head? = (N.filter p).head? := by
  have : l.filter p = N.filter p := by
    refine (s.filter p).eq_of_length_le ?_
    exact nodup_len _ _ (nd.sublist List.filter_sublist) fun x hx => by
      obtain ⟨h1, h2⟩ := List.mem_filter.mp hx
      exact List.mem_filter.mpr ⟨h x h1 h2, h2⟩
  rw [this]
theorem clash_at {N : List Nm} {A B : Ws} (nd : N.Nodup) (hA : WOk N A) (hB : WOk N B) : clashAt A B = (N.filter (unlike A B)).head? := by
  have ndB := hB.nd nd
  rw [← sub_head hB.sub nd (unlike A B) fun n _ hn => by
    unfold unlike at hn
    cases e : wordFor B n with
    | none => rw [e] at hn; revert hn; cases wordFor A n <;> simp
    | some y => exact List.mem_map.mpr ⟨_, (wordFor_some ndB).mp e, rfl⟩]
  unfold clashAt
  rw [List.filter_map, List.head?_map]
  refine congrArg (fun l => Option.map _ (List.head? l)) (List.filter_congr fun w hw => ?_)
  have : wordFor B w.1 = some w.2 := (wordFor_some ndB).mpr hw
  show clash A w = unlike A B w.1
  unfold clash unlike
  rw [this]
  cases wordFor A w.1 <;> rfl
theorem eqv_nm_none (n : Nm) : PyData.eqv (nmP n) .none = false := by simp [nmP, PyData.eqv]
theorem or_refl (o : Option Nm) : PyData.eqv (nameOr o) (nameOr o) = true := by
  cases o with
  | none => rfl
  | some n => show PyData.eqv (nmP n) (nmP n) = true; rw [nm_eqv]; simp
theorem or_ok (o : Option Nm) : okD (nameOr o) = true := by
  cases o with
  | none => rfl
  | some n => exact nm_ok n
/-- words that fit what is due -/
theorem in_noneOr {u x : PyData} (hu : okD u = true) (hx : okD x = true) (S : Store) : bIn true (.p u) (.p (.tuple [.none, x])) S = some (!(PyData.eqv .none u || PyData.eqv x u)) := by
  have h1 := okD_plain hx
  have h2 := okD_depth hx
  have h3 : PyData.depth .none ≤ 60 := by decide
  simp [bIn, view, hu, PyData.plainAll, PyData.plain, PyData.depthAll, h1]
  exact Nat.max_le.mpr ⟨h3, h2⟩
theorem clash_right_is {N : List Nm} {A B : Ws} (nd : N.Nodup) (few : N.length ≤ 100) (hA : WOk N A) (hB : WOk N B) (S : Store) : fx__law_clash_right [.p (wsP A), .p (wsP B)] S = .ok (.p (.bool true)) S := by
  have lA := hA.len
  have lB := hB.len
  have ndA := hA.nd nd
  have ndB := hB.nd nd
  have sl := sl1000
  have r1 := fun S => refused_is A B ndA ndB (by omega) S
  have r2 := fun S => refused_is B A ndB ndA (by omega) S
  have lwi := fun n S => last_word_is B n S
  have h1 := clash_at nd hA hB
  have h2 := clash_at nd hB hA
  have uc : unlike B A = unlike A B := funext fun n => (unlike_comm A B n).symm
  rw [uc] at h2
  unfold fx__law_clash_right m__law_clash_right
  simp only [v_fx, List.replicate, List.map_cons, List.map_nil, List.length_cons, List.length_nil, List.cons_append, List.nil_append, v_seq, v_asg]
  rw [comp_rule (l := A) (e := fun w => .p (wP w)) (p := fun w => unlike A B w.1) (g := fun w => nmP w.1) (a := itP (A.map wP))]
  rotate_left
  · simp [wsP]
  · have := walk_P (A.map wP)
    rw [List.map_map] at this
    exact this.c _
  · omega
  · intro w hw acc
    refine ⟨[some (.p (wsP A)), some (.p (wsP B)), none, none, some (.p (nmP w.1)), some (.p (.str w.2))], by simp [v_wipeS, v_wipe0, wP], ?_, fun _ => by simp⟩
    have e1 : mkTup [.p .none, .p (.str w.2)] = .p (.tuple [.none, .str w.2]) := id rfl
    have inn := fun S => in_noneOr (lw_ok B w.1) (ok_str w.2) S
    have val : (!(PyData.eqv .none (lw B w.1) || PyData.eqv (.str w.2) (lw B w.1))) = unlike A B w.1 := by
      unfold unlike
      rw [(wordFor_some ndA).mpr hw, lw_for]
      cases wordFor B w.1 with
      | none => rfl
      | some y =>
        simp only [eqv_str]
        have : PyData.eqv .none (.str y) = false := by simp [PyData.eqv]
        rw [this]
        simp
    simp [sigOk, order, reord, vals, List.lookup, lwi, e1, inn, val]
  have e2 : (A.filter fun w => unlike A B w.1).map (fun w => nmP w.1) = ((A.map (·.1)).filter (unlike A B)).map nmP := by rw [List.filter_map, List.map_map]; rfl
  have hd : ((A.map (·.1)).filter (unlike A B)).head? = (N.filter (unlike A B)).head? := sub_head hA.sub nd _ fun n _ hn => by
    unfold unlike at hn
    cases e : wordFor A n with
    | none => rw [e] at hn; cases hn
    | some y => exact List.mem_map.mpr ⟨_, (wordFor_some ndA).mp e, rfl⟩
  rw [e2]
  have fin : ∀ o : Option Nm, ∀ S, bCmp .Eq (.p (.list [nameOr o, nameOr o])) (.p (.list [nameOr o, nameOr o])) S = some true := fun o S => by
    have ok : okD (.list [nameOr o, nameOr o]) = true := by
      cases o <;> simp [nameOr, okD, PyData.plain, PyData.plainAll, PyData.depth, PyData.depthAll, nmP]
    rw [cmp_eq S ok ok]
    simp [PyData.eqv, PyData.eqvAll, or_refl]
  have nl : ∀ l : List Nm, ∀ S, bCmp .NotEq (.p (.list (l.map nmP))) (.p (.list [])) S = some (!l.isEmpty) := fun l S => by
    rw [cmp_ne S (ok_nms l) rfl, nms_empty]
  have ap0 : allP [] = some [] := rfl
  cases hl : (A.map (·.1)).filter (unlike A B) with
  | nil =>
    rw [hl] at hd
    have hz : (N.filter (unlike A B)).head? = none := hd.symm
    rw [hz] at h1 h2
    have f0 : ∀ S, bCmp .Eq (.p (.list [nameOr none, nameOr none])) (.p (.list [.none, .none])) S = some true := fun S => fin none S
    have n0 : ∀ S, bCmp .NotEq (.p (.list [])) (.p (.list [])) S = some false := fun S => nl [] S
    simp [sigOk, order, reord, vals, List.lookup, r1, r2, h1, h2, n0, f0]
  | cons n r =>
    rw [hl] at hd
    have hz : (N.filter (unlike A B)).head? = some n := hd.symm
    rw [hz] at h1 h2
    have ix := fun S => ix_hd (r.map nmP) (nmP n) S
    have n1 := fun S => nl (n :: r) S
    simp only [List.map_cons] at n1
    have f1 : ∀ S, bCmp .Eq (.p (.list [nameOr (some n), nameOr (some n)])) (.p (.list [nmP n, nmP n])) S = some true := fun S => fin (some n) S
    simp [sigOk, order, reord, vals, List.lookup, r1, r2, h1, h2, n1, ix, f1]
end K5

set_option linter.all false
set_option autoImplicit false
namespace K5
open PySem Fp
set_option maxRecDepth 100000
set_option maxHeartbeats 4100000
theorem in_any {α : Type} [DecidableEq α] {f : α → PyData} (inj : ∀ a b, PyData.eqv (f a) (f b) = decide (a = b)) (l : List α) (x : α) : ((l.map f).any fun y => PyData.eqv y (f x)) = decide (x ∈ l) := by
  rw [Bool.eq_iff_iff, decide_eq_true_eq, List.any_eq_true]
  constructor
  · rintro ⟨y, hy, e⟩
    obtain ⟨z, hz, rfl⟩ := List.mem_map.mp hy
    rw [inj] at e
    exact of_decide_eq_true e ▸ hz
  · intro h
    exact ⟨f x, List.mem_map.mpr ⟨x, h, rfl⟩, by rw [inj]; exact decide_eq_true rfl⟩
theorem okL {xs : List PyData} (h : okD (.list xs) = true) : PyData.plainAll xs = true ∧ PyData.depthAll xs ≤ 60 := by
  have h1 := okD_plain h
  have h2 := okD_depth h
  rw [PyData.plain] at h1
  rw [PyData.depth] at h2
  exact ⟨h1, Nat.le_trans (Nat.le_succ _) h2⟩
theorem in_list {α : Type} [DecidableEq α] {f : α → PyData} (neg : Bool) (inj : ∀ a b, PyData.eqv (f a) (f b) = decide (a = b)) (l : List α) (x : α) (ok : okD (f x) = true) (okl : okD (.list (l.map f)) = true) (S : Store) : bIn neg (.p (f x)) (.p (.list (l.map f))) S = some (xor neg (decide (x ∈ l))) := by
  obtain ⟨h1, h2⟩ := okL okl
  simp only [bIn, view, ok, h1, decide_eq_true h2, Bool.and_self, if_true, in_any inj]
theorem in_tup {α : Type} [DecidableEq α] {f : α → PyData} (neg : Bool) (inj : ∀ a b, PyData.eqv (f a) (f b) = decide (a = b)) (l : List α) (x : α) (ok : okD (f x) = true) (okl : okD (.list (l.map f)) = true) (S : Store) : bIn neg (.p (f x)) (.p (.tuple (l.map f))) S = some (xor neg (decide (x ∈ l))) := by
  obtain ⟨h1, h2⟩ := okL okl
  simp only [bIn, view, ok, h1, decide_eq_true h2, Bool.and_self, if_true, in_any inj]
def natP (k : Nat) : PyData := .int (k : Int)
theorem nat_eqv (a b : Nat) : PyData.eqv (natP a) (natP b) = decide (a = b) := by
  unfold natP
  rw [eqv_int, Bool.eq_iff_iff]
  simp only [decide_eq_true_eq]
  omega
theorem natsP_eq (l : List Nat) : natsP l = l.map natP := rfl
theorem in_natsL (neg : Bool) (l : List Nat) (k : Nat) (S : Store) : bIn neg (.p (.int (k : Int))) (.p (.list (natsP l))) S = some (xor neg (decide (k ∈ l))) := in_list neg nat_eqv l k (ok_int _) (nats_ok l) S
theorem in_natsT (neg : Bool) (l : List Nat) (k : Nat) (S : Store) : bIn neg (.p (.int (k : Int))) (.p (.tuple (natsP l))) S = some (xor neg (decide (k ∈ l))) := in_tup neg nat_eqv l k (ok_int _) (nats_ok l) S
theorem in_nms (neg : Bool) (l : List Nm) (n : Nm) (S : Store) : bIn neg (.p (nmP n)) (.p (.list (l.map nmP))) S = some (xor neg (decide (n ∈ l))) := by
  rw [in_list neg nm_eqv l n (nm_ok n) (ok_nms l) S]; congr
theorem in_bl (neg : Bool) (l : Bl_) (m : Nm × Str) (S : Store) : bIn neg (.p (bP m)) (.p (blP l)) S = some (xor neg (decide (m ∈ l))) := by
  show bIn neg (.p (bP m)) (.p (.tuple (l.map bP))) S = _
  rw [in_tup neg bl_eqv l m (bl_okD m) (bl_tame_ok l) S]; congr
theorem eqvAll_refl {α : Type} {f : α → PyData} (h : ∀ a, PyData.eqv (f a) (f a) = true) : ∀ l : List α, PyData.eqvAll (l.map f) (l.map f) = true
  | [] => by simp [PyData.eqvAll]
  | a :: l => by simp [PyData.eqvAll, h a, eqvAll_refl h l]
theorem eqv_listR {α : Type} {f : α → PyData} (h : ∀ a, PyData.eqv (f a) (f a) = true) (l : List α) : PyData.eqv (.list (l.map f)) (.list (l.map f)) = true := by simp [PyData.eqv, eqvAll_refl h l]
theorem eqv_tupR {α : Type} {f : α → PyData} (h : ∀ a, PyData.eqv (f a) (f a) = true) (l : List α) : PyData.eqv (.tuple (l.map f)) (.tuple (l.map f)) = true := by simp [PyData.eqv, eqvAll_refl h l]
theorem eqv_natsL (l : List Nat) : PyData.eqv (.list (natsP l)) (.list (natsP l)) = true := eqv_listR (f := natP) (fun a => by simp [natP]) l
theorem eqv_natsT (l : List Nat) : PyData.eqv (.tuple (natsP l)) (.tuple (natsP l)) = true := eqv_tupR (f := natP) (fun a => by simp [natP]) l
theorem eqv_bls (l : Bl_) : PyData.eqv (.list (l.map bP)) (.list (l.map bP)) = true := eqv_listR (fun a => by rw [bl_eqv]; simp) l
theorem eqv_bool (a b : Bool) : PyData.eqv (.bool a) (.bool b) = (a == b) := by cases a <;> cases b <;> simp [PyData.eqv]
theorem ok_bool (a : Bool) : okD (.bool a) = true := rfl
theorem cmp_bool (a b : Bool) (S : Store) : bCmp .Eq (.p (.bool a)) (.p (.bool b)) S = some (a == b) := by rw [cmp_eq S (ok_bool a) (ok_bool b), eqv_bool]
theorem cmp_boolN (a b : Bool) (S : Store) : bCmp .NotEq (.p (.bool a)) (.p (.bool b)) S = some (a != b) := by rw [cmp_ne S (ok_bool a) (ok_bool b), eqv_bool]; rfl
@[simp] theorem v_listT (xs : List PyData) (S : Store) : Bl.g .list [.p (.tuple xs)] S = some xs := id rfl
theorem nats_okT (l : List Nat) : okD (.tuple (natsP l)) = true := by
  have h1 : PyData.plainAll (natsP l) = true := all_plain fun x hx => by obtain ⟨k, _, rfl⟩ := List.mem_map.mp hx; rfl
  have h2 : PyData.depthAll (natsP l) ≤ 0 := all_depth fun x hx => by obtain ⟨k, _, rfl⟩ := List.mem_map.mp hx; exact Nat.le_refl _
  simp [okD, PyData.plain, PyData.depth, h1]
  omega
theorem mem_standing {ws : Ws} {wrs : List Wr} {k : Nat} : k ∈ standing ws wrs ↔ ∃ w, wrs[k]? = some w ∧ stands ws w = true := by
  unfold standing
  rw [List.mem_map]
  constructor
  · rintro ⟨x, hx, rfl⟩
    obtain ⟨h1, h2⟩ := List.mem_filter.mp hx
    exact ⟨x.1, List.mem_zipIdx_iff_getElem?.mp h1, h2⟩
  · rintro ⟨w, h1, h2⟩
    exact ⟨(w, k), List.mem_filter.mpr ⟨List.mem_zipIdx_iff_getElem?.mpr h1, h2⟩, rfl⟩
theorem sl_wr (w : Wr) (S : Store) : gSl (.p (wrP w)) none (some 2) S = some (.p (bP (w.1, w.2.1))) := id rfl
theorem nats_walk (l : List Nat) (C : Store → Prop) : WalkC C (itP (natsP l)) (l.map fun (k : Nat) => D.p (.int (k : Int))) := by
  have := walk_P (natsP l)
  unfold natsP at this
  rw [List.map_map] at this
  exact this.c _
theorem sort_set_mk (u : Bl_) (hl : u.length ≤ 63) (S : Store) : gSortSet [.p (.list (u.map bP))] S = some (MK u) := by
  obtain ⟨so, _⟩ := mk_is u hl
  have ks : (u.map bP).all keyT = true := by
    rw [List.all_eq_true]
    intro x hx
    obtain ⟨m, _, rfl⟩ := List.mem_map.mp hx
    exact bl_keyT m
  have st : setOk (u.map bP) = true := by
    simp only [setOk, ks, Bool.and_true, decide_eq_true_eq, List.length_map]; omega
  show (itemsD S (.p (.list (u.map bP)))).bind (fun xs => if setOk xs && sortOk (dedupP xs) then some (sortP (dedupP xs)) else none) = _
  show (some (u.map bP)).bind (fun xs => if setOk xs && sortOk (dedupP xs) then some (sortP (dedupP xs)) else none) = _
  rw [Option.bind_some, if_pos (by rw [st, so]; rfl)]; rfl
end K5

set_option linter.all false
set_option autoImplicit false
namespace K5
open PySem Fp
set_option maxRecDepth 100000
set_option maxHeartbeats 4100000
theorem fl_none {α : Type} (l : List α) : l.filter (fun _ => false) = [] := List.filter_eq_nil_iff.mpr fun _ _ => by decide
/-- v has just the words of A and of B, sorted -/
structure Jn (A B v : Ws) : Prop where
  nd : (v.map (·.1)).Nodup
  mem : ∀ w, w ∈ v ↔ w ∈ A ∨ w ∈ B
  so : WS v = v.map wP
theorem nodup_of_names {v : Ws} (h : (v.map (·.1)).Nodup) : v.Nodup := List.Pairwise.of_map (·.1) (fun a b h z => h (z ▸ rfl)) h
theorem same_sorted {v v' : Ws} (n : (v.map (·.1)).Nodup) (n' : (v'.map (·.1)).Nodup) (s : WS v = v.map wP) (s' : WS v' = v'.map wP) (h : ∀ w, w ∈ v ↔ w ∈ v') : v = v' := by
  have p : v.Perm v' := (List.perm_ext_iff_of_nodup (nodup_of_names n) (nodup_of_names n')).mpr h
  exact wP_map_inj (by rw [← s, ← s', ws_perm p])
theorem names_inj {W : Ws} (nd : (W.map (·.1)).Nodup) {a b : Nm × Str} (ha : a ∈ W) (hb : b ∈ W) (e : a.1 = b.1) : a = b := by
  have h1 := (wordFor_some nd).mpr (show (a.1, a.2) ∈ W from ha)
  have h2 := (wordFor_some nd).mpr (show (b.1, b.2) ∈ W from hb)
  rw [e, h2] at h1
  exact Prod.ext e (Option.some.inj h1).symm
theorem joined_in {W : Ws} (nd : (W.map (·.1)).Nodup) (few : W.length ≤ 400) {A B : Ws} (ndA : (A.map (·.1)).Nodup) (ndB : (B.map (·.1)).Nodup) (sA : ∀ w ∈ A, w ∈ W) (sB : ∀ w ∈ B, w ∈ W) :
    ∃ v, Jn A B v ∧ (∀ w ∈ v, w ∈ W) ∧ ∀ S, fx_words_joined [.p (wsP A), .p (wsP B)] S = .ok (.p (wsP v)) S := by
  have lA : A.length ≤ W.length := nodup_len A W (nodup_of_names ndA) sA
  have lB : B.length ≤ W.length := nodup_len B W (nodup_of_names ndB) sB
  have nc : B.filter (clash A) = [] := by
    rw [List.filter_eq_nil_iff]
    intro w hw
    unfold clash
    cases e : wordFor A w.1 with
    | none => simp
    | some x =>
      have := names_inj nd (sA _ ((wordFor_some ndA).mp e)) (sB w hw) rfl
      have : x = w.2 := congrArg Prod.snd this
      simp [this]
  have ndf : ((A ++ B.filter (newIn A)).map (·.1)).Nodup := by
    rw [List.map_append]; rw [List.nodup_append]
    refine ⟨ndA, ndB.sublist (List.filter_sublist.map _), fun a ha b hb z => ?_⟩
    obtain ⟨w, hw, rfl⟩ := List.mem_map.mp hb
    exact newIn_iff.mp (List.mem_filter.mp hw).2 (z ▸ ha)
  obtain ⟨v, ev, pv⟩ := ws_v (A ++ B.filter (newIn A))
  have mem : ∀ w, w ∈ v ↔ w ∈ A ∨ w ∈ B := fun w => by
    rw [pv.mem_iff, List.mem_append, List.mem_filter]
    constructor
    · rintro (h | h)
      · exact .inl h
      · exact .inr h.1
    · rintro (h | h)
      · exact .inl h
      · by_cases c : newIn A w = true
        · exact .inr ⟨h, c⟩
        · left
          have : w.1 ∈ A.map (·.1) := Decidable.byContradiction fun z => c (newIn_iff.mpr z)
          obtain ⟨u, hu, e⟩ := List.mem_map.mp this
          exact names_inj nd (sA u hu) (sB w h) e ▸ hu
  refine ⟨v, ⟨((pv.map _).nodup_iff).mpr ndf, mem, by rw [ws_perm pv, ev]⟩, fun w hw => ((mem w).mp hw).elim (sA w) (sB w), fun S => ?_⟩
  rw [joined_is A B ndA ndB (by omega) S]
  unfold joinOut
  rw [nc]
  show Out.ok (D.p (.tuple (WS (A ++ B.filter (newIn A))))) S = _
  rw [ev]; rfl
theorem in_gen (neg : Bool) (u : PyData) (l : List PyData) (hu : okD u = true) (hl : okD (.list l) = true) (S : Store) : bIn neg (.p u) (.p (.list l)) S = some (xor neg (l.any fun y => PyData.eqv y u)) := by
  obtain ⟨h1, h2⟩ := okL hl
  simp only [bIn, view, hu, h1, decide_eq_true h2, Bool.and_self, if_true]
theorem wp_eqv (a b : Nm × Str) : PyData.eqv (wP a) (wP b) = decide (a = b) := bl_eqv a b
theorem wsP_bl (v : Ws) : wsP v = blP v := rfl
/-- what is true of words in hand -/
def goodW (W : Ws) : Prop := ∀ w ∈ W, nmOk w.1 ∧ shortS w.2 = true
theorem lw_has {A : Ws} (nd : (A.map (·.1)).Nodup) {n : Nm} {x : Str} (h : (n, x) ∈ A) : lw A n = .str x := by rw [lw_for, (wordFor_some nd).mpr h]
theorem lw_ok3 (a b c : Ws) (n : Nm) : okD (.list [lw a n, lw b n, lw c n]) = true := by
  simp only [lw_for]
  cases wordFor a n <;> cases wordFor b n <;> cases wordFor c n <;> rfl
theorem joined_right_is {W : Ws} (nd : (W.map (·.1)).Nodup) (few : W.length ≤ 13) (gw : goodW W) {one two three : Ws} (n1 : (one.map (·.1)).Nodup) (n2 : (two.map (·.1)).Nodup) (n3 : (three.map (·.1)).Nodup) (s1 : ∀ w ∈ one, w ∈ W) (s2 : ∀ w ∈ two, w ∈ W) (s3 : ∀ w ∈ three, w ∈ W) (S : Store) :
    fx__law_joined_right [.p (.tuple [wsP one, wsP two, wsP three])] S = .ok (.p (.bool true)) S := by
  have sl := sl1000
  obtain ⟨v23, j23, i23, c23⟩ := joined_in nd (by omega) n2 n3 s2 s3
  obtain ⟨v, jv, iv, cv⟩ := joined_in nd (by omega) n1 j23.nd s1 i23
  have all : ∀ w, w ∈ v ↔ w ∈ one ∨ w ∈ two ∨ w ∈ three := fun w => by rw [jv.mem, j23.mem]
  obtain ⟨v32, j32, i32, c32⟩ := joined_in nd (by omega) n3 n2 s3 s2
  obtain ⟨u1, k1, _, d1⟩ := joined_in nd (by omega) j32.nd n1 i32 s1
  obtain ⟨v13, j13, i13, c13⟩ := joined_in nd (by omega) n1 n3 s1 s3
  obtain ⟨u2, k2, _, d2⟩ := joined_in nd (by omega) n2 j13.nd s2 i13
  obtain ⟨u3, k3, _, d3⟩ := joined_in nd (by omega) jv.nd n1 iv s1
  obtain ⟨u4, k4, _, d4⟩ := joined_in nd (by omega) jv.nd jv.nd iv iv
  obtain ⟨u5, k5, _, d5⟩ := joined_in (A := []) nd (by omega) List.nodup_nil jv.nd (fun _ h => by cases h) iv
  obtain ⟨u6, k6, _, d6⟩ := joined_in (B := []) nd (by omega) jv.nd List.nodup_nil iv (fun _ h => by cases h)
  obtain rfl : u1 = v := same_sorted k1.nd jv.nd k1.so jv.so fun w => by
    rw [all, k1.mem, j32.mem]
    constructor
    · rintro ((h | h) | h)
      · exact .inr (.inr h)
      · exact .inr (.inl h)
      · exact .inl h
    · rintro (h | h | h)
      · exact .inr h
      · exact .inl (.inr h)
      · exact .inl (.inl h)
  obtain rfl : u2 = u1 := same_sorted k2.nd jv.nd k2.so jv.so fun w => by
    rw [all, k2.mem, j13.mem]
    constructor
    · rintro (h | h | h)
      · exact .inr (.inl h)
      · exact .inl h
      · exact .inr (.inr h)
    · rintro (h | h | h)
      · exact .inr (.inl h)
      · exact .inl h
      · exact .inr (.inr h)
  obtain rfl : u3 = u2 := same_sorted k3.nd jv.nd k3.so jv.so fun w => by
    rw [k3.mem]
    exact ⟨fun h => h.elim id fun z => (all w).mpr (.inl z), .inl⟩
  obtain rfl : u4 = u3 := same_sorted k4.nd jv.nd k4.so jv.so fun w => by rw [k4.mem, or_self]
  obtain rfl : u5 = u4 := same_sorted k5.nd jv.nd k5.so jv.so fun w => by rw [k5.mem]; simp
  obtain rfl : u6 = u5 := same_sorted k6.nd jv.nd k6.so jv.so fun w => by rw [k6.mem]; simp
  have lv : u6.length ≤ W.length := nodup_len u6 W (nodup_of_names jv.nd) iv
  have tm : Tame 3 10806 (wsP u6) := tame_ws (fun w hw => gw w (iv w hw)) (by omega)
  have rp := fun S => v_repr S (tm.showOk (by decide) (by rw [sizeLine_eq]; decide))
  have ne : ∀ S, bCmp .NotEq (.p (.str (wsP u6).shown)) (.p (.str (wsP u6).shown)) S = some false := fun S => by rw [cmp_ne S (ok_str _) (ok_str _), eqv_str]; simp
  have nl : ∀ S, bCmp .NotEq (.p (.list [])) (.p (.list [])) S = some false := fun S => by rw [cmp_ne S rfl rfl]; rfl
  have nq : ∀ S, bCmp .Eq (.p (.list [])) (.p (.list [])) S = some true := fun S => by rw [cmp_eq S rfl rfl]; rfl
  have e0 : mkTup [] = .p (wsP []) := rfl
  unfold fx__law_joined_right m__law_joined_right
  simp only [v_fx, List.replicate, List.map_cons, List.map_nil, List.length_cons, List.length_nil, List.cons_append, List.nil_append]
  have z3 : 3 ≤ sizeLine := by omega
  have z6 : 6 ≤ sizeLine := by omega
  simp [sigOk, order, reord, vals, List.lookup, c23, cv, c32, d1, c13, d2, d3, d4, d5, d6, e0, z3, z6]
  rw [comp_rule (l := [(), (), (), (), (), ()]) (e := fun _ => .p (wsP u6)) (p := fun _ => false) (g := fun _ => wsP u6) (a := itP [wsP u6, wsP u6, wsP u6, wsP u6, wsP u6, wsP u6])]
  rotate_left
  · simp
  · exact (walk_P [wsP u6, wsP u6, wsP u6, wsP u6, wsP u6, wsP u6]).c _
  · show 6 ≤ _; omega
  · intro x _ acc
    refine ⟨_, by simp [v_wipeS, v_wipe0]; rfl, by simp [rp, ne], fun h => by cases h⟩
  simp only [List.filter_cons, List.filter_nil, Bool.false_eq_true, if_false, List.map_nil, v_bind, v_frz, v_disp, v_nil, v_of, List.length_nil, Nat.zero_le, if_true, v_allP0, nl, v_toS, v_sq_nx, v_sN, v_seq]
  refine for_leave u6 (fun w => .p (wP w)) (fun done ρ S' => S' = S ∧ ∃ b6 b7, ρ = [some (.p (.tuple [wsP one, wsP two, wsP three])), some (.p (wsP one)), some (.p (wsP two)), some (.p (wsP three)), some (.p (wsP u6)), some (.p (.list [wsP u6, wsP u6, wsP u6, wsP u6, wsP u6, wsP u6])), b6, b7, none, none, none]) (a := itP (u6.map wP)) (S := S) ?s1 ?w1 ?f1 ?t1 ?l1
  case s1 => simp [wsP]
  case w1 =>
    have := walk_P (u6.map wP)
    rw [List.map_map] at this
    exact this.c _
  case f1 => exact ⟨rfl, _, _, rfl⟩
  case t1 =>
    rintro done w rest hr ρ S' ⟨rfl, b6, b7, rfl⟩
    have wv : w ∈ u6 := by rw [hr]; simp
    refine ⟨[some (.p (.tuple [wsP one, wsP two, wsP three])), some (.p (wsP one)), some (.p (wsP two)), some (.p (wsP three)), some (.p (wsP u6)), some (.p (.list [wsP u6, wsP u6, wsP u6, wsP u6, wsP u6, wsP u6])), some (.p (nmP w.1)), some (.p (.str w.2)), none, none, none], by simp [wP], ?_⟩
    have lwi := fun S => last_word_is u6 w.1 S
    rw [lw_has jv.nd (show (w.1, w.2) ∈ u6 from wv)] at lwi
    have c1 : ∀ S, bCmp .NotEq (.p (.str w.2)) (.p (.str w.2)) S = some false := fun S => by rw [cmp_ne S (ok_str _) (ok_str _), eqv_str]; simp
    refine turns_of (.nx [some (.p (.tuple [wsP one, wsP two, wsP three])), some (.p (wsP one)), some (.p (wsP two)), some (.p (wsP three)), some (.p (wsP u6)), some (.p (.list [wsP u6, wsP u6, wsP u6, wsP u6, wsP u6, wsP u6])), some (.p (nmP w.1)), some (.p (.str w.2)), none, none, none] S') ?_ ⟨rfl, _, _, rfl⟩
    simp [sigOk, order, reord, vals, List.lookup, lwi, c1]
    rw [comp_rule (l := [one, two, three]) (e := fun P => .p (wsP P)) (p := fun _ => true) (g := fun P => lw P w.1) (a := itP [wsP one, wsP two, wsP three])]
    rotate_left
    · simp
    · exact (walk_P [wsP one, wsP two, wsP three]).c _
    · show 3 ≤ _; omega
    · intro P _ acc
      have lp := fun S => last_word_is P w.1 S
      refine ⟨_, by simp [v_wipeS, v_wipe0]; rfl, by simp, fun _ => by simp [sigOk, order, reord, vals, List.lookup, lp]⟩
    have hin : ([lw one w.1, lw two w.1, lw three w.1].any fun y => PyData.eqv y (.str w.2)) = true := by
      have e : ∀ {A : Ws}, (A.map (·.1)).Nodup → w ∈ A → PyData.eqv (lw A w.1) (.str w.2) = true := fun n h => by rw [lw_has n (show (w.1, w.2) ∈ _ from h), eqv_str]; simp
      simp only [List.any_cons, List.any_nil, Bool.or_false, Bool.or_eq_true]
      rcases (all w).mp wv with h | h | h
      · exact .inl (e n1 h)
      · exact .inr (.inl (e n2 h))
      · exact .inr (.inr (e n3 h))
    have inn := fun S => in_gen true (.str w.2) [lw one w.1, lw two w.1, lw three w.1] (ok_str _) (lw_ok3 one two three w.1) S
    rw [hin] at inn
    simp [inn]
  case l1 =>
    rintro ρ S' ⟨rfl, b6, b7, rfl⟩
    have la : one.length ≤ 13 := Nat.le_trans (nodup_len one W (nodup_of_names n1) s1) few
    have lb : two.length ≤ 13 := Nat.le_trans (nodup_len two W (nodup_of_names n2) s2) few
    have lc : three.length ≤ 13 := Nat.le_trans (nodup_len three W (nodup_of_names n3) s3) few
    have z : one.length + two.length ≤ sizeLine := by omega
    have z' : one.length + (two.length + three.length) ≤ sizeLine := by omega
    simp only [v_seq, v_ret, v_b, v_cmp]
    rw [comp_rule (l := one ++ two ++ three) (e := fun w => .p (wP w)) (p := fun _ => false) (g := fun w => wP w) (a := itP ((one ++ two ++ three).map wP))]
    rotate_left
    · simp [wsP, z, z', Nat.add_assoc]
    · have := walk_P ((one ++ two ++ three).map wP)
      rw [List.map_map] at this
      exact this.c _
    · rw [List.length_append, List.length_append]; omega
    · intro w hw acc
      have mv : w ∈ u6 := (all w).mpr (by simpa [or_assoc] using hw)
      have inn := fun S => in_bl true u6 w S
      rw [decide_eq_true mv] at inn
      have inn' : ∀ S, bIn true (.p (wP w)) (.p (wsP u6)) S = some false := inn
      refine ⟨_, by simp [v_wipeS, v_wipe0]; rfl, by simp [inn'], fun h => by cases h⟩
    rw [fl_none]
    simp [nq]
end K5

set_option linter.all false
set_option autoImplicit false
namespace K5
open PySem Fp
set_option maxRecDepth 100000
set_option maxHeartbeats 4100000
theorem lw_of {ws : Ws} (nd : (ws.map (·.1)).Nodup) {n : Nm} {x : Str} (h : (n, x) ∈ ws) : lw ws n = .str x := by
  unfold lw
  induction ws with
  | nil => cases h
  | cons w ws ih =>
    have nd : w.1 ∉ ws.map (·.1) ∧ (ws.map (·.1)).Nodup := List.nodup_cons.mp nd
    by_cases c : w.1 = n
    · have : w = (n, x) := by
        have hc := List.mem_cons.mp h
        rcases hc with z | z
        · exact z.symm
        · exact absurd (c ▸ List.mem_map.mpr ⟨(n, x), z, rfl⟩) nd.1
      simp [List.find?, c, this]
    · have hm : (n, x) ∈ ws := by
        have hc := List.mem_cons.mp h
        rcases hc with z | z
        · exact absurd (by rw [← z]) c
        · exact z
      have := ih nd.2 hm
      simp [List.find?, c] at this ⊢
      exact this
theorem lw_none {ws : Ws} {n : Nm} : n ∉ ws.map (·.1) ↔ lw ws n = .none := by
  unfold lw
  cases e : ws.find? fun w => decide (w.1 = n) with
  | none =>
    rw [List.find?_eq_none] at e
    refine ⟨fun _ => rfl, fun _ hm => ?_⟩
    obtain ⟨w, hw, rfl⟩ := List.mem_map.mp hm
    exact e w hw (by simp)
  | some w =>
    have h1 := List.mem_of_find?_eq_some e
    have h2 : w.1 = n := by simpa using List.find?_some e
    refine ⟨fun h => absurd (List.mem_map.mpr ⟨w, h1, h2⟩) h, fun h => by cases h⟩
theorem has_mem {ws : Ws} (nd : (ws.map (·.1)).Nodup) (n : Nm) (x : Str) : has ws n x = decide ((n, x) ∈ ws) := by
  unfold has
  by_cases c : n ∈ ws.map (·.1)
  · obtain ⟨w, hw, rfl⟩ := List.mem_map.mp c
    rw [lw_of nd (show (w.1, w.2) ∈ ws from hw), eqv_str, Bool.eq_iff_iff, decide_eq_true_eq, decide_eq_true_eq]
    constructor
    · intro e; rw [← e]; exact hw
    · intro h
      have := (lw_of nd h).symm.trans (lw_of nd (show (w.1, w.2) ∈ ws from hw))
      injection this with this
      exact this.symm
  · rw [lw_none.mp c]
    have : (n, x) ∉ ws := fun h => c (List.mem_map.mpr ⟨_, h, rfl⟩)
    simp [this, PyData.eqv]
structure More (ws : Ws) (one : Nm) (x : Str) (v : Ws) : Prop where
  nd : (ws.map (·.1)).Nodup
  new : one ∉ ws.map (·.1)
  perm : v.Perm (ws ++ [(one, x)])
theorem More.nd' {ws v : Ws} {one : Nm} {x : Str} (M : More ws one x v) : (v.map (·.1)).Nodup := by
  rw [(M.perm.map _).nodup_iff, List.map_append, List.nodup_append]
  refine ⟨M.nd, by simp, fun a ha b hb z => ?_⟩
  simp at hb
  exact M.new (by rw [← hb, ← z]; exact ha)
theorem More.hasIs {ws v : Ws} {one : Nm} {x : Str} (M : More ws one x v) (n : Nm) (y : Str) : has v n y = (has ws n y || (decide (n = one) && decide (y = x))) := by
  rw [has_mem M.nd', has_mem M.nd, Bool.eq_iff_iff]
  simp only [decide_eq_true_eq, Bool.or_eq_true, Bool.and_eq_true, M.perm.mem_iff, List.mem_append, List.mem_singleton, Prod.mk.injEq]
theorem More.lwIs {ws v : Ws} {one : Nm} {x : Str} (M : More ws one x v) : lw v one = .str x := lw_of M.nd' (M.perm.mem_iff.mpr (by simp))
def hit (one n : Nm) (bs : Bl_) : Bool := decide (n = one) || decide (one ∈ bs.map (·.1))
theorem settled_ne : Str.ofString "taken" ≠ Str.ofString "settled" := by simp
theorem More.fallenS {ws v : Ws} {one : Nm} (M : More ws one (Str.ofString "settled") v) (n : Nm) (bs : Bl_) : fallen v n bs = fallen ws n bs := by
  unfold fallen
  have : (fun m => has v m (Str.ofString "taken")) = fun m => has ws m (Str.ofString "taken") := funext fun m => by rw [M.hasIs]; simp
  exact congrArg (fun f => (n :: bs.map (·.1)).any f) this
theorem More.fallenT {ws v : Ws} {one : Nm} (M : More ws one (Str.ofString "taken") v) (n : Nm) (bs : Bl_) : fallen v n bs = (fallen ws n bs || hit one n bs) := by
  have e : (fun m => has v m (Str.ofString "taken")) = fun m => (has ws m (Str.ofString "taken") || decide (m = one)) := funext fun m => by rw [M.hasIs]; simp
  have h1 : fallen v n bs = (n :: bs.map (·.1)).any fun m => (has ws m (Str.ofString "taken") || decide (m = one)) := by
    rw [← e]; rfl
  have h2 : fallen ws n bs = (n :: bs.map (·.1)).any fun m => has ws m (Str.ofString "taken") := rfl
  rw [h1, h2]
  have h3 : hit one n bs = (n :: bs.map (·.1)).any fun m => decide (m = one) := by
    unfold hit
    rw [Bool.eq_iff_iff]
    simp only [List.any_cons, Bool.or_eq_true, decide_eq_true_eq, List.any_eq_true]
    constructor
    · rintro (h | h)
      · exact .inl h
      · exact .inr ⟨one, h, rfl⟩
    · rintro (h | ⟨m, hm, rfl⟩)
      · exact .inl h
      · exact .inr hm
  rw [h3]
  generalize n :: bs.map (·.1) = l
  induction l with
  | nil => rfl
  | cons m l ih =>
    simp only [List.any_cons, ih]
    cases has ws m (Str.ofString "taken") <;> cases decide (m = one) <;> simp
theorem in_atAll {ws : Ws} {wrs : List Wr} {w : Wr} (h : w ∈ atAll wrs (heart ws wrs)) : w ∈ wrs ∧ stands ws w = true := by
  unfold atAll at h
  obtain ⟨k, hk, e⟩ := List.mem_filterMap.mp h
  obtain ⟨w', h1, h2⟩ := mem_standing.mp (List.mem_filter.mp hk).1
  rw [e] at h1
  cases h1
  exact ⟨List.mem_of_getElem? e, h2⟩
theorem isN (x : PyData) (h : x ≠ .none) (S : Store) : bIs false (.p x) (.p .none) S = some false := by
  cases x <;> first | rfl | exact absurd rfl h
theorem More.fallenG {ws v : Ws} {one : Nm} {x : Str} (M : More ws one x v) (n : Nm) (bs : Bl_) : fallen v n bs = (fallen ws n bs || (decide (x = Str.ofString "taken") && hit one n bs)) := by
  by_cases h : x = Str.ofString "taken"
  · subst h
    rw [M.fallenT, decide_eq_true rfl, Bool.true_and]
  · rw [decide_eq_false h, Bool.false_and, Bool.or_false]
    unfold fallen
    have : (fun m => has v m (Str.ofString "taken")) = fun m => has ws m (Str.ofString "taken") := funext fun m => by rw [M.hasIs, decide_eq_false (p := Str.ofString "taken" = x) (fun z => h z.symm), Bool.and_false, Bool.or_false]
    exact congrArg (fun f => (n :: bs.map (·.1)).any f) this
theorem more_of (ws : Ws) (nd : (ws.map (·.1)).Nodup) (few : ws.length ≤ 800) (w : Nm × Str) (new : w.1 ∉ ws.map (·.1)) : ∃ v, More ws w.1 w.2 v ∧ ∀ S, fx_words_joined [.p (wsP ws), .p (.tuple [wP w])] S = .ok (.p (wsP v)) S := by
  obtain ⟨v, ev, pv⟩ := ws_v (ws ++ [w])
  refine ⟨v, ⟨nd, new, pv⟩, fun S => ?_⟩
  have j := joined_is ws [w] nd (by simp) (by simp; omega) S
  have e := wordFor_none.mpr new
  have c1 : clash ws w = false := by unfold clash; rw [e]
  have c2 : newIn ws w = true := by unfold newIn; rw [e]; rfl
  have : joinOut ws [w] S = .ok (.p (.tuple (WS (ws ++ [w])))) S := by simp [joinOut, c1, c2]
  rw [this, ev] at j
  exact j
theorem unders_no {ws : Ws} {rs : List Rw} {m : Nm × Str} (h : m ∈ undersW ws rs) : has ws m.1 (Str.ofString "taken") = false := by
  have key : ∀ w ∈ heartsW ws rs, fallen ws w.1 w.2.2.2.2 = false := fun w hw => by
    obtain ⟨r, _, h2⟩ := List.mem_flatMap.mp hw
    have := (in_atAll h2).2
    unfold stands at this
    simpa using this
  have got : ∀ w ∈ heartsW ws rs, ∀ n ∈ w.1 :: w.2.2.2.2.map (·.1), has ws n (Str.ofString "taken") = false := fun w hw n hn => by
    have k := key w hw
    unfold fallen at k
    rw [List.any_eq_false] at k
    exact Bool.eq_false_iff.mpr (k n hn)
  unfold undersW marksW at h; rcases List.mem_append.mp h with h | h
  · obtain ⟨w, hw, rfl⟩ := List.mem_map.mp h
    exact got w hw w.1 (by simp)
  · obtain ⟨w, hw, hm⟩ := List.mem_flatMap.mp h
    exact got w hw m.1 (List.mem_cons_of_mem _ (List.mem_map.mpr ⟨m, hm, rfl⟩))
theorem unders_sub {L : Bl_} {ws : Ws} {rs : List Rw} (ok : RwsOk L rs) {m : Nm × Str} (h : m ∈ undersW ws rs) : m ∈ L := by
  unfold undersW marksW at h; rcases List.mem_append.mp h with h | h
  · obtain ⟨w, hw, rfl⟩ := List.mem_map.mp h
    obtain ⟨r, h1, h2⟩ := heartsW_mem hw
    exact ok.mkm r h1 w h2
  · obtain ⟨w, hw, hm⟩ := List.mem_flatMap.mp h
    obtain ⟨r, h1, h2⟩ := heartsW_mem hw
    exact ok.bl r h1 w h2 m hm
@[simp] theorem ix_w0 (w : Nm × Str) (S : Store) : gIx (.p (wP w)) (.p (.int 0)) S = some (.p (nmP w.1)) := id rfl
@[simp] theorem ix_w1 (w : Nm × Str) (S : Store) : gIx (.p (wP w)) (.p (.int 1)) S = some (.p (.str w.2)) := id rfl
def dd : Nm := (Str.ofString "zzzzzzzz", 3)
theorem deed_right_is {L : Bl_} (lL : L.length ≤ 11) {ws fresh : Ws} {rs : List Rw} (ok : RwsOk L rs) (nd : (ws.map (·.1)).Nodup) (few : ws.length ≤ 100) (ff : fresh.length ≤ 100) (new : dd ∉ ws.map (·.1)) (S : Store) :
    fx__law_deed_right [.p (wsP ws), .p (rwsP rs), .p (wsP fresh)] S = .ok (.p (.bool true)) S := by
  have sl := sl1000
  obtain ⟨v, ev, nv, mv⟩ := mk_v (undersW ws rs)
  obtain ⟨u, eu, nu, mu⟩ := mk_v (marksW ws rs)
  have lv : v.length ≤ 11 := Nat.le_trans (nodup_len v L nv fun m hm => unders_sub ok ((mv m).mp hm)) lL
  have lu : u.length ≤ 11 := Nat.le_trans (nodup_len u L nu fun m hm => unders_sub ok (List.mem_append_left _ ((mu m).mp hm))) lL
  have hb : ∀ S, fx_below_resting [.p (wsP ws), .p (rwsP rs)] S = .ok (.p (blP v)) S := fun S => by rw [below_is ws rs ok S, ev]; rfl
  have hr : ∀ S, fx_rests_straight [.p (wsP ws), .p (rwsP rs)] S = .ok (.p (blP u)) S := fun S => by rw [rests_is ws rs ok S, eu]; rfl
  have hdd : has ws dd (Str.ofString "taken") = false := by unfold has; rw [lw_none.mp new]; rfl
  have no : ∀ m ∈ v, has ws m.1 (Str.ofString "taken") = false := fun m hm => unders_no ((mv m).mp hm)
  have fv : fallen ws dd v = false := by
    unfold fallen
    rw [List.any_eq_false]
    intro n hn
    rcases List.mem_cons.mp hn with rfl | h
    · exact Bool.eq_false_iff.mp hdd
    · obtain ⟨m, hm, rfl⟩ := List.mem_map.mp h
      exact Bool.eq_false_iff.mp (no m hm)
  have f0 : fallen ws dd [] = false := by
    unfold fallen
    rw [List.any_eq_false]
    intro n hn
    obtain rfl : n = dd := by simpa using hn
    exact Bool.eq_false_iff.mp hdd
  have r1 := fun S => is_fallen_is ws dd v (by omega) S
  have r0 := fun S => is_fallen_is ws dd [] (by simp) S
  rw [fv] at r1
  rw [f0] at r0
  have e0 : mkTup [] = .p (blP []) := rfl
  have ed : mkTup [.p (.str (Str.ofString "zzzzzzzz")), .p (.int 3)] = .p (nmP dd) := rfl
  have nl : ∀ S, bCmp .NotEq (.p (.list [])) (.p (.list [])) S = some false := fun S => by rw [cmp_ne S rfl rfl]; rfl
  unfold fx__law_deed_right m__law_deed_right
  simp only [v_fx, List.replicate, List.map_cons, List.map_nil, List.length_cons, List.length_nil, List.cons_append, List.nil_append]
  have a1 : sAsg (tTupM 2 (tsCons (tName 3) (tsCons (tName 4) tsNil))) (eTup (aCons (eTup (aCons (eC (.p (.str (Str.ofString "zzzzzzzz")))) (aCons (eC (.p (.int 3))) aNil))) (aCons (eCall [(Str.ofString "words"), (Str.ofString "rows")] [] fx_below_resting [] (aCons (eVar 0) (aCons (eVar 1) aNil)) aNil) aNil)))
      [some (.p (wsP ws)), some (.p (rwsP rs)), some (.p (wsP fresh)), none, none, none, none, none, none, none, none, none, none] S = .nx [some (.p (wsP ws)), some (.p (rwsP rs)), some (.p (wsP fresh)), some (.p (nmP dd)), some (.p (blP v)), none, none, none, none, none, none, none, none] S := by
    simp [sigOk, order, reord, vals, List.lookup, hb]
    rfl
  rw [v_seq, a1, v_sq_nx]
  simp [sigOk, order, reord, vals, List.lookup, r1, r0, e0, hr]
  rw [comp_rule (l := u) (e := fun m => .p (bP m)) (p := fun _ => false) (g := bP) (a := itP (u.map bP))]
  rotate_left
  · simp
  · have := walk_P (u.map bP)
    rw [List.map_map] at this
    exact this.c _
  · omega
  · intro m hm acc
    have mem : m ∈ v := (mv m).mpr (List.mem_append_left _ ((mu m).mp hm))
    have inn := fun S => in_bl true v m S
    rw [decide_eq_true mem] at inn
    exact ⟨_, by simp [v_wipeS, v_wipe0]; rfl, by simp [inn], fun h => by cases h⟩
  rw [fl_none]
  simp [nl]
  rw [comp_rule (l := v) (e := fun m => .p (bP m)) (p := fun _ => false) (g := bP) (a := itP (v.map bP))]
  rotate_left
  · simp
  · have := walk_P (v.map bP)
    rw [List.map_map] at this
    exact this.c _
  · omega
  · intro m hm acc
    refine ⟨_, by simp [v_wipeS, v_wipe0]; rfl, ?_, fun h => by cases h⟩
    simp
    rw [comp_rule (l := ws) (e := fun w => .p (wP w)) (p := fun w => decide (w.2 = Str.ofString "taken")) (g := fun w => nmP w.1) (a := itP (ws.map wP))]
    rotate_left
    · simp [wsP]
    · have := walk_P (ws.map wP)
      rw [List.map_map] at this
      exact this.c _
    · omega
    · intro w _ acc2
      refine ⟨[some (.p (wsP ws)), some (.p (rwsP rs)), some (.p (wsP fresh)), some (.p (nmP dd)), some (.p (blP v)), some (.p (blP u)), none, none, none, none, some (.p (bP m)), some (.p (nmP w.1)), some (.p (.str w.2))], by simp [v_wipeS, v_wipe0, wP], ?_, fun _ => by simp⟩
      simp [cmp_eq, ok_str]
    have e1 : (ws.filter fun w => decide (w.2 = Str.ofString "taken")).map (fun w => nmP w.1) = (hitsOf ws).map nmP := by unfold hitsOf; rw [List.map_map]; rfl
    have hh := has_hits nd m.1
    rw [show (("taken" : String) : Str) = Str.ofString "taken" from rfl, no m hm] at hh
    have inn := fun S => in_nms false (hitsOf ws) m.1 S
    rw [← hh] at inn
    rw [e1]
    simp [inn]
  rw [fl_none]
  simp [nl]
  refine for_leave (fresh ++ [(dd, Str.ofString "taken"), (dd, Str.ofString "settled")]) (fun w => .p (wP w)) (fun done ρ S' => S' = S ∧ ∃ b6 b7 b8, ρ = [some (.p (wsP ws)), some (.p (rwsP rs)), some (.p (wsP fresh)), some (.p (nmP dd)), some (.p (blP v)), some (.p (blP u)), b6, b7, b8, none, none, none, none]) (a := itP ((fresh ++ [(dd, Str.ofString "taken"), (dd, Str.ofString "settled")]).map wP)) (S := S) ?s1 ?w1 ?f1 ?t1 ?l1
  case s1 =>
    have z : fresh.length + 2 ≤ sizeLine := by omega
    simp [wsP, z]
    rfl
  case w1 =>
    have := walk_P ((fresh ++ [(dd, Str.ofString "taken"), (dd, Str.ofString "settled")]).map wP)
    rw [List.map_map] at this
    exact this.c _
  case f1 => exact ⟨rfl, _, _, _, rfl⟩
  case t1 =>
    rintro done w rest hs ρ S' ⟨rfl, b6, b7, b8, rfl⟩
    refine ⟨[some (.p (wsP ws)), some (.p (rwsP rs)), some (.p (wsP fresh)), some (.p (nmP dd)), some (.p (blP v)), some (.p (blP u)), some (.p (wP w)), b7, b8, none, none, none, none], by simp, ?_⟩
    have lwi := fun S => last_word_is ws w.1 S
    by_cases c : w.1 ∈ ws.map (·.1)
    · have is := fun S => isN (lw ws w.1) (fun z => lw_none.mpr z c) S
      refine turns_of (.nx [some (.p (wsP ws)), some (.p (rwsP rs)), some (.p (wsP fresh)), some (.p (nmP dd)), some (.p (blP v)), some (.p (blP u)), some (.p (wP w)), b7, b8, none, none, none, none] S') ?_ ⟨rfl, _, _, _, rfl⟩
      simp [sigOk, order, reord, vals, List.lookup, lwi, is]
    · rw [lw_none.mp c] at lwi
      have bn : ∀ S, bIs false (.p .none) (.p .none) S = some true := fun S => rfl
      obtain ⟨v', M, hj⟩ := more_of ws nd (by omega) w c
      have mt : mkTup [.p (wP w)] = .p (.tuple [wP w]) := id rfl
      have fl : ∀ S, fx_is_fallen [.p (wsP v'), .p (nmP dd), .p (blP v)] S = .ok (.p (.bool (decide (w.2 = Str.ofString "taken") && hit w.1 dd v))) S := fun S => by
        rw [is_fallen_is v' dd v (by omega) S, M.fallenG, fv, Bool.false_or]
      have st : ∀ S, fx_is_settled [.p (wsP v'), .p (nmP dd)] S = .ok (.p (.bool (decide (w = (dd, Str.ofString "settled"))))) S := fun S => by
        have h0 : has ws dd (Str.ofString "settled") = false := by unfold has; rw [lw_none.mp new]; rfl
        have e : has v' dd (Str.ofString "settled") = decide (w = (dd, Str.ofString "settled")) := by
          rw [M.hasIs, h0, Bool.false_or, Bool.eq_iff_iff]
          simp only [decide_eq_true_eq, Bool.and_eq_true]
          exact ⟨fun h => Prod.ext h.1.symm h.2.symm, fun h => by rw [h]; exact ⟨rfl, rfl⟩⟩
        rw [is_settled_is v' dd S, ← e]
      have eqp : ∀ S, bCmp .Eq (.p (wP w)) (.p (.tuple [nmP dd, .str (Str.ofString "settled")])) S = some (decide (w = (dd, Str.ofString "settled"))) := fun S => by
        have := cmp_eq (x := wP w) (y := wP (dd, Str.ofString "settled")) S (bl_okD w) (bl_okD _)
        rw [wp_eqv] at this
        exact this
      have ct : ∀ S, bCmp .Eq (.p (.str w.2)) (.p (.str (Str.ofString "taken"))) S = some (decide (w.2 = Str.ofString "taken")) := fun S => by rw [cmp_eq S (ok_str _) (ok_str _), eqv_str]
      have bb : ∀ (b : Bool) S, bCmp .NotEq (.p (.bool b)) (.p (.bool b)) S = some false := fun b S => by rw [cmp_boolN]; cases b <;> rfl
      refine turns_of (.nx [some (.p (wsP ws)), some (.p (rwsP rs)), some (.p (wsP fresh)), some (.p (nmP dd)), some (.p (blP v)), some (.p (blP u)), some (.p (wP w)), some (.p (wsP v')), some (.p (.bool (decide (w.2 = Str.ofString "taken") && hit w.1 dd v))), none, none, none, none] S') ?_ ⟨rfl, _, _, _, rfl⟩
      by_cases tk : w.2 = Str.ofString "taken"
      · have ct1 : ∀ S, bCmp .Eq (.p (.str (Str.ofString "taken"))) (.p (.str (Str.ofString "taken"))) S = some true := fun S => by rw [cmp_eq S (ok_str _) (ok_str _), eqv_str]; simp
        simp [sigOk, order, reord, vals, List.lookup, lwi, bn, mt, hj, tk, ct1]
        rw [comp_rule (l := v) (e := fun m => .p (bP m)) (p := fun _ => true) (g := fun m => nmP m.1) (a := itP (v.map bP))]
        rotate_left
        · simp
        · have := walk_P (v.map bP)
          rw [List.map_map] at this
          exact this.c _
        · omega
        · intro m hm acc
          exact ⟨_, by simp [v_wipeS, v_wipe0]; rfl, by simp, fun _ => by simp⟩
        have e1 : (v.filter fun _ => true).map (fun m : Nm × Str => nmP m.1) = (v.map (·.1)).map nmP := by rw [List.filter_eq_self.mpr (fun _ _ => rfl), List.map_map]; rfl
        have z : 1 + v.length ≤ sizeLine := by omega
        have inn := fun S => in_nms false (dd :: v.map (·.1)) w.1 S
        have hv : decide (w.1 ∈ dd :: v.map (·.1)) = hit w.1 dd v := by
          unfold hit
          rw [Bool.eq_iff_iff]
          simp only [decide_eq_true_eq, Bool.or_eq_true, List.mem_cons]
          exact ⟨fun h => h.imp (fun z => z.symm) id, fun h => h.imp (fun z => z.symm) id⟩
        rw [hv] at inn
        simp only [Bool.false_xor, List.map_cons] at inn
        rw [tk] at fl
        simp only [decide_true, Bool.true_and] at fl
        rw [e1]
        simp [-List.map_map, sigOk, order, reord, vals, List.lookup, z, inn, fl, st, eqp, bb, tk]
      · have fl0 : ∀ S, fx_is_fallen [.p (wsP v'), .p (nmP dd), .p (blP v)] S = .ok (.p (.bool false)) S := fun S => by rw [fl, decide_eq_false tk]; rfl
        simp [sigOk, order, reord, vals, List.lookup, lwi, bn, mt, hj, ct, tk, fl0, st, eqp, bb]
  case l1 =>
    rintro ρ S' ⟨rfl, b6, b7, b8, rfl⟩
    simp only [v_seq, v_asg, v_ns, v_cons, v_frz, v_lns, v_bin]
    rw [comp_rule (l := v) (e := fun m => .p (bP m)) (p := fun _ => true) (g := fun m => bP (m.1, Str.ofString "settled")) (a := itP (v.map bP))]
    rotate_left
    · simp
    · have := walk_P (v.map bP)
      rw [List.map_map] at this
      exact this.c _
    · omega
    · intro m hm acc
      exact ⟨_, by simp [v_wipeS, v_wipe0]; rfl, by simp, fun _ => by simp; rfl⟩
    have hf : v.filter (fun _ => true) = v := List.filter_eq_self.mpr fun _ _ => rfl
    rw [hf]
    have e1 : v.map (fun m : Nm × Str => bP (m.1, Str.ofString "settled")) ++ [.tuple [nmP dd, .str (Str.ofString "settled")]] = (v.map (fun m => (m.1, Str.ofString "settled")) ++ [(dd, Str.ofString "settled")]).map bP := by rw [List.map_append, List.map_map]; rfl
    have e2 : v.length + 1 ≤ sizeLine := by omega
    have ss := fun S => sort_set_mk (v.map (fun m => (m.1, Str.ofString "settled")) ++ [(dd, Str.ofString "settled")]) (by simp; omega) S
    obtain ⟨q, eq, nq, mq⟩ := mk_v (v.map (fun m => (m.1, Str.ofString "settled")) ++ [(dd, Str.ofString "settled")])
    rw [eq] at ss
    have fm : firm q dd v = true := by
      have one : ∀ n, n = dd ∨ n ∈ v.map (·.1) → has q n (Str.ofString "settled") = true := fun n hn => by
        have ex : (n, Str.ofString "settled") ∈ q := (mq _).mpr (by
          rw [List.mem_append]
          rcases hn with rfl | h
          · exact .inr (by simp)
          · obtain ⟨m, hm, rfl⟩ := List.mem_map.mp h
            exact .inl (List.mem_map.mpr ⟨m, hm, rfl⟩))
        have all2 : ∀ w ∈ q, w.2 = Str.ofString "settled" := fun w hw => by
          rcases List.mem_append.mp ((mq w).mp hw) with h | h
          · obtain ⟨m, _, rfl⟩ := List.mem_map.mp h; rfl
          · rw [List.mem_singleton.mp h]
        unfold has lw
        cases e : q.find? fun w => decide (w.1 = n) with
        | none =>
          have := List.find?_eq_none.mp e _ ex
          simp at this
        | some w =>
          have := all2 w (List.mem_of_find?_eq_some e)
          simp [this]
      unfold firm
      rw [List.all_eq_true]
      intro n hn
      exact one n (List.mem_cons.mp hn)
    have rf := fun S => is_firm_is q dd v (by omega) S
    rw [fm] at rf
    have tq : PyData.tuple (q.map bP) = wsP q := rfl
    simp only [v_bind, v_frz, v_disp, v_cons, v_nil, v_tup, v_var0, v_varS, v_c, v_of, List.length_cons, List.length_nil, v_mkTup2, v_allP1, v_allP0, Option.map_some, Nat.reduceAdd, Nat.reduceLeDiff, if_true, v_addL, List.length_map, if_pos e2, e1, ss, v_tupL, tq, v_toS, v_nameS, v_name0, v_sq_nx]
    simp [sigOk, order, reord, vals, List.lookup, rf]
end K5

set_option linter.all false
set_option autoImplicit false
namespace K5
open PySem Fp
set_option maxRecDepth 100000
set_option maxHeartbeats 4100000
theorem cut_to {α : Type} (f : α → PyData) (l : List α) (k : Nat) (h : k ≤ l.length) : cutD (l.map f) none (some (k : Int)) = (l.take k).map f := by
  unfold cutD
  have h1 : HT.sIx (l.map f).length 0 none = 0 := rfl
  have h2 : HT.sIx (l.map f).length (l.map f).length (some (k : Int)) = k := by
    unfold HT.sIx
    have : ¬ ((k : Int) < 0) := by omega
    simp [this]
    omega
  rw [h1, h2]
  simp [List.map_take]
theorem cut_from {α : Type} (f : α → PyData) (l : List α) (k : Nat) (h : k ≤ l.length) : cutD (l.map f) (some (k : Int)) none = (l.drop k).map f := by
  unfold cutD
  have h1 : HT.sIx (l.map f).length 0 (some (k : Int)) = k := by
    unfold HT.sIx
    have : ¬ ((k : Int) < 0) := by omega
    simp [this]
    omega
  have h2 : HT.sIx (l.map f).length (l.map f).length none = (l.map f).length := rfl
  rw [h1, h2, List.map_drop]
  exact List.take_of_length_le (Nat.le_of_eq (by simp))
theorem sort_set_mkT (u : Bl_) (hl : u.length ≤ 63) (S : Store) : gSortSet [.p (.tuple (u.map bP))] S = some (MK u) := sort_set_mk u hl S
theorem tup_same (v : Bl_) (S : Store) : bCmp .NotEq (.p (.tuple (v.map bP))) (.p (.tuple (v.map bP))) S = some false := by
  have ok : okD (.tuple (v.map bP)) = true := by
    have := bl_tame_ok v
    simpa [okD, PyData.plain, PyData.depth] using this
  rw [cmp_ne S ok ok, eqv_tupR (fun a => by rw [bl_eqv]; simp) v]; rfl
theorem heartsW_app (ws : Ws) (a b : List Rw) : heartsW ws (a ++ b) = heartsW ws a ++ heartsW ws b := by unfold heartsW; rw [List.flatMap_append]
theorem wider_right_is {L : Bl_} (lL : L.length ≤ 11) {ws : Ws} {rs : List Rw} (ok : RwsOk L rs) (S : Store) : fx__law_wider_right [.p (wsP ws), .p (rwsP rs)] S = .ok (.p (.bool true)) S := by
  have sl := sl1000
  have n2 := ok.n
  have nice : ∀ rs', RwsOk L rs' → ∃ v u : Bl_, v.length ≤ 11 ∧ u.length ≤ 11 ∧ MK (undersW ws rs') = v.map bP ∧ MK (marksW ws rs') = u.map bP ∧ (∀ m, m ∈ v ↔ m ∈ undersW ws rs') ∧ (∀ m, m ∈ u ↔ m ∈ marksW ws rs') ∧ (∀ S, fx_below_resting [.p (wsP ws), .p (rwsP rs')] S = .ok (.p (.tuple (v.map bP))) S) ∧ ∀ S, fx_rests_straight [.p (wsP ws), .p (rwsP rs')] S = .ok (.p (.tuple (u.map bP))) S := fun rs' ok' => by
    obtain ⟨v, ev, nv, mv⟩ := mk_v (undersW ws rs')
    obtain ⟨u, eu, nu, mu⟩ := mk_v (marksW ws rs')
    exact ⟨v, u, Nat.le_trans (nodup_len v L nv fun m hm => unders_sub ok' ((mv m).mp hm)) lL, Nat.le_trans (nodup_len u L nu fun m hm => unders_sub ok' (List.mem_append_left _ ((mu m).mp hm))) lL, ev, eu, mv, mu, fun S => by rw [below_is ws rs' ok' S, ev], fun S => by rw [rests_is ws rs' ok' S, eu]⟩
  unfold fx__law_wider_right m__law_wider_right
  simp only [v_fx, List.replicate, List.map_cons, List.map_nil, List.length_cons, List.length_nil, List.cons_append, List.nil_append, v_seq]
  refine for_leave (List.range (rs.length + 1)) (fun (k : Nat) => D.p (.int (k : Int))) (fun done ρ S' => S' = S ∧ ∃ b2 b3 b4 b5, ρ = [some (.p (wsP ws)), some (.p (rwsP rs)), b2, b3, b4, b5, none]) (a := itR 0 (rs.length + 1)) (S := S) ?s1 ?w1 ?f1 ?t1 ?l1
  case s1 =>
    have ir := inR_nat (show rs.length + 1 ≤ 1000000 by omega)
    have tn : ((rs.length : Int) + 1).toNat = rs.length + 1 := by omega
    push_cast at ir
    simp [rwsP, ir, tn]
  case w1 => exact (walk_range _).c _
  case f1 => exact ⟨rfl, _, _, _, _, rfl⟩
  case t1 =>
    rintro done k rest hr ρ S' ⟨rfl, b2, b3, b4, b5, rfl⟩
    obtain ⟨rfl, hlt, _⟩ := range_split hr
    refine ⟨[some (.p (wsP ws)), some (.p (rwsP rs)), some (.p (.int (done.length : Nat))), b3, b4, b5, none], by simp, ?_⟩
    generalize done.length = i at hlt ⊢
    have hi : i ≤ rs.length := by omega
    obtain ⟨v, u, lv, lu, ev, eu, mv, mu, cv, cu⟩ := nice rs ok
    obtain ⟨v1, u1, lv1, lu1, ev1, eu1, mv1, mu1, cv1, cu1⟩ := nice (rs.take i) (ok.sub (List.take_sublist ..))
    obtain ⟨v2, u2, lv2, lu2, ev2, eu2, mv2, mu2, cv2, cu2⟩ := nice (rs.drop i) (ok.sub (List.drop_sublist ..))
    have s1 : ∀ S, gSl (.p (rwsP rs)) none (some (i : Int)) S = some (.p (rwsP (rs.take i))) := fun S => by
      show some (D.p (.tuple (cutD (rs.map rwP) none (some (i : Int))))) = _
      rw [cut_to rwP rs i hi]; rfl
    have s2 : ∀ S, gSl (.p (rwsP rs)) (some (i : Int)) none S = some (.p (rwsP (rs.drop i))) := fun S => by
      show some (D.p (.tuple (cutD (rs.map rwP) (some (i : Int)) none))) = _
      rw [cut_from rwP rs i hi]; rfl
    have hd : heartsW ws rs = heartsW ws (rs.take i) ++ heartsW ws (rs.drop i) := by rw [← heartsW_app, List.take_append_drop]
    have mks : ∀ m, m ∈ marksW ws rs ↔ m ∈ marksW ws (rs.take i) ∨ m ∈ marksW ws (rs.drop i) := fun m => by
      unfold marksW
      rw [hd, List.map_append, List.mem_append]
    have uns : ∀ m, m ∈ undersW ws rs ↔ m ∈ undersW ws (rs.take i) ∨ m ∈ undersW ws (rs.drop i) := fun m => by
      unfold undersW
      rw [List.mem_append, List.mem_append, List.mem_append, mks, hd, List.flatMap_append, List.mem_append]
      constructor
      · rintro ((h | h) | h | h)
        · exact .inl (.inl h)
        · exact .inr (.inl h)
        · exact .inl (.inr h)
        · exact .inr (.inr h)
      · rintro ((h | h) | h | h)
        · exact .inl (.inl h)
        · exact .inr (.inl h)
        · exact .inl (.inr h)
        · exact .inr (.inr h)
    have g1 : ∀ S, gSortSet [.p (.tuple (v1.map bP ++ v2.map bP))] S = some (v.map bP) := fun S => by
      rw [← List.map_append, sort_set_mkT (v1 ++ v2) (by rw [List.length_append]; omega) S, ← ev]
      exact congrArg some (mk_cong fun m => by rw [List.mem_append, mv1, mv2, uns])
    have g2 : ∀ S, gSortSet [.p (.tuple (u1.map bP ++ u2.map bP))] S = some (u.map bP) := fun S => by
      rw [← List.map_append, sort_set_mkT (u1 ++ u2) (by rw [List.length_append]; omega) S, ← eu]
      exact congrArg some (mk_cong fun m => by rw [List.mem_append, mu1, mu2, mks])
    have z1 : v1.length + v2.length ≤ sizeLine := by omega
    have z2 : u1.length + u2.length ≤ sizeLine := by omega
    have t1 := fun S => tup_same v S
    have t2 := fun S => tup_same u S
    refine turns_of (.nx [some (.p (wsP ws)), some (.p (rwsP rs)), some (.p (.int (i : Nat))), some (.p (.tuple (v1.map bP))), some (.p (.tuple (v2.map bP))), some (.p (.tuple (u1.map bP ++ u2.map bP))), none] S') ?_ ⟨rfl, _, _, _, _, rfl⟩
    have pt : partD (.p (.int (i : Int))) = some (some (i : Int)) := rfl
    simp [sigOk, order, reord, vals, List.lookup, pt, s1, s2, cv, cv1, cv2, cu, cu1, cu2, setAll, z1, z2, g1, g2, t1, t2]
  case l1 =>
    rintro ρ S' ⟨rfl, b2, b3, b4, b5, rfl⟩
    simp only [v_seq]
    refine for_leave rs (fun r => .p (rwP r)) (fun done ρ S2 => S2 = S' ∧ ∃ b2 b6, ρ = [some (.p (wsP ws)), some (.p (rwsP rs)), b2, b3, b4, b5, b6]) (a := itP (rs.map rwP)) (S := S') ?s2 ?w2 ?f2 ?t2 ?l2
    case s2 => simp [rwsP]
    case w2 =>
      have := walk_P (rs.map rwP)
      rw [List.map_map] at this
      exact this.c _
    case f2 => exact ⟨rfl, _, _, rfl⟩
    case l2 =>
      rintro ρ S2 ⟨rfl, b2, b6, rfl⟩
      simp
    case t2 =>
      rintro done r rest hs ρ S2 ⟨rfl, b2, b6, rfl⟩
      have hr : r ∈ rs := by rw [hs]; simp
      have lr := ok.few r hr
      have fb' : ∀ w ∈ r.2, w.2.2.2.2.length < 1000 := fun w hw => by have := ok.fb r hr w hw; omega
      have sp := fun S => standing_places_is ws r.1 r.2 (by omega) fb' S
      have sp' : ∀ S, fx_standing_places [.p (wsP ws), .p (rwP r)] S = .ok (.p (.tuple (natsP (standing ws r.2)))) S := sp
      refine ⟨[some (.p (wsP ws)), some (.p (rwsP rs)), b2, b3, b4, b5, some (.p (rwP r))], by simp, ?_⟩
      rw [v_seq]
      refine for_turns (standing ws r.2) (fun (k : Nat) => .p (.int (k : Int))) (fun dn ρ S3 => S3 = S2 ∧ ∃ b2, ρ = [some (.p (wsP ws)), some (.p (rwsP rs)), b2, b3, b4, b5, some (.p (rwP r))]) (a := itP (natsP (standing ws r.2))) (S := S2) ?s3 ?w3 ?f3 ?t3 ?l3
      case s3 => simp [sigOk, order, reord, vals, List.lookup, sp']
      case w3 => exact nats_walk _ _
      case f3 => exact ⟨rfl, _, rfl⟩
      case l3 =>
        rintro ρ S3 ⟨rfl, b2, rfl⟩
        exact ⟨rfl, _, _, rfl⟩
      case t3 =>
        rintro dn k rest3 hk ρ S3 ⟨rfl, b2, rfl⟩
        have ks : k ∈ standing ws r.2 := by rw [hk]; simp
        have lt := standing_lt ws r.2 ks
        have ixi := fun S => ix_at r.2 wrP lt S
        have i1 : ∀ S, gIx (.p (rwP r)) (.p (.int 1)) S = some (.p (.tuple (r.2.map wrP))) := fun S => rfl
        have fl : ∀ S, fx_is_fallen [.p (wsP ws), .p (nmP r.2[k].1), .p (blP r.2[k].2.2.2.2)] S = .ok (.p (.bool false)) S := fun S => by
          rw [is_fallen_is ws _ _ (fb' _ (List.getElem_mem lt)) S]
          obtain ⟨w, h1, h2⟩ := mem_standing.mp ks
          rw [List.getElem?_eq_getElem lt] at h1
          cases h1
          unfold stands at h2
          have : fallen ws r.2[k].1 r.2[k].2.2.2.2 = false := by simpa using h2
          rw [this]
        refine ⟨[some (.p (wsP ws)), some (.p (rwsP rs)), some (.p (.int (k : Int))), b3, b4, b5, some (.p (rwP r))], by simp, ?_⟩
        refine turns_of (.nx [some (.p (wsP ws)), some (.p (rwsP rs)), some (.p (.int (k : Int))), b3, b4, b5, some (.p (rwP r))] S3) ?_ ⟨rfl, _, rfl⟩
        simp [sigOk, order, reord, vals, List.lookup, i1, ixi, fl]
end K5

set_option linter.all false
set_option autoImplicit false
namespace K5
open PySem Fp
set_option maxRecDepth 100000
set_option maxHeartbeats 4100000
def LastV (v : List Nm) (c : List Int) (T : Store) (o : Out D) : Prop := ∃ ws a l n, WsG v ws ∧ o = .ok (.p (wsP ws)) (fd c a l n :: T)
theorem lastv_is (fs : List PEnt) (hf : fs.length ≤ 20) (v names : List Nm) (hN : fs.map (·.1) ++ [(Str.ofString "a", (0 : Int)), (Str.ofString "oak", 20)] = names) (pv : v.Perm names) (hs : ∀ S, Bl.g .sorted [.p (.list (names.map nmP))] S = some (v.map nmP)) (c : List Int) (a l n many : Int) (h0 : 0 < many) (h1 : many < 1073741824) (T : Store) :
    LastV v c T (fx__law_last [.loc 0, .p (.list (fs.map peP)), .p (.int many)] (fd c a l n :: T)) := by
  unfold fx__law_last m__law_last
  simp [v_fx, List.replicate]
  have hlen : names.length ≤ 1000 := by rw [← hN]; simp; omega
  refine for_leaveP (LastV v c T) v (fun x => .p (nmP x)) (fun done ρ S' => ∃ ws a l n a4 a5 a6, WsG done ws ∧ S' = fd c a l n :: (T ++ [.lst (ws.map wP)]) ∧ ρ = [some (.loc 0), some (.p (.list (fs.map peP))), some (.p (.int many)), some (.loc (T.length + 1)), a4, a5, a6]) (a := itP (v.map nmP)) (S := fd c a l n :: (T ++ [.lst []])) ?s1 ?w1 ?f1 ?t1 ?l1
  case s1 =>
    simp
    rw [comp_rule (l := fs) (e := fun x => .p (peP x)) (p := fun _ => true) (g := fun x => nmP x.1) (a := itP (fs.map peP))]
    rotate_left
    · simp
    · have := walk_P (fs.map peP)
      rw [List.map_map] at this
      exact this.c _
    · rw [sizeLine_eq]; omega
    · intro x hx acc
      simp [v_wipeS, v_wipe0]
    have e2 : (fs.filter fun _ => true).map (fun x => nmP x.1) ++ [.tuple [.str (Str.ofString "a"), .int 0], .tuple [.str (Str.ofString "oak"), .int 20]] = names.map nmP := by
      rw [← hN, List.filter_eq_self.mpr (fun _ _ => rfl)]
      simp [nmP]
    have e3 : ((fs.filter fun _ => true).map (fun x => nmP x.1)).length + 2 ≤ sizeLine := by
      rw [sizeLine_eq, List.filter_eq_self.mpr (fun _ _ => rfl)]; simp; omega
    simp only [v_bind, v_addL, List.length_cons, List.length_nil, if_pos e3, v_of, e2, v_cons, v_nil, hs, v_iterL]
  case w1 =>
    have := walk_P (v.map nmP)
    rw [List.map_map] at this
    exact this.c _
  case f1 => exact ⟨[], a, l, n, none, none, none, ⟨List.Sublist.refl _, fun w hw => by cases hw⟩, rfl, rfl⟩
  case t1 =>
    rintro done x rest' hr ρ S' ⟨ws, a, l, n, a4, a5, a6, g, rfl, rfl⟩
    refine ⟨_, by simp; rfl, ?_⟩
    obtain ⟨r, a', l', n', r0, r1, hd⟩ := draw_is c a l n many h0 h1 (T ++ [.lst (ws.map wP)])
    have wl : (ws.map wP).length < sizeLine := by
      have h1 := g.sub.length_le
      have h2 := congrArg List.length hr
      have h3 := pv.length_eq
      simp at h1 h2
      rw [sizeLine_eq, List.length_map]; omega
    by_cases lt : r < 2
    · have two : r = 0 ∨ r = 1 := by omega
      rcases two with rfl | rfl
      · refine turns_of (.nx [some (.loc 0), some (.p (.list (fs.map peP))), some (.p (.int many)), some (.loc (T.length + 1)), some (.p (nmP x)), some (.p (.int 0)), a6] (fd c a' l' n' :: (T ++ [.lst ((ws ++ [(x, Str.ofString "settled")]).map wP)]))) ?_ ⟨ws ++ [(x, Str.ofString "settled")], a', l', n', _, _, _, ⟨?_, ?_⟩, rfl, rfl⟩
        · simp [sigOk, order, reord, vals, List.lookup, hd, cmp_lt, L2.atI, L2.ixN]
          simp at wl
          simp [wl, wP]
        · rw [List.map_append]; exact g.sub.append (List.Sublist.refl _)
        · intro w hw; rcases List.mem_append.mp hw with z | z
          · exact g.ok w z
          · rw [List.mem_singleton.mp z]; exact short_settled
      · refine turns_of (.nx [some (.loc 0), some (.p (.list (fs.map peP))), some (.p (.int many)), some (.loc (T.length + 1)), some (.p (nmP x)), some (.p (.int 1)), a6] (fd c a' l' n' :: (T ++ [.lst ((ws ++ [(x, Str.ofString "taken")]).map wP)]))) ?_ ⟨ws ++ [(x, Str.ofString "taken")], a', l', n', _, _, _, ⟨?_, ?_⟩, rfl, rfl⟩
        · simp [sigOk, order, reord, vals, List.lookup, hd, cmp_lt, L2.atI, L2.ixN]
          simp at wl
          simp [wl, wP]
        · rw [List.map_append]; exact g.sub.append (List.Sublist.refl _)
        · intro w hw; rcases List.mem_append.mp hw with z | z
          · exact g.ok w z
          · rw [List.mem_singleton.mp z]; exact short_taken
    · refine turns_of (.nx [some (.loc 0), some (.p (.list (fs.map peP))), some (.p (.int many)), some (.loc (T.length + 1)), some (.p (nmP x)), some (.p (.int r)), a6] (fd c a' l' n' :: (T ++ [.lst (ws.map wP)]))) ?_ ⟨ws, a', l', n', _, _, _, ⟨g.sub.trans (List.sublist_append_left _ _), g.ok⟩, rfl, rfl⟩
      simp [sigOk, order, reord, vals, List.lookup, hd, cmp_lt, lt]
  case l1 =>
    rintro ρ S' ⟨ws, a, l, n, a4, a5, a6, g, rfl, rfl⟩
    refine ⟨ws, a, l, n, g, ?_⟩
    have tup : Bi.g .tuple [.loc (T.length + 1)] (fd c a l n :: (T ++ [.lst (ws.map wP)])) = some (.p (.tuple (ws.map wP))) := by
      show (viewL _ (.loc (T.length + 1))).map _ = _
      simp
    simp [tup, wsP]
end K5

set_option linter.all false
set_option autoImplicit false
namespace K5
open PySem Fp
set_option maxRecDepth 100000
set_option maxHeartbeats 8100000
theorem nodup_at {α : Type} {xs : List α} (nd : xs.Nodup) {i j : Nat} {x : α} (hi : xs[i]? = some x) (hj : xs[j]? = some x) : i = j := by
  obtain ⟨h1, e1⟩ := List.getElem?_eq_some_iff.mp hi
  obtain ⟨h2, e2⟩ := List.getElem?_eq_some_iff.mp hj
  have key := List.pairwise_iff_getElem.mp nd
  rcases Nat.lt_trichotomy i j with h | h | h
  · exact absurd (e1.trans e2.symm) (key i j h1 h2 h)
  · exact h
  · exact absurd (e2.trans e1.symm) (key j i h2 h1 h)
theorem pick_nodup {α : Type} {xs : List α} (nd : xs.Nodup) : ∀ {js : List Nat}, js.Nodup → (js.filterMap (xs[·]?)).Nodup
  | [], _ => List.nodup_nil
  | j :: js, h => by
    have h' := (List.nodup_cons (a := j) (l := js)).mp h
    have ih := pick_nodup nd h'.2
    cases e : xs[j]? with
    | none => rw [List.filterMap_cons_none e]; exact ih
    | some x =>
      rw [List.filterMap_cons_some e]
      refine List.nodup_cons.mpr ⟨fun z => ?_, ih⟩
      obtain ⟨i, hi, e2⟩ := List.mem_filterMap.mp z
      exact h'.1 (nodup_at nd e2 e ▸ hi)
theorem odd_nodup {α : Type} {xs : List α} (nd : xs.Nodup) : (cut3 xs (some 1) none 2).Nodup := by
  refine pick_nodup nd ?_
  unfold stepped
  have a0 : 0 ≤ (PySem.Builtin.Slice.sliceAdjust (some 1) none 2 xs.length).1 := by
    unfold PySem.Builtin.Slice.sliceAdjust
    simp
    omega
  refine List.Pairwise.map _ (fun a b (h : a ≠ b) z => h ?_) (List.nodup_range (n := _))
  omega
theorem cut_any {α : Type} (f : α → PyData) (l : List α) (k : Nat) : cutD (l.map f) none (some (k : Int)) = (l.take k).map f := by
  by_cases h : k ≤ l.length
  · exact cut_to f l k h
  · unfold cutD
    have h1 : HT.sIx (l.map f).length 0 none = 0 := rfl
    have h2 : HT.sIx (l.map f).length (l.map f).length (some (k : Int)) = l.length := by
      unfold HT.sIx
      have : ¬ ((k : Int) < 0) := by omega
      simp [this]
      omega
    rw [h1, h2, List.take_of_length_le (by omega : l.length ≤ k)]
    exact List.take_of_length_le (Nat.le_of_eq (by simp))
def LawOk (o : Out D) : Prop := ∃ S, o = .ok (.p (.bool true)) S
theorem dd_out {fs : List PEnt} {x y z : Int} (g : CntG fs x y z) : dd ∉ fs.map (·.1) := fun h => by
  obtain ⟨e, he, eq⟩ := List.mem_map.mp h
  rcases g.is e he with ⟨q1, _⟩ | ⟨q1, _⟩ | ⟨q1, _⟩ <;> rw [eq] at q1 <;> simp [dd] at q1
theorem rows_ok {fs : List PEnt} (pg : PoolG fs) (fl : fs.length ≤ 11) {rs : List Rw} (n : rs.length ≤ 2) (h : ∀ r ∈ rs, StG fs r.2) : RwsOk (fs.map mark) rs := by
  have each := pg.each fl
  refine ⟨n, fun r hr => Nat.le_trans (h r hr).len fl, fun r hr w hw => ?_, fun r hr w hw b hb => ?_, fun r hr w hw => ?_⟩
  · obtain ⟨_, _, e, he, q1, q2, q3⟩ := (h r hr).each w hw
    exact List.mem_map.mpr ⟨e, he, by unfold mark; rw [q1, q2]⟩
  · obtain ⟨_, _, e, he, q1, q2, q3⟩ := (h r hr).each w hw
    obtain ⟨d, r2, eq⟩ := List.append_of_mem he
    have := (pg d e r2 eq).under b (q3 ▸ hb)
    rw [eq, List.map_append]
    exact List.mem_append_left _ this
  · obtain ⟨_, _, e, he, _, _, q3⟩ := (h r hr).each w hw
    rw [q3]; exact (each e he).ul
theorem good_of (zs : List Int) (hz : zs.length ≤ 63) : LawOk (fx_law [.ro (zs.map .int)] []) := by
  unfold fx_law m_law
  simp only [v_fx, List.replicate, List.map_cons, List.map_nil, List.length_cons, List.length_nil, List.cons_append, List.nil_append]
  simp [sigOk, order, reord, vals, feed_is zs hz]
  have sl := sl1000
  refine for_leaveP LawOk (List.range 5) (fun (k : Nat) => D.p (.int (k : Int))) (fun done ρ S' => ∃ a l n b2 b3 b4 b5 b6 b7 b8, S' = [fd zs a l n] ∧ ρ = [some (.ro (zs.map .int)), some (.loc 0), b2, b3, b4, b5, b6, b7, b8, none])
    (a := itR 0 5) (S := [fd zs 0 0 0]) ?s1 ?w1 ?f1 ?t1 ?l1
  case s1 => simp [inR]
  case w1 => exact (walk_range 5).c _
  case f1 => exact ⟨0, 0, 0, _, _, _, _, _, _, _, rfl, rfl⟩
  case l1 =>
    rintro ρ S' ⟨a, l, n, b2, b3, b4, b5, b6, b7, b8, rfl, rfl⟩
    exact ⟨_, by simp; rfl⟩
  case t1 =>
    rintro done i rest' hr ρ S' ⟨a, l, n, b2, b3, b4, b5, b6, b7, b8, rfl, rfl⟩
    refine ⟨_, by simp; rfl, ?_⟩
    obtain ⟨fs, a1, l1, n1, x, y, z, pg, cg, fl, hp⟩ := pool_is zs a l n []
    have each := pg.each fl
    refine turns_seq (ρ1 := [some (.ro (zs.map .int)), some (.loc 0), some (.p (.int (i : Nat))), some (.p (.list (fs.map peP))), b4, b5, b6, b7, b8, none]) (S1 := [fd zs a1 l1 n1]) ?_ ?_
    · simp [sigOk, order, reord, vals, List.lookup, hp]
    -- two rows
    obtain ⟨B, acc, hc, rs, a2, l2, n2, rfl, rfl, rl, rg⟩ := comp_state (fi := iNs rng1 (aCons (eC (.p (.int 2))) aNil)) (t := tName 9) (fe := eCall [(Str.ofString "_law_feed_here"), (Str.ofString "_law_pool_here")] [] fx__law_strip [] (aCons (eVar 1) (aCons (eVar 3) aNil)) aNil) (vs := [9])
      (ρ := [some (.ro (zs.map .int)), some (.loc 0), some (.p (.int (i : Nat))), some (.p (.list (fs.map peP))), b4, b5, b6, b7, b8, none]) (S := [fd zs a1 l1 n1]) (a := itR 0 2) (List.range 2) (fun (k : Nat) => D.p (.int (k : Int)))
      (fun done B acc => ∃ (rs : List Rw) (a l n : Int), B = [fd zs a l n] ∧ acc = rs.map rwP ∧ rs.length = done.length ∧ ∀ r ∈ rs, StG fs r.2) (by simp [inR]) (walk_range 2) (by rw [sizeLine_eq]; decide) ⟨[], a1, l1, n1, rfl, rfl, rfl, fun _ h => by cases h⟩
      (fun dn k rst hk B acc hB ⟨rs, a, l, n, e1, e2, e3, e4⟩ => by
        subst e1 e2
        obtain ⟨b, wrs, a', l', n', hb, sg, hs⟩ := strip_is fs (by omega) zs a l n [.lst (rs.map rwP)]
        refine ⟨[some (.ro (zs.map .int)), some (.loc 0), some (.p (.int (i : Nat))), some (.p (.list (fs.map peP))), b4, b5, b6, b7, b8, some (.p (.int (k : Int)))], [fd zs a' l' n'], rwP (b, wrs), by simp [v_wipeS, v_wipe0], ?_, rfl, rs ++ [(b, wrs)], a', l', n', rfl, by simp, by simp [e3], fun r hr => ?_⟩
        · simp [sigOk, order, reord, vals, List.lookup, hs, rwP]
        · rcases List.mem_append.mp hr with h | h
          · exact e4 r h
          · rw [List.mem_singleton.mp h]; exact sg)
    have rl : rs.length = 2 := rl
    have ok := rows_ok pg fl (by omega) rg
    refine turns_seq (ρ1 := [some (.ro (zs.map .int)), some (.loc 0), some (.p (.int (i : Nat))), some (.p (.list (fs.map peP))), some (.p (rwsP rs)), b5, b6, b7, b8, none]) (S1 := [fd zs a2 l2 n2]) ?_ ?_
    · simp [hc, rwsP]
    -- words
    have nnd := names_nodup cg fl
    obtain ⟨N, pv, hs⟩ := sort_nm (fs.map (·.1) ++ [(Str.ofString "a", (0 : Int)), (Str.ofString "oak", 20)]) (by simp; omega)
    have Nnd : N.Nodup := pv.nodup_iff.mpr nnd
    have Nl : N.length ≤ 13 := by rw [pv.length_eq]; simp; omega
    have lastv := fun c a l n many h0 h1 T => lastv_is fs (by omega) N _ rfl pv hs c a l n many h0 h1 T
    obtain ⟨ws, a3, l3, n3, g1, h1⟩ := lastv zs a2 l2 n2 3 (by decide) (by decide) []
    obtain ⟨us, a4, l4, n4, g2, h2⟩ := lastv zs a3 l3 n3 4 (by decide) (by decide) []
    have W1 : WOk N ws := ⟨g1.sub⟩
    have W2 : WOk N us := ⟨g2.sub⟩
    have nd1 := W1.nd Nnd
    have nd2 := W2.nd Nnd
    have l1' := W1.len
    have l2' := W2.len
    have nmN : ∀ n ∈ N, nmOk n := fun n hn => by
      rcases List.mem_append.mp (pv.mem_iff.mp hn) with h | h
      · obtain ⟨e, he, rfl⟩ := List.mem_map.mp h
        exact (each e he).nm
      · simp only [List.mem_cons, List.not_mem_nil, or_false] at h
        rcases h with rfl | rfl
        · exact ⟨by decide +kernel, by decide +kernel⟩
        · exact ⟨by decide +kernel, by decide +kernel⟩
    have gd : ∀ {A : Ws}, WsG N A → goodW A := fun g w hw => ⟨nmN _ (g.sub.subset (List.mem_map.mpr ⟨w, hw, rfl⟩)), g.ok w hw⟩
    have ddN : dd ∉ N := fun h => by
      rcases List.mem_append.mp (pv.mem_iff.mp h) with q | q
      · exact dd_out cg q
      · simp [dd] at q
    refine turns_seq (ρ1 := [some (.ro (zs.map .int)), some (.loc 0), some (.p (.int (i : Nat))), some (.p (.list (fs.map peP))), some (.p (rwsP rs)), some (.p (wsP ws)), some (.p (wsP us)), b7, b8, none]) (S1 := [fd zs a4 l4 n4]) ?_ ?_
    · simp [sigOk, order, reord, vals, List.lookup, h1, h2, setAll]
    obtain ⟨r, a5, l5, n5, r0, r1, hd⟩ := draw_is zs a4 l4 n4 ((ws.length : Int) + 1) (by omega) (by omega) []
    obtain ⟨k, rfl⟩ := Int.eq_ofNat_of_zero_le r0
    have hk : k ≤ ws.length := by omega
    refine turns_seq (ρ1 := [some (.ro (zs.map .int)), some (.loc 0), some (.p (.int (i : Nat))), some (.p (.list (fs.map peP))), some (.p (rwsP rs)), some (.p (wsP ws)), some (.p (wsP us)), some (.p (.int (k : Int))), b8, none]) (S1 := [fd zs a5 l5 n5]) ?_ ?_
    · simp [sigOk, order, reord, vals, List.lookup, hd, wsP]
    -- parts
    have s1 : ∀ S, gSl (.p (wsP ws)) none (some (k : Int)) S = some (.p (wsP (ws.take k))) := fun S => by
      show some (D.p (.tuple (cutD (ws.map wP) none (some (k : Int))))) = _
      rw [cut_to wP ws k hk]; rfl
    have s2 : ∀ S, gSl (.p (wsP ws)) (some (k : Int)) none S = some (.p (wsP (ws.drop k))) := fun S => by
      show some (D.p (.tuple (cutD (ws.map wP) (some (k : Int)) none))) = _
      rw [cut_from wP ws k hk]; rfl
    have s3 : gSl3 (.p (wsP ws)) (some 1) none (some 2) = some (.p (wsP (cut3 ws (some 1) none 2))) := by
      show (if (2 : Int) ≠ 0 ∧ (2 : Int) ≠ 1 then some (D.p (.tuple (cut3 (ws.map wP) (some 1) none 2))) else none) = _
      rw [if_pos (by decide), cut3_map]; rfl
    have s4 : ∀ S, gSl (.p (wsP us)) none (some 1) S = some (.p (wsP (us.take 1))) := fun S => by
      show some (D.p (.tuple (cutD (us.map wP) none (some ((1 : Nat) : Int))))) = _
      rw [cut_any wP us 1]; rfl
    have pk : partD (.p (.int (k : Int))) = some (some (k : Int)) := rfl
    have p1 : partD (.p (.int 1)) = some (some 1) := rfl
    have j1 := fun S => joined_right_is (W := ws) nd1 (by omega) (gd g1) (one := ws.take k) (two := ws.drop k) (three := cut3 ws (some 1) none 2) (((List.take_sublist ..).map _).nodup nd1) (((List.drop_sublist ..).map _).nodup nd1) (by rw [← cut3_map]; exact odd_nodup nd1) (fun w hw => List.mem_of_mem_take hw) (fun w hw => List.mem_of_mem_drop hw) (fun w hw => cut3_mem hw) S
    have e0 : mkTup [] = .p (wsP []) := rfl
    have j2 := fun S => joined_right_is (W := us) nd2 (by omega) (gd g2) (one := []) (two := us) (three := us.take 1) List.nodup_nil nd2 (((List.take_sublist ..).map _).nodup nd2) (fun w hw => by cases hw) (fun w hw => hw) (fun w hw => List.mem_of_mem_take hw) S
    have c1 := fun S => clash_right_is Nnd (by omega) W1 W2 S
    have c2 := fun S => clash_right_is Nnd (by omega) W2 (W1.part (List.take_sublist k ws)) S
    refine turns_seq (ρ1 := [some (.ro (zs.map .int)), some (.loc 0), some (.p (.int (i : Nat))), some (.p (.list (fs.map peP))), some (.p (rwsP rs)), some (.p (wsP ws)), some (.p (wsP us)), some (.p (.int (k : Int))), b8, none]) (S1 := [fd zs a5 l5 n5]) ?_ ?_
    · simp [sigOk, order, reord, vals, List.lookup, s1, s2, s3, pk, p1, j1]
    refine turns_seq (ρ1 := [some (.ro (zs.map .int)), some (.loc 0), some (.p (.int (i : Nat))), some (.p (.list (fs.map peP))), some (.p (rwsP rs)), some (.p (wsP ws)), some (.p (wsP us)), some (.p (.int (k : Int))), b8, none]) (S1 := [fd zs a5 l5 n5]) ?_ ?_
    · simp [sigOk, order, reord, vals, List.lookup, s4, p1, e0, j2]
    refine turns_seq (ρ1 := [some (.ro (zs.map .int)), some (.loc 0), some (.p (.int (i : Nat))), some (.p (.list (fs.map peP))), some (.p (rwsP rs)), some (.p (wsP ws)), some (.p (wsP us)), some (.p (.int (k : Int))), b8, none]) (S1 := [fd zs a5 l5 n5]) ?_ ?_
    · simp [sigOk, order, reord, vals, List.lookup, s1, pk, c1, c2]
    rw [v_seq]
    refine for_turns [ws, us, []] (fun A => .p (wsP A)) (fun dn ρ S' => S' = [fd zs a5 l5 n5] ∧ ∃ b8, ρ = [some (.ro (zs.map .int)), some (.loc 0), some (.p (.int (i : Nat))), some (.p (.list (fs.map peP))), some (.p (rwsP rs)), some (.p (wsP ws)), some (.p (wsP us)), some (.p (.int (k : Int))), b8, none])
      (a := itP [wsP ws, wsP us, wsP []]) (S := [fd zs a5 l5 n5]) ?s2 ?w2 ?f2 ?t2 ?l2
    case s2 => simp [e0]
    case w2 => exact (walk_P [wsP ws, wsP us, wsP []]).c _
    case f2 => exact ⟨rfl, _, rfl⟩
    case l2 =>
      rintro ρ S' ⟨rfl, b8, rfl⟩
      exact ⟨a5, l5, n5, _, _, _, _, _, _, _, rfl, rfl⟩
    case t2 =>
      rintro dn A rest2 hA ρ S' ⟨rfl, b8, rfl⟩
      have mem : A ∈ [ws, us, []] := by rw [hA]; simp
      have WA : WOk N A := by
        simp only [List.mem_cons, List.not_mem_nil, or_false] at mem
        rcases mem with rfl | rfl | rfl
        · exact W1
        · exact W2
        · exact WOk.nil N
      have lA := WA.len
      have ndA := WA.nd Nnd
      have dA : dd ∉ A.map (·.1) := fun h => ddN (WA.sub.subset h)
      have LL : (fs.map mark).length ≤ 11 := by rw [List.length_map]; exact fl
      have d1 := fun S => deed_right_is LL (fresh := ws ++ us) ok ndA (by omega) (by rw [List.length_append]; omega) dA S
      have w1 := fun S => wider_right_is (ws := A) LL ok S
      have ad : ∀ S, gAdd (.p (wsP ws)) (.p (wsP us)) S = some (.p (wsP (ws ++ us))) := fun S => by
        have z : (ws.map wP).length + (us.map wP).length ≤ sizeLine := by rw [List.length_map, List.length_map]; omega
        show (if (ws.map wP).length + (us.map wP).length ≤ sizeLine then some (D.p (.tuple (ws.map wP ++ us.map wP))) else none) = _
        rw [if_pos z, ← List.map_append]; rfl
      refine ⟨[some (.ro (zs.map .int)), some (.loc 0), some (.p (.int (i : Nat))), some (.p (.list (fs.map peP))), some (.p (rwsP rs)), some (.p (wsP ws)), some (.p (wsP us)), some (.p (.int (k : Int))), some (.p (wsP A)), none], by simp, ?_⟩
      refine turns_of (.nx [some (.ro (zs.map .int)), some (.loc 0), some (.p (.int (i : Nat))), some (.p (.list (fs.map peP))), some (.p (rwsP rs)), some (.p (wsP ws)), some (.p (wsP us)), some (.p (.int (k : Int))), some (.p (wsP A)), none] [fd zs a5 l5 n5]) ?_ ⟨rfl, _, rfl⟩
      simp [sigOk, order, reord, vals, List.lookup, ad, d1, w1]
theorem good : ∀ zs : List Int, zs.length ≤ 63 → ∃ S, fx_law [.ro (zs.map .int)] [] = .ok (.p (.bool true)) S := fun zs hz => good_of zs hz
end K5

set_option Elab.async false
set_option linter.all false
set_option autoImplicit false
set_option maxRecDepth 100000
set_option maxHeartbeats 0
namespace K5
open PySem L2 Fp
theorem mk_def {K : PySem.W.Frag} {top : Heap} {mg : Str → Option Value} {x : Str} {st : Stmt} {f : Addr} {oc kV doc pm cdv ct : Value} {od an : Option Addr} {osl : Array (Option Value)} (inK : K.In top) (nsG : top.Ns mainGlobals mg)
    (h1 : PySem.W.nsIn K mainGlobals x = some (some (.ref f))) (h2 : K.lookup f = some ⟨oc, od, .func (PySem.W.fnOf x x (defArgs st) (defBody st) (defScope st) .none kV doc pm an cdv ct), osl⟩) (h3 : PySem.W.codeIn K cdv x = true) (h4 : PySem.W.keepIn K (.ref f) = true) :
    DefAt K mg x st f (PySem.W.fnOf x x (defArgs st) (defBody st) (defScope st) .none kV doc pm an cdv ct) :=
  ⟨PySem.W.mg_of inK nsG h1, h4, oc, od, kV, doc, pm, an, cdv, ct, osl, rfl, h2, h3⟩
theorem all_mk {P : Program} {w : World} {K : PySem.W.Frag} {top : Heap} {mg : Str → Option Value} {f : Addr} (inK : K.In top) (nsG : top.Ns mainGlobals mg) (named : mg (Str.ofString "law") = some (.ref f)) {a0 : Addr} {oc0 kV0 dc0 pm0 cd0 ct0 : Value} {od0 an0 : Option Addr} {sl0 : Array (Option Value)} {a1 : Addr} {oc1 kV1 dc1 pm1 cd1 ct1 : Value} {od1 an1 : Option Addr} {sl1 : Array (Option Value)} {a2 : Addr} {oc2 kV2 dc2 pm2 cd2 ct2 : Value} {od2 an2 : Option Addr} {sl2 : Array (Option Value)} {a3 : Addr} {oc3 kV3 dc3 pm3 cd3 ct3 : Value} {od3 an3 : Option Addr} {sl3 : Array (Option Value)} {a4 : Addr} {oc4 kV4 dc4 pm4 cd4 ct4 : Value} {od4 an4 : Option Addr} {sl4 : Array (Option Value)} {a5 : Addr} {oc5 kV5 dc5 pm5 cd5 ct5 : Value} {od5 an5 : Option Addr} {sl5 : Array (Option Value)} {a6 : Addr} {oc6 kV6 dc6 pm6 cd6 ct6 : Value} {od6 an6 : Option Addr} {sl6 : Array (Option Value)} {a7 : Addr} {oc7 kV7 dc7 pm7 cd7 ct7 : Value} {od7 an7 : Option Addr} {sl7 : Array (Option Value)} {a8 : Addr} {oc8 kV8 dc8 pm8 cd8 ct8 : Value} {od8 an8 : Option Addr} {sl8 : Array (Option Value)} {a9 : Addr} {oc9 kV9 dc9 pm9 cd9 ct9 : Value} {od9 an9 : Option Addr} {sl9 : Array (Option Value)} {a10 : Addr} {oc10 kV10 dc10 pm10 cd10 ct10 : Value} {od10 an10 : Option Addr} {sl10 : Array (Option Value)} {a11 : Addr} {oc11 kV11 dc11 pm11 cd11 ct11 : Value} {od11 an11 : Option Addr} {sl11 : Array (Option Value)} {a12 : Addr} {oc12 kV12 dc12 pm12 cd12 ct12 : Value} {od12 an12 : Option Addr} {sl12 : Array (Option Value)} {a13 : Addr} {oc13 kV13 dc13 pm13 cd13 ct13 : Value} {od13 an13 : Option Addr} {sl13 : Array (Option Value)} {a14 : Addr} {oc14 kV14 dc14 pm14 cd14 ct14 : Value} {od14 an14 : Option Addr} {sl14 : Array (Option Value)} {a15 : Addr} {oc15 kV15 dc15 pm15 cd15 ct15 : Value} {od15 an15 : Option Addr} {sl15 : Array (Option Value)} {a16 : Addr} {oc16 kV16 dc16 pm16 cd16 ct16 : Value} {od16 an16 : Option Addr} {sl16 : Array (Option Value)} {a17 : Addr} {oc17 kV17 dc17 pm17 cd17 ct17 : Value} {od17 an17 : Option Addr} {sl17 : Array (Option Value)} {a18 : Addr} {oc18 kV18 dc18 pm18 cd18 ct18 : Value} {od18 an18 : Option Addr} {sl18 : Array (Option Value)} {a19 : Addr} {oc19 kV19 dc19 pm19 cd19 ct19 : Value} {od19 an19 : Option Addr} {sl19 : Array (Option Value)} {a20 : Addr} {oc20 kV20 dc20 pm20 cd20 ct20 : Value} {od20 an20 : Option Addr} {sl20 : Array (Option Value)} {eC0 eB0 eF0 eN0 : Addr} {enm0 eq0 : Str} {ebs0 ebm0 esub0 : List Value} {esn0 : List Str} {eab0 : Bool} {ecol0 : Option Bool} {edd0 : Option Addr} {em00 em10 em20 em30 em50 : Option Value} {eoc0 ekV0 edc0 epm0 ecd0 ect0 : Value} {eod0 ean0 : Option Addr} {esl0 : Array (Option Value)}
    (n0 : PySem.W.nsIn K mainGlobals (Str.ofString "last_word") = some (some (.ref a0))) (l0 : K.lookup a0 = some ⟨oc0, od0, .func (PySem.W.fnOf (Str.ofString "last_word") (Str.ofString "last_word") (defArgs st_last_word) (defBody st_last_word) (defScope st_last_word) .none kV0 dc0 pm0 an0 cd0 ct0), sl0⟩) (c0 : PySem.W.codeIn K cd0 (Str.ofString "last_word") = true) (k0 : PySem.W.keepIn K (.ref a0) = true) (n1 : PySem.W.nsIn K mainGlobals (Str.ofString "is_settled") = some (some (.ref a1))) (l1 : K.lookup a1 = some ⟨oc1, od1, .func (PySem.W.fnOf (Str.ofString "is_settled") (Str.ofString "is_settled") (defArgs st_is_settled) (defBody st_is_settled) (defScope st_is_settled) .none kV1 dc1 pm1 an1 cd1 ct1), sl1⟩) (c1 : PySem.W.codeIn K cd1 (Str.ofString "is_settled") = true) (k1 : PySem.W.keepIn K (.ref a1) = true) (n2 : PySem.W.nsIn K mainGlobals (Str.ofString "is_fallen") = some (some (.ref a2))) (l2 : K.lookup a2 = some ⟨oc2, od2, .func (PySem.W.fnOf (Str.ofString "is_fallen") (Str.ofString "is_fallen") (defArgs st_is_fallen) (defBody st_is_fallen) (defScope st_is_fallen) .none kV2 dc2 pm2 an2 cd2 ct2), sl2⟩) (c2 : PySem.W.codeIn K cd2 (Str.ofString "is_fallen") = true) (k2 : PySem.W.keepIn K (.ref a2) = true) (n3 : PySem.W.nsIn K mainGlobals (Str.ofString "is_firm") = some (some (.ref a3))) (l3 : K.lookup a3 = some ⟨oc3, od3, .func (PySem.W.fnOf (Str.ofString "is_firm") (Str.ofString "is_firm") (defArgs st_is_firm) (defBody st_is_firm) (defScope st_is_firm) .none kV3 dc3 pm3 an3 cd3 ct3), sl3⟩) (c3 : PySem.W.codeIn K cd3 (Str.ofString "is_firm") = true) (k3 : PySem.W.keepIn K (.ref a3) = true) (n4 : PySem.W.nsIn K mainGlobals (Str.ofString "standing_places") = some (some (.ref a4))) (l4 : K.lookup a4 = some ⟨oc4, od4, .func (PySem.W.fnOf (Str.ofString "standing_places") (Str.ofString "standing_places") (defArgs st_standing_places) (defBody st_standing_places) (defScope st_standing_places) .none kV4 dc4 pm4 an4 cd4 ct4), sl4⟩) (c4 : PySem.W.codeIn K cd4 (Str.ofString "standing_places") = true) (k4 : PySem.W.keepIn K (.ref a4) = true) (n5 : PySem.W.nsIn K mainGlobals (Str.ofString "heart_places") = some (some (.ref a5))) (l5 : K.lookup a5 = some ⟨oc5, od5, .func (PySem.W.fnOf (Str.ofString "heart_places") (Str.ofString "heart_places") (defArgs st_heart_places) (defBody st_heart_places) (defScope st_heart_places) .none kV5 dc5 pm5 an5 cd5 ct5), sl5⟩) (c5 : PySem.W.codeIn K cd5 (Str.ofString "heart_places") = true) (k5 : PySem.W.keepIn K (.ref a5) = true) (n6 : PySem.W.nsIn K mainGlobals (Str.ofString "heart_writings") = some (some (.ref a6))) (l6 : K.lookup a6 = some ⟨oc6, od6, .func (PySem.W.fnOf (Str.ofString "heart_writings") (Str.ofString "heart_writings") (defArgs st_heart_writings) (defBody st_heart_writings) (defScope st_heart_writings) .none kV6 dc6 pm6 an6 cd6 ct6), sl6⟩) (c6 : PySem.W.codeIn K cd6 (Str.ofString "heart_writings") = true) (k6 : PySem.W.keepIn K (.ref a6) = true) (n7 : PySem.W.nsIn K mainGlobals (Str.ofString "rests_straight") = some (some (.ref a7))) (l7 : K.lookup a7 = some ⟨oc7, od7, .func (PySem.W.fnOf (Str.ofString "rests_straight") (Str.ofString "rests_straight") (defArgs st_rests_straight) (defBody st_rests_straight) (defScope st_rests_straight) .none kV7 dc7 pm7 an7 cd7 ct7), sl7⟩) (c7 : PySem.W.codeIn K cd7 (Str.ofString "rests_straight") = true) (k7 : PySem.W.keepIn K (.ref a7) = true) (n8 : PySem.W.nsIn K mainGlobals (Str.ofString "below_resting") = some (some (.ref a8))) (l8 : K.lookup a8 = some ⟨oc8, od8, .func (PySem.W.fnOf (Str.ofString "below_resting") (Str.ofString "below_resting") (defArgs st_below_resting) (defBody st_below_resting) (defScope st_below_resting) .none kV8 dc8 pm8 an8 cd8 ct8), sl8⟩) (c8 : PySem.W.codeIn K cd8 (Str.ofString "below_resting") = true) (k8 : PySem.W.keepIn K (.ref a8) = true) (n9 : PySem.W.nsIn K mainGlobals (Str.ofString "words_joined") = some (some (.ref a9))) (l9 : K.lookup a9 = some ⟨oc9, od9, .func (PySem.W.fnOf (Str.ofString "words_joined") (Str.ofString "words_joined") (defArgs st_words_joined) (defBody st_words_joined) (defScope st_words_joined) .none kV9 dc9 pm9 an9 cd9 ct9), sl9⟩) (c9 : PySem.W.codeIn K cd9 (Str.ofString "words_joined") = true) (k9 : PySem.W.keepIn K (.ref a9) = true) (n10 : PySem.W.nsIn K mainGlobals (Str.ofString "_law_feed") = some (some (.ref a10))) (l10 : K.lookup a10 = some ⟨oc10, od10, .func (PySem.W.fnOf (Str.ofString "_law_feed") (Str.ofString "_law_feed") (defArgs st__law_feed) (defBody st__law_feed) (defScope st__law_feed) .none kV10 dc10 pm10 an10 cd10 ct10), sl10⟩) (c10 : PySem.W.codeIn K cd10 (Str.ofString "_law_feed") = true) (k10 : PySem.W.keepIn K (.ref a10) = true) (n11 : PySem.W.nsIn K mainGlobals (Str.ofString "_law_draw") = some (some (.ref a11))) (l11 : K.lookup a11 = some ⟨oc11, od11, .func (PySem.W.fnOf (Str.ofString "_law_draw") (Str.ofString "_law_draw") (defArgs st__law_draw) (defBody st__law_draw) (defScope st__law_draw) .none kV11 dc11 pm11 an11 cd11 ct11), sl11⟩) (c11 : PySem.W.codeIn K cd11 (Str.ofString "_law_draw") = true) (k11 : PySem.W.keepIn K (.ref a11) = true) (n12 : PySem.W.nsIn K mainGlobals (Str.ofString "_law_pool") = some (some (.ref a12))) (l12 : K.lookup a12 = some ⟨oc12, od12, .func (PySem.W.fnOf (Str.ofString "_law_pool") (Str.ofString "_law_pool") (defArgs st__law_pool) (defBody st__law_pool) (defScope st__law_pool) .none kV12 dc12 pm12 an12 cd12 ct12), sl12⟩) (c12 : PySem.W.codeIn K cd12 (Str.ofString "_law_pool") = true) (k12 : PySem.W.keepIn K (.ref a12) = true) (n13 : PySem.W.nsIn K mainGlobals (Str.ofString "_law_last") = some (some (.ref a13))) (l13 : K.lookup a13 = some ⟨oc13, od13, .func (PySem.W.fnOf (Str.ofString "_law_last") (Str.ofString "_law_last") (defArgs st__law_last) (defBody st__law_last) (defScope st__law_last) .none kV13 dc13 pm13 an13 cd13 ct13), sl13⟩) (c13 : PySem.W.codeIn K cd13 (Str.ofString "_law_last") = true) (k13 : PySem.W.keepIn K (.ref a13) = true) (n14 : PySem.W.nsIn K mainGlobals (Str.ofString "_law_strip") = some (some (.ref a14))) (l14 : K.lookup a14 = some ⟨oc14, od14, .func (PySem.W.fnOf (Str.ofString "_law_strip") (Str.ofString "_law_strip") (defArgs st__law_strip) (defBody st__law_strip) (defScope st__law_strip) .none kV14 dc14 pm14 an14 cd14 ct14), sl14⟩) (c14 : PySem.W.codeIn K cd14 (Str.ofString "_law_strip") = true) (k14 : PySem.W.keepIn K (.ref a14) = true) (n15 : PySem.W.nsIn K mainGlobals (Str.ofString "_law_refused") = some (some (.ref a15))) (l15 : K.lookup a15 = some ⟨oc15, od15, .func (PySem.W.fnOf (Str.ofString "_law_refused") (Str.ofString "_law_refused") (defArgs st__law_refused) (defBody st__law_refused) (defScope st__law_refused) .none kV15 dc15 pm15 an15 cd15 ct15), sl15⟩) (c15 : PySem.W.codeIn K cd15 (Str.ofString "_law_refused") = true) (k15 : PySem.W.keepIn K (.ref a15) = true) (n16 : PySem.W.nsIn K mainGlobals (Str.ofString "_law_joined_right") = some (some (.ref a16))) (l16 : K.lookup a16 = some ⟨oc16, od16, .func (PySem.W.fnOf (Str.ofString "_law_joined_right") (Str.ofString "_law_joined_right") (defArgs st__law_joined_right) (defBody st__law_joined_right) (defScope st__law_joined_right) .none kV16 dc16 pm16 an16 cd16 ct16), sl16⟩) (c16 : PySem.W.codeIn K cd16 (Str.ofString "_law_joined_right") = true) (k16 : PySem.W.keepIn K (.ref a16) = true) (n17 : PySem.W.nsIn K mainGlobals (Str.ofString "_law_clash_right") = some (some (.ref a17))) (l17 : K.lookup a17 = some ⟨oc17, od17, .func (PySem.W.fnOf (Str.ofString "_law_clash_right") (Str.ofString "_law_clash_right") (defArgs st__law_clash_right) (defBody st__law_clash_right) (defScope st__law_clash_right) .none kV17 dc17 pm17 an17 cd17 ct17), sl17⟩) (c17 : PySem.W.codeIn K cd17 (Str.ofString "_law_clash_right") = true) (k17 : PySem.W.keepIn K (.ref a17) = true) (n18 : PySem.W.nsIn K mainGlobals (Str.ofString "_law_deed_right") = some (some (.ref a18))) (l18 : K.lookup a18 = some ⟨oc18, od18, .func (PySem.W.fnOf (Str.ofString "_law_deed_right") (Str.ofString "_law_deed_right") (defArgs st__law_deed_right) (defBody st__law_deed_right) (defScope st__law_deed_right) .none kV18 dc18 pm18 an18 cd18 ct18), sl18⟩) (c18 : PySem.W.codeIn K cd18 (Str.ofString "_law_deed_right") = true) (k18 : PySem.W.keepIn K (.ref a18) = true) (n19 : PySem.W.nsIn K mainGlobals (Str.ofString "_law_wider_right") = some (some (.ref a19))) (l19 : K.lookup a19 = some ⟨oc19, od19, .func (PySem.W.fnOf (Str.ofString "_law_wider_right") (Str.ofString "_law_wider_right") (defArgs st__law_wider_right) (defBody st__law_wider_right) (defScope st__law_wider_right) .none kV19 dc19 pm19 an19 cd19 ct19), sl19⟩) (c19 : PySem.W.codeIn K cd19 (Str.ofString "_law_wider_right") = true) (k19 : PySem.W.keepIn K (.ref a19) = true) (n20 : PySem.W.nsIn K mainGlobals (Str.ofString "law") = some (some (.ref a20))) (l20 : K.lookup a20 = some ⟨oc20, od20, .func (PySem.W.fnOf (Str.ofString "law") (Str.ofString "law") (defArgs st_law) (defBody st_law) (defScope st_law) .none kV20 dc20 pm20 an20 cd20 ct20), sl20⟩) (c20 : PySem.W.codeIn K cd20 (Str.ofString "law") = true) (k20 : PySem.W.keepIn K (.ref a20) = true) (z_all : PySem.W.nsIn K mainGlobals (Str.ofString "all") = some none) (z_any : PySem.W.nsIn K mainGlobals (Str.ofString "any") = some none) (z_dict : PySem.W.nsIn K mainGlobals (Str.ofString "dict") = some none) (z_enumerate : PySem.W.nsIn K mainGlobals (Str.ofString "enumerate") = some none) (z_len : PySem.W.nsIn K mainGlobals (Str.ofString "len") = some none) (z_list : PySem.W.nsIn K mainGlobals (Str.ofString "list") = some none) (z_max : PySem.W.nsIn K mainGlobals (Str.ofString "max") = some none) (z_range : PySem.W.nsIn K mainGlobals (Str.ofString "range") = some none) (z_repr : PySem.W.nsIn K mainGlobals (Str.ofString "repr") = some none) (z_set : PySem.W.nsIn K mainGlobals (Str.ofString "set") = some none) (z_sorted : PySem.W.nsIn K mainGlobals (Str.ofString "sorted") = some none) (z_tuple : PySem.W.nsIn K mainGlobals (Str.ofString "tuple") = some none) (ga0 : PySem.W.nsIn K mainGlobals (Str.ofString "NoName") = some (some (.ref eC0))) (gb0 : K.lookup eC0 = some (excClassObj enm0 eq0 eC0 eN0 ebs0 ebm0 true esn0 esub0 eab0 ecol0 edd0 em00 em10 em20 em30 em50 "ValueError.__new__")) (gc0 : PySem.HandSPX.refsVE ebm0 = true) (gd0 : PySem.W.findIn K (.ref eC0) "__setattr__" = some (some (.builtin "object.__setattr__"))) (ge0 : PySem.W.findIn K (.ref eC0) "__getattribute__" = some (some (.builtin "BaseException.__getattribute__"))) (gf0 : PySem.W.findIn K (.ref eC0) "__getattr__" = some none) (gn00 : PySem.W.findIn K (.ref eC0) (Str.ofString "name") = some none) (gg0 : PySem.W.findIn K (.ref eC0) "__init__" = some (some (.ref eF0))) (gh0 : PySem.W.typeIn K (.ref eF0) = some (.type "function")) (gi0 : K.lookup eF0 = some ⟨eoc0, eod0, .func (PySem.W.fnOf "__init__" (Str.ofString "NoName.__init__") (defArgs st_NoName) (defBody st_NoName) (defScope st_NoName) .none ekV0 edc0 epm0 ean0 ecd0 ect0), esl0⟩) (gj0 : PySem.W.codeIn K ecd0 (Str.ofString "NoName.__init__") = true) (gk0 : PySem.W.keepIn K (.ref eC0) = true) (gl0 : PySem.W.subIn K (.ref eC0) (.type "BaseException") = some true) (gm0 : PySem.W.typeIn K (.ref eC0) = some (.type "type")) (go0 : PySem.W.hasDictIn K eC0 = true) (gp0 : PySem.W.isClsIn K eC0 = true) (gq0 : PySem.W.subIn K (.ref eC0) (.ref eC0) = some true) (gr0 : PySem.W.nsIn K mainGlobals (Str.ofString "BookError") = some (some (.ref eB0))) (gs0 : PySem.W.specialIn K (.ref eB0) "__getattribute__" = some (some (.builtin "type.__getattribute__"))) (gt0 : PySem.W.typeIn K (.ref eB0) = some (.type "type")) (gu0 : PySem.W.readsIn K eB0 (.type "type") = true) (gv0 : PySem.W.findCls K (.ref eB0) (.type "type") "__init__" = some (.val (.builtin "ValueError.__init__"))) :
    ∃ fd : FuncData, (∀ (sh : Shared) (u : Value), BindsTo sh fd ⟨[u], []⟩ [((Str.ofString "_law_script"), u)]) ∧ ∀ base : Heap, K.In base → base.Ns mainGlobals mg → FnG (gam P w K mg base) 9 f fd [(Str.ofString "_law_script")] (spOf (gam P w K mg base) 1 fx_law) := by
  have same := named.symm.trans (PySem.W.mg_of inK nsG n20)
  cases same
  exact ⟨_, fun sh u => .of_eq rfl, fun base _ _ => ok_law ⟨⟨_, _, mk_def inK nsG n0 l0 c0 k0⟩, ⟨_, _, mk_def inK nsG n1 l1 c1 k1⟩, ⟨_, _, mk_def inK nsG n2 l2 c2 k2⟩, ⟨_, _, mk_def inK nsG n3 l3 c3 k3⟩, ⟨_, _, mk_def inK nsG n4 l4 c4 k4⟩, ⟨_, _, mk_def inK nsG n5 l5 c5 k5⟩, ⟨_, _, mk_def inK nsG n6 l6 c6 k6⟩, ⟨_, _, mk_def inK nsG n7 l7 c7 k7⟩, ⟨_, _, mk_def inK nsG n8 l8 c8 k8⟩, ⟨_, _, mk_def inK nsG n9 l9 c9 k9⟩, ⟨_, _, mk_def inK nsG n10 l10 c10 k10⟩, ⟨_, _, mk_def inK nsG n11 l11 c11 k11⟩, ⟨_, _, mk_def inK nsG n12 l12 c12 k12⟩, ⟨_, _, mk_def inK nsG n13 l13 c13 k13⟩, ⟨_, _, mk_def inK nsG n14 l14 c14 k14⟩, ⟨_, _, mk_def inK nsG n15 l15 c15 k15⟩, ⟨_, _, mk_def inK nsG n16 l16 c16 k16⟩, ⟨_, _, mk_def inK nsG n17 l17 c17 k17⟩, ⟨_, _, mk_def inK nsG n18 l18 c18 k18⟩, ⟨_, _, mk_def inK nsG n19 l19 c19 k19⟩, ⟨_, _, mk_def inK nsG n20 l20 c20 k20⟩, PySem.W.mg_none_of inK nsG z_all, PySem.W.mg_none_of inK nsG z_any, PySem.W.mg_none_of inK nsG z_dict, PySem.W.mg_none_of inK nsG z_enumerate, PySem.W.mg_none_of inK nsG z_len, PySem.W.mg_none_of inK nsG z_list, PySem.W.mg_none_of inK nsG z_max, PySem.W.mg_none_of inK nsG z_range, PySem.W.mg_none_of inK nsG z_repr, PySem.W.mg_none_of inK nsG z_set, PySem.W.mg_none_of inK nsG z_sorted, PySem.W.mg_none_of inK nsG z_tuple, ⟨_, _, _, _, { gl := PySem.W.mg_of inK nsG ga0, base := ⟨PySem.W.mg_of inK nsG gr0, gs0, gt0, gu0, gv0⟩, ini := ⟨gg0, gh0, _, _, _, _, _, _, _, _, _, rfl, gi0, gj0⟩, oex := ⟨⟨_, _, _, _, _, _, _, _, _, _, _, _, _, _, _, gb0, gc0⟩, gd0, gl0, gm0, gk0⟩, xf := ⟨ge0, gf0, gl0, go0⟩, no := by simp only [List.mem_cons, List.not_mem_nil, or_false, forall_eq_or_imp, forall_eq]; exact gn00, same := same_of gl0 gp0 gm0 gq0 }⟩⟩ (mk_def inK nsG n20 l20 c20 k20)⟩
end K5
open PyProof.Rows PySem PySem.W in
theorem K5.row : PySem.Challenge.rw_fallpaid_k05_whole_fallen_just_where.Holds := by
  w_on; o_law; k_head
  (case hw => w_witness2); k_fill
  refine Fp.walkG (l := PySem.Challenge.rw_fallpaid_k05_whole_fallen_just_where) (n := 63) (k := 9) (x := (Str.ofString "_law_script")) (fx := K5.fx_law) rfl (by decide) rfl ⟨rfl, by decide, by decide⟩ (fun w h Y => PySem.W.kIn_of Y) ?F K5.good
  case F =>
    intro w mg fa h KX G hmg
    refine' K5.all_mk KX G hmg ?n0 ?l0 ?c0 ?k0 ?n1 ?l1 ?c1 ?k1 ?n2 ?l2 ?c2 ?k2 ?n3 ?l3 ?c3 ?k3 ?n4 ?l4 ?c4 ?k4 ?n5 ?l5 ?c5 ?k5 ?n6 ?l6 ?c6 ?k6 ?n7 ?l7 ?c7 ?k7 ?n8 ?l8 ?c8 ?k8 ?n9 ?l9 ?c9 ?k9 ?n10 ?l10 ?c10 ?k10 ?n11 ?l11 ?c11 ?k11 ?n12 ?l12 ?c12 ?k12 ?n13 ?l13 ?c13 ?k13 ?n14 ?l14 ?c14 ?k14 ?n15 ?l15 ?c15 ?k15 ?n16 ?l16 ?c16 ?k16 ?n17 ?l17 ?c17 ?k17 ?n18 ?l18 ?c18 ?k18 ?n19 ?l19 ?c19 ?k19 ?n20 ?l20 ?c20 ?k20 ?z_all ?z_any ?z_dict ?z_enumerate ?z_len ?z_list ?z_max ?z_range ?z_repr ?z_set ?z_sorted ?z_tuple ?ga0 ?gb0 ?gc0 ?gd0 ?ge0 ?gf0 ?gn00 ?gg0 ?gh0 ?gi0 ?gj0 ?gk0 ?gl0 ?gm0 ?go0 ?gp0 ?gq0 ?gr0 ?gs0 ?gt0 ?gu0 ?gv0
    (case n0 => k_is)
    (case l0 => k_is)
    (case c0 => k_is)
    (case k0 => k_is)
    (case n1 => k_is)
    (case l1 => k_is)
    (case c1 => k_is)
    (case k1 => k_is)
    (case n2 => k_is)
    (case l2 => k_is)
    (case c2 => k_is)
    (case k2 => k_is)
    (case n3 => k_is)
    (case l3 => k_is)
    (case c3 => k_is)
    (case k3 => k_is)
    (case n4 => k_is)
    (case l4 => k_is)
    (case c4 => k_is)
    (case k4 => k_is)
    (case n5 => k_is)
    (case l5 => k_is)
    (case c5 => k_is)
    (case k5 => k_is)
    (case n6 => k_is)
    (case l6 => k_is)
    (case c6 => k_is)
    (case k6 => k_is)
    (case n7 => k_is)
    (case l7 => k_is)
    (case c7 => k_is)
    (case k7 => k_is)
    (case n8 => k_is)
    (case l8 => k_is)
    (case c8 => k_is)
    (case k8 => k_is)
    (case n9 => k_is)
    (case l9 => k_is)
    (case c9 => k_is)
    (case k9 => k_is)
    (case n10 => k_is)
    (case l10 => k_is)
    (case c10 => k_is)
    (case k10 => k_is)
    (case n11 => k_is)
    (case l11 => k_is)
    (case c11 => k_is)
    (case k11 => k_is)
    (case n12 => k_is)
    (case l12 => k_is)
    (case c12 => k_is)
    (case k12 => k_is)
    (case n13 => k_is)
    (case l13 => k_is)
    (case c13 => k_is)
    (case k13 => k_is)
    (case n14 => k_is)
    (case l14 => k_is)
    (case c14 => k_is)
    (case k14 => k_is)
    (case n15 => k_is)
    (case l15 => k_is)
    (case c15 => k_is)
    (case k15 => k_is)
    (case n16 => k_is)
    (case l16 => k_is)
    (case c16 => k_is)
    (case k16 => k_is)
    (case n17 => k_is)
    (case l17 => k_is)
    (case c17 => k_is)
    (case k17 => k_is)
    (case n18 => k_is)
    (case l18 => k_is)
    (case c18 => k_is)
    (case k18 => k_is)
    (case n19 => k_is)
    (case l19 => k_is)
    (case c19 => k_is)
    (case k19 => k_is)
    (case n20 => k_is)
    (case l20 => k_is)
    (case c20 => k_is)
    (case k20 => k_is)
    (case z_all => k_is)
    (case z_any => k_is)
    (case z_dict => k_is)
    (case z_enumerate => k_is)
    (case z_len => k_is)
    (case z_list => k_is)
    (case z_max => k_is)
    (case z_range => k_is)
    (case z_repr => k_is)
    (case z_set => k_is)
    (case z_sorted => k_is)
    (case z_tuple => k_is)
    (case ga0 => k_is)
    (case gb0 => k_is)
    (case gc0 => first | rfl | k_is)
    (case gd0 => k_is)
    (case ge0 => k_is)
    (case gf0 => k_is)
    (case gn00 => k_is)
    (case gg0 => k_is)
    (case gh0 => k_is)
    (case gi0 => k_is)
    (case gj0 => k_is)
    (case gk0 => k_is)
    (case gl0 => k_is)
    (case gm0 => k_is)
    (case go0 => k_is)
    (case gp0 => k_is)
    (case gq0 => first | rfl | k_is)
    (case gr0 => k_is)
    (case gs0 => k_is)
    (case gt0 => k_is)
    (case gu0 => k_is)
    (case gv0 => k_is)

theorem PySem.Challenge.cw_fallpaid_k05_whole_fallen_just_where_holds : PySem.Challenge.rw_fallpaid_k05_whole_fallen_just_where.Holds :=
  K5.row
