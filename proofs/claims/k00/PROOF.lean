import PyProof.Rows.All
import Wide.All
import OpenK.AllK
import Wide.FinOn
import HandS.ForMost
import HandS.ForExc
import HandS.CallSlots
import HandS.TryMany
import HandS.Flow
import HandS.RaiseMore
import HandS.Lambda
import KE.KDictKeyed
import KE.KeyNested
import HandS.IsInst
import HandS.TupAny
import HandS.StrMore
import HandS.Text
import HandS.FStr
import HandS.Deep
import HandS.ExcOwn
import HandS.WordsExc
import HandS.NoneIn
import HandS.Iter
import HandS.Comp
import HandS.Dict
import KE.KExcSuper
import HandS.ExcInit
import HandS.ExcField
import HandS.TupMul
import PyProof.Rows.IntBool
import PyProof.StrOps2
import PyProof.NeKinds
import PyProof.CallStr
import HandS.EndTab
import KE.KNestM
import HandS.Star
import HandS.Conv
import KE.GoesMore
import HandS.Style
import HandS.DictComp
import HandS.TupLen
import KE.SortKeyHeap
import KE.SortData
import HandS.SortKw
import KE.KRevSl
import KE.KDictDisplayH
import HandS.ExcValue
import PyProof.ReprRoads
import KE.KExcIs
import HandS.ExcIs
import PyProof.Rows.Walk
import KE.IntTextLaws
import PyProof.StrLawsIn
import PyProof.StrLawsChain
import PyProof.Rows.StrItems
import PySem.Challenge.RW_lampfolk_k00_errors_alone
set_option Elab.async false
set_option linter.all false
set_option maxRecDepth 100000
set_option maxHeartbeats 4000000
/-! The layer: values as trees, a store of cells, programs as functions on both. -/
namespace LF
open PySem PySem.Spec PyProof.Rows L2

/-! ### values, cells, results -/
inductive D where
  | non | bl (b : Bool) | int (i : Int) | str (x : Str) | tup (ds : List D) | ref (i : Nat) | glo (n : Nat) | ty (n : String) | scr (ns : List Int) | xc
inductive Cell where
  | lst (ds : List D)
  | ins (c : Nat) (fs : List (String × D))
  | dct (kvs : List (D × D))
  | exn (c : Nat) (fs : List (String × D))
  | dtx (x : Str) (d : D)
abbrev Sto := List Cell
abbrev Sl := List (Option D)
inductive Res (α : Type) where
  | ok (a : α) (s : Sto)
  | exn (c : Nat) (fs : List (String × D)) (s : Sto)
  | bad
def Res.bind {α β : Type} : Res α → (α → Sto → Res β) → Res β
  | .ok a s, f => f a s
  | .exn c fs s, _ => .exn c fs s
  | .bad, _ => .bad
abbrev M (α : Type) := Sto → Res α
abbrev E := Sl → M D

/-- what stands at which address: the written part, the addresses of the module's own things -/
structure Gx where
  K : PySem.W.Frag
  tb : Nat → Addr
  /-- the exception at hand: its address, its dict, its fields -/
  xi : Option (Addr × Addr × List (String × D))
  /-- tables of code objects -/
  T : List (Addr × Str)

/-- a list that is only read -/
def SqS (K : PySem.W.Frag) (H : Hp) (a : Addr) (xs : List V) : Prop :=
  (∃ o, H a = some (.frz o (.lst xs))) ∨
    ∃ (o : Obj) (its : Array Value) (n : Nat), K.lookup a = some o ∧ o.cls = .type "list" ∧ o.dict = none ∧ o.data = .seq its n ∧ its.size ≤ sizeLine ∧ Vals xs its.toList
theorem SqS.l {K : PySem.W.Frag} {H : Hp} {a : Addr} {xs : List V} (h : SqS K H a xs) : SqL K H a xs := by
  rcases h with ⟨o, h⟩ | h
  · exact .inl (.inr ⟨o, h⟩)
  · exact .inr h

/-- a tuple: tracked, or an object of the written part -/
def SqU (K : PySem.W.Frag) (H : Hp) (a : Addr) (xs : List V) : Prop :=
  H a = some (.tup xs) ∨ ∃ (o : Obj) (its : Array Value) (n : Nat), K.lookup a = some o ∧ o.cls = .type "tuple" ∧ o.data = .seq its n ∧ its.size ≤ sizeLine ∧ Vals xs its.toList
theorem SqU.t {K : PySem.W.Frag} {H : Hp} {a : Addr} {xs : List V} (h : SqU K H a xs) : SqT K H a xs := by
  rcases h with h | h
  · exact .inl (.inl h)
  · exact .inr h
mutual
/-- a value as a key (no text in it) -/
def dkey : D → Option NestedKey
  | .non => some .none
  | .bl b => some (.num (if b = true then 1 else 0))
  | .int i => some (.num i)
  | .tup ds => (dkeys ds).map .tup
  | _ => none
def dkeys : List D → Option (List NestedKey)
  | [] => some []
  | d :: ds => match dkey d, dkeys ds with
    | some k, some ks => some (k :: ks)
    | _, _ => none
end
/-- a dict whose keys are nested tuples without texts -/
def DctO (a : Addr) (xs : List (NestedKey × Addr × Value)) : HO := .ext fun h => ((a == sysModules) = false ∧ xs.length ≤ sizeLine ∧ (xs.map (·.1)).Nodup) ∧
  ∃ o es ep, h.get? a = some o ∧ o.ExactDict ∧ o.data = .dict es ep ∧ ∀ (P : Program) (w : World), es.toList = xs.map (entryOfKey (nestedKind P w))
section
variable (G : Gx)
mutual
def RV (ms : List Addr) (H : Hp) : D → V → Prop
  | .non, v => v = .non
  | .bl b, v => v = .bl b
  | .int i, v => v = .int i
  | .str x, v => v = .str x
  | .tup ds, v => ∃ a vs, v = .ref a ∧ SqU G.K H a vs ∧ RVs ms H ds vs
  | .ref i, v => ∃ a, v = .ref a ∧ ms[i]? = some a
  | .glo n, v => v = .ref (G.tb n)
  | .ty n, v => v = .ty n
  | .scr ns, v => ∃ a, v = .ref a ∧ SqS G.K H a (ns.map V.int)
  | .xc, v => ∃ a d fs, G.xi = some (a, d, fs) ∧ v = .ref a
def RVs (ms : List Addr) (H : Hp) : List D → List V → Prop
  | [], vs => vs = []
  | d :: ds, vs => ∃ v r, vs = v :: r ∧ RV ms H d v ∧ RVs ms H ds r
end
/-- fields -/
def RF (ms : List Addr) (H : Hp) : List (String × D) → List (Str × V) → Prop
  | [], gs => gs = []
  | p :: fs, gs => ∃ v r, gs = (Str.ofString p.1, v) :: r ∧ RV G ms H p.2 v ∧ RF ms H fs r
/-- slots -/
def RE (ms : List Addr) (H : Hp) : Sl → L2.St → Prop
  | [], σ => σ = []
  | none :: e, σ => ∃ o r, σ = o :: r ∧ RE ms H e r
  | some d :: e, σ => ∃ v r, σ = some v :: r ∧ RV G ms H d v ∧ RE ms H e r
/-- a dict of whole numbers: keys and values -/
def RK (ms : List Addr) (H : Hp) : List (D × D) → List (Key × V) → Prop
  | [], l => l = []
  | p :: r, l => ∃ i v s, l = (.inl i, v) :: s ∧ p.1 = .int i ∧ RV G ms H p.2 v ∧ RK ms H r s
/-- a dict of nested tuples: keys and values -/
def RN (ms : List Addr) (H : Hp) : List (D × D) → List (NestedKey × Addr × Value) → Prop
  | [], l => l = []
  | p :: r, l => ∃ nk a u v s, l = (nk, a, u) :: s ∧ dkey p.1 = some nk ∧ nk.depth ≤ 8 ∧ RV G ms H p.1 (.ref a) ∧ RelV v u ∧ RV G ms H p.2 v ∧ RN ms H r s
/-- the addresses grow, what never changes stays -/
structure Gr (ms : List Addr) (H : Hp) (ms' : List Addr) (H' : Hp) : Prop where
  pre : ∃ t, ms' = ms ++ t
  tup : ∀ a xs, H a = some (.tup xs) → H' a = some (.tup xs)
  frz : ∀ a o u, H a = some (.frz o u) → H' a = some (.frz o u)
variable {G}
variable {ms ms' ms1 ms2 : List Addr} {H H' H1 H2 : Hp}
theorem Gr.refl : Gr ms H ms H := ⟨⟨[], by simp⟩, fun _ _ h => h, fun _ _ _ h => h⟩
theorem Gr.trans (a : Gr ms H ms1 H1) (b : Gr ms1 H1 ms2 H2) : Gr ms H ms2 H2 := by
  obtain ⟨t, rfl⟩ := a.pre
  obtain ⟨u, rfl⟩ := b.pre
  exact ⟨⟨t ++ u, by simp⟩, fun c xs h => b.tup c xs (a.tup c xs h), fun c o u h => b.frz c o u (a.frz c o u h)⟩
theorem Gr.sqT {K : PySem.W.Frag} {a : Addr} {xs : List V} (g : Gr ms H ms' H') (h : SqU K H a xs) : SqU K H' a xs := by
  rcases h with h | h
  · exact .inl (g.tup _ _ h)
  · exact .inr h
theorem Gr.sqS {K : PySem.W.Frag} {a : Addr} {xs : List V} (g : Gr ms H ms' H') (h : SqS K H a xs) : SqS K H' a xs := by
  rcases h with ⟨o, h⟩ | h
  · exact .inl ⟨o, g.frz _ _ _ h⟩
  · exact .inr h
theorem Gr.at (g : Gr ms H ms' H') {i : Nat} {a : Addr} (h : ms[i]? = some a) : ms'[i]? = some a := by
  obtain ⟨t, rfl⟩ := g.pre
  obtain ⟨h1, h2⟩ := List.getElem?_eq_some_iff.mp h
  rw [List.getElem?_append_left h1]
  exact h
mutual
theorem RV.gr (g : Gr ms H ms' H') : ∀ (d : D) (v : V), RV G ms H d v → RV G ms' H' d v
  | .non, _, h => h
  | .bl _, _, h => h
  | .int _, _, h => h
  | .str _, _, h => h
  | .tup ds, _, h => by
    simp only [RV] at h ⊢
    obtain ⟨a, vs, e, h1, h2⟩ := h
    exact ⟨a, vs, e, g.sqT h1, RVs.gr g ds vs h2⟩
  | .ref _, _, h => by
    simp only [RV] at h ⊢
    obtain ⟨a, e, h1⟩ := h
    exact ⟨a, e, g.at h1⟩
  | .glo _, _, h => h
  | .ty _, _, h => h
  | .scr _, _, h => by
    simp only [RV] at h ⊢
    obtain ⟨a, e, h1⟩ := h
    exact ⟨a, e, g.sqS h1⟩
  | .xc, _, h => by
    simp only [RV] at h ⊢
    exact h
theorem RVs.gr (g : Gr ms H ms' H') : ∀ (ds : List D) (vs : List V), RVs G ms H ds vs → RVs G ms' H' ds vs
  | [], _, h => h
  | d :: ds, _, h => by
    simp only [RVs] at h ⊢
    obtain ⟨v, r, e, h1, h2⟩ := h
    exact ⟨v, r, e, RV.gr g d v h1, RVs.gr g ds r h2⟩
end
theorem RF.gr (g : Gr ms H ms' H') : ∀ {fs : List (String × D)} {gs : List (Str × V)}, RF G ms H fs gs → RF G ms' H' fs gs
  | [], _, h => h
  | p :: fs, _, h => by
    obtain ⟨v, r, e, h1, h2⟩ := h
    exact ⟨v, r, e, RV.gr g _ _ h1, RF.gr g h2⟩
theorem RE.gr (g : Gr ms H ms' H') : ∀ {e : Sl} {σ : L2.St}, RE G ms H e σ → RE G ms' H' e σ
  | [], _, h => h
  | none :: e, _, h => by
    obtain ⟨o, r, e, h1⟩ := h
    exact ⟨o, r, e, RE.gr g h1⟩
  | some d :: e, _, h => by
    obtain ⟨v, r, e, h1, h2⟩ := h
    exact ⟨v, r, e, RV.gr g _ _ h1, RE.gr g h2⟩
theorem RK.gr (g : Gr ms H ms' H') : ∀ {kvs : List (D × D)} {l : List (Key × V)}, RK G ms H kvs l → RK G ms' H' kvs l
  | [], _, h => h
  | p :: r, _, h => by
    obtain ⟨i, v, s, e, e1, h1, h2⟩ := h
    exact ⟨i, v, s, e, e1, RV.gr g _ _ h1, RK.gr g h2⟩
theorem RN.gr (g : Gr ms H ms' H') : ∀ {kvs : List (D × D)} {l : List (NestedKey × Addr × Value)}, RN G ms H kvs l → RN G ms' H' kvs l
  | [], _, h => h
  | p :: r, _, h => by
    obtain ⟨nk, a, u, v, s, e, e1, e2, h1, h2, h3, h4⟩ := h
    exact ⟨nk, a, u, v, s, e, e1, e2, RV.gr g _ _ h1, h2, RV.gr g _ _ h3, RN.gr g h4⟩
theorem RVs.length : ∀ {ds : List D} {vs : List V}, RVs G ms H ds vs → vs.length = ds.length
  | [], _, h => by
    simp only [RVs] at h
    rw [h]
    rfl
  | d :: ds, _, h => by
    simp only [RVs] at h
    obtain ⟨v, r, e, _, h2⟩ := h
    rw [e, List.length_cons, List.length_cons, RVs.length h2]
theorem RVs.at : ∀ {ds : List D} {vs : List V} {i : Nat} {d : D}, RVs G ms H ds vs → ds[i]? = some d → ∃ v, vs[i]? = some v ∧ RV G ms H d v
  | [], _, _, _, _, e => by simp at e
  | d :: ds, _, 0, _, h, e => by
    simp only [RVs] at h
    obtain ⟨v, r, rfl, h1, _⟩ := h
    obtain rfl : d = _ := Option.some.inj e
    exact ⟨v, rfl, h1⟩
  | d :: ds, _, i + 1, _, h, e => by
    simp only [RVs] at h
    obtain ⟨v, r, rfl, _, h2⟩ := h
    obtain ⟨u, h3, h4⟩ := RVs.at (i := i) h2 (by simpa using e)
    exact ⟨u, by simpa using h3, h4⟩
theorem RVs.back : ∀ {ds : List D} {vs : List V} {i : Nat} {v : V}, RVs G ms H ds vs → vs[i]? = some v → ∃ d, ds[i]? = some d ∧ RV G ms H d v := fun {ds vs i v} h e => by
  have hl := h.length
  obtain ⟨h1, h2⟩ := List.getElem?_eq_some_iff.mp e
  obtain ⟨u, h3, h4⟩ := h.at (i := i) (d := ds[i]) (by simp [← hl, h1])
  rw [e] at h3
  cases h3
  exact ⟨_, by simp [← hl, h1], h4⟩
theorem RVs.app : ∀ {ds es : List D} {vs us : List V}, RVs G ms H ds vs → RVs G ms H es us → RVs G ms H (ds ++ es) (vs ++ us)
  | [], _, _, _, h, k => by
    simp only [RVs] at h
    rw [h]
    exact k
  | d :: ds, _, _, _, h, k => by
    simp only [RVs, List.cons_append] at h ⊢
    obtain ⟨v, r, rfl, h1, h2⟩ := h
    exact ⟨v, r ++ _, rfl, h1, RVs.app h2 k⟩
theorem RVs.one {d : D} {v : V} (h : RV G ms H d v) : RVs G ms H [d] [v] := by
  simp only [RVs]
  exact ⟨v, [], rfl, h, rfl⟩
theorem RVs.take : ∀ {ds : List D} {vs : List V} (n : Nat), RVs G ms H ds vs → RVs G ms H (ds.take n) (vs.take n)
  | _, _, 0, _ => by simp [RVs]
  | [], _, n + 1, h => by
    simp only [RVs] at h
    rw [h]
    simp [RVs]
  | d :: ds, _, n + 1, h => by
    simp only [RVs, List.take_succ_cons] at h ⊢
    obtain ⟨v, r, rfl, h1, h2⟩ := h
    exact ⟨v, r.take n, rfl, h1, RVs.take n h2⟩
theorem RVs.drop : ∀ {ds : List D} {vs : List V} (n : Nat), RVs G ms H ds vs → RVs G ms H (ds.drop n) (vs.drop n)
  | _, _, 0, h => h
  | [], _, n + 1, h => by
    simp only [RVs] at h
    rw [h]
    simp [RVs]
  | d :: ds, _, n + 1, h => by
    simp only [RVs, List.drop_succ_cons] at h ⊢
    obtain ⟨v, r, rfl, h1, h2⟩ := h
    exact RVs.drop n h2
theorem RVs.set : ∀ {ds : List D} {vs : List V} {d : D} {v : V} (n : Nat), RVs G ms H ds vs → RV G ms H d v → RVs G ms H (ds.set n d) (vs.set n v)
  | [], _, _, _, _, h, _ => by
    simp only [RVs] at h
    rw [h]
    simp [RVs]
  | d :: ds, _, _, _, 0, h, k => by
    simp only [RVs] at h
    obtain ⟨v, r, rfl, h1, h2⟩ := h
    simp only [List.set_cons_zero, RVs]
    exact ⟨_, r, rfl, k, h2⟩
  | d :: ds, _, _, _, n + 1, h, k => by
    simp only [RVs] at h
    obtain ⟨v, r, rfl, h1, h2⟩ := h
    simp only [List.set_cons_succ, RVs]
    exact ⟨v, _, rfl, h1, RVs.set n h2 k⟩
theorem RVs.rep {d : D} {v : V} (h : RV G ms H d v) : ∀ n, RVs G ms H (List.replicate n d) (List.replicate n v)
  | 0 => by simp [RVs]
  | n + 1 => by
    simp only [List.replicate_succ, RVs]
    exact ⟨v, _, rfl, h, RVs.rep h n⟩
theorem RVs.ints : ∀ ns : List Int, RVs G ms H (ns.map D.int) (ns.map V.int)
  | [] => by simp [RVs]
  | n :: ns => by
    simp only [List.map_cons, RVs]
    exact ⟨_, _, rfl, by simp only [RV], RVs.ints ns⟩
theorem RE.len : ∀ {e : Sl} {σ : L2.St}, RE G ms H e σ → σ.length = e.length
  | [], _, h => by
    rw [show _ = _ from h]
    rfl
  | none :: e, _, h => by
    obtain ⟨o, r, rfl, h1⟩ := h
    simp [h1.len]
  | some d :: e, _, h => by
    obtain ⟨v, r, rfl, _, h1⟩ := h
    simp [h1.len]
theorem RE.at : ∀ {e : Sl} {σ : L2.St} {i : Nat} {d : D}, RE G ms H e σ → e[i]? = some (some d) → ∃ v, σ[i]? = some (some v) ∧ RV G ms H d v
  | [], _, _, _, _, e => by simp at e
  | none :: _, _, 0, _, _, e => by simp at e
  | some d :: _, _, 0, _, h, e => by
    obtain ⟨v, r, rfl, h1, _⟩ := h
    simp at e
    subst e
    exact ⟨v, rfl, h1⟩
  | none :: e, _, i + 1, _, h, q => by
    obtain ⟨o, r, rfl, h1⟩ := h
    obtain ⟨v, h3, h4⟩ := h1.at (i := i) (by simpa using q)
    exact ⟨v, by simpa using h3, h4⟩
  | some d :: e, _, i + 1, _, h, q => by
    obtain ⟨v, r, rfl, _, h1⟩ := h
    obtain ⟨v, h3, h4⟩ := h1.at (i := i) (by simpa using q)
    exact ⟨v, by simpa using h3, h4⟩
theorem RE.set {d : D} {v : V} (k : RV G ms H d v) : ∀ {e : Sl} {σ : L2.St} (i : Nat), RE G ms H e σ → RE G ms H (e.set i (some d)) (σ.set i (some v))
  | [], _, _, h => by
    rw [show _ = _ from h]
    exact rfl
  | none :: e, _, 0, h => by
    obtain ⟨o, r, rfl, h1⟩ := h
    exact ⟨v, r, rfl, k, h1⟩
  | some _ :: e, _, 0, h => by
    obtain ⟨_, r, rfl, _, h1⟩ := h
    exact ⟨v, r, rfl, k, h1⟩
  | none :: e, _, i + 1, h => by
    obtain ⟨o, r, rfl, h1⟩ := h
    exact ⟨_, _, rfl, RE.set k i h1⟩
  | some _ :: e, _, i + 1, h => by
    obtain ⟨u, r, rfl, h0, h1⟩ := h
    exact ⟨u, _, rfl, h0, RE.set k i h1⟩
theorem RE.unset : ∀ {e : Sl} {σ : L2.St} (i : Nat), RE G ms H e σ → RE G ms H (e.set i none) (σ.set i none)
  | [], _, _, h => by
    rw [show _ = _ from h]
    exact rfl
  | none :: e, _, 0, h => by
    obtain ⟨o, r, rfl, h1⟩ := h
    exact ⟨_, r, rfl, h1⟩
  | some _ :: e, _, 0, h => by
    obtain ⟨_, r, rfl, _, h1⟩ := h
    exact ⟨_, r, rfl, h1⟩
  | none :: e, _, i + 1, h => by
    obtain ⟨o, r, rfl, h1⟩ := h
    exact ⟨_, _, rfl, RE.unset i h1⟩
  | some _ :: e, _, i + 1, h => by
    obtain ⟨u, r, rfl, h0, h1⟩ := h
    exact ⟨u, _, rfl, h0, RE.unset i h1⟩
theorem RE.start : ∀ {ds : List D} {vs : List V} (n : Nat), RVs G ms H ds vs → RE G ms H (ds.map some ++ List.replicate n none) (vs.map some ++ List.replicate n none)
  | [], _, n, h => by
    simp only [RVs] at h
    rw [h]
    show RE G ms H (List.replicate n none) (List.replicate n none)
    induction n with
    | zero => exact rfl
    | succ n ih =>
      rw [List.replicate_succ, List.replicate_succ]
      exact ⟨_, _, rfl, ih⟩
  | d :: ds, _, n, h => by
    simp only [RVs] at h
    obtain ⟨v, r, rfl, h1, h2⟩ := h
    exact ⟨v, _, rfl, h1, RE.start n h2⟩

/-! ### the store -/
/-- an exception object, not raised: its class, its dict -/
def ExV (a C : Addr) (d : Option Addr) : HO := .ext fun h => ∃ (oe : Obj) (vs : Array Value), h.get? a = some oe ∧ oe.cls = .ref C ∧ oe.dict = d ∧ oe.data = .fields vs ∧ vs[1]? = some .none
def CellOk (G : Gx) (ms : List Addr) (H : Hp) (a : Addr) : Cell → Prop
  | .lst ds => ∃ vs, H a = some (.lst vs) ∧ RVs G ms H ds vs
  | .ins c fs => ∃ dx gs, H a = some (.ins (G.tb c) dx gs) ∧ RF G ms H fs gs
  | .dct kvs => (∃ l, H a = some (.dK l) ∧ RK G ms H kvs l) ∨ (kvs ≠ [] ∧ ∃ xs, H a = some (DctO a xs) ∧ RN G ms H kvs xs)
  | .exn c fs => ∃ d, H a = some (ExV a (G.tb c) d) ∧ ((fs = [] ∧ d = none) ∨ ∃ dx gs, d = some dx ∧ H dx = some (.xd gs) ∧ RF G ms H fs gs)
  | .dtx x d => ∃ v, H a = some (.dK [(.inr x, v)]) ∧ RV G ms H d v
/-- an object that a cell never is -/
def NoCell (o : HO) : Prop := (∃ xs, o = .tup xs) ∨ (∃ ob u, o = .frz ob u) ∨ (∃ x, o = .own x) ∨ (∃ fs, o = .xd fs) ∨ (∃ ps, o = .tbl ps) ∨ ∃ c q, o = LamX.CodeO c q
/-- a dict is no code object -/
theorem dct_code {a c : Addr} {q : Str} {xs : List (NestedKey × Addr × Value)} : DctO a xs ≠ LamX.CodeO c q := fun e => by
  have e2 := HO.ext.inj e
  let ob : Obj := { cls := .none, data := .fields #[.none, .str q 0] }
  have h1 : ∀ b : Nat, b ≤ c → (⟨Array.replicate (c + 1) ob, {}⟩ : Heap).get? b = some ob := fun b hb => by
    simp [Heap.get?, Array.getElem?_replicate, Nat.lt_succ_of_le hb, ob]
  have h2 : ∀ (b : Nat) o, (⟨Array.replicate (c + 1) ob, {}⟩ : Heap).get? b = some o → o = ob := fun b o hb => by
    by_cases hc : b ≤ c
    · rw [h1 b hc] at hb
      exact (Option.some.inj hb).symm
    · have : ¬ b < c + 1 := fun z => hc (Nat.le_of_lt_succ z)
      simp [Heap.get?, Array.getElem?_replicate, this] at hb
  have hc : ∃ (oc : Obj) (vs : Array Value) (t : Tok), (⟨Array.replicate (c + 1) ob, {}⟩ : Heap).get? c = some oc ∧ oc.data = .fields vs ∧ vs[1]? = some (.str q t) :=
    ⟨ob, _, 0, h1 c (Nat.le_refl _), rfl, rfl⟩
  rw [← congrFun e2 (⟨Array.replicate (c + 1) ob, {}⟩ : Heap)] at hc
  obtain ⟨_, o, es, ep, ho, _, hd, _⟩ := hc
  rw [h2 _ _ ho] at hd
  cases hd
/-- an exception is no code object -/
theorem exv_code {a C c : Addr} {d : Option Addr} {q : Str} : ExV a C d ≠ LamX.CodeO c q := fun e => by
  have e2 := HO.ext.inj e
  let ob : Obj := { cls := .ref C, dict := d, data := .fields #[.none, .none] }
  have h1 : ∀ b : Nat, b ≤ a → (⟨Array.replicate (a + 1) ob, {}⟩ : Heap).get? b = some ob := fun b hb => by
    simp [Heap.get?, Array.getElem?_replicate, Nat.lt_succ_of_le hb, ob]
  have h2 : ∀ (b : Nat) o, (⟨Array.replicate (a + 1) ob, {}⟩ : Heap).get? b = some o → o = ob := fun b o hb => by
    by_cases hc : b ≤ a
    · rw [h1 b hc] at hb
      exact (Option.some.inj hb).symm
    · have : ¬ b < a + 1 := fun z => hc (Nat.le_of_lt_succ z)
      simp [Heap.get?, Array.getElem?_replicate, this] at hb
  have hc : ∃ (oe : Obj) (vs : Array Value), (⟨Array.replicate (a + 1) ob, {}⟩ : Heap).get? a = some oe ∧ oe.cls = .ref C ∧ oe.dict = d ∧ oe.data = .fields vs ∧ vs[1]? = some .none :=
    ⟨ob, _, h1 a (Nat.le_refl _), rfl, rfl, rfl, rfl⟩
  rw [congrFun e2 (⟨Array.replicate (a + 1) ob, {}⟩ : Heap)] at hc
  obtain ⟨oc, vs, t, ho, hd, hv⟩ := hc
  rw [h2 _ _ ho] at hd
  cases hd
  cases hv
/-- all but the cells stay -/
def Keeps (H H' : Hp) : Prop := ∀ b o, H b = some o → NoCell o → H' b = some o
theorem Keeps.tabs {T : List (Addr × Str)} {H H' : Hp} (k : Keeps H H') (t : LamX.Tabs T H) : LamX.Tabs T H' := fun p hp => by
  obtain ⟨ps, h1, h2, h3⟩ := t p hp
  refine ⟨ps, k _ _ h1 (.inr (.inr (.inr (.inr (.inl ⟨_, rfl⟩))))), h2, fun pos cv hc => ?_⟩
  obtain ⟨c, e1, e2⟩ := h3 pos cv hc
  exact ⟨c, e1, k _ _ e2 (.inr (.inr (.inr (.inr (.inr ⟨_, _, rfl⟩)))))⟩
theorem Keeps.new {H : Hp} {p : Addr} {o : HO} (hp : H p = none) : Keeps H (upd H p o) := fun b u e _ => by
  rw [upd_ne (ne_of_none e hp)]
  exact e
structure SRel (G : Gx) (ms : List Addr) (st : Sto) (H : Hp) : Prop where
  len : ms.length = st.length
  nd : ms.Nodup
  cell : ∀ (i : Nat) a c, ms[i]? = some a → st[i]? = some c → CellOk G ms H a c
  xd : ∀ a d fs, G.xi = some (a, d, fs) → ∃ gs, H d = some (.xd gs) ∧ RF G ms H fs gs
  tabs : LamX.Tabs G.T H
theorem CellOk.has {a : Addr} {c : Cell} (h : CellOk G ms H a c) : ∃ o, H a = some o ∧ (∀ xs, o ≠ .tup xs) ∧ (∀ ob u, o ≠ .frz ob u) ∧ (∀ x, o ≠ .own x) ∧ ¬ NoCell o := by
  have nc : ∀ o : HO, (∀ xs, o ≠ .tup xs) → (∀ ob u, o ≠ .frz ob u) → (∀ x, o ≠ .own x) → (∀ x, o ≠ .xd x) → (∀ x, o ≠ .tbl x) → (∀ c q, o ≠ LamX.CodeO c q) → ¬ NoCell o := fun o h1 h2 h3 h4 h5 h6 q => by
    rcases q with ⟨x, e⟩ | ⟨x, y, e⟩ | ⟨x, e⟩ | ⟨x, e⟩ | ⟨x, e⟩ | ⟨x, y, e⟩
    · exact h1 x e
    · exact h2 x y e
    · exact h3 x e
    · exact h4 x e
    · exact h5 x e
    · exact h6 x y e
  cases c with
  | lst ds =>
    obtain ⟨vs, h, _⟩ := h
    exact ⟨_, h, (fun _ z => HO.noConfusion z), (fun _ _ z => HO.noConfusion z), (fun _ z => HO.noConfusion z), nc _ (fun _ z => HO.noConfusion z) (fun _ _ z => HO.noConfusion z) (fun _ z => HO.noConfusion z) (fun _ z => HO.noConfusion z) (fun _ z => HO.noConfusion z) (fun _ _ z => HO.noConfusion z)⟩
  | ins c fs =>
    obtain ⟨dx, gs, h, _⟩ := h
    exact ⟨_, h, (fun _ z => HO.noConfusion z), (fun _ _ z => HO.noConfusion z), (fun _ z => HO.noConfusion z), nc _ (fun _ z => HO.noConfusion z) (fun _ _ z => HO.noConfusion z) (fun _ z => HO.noConfusion z) (fun _ z => HO.noConfusion z) (fun _ z => HO.noConfusion z) (fun _ _ z => HO.noConfusion z)⟩
  | dct kvs =>
    rcases h with ⟨l, h, _⟩ | ⟨_, xs, h, _⟩
    · exact ⟨_, h, (fun _ z => HO.noConfusion z), (fun _ _ z => HO.noConfusion z), (fun _ z => HO.noConfusion z), nc _ (fun _ z => HO.noConfusion z) (fun _ _ z => HO.noConfusion z) (fun _ z => HO.noConfusion z) (fun _ z => HO.noConfusion z) (fun _ z => HO.noConfusion z) (fun _ _ z => HO.noConfusion z)⟩
    · exact ⟨_, h, (fun _ z => HO.noConfusion z), (fun _ _ z => HO.noConfusion z), (fun _ z => HO.noConfusion z), nc _ (fun _ z => HO.noConfusion z) (fun _ _ z => HO.noConfusion z) (fun _ z => HO.noConfusion z) (fun _ z => HO.noConfusion z) (fun _ z => HO.noConfusion z) (fun _ _ => dct_code)⟩
  | exn c fs =>
    obtain ⟨d, h, _⟩ := h
    exact ⟨_, h, (fun _ z => HO.noConfusion z), (fun _ _ z => HO.noConfusion z), (fun _ z => HO.noConfusion z), nc _ (fun _ z => HO.noConfusion z) (fun _ _ z => HO.noConfusion z) (fun _ z => HO.noConfusion z) (fun _ z => HO.noConfusion z) (fun _ z => HO.noConfusion z) (fun _ _ => exv_code)⟩
  | dtx x d =>
    obtain ⟨v, h, _⟩ := h
    exact ⟨_, h, (fun _ z => HO.noConfusion z), (fun _ _ z => HO.noConfusion z), (fun _ z => HO.noConfusion z), nc _ (fun _ z => HO.noConfusion z) (fun _ _ z => HO.noConfusion z) (fun _ z => HO.noConfusion z) (fun _ z => HO.noConfusion z) (fun _ z => HO.noConfusion z) (fun _ _ z => HO.noConfusion z)⟩
theorem SRel.has {st : Sto} (S : SRel G ms st H) {i : Nat} {a : Addr} (h : ms[i]? = some a) : ∃ c, st[i]? = some c ∧ CellOk G ms H a c := by
  obtain ⟨h1, h2⟩ := List.getElem?_eq_some_iff.mp h
  have h3 : i < st.length := by rw [← S.len]; exact h1
  exact ⟨st[i], by simp [h3], S.cell i a _ h (by simp [h3])⟩
theorem SRel.fresh {st : Sto} (S : SRel G ms st H) {p : Addr} (hp : H p = none) : p ∉ ms := fun hm => by
  obtain ⟨i, hi, e⟩ := List.getElem_of_mem hm
  obtain ⟨c, _, hc⟩ := S.has (i := i) (a := p) (by simp [hi, e])
  obtain ⟨o, ho, _⟩ := hc.has
  rw [hp] at ho
  cases ho
theorem Gr.new {p : Addr} {o : HO} (hp : H p = none) (t : List Addr) : Gr ms H (ms ++ t) (upd H p o) :=
  ⟨⟨t, rfl⟩, fun a xs h => by rw [upd_ne (ne_of_none h hp)]; exact h, fun a ob u h => by rw [upd_ne (ne_of_none h hp)]; exact h⟩
theorem Gr.new0 {p : Addr} {o : HO} (hp : H p = none) : Gr ms H ms (upd H p o) := by
  have h := Gr.new (ms := ms) (o := o) hp []
  rw [List.append_nil] at h
  exact h
theorem CellOk.gr {a : Addr} {c : Cell} (g : Gr ms H ms' H') (kx : ∀ b gs, H b = some (.xd gs) → H' b = some (.xd gs)) (k : H' a = H a) (h : CellOk G ms H a c) : CellOk G ms' H' a c := by
  cases c with
  | lst ds =>
    obtain ⟨vs, h1, h2⟩ := h
    exact ⟨vs, by rw [k]; exact h1, RVs.gr g _ _ h2⟩
  | ins c fs =>
    obtain ⟨dx, gs, h1, h2⟩ := h
    exact ⟨dx, gs, by rw [k]; exact h1, RF.gr g h2⟩
  | dct kvs =>
    rcases h with ⟨l, h1, h2⟩ | ⟨h0, xs, h1, h2⟩
    · exact .inl ⟨l, by rw [k]; exact h1, h2.gr g⟩
    · exact .inr ⟨h0, xs, by rw [k]; exact h1, h2.gr g⟩
  | exn c fs =>
    obtain ⟨d, h1, h2⟩ := h
    refine ⟨d, by rw [k]; exact h1, ?_⟩
    rcases h2 with h2 | ⟨dx, gs, e, h2, h3⟩
    · exact .inl h2
    · exact .inr ⟨dx, gs, e, kx _ _ h2, RF.gr g h3⟩
  | dtx x d =>
    obtain ⟨v, h1, h2⟩ := h
    exact ⟨v, by rw [k]; exact h1, RV.gr g _ _ h2⟩
theorem Keeps.cell {a : Addr} {c : Cell} {o : HO} (h : CellOk G ms H a c) : Keeps H (upd H a o) := fun b u e n => by
  obtain ⟨w, hw, _, _, _, nc⟩ := h.has
  rw [upd_ne (fun z => by rw [z, hw] at e; cases e; exact nc n)]
  exact e
/-- the exception at hand stays -/
theorem Keeps.xd {ms ms' : List Addr} {H H' : Hp} (k : Keeps H H') (g : Gr ms H ms' H') (h : ∀ a d fs, G.xi = some (a, d, fs) → ∃ gs, H d = some (.xd gs) ∧ RF G ms H fs gs) : ∀ a d fs, G.xi = some (a, d, fs) → ∃ gs, H' d = some (.xd gs) ∧ RF G ms' H' fs gs := fun a d fs e => by
  obtain ⟨gs, h1, h2⟩ := h a d fs e
  exact ⟨gs, k _ _ h1 (.inr (.inr (.inr (.inl ⟨_, rfl⟩)))), h2.gr g⟩
theorem Keeps.xds {H H' : Hp} (k : Keeps H H') : ∀ b gs, H b = some (.xd gs) → H' b = some (.xd gs) := fun b gs e => k _ _ e (.inr (.inr (.inr (.inl ⟨_, rfl⟩))))
/-- an object that is no cell is laid -/
theorem SRel.lay {st : Sto} (S : SRel G ms st H) {p : Addr} {o : HO} (hp : H p = none) : SRel G ms st (upd H p o) :=
  ⟨S.len, S.nd, fun i a c h1 h2 => (S.cell i a c h1 h2).gr (Gr.new0 hp) (Keeps.new hp).xds (upd_ne fun e => S.fresh hp (e ▸ List.mem_of_getElem? h1)), (Keeps.new hp).xd (Gr.new0 hp) S.xd, (Keeps.new hp).tabs S.tabs⟩
/-- a new cell -/
theorem SRel.new {st : Sto} (S : SRel G ms st H) {p : Addr} {o : HO} {c : Cell} (hp : H p = none) (hc : CellOk G (ms ++ [p]) (upd H p o) p c) : SRel G (ms ++ [p]) (st ++ [c]) (upd H p o) := by
  refine ⟨by simp [S.len], ?_, fun i a d h1 h2 => ?_, (Keeps.new hp).xd (Gr.new hp [p]) S.xd, (Keeps.new hp).tabs S.tabs⟩
  · rw [List.nodup_append]
    refine ⟨S.nd, by simp, fun a ha b hb e => ?_⟩
    have hb' : b = p := by simpa using hb
    exact S.fresh hp (hb' ▸ e ▸ ha)
  · by_cases hi : i < ms.length
    · rw [List.getElem?_append_left hi] at h1
      rw [List.getElem?_append_left (by rw [← S.len]; exact hi)] at h2
      exact (S.cell i a d h1 h2).gr (Gr.new hp [p]) (Keeps.new hp).xds (upd_ne fun e => S.fresh hp (e ▸ List.mem_of_getElem? h1))
    · have hi' : i = ms.length := by
        have := (List.getElem?_eq_some_iff.mp h1).1
        simp at this
        omega
      subst hi'
      rw [List.getElem?_append_right (Nat.le_refl _)] at h1
      rw [S.len, List.getElem?_append_right (Nat.le_refl _)] at h2
      simp at h1 h2
      subst h1 h2
      exact hc
theorem Gr.cell {a : Addr} {c : Cell} {o : HO} (h : CellOk G ms H a c) : Gr ms H ms (upd H a o) := by
  obtain ⟨u, hu, n1, n2, _⟩ := h.has
  refine ⟨⟨[], by simp⟩, fun b xs e => ?_, fun b ob w e => ?_⟩
  · rw [upd_ne (fun z => by rw [z, hu] at e; exact n1 xs (Option.some.inj e))]
    exact e
  · rw [upd_ne (fun z => by rw [z, hu] at e; exact n2 ob w (Option.some.inj e))]
    exact e
/-- a cell is written -/
theorem SRel.put {st : Sto} (S : SRel G ms st H) {i : Nat} {a : Addr} {o : HO} {c : Cell} (hi : ms[i]? = some a) (hc : CellOk G ms (upd H a o) a c) : SRel G ms (st.set i c) (upd H a o) := by
  obtain ⟨c0, h0, k0⟩ := S.has hi
  refine ⟨by simp [S.len], S.nd, fun j b d h1 h2 => ?_, (Keeps.cell k0).xd (Gr.cell k0) S.xd, (Keeps.cell k0).tabs S.tabs⟩
  by_cases hj : i = j
  · subst hj
    rw [hi] at h1
    cases h1
    have hl := (List.getElem?_eq_some_iff.mp h0).1
    rw [List.getElem?_set_self hl] at h2
    cases h2
    exact hc
  · rw [List.getElem?_set_ne hj] at h2
    refine (S.cell j b d h1 h2).gr (Gr.cell k0) (Keeps.cell k0).xds (upd_ne fun e => ?_)
    subst e
    exact hj (nd_ix S.nd hi h1)

/-! ### what a result promises -/
/-- an exception's own dict -/
def XRel (G : Gx) (ms : List Addr) (H : Hp) (fs : List (String × D)) (od : Option Addr) : Prop :=
  (fs = [] ∧ od = none) ∨ ∃ d gs, fs ≠ [] ∧ od = some d ∧ H d = some (.xd gs) ∧ RF G ms H fs gs
def Okk {α β : Type} (R : List Addr → Hp → α → β → Prop) (G : Gx) (W : Value → Option Addr → Hp → Prop) (Q : β → Hp → Prop) (ms : List Addr) (H : Hp) : Res α → Prop
  | .ok a st => ∀ b ms' H', Gr ms H ms' H' → SRel G ms' st H' → R ms' H' a b → Q b H'
  | .exn c fs st => ∀ od ms' H', Gr ms H ms' H' → SRel G ms' st H' → XRel G ms' H' fs od → W (.ref (G.tb c)) od H'
  | .bad => False
theorem Okk.gr {α β : Type} {R : List Addr → Hp → α → β → Prop} {W : Value → Option Addr → Hp → Prop} {Q : β → Hp → Prop} {r : Res α} (g : Gr ms H ms' H') (h : Okk R G W Q ms H r) : Okk R G W Q ms' H' r := by
  cases r with
  | ok a st => exact fun b m2 H2 g2 => h b m2 H2 (g.trans g2)
  | exn c fs st => exact fun od m2 H2 g2 => h od m2 H2 (g.trans g2)
  | bad => exact h
theorem Okk.bind {α β α' β' : Type} {R : List Addr → Hp → α → β → Prop} {R' : List Addr → Hp → α' → β' → Prop} {W : Value → Option Addr → Hp → Prop} {Q : β' → Hp → Prop} {Q1 : β → Hp → Prop} {r : Res α} {f : α → Sto → Res α'}
    (h : Okk R' G W Q ms H (r.bind f)) (k : ∀ a s b m1 H1, Gr ms H m1 H1 → SRel G m1 s H1 → R m1 H1 a b → Okk R' G W Q m1 H1 (f a s) → Q1 b H1) : Okk R G W Q1 ms H r := by
  cases r with
  | ok a s => exact fun b m1 H1 g S r => k a s b m1 H1 g S r (Okk.gr g h)
  | exn c fs s => exact h
  | bad => exact h
abbrev RB : List Addr → Hp → Bool → Bool → Prop := fun _ _ a b => b = a

/-! ### readings -/
def tX {α β : Type} (R : List Addr → Hp → α → β → Prop) (G : Gx) (W : WX) (f : Sl → M α) : L2.St → Hp → (β → Hp → Prop) → Prop := fun σ H Q => ∃ ms st env, SRel G ms st H ∧ RE G ms H env σ ∧ Okk R G (fun c d H => W c d σ H) Q ms H (f env st)
abbrev tE (G : Gx) (W : WX) (f : E) : TE := tX (RV G) G W f
abbrev tA (G : Gx) (W : WX) (f : Sl → M (List D)) : TA := tX (RVs G) G W f
abbrev tT (G : Gx) (W : WX) (f : Sl → M Bool) : TT := tX RB G W f
theorem PE_weak {X : Cx} {e : Expr} {t t' : TE} (h : PE X e t) (k : ∀ σ H Q, t' σ H Q → t σ H Q) : PE X e t' := ⟨fun pins s σ H Q I q => h.run pins s σ H Q I (k σ H Q q)⟩
theorem PT_weak {X : Cx} {e : Expr} {t t' : TT} (h : PT X e t) (k : ∀ σ H Q, t' σ H Q → t σ H Q) : PT X e t' := ⟨fun pins s σ H Q I q => h.run pins s σ H Q I (k σ H Q q)⟩
theorem PW_weak {X : Cx} {e : Expr} {t t' : TT} (h : PW X e t) (k : ∀ σ H Q, t' σ H Q → t σ H Q) : PW X e t' := ⟨fun wh pins s σ H Q I q => h.run wh pins s σ H Q I (k σ H Q q)⟩
theorem PA_weak {X : Cx} {es : List Expr} {t t' : TA} (h : PA X es t) (k : ∀ σ H Q, t' σ H Q → t σ H Q) : PA X es t' := ⟨fun pos pins s σ H Q I q => h.run pos pins s σ H Q I (k σ H Q q)⟩
theorem PS_weak {X : Cx} {e : Stmt} {t t' : TS} (h : PS X e t) (k : ∀ D σ H, t' D σ H → t D σ H) : PS X e t' := ⟨fun pins s σ H D I q => h.run pins s σ H D I (k D σ H q)⟩
theorem PSs_weak {X : Cx} {e : List Stmt} {t t' : TS} (h : PSs X e t) (k : ∀ D σ H, t' D σ H → t D σ H) : PSs X e t' := ⟨fun pins s σ H D I q => h.run pins s σ H D I (k D σ H q)⟩

end
end LF

set_option Elab.async false
set_option linter.all false
set_option maxRecDepth 100000
set_option maxHeartbeats 4000000
/-! The layer: expressions. -/
namespace LF
open PySem PySem.Spec PyProof.Rows L2
section
variable {G : Gx} {W : WX} {X : Cx} {σ : L2.St} {H : Hp}

/-! ### sequencing -/
theorem tX_bind {α β α' β' : Type} {R : List Addr → Hp → α → β → Prop} {R' : List Addr → Hp → α' → β' → Prop} {fa : Sl → M α} {g : Sl → α → M α'} {Q : β' → Hp → Prop}
    (h : tX R' G W (fun env st => (fa env st).bind (g env)) σ H Q) :
    tX R G W fa σ H fun v H1 => ∃ ms st env x, SRel G ms st H1 ∧ RE G ms H1 env σ ∧ R ms H1 x v ∧ Okk R' G (fun c d H => W c d σ H) Q ms H1 (g env x st) := by
  obtain ⟨ms, st, env, S, r, k⟩ := h
  exact ⟨ms, st, env, S, r, Okk.bind k fun x s v m1 H1 g1 S1 r1 k1 => ⟨m1, s, env, x, S1, r.gr g1, r1, k1⟩⟩
theorem tX_bin {α β : Type} {R' : List Addr → Hp → α → β → Prop} {fa fb : E} {g : D → D → M α} {Q : β → Hp → Prop}
    (h : tX R' G W (fun env st => (fa env st).bind fun x s => (fb env s).bind (g x)) σ H Q) :
    tE G W fa σ H fun v H1 => tE G W fb σ H1 fun u H2 => ∃ ms st x y, SRel G ms st H2 ∧ RV G ms H2 x v ∧ RV G ms H2 y u ∧ Okk R' G (fun c d H => W c d σ H) Q ms H2 (g x y st) := by
  obtain ⟨ms, st, env, S, r, k⟩ := h
  exact ⟨ms, st, env, S, r, Okk.bind k fun x s v m1 H1 g1 S1 r1 k1 => ⟨m1, s, env, S1, r.gr g1, Okk.bind k1 fun y s2 u m2 H2 g2 S2 r2 k2 => ⟨m2, s2, x, y, S2, RV.gr g2 _ _ r1, r2, k2⟩⟩⟩
/-- a test, then one of two -/
theorem tX_if {α β : Type} {R' : List Addr → Hp → α → β → Prop} {c : Sl → M Bool} {fa fb : Sl → M α} {Q : β → Hp → Prop}
    (h : tX R' G W (fun env st => (c env st).bind fun b s => if b = true then fa env s else fb env s) σ H Q) :
    tT G W c σ H fun b H1 => if b = true then tX R' G W fa σ H1 Q else tX R' G W fb σ H1 Q := by
  obtain ⟨ms, st, env, S, r, k⟩ := h
  refine ⟨ms, st, env, S, r, Okk.bind k fun b s b' m1 H1 g1 S1 r1 k1 => ?_⟩
  cases r1
  cases b with
  | true => exact ⟨m1, s, env, S1, r.gr g1, by simpa using k1⟩
  | false => exact ⟨m1, s, env, S1, r.gr g1, by simpa using k1⟩

/-! ### operations that raise nothing -/
abbrev O (α : Type) := Sto → Option (α × Sto)
def ofO {α : Type} : Option (α × Sto) → Res α
  | some (a, s) => .ok a s
  | none => .bad
def OkO {α β : Type} (R : List Addr → Hp → α → β → Prop) (G : Gx) (Q : β → Hp → Prop) (ms : List Addr) (H : Hp) : Option (α × Sto) → Prop
  | some (a, st) => ∀ b ms' H', Gr ms H ms' H' → SRel G ms' st H' → R ms' H' a b → Q b H'
  | none => False
theorem Okk.ofO {α β : Type} {R : List Addr → Hp → α → β → Prop} {W : Value → Option Addr → Hp → Prop} {Q : β → Hp → Prop} {ms : List Addr} {o : Option (α × Sto)} (h : Okk R G W Q ms H (ofO o)) : OkO R G Q ms H o := by
  cases o with
  | some p => exact h
  | none => exact h
/-- a new list -/
def newL (ds : List D) : O D := fun st => some (.ref st.length, st ++ [.lst ds])
theorem OkO.newL {Q : VK} {ms : List Addr} {st : Sto} {ds : List D} {vs : List V} (S : SRel G ms st H) (r : RVs G ms H ds vs) (h : OkO (RV G) G Q ms H (newL ds st)) : ∀ p, H p = none → Q (.ref p) (upd H p (.lst vs)) := fun p hp => by
  refine h (.ref p) (ms ++ [p]) _ (Gr.new hp [p]) (S.new hp ⟨vs, upd_same, RVs.gr (Gr.new hp [p]) _ _ r⟩) ?_
  simp only [RV]
  exact ⟨p, rfl, by rw [List.getElem?_append_right (by rw [S.len]; exact Nat.le_refl _), S.len]; simp⟩
theorem OkO.val {Q : VK} {ms : List Addr} {st : Sto} {d : D} {v : V} (S : SRel G ms st H) (r : RV G ms H d v) (h : OkO (RV G) G Q ms H (some (d, st))) : Q v H := h v ms H Gr.refl S r
theorem OkO.tup {Q : VK} {ms : List Addr} {st : Sto} {ds : List D} {vs : List V} (S : SRel G ms st H) (r : RVs G ms H ds vs) (h : OkO (RV G) G Q ms H (some (.tup ds, st))) : ∀ p, H p = none → Q (.ref p) (upd H p (.tup vs)) := fun p hp => by
  refine h (.ref p) ms _ (Gr.new0 hp) (S.lay hp) ?_
  simp only [RV]
  exact ⟨p, vs, rfl, .inl upd_same, RVs.gr (Gr.new0 hp) _ _ r⟩

def rO (G : Gx) (op : D → D → O D) : R2 := fun v u H Q => ∃ ms st x y, SRel G ms st H ∧ RV G ms H x v ∧ RV G ms H y u ∧ OkO (RV G) G Q ms H (op x y st)
def rU1 (G : Gx) (op : D → O D) : V → Hp → VK → Prop := fun v H Q => ∃ ms st x, SRel G ms st H ∧ RV G ms H x v ∧ OkO (RV G) G Q ms H (op x st)
def rN (G : Gx) (op : List D → O D) : List V → Hp → VK → Prop := fun vs H Q => ∃ ms st ds, SRel G ms st H ∧ RVs G ms H ds vs ∧ OkO (RV G) G Q ms H (op ds st)
def rM (G : Gx) (op : D → List D → O D) : V → List V → Hp → VK → Prop := fun v vs H Q => ∃ ms st x ds, SRel G ms st H ∧ RV G ms H x v ∧ RVs G ms H ds vs ∧ OkO (RV G) G Q ms H (op x ds st)
theorem OpR_imp {f : Value → Value → Sem Value} {r r' : R2} (h : OpR X f r) (k : ∀ x y H Q, r' x y H Q → r x y H Q) : OpR X f r' := fun pins s σ H x y v u Q I rx ry q => h pins s σ H x y v u Q I rx ry (k x y H Q q)
theorem UnR_imp {f : Value → Sem Value} {r r' : V → Hp → VK → Prop} (h : UnR X f r) (k : ∀ x H Q, r' x H Q → r x H Q) : UnR X f r' := fun pins s σ H x v Q I rx q => h pins s σ H x v Q I rx (k x H Q q)
theorem CallR_imp {f : Value} {r r' : List V → Hp → VK → Prop} (h : CallR X f r) (k : ∀ xs H Q, r' xs H Q → r xs H Q) : CallR X f r' := fun pins s σ H xs us Q I rx q => h pins s σ H xs us Q I rx (k xs H Q q)
theorem CallR_or {f : Value} {r r' : List V → Hp → VK → Prop} (h : CallR X f r) (h' : CallR X f r') : CallR X f (fun xs H Q => r xs H Q ∨ r' xs H Q) := fun pins s σ H xs us Q I rx q => by
  rcases q with q | q
  · exact h pins s σ H xs us Q I rx q
  · exact h' pins s σ H xs us Q I rx q
theorem IxR_imp {r r' : R2} (h : IxR X r) (k : ∀ x y H Q, r' x y H Q → r x y H Q) : IxR X r' := fun va sl pins s σ H x y v u Q I rx ry q => h va sl pins s σ H x y v u Q I rx ry (k x y H Q q)
theorem MtR_imp {id : String} {r r' : V → List V → Hp → VK → Prop} (h : MtR X id r) (k : ∀ x xs H Q, r' x xs H Q → r x xs H Q) : MtR X id r' := fun pins s σ H x xs v us Q I rx rv q => h pins s σ H x xs v us Q I rx rv (k x xs H Q q)
theorem SlR_imp {r r' : V → Option Int → Option Int → Hp → VK → Prop} (h : SlR X r) (k : ∀ x lo hi H Q, r' x lo hi H Q → r x lo hi H Q) : SlR X r' := fun pins s σ H x v vl vu lo hi sl Q I rx hs pl pu q => h pins s σ H x v vl vu lo hi sl Q I rx hs pl pu (k x lo hi H Q q)

/-! ### expressions -/
def eVar (i : Nat) : E := fun env st => match env[i]? with
  | some (some d) => .ok d st
  | _ => .bad
def eC (d : D) : E := fun _ st => .ok d st
def eBin (op : D → D → O D) (a b : E) : E := fun env st => (a env st).bind fun x s => (b env s).bind fun y s' => ofO (op x y s')
def eUn (op : D → O D) (a : E) : E := fun env st => (a env st).bind fun x s => ofO (op x s)
def eArgs : List E → Sl → M (List D)
  | [] => fun _ st => .ok [] st
  | a :: as => fun env st => (a env st).bind fun x s => (eArgs as env s).bind fun xs s' => .ok (x :: xs) s'
def eBlt (op : List D → O D) (as : List E) : E := fun env st => (eArgs as env st).bind fun xs s => ofO (op xs s)
def eIf (c : Sl → M Bool) (a b : E) : E := fun env st => (c env st).bind fun k s => if k = true then a env s else b env s
def LIM : Nat := 16000000
theorem LIM_le {n : Nat} (h : n ≤ LIM) : n ≤ sizeLine := Nat.le_trans h (by decide)
theorem LIM_lt {n : Nat} (h : n < LIM) : n < sizeLine := Nat.lt_of_lt_of_le h (by decide)
def opTup (ds : List D) : O D := fun st => if ds.length ≤ LIM then some (.tup ds, st) else none
def opLst (ds : List D) : O D := fun st => if ds.length ≤ LIM then newL ds st else none

theorem e_var {e : Expr} {i : Nat} (h : PE X e (tVar i)) : PE X e (tE G W (eVar i)) := PE_weak h fun σ H Q ⟨ms, st, env, S, r, k⟩ => by
  unfold eVar at k
  cases hi : env[i]? with
  | none => rw [hi] at k; exact k.elim
  | some o =>
    cases o with
    | none => rw [hi] at k; exact k.elim
    | some d =>
      rw [hi] at k
      obtain ⟨v, h1, h2⟩ := r.at hi
      exact ⟨v, h1, k v ms H Gr.refl S h2⟩
theorem e_c {e : Expr} {d : D} {v : V} (h : PE X e (tC v)) (r : ∀ ms H, RV G ms H d v) : PE X e (tE G W (eC d)) := PE_weak h fun σ H Q ⟨ms, st, env, S, _, k⟩ => k v ms H Gr.refl S (r ms H)
theorem e_int {i j pos} : PE X (.Constant (.int i) j pos) (tE G W (eC (.int i))) := e_c pe_int fun _ _ => by simp only [RV]
theorem e_bl {b j pos} : PE X (.Constant (.bool b) j pos) (tE G W (eC (.bl b))) := e_c pe_bl fun _ _ => by simp only [RV]
theorem e_non {j pos} : PE X (.Constant .none j pos) (tE G W (eC .non)) := e_c pe_non fun _ _ => by simp only [RV]
theorem e_str {x j pos} : PE X (.Constant (.str x) j pos) (tE G W (eC (.str x))) := e_c pe_str fun _ _ => by simp only [RV]
theorem e_glob {x : Str} {v : V} {d : D} {u : Value} {pos : Pos} (hg : Gl X x) (hm : X.mg x = some u) (r : RelV v u) (rd : ∀ ms H, RV G ms H d v) (hd : (x == ("__debug__" : Str)) = false := by decide) : PE X (.Name x pos) (tE G W (eC d)) :=
  e_c (pe_glob hg hm r hd) rd
theorem tX_mono {α β : Type} {R : List Addr → Hp → α → β → Prop} {f : Sl → M α} {Q Q' : β → Hp → Prop} (h : tX R G W f σ H Q) (k : ∀ b H1, Q b H1 → Q' b H1) : tX R G W f σ H Q' := by
  obtain ⟨ms, st, env, S, r, q⟩ := h
  refine ⟨ms, st, env, S, r, ?_⟩
  cases e : f env st with
  | ok x s =>
    rw [e] at q
    exact fun v m1 H1 g1 S1 r1 => k v H1 (q v m1 H1 g1 S1 r1)
  | exn c fs s =>
    rw [e] at q
    exact q
  | bad =>
    rw [e] at q
    exact q
theorem bin_tOp {f : D → D → O D} {fa fb : E} {Q : VK} (h : tE G W (eBin f fa fb) σ H Q) : tOp (rO G f) (tE G W fa) (tE G W fb) σ H Q :=
  tX_mono (tX_bin h) fun v H1 h1 => tX_mono h1 fun u H2 ⟨ms, st, x, y, S, r1, r2, k⟩ => ⟨ms, st, x, y, S, r1, r2, k.ofO⟩
theorem un_tUn {f : D → O D} {fa : E} {Q : VK} (h : tE G W (eUn f fa) σ H Q) : tUn (rU1 G f) (tE G W fa) σ H Q :=
  tX_mono (tX_bind h) fun v H1 ⟨ms, st, env, x, S, _, r1, k⟩ => ⟨ms, st, x, S, r1, k.ofO⟩
theorem e_bin {a b : Expr} {pos : Pos} {op : Operator} {f : D → D → O D} {fa fb : E} (ho : OpR X (binaryOp op) (rO G f)) (ha : PE X a (tE G W fa)) (hb : PE X b (tE G W fb)) : PE X (.BinOp a op b pos) (tE G W (eBin f fa fb)) :=
  PE_weak (pe_op ho ha hb) fun _ _ _ h => bin_tOp h
theorem e_un {a : Expr} {pos : Pos} {op : UnaryOp} {f : D → O D} {fa : E} (ho : UnR X (unaryOp op) (rU1 G f)) (ha : PE X a (tE G W fa)) : PE X (.UnaryOp op a pos) (tE G W (eUn f fa)) :=
  PE_weak (pe_un ho ha) fun _ _ _ h => un_tUn h
theorem e_cmp {a b : Expr} {pos : Pos} {op : CmpOp} {f : D → D → O D} {fa fb : E} (ho : OpR X (compareOp op) (rO G f)) (ha : PE X a (tE G W fa)) (hb : PE X b (tE G W fb)) (hm : behindInMarks op b = false) : PE X (.Compare a [op] [b] pos) (tE G W (eBin f fa fb)) :=
  PE_weak (pe_cmpR ho ha hb hm) fun _ _ _ h => bin_tOp h

/-! ### tests -/
abbrev T := Sl → M Bool
def asB (a : E) : T := fun env st => (a env st).bind fun x s => match x with
  | .bl k => .ok k s
  | _ => .bad
theorem asB_tTest {fa : E} {Q : Bool → Hp → Prop} (h : tT G W (asB fa) σ H Q) : tE G W fa σ H fun x H' => ∃ k, x = .bl k ∧ Q k H' :=
  tX_mono (tX_bind h) fun v H1 ⟨ms, st, env, x, S, _, r1, k⟩ => by
    cases x with
    | bl b =>
      simp only [RV] at r1
      exact ⟨b, r1, k b ms H1 Gr.refl S rfl⟩
    | _ => exact k.elim
theorem tE_tTest {t : TE} {fa : E} (k : ∀ σ H Q, tE G W fa σ H Q → t σ H Q) {Q : Bool → Hp → Prop} (h : tT G W (asB fa) σ H Q) : tTest t σ H Q := k _ _ _ (asB_tTest h)
theorem t_cmp {a b : Expr} {pos : Pos} {op : CmpOp} {f : D → D → O D} {fa fb : E} (ho : OpR X (compareOp op) (rO G f)) (ha : PE X a (tE G W fa)) (hb : PE X b (tE G W fb)) (hm : behindInMarks op b = false) : PT X (.Compare a [op] [b] pos) (tT G W (asB (eBin f fa fb))) :=
  PT_weak (pt_cmpR ho ha hb hm) fun _ _ _ h => tE_tTest (fun _ _ _ h => bin_tOp h) h
def eChain (f g : D → D → O D) (a b c : E) : E := fun env st => (a env st).bind fun x s => (b env s).bind fun y s => (ofO (f x y s)).bind fun z s => match z with
  | .bl true => (c env s).bind fun w s => ofO (g y w s)
  | .bl false => .ok (.bl false) s
  | _ => .bad
theorem chain_tChain {f g : D → D → O D} {fa fb fc : E} {Q : VK} (h : tE G W (eChain f g fa fb fc) σ H Q) : tChain (rO G f) (rO G g) (tE G W fa) (tE G W fb) (tE G W fc) σ H Q := by
  obtain ⟨ms, st, env, S, r, k⟩ := h
  refine ⟨ms, st, env, S, r, Okk.bind k fun x s v m1 H1 g1 S1 r1 k1 => ⟨m1, s, env, S1, r.gr g1, Okk.bind k1 fun y s2 u m2 H2 g2 S2 r2 k2 => ⟨m2, s2, x, y, S2, RV.gr g2 _ _ r1, r2, ?_⟩⟩⟩
  refine Okk.ofO (W := fun c d H => W c d σ H) (Okk.bind k2 fun z s3 z' m3 H3 g3 S3 r3 k3 => ?_)
  cases z with
  | bl b =>
    simp only [RV] at r3
    refine ⟨b, r3, ?_⟩
    cases b with
    | true =>
      rw [if_pos rfl]
      exact ⟨m3, s3, env, S3, (r.gr g1).gr (g2.trans g3), Okk.bind k3 fun w s4 w' m4 H4 g4 S4 r4 k4 => ⟨m4, s4, y, w, S4, RV.gr (g3.trans g4) _ _ r2, r4, k4.ofO⟩⟩
    | false =>
      rw [if_neg Bool.false_ne_true]
      exact k3 (.bl false) m3 H3 Gr.refl S3 (by simp only [RV])
  | _ => exact k3.elim
theorem e_chain {a b c : Expr} {pos : Pos} {op op' : CmpOp} {f g : D → D → O D} {fa fb fc : E} (ho : OpR X (compareOp op) (rO G f)) (ho' : OpR X (compareOp op') (rO G g)) (ha : PE X a (tE G W fa)) (hb : PE X b (tE G W fb)) (hc : PE X c (tE G W fc))
    (hm : lastMarks [op, op'] [b, c] = false := by with_unfolding_all rfl) : PE X (.Compare a [op, op'] [b, c] pos) (tE G W (eChain f g fa fb fc)) :=
  PE_weak (pe_chain ho ho' ha hb hc hm) fun _ _ _ h => chain_tChain h
theorem t_chain {a b c : Expr} {pos : Pos} {op op' : CmpOp} {f g : D → D → O D} {fa fb fc : E} (ho : OpR X (compareOp op) (rO G f)) (ho' : OpR X (compareOp op') (rO G g)) (ha : PE X a (tE G W fa)) (hb : PE X b (tE G W fb)) (hc : PE X c (tE G W fc))
    (hm : lastMarks [op, op'] [b, c] = false := by with_unfolding_all rfl) : PT X (.Compare a [op, op'] [b, c] pos) (tT G W (asB (eChain f g fa fb fc))) :=
  PT_weak (pt_chain ho ho' ha hb hc hm) fun _ _ _ h => tE_tTest (fun _ _ _ h => chain_tChain h) h
/-- a value's truth -/
def tru : D → Sto → Option Bool
  | .non, _ => some false
  | .bl b, _ => some b
  | .int i, _ => some (i != 0)
  | .str x, _ => if x.length ≤ LIM then some ((x.length : Int) != 0) else none
  | .tup ds, _ => some (!ds.isEmpty)
  | .ref i, st => match st[i]? with
    | some (.lst ds) => some (!ds.isEmpty)
    | _ => none
  | _, _ => none
theorem RVs.empty {ms : List Addr} {ds : List D} {vs : List V} (h : RVs G ms H ds vs) : (!vs.isEmpty) = !ds.isEmpty := by
  cases ds with
  | nil =>
    simp only [RVs] at h
    subst h
    rfl
  | cons d ds =>
    simp only [RVs] at h
    obtain ⟨v, r, rfl, _⟩ := h
    rfl
theorem SRel.lst {ms : List Addr} {st : Sto} (S : SRel G ms st H) {i : Nat} {ds : List D} (h : st[i]? = some (.lst ds)) : ∃ a vs, ms[i]? = some a ∧ H a = some (.lst vs) ∧ RVs G ms H ds vs := by
  have hl : i < ms.length := by
    rw [S.len]
    exact (List.getElem?_eq_some_iff.mp h).1
  obtain ⟨vs, h1, h2⟩ := S.cell i ms[i] _ (by simp [hl]) h
  exact ⟨ms[i], vs, by simp [hl], h1, h2⟩
theorem SRel.ref {ms : List Addr} {st : Sto} (S : SRel G ms st H) {i : Nat} {ds : List D} {v : V} (h : st[i]? = some (.lst ds)) (r : RV G ms H (.ref i) v) : ∃ a vs, v = .ref a ∧ ms[i]? = some a ∧ H a = some (.lst vs) ∧ RVs G ms H ds vs := by
  simp only [RV] at r
  obtain ⟨a, rfl, ha⟩ := r
  obtain ⟨b, vs, hb, h1, h2⟩ := S.lst h
  rw [ha] at hb
  cases hb
  exact ⟨a, vs, rfl, ha, h1, h2⟩
theorem tru_ok {ms : List Addr} {st : Sto} (S : SRel G ms st H) {d : D} {v : V} {k : Bool} (r : RV G ms H d v) (h : tru d st = some k) : TruV G.K v H k := by
  cases d with
  | non => simp only [RV] at r; simp only [tru] at h; cases h; subst r; exact rfl
  | bl b => simp only [RV] at r; simp only [tru] at h; cases h; subst r; exact rfl
  | int i => simp only [RV] at r; simp only [tru] at h; cases h; subst r; exact rfl
  | str x =>
    simp only [RV] at r
    simp only [tru] at h
    split at h
    · cases h
      subst r
      rename_i hx
      exact ⟨LIM_le hx, rfl⟩
    · cases h
  | tup ds =>
    simp only [RV] at r
    obtain ⟨a, vs, rfl, h1, h2⟩ := r
    simp only [tru] at h
    cases h
    exact .inr (.inl ⟨vs, h1.t, h2.empty.symm⟩)
  | ref i =>
    simp only [tru] at h
    split at h
    · rename_i ds e
      cases h
      obtain ⟨a, vs, rfl, _, h1, h2⟩ := S.ref e r
      exact .inl ⟨vs, SqL.of h1, h2.empty.symm⟩
    · cases h
  | glo n => cases h
  | ty n => cases h
  | scr ns => cases h
  | xc => cases h
def tTru (a : E) : T := fun env st => (a env st).bind fun x s => match tru x s with
  | some k => .ok k s
  | none => .bad
theorem t_truth {a : Expr} {fa : E} (hK : X.K = G.K) (ha : PE X a (tE G W fa)) (he : ∀ whole, isTrue a X.env whole = (do let v ← whole; standAt a.pos; holding [v] (truthy v)) := by intro _; rfl) : PT X a (tT G W (tTru fa)) :=
  PT_weak (pt_truth ha he) fun σ H Q h => tX_mono (tX_bind h) fun v H1 ⟨ms, st, env, x, S, _, r1, k⟩ => by
    cases e : tru x st with
    | none => rw [e] at k; exact k.elim
    | some b =>
      rw [e] at k
      exact ⟨b, by rw [hK]; exact tru_ok S r1 e, k b ms H1 Gr.refl S rfl⟩
def tAnd' (a b : T) : T := fun env st => (a env st).bind fun k s => if k = true then b env s else .ok false s
def tOr' (a b : T) : T := fun env st => (a env st).bind fun k s => if k = true then .ok true s else b env s
def tNot' (a : T) : T := fun env st => (a env st).bind fun k s => .ok (!k) s
theorem w_one_and {a : Expr} {pos : Pos} {ta : T} (ha : PT X a (tT G W ta)) : PW X (.BoolOp .And [a] pos) (tT G W ta) := pw_and1 ha
theorem w_one_or {a : Expr} {pos : Pos} {ta : T} (ha : PT X a (tT G W ta)) : PW X (.BoolOp .Or [a] pos) (tT G W ta) := pw_or1 ha
theorem w_and {a b : Expr} {rest : List Expr} {pos : Pos} {ta tb : T} (ha : PT X a (tT G W ta)) (hb : PW X (.BoolOp .And (b :: rest) pos) (tT G W tb)) : PW X (.BoolOp .And (a :: b :: rest) pos) (tT G W (tAnd' ta tb)) :=
  PW_weak (pw_and ha hb) fun σ H Q h => tX_mono (tX_bind h) fun b H1 ⟨ms, st, env, x, S, r, r1, k⟩ => by
    cases r1
    cases b with
    | true => exact ⟨ms, st, env, S, r, by simpa using k⟩
    | false => exact (show Okk RB G _ Q ms H1 (.ok false st) by simpa using k) false ms H1 Gr.refl S rfl
theorem w_or {a b : Expr} {rest : List Expr} {pos : Pos} {ta tb : T} (ha : PT X a (tT G W ta)) (hb : PW X (.BoolOp .Or (b :: rest) pos) (tT G W tb)) : PW X (.BoolOp .Or (a :: b :: rest) pos) (tT G W (tOr' ta tb)) :=
  PW_weak (pw_or ha hb) fun σ H Q h => tX_mono (tX_bind h) fun b H1 ⟨ms, st, env, x, S, r, r1, k⟩ => by
    cases r1
    cases b with
    | true => exact (show Okk RB G _ Q ms H1 (.ok true st) by simpa using k) true ms H1 Gr.refl S rfl
    | false => exact ⟨ms, st, env, S, r, by simpa using k⟩
theorem t_not {a : Expr} {pos : Pos} {ta : T} (ha : PT X a (tT G W ta)) : PT X (.UnaryOp .Not a pos) (tT G W (tNot' ta)) :=
  PT_weak (pt_not ha) fun σ H Q h => tX_mono (tX_bind h) fun b H1 ⟨ms, st, env, x, S, r, r1, k⟩ => by
    cases r1
    exact k (!b) ms H1 Gr.refl S rfl
/-- and, or, not as values -/
def eAnd (a b : E) : E := fun env st => (a env st).bind fun x s => match tru x s with
  | some true => b env s
  | some false => .ok x s
  | none => .bad
def eOr (a b : E) : E := fun env st => (a env st).bind fun x s => match tru x s with
  | some true => .ok x s
  | some false => b env s
  | none => .bad
def eNot (a : E) : E := fun env st => (a env st).bind fun x s => match tru x s with
  | some k => .ok (.bl (!k)) s
  | none => .bad
theorem e_one {op} {a : Expr} {pos : Pos} {fa : E} (ha : PE X a (tE G W fa)) : PE X (.BoolOp op [a] pos) (tE G W fa) := pe_one ha
theorem e_and {a b : Expr} {rest : List Expr} {pos : Pos} {fa fb : E} (hK : X.K = G.K) (ha : PE X a (tE G W fa)) (hb : PE X (.BoolOp .And (b :: rest) pos) (tE G W fb)) : PE X (.BoolOp .And (a :: b :: rest) pos) (tE G W (eAnd fa fb)) :=
  PE_weak (pe_andT ha hb) fun σ H Q h => tX_mono (tX_bind h) fun v H1 ⟨ms, st, env, x, S, r, r1, k⟩ => by
    cases e : tru x st with
    | none => rw [e] at k; exact k.elim
    | some b =>
      rw [e] at k
      refine ⟨b, by rw [hK]; exact tru_ok S r1 e, ?_⟩
      cases b with
      | true => exact ⟨ms, st, env, S, r, k⟩
      | false => exact k v ms H1 Gr.refl S r1
theorem e_or {a b : Expr} {rest : List Expr} {pos : Pos} {fa fb : E} (hK : X.K = G.K) (ha : PE X a (tE G W fa)) (hb : PE X (.BoolOp .Or (b :: rest) pos) (tE G W fb)) : PE X (.BoolOp .Or (a :: b :: rest) pos) (tE G W (eOr fa fb)) :=
  PE_weak (pe_orT ha hb) fun σ H Q h => tX_mono (tX_bind h) fun v H1 ⟨ms, st, env, x, S, r, r1, k⟩ => by
    cases e : tru x st with
    | none => rw [e] at k; exact k.elim
    | some b =>
      rw [e] at k
      refine ⟨b, by rw [hK]; exact tru_ok S r1 e, ?_⟩
      cases b with
      | true => exact k v ms H1 Gr.refl S r1
      | false => exact ⟨ms, st, env, S, r, k⟩
theorem e_not {a : Expr} {pos : Pos} {fa : E} (hK : X.K = G.K) (ha : PE X a (tE G W fa)) : PE X (.UnaryOp .Not a pos) (tE G W (eNot fa)) :=
  PE_weak (pe_notT ha) fun σ H Q h => tX_mono (tX_bind h) fun v H1 ⟨ms, st, env, x, S, r, r1, k⟩ => by
    cases e : tru x st with
    | none => rw [e] at k; exact k.elim
    | some b =>
      rw [e] at k
      exact ⟨b, by rw [hK]; exact tru_ok S r1 e, k (.bl (!b)) ms H1 Gr.refl S (by simp only [RV])⟩
theorem e_if {c a b : Expr} {pos : Pos} {tc : T} {fa fb : E} (hc : PT X c (tT G W tc)) (ha : PE X a (tE G W fa)) (hb : PE X b (tE G W fb)) : PE X (.IfExp c a b pos) (tE G W (eIf tc fa fb)) :=
  PE_weak (pe_ifExp hc ha hb) fun σ H Q h => tX_mono (tX_if h) fun b H1 h1 => by
    cases b with
    | true => exact h1
    | false => exact h1

/-! ### arguments, displays, calls of what is built in -/
theorem a_nil : PA X [] (tA G W (eArgs [])) := PA_weak pa_nil fun σ H Q ⟨ms, st, env, S, _, k⟩ => k [] ms H Gr.refl S (by simp only [RVs])
theorem a_cons {e : Expr} {es : List Expr} {fa : E} {fs : List E} (ha : PE X e (tE G W fa)) (hr : PA X es (tA G W (eArgs fs))) (hs : starEach (e :: es) X.env = (false, eval e X.env) :: starEach es X.env := by rfl) : PA X (e :: es) (tA G W (eArgs (fa :: fs))) :=
  PA_weak (pa_cons ha hr hs) fun σ H Q h => by
    obtain ⟨ms, st, env, S, r, k⟩ := h
    exact ⟨ms, st, env, S, r, Okk.bind k fun x s v m1 H1 g1 S1 r1 k1 => ⟨m1, s, env, S1, r.gr g1, Okk.bind k1 fun xs s2 vs m2 H2 g2 S2 r2 k2 =>
      k2 (v :: vs) m2 H2 Gr.refl S2 (by simp only [RVs]; exact ⟨v, vs, rfl, RV.gr g2 _ _ r1, r2⟩)⟩⟩
theorem e_tup {es : List Expr} {x1} {pos : Pos} {fs : List E} (h : PA X es (tA G W (eArgs fs))) : PE X (.Tuple es x1 pos) (tE G W (eBlt opTup fs)) :=
  PE_weak (pe_tup h) fun σ H Q h => tX_mono (tX_bind h) fun vs H1 ⟨ms, st, env, ds, S, r, r1, k⟩ => by
    have k := k.ofO
    unfold opTup at k
    split at k
    · rename_i hl
      exact ⟨by rw [r1.length]; exact LIM_le hl, OkO.tup S r1 k⟩
    · exact k.elim
theorem e_lst {es : List Expr} {pos : Pos} {fs : List E} (h : PA X es (tA G W (eArgs fs))) : PE X (.List es pos) (tE G W (eBlt opLst fs)) :=
  PE_weak (pe_lst h) fun σ H Q h => tX_mono (tX_bind h) fun vs H1 ⟨ms, st, env, ds, S, r, r1, k⟩ => by
    have k := k.ofO
    unfold opLst at k
    split at k
    · rename_i hl
      exact ⟨by rw [r1.length]; exact LIM_le hl, OkO.newL S r1 k⟩
    · exact k.elim
theorem blt_tCB {op : List D → O D} {fs : List E} {Q : VK} (h : tE G W (eBlt op fs) σ H Q) : tCB (rN G op) (tA G W (eArgs fs)) σ H Q :=
  tX_mono (tX_bind h) fun vs H1 ⟨ms, st, env, ds, S, r, r1, k⟩ => ⟨ms, st, ds, S, r1, k.ofO⟩
theorem e_blt {x : Str} {e : Expr} {es : List Expr} {p pos : Pos} {id : String} {op : List D → O D} {fs : List E} (hc : CallR X (.builtin id) (rN G op)) (hg : Gl X x) (hm : X.mg x = none) (hv : bootBuiltins x = some (.builtin id)) (ha : PA X (e :: es) (tA G W (eArgs fs)))
    (hn : x ≠ "__name__" := by decide) (hdb : (x == ("__debug__" : Str)) = false := by decide) (he : starEach (e :: es) X.env = (false, eval e X.env) :: starEach es X.env := by rfl) (hpl : (backTo pos (starEach es X.env)).any (·.1) = false := by rfl) :
    PE X (.Call (.Name x p) (e :: es) [] pos) (tE G W (eBlt op fs)) :=
  PE_weak (pe_callB hc hg hm hv ha hn hdb he hpl) fun _ _ _ h => blt_tCB h
theorem e_bty {x : Str} {e : Expr} {es : List Expr} {p pos : Pos} {id : String} {op : List D → O D} {fs : List E} (hc : CallR X (.type id) (rN G op)) (hg : Gl X x) (hm : X.mg x = none) (hv : bootBuiltins x = some (.type id)) (ha : PA X (e :: es) (tA G W (eArgs fs)))
    (hn : x ≠ "__name__" := by decide) (hdb : (x == ("__debug__" : Str)) = false := by decide) (he : starEach (e :: es) X.env = (false, eval e X.env) :: starEach es X.env := by rfl) (hpl : (backTo pos (starEach es X.env)).any (·.1) = false := by rfl) :
    PE X (.Call (.Name x p) (e :: es) [] pos) (tE G W (eBlt op fs)) :=
  PE_weak (pe_callTy hc hg hm hv ha hn hdb he hpl) fun _ _ _ h => blt_tCB h
/-- o[i] -/
theorem e_ix {a b : Expr} {pos : Pos} {f : D → D → O D} {fa fb : E} (ho : IxR X (rO G f)) (ha : PE X a (tE G W fa)) (hb : PE X b (tE G W fb)) (hs : PlainIx b := by exact fun _ _ => rfl) : PE X (.Subscript a b pos) (tE G W (eBin f fa fb)) :=
  PE_weak (pe_ix ho ha hb hs) fun _ _ _ h => bin_tOp h
end
end LF

set_option Elab.async false
set_option linter.all false
set_option maxRecDepth 100000
set_option maxHeartbeats 4000000
/-! The layer: operations. -/
namespace LF
open PySem PySem.Spec PyProof.Rows L2
section
variable {G : Gx} {W : WX} {X : Cx} {σ : L2.St} {H : Hp}
/-! ### ints, texts, tuples, lists: + - * // % ** -/
def opAdd : D → D → O D
  | .int i, .int j => fun st => some (.int (i + j), st)
  | .str x, .str y => fun st => if x.length + y.length ≤ LIM then some (.str (x ++ y), st) else none
  | .tup a, .tup b => fun st => if a.length + b.length ≤ LIM then some (.tup (a ++ b), st) else none
  | .ref i, .ref j => fun st => match st[i]?, st[j]? with
    | some (.lst a), some (.lst b) => if a.length + b.length ≤ LIM then newL (a ++ b) st else none
    | _, _ => none
  | _, _ => fun _ => none
def opSub : D → D → O D
  | .int i, .int j => fun st => some (.int (i - j), st)
  | _, _ => fun _ => none
def opMul : D → D → O D
  | .int i, .int j => fun st => if (-(2 ^ 64) < i ∧ i < 2 ^ 64) ∨ (-(2 ^ 64) < j ∧ j < 2 ^ 64) then some (.int (i * j), st) else none
  | .ref i, .int k => fun st => match st[i]? with
    | some (.lst a) => if a.length * k.toNat ≤ LIM ∧ -(2 ^ 63) ≤ k ∧ k < 2 ^ 63 then newL (List.replicate k.toNat a).flatten st else none
    | _ => none
  | _, _ => fun _ => none
def opDiv : D → D → O D
  | .int i, .int j => fun st => if 0 < j ∧ j < 1073741824 then some (.int (i / j), st) else none
  | _, _ => fun _ => none
def opMod : D → D → O D
  | .int i, .int j => fun st => if 0 < j then some (.int (i % j), st) else none
  | _, _ => fun _ => none
def opPow : D → D → O D
  | .int i, .int j => fun st => if 0 ≤ j ∧ j ≤ 1000000 ∧ i.natAbs < 2 ^ 64 then some (.int (i ^ j.toNat), st) else none
  | _, _ => fun _ => none
def opNeg : D → O D
  | .int i => fun st => some (.int (-i), st)
  | _ => fun _ => none
theorem OkO.int {Q : VK} {ms : List Addr} {st : Sto} {i : Int} (S : SRel G ms st H) (h : OkO (RV G) G Q ms H (some (.int i, st))) : Q (.int i) H := OkO.val S (by simp only [RV]) h
theorem OkO.bl {Q : VK} {ms : List Addr} {st : Sto} {i : Bool} (S : SRel G ms st H) (h : OkO (RV G) G Q ms H (some (.bl i, st))) : Q (.bl i) H := OkO.val S (by simp only [RV]) h
theorem OkO.str {Q : VK} {ms : List Addr} {st : Sto} {i : Str} (S : SRel G ms st H) (h : OkO (RV G) G Q ms H (some (.str i, st))) : Q (.str i) H := OkO.val S (by simp only [RV]) h
theorem o_add (hK : X.K = G.K) : OpR X (binaryOp .Add) (rO G opAdd) := OpR_imp (op_add.or (op_add_str.or (op_catA.or op_cat))) fun v u H Q ⟨ms, st, x, y, S, rx, ry, k⟩ => by
  unfold opAdd at k
  split at k
  · simp only [RV] at rx ry
    subst rx ry
    exact .inl ⟨_, _, rfl, rfl, OkO.int S k⟩
  · simp only [RV] at rx ry
    subst rx ry
    split at k
    · rename_i hl
      exact .inr (.inl ⟨_, _, rfl, rfl, LIM_le hl, OkO.str S k⟩)
    · exact k.elim
  · rename_i a b
    have rx0 := rx
    have ry0 := ry
    simp only [RV] at rx ry
    obtain ⟨p, vs, rfl, h1, h2⟩ := rx
    obtain ⟨q, us, rfl, h3, h4⟩ := ry
    split at k
    · rename_i hl
      refine .inr (.inr (.inl ⟨p, q, vs, us, rfl, rfl, by rw [hK]; exact h1.t, by rw [hK]; exact h3.t, by rw [h2.length, h4.length]; exact LIM_le hl, fun e => ?_, fun _ e => ?_, fun _ _ => OkO.tup S (h2.app h4) k⟩))
      · have hl0 := h2.length
        rw [e] at hl0
        have e2 : a = [] := List.eq_nil_of_length_eq_zero hl0.symm
        subst e2
        exact OkO.val S ry0 k
      · have hl0 := h4.length
        rw [e] at hl0
        have e2 : b = [] := List.eq_nil_of_length_eq_zero hl0.symm
        subst e2
        rw [List.append_nil] at k
        exact OkO.val S rx0 k
    · exact k.elim
  · split at k
    · rename_i a b e1 e2
      obtain ⟨p, vs, rfl, _, h1, h2⟩ := S.ref e1 rx
      obtain ⟨q, us, rfl, _, h3, h4⟩ := S.ref e2 ry
      split at k
      · rename_i hl
        exact .inr (.inr (.inr ⟨p, q, vs, us, rfl, rfl, h1, h3, by rw [h2.length, h4.length]; exact LIM_le hl, OkO.newL S (h2.app h4) k⟩))
      · exact k.elim
    · exact k.elim
  · exact k.elim
theorem o_sub : OpR X (binaryOp .Sub) (rO G opSub) := OpR_imp op_sub fun v u H Q ⟨ms, st, x, y, S, rx, ry, k⟩ => by
  unfold opSub at k
  split at k
  · simp only [RV] at rx ry
    subst rx ry
    exact ⟨_, _, rfl, rfl, OkO.int S k⟩
  · exact k.elim
theorem RVs.repf {ms : List Addr} {ds : List D} {vs : List V} (h : RVs G ms H ds vs) : ∀ n, RVs G ms H (List.replicate n ds).flatten (List.replicate n vs).flatten
  | 0 => by simp [RVs]
  | n + 1 => by
    simp only [List.replicate_succ, List.flatten_cons]
    exact h.app (RVs.repf h n)
theorem o_mul : OpR X (binaryOp .Mult) (rO G opMul) := OpR_imp (op_mul.or op_rep) fun v u H Q ⟨ms, st, x, y, S, rx, ry, k⟩ => by
  unfold opMul at k
  split at k
  · simp only [RV] at rx ry
    subst rx ry
    split at k
    · rename_i hc
      exact .inl ⟨_, _, rfl, rfl, hc, OkO.int S k⟩
    · exact k.elim
  · simp only [RV] at ry
    subst ry
    split at k
    · rename_i a e1
      obtain ⟨p, vs, rfl, _, h1, h2⟩ := S.ref e1 rx
      split at k
      · rename_i hl
        exact .inr ⟨p, _, vs, rfl, rfl, h1, hl.2.1, hl.2.2, by rw [h2.length]; exact LIM_le hl.1, OkO.newL S (h2.repf _) k⟩
      · exact k.elim
    · exact k.elim
  · exact k.elim
theorem o_div : OpR X (binaryOp .FloorDiv) (rO G opDiv) := OpR_imp op_fdiv fun v u H Q ⟨ms, st, x, y, S, rx, ry, k⟩ => by
  unfold opDiv at k
  split at k
  · simp only [RV] at rx ry
    subst rx ry
    split at k
    · rename_i hc
      exact ⟨_, _, rfl, rfl, hc, OkO.int S k⟩
    · exact k.elim
  · exact k.elim
theorem o_mod : OpR X (binaryOp .Mod) (rO G opMod) := OpR_imp op_mod fun v u H Q ⟨ms, st, x, y, S, rx, ry, k⟩ => by
  unfold opMod at k
  split at k
  · simp only [RV] at rx ry
    subst rx ry
    split at k
    · rename_i hc
      exact ⟨_, _, rfl, rfl, hc, OkO.int S k⟩
    · exact k.elim
  · exact k.elim
theorem o_pow : OpR X (binaryOp .Pow) (rO G opPow) := OpR_imp op_pow fun v u H Q ⟨ms, st, x, y, S, rx, ry, k⟩ => by
  unfold opPow at k
  split at k
  · simp only [RV] at rx ry
    subst rx ry
    split at k
    · rename_i hc
      exact ⟨_, _, rfl, rfl, hc, OkO.int S k⟩
    · exact k.elim
  · exact k.elim
theorem o_neg : UnR X (unaryOp .USub) (rU1 G opNeg) := UnR_imp un_neg fun v H Q ⟨ms, st, x, S, rx, k⟩ => by
  unfold opNeg at k
  split at k
  · simp only [RV] at rx
    subst rx
    exact ⟨_, rfl, OkO.int S k⟩
  · exact k.elim
/-! ### comparisons -/
def opCmp (f : Int → Int → Bool) : D → D → O D
  | .int i, .int j => fun st => some (.bl (f i j), st)
  | _, _ => fun _ => none
theorem o_cmp {op : CmpOp} {f : Int → Int → Bool} (h : OpR X (compareOp op) (rI0 fun i j => .bl (f i j))) : OpR X (compareOp op) (rO G (opCmp f)) := OpR_imp h fun v u H Q ⟨ms, st, x, y, S, rx, ry, k⟩ => by
  unfold opCmp at k
  split at k
  · simp only [RV] at rx ry
    subst rx ry
    exact ⟨_, _, rfl, rfl, OkO.bl S k⟩
  · exact k.elim
abbrev opLt := opCmp fun i j => decide (i < j)
abbrev opLe := opCmp fun i j => decide (i ≤ j)
abbrev opGt := opCmp fun i j => decide (j < i)
abbrev opGe := opCmp fun i j => decide (j ≤ i)
theorem o_lt : OpR X (compareOp .Lt) (rO G opLt) := o_cmp op_lt
theorem o_le : OpR X (compareOp .LtE) (rO G opLe) := o_cmp op_le
theorem o_gt : OpR X (compareOp .Gt) (rO G opGt) := o_cmp op_gt
theorem o_ge : OpR X (compareOp .GtE) (rO G opGe) := o_cmp op_ge
def isNon : D → Bool
  | .non => true
  | _ => false
theorem isNon_ok {ms : List Addr} {d : D} {v : V} (r : RV G ms H d v) : decide (v = V.non) = isNon d := by
  cases d with
  | non => simp only [RV] at r; subst r; rfl
  | bl _ => simp only [RV] at r; subst r; rfl
  | int _ => simp only [RV] at r; subst r; rfl
  | str _ => simp only [RV] at r; subst r; rfl
  | tup _ => simp only [RV] at r; obtain ⟨a, vs, rfl, _⟩ := r; rfl
  | ref _ => simp only [RV] at r; obtain ⟨a, rfl, _⟩ := r; rfl
  | glo _ => simp only [RV] at r; subst r; rfl
  | ty _ => simp only [RV] at r; subst r; rfl
  | scr _ => simp only [RV] at r; obtain ⟨a, rfl, _⟩ := r; rfl
  | xc => simp only [RV] at r; obtain ⟨a, _, _, _, rfl⟩ := r; rfl
def opIs : D → D → O D
  | x, .non => fun st => some (.bl (isNon x), st)
  | _, _ => fun _ => none
def opIsNot : D → D → O D
  | x, .non => fun st => some (.bl (!isNon x), st)
  | _, _ => fun _ => none
theorem o_is : OpR X (compareOp .Is) (rO G opIs) := OpR_imp op_isN fun v u H Q ⟨ms, st, x, y, S, rx, ry, k⟩ => by
  unfold opIs at k
  split at k
  · simp only [RV] at ry
    subst ry
    exact ⟨rfl, by rw [isNon_ok rx]; exact OkO.bl S k⟩
  · exact k.elim
theorem o_isnot : OpR X (compareOp .IsNot) (rO G opIsNot) := OpR_imp op_notN fun v u H Q ⟨ms, st, x, y, S, rx, ry, k⟩ => by
  unfold opIsNot at k
  split at k
  · simp only [RV] at ry
    subst ry
    exact ⟨rfl, by rw [isNon_ok rx]; exact OkO.bl S k⟩
  · exact k.elim
/-! ### data -/
def mapO {α β : Type} (f : α → Option β) : List α → Option (List β)
  | [] => some []
  | x :: xs => match f x, mapO f xs with
    | some y, some ys => some (y :: ys)
    | _, _ => none
/-- what a value is as data, its lists read in the store -/
def deep (st : Sto) : Nat → D → Option PyData
  | 0 => fun d => match d with
    | .non => some .none
    | .bl b => some (.bool b)
    | .int i => some (.int i)
    | .str x => some (.str x)
    | _ => none
  | n + 1 => fun d => match d with
    | .non => some .none
    | .bl b => some (.bool b)
    | .int i => some (.int i)
    | .str x => some (.str x)
    | .tup ds => (mapO (deep st n) ds).map .tuple
    | .ref i => match st[i]? with
      | some (.lst ds) => (mapO (deep st n) ds).map .list
      | _ => none
    | _ => none
theorem dpAll {ms : List Addr} {f : D → Option PyData} (h : ∀ d v p, RV G ms H d v → f d = some p → Dp G.K H v p) : ∀ (ds : List D) (vs : List V) (ps : List PyData), RVs G ms H ds vs → mapO f ds = some ps → DpAll G.K H vs ps
  | [], vs, ps, r, e => by
    simp only [RVs] at r
    simp only [mapO] at e
    cases e
    subst r
    exact .nil
  | d :: ds, vs, ps, r, e => by
    simp only [RVs] at r
    obtain ⟨v, r', rfl, r1, r2⟩ := r
    simp only [mapO] at e
    split at e
    · rename_i p qs e1 e2
      cases e
      exact .cons (h d v p r1 e1) (dpAll h ds r' qs r2 e2)
    · cases e
theorem dp_of {ms : List Addr} {st : Sto} (S : SRel G ms st H) : ∀ (n : Nat) (d : D) (v : V) (p : PyData), RV G ms H d v → deep st n d = some p → Dp G.K H v p := by
  intro n
  induction n with
  | zero =>
    intro d v p r e
    cases d <;> simp only [deep] at e <;> simp only [RV] at r <;> (first | (cases e; done) | skip) <;> cases e <;> subst r
    · exact .non
    · exact .bl _
    · exact .int _
    · exact .str _
  | succ n ih =>
    intro d v p r e
    cases d with
    | non => simp only [deep] at e; simp only [RV] at r; cases e; subst r; exact .non
    | bl _ => simp only [deep] at e; simp only [RV] at r; cases e; subst r; exact .bl _
    | int _ => simp only [deep] at e; simp only [RV] at r; cases e; subst r; exact .int _
    | str _ => simp only [deep] at e; simp only [RV] at r; cases e; subst r; exact .str _
    | tup ds =>
      simp only [deep] at e
      simp only [RV] at r
      obtain ⟨a, vs, rfl, h1, h2⟩ := r
      cases e1 : mapO (deep st n) ds with
      | none => rw [e1] at e; cases e
      | some ps =>
        rw [e1] at e
        cases e
        exact .tup h1.t (dpAll ih ds vs ps h2 e1)
    | ref i =>
      simp only [deep] at e
      split at e
      · rename_i ds e0
        obtain ⟨a, vs, rfl, _, h1, h2⟩ := S.ref e0 r
        cases e1 : mapO (deep st n) ds with
        | none => rw [e1] at e; cases e
        | some ps =>
          rw [e1] at e
          cases e
          exact .lst (SqL.of h1) (dpAll ih ds vs ps h2 e1)
      · cases e
    | glo _ => simp only [deep] at e; cases e
    | ty _ => simp only [deep] at e; cases e
    | scr _ => simp only [deep] at e; cases e
    | xc => simp only [deep] at e; cases e
/-- x == y of data -/
def eqD (st : Sto) (x y : D) : Option Bool := match deep st 66 x, deep st 66 y with
  | some p, some q => if SeqAt.shaped p = true ∧ SeqAt.shaped q = true then some (PyData.eqv p q) else none
  | _, _ => none
def opEq (x y : D) : O D := fun st => match eqD st x y with
  | some b => some (.bl b, st)
  | none => none
def opNe (x y : D) : O D := fun st => match eqD st x y with
  | some b => some (.bl (!b), st)
  | none => none
theorem eqD_ok {ms : List Addr} {st : Sto} (S : SRel G ms st H) {x y : D} {v u : V} {b : Bool} (rx : RV G ms H x v) (ry : RV G ms H y u) (h : eqD st x y = some b) : ∃ d e, Dp G.K H v d ∧ Dp G.K H u e ∧ SeqAt.shaped d = true ∧ SeqAt.shaped e = true ∧ PyData.eqv d e = b := by
  unfold eqD at h
  split at h
  · rename_i p q e1 e2
    split at h
    · rename_i hs
      cases h
      exact ⟨p, q, dp_of S _ _ _ _ rx e1, dp_of S _ _ _ _ ry e2, hs.1, hs.2, rfl⟩
    · cases h
  · cases h
theorem o_eq (hK : X.K = G.K) (hu : X.A.units + 64 < cLine) : OpR X (compareOp .Eq) (rO G opEq) := OpR_imp (op_eqD hu) fun v u H Q ⟨ms, st, x, y, S, rx, ry, k⟩ => by
  unfold opEq at k
  split at k
  · rename_i b e
    obtain ⟨d, d', h1, h2, h3, h4, rfl⟩ := eqD_ok S rx ry e
    exact ⟨d, d', by rw [hK]; exact h1, by rw [hK]; exact h2, h3, h4, OkO.bl S k⟩
  · exact k.elim
theorem o_ne (hK : X.K = G.K) (hu : X.A.units + 64 < cLine) : OpR X (compareOp .NotEq) (rO G opNe) := OpR_imp (op_neD hu) fun v u H Q ⟨ms, st, x, y, S, rx, ry, k⟩ => by
  unfold opNe at k
  split at k
  · rename_i b e
    obtain ⟨d, d', h1, h2, h3, h4, rfl⟩ := eqD_ok S rx ry e
    exact ⟨d, d', by rw [hK]; exact h1, by rw [hK]; exact h2, h3, h4, OkO.bl S k⟩
  · exact k.elim

/-! ### in, of flat things -/
def flatD : D → Bool
  | .non => true
  | .bl _ => true
  | .int _ => true
  | .str _ => true
  | _ => false
def eqF : D → D → Bool
  | .non, .non => true
  | .bl a, .bl b => a == b
  | .bl a, .int b => (if a then 1 else 0) == b
  | .int a, .bl b => a == (if b then 1 else 0)
  | .int a, .int b => a == b
  | .str a, .str b => a == b
  | _, _ => false
theorem flat_ok {ms : List Addr} {d : D} {v : V} (r : RV G ms H d v) (h : flatD d = true) : flatV v = true ∧ ∀ e u, RV G ms H e u → flatD e = true → eqV u v = eqF e d := by
  cases d <;> simp only [flatD] at h <;> (first | (cases h; done) | skip) <;> simp only [RV] at r <;> subst r <;> refine ⟨rfl, fun e u re he => ?_⟩ <;> cases e <;> simp only [flatD] at he <;> (first | (cases he; done) | skip) <;> simp only [RV] at re <;> subst re <;> rfl
/-- the items of a tuple or a list -/
def seqOf : D → Sto → Option (List D)
  | .tup ds, _ => some ds
  | .ref i, st => match st[i]? with
    | some (.lst ds) => some ds
    | _ => none
  | .scr ns, _ => some (ns.map D.int)
  | _, _ => none
theorem seq_ok {ms : List Addr} {st : Sto} (S : SRel G ms st H) {d : D} {v : V} {ds : List D} (r : RV G ms H d v) (h : seqOf d st = some ds) : ∃ p vs, v = .ref p ∧ (SqL G.K H p vs ∨ SqT G.K H p vs) ∧ RVs G ms H ds vs := by
  cases d with
  | tup es =>
    simp only [seqOf] at h
    cases h
    simp only [RV] at r
    obtain ⟨a, vs, rfl, h1, h2⟩ := r
    exact ⟨a, vs, rfl, .inr h1.t, h2⟩
  | ref i =>
    simp only [seqOf] at h
    split at h
    · rename_i es e
      cases h
      obtain ⟨a, vs, rfl, _, h1, h2⟩ := S.ref e r
      exact ⟨a, vs, rfl, .inl (SqL.of h1), h2⟩
    · cases h
  | scr ns =>
    simp only [seqOf] at h
    cases h
    simp only [RV] at r
    obtain ⟨a, rfl, h1⟩ := r
    exact ⟨a, _, rfl, .inl h1.l, RVs.ints ns⟩
  | non => cases h
  | bl _ => cases h
  | int _ => cases h
  | str _ => cases h
  | glo _ => cases h
  | ty _ => cases h
  | xc => cases h
def inF (x : D) (ds : List D) : Bool := ds.any fun y => eqF y x
theorem inF_ok {ms : List Addr} {x : D} {v : V} (r : RV G ms H x v) (hx : flatD x = true) : ∀ {ds : List D} {vs : List V}, RVs G ms H ds vs → ds.all flatD = true → vs.all flatV = true ∧ inV v vs = inF x ds
  | [], vs, h, _ => by
    simp only [RVs] at h
    subst h
    exact ⟨rfl, rfl⟩
  | d :: ds, vs, h, ha => by
    simp only [RVs] at h
    obtain ⟨u, r', rfl, r1, r2⟩ := h
    simp only [List.all_cons, Bool.and_eq_true] at ha
    obtain ⟨i1, i2⟩ := inF_ok r hx r2 ha.2
    refine ⟨by simp only [List.all_cons, Bool.and_eq_true]; exact ⟨(flat_ok r1 ha.1).1, i1⟩, ?_⟩
    unfold inV inF at i2 ⊢
    rw [List.any_cons, List.any_cons, i2, (flat_ok r hx).2 d u r1 ha.1]
def opIn (neg : Bool) (x y : D) : O D := fun st => match seqOf y st with
  | some ds => if flatD x = true ∧ ds.all flatD = true then some (.bl (if neg then !inF x ds else inF x ds), st) else none
  | none => none
theorem rIn_of (hK : X.K = G.K) {neg : Bool} {v u : V} {Q : VK} (h : rO G (opIn neg) v u H Q) : rIn X.K neg v u H Q := by
  obtain ⟨ms, st, x, y, S, rx, ry, k⟩ := h
  unfold opIn at k
  split at k
  · rename_i ds e
    split at k
    · rename_i hf
      obtain ⟨p, vs, rfl, h1, h2⟩ := seq_ok S ry e
      obtain ⟨i1, i2⟩ := inF_ok rx hf.1 h2 hf.2
      exact ⟨p, vs, rfl, by rw [hK]; exact h1, (flat_ok rx hf.1).1, i1, by rw [i2]; exact OkO.bl S k⟩
    · exact k.elim
  · exact k.elim
theorem o_in (hK : X.K = G.K) : OpR X (compareOp .In) (rO G (opIn false)) := OpR_imp op_in_seq fun v u H Q h => rIn_of hK h
theorem o_notin (hK : X.K = G.K) : OpR X (compareOp .NotIn) (rO G (opIn true)) := OpR_imp op_notIn_seq fun v u H Q h => rIn_of hK h

/-! ### subscripts -/
def opIx (x y : D) : O D := fun st => match x, y with
  | .str z, .int i => match atI z.cps.toList i with
    | some c => if z.length ≤ LIM then some (.str ⟨#[c]⟩, st) else none
    | none => none
  | x, .int i => match seqOf x st with
    | some ds => match atI ds i with
      | some d => some (d, st)
      | none => none
    | none => none
  | _, _ => none
theorem atI_ok {ms : List Addr} {ds : List D} {vs : List V} {i : Int} {d : D} (r : RVs G ms H ds vs) (h : atI ds i = some d) : ∃ v, atI vs i = some v ∧ RV G ms H d v := by
  unfold atI at h ⊢
  rw [r.length]
  cases e : ixN ds.length i with
  | none => rw [e] at h; cases h
  | some j =>
    rw [e] at h
    exact r.at h
theorem o_ix (hK : X.K = G.K) : IxR X (rO G opIx) := IxR_imp ix_seq fun v u H Q ⟨ms, st, x, y, S, rx, ry, k⟩ => by
  unfold opIx at k
  split at k
  · simp only [RV] at rx ry
    subst rx ry
    split at k
    · rename_i c e
      split at k
      · rename_i hl
        exact .inr (.inr ⟨_, _, _, rfl, rfl, LIM_le hl, e, OkO.str S k⟩)
      · exact k.elim
    · exact k.elim
  · simp only [RV] at ry
    subst ry
    split at k
    · rename_i ds e
      split at k
      · rename_i d e2
        obtain ⟨p, vs, rfl, h1, h2⟩ := seq_ok S rx e
        obtain ⟨w, h3, h4⟩ := atI_ok h2 e2
        rcases h1 with h1 | h1
        · exact .inl ⟨p, vs, _, w, rfl, rfl, by rw [hK]; exact h1, h3, OkO.val S h4 k⟩
        · exact .inr (.inl ⟨p, vs, _, w, rfl, rfl, by rw [hK]; exact h1, h3, OkO.val S h4 k⟩)
      · exact k.elim
    · exact k.elim
  · exact k.elim
/-- x[lo:hi] -/
def cutD {α : Type} (xs : List α) (lo hi : Option Int) : List α := (xs.drop (HT.sIx xs.length 0 lo)).take (HT.sIx xs.length xs.length hi - HT.sIx xs.length 0 lo)
theorem cut_ok {ms : List Addr} {ds : List D} {vs : List V} (lo hi : Option Int) (r : RVs G ms H ds vs) : RVs G ms H (cutD ds lo hi) (cutV vs lo hi) := by
  unfold cutD cutV
  rw [r.length]
  exact (r.drop _).take _
def opSl (lo hi : Option Int) (x : D) : O D := fun st => match x with
  | .str z => if z.length ≤ LIM then some (.str (cutS z lo hi), st) else none
  | .tup ds => some (.tup (cutD ds lo hi), st)
  | x => match seqOf x st with
    | some ds => newL (cutD ds lo hi) st
    | none => none
def rS (G : Gx) (op : Option Int → Option Int → D → O D) : V → Option Int → Option Int → Hp → VK → Prop := fun v lo hi H Q => ∃ ms st x, SRel G ms st H ∧ RV G ms H x v ∧ OkO (RV G) G Q ms H (op lo hi x st)
theorem cut_whole {α : Type} {xs : List α} {lo hi : Option Int} (h : HT.sIx xs.length 0 lo = 0 ∧ HT.sIx xs.length xs.length hi = xs.length) : cutD xs lo hi = xs := by
  unfold cutD
  rw [h.1, h.2]
  simp
theorem s_sl (hK : X.K = G.K) : SlR X (rS G opSl) := SlR_imp (sl_str.or (sl_tupA.or sl_list)) fun v lo hi H Q ⟨ms, st, x, S, rx, k⟩ => by
  unfold opSl at k
  split at k
  · simp only [RV] at rx
    subst rx
    split at k
    · rename_i hl
      exact .inl ⟨_, rfl, LIM_le hl, OkO.str S k⟩
    · exact k.elim
  · rename_i ds
    have rx0 := rx
    simp only [RV] at rx
    obtain ⟨a, vs, rfl, h1, h2⟩ := rx
    refine .inr (.inl ⟨a, vs, rfl, by rw [hK]; exact h1.t, fun e => ?_, fun _ => OkO.tup S (cut_ok lo hi h2) k⟩)
    rw [h2.length] at e
    rw [cut_whole e] at k
    exact OkO.val S rx0 k
  · split at k
    · rename_i x _ _ hn _ ds e
      cases x with
      | tup es => exact (hn es rfl).elim
      | ref i =>
        simp only [seqOf] at e
        split at e
        · rename_i es e1
          cases e
          obtain ⟨a, vs, rfl, _, h1, h2⟩ := S.ref e1 rx
          exact .inr (.inr ⟨a, vs, rfl, SqL.of h1, OkO.newL S (cut_ok lo hi h2) k⟩)
        · cases e
      | scr ns =>
        simp only [seqOf] at e
        cases e
        simp only [RV] at rx
        obtain ⟨a, rfl, h1⟩ := rx
        exact .inr (.inr ⟨a, _, rfl, by rw [hK]; exact h1.l, OkO.newL S (cut_ok lo hi (RVs.ints ns)) k⟩)
      | non => cases e
      | bl _ => cases e
      | int _ => cases e
      | str _ => cases e
      | glo _ => cases e
      | ty _ => cases e
      | xc => cases e
    · exact k.elim
abbrev RP : List Addr → Hp → Option Int → Option Int → Prop := fun _ _ a b => b = a
def ePart : Option E → Sl → M (Option Int)
  | none => fun _ st => .ok none st
  | some f => fun env st => (f env st).bind fun x s => match x with
    | .int i => .ok (some i) s
    | _ => .bad
theorem p_none : PO X none (tX RP G W (ePart none)) := ⟨fun pins s σ H Q I h => po_none.run pins s σ H Q I (by
  obtain ⟨ms, st, env, S, _, k⟩ := h
  exact k none ms H Gr.refl S rfl)⟩
theorem p_some {e : Expr} {f : E} (h : PE X e (tE G W f)) : PO X (some e) (tX RP G W (ePart (some f))) := ⟨fun pins s σ H Q I q => (po_some h).run pins s σ H Q I (tX_mono (tX_bind q) fun v H1 ⟨ms, st, env, x, S, _, r1, k⟩ => by
  cases x with
  | int i =>
    simp only [RV] at r1
    exact ⟨i, r1, k (some i) ms H1 Gr.refl S rfl⟩
  | _ => exact k.elim)⟩
def eSl (a : E) (lo hi : Option E) : E := fun env st => (a env st).bind fun x s => (ePart lo env s).bind fun l s => (ePart hi env s).bind fun h s => ofO (opSl l h x s)
theorem e_sl {a : Expr} {lo hi : Option Expr} {p2 pos : Pos} {fa : E} {fl fh : Option E} (hK : X.K = G.K) (ha : PE X a (tE G W fa)) (hl : PO X lo (tX RP G W (ePart fl))) (hh : PO X hi (tX RP G W (ePart fh))) :
    PE X (.Subscript a (.Slice lo hi none p2) pos) (tE G W (eSl fa fl fh)) := PE_weak (pe_slice (s_sl (G := G) hK) ha hl hh) fun σ H Q h => by
  obtain ⟨ms, st, env, S, r, k⟩ := h
  exact ⟨ms, st, env, S, r, Okk.bind k fun x s v m1 H1 g1 S1 r1 k1 => ⟨m1, s, env, S1, r.gr g1, Okk.bind k1 fun l s2 l' m2 H2 g2 S2 r2 k2 => ⟨m2, s2, env, S2, r.gr (g1.trans g2), Okk.bind k2 fun h s3 h' m3 H3 g3 S3 r3 k3 => by
    cases r2
    cases r3
    exact ⟨m3, s3, x, S3, RV.gr (g2.trans g3) _ _ r1, k3.ofO⟩⟩⟩⟩

/-! ### built-in functions -/
def lenOf : D → Sto → Option Nat
  | .str x, _ => if x.length ≤ LIM then some x.length else none
  | x, st => (seqOf x st).map List.length
def opLen : List D → O D
  | [x] => fun st => match lenOf x st with
    | some n => some (.int n, st)
    | none => none
  | _ => fun _ => none
theorem RVs.one' {ms : List Addr} {d : D} {vs : List V} (h : RVs G ms H [d] vs) : ∃ v, vs = [v] ∧ RV G ms H d v := by
  simp only [RVs] at h
  obtain ⟨v, r, rfl, h1, rfl⟩ := h
  exact ⟨v, rfl, h1⟩
theorem RVs.two' {ms : List Addr} {d e : D} {vs : List V} (h : RVs G ms H [d, e] vs) : ∃ v u, vs = [v, u] ∧ RV G ms H d v ∧ RV G ms H e u := by
  simp only [RVs] at h
  obtain ⟨v, r, rfl, h1, u, r2, rfl, h2, rfl⟩ := h
  exact ⟨v, u, rfl, h1, h2⟩
theorem c_len (hK : X.K = G.K) : CallR X (.builtin "len") (rN G opLen) := CallR_imp call_len fun vs H Q ⟨ms, st, ds, S, r, k⟩ => by
  unfold opLen at k
  split at k
  · rename_i x
    obtain ⟨v, rfl, rv⟩ := r.one'
    split at k
    · rename_i n e
      refine ⟨v, n, rfl, ?_, OkO.int S k⟩
      unfold lenOf at e
      split at e
      · simp only [RV] at rv
        subst rv
        split at e
        · rename_i hl
          cases e
          exact ⟨LIM_le hl, rfl⟩
        · cases e
      · cases e1 : seqOf x st with
        | none => rw [e1] at e; cases e
        | some ds =>
          rw [e1] at e
          cases e
          obtain ⟨p, us, rfl, h1, h2⟩ := seq_ok S rv e1
          rcases h1 with h1 | h1
          · exact .inl ⟨us, by rw [hK]; exact h1, h2.length.symm⟩
          · exact .inr ⟨us, by rw [hK]; exact h1, h2.length.symm⟩
    · exact k.elim
  · exact k.elim
def opAbs : List D → O D
  | [.int i] => fun st => some (.int (if i < 0 then -i else i), st)
  | _ => fun _ => none
theorem c_abs : CallR X (.builtin "abs") (rN G opAbs) := CallR_imp call_abs fun vs H Q ⟨ms, st, ds, S, r, k⟩ => by
  unfold opAbs at k
  split at k
  · obtain ⟨v, rfl, rv⟩ := r.one'
    simp only [RV] at rv
    subst rv
    exact ⟨_, rfl, OkO.int S k⟩
  · exact k.elim
/-- int(x): of an int, a bool, a text -/
def opInt : List D → O D
  | [.int i] => fun st => some (.int i, st)
  | [.bl b] => fun st => some (.int (if b then 1 else 0), st)
  | [.str x] => fun st => match PySem.intText? x with
    | some n => if x.length ≤ 640 then some (.int n, st) else none
    | none => none
  | _ => fun _ => none
theorem c_int : CallR X (.type "int") (rN G opInt) := CallR_imp (CallR_or call_int1 call_int_str) fun vs H Q ⟨ms, st, ds, S, r, k⟩ => by
  unfold opInt at k
  split at k
  · obtain ⟨v, rfl, rv⟩ := r.one'
    simp only [RV] at rv
    subst rv
    exact .inl (.inl ⟨_, rfl, OkO.int S k⟩)
  · obtain ⟨v, rfl, rv⟩ := r.one'
    simp only [RV] at rv
    subst rv
    exact .inl (.inr ⟨_, rfl, OkO.int S k⟩)
  · obtain ⟨v, rfl, rv⟩ := r.one'
    simp only [RV] at rv
    subst rv
    split at k
    · rename_i n e
      split at k
      · rename_i hl
        exact .inr ⟨_, n, rfl, e, hl, OkO.int S k⟩
      · exact k.elim
    · exact k.elim
  · exact k.elim
/-- list(x), tuple(x) of a sequence -/
def opList : List D → O D
  | [x] => fun st => match seqOf x st with
    | some ds => newL ds st
    | none => none
  | _ => fun _ => none
def opTuple : List D → O D
  | [x] => fun st => match seqOf x st with
    | some ds => some (.tup ds, st)
    | none => none
  | _ => fun _ => none
theorem c_list (hK : X.K = G.K) : CallR X (.type "list") (rN G opList) := CallR_imp call_list_of fun vs H Q ⟨ms, st, ds, S, r, k⟩ => by
  unfold opList at k
  split at k
  · obtain ⟨v, rfl, rv⟩ := r.one'
    split at k
    · rename_i ds e
      obtain ⟨p, us, rfl, h1, h2⟩ := seq_ok S rv e
      exact ⟨p, us, rfl, by rw [hK]; exact h1, OkO.newL S h2 k⟩
    · exact k.elim
  · exact k.elim
theorem c_tuple (hK : X.K = G.K) : CallR X (.type "tuple") (rN G opTuple) := CallR_imp call_tuple_of fun vs H Q ⟨ms, st, ds, S, r, k⟩ => by
  unfold opTuple at k
  split at k
  · rename_i x
    obtain ⟨v, rfl, rv⟩ := r.one'
    split at k
    · rename_i ds e
      obtain ⟨p, us, rfl, h1, h2⟩ := seq_ok S rv e
      cases x with
      | tup es =>
        simp only [seqOf] at e
        cases e
        have rv0 := rv
        simp only [RV] at rv
        obtain ⟨a, ws, e2, h3, h4⟩ := rv
        cases e2
        exact ⟨p, ws, rfl, .inr ⟨by rw [hK]; exact h3.t, OkO.val S rv0 k⟩⟩
      | ref i =>
        simp only [seqOf] at e
        split at e
        · rename_i es e1
          cases e
          obtain ⟨a, ws, e2, _, h3, h4⟩ := S.ref e1 rv
          cases e2
          exact ⟨p, ws, rfl, .inl ⟨SqL.of h3, OkO.tup S h4 k⟩⟩
        · cases e
      | scr ns =>
        simp only [seqOf] at e
        cases e
        simp only [RV] at rv
        obtain ⟨a, e2, h3⟩ := rv
        cases e2
        exact ⟨p, _, rfl, .inl ⟨by rw [hK]; exact h3.l, OkO.tup S (RVs.ints ns) k⟩⟩
      | non => cases e
      | bl _ => cases e
      | int _ => cases e
      | str _ => cases e
      | glo _ => cases e
      | ty _ => cases e
      | xc => cases e
    · exact k.elim
  · exact k.elim
/-- all([..]), any([..]) of bools -/
def bools : List D → Option (List Bool)
  | [] => some []
  | .bl b :: ds => (bools ds).map (b :: ·)
  | _ => none
theorem bools_ok {ms : List Addr} : ∀ {ds : List D} {vs : List V} {bs : List Bool}, RVs G ms H ds vs → bools ds = some bs → vs = bs.map V.bl
  | [], vs, bs, r, e => by
    simp only [RVs] at r
    simp only [bools] at e
    cases e
    exact r
  | d :: ds, vs, bs, r, e => by
    simp only [RVs] at r
    obtain ⟨v, r', rfl, h1, h2⟩ := r
    cases d with
    | bl b =>
      simp only [RV] at h1
      simp only [bools] at e
      cases e1 : bools ds with
      | none => rw [e1] at e; cases e
      | some cs =>
        rw [e1] at e
        cases e
        rw [h1, bools_ok h2 e1]
        rfl
    | _ => simp only [bools] at e; cases e
def opAll : List D → O D
  | [.ref i] => fun st => match st[i]? with
    | some (.lst ds) => match bools ds with
      | some bs => some (.bl (bs.all id), st)
      | none => none
    | _ => none
  | _ => fun _ => none
def opAny : List D → O D
  | [.ref i] => fun st => match st[i]? with
    | some (.lst ds) => match bools ds with
      | some bs => some (.bl (bs.any id), st)
      | none => none
    | _ => none
  | _ => fun _ => none
theorem c_all (hc : X.calm = true) : CallR X (.builtin "all") (rN G opAll) := CallR_imp (cr_all hc) fun vs H Q ⟨ms, st, ds, S, r, k⟩ => by
  unfold opAll at k
  split at k
  · obtain ⟨v, rfl, rv⟩ := r.one'
    split at k
    · rename_i ds e
      split at k
      · rename_i bs e2
        obtain ⟨a, ws, rfl, _, h3, h4⟩ := S.ref e rv
        exact ⟨a, bs, rfl, SqL.of (by rw [h3, bools_ok h4 e2]), OkO.bl S k⟩
      · exact k.elim
    · exact k.elim
  · exact k.elim
theorem c_any (hc : X.calm = true) : CallR X (.builtin "any") (rN G opAny) := CallR_imp (cr_any hc) fun vs H Q ⟨ms, st, ds, S, r, k⟩ => by
  unfold opAny at k
  split at k
  · obtain ⟨v, rfl, rv⟩ := r.one'
    split at k
    · rename_i ds e
      split at k
      · rename_i bs e2
        obtain ⟨a, ws, rfl, _, h3, h4⟩ := S.ref e rv
        exact ⟨a, bs, rfl, SqL.of (by rw [h3, bools_ok h4 e2]), OkO.bl S k⟩
      · exact k.elim
    · exact k.elim
  · exact k.elim
/-- str(x) of an int, a text -/
def opStr : List D → O D
  | [.int i] => fun st => if i.natAbs.log2 < 1920 then some (.str (toString i), st) else none
  | [.str x] => fun st => some (.str x, st)
  | _ => fun _ => none
theorem c_str : CallR X (.type "str") (rN G opStr) := by
  intro pins s σ H xs us Q I rr hh
  obtain ⟨ms, st, ds, S, r, k⟩ := hh
  unfold opStr at k
  split at k
  · obtain ⟨v, rfl, rv⟩ := r.one'
    simp only [RV] at rv
    subst rv
    split at k
    · rename_i hl
      exact call_str_int pins s σ H _ us Q I rr ⟨_, rfl, hl, OkO.str S k⟩
    · exact k.elim
  · obtain ⟨v, rfl, rv⟩ := r.one'
    simp only [RV] at rv
    subst rv
    exact SkE.call_str_str pins s σ H _ us Q I rr ⟨_, rfl, OkO.str S k⟩
  · exact k.elim
end
end LF

set_option Elab.async false
set_option linter.all false
set_option maxRecDepth 100000
set_option maxHeartbeats 4000000
/-! The layer: methods, kinds, f-strings, fields, calls. -/
namespace LF
open PySem PySem.Spec PyProof.Rows L2
section
variable {G : Gx} {W : WX} {X : Cx} {σ : L2.St} {H : Hp}
/-! ### methods of built-in types -/
def tyOk (T : String) : D → Sto → Bool
  | .str _, _ => T == "str"
  | .ref i, st => T == "list" && match st[i]? with
    | some (.lst _) => true
    | _ => false
  | _, _ => false
theorem ty_ok {ms : List Addr} {st : Sto} (S : SRel G ms st H) {T : String} {x : D} {v : V} (r : RV G ms H x v) (h : tyOk T x st = true) : tyV G.K T v H := by
  cases x with
  | str _ =>
    simp only [RV] at r
    subst r
    simp only [tyOk, beq_iff_eq] at h
    exact h
  | ref i =>
    simp only [tyOk, Bool.and_eq_true, beq_iff_eq] at h
    obtain ⟨h1, h2⟩ := h
    split at h2
    · rename_i ds e
      obtain ⟨a, vs, rfl, _, h3, _⟩ := S.ref e r
      exact .inl ⟨h1, vs, SqL.of h3⟩
    · cases h2
  | non => cases h
  | bl _ => cases h
  | int _ => cases h
  | tup _ => cases h
  | glo _ => cases h
  | ty _ => cases h
  | scr _ => cases h
  | xc => cases h
def eMt (T : String) (op : D → List D → O D) (a : E) (as : List E) : E := fun env st => (a env st).bind fun x s => if tyOk T x s = true then (eArgs as env s).bind fun xs s' => ofO (op x xs s') else .bad
theorem e_mt {o e : Expr} {es : List Expr} {name : Str} {apos cpos : Pos} {T id : String} {op : D → List D → O D} {fo : E} {fs : List E} (hK : X.K = G.K) (pa : PlainAttrs T) (slot : Slot T name id) (hty : typeOf (.builtin id) = pure (.type "method_descriptor")) (hm : MtR X id (rM G op))
    (ho : PE X o (tE G W fo)) (ha : PA X (e :: es) (tA G W (eArgs fs)))
    (hbase : attributeBase o name X.env (eval o X.env) = eval o X.env := by rfl)
    (hfew : ((backTo cpos (starEach (e :: es) X.env)).all (fun x => !x.1) && (backToKw cpos (keywordEach [] X.env)).all (fun x => x.1.isSome)
      && decide ((e :: es).length + ([] : List Keyword).length + (if ([] : List Keyword).isEmpty then 0 else 1) < 30)) = true := by rfl)
    (hline : (apos.endLine == cpos.line) = true := by rfl) (hs : starEach (e :: es) X.env = (false, eval e X.env) :: starEach es X.env := by rfl) (hplain : (backTo cpos (starEach es X.env)).any (·.1) = false := by rfl) :
    PE X (.Call (.Attribute o name apos) (e :: es) [] cpos) (tE G W (eMt T op fo fs)) :=
  PE_weak (pe_bm pa slot hty hm ho ha hbase hfew hline hs hplain) fun σ H Q h => tX_mono (tX_bind h) fun v H1 ⟨ms, st, env, x, S, r, r1, k⟩ => by
    split at k
    · rename_i ht
      refine ⟨by rw [hK]; exact ty_ok S r1 ht, ms, st, env, S, r, Okk.bind k fun xs s vs m1 H2 g1 S1 r2 k1 => ⟨m1, s, x, xs, S1, RV.gr g1 _ _ r1, r2, k1.ofO⟩⟩
    · exact k.elim
theorem e_mt0 {o : Expr} {name : Str} {apos cpos : Pos} {T id : String} {op : D → List D → O D} {fo : E} (hK : X.K = G.K) (pa : PlainAttrs T) (slot : Slot T name id) (hty : typeOf (.builtin id) = pure (.type "method_descriptor")) (hm : MtR X id (rM G op)) (ho : PE X o (tE G W fo))
    (hbase : attributeBase o name X.env (eval o X.env) = eval o X.env := by rfl) (hline : (apos.endLine == cpos.line) = true := by rfl) : PE X (.Call (.Attribute o name apos) [] [] cpos) (tE G W (eMt T op fo [])) :=
  PE_weak (pe_bm0 pa slot hty hm ho hbase hline) fun σ H Q h => tX_mono (tX_bind h) fun v H1 ⟨ms, st, env, x, S, r, r1, k⟩ => by
    split at k
    · rename_i ht
      have k : Okk (RV G) G (fun c d H => W c d σ H) Q ms H1 (ofO (op x [] st)) := k
      exact ⟨by rw [hK]; exact ty_ok S r1 ht, ms, st, x, [], S, r1, by simp only [RVs], k.ofO⟩
    · exact k.elim
/-! lists -/
def opAppend (x : D) (xs : List D) : O D := fun st => match x, xs with
  | .ref i, [y] => match st[i]? with
    | some (.lst ds) => if ds.length < LIM then some (.non, st.set i (.lst (ds ++ [y]))) else none
    | _ => none
  | _, _ => none
theorem OkO.put {Q : VK} {ms : List Addr} {st : Sto} {i : Nat} {a : Addr} {ds : List D} {vs : List V} {d : D} {v : V} (S : SRel G ms st H) (hi : ms[i]? = some a) (r : RVs G ms H ds vs) (rd : RV G ms H d v) (h : OkO (RV G) G Q ms H (some (d, st.set i (.lst ds)))) : Q v (upd H a (.lst vs)) := by
  obtain ⟨c, _, hc⟩ := S.has hi
  have g : Gr ms H ms (upd H a (.lst vs)) := Gr.cell hc
  exact h v ms _ g (S.put hi ⟨vs, upd_same, RVs.gr g _ _ r⟩) (RV.gr g _ _ rd)
theorem m_append : MtR X "list.append" (rM G opAppend) := MtR_imp mt_append fun v vs H Q ⟨ms, st, x, ds, S, rx, rs, k⟩ => by
  unfold opAppend at k
  split at k
  · obtain ⟨u, rfl, ru⟩ := rs.one'
    split at k
    · rename_i es e
      obtain ⟨a, ws, rfl, ha, h1, h2⟩ := S.ref e rx
      split at k
      · rename_i hl
        exact ⟨a, ws, u, rfl, rfl, h1, by rw [h2.length]; exact LIM_lt hl, OkO.put S ha (h2.app (.one ru)) (by simp only [RV]) k⟩
      · exact k.elim
    · exact k.elim
  · exact k.elim
def opExtend (x : D) (xs : List D) : O D := fun st => match x, xs with
  | .ref i, [.ref j] => match st[i]?, st[j]? with
    | some (.lst ds), some (.lst es) => if ds.length + es.length ≤ LIM then some (.non, st.set i (.lst (ds ++ es))) else none
    | _, _ => none
  | _, _ => none
theorem m_extend : MtR X "list.extend" (rM G opExtend) := MtR_imp mt_extend fun v vs H Q ⟨ms, st, x, ds, S, rx, rs, k⟩ => by
  unfold opExtend at k
  split at k
  · obtain ⟨u, rfl, ru⟩ := rs.one'
    split at k
    · rename_i es fs e1 e2
      obtain ⟨a, ws, rfl, ha, h1, h2⟩ := S.ref e1 rx
      obtain ⟨b, us, rfl, _, h3, h4⟩ := S.ref e2 ru
      split at k
      · rename_i hl
        exact ⟨a, b, ws, us, rfl, rfl, h1, h3, by rw [h2.length, h4.length]; exact LIM_le hl, OkO.put S ha (h2.app h4) (by simp only [RV]) k⟩
      · exact k.elim
    · exact k.elim
  · exact k.elim
def opPop (x : D) (xs : List D) : O D := fun st => match x, xs with
  | .ref i, [] => match st[i]? with
    | some (.lst ds) => match ds[ds.length - 1]? with
      | some d => some (d, st.set i (.lst ds.dropLast))
      | none => none
    | _ => none
  | _, _ => none
theorem RVs.dropLast {ms : List Addr} {ds : List D} {vs : List V} (h : RVs G ms H ds vs) : RVs G ms H ds.dropLast vs.dropLast := by
  rw [List.dropLast_eq_take, List.dropLast_eq_take, h.length]
  exact h.take _
theorem m_pop : MtR X "list.pop" (rM G opPop) := MtR_imp mt_pop fun v vs H Q ⟨ms, st, x, ds, S, rx, rs, k⟩ => by
  unfold opPop at k
  split at k
  · simp only [RVs] at rs
    subst rs
    split at k
    · rename_i es e
      obtain ⟨a, ws, rfl, ha, h1, h2⟩ := S.ref e rx
      split at k
      · rename_i d e2
        obtain ⟨y, h3, h4⟩ := h2.at e2
        exact ⟨a, ws, y, rfl, rfl, h1, by rw [h2.length]; exact h3, OkO.put S ha h2.dropLast h4 k⟩
      · exact k.elim
    · exact k.elim
  · exact k.elim
/-! texts -/
def strsOf : List D → Option (List Str)
  | [] => some []
  | .str x :: ds => (strsOf ds).map (x :: ·)
  | _ => none
theorem strs_ok {ms : List Addr} : ∀ {ds : List D} {vs : List V} {bs : List Str}, RVs G ms H ds vs → strsOf ds = some bs → vs = bs.map V.str
  | [], vs, bs, r, e => by
    simp only [RVs] at r
    simp only [strsOf] at e
    cases e
    exact r
  | d :: ds, vs, bs, r, e => by
    simp only [RVs] at r
    obtain ⟨v, r', rfl, h1, h2⟩ := r
    cases d with
    | str b =>
      simp only [RV] at h1
      simp only [strsOf] at e
      cases e1 : strsOf ds with
      | none => rw [e1] at e; cases e
      | some cs =>
        rw [e1] at e
        cases e
        rw [h1, strs_ok h2 e1]
        rfl
    | _ => simp only [strsOf] at e; cases e
def opJoin (x : D) (xs : List D) : O D := fun st => match x, xs with
  | .str a, [y] => match seqOf y st with
    | some ds => match strsOf ds with
      | some ys => if (ys.map (·.length)).sum + ys.length * a.length ≤ LIM then some (.str (Txt.join a ys), st) else none
      | none => none
    | none => none
  | _, _ => none
theorem m_join (hK : X.K = G.K) : MtR X "str.join" (rM G opJoin) := MtR_imp mt_join fun v vs H Q ⟨ms, st, x, ds, S, rx, rs, k⟩ => by
  unfold opJoin at k
  split at k
  · simp only [RV] at rx
    subst rx
    obtain ⟨u, rfl, ru⟩ := rs.one'
    split at k
    · rename_i es e
      split at k
      · rename_i ys e2
        split at k
        · rename_i hl
          obtain ⟨p, us, rfl, h1, h2⟩ := seq_ok S ru e
          have h3 := strs_ok h2 e2
          subst h3
          exact ⟨_, p, ys, rfl, rfl, by rw [hK]; exact h1, Nat.le_trans hl (by decide), OkO.str S k⟩
        · exact k.elim
      · exact k.elim
    · exact k.elim
  · exact k.elim
def opSplit (x : D) (xs : List D) : O D := fun st => match x, xs with
  | .str a, [.str b] => if (b.length == 0) = false ∧ a.length + 2 ≤ LIM then newL ((Txt.split a b).map D.str) st else none
  | _, _ => none
theorem RVs.strs {ms : List Addr} : ∀ ys : List Str, RVs G ms H (ys.map D.str) (ys.map V.str)
  | [] => by simp [RVs]
  | y :: ys => by
    simp only [List.map_cons, RVs]
    exact ⟨_, _, rfl, by simp only [RV], RVs.strs ys⟩
theorem m_split : MtR X "str.split" (rM G opSplit) := MtR_imp mt_split fun v vs H Q ⟨ms, st, x, ds, S, rx, rs, k⟩ => by
  unfold opSplit at k
  split at k
  · simp only [RV] at rx
    subst rx
    obtain ⟨u, rfl, ru⟩ := rs.one'
    simp only [RV] at ru
    subst ru
    split at k
    · rename_i hl
      exact ⟨_, _, rfl, rfl, hl.1, LIM_le hl.2, OkO.newL S (RVs.strs _) k⟩
    · exact k.elim
  · exact k.elim
def opStrip (x : D) (xs : List D) : O D := fun st => match x, xs with
  | .str a, [.str b] => if a.length ≤ LIM then some (.str (Txt.stripChars a b), st) else none
  | _, _ => none
theorem m_strip : MtR X "str.strip" (rM G opStrip) := MtR_imp mt_stripChars fun v vs H Q ⟨ms, st, x, ds, S, rx, rs, k⟩ => by
  unfold opStrip at k
  split at k
  · simp only [RV] at rx
    subst rx
    obtain ⟨u, rfl, ru⟩ := rs.one'
    simp only [RV] at ru
    subst ru
    split at k
    · rename_i hl
      exact ⟨_, _, rfl, rfl, LIM_le hl, OkO.str S k⟩
    · exact k.elim
  · exact k.elim

/-! ### kinds, isinstance -/
inductive Kd where
  | non | bl | int | str | tup | lst | ins (c : Nat) | dct
def kind : D → Sto → Option Kd
  | .non, _ => some .non
  | .bl _, _ => some .bl
  | .int _, _ => some .int
  | .str _, _ => some .str
  | .tup _, _ => some .tup
  | .ref i, st => match st[i]? with
    | some (.lst _) => some .lst
    | some (.ins c _) => some (.ins c)
    | some (.dct []) => some .dct
    | some (.dct _) => none
    | some (.exn _ _) => none
    | some (.dtx _ _) => none
    | none => none
  | .scr _, _ => some .lst
  | _, _ => none
/-- what the written part must say of a class whose instances are asked -/
structure InsOk (K : PySem.W.Frag) (C : Addr) : Prop where
  cl : Cls K C
  ha : PySem.W.findIn K (.ref C) "__class__" = some (some (.builtin "object.__class__"))
  hn : PySem.W.specialIn K (.builtin "object.__class__") "__get__" = some (some (.builtin "getset_descriptor.__get__"))
  htk : PySem.W.takesIn K (.builtin "object.__class__") = some true
  hm : PySem.W.mroIn K C (.type "object") = some true
/-- a kind's type -/
def KdT (G : Gx) : Kd → Value → Prop
  | .non, t => t = .type "NoneType"
  | .bl, t => t = .type "bool"
  | .int, t => t = .type "int"
  | .str, t => t = .type "str"
  | .tup, t => t = .type "tuple"
  | .lst, t => t = .type "list"
  | .ins c, t => InsOk G.K (G.tb c) ∧ t = .ref (G.tb c)
  | .dct, t => t = .type "dict"
theorem SRel.ins {ms : List Addr} {st : Sto} (S : SRel G ms st H) {i : Nat} {c : Nat} {fs : List (String × D)} {v : V} (h : st[i]? = some (.ins c fs)) (r : RV G ms H (.ref i) v) : ∃ a dx gs, v = .ref a ∧ ms[i]? = some a ∧ H a = some (.ins (G.tb c) dx gs) ∧ RF G ms H fs gs := by
  simp only [RV] at r
  obtain ⟨a, rfl, ha⟩ := r
  obtain ⟨d, h1, h2⟩ := S.has ha
  rw [h] at h1
  cases h1
  obtain ⟨dx, gs, h3, h4⟩ := h2
  exact ⟨a, dx, gs, rfl, ha, h3, h4⟩
theorem kd_ok {ms : List Addr} {st : Sto} (S : SRel G ms st H) {x : D} {v : V} {k : Kd} {t : Value} (r : RV G ms H x v) (h : kind x st = some k) (ht : KdT G k t) : TyX G.K H v t := by
  cases x with
  | non => simp only [kind] at h; cases h; simp only [RV] at r; subst r; cases ht; exact .base .non
  | bl _ => simp only [kind] at h; cases h; simp only [RV] at r; subst r; cases ht; exact .base (.bl _)
  | int _ => simp only [kind] at h; cases h; simp only [RV] at r; subst r; cases ht; exact .base (.int _)
  | str _ => simp only [kind] at h; cases h; simp only [RV] at r; subst r; cases ht; exact .base (.str _)
  | tup ds =>
    simp only [kind] at h
    cases h
    simp only [RV] at r
    obtain ⟨a, vs, rfl, h1, _⟩ := r
    cases ht
    rcases h1 with h1 | ⟨o, its, n, h2, h3, _⟩
    · exact .base (.tup h1)
    · exact .kTuple h2 h3
  | ref i =>
    simp only [kind] at h
    split at h
    · rename_i ds e
      cases h
      obtain ⟨a, vs, rfl, _, h1, _⟩ := S.ref e r
      cases ht
      exact .base (.lst h1)
    · rename_i c fs e
      cases h
      obtain ⟨a, dx, gs, rfl, _, h1, _⟩ := S.ins e r
      obtain ⟨q, rfl⟩ := ht
      exact .base (.ins h1 q.cl q.ha q.hn q.htk q.hm)
    · rename_i e
      cases h
      simp only [RV] at r
      obtain ⟨a, rfl, ha⟩ := r
      obtain ⟨d, h1, h2⟩ := S.has ha
      rw [e] at h1
      cases h1
      cases ht
      rcases h2 with ⟨l, h2, _⟩ | ⟨h0, _⟩
      · exact .base (.dK h2)
      · exact (h0 rfl).elim
    · cases h
    · cases h
    · cases h
    · cases h
  | scr ns =>
    simp only [kind] at h
    cases h
    simp only [RV] at r
    obtain ⟨a, rfl, h1⟩ := r
    cases ht
    rcases h1 with ⟨o, h1⟩ | ⟨o, its, n, h2, h3, _⟩
    · exact .base (.frz h1)
    · exact .kList h2 h3
  | glo _ => cases h
  | ty _ => cases h
  | xc => cases h
/-- isinstance(x, T): T one class; ans: what is known of the kinds -/
inductive TC where
  | ty (n : String) | glo (n : Nat)
def TC.d : TC → D
  | .ty n => .ty n
  | .glo n => .glo n
def TC.val (G : Gx) : TC → Value
  | .ty n => .type n
  | .glo n => .ref (G.tb n)
def isTC : TC → D → Bool
  | .ty n, .ty m => n == m
  | .glo n, .glo m => n == m
  | _, _ => false
theorem isTC_eq {t : TC} {d : D} (h : isTC t d = true) : d = t.d := by
  cases t <;> cases d <;> simp only [isTC, beq_iff_eq] at h <;> (first | (cases h; done) | (subst h; rfl))
def opIsi (t : TC) (ans : Kd → Option Bool) : List D → O D
  | [x, c] => fun st => if isTC t c = true then match kind x st with
      | some k => match ans k with
        | some b => some (.bl b, st)
        | none => none
      | none => none
    else none
  | _ => fun _ => none
theorem c_isi (hK : X.K = G.K) {t : TC} {ans : Kd → Option Bool} (h : ∀ k b, ans k = some b → ∃ u, KdT G k u ∧ PySem.W.kitOne G.K u (t.val G) = some b) : CallR X (.builtin "isinstance") (rN G (opIsi t ans)) := CallR_imp call_isi fun vs H Q ⟨ms, st, ds, S, r, k⟩ => by
  unfold opIsi at k
  split at k
  · obtain ⟨v, u, rfl, rv, ru⟩ := r.two'
    split at k
    · rename_i ht
      split at k
      · rename_i kd e
        split at k
        · rename_i b e2
          obtain ⟨w, h1, h2⟩ := h kd b e2
          refine ⟨v, u, w, t.val G, b, rfl, ?_, by rw [hK]; exact kd_ok S rv e h1, by rw [hK]; exact h2, OkO.bl S k⟩
          rw [isTC_eq ht] at ru
          cases t with
          | ty n =>
            simp only [TC.d, RV] at ru
            subst ru
            exact .ty n
          | glo n =>
            simp only [TC.d, RV] at ru
            subst ru
            exact .own _
        · exact k.elim
      · exact k.elim
    · exact k.elim
  · exact k.elim
/-- the usual answers -/
def ansTy (n : String) : Kd → Option Bool
  | .non => some (n == "NoneType" || n == "object")
  | .bl => some (n == "bool" || n == "int" || n == "object")
  | .int => some (n == "int" || n == "object")
  | .str => some (n == "str" || n == "object")
  | .tup => some (n == "tuple" || n == "object")
  | .lst => some (n == "list" || n == "object")
  | .dct => some (n == "dict" || n == "object")
  | .ins _ => none
theorem isi_ty (hK : X.K = G.K) {n : String} (h : n = "int" ∨ n = "bool" ∨ n = "str" ∨ n = "tuple" ∨ n = "list") : CallR X (.builtin "isinstance") (rN G (opIsi (.ty n) (ansTy n))) := c_isi hK fun k b e => by
  cases k with
  | ins c => cases e
  | non => simp only [ansTy] at e; cases e; exact ⟨_, rfl, by rcases h with rfl | rfl | rfl | rfl | rfl <;> exact kit_ty (by decide +kernel)⟩
  | bl => simp only [ansTy] at e; cases e; exact ⟨_, rfl, by rcases h with rfl | rfl | rfl | rfl | rfl <;> exact kit_ty (by decide +kernel)⟩
  | int => simp only [ansTy] at e; cases e; exact ⟨_, rfl, by rcases h with rfl | rfl | rfl | rfl | rfl <;> exact kit_ty (by decide +kernel)⟩
  | str => simp only [ansTy] at e; cases e; exact ⟨_, rfl, by rcases h with rfl | rfl | rfl | rfl | rfl <;> exact kit_ty (by decide +kernel)⟩
  | tup => simp only [ansTy] at e; cases e; exact ⟨_, rfl, by rcases h with rfl | rfl | rfl | rfl | rfl <;> exact kit_ty (by decide +kernel)⟩
  | lst => simp only [ansTy] at e; cases e; exact ⟨_, rfl, by rcases h with rfl | rfl | rfl | rfl | rfl <;> exact kit_ty (by decide +kernel)⟩
  | dct => simp only [ansTy] at e; cases e; exact ⟨_, rfl, by rcases h with rfl | rfl | rfl | rfl | rfl <;> exact kit_ty (by decide +kernel)⟩
/-- a built-in type's name as a value -/
theorem e_ty {x : Str} {n : String} {pos : Pos} (hg : Gl X x) (hm : X.mg x = none) (hv : bootBuiltins x = some (.type n)) (hn : x ≠ "__name__" := by decide) (hd : (x == ("__debug__" : Str)) = false := by decide) : PE X (.Name x pos) (tE G W (eC (.ty n))) :=
  e_c (pe_bltn (v := .ty n) hg hm hv rfl hn hd) fun _ _ => by simp only [RV]

/-! ### f-strings -/
def eFmt (a : E) : E := fun env st => (a env st).bind fun x s => match x with
  | .str y => if y.length ≤ LIM then .ok (.str y) s else .bad
  | .int i => if i.natAbs.log2 < 1920 then .ok (.str (toString i)) s else .bad
  | _ => .bad
theorem e_fmt {e : Expr} {fe : E} {pos : Pos} (he : PE X e (tE G W fe)) : PE X (.FormattedValue e (-1) none pos) (tE G W (eFmt fe)) :=
  PE_weak (pe_fmt he) fun σ H Q h => tX_mono (tX_bind h) fun v H1 ⟨ms, st, env, x, S, r, r1, k⟩ => by
    cases x with
    | str y =>
      simp only [RV] at r1
      simp only at k
      split at k
      · rename_i hl
        exact .inl ⟨y, r1, LIM_le hl, k (.str y) ms H1 Gr.refl S (by simp only [RV])⟩
      · exact k.elim
    | int i =>
      simp only [RV] at r1
      simp only at k
      split at k
      · rename_i hl
        exact .inr ⟨i, r1, hl, k _ ms H1 Gr.refl S (by simp only [RV])⟩
      · exact k.elim
    | _ => exact k.elim
def eJoin : List E → Str → E
  | [], acc => fun _ st => .ok (.str acc) st
  | a :: as, acc => fun env st => (a env st).bind fun x s => match x with
    | .str y => if (acc ++ y).length ≤ LIM then eJoin as (acc ++ y) env s else .bad
    | _ => .bad
theorem join_tJs : ∀ (fs : List E) (acc : Str) (H : Hp) (Q : VK), tE G W (eJoin fs acc) σ H Q → tJs (fs.map (tE G W)) acc σ H fun out H1 => Q (.str out) H1
  | [], acc, H, Q, ⟨ms, st, env, S, r, k⟩ => k (.str acc) ms H Gr.refl S (by simp only [RV])
  | f :: fs, acc, H, Q, h => tX_mono (tX_bind h) fun v H1 ⟨ms, st, env, x, S, r, r1, k⟩ => by
    cases x with
    | str y =>
      simp only [RV] at r1
      simp only at k
      split at k
      · rename_i hl
        exact ⟨y, r1, LIM_le hl, join_tJs fs _ H1 Q ⟨ms, st, env, S, r, k⟩⟩
      · exact k.elim
    | _ => exact k.elim
theorem e_joined {v1 v2 : Expr} {rest : List Expr} {fs : List E} {pos : Pos} (h : PJ X (v1 :: v2 :: rest) (fs.map (tE G W))) : PE X (.JoinedStr (v1 :: v2 :: rest) pos) (tE G W (eJoin fs Str.empty)) :=
  PE_weak (pe_joined h) fun σ H Q q => join_tJs fs _ H Q q

/-! ### fields -/
theorem ofString_inj {a b : String} (h : Str.ofString a = Str.ofString b) : a = b := by
  unfold Str.ofString at h
  rw [cpsOfBytes_string, cpsOfBytes_string] at h
  have h1 : a.toList.map Char.toNat = b.toList.map Char.toNat := by simpa using h
  have h2 : a.toList = b.toList := by
    have inj : ∀ (l m : List Char), l.map Char.toNat = m.map Char.toNat → l = m := by
      intro l
      induction l with
      | nil => intro m e; cases m with
        | nil => rfl
        | cons _ _ => simp at e
      | cons c l ih =>
        intro m e
        cases m with
        | nil => simp at e
        | cons d m =>
          simp only [List.map_cons, List.cons.injEq] at e
          rw [ih m e.2]
          have : c = d := Char.ext (UInt32.toNat_inj.mp e.1)
          rw [this]
    exact inj _ _ h1
  exact String.toList_inj.mp h2
theorem RF.look {ms : List Addr} {f : String} {d : D} : ∀ {fs : List (String × D)} {gs : List (Str × V)}, RF G ms H fs gs → fs.lookup f = some d → ∃ v, gs.lookup (Str.ofString f) = some v ∧ RV G ms H d v
  | [], _, _, e => by cases e
  | p :: fs, _, ⟨v, r, rfl, h1, h2⟩, e => by
    obtain ⟨g, x⟩ := p
    by_cases hg : f = g
    · subst hg
      simp only [List.lookup, beq_self_eq_true] at e ⊢
      cases e
      exact ⟨v, rfl, h1⟩
    · have h3 : (f == g) = false := by simpa using hg
      have h4 : (Str.ofString f == Str.ofString g) = false := beq_eq_false_iff_ne.mpr fun z => hg (ofString_inj z)
      simp only [List.lookup, h3] at e
      simp only [List.lookup, h4]
      exact RF.look h2 e
theorem RF.lookN {ms : List Addr} {f : String} : ∀ {fs : List (String × D)} {gs : List (Str × V)}, RF G ms H fs gs → fs.lookup f = none → gs.lookup (Str.ofString f) = none
  | [], _, h, _ => by
    rw [show _ = _ from h]
    rfl
  | p :: fs, _, ⟨v, r, rfl, h1, h2⟩, e => by
    obtain ⟨g, x⟩ := p
    by_cases hg : f = g
    · subst hg
      simp only [List.lookup, beq_self_eq_true] at e
      cases e
    · have h3 : (f == g) = false := by simpa using hg
      have h4 : (Str.ofString f == Str.ofString g) = false := beq_eq_false_iff_ne.mpr fun z => hg (ofString_inj z)
      simp only [List.lookup, h3] at e
      simp only [List.lookup, h4]
      exact RF.lookN h2 e
def putD (f : String) (d : D) : List (String × D) → List (String × D)
  | [] => [(f, d)]
  | (g, x) :: r => if g = f then (g, d) :: r else (g, x) :: putD f d r
theorem RF.put {ms : List Addr} {f : String} {d : D} {v : V} (k : RV G ms H d v) : ∀ {fs : List (String × D)} {gs : List (Str × V)}, RF G ms H fs gs → RF G ms H (putD f d fs) (putF (Str.ofString f) v gs)
  | [], _, h => by
    rw [show _ = _ from h]
    exact ⟨v, [], rfl, k, rfl⟩
  | p :: fs, _, ⟨u, r, rfl, h1, h2⟩ => by
    obtain ⟨g, x⟩ := p
    by_cases hg : g = f
    · subst hg
      simp only [putD, putF, if_true]
      exact ⟨v, r, rfl, k, h2⟩
    · have h3 : ¬ Str.ofString g = Str.ofString f := fun z => hg (ofString_inj z)
      simp only [putD, putF, if_neg hg, if_neg h3]
      exact ⟨u, _, rfl, h1, RF.put k h2⟩
theorem RF.len {ms : List Addr} : ∀ {fs : List (String × D)} {gs : List (Str × V)}, RF G ms H fs gs → gs.length = fs.length
  | [], _, h => by
    rw [show _ = _ from h]
    rfl
  | p :: fs, _, ⟨u, r, rfl, h1, h2⟩ => by rw [List.length_cons, List.length_cons, RF.len h2]
/-- the field f of an instance of a class in P -/
def opFld (P : Nat → Bool) (f : String) (x : D) : O D := fun st => match x with
  | .ref i => match st[i]? with
    | some (.ins c fs) => if P c = true then match fs.lookup f with
        | some d => some (d, st)
        | none => none
      else none
    | _ => none
  | _ => none
theorem e_fld {e : Expr} {f : String} {fs : Str} {pos : Pos} {P : Nat → Bool} {fe : E} (hK : X.K = G.K) (hP : ∀ c, P c = true → Cls G.K (G.tb c) ∧ NoAttr G.K (G.tb c) fs) (hf : fs = Str.ofString f) (he : PE X e (tE G W fe)) (hb : attributeBase e fs X.env (eval e X.env) = eval e X.env := by rfl) :
    PE X (.Attribute e fs pos) (tE G W (eUn (opFld P f) fe)) := PE_weak (pe_fld he hb) fun σ H Q h => tX_mono (tX_bind h) fun v H1 ⟨ms, st, env, x, S, r, r1, k⟩ => by
  have k := k.ofO
  unfold opFld at k
  split at k
  · split at k
    · rename_i c gs e
      split at k
      · rename_i hc
        split at k
        · rename_i d e2
          obtain ⟨a, dx, hs, rfl, _, h1, h2⟩ := S.ins e r1
          obtain ⟨w, h3, h4⟩ := h2.look e2
          obtain ⟨p1, p2⟩ := hP c hc
          exact ⟨a, _, dx, hs, w, rfl, h1, by rw [hK]; exact p1, by rw [hK]; exact p2, by rw [hf]; exact h3, OkO.val S h4 k⟩
        · exact k.elim
      · exact k.elim
    · exact k.elim
  · exact k.elim

/-! ### calls of defs -/
abbrev F := List D → M D
def spF (G : Gx) (g : F) : Sp := fun vs H Q E => ∃ ms st ds, SRel G ms st H ∧ RVs G ms H ds vs ∧ Okk (RV G) G (fun c d H => E c d H) Q ms H (g ds st)
def eCall (g : F) (as : List E) : E := fun env st => (eArgs as env st).bind g
theorem call_tCall {g : F} {fs : List E} {Q : VK} (h : tE G W (eCall g fs) σ H Q) : tCallS (spF G g) (WE W) (tA G W (eArgs fs)) σ H Q :=
  tX_mono (tX_bind (R := RVs G) h) fun vs H1 ⟨ms, st, env, ds, S, r, r1, k⟩ => ⟨ms, st, ds, S, r1, k⟩
theorem e_call {k j : Nat} {f : Addr} {fd : FuncData} {ps : List Str} {x : Str} {p pos : Pos} {e : Expr} {es : List Expr} {g : F} {fs : List E} (T : FnOk X.prog X.w X.K X.mg X.base (L2.CX X.prog X.w) j f fd ps (spF G g)) (hr : Room k X.A) (hm : X.mg x = some (.ref f)) (hk : PySem.W.keepIn X.K (.ref f) = true)
    (hb : Binds X.K fd ps []) (tk : Takes X W) (ha : PA X (e :: es) (tA G W (eArgs fs))) (hj : j ≤ k := by decide) (hg : Gl X x := by rfl) (hdb : (x == ("__debug__" : Str)) = false := by decide)
    (he : starEach (e :: es) X.env = (false, eval e X.env) :: starEach es X.env := by rfl) (hpl : (backTo pos (starEach es X.env)).any (·.1) = false := by rfl) :
    PE X (.Call (.Name x p) (e :: es) [] pos) (tE G W (eCall g fs)) :=
  PE_weak (pe_callS (E := WE W) T (hr.mono hj) hg hm hk hb (fun σ => passAt tk σ) ha hdb he hpl) fun _ _ _ h => call_tCall h
/-- o.m(..) -/
def eMeth (c : Nat) (m : String) (g : F) (a : E) (as : List E) : E := fun env st => (a env st).bind fun x s => match x with
  | .ref i => match s[i]? with
    | some (.ins c' fs) => if c' = c ∧ fs.lookup m = none then (eArgs as env s).bind fun xs s' => g (.ref i :: xs) s' else .bad
    | _ => .bad
  | _ => .bad
def tMethS (C : Addr) (m : Str) (sp : Sp) (E : L2.St → XK) (ta : TE) (t : TA) : TE := fun σ H Q => ta σ H fun x H1 => ∃ a dx fs, x = .ref a ∧ H1 a = some (.ins C dx fs) ∧ fs.lookup m = none ∧ t σ H1 fun vs H2 => sp (x :: vs) H2 Q (E σ)
theorem pe_methS {k : Nat} {f C : Addr} {fd : FuncData} {ps : List Str} {sp : Sp} {E : L2.St → XK} {m : Str} {pos apos : Pos} {e o : Expr} {es : List Expr} {ta : TE} {t : TA} {pl : Sem Bool} (he : PE X o ta) (c : Cls X.K C) (hm : Meth X.K C m f) (F : FnOk X.prog X.w X.K X.mg X.base (L2.CX X.prog X.w) k f fd ps sp) (hr : Room k X.A)
    (hb : Binds X.K fd ps []) (hx : ∀ σ, PassesAt (L2.CX X.prog X.w) X σ (E σ)) (ha : PA X (e :: es) t)
    (hst : starEach (e :: es) X.env = (false, eval e X.env) :: starEach es X.env := by rfl) (hpl : (backTo pos (starEach es X.env)).any (·.1) = false := by rfl)
    (ht : eval (.Call (.Attribute o m apos) (e :: es) [] pos) X.env = (do
      let ov ← eval o X.env
      standAt apos.atName
      let (f, first) ← holding [ov] (getMethod ov m pl)
      callWith pos f first (backTo pos (starEach (e :: es) X.env)) (backToKw pos (keywordEach [] X.env))) := by rfl) :
    PE X (.Call (.Attribute o m apos) (e :: es) [] pos) (tMethS C m sp E ta t) := by
  refine ⟨fun pins s σ H Q I h => ?_⟩
  refine PySem.W.methodCall_KW (pl := pl) (thn (he.run pins s σ H _ I h) fun u s1 ⟨x, H1, I1, rx, a, dx, fs, ex, ea, l, q⟩ => ?_) ht
  subst ex
  obtain rfl : u = Value.ref a := rx
  refine getmeth_ok I1 ea c hm l ?_
  refine PySem.W.callWith_K (first := [.ref a]) (h₀ := X.base) I.ok.mod.kin hm.kp (thn (ha.run pos pins s1 σ H1 _ I1 q) fun us s2 ⟨vs, H2, I2, r, q2⟩ => ⟨I2.kIn, ?_⟩) hst hpl
  exact run_fnS (us := .ref a :: us) (vs := .ref a :: vs) F hr hb (hx σ) I2 (.cons rfl r) q2
theorem pe_methS0 {k : Nat} {f C : Addr} {fd : FuncData} {ps : List Str} {sp : Sp} {E : L2.St → XK} {m : Str} {pos apos : Pos} {o : Expr} {ta : TE} {pl : Sem Bool} (he : PE X o ta) (c : Cls X.K C) (hm : Meth X.K C m f) (F : FnOk X.prog X.w X.K X.mg X.base (L2.CX X.prog X.w) k f fd ps sp) (hr : Room k X.A)
    (hb : Binds X.K fd ps []) (hx : ∀ σ, PassesAt (L2.CX X.prog X.w) X σ (E σ))
    (ht : eval (.Call (.Attribute o m apos) [] [] pos) X.env = (do
      let ov ← eval o X.env
      standAt apos.atName
      let (f, first) ← holding [ov] (getMethod ov m pl)
      callWith pos f first (backTo pos (starEach [] X.env)) (backToKw pos (keywordEach [] X.env))) := by rfl) :
    PE X (.Call (.Attribute o m apos) [] [] pos) (tMethS C m sp E ta tNil) := by
  refine ⟨fun pins s σ H Q I h => ?_⟩
  refine PySem.W.methodCall_KW (pl := pl) (thn (he.run pins s σ H _ I h) fun u s1 ⟨x, H1, I1, rx, a, dx, fs, ex, ea, l, q⟩ => ?_) ht
  subst ex
  obtain rfl : u = Value.ref a := rx
  refine getmeth_ok I1 ea c hm l ?_
  exact PySem.W.callWith_K0 (first := [.ref a]) I1.kIn hm.kp (run_fnS (us := [.ref a]) (vs := [.ref a]) F hr hb (hx σ) I1 (.cons rfl .nil) q)
theorem meth_tMeth {c : Nat} {m : String} {g : F} {fa : E} {fs : List E} {Q : VK} (h : tE G W (eMeth c m g fa fs) σ H Q) : tMethS (G.tb c) (Str.ofString m) (spF G g) (WE W) (tE G W fa) (tA G W (eArgs fs)) σ H Q :=
  tX_mono (tX_bind h) fun v H1 ⟨ms, st, env, x, S, r, r1, k⟩ => by
    split at k
    · split at k
      · rename_i c' fs' e
        split at k
        · rename_i hc
          obtain ⟨rfl, hl⟩ := hc
          have r1' := r1
          obtain ⟨a, dx, gs, rfl, _, h1, h2⟩ := S.ins e r1
          exact ⟨a, dx, gs, rfl, h1, h2.lookN hl, ms, st, env, S, r, Okk.bind k fun xs s vs m1 H2 g1 S1 r2 k1 => ⟨m1, s, _, S1, by
            simp only [RVs]
            exact ⟨.ref a, vs, rfl, RV.gr g1 _ _ r1', r2⟩, k1⟩⟩
        · exact k.elim
      · exact k.elim
    · exact k.elim
theorem e_meth {k j : Nat} {f : Addr} {fd : FuncData} {ps : List Str} {c : Nat} {m : String} {mS : Str} {pos apos : Pos} {e o : Expr} {es : List Expr} {g : F} {fa : E} {fs : List E} {pl : Sem Bool} (hmS : mS = Str.ofString m) (he : PE X o (tE G W fa)) (hc : Cls X.K (G.tb c)) (hm : Meth X.K (G.tb c) mS f)
    (T : FnOk X.prog X.w X.K X.mg X.base (L2.CX X.prog X.w) j f fd ps (spF G g)) (hr : Room k X.A) (hb : Binds X.K fd ps []) (tk : Takes X W) (ha : PA X (e :: es) (tA G W (eArgs fs))) (hj : j ≤ k := by decide)
    (hst : starEach (e :: es) X.env = (false, eval e X.env) :: starEach es X.env := by rfl) (hpl : (backTo pos (starEach es X.env)).any (·.1) = false := by rfl)
    (ht : eval (.Call (.Attribute o mS apos) (e :: es) [] pos) X.env = (do
      let ov ← eval o X.env
      standAt apos.atName
      let (f, first) ← holding [ov] (getMethod ov mS pl)
      callWith pos f first (backTo pos (starEach (e :: es) X.env)) (backToKw pos (keywordEach [] X.env))) := by rfl) :
    PE X (.Call (.Attribute o mS apos) (e :: es) [] pos) (tE G W (eMeth c m g fa fs)) := PE_weak (pe_methS (E := WE W) he hc hm T (hr.mono hj) hb (fun σ => passAt tk σ) ha hst hpl ht) fun σ H Q h => by
  rw [hmS]
  exact meth_tMeth h
/-- C(..) -/
def eMake (c : Nat) (g : F) (as : List E) : E := fun env st => (eArgs as env st).bind fun xs s => (g (.ref s.length :: xs) (s ++ [.ins c []])).bind fun r s' => match r with
  | .non => .ok (.ref s.length) s'
  | _ => .bad
def tMakeS (C : Addr) (sp : Sp) (E : L2.St → XK) (t : TA) : TE := fun σ H Q => t σ H fun vs H1 => ∀ x dx, H1 x = none → H1 dx = none → dx ≠ x → sp (.ref x :: vs) (upd (upd H1 dx (.own x)) x (.ins C dx [])) (fun v H2 => v = .non ∧ Q (.ref x) H2) (E σ)
theorem run_makeS {k : Nat} {f C : Addr} {fd : FuncData} {ps : List Str} {sp : Sp} {E : XK} {pins : List (Addr × Obj)} {s : Shared} {Q : VK} {us : List Value} {vs : List V} (M : Mk X.K C f) (F : FnOk X.prog X.w X.K X.mg X.base (L2.CX X.prog X.w) k f fd ps sp) (hr : Room (k + 1) X.A) (hb : Binds X.K fd ps [])
    (hx : PassesAt (L2.CX X.prog X.w) X σ E) (I : Inv X pins σ H s) (r : Vals vs us)
    (h : ∀ x dx, H x = none → H dx = none → dx ≠ x → sp (.ref x :: vs) (upd (upd H dx (.own x)) x (.ins C dx [])) (fun v H2 => v = .non ∧ Q (.ref x) H2) E) :
    wpAny (model X.prog X.w) X.A (PySem.call (.ref C) us) (EP X pins σ Q) X.xe s := by
  have hq := h (s.heap.objs.size + 1) s.heap.objs.size (I.hok.fresh (Nat.le_succ _)) (I.hok.fresh (Nat.le_refl _)) (Nat.ne_of_lt (Nat.lt_succ_self _))
  have I2 := Inv.made (C := C) I
  have r2 : Vals (V.ref (s.heap.objs.size + 1) :: vs) (Value.ref (s.heap.objs.size + 1) :: us) := .cons rfl r
  have hl : (Value.ref (s.heap.objs.size + 1) :: us ++ []).length = ps.length := by
    have e := r2.length
    rw [F.len _ _ _ _ hq] at e
    rw [List.append_nil]
    exact e.symm
  have hb2 := hb _ (Value.ref (s.heap.objs.size + 1) :: us) I2.kIn hl
  rw [List.append_nil] at hb2
  refine wpAny_call (make_map (f := f) I.kIn M.makes M.init (beq_iff_eq.mp M.fn) (codeAny_mono (F.run _ X.stack _ _ ⟨Value.ref (s.heap.objs.size + 1) :: us, []⟩ (Value.ref (s.heap.objs.size + 1) :: us) _ _ E (hr.make C us [])
    (I2.env0.make C us []) hb2 r2 hq) fun r s' hq' => ?_))
  cases r with
  | error e => exact hx pins _ _ e s' I2 hq'
  | ok fl =>
    cases fl with
    | ret u =>
      obtain ⟨v, H', I3, rv, ev, q3⟩ := I2.after hq'
      subst ev
      exact ⟨rv, ⟨V.ref (s.heap.objs.size + 1), H', I3, rfl, q3⟩⟩
    | next => exact False.elim hq'
    | brk => exact False.elim hq'
    | cont => exact False.elim hq'
theorem pe_makeS {k : Nat} {f C : Addr} {fd : FuncData} {ps : List Str} {sp : Sp} {E : L2.St → XK} {x : Str} {p pos : Pos} {e : Expr} {es : List Expr} {t : TA} (M : Mk X.K C f) (F : FnOk X.prog X.w X.K X.mg X.base (L2.CX X.prog X.w) k f fd ps sp) (hr : Room (k + 1) X.A) (hg : Gl X x) (hm : X.mg x = some (.ref C)) (hb : Binds X.K fd ps [])
    (hx : ∀ σ, PassesAt (L2.CX X.prog X.w) X σ (E σ)) (ha : PA X (e :: es) t) (hdb : (x == ("__debug__" : Str)) = false := by decide) (he : starEach (e :: es) X.env = (false, eval e X.env) :: starEach es X.env := by rfl) (hpl : (backTo pos (starEach es X.env)).any (·.1) = false := by rfl) :
    PE X (.Call (.Name x p) (e :: es) [] pos) (tMakeS C sp E t) := by
  refine ⟨fun pins s σ H Q I h => ?_⟩
  refine wpAny_Call_Name_kw (ld_glob I hg hm ?_ hdb)
  refine PySem.W.callWith_K (h₀ := X.base) I.ok.mod.kin M.kp (thn (ha.run pos pins s σ H _ I h) fun us s1 ⟨vs, H1, I1, r, q⟩ => ⟨I1.kIn, ?_⟩) he hpl
  exact run_makeS M F hr hb (hx σ) I1 r q
theorem pe_makeS0 {k : Nat} {f C : Addr} {fd : FuncData} {ps : List Str} {sp : Sp} {E : L2.St → XK} {x : Str} {p pos : Pos} (M : Mk X.K C f) (F : FnOk X.prog X.w X.K X.mg X.base (L2.CX X.prog X.w) k f fd ps sp) (hr : Room (k + 1) X.A) (hg : Gl X x) (hm : X.mg x = some (.ref C)) (hb : Binds X.K fd ps [])
    (hx : ∀ σ, PassesAt (L2.CX X.prog X.w) X σ (E σ)) (hdb : (x == ("__debug__" : Str)) = false := by decide) : PE X (.Call (.Name x p) [] [] pos) (tMakeS C sp E tNil) := by
  refine ⟨fun pins s σ H Q I h => ?_⟩
  refine wpAny_Call_Name_kw (ld_glob I hg hm ?_ hdb)
  exact PySem.W.callWith_K0 I.kIn M.kp (run_makeS (us := []) M F hr hb (hx σ) I .nil h)
theorem make_fin {c : Nat} {g : F} {ms : List Addr} {st : Sto} {env : Sl} {ds : List D} {vs : List V} {Q : VK} (S : SRel G ms st H) (r1 : RVs G ms H ds vs)
    (k : Okk (RV G) G (fun c d H => W c d σ H) Q ms H ((g (.ref st.length :: ds) (st ++ [.ins c []])).bind fun r s' => match r with
      | .non => .ok (.ref st.length) s'
      | _ => .bad)) : ∀ x dx, H x = none → H dx = none → dx ≠ x → spF G g (.ref x :: vs) (upd (upd H dx (.own x)) x (.ins (G.tb c) dx [])) (fun v H2 => v = .non ∧ Q (.ref x) H2) (WE W σ) := fun x dx hx hdx ne => by
  have hx1 : upd H dx (.own x) x = none := by
    rw [upd_ne (Ne.symm ne)]
    exact hx
  have g1 : Gr ms H ms (upd H dx (.own x)) := Gr.new0 hdx
  have g2 : Gr ms (upd H dx (.own x)) (ms ++ [x]) (upd (upd H dx (.own x)) x (.ins (G.tb c) dx [])) := Gr.new hx1 [x]
  have S2 : SRel G (ms ++ [x]) (st ++ [.ins c []]) (upd (upd H dx (.own x)) x (.ins (G.tb c) dx [])) := (S.lay hdx).new hx1 ⟨dx, [], upd_same, rfl⟩
  have rx : RV G (ms ++ [x]) (upd (upd H dx (.own x)) x (.ins (G.tb c) dx [])) (.ref st.length) (.ref x) := by
    simp only [RV]
    exact ⟨x, rfl, by rw [← S.len]; simp⟩
  refine ⟨ms ++ [x], st ++ [.ins c []], .ref st.length :: ds, S2, ?_, ?_⟩
  · simp only [RVs]
    exact ⟨_, vs, rfl, rx, RVs.gr (g1.trans g2) _ _ r1⟩
  · refine Okk.bind (Okk.gr (g1.trans g2) k) fun r s b m1 H1 g3 S3 r3 k3 => ?_
    cases r with
    | non =>
      simp only [RV] at r3
      exact ⟨r3, k3 (.ref x) m1 H1 Gr.refl S3 (RV.gr g3 _ _ rx)⟩
    | _ => exact k3.elim
theorem e_make {k j : Nat} {f : Addr} {fd : FuncData} {ps : List Str} {c : Nat} {x : Str} {p pos : Pos} {e : Expr} {es : List Expr} {g : F} {fs : List E} (M : Mk X.K (G.tb c) f) (T : FnOk X.prog X.w X.K X.mg X.base (L2.CX X.prog X.w) j f fd ps (spF G g)) (hr : Room k X.A) (hm : X.mg x = some (.ref (G.tb c)))
    (hb : Binds X.K fd ps []) (tk : Takes X W) (ha : PA X (e :: es) (tA G W (eArgs fs))) (hj : j + 1 ≤ k := by decide) (hg : Gl X x := by rfl) (hdb : (x == ("__debug__" : Str)) = false := by decide)
    (he : starEach (e :: es) X.env = (false, eval e X.env) :: starEach es X.env := by rfl) (hpl : (backTo pos (starEach es X.env)).any (·.1) = false := by rfl) :
    PE X (.Call (.Name x p) (e :: es) [] pos) (tE G W (eMake c g fs)) :=
  PE_weak (pe_makeS (E := WE W) M T (hr.mono hj) hg hm hb (fun σ => passAt tk σ) ha hdb he hpl) fun σ H Q h =>
    tX_mono (tX_bind (R := RVs G) h) fun vs H1 ⟨ms, st, env, ds, S, r, r1, k⟩ => make_fin (env := env) S r1 k
theorem e_make0 {k j : Nat} {f : Addr} {fd : FuncData} {ps : List Str} {c : Nat} {x : Str} {p pos : Pos} {g : F} (M : Mk X.K (G.tb c) f) (T : FnOk X.prog X.w X.K X.mg X.base (L2.CX X.prog X.w) j f fd ps (spF G g)) (hr : Room k X.A) (hm : X.mg x = some (.ref (G.tb c)))
    (hb : Binds X.K fd ps []) (tk : Takes X W) (hj : j + 1 ≤ k := by decide) (hg : Gl X x := by rfl) (hdb : (x == ("__debug__" : Str)) = false := by decide) :
    PE X (.Call (.Name x p) [] [] pos) (tE G W (eMake c g [])) :=
  PE_weak (pe_makeS0 (E := WE W) M T (hr.mono hj) hg hm hb (fun σ => passAt tk σ) hdb) fun σ H Q ⟨ms, st, env, S, r, k⟩ => make_fin (env := env) S (by simp only [RVs]) k
end
end LF

set_option Elab.async false
set_option linter.all false
set_option maxRecDepth 100000
set_option maxHeartbeats 4000000
/-! The layer: statements, loops, comprehensions, defs. -/
namespace LF
open PySem PySem.Spec PyProof.Rows L2
inductive Out where
  | nx (e : Sl) (s : Sto) | rt (d : D) (s : Sto) | bk (e : Sl) (s : Sto) | ct (e : Sl) (s : Sto)
  | exn (c : Nat) (fs : List (String × D)) (e : Sl) (s : Sto)
  | bad
abbrev Sm := Sl → Sto → Out
def Res.out {α : Type} (env : Sl) : Res α → (α → Sto → Out) → Out
  | .ok a s, k => k a s
  | .exn c fs s, _ => .exn c fs env s
  | .bad, _ => .bad
section
variable {G : Gx} {W : WX} {X : Cx} {σ : L2.St} {H : Hp}
def OutOk (G : Gx) (W : WX) (K : Ends) (ms : List Addr) (H : Hp) : Out → Prop
  | .nx e st => ∀ σ' ms' H', Gr ms H ms' H' → SRel G ms' st H' → RE G ms' H' e σ' → K.nx σ' H'
  | .bk e st => ∀ σ' ms' H', Gr ms H ms' H' → SRel G ms' st H' → RE G ms' H' e σ' → K.bk σ' H'
  | .ct e st => ∀ σ' ms' H', Gr ms H ms' H' → SRel G ms' st H' → RE G ms' H' e σ' → K.ct σ' H'
  | .rt d st => ∀ v ms' H', Gr ms H ms' H' → SRel G ms' st H' → RV G ms' H' d v → K.rt v H'
  | .exn c fs e st => ∀ od σ' ms' H', Gr ms H ms' H' → SRel G ms' st H' → RE G ms' H' e σ' → XRel G ms' H' fs od → W (.ref (G.tb c)) od σ' H'
  | .bad => False
def tS (G : Gx) (W : WX) (f : Sm) : TS := fun K σ H => ∃ ms st env, SRel G ms st H ∧ RE G ms H env σ ∧ OutOk G W K ms H (f env st)
theorem OutOk.gr {K : Ends} {ms ms' : List Addr} {H' : Hp} {o : Out} (g : Gr ms H ms' H') (h : OutOk G W K ms H o) : OutOk G W K ms' H' o := by
  cases o with
  | nx e st => exact fun σ' m2 H2 g2 => h σ' m2 H2 (g.trans g2)
  | bk e st => exact fun σ' m2 H2 g2 => h σ' m2 H2 (g.trans g2)
  | ct e st => exact fun σ' m2 H2 g2 => h σ' m2 H2 (g.trans g2)
  | rt d st => exact fun v m2 H2 g2 => h v m2 H2 (g.trans g2)
  | exn c fs e st => exact fun od σ' m2 H2 g2 => h od σ' m2 H2 (g.trans g2)
  | bad => exact h
/-- the exceptions of an expression within a statement: the slots are those at hand -/
theorem tX_out {α β : Type} {R : List Addr → Hp → α → β → Prop} {fa : Sl → M α} {k : Sl → α → Sto → Out} {K : Ends} (h : tS G W (fun env st => (fa env st).out env (k env)) K σ H) :
    tX R G W fa σ H fun b H1 => ∃ ms st env a, SRel G ms st H1 ∧ RE G ms H1 env σ ∧ R ms H1 a b ∧ OutOk G W K ms H1 (k env a st) := by
  obtain ⟨ms, st, env, S, r, q⟩ := h
  have q : OutOk G W K ms H ((fa env st).out env (k env)) := q
  refine ⟨ms, st, env, S, r, ?_⟩
  cases e : fa env st with
  | ok a s =>
    rw [e] at q
    exact fun b m1 H1 g1 S1 r1 => ⟨m1, s, env, a, S1, r.gr g1, r1, OutOk.gr g1 q⟩
  | exn c fs s =>
    rw [e] at q
    exact fun od m1 H1 g1 S1 x1 => q od σ m1 H1 g1 S1 (r.gr g1) x1
  | bad =>
    rw [e] at q
    exact q

/-! ### blocks and small statements -/
def sSeq (a b : Sm) : Sm := fun env st => match a env st with
  | .nx e s => b e s
  | r => r
def sSkip : Sm := fun env st => .nx env st
def sBreak : Sm := fun env st => .bk env st
def sCont : Sm := fun env st => .ct env st
def sRet (a : E) : Sm := fun env st => (a env st).out env fun d s => .rt d s
def sExpr (a : E) : Sm := fun env st => (a env st).out env fun _ s => .nx env s
def sIf (c : T) (a b : Sm) : Sm := fun env st => (c env st).out env fun k s => if k = true then a env s else b env s
theorem OutOk.seq {K : Ends} {ms : List Addr} {o : Out} {b : Sm} (h : OutOk G W K ms H (match o with
  | .nx e s => b e s
  | r => r)) : OutOk G W { K with nx := tS G W b K } ms H o := by
  cases o with
  | nx e s => exact fun σ' m1 H1 g1 S1 r1 => ⟨m1, s, e, S1, r1, OutOk.gr g1 h⟩
  | bk e st => exact h
  | ct e st => exact h
  | rt d st => exact h
  | exn c fs e st => exact h
  | bad => exact h
theorem ss_nil : PSs X [] (tS G W sSkip) := PSs_weak pss_nil fun K σ H ⟨ms, st, env, S, r, k⟩ => k σ ms H Gr.refl S r
theorem ss_cons {st : Stmt} {rest : List Stmt} {a b : Sm} (h1 : PS X st (tS G W a)) (h2 : PSs X rest (tS G W b)) : PSs X (st :: rest) (tS G W (sSeq a b)) :=
  PSs_weak (pss_cons h1 h2) fun K σ H ⟨ms, st, env, S, r, k⟩ => ⟨ms, st, env, S, r, OutOk.seq k⟩
theorem ss_one {st : Stmt} {a : Sm} (h1 : PS X st (tS G W a)) : PSs X [st] (tS G W a) := pss_one h1
theorem s_pass {pos} : PS X (.Pass pos) (tS G W sSkip) := PS_weak ps_pass fun K σ H ⟨ms, st, env, S, r, k⟩ => k σ ms H Gr.refl S r
theorem s_break {pos} : PS X (.Break pos) (tS G W sBreak) := PS_weak ps_break fun K σ H ⟨ms, st, env, S, r, k⟩ => k σ ms H Gr.refl S r
theorem s_cont {pos} : PS X (.Continue pos) (tS G W sCont) := PS_weak ps_continue fun K σ H ⟨ms, st, env, S, r, k⟩ => k σ ms H Gr.refl S r
theorem s_ret {e : Expr} {pos : Pos} {fe : E} (he : PE X e (tE G W fe)) : PS X (.Return (some e) pos) (tS G W (sRet fe)) :=
  PS_weak (ps_ret he) fun K σ H h => tX_mono (tX_out (k := fun _ d s => .rt d s) h) fun v H1 ⟨ms, st, env, d, S, _, r1, k⟩ => k v ms H1 Gr.refl S r1
theorem s_retN {pos : Pos} : PS X (.Return none pos) (tS G W (sRet (eC .non))) :=
  PS_weak ps_retN fun K σ H ⟨ms, st, env, S, r, k⟩ => k .non ms H Gr.refl S (by simp only [RV])
theorem s_expr {e : Expr} {pos : Pos} {fe : E} (he : PE X e (tE G W fe)) (hs : swapsWith e none pos.line X.env = pure false := by rfl) : PS X (.Expr e pos) (tS G W (sExpr fe)) :=
  PS_weak (ps_expr he hs) fun K σ H h => tX_mono (tX_out (k := fun env _ s => .nx env s) h) fun v H1 ⟨ms, st, env, d, S, r, r1, k⟩ => k σ ms H1 Gr.refl S r
theorem s_if {c : Expr} {p q : List Stmt} {pos : Pos} {tc : T} {a b : Sm} (hc : PT X c (tT G W tc)) (ha : PSs X p (tS G W a)) (hb : PSs X q (tS G W b)) : PS X (.If c p q pos) (tS G W (sIf tc a b)) :=
  PS_weak (ps_if hc ha hb) fun K σ H h => tX_mono (tX_out (k := fun env k s => if k = true then a env s else b env s) h) fun v H1 ⟨ms, st, env, d, S, r, r1, k⟩ => by
    cases r1
    cases v with
    | true => exact ⟨ms, st, env, S, r, by simpa using k⟩
    | false => exact ⟨ms, st, env, S, r, by simpa using k⟩
theorem s_never {st : Stmt} : PS X st (tS G W fun _ _ => .bad) := PS_weak ps_never fun K σ H ⟨ms, st, env, S, r, k⟩ => k

/-! ### targets -/
inductive Tg where
  | name (i : Nat) | tup (ts : List Tg)
def gSeq (K : PySem.W.Frag) (n : Nat) (t : TGs) : TG := fun v σ H Q => ∃ a xs, v = .ref a ∧ (SqT K H a xs ∨ SqL K H a xs) ∧ xs.length = n ∧ t xs σ H Q
mutual
def Tg.tg (K : PySem.W.Frag) : Tg → TG
  | .name i => gName i
  | .tup ts => gSeq K ts.length (Tg.tgs K ts)
def Tg.tgs (K : PySem.W.Frag) : List Tg → TGs
  | [] => gNil
  | t :: ts => gCons (Tg.tg K t) (Tg.tgs K ts)
end
mutual
def Tg.sem (st : Sto) : Tg → D → Sl → Option Sl
  | .name i, d, env => some (env.set i (some d))
  | .tup ts, d, env => match seqOf d st with
    | some ds => if ds.length = ts.length then Tg.sems st ts ds env else none
    | none => none
def Tg.sems (st : Sto) : List Tg → List D → Sl → Option Sl
  | [], [], env => some env
  | t :: ts, d :: ds, env => match Tg.sem st t d env with
    | some e => Tg.sems st ts ds e
    | none => none
  | _, _, _ => none
end
mutual
def Tg.names : Tg → List Nat
  | .name i => [i]
  | .tup ts => Tg.namess ts
def Tg.namess : List Tg → List Nat
  | [] => []
  | t :: ts => Tg.names t ++ Tg.namess ts
end
theorem wipe_set {σ : L2.St} {i : Nat} {o : Option V} : ∀ {vs : List Nat}, i ∈ vs → wipe (σ.set i o) vs = wipe σ vs
  | [], h => by simp at h
  | v :: vs, h => by
    unfold wipe
    by_cases hv : i ∈ vs
    · rw [wipe_set hv]
    · have e : i = v := by
        rcases List.mem_cons.mp h with h | h
        · exact h
        · exact (hv h).elim
      subst e
      have out : ∀ (l : List Nat) (τ : L2.St), i ∉ l → wipe (τ.set i o) l = (wipe τ l).set i o := by
        intro l
        induction l with
        | nil => intro τ _; rfl
        | cons w l ih =>
          intro τ hw
          simp only [List.mem_cons, not_or] at hw
          unfold wipe
          rw [ih τ hw.2, List.set_comm _ _ hw.1]
      rw [out vs σ hv, List.set_set]
mutual
theorem Tg.ok {ms : List Addr} {st : Sto} (S : SRel G ms st H) : ∀ (t : Tg) (d : D) (env env' : Sl) (v : V) (σ : L2.St), Tg.sem st t d env = some env' → RV G ms H d v → RE G ms H env σ →
    ∃ σ', RE G ms H env' σ' ∧ (∀ Q : L2.St → Hp → Prop, Q σ' H → Tg.tg G.K t v σ H Q) ∧ ∀ vs : List Nat, (∀ i ∈ Tg.names t, i ∈ vs) → wipe σ' vs = wipe σ vs
  | .name i, d, env, env', v, σ, h, r, re => by
    simp only [Tg.sem] at h
    cases h
    refine ⟨_, RE.set r i re, fun Q q => ?_, fun vs hv => wipe_set (hv i (by simp [Tg.names]))⟩
    simp only [Tg.tg]
    exact q
  | .tup ts, d, env, env', v, σ, h, r, re => by
    simp only [Tg.sem] at h
    split at h
    · rename_i ds e
      split at h
      · rename_i hl
        obtain ⟨p, us, rfl, h1, h2⟩ := seq_ok S r e
        obtain ⟨σ', a, b, c⟩ := Tg.oks S ts ds env env' us σ h h2 re
        refine ⟨σ', a, fun Q q => ?_, fun vs hv => c vs (by simpa [Tg.names] using hv)⟩
        simp only [Tg.tg]
        exact ⟨p, us, rfl, h1.symm, by rw [h2.length]; exact hl, b Q q⟩
      · cases h
    · cases h
theorem Tg.oks {ms : List Addr} {st : Sto} (S : SRel G ms st H) : ∀ (ts : List Tg) (ds : List D) (env env' : Sl) (vs : List V) (σ : L2.St), Tg.sems st ts ds env = some env' → RVs G ms H ds vs → RE G ms H env σ →
    ∃ σ', RE G ms H env' σ' ∧ (∀ Q : L2.St → Hp → Prop, Q σ' H → Tg.tgs G.K ts vs σ H Q) ∧ ∀ ws : List Nat, (∀ i ∈ Tg.namess ts, i ∈ ws) → wipe σ' ws = wipe σ ws
  | [], [], env, env', vs, σ, h, r, re => by
    simp only [Tg.sems] at h
    cases h
    simp only [RVs] at r
    subst r
    refine ⟨σ, re, fun Q q => ?_, fun _ _ => rfl⟩
    simp only [Tg.tgs]
    exact ⟨rfl, q⟩
  | t :: ts, d :: ds, env, env', vs, σ, h, r, re => by
    simp only [Tg.sems] at h
    split at h
    · rename_i e he
      simp only [RVs] at r
      obtain ⟨v, r', rfl, r1, r2⟩ := r
      obtain ⟨σ1, a1, b1, c1⟩ := Tg.ok S t d env e v σ he r1 re
      obtain ⟨σ2, a2, b2, c2⟩ := Tg.oks S ts ds e env' r' σ1 h r2 a1
      refine ⟨σ2, a2, fun Q q => ?_, fun ws hv => ?_⟩
      · simp only [Tg.tgs]
        exact ⟨v, r', rfl, b1 _ (b2 Q q)⟩
      · simp only [Tg.namess, List.mem_append] at hv
        rw [c2 ws fun i hi => hv i (.inr hi), c1 ws fun i hi => hv i (.inl hi)]
    · cases h
  | [], _ :: _, _, _, _, _, h, _, _ => by simp only [Tg.sems] at h; cases h
  | _ :: _, [], _, _, _, _, h, _, _ => by simp only [Tg.sems] at h; cases h
end
theorem g_name {i : Nat} {x : Str} {pos : Pos} (hN : X.N.Nodup) (hi : X.N[i]? = some x := by rfl) (hx : Loc X.env.scope x := by first | exact Or.inl rfl | exact Or.inr rfl) (hf : X.fn x = true ∨ X.env.scope.names.lookup x = some .local := by first | exact .inl rfl | exact .inr rfl) : PG X (.Name x pos) (Tg.tg G.K (.name i)) := by
  have h := pg_name (pos := pos) hN hi hx hf
  have e : Tg.tg G.K (.name i) = gName i := by simp only [Tg.tg]
  rw [e]
  exact h
theorem gs_nil : PGs X [] (Tg.tgs G.K []) := by
  have e : Tg.tgs G.K [] = gNil := by simp only [Tg.tgs]
  rw [e]
  exact pgs_nil
theorem gs_cons {e : Expr} {es : List Expr} {t : Tg} {ts : List Tg} (h1 : PG X e (Tg.tg G.K t)) (h2 : PGs X es (Tg.tgs G.K ts))
    (hs : (assignEach (e :: es) X.env).map (·.2) = assign e X.env :: (assignEach es X.env).map (·.2) := by rfl) : PGs X (e :: es) (Tg.tgs G.K (t :: ts)) := by
  have q : Tg.tgs G.K (t :: ts) = gCons (Tg.tg G.K t) (Tg.tgs G.K ts) := by simp only [Tg.tgs]
  rw [q]
  exact pgs_cons h1 h2 hs
theorem g_tup {es : List Expr} {k : Nat} {pos : Pos} {ts : List Tg} (hK : X.K = G.K) (hc : X.calm = true) (h : PGs X es (Tg.tgs G.K ts))
    (hn : (assignEach es X.env).length = ts.length := by rfl) (hst : (assignEach es X.env).findIdx? (·.1) = none := by rfl) : PG X (.Tuple es k pos) (Tg.tg G.K (.tup ts)) := by
  have h1 := pg_tup (k := k) (pos := pos) hc h hn hst
  have h2 := pg_unl (k := k) (pos := pos) hc h hn hst
  have e : Tg.tg G.K (.tup ts) = gSeq G.K ts.length (Tg.tgs G.K ts) := by simp only [Tg.tg]
  rw [e]
  refine ⟨fun pins s σ H v u Q I r hw => ?_⟩
  obtain ⟨a, xs, e1, hq, hl, hw⟩ := hw
  rcases hq with hq | hq
  · exact h1.run pins s σ H v u Q I r ⟨a, xs, e1, by rw [hK]; exact hq, hl, hw⟩
  · exact h2.run pins s σ H v u Q I r ⟨a, xs, e1, by rw [hK]; exact hq, hl, hw⟩
/-- target = value -/
def sAsg (t : Tg) (a : E) : Sm := fun env st => (a env st).out env fun d s => match Tg.sem s t d env with
  | some e => .nx e s
  | none => .bad
theorem asg_fin {K : Ends} {t : Tg} {fe : E} (h : tS G W (sAsg t fe) K σ H) : tE G W fe σ H fun v H1 => Tg.tg G.K t v σ H1 K.nx :=
  tX_mono (tX_out (k := fun env d s => match Tg.sem s t d env with
  | some e => .nx e s
  | none => .bad) h) fun v H1 ⟨ms, st, env, d, S, r, r1, k⟩ => by
    split at k
    · rename_i e he
      obtain ⟨σ', a, b, _⟩ := Tg.ok S t d env e v σ he r1 r
      exact b _ (k σ' ms H1 Gr.refl S a)
    · exact k.elim
theorem s_asg {tg e : Expr} {pos : Pos} {t : Tg} {fe : E} (he : PE X e (tE G W fe)) (hg : PG X tg (Tg.tg G.K t)) (hs : swapsWithSole [tg] e pos.line X.env = pure false := by rfl) (hw : swappedStores [tg] e X.env = pure none := by rfl)
    (h1 : (assignEach [tg] X.env).map (·.2) = [assign tg X.env] := by rfl) : PS X (.Assign [tg] e pos) (tS G W (sAsg t fe)) :=
  PS_weak (ps_asg he hg hs hw h1) fun K σ H h => asg_fin h
theorem s_set {i : Nat} {x : Str} {e : Expr} {fe : E} {pos pos' : Pos} (hN : X.N.Nodup) (he : PE X e (tE G W fe)) (hi : X.N[i]? = some x := by rfl) (hx : Loc X.env.scope x := by first | exact Or.inl rfl | exact Or.inr rfl) (hs : swapsWith e (some (.Name x pos')) pos.line X.env = pure false := by rfl)
    (hf : X.fn x = true ∨ X.env.scope.names.lookup x = some .local := by first | exact .inl rfl | exact .inr rfl) : PS X (.Assign [.Name x pos'] e pos) (tS G W (sAsg (.name i) fe)) :=
  PS_weak (ps_set hN hi hx he hs hf) fun K σ H h => by
    have q := asg_fin h
    simp only [Tg.tg] at q
    exact q
/-- x, y = a, b: two local names -/
def sPar (i j : Nat) (a b : E) : Sm := fun env st => (eArgs [a, b] env st).out env fun ds s => match ds with
  | [x, y] => .nx ((env.set i (some x)).set j (some y)) s
  | _ => .bad
theorem s_par {i j : Nat} {x y : Str} {a b : Expr} {fa fb : E} {px py pt : Pos} {kt k2 pt2} {pos : Pos} (hc : X.calm = true) (hN : X.N.Nodup) (ha : PA X [a, b] (tA G W (eArgs [fa, fb]))) (hi : X.N[i]? = some x := by rfl) (hj : X.N[j]? = some y := by rfl) (hij : i ≠ j := by decide)
    (hx : X.env.scope.names.lookup x = some .local := by rfl) (hy : X.env.scope.names.lookup y = some .local := by rfl)
    (hw : swappedStores [.Tuple [.Name x px, .Name y py] kt pt] (.Tuple [a, b] k2 pt2) X.env = pure (some [x, y]) := by rfl)
    (hs : swapsWithSole [.Tuple [.Name x px, .Name y py] kt pt] (.Tuple [a, b] k2 pt2) pos.line X.env = pure false := by rfl) :
    PS X (.Assign [.Tuple [.Name x px, .Name y py] kt pt] (.Tuple [a, b] k2 pt2) pos) (tS G W (sPar i j fa fb)) :=
  PS_weak (ps_par hc hN hi hj hij hx hy ha hw hs) fun K σ H h => tX_mono (tX_out (R := RVs G) (k := fun env ds s => match ds with
  | [x, y] => .nx ((env.set i (some x)).set j (some y)) s
  | _ => .bad) h) fun vs H1 ⟨ms, st, env, ds, S, r, r1, k⟩ => by
    split at k
    · obtain ⟨v, u, rfl, rv, ru⟩ := r1.two'
      exact ⟨v, u, rfl, k _ ms H1 Gr.refl S (RE.set ru j (RE.set rv i r))⟩
    · exact k.elim
/-- o[i] = e, o a list -/
def opSet (o i d : D) : O Unit := fun st => match o, i with
  | .ref r, .int z => match st[r]? with
    | some (.lst ds) => match ixN ds.length z with
      | some j => some ((), st.set r (.lst (ds.set j d)))
      | none => none
    | _ => none
  | _, _ => none
def sSetIx (o i e : E) : Sm := fun env st => (e env st).out env fun d s => (o env s).out env fun x s => (i env s).out env fun y s => match opSet x y d s with
  | some (_, s) => .nx env s
  | none => .bad
theorem s_setIx {o i e : Expr} {fo fi fe : E} {pos p2 : Pos} (he : PE X e (tE G W fe)) (ho : PE X o (tE G W fo)) (hi : PE X i (tE G W fi))
    (ha : ∀ v, assign (.Subscript o i p2) X.env v = (do
      let ov ← holding [v] (eval o X.env)
      let iv ← holding [v, ov] (eval i X.env)
      standAt p2
      holding [v, ov, iv] (setItem ov iv v)
      release [v, ov, iv] []) := by intro _; rfl) (hs : swapsWithSole [.Subscript o i p2] e pos.line X.env = pure false := by rfl) (hw : swappedStores [.Subscript o i p2] e X.env = pure none := by rfl)
    (h1 : (assignEach [.Subscript o i p2] X.env).map (·.2) = [assign (.Subscript o i p2) X.env] := by rfl) : PS X (.Assign [.Subscript o i p2] e pos) (tS G W (sSetIx fo fi fe)) :=
  PS_weak (ps_asg he (pg_sub ho hi set_list ha) hs hw h1) fun K σ H h => by
    refine tX_mono (tX_out (k := fun env d s => (fo env s).out env fun x s => (fi env s).out env fun y s => match opSet x y d s with
      | some (_, s) => .nx env s
      | none => .bad) h) fun v H1 ⟨ms, st, env, d, S, r, r1, k⟩ => ?_
    have q : tE G W fo σ H1 fun x H2 => ∃ ms st env d x', SRel G ms st H2 ∧ RE G ms H2 env σ ∧ RV G ms H2 d v ∧ RV G ms H2 x' x ∧ OutOk G W K ms H2 ((fi env st).out env fun y s => match opSet x' y d s with
        | some (_, s) => .nx env s
        | none => .bad) := by
      refine ⟨ms, st, env, S, r, ?_⟩
      cases e1 : fo env st with
      | ok x s =>
        rw [e1] at k
        exact fun b m1 H2 g1 S1 r2 => ⟨m1, s, env, d, x, S1, r.gr g1, RV.gr g1 _ _ r1, r2, OutOk.gr g1 k⟩
      | exn c fs s =>
        rw [e1] at k
        exact fun od m1 H2 g1 S1 x1 => k od σ m1 H2 g1 S1 (r.gr g1) x1
      | bad =>
        rw [e1] at k
        exact k
    refine tX_mono q fun x H2 ⟨ms, st, env, d, x', S, r, r1, r2, k⟩ => ?_
    have q : tE G W fi σ H2 fun y H3 => ∃ ms st env d x' y', SRel G ms st H3 ∧ RE G ms H3 env σ ∧ RV G ms H3 d v ∧ RV G ms H3 x' x ∧ RV G ms H3 y' y ∧ OutOk G W K ms H3 (match opSet x' y' d st with
        | some (_, s) => .nx env s
        | none => .bad) := by
      refine ⟨ms, st, env, S, r, ?_⟩
      cases e1 : fi env st with
      | ok y s =>
        rw [e1] at k
        exact fun b m1 H3 g1 S1 r3 => ⟨m1, s, env, d, x', y, S1, r.gr g1, RV.gr g1 _ _ r1, RV.gr g1 _ _ r2, r3, OutOk.gr g1 k⟩
      | exn c fs s =>
        rw [e1] at k
        exact fun od m1 H2 g1 S1 x1 => k od σ m1 H2 g1 S1 (r.gr g1) x1
      | bad =>
        rw [e1] at k
        exact k
    refine tX_mono q fun y H3 ⟨ms, st, env, d, x', y', S, r, r1, r2, r3, k⟩ => ?_
    split at k
    · rename_i s e
      unfold opSet at e
      split at e
      · simp only [RV] at r3
        subst r3
        split at e
        · rename_i ds e2
          obtain ⟨a, vs, rfl, ha, h1, h2⟩ := S.ref e2 r2
          split at e
          · rename_i j e3
            cases e
            obtain ⟨c, _, hc⟩ := S.has ha
            have g : Gr ms H3 ms (upd H3 a (.lst (vs.set j v))) := Gr.cell hc
            exact ⟨a, vs, _, j, rfl, rfl, h1, by rw [h2.length]; exact e3, k σ ms _ g (S.put ha ⟨_, upd_same, RVs.gr g _ _ (h2.set j r1)⟩) (r.gr g)⟩
          · cases e
        · cases e
      · cases e
    · exact k.elim
/-- o.f = e -/
def opSetF (P : Nat → Bool) (f : String) (o d : D) : O Unit := fun st => match o with
  | .ref r => match st[r]? with
    | some (.ins c fs) => if P c = true ∧ fs.length < 1000 then some ((), st.set r (.ins c (putD f d fs))) else none
    | _ => none
  | _ => none
def sSetF (P : Nat → Bool) (f : String) (o e : E) : Sm := fun env st => (e env st).out env fun d s => (o env s).out env fun x s => match opSetF P f x d s with
  | some (_, s) => .nx env s
  | none => .bad
theorem s_setF {o e : Expr} {fo fe : E} {P : Nat → Bool} {f : String} {fS : Str} {pos p2 : Pos} (hK : X.K = G.K) (hP : ∀ c, P c = true → Cls G.K (G.tb c) ∧ NoAttr G.K (G.tb c) fS) (hf : fS = Str.ofString f) (he : PE X e (tE G W fe)) (ho : PE X o (tE G W fo))
    (hs : swapsWith e (some (.Attribute o fS p2)) pos.line X.env = pure false := by rfl) : PS X (.Assign [.Attribute o fS p2] e pos) (tS G W (sSetF P f fo fe)) :=
  PS_weak (ps_fld ho he hs) fun K σ H h => by
    refine tX_mono (tX_out (k := fun env d s => (fo env s).out env fun x s => match opSetF P f x d s with
      | some (_, s) => .nx env s
      | none => .bad) h) fun v H1 ⟨ms, st, env, d, S, r, r1, k⟩ => ?_
    have q : tE G W fo σ H1 fun x H2 => ∃ ms st env d x', SRel G ms st H2 ∧ RE G ms H2 env σ ∧ RV G ms H2 d v ∧ RV G ms H2 x' x ∧ OutOk G W K ms H2 (match opSetF P f x' d st with
        | some (_, s) => .nx env s
        | none => .bad) := by
      refine ⟨ms, st, env, S, r, ?_⟩
      cases e1 : fo env st with
      | ok x s =>
        rw [e1] at k
        exact fun b m1 H2 g1 S1 r2 => ⟨m1, s, env, d, x, S1, r.gr g1, RV.gr g1 _ _ r1, r2, OutOk.gr g1 k⟩
      | exn c fs s =>
        rw [e1] at k
        exact fun od m1 H2 g1 S1 x1 => k od σ m1 H2 g1 S1 (r.gr g1) x1
      | bad =>
        rw [e1] at k
        exact k
    refine tX_mono q fun x H2 ⟨ms, st, env, d, x', S, r, r1, r2, k⟩ => ?_
    split at k
    · rename_i s e
      unfold opSetF at e
      split at e
      · split at e
        · rename_i c gs e2
          obtain ⟨a, dx, hs, rfl, ha, h1, h2⟩ := S.ins e2 r2
          split at e
          · rename_i hc
            cases e
            obtain ⟨c', _, hc'⟩ := S.has ha
            have g : Gr ms H2 ms (upd H2 a (.ins (G.tb c) dx (putF (Str.ofString f) v hs))) := Gr.cell hc'
            obtain ⟨p1, p2⟩ := hP c hc.1
            refine ⟨a, _, dx, hs, rfl, h1, by rw [hK]; exact p1, by rw [hK]; exact p2, by rw [h2.len]; exact hc.2, ?_⟩
            rw [hf]
            exact k σ ms _ g (S.put ha ⟨dx, _, upd_same, RF.gr g (h2.put r1)⟩) (r.gr g)
          · cases e
        · cases e
      · cases e
    · exact k.elim
/-- x += e, ints -/
def sAugI (f : Int → Int → Int) (i : Nat) (e : E) : Sm := fun env st => match env[i]? with
  | some (some (.int a)) => (e env st).out env fun d s => match d with
    | .int b => .nx (env.set i (some (.int (f a b)))) s
    | _ => .bad
  | _ => .bad
theorem s_augI {f : Int → Int → Int} {i : Nat} {x : Str} {e : Expr} {fe : E} {op : Operator} {pos pos' : Pos} (ho : PIp X op (ipI f)) (hN : X.N.Nodup) (he : PE X e (tE G W fe)) (hi : X.N[i]? = some x := by rfl) (hx : Loc X.env.scope x := by first | exact Or.inl rfl | exact Or.inr rfl)
    (hf : X.fn x = true ∨ X.env.scope.names.lookup x = some .local := by first | exact .inl rfl | exact .inr rfl) : PS X (.AugAssign (.Name x pos') op e pos) (tS G W (sAugI f i fe)) :=
  PS_weak (ps_aug hN hi hx he ho hf) fun K σ H ⟨ms, st, env, S, r, k⟩ => by
    unfold sAugI at k
    split at k
    · rename_i a ea
      obtain ⟨v, h1, h2⟩ := r.at ea
      simp only [RV] at h2
      subst h2
      have q : tS G W (fun env st => (fe env st).out env fun d s => match d with
        | .int b => .nx (env.set i (some (.int (f a b)))) s
        | _ => .bad) K σ H := ⟨ms, st, env, S, r, k⟩
      refine ⟨_, h1, tX_mono (tX_out (k := fun env d s => match d with
        | .int b => .nx (env.set i (some (.int (f a b)))) s
        | _ => .bad) q) fun v H1 ⟨ms, st, env, d, S, r, r1, k⟩ => ?_⟩
      split at k
      · simp only [RV] at r1
        subst r1
        exact ⟨_, _, rfl, rfl, k _ ms H1 Gr.refl S (RE.set (by simp only [RV]) i r)⟩
      · exact k.elim
    · exact k.elim
end
end LF

set_option Elab.async false
set_option linter.all false
set_option maxRecDepth 100000
set_option maxHeartbeats 4000000
/-! The layer: loops, comprehensions, defs. -/
namespace LF
open PySem PySem.Spec PyProof.Rows L2
section
variable {G : Gx} {W : WX} {X : Cx} {σ : L2.St} {H : Hp}
/-! ### what is walked: the items, and the list that must stay as it is -/
structure Its where
  items : List D
  chk : Option (Nat × List D)
def Its.okB (t : Its) (st : Sto) : Prop := ∀ i ds, t.chk = some (i, ds) → st[i]? = some (.lst ds)
def RIt (G : Gx) (ms : List Addr) (H : Hp) (p : Its) (J : It) : Prop := ∀ (i : Nat) ms' H' st', Gr ms H ms' H' → SRel G ms' st' H' → p.okB st' →
  (i < p.items.length → J.go i H' ∧ ∀ x H2, J.yld i H' x H2 → ∃ d, p.items[i]? = some d ∧ Gr ms' H' ms' H2 ∧ SRel G ms' st' H2 ∧ RV G ms' H2 d x) ∧ (p.items.length ≤ i → J.stop i H')
abbrev tI (G : Gx) (W : WX) (f : Sl → M Its) : TI := tX (RIt G) G W f
theorem PI_weak {tg e : Expr} {t t' : TI} (h : PI X tg e t) (k : ∀ σ H R, t' σ H R → t σ H R) : PI X tg e t' := ⟨fun pins s σ H R I q => h.run pins s σ H R I (k σ H R q)⟩
/-- a list or a tuple -/
def iSeq (K : PySem.W.Frag) (tl : TE) : TI := fun σ H R => tl σ H fun x H1 => ∃ a, x = .ref a ∧ (((∃ xs, SqL K H1 a xs) ∧ R (Itl K a) H1) ∨ ((∃ xs, SqT K H1 a xs) ∧ R (Itt K a) H1))
theorem pi_seq {tg l : Expr} {tl : TE} (hl : PE X l tl) : PI X tg l (iSeq X.K tl) := by
  refine ⟨fun pins s σ H R I h => ?_⟩
  refine thn (hl.run pins s σ H _ I h) fun v s1 ⟨x, H1, I1, r1, q1⟩ => ?_
  obtain ⟨a, e, q⟩ := q1
  subst e
  cases r1
  rcases q with ⟨⟨xs, hq⟩, q⟩ | ⟨⟨xs, hq⟩, q⟩
  · obtain ⟨its, rv, p, hz⟩ := I1.list hq
    refine wpAny_pyIter_list p.isList ?_
    refine ⟨s1.heap.objs.size, [s1.heap.objs.size], _, _, H1, rfl, I1.kept (t' := s1.toks) fun b o e => Heap.get?_push_of_some _ e, turn_list a _, ⟨_, Heap.get?_push_size _ rfl, rfl, rfl⟩, fun b hb => ?_, q⟩
    have e : b = s1.heap.objs.size := by simpa using hb
    subst e
    exact I1.fpOk (Nat.le_refl _) (I1.hok.fresh (Nat.le_refl _))
  · obtain ⟨its, rv, p, hz⟩ := I1.tuple hq
    refine wpAny_pyIter_tuple (show s1.heap.IsTuple a its.toArray from p) ?_
    refine ⟨s1.heap.objs.size, [s1.heap.objs.size], _, _, H1, rfl, I1.kept (t' := s1.toks) fun b o e => Heap.get?_push_of_some _ e, turn_tuple a _, ⟨_, Heap.get?_push_size _ rfl, rfl, rfl⟩, fun b hb => ?_, q⟩
    have e : b = s1.heap.objs.size := by simpa using hb
    subst e
    exact I1.fpOk (Nat.le_refl _) (I1.hok.fresh (Nat.le_refl _))
def iterOf (d : D) (s : Sto) : Option Its := match d with
  | .tup ds => some ⟨ds, none⟩
  | .ref i => match s[i]? with
    | some (.lst ds) => some ⟨ds, some (i, ds)⟩
    | _ => none
  | .scr ns => some ⟨ns.map D.int, none⟩
  | _ => none
def iS (a : E) : Sl → M Its := fun env st => (a env st).bind fun d s => match iterOf d s with
  | some t => .ok t s
  | none => .bad
theorem Gr.sqT' {ms ms' : List Addr} {H' : Hp} {K : PySem.W.Frag} {a : Addr} {xs : List V} (g : Gr ms H ms' H') (h : SqU K H a xs) : SqT K H' a xs := (g.sqT h).t
theorem it_list {K : PySem.W.Frag} {H : Hp} {a : Addr} {vs : List V} {i : Nat} (h : SqL K H a vs) : (i < vs.length → (Itl K a).go i H ∧ ∀ x H2, (Itl K a).yld i H x H2 → H2 = H ∧ vs[i]? = some x) ∧ (vs.length ≤ i → (Itl K a).stop i H) :=
  ⟨fun hi => ⟨⟨vs, vs[i], h, by simp [hi]⟩, fun x H2 y => ⟨y.1, y.2 vs h⟩⟩, fun hi => ⟨vs, h, hi⟩⟩
theorem it_tup {K : PySem.W.Frag} {H : Hp} {a : Addr} {vs : List V} {i : Nat} (h : SqT K H a vs) : (i < vs.length → (Itt K a).go i H ∧ ∀ x H2, (Itt K a).yld i H x H2 → H2 = H ∧ vs[i]? = some x) ∧ (vs.length ≤ i → (Itt K a).stop i H) :=
  ⟨fun hi => ⟨⟨vs, vs[i], h, by simp [hi]⟩, fun x H2 y => ⟨y.1, y.2 vs h⟩⟩, fun hi => ⟨vs, h, hi⟩⟩
theorem RIt.of_seq {ms : List Addr} {p : Its} {J : It} (h : ∀ (i : Nat) ms' H' st', Gr ms H ms' H' → SRel G ms' st' H' → p.okB st' → ∃ vs, RVs G ms' H' p.items vs ∧ ((i < vs.length → J.go i H' ∧ ∀ x H2, J.yld i H' x H2 → H2 = H' ∧ vs[i]? = some x) ∧ (vs.length ≤ i → J.stop i H'))) : RIt G ms H p J := fun i ms' H' st' g S ok => by
  obtain ⟨vs, r, h1, h2⟩ := h i ms' H' st' g S ok
  refine ⟨fun hi => ?_, fun hi => h2 (by rw [r.length]; exact hi)⟩
  obtain ⟨h3, h4⟩ := h1 (by rw [r.length]; exact hi)
  refine ⟨h3, fun x H2 y => ?_⟩
  obtain ⟨rfl, e⟩ := h4 x H2 y
  obtain ⟨d, e2, r2⟩ := r.back e
  exact ⟨d, e2, Gr.refl, S, r2⟩
theorem i_seq {tg e : Expr} {fe : E} (hK : X.K = G.K) (he : PE X e (tE G W fe)) : PI X tg e (tI G W (iS fe)) := PI_weak (pi_seq he) fun σ H R h => tX_mono (tX_bind h) fun v H1 ⟨ms, st, env, d, S, r, r1, k⟩ => by
  rw [hK]
  cases d with
  | tup ds =>
    have r0 := r1
    simp only [RV] at r1
    obtain ⟨a, vs, rfl, h1, h2⟩ := r1
    refine ⟨a, rfl, .inr ⟨⟨vs, h1.t⟩, k _ ms H1 Gr.refl S (RIt.of_seq fun i ms' H' st' g S' ok => ⟨vs, RVs.gr g _ _ h2, it_tup (g.sqT' h1)⟩)⟩⟩
  | ref i =>
    simp only [iterOf] at k
    split at k
    · rename_i t e
      split at e
      · rename_i ds e1
        cases e
        obtain ⟨a, vs, rfl, ha, h1, h2⟩ := S.ref e1 r1
        refine ⟨a, rfl, .inl ⟨⟨vs, SqL.of h1⟩, k _ ms H1 Gr.refl S (RIt.of_seq fun j ms' H' st' g S' ok => ?_)⟩⟩
        obtain ⟨b, us, hb, h3, h4⟩ := S'.lst (ok i ds rfl)
        rw [g.at ha] at hb
        cases hb
        exact ⟨us, h4, it_list (SqL.of h3)⟩
      · cases e
    · exact k.elim
  | scr ns =>
    simp only [RV] at r1
    obtain ⟨a, rfl, h1⟩ := r1
    refine ⟨a, rfl, .inl ⟨⟨_, h1.l⟩, k _ ms H1 Gr.refl S (RIt.of_seq fun i ms' H' st' g S' ok => ⟨_, RVs.ints ns, it_list (g.sqS h1).l⟩)⟩⟩
  | non => exact k.elim
  | bl _ => exact k.elim
  | int _ => exact k.elim
  | str _ => exact k.elim
  | glo _ => exact k.elim
  | ty _ => exact k.elim
  | xc => exact k.elim
/-- range -/
def rngI (lo : Int) (n : Nat) : List D := (List.range n).map fun i : Nat => D.int (lo + (i : Int))
theorem RIt.rng {ms : List Addr} {lo : Int} {n : Nat} : RIt G ms H ⟨rngI lo n, none⟩ (Itr lo n) := fun i ms' H' st' g S ok => by
  have hl : (rngI lo n).length = n := by simp [rngI]
  refine ⟨fun hi => ?_, fun hi => ?_⟩
  · have hi' : i < n := by rw [← hl]; exact hi
    refine ⟨hi', fun x H2 y => ?_⟩
    obtain ⟨rfl, rfl⟩ := y
    exact ⟨.int (lo + i), by simp [rngI, hi'], Gr.refl, S, by simp only [RV]⟩
  · show n ≤ i
    rw [← hl]
    exact hi
def iR1 (a : E) : Sl → M Its := fun env st => (eArgs [a] env st).bind fun ds s => match ds with
  | [.int j] => if -(2 ^ 62) ≤ j ∧ j < 2 ^ 62 then .ok ⟨rngI 0 j.toNat, none⟩ s else .bad
  | _ => .bad
def iR2 (a b : E) : Sl → M Its := fun env st => (eArgs [a, b] env st).bind fun ds s => match ds with
  | [.int i, .int j] => if -(2 ^ 62) ≤ i ∧ i < 2 ^ 62 ∧ -(2 ^ 62) ≤ j ∧ j < 2 ^ 62 then .ok ⟨rngI i (j - i).toNat, none⟩ s else .bad
  | _ => .bad
theorem i_range1 {tg a : Expr} {p pos : Pos} {fa : E} (hm : X.mg "range" = none) (ha : PA X [a] (tA G W (eArgs [fa]))) (hg : Gl X "range" := by rfl) (hs : starEach [a] X.env = [(false, eval a X.env)] := by rfl) : PI X tg (.Call (.Name "range" p) [a] [] pos) (tI G W (iR1 fa)) :=
  PI_weak (pi_range1 hg hm ha hs) fun σ H R h => tX_mono (tX_bind h) fun vs H1 ⟨ms, st, env, ds, S, r, r1, k⟩ => by
    split at k
    · obtain ⟨v, rfl, rv⟩ := r1.one'
      simp only [RV] at rv
      subst rv
      split at k
      · rename_i hj
        exact ⟨_, rfl, hj.1, hj.2, k _ ms H1 Gr.refl S RIt.rng⟩
      · exact k.elim
    · exact k.elim
theorem i_range2 {tg a b : Expr} {p pos : Pos} {fa fb : E} (hm : X.mg "range" = none) (ha : PA X [a, b] (tA G W (eArgs [fa, fb]))) (hg : Gl X "range" := by rfl) (hs : starEach [a, b] X.env = [(false, eval a X.env), (false, eval b X.env)] := by rfl) (hs2 : starEach [b] X.env = [(false, eval b X.env)] := by rfl) : PI X tg (.Call (.Name "range" p) [a, b] [] pos) (tI G W (iR2 fa fb)) :=
  PI_weak (pi_range2 hg hm ha hs hs2) fun σ H R h => tX_mono (tX_bind h) fun vs H1 ⟨ms, st, env, ds, S, r, r1, k⟩ => by
    split at k
    · obtain ⟨v, u, rfl, rv, ru⟩ := r1.two'
      simp only [RV] at rv ru
      subst rv ru
      split at k
      · rename_i hj
        exact ⟨_, _, rfl, hj, k _ ms H1 Gr.refl S RIt.rng⟩
      · exact k.elim
    · exact k.elim
def rngC (lo c : Int) (n : Nat) : List D := (List.range n).map fun i : Nat => D.int (lo + (i : Int) * c)
theorem RIt.rngc {ms : List Addr} {lo c : Int} {n : Nat} : RIt G ms H ⟨rngC lo c n, none⟩ (Itc lo c n) := fun i ms' H' st' g S ok => by
  have hl : (rngC lo c n).length = n := by simp [rngC]
  refine ⟨fun hi => ?_, fun hi => ?_⟩
  · have hi' : i < n := by rw [← hl]; exact hi
    refine ⟨hi', fun x H2 y => ?_⟩
    obtain ⟨rfl, rfl⟩ := y
    exact ⟨.int (lo + i * c), by simp [rngC, hi'], Gr.refl, S, by simp only [RV]⟩
  · show n ≤ i
    rw [← hl]
    exact hi
open Classical in
noncomputable def iR3 (a b c : E) : Sl → M Its := fun env st => (eArgs [a, b, c] env st).bind fun ds s => match ds with
  | [.int i, .int j, .int c] => if h : ∃ n, RgC i j c n then .ok ⟨rngC i c h.choose, none⟩ s else .bad
  | _ => .bad
theorem i_range3 {tg a b c : Expr} {p pos : Pos} {fa fb fc : E} (hm : X.mg "range" = none) (ha : PA X [a, b, c] (tA G W (eArgs [fa, fb, fc]))) (hg : Gl X "range" := by rfl) (hs : starEach [a, b, c] X.env = (false, eval a X.env) :: starEach [b, c] X.env := by rfl) (hpl : (backTo pos (starEach [b, c] X.env)).any (·.1) = false := by rfl) : PI X tg (.Call (.Name "range" p) [a, b, c] [] pos) (tI G W (iR3 fa fb fc)) :=
  PI_weak (pi_range3 hg hm ha hs hpl) fun σ H R h => tX_mono (tX_bind h) fun vs H1 ⟨ms, st, env, ds, S, r, r1, k⟩ => by
    split at k
    · simp only [RVs] at r1
      obtain ⟨v, _, rfl, rv, u, _, rfl, ru, w, _, rfl, rw', rfl⟩ := r1
      simp only [RV] at rv ru rw'
      subst rv ru rw'
      split at k
      · rename_i hj
        exact ⟨_, _, _, _, rfl, hj.choose_spec, k _ ms H1 Gr.refl S RIt.rngc⟩
      · exact k.elim
    · exact k.elim
/-- enumerate(xs) of a list -/
def enumI (ds : List D) : List D := ds.zipIdx.map fun p => .tup [.int (p.2 : Int), p.1]
def iEn (a : E) : Sl → M Its := fun env st => (eArgs [a] env st).bind fun ds s => match ds with
  | [.ref i] => match s[i]? with
    | some (.lst ds) => .ok ⟨enumI ds, some (i, ds)⟩ s
    | _ => .bad
  | _ => .bad
theorem i_enum {e : Expr} {p pos tpos : Pos} {elts : List Expr} {kk : Nat} {fe : E} (hK : X.K = G.K) (hm : X.mg "enumerate" = none) (ha : PA X [e] (tA G W (eArgs [fe]))) (hg : Gl X "enumerate" := by rfl) (hs : starEach [e] X.env = [(false, eval e X.env)] := by rfl) :
    PI X (.Tuple elts kk tpos) (.Call (.Name "enumerate" p) [e] [] pos) (tI G W (iEn fe)) :=
  PI_weak (pi_enum hg hm ha hs) fun σ H R h => tX_mono (tX_bind h) fun vs H1 ⟨ms, st, env, ds, S, r, r1, k⟩ => by
    rw [hK]
    split at k
    · rename_i i
      obtain ⟨v, rfl, rv⟩ := r1.one'
      split at k
      · rename_i ds e1
        obtain ⟨a, vs, rfl, ha, h1, h2⟩ := S.ref e1 rv
        refine ⟨a, vs, rfl, SqL.of h1, k _ ms H1 Gr.refl S fun j ms' H' st' g S' ok => ?_⟩
        obtain ⟨b, us, hb, h3, h4⟩ := S'.lst (ok i ds rfl)
        rw [g.at ha] at hb
        cases hb
        have hl : (enumI ds).length = ds.length := by simp [enumI]
        have hul := h4.length
        refine ⟨fun hj => ?_, fun hj => ⟨us, SqL.of h3, by
          have hj : (enumI ds).length ≤ j := hj
          omega⟩⟩
        have hj : j < (enumI ds).length := hj
        have hj' : j < us.length := by omega
        refine ⟨⟨us, us[j], SqL.of h3, by simp [hj']⟩, fun x H2 y => ?_⟩
        obtain ⟨T, w, rfl, hT, rfl, hw⟩ := y
        have e5 := hw us (SqL.of h3)
        obtain ⟨d, e6, r6⟩ := h4.back e5
        refine ⟨.tup [.int (j : Int), d], by simp [enumI, e6], Gr.new0 hT, S'.lay hT, ?_⟩
        simp only [RV]
        refine ⟨T, _, rfl, .inl upd_same, ?_⟩
        simp only [RVs]
        exact ⟨_, _, rfl, by simp only [RV], _, _, rfl, RV.gr (Gr.new0 hT) _ _ r6, rfl⟩
      · exact k.elim
    · exact k.elim

/-! ### for -/
open Classical in
noncomputable def forS (p : Its) (t : Tg) (body : Sm) : List D → Sm
  | [] => fun env st => if p.okB st then .nx env st else .bad
  | d :: ds => fun env st => if p.okB st then match Tg.sem st t d env with
      | some e => match body e st with
        | .nx e s => forS p t body ds e s
        | .ct e s => forS p t body ds e s
        | .bk e s => .nx e s
        | r => r
      | none => .bad
    else .bad
noncomputable def sFor (it : Sl → M Its) (t : Tg) (body : Sm) : Sm := fun env st => (it env st).out env fun p s => forS p t body p.items env s
theorem s_for {iter tgt : Expr} {body : List Stmt} {it : Sl → M Its} {t : Tg} {fb : Sm} {pos : Pos} (hc : X.calm = true) (hp : PassesOwn (model X.prog X.w) X.A X.env X.xe) (hi : PI X tgt iter (tI G W it)) (hg : PG X tgt (Tg.tg G.K t)) (hb : PSs X body (tS G W fb))
    (hs : ∀ x, foldedSetIterable iter X.env x = pure x := by intro _; rfl) : PS X (.For tgt iter body [] pos) (tS G W (sFor it t fb)) :=
  PS_weak (ps_for hp hc hi hg hb hs) fun K σ H h => tX_mono (tX_out (k := fun env p s => forS p t fb p.items env s) h) fun J H1 ⟨ms, st, env, p, S, r, r1, k⟩ => by
    refine ⟨fun i m σ' H' => ∃ ms' st' env', Gr ms H1 ms' H' ∧ SRel G ms' st' H' ∧ RE G ms' H' env' σ' ∧ i ≤ p.items.length ∧ m = p.items.length - i ∧ OutOk G W K ms' H' (forS p t fb (p.items.drop i) env' st'),
      ⟨p.items.length, ms, st, env, Gr.refl, S, r, Nat.zero_le _, rfl, k⟩, ?_⟩
    rintro i m σ' H' ⟨ms', st', env', g', S', r', hi, rfl, k'⟩
    by_cases hlt : i < p.items.length
    · rw [List.drop_eq_getElem_cons hlt] at k'
      simp only [forS] at k'
      split at k'
      · rename_i ok
        obtain ⟨h1, h2⟩ := (r1 i ms' H' st' g' S' ok).1 hlt
        refine .inr ⟨h1, fun σ2 H2 => ∃ ms2 st2 env2, Gr ms H1 ms2 H2 ∧ SRel G ms2 st2 H2 ∧ RE G ms2 H2 env2 σ2 ∧ OutOk G W K ms2 H2 (forS p t fb (p.items.drop (i + 1)) env2 st2), fun σ2 H2 ⟨ms2, st2, env2, g2, S2, r2, k2⟩ =>
          ⟨p.items.length - (i + 1), by omega, ms2, st2, env2, g2, S2, r2, hlt, rfl, k2⟩, fun x H2 y => ?_⟩
        obtain ⟨d, e1, g2, S2, rx⟩ := h2 x H2 y
        have ed : p.items[i] = d := by
          rw [List.getElem?_eq_getElem hlt] at e1
          exact Option.some.inj e1
        rw [ed] at k'
        split at k'
        · rename_i e he
          obtain ⟨σ2, a, b, _⟩ := Tg.ok S2 t d env' e x σ' he rx (r'.gr g2)
          refine b _ ⟨ms', st', e, S2, a, ?_⟩
          have k' := OutOk.gr g2 k'
          cases e4 : fb e st' with
          | nx e5 s5 =>
            rw [e4] at k'
            exact fun σ5 m5 H5 g5 S5 r5 => ⟨m5, s5, e5, (g'.trans g2).trans g5, S5, r5, OutOk.gr g5 k'⟩
          | ct e5 s5 =>
            rw [e4] at k'
            exact fun σ5 m5 H5 g5 S5 r5 => ⟨m5, s5, e5, (g'.trans g2).trans g5, S5, r5, OutOk.gr g5 k'⟩
          | bk e5 s5 =>
            rw [e4] at k'
            exact k'
          | rt d5 s5 =>
            rw [e4] at k'
            exact k'
          | exn c fs e5 s5 =>
            rw [e4] at k'
            exact k'
          | bad =>
            rw [e4] at k'
            exact k'
        · exact k'.elim
      · exact k'.elim
    · have hn : p.items.drop i = [] := List.drop_eq_nil_of_le (Nat.le_of_not_lt hlt)
      rw [hn] at k'
      simp only [forS] at k'
      split at k'
      · rename_i ok
        exact .inl ⟨(r1 i ms' H' st' g' S' ok).2 (Nat.le_of_not_lt hlt), k' σ' ms' H' Gr.refl S' r'⟩
      · exact k'.elim

/-! ### while -/
def whileN (c : T) (body : Sm) : Nat → Sm
  | 0 => fun _ _ => .bad
  | n + 1 => fun env st => (c env st).out env fun k s => if k = true then match body env s with
      | .nx e s => whileN c body n e s
      | .ct e s => whileN c body n e s
      | .bk e s => .nx e s
      | r => r
    else .nx env s
open Classical in
noncomputable def sWhile (c : T) (body : Sm) : Sm := fun env st => if h : ∃ n, whileN c body n env st ≠ .bad then whileN c body h.choose env st else .bad
theorem s_while {c : Expr} {body : List Stmt} {tc : T} {fb : Sm} {pos : Pos} (hp : PassesOwn (model X.prog X.w) X.A X.env X.xe) (hc : PT X c (tT G W tc)) (hb : PSs X body (tS G W fb)) : PS X (.While c body [] pos) (tS G W (sWhile tc fb)) :=
  PS_weak (ps_while hp hc hb) fun K σ H ⟨ms, st, env, S, r, k⟩ => by
    unfold sWhile at k
    split at k
    · rename_i hn
      refine ⟨fun m σ' H' => ∃ ms' st' env', SRel G ms' st' H' ∧ RE G ms' H' env' σ' ∧ OutOk G W K ms' H' (whileN tc fb m env' st'), ⟨_, ms, st, env, S, r, k⟩, ?_⟩
      rintro m σ' H' ⟨ms', st', env', S', r', k'⟩
      cases m with
      | zero => exact k'.elim
      | succ m =>
        have q : tS G W (fun env st => (tc env st).out env fun k s => if k = true then match fb env s with
            | .nx e s => whileN tc fb m e s
            | .ct e s => whileN tc fb m e s
            | .bk e s => .nx e s
            | r => r
          else .nx env s) K σ' H' := ⟨ms', st', env', S', r', k'⟩
        refine tX_mono (tX_out (k := fun env k s => if k = true then match fb env s with
            | .nx e s => whileN tc fb m e s
            | .ct e s => whileN tc fb m e s
            | .bk e s => .nx e s
            | r => r
          else .nx env s) q) fun b H1 ⟨ms, st, env, b', S, r, r1, k⟩ => ?_
        cases r1
        cases b with
        | true =>
          rw [if_pos rfl]
          have k : OutOk G W K ms H1 (match fb env st with
            | .nx e s => whileN tc fb m e s
            | .ct e s => whileN tc fb m e s
            | .bk e s => .nx e s
            | r => r) := by simpa using k
          refine ⟨fun σ2 H2 => ∃ ms2 st2 env2, SRel G ms2 st2 H2 ∧ RE G ms2 H2 env2 σ2 ∧ OutOk G W K ms2 H2 (whileN tc fb m env2 st2), fun σ2 H2 ⟨ms2, st2, env2, S2, r2, k2⟩ => ⟨m, Nat.lt_succ_self _, ms2, st2, env2, S2, r2, k2⟩, ms, st, env, S, r, ?_⟩
          cases e4 : fb env st with
          | nx e5 s5 =>
            rw [e4] at k
            exact fun σ5 m5 H5 g5 S5 r5 => ⟨m5, s5, e5, S5, r5, OutOk.gr g5 k⟩
          | ct e5 s5 =>
            rw [e4] at k
            exact fun σ5 m5 H5 g5 S5 r5 => ⟨m5, s5, e5, S5, r5, OutOk.gr g5 k⟩
          | bk e5 s5 =>
            rw [e4] at k
            exact k
          | rt d5 s5 =>
            rw [e4] at k
            exact k
          | exn c fs e5 s5 =>
            rw [e4] at k
            exact k
          | bad =>
            rw [e4] at k
            exact k
        | false =>
          rw [if_neg Bool.false_ne_true]
          have k : OutOk G W K ms H1 (.nx env st) := by simpa using k
          exact k _ ms H1 Gr.refl S r
    · exact k.elim

/-! ### list comprehensions -/
def wipeD (e : Sl) : List Nat → Sl
  | [] => e
  | v :: vs => (wipeD e vs).set v none
theorem RE.wipe {ms : List Addr} {e : Sl} {σ : L2.St} (r : RE G ms H e σ) : ∀ vs : List Nat, RE G ms H (wipeD e vs) (L2.wipe σ vs)
  | [] => r
  | v :: vs => by
    unfold wipeD L2.wipe
    exact RE.unset v (RE.wipe r vs)
open Classical in
noncomputable def lcS (p : Its) (vs : List Nat) (t : Tg) (c : T) (e : E) (L : Nat) (env : Sl) : List D → Sto → Option Sto
  | [] => fun st => if p.okB st then some st else none
  | d :: ds => fun st => if p.okB st then match Tg.sem st t d (wipeD env vs) with
      | some e1 => match c e1 st with
        | .ok true s => match e e1 s with
          | .ok y s => match s[L]? with
            | some (.lst acc) => if acc.length < LIM then lcS p vs t c e L env ds (s.set L (.lst (acc ++ [y]))) else none
            | _ => none
          | _ => none
        | .ok false s => lcS p vs t c e L env ds s
        | _ => none
      | none => none
    else none
noncomputable def eLc (vs : List Nat) (it : Sl → M Its) (t : Tg) (c : T) (e : E) : E := fun env st => (it env st).bind fun p s => match lcS p vs t c e s.length env p.items (s ++ [.lst []]) with
  | some s' => .ok (.ref s.length) s'
  | none => .bad
abbrev W0 : WX := fun _ _ _ _ => False
theorem lc_tLc {vs : List Nat} {it : Sl → M Its} {t : Tg} {tc : T} {fe : E} {Q : VK} (hv : ∀ i ∈ Tg.names t, i ∈ vs) (h : tE G W (eLc vs it t tc fe) σ H Q) : tLc (tI G W it) (Tg.tg G.K t) (tT G W0 tc) (tE G W0 fe) vs σ H Q :=
  tX_mono (tX_bind h) fun J H1 ⟨ms, st, env, p, S, r, r1, k⟩ => by
    intro Dl hD
    split at k
    · rename_i sf ef
      have g0 : Gr ms H1 (ms ++ [Dl]) (upd H1 Dl (.lst [])) := Gr.new hD [Dl]
      refine ⟨fun i m H' => ∃ ms' st', Gr (ms ++ [Dl]) (upd H1 Dl (.lst [])) ms' H' ∧ SRel G ms' st' H' ∧ i ≤ p.items.length ∧ m = p.items.length - i ∧ lcS p vs t tc fe st.length env (p.items.drop i) st' = some sf,
        ⟨p.items.length, ms ++ [Dl], st ++ [.lst []], Gr.refl, S.new (c := .lst []) hD ⟨[], upd_same, by simp only [RVs]⟩, Nat.zero_le _, rfl, by rw [List.drop_zero]; exact ef⟩, ?_⟩
      rintro i m H' ⟨ms', st', g', S', hi, rfl, k'⟩
      have hL : ms'[st.length]? = some Dl := g'.at (by rw [← S.len]; simp)
      by_cases hlt : i < p.items.length
      · rw [List.drop_eq_getElem_cons hlt] at k'
        simp only [lcS] at k'
        split at k'
        · rename_i ok
          obtain ⟨h1, h2⟩ := (r1 i ms' H' st' (g0.trans g') S' ok).1 hlt
          refine .inr ⟨h1, fun H2 => ∃ ms2 st2, Gr (ms ++ [Dl]) (upd H1 Dl (.lst [])) ms2 H2 ∧ SRel G ms2 st2 H2 ∧ lcS p vs t tc fe st.length env (p.items.drop (i + 1)) st2 = some sf, fun H2 ⟨ms2, st2, g2, S2, k2⟩ =>
            ⟨p.items.length - (i + 1), by omega, ms2, st2, g2, S2, hlt, rfl, k2⟩, fun x H2 y => ?_⟩
          obtain ⟨d, e1, g2, S2, rx⟩ := h2 x H2 y
          have ed : p.items[i] = d := by
            rw [List.getElem?_eq_getElem hlt] at e1
            exact Option.some.inj e1
          rw [ed] at k'
          split at k'
          · rename_i e he
            have rw1 := (r.gr ((g0.trans g').trans g2)).wipe vs
            obtain ⟨σ2, a, b, cw⟩ := Tg.ok S2 t d _ e x _ he rx rw1
            refine b _ ⟨?_, ms', st', e, S2, a, ?_⟩
            · rw [cw vs hv]
              have ww : ∀ (l : List Nat) (τ : L2.St), L2.wipe (L2.wipe τ l) l = L2.wipe τ l := by
                intro l
                induction l with
                | nil => intro τ; rfl
                | cons w l ih =>
                  intro τ
                  show (L2.wipe ((L2.wipe τ l).set w none) l).set w none = (L2.wipe τ l).set w none
                  by_cases hw : w ∈ l
                  · rw [wipe_set hw, ih]
                  · have out : ∀ (m : List Nat) (τ : L2.St), w ∉ m → L2.wipe (τ.set w none) m = (L2.wipe τ m).set w none := by
                      intro m
                      induction m with
                      | nil => intro τ _; rfl
                      | cons u m ihm =>
                        intro τ hu
                        simp only [List.mem_cons, not_or] at hu
                        unfold L2.wipe
                        rw [ihm τ hu.2, List.set_comm _ _ hu.1]
                    rw [out l _ hw, List.set_set, ih]
              exact ww vs σ
            · cases e4 : tc e st' with
              | ok b4 s4 =>
                rw [e4] at k'
                intro b5 m5 H5 g5 S5 r5
                cases r5
                cases b4 with
                | true =>
                  rw [if_pos rfl]
                  refine ⟨m5, s4, e, S5, a.gr g5, ?_⟩
                  simp only at k'
                  cases e6 : fe e s4 with
                  | ok y6 s6 =>
                    rw [e6] at k'
                    intro v6 m6 H6 g6 S6 r6
                    simp only at k'
                    split at k'
                    · rename_i acc ea
                      split at k'
                      · rename_i hl
                        have hLL : m6[st.length]? = some Dl := ((g2.trans g5).trans g6).at hL
                        obtain ⟨b7, us, hb7, h7, h8⟩ := S6.lst ea
                        rw [hLL] at hb7
                        cases hb7
                        obtain ⟨c9, _, hc9⟩ := S6.has hLL
                        have g9 : Gr m6 H6 m6 (upd H6 Dl (.lst (us ++ [v6]))) := Gr.cell hc9
                        exact ⟨us, h7, by rw [h8.length]; exact LIM_lt hl, m6, _, (((g'.trans g2).trans g5).trans g6).trans g9, S6.put (c := .lst (acc ++ [y6])) hLL ⟨_, upd_same, RVs.gr g9 _ _ (h8.app (.one r6))⟩, k'⟩
                      · cases k'
                    · cases k'
                  | exn c fs s => rw [e6] at k'; cases k'
                  | bad => rw [e6] at k'; cases k'
                | false =>
                  rw [if_neg Bool.false_ne_true]
                  exact ⟨m5, s4, (g'.trans g2).trans g5, S5, k'⟩
              | exn c fs s => rw [e4] at k'; cases k'
              | bad => rw [e4] at k'; cases k'
          · cases k'
        · cases k'
      · have hn : p.items.drop i = [] := List.drop_eq_nil_of_le (Nat.le_of_not_lt hlt)
        rw [hn] at k'
        simp only [lcS] at k'
        split at k'
        · rename_i ok
          cases k'
          refine .inl ⟨(r1 i ms' H' sf (g0.trans g') S' ok).2 (Nat.le_of_not_lt hlt), k (.ref Dl) ms' H' (g0.trans g') S' ?_⟩
          simp only [RV]
          exact ⟨Dl, rfl, hL⟩
        · cases k'
    · exact k.elim
def tYes' : T := fun _ st => .ok true st
theorem ts_nil : PTs X [] (tT G W tYes') := ⟨fun pins s σ H Q I ⟨ms, st, env, S, _, k⟩ => pts_nil.run pins s σ H Q I (k true ms H Gr.refl S rfl)⟩
theorem ts_one {c : Expr} {tc : T} (h : PT X c (tT G W tc)) : PTs X [c] (tT G W tc) := pts_one h
theorem e_lc {elt tg iter : Expr} {ifs : List Expr} {scope : Scope} {own : List (Str × Nat)} {pos : Pos} {it : Sl → M Its} {t : Tg} {tc : T} {fe : E} (hc : X.calm = true) (hN : X.N.Nodup) (hi : PI X tg iter (tI G W it)) (ok : BlkOk X.N X.env.scope scope own)
    (hg : ∀ (s : Shared) (H : Hp) (C : Addr) (cl : List (Str × Addr)) (fp : List Addr), PG (X.blk s H scope (compEnvC scope cl C X.env) fp) tg (Tg.tg G.K t)) (ht : ∀ (s : Shared) (H : Hp) (C : Addr) (cl : List (Str × Addr)) (fp : List Addr), PTs (X.blk s H scope (compEnvC scope cl C X.env) fp) ifs (tT G W0 tc))
    (he : ∀ (s : Shared) (H : Hp) (C : Addr) (cl : List (Str × Addr)) (fp : List Addr), PE (X.blk s H scope (compEnvC scope cl C X.env) fp) elt (tE G W0 fe)) (hv : ∀ i ∈ Tg.names t, i ∈ own.map (·.2) := by decide) (hs : ∀ x, foldedSetIterable iter X.env x = pure x := by intro _; rfl) :
    PE X (.ListComp elt [⟨tg, iter, ifs, 0⟩] scope pos) (tE G W (eLc (own.map (·.2)) it t tc fe)) :=
  PE_weak (pe_lc hc hN hi ok hg ht he hs) fun σ H Q h => lc_tLc hv h
theorem s_setLc {i : Nat} {y : Str} {py : Pos} {elt tg iter : Expr} {ifs : List Expr} {scope : Scope} {own : List (Str × Nat)} {pos spos : Pos} {it : Sl → M Its} {t : Tg} {tc : T} {fe : E} (hc : X.calm = true) (hN : X.N.Nodup) (hi : PI X tg iter (tI G W it)) (ok : BlkOk X.N X.env.scope scope own)
    (hsw : swapsWith (.ListComp elt [⟨tg, iter, ifs, 0⟩] scope pos) (some (.Name y py)) spos.line X.env = pure true)
    (hg : ∀ (s : Shared) (H : Hp) (C : Addr) (cl : List (Str × Addr)) (fp : List Addr), PG (X.blk s H scope (compEnvC scope cl C X.env) fp) tg (Tg.tg G.K t)) (ht : ∀ (s : Shared) (H : Hp) (C : Addr) (cl : List (Str × Addr)) (fp : List Addr), PTs (X.blk s H scope (compEnvC scope cl C X.env) fp) ifs (tT G W0 tc))
    (he : ∀ (s : Shared) (H : Hp) (C : Addr) (cl : List (Str × Addr)) (fp : List Addr), PE (X.blk s H scope (compEnvC scope cl C X.env) fp) elt (tE G W0 fe)) (hv : ∀ i ∈ Tg.names t, i ∈ own.map (·.2) := by decide) (hy : X.N[i]? = some y := by rfl) (hyl : X.env.scope.names.lookup y = some .local := by rfl) (hs : ∀ x, foldedSetIterable iter X.env x = pure x := by intro _; rfl) :
    PS X (.Assign [.Name y py] (.ListComp elt [⟨tg, iter, ifs, 0⟩] scope pos) spos) (tS G W (sAsg (.name i) (eLc (own.map (·.2)) it t tc fe))) :=
  PS_weak (ps_setLc hc hN hy hyl hsw hi ok hg ht he hs) fun K σ H h => by
    have q := asg_fin h
    simp only [Tg.tg] at q
    exact lc_tLc hv q

/-! ### defs -/
def Out.fin : Out → Res D
  | .nx _ s => .ok .non s
  | .rt d s => .ok d s
  | .exn c fs _ s => .exn c fs s
  | _ => .bad
def fnS (n m : Nat) (body : Sm) : F := fun ds st => if ds.length = n then (body (ds.map some ++ List.replicate (m - n) none) st).fin else .bad
theorem fn_ok {P : Program} {w : World} {mg : Str → Option Value} {base : Heap} {x qual : Str} {st : Stmt} {f : Addr} {fd : FuncData} {N ps : List Str} {k : Nat} {body : Sm} (T : Fun G.K x qual st f fd) (S : FnScope N ps (defScope st))
    (hb : ∀ (cdv : Value) (A : Around) (outer : List Env) (s : Shared) (H : Hp) (E : XK), Room k (A.deeper (envOfC qual (defScope st) s.heap.objs.size f cdv)) →
      PSs (cxOf (L2.CX P w) P w G.K mg base N qual (defScope st) f cdv A outer s H E) (defBody st) (tS G (fun cls d _ H => E cls d H) body)) : FnOk P w G.K mg base (L2.CX P w) (k + 1) f fd ps (spF G (fnS ps.length N.length body)) := by
  have hlen : ∀ vs H Q E, spF G (fnS ps.length N.length body) vs H Q E → vs.length = ps.length := by
    rintro vs H Q E ⟨ms, st, ds, S1, r, q⟩
    unfold fnS at q
    split at q
    · rename_i hl
      rw [r.length, hl]
    · exact q.elim
  refine T.okX S hlen fun cdv A outer s H vs Q E hr h => ⟨_, hb cdv A outer s H E hr, ?_⟩
  have hl := hlen vs H Q E h
  obtain ⟨ms, st1, ds, S1, r, q⟩ := h
  have hl2 : ds.length = ps.length := by rw [← r.length]; exact hl
  unfold fnS at q
  rw [if_pos hl2] at q
  refine ⟨ms, st1, ds.map some ++ List.replicate (N.length - ps.length) none, S1, ?_, ?_⟩
  · unfold L2.start
    rw [hl]
    exact RE.start _ r
  · cases e : body (ds.map some ++ List.replicate (N.length - ps.length) none) st1 with
    | nx e1 s1 =>
      rw [e] at q
      exact fun σ' m1 H1 g1 S1 _ => q .non m1 H1 g1 S1 (by simp only [RV])
    | rt d s1 =>
      rw [e] at q
      exact q
    | exn c fs e1 s1 =>
      rw [e] at q
      exact fun od σ' m1 H1 g1 S1 _ x1 => q od m1 H1 g1 S1 x1
    | bk e1 s1 => rw [e] at q; exact q.elim
    | ct e1 s1 => rw [e] at q; exact q.elim
    | bad => rw [e] at q; exact q.elim
end
end LF

set_option Elab.async false
set_option linter.all false
set_option maxRecDepth 100000
set_option maxHeartbeats 4000000
/-! The layer: == and != by an own __eq__. -/
namespace LF
open PySem PySem.Spec PyProof.Rows L2
section
open PySem.W Builtin
variable {prog : Program} {w : World} {A : Around} {E : Value → Shared → Prop} {s : Shared} {K : PySem.W.Frag} {x C f : Addr} {ox : Obj} {od : Option Obj} {b tb : Value}
theorem objNe_own {Q : Fin → Shared → Prop} (hu : A.units < cLine) (X : K.In s.heap) (I : PySem.W.InstAt s.heap x ox C od) (hs : PySem.W.findIn K (.ref C) "__eq__" = some (some (.ref f))) (hf : PySem.W.isFn K (.ref f) = true)
    (h : wpAny (model prog w) A (call (.ref f) [.ref x, b]) (fun v s' => ∃ k, v = .bool k ∧ Q (.done (.ret (.bool (!k)))) s') E s) : wpAny (model prog w) A (Builtin.«object.__ne__» ⟨[.ref x, b], []⟩) Q E s := by
  unfold Builtin.«object.__ne__»
  repeat (first
    | with_reducible refine wpAny_cRoomFor hu ?_
    | (refine wpAny_bind (m := callSpecialIfBound? (.ref x) (Str.ofString "__eq__") [b])
        (PySem.W.ifBound_K X I hs hf (wpAny_mono h (fun r s' hr => by
          obtain ⟨k, rfl, hq⟩ := hr
          repeat (first | exact hq | exact wpAny_pure hq | exact wpAny_truthy_bool hq | (refine wpAny_bind (m := truthy (.bool _)) (wpAny_truthy_bool ?_)) | wp_step)) fun _ _ e => e)))
    | wp_step)
theorem ifBound_ne {Q : Option Value → Shared → Prop} (X : K.In s.heap) (I : PySem.W.InstAt s.heap x ox C od) (hs : PySem.W.findIn K (.ref C) "__ne__" = some (some (.builtin "object.__ne__")))
    (h : wpAny (model prog w) A (call (.builtin "object.__ne__") (.ref x :: [b])) (fun v => Q (some v)) E s) : wpAny (model prog w) A (callSpecialIfBound? (.ref x) "__ne__" [b]) Q E s := by
  simp only [callSpecialIfBound?, bindSpecialIfBound?]
  refine wpAny_holding (wpAny_bind (wpAny_bind (wpAny_bind (I.type.here ((PySem.W.looks_findIn X hs).here ?_)))))
  refine wpAny_bind (wpAny_askSetting (wpAny_ite ?_))
  have fin : wpAny (model prog w) A (call (.builtin "object.__ne__") ([.ref x] ++ [b]) >>= fun v => pure (some v)) Q E s := wpAny_bind (wpAny_mono h (fun v s' h' => wpAny_pure h') fun _ _ h' => h')
  simp only [F.cmp_object.ne.bind]
  split
  · exact wpAny_bind (wpAny_pure (wpAny_pure fin))
  · exact wpAny_tryCatch (wpAny_bind (wpAny_pure (wpAny_pure fin)))
theorem tryNe_own {Q : Option Value → Shared → Prop} (hu : A.units + 1 < cLine) (X : K.In s.heap) (I : PySem.W.InstAt s.heap x ox C od) (hn : PySem.W.findIn K (.ref C) "__ne__" = some (some (.builtin "object.__ne__"))) (hs : PySem.W.findIn K (.ref C) "__eq__" = some (some (.ref f)))
    (hf : PySem.W.isFn K (.ref f) = true) (hm : PySem.W.mroIn K C (.type "object") = some true)
    (h : wpAny (model prog w) A.in1 (call (.ref f) [.ref x, b]) (fun v s' => ∃ k, v = .bool k ∧ Q (some (.bool (!k))) s') E s) : wpAny (model prog w) A (tryCompare (.ref x) "__ne__" b) Q E s := by
  simp only [tryCompare]
  have sub : PySem.W.Looks (model prog w) s.heap (isInstance (.ref x) (.type "object")) true := I.type.andThen (PySem.W.looks_mroIn X hm)
  refine wpAny_bind (ifBound_ne X I hn (wpAny_call (codeAny_call_builtin F.cmp_object.ne.plain F.cmpEntry_ne
    (@PySem.W.check_slot (model prog w) _ _ s "object.__ne__" "object" "__ne__" (.ref x) [b] [] _ F.cmpKind_ne F.cmpSplit_ne sub (F.cmpArgs_ne _ _)
      (objNe_own (A := A.in1) hu X I hs hf (wpAny_mono h (fun v s' hv => ?_) fun _ _ e => e))))))
  obtain ⟨k, rfl, hq⟩ := hv
  first | exact ⟨k, rfl, wpAny_pure hq⟩ | exact ⟨k, rfl, wpAny_pure (wpAny_pure hq)⟩ | exact ⟨k, rfl, hq⟩
theorem ne_own {Q : Value → Shared → Prop} (hu : A.units + 1 < cLine) (X : K.In s.heap) (I : PySem.W.InstAt s.heap x ox C od) (hb : PySem.W.Looks (model prog w) s.heap (typeOf b) tb) (hnf : PySem.W.notFirst K C tb = true)
    (hn : PySem.W.findIn K (.ref C) "__ne__" = some (some (.builtin "object.__ne__"))) (hs : PySem.W.findIn K (.ref C) "__eq__" = some (some (.ref f))) (hf : PySem.W.isFn K (.ref f) = true) (hm : PySem.W.mroIn K C (.type "object") = some true)
    (h : wpAny (model prog w) A.in1 (call (.ref f) [.ref x, b]) (fun v s' => ∃ k, v = .bool k ∧ Q (.bool (!k)) s') E s) : wpAny (model prog w) A (richCompare .NotEq (.ref x) b) Q E s := by
  have one : wpAny (model prog w) A (tryCompare (.ref x) "__ne__" b) (fun r s' => ∃ v, r = some v ∧ Q v s') E s :=
    tryNe_own hu X I hn hs hf hm (wpAny_mono h (fun v s' ⟨k, e, q⟩ => ⟨k, e, _, rfl, q⟩) fun _ _ e => e)
  unfold richCompare
  simp only [oneThing_ref]
  refine wpAny_holding (wpAny_bind (wpAny_cRoomFor (Nat.lt_of_succ_lt hu) ?_))
  rw [cmpInfo_NotEq]
  dsimp only
  refine wpAny_bind (I.type.here (wpAny_bind (hb.here ?_)))
  split
  · rename_i q
    have e : PySem.W.subIn K tb (.ref C) = some false := by
      rcases Bool.or_eq_true_iff.mp hnf with e | e
      · rw [beq_iff_eq.mp e] at q; simp at q
      · exact beq_iff_eq.mp e
    refine wpAny_bind ((PySem.W.looks_subIn X e).here ?_)
    simp only [Bool.false_eq_true, if_false]
    refine wpAny_bind (wpAny_mono one (fun r s' z => ?_) fun _ _ e => e)
    obtain ⟨v, rfl, hq⟩ := z
    exact wpAny_pure hq
  · refine wpAny_bind (wpAny_pure ?_)
    simp only [Bool.false_eq_true, if_false]
    refine wpAny_bind (wpAny_mono one (fun r s' z => ?_) fun _ _ e => e)
    obtain ⟨v, rfl, hq⟩ := z
    exact wpAny_pure hq
end
section
variable {G : Gx} {W : WX} {X : Cx} {σ : L2.St} {H : Hp}
/-- what is known of a class with an own __eq__, and of the def -/
structure OwnEq (X : Cx) (G : Gx) (c : Nat) (g : F) (k : Nat) : Prop where
  ex : ∃ (f : Addr) (fd : FuncData) (ps : List Str), FnOk X.prog X.w X.K X.mg X.base (L2.CX X.prog X.w) k f fd ps (spF G g) ∧ Binds X.K fd ps [] ∧ PySem.W.findIn X.K (.ref (G.tb c)) "__eq__" = some (some (.ref f)) ∧ PySem.W.isFn X.K (.ref f) = true
  ne : PySem.W.findIn X.K (.ref (G.tb c)) "__ne__" = some (some (.builtin "object.__ne__"))
  mro : PySem.W.mroIn X.K (G.tb c) (.type "object") = some true
/-- x == y, x an instance of the class c, g the own __eq__ -/
def rOwn (G : Gx) (neg : Bool) (c : Nat) (g : F) (ok : Kd → Bool) : R2 := fun v u H Q => ∃ ms st x y i fs k, SRel G ms st H ∧ RV G ms H x v ∧ RV G ms H y u ∧ x = .ref i ∧ st[i]? = some (.ins c fs) ∧ kind y st = some k ∧ ok k = true ∧
  Okk (RV G) G (fun _ _ _ => False) (fun z H' => ∃ b, z = .bl b ∧ Q (.bl (if neg then !b else b)) H') ms H (g [x, y] st)
theorem run_own {k : Nat} {g : F} {pins : List (Addr × Obj)} {s : Shared} {A : Around} {a : Addr} {v2 : V} {u : Value} {Q : VK} {f : Addr} {fd : FuncData} {ps : List Str} (T : FnOk X.prog X.w X.K X.mg X.base (L2.CX X.prog X.w) k f fd ps (spF G g)) (hb : Binds X.K fd ps []) (hr : Room k A) (hfr : A.frames = X.A.frames)
    (I : Inv X pins σ H s) (ru : RelV v2 u) (h : spF G g [.ref a, v2] H Q (fun _ _ _ => False)) : wpAny (model X.prog X.w) A (PySem.call (.ref f) [.ref a, u]) (EP X pins σ Q) X.xe s := by
  have e0 : Env0 X.prog X.w X.K X.mg X.base A X.stack s H := by
    have e := I.env0
    exact ⟨by rw [hfr]; exact e.frames, e.mod, e.bs, e.bsz, e.funs, e.frf, e.hok, e.bare⟩
  have hl := T.len _ _ _ _ h
  have r2 : Vals [V.ref a, v2] [Value.ref a, u] := .cons rfl (.cons ru .nil)
  refine wpAny_call (codeAny_mono (T.run A X.stack s H ⟨[.ref a, u], []⟩ [.ref a, u] [.ref a, v2] _ _ hr e0 (by
    have := hb s [.ref a, u] I.kIn (by simpa using hl)
    simpa using this) r2 h) fun r s' hq => ?_)
  cases r with
  | error e => exact passL pins σ H s e s' I hq
  | ok fl =>
    cases fl with
    | ret w => exact I.after hq
    | next => exact False.elim hq
    | brk => exact False.elim hq
    | cont => exact False.elim hq
theorem own_pre {c : Nat} {g : F} {ok : Kd → Bool} {neg : Bool} {v u : V} {Q : VK} (hK : X.K = G.K) (hok : ∀ k, ok k = true → ∃ t, KdT G k t ∧ PySem.W.notFirst G.K (G.tb c) t = true) {pins : List (Addr × Obj)} {s : Shared} {uv : Value} (I : Inv X pins σ H s) (ru : RelV u uv)
    (h : rOwn G neg c g ok v u H Q) : ∃ (a : Addr) (ox : Obj) (od : Option Obj) (tb : Value), v = .ref a ∧ PySem.W.InstAt s.heap a ox (G.tb c) od ∧ PySem.W.Looks (model X.prog X.w) s.heap (typeOf uv) tb ∧ PySem.W.notFirst X.K (G.tb c) tb = true ∧
      spF G g [.ref a, u] H (fun z H' => ∃ b, z = .bl b ∧ Q (.bl (if neg then !b else b)) H') (fun _ _ _ => False) := by
  obtain ⟨ms, st, x, y, i, fs, k, S, rx, ry, rfl, ei, ek, ho, q⟩ := h
  have rx0 := rx
  obtain ⟨a, dx, gs, rfl, _, h1, _⟩ := S.ins ei rx
  obtain ⟨mA, J, _⟩ := ins_get I.hok h1
  obtain ⟨od, J, _⟩ := J.look
  obtain ⟨t, ht, hn⟩ := hok k ho
  obtain ⟨P, Z, p, _⟩ := kit_of I ru (by rw [hK]; exact kd_ok S ry ek ht)
  exact ⟨a, _, _, t, rfl, J, Z.ty _ _ I.kIn p, by rw [hK]; exact hn, ms, st, [.ref i, y], S, by
    simp only [RVs]
    exact ⟨_, _, rfl, rx0, _, _, rfl, ry, rfl⟩, q⟩
theorem op_own {k c : Nat} {g : F} {ok : Kd → Bool} (hK : X.K = G.K) (T : OwnEq X G c g k) (hr : Room k X.A) (hok : ∀ k, ok k = true → ∃ t, KdT G k t ∧ PySem.W.notFirst G.K (G.tb c) t = true) : OpR X (compareOp .Eq) (rOwn G false c g ok) := by
  intro pins s σ H v u vv uv Q I rv ru h
  obtain ⟨a, ox, od, tb, rfl, J, L, hn, sp⟩ := own_pre hK hok I ru h
  cases rv
  obtain ⟨f, fd, ps, FO, hb, hs, hf⟩ := T.ex
  obtain ⟨m, hF⟩ := I.fr
  show wpAny (model X.prog X.w) X.A (richCompare .Eq (.ref a) uv) (EP X pins σ Q) X.xe s
  refine PySem.W.cmp_K (op := .Eq) hr.units0 hF I.ok.mod.kin J L hn hs hf ?_
  refine wpAny_mono (run_own FO hb hr rfl I ru sp) (fun w s' ⟨z, H', I', rz, b, ez, q⟩ => ?_) fun _ _ e => e
  subst ez
  cases rz
  exact ⟨.bl b, H', I', rfl, q⟩
theorem op_ownN {k c : Nat} {g : F} {ok : Kd → Bool} (hK : X.K = G.K) (T : OwnEq X G c g k) (hr : Room (k + 1) X.A) (hok : ∀ k, ok k = true → ∃ t, KdT G k t ∧ PySem.W.notFirst G.K (G.tb c) t = true) : OpR X (compareOp .NotEq) (rOwn G true c g ok) := by
  intro pins s σ H v u vv uv Q I rv ru h
  obtain ⟨a, ox, od, tb, rfl, J, L, hn, sp⟩ := own_pre hK hok I ru h
  cases rv
  obtain ⟨f, fd, ps, FO, hb, hs, hf⟩ := T.ex
  show wpAny (model X.prog X.w) X.A (richCompare .NotEq (.ref a) uv) (EP X pins σ Q) X.xe s
  have hu := hr.units
  refine ne_own (by omega) I.kIn J L hn T.ne hs hf T.mro ?_
  refine wpAny_mono (run_own (A := X.A.in1) FO hb hr.in1 rfl I ru sp) (fun w s' ⟨z, H', I', rz, b, ez, q⟩ => ?_) fun _ _ e => e
  subst ez
  cases rz
  exact ⟨b, rfl, .bl (!b), H', I', rfl, q⟩
/-- x == y where x may be an instance of the class c with an own __eq__ g -/
def eEqX (neg : Bool) (c : Nat) (g : F) (ok : Kd → Bool) (a b : E) : E := fun env st => (a env st).bind fun x s => (b env s).bind fun y s => match x with
  | .ref i => match s[i]? with
    | some (.ins c' _) => if c' = c then match kind y s with
        | some k => if ok k = true then match g [x, y] s with
            | .ok (.bl r) s => .ok (.bl (if neg then !r else r)) s
            | _ => .bad
          else .bad
        | none => .bad
      else .bad
    | _ => ofO (if neg then opNe x y s else opEq x y s)
  | _ => ofO (if neg then opNe x y s else opEq x y s)
theorem eqx_r {neg : Bool} {c : Nat} {g : F} {ok : Kd → Bool} {fa fb : E} {Q : VK} {r : R2} (hd : ∀ v u H Q, rO G (if neg then opNe else opEq) v u H Q → r v u H Q) (ho : ∀ v u H Q, rOwn G neg c g ok v u H Q → r v u H Q) (h : tE G W (eEqX neg c g ok fa fb) σ H Q) : tOp r (tE G W fa) (tE G W fb) σ H Q := by
  refine tX_mono (tX_bin h) fun v H1 h1 => tX_mono h1 fun u H2 ⟨ms, st, x, y, S, r1, r2, k⟩ => ?_
  have data : Okk (RV G) G (fun c d H => W c d σ H) Q ms H2 (ofO (if neg then opNe x y st else opEq x y st)) → r v u H2 Q := fun k => hd _ _ _ _ ⟨ms, st, x, y, S, r1, r2, by
    cases neg with
    | true => exact k.ofO
    | false => exact k.ofO⟩
  split at k
  · rename_i i
    split at k
    · rename_i c' fs e
      split at k
      · rename_i hc
        subst hc
        split at k
        · rename_i kd ek
          split at k
          · rename_i hk
            refine ho _ _ _ _ ⟨ms, st, .ref i, y, i, fs, kd, S, r1, r2, rfl, e, ek, hk, ?_⟩
            split at k
            · rename_i b s' eg
              rw [eg]
              exact fun z m1 H1 g1 S1 rz => by
                simp only [RV] at rz
                exact ⟨b, rz, k _ m1 H1 g1 S1 (by simp only [RV])⟩
            · exact k.elim
          · exact k.elim
        · exact k.elim
      · exact k.elim
    · exact data k
  · exact data k
theorem o_eqX {k c : Nat} {g : F} {ok : Kd → Bool} (hK : X.K = G.K) (T : OwnEq X G c g k) (hr : Room k X.A) (hok : ∀ k, ok k = true → ∃ t, KdT G k t ∧ PySem.W.notFirst G.K (G.tb c) t = true) : OpR X (compareOp .Eq) (fun v u H Q => rO G opEq v u H Q ∨ rOwn G false c g ok v u H Q) :=
  (o_eq hK hr.units).or (op_own hK T hr hok)
theorem o_neX {k c : Nat} {g : F} {ok : Kd → Bool} (hK : X.K = G.K) (T : OwnEq X G c g k) (hr : Room (k + 1) X.A) (hok : ∀ k, ok k = true → ∃ t, KdT G k t ∧ PySem.W.notFirst G.K (G.tb c) t = true) : OpR X (compareOp .NotEq) (fun v u H Q => rO G opNe v u H Q ∨ rOwn G true c g ok v u H Q) :=
  (o_ne hK hr.units).or (op_ownN hK T hr hok)
theorem e_eqX {k j c : Nat} {g : F} {ok : Kd → Bool} {a b : Expr} {pos : Pos} {fa fb : E} (hK : X.K = G.K) (T : OwnEq X G c g j) (hr : Room k X.A) (hok : ∀ k, ok k = true → ∃ t, KdT G k t ∧ PySem.W.notFirst G.K (G.tb c) t = true) (ha : PE X a (tE G W fa)) (hb : PE X b (tE G W fb)) (hj : j ≤ k := by decide) : PE X (.Compare a [.Eq] [b] pos) (tE G W (eEqX false c g ok fa fb)) :=
  PE_weak (pe_cmpR (o_eqX hK T (hr.mono hj) hok) ha hb (nomark _)) fun σ H Q h => eqx_r (neg := false) (fun _ _ _ _ q => .inl q) (fun _ _ _ _ q => .inr q) h
theorem e_neX {k j c : Nat} {g : F} {ok : Kd → Bool} {a b : Expr} {pos : Pos} {fa fb : E} (hK : X.K = G.K) (T : OwnEq X G c g j) (hr : Room k X.A) (hok : ∀ k, ok k = true → ∃ t, KdT G k t ∧ PySem.W.notFirst G.K (G.tb c) t = true) (ha : PE X a (tE G W fa)) (hb : PE X b (tE G W fb)) (hj : j + 1 ≤ k := by decide) : PE X (.Compare a [.NotEq] [b] pos) (tE G W (eEqX true c g ok fa fb)) :=
  PE_weak (pe_cmpR (o_neX hK T (hr.mono hj) hok) ha hb (nomark _)) fun σ H Q h => eqx_r (neg := true) (fun _ _ _ _ q => .inl q) (fun _ _ _ _ q => .inr q) h
theorem t_eqX {k j c : Nat} {g : F} {ok : Kd → Bool} {a b : Expr} {pos : Pos} {fa fb : E} (hK : X.K = G.K) (T : OwnEq X G c g j) (hr : Room k X.A) (hok : ∀ k, ok k = true → ∃ t, KdT G k t ∧ PySem.W.notFirst G.K (G.tb c) t = true) (ha : PE X a (tE G W fa)) (hb : PE X b (tE G W fb)) (hj : j ≤ k := by decide) : PT X (.Compare a [.Eq] [b] pos) (tT G W (asB (eEqX false c g ok fa fb))) :=
  PT_weak (pt_cmpR (o_eqX hK T (hr.mono hj) hok) ha hb (nomark _)) fun σ H Q h => tE_tTest (fun _ _ _ h => eqx_r (neg := false) (fun _ _ _ _ q => .inl q) (fun _ _ _ _ q => .inr q) h) h
theorem t_neX {k j c : Nat} {g : F} {ok : Kd → Bool} {a b : Expr} {pos : Pos} {fa fb : E} (hK : X.K = G.K) (T : OwnEq X G c g j) (hr : Room k X.A) (hok : ∀ k, ok k = true → ∃ t, KdT G k t ∧ PySem.W.notFirst G.K (G.tb c) t = true) (ha : PE X a (tE G W fa)) (hb : PE X b (tE G W fb)) (hj : j + 1 ≤ k := by decide) : PT X (.Compare a [.NotEq] [b] pos) (tT G W (asB (eEqX true c g ok fa fb))) :=
  PT_weak (pt_cmpR (o_neX hK T (hr.mono hj) hok) ha hb (nomark _)) fun σ H Q h => tE_tTest (fun _ _ _ h => eqx_r (neg := true) (fun _ _ _ _ q => .inl q) (fun _ _ _ _ q => .inr q) h) h
end
end LF

set_option Elab.async false
set_option linter.all false
set_option maxRecDepth 100000
set_option maxHeartbeats 4000000
/-! The layer: a dict of the module, asked. -/
namespace LF
open PySem PySem.Spec PyProof.Rows L2
section
variable {G : Gx} {W : WX} {X : Cx} {σ : L2.St} {H : Hp}
theorem e_kget {x : Str} {a : Addr} {es : Array DictEntry} {n : Nat} {p apos cpos : Pos} {e : Expr} {fe : E} {op : D → O D} (hg : Gl X x) (hm : X.mg x = some (.ref a)) (hl : X.K.lookup a = some ⟨.type "dict", none, .dict es n, #[]⟩) (hk : PySem.W.KeysLit X.w.params es.toList) (hs : (a == sysModules) = false)
    (he : PE X e (tE G W fe)) (m : M1 X (.Name x p) "get" apos e cpos) (hop : ∀ (y : D) (st : Sto) (d : D × Sto), op y st = some d → ∃ k, y = .str k ∧ ∃ r, PySem.W.nsIn X.K a k = some r ∧ ∃ v, RelV v (r.getD .none) ∧ (∀ ms H, RV G ms H d.1 v) ∧ d.2 = st)
    (hdb : (x == ("__debug__" : Str)) = false := by decide) :
    PE X (.Call (.Attribute (.Name x p) "get" apos) [e] [] cpos) (tE G W (eUn op fe)) := by
  refine ⟨fun pins s σ H Q I h => ?_⟩
  refine wpAny_Call_method m.base m.few m.line PySem.F.plainAttrs_dict PySem.F.slot_dict_get PySem.F.type_dict_get (ld_glob I hg hm ?_ hdb)
  have ha : s.heap.get? a = some ⟨.type "dict", none, .dict es n, #[]⟩ := I.kIn a _ hl
  refine ⟨⟨_, ha, rfl⟩, fun b e => by cases e; exact ⟨_, ha, rfl⟩, ?_⟩
  rw [m.trees]
  refine Calls.callWith_builtin rfl (Calls.evalArgs_plain (Calls.spliced_cons (thn (he.run pins s σ H _ I (tX_bind h)) fun iv s2 ⟨y, H2, I2, ry, ms, st, env, d, S, r, r1, k⟩ => Calls.spliced_nil ?_)))
  have k : Okk (RV G) G (fun c d H => W c d σ H) Q ms H2 (ofO (op d st)) := k
  cases eo : op d st with
  | none => rw [eo] at k; exact k.elim
  | some d2 =>
    obtain ⟨z, rfl, r, hr, v, rv, rvd, e2⟩ := hop d st d2 eo
    obtain ⟨d1, s1⟩ := d2
    simp only at e2 rvd
    subst e2
    simp only [RV] at r1
    subst r1
    obtain ⟨t, rfl⟩ := ry
    have ha2 : s2.heap.get? a = some ⟨.type "dict", none, .dict es n, #[]⟩ := I2.kIn a _ hl
    have hm2 := PySem.W.mapOf_K (prog := X.prog) (w := X.w) I2.kIn hl hk
    refine call_meetsIn PySem.F.slot_dict_get ⟨_, ha2, rfl⟩ PySem.F.entry_dict_get (PySem.F.args_dict_get_2 _ _) (meets_dict_get (strKind X.prog X.w) a (strKind_is X.prog X.w z t) hs) ⟨_, hm2, ?_⟩
    rw [eo] at k
    have q := k v ms H2 Gr.refl S (rvd ms H2)
    show EP X pins σ Q _ _
    rw [PySem.W.find_K hl hr]
    exact ⟨v, H2, I2.tok _, rv, q⟩
end
end LF

set_option Elab.async false
set_option linter.all false
set_option maxRecDepth 100000
set_option maxHeartbeats 4000000
/-! exceptions whose __init__ says super().__init__(..) -/
namespace LF
open PySem PySem.Spec PyProof.Rows L2
section
open PySem.W PySem.Calls
variable {prog : Program} {w : World} {A : Around} {E : Value → Shared → Prop} {h : Heap} {g : Array GenState} {d : Drawn} {t : Nat} {os : OsState}
variable {nm q : Str} {C N : Addr} {bs bm : List Value} {hdct : Bool} {sn : List Str} {sub : List Value} {ab : Bool} {col : Option Bool} {dd : Option Addr} {k0 k1 k2 k3 k5 : Option Value}
/-- ValueError's __init__, bound to the object, called -/
theorem call_mwVE {u e t0 : Addr} {rest : List Value} {Q : Value → Shared → Prop}
    (hC : h.get? C = some (excClassObj nm q C N bs bm hdct sn sub ab col dd k0 k1 k2 k3 k5 "ValueError.__new__")) (he : h.get? e = some (HandSPX.excO C t0)) (hu : h.get? u = some (kxs_mw "ValueError.__init__" e)) (hrest : rest.length ≤ sizeLine)
    (hq : ∀ h' t1, (∀ b o, b ≠ e → h.get? b = some o → h'.get? b = some o) → h'.get? e = some (HandSPX.excO C t1) → Q .none ⟨h', g, d, t, os⟩) :
    wpAny (model prog w) A (call (.ref u) rest) Q E ⟨h, g, d, t, os⟩ := by
  refine wpAny_call (codeAny_of_tree ?_)
  show wpAny _ A.in1 (callAny (.ref u) ⟨rest, []⟩) _ _ _
  simp only [callAny]
  refine wpAny_bind (wpAny_load hu ?_)
  simp only [kxs_mw, show (Value.type "method-wrapper" == Value.type "method" || Value.type "method-wrapper" == Value.type "builtin_function_or_method" || Value.type "method-wrapper" == Value.type "method-wrapper") = true by decide, if_true]
  refine KFB.if_so (by decide) ?_
  refine wpAny_bind (check_bound_init F.excBase_ValueError.toExcCallFacts hC he rfl ?_)
  refine wpAny_bind (wpAny_pure (wpAny_pure ?_))
  refine ⟨plainId_quiet F.excBase_ValueError.init.plain _, codeAny_builtin F.excBase_ValueError.initEntry ?_⟩
  rw [Around.under_plainId F.excBase_ValueError.init.plain _]
  wp_walk
  refine hq _ h.objs.size (fun b o hb ho => ?_) ?_
  · rw [Heap.get?_update_other _ _ (Ne.symm hb)]
    exact Heap.get?_push_of_some _ ho
  · rw [Heap.get?_update_self _ (Heap.get?_push_of_some _ he) rfl]
    rfl
end
section
open PySem.W PySem.Calls
variable {X : Cx} {pins : List (Addr × Obj)} {σ : L2.St} {H : Hp} {s : Shared}
/-- what the frame of such an __init__ has -/
structure SupF (X : Cx) (C a cc f : Addr) (i : Nat) (sn : Str) : Prop where
  ks : X.env.kindOf "super" = some .globalImplicit
  kc : X.env.kindOf "__class__" = some .free
  cell : X.env.cells.lookup ("__class__" : Str) = some cc
  cellK : ∃ c d sl, X.K.lookup cc = some ⟨c, d, .cell (some (.ref C)), sl⟩
  fn : X.env.func = some f
  fnK : ∃ (o : Obj) (fd : FuncData) (ar : Arg), X.K.lookup f = some o ∧ o.data = .func fd ∧ (fd.params.posonlyargs ++ fd.params.args).head? = some ar ∧ ar.arg = sn
  kl : X.env.kindOf sn = some .local
  at_i : X.N[i]? = some sn
  code : ∃ (cda : Addr) (o : Obj) (vs : Array Value) (file : Str) (tf : Tok), X.env.code = .ref cda ∧ X.K.lookup cda = some o ∧ o.data = .fields vs ∧ vs[2]? = some (.str file tf) ∧ ((X.prog.main.file : Str) == file) = true
  top : (X.prog.main.scope.names.lookup ("super" : Str)).isSome = false
  mg : X.mg "super" = none
  boot : bootBuiltins "super" = some (.type "super")
  along : ∃ cd, clsIn X.K C = some cd ∧ alongIn X.K "__init__" ((cd.mro.dropWhile (· != .ref C)).drop 1) = some (some (.builtin "ValueError.__init__"))
  subC : mroIn X.K C (.ref C) = some true
  subV : subIn X.K (.ref C) (.type "ValueError") = some true
  opq : nsIn X.K cStatics "thirdparty.any" = some none
theorem at_super {C a cc f : Addr} {i : Nat} {sn : Str} {body : List Stmt} {e0 : Expr} {rest : List Expr} {ta : TA} {p0 p1 p2 p3 p4 : Pos} {Q : Flow → Shared → Prop} {pl : Sem Bool} (S : SupF X C a cc f i sn) (T : OexC X.K C) (I : Inv X pins σ H s) (e : H a = some (exo a C none)) (hσ : σ[i]? = some (some (.ref a)))
    (ha : PA X (e0 :: rest) ta) (hq : ta σ H fun vs H1 => vs.length ≤ 1000 ∧ H1 = H) (h : ∀ s', Inv X pins σ H s' → Q .next s')
    (he : eval (.Call (.Attribute (.Call (.Name "super" p0) [] [] p1) "__init__" p2) (e0 :: rest) [] p3) X.env = (do
      let ov ← attributeBase (.Call (.Name "super" p0) [] [] p1) "__init__" X.env (eval (.Call (.Name "super" p0) [] [] p1) X.env)
      standAt p2.atName
      let (f, first) ← holding [ov] (getMethod ov "__init__" pl)
      callWith p3 f first (backTo p3 (starEach (e0 :: rest) X.env)) []) := by rfl)
    (hs : swapsWith (.Call (.Attribute (.Call (.Name "super" p0) [] [] p1) "__init__" p2) (e0 :: rest) [] p3) none p4.line X.env = pure false := by rfl)
    (hse : starEach (e0 :: rest) X.env = (false, eval e0 X.env) :: starEach rest X.env := by rfl) (hpl : (backTo p3 (starEach rest X.env)).any (·.1) = false := by rfl) :
    _root_.PySem.wpAt (model X.prog X.w) X.A (.func body X.env) (exec (.Expr (.Call (.Attribute (.Call (.Name "super" p0) [] [] p1) "__init__" p2) (e0 :: rest) [] p3) p4) X.env) Q X.xe s := by
  obtain ⟨of, fd, ar, hf, hfd, hp, har⟩ := S.fnK
  obtain ⟨cda, oc, vs, file, tf, hco, hcc, hoc, hvs, hfile⟩ := S.code
  refine ks_wpAt_Expr_any (ks_wpAt_MethodCall (ks_wpAt_super_base S.ks S.kc (by decide) S.fn (I.kIn _ _ hf) hfd hp hco (I.kIn _ _ hcc) hoc hvs hfile S.top ?_) he) I.quiet hs
  obtain ⟨mb, b1, b2⟩ := I.mod.blt
  refine ks_loadName_global I.ok.kind S.ks (loadGlobal_builtin (by rw [I.ok.glob]; exact I.mod.glob.keeps I.bk) S.mg (by rw [I.ok.blt]; exact b1.keeps I.bk) ((b2 "super" (by decide)).trans S.boot) ⟨rfl, ?_⟩)
  obtain ⟨c1, d1, sl1, hcell⟩ := S.cellK
  refine wpAny_loadName_free I.ok.kind S.kc S.cell ⟨_, I.kIn _ _ hcell, rfl⟩ ?_
  obtain ⟨m, hn, hl⟩ := I.loc
  obtain ⟨u, ru, lk⟩ := hl i sn (.ref a) S.at_i hσ (.inl S.kl)
  obtain rfl : u = Value.ref a := ru
  have hv : m sn = some (Value.ref a) := by
    rcases lk with ⟨_, k⟩ | ⟨k, _⟩
    · exact k
    · rcases k with k | k <;> rw [S.kl] at k <;> cases k
  rw [har]
  refine wpAny_loadName_local I.ok.kind S.kl hn hv ?_
  obtain ⟨cd, hcd, hal⟩ := S.along
  obtain ⟨oD, hD1, hD2⟩ : ∃ oD, s.heap.get? C = some oD ∧ oD.data = .cls cd := by
    unfold clsIn at hcd
    split at hcd
    · rename_i c d cd' sl ho
      cases hcd
      exact ⟨_, I.kIn _ _ ho, rfl⟩
    · cases hcd
  obtain ⟨t1, hx⟩ := exo_at I.hok e
  refine ks_wpAny_isType_cls hD1 hD2 ⟨rfl, ?_⟩
  have hxC : a ≠ C := fun z => by
    rw [z, hD1] at hx
    cases hx
    cases hD2
  obtain ⟨hh, g, d, t, os⟩ := s
  refine ks_wpAny_call_super hD1 hD2 hx rfl (fun c z => by cases z) (looks_mroIn I.kIn S.subC) fun h1 e1 k1 => ?_
  have I1 : L2.Inv X pins σ H ⟨h1, g, d, t, os⟩ := I.kept (t' := t) k1
  have hx1 := k1 _ _ hx
  have ia : InstAt h1 a _ C none := ⟨hx1, rfl, rfl, trivial⟩
  have hI : Looks (model X.prog X.w) h1 (isInstance (.ref a) (.type "ValueError")) true := ia.type.andThen (looks_subIn I1.kIn S.subV)
  refine kxs_getMethod kxs_ValueError e1 (looks_opaque I1.kIn S.opq) (l₀ := cd.mro) (fun A Q E s k q => wpAny_bind ((looks_clsIn I1.kIn hcd) A _ E s k (wpAny_pure q))) rfl I1.kIn hal hI hxC rfl ?_
  have I2 : L2.Inv X pins σ H ⟨h1.push (kxs_mw "ValueError.__init__" a), g, d, t + 1, os⟩ := I1.kept (t' := t + 1) fun b o z => Heap.get?_push_of_some _ z
  have hmw : (h1.push (kxs_mw "ValueError.__init__" a)).get? h1.objs.size = some (kxs_mw "ValueError.__init__" a) := Heap.get?_push_at rfl rfl
  dsimp only
  have hun : H h1.objs.size = none := I1.hok.fresh (Nat.le_refl _)
  have hul : h1.objs.size ≠ X.env.locals := fun z => absurd I1.lt (by rw [← z]; exact Nat.lt_irrefl _)
  have huf : h1.objs.size ∉ X.fs := I1.nofs (Nat.le_refl _)
  have I3 : L2.Inv X ([(h1.objs.size, kxs_mw "ValueError.__init__" a)] ++ pins) σ H ⟨h1.push (kxs_mw "ValueError.__init__" a), g, d, t + 1, os⟩ := I2.pins_of fun p hp => by
    rcases List.mem_append.mp hp with hp | hp
    · rw [List.mem_singleton.mp hp]
      exact ⟨hmw, hun, hul, huf, fun v z => by cases z⟩
    · exact I2.pin p (List.mem_append_right _ hp)
  rw [hse]
  refine kxs_callWith (i := "ValueError.__init__") (x := a) (by show (false || (backTo p3 (starEach rest X.env)).any (·.1)) = false; rw [hpl]; rfl) ?_
  have run := ha.run p3 ([(h1.objs.size, kxs_mw "ValueError.__init__" a)] ++ pins) _ σ H _ I3 hq
  rw [hse] at run
  refine evalArgs_plain (thn run fun us s3 hh3 => ?_)
  obtain ⟨vs3, H1, J, r1, hlen, eH⟩ := hh3
  subst eH
  have pin := (J.pin (h1.objs.size, kxs_mw "ValueError.__init__" a) (List.mem_append_right _ (by simp))).1
  refine ⟨pin, ?_⟩
  obtain ⟨nm, q, N, bs, bm, sn', sub, ab, col, dd, k0, k1', k2, k3, k5, hC, hbm⟩ := T.cls
  obtain ⟨t3, hx3⟩ := exo_at J.hok e
  have hus : us.length ≤ sizeLine := by
    rw [← Paired.length r1, sizeLine_eq]
    omega
  obtain ⟨h3, g3, d3, tk3, os3⟩ := s3
  refine call_mwVE (J.kIn _ _ hC) hx3 pin hus fun h' t2 k hx' => ?_
  have J2 := J.write (t' := tk3) (x := a) (e := a) (o := exo a C none) (by rw [e]; exact True.intro) (.inl rfl) k ⟨_, hx'⟩ (exo_ok hx')
  have eu : upd H1 a (exo a C none) = H1 := by
    funext b
    by_cases hb : b = a
    · rw [hb, upd_same, e]
    · rw [upd_ne hb]
  rw [eu] at J2
  exact h _ (J2.pins_of fun p hp => J2.pin p (List.mem_append_right _ (List.mem_append_right _ hp)))
end
end LF

set_option Elab.async false
set_option linter.all false
set_option maxRecDepth 100000
set_option maxHeartbeats 4000000
/-! exceptions: the __init__ that says super().__init__(..), and C(..) in a raise -/
namespace LF
open PySem PySem.Spec PyProof.Rows L2
section
open PySem.W PySem.Calls
variable {P : Program} {w : World} {K : PySem.W.Frag} {mg : Str → Option Value} {base : Heap}
/-- super().__init__() -/
theorem at_super0 {X : Cx} {pins : List (Addr × Obj)} {σ : L2.St} {H : Hp} {s : Shared} {C a cc f : Addr} {i : Nat} {sn : Str} {body : List Stmt} {p0 p1 p2 p3 p4 : Pos} {Q : Flow → Shared → Prop} {pl : Sem Bool} (S : SupF X C a cc f i sn) (T : OexC X.K C) (I : Inv X pins σ H s) (e : H a = some (exo a C none)) (hσ : σ[i]? = some (some (.ref a)))
    (h : ∀ s', Inv X pins σ H s' → Q .next s')
    (he : eval (.Call (.Attribute (.Call (.Name "super" p0) [] [] p1) "__init__" p2) [] [] p3) X.env = (do
      let ov ← attributeBase (.Call (.Name "super" p0) [] [] p1) "__init__" X.env (eval (.Call (.Name "super" p0) [] [] p1) X.env)
      standAt p2.atName
      let (f, first) ← holding [ov] (getMethod ov "__init__" pl)
      callWith p3 f first (backTo p3 (starEach [] X.env)) []) := by rfl)
    (hs : swapsWith (.Call (.Attribute (.Call (.Name "super" p0) [] [] p1) "__init__" p2) [] [] p3) none p4.line X.env = pure false := by rfl) :
    _root_.PySem.wpAt (model X.prog X.w) X.A (.func body X.env) (exec (.Expr (.Call (.Attribute (.Call (.Name "super" p0) [] [] p1) "__init__" p2) [] [] p3) p4) X.env) Q X.xe s := by
  obtain ⟨of, fd, ar, hf, hfd, hp, har⟩ := S.fnK
  obtain ⟨cda, oc, vs, file, tf, hco, hcc, hoc, hvs, hfile⟩ := S.code
  refine ks_wpAt_Expr_any (ks_wpAt_MethodCall (ks_wpAt_super_base S.ks S.kc (by decide) S.fn (I.kIn _ _ hf) hfd hp hco (I.kIn _ _ hcc) hoc hvs hfile S.top ?_) he) I.quiet hs
  obtain ⟨mb, b1, b2⟩ := I.mod.blt
  refine ks_loadName_global I.ok.kind S.ks (loadGlobal_builtin (by rw [I.ok.glob]; exact I.mod.glob.keeps I.bk) S.mg (by rw [I.ok.blt]; exact b1.keeps I.bk) ((b2 "super" (by decide)).trans S.boot) ⟨rfl, ?_⟩)
  obtain ⟨c1, d1, sl1, hcell⟩ := S.cellK
  refine wpAny_loadName_free I.ok.kind S.kc S.cell ⟨_, I.kIn _ _ hcell, rfl⟩ ?_
  obtain ⟨m, hn, hl⟩ := I.loc
  obtain ⟨u, ru, lk⟩ := hl i sn (.ref a) S.at_i hσ (.inl S.kl)
  obtain rfl : u = Value.ref a := ru
  have hv : m sn = some (Value.ref a) := by
    rcases lk with ⟨_, k⟩ | ⟨k, _⟩
    · exact k
    · rcases k with k | k <;> rw [S.kl] at k <;> cases k
  rw [har]
  refine wpAny_loadName_local I.ok.kind S.kl hn hv ?_
  obtain ⟨cd, hcd, hal⟩ := S.along
  obtain ⟨oD, hD1, hD2⟩ : ∃ oD, s.heap.get? C = some oD ∧ oD.data = .cls cd := by
    unfold clsIn at hcd
    split at hcd
    · rename_i c d cd' sl ho
      cases hcd
      exact ⟨_, I.kIn _ _ ho, rfl⟩
    · cases hcd
  obtain ⟨t1, hx⟩ := exo_at I.hok e
  refine ks_wpAny_isType_cls hD1 hD2 ⟨rfl, ?_⟩
  have hxC : a ≠ C := fun z => by
    rw [z, hD1] at hx
    cases hx
    cases hD2
  obtain ⟨hh, g, d, t, os⟩ := s
  refine ks_wpAny_call_super hD1 hD2 hx rfl (fun c z => by cases z) (looks_mroIn I.kIn S.subC) fun h1 e1 k1 => ?_
  have I1 : L2.Inv X pins σ H ⟨h1, g, d, t, os⟩ := I.kept (t' := t) k1
  have hx1 := k1 _ _ hx
  have ia : InstAt h1 a _ C none := ⟨hx1, rfl, rfl, trivial⟩
  have hI : Looks (model X.prog X.w) h1 (isInstance (.ref a) (.type "ValueError")) true := ia.type.andThen (looks_subIn I1.kIn S.subV)
  refine kxs_getMethod kxs_ValueError e1 (looks_opaque I1.kIn S.opq) (l₀ := cd.mro) (fun A Q E s k q => wpAny_bind ((looks_clsIn I1.kIn hcd) A _ E s k (wpAny_pure q))) rfl I1.kIn hal hI hxC rfl ?_
  have hmw : (h1.push (kxs_mw "ValueError.__init__" a)).get? h1.objs.size = some (kxs_mw "ValueError.__init__" a) := Heap.get?_push_at rfl rfl
  have I2 : L2.Inv X pins σ H ⟨h1.push (kxs_mw "ValueError.__init__" a), g, d, t + 1, os⟩ := I1.kept (t' := t + 1) fun b o z => Heap.get?_push_of_some _ z
  dsimp only
  refine kxs_callWith (i := "ValueError.__init__") (x := a) rfl (evalArgs_empty ⟨hmw, ?_⟩)
  obtain ⟨nm, q, N, bs, bm, sn', sub, ab, col, dd, k0, k1', k2, k3, k5, hC, hbm⟩ := T.cls
  obtain ⟨t3, hx3⟩ := exo_at I2.hok e
  refine call_mwVE (I2.kIn _ _ hC) hx3 hmw (by rw [sizeLine_eq]; decide) fun h' t2 k hx' => ?_
  have J2 := I2.write (t' := t + 1) (x := a) (e := a) (o := exo a C none) (by rw [e]; exact True.intro) (.inl rfl) k ⟨_, hx'⟩ (exo_ok hx')
  have eu : upd H a (exo a C none) = H := by
    funext b
    by_cases hb : b = a
    · rw [hb, upd_same, e]
    · rw [upd_ne hb]
  rw [eu] at J2
  exact h _ J2

/-- names of such an __init__ -/
structure ExS (N ps : List Str) (sc : Scope) : Prop where
  kind : sc.kind = .function
  co : sc.isCoroutine = false
  gen : sc.isGenerator = false
  nd : N.Nodup
  pre : N = ps
  par : ∀ x ∈ ps, sc.names.lookup x = some .local
  nocell : ∀ y ∈ sc.names, y.2 ≠ .cell
  free : ∀ y ∈ sc.names, y.2 = .free → y.1 = ("__class__" : Str)
/-- what is known of its class -/
structure SupC (P : Program) (K : PySem.W.Frag) (mg : Str → Option Value) (C cc f : Addr) (cdv : Value) (sc : Scope) (sn : Str) (fd : FuncData) : Prop where
  ks : sc.names.lookup ("super" : Str) = some .globalImplicit
  kc : sc.names.lookup ("__class__" : Str) = some .free
  kl : sc.names.lookup sn = some .local
  cellK : ∃ c d sl, K.lookup cc = some ⟨c, d, .cell (some (.ref C)), sl⟩
  fnK : ∃ (o : Obj) (ar : Arg), K.lookup f = some o ∧ o.data = .func fd ∧ (fd.params.posonlyargs ++ fd.params.args).head? = some ar ∧ ar.arg = sn
  code : ∃ (cda : Addr) (o : Obj) (vs : Array Value) (file : Str) (tf : Tok), cdv = .ref cda ∧ K.lookup cda = some o ∧ o.data = .fields vs ∧ vs[2]? = some (.str file tf) ∧ ((P.main.file : Str) == file) = true
  top : (P.main.scope.names.lookup ("super" : Str)).isSome = false
  mg : mg "super" = none
  along : ∃ cd, clsIn K C = some cd ∧ alongIn K "__init__" ((cd.mro.dropWhile (· != .ref C)).drop 1) = some (some (.builtin "ValueError.__init__"))
  subC : mroIn K C (.ref C) = some true
  subV : subIn K (.ref C) (.type "ValueError") = some true
  opq : nsIn K cStatics "thirdparty.any" = some none
/-- the context of its body -/
def exCx (P : Program) (w : World) (K : PySem.W.Frag) (mg : Str → Option Value) (base : Heap) (N : List Str) (qual : Str) (scope : Scope) (f : Addr) (cdv : Value) (cc : Addr) (A : Around) (outer : List Env) (s : Shared) (H : Hp) (E : XK) : Cx where
  prog := P
  w := w
  K := K
  mg := mg
  base := base
  A := A.deeper (ksEnv qual scope s.heap.objs.size f cdv cc)
  N := N
  s_0 := s
  H_0 := H
  env := ksEnv qual scope s.heap.objs.size f cdv cc
  outer := outer
  stack := ksEnv qual scope s.heap.objs.size f cdv cc :: outer
  ex := []
  calm := true
  fn := fun _ => false
  pn := []
  xe := fun e s' => wpAny (model P w) (A.deeper (ksEnv qual scope s.heap.objs.size f cdv cc)) (leaving (ksEnv qual scope s.heap.objs.size f cdv cc) e) (fun _ s'' => L2.CX P w outer H s E e s'') (fun e' s'' => L2.CX P w outer H s E e' s'') s'
theorem look_mem {x : Str} {u : Value} : ∀ {l : List (Str × Value)}, (l.map (·.1)).Nodup → (x, u) ∈ l → l.lookup x = some u
  | [], _, h => by simp at h
  | (y, v) :: l, nd, h => by
    rw [List.map_cons, List.nodup_cons] at nd
    rcases List.mem_cons.mp h with e | h
    · cases e
      simp [List.lookup]
    · have ne : x ≠ y := fun z => nd.1 (by rw [← z]; exact List.mem_map.mpr ⟨_, h, rfl⟩)
      have nb : (x == y) = false := by simpa using ne
      simp only [List.lookup, nb]
      exact look_mem nd.2 h
theorem _root_.List.Nodup.reverse' {α : Type} : ∀ {l : List α}, l.Nodup → l.reverse.Nodup
  | [], _ => by simp
  | a :: l, h => by
    rw [List.nodup_cons] at h
    rw [List.reverse_cons, List.nodup_append]
    refine ⟨h.2.reverse', by simp, fun x hx y hy e => ?_⟩
    rw [List.mem_singleton] at hy
    exact h.1 (by rw [← hy, ← e]; exact List.mem_reverse.mp hx)
theorem zip_at : ∀ {ps : List Str} {us : List Value} {i : Nat} {x : Str} {u : Value}, ps[i]? = some x → us[i]? = some u → (x, u) ∈ ps.zip us
  | [], _, _, _, _, h, _ => by simp at h
  | _ :: _, [], _, _, _, _, h => by simp at h
  | p :: ps, v :: us, 0, x, u, h1, h2 => by
    simp at h1 h2
    subst h1 h2
    simp
  | p :: ps, v :: us, i + 1, x, u, h1, h2 => by
    simp only [List.zip_cons_cons, List.mem_cons]
    exact .inr (zip_at (i := i) (by simpa using h1) (by simpa using h2))
theorem zip_fst : ∀ {ps : List Str} {us : List Value}, us.length = ps.length → (ps.zip us).map (·.1) = ps
  | [], _, _ => by simp
  | _ :: _, [], h => by simp at h
  | p :: ps, v :: us, h => by
    simp only [List.zip_cons_cons, List.map_cons]
    rw [zip_fst (by simpa using h)]
theorem ex_start {N ps : List Str} {qual : Str} {scope : Scope} {f cc : Addr} {cdv : Value} {A : Around} {outer : List Env} {s : Shared} {H : Hp} {E : XK} {us : List Value} {vs : List V} {h1 : Heap} {tk : Nat}
    (S : ExS N ps scope) (hd : A.handled = none) (e0 : Env0 P w K mg base A outer s H) (hl : vs.length = ps.length) (r : Vals vs us) (hcell : ∃ c d v sl, K.lookup cc = some ⟨c, d, .cell v, sl⟩)
    (hns : h1.Ns s.heap.objs.size fun x => (ps.zip us).reverse.lookup x) (kp : ∀ b o, s.heap.get? b = some o → h1.get? b = some o) :
    Inv (exCx P w K mg base N qual scope f cdv cc A outer s H E) [] (L2.start N vs) H { s with heap := h1, toks := tk } := by
  have noA : ∀ b : Addr, b ∉ (exCx P w K mg base N qual scope f cdv cc A outer s H E).ex := fun b z => absurd (show b ∈ ([] : List Addr) from z) (by simp)
  have cells : (exCx P w K mg base N qual scope f cdv cc A outer s H E).env.cells = [(("__class__" : Str), cc)] := rfl
  obtain ⟨c0, d0, v0, sl0, hc⟩ := hcell
  have hb := e0.bs cc _ (e0.mod.kin _ _ hc)
  have one : ∀ y c, (exCx P w K mg base N qual scope f cdv cc A outer s H E).env.cells.lookup y = some c → y = ("__class__" : Str) ∧ c = cc := fun y c e => by
    rw [cells] at e
    by_cases hy : y = ("__class__" : Str)
    · subst hy
      simp [List.lookup] at e
      exact ⟨rfl, e.symm⟩
    · have nb : (y == ("__class__" : Str)) = false := by simpa using hy
      simp only [List.lookup, nb] at e
      cases e
  refine ⟨⟨e0.mod, S.kind, rfl, rfl, Nat.le_refl _, fun y z c e1 e2 => (one y c e1).1.trans (one z c e2).1.symm, fun y hy => ?_, fun y c z _ => absurd (show false = true from z) Bool.false_ne_true, fun _ => hd, Around.frames_deeper e0.frames, .inr ⟨rfl, rfl⟩, fun b z => absurd z (noA b), e0.bs, e0.bsz,
      fun b _ _ => noA b, fun b z => absurd z (noA b), e0.funs, e0.frf⟩,
    rfl, e0.bare, Un.kept kp, ⟨_, hns, fun i y v e1 e2 e3 => ?_⟩, fun y c e => ?_, e0.hok.fresh (Nat.le_refl _), fun y c e => ?_, fun p hp => absurd (show p ∈ ([] : List (Addr × Obj)) from hp) (by simp), e0.hok.kept kp, ?_⟩
  · have hy : scope.names.lookup y = some .cell ∨ scope.names.lookup y = some .free := hy
    rcases hy with hy | hy
    · exact absurd rfl (S.nocell _ (PySem.mem_of_lookup hy))
    · have ey := S.free _ (PySem.mem_of_lookup hy) rfl
      dsimp only at ey
      subst ey
      exact ⟨cc, by rw [cells]; simp [List.lookup]⟩
  · have e3 : Vis scope y := e3
    have hN : N = ps := S.pre
    have hi : i < ps.length := by
      rw [← hN]
      exact (List.getElem?_eq_some_iff.mp (show N[i]? = some y from e1)).1
    have ha : vs[i]? = some v := by
      unfold L2.start at e2
      rw [List.getElem?_append_left (by simpa [hl] using hi), List.getElem?_map] at e2
      cases e : vs[i]? with
      | none => rw [e] at e2; cases e2
      | some b => rw [e] at e2; cases e2; rfl
    obtain ⟨u, hu, rv⟩ := r.get ha
    have hp : ps[i]? = some y := by rw [← hN]; exact e1
    refine ⟨u, rv, .inl ⟨S.par y (List.mem_of_getElem? hp), ?_⟩⟩
    have hul : us.length = ps.length := by rw [← hl]; exact (Paired.length r).symm
    refine look_mem ?_ (List.mem_reverse.mpr (zip_at hp hu))
    rw [List.map_reverse, zip_fst hul, ← hN]
    exact S.nd.reverse'
  · obtain ⟨_, e2⟩ := one y c e
    subst e2
    exact ⟨v0, _, kp _ _ hb.1, rfl⟩
  · obtain ⟨_, e2⟩ := one y c e
    subst e2
    exact hb.2
  · unfold L2.start
    show _ = N.length
    rw [List.length_append, List.length_map, List.length_replicate, S.pre]
    omega
theorem SupC.at {C a cc f : Addr} {cdv : Value} {scope : Scope} {sn : Str} {fd : FuncData} {N : List Str} {qual : Str} {A : Around} {outer : List Env} {s : Shared} {H : Hp} {E : XK} (T : SupC P K mg C cc f cdv scope sn fd) (h0 : N[0]? = some sn) :
    SupF (exCx P w K mg base N qual scope f cdv cc A outer s H E) C a cc f 0 sn := by
  obtain ⟨o, ar, e1, e2, e3, e4⟩ := T.fnK
  exact ⟨T.ks, T.kc, by simp [exCx, List.lookup], T.cellK, rfl, ⟨o, fd, ar, e1, e2, e3, e4⟩, T.kl, h0, T.code, T.top, T.mg, PyProof.Rows.Boot.«super», T.along, T.subC, T.subV, T.opq⟩
/-- the __init__, its first row being super's -/
theorem ex_fn {k : Nat} {f cc C : Addr} {name qual : Str} {params : Arguments} {body : List Stmt} {st : Stmt} {rest : List Stmt} {scope : Scope} {dV kV doc pm cdv ct oc : Value} {an od : Option Addr} {osl : Array (Option Value)} {N ps : List Str} {sn : Str} {sp : Sp}
    (lk : K.lookup f = some ⟨oc, od, .func (ksFn name qual params body scope dV kV doc pm an cdv ct cc), osl⟩) (hcd : codeIn K cdv qual = true) (S : ExS N ps scope) (T : SupC P K mg C cc f cdv scope sn (ksFn name qual params body scope dV kV doc pm an cdv ct cc)) (h0 : N[0]? = some sn)
    (hbd : body = st :: rest) (len : ∀ vs H Q E, sp vs H Q E → vs.length = ps.length)
    (hbody : ∀ (A : Around) (outer : List Env) (s : Shared) (H : Hp) (vs : List V) (Q : VK) (E : XK), sp vs H Q E → ∃ a t, H a = some (exo a C none) ∧ vs[0]? = some (.ref a) ∧
      (∀ (s1 : Shared) (Q' : Flow → Shared → Prop), Inv (exCx P w K mg base N qual scope f cdv cc A outer s H E) [] (L2.start N vs) H s1 → (∀ s', Inv (exCx P w K mg base N qual scope f cdv cc A outer s H E) [] (L2.start N vs) H s' → Q' .next s') →
        _root_.PySem.wpAt (model P w) (A.deeper (ksEnv qual scope s.heap.objs.size f cdv cc)) (.func body (ksEnv qual scope s.heap.objs.size f cdv cc)) (exec st (ksEnv qual scope s.heap.objs.size f cdv cc)) Q' (exCx P w K mg base N qual scope f cdv cc A outer s H E).xe s1) ∧
      PSs (exCx P w K mg base N qual scope f cdv cc A outer s H E) rest t ∧ t { nx := fun _ H' => Q .non H', rt := Q } (L2.start N vs) H) :
    FnOk P w K mg base (L2.CX P w) (k + 1) f (ksFn name qual params body scope dV kV doc pm an cdv ct cc) ps sp := by
  refine ⟨len, fun A outer s H args us vs Q E hr e0 hb r hsp => ?_⟩
  have hl := len _ _ _ _ hsp
  have KX : K.In s.heap := e0.mod.kin.keeps fun b o e => (e0.bs b o e).1
  have hul : us.length = ps.length := by rw [← hl]; exact (Paired.length r).symm
  refine ks_codeAny_call_defAt (fd := ksFn name qual params body scope dV kV doc pm an cdv ct cc) (body := body) hr.depth (KX _ _ lk) rfl (e0.mod.nolimit.keeps fun b o e => (e0.bs b o e).1) (codeRec_of KX hcd) rfl hb S.nocell (fun y hy => ?_) (fun h1 hns kp => ?_) S.co S.gen S.kind
  · obtain ⟨n, v⟩ := y
    exact S.par _ (List.of_mem_zip hy).1
  obtain ⟨a, t, ea, ev, first, ht, hq⟩ := hbody A outer s H vs Q E hsp
  obtain ⟨c0, d0, sl0, hc⟩ := T.cellK
  have I := ex_start (qual := qual) (f := f) (cdv := cdv) (E := E) (tk := s.toks + (ps.zip us).length) S hr.hd e0 hl r ⟨c0, d0, _, sl0, hc⟩ hns kp
  have fin : ∀ {σ' : L2.St} {H' : Hp} {v : V} {u : Value} {s' : Shared}, Inv (exCx P w K mg base N qual scope f cdv cc A outer s H E) [] σ' H' s' → RelV v u → Q v H' → CE outer P w H s Q u s' :=
    fun {σ' H' v u s'} J rv q => ⟨v, H', J.os, J.bare, J.base, J.hok, rv, q⟩
  subst hbd
  refine ks_wpAt_execs_cons (first _ _ I fun s' J => ?_)
  refine wpAt_of_wpAny (wpAny_mono (ht.run [] s' (L2.start N vs) H _ J hq) (fun fl s2 hs => ?_) fun e s2 hs => hs)
  cases fl with
  | ret u =>
    obtain ⟨v, σ', H', J, rv, q⟩ := hs
    exact fin J rv q
  | next =>
    obtain ⟨σ', H', J, q⟩ := hs
    exact fin (v := V.non) (u := Value.none) J rfl q
  | brk =>
    obtain ⟨_, _, _, q⟩ := hs
    exact False.elim q
  | cont =>
    obtain ⟨_, _, _, q⟩ := hs
    exact False.elim q
end
end LF

set_option Elab.async false
set_option linter.all false
set_option maxRecDepth 100000
set_option maxHeartbeats 4000000
/-! raise -/
namespace LF
open PySem PySem.Spec PyProof.Rows L2
/-! ### what such an __init__ promises -/
def spX0 (C : Addr) : Sp := fun vs H Q _ => ∃ a, vs = [.ref a] ∧ H a = some (exo a C none) ∧ Q .non H
def spX1 (C : Addr) (f : Str) : Sp := fun vs H Q _ => ∃ a v, vs = [.ref a, v] ∧ H a = some (exo a C none) ∧ ∀ dx, H dx = none → dx ≠ a → Q .non (upd (upd H dx (exd dx [(f, v)])) a (exo a C (some dx)))
def spX2 (C : Addr) (f g : Str) : Sp := fun vs H Q _ => ∃ a v u, vs = [.ref a, v, u] ∧ H a = some (exo a C none) ∧ ∀ dx, H dx = none → dx ≠ a → Q .non (upd (upd (upd H dx (exd dx [(f, v)])) a (exo a C (some dx))) dx (exd dx [(g, u), (f, v)]))
section
open PySem.W PySem.Calls
variable {P : Program} {w : World} {K : PySem.W.Frag} {mg : Str → Option Value} {base : Heap}
variable {f cc C : Addr} {name qual : Str} {params : Arguments} {body : List Stmt} {scope : Scope} {dV kV doc pm cdv ct oc : Value} {an od : Option Addr} {osl : Array (Option Value)}
theorem ex_fn0 {p0 p1 p2 p3 p4 : Pos} (lk : K.lookup f = some ⟨oc, od, .func (ksFn name qual params body scope dV kV doc pm an cdv ct cc), osl⟩) (hcd : codeIn K cdv qual = true) (S : ExS ["self"] ["self"] scope) (O : OexC K C)
    (T : SupC P K mg C cc f cdv scope "self" (ksFn name qual params body scope dV kV doc pm an cdv ct cc)) (hbd : body = [.Expr (.Call (.Attribute (.Call (.Name "super" p0) [] [] p1) "__init__" p2) [] [] p3) p4]) (hev : ∀ L : Addr, ∃ pl : Sem Bool, eval (.Call (.Attribute (.Call (.Name "super" p0) [] [] p1) "__init__" p2) [] [] p3) (ksEnv qual scope L f cdv cc) = (do
      let ov ← attributeBase (.Call (.Name "super" p0) [] [] p1) "__init__" (ksEnv qual scope L f cdv cc) (eval (.Call (.Name "super" p0) [] [] p1) (ksEnv qual scope L f cdv cc))
      standAt p2.atName
      let (g0, first) ← holding [ov] (getMethod ov "__init__" pl)
      callWith p3 g0 first (backTo p3 (starEach [] (ksEnv qual scope L f cdv cc))) [])) :
    FnOk P w K mg base (L2.CX P w) 1 f (ksFn name qual params body scope dV kV doc pm an cdv ct cc) ["self"] (spX0 C) := by
  refine ex_fn (k := 0) (C := C) (sn := "self") (N := ["self"]) lk hcd S T rfl hbd (fun vs H Q E h => ?_) fun A outer s H vs Q E h => ?_
  · obtain ⟨a, rfl, _⟩ := h
    rfl
  · obtain ⟨a, rfl, ea, q⟩ := h
    obtain ⟨pl, hpl⟩ := hev s.heap.objs.size
    exact ⟨a, _, ea, rfl, fun s1 Q' I hk => at_super0 (T.at rfl) O I ea rfl hk hpl, pss_nil, q⟩
theorem ex_fn1 {x fl : Str} {p0 p1 p2 p3 p4 q0 s0 s1 s2 s3 : Pos} (lk : K.lookup f = some ⟨oc, od, .func (ksFn name qual params body scope dV kV doc pm an cdv ct cc), osl⟩) (hcd : codeIn K cdv qual = true) (S : ExS ["self", x] ["self", x] scope) (O : OexC K C)
    (T : SupC P K mg C cc f cdv scope "self" (ksFn name qual params body scope dV kV doc pm an cdv ct cc)) (hno : PySem.W.findIn K (.ref C) fl = some none)
    (hbd : body = [.Expr (.Call (.Attribute (.Call (.Name "super" p0) [] [] p1) "__init__" p2) [.Name x q0] [] p3) p4, .Assign [.Attribute (.Name "self" s0) fl s1] (.Name x s2) s3])
    (hev : ∀ L : Addr, ∃ pl : Sem Bool, eval (.Call (.Attribute (.Call (.Name "super" p0) [] [] p1) "__init__" p2) [.Name x q0] [] p3) (ksEnv qual scope L f cdv cc) = (do
      let ov ← attributeBase (.Call (.Name "super" p0) [] [] p1) "__init__" (ksEnv qual scope L f cdv cc) (eval (.Call (.Name "super" p0) [] [] p1) (ksEnv qual scope L f cdv cc))
      standAt p2.atName
      let (g0, first) ← holding [ov] (getMethod ov "__init__" pl)
      callWith p3 g0 first (backTo p3 (starEach [.Name x q0] (ksEnv qual scope L f cdv cc))) []))
    (hd : (x == ("__debug__" : Str)) = false := by decide) (hcd' : (x == ("__classdict__" : Str)) = false := by decide) :
    FnOk P w K mg base (L2.CX P w) 1 f (ksFn name qual params body scope dV kV doc pm an cdv ct cc) ["self", x] (spX1 C fl) := by
  have hv : Vis scope x := .inl (S.par x (by simp))
  have hself : Vis scope "self" := .inl (S.par "self" (by simp))
  refine ex_fn (k := 0) (C := C) (sn := "self") (N := ["self", x]) lk hcd S T rfl hbd (fun vs H Q E h => ?_) fun A outer s H vs Q E h => ?_
  · obtain ⟨a, v, rfl, _⟩ := h
    rfl
  · obtain ⟨a, v, rfl, ea, q⟩ := h
    obtain ⟨pl, hpl⟩ := hev s.heap.objs.size
    refine ⟨a, tOst K fl (tVar 0) (tVar 1), ea, rfl, fun s1 Q' I hk => at_super (T.at rfl) O I ea rfl (pa_cons (pe_var (i := 1) rfl hv hd hcd') pa_nil) ⟨v, rfl, ?_⟩ hk hpl, pss_one (ps_ost (pe_var (i := 0) rfl hself) (pe_var (i := 1) rfl hv hd hcd')), ?_⟩
    · exact ⟨by simp, rfl⟩
    · exact ⟨v, rfl, .ref a, rfl, a, C, rfl, O, hno, .inl ⟨ea, fun dx h1 h2 => q dx h1 h2⟩⟩
theorem ex_fn2 {x y fl gl : Str} {p0 p1 p2 p3 p4 q0 q1 s0 s1 s2 s3 r0 r1 r2 r3 : Pos} (lk : K.lookup f = some ⟨oc, od, .func (ksFn name qual params body scope dV kV doc pm an cdv ct cc), osl⟩) (hcd : codeIn K cdv qual = true) (S : ExS ["self", x, y] ["self", x, y] scope) (O : OexC K C)
    (T : SupC P K mg C cc f cdv scope "self" (ksFn name qual params body scope dV kV doc pm an cdv ct cc)) (hno : PySem.W.findIn K (.ref C) fl = some none) (hno2 : PySem.W.findIn K (.ref C) gl = some none)
    (hbd : body = [.Expr (.Call (.Attribute (.Call (.Name "super" p0) [] [] p1) "__init__" p2) [.Name x q0, .Name y q1] [] p3) p4, .Assign [.Attribute (.Name "self" s0) fl s1] (.Name x s2) s3, .Assign [.Attribute (.Name "self" r0) gl r1] (.Name y r2) r3])
    (hev : ∀ L : Addr, ∃ pl : Sem Bool, eval (.Call (.Attribute (.Call (.Name "super" p0) [] [] p1) "__init__" p2) [.Name x q0, .Name y q1] [] p3) (ksEnv qual scope L f cdv cc) = (do
      let ov ← attributeBase (.Call (.Name "super" p0) [] [] p1) "__init__" (ksEnv qual scope L f cdv cc) (eval (.Call (.Name "super" p0) [] [] p1) (ksEnv qual scope L f cdv cc))
      standAt p2.atName
      let (g0, first) ← holding [ov] (getMethod ov "__init__" pl)
      callWith p3 g0 first (backTo p3 (starEach [.Name x q0, .Name y q1] (ksEnv qual scope L f cdv cc))) []))
    (hd : (x == ("__debug__" : Str)) = false := by decide) (hcd' : (x == ("__classdict__" : Str)) = false := by decide) (hd2 : (y == ("__debug__" : Str)) = false := by decide) (hcd2 : (y == ("__classdict__" : Str)) = false := by decide) :
    FnOk P w K mg base (L2.CX P w) 1 f (ksFn name qual params body scope dV kV doc pm an cdv ct cc) ["self", x, y] (spX2 C fl gl) := by
  have hv : Vis scope x := .inl (S.par x (by simp))
  have hv2 : Vis scope y := .inl (S.par y (by simp))
  have hself : Vis scope "self" := .inl (S.par "self" (by simp))
  refine ex_fn (k := 0) (C := C) (sn := "self") (N := ["self", x, y]) lk hcd S T rfl hbd (fun vs H Q E h => ?_) fun A outer s H vs Q E h => ?_
  · obtain ⟨a, v, u, rfl, _⟩ := h
    rfl
  · obtain ⟨a, v, u, rfl, ea, q⟩ := h
    obtain ⟨pl, hpl⟩ := hev s.heap.objs.size
    refine ⟨a, _, ea, rfl, fun s1 Q' I hk => at_super (T.at rfl) O I ea rfl (pa_cons (pe_var (i := 1) rfl hv hd hcd') (pa_cons (pe_var (i := 2) rfl hv2 hd2 hcd2) pa_nil)) ⟨v, rfl, u, rfl, ?_⟩ hk hpl,
      pss_cons (ps_ost (pe_var (i := 0) rfl hself) (pe_var (i := 1) rfl hv hd hcd')) (pss_one (ps_ost (pe_var (i := 0) rfl hself) (pe_var (i := 2) rfl hv2 hd2 hcd2))), ?_⟩
    · exact ⟨by simp, rfl⟩
    · refine ⟨v, rfl, .ref a, rfl, a, C, rfl, O, hno, .inl ⟨ea, fun dx h1 h2 => ?_⟩⟩
      exact ⟨u, rfl, .ref a, rfl, a, C, rfl, O, hno2, .inr ⟨dx, _, upd_same, by rw [upd_ne h2, upd_same], by simp, q dx h1 h2⟩⟩
end
/-! ### C(..) in a raise -/
section
variable {X : Cx} {x : Str} {p pos : Pos}
theorem del_upd {H : Hp} {a : Addr} {o : HO} (h : H a = none) : L2.del (upd H a o) a = H := by
  funext b
  by_cases hb : b = a
  · rw [hb, del_same, h]
  · rw [del_ne hb, upd_ne hb]
theorem pmk_none {C fI : Addr} {k : Nat} {fd : FuncData} (T : OexC X.K C) (iC : PySem.W.findIn X.K (.ref C) "__init__" = some (some (.ref fI))) (tI : PySem.W.typeIn X.K (.ref fI) = some (.type "function"))
    (F1 : FnOk X.prog X.w X.K X.mg X.base (L2.CX X.prog X.w) k fI fd ["self"] (spX0 C)) (hr : Room (k + 1) X.A) (hb : Binds X.K fd ["self"] []) (hg : Gl X x) (hm : X.mg x = some (.ref C))
    (hdb : (x == ("__debug__" : Str)) = false := by decide) : PMk X (.Call (.Name x p) [] [] pos) (fun _ H Q => Q (.ref C) none H) := by
  intro pins s σ H Q I q
  obtain ⟨nm, qn, N, bs, bm, sn, sub, ab, col, dd, k0, k1, k2, k3, k5, hC, hbm⟩ := T.cls
  refine wpAny_Call_Name_kw (ld_glob I hg hm ?_ hdb)
  refine PySem.W.callWith_K0 I.kIn T.kC ?_
  show wpAny _ _ (call (.ref C) []) _ _ _
  obtain ⟨hp, g, dr, tk, os⟩ := s
  have hsz : hp.objs.size ≤ hp.objs.size + 1 := Nat.le_succ _
  have hn : H (hp.objs.size + 1) = none := I.hok.fresh hsz
  have kk : ∀ b o, hp.get? b = some o → ((hp.push (PySem.W.kdv_tup [])).push (PySem.HandSPX.excO C hp.objs.size)).get? b = some o := fun b o e => Heap.get?_push_of_some _ (Heap.get?_push_of_some _ e)
  have hget : ((hp.push (PySem.W.kdv_tup [])).push (PySem.HandSPX.excO C hp.objs.size)).get? (hp.objs.size + 1) = some (PySem.HandSPX.excO C hp.objs.size) := by heap_get
  have I2 : Inv X pins σ (upd H (hp.objs.size + 1) (exo (hp.objs.size + 1) C none)) ⟨(hp.push (PySem.W.kdv_tup [])).push (PySem.HandSPX.excO C hp.objs.size), g, dr, tk, os⟩ :=
    I.laid (t' := tk) (a := hp.objs.size + 1) (o := exo (hp.objs.size + 1) C none) (h' := (hp.push (PySem.W.kdv_tup [])).push (PySem.HandSPX.excO C hp.objs.size)) kk hsz (exo_ok hget)
  refine wpAny_call (PySem.HandSPX.call_own F.excBase_ValueError (fun Y => PySem.HandSPX.refsVE_contains Y bm hbm) (I.kIn _ _ hC) (PySem.W.looks_findIn I.kIn iC) (fun self => PySem.W.bind_fn I.kIn self tI) (by rw [sizeLine_eq]; decide)
    (codeAny_mono (F1.run _ X.stack _ _ ⟨[Value.ref (hp.objs.size + 1)], []⟩ [Value.ref (hp.objs.size + 1)] [V.ref (hp.objs.size + 1)] (fun v H2 => v = .non ∧ H2 = upd H (hp.objs.size + 1) (exo (hp.objs.size + 1) C none)) (fun _ _ _ => False) (hr.make C [] []) (I2.env0.make C [] [])
      (by
        have := hb _ [Value.ref (hp.objs.size + 1)] I2.kIn rfl
        simpa using this) (.cons rfl .nil) ⟨_, rfl, upd_same, rfl, rfl⟩) fun r s' hq' => ?_))
  cases r with
  | error er => exact passL pins σ _ _ er s' I2 hq'
  | ok fl =>
    cases fl with
    | ret u =>
      obtain ⟨v, H2, os2, bare2, un, hok2, rv, ev, eH⟩ := hq'
      subst ev eH
      refine ⟨rv, ?_⟩
      obtain ⟨h2, g2, d2, t2, os'⟩ := s'
      obtain ⟨t0, hoe⟩ := exo_at hok2 upd_same
      obtain ⟨GG, g1', g2'⟩ := L2.restrict h2 fun b => decide (b ≠ hp.objs.size + 1)
      have gk : ∀ b, b ≠ hp.objs.size + 1 → GG.get? b = h2.get? b := fun b hb => g1' b (decide_eq_true hb)
      have ge : GG.get? (hp.objs.size + 1) = none := g2' _ (by simp)
      have far : ∀ {b : Addr} {o : Obj}, hp.get? b = some o → b ≠ hp.objs.size + 1 := fun {b o} z => Nat.ne_of_lt (Nat.lt_of_lt_of_le (Heap.lt_size z) hsz)
      have un0 : ∀ {b : Addr} {o : Obj}, hp.get? b = some o → H b = none → upd H (hp.objs.size + 1) (exo (hp.objs.size + 1) C none) b = none := fun {b o} z n => by rw [upd_ne (far z)]; exact n
      have U : Un (frs X.stack) [] H H hp GG := {
        keep := fun b o z n hf hx => (gk b (far z)).trans (un.keep b o (kk b o z) (un0 z n) hf hx)
        slot := fun b o z n hf hx => by
          rw [gk b (far z)]
          exact un.slot b o (kk b o z) (un0 z n) hf hx
        free := fun b o z n hx => n
        there := fun b o z hx => by
          rw [gk b (far z)]
          exact un.there b o (kk b o z) hx
        tups := fun b xs z => z
        frzs := fun b o v z => z
        tbls := fun b ps z => ⟨#[], by rw [z]; simp⟩ }
      have hok3 : HOk X.prog X.w H GG := fun b o z => by
        have nb : b ≠ hp.objs.size + 1 := fun e => by
          rw [e, hn] at z
          cases z
        have z2 : upd H (hp.objs.size + 1) (exo (hp.objs.size + 1) C none) b = some o := by
          rw [upd_ne nb]
          exact z
        have noa : ∀ {c y : Addr}, upd H (hp.objs.size + 1) (exo (hp.objs.size + 1) C none) c = some (.own y) → c ≠ hp.objs.size + 1 := fun {c y} hc e => by
          rw [e, upd_same] at hc
          exact exo_own (Option.some.inj hc)
        exact (hok2 b o z2).stay (fun c v hc y => by
            have hca : c ≠ hp.objs.size + 1 := by
              rcases hc with hc | hc
              · rw [hc]
                exact nb
              · exact noa hc
            exact (gk c hca).trans y)
          (fun c hc => by
            rw [upd_ne (noa hc)] at hc
            exact hc) (fun c xs hc => by
            rw [upd_ne (fun e => by
              rw [e, upd_same] at hc
              exact exo_tup (Option.some.inj hc))] at hc
            exact hc)
      have J : Inv X pins σ H ⟨GG, g2, d2, t2, os'⟩ := I.call' (ch := []) os2 U hok3 bare2 (fun b z => absurd z (by simp))
      refine ⟨_, _, _, ⟨GG, g2, d2, t2, os'⟩, H, .ref C, none, rfl, J, fun b o z => ?_, ge, hoe, ⟨rfl, rfl⟩, rfl, rfl, hn, rfl, bare2, raises_own T.exC T.tyC, q⟩
      by_cases hb : b = hp.objs.size + 1
      · rw [hb, ge] at z
        cases z
      · exact (gk b hb).symm.trans z
    | next => exact False.elim hq'
    | brk => exact False.elim hq'
    | cont => exact False.elim hq'
theorem upd_del1 {H : Hp} {a d : Addr} {o o' u : HO} (ha : H a = none) (hd : d ≠ a) : upd (L2.del (upd (upd H d o) a o') a) d u = upd H d u := by
  funext b
  by_cases hb : b = d
  · rw [hb, upd_same, upd_same]
  · rw [upd_ne hb, upd_ne hb]
    by_cases hc : b = a
    · rw [hc, del_same, ha]
    · rw [del_ne hc, upd_ne hc, upd_ne hb]
theorem upd_del2 {H : Hp} {a d : Addr} {o o' o'' u : HO} (ha : H a = none) (hd : d ≠ a) : upd (L2.del (upd (upd (upd H d o) a o') d o'') a) d u = upd H d u := by
  funext b
  by_cases hb : b = d
  · rw [hb, upd_same, upd_same]
  · rw [upd_ne hb, upd_ne hb]
    by_cases hc : b = a
    · rw [hc, del_same, ha]
    · rw [del_ne hc, upd_ne hb, upd_ne hc, upd_ne hb]
variable {G : Gx} {W : WX}
/-- what a raise of a class wants -/
structure ExC (X : Cx) (C : Addr) (ps : List Str) (sp : Sp) : Prop where
  oc : OexC X.K C
  ex : ∃ (fI : Addr) (fd : FuncData), PySem.W.findIn X.K (.ref C) "__init__" = some (some (.ref fI)) ∧ PySem.W.typeIn X.K (.ref fI) = some (.type "function") ∧ FnOk X.prog X.w X.K X.mg X.base (L2.CX X.prog X.w) 1 fI fd ps sp ∧ Binds X.K fd ps []
def sRaise0 (c : Nat) : Sm := fun env st => .exn c [] env st
def sRaise1 (c : Nat) (f : String) (a : E) : Sm := fun env st => (a env st).out env fun d s => .exn c [(f, d)] env s
def sRaise2 (c : Nat) (f g : String) (a b : E) : Sm := fun env st => (a env st).out env fun x s => (b env s).out env fun y s => .exn c [(g, y), (f, x)] env s
theorem s_raise0 {k : Nat} {c : Nat} {rp : Pos} (T : ExC X (G.tb c) ["self"] (spX0 (G.tb c))) (hc : X.calm = true) (tk : Takes X W) (hr : Room k X.A) (hm : X.mg x = some (.ref (G.tb c))) (hj : 2 ≤ k := by decide) (hg : Gl X x := by rfl) (hdb : (x == ("__debug__" : Str)) = false := by decide) :
    PS X (.Raise (some (.Call (.Name x p) [] [] pos)) none rp) (tS G W (sRaise0 c)) := by
  obtain ⟨fI, fd, h1, h2, h3, h4⟩ := T.ex
  exact PS_weak (ps_raise hc tk (pmk_none T.oc h1 h2 h3 (hr.mono hj) h4 hg hm hdb)) fun K σ H ⟨ms, st, env, S, r, q⟩ => q none σ ms H Gr.refl S r (.inl ⟨rfl, rfl⟩)
theorem Gr.xd {ms : List Addr} {H : Hp} {d : Addr} {gs : List (Str × V)} (h : H d = none) : Gr ms H ms (upd H d (.xd gs)) := Gr.new0 h
theorem s_raise1 {k : Nat} {c : Nat} {f : String} {fs ep : Str} {rp : Pos} {e : Expr} {fe : E} (hfs : fs = Str.ofString f) (T : ExC X (G.tb c) ["self", ep] (spX1 (G.tb c) fs)) (hc : X.calm = true) (tk : Takes X W) (hr : Room k X.A) (hm : X.mg x = some (.ref (G.tb c)))
    (ha : PA X [e] (tA G W (eArgs [fe]))) (hj : 2 ≤ k := by decide) (hg : Gl X x := by rfl) (hdb : (x == ("__debug__" : Str)) = false := by decide)
    (he : starEach [e] X.env = (false, eval e X.env) :: starEach [] X.env := by rfl) (hpl : (backTo pos (starEach [] X.env)).any (·.1) = false := by rfl) :
    PS X (.Raise (some (.Call (.Name x p) [e] [] pos)) none rp) (tS G W (sRaise1 c f fe)) := by
  obtain ⟨fI, fd, h1, h2, h3, h4⟩ := T.ex
  refine PS_weak (ps_raise hc tk (pmk_oex (CX := L2.CX X.prog X.w) (ds := []) (dvs := []) T.oc h1 h2 h3 (hr.mono hj) h4 .nil passL hg hm ha hdb he hpl)) fun K σ H h => ?_
  have q : tS G W (fun env st => (eArgs [fe] env st).out env fun ds s => match ds with | [d] => .exn c [(f, d)] env s | _ => .bad) K σ H := by
    obtain ⟨ms, st, env, S, r, q⟩ := h
    refine ⟨ms, st, env, S, r, ?_⟩
    have : (eArgs [fe] env st).out env (fun ds s => match ds with | [d] => .exn c [(f, d)] env s | _ => .bad) = sRaise1 c f fe env st := by
      unfold sRaise1 eArgs eArgs
      cases fe env st <;> rfl
    rw [← this] at q
    exact q
  refine tX_mono (tX_out (R := RVs G) (k := fun env ds s => match ds with | [d] => .exn c [(f, d)] env s | _ => .bad) q) fun vs H1 ⟨ms, st, env, ds, S, r, r1, k1⟩ => ?_
  split at k1
  · obtain ⟨v, rfl, rv⟩ := r1.one'
    refine ⟨by simp, fun a ha => ?_⟩
    refine ⟨a, v, rfl, upd_same, fun dx h5 h6 => ⟨rfl, dx, [(fs, v)], upd_same, by rw [upd_ne h6, upd_same], ?_, ?_⟩⟩
    · rw [upd_ne h6] at h5
      exact h5
    · rw [upd_ne h6] at h5
      have e3 : upd (L2.del (upd (upd (upd H1 a (exo a (G.tb c) none)) dx (exd dx [(fs, v)])) a (exo a (G.tb c) (some dx))) a) dx (.xd [(fs, v)]) = upd H1 dx (.xd [(fs, v)]) := by
        funext b
        by_cases hb : b = dx
        · rw [hb, upd_same, upd_same]
        · rw [upd_ne hb, upd_ne hb]
          by_cases hc : b = a
          · rw [hc, del_same, ha]
          · rw [del_ne hc, upd_ne hc, upd_ne hb, upd_ne hc]
      rw [e3]
      have g := Gr.new0 (ms := ms) (o := .xd [(fs, v)]) h5
      exact k1 (some dx) σ ms _ g (S.lay h5) (r.gr g) (.inr ⟨dx, _, by simp, rfl, upd_same, by
        refine ⟨v, [], by rw [hfs], RV.gr g _ _ rv, rfl⟩⟩)
  · exact k1.elim
theorem s_raise2 {k : Nat} {c : Nat} {f g : String} {fs gs e1p e2p : Str} {rp : Pos} {e e2 : Expr} {fe fe2 : E} (hfs : fs = Str.ofString f) (hgs : gs = Str.ofString g) (T : ExC X (G.tb c) ["self", e1p, e2p] (spX2 (G.tb c) fs gs)) (hc : X.calm = true) (tk : Takes X W) (hr : Room k X.A) (hm : X.mg x = some (.ref (G.tb c)))
    (ha : PA X [e, e2] (tA G W (eArgs [fe, fe2]))) (hj : 2 ≤ k := by decide) (hg : Gl X x := by rfl) (hdb : (x == ("__debug__" : Str)) = false := by decide)
    (he : starEach [e, e2] X.env = (false, eval e X.env) :: starEach [e2] X.env := by rfl) (hpl : (backTo pos (starEach [e2] X.env)).any (·.1) = false := by rfl) :
    PS X (.Raise (some (.Call (.Name x p) [e, e2] [] pos)) none rp) (tS G W (sRaise2 c f g fe fe2)) := by
  obtain ⟨fI, fd, h1, h2, h3, h4⟩ := T.ex
  refine PS_weak (ps_raise hc tk (pmk_oex (CX := L2.CX X.prog X.w) (ds := []) (dvs := []) T.oc h1 h2 h3 (hr.mono hj) h4 .nil passL hg hm ha hdb he hpl)) fun K σ H h => ?_
  have q : tS G W (fun env st => (eArgs [fe, fe2] env st).out env fun ds s => match ds with | [x, y] => .exn c [(g, y), (f, x)] env s | _ => .bad) K σ H := by
    obtain ⟨ms, st, env, S, r, q⟩ := h
    refine ⟨ms, st, env, S, r, ?_⟩
    have : (eArgs [fe, fe2] env st).out env (fun ds s => match ds with | [x, y] => .exn c [(g, y), (f, x)] env s | _ => .bad) = sRaise2 c f g fe fe2 env st := by
      unfold sRaise2 eArgs eArgs eArgs
      cases e1 : fe env st with
      | ok a s =>
        simp only [Res.bind, Res.out]
        cases fe2 env s <;> rfl
      | _ => rfl
    rw [← this] at q
    exact q
  refine tX_mono (tX_out (R := RVs G) (k := fun env ds s => match ds with | [x, y] => .exn c [(g, y), (f, x)] env s | _ => .bad) q) fun vs H1 ⟨ms, st, env, ds, S, r, r1, k1⟩ => ?_
  split at k1
  · obtain ⟨v, u, rfl, rv, ru⟩ := r1.two'
    refine ⟨by simp, fun a ha => ?_⟩
    refine ⟨a, v, u, rfl, upd_same, fun dx h5 h6 => ⟨rfl, dx, [(gs, u), (fs, v)], by rw [upd_ne (Ne.symm h6), upd_same], upd_same, ?_, ?_⟩⟩
    · rw [upd_ne h6] at h5
      exact h5
    · rw [upd_ne h6] at h5
      have e3 : upd (L2.del (upd (upd (upd (upd H1 a (exo a (G.tb c) none)) dx (exd dx [(fs, v)])) a (exo a (G.tb c) (some dx))) dx (exd dx [(gs, u), (fs, v)])) a) dx (.xd [(gs, u), (fs, v)]) = upd H1 dx (.xd [(gs, u), (fs, v)]) := by
        funext b
        by_cases hb : b = dx
        · rw [hb, upd_same, upd_same]
        · rw [upd_ne hb, upd_ne hb]
          by_cases hc : b = a
          · rw [hc, del_same, ha]
          · rw [del_ne hc, upd_ne hb, upd_ne hc, upd_ne hb, upd_ne hc]
      rw [e3]
      have g' := Gr.new0 (ms := ms) (o := .xd [(gs, u), (fs, v)]) h5
      exact k1 (some dx) σ ms _ g' (S.lay h5) (r.gr g') (.inr ⟨dx, _, by simp, rfl, upd_same, by
        refine ⟨u, _, by rw [hgs], RV.gr g' _ _ ru, v, [], by rw [hfs], RV.gr g' _ _ rv, rfl⟩⟩)
  · exact k1.elim
end
end LF

set_option Elab.async false
set_option linter.all false
set_option maxRecDepth 100000
set_option maxHeartbeats 4000000
/-! try: several except clauses, some with a name; each suite returns -/
namespace LF
open PySem PySem.Spec PyProof.Rows L2
section
variable {X : Cx}
abbrev Cls3 := Value × Option Nat × (Addr → Value → Option Addr → TS)
def offs (i : Nat) (D : Ends) : Ends := { nx := fun τ H' => D.nx (τ.set i none) H', rt := D.rt, bk := fun τ H' => D.bk (τ.set i none) H', ct := fun τ H' => D.ct (τ.set i none) H' }
/-- what the clauses want of an exception of the body -/
def wMix (K : PySem.W.Frag) (Wout : WX) (D : Ends) : List Cls3 → WX
  | [] => Wout
  | (c, none, ts) :: r => fun cls d σ H => ∃ b, PySem.W.exmOne K cls c = some b ∧ (b = true → ∀ a, H a = none → ts a cls d D σ H) ∧ (b = false → wMix K Wout D r cls d σ H)
  | (c, some i, ts) :: r => fun cls d σ H => ∃ b, PySem.W.exmOne K cls c = some b ∧ (b = true → ∀ a, H a = none → ts a cls d (offs i D) (σ.set i (some (.ref a))) H) ∧ (b = false → wMix K Wout D r cls d σ H)
inductive Mix (X : Cx) : List ExceptHandler → List Cls3 → Prop
  | nil : Mix X [] []
  | only {x : Str} {c : Value} {ts : Addr → Value → Option Addr → TS} {b0 : Stmt} {suite : List Stmt} {np hp : Pos} {hds : List ExceptHandler} {l : List Cls3} (hc : Names X x c)
      (hsu : ∀ (a : Addr) (oe : Obj) (cls : Value) (d : Option Addr) (pn : List (Addr × Obj)), Zc cls d oe → (∃ vs, oe.data = .fields vs) → PSs (X.suite a ((a, oe) :: pn)) (b0 :: suite) (ts a cls d)) (r : Mix X hds l) :
      Mix X (.ExceptHandler (some (.Name x np)) none (b0 :: suite) hp :: hds) ((c, none, ts) :: l)
  | named {x n : Str} {i : Nat} {c : Value} {ts : Addr → Value → Option Addr → TS} {b0 : Stmt} {suite : List Stmt} {np hp : Pos} {hds : List ExceptHandler} {l : List Cls3} (hN : X.N.Nodup) (hi : X.N[i]? = some n) (hln : X.env.kindOf n = some .local) (hc : Names X x c)
      (hsu : ∀ (a : Addr) (oe : Obj) (cls : Value) (d : Option Addr) (pn : List (Addr × Obj)), Zc cls d oe → (∃ vs, oe.data = .fields vs) → PSs (X.suite a ((a, oe) :: pn)) (b0 :: suite) (ts a cls d)) (r : Mix X hds l) :
      Mix X (.ExceptHandler (some (.Name x np)) (some n) (b0 :: suite) hp :: hds) ((c, some i, ts) :: l)
theorem ps_try_mix {body : List Stmt} {hd1 : ExceptHandler} {hds : List ExceptHandler} {l : List Cls3} {pos : Pos} {tb : WX → TS} {Wout : WX} (hs : X.stack = X.env :: X.outer) (hf : X.env.frame = some X.env.locals) (tk : Takes X Wout)
    (hb : ∀ (W : WX) (pn : List (Addr × Obj)) (xe : Value → Shared → Prop), Takes (X.tr pn xe) W → PassesOwn (model X.prog X.w) X.A X.env xe → PSs (X.tr pn xe) body (tb W))
    (hh : Mix X (hd1 :: hds) l) : PS X (.Try body (hd1 :: hds) [] [] pos) (fun D σ H => tb (wMix X.K Wout D l) D σ H) := by
  refine ⟨fun pins s σ H D I h => ?_⟩
  have ok := I.ok
  have hfr : X.A.frames = some (X.env :: X.outer) := by rw [ok.frames, hs]
  refine wpAny_Try_except (wpAny_mono ((hb (wMix X.K Wout D l) (X.pn ++ pins) (fun e s₁ => wpAny (model X.prog X.w) X.A (noteFrame e X.env) (fun _ s₂ => wpAny (model X.prog X.w) X.A (setFlight e none) (fun _ s₃ =>
    wpAny (model X.prog X.w) X.A (handleBy e X.env (hd1 :: hds)) (SP X pins D) X.xe s₃) X.xe s₂) X.xe s₁) (fun u s' air => ?_) PassesOwn.looking).run [] s σ H D (I.toTry _) h) (fun fl s1 hsp => ?_) (fun e s1 he => he))
  · obtain ⟨a, B, sI, pins', τ, H', cls, d, rfl, J', nb, up, sky, na, os, ag, want⟩ := air
    have J : Inv X pins τ H' sI := J'.ofTry ok
    have sky2 : Sky B (X.env :: X.outer) a (Zc cls d) X.env.locals s'.heap := by rw [← hs]; exact sky
    show wpAny (model X.prog X.w) X.A (noteFrame (.ref a) X.env) _ _ _
    refine Sky.land Zc.steady hfr hf sky2 fun g fl up3 => ?_
    have JG : Inv X pins τ H' { s' with heap := g } := J.landed nb fl.1 (up.trans up3) os ag
    obtain ⟨oe, ve, he, hz, hdt⟩ := fl.there
    have noFrame : a ∉ frs (X.env :: X.outer) := fun hm => by
      obtain ⟨_, o', e', hnf⟩ := fl.2.2.1.mem hm
      rw [he] at e'
      cases e'
      exact hnf _ hdt
    have nL : a ≠ X.env.locals := fun z => noFrame (List.mem_filterMap.mpr ⟨X.env, List.mem_cons_self, by rw [hf, z]⟩)
    have nF : a ∉ X.fs := fun hm => by
      obtain ⟨e, h1, h2⟩ := List.mem_filterMap.mp hm
      exact noFrame (List.mem_filterMap.mpr ⟨e, List.mem_cons_of_mem _ h1, h2⟩)
    have SG := JG.suite he hdt na nL nF
    have LT : PySem.W.Looks (model X.prog X.w) g (typeOf (.ref a)) cls := fun A Q E s k q => wpAny_typeOf_ref (k _ _ he) (by rw [hz.1]; exact q)
    have test : ∀ {x : Str} {c : Value} {np : Pos} {Q : Value → Shared → Prop} {E : Value → Shared → Prop}, Names X x c → Q c { s' with heap := g } → wpAny (model X.prog X.w) (X.A.mark (some (.ref a))) (eval (.Name x np) X.env) Q E { s' with heap := g } := fun {x c np Q E} hc q => by
      obtain ⟨hg, hdbg, hm | ⟨hm, hv, hnn⟩⟩ := hc
      · exact ld_glob (X := X.suite a ((a, oe) :: (X.pn ++ pins))) SG hg hm q hdbg
      · exact ld_blt (X := X.suite a ((a, oe) :: (X.pn ++ pins))) SG hg hm hv q hnn hdbg
    have again : ∀ {M : Heap → Prop}, (∀ g', HandSPX.FlyingZ B (X.env :: X.outer) a (Zc cls d) g' → g.UpToSlots g' → M g') → ∀ g', HandSPX.FlyingZ B (X.env :: X.outer) a (Zc cls d) g' → g.UpToSlots g' → M g' := fun h => h
    have go : ∀ {hs' : List ExceptHandler} {l' : List Cls3}, Mix X hs' l' → wMix X.K Wout D l' cls d τ H' → wpAny (model X.prog X.w) X.A (handleBy (.ref a) X.env hs') (SP X pins D) X.xe { s' with heap := g } := by
      intro hs' l' hk
      induction hk with
      | nil =>
        intro want
        refine wpAny_handleBy_nil ?_
        obtain ⟨k1, k2, k3, oe2, vs2, T2, oT, ts', he2, hz2, hd2, h12, hr⟩ := id fl
        unfold PySem.passOn
        refine wpAny_bind (wpAny_field he2 hd2 h12 ?_)
        rw [if_neg (show ¬ ((Value.ref T2 == Value.none) = true) from by simp)]
        have out : wpAny (model X.prog X.w) X.A (setFlight (.ref a) X.env.frame) (fun _ s4 => wpAny (model X.prog X.w) X.A (throw (.ref a) : Sem Flow) (SP X pins D) X.xe s4) X.xe { s' with heap := g } := by
          rw [hf]
          exact HandSPX.setFlight_upZ fl fun g4 held up4 => wpAny_throw (tk _ _ ⟨a, B, sI, pins, τ, H', cls, d, rfl, J, nb, (up.trans up3).trans up4, .inr (.inr (by rw [hs]; exact held)), na, os, ag, want⟩)
        first
          | exact wpAny_bind (wpAny_pure (wpAny_bind out))
          | exact wpAny_bind out
      | @only x c ts b0 suite np hp hds2 l2 hc hsu r ih =>
        intro want
        obtain ⟨b, hb1, hyes, hno⟩ := want
        have LM := PySem.W.exm_one (M := model X.prog X.w) JG.kIn LT hb1
        refine wpAny_handleBy_cons (codeAny_handlers_test (test hc (LM.here ?_))) (by intro q; cases q)
        cases b with
        | true =>
          refine codeAny_handlers_suite (HandSPX.lands_againZ fl fun g4 fl4 up4 => ?_)
          have J4 : Inv X pins τ H' { s' with heap := g4 } := J.landed nb fl4.1 ((up.trans up3).trans up4) os ag
          obtain ⟨oe4, vs4, he4, hz4, hd4⟩ := fl4.there
          refine wpAny_mono ((hsu a oe4 cls d (X.pn ++ pins) hz4 ⟨_, hd4⟩).run [] _ _ H' _ (J4.suite he4 hd4 na nL nF) (hyes rfl a na)) (fun f s6 hsp => ?_) (fun _ _ z => False.elim z)
          cases f with
          | ret u =>
            obtain ⟨v6, τ6, H6, S6, r6, q6⟩ := hsp
            exact ⟨_, _, _, S6.unsuite ok, r6, q6⟩
          | next =>
            obtain ⟨τ6, H6, S6, q6⟩ := hsp
            exact ⟨_, _, S6.unsuite ok, q6⟩
          | brk =>
            obtain ⟨τ6, H6, S6, q6⟩ := hsp
            exact ⟨_, _, S6.unsuite ok, q6⟩
          | cont =>
            obtain ⟨τ6, H6, S6, q6⟩ := hsp
            exact ⟨_, _, S6.unsuite ok, q6⟩
        | false =>
          show wpAny _ X.A (handleBy (.ref a) X.env hds2) _ _ _
          exact ih (hno rfl)
      | @named x n i c ts b0 suite np hp hds2 l2 hN hi hln hc hsu r ih =>
        intro want
        obtain ⟨b, hb1, hyes, hno⟩ := want
        have LM := PySem.W.exm_one (M := model X.prog X.w) JG.kIn LT hb1
        refine wpAny_handleBy_cons (codeAny_handlers_test (test hc (LM.here ?_))) (by intro q; cases q)
        cases b with
        | true =>
          refine codeAny_handlers_suite_as (HandSPX.lands_againZ fl fun g4 fl4 up4 => ?_)
          have J4 : Inv X pins τ H' { s' with heap := g4 } := J.landed nb fl4.1 ((up.trans up3).trans up4) os ag
          obtain ⟨oe4, vs4, he4, hz4, hd4⟩ := fl4.there
          refine store_ok (X := X.suite a ((a, oe4) :: (X.pn ++ pins))) (v := .ref a) (J4.suite he4 hd4 na nL nF) hN hi (.inl hln) rfl (fun s5 S5 => ?_) (.inr hln)
          refine wpAny_mono ((hsu a oe4 cls d (X.pn ++ pins) hz4 ⟨_, hd4⟩).run [] s5 _ H' _ S5 (hyes rfl a na)) (fun f s6 hsp => ?_) (fun _ _ z => False.elim z)
          have done : ∀ {τ6 : L2.St} {H6 : Hp} {Q : Shared → Prop}, Inv (X.suite a ((a, oe4) :: (X.pn ++ pins))) [] τ6 H6 s6 → (∀ s7, Inv X pins (τ6.set i none) H6 s7 → Q s7) →
              wpAny (model X.prog X.w) X.A (do bindName X.env n .none; unbindBehindTheSuite X.env n hp) (fun _ s7 => Q s7) X.xe s6 := fun {τ6 H6 Q} S6 hq => gone_ok (S6.unsuite ok) hN hi hln hq
          cases f with
          | ret u =>
            obtain ⟨v6, τ6, H6, S6, r6, q6⟩ := hsp
            exact done S6 fun s7 J7 => ⟨_, _, _, J7, r6, q6⟩
          | next =>
            obtain ⟨τ6, H6, S6, q6⟩ := hsp
            exact done S6 fun s7 J7 => ⟨_, _, J7, q6⟩
          | brk =>
            obtain ⟨τ6, H6, S6, q6⟩ := hsp
            exact done S6 fun s7 J7 => ⟨_, _, J7, q6⟩
          | cont =>
            obtain ⟨τ6, H6, S6, q6⟩ := hsp
            exact done S6 fun s7 J7 => ⟨_, _, J7, q6⟩
        | false =>
          show wpAny _ X.A (handleBy (.ref a) X.env hds2) _ _ _
          exact ih (hno rfl)
    exact go hh want
  · cases fl with
    | ret u =>
      obtain ⟨v, τ, H', J', r, q⟩ := hsp
      exact ⟨v, τ, H', J'.ofTry ok, r, q⟩
    | next =>
      obtain ⟨τ, H', J', q⟩ := hsp
      exact wpAny_execs_nil ⟨τ, H', J'.ofTry ok, q⟩
    | brk =>
      obtain ⟨τ, H', J', q⟩ := hsp
      exact ⟨τ, H', J'.ofTry ok, q⟩
    | cont =>
      obtain ⟨τ, H', J', q⟩ := hsp
      exact ⟨τ, H', J'.ofTry ok, q⟩
end

/-! ### with the exception at hand -/
/-- the same place, an exception at hand -/
abbrev Gx.wx (G : Gx) (a d : Addr) (fs : List (String × D)) : Gx := { G with xi := some (a, d, fs) }
section
variable {G : Gx} {ms : List Addr} {H : Hp} {a0 d0 : Addr} {fs0 : List (String × D)}
mutual
theorem RV.wx (h0 : G.xi = none) : ∀ (d : D) (v : V), RV G ms H d v → RV (G.wx a0 d0 fs0) ms H d v
  | .non, _, h => h
  | .bl _, _, h => h
  | .int _, _, h => h
  | .str _, _, h => h
  | .tup ds, _, h => by
    simp only [RV] at h ⊢
    obtain ⟨a, vs, e, h1, h2⟩ := h
    exact ⟨a, vs, e, h1, RVs.wx h0 ds vs h2⟩
  | .ref _, _, h => h
  | .glo _, _, h => h
  | .ty _, _, h => h
  | .scr _, _, h => h
  | .xc, _, h => by
    simp only [RV] at h
    obtain ⟨a, d, fs, e, _⟩ := h
    rw [h0] at e
    cases e
theorem RVs.wx (h0 : G.xi = none) : ∀ (ds : List D) (vs : List V), RVs G ms H ds vs → RVs (G.wx a0 d0 fs0) ms H ds vs
  | [], _, h => h
  | d :: ds, _, h => by
    simp only [RVs] at h ⊢
    obtain ⟨v, r, e, h1, h2⟩ := h
    exact ⟨v, r, e, RV.wx h0 d v h1, RVs.wx h0 ds r h2⟩
end
theorem RF.wx (h0 : G.xi = none) : ∀ {fs : List (String × D)} {gs : List (Str × V)}, RF G ms H fs gs → RF (G.wx a0 d0 fs0) ms H fs gs
  | [], _, h => h
  | p :: fs, _, h => by
    obtain ⟨v, r, e, h1, h2⟩ := h
    exact ⟨v, r, e, RV.wx h0 _ _ h1, RF.wx h0 h2⟩
theorem RE.wx (h0 : G.xi = none) : ∀ {e : Sl} {σ : L2.St}, RE G ms H e σ → RE (G.wx a0 d0 fs0) ms H e σ
  | [], _, h => h
  | none :: e, _, h => by
    obtain ⟨o, r, e, h1⟩ := h
    exact ⟨o, r, e, RE.wx h0 h1⟩
  | some d :: e, _, h => by
    obtain ⟨v, r, e, h1, h2⟩ := h
    exact ⟨v, r, e, RV.wx h0 _ _ h1, RE.wx h0 h2⟩
theorem RK.wx (h0 : G.xi = none) : ∀ {kvs : List (D × D)} {l : List (Key × V)}, RK G ms H kvs l → RK (G.wx a0 d0 fs0) ms H kvs l
  | [], _, h => h
  | p :: r, _, h => by
    obtain ⟨i, v, s, e, e1, h1, h2⟩ := h
    exact ⟨i, v, s, e, e1, RV.wx h0 _ _ h1, RK.wx h0 h2⟩
theorem RN.wx (h0 : G.xi = none) : ∀ {kvs : List (D × D)} {l : List (NestedKey × Addr × Value)}, RN G ms H kvs l → RN (G.wx a0 d0 fs0) ms H kvs l
  | [], _, h => h
  | p :: r, _, h => by
    obtain ⟨nk, a, u, v, s, e, e1, e2, h1, h2, h3, h4⟩ := h
    exact ⟨nk, a, u, v, s, e, e1, e2, RV.wx h0 _ _ h1, h2, RV.wx h0 _ _ h3, RN.wx h0 h4⟩
theorem CellOk.wx (h0 : G.xi = none) {a : Addr} {c : Cell} (h : CellOk G ms H a c) : CellOk (G.wx a0 d0 fs0) ms H a c := by
  cases c with
  | lst ds =>
    obtain ⟨vs, h1, h2⟩ := h
    exact ⟨vs, h1, RVs.wx h0 _ _ h2⟩
  | ins c fs =>
    obtain ⟨dx, gs, h1, h2⟩ := h
    exact ⟨dx, gs, h1, RF.wx h0 h2⟩
  | dct kvs =>
    rcases h with ⟨l, h1, h2⟩ | ⟨h3, xs, h1, h2⟩
    · exact .inl ⟨l, h1, h2.wx h0⟩
    · exact .inr ⟨h3, xs, h1, h2.wx h0⟩
  | exn c fs =>
    obtain ⟨d, h1, h2⟩ := h
    refine ⟨d, h1, ?_⟩
    rcases h2 with h2 | ⟨dx, gs, e, h2, h3⟩
    · exact .inl h2
    · exact .inr ⟨dx, gs, e, h2, RF.wx h0 h3⟩
  | dtx x d =>
    obtain ⟨v, h1, h2⟩ := h
    exact ⟨v, h1, RV.wx h0 _ _ h2⟩
theorem SRel.wx (h0 : G.xi = none) {st : Sto} (S : SRel G ms st H) {gs : List (Str × V)} (h1 : H d0 = some (.xd gs)) (h2 : RF G ms H fs0 gs) : SRel (G.wx a0 d0 fs0) ms st H :=
  ⟨S.len, S.nd, fun i a c e1 e2 => (S.cell i a c e1 e2).wx h0, fun a d fs e => (by cases e; exact ⟨gs, h1, h2.wx h0⟩), S.tabs⟩
/-- no exception in it -/
def noX : Nat → D → Bool
  | _, .non => true
  | _, .bl _ => true
  | _, .int _ => true
  | _, .str _ => true
  | n + 1, .tup ds => ds.all (noX n)
  | _, _ => false
theorem noXs {f : D → Bool} (hf : ∀ d v, f d = true → RV (G.wx a0 d0 fs0) ms H d v → RV G ms H d v) : ∀ {ds : List D} {vs : List V}, ds.all f = true → RVs (G.wx a0 d0 fs0) ms H ds vs → RVs G ms H ds vs
  | [], _, _, h => h
  | d :: ds, _, e, h => by
    simp only [RVs] at h ⊢
    obtain ⟨v, r, rfl, h1, h2⟩ := h
    simp only [List.all_cons, Bool.and_eq_true] at e
    exact ⟨v, r, rfl, hf _ _ e.1 h1, noXs hf e.2 h2⟩
theorem noX_ok : ∀ (n : Nat) (d : D) (v : V), noX n d = true → RV (G.wx a0 d0 fs0) ms H d v → RV G ms H d v
  | _, .non, _, _, h => h
  | _, .bl _, _, _, h => h
  | _, .int _, _, _, h => h
  | _, .str _, _, _, h => h
  | 0, .tup ds, _, e, _ => by simp [noX] at e
  | n + 1, .tup ds, v, e, h => by
    simp only [RV] at h ⊢
    obtain ⟨a, vs, e1, h1, h2⟩ := h
    exact ⟨a, vs, e1, h1, noXs (fun d v k r => noX_ok n d v k r) (by simpa [noX] using e) h2⟩
  | 0, .ref _, _, e, _ => by simp [noX] at e
  | 0, .glo _, _, e, _ => by simp [noX] at e
  | 0, .ty _, _, e, _ => by simp [noX] at e
  | 0, .scr _, _, e, _ => by simp [noX] at e
  | 0, .xc, _, e, _ => by simp [noX] at e
  | n + 1, .ref _, _, e, _ => by simp [noX] at e
  | n + 1, .glo _, _, e, _ => by simp [noX] at e
  | n + 1, .ty _, _, e, _ => by simp [noX] at e
  | n + 1, .scr _, _, e, _ => by simp [noX] at e
  | n + 1, .xc, _, e, _ => by simp [noX] at e
mutual
theorem RV.unwx (h0 : G.xi = none) {ms' : List Addr} {H' : Hp} : ∀ (d : D) (v v' : V), RV G ms H d v → RV (G.wx a0 d0 fs0) ms' H' d v' → RV G ms' H' d v'
  | .non, _, _, _, h => h
  | .bl _, _, _, _, h => h
  | .int _, _, _, _, h => h
  | .str _, _, _, _, h => h
  | .tup ds, _, _, k, h => by
    simp only [RV] at h k ⊢
    obtain ⟨a, vs, e, h1, h2⟩ := h
    obtain ⟨_, us, _, _, k2⟩ := k
    exact ⟨a, vs, e, h1, RVs.unwx h0 ds us vs k2 h2⟩
  | .ref _, _, _, _, h => h
  | .glo _, _, _, _, h => h
  | .ty _, _, _, _, h => h
  | .scr _, _, _, _, h => h
  | .xc, _, _, k, _ => by
    simp only [RV] at k
    obtain ⟨a, d, fs, e, _⟩ := k
    rw [h0] at e
    cases e
theorem RVs.unwx (h0 : G.xi = none) {ms' : List Addr} {H' : Hp} : ∀ (ds : List D) (vs vs' : List V), RVs G ms H ds vs → RVs (G.wx a0 d0 fs0) ms' H' ds vs' → RVs G ms' H' ds vs'
  | [], _, _, _, h => h
  | d :: ds, _, _, k, h => by
    simp only [RVs] at h k ⊢
    obtain ⟨v, r, e, h1, h2⟩ := h
    obtain ⟨u, q, _, k1, k2⟩ := k
    exact ⟨v, r, e, RV.unwx h0 d u v k1 h1, RVs.unwx h0 ds q r k2 h2⟩
end
theorem RF.unwx (h0 : G.xi = none) {ms' : List Addr} {H' : Hp} : ∀ {fs : List (String × D)} {gs gs' : List (Str × V)}, RF G ms H fs gs → RF (G.wx a0 d0 fs0) ms' H' fs gs' → RF G ms' H' fs gs'
  | [], _, _, _, h => h
  | p :: fs, _, _, k, h => by
    obtain ⟨v, r, e, h1, h2⟩ := h
    obtain ⟨u, q, _, k1, k2⟩ := k
    exact ⟨v, r, e, RV.unwx h0 _ _ _ k1 h1, RF.unwx h0 k2 h2⟩
/-- what a dict holds is told without the exception -/
theorem RK.told : ∀ {kvs : List (D × D)} {l : List (Key × V)}, RK G ms H kvs l → ∀ p ∈ kvs, (∃ v, RV G ms H p.1 v) ∧ ∃ v, RV G ms H p.2 v
  | [], _, _, _, m => nomatch m
  | p :: r, _, h, q, m => by
    obtain ⟨i, v, s, e, e1, h1, h2⟩ := h
    rcases List.mem_cons.mp m with rfl | m
    · exact ⟨⟨.int i, by rw [e1]; simp only [RV]⟩, v, h1⟩
    · exact RK.told h2 q m
theorem RN.told : ∀ {kvs : List (D × D)} {l : List (NestedKey × Addr × Value)}, RN G ms H kvs l → ∀ p ∈ kvs, (∃ v, RV G ms H p.1 v) ∧ ∃ v, RV G ms H p.2 v
  | [], _, _, _, m => nomatch m
  | p :: r, _, h, q, m => by
    obtain ⟨nk, a, u, v, s, e, e1, e2, h1, h2, h3, h4⟩ := h
    rcases List.mem_cons.mp m with rfl | m
    · exact ⟨⟨_, h1⟩, v, h3⟩
    · exact RN.told h4 q m
theorem RK.unwx (h0 : G.xi = none) {ms' : List Addr} {H' : Hp} : ∀ {kvs : List (D × D)} {l : List (Key × V)}, (∀ p ∈ kvs, (∃ v, RV G ms H p.1 v) ∧ ∃ v, RV G ms H p.2 v) → RK (G.wx a0 d0 fs0) ms' H' kvs l → RK G ms' H' kvs l
  | [], _, _, h => h
  | p :: r, _, k, h => by
    obtain ⟨i, v, s, e, e1, h1, h2⟩ := h
    obtain ⟨_, u, k2⟩ := k p (.head _)
    exact ⟨i, v, s, e, e1, RV.unwx h0 _ _ _ k2 h1, RK.unwx h0 (fun q m => k q (.tail _ m)) h2⟩
theorem RN.unwx (h0 : G.xi = none) {ms' : List Addr} {H' : Hp} : ∀ {kvs : List (D × D)} {l : List (NestedKey × Addr × Value)}, (∀ p ∈ kvs, (∃ v, RV G ms H p.1 v) ∧ ∃ v, RV G ms H p.2 v) → RN (G.wx a0 d0 fs0) ms' H' kvs l → RN G ms' H' kvs l
  | [], _, _, h => h
  | p :: r, _, k, h => by
    obtain ⟨nk, a, u, v, s, e, e1, e2, h1, h2, h3, h4⟩ := h
    obtain ⟨⟨u1, k1⟩, u2, k2⟩ := k p (.head _)
    exact ⟨nk, a, u, v, s, e, e1, e2, RV.unwx h0 _ _ _ k1 h1, h2, RV.unwx h0 _ _ _ k2 h3, RN.unwx h0 (fun q m => k q (.tail _ m)) h4⟩
theorem CellOk.unwx (h0 : G.xi = none) {ms' : List Addr} {H' : Hp} {a a' : Addr} {c : Cell} (k : CellOk G ms H a c) (h : CellOk (G.wx a0 d0 fs0) ms' H' a' c) : CellOk G ms' H' a' c := by
  cases c with
  | lst ds =>
    obtain ⟨vs, h1, h2⟩ := h
    obtain ⟨us, _, k2⟩ := k
    exact ⟨vs, h1, RVs.unwx h0 _ _ _ k2 h2⟩
  | ins c fs =>
    obtain ⟨dx, gs, h1, h2⟩ := h
    obtain ⟨_, us, _, k2⟩ := k
    exact ⟨dx, gs, h1, RF.unwx h0 k2 h2⟩
  | dct kvs =>
    have t : ∀ p ∈ kvs, (∃ v, RV G ms H p.1 v) ∧ ∃ v, RV G ms H p.2 v := by
      rcases k with ⟨l, _, k2⟩ | ⟨_, xs, _, k2⟩
      · exact k2.told
      · exact k2.told
    rcases h with ⟨l, h1, h2⟩ | ⟨h3, xs, h1, h2⟩
    · exact .inl ⟨l, h1, h2.unwx h0 t⟩
    · exact .inr ⟨h3, xs, h1, h2.unwx h0 t⟩
  | exn c fs =>
    obtain ⟨d, h1, h2⟩ := h
    obtain ⟨d', _, k2⟩ := k
    refine ⟨d, h1, ?_⟩
    rcases h2 with h2 | ⟨dx, gs, e, h2, h3⟩
    · exact .inl h2
    · refine .inr ⟨dx, gs, e, h2, ?_⟩
      rcases k2 with ⟨e2, _⟩ | ⟨dx', gs', _, _, k3⟩
      · subst e2
        exact h3
      · exact RF.unwx h0 k3 h3
  | dtx x d =>
    obtain ⟨v, h1, h2⟩ := h
    obtain ⟨v', _, k2⟩ := k
    exact ⟨v, h1, RV.unwx h0 _ _ _ k2 h2⟩
/-- back, where the store is the same -/
theorem SRel.unwx (h0 : G.xi = none) {ms' : List Addr} {H' : Hp} {st : Sto} (S : SRel G ms st H) (g : Gr ms H ms' H') (S' : SRel (G.wx a0 d0 fs0) ms' st H') : SRel G ms' st H' := by
  obtain ⟨t, et⟩ := g.pre
  have e : ms' = ms := by
    have h1 := S.len
    have h2 := S'.len
    rw [et, List.length_append] at h2
    have : t = [] := List.eq_nil_of_length_eq_zero (by omega)
    rw [et, this, List.append_nil]
  subst e
  exact ⟨S'.len, S'.nd, fun i a c e1 e2 => (S.cell i a c e1 e2).unwx h0 (S'.cell i a c e1 e2), fun a d fs z => (by rw [h0] at z; cases z), S'.tabs⟩
end

/-! ### the reading -/
/-- an except clause: its class, those it surely is not, the name's slot, what is returned (of the exception's fields) -/
structure Hx where
  c : Nat
  no : List Nat
  i : Option Nat
  f : List (String × D) → E
open Classical in
noncomputable def Hx.run (h : Hx) (fs : List (String × D)) (env : Sl) (st : Sto) : Out := match h.i with
  | none => match h.f [] env st with
    | .ok d s => .rt d s
    | _ => .bad
  | some i => if fs = [] then .bad else match h.f fs (env.set i (some .xc)) st with
    | .ok d s => if noX 8 d = true ∧ s = st then .rt d s else .bad
    | _ => .bad
open Classical in
noncomputable def hGo (c : Nat) (fs : List (String × D)) (env : Sl) (st : Sto) : List Hx → Out
  | [] => .exn c fs env st
  | h :: hs => if c = h.c then h.run fs env st else if c ∈ h.no then hGo c fs env st hs else .bad
noncomputable def sTry (b : Sm) (hs : List Hx) : Sm := fun env st => match b env st with
  | .exn c fs e s => hGo c fs e s hs
  | r => r
def eXf (fs : List (String × D)) (f : String) (a : E) : E := fun env st => (a env st).bind fun x s => match x with
  | .xc => match fs.lookup f with
    | some d => .ok d s
    | none => .bad
  | _ => .bad
section
variable {G : Gx} {W : WX} {X : Cx} {σ : L2.St} {H : Hp}
theorem RF.get {ms : List Addr} : ∀ {fs : List (String × D)} {gs : List (Str × V)} {f : String} {d : D}, RF G ms H fs gs → fs.lookup f = some d → ∃ v, gs.lookup (Str.ofString f) = some v ∧ RV G ms H d v := fun h e => h.look e
/-- e.f in the suite of 'except C as e' -/
theorem e_xf {a d0 : Addr} {fs0 : List (String × D)} {oe : Obj} {c : Nat} {pn : List (Addr × Obj)} {e : Expr} {fe : E} {pos : Pos} {n : Str} {f : String} (hn : n = Str.ofString f) (T : XfC X.K (G.tb c)) (hno : PySem.W.findIn X.K (.ref (G.tb c)) n = some none)
    (hz : Zc (.ref (G.tb c)) (some d0) oe) (hf : ∃ vs, oe.data = .fields vs) (he : PE (X.suite a ((a, oe) :: pn)) e (tE (G.wx a d0 fs0) W fe)) (hb : attributeBase e n X.env (eval e X.env) = eval e X.env := by rfl) :
    PE (X.suite a ((a, oe) :: pn)) (.Attribute e n pos) (tE (G.wx a d0 fs0) W (eXf fs0 f fe)) := PE_weak (pe_xf T hno hz hf he hb) fun σ H Q h => tX_mono (tX_bind h) fun v H1 ⟨ms, st, env, x, S, r, r1, k⟩ => by
  split at k
  · split at k
    · rename_i d ed
      simp only [RV] at r1
      obtain ⟨a1, d1, fs1, e1, rfl⟩ := r1
      cases e1
      obtain ⟨gs, h1, h2⟩ := S.xd _ _ _ rfl
      obtain ⟨w, h3, h4⟩ := h2.look ed
      exact ⟨rfl, rfl, _, gs, w, rfl, h1, by rw [hn]; exact h3, k w ms H1 Gr.refl S h4⟩
    · exact k.elim
  · exact k.elim
inductive HxOk (X : Cx) (G : Gx) : List ExceptHandler → List Hx → Prop
  | nil : HxOk X G [] []
  | only {x : Str} {c : Nat} {no : List Nat} {e : Expr} {f : E} {np rp hp : Pos} {hds : List ExceptHandler} {l : List Hx} (hc : Names X x (.ref (G.tb c))) (h1 : PySem.W.exmOne X.K (.ref (G.tb c)) (.ref (G.tb c)) = some true) (h2 : ∀ c' ∈ no, PySem.W.exmOne X.K (.ref (G.tb c')) (.ref (G.tb c)) = some false)
      (he : ∀ (a : Addr) (oe : Obj) (pn : List (Addr × Obj)), PE (X.suite a ((a, oe) :: pn)) e (tE G W0 f)) (r : HxOk X G hds l) : HxOk X G (.ExceptHandler (some (.Name x np)) none [.Return (some e) rp] hp :: hds) (⟨c, no, none, fun _ => f⟩ :: l)
  | named {x n : Str} {i : Nat} {c : Nat} {no : List Nat} {e : Expr} {f : List (String × D) → E} {np rp hp : Pos} {hds : List ExceptHandler} {l : List Hx} (hN : X.N.Nodup) (hi : X.N[i]? = some n) (hln : X.env.kindOf n = some .local) (hc : Names X x (.ref (G.tb c)))
      (h1 : PySem.W.exmOne X.K (.ref (G.tb c)) (.ref (G.tb c)) = some true) (h2 : ∀ c' ∈ no, PySem.W.exmOne X.K (.ref (G.tb c')) (.ref (G.tb c)) = some false)
      (he : ∀ (a d : Addr) (fs : List (String × D)) (oe : Obj) (pn : List (Addr × Obj)), Zc (.ref (G.tb c)) (some d) oe → (∃ vs, oe.data = .fields vs) → PE (X.suite a ((a, oe) :: pn)) e (tE (G.wx a d fs) W0 (f fs))) (r : HxOk X G hds l) :
      HxOk X G (.ExceptHandler (some (.Name x np)) (some n) [.Return (some e) rp] hp :: hds) (⟨c, no, some i, f⟩ :: l)
/-- the suite's reading -/
def Hx.ts (G : Gx) (h : Hx) : Addr → Value → Option Addr → TS := fun a cls d D σ H => match h.i with
  | none => tS G W0 (sRet (h.f [])) D σ H
  | some _ => cls = .ref (G.tb h.c) ∧ ∃ d0 fs, d = some d0 ∧ tS (G.wx a d0 fs) W0 (sRet (h.f fs)) D σ H
theorem mix_of {hds : List ExceptHandler} {l : List Hx} (h : HxOk X G hds l) : Mix X hds (l.map fun h => (Value.ref (G.tb h.c), h.i, h.ts G)) := by
  induction h with
  | nil => exact .nil
  | @only x c no e f np rp hp hds l hc h1 h2 he r ih =>
    refine .only hc (fun a oe cls d pn _ _ => ?_) ih
    exact ss_one (s_ret (he a oe pn))
  | @named x n i c no e f np rp hp hds l hN hi hln hc h1 h2 he r ih =>
    refine .named hN hi hln hc (fun a oe cls d pn hz hf => ⟨fun pins s σ H D I q => ?_⟩) ih
    obtain ⟨rfl, d0, fs, rfl, q⟩ := q
    exact (ss_one (s_ret (pos := rp) (he a d0 fs oe pn hz hf))).run pins s σ H D I q
theorem try_go (h0 : G.xi = none) {K : Ends} {hds : List ExceptHandler} {l : List Hx} (h : HxOk X G hds l) {c : Nat} {fs : List (String × D)} {e : Sl} {st : Sto} {ms : List Addr} {H : Hp} (hk : OutOk G W K ms H (hGo c fs e st l)) :
    ∀ od σ' ms' H', Gr ms H ms' H' → SRel G ms' st H' → RE G ms' H' e σ' → XRel G ms' H' fs od → wMix X.K W K (l.map fun h => (Value.ref (G.tb h.c), h.i, h.ts G)) (.ref (G.tb c)) od σ' H' := by
  induction h with
  | nil => exact hk
  | @only x c1 no ex f np rp hp hds l hc h1 h2 he r ih =>
    intro od σ' ms' H' g S re xr
    unfold hGo at hk
    split at hk
    · rename_i hcc
      subst hcc
      refine ⟨true, h1, fun _ a _ => ⟨ms', st, e, S, re, ?_⟩, fun z => by cases z⟩
      unfold Hx.run at hk
      dsimp only at hk
      dsimp only [sRet]
      cases er : f e st with
      | ok d s =>
        rw [er] at hk
        exact OutOk.gr g hk
      | exn c2 f2 s => rw [er] at hk; exact hk.elim
      | bad => rw [er] at hk; exact hk.elim
    · split at hk
      · rename_i hmem
        exact ⟨false, h2 c hmem, (fun z => by cases z), fun _ => ih hk od σ' ms' H' g S re xr⟩
      · exact hk.elim
  | @named x n i c1 no ex f np rp hp hds l hN hi hln hc h1 h2 he r ih =>
    intro od σ' ms' H' g S re xr
    unfold hGo at hk
    split at hk
    · rename_i hcc
      subst hcc
      refine ⟨true, h1, fun _ a na => ⟨rfl, ?_⟩, fun z => by cases z⟩
      unfold Hx.run at hk
      dsimp only at hk
      split at hk
      · exact hk.elim
      rename_i hfs
      rcases xr with ⟨z, _⟩ | ⟨d0, gs, _, rfl, hd, rf⟩
      · exact (hfs z).elim
      refine ⟨d0, fs, rfl, ms', st, e.set i (some .xc), S.wx h0 hd rf, ?_, ?_⟩
      · refine RE.set ?_ i (re.wx h0)
        simp only [RV]
        exact ⟨a, d0, fs, rfl, rfl⟩
      · dsimp only [sRet]
        cases er : f fs (e.set i (some .xc)) st with
        | ok d s =>
          rw [er] at hk
          dsimp only at hk
          split at hk
          · rename_i hn
            obtain ⟨hn, rfl⟩ := hn
            intro v m1 H1 g1 S1 r1
            exact hk v m1 H1 (g.trans g1) (S.unwx h0 g1 S1) (noX_ok 8 d v hn r1)
          · exact hk.elim
        | exn c2 f2 s => rw [er] at hk; exact hk.elim
        | bad => rw [er] at hk; exact hk.elim
    · split at hk
      · rename_i hmem
        exact ⟨false, h2 c hmem, (fun z => by cases z), fun _ => ih hk od σ' ms' H' g S re xr⟩
      · exact hk.elim
theorem s_try (h0 : G.xi = none) {body : List Stmt} {hd1 : ExceptHandler} {hds : List ExceptHandler} {l : List Hx} {pos : Pos} {fb : Sm} (tk : Takes X W)
    (hb : ∀ (W : WX) (pn : List (Addr × Obj)) (xe : Value → Shared → Prop), Takes (X.tr pn xe) W → PassesOwn (model X.prog X.w) X.A X.env xe → PSs (X.tr pn xe) body (tS G W fb)) (hh : HxOk X G (hd1 :: hds) l)
    (hs : X.stack = X.env :: X.outer := by rfl) (hf : X.env.frame = some X.env.locals := by rfl) : PS X (.Try body (hd1 :: hds) [] [] pos) (tS G W (sTry fb l)) :=
  PS_weak (ps_try_mix hs hf tk hb (mix_of hh)) fun K σ H ⟨ms, st, env, S, r, q⟩ => by
    refine ⟨ms, st, env, S, r, ?_⟩
    unfold sTry at q
    cases e1 : fb env st with
    | nx e s => rw [e1] at q; exact q
    | rt d s => rw [e1] at q; exact q
    | bk e s => rw [e1] at q; exact q
    | ct e s => rw [e1] at q; exact q
    | bad => rw [e1] at q; exact q.elim
    | exn c fs e s =>
      rw [e1] at q
      exact try_go h0 hh q
end
end LF

set_option Elab.async false
set_option linter.all false
set_option maxRecDepth 100000
set_option maxHeartbeats 4000000
/-! an exception class, from what the written part tells -/
namespace LF
open PySem PySem.Spec PyProof.Rows L2
open PySem.W
/-- C(..) may be raised -/
structure Exc0 (P : Program) (w : World) (K : PySem.W.Frag) (mg : Str → Option Value) (C : Addr) (ps : List Str) (sp : Sp) : Prop where
  oc : OexC K C
  ex : ∃ (fI : Addr) (fd : FuncData), PySem.W.findIn K (.ref C) "__init__" = some (some (.ref fI)) ∧ PySem.W.typeIn K (.ref fI) = some (.type "function") ∧ (∀ base : Heap, FnOk P w K mg base (L2.CX P w) 1 fI fd ps sp) ∧ Binds K fd ps []
theorem Exc0.at {P : Program} {w : World} {K : PySem.W.Frag} {mg : Str → Option Value} {C : Addr} {ps : List Str} {sp : Sp} (T : Exc0 P w K mg C ps sp) {X : Cx} (h1 : X.prog = P := by rfl) (h2 : X.w = w := by rfl) (h3 : X.K = K := by rfl) (h4 : X.mg = mg := by rfl) : ExC X C ps sp := by
  subst h1 h2 h3 h4
  obtain ⟨fI, fd, a, b, c, d⟩ := T.ex
  exact ⟨T.oc, fI, fd, a, b, c X.base, d⟩
abbrev lamTail (L : Addr) : List Value := [.ref L, .type "ValueError", .type "Exception", .type "BaseException", .type "object"]
abbrev veRest : List Value := [.type "ValueError", .type "Exception", .type "BaseException", .type "object"]
section
variable {P : Program} {w : World} {K : PySem.W.Frag} {mg : Str → Option Value} {C L cc f ca : Addr}
variable {nm q nmL qL : Str} {N NL : Addr} {bs bsL : List Value} {sn snL : List Str} {sub subL : List Value} {ab abL : Bool} {col colL : Option Bool} {dd ddL : Option Addr} {k0 k1 k2 k3 k5 l0 l1 l2 l3 l5 : Option Value}
theorem oexC_of (hC : K.lookup C = some (excClassObj nm q C N bs (lamTail L) true sn sub ab col dd k0 k1 k2 k3 k5 "ValueError.__new__")) (sa : findIn K (.ref C) "__setattr__" = some (some (.builtin "object.__setattr__")))
    (exC : subIn K (.ref C) (.type "BaseException") = some true) (tyC : typeIn K (.ref C) = some (.type "type")) (kC : keepIn K (.ref C) = true) : OexC K C := ⟨⟨_, _, _, _, _, _, _, _, _, _, _, _, _, _, _, hC, by
      simp [lamTail, HandSPX.refsVE]⟩, sa, exC, tyC, kC⟩
theorem exm_of {c' c : Addr} {b : Bool} (h1 : subIn K (.ref c) (.type "BaseException") = some true) (h2 : isClsIn K c = true) (h3 : typeIn K (.ref c) = some (.type "type")) (h4 : subIn K (.ref c') (.ref c) = some b) : exmOne K (.ref c') (.ref c) = some b := by
  have e1 : (subIn K (.ref c) (.type "BaseException") == some true) = true := by rw [h1] <;> rfl
  have h2' : (clsIn K c).isSome = true := h2
  unfold exmOne kitCls
  rw [if_pos e1]
  dsimp only
  rw [if_pos (by rw [h2', h3] <;> rfl)]
  exact h4
variable {scope : Scope} {fd : FuncData} {oc ocd : Value} {od odd : Option Addr} {osl csl : Array (Option Value)} {v0 v1 : Value} {vr : List Value} {fi : Str} {tf : Tok} {x0 : Value} {x1 : Option Addr} {x2 : Array (Option Value)}
theorem supC_of (hC : K.lookup C = some (excClassObj nm q C N bs (lamTail L) true sn sub ab col dd k0 k1 k2 k3 k5 "ValueError.__new__")) (hL : K.lookup L = some (excClassObj nmL qL L NL bsL veRest true snL subL abL colL ddL l0 l1 l2 l3 l5 "ValueError.__new__"))
    (fL : findIn K (.ref L) "__init__" = some (some (.builtin "ValueError.__init__"))) (ks : scope.names.lookup ("super" : Str) = some .globalImplicit) (kc : scope.names.lookup ("__class__" : Str) = some .free) (kl : scope.names.lookup ("self" : Str) = some .local)
    (hcc : K.lookup cc = some ⟨x0, x1, .cell (some (.ref C)), x2⟩) (hf : K.lookup f = some ⟨oc, od, .func fd, osl⟩) (hp : ∃ ar : Arg, (fd.params.posonlyargs ++ fd.params.args).head? = some ar ∧ ar.arg = ("self" : Str))
    (hcd : K.lookup ca = some ⟨ocd, odd, .fields ⟨v0 :: v1 :: .str fi tf :: vr⟩, csl⟩) (hfi : ((P.main.file : Str) == fi) = true) (top : (P.main.scope.names.lookup ("super" : Str)).isSome = false) (hmg : mg "super" = none)
    (subC : mroIn K C (.ref C) = some true) (subV : subIn K (.ref C) (.type "ValueError") = some true) (opq : nsIn K cStatics "thirdparty.any" = some none) : SupC P K mg C cc f (.ref ca) scope "self" fd := by
  obtain ⟨ar, hp1, hp2⟩ := hp
  refine ⟨ks, kc, kl, ⟨_, _, _, hcc⟩, ⟨_, ar, hf, rfl, hp1, hp2⟩, ⟨ca, _, _, fi, tf, rfl, hcd, rfl, rfl, hfi⟩, top, hmg, ?_, subC, subV, opq⟩
  refine ⟨{ name := nm, bases := bs, mro := .ref C :: lamTail L, ns := N, qualname := q, hasDict := true, slotNames := sn, subclasses := sub, abstract := ab, collection := col, hasDel := false }, ?_, ?_⟩
  · unfold clsIn
    rw [hC]
  · have e : ((Value.ref C :: lamTail L).dropWhile (· != .ref C)).drop 1 = lamTail L := by simp [List.dropWhile]
    show alongIn K "__init__" (((Value.ref C :: lamTail L).dropWhile (· != .ref C)).drop 1) = _
    rw [e]
    unfold findIn at fL
    dsimp only at fL
    rw [hL] at fL
    exact fL
end
end LF

set_option Elab.async false
set_option linter.all false
set_option maxRecDepth 100000
set_option maxHeartbeats 4000000
/-! further operations -/
namespace LF
open PySem PySem.Spec PyProof.Rows L2
section
variable {G : Gx} {W : WX} {X : Cx} {σ : L2.St} {H : Hp}
/-! ### a list asked whether it is as long as another, then empty -/
def opEqE (neg : Bool) (x y : D) : O D := fun st => match x, y with
  | .ref i, .ref j => match st[i]?, st[j]? with
    | some (.lst a), some (.lst b) => if a.length ≠ b.length then some (.bl neg, st) else if a = [] then some (.bl (!neg), st) else none
    | _, _ => none
  | _, _ => none
theorem o_eqE (hu : X.A.units + 64 < cLine) : OpR X (compareOp .Eq) (rO G (opEqE false)) := by
  intro pins s σ H v u vv uv Q I rv ru h
  obtain ⟨ms, st, x, y, S, rx, ry, k⟩ := h
  unfold opEqE at k
  split at k
  · split at k
    · rename_i a b e1 e2
      obtain ⟨p, vs, rfl, _, h1, h2⟩ := S.ref e1 rx
      obtain ⟨q, us, rfl, _, h3, h4⟩ := S.ref e2 ry
      cases rv
      cases ru
      obtain ⟨its, r1, pl1, z1⟩ := I.list (SqL.of h1)
      obtain ⟨jts, r2, pl2, z2⟩ := I.list (SqL.of h3)
      have l1 : its.length = a.length := by rw [← h2.length, r1.length]
      have l2 : jts.length = b.length := by rw [← h4.length, r2.length]
      show wpAny (model X.prog X.w) X.A (richCompare .Eq (.ref p) (.ref q)) (EP X pins σ Q) X.xe s
      split at k
      · rename_i hne
        exact SeqAt.RcAt.lists_lengths pl1.isList pl2.isList (by simp only [List.size_toArray, l1, l2]; simpa using hne) (by omega) X.prog X.w X.xe _ ⟨.bl false, H, I, rfl, OkO.bl S k⟩
      · split at k
        · rename_i hle hae
          subst hae
          have e3 : its = [] := List.eq_nil_of_length_eq_zero l1
          have e4 : jts = [] := List.eq_nil_of_length_eq_zero (by rw [l2]; simp at hle; exact hle.symm)
          subst e3 e4
          exact SeqAt.RcAt.lists (e := fun _ => true) pl1.isList pl2.isList rfl (by omega) (fun j h1 _ => absurd h1 (by simp)) X.prog X.w X.xe _ ⟨.bl true, H, I, rfl, OkO.bl S k⟩
        · exact k.elim
    · exact k.elim
  · exact k.elim
theorem o_neE (hu : X.A.units + 64 < cLine) : OpR X (compareOp .NotEq) (rO G (opEqE true)) := by
  intro pins s σ H v u vv uv Q I rv ru h
  obtain ⟨ms, st, x, y, S, rx, ry, k⟩ := h
  unfold opEqE at k
  split at k
  · split at k
    · rename_i a b e1 e2
      obtain ⟨p, vs, rfl, _, h1, h2⟩ := S.ref e1 rx
      obtain ⟨q, us, rfl, _, h3, h4⟩ := S.ref e2 ry
      cases rv
      cases ru
      obtain ⟨its, r1, pl1, z1⟩ := I.list (SqL.of h1)
      obtain ⟨jts, r2, pl2, z2⟩ := I.list (SqL.of h3)
      have l1 : its.length = a.length := by rw [← h2.length, r1.length]
      have l2 : jts.length = b.length := by rw [← h4.length, r2.length]
      show wpAny (model X.prog X.w) X.A (richCompare .NotEq (.ref p) (.ref q)) (EP X pins σ Q) X.xe s
      split at k
      · rename_i hne
        exact SeqAt.RcNeAt.lists_lengths pl1.isList pl2.isList (by simp only [List.size_toArray, l1, l2]; simpa using hne) (by omega) X.prog X.w X.xe _ ⟨.bl true, H, I, rfl, OkO.bl S k⟩
      · split at k
        · rename_i hle hae
          subst hae
          have e3 : its = [] := List.eq_nil_of_length_eq_zero l1
          have e4 : jts = [] := List.eq_nil_of_length_eq_zero (by rw [l2]; simp at hle; exact hle.symm)
          subst e3 e4
          exact SeqAt.RcNeAt.lists (e := fun _ => true) pl1.isList pl2.isList rfl (by omega) (fun j h1 _ => absurd h1 (by simp)) X.prog X.w X.xe _ ⟨.bl false, H, I, rfl, OkO.bl S k⟩
        · exact k.elim
    · exact k.elim
  · exact k.elim
/-! ### bools among ints -/
def b2 (b : Bool) : Int := if b = true then 1 else 0
def opAddB : D → D → O D
  | .bl b, .int j => fun st => some (.int (b2 b + j), st)
  | x, y => opAdd x y
def opSubB : D → D → O D
  | .bl b, .int j => fun st => some (.int (b2 b - j), st)
  | x, y => opSub x y
theorem op_add_bi : OpR X (binaryOp .Add) (fun x y H Q => ∃ b j, x = .bl b ∧ y = .int j ∧ Q (.int (b2 b + j)) H) := by
  intro pins s σ H x y v u Q I rx ry h
  obtain ⟨b, j, rfl, rfl, q⟩ := h
  cases rx
  obtain ⟨t, rfl⟩ := ry
  exact PySem.IntBool.add_bool_int ⟨.int (b2 b + j), H, I.tok _, ⟨_, rfl⟩, q⟩
theorem op_sub_bi : OpR X (binaryOp .Sub) (fun x y H Q => ∃ b j, x = .bl b ∧ y = .int j ∧ Q (.int (b2 b - j)) H) := by
  intro pins s σ H x y v u Q I rx ry h
  obtain ⟨b, j, rfl, rfl, q⟩ := h
  cases rx
  obtain ⟨t, rfl⟩ := ry
  exact PySem.IntBool.sub_bool_int ⟨.int (b2 b - j), H, I.tok _, ⟨_, rfl⟩, q⟩
theorem o_addB (hK : X.K = G.K) : OpR X (binaryOp .Add) (rO G opAddB) := OpR_imp (op_add_bi.or (o_add hK)) fun v u H Q ⟨ms, st, x, y, S, rx, ry, k⟩ => by
  unfold opAddB at k
  split at k
  · simp only [RV] at rx ry
    subst rx ry
    exact .inl ⟨_, _, rfl, rfl, OkO.int S k⟩
  · exact .inr ⟨ms, st, x, y, S, rx, ry, k⟩
theorem o_subB : OpR X (binaryOp .Sub) (rO G opSubB) := OpR_imp (op_sub_bi.or o_sub) fun v u H Q ⟨ms, st, x, y, S, rx, ry, k⟩ => by
  unfold opSubB at k
  split at k
  · simp only [RV] at rx ry
    subst rx ry
    exact .inl ⟨_, _, rfl, rfl, OkO.int S k⟩
  · exact .inr ⟨ms, st, x, y, S, rx, ry, k⟩
/-! ### tuple * int, text * int -/
def opMulX : D → D → O D
  | .tup a, .int k => fun st => if a ≠ [] ∧ 2 ≤ k ∧ k ≤ 1000 ∧ a.length ≤ 1000 then some (.tup (List.replicate k.toNat a).flatten, st) else none
  | .str x, .int k => fun st => if 1 ≤ k ∧ k ≤ 1000 ∧ 1 ≤ x.length ∧ x.length ≤ 1000 then some (.str (if k = 1 then x else ⟨(List.replicate k.toNat x.cps).foldl (· ++ ·) #[]⟩), st) else none
  | x, y => opMul x y
theorem len_foldl : ∀ (n : Nat) (a b : Array Nat), ((List.replicate n a).foldl (· ++ ·) b).size = b.size + n * a.size
  | 0, a, b => by simp
  | n + 1, a, b => by
    rw [List.replicate_succ, List.foldl_cons, len_foldl n a (b ++ a), Array.size_append, Nat.succ_mul]
    omega
theorem op_mul_str : OpR X (binaryOp .Mult) (fun x y H Q => ∃ z k, x = .str z ∧ y = .int k ∧ (1 ≤ k ∧ k ≤ 1000 ∧ 1 ≤ z.length ∧ z.length ≤ 1000) ∧ Q (.str (if k = 1 then z else ⟨(List.replicate k.toNat z.cps).foldl (· ++ ·) #[]⟩)) H) := by
  intro pins s σ H x y v u Q I rx ry h
  obtain ⟨z, k, rfl, rfl, ⟨h1, h2, h3, h4⟩, q⟩ := h
  obtain ⟨t, rfl⟩ := rx
  obtain ⟨t2, rfl⟩ := ry
  refine P.mul_str (by rw [decide_eq_false (by omega), decide_eq_false (by omega)]; rfl) (fun _ _ => ?_) (fun _ _ => ?_) ?_
  · have a1 : (z.length : Int) ≤ (2 ^ 63 - 1) / k := by
      rw [Int.le_ediv_iff_mul_le (by omega)]
      have a2 : (z.length : Int) * k ≤ 1000 * k := Int.mul_le_mul_of_nonneg_right (by omega) (by omega)
      omega
    omega
  · have a1 : z.length * k.toNat ≤ 1000 * 1000 := Nat.mul_le_mul h4 (by omega)
    show decide _ = false
    rw [sizeLine_eq]
    exact decide_eq_false (by omega)
  · rw [if_neg (by omega)]
    by_cases hk : k = 1
    · subst hk
      rw [if_pos (by simp)]
      rw [if_pos rfl] at q
      exact ⟨.str z, H, I, ⟨_, rfl⟩, q⟩
    · rw [if_neg (by simp; omega)]
      rw [if_neg hk] at q
      refine ⟨?_, .str _, H, I.tok _, ⟨_, rfl⟩, q⟩
      show ((List.replicate k.toNat z.cps).foldl (· ++ ·) #[]).size ≤ _
      rw [len_foldl]
      have a1 : k.toNat * z.cps.size ≤ 1000 * 1000 := Nat.mul_le_mul (by omega) h4
      rw [sizeLine_eq]
      simp
      omega
theorem o_mulX (hK : X.K = G.K) : OpR X (binaryOp .Mult) (rO G opMulX) := OpR_imp (op_repT.or (op_mul_str.or o_mul)) fun v u H Q ⟨ms, st, x, y, S, rx, ry, k⟩ => by
  unfold opMulX at k
  split at k
  · simp only [RV] at rx ry
    obtain ⟨p, vs, rfl, h1, h2⟩ := rx
    subst ry
    split at k
    · rename_i hc
      obtain ⟨c1, c2, c3, c4⟩ := hc
      refine .inl ⟨p, _, vs, rfl, rfl, by rw [hK]; exact h1.t, fun e => c1 ?_, c2, c3, by rw [h2.length]; exact c4, OkO.tup S (h2.repf _) k⟩
      have := h2.length
      rw [e] at this
      exact List.eq_nil_of_length_eq_zero this.symm
    · exact k.elim
  · simp only [RV] at rx ry
    subst rx ry
    split at k
    · rename_i hc
      exact .inr (.inl ⟨_, _, rfl, rfl, hc, OkO.str S k⟩)
    · exact k.elim
  · exact .inr (.inr ⟨ms, st, x, y, S, rx, ry, k⟩)
/-! ### repr, str -/
def opRepr : List D → O D
  | [.int i] => fun st => if i.natAbs.log2 < 1920 then some (.str (toString i), st) else none
  | [.bl b] => fun st => some (.str (if b then "True" else "False"), st)
  | [.non] => fun st => some (.str "None", st)
  | _ => fun _ => none
theorem call_reprB : CallR X (.builtin "repr") (fun xs H Q => (∃ b, xs = [.bl b] ∧ Q (.str (if b then "True" else "False")) H) ∨ (xs = [.non] ∧ Q (.str "None") H)) := by
  intro pins s σ H xs us Q I r h
  rcases h with ⟨b, rfl, q⟩ | ⟨rfl, q⟩
  · obtain ⟨u, rfl, r1⟩ := vals1 r
    cases r1
    exact PySem.P.repr_of_bool ⟨.str _, H, I.tok _, ⟨_, rfl⟩, q⟩
  · obtain ⟨u, rfl, r1⟩ := vals1 r
    cases r1
    exact PySem.P.repr_of_none ⟨.str _, H, I.tok _, ⟨_, rfl⟩, q⟩
theorem c_repr : CallR X (.builtin "repr") (rN G opRepr) := CallR_imp (CallR.or SkE.call_repr_int call_reprB) fun vs H Q ⟨ms, st, ds, S, rs, k⟩ => by
  unfold opRepr at k
  split at k
  · obtain ⟨v, rfl, rv⟩ := rs.one'
    simp only [RV] at rv
    subst rv
    split at k
    · rename_i hc
      exact .inl ⟨_, rfl, hc, OkO.str S k⟩
    · exact k.elim
  · obtain ⟨v, rfl, rv⟩ := rs.one'
    simp only [RV] at rv
    subst rv
    exact .inr (.inl ⟨_, rfl, OkO.str S k⟩)
  · obtain ⟨v, rfl, rv⟩ := rs.one'
    simp only [RV] at rv
    subst rv
    exact .inr (.inr ⟨rfl, OkO.str S k⟩)
  · exact k.elim
theorem _root_.PySem.P.str_of_bool' {prog : Program} {w : World} {A : Around} {E : Value → Shared → Prop} {s : Shared} {b : Bool} {Q : Value → Shared → Prop} (h : Q (.str (if b then "True" else "False") s.toks) { s with toks := s.toks + 1 }) : wpAny (model prog w) A (call (.type "str") [.bool b]) Q E s :=
  callType_new F.called_str (by decide) (F.typeCall_str_1 _) (F.newCall_str_1 _) (fun obj => F.args_object_init_2 obj _) F.entry_str_new
    (meets_str_new (S := fun _ R s => R (.ok (.ret (.str (if b then "True" else "False") s.toks))) { s with toks := s.toks + 1 }) fun _ _ _ _ s hq =>
      wpAny_strOf_gives rfl (PySem.typeIs_bool s b) F.slot_bool_str F.slot_bool_repr F.entry_bool_repr (F.args_bool_repr_1 _) (gives_bool_repr b) hq (hsz := by cases b <;> decide)) ⟨typeIs_str _ _ _, h⟩
def opStrB : List D → O D
  | [.bl b] => fun st => some (.str (if b then "True" else "False"), st)
  | ds => opStr ds
theorem call_strB : CallR X (.type "str") (fun xs H Q => ∃ b, xs = [.bl b] ∧ Q (.str (if b then "True" else "False")) H) := by
  intro pins s σ H xs us Q I r h
  obtain ⟨b, rfl, q⟩ := h
  obtain ⟨u, rfl, r1⟩ := vals1 r
  cases r1
  exact PySem.P.str_of_bool' ⟨.str _, H, I.tok _, ⟨_, rfl⟩, q⟩
theorem c_strB : CallR X (.type "str") (rN G opStrB) := CallR_imp (CallR.or call_strB c_str) fun vs H Q ⟨ms, st, ds, S, rs, k⟩ => by
  unfold opStrB at k
  split at k
  · obtain ⟨v, rfl, rv⟩ := rs.one'
    simp only [RV] at rv
    subst rv
    exact .inl ⟨_, rfl, OkO.str S k⟩
  · exact .inr ⟨ms, st, ds, S, rs, k⟩
/-! ### {} -/
def eNewD : E := fun _ st => .ok (.ref st.length) (st ++ [.dct []])
theorem e_newD {pos : Pos} : PE X (.Dict [] [] pos) (tE G W eNewD) := PE_weak pe_dnewK fun σ H Q ⟨ms, st, env, S, _, k⟩ p hp => by
  refine k (.ref p) (ms ++ [p]) _ (Gr.new hp [p]) (S.new hp (show CellOk G _ _ p (.dct []) from .inl ⟨[], upd_same, rfl⟩)) ?_
  simp only [RV]
  exact ⟨p, rfl, by rw [List.getElem?_append_right (by rw [S.len]; exact Nat.le_refl _), S.len]; simp⟩
/-! ### isinstance(x, (list, tuple)) -/
def ansLT : Kd → Option Bool
  | .tup => some true
  | .lst => some true
  | .ins _ => none
  | _ => some false
def opIsiLT : List D → O D
  | [x, .tup [.ty a, .ty b]] => fun st => if a = "list" ∧ b = "tuple" then match kind x st with
      | some k => match ansLT k with
        | some r => some (.bl r, st)
        | none => none
      | none => none
    else none
  | _ => fun _ => none
theorem kitLT {K : PySem.W.Frag} {G : Gx} {k : Kd} {r : Bool} (h : ansLT k = some r) : ∃ t, KdT G k t ∧ PySem.W.kitAny K t [.type "list", .type "tuple"] = some r := by
  have no : ∀ t : String, kitB t "list" = some false → kitB t "tuple" = some false → PySem.W.kitAny K (.type t) [.type "list", .type "tuple"] = some false := fun t h1 h2 =>
    kitAny_cons (kit_ty h1) (fun _ => kitAny_cons (kit_ty h2) (fun _ => rfl) (fun z => by cases z)) (fun z => by cases z)
  cases k with
  | ins c => cases h
  | non => cases h; exact ⟨_, rfl, no _ (by decide +kernel) (by decide +kernel)⟩
  | bl => cases h; exact ⟨_, rfl, no _ (by decide +kernel) (by decide +kernel)⟩
  | int => cases h; exact ⟨_, rfl, no _ (by decide +kernel) (by decide +kernel)⟩
  | str => cases h; exact ⟨_, rfl, no _ (by decide +kernel) (by decide +kernel)⟩
  | dct => cases h; exact ⟨_, rfl, no _ (by decide +kernel) (by decide +kernel)⟩
  | tup => cases h; exact ⟨_, rfl, kitAny_cons (b := false) (kit_ty (by decide +kernel)) (fun _ => kitAny_cons (b := true) (kit_ty (by decide +kernel)) (fun z => by cases z) (fun _ => rfl)) (fun z => by cases z)⟩
  | lst => cases h; exact ⟨_, rfl, kitAny_cons (b := true) (kit_ty (by decide +kernel)) (fun z => by cases z) (fun _ => rfl)⟩
theorem isi_lt (hK : X.K = G.K) : CallR X (.builtin "isinstance") (rN G opIsiLT) := CallR_imp (CallR.or call_isiT call_isiK) fun vs H Q ⟨ms, st, ds, S, r, k⟩ => by
  unfold opIsiLT at k
  split at k
  · obtain ⟨v, u, rfl, rv, ru⟩ := r.two'
    split at k
    · rename_i hab
      obtain ⟨rfl, rfl⟩ := hab
      split at k
      · rename_i kd e
        split at k
        · rename_i b e2
          obtain ⟨t, h1, h2⟩ := kitLT (K := X.K) (G := G) e2
          simp only [RV] at ru
          obtain ⟨p, us, rfl, hu, ru⟩ := ru
          obtain ⟨u1, u2, rfl, r1, r2⟩ := ru.two'
          simp only [RV] at r1 r2
          subst r1 r2
          rcases hu with hu | ⟨o, its, n, hk, hc, hd, hz, hv⟩
          · exact .inl ⟨v, p, _, t, _, b, rfl, hu, .cons (.ty _) (.cons (.ty _) .nil), by rw [hK]; exact kd_ok S rv e h1, h2, OkO.bl S k⟩
          · obtain ⟨oc, od, dt, sl⟩ := o
            simp only at hc hd
            subst hc hd
            have e5 : its = (its.toList).toArray := by simp
            have e6 := ClsV.all (.cons (.ty _) (.cons (.ty _) .nil)) hv
            refine .inr ⟨v, p, od, [.type "list", .type "tuple"], n, sl, t, b, rfl, ?_, by rw [hK]; exact kd_ok S rv e h1, h2, OkO.bl S k⟩
            rw [hK, hk, ← e6]
        · exact k.elim
      · exact k.elim
    · exact k.elim
  · exact k.elim
/-! ### o.m() -/
theorem e_meth0 {k j : Nat} {f : Addr} {fd : FuncData} {ps : List Str} {c : Nat} {m : String} {mS : Str} {pos apos : Pos} {o : Expr} {g : F} {fa : E} {pl : Sem Bool} (hmS : mS = Str.ofString m) (he : PE X o (tE G W fa)) (hc : Cls X.K (G.tb c)) (hm : Meth X.K (G.tb c) mS f)
    (T : FnOk X.prog X.w X.K X.mg X.base (L2.CX X.prog X.w) j f fd ps (spF G g)) (hr : Room k X.A) (hb : Binds X.K fd ps []) (tk : Takes X W) (hj : j ≤ k := by decide)
    (ht : eval (.Call (.Attribute o mS apos) [] [] pos) X.env = (do
      let ov ← eval o X.env
      standAt apos.atName
      let (f, first) ← holding [ov] (getMethod ov mS pl)
      callWith pos f first (backTo pos (starEach [] X.env)) (backToKw pos (keywordEach [] X.env))) := by rfl) :
    PE X (.Call (.Attribute o mS apos) [] [] pos) (tE G W (eMeth c m g fa [])) := PE_weak (pe_methS0 (E := WE W) he hc hm T (hr.mono hj) hb (fun σ => passAt tk σ) ht) fun σ H Q h => by
  rw [hmS]
  refine tX_mono (tX_bind h) fun v H1 ⟨ms, st, env, x, S, r, r1, k⟩ => ?_
  split at k
  · split at k
    · rename_i c' fs' e
      split at k
      · rename_i hc
        obtain ⟨rfl, hl⟩ := hc
        have r1' := r1
        obtain ⟨a, dx, gs, rfl, _, h1, h2⟩ := S.ins e r1
        exact ⟨a, dx, gs, rfl, h1, h2.lookN hl, ms, st, _, S, RVs.one r1', k⟩
      · exact k.elim
    · exact k.elim
  · exact k.elim
end
end LF

set_option Elab.async false
set_option linter.all false
set_option maxRecDepth 100000
set_option maxHeartbeats 4000000
/-! a lambda without parameters, handed to a def that tries it -/
namespace LF
open PySem PySem.Spec PyProof.Rows L2
section
variable {G : Gx} {ms : List Addr} {H H1 : Hp} {st : Sto}
theorem ext_gr (e : LamX.ExtN H H1) : Gr ms H ms H1 := ⟨⟨[], by simp⟩, fun a xs h => e _ _ h (fun ps z => by cases z), fun a o u h => e _ _ h (fun ps z => by cases z)⟩
theorem ext_cell {a : Addr} {c : Cell} (e : LamX.ExtN H H1) (h : CellOk G ms H a c) : H1 a = H a := by
  obtain ⟨o, ho, _, _, _, nc⟩ := h.has
  rw [ho]
  exact e _ _ ho fun ps z => nc (.inr (.inr (.inr (.inr (.inl ⟨ps, z⟩)))))
theorem SRel.extN (S : SRel G ms st H) (e : LamX.ExtN H H1) (t : LamX.Tabs G.T H1) : SRel G ms st H1 :=
  ⟨S.len, S.nd, fun i a c h1 h2 => (S.cell i a c h1 h2).gr (ext_gr e) (fun b gs h => e _ _ h fun ps z => by cases z) (ext_cell e (S.cell i a c h1 h2)), fun a d fs z => by
    obtain ⟨gs, h1, h2⟩ := S.xd a d fs z
    exact ⟨gs, e _ _ h1 (fun ps z => by cases z), h2.gr (ext_gr e)⟩, t⟩
theorem re_none : ∀ {σ : L2.St}, RE G ms H (List.replicate σ.length none) σ
  | [] => rfl
  | o :: σ => ⟨o, σ, rfl, re_none⟩
end
theorem PE_up {X : Cx} {e : Expr} {t : TE} (h : PE X e t) : PE X e (fun σ H Q => ∃ Q1 : VK, t σ H Q1 ∧ ∀ v H', Q1 v H' → Q v H') := ⟨fun pins s σ H Q I ⟨Q1, q, k⟩ => wpAny_mono (h.run pins s σ H Q1 I q) (fun u s' z => by
  obtain ⟨v, H', I', r, q⟩ := z
  exact ⟨v, H', I', r, k v H' q⟩) fun _ _ e => e⟩
theorem takes_len {X : Cx} {W : WX} (tk : Takes X W) : Takes X (fun cls d σ H => σ.length = X.N.length → W cls d σ H) := fun u s' x => by
  obtain ⟨a, B, sI, pins, σ, H, cls, d, e, J, nb, up, sky, na, os, ag, w⟩ := x
  exact tk u s' ⟨a, B, sI, pins, σ, H, cls, d, e, J, nb, up, sky, na, os, ag, w J.len⟩
/-- what the def makes of the call's end: n names, what is told in slot i -/
noncomputable def foundR (n i : Nat) (hs : List Hx) (fr : E) (r : Res D) : Res D := match r with
  | .ok d s => match fr ((List.replicate n none).set i (some d)) s with
    | .ok x s' => .ok x s'
    | _ => .bad
  | .exn c fs s => match hGo c fs (List.replicate n none) s hs with
    | .rt d s' => .ok d s'
    | _ => .bad
  | .bad => .bad
noncomputable def eFound (n i : Nat) (hs : List Hx) (fr : E) (th : E) : E := fun env st => foundR n i hs fr (th env st)
abbrev F0 : Value → Option Addr → Hp → Prop := fun _ _ _ => False
def TTf (G : Gx) (n i : Nat) (hs : List Hx) (fr : E) : (XK → Hp → VK → Prop) → Hp → VK → Prop := fun tl H Q =>
  tl (fun cls od H' => ∃ c fs st ms, cls = .ref (G.tb c) ∧ SRel G ms st H' ∧ XRel G ms H' fs od ∧ Okk (RV G) G F0 Q ms H' (foundR n i hs fr (.exn c fs st)))
    H (fun v H' => ∃ ms st d, SRel G ms st H' ∧ RV G ms H' d v ∧ Okk (RV G) G F0 Q ms H' (foundR n i hs fr (.ok d st)))
section
variable {G : Gx} {W : WX} {X : Cx} {σ : L2.St} {H : Hp}
theorem found_gives (h0 : G.xi = none) {Ng : List Str} {x a told q : Str} {sg : Scope} {g : Addr} {cdg : Value} {i : Nat} {hd1 : ExceptHandler} {hds : List ExceptHandler} {l : List Hx} {fr : E} {ret : Expr} {p1 p2 p3 p4 p5 p6 : Pos}
    (hN : Ng.Nodup) (hi : Ng[i]? = some told) (hloc : sg.names.lookup told = some .local) (hst : ∀ f : Addr, (L2.start Ng [V.ref f])[0]? = some (some (V.ref f))) (hln : ∀ f : Addr, (L2.start Ng [V.ref f]).length = Ng.length)
    (hsw : ∀ env : Env, swapsWith (.Call (.Name a p1) [] [] p2) (some (.Name told p5)) p3.line env = pure false)
    (hh : ∀ (s : Shared) (H : Hp), HxOk (cxOf C8.CX0 X.prog X.w X.K X.mg X.base Ng x sg g cdg X.A X.stack s H C8.E0).nox G (hd1 :: hds) l)
    (hr : ∀ (s : Shared) (H : Hp), PE (cxOf C8.CX0 X.prog X.w X.K X.mg X.base Ng x sg g cdg X.A X.stack s H C8.E0).nox ret (tE G W0 fr)) :
    LamX.GivesTo X Ng x sg g cdg [.Try [.Assign [.Name told p5] (.Call (.Name a p1) [] [] p2) p3] (hd1 :: hds) [] [] p4, .Return (some ret) p6] a q (TTf G Ng.length i l fr) := by
  intro f c' s H Q tl act hc h
  let D0 : Ends := { nx := fun _ H' => Q .non H', rt := Q }
  have body : ∀ (W : WX) (pn : List (Addr × Obj)) (xe : Value → Shared → Prop), Takes ((cxOf C8.CX0 X.prog X.w X.K X.mg X.base Ng x sg g cdg X.A X.stack s H C8.E0).nox.tr pn xe) W →
      PassesOwn (model X.prog X.w) (cxOf C8.CX0 X.prog X.w X.K X.mg X.base Ng x sg g cdg X.A X.stack s H C8.E0).nox.A (cxOf C8.CX0 X.prog X.w X.K X.mg X.base Ng x sg g cdg X.A X.stack s H C8.E0).nox.env xe →
      PSs ((cxOf C8.CX0 X.prog X.w X.K X.mg X.base Ng x sg g cdg X.A X.stack s H C8.E0).nox.tr pn xe) [.Assign [.Name told p5] (.Call (.Name a p1) [] [] p2) p3]
        (fun D σ H => ∃ (Ech : XK) (Q1 : VK), (∀ cls d σ' H', Ech cls d H' → σ'.length = Ng.length → W cls d σ' H') ∧ σ[0]? = some (some (.ref f)) ∧ H c' = some (LamX.CodeO c' q) ∧ tl Ech H Q1 ∧ ∀ v H', Q1 v H' → D.nx (σ.set i (some v)) H') := by
    intro W pn xe tk _
    refine ⟨fun pins s' σ H' D I h' => ?_⟩
    obtain ⟨Ech, Q1, hW, h1, h2, h3, h4⟩ := h'
    have hp := act (fun cls d σ' H' => σ'.length = Ng.length → W cls d σ' H') pn xe Ech p1 p2 (takes_len tk) hW
    exact (pss_one (ps_set (i := i) (pos := p3) hN hi (.inl hloc) (PE_up hp) (hsw _) (.inr hloc))).run pins s' σ H' D I ⟨Q1, ⟨h1, h2, h3⟩, h4⟩
  refine ⟨_, pss_cons (ps_try_mix (X := (cxOf C8.CX0 X.prog X.w X.K X.mg X.base Ng x sg g cdg X.A X.stack s H C8.E0).nox) (Wout := W0) rfl rfl LamX.takes0 body (mix_of (hh s H))) (pss_one (ps_ret (hr s H))), ?_⟩
  refine ⟨fun cls od H' => ∃ c fs st ms, cls = .ref (G.tb c) ∧ SRel G ms st H' ∧ XRel G ms H' fs od ∧ Okk (RV G) G F0 Q ms H' (foundR Ng.length i l fr (.exn c fs st)), _, ?_, hst f, hc, h, ?_⟩
  · intro cls od σ' H' hE hl
    obtain ⟨c, fs, st, ms, rfl, S, xr, k⟩ := hE
    refine try_go (W := W0) (ms := ms) (H := H') h0 (hh s H) (e := List.replicate Ng.length none) (st := st) ?_ od σ' ms H' Gr.refl S (by rw [← hl]; exact re_none) xr
    unfold foundR at k
    dsimp only at k
    cases e : hGo c fs (List.replicate Ng.length none) st l with
    | rt d s' =>
      rw [e] at k
      exact fun v m2 H2 g2 S2 r2 => k v m2 H2 g2 S2 r2
    | nx e2 s2 => rw [e] at k; exact k.elim
    | bk e2 s2 => rw [e] at k; exact k.elim
    | ct e2 s2 => rw [e] at k; exact k.elim
    | exn c2 f2 e2 s2 => rw [e] at k; exact k.elim
    | bad => rw [e] at k; exact k.elim
  · rintro v H' ⟨ms, st, d, S, rv, k⟩
    refine ⟨ms, st, (List.replicate Ng.length none).set i (some d), S, RE.set rv i (by rw [← hln f]; exact re_none), ?_⟩
    unfold foundR at k
    dsimp only at k
    cases e : fr ((List.replicate Ng.length none).set i (some d)) st with
    | ok y s' =>
      rw [e] at k
      exact k
    | exn c2 f2 s2 => rw [e] at k; exact k.elim
    | bad => rw [e] at k; exact k.elim
/-- x(lambda: body), x the def that tries it -/
theorem e_found {x a : Str} {g c P : Addr} {k n i : Nat} {st : Stmt} {Ng : List Str} {params : Arguments} {body : Expr} {scope : Scope} {p lpos pos : Pos} {l : List Hx} {fr fe : E} {fg : FuncData} {told : Str} {hd1 : ExceptHandler} {hds : List ExceptHandler} {ret : Expr} {p1 p2 p3 p4 p5 p6 : Pos}
    (h0 : G.xi = none) (Fg : Fun X.K x x st g fg) (hg : Gl X x) (hm : X.mg x = some (.ref g)) (hb : Binds X.K fg [a] []) (Sg : FnScope Ng [a] (defScope st))
    (hbd : defBody st = [.Try [.Assign [.Name told p5] (.Call (.Name a p1) [] [] p2) p3] (hd1 :: hds) [] [] p4, .Return (some ret) p6])
    (hi : Ng[i]? = some told) (hloc : (defScope st).names.lookup told = some .local) (hva : Vis (defScope st) a) (hNg : Ng[0]? = some a)
    (hsw : ∀ env : Env, swapsWith (.Call (.Name a p1) [] [] p2) (some (.Name told p5)) p3.line env = pure false)
    (hh : ∀ (cdg : Value) (s : Shared) (H : Hp), HxOk (cxOf C8.CX0 X.prog X.w X.K X.mg X.base Ng x (defScope st) g cdg X.A X.stack s H C8.E0).nox G (hd1 :: hds) l)
    (hrt : ∀ (cdg : Value) (s : Shared) (H : Hp), PE (cxOf C8.CX0 X.prog X.w X.K X.mg X.base Ng x (defScope st) g cdg X.A X.stack s H C8.E0).nox ret (tE G W0 fr))
    (hn : n = Ng.length) (TB : LamX.TabB X.base X.mg c P) (hcode : X.env.code = .ref c) (hT : G.T = [(P, X.env.qual ++ "<lambda>")]) (hr : Room (k + 2) X.A) (L : LamX.LamS X.env.scope scope) (hdef : defaultsOf params X.env = ([], []))
    (hbind : ∀ (q : Str) (cl : List (Str × Addr)) (pm cv ctv : Value), bindArgs (PySem.W.kla_fn "<lambda>" q params body scope cl pm cv ctv) ⟨[], []⟩ = pure [])
    (hbody : ∀ (A : Around) (outer : List Env) (s : Shared) (H : Hp) (E : XK) (f c' : Addr), Room k (A.deeper (LamX.lamEnv X scope s.heap.objs.size f c')) → PE (LamX.lamCx X A outer s H E scope f c') body (tE G (fun c d _ H => E c d H) fe))
    (hst : ∀ f : Addr, (L2.start Ng [V.ref f])[0]? = some (some (V.ref f)) := by intro _; rfl) (hln : ∀ f : Addr, (L2.start Ng [V.ref f]).length = Ng.length := by intro _; rfl)
    (hdb : (x == ("__debug__" : Str)) = false := by decide) (hd : (a == ("__debug__" : Str)) = false := by decide) (hcd : (a == ("__classdict__" : Str)) = false := by decide) :
    PE X (.Call (.Name x p) [.Lambda params body scope lpos] [] pos) (tE G W (eFound n i l fr fe)) := by
  obtain ⟨oc, od, kV, doc, pm, an, cdv, ct, osl, rfl, lk, hcg⟩ := Fg.ex
  rw [hbd] at lk hb
  subst hn
  have hm1 : (P, X.env.qual ++ "<lambda>") ∈ G.T := by rw [hT]; exact List.mem_singleton.mpr rfl
  refine PE_weak (LamX.pe_lamcall (T := G.T) (TT := TTf G Ng.length i l fr) (t := fun E => tE G (fun c d _ H => E c d H) fe) (dV := .none) hg hm Fg.kp lk hcg hb Sg hNg hva (found_gives h0 Sg.nd hi hloc hst hln hsw (hh cdv) (hrt cdv)) TB hcode hm1
    (fun q hq _ => by rw [hT] at hq; rw [List.mem_singleton.mp hq]) hr L hdef hbind hbody hdb hd hcd) fun σ H Q q => ?_
  obtain ⟨ms, st, env, S, re, q⟩ := q
  refine ⟨S.tabs, fun H1 eN t1 => ?_⟩
  have S1 := S.extN eN t1
  have g1 := ext_gr (ms := ms) eN
  refine ⟨ms, st, env, S1, re.gr g1, ?_⟩
  unfold eFound at q
  have q1 := Okk.gr g1 q
  cases e : fe env st with
  | ok d s =>
    rw [e] at q1
    intro v m2 H2 g2 S2 r2
    refine ⟨m2, s, d, S2, r2, ?_⟩
    have q2 := Okk.gr g2 q1
    revert q2
    cases ef : foundR Ng.length i l fr (.ok d s) with
    | ok y t => exact fun z => z
    | exn c2 f2 t2 =>
      exfalso
      unfold foundR at ef
      dsimp only at ef
      split at ef <;> cases ef
    | bad => exact fun z => z.elim
  | exn c2 fs s =>
    rw [e] at q1
    intro od m2 H2 g2 S2 xr
    refine ⟨c2, fs, s, m2, rfl, S2, xr, ?_⟩
    have q2 := Okk.gr g2 q1
    revert q2
    cases ef : foundR Ng.length i l fr (.exn c2 fs s) with
    | ok y t => exact fun z => z
    | exn c3 f3 t3 =>
      exfalso
      unfold foundR at ef
      dsimp only at ef
      split at ef <;> cases ef
    | bad => exact fun z => z.elim
  | bad =>
    rw [e] at q1
    exact q1.elim
end
end LF

set_option Elab.async false
set_option linter.all false
set_option maxRecDepth 100000
set_option maxHeartbeats 4000000
/-! stars in displays, list(range), tuple * int, two places set, a def whose code object is known, the end -/
namespace LF
open PySem PySem.Spec PyProof.Rows L2
section
variable {G : Gx} {W : WX} {X : Cx} {σ : L2.St} {H : Hp}
/-! ### stars -/
def eArgsX : List (Bool × E) → Sl → M (List D)
  | [], _ => fun st => .ok [] st
  | (false, a) :: as, env => fun st => (a env st).bind fun x s => (eArgsX as env s).bind fun xs s => .ok (x :: xs) s
  | (true, a) :: as, env => fun st => (a env st).bind fun x s => match seqOf x s with
    | some ds => (eArgsX as env s).bind fun xs s => .ok (ds ++ xs) s
    | none => .bad
def eBltX (op : List D → O D) (as : List (Bool × E)) : E := fun env st => (eArgsX as env st).bind fun xs s => ofO (op xs s)
theorem x_nil : PA X [] (tA G W (eArgsX [])) := PA_weak pa_nil fun σ H Q ⟨ms, st, env, S, _, k⟩ => k [] ms H Gr.refl S (by simp only [RVs])
theorem x_cons {e : Expr} {es : List Expr} {fa : E} {fs : List (Bool × E)} (ha : PE X e (tE G W fa)) (hr : PA X es (tA G W (eArgsX fs))) (hs : starEach (e :: es) X.env = (false, eval e X.env) :: starEach es X.env := by rfl) : PA X (e :: es) (tA G W (eArgsX ((false, fa) :: fs))) :=
  PA_weak (pa_cons ha hr hs) fun σ H Q h => by
    obtain ⟨ms, st, env, S, r, k⟩ := h
    exact ⟨ms, st, env, S, r, Okk.bind k fun x s v m1 H1 g1 S1 r1 k1 => ⟨m1, s, env, S1, r.gr g1, Okk.bind k1 fun xs s2 vs m2 H2 g2 S2 r2 k2 =>
      k2 (v :: vs) m2 H2 Gr.refl S2 (by simp only [RVs]; exact ⟨v, vs, rfl, RV.gr g2 _ _ r1, r2⟩)⟩⟩
theorem x_star {e : Expr} {es : List Expr} {p : Pos} {fa : E} {fs : List (Bool × E)} (hK : X.K = G.K) (ha : PE X e (tE G W fa)) (hr : PA X es (tA G W (eArgsX fs))) (hs : starEach (.Starred e p :: es) X.env = (true, eval e X.env) :: starEach es X.env := by rfl) : PA X (.Starred e p :: es) (tA G W (eArgsX ((true, fa) :: fs))) :=
  PA_weak (StX.pa_star ha hr hs) fun σ H Q h => by
    obtain ⟨ms, st, env, S, r, k⟩ := h
    refine ⟨ms, st, env, S, r, Okk.bind k fun x s v m1 H1 g1 S1 r1 k1 => ?_⟩
    cases e1 : seqOf x s with
    | none => rw [e1] at k1; exact k1.elim
    | some ds =>
      rw [e1] at k1
      obtain ⟨a, vs, rfl, h1, h2⟩ := seq_ok S1 r1 e1
      exact ⟨a, vs, rfl, by rw [hK]; exact h1.symm, m1, s, env, S1, r.gr g1, Okk.bind k1 fun xs s2 us m2 H2 g2 S2 r2 k2 => k2 (vs ++ us) m2 H2 Gr.refl S2 ((RVs.gr g2 _ _ h2).app r2)⟩
theorem e_tupX {es : List Expr} {x1} {pos : Pos} {fs : List (Bool × E)} (h : PA X es (tA G W (eArgsX fs))) : PE X (.Tuple es x1 pos) (tE G W (eBltX opTup fs)) :=
  PE_weak (pe_tup h) fun σ H Q h => tX_mono (tX_bind h) fun vs H1 ⟨ms, st, env, ds, S, r, r1, k⟩ => by
    have k := k.ofO
    unfold opTup at k
    split at k
    · rename_i hl
      exact ⟨by rw [r1.length]; exact LIM_le hl, OkO.tup S r1 k⟩
    · exact k.elim
/-! ### list(range(n)) -/
def eLRg (a : E) : E := fun env st => (a env st).bind fun x s => match x with
  | .int j => if 0 ≤ j ∧ j ≤ 1000000 then ofO (newL (rngI 0 j.toNat) s) else .bad
  | _ => .bad
theorem rvs_rng {ms : List Addr} {n : Nat} : RVs G ms H (rngI 0 n) (rgV 0 (n : Int)) := by
  have key : ∀ l : List Nat, RVs G ms H (l.map fun i : Nat => D.int (0 + (i : Int))) (l.map fun i => V.int (0 + (i : Nat))) := by
    intro l
    induction l with
    | nil => simp [RVs]
    | cons x l ih =>
      simp only [List.map_cons, RVs]
      exact ⟨_, _, rfl, by simp only [RV], ih⟩
  unfold rngI rgV
  rw [show ((n : Int) - 0).toNat = n by omega]
  exact key _
theorem e_lrg {p p2 pos pos2 : Pos} {a : Expr} {fa : E} (hc : X.calm = true) (hg : Gl X "list") (hm : X.mg "list" = none) (hg2 : Gl X "range") (hm2 : X.mg "range" = none) (ha : PE X a (tE G W fa)) (na : starEach [a] X.env = (false, eval a X.env) :: starEach [] X.env := by rfl)
    (nb : starEach [.Call (.Name "range" p2) [a] [] pos2] X.env = (false, eval (.Call (.Name "range" p2) [a] [] pos2) X.env) :: starEach [] X.env := by rfl) : PE X (.Call (.Name "list" p) [.Call (.Name "range" p2) [a] [] pos2] [] pos) (tE G W (eLRg fa)) :=
  PE_weak (pe_listRg hc hg hm (prg_1 hg2 hm2 ha na) nb) fun σ H Q h => tX_mono (tX_bind h) fun v H1 ⟨ms, st, env, x, S, r, r1, k⟩ => by
    split at k
    · rename_i j
      split at k
      · rename_i hj
        simp only [RV] at r1
        subst r1
        obtain ⟨n, rfl⟩ : ∃ n : Nat, j = n := ⟨j.toNat, by omega⟩
        refine ⟨_, rfl, RgOk.of_le (by omega) (by omega) (by omega) (by omega), OkO.newL S ?_ k.ofO⟩
        rw [show ((n : Int)).toNat = n by omega]
        exact rvs_rng
      · exact k.elim
    · exact k.elim
/-! ### tuple * 1, tuple * 0 -/
theorem tuple_mul1 (l : Addr) (items : Array Value) (n : Nat) (dd : Option Addr) (sl : Array (Option Value)) (u : Tok) :
    Meets (Builtin.«tuple.__mul__» ⟨[.ref l, .int 1 u], []⟩) (fun _ R s => s.heap.get? l = some { cls := .type "tuple", dict := dd, data := .seq items n, slots := sl } ∧ R (.ok (.ret (.ref l))) s) :=
  .of_wp fun prog w A R s h => by
    obtain ⟨hp, g, d, tk, os⟩ := s
    obtain ⟨hl, h⟩ := h
    have f1 := AutoSeq1.idx_int
    wp_walk using wpAny_loadPart' hl
    repeat (first
      | (refine wpAny_ite_false (by decide) ?_; wp_walk using wpAny_loadPart' hl)
      | (refine wpAny_ite_true (by simp) ?_; wp_walk using wpAny_loadPart' hl))
    exact ⟨_, rfl, h⟩
theorem tuple_mul0 (l : Addr) (items : Array Value) (n : Nat) (dd : Option Addr) (sl : Array (Option Value)) (u : Tok) (c1 : items.isEmpty = false) :
    Meets (Builtin.«tuple.__mul__» ⟨[.ref l, .int 0 u], []⟩) (fun _ R s => s.heap.get? l = some { cls := .type "tuple", dict := dd, data := .seq items n, slots := sl } ∧
      R (.ok (.ret (Value.ref s.heap.objs.size))) { s with heap := s.heap.push { cls := Value.type "tuple", data := Data.seq #[] }, toks := s.toks }) :=
  .of_wp fun prog w A R s h => by
    obtain ⟨hp, g, d, tk, os⟩ := s
    obtain ⟨hl, h⟩ := h
    have f1 := AutoSeq1.idx_int
    wp_walk using wpAny_loadPart' hl
    repeat (first
      | (refine wpAny_ite_false (by decide) ?_; wp_walk using wpAny_loadPart' hl)
      | (refine wpAny_ite_false (by rw [c1]; decide) ?_; wp_walk using wpAny_loadPart' hl)
      | (refine wpAny_ite_true (by simp) ?_; wp_walk using wpAny_loadPart' hl))
    exact ⟨_, rfl, h⟩
theorem op_rep01 : OpR X (binaryOp .Mult) (fun x y H Q => (∃ l xs, x = .ref l ∧ y = .int 1 ∧ SqT X.K H l xs ∧ Q (.ref l) H) ∨ ∃ l xs, x = .ref l ∧ y = .int 0 ∧ SqT X.K H l xs ∧ xs ≠ [] ∧ ∀ p, H p = none → Q (.ref p) (upd H p (.tup []))) := by
  intro pins s σ H x y v u Q I rx ry h
  rcases h with ⟨l, xs, rfl, rfl, hT, q⟩ | ⟨l, xs, rfl, rfl, hT, hne, q⟩
  · cases rx
    obtain ⟨t, rfl⟩ := ry
    obtain ⟨its, r, ⟨⟨cls, dd, data, sl⟩, ho, hc, n, hd⟩, hs⟩ := I.tuple hT
    simp only at hc hd
    subst hc hd
    exact wpAny_binaryOp_repeat_ref (T := "tuple") (U := "int") (by decide) ⟨_, ho, rfl⟩ (fun s' => typeIs_int s' 1 t) noFill_tuple_mul F.fills_int_mul F.slot_int_rmul repeat_tuple F.slot_int_index.lookup
      (call_meets F.slot_int_rmul (typeIs_int s 1 t) F.entry_int_rmul (F.args_int_rmul_2 _ _) (int_rmul_tuple 1 t l its.toArray n dd sl)
        ⟨ho, rfl, ⟨_, ho, rfl⟩, call_meets F.slot_tuple_mul ⟨_, ho, rfl⟩ F.entry_tuple_mul (F.args_tuple_mul_2 _ _) (tuple_mul1 l its.toArray n dd sl t) ⟨ho, ⟨.ref l, H, I, rfl, q⟩⟩⟩)
  · cases rx
    obtain ⟨t, rfl⟩ := ry
    obtain ⟨its, r, ⟨⟨cls, dd, data, sl⟩, ho, hc, n, hd⟩, hs⟩ := I.tuple hT
    simp only at hc hd
    subst hc hd
    have hi : its.toArray.isEmpty = false := by
      cases its with
      | nil =>
        cases r
        exact absurd rfl hne
      | cons a b => rfl
    refine wpAny_binaryOp_repeat_ref (T := "tuple") (U := "int") (by decide) ⟨_, ho, rfl⟩ (fun s' => typeIs_int s' 0 t) noFill_tuple_mul F.fills_int_mul F.slot_int_rmul repeat_tuple F.slot_int_index.lookup
      (call_meets F.slot_int_rmul (typeIs_int s 0 t) F.entry_int_rmul (F.args_int_rmul_2 _ _) (int_rmul_tuple 0 t l its.toArray n dd sl)
        ⟨ho, rfl, ⟨_, ho, rfl⟩, call_meets F.slot_tuple_mul ⟨_, ho, rfl⟩ F.entry_tuple_mul (F.args_tuple_mul_2 _ _) (tuple_mul0 l its.toArray n dd sl t hi) ⟨ho, ?_⟩⟩)
    refine ⟨.ref s.heap.objs.size, _, I.laid (t' := s.toks) (o := .tup []) (fun b ob q => Heap.get?_push_of_some _ q) (Nat.le_refl _) ?_, rfl, q _ (I.hok.fresh (Nat.le_refl _))⟩
    exact ⟨Nat.zero_le _, [], .nil, IsTup.new _ _⟩
/-- tuple * any small number -/
def opMulY : D → D → O D
  | .tup a, .int k => fun st => if a ≠ [] ∧ 0 ≤ k ∧ k ≤ 1000 ∧ a.length ≤ 1000 then some (.tup (List.replicate k.toNat a).flatten, st) else none
  | x, y => opMulX x y
theorem o_mulY (hK : X.K = G.K) : OpR X (binaryOp .Mult) (rO G opMulY) := OpR_imp (op_rep01.or (o_mulX hK)) fun v u H Q ⟨ms, st, x, y, S, rx, ry, k⟩ => by
  unfold opMulY at k
  split at k
  · rename_i a j
    split at k
    · rename_i hc
      obtain ⟨c1, c2, c3, c4⟩ := hc
      by_cases h2 : 2 ≤ j
      · refine .inr ⟨ms, st, .tup a, .int j, S, rx, ry, ?_⟩
        simp only [opMulX]
        rw [if_pos ⟨c1, h2, c3, c4⟩]
        exact k
      · have rx0 := rx
        simp only [RV] at rx ry
        obtain ⟨p, vs, rfl, h1, h3⟩ := rx
        subst ry
        by_cases hj : j = 1
        · subst hj
          refine .inl (.inl ⟨p, vs, rfl, rfl, by rw [hK]; exact h1.t, ?_⟩)
          have e : (List.replicate (1 : Int).toNat a).flatten = a := by simp
          rw [e] at k
          exact OkO.val S rx0 k
        · obtain rfl : j = 0 := by omega
          have r0 : RVs G ms H ([] : List D) ([] : List V) := by simp [RVs]
          have e0 : (List.replicate (0 : Int).toNat a).flatten = [] := by simp
          rw [e0] at k
          refine .inl (.inr ⟨p, vs, rfl, rfl, by rw [hK]; exact h1.t, fun e => c1 ?_, OkO.tup S r0 k⟩)
          have := h3.length
          rw [e] at this
          exact List.eq_nil_of_length_eq_zero this.symm
    · exact k.elim
  · exact .inr ⟨ms, st, x, y, S, rx, ry, k⟩
/-! ### a[i], b[j] = x, y -/
def sSetV2 (o1 i1 o2 i2 : Nat) (a b : E) : Sm := fun env st => (eArgs [a, b] env st).out env fun ds s => match ds with
  | [x, y] => match env[o1]?, env[i1]?, env[o2]?, env[i2]? with
    | some (some p), some (some i), some (some q), some (some j) => match opSet p i x s with
      | some (_, s1) => match opSet q j y s1 with
        | some (_, s2) => .nx env s2
        | none => .bad
      | none => .bad
    | _, _, _, _ => .bad
  | _ => .bad
theorem set_step {ms : List Addr} {st : Sto} {p i x : D} {vp vi vx : V} {s1 : Sto} (S : SRel G ms st H) (rp : RV G ms H p vp) (ri : RV G ms H i vi) (rx : RV G ms H x vx) (h : opSet p i x st = some ((), s1)) {Q : Hp → Prop} (k : ∀ H', Gr ms H ms H' → SRel G ms s1 H' → Q H') : rSetL vp vi vx H Q := by
  unfold opSet at h
  split at h
  · simp only [RV] at ri
    subst ri
    split at h
    · rename_i ds e2
      obtain ⟨a, vs, rfl, ha, h1, h2⟩ := S.ref e2 rp
      split at h
      · rename_i j e3
        cases h
        obtain ⟨c, _, hc⟩ := S.has ha
        have g : Gr ms H ms (upd H a (.lst (vs.set j vx))) := Gr.cell hc
        exact ⟨a, vs, _, j, rfl, rfl, h1, by rw [h2.length]; exact e3, k _ g (S.put ha ⟨_, upd_same, RVs.gr g _ _ (h2.set j rx)⟩)⟩
      · cases h
    · cases h
  · cases h
theorem s_setV2 {n1 m1 n2 m2 : Str} {o1 i1 o2 i2 : Nat} {a b : Expr} {fa fb : E} {q1 q2 q3 q4 q5 q6 pt pos : Pos} {kt k2 pt2} (hc : X.calm = true) (ha : PA X [a, b] (tA G W (eArgs [fa, fb])))
    (h1 : X.N[o1]? = some n1 := by rfl) (h2 : X.N[i1]? = some m1 := by rfl) (h3 : X.N[o2]? = some n2 := by rfl) (h4 : X.N[i2]? = some m2 := by rfl) (v1 : Vis X.env.scope n1) (v2 : Vis X.env.scope m1) (v3 : Vis X.env.scope n2) (v4 : Vis X.env.scope m2)
    (d1 : (n1 == ("__debug__" : Str)) = false := by decide) (e1 : (n1 == ("__classdict__" : Str)) = false := by decide) (d2 : (m1 == ("__debug__" : Str)) = false := by decide) (e2 : (m1 == ("__classdict__" : Str)) = false := by decide)
    (d3 : (n2 == ("__debug__" : Str)) = false := by decide) (e3 : (n2 == ("__classdict__" : Str)) = false := by decide) (d4 : (m2 == ("__debug__" : Str)) = false := by decide) (e4 : (m2 == ("__classdict__" : Str)) = false := by decide)
    (hn : (assignEach [.Subscript (.Name n1 q1) (.Name m1 q2) q3, .Subscript (.Name n2 q4) (.Name m2 q5) q6] X.env).length = 2 := by rfl) (hst : (assignEach [.Subscript (.Name n1 q1) (.Name m1 q2) q3, .Subscript (.Name n2 q4) (.Name m2 q5) q6] X.env).findIdx? (·.1) = none := by rfl)
    (ha1 : ∀ v, assign (.Subscript (.Name n1 q1) (.Name m1 q2) q3) X.env v = (do
      let ov ← holding [v] (eval (.Name n1 q1) X.env)
      let iv ← holding [v, ov] (eval (.Name m1 q2) X.env)
      standAt q3
      holding [v, ov, iv] (setItem ov iv v)
      release [v, ov, iv] []) := by intro _; rfl)
    (ha2 : ∀ v, assign (.Subscript (.Name n2 q4) (.Name m2 q5) q6) X.env v = (do
      let ov ← holding [v] (eval (.Name n2 q4) X.env)
      let iv ← holding [v, ov] (eval (.Name m2 q5) X.env)
      standAt q6
      holding [v, ov, iv] (setItem ov iv v)
      release [v, ov, iv] []) := by intro _; rfl)
    (hs1 : (assignEach [.Subscript (.Name n1 q1) (.Name m1 q2) q3, .Subscript (.Name n2 q4) (.Name m2 q5) q6] X.env).map (·.2) = assign (.Subscript (.Name n1 q1) (.Name m1 q2) q3) X.env :: (assignEach [.Subscript (.Name n2 q4) (.Name m2 q5) q6] X.env).map (·.2) := by rfl)
    (hs2 : (assignEach [.Subscript (.Name n2 q4) (.Name m2 q5) q6] X.env).map (·.2) = assign (.Subscript (.Name n2 q4) (.Name m2 q5) q6) X.env :: (assignEach [] X.env).map (·.2) := by rfl)
    (hs : swapsWithSole [.Tuple [.Subscript (.Name n1 q1) (.Name m1 q2) q3, .Subscript (.Name n2 q4) (.Name m2 q5) q6] kt pt] (.Tuple [a, b] k2 pt2) pos.line X.env = pure false := by rfl)
    (hw : swappedStores [.Tuple [.Subscript (.Name n1 q1) (.Name m1 q2) q3, .Subscript (.Name n2 q4) (.Name m2 q5) q6] kt pt] (.Tuple [a, b] k2 pt2) X.env = pure none := by rfl)
    (h0 : (assignEach [.Tuple [.Subscript (.Name n1 q1) (.Name m1 q2) q3, .Subscript (.Name n2 q4) (.Name m2 q5) q6] kt pt] X.env).map (·.2) = [assign (.Tuple [.Subscript (.Name n1 q1) (.Name m1 q2) q3, .Subscript (.Name n2 q4) (.Name m2 q5) q6] kt pt) X.env] := by rfl) :
    PS X (.Assign [.Tuple [.Subscript (.Name n1 q1) (.Name m1 q2) q3, .Subscript (.Name n2 q4) (.Name m2 q5) q6] kt pt] (.Tuple [a, b] k2 pt2) pos) (tS G W (sSetV2 o1 i1 o2 i2 fa fb)) :=
  PS_weak (ps_asg (pe_tup ha) (pg_tup hc (pgs_cons (pg_sub (pe_var h1 v1 d1 e1) (pe_var h2 v2 d2 e2) set_list ha1) (pgs_cons (pg_sub (pe_var h3 v3 d3 e3) (pe_var h4 v4 d4 e4) set_list ha2) pgs_nil hs2) hs1) hn hst) hs hw h0) fun K σ H h => by
    refine tX_mono (tX_out (R := RVs G) (k := fun env ds s => match ds with
      | [x, y] => match env[o1]?, env[i1]?, env[o2]?, env[i2]? with
        | some (some p), some (some i), some (some q), some (some j) => match opSet p i x s with
          | some (_, s1) => match opSet q j y s1 with
            | some (_, s2) => .nx env s2
            | none => .bad
          | none => .bad
        | _, _, _, _ => .bad
      | _ => .bad) h) fun vs H1 ⟨ms, st, env, ds, S, r, r1, k⟩ => ?_
    split at k
    · rename_i x y
      split at k
      · rename_i p i q j ep ei eq ej
        split at k
        · rename_i s1 es1
          split at k
          · rename_i s2 es2
            obtain ⟨vx, vy, rfl, rvx, rvy⟩ := r1.two'
            refine ⟨by show 2 ≤ sizeLine; decide, fun t ht => ?_⟩
            have g0 : Gr ms H1 ms (upd H1 t (.tup [vx, vy])) := Gr.new0 ht
            have S0 := S.lay (o := .tup [vx, vy]) ht
            obtain ⟨w1, a1, b1⟩ := r.at ep
            obtain ⟨w2, a2, b2⟩ := r.at ei
            obtain ⟨w3, a3, b3⟩ := r.at eq
            obtain ⟨w4, a4, b4⟩ := r.at ej
            refine ⟨t, [vx, vy], rfl, .inl (.inl upd_same), rfl, vx, [vy], rfl, w1, a1, w2, a2, ?_⟩
            refine set_step S0 (RV.gr g0 _ _ b1) (RV.gr g0 _ _ b2) (RV.gr g0 _ _ rvx) es1 fun H2 g1 S1 => ?_
            have g01 := g0.trans g1
            refine ⟨vy, [], rfl, w3, a3, w4, a4, ?_⟩
            refine set_step S1 (RV.gr g01 _ _ b3) (RV.gr g01 _ _ b4) (RV.gr g01 _ _ rvy) es2 fun H3 g2 S2 => ?_
            exact ⟨rfl, k σ ms H3 (g01.trans g2) S2 (r.gr (g01.trans g2))⟩
          · exact k.elim
        · exact k.elim
      · exact k.elim
    · exact k.elim
/-! ### a def whose code object is known -/
theorem fn_okC {P : Program} {w : World} {mg : Str → Option Value} {base : Heap} {x qual : Str} {st : Stmt} {f c : Addr} {oc kV doc pm ct : Value} {od an : Option Addr} {osl : Array (Option Value)} {N ps : List Str} {k : Nat} {body : Sm}
    (lk : G.K.lookup f = some ⟨oc, od, .func (PySem.W.fnOf x qual (defArgs st) (defBody st) (defScope st) .none kV doc pm an (.ref c) ct), osl⟩) (hcd : PySem.W.codeIn G.K (.ref c) qual = true) (S : FnScope N ps (defScope st))
    (hb : ∀ (A : Around) (outer : List Env) (s : Shared) (H : Hp) (E : XK), Room k (A.deeper (envOfC qual (defScope st) s.heap.objs.size f (.ref c))) →
      PSs (cxOf (L2.CX P w) P w G.K mg base N qual (defScope st) f (.ref c) A outer s H E) (defBody st) (tS G (fun cls d _ H => E cls d H) body)) :
    FnOk P w G.K mg base (L2.CX P w) (k + 1) f (PySem.W.fnOf x qual (defArgs st) (defBody st) (defScope st) .none kV doc pm an (.ref c) ct) ps (spF G (fnS ps.length N.length body)) := by
  have hlen : ∀ vs H Q E, spF G (fnS ps.length N.length body) vs H Q E → vs.length = ps.length := by
    rintro vs H Q E ⟨ms, st, ds, S1, r, q⟩
    unfold fnS at q
    split at q
    · rename_i hl
      rw [r.length, hl]
    · exact q.elim
  refine L2.fn_of lk hcd S hlen fun A outer s H vs Q E hr h => ⟨_, hb A outer s H E hr, ?_⟩
  have hl := hlen vs H Q E h
  obtain ⟨ms, st1, ds, S1, r, q⟩ := h
  have hl2 : ds.length = ps.length := by rw [← r.length]; exact hl
  unfold fnS at q
  rw [if_pos hl2] at q
  refine ⟨ms, st1, ds.map some ++ List.replicate (N.length - ps.length) none, S1, ?_, ?_⟩
  · unfold L2.start
    rw [hl]
    exact RE.start _ r
  · cases e : body (ds.map some ++ List.replicate (N.length - ps.length) none) st1 with
    | nx e1 s1 =>
      rw [e] at q
      exact fun σ' m1 H1 g1 S1 _ => q .non m1 H1 g1 S1 (by simp only [RV])
    | rt d s1 =>
      rw [e] at q
      exact q
    | exn c fs e1 s1 =>
      rw [e] at q
      exact fun od σ' m1 H1 g1 S1 _ x1 => q od m1 H1 g1 S1 x1
    | bk e1 s1 => rw [e] at q; exact q.elim
    | ct e1 s1 => rw [e] at q; exact q.elim
    | bad => rw [e] at q; exact q.elim
end
/-! ### the end, with a table -/
def spLawT (K : PySem.W.Frag) (c : Addr) : Sp := fun vs H Q _ => ∃ (a : Addr) (ns : List Int), vs = [.ref a] ∧ ns.length ≤ 63 ∧ H c = some (.tbl #[]) ∧ SqL K H a (ns.map V.int) ∧ ∀ H', Q (.bl true) H'
theorem end_okT {K : PySem.W.Frag} {tb : Nat → Addr} {P : Program} {w : World} {mg : Str → Option Value} {base : Heap} {k : Nat} {f c : Addr} {q : Str} {fd : FuncData} {g : F} (h : FnOk P w K mg base (L2.CX P w) k f fd ["script"] (spF ⟨K, tb, none, [(c, q)]⟩ g))
    (hg : ∀ ns : List Int, ns.length ≤ 63 → ∀ d st, ((d = .scr ns ∧ st = []) ∨ (d = .ref 0 ∧ st = [.lst (ns.map D.int)])) → ∃ s, g [d] st = .ok (.bl true) s) : FnOk P w K mg base (L2.CX P w) k f fd ["script"] (spLawT K c) := h.imp fun vs H Q E qq => by
  obtain ⟨a, ns, rfl, hl, hT, hS, qq⟩ := qq
  have tabs : LamX.Tabs [(c, q)] H := fun p hp => by
    rw [List.mem_singleton.mp hp]
    exact LamX.TabS.nil hT
  have fin : ∀ (ms : List Addr) (d : D) (st : Sto), ((d = .scr ns ∧ st = []) ∨ (d = .ref 0 ∧ st = [.lst (ns.map D.int)])) → SRel ⟨K, tb, none, [(c, q)]⟩ ms st H → RV ⟨K, tb, none, [(c, q)]⟩ ms H d (.ref a) → spF ⟨K, tb, none, [(c, q)]⟩ g [.ref a] H Q E := fun ms d st hd S r => by
    obtain ⟨s, e⟩ := hg ns hl d st hd
    refine ⟨ms, st, [d], S, RVs.one r, ?_⟩
    rw [e]
    intro v m1 H1 _ _ r
    simp only [RV] at r
    subst r
    exact qq H1
  rcases hS with (hS | ⟨o, hS⟩) | hS
  · refine fin [a] (.ref 0) _ (.inr ⟨rfl, rfl⟩) ⟨rfl, by simp, fun i b cl h1 h2 => ?_, (fun a d fs z => by cases z), tabs⟩ ?_
    · cases i with
      | zero =>
        simp at h1 h2
        subst h1 h2
        exact ⟨_, hS, RVs.ints ns⟩
      | succ i => simp at h1
    · simp only [RV]
      exact ⟨a, rfl, rfl⟩
  · refine fin [] (.scr ns) [] (.inl ⟨rfl, rfl⟩) ⟨rfl, List.nodup_nil, (fun i a c h _ => by simp at h), (fun a d fs z => by cases z), tabs⟩ ?_
    simp only [RV]
    exact ⟨a, rfl, .inl ⟨o, hS⟩⟩
  · refine fin [] (.scr ns) [] (.inl ⟨rfl, rfl⟩) ⟨rfl, List.nodup_nil, (fun i a c h _ => by simp at h), (fun a d fs z => by cases z), tabs⟩ ?_
    simp only [RV]
    exact ⟨a, rfl, .inr hS⟩
end LF

set_option Elab.async false
set_option linter.all false
set_option maxRecDepth 100000
set_option maxHeartbeats 4000000
/-! a call of a variable that holds one of two defs -/
namespace LF
open PySem PySem.Spec PyProof.Rows L2
section
variable {G : Gx} {W : WX} {X : Cx} {σ : L2.St} {H : Hp}
theorem pe_callLS {CX : CXT} {k i : Nat} {f : Addr} {fd : FuncData} {ps : List Str} {sp : Sp} {E : L2.St → XK} {x : Str} {p pos : Pos} {e : Expr} {es : List Expr} {t : TA} (F : FnOk X.prog X.w X.K X.mg X.base CX k f fd ps sp) (hr : Room k X.A) (hN : X.N[i]? = some x) (hv : Vis X.env.scope x) (hk : PySem.W.keepIn X.K (.ref f) = true) (hb : Binds X.K fd ps []) (hx : ∀ σ, PassesAt CX X σ (E σ))
    (ha : PA X (e :: es) t) (hdb : (x == ("__debug__" : Str)) = false := by decide) (hcd : (x == ("__classdict__" : Str)) = false := by decide) (he : starEach (e :: es) X.env = (false, eval e X.env) :: starEach es X.env := by rfl) (hpl : (backTo pos (starEach es X.env)).any (·.1) = false := by rfl) :
    PE X (.Call (.Name x p) (e :: es) [] pos) (fun σ H Q => σ[i]? = some (some (.ref f)) ∧ tCallS sp E t σ H Q) := by
  refine ⟨fun pins s σ H Q I h => ?_⟩
  obtain ⟨hs, ht⟩ := h
  refine wpAny_Call_Name_kw (thn ((pe_var (pos := p) hN hv hdb hcd).run pins s σ H (fun v H1 => v = .ref f ∧ H1 = H) I ⟨.ref f, hs, rfl, rfl⟩) fun u s1 ⟨v, H1, I1, r1, q1⟩ => ?_)
  obtain ⟨rfl, rfl⟩ := q1
  cases r1
  refine PySem.W.callWith_K (h₀ := X.base) I.ok.mod.kin hk (thn (ha.run pos pins s1 σ _ _ I1 ht) fun us s2 ⟨vs, H2, I2, r, q⟩ => ⟨I2.kIn, ?_⟩) he hpl
  exact run_fnS F hr hb (hx σ) I2 r q
theorem PE_or {e : Expr} {t1 t2 : TE} (h1 : PE X e t1) (h2 : PE X e t2) : PE X e (fun σ H Q => t1 σ H Q ∨ t2 σ H Q) :=
  ⟨fun pins s σ H Q I h => h.elim (h1.run pins s σ H Q I) (h2.run pins s σ H Q I)⟩
def eCallV (i n1 n2 : Nat) (g1 g2 : F) (as : List E) : E := fun env st => match env[i]? with
  | some (some (.glo n)) => if n = n1 then eCall g1 as env st else if n = n2 then eCall g2 as env st else .bad
  | _ => .bad
theorem e_callV {k j1 j2 i n1 n2 : Nat} {f1 f2 : Addr} {fd1 fd2 : FuncData} {ps1 ps2 : List Str} {x : Str} {p pos : Pos} {e : Expr} {es : List Expr} {g1 g2 : F} {fs : List E} (T1 : FnOk X.prog X.w X.K X.mg X.base (L2.CX X.prog X.w) j1 f1 fd1 ps1 (spF G g1)) (T2 : FnOk X.prog X.w X.K X.mg X.base (L2.CX X.prog X.w) j2 f2 fd2 ps2 (spF G g2)) (hr : Room k X.A)
    (e1 : G.tb n1 = f1) (e2 : G.tb n2 = f2) (hN : X.N[i]? = some x) (hv : Vis X.env.scope x) (k1 : PySem.W.keepIn X.K (.ref f1) = true) (k2 : PySem.W.keepIn X.K (.ref f2) = true) (b1 : Binds X.K fd1 ps1 []) (b2 : Binds X.K fd2 ps2 []) (tk : Takes X W) (ha : PA X (e :: es) (tA G W (eArgs fs)))
    (h1 : j1 ≤ k := by decide) (h2 : j2 ≤ k := by decide) (hdb : (x == ("__debug__" : Str)) = false := by decide) (hcd : (x == ("__classdict__" : Str)) = false := by decide)
    (he : starEach (e :: es) X.env = (false, eval e X.env) :: starEach es X.env := by rfl) (hpl : (backTo pos (starEach es X.env)).any (·.1) = false := by rfl) :
    PE X (.Call (.Name x p) (e :: es) [] pos) (tE G W (eCallV i n1 n2 g1 g2 fs)) :=
  PE_weak (PE_or (pe_callLS (i := i) (E := WE W) T1 (hr.mono h1) hN hv k1 b1 (fun σ => passAt tk σ) ha hdb hcd he hpl) (pe_callLS (i := i) (E := WE W) T2 (hr.mono h2) hN hv k2 b2 (fun σ => passAt tk σ) ha hdb hcd he hpl)) fun σ H Q h => by
    obtain ⟨ms, st, env, S, r, q⟩ := h
    unfold eCallV at q
    split at q
    · rename_i n en
      obtain ⟨w, a, b⟩ := r.at en
      simp only [RV] at b
      split at q
      · rename_i hn
        rw [hn, e1] at b
        subst b
        exact .inl ⟨a, call_tCall ⟨ms, st, env, S, r, q⟩⟩
      · split at q
        · rename_i hn
          rw [hn, e2] at b
          subst b
          exact .inr ⟨a, call_tCall ⟨ms, st, env, S, r, q⟩⟩
        · exact q.elim
    · exact q.elim
end
end LF

set_option Elab.async false
set_option linter.all false
set_option maxRecDepth 100000
set_option maxHeartbeats 4000000
/-! enumerate of a tuple -/
namespace LF
open PySem PySem.Spec PyProof.Rows L2
open AutoSeq1 (wpAny_loadPart')
theorem meets_enumT (l : Addr) (items : Array Value) (n : Nat) (dct : Option Addr) (sl : Array (Option Value)) :
    Meets (Builtin.«enumerate.__new__» ⟨[.type "enumerate", .ref l], []⟩) (fun _ R s => s.heap.get? l = some { cls := .type "tuple", dict := dct, data := .seq items n, slots := sl } ∧
      R (.ok (.ret (.ref (s.heap.push { cls := .type "tuple_iterator", data := .fields #[.ref l, .int 0 0] }).objs.size)))
        { s with heap := (s.heap.push { cls := .type "tuple_iterator", data := .fields #[.ref l, .int 0 0] }).push { cls := .type "enumerate", data := .fields #[.none, .bool false, .ref s.heap.objs.size, rawInt 0, .none, .none] } }) :=
  .of_wp fun prog w A R s h => by
    obtain ⟨hp, g, d, tk, os⟩ := s; obtain ⟨hl, h⟩ := h
    have hsub := sub_enumerate
    have hL : Heap.IsTuple (Shared.heap ⟨hp, g, d, tk, os⟩) l items := ⟨_, hl, rfl, n, rfl⟩
    wp_walk using wpAny_loadPart' hl
    refine wpAny_stack_any fun st => wpAny_pure ?_
    split
    · rename_i c _ _ _ _ _
      cases (c == Value.type "enumerate")
      · wp_walk using wpAny_loadPart' hl, wpAny_pyIter_tuple hL
        exact ⟨_, rfl, h⟩
      · wp_walk using wpAny_loadPart' hl, wpAny_pyIter_tuple hL
        exact ⟨_, rfl, h⟩
    · wp_walk using wpAny_loadPart' hl, wpAny_pyIter_tuple hL
      exact ⟨_, rfl, h⟩
theorem call_enumT {prog : Program} {w : World} {A : Around} {E : Value → Shared → Prop} {s : Shared} {l : Addr} {items : Array Value} {Q : Value → Shared → Prop} (hL : s.heap.IsTuple l items)
    (h : ∀ h', IsEnum h' (s.heap.objs.size + 1) s.heap.objs.size 0 .none → h'.IsTupleIter s.heap.objs.size l 0 → h'.objs.size = s.heap.objs.size + 2 →
      (∀ b o, s.heap.get? b = some o → h'.get? b = some o) → Q (.ref (s.heap.objs.size + 1)) { s with heap := h' }) :
    wpAny (model prog w) A (call (.type "enumerate") [.ref l]) Q E s := by
  obtain ⟨⟨c, dct, dt, sl⟩, hl, hc, n, hd⟩ := hL
  replace hc : c = .type "tuple" := hc
  replace hd : dt = .seq items n := hd
  subst hc hd
  refine callType_new F.called_enumerate (by decide) (F.typeCall_enumerate_1 _) (F.newCall_enumerate_1 _) (fun obj => F.args_object_init_2 obj _) F.entry_enumerate_new
    (meets_enumT l items n dct sl) ⟨hl, ?_⟩
  have hz : (s.heap.push { cls := .type "tuple_iterator", data := .fields #[.ref l, .int 0 0] }).objs.size = s.heap.objs.size + 1 := Heap.size_push ..
  show _ ∧ _
  rw [hz]
  have he : IsEnum ((s.heap.push { cls := .type "tuple_iterator", data := .fields #[.ref l, .int 0 0] }).push
      { cls := .type "enumerate", data := .fields #[.none, .bool false, .ref s.heap.objs.size, rawInt 0, .none, .none] }) (s.heap.objs.size + 1) s.heap.objs.size 0 .none := by
    have := Heap.get?_push_size (s.heap.push { cls := .type "tuple_iterator", data := .fields #[.ref l, .int 0 0] })
      (o := { cls := .type "enumerate", data := .fields #[.none, .bool false, .ref s.heap.objs.size, rawInt 0, .none, .none] }) rfl
    rw [hz] at this; exact this
  refine ⟨⟨_, he, rfl⟩, h _ he ⟨_, Heap.get?_push_of_some _ (Heap.get?_push_size _ rfl), rfl, rfl⟩ (by rw [Heap.size_push, hz]) fun b o x => Heap.get?_push_of_some _ (Heap.get?_push_of_some _ x)⟩
/-- the tuple at a, each item in a new pair -/
def IteT (K : PySem.W.Frag) (a : Addr) : It :=
  ⟨fun i H => ∃ (xs : List V) (x : V), SqT K H a xs ∧ xs[i]? = some x, fun i H v H' => ∃ T x, v = .ref T ∧ H T = none ∧ H' = upd H T (.tup [.int (i : Nat), x]) ∧ ∀ xs, SqT K H a xs → xs[i]? = some x, fun i H => ∃ xs : List V, SqT K H a xs ∧ xs.length ≤ i⟩
theorem turn_enumT {P : Program} {w : World} {K : PySem.W.Frag} {elts : List Expr} {kk : Nat} {tpos : Pos} (a e it : Addr) :
    Turn P w K (.Tuple elts kk tpos) (IteT K a) [e, it] e (fun i h => (∃ old, IsEnum h e it ((i : Nat) : Int) old) ∧ h.IsTupleIter it a i ∧ e ≠ it) where
  mem := by simp
  obj := fun i h st b hb => by
    obtain ⟨⟨old, he⟩, ⟨o, ho, hc, hd⟩, _⟩ := st
    have e' : b = e ∨ b = it := by simpa using hb
    rcases e' with z | z
    · rw [z]; exact ⟨_, he, fun v q => nomatch q⟩
    · rw [z]; exact ⟨o, ho, fun v q => by rw [hd] at q; cases q⟩
  keep := fun i h h' st k => let ⟨⟨old, he⟩, hi, hne⟩ := st; ⟨⟨old, k e (by simp) _ he⟩, hi.at fun o q => k it (by simp) o q, hne⟩
  item := by
    intro X hP hw hK hc i pins s σ H E I hf st hg
    subst hP hw hK
    obtain ⟨⟨old, he⟩, hit, hne⟩ := st
    obtain ⟨xs, x, hq, hx⟩ := hg
    obtain ⟨its, rv, p, hz⟩ := I.tuple hq
    obtain ⟨u, hu, ru⟩ := rv.get hx
    have hel : e < s.heap.objs.size := Heap.lt_size he
    have hil : it < s.heap.objs.size := by obtain ⟨_, q, _⟩ := hit; exact Heap.lt_size q
    have hT : s.heap.IsTuple a its.toArray := p
    have hai : a ≠ it := fun z => by
      obtain ⟨o, ho, hc1, _⟩ := hT
      obtain ⟨o2, ho2, hc2, _⟩ := hit
      rw [z, ho2] at ho
      cases ho
      rw [hc2] at hc1
      exact absurd hc1 (by simp)
    have hae : e ∉ [it, a] := fun z => by
      simp only [List.mem_cons, List.not_mem_nil, or_false] at z
      rcases z with z | z
      · exact hne z
      · obtain ⟨o, ho, hc1, _⟩ := hT
        rw [← z, he] at ho
        cases ho
        exact absurd hc1 (by simp)
    refine wpAny_pyNext_enum_itemD (Draws.tuple (A := X.A.in1) (I.ok.hd hc) it a hai its.toArray) he ⟨hit, hT⟩ (i := i) (by have := (List.getElem?_eq_some_iff.mp hu).1; simpa using this) hne hae fun u' h' tk hu' ho hit' hT' hsz hk => ?_
    have eu : u' = u := by
      have hu' : its.toArray[i]? = some u' := hu'
      rw [List.getElem?_toArray, hu] at hu'
      exact (Option.some.inj hu').symm
    subst eu
    refine ⟨_, rfl, wpAny_letOwnedTupleGo_enum (s := { s with heap := h', toks := tk + 1 }) ho fun h'' he' sb => ?_⟩
    have hT2 : h''.get? s.heap.objs.size = some { cls := .type "tuple", data := .seq #[.int i tk, u'] } := (sb.2 _ (Nat.ne_of_gt hel)).trans hT'
    have new : ObjOk X.prog X.w (upd H s.heap.objs.size (.tup [.int (i : Nat), x])) h'' s.heap.objs.size (.tup [.int (i : Nat), x]) :=
      ⟨by show 2 ≤ sizeLine; decide, [.int i tk, u'], .cons ⟨_, rfl⟩ (.cons ru .nil), ⟨_, hT2, rfl, _, rfl⟩⟩
    have I1 : Inv X pins σ (upd H s.heap.objs.size (.tup [.int (i : Nat), x])) { s with heap := h'', toks := tk + 1 } :=
      I.turnedNew (ch := [e, it]) (fun b ob hb q => (sb.2 b (fun z => hb (by simp [z]))).trans (hk b ob (fun z => hb (by simp [z])) (fun z => hb (by simp [z])) q)) hf (Nat.le_refl _) new
    refine ⟨.ref s.heap.objs.size, _, I1, rfl, ⟨_, x, rfl, I.hok.fresh (Nat.le_refl _), rfl, fun ys hy => by rw [I.tuple_inj hy hq]; exact hx⟩, ⟨⟨u', ?_⟩, hit'.1.at fun o q => (sb.2 it (Ne.symm hne)).trans q, hne⟩, fun b hb => ?_⟩
    · have e1 : ((i + 1 : Nat) : Int) = (i : Int) + 1 := by omega
      rw [e1]; exact he'
    · have hb' : b < s.heap.objs.size := by
        have e' : b = e ∨ b = it := by simpa using hb
        rcases e' with z | z
        · rw [z]; exact hel
        · rw [z]; exact hil
      rw [upd_ne (Nat.ne_of_lt hb')]
      exact (hf b hb).1
  done := by
    intro X hP hw hK hc i pins s σ H E I hf st hg
    subst hP hw hK
    obtain ⟨⟨old, he⟩, hit, hne⟩ := st
    obtain ⟨xs, hq, hx⟩ := hg
    obtain ⟨its, rv, p, hz⟩ := I.tuple hq
    obtain ⟨f0, f1, f2, f3, f4, f5⟩ := hf it (by simp)
    have hl := rv.length
    have hT : s.heap.IsTuple a its.toArray := p
    have hTy : s.TypeIs (.ref e) "enumerate" := ⟨_, he, rfl⟩
    unfold pyNext
    refine wpAny_bind (wpAny_attempt (wpAny_callSpecial?_slot (name := Str.ofString "__next__") hTy F.slot_enumerate_next
      (wpAny_call_entry F.slot_enumerate_next hTy F.entry_enumerate_next ?_ (F.args_enumerate_next_1 _))))
    show wpAny _ _ (field (.ref e) 2 >>= _) _ _ _
    refine wpAny_bind (wpAny_field he rfl (x := .ref it) rfl ?_)
    refine wpAny_bind (wpAny_nextOf_tuple_end (I.ok.hd hc) hit hT (by simp; omega) fun h' x he' hx' => ?_)
    obtain ⟨o, ho, hc'⟩ := hx'
    refine wpAny_bind (wpAny_isInstance (T := "StopIteration") (b := true) ⟨o, ho, hc'⟩ isSubtype_stop ?_)
    exact wpAny_pure ⟨rfl, I.turned (t' := s.toks) (fun b o hb q => he' b o hb q) f0 f1 f3 f4 f5⟩
  self := fun A i s Q E st h => let ⟨⟨_, he⟩, _⟩ := st; wpAny_pyIter_enum he h
def iEnumLT (K : PySem.W.Frag) (ta : TA) : TI := fun σ H R => ta σ H fun vs H1 => ∃ a, vs = [.ref a] ∧ (((∃ xs, SqL K H1 a xs) ∧ R (Ite K a) H1) ∨ ((∃ xs, SqT K H1 a xs) ∧ R (IteT K a) H1))
theorem pi_enumLT {X : Cx} {e : Expr} {ta : TA} {p pos tpos : Pos} {elts : List Expr} {kk : Nat} (hg : Gl X "enumerate") (hm : X.mg "enumerate" = none) (ha : PA X [e] ta) (hs : starEach [e] X.env = [(false, eval e X.env)] := by rfl) :
    PI X (.Tuple elts kk tpos) (.Call (.Name "enumerate" p) [e] [] pos) (iEnumLT X.K ta) := by
  refine ⟨fun pins s σ H R I h => ?_⟩
  refine Call_ (ld_blt I hg hm boot_enumerate (PyProof.Rows.callWith_type1 (thn (ha.run pos pins s σ H _ I h) fun us s1 ⟨vs, H1, I1, r1, q1⟩ => ?_) hs rfl))
  obtain ⟨a, ex, q⟩ := q1
  subst ex
  cases r1 with
  | cons r rr =>
    cases rr
    cases r
    have fin : ∀ b, b ∈ [s1.heap.objs.size + 1, s1.heap.objs.size] → s1.heap.objs.size ≤ b := fun b hb => by
      have e' : b = s1.heap.objs.size + 1 ∨ b = s1.heap.objs.size := by simpa using hb
      rcases e' with z | z
      · rw [z]; exact Nat.le_add_right _ _
      · rw [z]; exact Nat.le_refl _
    rcases q with ⟨⟨xs, hq⟩, q⟩ | ⟨⟨xs, hq⟩, q⟩
    · obtain ⟨its, rv, p', hz⟩ := I1.list hq
      refine call_enumerate_list p'.isList fun h' he hit hsz hk => wpAny_pyIter_enum he ?_
      have I2 : Inv X pins σ H1 { s1 with heap := h' } := I1.kept (t' := s1.toks) hk
      exact ⟨s1.heap.objs.size + 1, [s1.heap.objs.size + 1, s1.heap.objs.size], _, _, H1, rfl, I2, turn_enum a (s1.heap.objs.size + 1) s1.heap.objs.size, ⟨⟨.none, he⟩, hit, Nat.succ_ne_self _⟩, fun b hb => I1.fpOk (fin b hb) (I1.hok.fresh (fin b hb)), q⟩
    · obtain ⟨its, rv, p', hz⟩ := I1.tuple hq
      refine call_enumT p' fun h' he hit hsz hk => wpAny_pyIter_enum he ?_
      have I2 : Inv X pins σ H1 { s1 with heap := h' } := I1.kept (t' := s1.toks) hk
      exact ⟨s1.heap.objs.size + 1, [s1.heap.objs.size + 1, s1.heap.objs.size], _, _, H1, rfl, I2, turn_enumT a (s1.heap.objs.size + 1) s1.heap.objs.size, ⟨⟨.none, he⟩, hit, Nat.succ_ne_self _⟩, fun b hb => I1.fpOk (fin b hb) (I1.hok.fresh (fin b hb)), q⟩
section
variable {G : Gx} {W : WX} {X : Cx} {σ : L2.St} {H : Hp}
/-- enumerate of a list or a tuple -/
def iEnX (a : E) : Sl → M Its := fun env st => (eArgs [a] env st).bind fun ds s => match ds with
  | [.ref i] => match s[i]? with
    | some (.lst ds) => .ok ⟨enumI ds, some (i, ds)⟩ s
    | _ => .bad
  | [.tup ds] => .ok ⟨enumI ds, none⟩ s
  | _ => .bad
theorem enum_len' {ds : List D} : (enumI ds).length = ds.length := by simp [enumI]
theorem i_enumX {e : Expr} {p pos tpos : Pos} {elts : List Expr} {kk : Nat} {fe : E} (hK : X.K = G.K) (hm : X.mg "enumerate" = none) (ha : PA X [e] (tA G W (eArgs [fe]))) (hg : Gl X "enumerate" := by rfl) (hs : starEach [e] X.env = [(false, eval e X.env)] := by rfl) :
    PI X (.Tuple elts kk tpos) (.Call (.Name "enumerate" p) [e] [] pos) (tI G W (iEnX fe)) :=
  PI_weak (pi_enumLT hg hm ha hs) fun σ H R h => tX_mono (tX_bind h) fun vs H1 ⟨ms, st, env, ds, S, r, r1, k⟩ => by
    rw [hK]
    split at k
    · rename_i i
      obtain ⟨v, rfl, rv⟩ := r1.one'
      split at k
      · rename_i ds e1
        obtain ⟨a, vs, rfl, ha, h1, h2⟩ := S.ref e1 rv
        refine ⟨a, rfl, .inl ⟨⟨vs, SqL.of h1⟩, k _ ms H1 Gr.refl S fun j ms' H' st' g S' ok => ?_⟩⟩
        obtain ⟨b, us, hb, h3, h4⟩ := S'.lst (ok i ds rfl)
        rw [g.at ha] at hb
        cases hb
        have hl : (enumI ds).length = ds.length := enum_len'
        have hul := h4.length
        refine ⟨fun hj => ?_, fun hj => ⟨us, SqL.of h3, by
          have hj : (enumI ds).length ≤ j := hj
          omega⟩⟩
        have hj : j < (enumI ds).length := hj
        have hj' : j < us.length := by omega
        refine ⟨⟨us, us[j], SqL.of h3, by simp [hj']⟩, fun x H2 y => ?_⟩
        obtain ⟨T, w, rfl, hT, rfl, hw⟩ := y
        have e5 := hw us (SqL.of h3)
        obtain ⟨d, e6, r6⟩ := h4.back e5
        refine ⟨.tup [.int (j : Int), d], by simp [enumI, e6], Gr.new0 hT, S'.lay hT, ?_⟩
        simp only [RV]
        refine ⟨T, _, rfl, .inl upd_same, ?_⟩
        simp only [RVs]
        exact ⟨_, _, rfl, by simp only [RV], _, _, rfl, RV.gr (Gr.new0 hT) _ _ r6, rfl⟩
      · exact k.elim
    · rename_i ds
      obtain ⟨v, rfl, rv⟩ := r1.one'
      simp only [RV] at rv
      obtain ⟨a, us, rfl, h1, h2⟩ := rv
      refine ⟨a, rfl, .inr ⟨⟨us, h1.t⟩, k _ ms H1 Gr.refl S fun j ms' H' st' g S' ok => ?_⟩⟩
      have h3 := g.sqT' h1
      have h4 := RVs.gr g _ _ h2
      have hl : (enumI ds).length = ds.length := enum_len'
      have hul := h4.length
      refine ⟨fun hj => ?_, fun hj => ⟨us, h3, by
        have hj : (enumI ds).length ≤ j := hj
        omega⟩⟩
      have hj : j < (enumI ds).length := hj
      have hj' : j < us.length := by omega
      refine ⟨⟨us, us[j], h3, by simp [hj']⟩, fun x H2 y => ?_⟩
      obtain ⟨T, w, rfl, hT, rfl, hw⟩ := y
      have e5 := hw us h3
      obtain ⟨d, e6, r6⟩ := h4.back e5
      refine ⟨.tup [.int (j : Int), d], by simp [enumI, e6], Gr.new0 hT, S'.lay hT, ?_⟩
      simp only [RV]
      refine ⟨T, _, rfl, .inl upd_same, ?_⟩
      simp only [RVs]
      exact ⟨_, _, rfl, by simp only [RV], _, _, rfl, RV.gr (Gr.new0 hT) _ _ r6, rfl⟩
    · exact k.elim
end
end LF

set_option Elab.async false
set_option linter.all false
set_option maxRecDepth 100000
set_option maxHeartbeats 4000000
/-! walks over texts, a text in a text -/
namespace LF
open PySem PySem.Spec PyProof.Rows L2
section
variable {G : Gx} {W : WX} {X : Cx} {σ : L2.St} {H : Hp}
def chars (x : Str) : List D := x.cps.toList.map fun c => D.str ⟨#[c]⟩
def iSs (a : E) : Sl → M LF.Its := fun env st => (a env st).bind fun d s => match d with
  | .str x => .ok ⟨chars x, none⟩ s
  | _ => .bad
theorem RIt.chars {ms : List Addr} {x : Str} : RIt G ms H ⟨chars x, none⟩ (L2.Its x) := fun i ms' H' st' g S ok => by
  have hl : (LF.chars x).length = x.cps.size := by simp [LF.chars]
  refine ⟨fun hi => ⟨?_, fun v H2 y => ?_⟩, fun hi => ?_⟩
  · show i < x.cps.size
    rw [← hl]
    exact hi
  · obtain ⟨rfl, c, hc, rfl⟩ := y
    refine ⟨.str ⟨#[c]⟩, ?_, Gr.refl, S, by simp only [RV]⟩
    show (LF.chars x)[i]? = _
    unfold LF.chars
    rw [List.getElem?_map, Array.getElem?_toList, hc]
    rfl
  · show x.cps.size ≤ i
    rw [← hl]
    exact hi
theorem i_str {tg e : Expr} {fe : E} (he : PE X e (tE G W fe)) : PI X tg e (tI G W (iSs fe)) := PI_weak (pi_str he) fun σ H R h => tX_mono (tX_bind h) fun v H1 ⟨ms, st, env, d, S, r, r1, k⟩ => by
  cases d with
  | str x =>
    simp only [RV] at r1
    subst r1
    exact ⟨x, rfl, k (L2.Its x) ms H1 Gr.refl S RIt.chars⟩
  | _ => exact k.elim
def inS (x y : Str) : Bool := !(Builtin.Str.occurrences y x 0 y.length 1).isEmpty
def opInS (neg : Bool) : D → D → O D
  | .str x, .str y => fun st => some (.bl (if neg then !inS x y else inS x y), st)
  | _, _ => fun _ => none
theorem o_inS : OpR X (compareOp .In) (rO G (opInS false)) := OpR_imp op_in_str fun v u H Q ⟨ms, st, x, y, S, rx, ry, k⟩ => by
  unfold opInS at k
  split at k
  · simp only [RV] at rx ry
    subst rx ry
    exact ⟨_, _, rfl, rfl, OkO.bl S k⟩
  · exact k.elim
theorem o_notinS : OpR X (compareOp .NotIn) (rO G (opInS true)) := OpR_imp op_notIn_str fun v u H Q ⟨ms, st, x, y, S, rx, ry, k⟩ => by
  unfold opInS at k
  split at k
  · simp only [RV] at rx ry
    subst rx ry
    exact ⟨_, _, rfl, rfl, OkO.bl S k⟩
  · exact k.elim
end
end LF

set_option Elab.async false
set_option linter.all false
set_option maxRecDepth 100000
set_option maxHeartbeats 4000000
/-! three names at once -/
namespace LF
open PySem PySem.Spec PyProof.Rows L2
section
variable {G : Gx} {W : WX} {X : Cx} {σ : L2.St} {H : Hp}
theorem RVs.three' {ms : List Addr} {d e f : D} {vs : List V} (h : RVs G ms H [d, e, f] vs) : ∃ v u w, vs = [v, u, w] ∧ RV G ms H d v ∧ RV G ms H e u ∧ RV G ms H f w := by
  simp only [RVs] at h
  obtain ⟨v, r, rfl, h1, u, r2, rfl, h2, w, r3, rfl, h3, rfl⟩ := h
  exact ⟨v, u, w, rfl, h1, h2, h3⟩
def sPar3 (i j l : Nat) (a b c : E) : Sm := fun env st => (eArgs [a, b, c] env st).out env fun ds s => match ds with
  | [x, y, z] => .nx (((env.set i (some x)).set j (some y)).set l (some z)) s
  | _ => .bad
theorem s_par3 {i j l : Nat} {x y z : Str} {a b c : Expr} {fa fb fc : E} {px py pz pt : Pos} {kt k2 pt2} {pos : Pos} (hc : X.calm = true) (hN : X.N.Nodup) (ha : PA X [a, b, c] (tA G W (eArgs [fa, fb, fc]))) (hi : X.N[i]? = some x := by rfl) (hj : X.N[j]? = some y := by rfl) (hl : X.N[l]? = some z := by rfl)
    (hij : i ≠ j := by decide) (hil : i ≠ l := by decide) (hjl : j ≠ l := by decide)
    (hx : X.env.scope.names.lookup x = some .local := by rfl) (hy : X.env.scope.names.lookup y = some .local := by rfl) (hz : X.env.scope.names.lookup z = some .local := by rfl)
    (hw : swappedStores [.Tuple [.Name x px, .Name y py, .Name z pz] kt pt] (.Tuple [a, b, c] k2 pt2) X.env = pure (some [x, y, z]) := by rfl)
    (hs : swapsWithSole [.Tuple [.Name x px, .Name y py, .Name z pz] kt pt] (.Tuple [a, b, c] k2 pt2) pos.line X.env = pure false := by rfl) :
    PS X (.Assign [.Tuple [.Name x px, .Name y py, .Name z pz] kt pt] (.Tuple [a, b, c] k2 pt2) pos) (tS G W (sPar3 i j l fa fb fc)) :=
  PS_weak (ps_par3 hc hN hi hj hl hij hil hjl hx hy hz ha hw hs) fun K σ H h => tX_mono (tX_out (R := RVs G) (k := fun env ds s => match ds with
  | [x, y, z] => .nx (((env.set i (some x)).set j (some y)).set l (some z)) s
  | _ => .bad) h) fun vs H1 ⟨ms, st, env, ds, S, r, r1, k⟩ => by
    split at k
    · obtain ⟨v, u, w, rfl, rv, ru, rw'⟩ := r1.three'
      exact ⟨v, u, w, rfl, k _ ms H1 Gr.refl S (RE.set rw' l (RE.set ru j (RE.set rv i r)))⟩
    · exact k.elim
end
end LF

set_option Elab.async false
set_option linter.all false
set_option maxRecDepth 100000
set_option maxHeartbeats 4000000
/-! dicts whose keys are nested tuples: d[k], k in d, d[k] = v, len -/
namespace LF
open PySem PySem.Spec PyProof.Rows L2
/-- what a dict holds at a key -/
def dFind : List (D × D) → NestedKey → Option D
  | [], _ => none
  | p :: r, k => if dkey p.1 = some k then some p.2 else dFind r k
/-- a dict behind d[k] = v -/
def dPut (kvs : List (D × D)) (kd : D) (k : NestedKey) (v : D) : List (D × D) :=
  if (dFind kvs k).isSome = true then kvs.map (fun p => if dkey p.1 = some k then (p.1, v) else p) else kvs ++ [(kd, v)]
def isT : D → Bool
  | .tup _ => true
  | _ => false
def tupKeys (kvs : List (D × D)) : Bool := kvs.all fun p => isT p.1
/-- a tuple that is a key -/
def tkey : D → Option NestedKey
  | .tup ds => match dkey (.tup ds) with
    | some k => if k.depth ≤ 8 then some k else none
    | none => none
  | _ => none
theorem tkey_some {d : D} {k : NestedKey} (h : tkey d = some k) : isT d = true ∧ dkey d = some k ∧ k.depth ≤ 8 := by
  unfold tkey at h
  split at h
  · split at h
    · rename_i e
      split at h
      · cases h
        rename_i hd
        exact ⟨rfl, e, hd⟩
      · cases h
    · cases h
  · cases h
section
variable {G : Gx} {W : WX} {X : Cx} {σ : L2.St} {H : Hp}
mutual
theorem nest_is {pins : List (Addr × Obj)} {s : Shared} {ms : List Addr} (hK : X.K = G.K) (I : Inv X pins σ H s) : ∀ (d : D) (v : V) (u : Value) (k : NestedKey), RV G ms H d v → RelV v u → dkey d = some k → NestedIs s.heap k u
  | .non, _, _, _, r, ru, e => by
    simp only [RV] at r
    subst r
    simp only [dkey] at e
    cases e
    obtain rfl := ru
    exact .none
  | .bl b, _, _, _, r, ru, e => by
    simp only [RV] at r
    subst r
    simp only [dkey] at e
    cases e
    obtain rfl := ru
    exact .bool rfl
  | .int i, _, _, _, r, ru, e => by
    simp only [RV] at r
    subst r
    simp only [dkey] at e
    cases e
    obtain ⟨t, rfl⟩ := ru
    exact .int _ _
  | .tup ds, _, _, _, r, ru, e => by
    simp only [RV] at r
    obtain ⟨a, vs, rfl, h1, h2⟩ := r
    simp only [dkey, Option.map_eq_some_iff] at e
    obtain ⟨ks, e1, rfl⟩ := e
    obtain rfl := ru
    obtain ⟨its, rv, ⟨o, ho, hc, n, hd⟩, _⟩ := I.tuple (hK ▸ h1.t)
    exact .tup ho hc hd (by simpa using nest_all hK I ds vs its ks h2 rv e1)
  | .str _, _, _, _, _, _, e => by simp [dkey] at e
  | .ref _, _, _, _, _, _, e => by simp [dkey] at e
  | .glo _, _, _, _, _, _, e => by simp [dkey] at e
  | .ty _, _, _, _, _, _, e => by simp [dkey] at e
  | .scr _, _, _, _, _, _, e => by simp [dkey] at e
  | .xc, _, _, _, _, _, e => by simp [dkey] at e
theorem nest_all {pins : List (Addr × Obj)} {s : Shared} {ms : List Addr} (hK : X.K = G.K) (I : Inv X pins σ H s) : ∀ (ds : List D) (vs : List V) (us : List Value) (ks : List NestedKey), RVs G ms H ds vs → Vals vs us → dkeys ds = some ks → NestedAll s.heap ks us
  | [], _, _, _, r, ru, e => by
    simp only [RVs] at r
    subst r
    cases ru
    simp only [dkeys] at e
    cases e
    exact .nil
  | d :: ds, _, _, _, r, ru, e => by
    simp only [RVs] at r
    obtain ⟨v, vs, rfl, h1, h2⟩ := r
    cases ru with
    | cons ra rb =>
      simp only [dkeys] at e
      split at e
      · rename_i k ks e1 e2
        cases e
        exact .cons (nest_is hK I d v _ k h1 ra e1) (nest_all hK I ds vs _ ks h2 rb e2)
      · cases e
end
mutual
theorem hash_w : ∀ (d : D) (k : NestedKey), dkey d = some k → ∀ w w' : World, k.hash w = k.hash w'
  | .non, _, e, _, _ => by simp only [dkey] at e; cases e; rfl
  | .bl _, _, e, _, _ => by simp only [dkey] at e; cases e; rfl
  | .int _, _, e, _, _ => by simp only [dkey] at e; cases e; rfl
  | .tup ds, _, e, w, w' => by
    simp only [dkey, Option.map_eq_some_iff] at e
    obtain ⟨ks, e1, rfl⟩ := e
    simp only [NestedKey.hash]
    rw [hash_ws ds ks e1 w w']
  | .str _, _, e, _, _ => by simp [dkey] at e
  | .ref _, _, e, _, _ => by simp [dkey] at e
  | .glo _, _, e, _, _ => by simp [dkey] at e
  | .ty _, _, e, _, _ => by simp [dkey] at e
  | .scr _, _, e, _, _ => by simp [dkey] at e
  | .xc, _, e, _, _ => by simp [dkey] at e
theorem hash_ws : ∀ (ds : List D) (ks : List NestedKey), dkeys ds = some ks → ∀ w w' : World, NestedKey.hashes w ks = NestedKey.hashes w' ks
  | [], _, e, _, _ => by simp only [dkeys] at e; cases e; rfl
  | d :: ds, _, e, w, w' => by
    simp only [dkeys] at e
    split at e
    · rename_i k ks e1 e2
      cases e
      simp only [NestedKey.hashes]
      rw [hash_w d k e1 w w', hash_ws ds ks e2 w w']
    · cases e
end
theorem RN.len {ms : List Addr} : ∀ {kvs : List (D × D)} {xs : List (NestedKey × Addr × Value)}, RN G ms H kvs xs → xs.length = kvs.length
  | [], _, h => by rw [show _ = _ from h]; rfl
  | p :: r, _, h => by
    obtain ⟨nk, a, u, v, s, rfl, _, _, _, _, _, h4⟩ := h
    rw [List.length_cons, List.length_cons, RN.len h4]
theorem RN.isk {pins : List (Addr × Obj)} {s : Shared} {ms : List Addr} (hK : X.K = G.K) (I : Inv X pins σ H s) : ∀ {kvs : List (D × D)} {xs : List (NestedKey × Addr × Value)}, RN G ms H kvs xs → ∀ x ∈ xs, (nestedKind X.prog X.w).is s.heap x.1 x.2.1
  | [], _, h, x, m => by rw [show _ = _ from h] at m; cases m
  | p :: r, _, h, x, m => by
    obtain ⟨nk, a, u, v, s, rfl, e1, e2, h1, _, _, h4⟩ := h
    rcases List.mem_cons.mp m with rfl | m
    · exact ⟨nest_is hK I _ _ _ _ h1 rfl e1, e2⟩
    · exact RN.isk hK I h4 x m
theorem RN.ent {ms : List Addr} (P P' : Program) (w w' : World) : ∀ {kvs : List (D × D)} {xs : List (NestedKey × Addr × Value)}, RN G ms H kvs xs → xs.map (entryOfKey (nestedKind P w)) = xs.map (entryOfKey (nestedKind P' w'))
  | [], _, h => by rw [show _ = _ from h]; rfl
  | p :: r, _, h => by
    obtain ⟨nk, a, u, v, s, rfl, e1, _, _, _, _, h4⟩ := h
    rw [List.map_cons, List.map_cons, RN.ent P P' w w' h4]
    have e : entryOfKey (nestedKind P w) (nk, a, u) = entryOfKey (nestedKind P' w') (nk, a, u) := by
      show DictEntry.mk (nk.hash w) _ _ = DictEntry.mk (nk.hash w') _ _
      rw [hash_w _ _ e1 w w']
    rw [e]
theorem RN.find {ms : List Addr} (k : NestedKey) : ∀ {kvs : List (D × D)} {xs : List (NestedKey × Addr × Value)}, RN G ms H kvs xs → match dFind kvs k with
    | some d => ∃ p v, atKey xs k = some p ∧ RelV v p.2 ∧ RV G ms H d v
    | none => atKey xs k = none
  | [], _, h => by rw [show _ = _ from h]; rfl
  | p :: r, _, h => by
    obtain ⟨nk, a, u, v, s, rfl, e1, _, _, h2, h3, h4⟩ := h
    have ih := RN.find k h4
    simp only [dFind]
    by_cases q : nk = k
    · subst q
      rw [if_pos e1]
      exact ⟨(a, u), v, by simp [atKey], h2, h3⟩
    · rw [if_neg (fun z => q (by rw [e1] at z; exact Option.some.inj z))]
      have e : atKey ((nk, a, u) :: s) k = atKey s k := by simp [atKey, List.find?_cons, q]
      rw [e]
      exact ih
theorem RN.mapPut {ms : List Addr} {k : NestedKey} {u : Value} {v : V} {vd : D} (ru : RelV v u) (rv : RV G ms H vd v) : ∀ {kvs : List (D × D)} {xs : List (NestedKey × Addr × Value)}, RN G ms H kvs xs →
    RN G ms H (kvs.map fun p => if dkey p.1 = some k then (p.1, vd) else p) (xs.map (putAt k u))
  | [], _, h => by rw [show _ = _ from h]; exact rfl
  | p :: r, _, h => by
    obtain ⟨nk, a, u0, v0, s, rfl, e1, e2, h1, h2, h3, h4⟩ := h
    have ih := RN.mapPut (k := k) ru rv h4
    rw [List.map_cons, List.map_cons]
    by_cases q : nk = k
    · subst q
      rw [if_pos e1]
      exact ⟨nk, a, u, v, _, by simp [putAt], e1, e2, h1, ru, rv, ih⟩
    · rw [if_neg (fun z => q (by rw [e1] at z; exact Option.some.inj z))]
      exact ⟨nk, a, u0, v0, _, by simp [putAt, q], e1, e2, h1, h2, h3, ih⟩
theorem RN.snoc {ms : List Addr} {k : NestedKey} {a : Addr} {u : Value} {v : V} {kd vd : D} (e1 : dkey kd = some k) (e2 : k.depth ≤ 8) (h1 : RV G ms H kd (.ref a)) (ru : RelV v u) (rv : RV G ms H vd v) : ∀ {kvs : List (D × D)} {xs : List (NestedKey × Addr × Value)}, RN G ms H kvs xs →
    RN G ms H (kvs ++ [(kd, vd)]) (xs ++ [(k, a, u)])
  | [], _, h => by
    rw [show _ = _ from h]
    exact ⟨k, a, u, v, [], rfl, e1, e2, h1, ru, rv, rfl⟩
  | p :: r, _, h => by
    obtain ⟨nk, a0, u0, v0, s, rfl, q1, q2, q3, q4, q5, h4⟩ := h
    exact ⟨nk, a0, u0, v0, _, rfl, q1, q2, q3, q4, q5, RN.snoc e1 e2 h1 ru rv h4⟩
theorem RN.put {ms : List Addr} {k : NestedKey} {a : Addr} {u : Value} {v : V} {kd vd : D} (e1 : dkey kd = some k) (e2 : k.depth ≤ 8) (h1 : RV G ms H kd (.ref a)) (ru : RelV v u) (rv : RV G ms H vd v) {kvs : List (D × D)} {xs : List (NestedKey × Addr × Value)} (h : RN G ms H kvs xs) :
    RN G ms H (dPut kvs kd k vd) (storedH xs k a u) := by
  have e : (dFind kvs k).isSome = (atKey xs k).isSome := by
    have q := h.find k
    cases z : dFind kvs k with
    | none => rw [z] at q; rw [show atKey xs k = none from q]; rfl
    | some d => rw [z] at q; obtain ⟨p, v, q, _⟩ := q; rw [q]; rfl
  unfold dPut storedH
  rw [e]
  split
  · exact h.mapPut ru rv
  · exact h.snoc e1 e2 h1 ru rv
theorem dPut_ne {kvs : List (D × D)} {kd vd : D} {k : NestedKey} : dPut kvs kd k vd ≠ [] := by
  unfold dPut
  split
  · rename_i h
    intro z
    rw [List.map_eq_nil_iff] at z
    subst z
    simp [dFind] at h
  · simp
theorem length_dPut {kvs : List (D × D)} {kd vd : D} {k : NestedKey} : (dPut kvs kd k vd).length ≤ kvs.length + 1 := by
  unfold dPut
  split
  · rw [List.length_map]; omega
  · simp
/-- a dict at hand -/
theorem dct_n {pins : List (Addr × Obj)} {s : Shared} {ms : List Addr} {a : Addr} {kvs : List (D × D)} (hK : X.K = G.K) (I : Inv X pins σ H s) (c : CellOk G ms H a (.dct kvs)) (ht : tupKeys kvs = true) :
    ∃ xs, RN G ms H kvs xs ∧ s.heap.DictOfH (nestedKind X.prog X.w) a xs ∧ (a == sysModules) = false ∧ xs.length ≤ sizeLine ∧ Mut (H a) := by
  rcases c with ⟨l, e, r⟩ | ⟨h0, xs, e, r⟩
  · cases kvs with
    | nil =>
      rw [show l = [] from r] at e
      obtain ⟨_, hd, vs, rel, o, es, ep, h1, h2, h3, _, h5, _⟩ := dk_of I.hok e
      cases rel
      refine ⟨[], rfl, ⟨o, es, ep, h1, h2, h3, ?_, (fun _ m => nomatch m), List.nodup_nil⟩, hd, Nat.zero_le _, by rw [e]; exact True.intro⟩
      revert h5
      cases es.toList with
      | nil => intro _; rfl
      | cons x y => intro h5; exact nomatch h5
    | cons p t =>
      obtain ⟨i, v, s, _, e1, _⟩ := r
      simp only [tupKeys, List.all_cons, Bool.and_eq_true] at ht
      rw [e1] at ht
      exact nomatch ht.1
  · obtain ⟨⟨⟨hd, hz, hn⟩, o, es, ep, h1, h2, h3, h4⟩, _⟩ := (show ObjOk X.prog X.w H s.heap a (DctO a xs) from I.hok a _ e)
    exact ⟨xs, r, ⟨o, es, ep, h1, h2, h3, h4 _ _, r.isk hK I, hn⟩, hd, hz, by rw [e]; exact True.intro⟩
theorem dctO_ok {P : Program} {w : World} {H' : Hp} {h' : Heap} {ms' : List Addr} {a : Addr} {kvs : List (D × D)} {xs : List (NestedKey × Addr × Value)} (r : RN G ms' H kvs xs) (hd : (a == sysModules) = false) (hz : xs.length ≤ sizeLine) (dd : h'.DictOfH (nestedKind P w) a xs) : ObjOk P w H' h' a (DctO a xs) := by
  obtain ⟨o, es, ep, h1, h2, h3, h4, _, h5⟩ := dd
  exact ⟨⟨⟨hd, hz, h5⟩, o, es, ep, h1, h2, h3, fun P' w' => h4.trans (r.ent P P' w w')⟩, ⟨o, h1⟩, fun _ _ ⟨f, o, es, ep, q, t⟩ k => ⟨f, o, es, ep, k o q, t⟩⟩
/-! ### the operations -/
def opDGet : D → D → O D
  | .ref r, y => fun st => match st[r]?, tkey y with
    | some (.dct kvs), some k => if tupKeys kvs = true then (match dFind kvs k with
        | some d => some (d, st)
        | none => none) else none
    | _, _ => none
  | _, _ => fun _ => none
def opDIn (neg : Bool) : D → D → O D
  | y, .ref r => fun st => match st[r]?, tkey y with
    | some (.dct kvs), some k => if tupKeys kvs = true then some (.bl (if neg then !(dFind kvs k).isSome else (dFind kvs k).isSome), st) else none
    | _, _ => none
  | _, _ => fun _ => none
def opDSet (o i d : D) : O Unit := fun st => match o with
  | .ref r => match st[r]?, tkey i with
    | some (.dct kvs), some k => if tupKeys kvs = true ∧ kvs.length < sizeLine then some ((), st.set r (.dct (dPut kvs i k d))) else none
    | _, _ => none
  | _ => none
def opDLen : List D → O D
  | [.ref r] => fun st => match st[r]? with
    | some (.dct kvs) => if tupKeys kvs = true then some (.int (kvs.length : Nat), st) else none
    | _ => none
  | _ => fun _ => none
theorem SRel.dct {ms : List Addr} {st : Sto} (S : SRel G ms st H) {i : Nat} {kvs : List (D × D)} {v : V} (h : st[i]? = some (.dct kvs)) (r : RV G ms H (.ref i) v) : ∃ a, v = .ref a ∧ ms[i]? = some a ∧ CellOk G ms H a (.dct kvs) := by
  simp only [RV] at r
  obtain ⟨a, rfl, ha⟩ := r
  obtain ⟨d, h1, h2⟩ := S.has ha
  rw [h] at h1
  cases h1
  exact ⟨a, rfl, ha, h2⟩
theorem tkey_ref {ms : List Addr} {d : D} {v : V} {k : NestedKey} (h : tkey d = some k) (r : RV G ms H d v) : ∃ b, v = .ref b := by
  have e := (tkey_some h).1
  cases d with
  | tup ds =>
    simp only [RV] at r
    obtain ⟨a, _, rfl, _⟩ := r
    exact ⟨a, rfl⟩
  | _ => cases e
theorem room_n {A : Around} (hu : A.units + 64 < cLine) {P : Program} {w : World} : (nestedKind P w).room A.in1 := by
  show A.in1.units + 8 < cLine
  simp only [Around.in1_units]
  omega
theorem ix_dct (hK : X.K = G.K) (hu : X.A.units + 64 < cLine) : IxR X (rO G opDGet) := by
  intro value slice pins s σ H x y v u Q I rx ry ⟨ms, st, x', y', S, rx', ry', k⟩ hs
  unfold opDGet at k
  split at k
  · rename_i r
    split at k
    · rename_i kvs nk e1 e2
      split at k
      · rename_i ht
        split at k
        · rename_i d e3
          obtain ⟨a, rfl, ha, c⟩ := S.dct e1 rx'
          obtain ⟨b, rfl⟩ := tkey_ref e2 ry'
          obtain rfl : v = .ref a := rx
          obtain rfl : u = .ref b := ry
          obtain ⟨xs, rn, dd, hd, hz, _⟩ := dct_n hK I c ht
          have q := rn.find nk
          rw [e3] at q
          obtain ⟨p, v', q1, q2, q3⟩ := q
          have hkey : (nestedKind X.prog X.w).is s.heap nk b := ⟨nest_is hK I _ _ _ _ ry' rfl (tkey_some e2).2.1, (tkey_some e2).2.2⟩
          have hT : s.TypeIs (.ref a) "dict" := dd.typeIs
          unfold subscriptTail
          refine wpAny_bind ?_
          rw [getitemInPython_of_ne hT.not_modules]
          refine wpAny_bind (wpAny_specialOf hT PySem.F.slot_dict_getitem.lookup ?_)
          have fin : wpAny (model X.prog X.w) X.A (subscripted slice false (.ref a) (.ref b)) (fun r s₃ => wpAny (model X.prog X.w) X.A (letTemporaryGo value (.ref a) r >>= fun _ => pure r) (EP X pins σ Q) X.xe s₃) X.xe s := by
            rw [hs]
            refine wpAny_operating (wpAny_getItem_heap (room_n hu) hkey dd q1 ?_)
            refine wpAny_bind (wpAny_letTemporaryGo (wpAny_pure ?_))
            exact ⟨v', H, I.tok _, q2, OkO.val S q3 k⟩
          first
            | exact wpAny_pure (wpAny_bind fin)
            | exact wpAny_bind (wpAny_pure (wpAny_bind fin))
            | exact wpAny_bind fin
        · exact k.elim
      · exact k.elim
    · exact k.elim
  · exact k.elim
theorem o_din (hK : X.K = G.K) (hu : X.A.units + 64 < cLine) : OpR X (compareOp .In) (rO G (opDIn false)) := by
  intro pins s σ H x y v u Q I rx ry ⟨ms, st, x', y', S, rx', ry', k⟩
  unfold opDIn at k
  split at k
  · rename_i r
    split at k
    · rename_i kvs nk e1 e2
      split at k
      · rename_i ht
        obtain ⟨a, rfl, ha, c⟩ := S.dct e1 ry'
        obtain ⟨b, rfl⟩ := tkey_ref e2 rx'
        obtain rfl : u = .ref a := ry
        obtain rfl : v = .ref b := rx
        obtain ⟨xs, rn, dd, hd, hz, _⟩ := dct_n hK I c ht
        have hkey : (nestedKind X.prog X.w).is s.heap nk b := ⟨nest_is hK I _ _ _ _ rx' rfl (tkey_some e2).2.1, (tkey_some e2).2.2⟩
        refine wpAny_in_heap (room_n hu) hkey hd dd ?_
        have q := rn.find nk
        have e : (atKey xs nk).isSome = (dFind kvs nk).isSome := by
          cases z : dFind kvs nk with
          | none => rw [z] at q; rw [show atKey xs nk = none from q]; rfl
          | some d => rw [z] at q; obtain ⟨p, v, q, _⟩ := q; rw [q]; rfl
        rw [e]
        exact ⟨.bl _, H, I.tok _, rfl, OkO.bl S k⟩
      · exact k.elim
    · exact k.elim
  · exact k.elim
theorem o_dnotin (hK : X.K = G.K) (hu : X.A.units + 64 < cLine) : OpR X (compareOp .NotIn) (rO G (opDIn true)) := by
  intro pins s σ H x y v u Q I rx ry ⟨ms, st, x', y', S, rx', ry', k⟩
  unfold opDIn at k
  split at k
  · rename_i r
    split at k
    · rename_i kvs nk e1 e2
      split at k
      · rename_i ht
        obtain ⟨a, rfl, ha, c⟩ := S.dct e1 ry'
        obtain ⟨b, rfl⟩ := tkey_ref e2 rx'
        obtain rfl : u = .ref a := ry
        obtain rfl : v = .ref b := rx
        obtain ⟨xs, rn, dd, hd, hz, _⟩ := dct_n hK I c ht
        have hkey : (nestedKind X.prog X.w).is s.heap nk b := ⟨nest_is hK I _ _ _ _ rx' rfl (tkey_some e2).2.1, (tkey_some e2).2.2⟩
        refine wpAny_notIn_heap (room_n hu) hkey hd dd ?_
        have q := rn.find nk
        have e : (atKey xs nk).isSome = (dFind kvs nk).isSome := by
          cases z : dFind kvs nk with
          | none => rw [z] at q; rw [show atKey xs nk = none from q]; rfl
          | some d => rw [z] at q; obtain ⟨p, v, q, _⟩ := q; rw [q]; rfl
        rw [e]
        exact ⟨.bl _, H, I.tok _, rfl, OkO.bl S k⟩
      · exact k.elim
    · exact k.elim
  · exact k.elim
theorem c_dlen (hK : X.K = G.K) : CallR X (.builtin "len") (rN G opDLen) := by
  intro pins s σ H xs us Q I r ⟨ms, st, ds, S, rs, k⟩
  unfold opDLen at k
  split at k
  · rename_i r0
    split at k
    · rename_i kvs e1
      split at k
      · rename_i ht
        obtain ⟨v, rfl, rv⟩ := rs.one'
        obtain ⟨u, rfl, ru⟩ := vals1 r
        obtain ⟨a, rfl, ha, c⟩ := S.dct e1 rv
        obtain rfl : u = .ref a := ru
        obtain ⟨xs, rn, dd, hd, hz, _⟩ := dct_n hK I c ht
        refine call_len_dictH hd dd (by rw [sizeLine_eq] at hz; omega) ?_
        rw [rn.len]
        exact ⟨.int _, H, I.tok _, ⟨_, rfl⟩, OkO.int S k⟩
      · exact k.elim
    · exact k.elim
  · exact k.elim
/-- the heap's side of d[k] = v -/
theorem dct_put {pins : List (Addr × Obj)} {s : Shared} {ms : List Addr} {st : Sto} {r : Nat} {a b : Addr} {kvs : List (D × D)} {y d : D} {nk : NestedKey} {v : V} {w : Value} {E : Value → Shared → Prop} {Q : Unit → Shared → Prop} {A : Around} (hK : X.K = G.K) (I : Inv X pins σ H s) (S : SRel G ms st H)
    (ha : ms[r]? = some a) (c : CellOk G ms H a (.dct kvs)) (ht : tupKeys kvs = true) (hl : kvs.length < sizeLine) (e2 : tkey y = some nk) (ry : RV G ms H y (.ref b)) (rd : RV G ms H d v) (rw' : RelV v w) {g : Sem Unit}
    (hg : ∀ xs (Q : Unit → Shared → Prop), (nestedKind X.prog X.w).is s.heap nk b → s.heap.DictOfH (nestedKind X.prog X.w) a xs → xs.length ≤ sizeLine →
      (∀ h', h'.DictOfH (nestedKind X.prog X.w) a (storedH xs nk b w) → Heap.SameBut a s.heap h' → Q () { s with heap := h', toks := s.toks + (nestedKind X.prog X.w).draws nk }) → wpAny (model X.prog X.w) A g Q E s)
    (h : ∀ H' s', Inv X pins σ H' s' → Gr ms H ms H' → SRel G ms (st.set r (.dct (dPut kvs y nk d))) H' → Q () s') : wpAny (model X.prog X.w) A g Q E s := by
  obtain ⟨xs, rn, dd, hd, hz, mu⟩ := dct_n hK I c ht
  have hkey : (nestedKind X.prog X.w).is s.heap nk b := ⟨nest_is hK I _ _ _ _ ry rfl (tkey_some e2).2.1, (tkey_some e2).2.2⟩
  have rn' := RN.put (tkey_some e2).2.1 (tkey_some e2).2.2 ry rw' rd rn
  refine hg xs _ hkey dd hz fun h' dd' hs => ?_
  have hz' : (storedH xs nk b w).length ≤ sizeLine := by
    rw [rn'.len]
    have := length_dPut (kvs := kvs) (kd := y) (vd := d) (k := nk)
    omega
  have g : Gr ms H ms (upd H a (DctO a (storedH xs nk b w))) := Gr.cell c
  have he : ∃ q, h'.get? a = some q := let ⟨q, _, _, hq, _⟩ := dd'; ⟨q, hq⟩
  exact h _ _ (d_write I mu hs he (dctO_ok rn' hd hz' dd')) g (S.put ha (.inr ⟨dPut_ne, _, upd_same, rn'.gr g⟩))
def rSet (G : Gx) (op : D → D → D → O Unit) : TSet := fun o i v H Q => ∃ ms st x y d, SRel G ms st H ∧ RV G ms H x o ∧ RV G ms H y i ∧ RV G ms H d v ∧ ∃ st', op x y d st = some ((), st') ∧ ∀ H', Gr ms H ms H' → SRel G ms st' H' → Q H'
theorem set_dct (hK : X.K = G.K) (hu : X.A.units + 64 < cLine) : PSet X (rSet G opDSet) := by
  intro pins s σ H o i v ov iv u Q I ro ri rv ⟨ms, st, x, y, d, S, rx, ry, rd, st', e0, k⟩
  unfold opDSet at e0
  split at e0
  · rename_i r
    split at e0
    · rename_i kvs nk e1 e2
      split at e0
      · rename_i hc
        cases e0
        obtain ⟨a, rfl, ha, c⟩ := S.dct e1 rx
        obtain ⟨b, rfl⟩ := tkey_ref e2 ry
        obtain rfl : ov = .ref a := ro
        obtain rfl : iv = .ref b := ri
        exact dct_put hK I S ha c hc.1 hc.2 e2 ry rd rv (fun xs Q hkey dd hz hQ => wpAny_setItem_heap (hsz := hz) (room_n hu) hkey dd hQ) fun H' s' I' g S' => ⟨H', I', k H' g S'⟩
      · cases e0
    · cases e0
  · cases e0
def sSetG (op : D → D → D → O Unit) (o i e : E) : Sm := fun env st => (e env st).out env fun d s => (o env s).out env fun x s => (i env s).out env fun y s => match op x y d s with
  | some (_, s) => .nx env s
  | none => .bad
theorem s_setG {op : D → D → D → O Unit} {pos : Pos} (hop : PSet X (rSet G op)) {o i e : Expr} {fo fi fe : E} {p2 : Pos} (he : PE X e (tE G W fe)) (ho : PE X o (tE G W fo)) (hi : PE X i (tE G W fi))
    (ha : ∀ v, assign (.Subscript o i p2) X.env v = (do
      let ov ← holding [v] (eval o X.env)
      let iv ← holding [v, ov] (eval i X.env)
      standAt p2
      holding [v, ov, iv] (setItem ov iv v)
      release [v, ov, iv] []) := by intro _; rfl) (hs : swapsWithSole [.Subscript o i p2] e pos.line X.env = pure false := by rfl) (hw : swappedStores [.Subscript o i p2] e X.env = pure none := by rfl)
    (h1 : (assignEach [.Subscript o i p2] X.env).map (·.2) = [assign (.Subscript o i p2) X.env] := by rfl) : PS X (.Assign [.Subscript o i p2] e pos) (tS G W (sSetG op fo fi fe)) :=
  PS_weak (ps_asg he (pg_sub ho hi hop ha) hs hw h1) fun K σ H h => by
    refine tX_mono (tX_out (k := fun env d s => (fo env s).out env fun x s => (fi env s).out env fun y s => match op x y d s with
      | some (_, s) => .nx env s
      | none => .bad) h) fun v H1 ⟨ms, st, env, d, S, r, r1, k⟩ => ?_
    have q : tE G W fo σ H1 fun x H2 => ∃ ms st env d x', SRel G ms st H2 ∧ RE G ms H2 env σ ∧ RV G ms H2 d v ∧ RV G ms H2 x' x ∧ OutOk G W K ms H2 ((fi env st).out env fun y s => match op x' y d s with
        | some (_, s) => .nx env s
        | none => .bad) := by
      refine ⟨ms, st, env, S, r, ?_⟩
      cases e1 : fo env st with
      | ok x s =>
        rw [e1] at k
        exact fun b m1 H2 g1 S1 r2 => ⟨m1, s, env, d, x, S1, r.gr g1, RV.gr g1 _ _ r1, r2, OutOk.gr g1 k⟩
      | exn c fs s =>
        rw [e1] at k
        exact fun od m1 H2 g1 S1 x1 => k od σ m1 H2 g1 S1 (r.gr g1) x1
      | bad =>
        rw [e1] at k
        exact k
    refine tX_mono q fun x H2 ⟨ms, st, env, d, x', S, r, r1, r2, k⟩ => ?_
    have q : tE G W fi σ H2 fun y H3 => ∃ ms st env d x' y', SRel G ms st H3 ∧ RE G ms H3 env σ ∧ RV G ms H3 d v ∧ RV G ms H3 x' x ∧ RV G ms H3 y' y ∧ OutOk G W K ms H3 (match op x' y' d st with
        | some (_, s) => .nx env s
        | none => .bad) := by
      refine ⟨ms, st, env, S, r, ?_⟩
      cases e1 : fi env st with
      | ok y s =>
        rw [e1] at k
        exact fun b m1 H3 g1 S1 r3 => ⟨m1, s, env, d, x', y, S1, r.gr g1, RV.gr g1 _ _ r1, RV.gr g1 _ _ r2, r3, OutOk.gr g1 k⟩
      | exn c fs s =>
        rw [e1] at k
        exact fun od m1 H2 g1 S1 x1 => k od σ m1 H2 g1 S1 (r.gr g1) x1
      | bad =>
        rw [e1] at k
        exact k
    refine tX_mono q fun y H3 ⟨ms, st, env, d, x', y', S, r, r1, r2, r3, k⟩ => ?_
    split at k
    · rename_i s e
      exact ⟨ms, st, x', y', d, S, r2, r3, r1, s, e, fun H' g S' => k σ ms H' g S' (r.gr g)⟩
    · exact k.elim
end
end LF

set_option Elab.async false
set_option linter.all false
set_option maxRecDepth 100000
set_option maxHeartbeats 4000000
/-! promises where no repr is under way; texts of data; sorted(.., key=str) -/
namespace LF
open PySem PySem.Spec PyProof.Rows L2
/-- a def's promise where it is known that no repr is under way -/
structure FnG (P : Program) (w : World) (K : PySem.W.Frag) (mg : Str → Option Value) (base : Heap) (k : Nat) (f : Addr) (fd : FuncData) (ps : List Str) (sp : Sp) : Prop where
  len : ∀ vs H Q E, sp vs H Q E → vs.length = ps.length
  run : ∀ (A : Around) (outer : List Env) (s : Shared) (H : Hp) (args : Args) (us : List Value) (vs : List V) (Q : VK) (E : XK), A.guards = some [] → Room k A → Env0 P w K mg base A outer s H → BindsTo s fd args (ps.zip us) → Vals vs us → sp vs H Q E →
    codeAny (model P w) A (.call (.ref f) args) (CR (L2.CX P w) outer P w H s Q E) s
theorem FnG.mono {P : Program} {w : World} {K : PySem.W.Frag} {mg : Str → Option Value} {base : Heap} {j k : Nat} {f : Addr} {fd : FuncData} {ps : List Str} {sp : Sp} (F : FnG P w K mg base j f fd ps sp) (h : j ≤ k) : FnG P w K mg base k f fd ps sp :=
  ⟨F.len, fun A outer s H args us vs Q E hG hr => F.run A outer s H args us vs Q E hG (hr.mono h)⟩
theorem FnG.imp {P : Program} {w : World} {K : PySem.W.Frag} {mg : Str → Option Value} {base : Heap} {k : Nat} {f : Addr} {fd : FuncData} {ps : List Str} {sp sp' : Sp} (F : FnG P w K mg base k f fd ps sp) (h : ∀ vs H Q E, sp' vs H Q E → sp vs H Q E) : FnG P w K mg base k f fd ps sp' :=
  ⟨fun vs H Q E q => F.len vs H Q E (h _ _ _ _ q), fun A outer s H args us vs Q E hG hr e0 hb r hs => F.run A outer s H args us vs Q E hG hr e0 hb r (h _ _ _ _ hs)⟩
section
variable {G : Gx} {W : WX} {X : Cx} {σ : L2.St} {H : Hp}
/-- the callee runs -/
theorem run_fnG {k : Nat} {f : Addr} {fd : FuncData} {ps : List Str} {sp : Sp} {E : L2.St → XK} {pins : List (Addr × Obj)} {s : Shared} {Q : VK} {us : List Value} {vs : List V} (F : FnG X.prog X.w X.K X.mg X.base k f fd ps sp) (hG : X.A.guards = some []) (hr : Room k X.A) (hb : Binds X.K fd ps [])
    (hx : PassesAt (L2.CX X.prog X.w) X σ (E σ)) (I : Inv X pins σ H s) (r : Vals vs us) (h : sp vs H Q (E σ)) : wpAny (model X.prog X.w) X.A (call (.ref f) us) (EP X pins σ Q) X.xe s := by
  have hl : us.length = ps.length := by rw [← r.length]; exact F.len _ _ _ _ h
  have b := hb s us I.kIn (by simpa using hl)
  rw [List.append_nil] at b
  have go := F.run X.A X.stack s H ⟨us, []⟩ us vs Q (E σ) hG hr I.env0 b r h
  refine wpAny_call (codeAny_mono go fun r s' hq => ?_)
  cases r with
  | error e => exact hx pins H s e s' I hq
  | ok fl => cases fl <;> first | exact I.after hq | exact False.elim hq
theorem e_callG {k j : Nat} {f : Addr} {fd : FuncData} {ps : List Str} {x : Str} {p pos : Pos} {e : Expr} {es : List Expr} {g : F} {fs : List E} (T : FnG X.prog X.w X.K X.mg X.base j f fd ps (spF G g)) (hG : X.A.guards = some []) (hr : Room k X.A) (hm : X.mg x = some (.ref f)) (hk : PySem.W.keepIn X.K (.ref f) = true)
    (hb : Binds X.K fd ps []) (tk : Takes X W) (ha : PA X (e :: es) (tA G W (eArgs fs))) (hj : j ≤ k := by decide) (hg : Gl X x := by rfl) (hdb : (x == ("__debug__" : Str)) = false := by decide)
    (he : starEach (e :: es) X.env = (false, eval e X.env) :: starEach es X.env := by rfl) (hpl : (backTo pos (starEach es X.env)).any (·.1) = false := by rfl) :
    PE X (.Call (.Name x p) (e :: es) [] pos) (tE G W (eCall g fs)) := ⟨fun pins s σ H Q I h => by
  refine wpAny_Call_Name_kw (ld_glob I hg hm ?_ hdb)
  refine PySem.W.callWith_K (h₀ := X.base) I.ok.mod.kin hk (thn (ha.run pos pins s σ H _ I (call_tCall h)) fun us s1 ⟨vs, H1, I1, r, q⟩ => ⟨I1.kIn, ?_⟩) he hpl
  exact run_fnG (E := WE W) T hG (hr.mono hj) hb (passAt tk σ) I1 r q⟩
/-- a body's run is a def's promise -/
theorem fn_okG {P : Program} {w : World} {mg : Str → Option Value} {base : Heap} {x qual : Str} {st : Stmt} {f : Addr} {oc kV doc pm cdv ct : Value} {od an : Option Addr} {osl : Array (Option Value)} {N ps : List Str} {k : Nat} {body : Sm}
    (lk : G.K.lookup f = some ⟨oc, od, .func (PySem.W.fnOf x qual (defArgs st) (defBody st) (defScope st) .none kV doc pm an cdv ct), osl⟩) (hcd : PySem.W.codeIn G.K cdv qual = true) (S : FnScope N ps (defScope st))
    (hb : ∀ (A : Around) (outer : List Env) (s : Shared) (H : Hp) (E : XK), A.guards = some [] → Room k (A.deeper (envOfC qual (defScope st) s.heap.objs.size f cdv)) →
      PSs (cxOf (L2.CX P w) P w G.K mg base N qual (defScope st) f cdv A outer s H E) (defBody st) (tS G (fun cls d _ H => E cls d H) body)) :
    FnG P w G.K mg base (k + 1) f (PySem.W.fnOf x qual (defArgs st) (defBody st) (defScope st) .none kV doc pm an cdv ct) ps (spF G (fnS ps.length N.length body)) := by
  have hlen : ∀ vs H Q E, spF G (fnS ps.length N.length body) vs H Q E → vs.length = ps.length := by
    rintro vs H Q E ⟨ms, st, ds, S1, r, q⟩
    unfold fnS at q
    split at q
    · rename_i hl
      rw [r.length, hl]
    · exact q.elim
  refine ⟨hlen, fun A outer s H args us vs Q E hG hr e0 bd r hsp => ?_⟩
  have hl := hlen _ _ _ _ hsp
  have kp : ∀ b o, base.get? b = some o → s.heap.get? b = some o := fun b o e => (e0.bs b o e).1
  have KX : G.K.In s.heap := e0.mod.kin.keeps kp
  have hkind : ∀ y ∈ ps.zip us, (defScope st).names.lookup y.1 = some .local ∨ ((defScope st).names.lookup y.1 = some .cell ∧ ((cellsFrom (s.heap.objs.size + 1) (defScope st).names []).lookup y.1).isSome = true) := fun y hy =>
    (S.par y.1 (List.of_mem_zip hy).1).imp id fun q => ⟨q, PySem.W.cellsFrom_some _ _ _ (.inl q)⟩
  refine codeAny_call_function hr.depth (KX _ _ lk) rfl S.co S.gen rfl (PySem.W.codeRec_of KX hcd) (bd _ _ _ _ (wpAny_newFunctionEnv_cells S.kind hkind fun env he s1 x => ?_))
  subst he
  refine ⟨(e0.mod.nolimit.keeps kp).keeps x.toInCall.keep, codeAny_func ?_⟩
  have I : Inv (cxOf (L2.CX P w) P w G.K mg base N qual (defScope st) f cdv A outer s H E) [] (start N vs) H s1 := inv_start S hr.hd e0 hl r x
  -- the reading of the body holds at the start
  have go : tS G (fun cls d _ H => E cls d H) body { nx := fun _ H' => Q .non H', rt := Q } (start N vs) H := by
    obtain ⟨ms, st1, ds, S1, r1, q⟩ := hsp
    have hl2 : ds.length = ps.length := by rw [← r1.length]; exact hl
    unfold fnS at q
    rw [if_pos hl2] at q
    refine ⟨ms, st1, ds.map some ++ List.replicate (N.length - ps.length) none, S1, ?_, ?_⟩
    · unfold L2.start
      rw [hl]
      exact RE.start _ r1
    · cases e : body (ds.map some ++ List.replicate (N.length - ps.length) none) st1 with
      | nx e1 s1 =>
        rw [e] at q
        exact fun σ' m1 H1 g1 S1 _ => q .non m1 H1 g1 S1 (by simp only [RV])
      | rt d s1 => rw [e] at q; exact q
      | exn c fs e1 s1 =>
        rw [e] at q
        exact fun od σ' m1 H1 g1 S1 _ x1 => q od m1 H1 g1 S1 x1
      | bk e1 s1 => rw [e] at q; exact q.elim
      | ct e1 s1 => rw [e] at q; exact q.elim
      | bad => rw [e] at q; exact q.elim
  refine wpAny_mono ((hb A outer s H E hG (hr.deeper _)).run [] s1 (start N vs) H _ I go) (fun fl s' hs => ?_) fun e s' hs => hs
  cases fl with
  | ret u => obtain ⟨v, σ', H', J, rv, q⟩ := hs; exact ⟨v, H', J.os, J.bare, J.base, J.hok, rv, q⟩
  | next => obtain ⟨σ', H', J, q⟩ := hs; exact ⟨V.non, H', J.os, J.bare, J.base, J.hok, rfl, q⟩
  | brk => obtain ⟨_, _, _, q⟩ := hs; exact False.elim q
  | cont => obtain ⟨_, _, _, q⟩ := hs; exact False.elim q
end
end LF

set_option Elab.async false
set_option linter.all false
set_option maxRecDepth 100000
set_option maxHeartbeats 4000000
/-! the end of a law whose promise asks that no repr is under way -/
namespace LF
open PySem PySem.Spec PyProof.Rows L2
/-- what is tracked at the law's start: the tables T, and the script's list where the written part does not hold it -/
def H0 (K : PySem.W.Frag) (a : Addr) (lo : Obj) (xs : List V) (T : List Addr) : Hp := fun b =>
  if b ∈ T then some (.tbl #[]) else if b = a ∧ (K.lookup a).isNone = true then some (.frz lo (.lst xs)) else none
theorem H0_tab {K : PySem.W.Frag} {a : Addr} {lo : Obj} {xs : List V} {T : List Addr} {b : Addr} (h : b ∈ T) : H0 K a lo xs T b = some (.tbl #[]) := if_pos h
theorem H0_scr {K : PySem.W.Frag} {a : Addr} {lo : Obj} {xs : List V} {T : List Addr} (h : a ∉ T) (k : K.lookup a = none) : H0 K a lo xs T a = some (.frz lo (.lst xs)) := by
  unfold H0
  rw [if_neg h, if_pos ⟨rfl, by rw [k]; rfl⟩]
theorem H0_none {K : PySem.W.Frag} {a : Addr} {lo : Obj} {xs : List V} {T : List Addr} {b : Addr} (h : b ∉ T) (k : b = a → K.lookup a ≠ none) : H0 K a lo xs T b = none := by
  unfold H0
  rw [if_neg h, if_neg (fun z => k z.1 (Option.isNone_iff_eq_none.mp z.2))]
theorem H0_cases {K : PySem.W.Frag} {a : Addr} {lo : Obj} {xs : List V} {T : List Addr} {b : Addr} {u : HO} (h : H0 K a lo xs T b = some u) : (b ∈ T ∧ u = .tbl #[]) ∨ (b ∉ T ∧ b = a ∧ K.lookup a = none ∧ u = .frz lo (.lst xs)) := by
  unfold H0 at h
  split at h
  · rename_i hb
    exact .inl ⟨hb, (Option.some.inj h).symm⟩
  · rename_i hb
    split at h
    · rename_i hc
      exact .inr ⟨hb, hc.1, Option.isNone_iff_eq_none.mp hc.2, (Option.some.inj h).symm⟩
    · cases h
theorem law_callG {P : Program} {w : World} {K : PySem.W.Frag} {mg mb : Str → Option Value} {k : Nat} {fa a : Addr} {cs : List (Addr × Addr)} {fd : FuncData} {x : Str} {sp : Sp} {s₁ : Shared} {vs : List Value} {ns : List Int}
    (KX : K.In s₁.heap) (hns : s₁.heap.Ns mainGlobals mg) (hb : s₁.heap.Ns builtinsNs mb) (hbb : ∀ x : Str, x ≠ "__name__" → mb x = bootBuiltins x) (hlim : s₁.heap.NoLimit) (hg : s₁.gens = #[])
    (hT : ∀ p ∈ cs, s₁.heap.get? p.2 = some { cls := .none, data := .fields #[] }) (nT : ∀ p ∈ cs, K.lookup p.2 = none) (C : ∀ p ∈ cs, PySem.W.CodeHd s₁.heap p.1 p.2)
    (hbm : ∃ (bm : Addr) (ob : Obj), mg "__builtins__" = some (.ref bm) ∧ bm ≠ builtinsNs ∧ s₁.heap.get? bm = some ob ∧ ob.cls = .type "module" ∧ ob.dict = some builtinsNs ∧ ob.data = .plain)
    (ha : s₁.heap.get? a = some { cls := .type "list", data := .seq vs.toArray }) (hi : IntsAre vs ns) (hl : ns.length ≤ sizeLine) (hr : Room k callerA)
    (F : ∀ base : Heap, K.In base → base.Ns mainGlobals mg → (∀ p ∈ cs, LamX.TabB base mg p.1 p.2) → FnG P w K mg base k fa fd [x] sp) (hbind : ∀ (s : Shared) (u : Value), BindsTo s fd ⟨[u], []⟩ [(x, u)])
    (hsp : ∀ H : Hp, (∀ p ∈ cs, H p.2 = some (.tbl #[])) → SqL K H a (ns.map V.int) → sp [.ref a] H (fun v _ => v = .bl true) fun _ _ _ => False) :
    codeAny (model P w) callerA (.call (.ref fa) ⟨[.ref a], []⟩) (fun r s' => r = .ok (.ret (.bool true)) ∧ OldK s₁.heap s'.heap ∧ s'.os = s₁.os ∧ AllBare s'.gens) s₁ := by
  have rv := vals_ints hi
  have lenV := hi.length
  -- the tables
  have tabAt : ∀ b ∈ cs.map (·.2), s₁.heap.get? b = some { cls := .none, data := .fields #[] } := fun b hb => by
    obtain ⟨p, hp, rfl⟩ := List.mem_map.mp hb
    exact hT p hp
  have tabK : ∀ b ∈ cs.map (·.2), K.lookup b = none := fun b hb => by
    obtain ⟨p, hp, rfl⟩ := List.mem_map.mp hb
    exact nT p hp
  have aT : a ∉ cs.map (·.2) := fun z => by
    have q := tabAt a z
    rw [ha] at q
    exact Data.noConfusion (congrArg Obj.data (Option.some.inj q))
  generalize eH : H0 K a { cls := .type "list", data := .seq vs.toArray } (ns.map V.int) (cs.map (·.2)) = H
  -- what is not tracked
  have free : ∀ {b : Addr} {o : Obj}, s₁.heap.get? b = some o → (∀ xs n, o.data ≠ .seq xs n) → o.data ≠ .fields #[] → H b = none := fun {b o} e h1 h2 => by
    subst eH
    refine H0_none (fun z => ?_) fun z => ?_
    · rw [tabAt b z] at e
      cases e
      exact (h2 rfl).elim
    · subst z
      rw [ha] at e
      cases e
      exact (h1 _ _ rfl).elim
  have freeK : ∀ {b : Addr} {o : Obj}, K.lookup b = some o → H b = none := fun {b o} e => by
    subst eH
    refine H0_none (fun z => ?_) fun z q => ?_
    · rw [tabK b z] at e
      cases e
    · rw [z, q] at e
      cases e
  have hok : HOk P w H s₁.heap := fun b u e => by
    subst eH
    rcases H0_cases e with ⟨hb, rfl⟩ | ⟨_, rfl, _, rfl⟩
    · exact tabAt b hb
    · exact ⟨ha, by rw [List.length_map]; exact hl, vs, _, rv, ha⟩
  have hS : SqL K H a (ns.map V.int) := by
    subst eH
    cases q : K.lookup a with
    | none => exact .inl (.inr ⟨_, H0_scr aT q⟩)
    | some o =>
      have e := KX a o q
      rw [ha] at e
      cases e
      exact .inr ⟨_, vs.toArray, _, q, rfl, rfl, rfl, by rw [List.size_toArray, lenV]; exact hl, by simpa using rv⟩
  have hH : ∀ p ∈ cs, H p.2 = some (.tbl #[]) := fun p hp => by
    subst eH
    exact H0_tab (List.mem_map.mpr ⟨p, hp, rfl⟩)
  -- the base
  have into : ∀ {b : Addr} {o : Obj}, s₁.heap.get? b = some o → H b = none → (hidT s₁.heap H).get? b = some o := fun e n => hidT_get e n
  have ns' : ∀ {b : Addr} {m : Str → Option Value}, s₁.heap.Ns b m → (hidT s₁.heap H).Ns b m := fun {b m} ⟨o, es, ep, e, d, r⟩ =>
    ⟨o, es, ep, into e (free e (fun xs n z => by rw [d] at z; cases z) fun z => by rw [d] at z; cases z), d, r⟩
  have kB : K.In (hidT s₁.heap H) := fun b o e => into (KX b o e) (freeK e)
  have mB : L2.Mod K mg (hidT s₁.heap H) := ⟨kB, ns' hns, ⟨mb, ns' hb, hbb⟩, let ⟨mc, h1, h2⟩ := hlim; ⟨mc, ns' h1, h2⟩⟩
  have tB : ∀ p ∈ cs, LamX.TabB (hidT s₁.heap H) mg p.1 p.2 := fun p hp => by
    obtain ⟨o, us, file, tf, flags, tg, inF, text, tt, e1, r1, r2, r⟩ := C p hp
    obtain ⟨bm, ob, b1, b2, b3, b4, b5, b6⟩ := hbm
    obtain ⟨og, es, ep, g1, g2, _⟩ := hns
    have dif : ∀ {b : Addr} {o u : Obj}, s₁.heap.get? p.2 = some u → s₁.heap.get? b = some o → o.data ≠ u.data → b ≠ p.2 := fun h1 h2 h3 z => by
      rw [z, h1] at h2
      cases h2
      exact h3 rfl
    refine ⟨⟨o, us, file, tf, flags, tg, inF, text, tt, into e1 (free e1 (fun xs n z => by rw [r2] at z; cases z) fun z => ?_), r1, r2, r⟩,
      ⟨bm, ob, b1, b2, fun z => ?_, dif (hT p hp) b3 (by rw [b6]; exact fun z => by cases z), into b3 (free b3 (fun xs n z => by rw [b6] at z; cases z) fun z => by rw [b6] at z; cases z), b4, b5, b6⟩,
      dif (hT p hp) g1 (by rw [g2]; exact fun z => by cases z)⟩
    · rw [r2] at z
      cases z
      simp at r
    · rw [z, g1] at b3
      cases b3
      rw [g2] at b6
      cases b6
  have e0 : Env0 P w K mg (hidT s₁.heap H) callerA [] s₁ H := ⟨rfl, mB, fun b o e => of_hidT e, Nat.le_of_eq (hidT_size _ _), trivial, (fun b hb => absurd (show b ∈ ([] : List Addr) from hb) (by simp)), hok, .of_eq hg⟩
  refine codeAny_mono ((F _ kB (ns' hns) tB).run callerA [] s₁ H ⟨[.ref a], []⟩ [.ref a] [.ref a] _ _ rfl hr e0 (hbind s₁ (.ref a)) (.cons rfl .nil) (hsp H hH hS)) fun r s' h => ?_
  cases r with
  | error e =>
    obtain ⟨_, _, _, _, _, _, _, _, _, _, _, _, z⟩ := h
    exact z.elim
  | ok fl =>
    cases fl with
    | ret u =>
      obtain ⟨v, H', os, bare, un, hok', r', q⟩ := h
      obtain rfl : v = .bl true := q
      obtain rfl : u = Value.bool true := r'
      -- a table has grown, all else stands
      have stand : ∀ b o, s₁.heap.get? b = some o → s'.heap.get? b = some o ∨ (b ∈ cs.map (·.2) ∧ ∃ more : Array Value, s'.heap.get? b = some { cls := .none, data := .fields more }) := fun b o e => by
        cases q : H b with
        | none => exact .inl (un.keep b o e q (fun z => nomatch z) (fun z => nomatch z))
        | some u =>
          have q0 := q
          rw [← eH] at q0
          rcases H0_cases q0 with ⟨hb, rfl⟩ | ⟨_, _, _, rfl⟩
          · obtain ⟨more, z⟩ := un.tbls b #[] q
            exact .inr ⟨hb, _, hok' b _ z⟩
          · have e1 := (hok b _ q).1
            rw [e] at e1
            cases e1
            exact .inl (hok' b _ (un.frzs b _ _ q)).1
      refine ⟨rfl, ⟨fun b o e => ?_, fun b o e => ?_⟩, os, bare⟩
      · rcases stand b o e with h | ⟨hb, more, h⟩
        · exact .inl h
        · obtain ⟨p, hp, rfl⟩ := List.mem_map.mp hb
          rw [hT p hp] at e
          cases e
          exact .inr (.inl ⟨((C p hp).tab (hT p hp)).isCodeTable, rfl, #[], more, rfl, by rw [Array.empty_append]; exact h⟩)
      · rcases stand b o e with h | ⟨_, _, h⟩
        · exact ⟨_, h⟩
        · exact ⟨_, h⟩
    | next => exact False.elim h
    | brk => exact False.elim h
    | cont => exact False.elim h
/-- what is known of the law's promise at the head's heap h -/
def LawAtG (l : PySem.W.OpenLaw) (w : World) (K : PySem.W.Frag) (k n : Nat) (x : Str) (mg : Str → Option Value) (fa : Addr) (h : Heap) : Prop :=
  ∃ (fd : FuncData) (cs : List (Addr × Addr)) (sp : Sp), (∀ p ∈ cs, h.get? p.2 = some { cls := .none, data := .fields #[] }) ∧ (∀ p ∈ cs, K.lookup p.2 = none) ∧ (∀ p ∈ cs, PySem.W.CodeHd h p.1 p.2) ∧ (∀ (s : Shared) (u : Value), BindsTo s fd ⟨[u], []⟩ [(x, u)]) ∧
    (∀ (H : Hp) (a : Addr) (ns : List Int), ns.length ≤ n → (∀ z ∈ ns, Builtin.Int.intBits z ≤ 1048576) → (∀ p ∈ cs, H p.2 = some (.tbl #[])) → SqL K H a (ns.map V.int) → sp [.ref a] H (fun v _ => v = .bl true) fun _ _ _ => False) ∧
    ∀ base : Heap, K.In base → base.Ns mainGlobals mg → (∀ p ∈ cs, LamX.TabB base mg p.1 p.2) → FnG l.prog w K mg base k fa fd [x] sp
theorem walk_ofG {l : PySem.W.OpenLaw} {n k : Nat} {q : Program} {loose : List Str} {XP : (Str → Option Value) → Heap → Prop} {YP : World → Heap → Prop} {d : DefRec} {K : Params → PySem.W.Frag} {x : Str}
    (hn : l.most = some n) (hn2 : n ≤ sizeLine) (hdf : d.params.defaults = []) (hr : Room k callerA) (hY : ∀ (w : World) (h : Heap), YP w h → (K w.params).In h)
    (F : ∀ (w : World) (mg : Str → Option Value) (fa : Addr) (h : Heap), YP w h → (K w.params).In h → h.Ns mainGlobals mg → mg d.name = some (.ref fa) → LawAtG l w (K w.params) k n x mg fa h) :
    PySem.W.WalkO q loose XP YP l.row.toRowW d [] (fun f vs => PySem.call f vs) := by
  refine Att.attach_callB hn hdf fun w s₀ s₁ mg mb fa o pm cd doc a vs ns G Y ho hd hcd hmg hobj hints hlen hbits hg => ?_
  have KX := hY w _ Y
  obtain ⟨fd, cs, sp, hT, nT, C, hb, hsp, hF⟩ := F w mg fa _ Y KX G.T.g hmg
  exact law_callG KX G.T.g G.T.b G.T.builtins G.T.nolimit hg hT nT C G.T.bmain hobj hints (Nat.le_trans hlen hn2) hr hF hb fun H hH hS => hsp H a ns hlen hbits hH hS
end LF

set_option Elab.async false
set_option linter.all false
set_option maxRecDepth 100000
set_option maxHeartbeats 4000000
/-! texts of data; sorted(.., key=str) -/
namespace LF
open PySem PySem.Spec PyProof.Rows L2
/-- a tuple of data whose text is told: the data -/
def told8 (d : D) : Option PyData := if isT d = true then (match deep [] 8 d with
  | some p => if p.showable = true ∧ p.hasDict = false ∧ p.shown.length ≤ sizeLine ∧ p.depth ≤ 16 then some p else none
  | none => none) else none
def textD (d : D) : Str := match told8 d with
  | some p => p.shown
  | none => Str.empty
def leT : D → D → Bool := PySem.W.dataLe false fun d => PyData.str (textD d)
def opSortK : List D → O D
  | [.ref i] => fun st => match st[i]? with
    | some (.lst es) => if es.all (fun d => (told8 d).isSome) = true ∧ es.length ≤ sizeLine then newL (es.mergeSort leT) st else none
    | _ => none
  | _ => fun _ => none
section
variable {G : Gx} {W : WX} {X : Cx} {σ : L2.St} {H : Hp}
theorem deep_nil {st : Sto} : ∀ (n : Nat) (d : D) (p : PyData), deep [] n d = some p → deep st n d = some p := by
  intro n
  induction n with
  | zero => intro d p e; cases d <;> simp only [deep] at e ⊢ <;> (first | exact e | cases e)
  | succ n ih =>
    intro d p e
    cases d with
    | tup ds =>
      simp only [deep] at e ⊢
      have go : ∀ (ds : List D) (ps : List PyData), mapO (deep [] n) ds = some ps → mapO (deep st n) ds = some ps := by
        intro ds
        induction ds with
        | nil => intro ps e; exact e
        | cons d ds ih2 =>
          intro ps e
          simp only [mapO] at e ⊢
          split at e
          · rename_i p qs e1 e2
            rw [ih _ _ e1, ih2 _ e2]
            exact e
          · cases e
      cases e1 : mapO (deep [] n) ds with
      | none => rw [e1] at e; cases e
      | some ps => rw [e1] at e; rw [go ds ps e1]; exact e
    | ref i => simp only [deep] at e; simp at e
    | _ => simp only [deep] at e ⊢; exact e
/-- the values of the items -/
theorem RVs.each {ms : List Addr} : ∀ {ds : List D} {vs : List V} {us : List Value}, RVs G ms H ds vs → Vals vs us → PySem.W.EachIs (fun u d => ∃ v, RelV v u ∧ RV G ms H d v) us ds
  | [], _, _, h, r => by
    simp only [RVs] at h
    subst h
    cases r
    exact .nil
  | d :: ds, _, _, h, r => by
    simp only [RVs] at h
    obtain ⟨v, vs, rfl, h1, h2⟩ := h
    cases r with
    | cons r1 r2 => exact .cons ⟨v, r1, h1⟩ (RVs.each h2 r2)
theorem each_vals {ms : List Addr} : ∀ {ds : List D} {us : List Value}, PySem.W.EachIs (fun u d => ∃ v, RelV v u ∧ RV G ms H d v) us ds → ∃ vs, Vals vs us ∧ RVs G ms H ds vs
  | _, _, .nil => ⟨[], .nil, by simp only [RVs]⟩
  | _, _, .cons ⟨v, r, h⟩ t => by
    obtain ⟨vs, h1, h2⟩ := each_vals t
    exact ⟨v :: vs, .cons r h1, by simp only [RVs]; exact ⟨v, vs, rfl, h, h2⟩⟩
theorem told8_some {d : D} {p : PyData} (h : told8 d = some p) : isT d = true ∧ deep [] 8 d = some p ∧ p.showable = true ∧ p.hasDict = false ∧ p.shown.length ≤ sizeLine ∧ p.depth ≤ 16 := by
  unfold told8 at h
  split at h
  · rename_i ht
    split at h
    · rename_i q e
      split at h
      · rename_i hc
        cases h
        exact ⟨ht, e, hc⟩
      · cases h
    · cases h
  · cases h
theorem textD_of {d : D} {p : PyData} (h : told8 d = some p) : textD d = p.shown := by
  unfold textD
  rw [h]
/-- str of a tuple of data -/
theorem str_tup {pins : List (Addr × Obj)} {s : Shared} {ms : List Addr} {st : Sto} {d : D} {v : V} {u : Value} {p : PyData} {A : Around} {E : Value → Shared → Prop} {h : Heap} {tk : Nat} {Q : Value → Shared → Prop} (hK : X.K = G.K) (I : Inv X pins σ H s) (S : SRel G ms st H)
    (r : RV G ms H d v) (ru : RelV v u) (e : told8 d = some p) (hg : A.guards = some []) (hu : A.units + 24 < cLine) (hk : ∀ b o, s.heap.get? b = some o → h.get? b = some o)
    (hQ : ∀ h' t tk', (∀ b o, h.get? b = some o → h'.get? b = some o) → Q (.str p.shown t) { s with heap := h', toks := tk' }) : wpAny (model X.prog X.w) A (call (.type "str") [u]) Q E { s with heap := h, toks := tk } := by
  obtain ⟨e1, e2, e3, e4, e5, e6⟩ := told8_some e
  obtain ⟨as, rd⟩ := Dp.reads I p v u (hK ▸ dp_of S 8 d v p r (deep_nil 8 d p e2)) ru
  cases d with
  | tup ds =>
    simp only [RV] at r
    obtain ⟨a, vs, rfl, _, _⟩ := r
    obtain rfl : u = .ref a := ru
    exact str_of_reads (s := { s with heap := h, toks := tk }) rd e3 (fun z => by rw [e4] at z; cases z) hg (by omega) hk hQ e5
  | _ => cases e1
theorem cr_sortK (hK : X.K = G.K) (hG : X.A.guards = some []) (hu : X.A.units + 64 < cLine) : CallRK X (.builtin "sorted") ["key"] (fun xs zs H Q => zs = [.ty "str"] ∧ rN G opSortK xs H Q) := by
  intro pins s σ H xs zs us ws Q I rx rz ⟨ez, ms, st, ds, S, rs, k⟩
  subst ez
  obtain ⟨w, rfl, rw'⟩ := vals1 rz
  obtain rfl : w = .type "str" := rw'
  unfold opSortK at k
  split at k
  · rename_i i
    split at k
    · rename_i es e1
      split at k
      · rename_i hc
        obtain ⟨v, rfl, rv⟩ := rs.one'
        obtain ⟨u, rfl, ru⟩ := vals1 rx
        obtain ⟨a, vs, rfl, ha, h1, h2⟩ := S.ref e1 rv
        obtain rfl : u = .ref a := ru
        obtain ⟨its, rv2, hl, hz⟩ := I.list (SqL.of h1)
        have each := h2.each rv2
        have some8 : ∀ d ∈ es, ∃ p, told8 d = some p := fun d hd => Option.isSome_iff_exists.mp (List.all_eq_true.mp hc.1 d hd)
        show wpAny _ _ (call (.builtin "sorted") [.ref a] [(Str.ofString "key", .type "str")]) _ _ _
        refine PySem.W.sorted_key_data (b := false) (fun d => PyData.str (textD d)) hl.isList each ?_ ?_ hc.2 ?_ (ksk_s1 _ _) (fun _ => ksk_l1 _ _) (fun _ => rfl) ?_ ?_
        · intro d hd d' hd'
          obtain ⟨x, _, rfl⟩ := List.mem_map.mp hd
          obtain ⟨y, _, rfl⟩ := List.mem_map.mp hd'
          rfl
        · refine .inr fun d hd => ?_
          obtain ⟨x, _, rfl⟩ := List.mem_map.mp hd
          exact ⟨(fun z => by cases z), fun xs z => by cases z⟩
        · intro x hx
          show X.A.units + 2 + 0 < cLine
          omega
        · intro v x ⟨v', r1, r2⟩ hx h tk hk
          obtain ⟨p, hp⟩ := some8 x hx
          refine str_tup hK I S r2 r1 hp hG (by show X.A.units + 1 + 1 + 24 < cLine; omega) hk fun h' t tk' hk' => ?_
          rw [textD_of hp]
          exact ⟨h', tk', rfl, hk', .str _ _⟩
        · intro out c h' tk hk hf ho hlen he
          obtain ⟨vs', q1, q2⟩ := each_vals he
          have hz' : vs'.length ≤ sizeLine := by
            rw [q1.length, hlen]
            exact hc.2
          exact ⟨.ref _, upd H (s.heap.objs.size + 1) (.lst vs'), I.laid (t' := tk) hk (Nat.le_succ _) ⟨hz', out, c, q1, ho⟩, rfl, OkO.newL S q2 k _ (I.hok.fresh (Nat.le_succ _))⟩
      · exact k.elim
    · exact k.elim
  · exact k.elim
theorem e_sortK {x y : Str} {e : Expr} {p p2 kp pos : Pos} {fe : E} (hK : X.K = G.K) (hG : X.A.guards = some []) (hu : X.A.units + 64 < cLine) (hg : Gl X x) (hm : X.mg x = none) (hv : bootBuiltins x = some (.builtin "sorted")) (hg2 : Gl X y) (hm2 : X.mg y = none) (hv2 : bootBuiltins y = some (.type "str"))
    (ha : PA X [e] (tA G W (eArgs [fe]))) (hn : x ≠ "__name__" := by decide) (hdb : (x == ("__debug__" : Str)) = false := by decide) (hn2 : y ≠ "__name__" := by decide) (hdb2 : (y == ("__debug__" : Str)) = false := by decide)
    (he : backTo pos (starEach [e] X.env) = (false, eval e X.env) :: backTo pos (starEach [] X.env) := by rfl) (hpl : (backTo pos (starEach [e] X.env)).any (·.1) = false := by rfl)
    (hall : (backToKw pos (keywordEach [⟨some "key", .Name y p2, kp⟩] X.env)).all (·.1.isSome) = true := by rfl) (hnone : (backToKw pos (keywordEach [⟨some "key", .Name y p2, kp⟩] X.env)).any (·.1.isNone) = false := by rfl) (hks : (backToKw pos (keywordEach [⟨some "key", .Name y p2, kp⟩] X.env)).filterMap (·.1) = [Str.ofString "key"] := by rfl) :
    PE X (.Call (.Name x p) [e] [⟨some "key", .Name y p2, kp⟩] pos) (tE G W (eBlt opSortK [fe])) :=
  PE_weak (pe_callBK (cr_sortK hK hG hu) hg hm hv ha (pk_cons (pe_bltn (v := .ty "str") hg2 hm2 hv2 rfl hn2 hdb2) pk_nil) hn hdb he hpl hall hnone hks) fun σ H Q h => tX_mono (blt_tCB h) fun vs H1 q => ⟨rfl, q⟩
end
end LF

set_option Elab.async false
set_option linter.all false
set_option maxRecDepth 100000
set_option maxHeartbeats 4000000
/-! data in a list of data; l.pop(i); t[::-1]; min; x is a bool -/
namespace LF
open PySem PySem.Spec PyProof.Rows L2
theorem _root_.L2.Room.units65 {k : Nat} {A : Around} (hr : Room k A) : A.units + 65 < cLine := by have := hr.un; omega
def dataIn (st : Sto) (x : D) (es : List D) : Option Bool := match deep st 66 x, mapO (deep st 66) es with
  | some p, some ps => if SeqAt.shaped p = true ∧ SeqAt.shaped (.list ps) = true then some (ps.any fun z => PyData.eqv z p) else none
  | _, _ => none
def opInDp (neg : Bool) : D → D → O D
  | x, .ref r => fun st => match st[r]? with
    | some (.lst es) => match dataIn st x es with
      | some b => some (.bl (if neg then !b else b), st)
      | none => none
    | _ => none
  | _, _ => fun _ => none
def opPopAt : D → List D → O D
  | .ref r, [.int i] => fun st => match st[r]? with
    | some (.lst ds) => if -(2 ^ 63) ≤ i ∧ i < 2 ^ 63 then (match seqIndex? i ds.length with
      | some k => match ds[k]? with
        | some y => some (y, st.set r (.lst (ds.eraseIdx k)))
        | none => none
      | none => none) else none
    | _ => none
  | _, _ => fun _ => none
def opRevT : D → O D
  | .tup ds => fun st => some (.tup ds.reverse, st)
  | _ => fun _ => none
def intsOf : List D → Option (List Int)
  | [] => some []
  | .int i :: r => match intsOf r with
    | some l => some (i :: l)
    | none => none
  | _ :: _ => none
def leastI : List Int → Int
  | [] => 0
  | [x] => x
  | x :: r => if leastI r < x then leastI r else x
def opMinL : List D → O D
  | [.ref r] => fun st => match st[r]? with
    | some (.lst ds) => match intsOf ds with
      | some (x :: l) => some (.int (leastI (x :: l)), st)
      | _ => none
    | _ => none
  | _ => fun _ => none
def opIsB (neg : Bool) : D → D → O D
  | .bl a, .bl b => fun st => some (.bl (if neg then !decide (a = b) else decide (a = b)), st)
  | _, _ => fun _ => none
section
variable {G : Gx} {W : WX} {X : Cx} {σ : L2.St} {H : Hp}
theorem inDp_rel {ms : List Addr} {st : Sto} (S : SRel G ms st H) {x : D} {v u : V} {r : Nat} {es : List D} {b : Bool} (e : st[r]? = some (.lst es)) (rx : RV G ms H x v) (ry : RV G ms H (.ref r) u) (h : dataIn st x es = some b) :
    ∃ d ds, Dp G.K H v d ∧ Dp G.K H u (.list ds) ∧ SeqAt.shaped d = true ∧ SeqAt.shaped (.list ds) = true ∧ (ds.any fun z => PyData.eqv z d) = b := by
  unfold dataIn at h
  split at h
  · rename_i p ps e1 e2
    split at h
    · rename_i hc
      obtain ⟨a, vs, rfl, _, h1, h2⟩ := S.ref e ry
      exact ⟨p, ps, dp_of S 66 x v p rx e1, .lst (SqL.of h1) (dpAll (dp_of S 66) es vs ps h2 e2), hc.1, hc.2, Option.some.inj h⟩
    · cases h
  · cases h
theorem o_inDp (hK : X.K = G.K) (hu : X.A.units + 65 < cLine) : OpR X (compareOp .In) (rO G (opInDp false)) := OpR_imp (op_inD hu) fun v u H Q ⟨ms, st, x, y, S, rx, ry, k⟩ => by
  unfold opInDp at k
  split at k
  · split at k
    · rename_i es e
      split at k
      · rename_i b eb
        obtain ⟨d, ds, h1, h2, h3, h4, h5⟩ := inDp_rel S e rx ry eb
        exact ⟨d, ds, hK ▸ h1, hK ▸ h2, h3, h4, by rw [h5]; exact OkO.bl S k⟩
      · exact k.elim
    · exact k.elim
  · exact k.elim
theorem o_notinDp (hK : X.K = G.K) (hu : X.A.units + 65 < cLine) : OpR X (compareOp .NotIn) (rO G (opInDp true)) := OpR_imp (op_notInD hu) fun v u H Q ⟨ms, st, x, y, S, rx, ry, k⟩ => by
  unfold opInDp at k
  split at k
  · split at k
    · rename_i es e
      split at k
      · rename_i b eb
        obtain ⟨d, ds, h1, h2, h3, h4, h5⟩ := inDp_rel S e rx ry eb
        exact ⟨d, ds, hK ▸ h1, hK ▸ h2, h3, h4, by rw [h5]; exact OkO.bl S k⟩
      · exact k.elim
    · exact k.elim
  · exact k.elim
theorem RVs.erase {ms : List Addr} : ∀ {ds : List D} {vs : List V} (n : Nat), RVs G ms H ds vs → RVs G ms H (ds.eraseIdx n) (vs.eraseIdx n)
  | [], _, _, h => by
    simp only [RVs] at h
    subst h
    simp [RVs]
  | d :: ds, _, 0, h => by
    simp only [RVs] at h
    obtain ⟨v, r, rfl, _, h2⟩ := h
    exact h2
  | d :: ds, _, n + 1, h => by
    simp only [RVs] at h
    obtain ⟨v, r, rfl, h1, h2⟩ := h
    simp only [List.eraseIdx_cons_succ, RVs]
    exact ⟨v, _, rfl, h1, RVs.erase n h2⟩
theorem m_popAt : MtR X "list.pop" (rM G opPopAt) := MtR_imp mt_popAt fun v vs H Q ⟨ms, st, x, ds, S, rx, rs, k⟩ => by
  unfold opPopAt at k
  split at k
  · rename_i r i
    split at k
    · rename_i es e
      split at k
      · rename_i hc
        split at k
        · rename_i n en
          split at k
          · rename_i y ey
            obtain ⟨a, us, rfl, ha, h1, h2⟩ := S.ref e rx
            obtain ⟨z, rfl, rz⟩ := rs.one'
            simp only [RV] at rz
            subst rz
            obtain ⟨w, hw, rw'⟩ := h2.at ey
            have c0 : CellOk G ms H a (.lst es) := ⟨us, h1, h2⟩
            have g : Gr ms H ms (upd H a (.lst (us.eraseIdx n))) := Gr.cell c0
            exact ⟨a, us, i, n, w, rfl, rfl, h1, hc.1, hc.2, by rw [h2.length]; exact en, hw, k w ms _ g (S.put ha ⟨_, upd_same, RVs.gr g _ _ (h2.erase n)⟩) (RV.gr g _ _ rw')⟩
          · exact k.elim
        · exact k.elim
      · exact k.elim
    · exact k.elim
  · exact k.elim
theorem least_mem : ∀ (l : List Int), l ≠ [] → leastI l ∈ l ∧ ∀ y ∈ l, leastI l ≤ y
  | [], h => (h rfl).elim
  | [x], _ => ⟨.head _, fun y hy => by rw [List.mem_singleton.mp hy]; exact Int.le_refl _⟩
  | x :: z :: r, _ => by
    obtain ⟨h1, h2⟩ := least_mem (z :: r) (by simp)
    simp only [leastI] at h1 h2 ⊢
    split
    · rename_i h
      refine ⟨.tail _ h1, fun y hy => ?_⟩
      rcases List.mem_cons.mp hy with rfl | hy
      · omega
      · exact h2 y hy
    · rename_i h
      refine ⟨.head _, fun y hy => ?_⟩
      rcases List.mem_cons.mp hy with rfl | hy
      · omega
      · have := h2 y hy
        omega
theorem intsOf_ok : ∀ {ds : List D} {l : List Int}, intsOf ds = some l → ds = l.map D.int
  | [], l, h => by simp only [intsOf] at h; cases h; rfl
  | d :: r, l, h => by
    cases d with
    | int i =>
      simp only [intsOf] at h
      split at h
      · rename_i l' e
        cases h
        rw [List.map_cons, ← intsOf_ok e]
      · cases h
    | _ => simp [intsOf] at h
theorem RVs.ints_inv {ms : List Addr} : ∀ {l : List Int} {vs : List V}, RVs G ms H (l.map D.int) vs → vs = l.map V.int
  | [], _, h => by simp only [List.map_nil, RVs] at h; exact h
  | i :: l, _, h => by
    simp only [List.map_cons, RVs] at h
    obtain ⟨v, r, rfl, h1, h2⟩ := h
    simp only [RV] at h1
    rw [h1, List.map_cons, RVs.ints_inv h2]
theorem c_minL (hc : X.calm = true) : CallR X (.builtin "min") (rN G opMinL) := CallR_imp (cr_min hc) fun vs H Q ⟨ms, st, ds, S, rs, k⟩ => by
  unfold opMinL at k
  split at k
  · split at k
    · rename_i es e
      split at k
      · rename_i x l el
        obtain ⟨v, rfl, rv⟩ := rs.one'
        obtain ⟨a, us, rfl, ha, h1, h2⟩ := S.ref e rv
        rw [intsOf_ok el] at h2
        have e3 := RVs.ints_inv h2
        subst e3
        refine ⟨a, x :: l, rfl, SqL.of h1, by simp, fun m hm hl => ?_⟩
        obtain ⟨q1, q2⟩ := least_mem (x :: l) (by simp)
        have : m = leastI (x :: l) := Int.le_antisymm (hl _ q1) (q2 _ hm)
        rw [this]
        exact OkO.int S k
      · exact k.elim
    · exact k.elim
  · exact k.elim
theorem o_isB : OpR X (compareOp .Is) (rO G (opIsB false)) := OpR_imp op_isBl fun v u H Q ⟨ms, st, x, y, S, rx, ry, k⟩ => by
  unfold opIsB at k
  split at k
  · simp only [RV] at rx ry
    subst rx ry
    exact ⟨_, _, rfl, rfl, OkO.bl S k⟩
  · exact k.elim
theorem o_notB : OpR X (compareOp .IsNot) (rO G (opIsB true)) := OpR_imp op_notBl fun v u H Q ⟨ms, st, x, y, S, rx, ry, k⟩ => by
  unfold opIsB at k
  split at k
  · simp only [RV] at rx ry
    subst rx ry
    exact ⟨_, _, rfl, rfl, OkO.bl S k⟩
  · exact k.elim
/-! ### t[::-1] -/
theorem applied_rev {prog : Program} {w : World} {A : Around} {E : Value → Shared → Prop} {s : Shared} {sl : Addr} {vl vu vs : Value} {n : Nat} {Q : Int × Int × Nat → Shared → Prop} (hs : s.heap.IsSliceOf sl vl vu vs) (pl : IsPart vl none) (pu : IsPart vu none) (ps : IsPart vs (some (-1)))
    (h : Q ((n : Int) - 1, -1, n) s) : wpAny (model prog w) A (Builtin.Slice.sliceApplied (.ref sl) (pure (n : Int))) Q E s := by
  obtain ⟨os, hos, hcs, hds⟩ := id hs
  have e : Builtin.Slice.slicePlaces ((n : Int) - 1) (-1) (-1) = n := by
    unfold Builtin.Slice.slicePlaces
    by_cases h0 : 0 < n
    · simp
      omega
    · have : n = 0 := by omega
      subst this
      rfl
  have h' : Q ((n : Int) - 1, -1, Builtin.Slice.slicePlaces ((n : Int) - 1) (-1) (-1)) s := by rw [e]; exact h
  unfold Builtin.Slice.sliceApplied Builtin.Slice.sliceFields
  refine wpAny_bind (wpAny_bind (wpAny_field hos hds (x := vl) rfl (wpAny_bind (wpAny_field hos hds (x := vu) rfl (wpAny_bind (wpAny_field hos hds (x := vs) rfl (wpAny_pure ?_)))))))
  refine wpAny_bind (HT.slicePart_ ps ?_)
  show wpAny _ _ (if ((-1 : Int) == 0) = true then _ else _) _ _ s
  rw [if_neg (by decide)]
  exact wpAny_bind (HT.slicePart_ pl (wpAny_bind (HT.slicePart_ pu (wpAny_bind (wpAny_pure (wpAny_pure h'))))))
theorem filterMap_map {α β : Type} {f : α → Option β} {g : α → β} : ∀ {l : List α}, (∀ a ∈ l, f a = some (g a)) → l.filterMap f = l.map g
  | [], _ => rfl
  | a :: l, h => by
    rw [List.filterMap_cons, h a (.head _), List.map_cons, filterMap_map fun b hb => h b (.tail _ hb)]
theorem pick_rev (xs : Array Value) : ((List.range xs.size).filterMap fun (m : Nat) => xs[(((xs.size : Nat) : Int) - 1 + (m : Int) * -1).toNat]?).toArray = xs.toList.reverse.toArray := by
  congr 1
  have e : ∀ m ∈ List.range xs.size, xs[(((xs.size : Nat) : Int) - 1 + (m : Int) * -1).toNat]? = some ((xs.toList.reverse).getD m default) := fun m hm => by
    have hm' : m < xs.size := List.mem_range.mp hm
    have : (((xs.size : Nat) : Int) - 1 + (m : Int) * -1).toNat = xs.size - 1 - m := by omega
    rw [this, Array.getElem?_eq_getElem (by omega), List.getD_eq_getElem?_getD, List.getElem?_reverse (by simpa using hm')]
    have h2 : xs.toList.length - 1 - m < xs.toList.length := by simp; omega
    rw [List.getElem?_eq_getElem h2]
    simp
  rw [filterMap_map e]
  apply List.ext_getElem?
  intro i
  by_cases hi : i < xs.size
  · simp [List.getElem?_map, hi, List.getElem?_reverse]
  · have h1 : xs.toList.reverse.length ≤ i := by simp; omega
    rw [List.getElem?_eq_none h1, List.getElem?_eq_none]
    simp
    omega
theorem getItem_rev {prog : Program} {w : World} {A : Around} {E : Value → Shared → Prop} {s : Shared} {t sl : Addr} {items : Array Value} {vl vu vs : Value} {Q : Value → Shared → Prop} (ht : IsTup s.heap t items) (hs : s.heap.IsSliceOf sl vl vu vs) (pl : IsPart vl none) (pu : IsPart vu none) (ps : IsPart vs (some (-1)))
    (h : Q (.ref s.heap.objs.size) { s with heap := s.heap.push { cls := .type "tuple", data := .seq items.toList.reverse.toArray } }) (hsz : items.size ≤ sizeLine) : wpAny (model prog w) A (getItem (.ref t) (.ref sl)) Q E s := by
  have hfit : sizeOk (.seq items.toList.reverse.toArray) := by
    show items.toList.reverse.toArray.size ≤ sizeLine
    rw [List.size_toArray, List.length_reverse, Array.length_toList]
    exact hsz
  obtain ⟨os, hos, hcs, hds⟩ := id hs
  have hTs : s.TypeIs (.ref sl) "slice" := ⟨os, hos, hcs⟩
  unfold getItem
  try with_reducible refine wpAny_holding ?_
  first | refine wpAny_bind (wpAny_pure ?_) | skip
  refine wpAny_bind (wpAny_sequenceKey ht.typeIs (by decide) ?_)
  refine wpAny_bind (wpAny_callSpecial?_slot (name := Str.ofString "__getitem__") ht.typeIs PyProof.Rows.slot_tuple_getitem
    (wpAny_call_entry PyProof.Rows.slot_tuple_getitem ht.typeIs PyProof.Rows.entry_tuple_getitem ?_ (PyProof.Rows.args_tuple_getitem _ _)))
  show wpAny _ _ (Builtin.Tuple.tupleItemsOf (.ref t) >>= _) _ _ s
  refine wpAny_bind (tupleItemsOf_ ht ?_)
  refine wpAny_bind (wpAny_typeOf hTs ?_)
  rw [if_pos (by decide)]
  refine wpAny_bind (applied_rev hs pl pu ps ?_)
  have hno : ¬ ((((items.size : Nat) : Int) - 1 == 0 && (-1 : Int) == 1 && items.size == items.size) = true) := by
    intro q
    rw [Bool.and_eq_true, Bool.and_eq_true] at q
    exact absurd q.1.2 (by decide)
  show wpAny _ _ (if (((items.size : Nat) : Int) - 1 == 0 && (-1 : Int) == 1 && items.size == items.size) = true then _ else _) _ _ s
  rw [if_neg hno, pick_rev]
  first
    | exact wpAny_bind (m := Builtin.Tuple.tupleExact _) (wpAny_newObj_type (wpAny_pure ⟨_, rfl, wpAny_pure h⟩) hfit)
    | exact wpAny_bind (m := Builtin.Tuple.tupleExact _) (wpAny_newObj_type (wpAny_bind (wpAny_pure (wpAny_pure ⟨_, rfl, wpAny_pure h⟩))) hfit)
    | exact wpAny_bind (wpAny_bind (m := Builtin.Tuple.tupleExact _) (wpAny_newObj_type (wpAny_pure (wpAny_pure ⟨_, rfl, wpAny_pure h⟩)) hfit))
    | exact wpAny_bind (wpAny_bind (m := Builtin.Tuple.tupleExact _) (wpAny_newObj_type (wpAny_pure ⟨_, rfl, wpAny_pure h⟩) hfit))
theorem RVs.rev {ms : List Addr} : ∀ {ds : List D} {vs : List V}, RVs G ms H ds vs → RVs G ms H ds.reverse vs.reverse
  | [], _, h => by simp only [RVs] at h; subst h; simp [RVs]
  | d :: ds, _, h => by
    simp only [RVs] at h
    obtain ⟨v, r, rfl, h1, h2⟩ := h
    rw [List.reverse_cons, List.reverse_cons]
    exact (RVs.rev h2).app (RVs.one h1)
theorem e_revT {e : Expr} {k : Nat} {p1 p2 p3 pos : Pos} {fe : E} (hK : X.K = G.K) (he : PE X e (tE G W fe)) : PE X (.Subscript e (.Slice none none (some (.UnaryOp .USub (.Constant (.int 1) k p1) p2)) p3) pos) (tE G W (eUn opRevT fe)) := by
  refine ⟨fun pins s σ H Q I h => ?_⟩
  refine Subscript_ (thn (he.run pins s σ H _ I (un_tUn h)) fun v s1 ⟨x, H1, I1, r1, ms, st, d, S, rd, k1⟩ => ?_)
  unfold opRevT at k1
  split at k1
  · rename_i ds
    simp only [RV] at rd
    obtain ⟨a, xs, rfl, hx, hd⟩ := rd
    obtain rfl : v = .ref a := r1
    have hst : PO X (some (.UnaryOp .USub (.Constant (.int 1) k p1) p2)) (tPart (tUn (rU fun i => .int (-i)) (tC (.int 1)))) := po_some (pe_un un_neg pe_int)
    refine wpAny_Slice (thn (po_none.run pins s1 σ H1 (fun o H2 => o = none ∧ H2 = H1) I1 ⟨rfl, rfl⟩) fun vl s2 ⟨l, H2, I2, pl, el, e2⟩ => ?_)
    subst el e2
    refine thn (po_none.run pins s2 σ H2 (fun o H3 => o = none ∧ H3 = H2) I2 ⟨rfl, rfl⟩) fun vu s3 ⟨u, H3, I3, pu, eu, e3⟩ => ?_
    subst eu e3
    refine thn (hst.run pins s3 σ H3 (fun o H4 => o = some (-1) ∧ H4 = H3) I3 ⟨1, rfl, -1, rfl, rfl, rfl⟩) fun vs s4 ⟨o, H4, I4, ps, eo, e4⟩ => ?_
    subst eo e4
    have I5 : Inv X pins σ H4 { s4 with heap := s4.heap.push { cls := .type "slice", data := .fields #[vl, vu, vs] } } := I4.kept (t' := s4.toks) fun b ob q => Heap.get?_push_of_some _ q
    obtain ⟨its, r, ht, hz⟩ := I5.tuple (hK ▸ hx.t)
    have hlen := r.length
    show wpAny (model X.prog X.w) X.A (subscriptTail e (.Slice none none (some (.UnaryOp .USub (.Constant (.int 1) k p1) p2)) p3) (.ref a) (.ref s4.heap.objs.size)) (EP X pins σ Q) X.xe { s4 with heap := s4.heap.push { cls := .type "slice", data := .fields #[vl, vu, vs] } }
    refine tail_any (ops := [.ref a, .ref s4.heap.objs.size]) ht.typeIs (PyProof.Rows.slot_tuple_getitem.lookup) ?_ (by with_unfolding_all rfl)
    refine getItem_rev ht (Heap.IsSliceOf.new _ vl vu vs) pl pu ps ?_ (by rw [List.size_toArray]; omega)
    refine ⟨.ref _, _, I5.laid (t' := s4.toks) (o := .tup xs.reverse) (fun b ob q => Heap.get?_push_of_some _ q) (Nat.le_refl _) ?_, rfl, OkO.tup S hd.rev k1 _ (I5.hok.fresh (Nat.le_refl _))⟩
    exact ⟨by rw [List.length_reverse]; exact hz, _, r.reverse, ⟨_, Heap.get?_push_size _ rfl, rfl, 0, by simp⟩⟩
  · exact k1.elim
end
end LF

set_option Elab.async false
set_option linter.all false
set_option maxRecDepth 100000
set_option maxHeartbeats 4000000
/-! {k: v}; {k: v for ..}; dict(pairs) -/
namespace LF
open PySem PySem.Spec PyProof.Rows L2
section
variable {G : Gx} {W : WX} {X : Cx} {σ : L2.St} {H : Hp}
/-! ### {k: v} -/
def disp1 (i : Nat) (y z : D) : O D := fun st => match st[i]?, tkey y with
  | some (.dct []), some k => some (.ref i, st.set i (.dct (dPut [] y k z)))
  | _, _ => none
def eD1 (fk fv : E) : E := fun env st => (fk env (st ++ [.dct []])).bind fun y s => (fv env s).bind fun z s' => ofO (disp1 st.length y z s')
theorem e_disp1 {k v : Expr} {fk fv : E} {pos : Pos} (hK : X.K = G.K) (hu : X.A.units + 64 < cLine) (hk : PE X k (tE G W fk)) (hv : PE X v (tE G W fv)) : PE X (.Dict [some k] [v] pos) (tE G W (eD1 fk fv)) := by
  refine ⟨fun pins s σ H Q I ⟨ms, st, env, S, r, q⟩ => ?_⟩
  have hn := I.hok.fresh (Nat.le_refl s.heap.objs.size)
  have I1 := I.laid (a := s.heap.objs.size) (o := .dK []) (h' := s.heap.push { cls := .type "dict", data := .dict #[] }) (t' := s.toks) (fun _ _ q => Heap.get?_push_of_some _ q) (Nat.le_refl _) (dk_empty s.heap I.big)
  have g1 : Gr ms H (ms ++ [s.heap.objs.size]) (upd H s.heap.objs.size (.dK [])) := Gr.new hn [_]
  have S1 : SRel G (ms ++ [s.heap.objs.size]) (st ++ [.dct []]) (upd H s.heap.objs.size (.dK [])) := S.new hn (.inl ⟨[], upd_same, rfl⟩)
  have at1 : (ms ++ [s.heap.objs.size])[st.length]? = some s.heap.objs.size := by rw [← S.len]; simp
  have hz := zip_pairTrees [some k] [v] X.env pos rfl rfl
  rw [arm_eval_Dict, hz, dictDisplay_pairs (pairTrees [some k] [v] X.env pos) (fun z => by cases z) (show (1 : Nat) < 17 by decide)]
  refine wpAny_bind (wpAny_standAt (wpAny_bind (wpAny_subDictH (knd := nestedKind X.prog X.w) (Q := fun d s' => wpAny (model X.prog X.w) X.A (pure (Value.ref d)) (EP X pins σ Q) X.xe s') (by show X.A.units + 8 < cLine; omega) (show (1 : Nat) ≤ 15 by decide) ?_)))
  refine pairTrees_cons_walk (thn (hk.run pins _ σ _ (fun y H1 => ∃ ms st' env y', SRel G ms st' H1 ∧ RE G ms H1 env σ ∧ RV G ms H1 y' y ∧ ms[st.length]? = some s.heap.objs.size ∧ Okk (RV G) G (fun c d H => W c d σ H) Q ms H1 ((fv env st').bind fun z s' => ofO (disp1 st.length y' z s'))) I1
    ⟨_, _, env, S1, r.gr g1, Okk.bind (Okk.gr g1 q) fun y s b m1 H1 g S2 r2 k2 => ⟨m1, s, env, y, S2, (r.gr g1).gr g, r2, g.at at1, k2⟩⟩) fun u s1 ⟨x, H1, I2, rx, ms1, st1, env1, y1, S2, r2, rv1, at2, k2⟩ => ?_)
  refine thn (hv.run pins s1 σ H1 (fun z H2 => ∃ ms st' y' z', SRel G ms st' H2 ∧ RV G ms H2 y' x ∧ RV G ms H2 z' z ∧ ms[st.length]? = some s.heap.objs.size ∧ OkO (RV G) G Q ms H2 (disp1 st.length y' z' st')) I2
    ⟨_, _, env1, S2, r2, Okk.bind k2 fun z s b m1 H2 g S3 r3 k3 => ⟨m1, s, y1, z, S3, RV.gr g _ _ rv1, r3, g.at at2, k3.ofO⟩⟩) fun w2 s2 ⟨z, H2, I3, rz, ms2, st2, y2, z2, S3, ry, rz2, at3, k3⟩ => ?_
  unfold disp1 at k3
  split at k3
  · rename_i nk e1 e2
    obtain ⟨cl, e3, c⟩ := S3.has at3
    rw [e1] at e3
    cases e3
    obtain ⟨b, rfl⟩ := tkey_ref e2 ry
    obtain rfl : u = .ref b := rx
    obtain ⟨xs, rn, dd, hd, hzl, mu⟩ := dct_n hK I3 c rfl
    obtain rfl : xs = [] := rn
    have hkey : (nestedKind X.prog X.w).is s2.heap nk b := ⟨nest_is hK I3 _ _ _ _ ry rfl (tkey_some e2).2.1, (tkey_some e2).2.2⟩
    refine pairTrees_nil_walk ⟨[(nk, b, w2)], ⟨rfl, rfl, hkey, True.intro⟩, dd, fun h' tk dd' hs => wpAny_pure ?_⟩
    have rn' : RN G ms2 H2 (dPut [] y2 nk z2) (storedH [] nk b w2) := RN.put (tkey_some e2).2.1 (tkey_some e2).2.2 ry rz rz2 (kvs := []) rfl
    have dd2 : h'.DictOfH (nestedKind X.prog X.w) s.heap.objs.size (storedH [] nk b w2) := dd'
    have g : Gr ms2 H2 ms2 (upd H2 s.heap.objs.size (DctO s.heap.objs.size (storedH [] nk b w2))) := Gr.cell c
    have he : ∃ q, h'.get? s.heap.objs.size = some q := let ⟨q, _, _, hq, _⟩ := dd2; ⟨q, hq⟩
    have hl : (storedH [] nk b w2).length ≤ sizeLine := by rw [rn'.len, sizeLine_eq]; have := length_dPut (kvs := []) (kd := y2) (vd := z2) (k := nk); simp at this; omega
    refine ⟨.ref s.heap.objs.size, _, d_write I3 mu hs he (dctO_ok rn' hd hl dd2), rfl, k3 (.ref s.heap.objs.size) ms2 _ g (S3.put at3 (.inr ⟨dPut_ne, _, upd_same, rn'.gr g⟩)) ?_⟩
    simp only [RV]
    exact ⟨_, rfl, at3⟩
  · exact k3.elim
end
end LF

set_option Elab.async false
set_option linter.all false
set_option maxRecDepth 100000
set_option maxHeartbeats 4000000
/-! dict(pairs); {k: v for ..} -/
namespace LF
open PySem PySem.Spec PyProof.Rows L2
def pairOf : D → Option (D × NestedKey × D)
  | .tup [k, v] => match tkey k with
    | some nk => some (k, nk, v)
    | none => none
  | _ => none
theorem pairOf_some {d k z : D} {nk : NestedKey} (h : pairOf d = some (k, nk, z)) : d = .tup [k, z] ∧ tkey k = some nk := by
  unfold pairOf at h
  split at h
  · split at h
    · rename_i e
      cases h
      exact ⟨rfl, e⟩
    · cases h
  · cases h
def dPuts : List (D × D) → List D → Option (List (D × D))
  | kvs, [] => some kvs
  | kvs, d :: r => match pairOf d with
    | some (k, nk, v) => dPuts (dPut kvs k nk v) r
    | none => none
theorem dPuts_ne : ∀ (es : List D) (acc out : List (D × D)), acc ≠ [] → dPuts acc es = some out → out ≠ []
  | [], acc, out, h, e => by simp only [dPuts] at e; cases e; exact h
  | d :: es, acc, out, h, e => by
    simp only [dPuts] at e
    split at e
    · exact dPuts_ne es _ _ dPut_ne e
    · cases e
def opDictL : List D → O D
  | [.ref r] => fun st => match st[r]? with
    | some (.lst es) => match dPuts [] es with
      | some kvs => some (.ref st.length, st ++ [.dct kvs])
      | none => none
    | _ => none
  | _ => fun _ => none
section
variable {G : Gx} {W : WX} {X : Cx} {σ : L2.St} {H : Hp}
theorem pairs_at {pins : List (Addr × Obj)} {s : Shared} {ms : List Addr} (hK : X.K = G.K) (I : Inv X pins σ H s) : ∀ (es : List D) (vs : List V) (us : List Value) (acc out : List (D × D)) (xs : List (NestedKey × Addr × Value)), RVs G ms H es vs → Vals vs us → dPuts acc es = some out → RN G ms H acc xs →
    ∃ (Ts : List Addr) (ps : List (NestedKey × Addr × Value)), us = Ts.map Value.ref ∧ Ts.length = ps.length ∧ (∀ (j : Nat) x, ps[j]? = some x → ∃ t, Ts[j]? = some t ∧ IsTup s.heap t #[.ref x.2.1, x.2.2]) ∧ (∀ x ∈ ps, (nestedKind X.prog X.w).is s.heap x.1 x.2.1) ∧ RN G ms H out (storedAllH xs ps)
  | [], vs, us, acc, out, xs, r, rv, e, rn => by
    simp only [RVs] at r
    subst r
    cases rv
    simp only [dPuts] at e
    cases e
    exact ⟨[], [], rfl, rfl, (fun j x h => by simp at h), (fun x h => nomatch h), rn⟩
  | d :: es, vs, us, acc, out, xs, r, rv, e, rn => by
    simp only [RVs] at r
    obtain ⟨v, vs, rfl, h1, h2⟩ := r
    cases rv with
    | @cons _ u _ us r1 r2 =>
      simp only [dPuts] at e
      split at e
      · rename_i k nk z ep
        obtain ⟨rfl, ek⟩ := pairOf_some ep
        simp only [RV] at h1
        obtain ⟨t, ws, rfl, h3, h4⟩ := h1
        obtain rfl : u = .ref t := r1
        obtain ⟨its, rw', ht, _⟩ := I.tuple (hK ▸ h3.t)
        obtain ⟨kv, zv, rfl, rk, rz⟩ := h4.two'
        obtain ⟨uk, uz, rfl, ruk, ruz⟩ := vals2 rw'
        obtain ⟨b, rfl⟩ := tkey_ref ek rk
        obtain rfl : uk = .ref b := ruk
        obtain ⟨Ts, ps, e1, e2, e3, e4, e5⟩ := pairs_at hK I es vs us (dPut acc k nk z) out (storedH xs nk b uz) h2 r2 e (RN.put (tkey_some ek).2.1 (tkey_some ek).2.2 rk ruz rz rn)
        refine ⟨t :: Ts, (nk, b, uz) :: ps, by rw [e1, List.map_cons], by rw [List.length_cons, List.length_cons, e2], fun j x hx => ?_, fun x hx => ?_, e5⟩
        · cases j with
          | zero =>
            simp at hx
            subst hx
            exact ⟨t, rfl, ht⟩
          | succ j => simpa using e3 j x (by simpa using hx)
        · rcases List.mem_cons.mp hx with rfl | hx
          · exact ⟨nest_is hK I _ _ _ _ rk rfl (tkey_some ek).2.1, (tkey_some ek).2.2⟩
          · exact e4 x hx
      · cases e
theorem c_dictL (hK : X.K = G.K) (hc : X.calm = true) (hu : X.A.units + 64 < cLine) : CallR X (.type "dict") (rN G opDictL) := by
  intro pins s σ H xs us Q I r ⟨ms, st, ds, S, rs, k⟩
  unfold opDictL at k
  split at k
  · rename_i r0
    split at k
    · rename_i es e1
      split at k
      · rename_i kvs e2
        obtain ⟨v, rfl, rv⟩ := rs.one'
        obtain ⟨u, rfl, ru⟩ := vals1 r
        obtain ⟨a, ws, rfl, ha, h1, h2⟩ := S.ref e1 rv
        obtain rfl : u = .ref a := ru
        obtain ⟨its, rv2, ⟨o, n, ho, hcl, hd, hdat⟩, hz⟩ := I.list (SqL.of h1)
        obtain ⟨Ts, ps, rfl, e4, e5, e6, e7⟩ := pairs_at hK I es ws its [] kvs [] h2 rv2 e2 rfl
        have hlen : Ts.length = ws.length := by have := rv2.length; rw [List.length_map] at this; exact this.symm
        have hps : ps.length ≤ sizeLine := by rw [← e4, hlen]; exact hz
        refine call_dict_pairsH (knd := nestedKind X.prog X.w) (ps := ps) (PairArg.list a ((Ts.map Value.ref).toArray) (fun j => Ts.getD j 0) (ps.map fun x => (Value.ref x.2.1, x.2.2))) (I.ok.hd hc) (by show X.A.units + 1 + 1 + 8 < cLine; omega)
          ⟨⟨o, n, ho, hcl, hd, hdat⟩, by simp [e4], fun j kk vv hj => ?_⟩ ⟨by simp, fun j key vv hj => ?_⟩ (fun h' hk x hx => (nestedKind_stays (prog := X.prog) (w := X.w)).stays (fun b o vs n e _ => hk b o (Nat.ne_of_lt (Heap.lt_size e)) (fun z => nomatch z) e) (e6 x hx)) (by simpa using hps) fun h' tk dd hk => ?_
        · rw [List.getElem?_map, Option.map_eq_some_iff] at hj
          obtain ⟨x, hx, ex⟩ := hj
          cases ex
          obtain ⟨t, ht, hT⟩ := e5 j x hx
          have e8 : Ts.getD j 0 = t := by rw [List.getD_eq_getElem?_getD, ht]; rfl
          refine ⟨by simp [ht], .inl ?_⟩
          show s.heap.IsTuple (Ts.getD j 0) #[.ref x.2.1, x.2.2]
          rw [e8]
          exact hT
        · have hj : (ps.map fun x => (Value.ref x.2.1, x.2.2))[j]? = some (key, vv) := hj
          rw [List.getElem?_map, Option.map_eq_some_iff] at hj
          obtain ⟨x, hx, ex⟩ := hj
          cases ex
          exact ⟨x.1, x.2.1, hx, rfl⟩
        · have hp := I.hok.fresh (Nat.le_refl s.heap.objs.size)
          have hne : (s.heap.objs.size == sysModules) = false := beq_eq_false_iff_ne.mpr (Nat.ne_of_gt I.big)
          have dd2 : h'.DictOfH (nestedKind X.prog X.w) s.heap.objs.size (storedAllH [] ps) := dd
          have keep : ∀ b o, s.heap.get? b = some o → h'.get? b = some o := fun b o e => hk b o (fun z => nomatch z) e
          have hl : (storedAllH [] ps).length ≤ sizeLine := by
            have := storedAllH_length ps ([] : List (NestedKey × Addr × Value))
            simp at this
            omega
          cases kvs with
          | nil =>
            obtain rfl : ps = [] := by
              have := e7.len
              cases ps with
              | nil => rfl
              | cons x ps => cases es with
                | nil =>
                  have := h2.length
                  simp at this
                  subst this
                  simp at hlen
                  subst hlen
                  simp at e4
                | cons d es =>
                  exfalso
                  simp only [dPuts] at e2
                  split at e2
                  · exact dPuts_ne _ _ _ dPut_ne e2 rfl
                  · cases e2
            have g : Gr ms H (ms ++ [s.heap.objs.size]) (upd H s.heap.objs.size (.dK [])) := Gr.new hp [_]
            have S' : SRel G (ms ++ [s.heap.objs.size]) (st ++ [.dct []]) (upd H s.heap.objs.size (.dK [])) := S.new hp (.inl ⟨[], upd_same, rfl⟩)
            obtain ⟨o, es, ep, q1, q2, q3, q4, _, _⟩ := dd2
            have q5 : es = #[] := by
              have : es.toList = [] := q4
              exact Array.toList_eq_nil_iff.mp this
            subst q5
            refine ⟨.ref s.heap.objs.size, _, I.laid (o := .dK []) (t' := tk) keep (Nat.le_refl _) ⟨Nat.zero_le _, hne, [], .nil, o, #[], ep, q1, q2, q3, fun _ h => by simp at h, .nil, List.nodup_nil⟩, rfl, k (.ref s.heap.objs.size) _ _ g S' ?_⟩
            simp only [RV]
            exact ⟨_, rfl, by rw [← S.len]; simp⟩
          | cons p kvs =>
            have g : Gr ms H (ms ++ [s.heap.objs.size]) (upd H s.heap.objs.size (DctO s.heap.objs.size (storedAllH [] ps))) := Gr.new hp [_]
            have S' : SRel G (ms ++ [s.heap.objs.size]) (st ++ [.dct (p :: kvs)]) (upd H s.heap.objs.size (DctO s.heap.objs.size (storedAllH [] ps))) := S.new hp (.inr ⟨by simp, _, upd_same, e7.gr g⟩)
            refine ⟨.ref s.heap.objs.size, _, I.laid (o := DctO s.heap.objs.size (storedAllH [] ps)) (t' := tk) keep (Nat.le_refl _) (dctO_ok e7 hne hl dd2), rfl, k (.ref s.heap.objs.size) _ _ g S' ?_⟩
            simp only [RV]
            exact ⟨_, rfl, by rw [← S.len]; simp⟩
      · exact k.elim
    · exact k.elim
  · exact k.elim
end
end LF

set_option Elab.async false
set_option linter.all false
set_option maxRecDepth 100000
set_option maxHeartbeats 4000000
/-! {k: v for ..} with keys that are nested tuples -/
namespace LF
open PySem PySem.Spec PyProof.Rows L2
section
variable {G : Gx} {W : WX} {X : Cx} {σ : L2.St} {H : Hp}
/-- one entry is stored -/
theorem ds_ok {pins : List (Addr × Obj)} {s : Shared} {D : Addr} {y z : V} {u w : Value} {E : Value → Shared → Prop} {N : Hp → Prop} {Q : Unit → Shared → Prop} (hK : X.K = G.K) (hu : X.A.units + 64 < cLine) (I : Inv X pins σ H s) (ry : RelV y u) (rz : RelV z w) (h : rSet G opDSet (.ref D) y z H N)
    (hQ : ∀ H' s', Inv X pins σ H' s' → N H' → Q () s') : wpAny (model X.prog X.w) X.A (dictSet D u w) Q E s := by
  obtain ⟨ms, st, x, y', z', S, rx, ry', rz', st', e0, k⟩ := h
  unfold opDSet at e0
  split at e0
  · rename_i r
    split at e0
    · rename_i kvs nk e1 e2
      split at e0
      · rename_i hc
        cases e0
        obtain ⟨a, ea, ha, c⟩ := S.dct e1 rx
        cases ea
        obtain ⟨b, rfl⟩ := tkey_ref e2 ry'
        obtain rfl : u = .ref b := ry
        exact dct_put hK I S ha c hc.1 hc.2 e2 ry' rz' rz (fun xs Q hkey dd hz hQ => wpAny_dictSet_heap (hsz := hz) (by show X.A.units + 8 < cLine; omega) hkey dd hQ) fun H' s' I' g S' => hQ H' s' I' (k H' g S')
      · cases e0
    · cases e0
  · cases e0
/-- {k: v for target in iter if ..}: D the new dict -/
def tDcG (G : Gx) (wi : TI) (g : TG) (tt : TT) (tk tv : TE) (vs : List Nat) : TE := fun σ H Q => wi σ H fun J H1 => ∀ D, H1 D = none → ∃ W : Nat → Nat → Hp → Prop, (∃ m, W 0 m (upd H1 D (.dK []))) ∧ ∀ i m H, W i m H →
  (J.stop i H ∧ Q (.ref D) H) ∨ (J.go i H ∧ ∃ Nx : Hp → Prop, (∀ H', Nx H' → ∃ m', m' < m ∧ W (i + 1) m' H') ∧ ∀ x H', J.yld i H x H' → g x (wipe σ vs) H' fun σ2 H2 => wipe σ2 vs = wipe σ vs ∧ tt σ2 H2 fun b H3 =>
    if b = true then tk σ2 H3 fun y H4 => tv σ2 H4 fun z H5 => rSet G opDSet (.ref D) y z H5 Nx else Nx H3)
theorem dcG_core {pins : List (Addr × Obj)} {s : Shared} {σ : L2.St} {H : Hp} {Q : VK} {use : Option (Value → Sem Unit)} {Qf : Value → Shared → Prop} {pos' : Pos} {kx vx tg iter : Expr} {ifs : List Expr} {scope : Scope} {own : List (Str × Nat)} {pos : Pos} {wi : TI} {g : TG} {tt : TT} {tk tv : TE} (hK : X.K = G.K) (hu : X.A.units + 64 < cLine) (hc : X.calm = true) (hN : X.N.Nodup) (I : Inv X pins σ H s) (hi : PI X tg iter wi) (ok : BlkOk X.N X.env.scope scope own)
    (hg : ∀ (s : Shared) (H : Hp) (C : Addr) (cl : List (Str × Addr)) (fp : List Addr), PG (X.blk s H scope (compEnvC scope cl C X.env) fp) tg g) (ht : ∀ (s : Shared) (H : Hp) (C : Addr) (cl : List (Str × Addr)) (fp : List Addr), PTs (X.blk s H scope (compEnvC scope cl C X.env) fp) ifs tt)
    (hk : ∀ (s : Shared) (H : Hp) (C : Addr) (cl : List (Str × Addr)) (fp : List Addr), PE (X.blk s H scope (compEnvC scope cl C X.env) fp) kx tk)
    (he : ∀ (s : Shared) (H : Hp) (C : Addr) (cl : List (Str × Addr)) (fp : List Addr), PE (X.blk s H scope (compEnvC scope cl C X.env) fp) vx tv) (hs : ∀ x, foldedSetIterable iter X.env x = pure x) (h : tDcG G wi g tt tk tv (own.map (·.2)) σ H Q)
    (hRR : ∀ D C s' m H', Inv X pins σ H' s' → Q (.ref D) H' → s'.heap.Ns C m → FpOk X pins H' C → compPost (model X.prog X.w) X.A X.xe use Qf (.ref D) C (.ok .next) s') :
    wpAny (model X.prog X.w) X.A (comprehension (.DictComp kx vx [⟨tg, iter, ifs, 0⟩] scope pos) scope X.env pos' newDict false (eval iter X.env) use) Qf X.xe s := by
  have cells : ∀ y ∈ scope.names, y.2 = .free → ∃ c, X.env.cells.lookup y.1 = some c := fun y hy e => I.ok.has _ (ok.free y hy e)
  refine wpAny_comprehension_free (use := use) rfl hs (closure_ok cells) ok.kind (fun y hy e => by rw [ok.uniq y hy, e]) (thn (hi.run pins s σ H _ I h) fun xv s1 hx => thn hx fun itv s2 ⟨it, fp, tn, J, H2, e, I2, T, st2, f2, q⟩ => ?_)
  subst e
  refine wpAny_newObj_type (newEnv_comp ?_)
  generalize hD : s2.heap.objs.size = D
  have hDn : H2 D = none := I2.hok.fresh (Nat.le_of_eq hD)
  obtain ⟨Wt, ⟨m0, w0⟩, turn⟩ := q D hDn
  -- the new dict stands
  generalize hs3 : ({ s2 with heap := s2.heap.push { cls := .type "dict", data := .dict #[] } } : Shared) = s3
  have h3 : s3.heap = s2.heap.push { cls := .type "dict", data := .dict #[] } := by rw [← hs3]
  have I3 : Inv X pins σ (upd H2 D (.dK [])) s3 := by
    rw [← hs3, ← hD]
    exact I2.laid (t' := s2.toks) (fun b o e => Heap.get?_push_of_some _ e) (Nat.le_refl _) (dk_empty s2.heap I2.big)
  have old : ∀ b ∈ fp, b < s2.heap.objs.size := fun b hb => let ⟨_, e, _⟩ := T.obj _ _ st2 b hb; Heap.lt_size e
  have f3 : ∀ b ∈ fp, FpOk X pins (upd H2 D (.dK [])) b ∧ b < s3.heap.objs.size := fun b hb => by
    have hlt := old b hb
    refine ⟨⟨?_, (f2 b hb).2⟩, by rw [h3, Heap.size_push]; exact Nat.lt_succ_of_lt hlt⟩
    rw [upd_ne (by rw [← hD]; exact Nat.ne_of_lt hlt)]
    exact (f2 b hb).1
  have st3 : tn 0 s3.heap := T.keep _ _ _ st2 fun b _ o e => by rw [h3]; exact Heap.get?_push_of_some _ e
  have I4 := block_start I3 ok hN f3
  generalize eL : s3.heap.objs.size = L at I4
  generalize eC : cellsFrom (L + 1) scope.names (cloFrom X.env.cells scope.names []) = C at I4
  have pg := hg s3 (upd H2 D (.dK [])) L C fp
  have pt := ht s3 (upd H2 D (.dK [])) L C fp
  have pk := hk s3 (upd H2 D (.dK [])) L C fp
  have pv := he s3 (upd H2 D (.dK [])) L C fp
  have eL2 : (s2.heap.push { cls := .type "dict", data := .dict #[] }).objs.size = L := by rw [← eL, h3]
  rw [← h3] at eL2
  have start : codeAny (model X.prog X.w) X.A (.compStart (.DictComp kx vx [⟨tg, iter, ifs, 0⟩] scope pos) 0 (.ref it) (.ref D) (compEnvC scope C L X.env)) (compPost (model X.prog X.w) X.A X.xe use Qf (.ref D) L) { s3 with heap := pushCells (s3.heap.push { cls := .type "dict", data := .dict #[] }) scope.names } := by
    have nfp : ∀ b ∈ fp, (upd H2 D (.dK [])) b = none := fun b hb => (f3 b hb).1.1
    generalize hce : compEnvC scope C L X.env = ce at I4 pg pt pk pv ⊢
    have cL : ce.locals = L := by subst hce; rfl
    generalize hH3 : upd H2 D (.dK []) = H3 at I3 I4 pg pt pk pv w0 nfp f3
    generalize hs4 : ({ s3 with heap := pushCells (s3.heap.push { cls := .type "dict", data := .dict #[] }) scope.names } : Shared) = s4 at I4 ⊢
    have st4 : tn 0 s4.heap := T.keep _ _ _ st3 fun b _ o e => by rw [← hs4]; exact pushCells_keeps _ _ _ _ (Heap.get?_push_of_some _ e)
    have apart : ∀ {σ' : L2.St} {H' : Hp} {s' : Shared}, Inv (X.blk s3 H3 scope ce fp) [] σ' H' s' → (∀ b ∈ fp, H' b = none) → ∀ b ∈ fp, FpOk (X.blk s3 H3 scope ce fp) [] H' b := fun I' hn b hb =>
      ⟨hn b hb, (I'.ok.exf b hb).1, I'.ok.exfs b hb, .inl hb, fun x c e => (I'.ok.exf b hb).2 x c e, fun p hp => absurd (show p ∈ ([] : List (Addr × Obj)) ++ [] from hp) (by simp)⟩
    have loop : codeAny (model X.prog X.w) X.A (.compLoop (.DictComp kx vx [⟨tg, iter, ifs, 0⟩] scope pos) 0 (.ref it) (.ref D) ce) (compPost (model X.prog X.w) X.A X.xe use Qf (.ref D) L) s4 := by
      refine compLoop_anyD (fun n s' => ∃ i H', Inv (X.blk s3 H3 scope ce fp) [] (wipe σ (own.map (·.2))) H' s' ∧ tn i s'.heap ∧ (∀ b ∈ fp, H' b = none) ∧ Wt i n H') ?_ m0 ⟨0, H3, I4, st4, nfp, w0⟩
      rintro n s5 ⟨i, H5, I5, st5, n5, w5⟩
      rcases turn i n H5 w5 with ⟨stop, qq⟩ | ⟨go, Nx, hNx, step⟩
      · refine thnF (T.done (X.blk s3 H3 scope ce fp) rfl rfl rfl hc i [] s5 _ H5 (fun _ _ => False) I5 (apart I5 n5) st5 stop) fun r s6 ⟨hr, I6⟩ => ?_
        subst hr
        have I7 : Inv X pins σ H5 s6 := I3.call' (ch := fp) I6.os I6.base I6.hok I6.bare fun b hb => ⟨(f3 b hb).1.2.2.2.1, (f3 b hb).1.2.1, (f3 b hb).1.2.2.2.2.1, (f3 b hb).1.2.2.2.2.2⟩
        have nC : H5 L = none := by rw [← cL]; exact I6.free
        obtain ⟨m, hn, _⟩ := I6.loc
        have hn : s6.heap.Ns ce.locals m := hn
        rw [cL] at hn
        exact hRR D L s6 m H5 I7 qq hn (I3.fpOk (Nat.le_of_eq eL) nC)
      · refine thnF (T.item (X.blk s3 H3 scope ce fp) rfl rfl rfl hc i [] s5 _ H5 (fun _ _ => False) I5 (apart I5 n5) st5 go) fun r s6 ⟨u, hr, h6⟩ => ?_
        subst hr
        refine thnF h6 fun _ s7 ⟨x, H7, I7, r7, y7, st7, n7⟩ => ?_
        have I7' := I7.pinned (apart I7 n7) (T.obj _ _ st7)
        refine thnF (pg.run _ s7 _ H7 x u _ I7' r7 (step x H7 y7)) fun _ s8 ⟨σ8, H8, I8, hw8, q8⟩ => thnF (pt.run _ s8 σ8 H8 _ I8 q8) fun b s9 ⟨H9, I9, q9⟩ => ?_
        have fin : ∀ {s' : Shared} {H' : Hp}, Inv (X.blk s3 H3 scope ce fp) ([] ++ pinsAt fp s7.heap) σ8 H' s' → Nx H' → ∃ m, m < n ∧ ∃ i H', Inv (X.blk s3 H3 scope ce fp) [] (wipe σ (own.map (·.2))) H' s' ∧ tn i s'.heap ∧ (∀ b ∈ fp, H' b = none) ∧ Wt i m H' := fun {s' H'} I' nx => by
          obtain ⟨m', hm, w'⟩ := hNx H' nx
          have pin : ∀ b ∈ fp, ∀ o, s7.heap.get? b = some o → s'.heap.get? b = some o ∧ H' b = none := fun b hb o e =>
            let z := I'.pin (b, o) (List.mem_append_right _ (List.mem_append_right _ (mem_pinsAt hb e)))
            ⟨z.1, z.2.1⟩
          refine ⟨m', hm, i + 1, H', (I'.unpinned (pins := [])).weak (by rw [← hw8, wipe_length]) (fun j v e => ?_), T.keep _ _ _ st7 fun b hb o e => (pin b hb o e).1, fun b hb => ?_, w'⟩
          · rw [← hw8] at e
            exact (wipe_some e).1
          · obtain ⟨o, e, _⟩ := T.obj _ _ st7 b hb
            exact (pin b hb o e).2
        cases b with
        | false =>
          simp only [Bool.false_eq_true, if_false] at q9 ⊢
          exact fin I9 q9
        | true =>
          simp only [if_true] at q9 ⊢
          refine thnF (pk.run _ s9 σ8 H9 _ I9 q9) fun z s10 ⟨yk, H10, I10, r10, q10⟩ => thnF (pv.run _ s10 σ8 H10 _ I10 q10) fun z2 s11 ⟨yv, H11, I11, r11, ds⟩ => ?_
          exact ds_ok (X := X.blk s3 H3 scope ce fp) hK hu I11 r10 r11 ds fun H12 s12 I12 nx => fin I12 nx
    exact codeAny_compStart_dict loop (T.self X.A 0 _ _ _ st4 loop)
  subst eC
  subst eL
  exact start
theorem pe_dcG {kx vx tg iter : Expr} {ifs : List Expr} {scope : Scope} {own : List (Str × Nat)} {pos : Pos} {wi : TI} {g : TG} {tt : TT} {tk tv : TE} (hK : X.K = G.K) (hu : X.A.units + 64 < cLine) (hc : X.calm = true) (hN : X.N.Nodup) (hi : PI X tg iter wi) (ok : BlkOk X.N X.env.scope scope own)
    (hg : ∀ (s : Shared) (H : Hp) (C : Addr) (cl : List (Str × Addr)) (fp : List Addr), PG (X.blk s H scope (compEnvC scope cl C X.env) fp) tg g) (ht : ∀ (s : Shared) (H : Hp) (C : Addr) (cl : List (Str × Addr)) (fp : List Addr), PTs (X.blk s H scope (compEnvC scope cl C X.env) fp) ifs tt)
    (hk : ∀ (s : Shared) (H : Hp) (C : Addr) (cl : List (Str × Addr)) (fp : List Addr), PE (X.blk s H scope (compEnvC scope cl C X.env) fp) kx tk)
    (he : ∀ (s : Shared) (H : Hp) (C : Addr) (cl : List (Str × Addr)) (fp : List Addr), PE (X.blk s H scope (compEnvC scope cl C X.env) fp) vx tv) (hs : ∀ x, foldedSetIterable iter X.env x = pure x := by intro _; rfl) :
    PE X (.DictComp kx vx [⟨tg, iter, ifs, 0⟩] scope pos) (tDcG G wi g tt tk tv (own.map (·.2))) := by
  refine ⟨fun pins s σ H Q I h => ?_⟩
  rw [arm_eval_DictComp]
  exact dcG_core hK hu hc hN I hi ok hg ht hk he hs h fun D C s' m H' I' q hn ⟨a0, a1, a2, a3, a4, a5⟩ => ⟨m, hn, fun h'' sb => ⟨.ref D, H', I'.turned (t' := s'.toks) (fun b o hb e => (sb.2 b hb).trans e) a0 a1 a3 a4 a5, rfl, q⟩⟩
theorem ps_setDcG {i : Nat} {y : Str} {py spos : Pos} {kx vx tg iter : Expr} {ifs : List Expr} {scope : Scope} {own : List (Str × Nat)} {pos : Pos} {wi : TI} {g : TG} {tt : TT} {tk tv : TE} (hK : X.K = G.K) (hu : X.A.units + 64 < cLine) (hc : X.calm = true) (hN : X.N.Nodup) (hy : X.N[i]? = some y) (hyl : X.env.scope.names.lookup y = some .local)
    (hsw : swapsWith (.DictComp kx vx [⟨tg, iter, ifs, 0⟩] scope pos) (some (.Name y py)) spos.line X.env = pure true) (hi : PI X tg iter wi) (ok : BlkOk X.N X.env.scope scope own)
    (hg : ∀ (s : Shared) (H : Hp) (C : Addr) (cl : List (Str × Addr)) (fp : List Addr), PG (X.blk s H scope (compEnvC scope cl C X.env) fp) tg g) (ht : ∀ (s : Shared) (H : Hp) (C : Addr) (cl : List (Str × Addr)) (fp : List Addr), PTs (X.blk s H scope (compEnvC scope cl C X.env) fp) ifs tt)
    (hk : ∀ (s : Shared) (H : Hp) (C : Addr) (cl : List (Str × Addr)) (fp : List Addr), PE (X.blk s H scope (compEnvC scope cl C X.env) fp) kx tk)
    (he : ∀ (s : Shared) (H : Hp) (C : Addr) (cl : List (Str × Addr)) (fp : List Addr), PE (X.blk s H scope (compEnvC scope cl C X.env) fp) vx tv) (hs : ∀ x, foldedSetIterable iter X.env x = pure x := by intro _; rfl) :
    PS X (.Assign [.Name y py] (.DictComp kx vx [⟨tg, iter, ifs, 0⟩] scope pos) spos) (tAsg (tDcG G wi g tt tk tv (own.map (·.2))) (gName i)) := by
  refine ⟨fun pins s σ H D I h => ?_⟩
  rw [exec_Assign_Name_used _ _ _ _ hsw]
  refine wpAny_bind (wpAny_standAt (wpAny_bind ?_))
  show wpAny _ X.A (do let _ ← comprehension (.DictComp kx vx [⟨tg, iter, ifs, 0⟩] scope pos) scope X.env (firstIterPos [⟨tg, iter, ifs, 0⟩] pos) newDict false (eval iter X.env) (some (assign (.Name y py) X.env))) _ _ s
  have h : tDcG G wi g tt tk tv (own.map (·.2)) σ H (fun x H1 => gName i x σ H1 D.nx) := h
  refine wpAny_bind (thn (dcG_core (Qf := fun _ s' => SP X pins D .next s') hK hu hc hN I hi ok hg ht hk he hs h fun L C s' m H' I' q hn ⟨f0, f1, f2, f3, f4, f5⟩ => ?_) fun _ s' hq => wpAny_pure (wpAny_pure hq))
  refine wpAny_assign_Name (store_ok2 (v := V.ref L) I' hN hy (.inl hyl) rfl (fun s2 I2 ⟨a, sb, ha⟩ => ?_) (.inr hyl))
  refine ⟨m, hn.sameBut sb (ha.elim (fun z => z ▸ f1) fun z e => f4 y a z e.symm), fun h3 sb3 => ?_⟩
  exact ⟨_, H', I2.turned (t' := s2.toks) (fun b o hb e => (sb3.2 b hb).trans e) f0 f1 f3 f4 f5, q⟩
theorem sw_trueDc {kx vx : Expr} {gs : List Comprehension} {scope : Scope} {pos py : Pos} {y : Str} {l : Nat} {env : Env} (hk : env.scope.kind = .function) (hy : env.scope.names.lookup y = some .local) (hl : (py.line == pos.line) = true)
    (ha : (scope.names.any fun (n, k) => n == y && (k == .local || k == .cell)) = false) : swapsWith (.DictComp kx vx gs scope pos) (some (.Name y py)) l env = pure true := by
  have ky : env.kindOf y = some .local := hy
  have hb : env.blockKind = .function := by unfold Env.blockKind; rw [hk]; rfl
  unfold swapsWith
  simp only [hb, ky, ha, Expr.pos, hl]
  rfl
end
end LF

set_option Elab.async false
set_option linter.all false
set_option maxRecDepth 100000
set_option maxHeartbeats 4000000
/-! {k: v for ..}, the reading -/
namespace LF
open PySem PySem.Spec PyProof.Rows L2
section
variable {G : Gx} {W : WX} {X : Cx} {σ : L2.St} {H : Hp}
open Classical in
noncomputable def dcS (p : Its) (vs : List Nat) (t : Tg) (c : T) (k v : E) (L : Nat) (env : Sl) : List D → Sto → Option Sto
  | [] => fun st => if p.okB st then some st else none
  | d :: ds => fun st => if p.okB st then match Tg.sem st t d (wipeD env vs) with
      | some e1 => match c e1 st with
        | .ok true s => match k e1 s with
          | .ok y s => match v e1 s with
            | .ok z s => match opDSet (.ref L) y z s with
              | some (_, s) => dcS p vs t c k v L env ds s
              | none => none
            | _ => none
          | _ => none
        | .ok false s => dcS p vs t c k v L env ds s
        | _ => none
      | none => none
    else none
noncomputable def eDc (vs : List Nat) (it : Sl → M Its) (t : Tg) (c : T) (k v : E) : E := fun env st => (it env st).bind fun p s => match dcS p vs t c k v s.length env p.items (s ++ [.dct []]) with
  | some s' => .ok (.ref s.length) s'
  | none => .bad
theorem wipe_wipe : ∀ (l : List Nat) (τ : L2.St), L2.wipe (L2.wipe τ l) l = L2.wipe τ l := by
  intro l
  induction l with
  | nil => intro τ; rfl
  | cons w l ih =>
    intro τ
    show (L2.wipe ((L2.wipe τ l).set w none) l).set w none = (L2.wipe τ l).set w none
    by_cases hw : w ∈ l
    · rw [wipe_set hw, ih]
    · have out : ∀ (m : List Nat) (τ : L2.St), w ∉ m → L2.wipe (τ.set w none) m = (L2.wipe τ m).set w none := by
        intro m
        induction m with
        | nil => intro τ _; rfl
        | cons u m ihm =>
          intro τ hu
          simp only [List.mem_cons, not_or] at hu
          unfold L2.wipe
          rw [ihm τ hu.2, List.set_comm _ _ hu.1]
      rw [out l _ hw, List.set_set, ih]
theorem dc_tDc {vs : List Nat} {it : Sl → M Its} {t : Tg} {tc : T} {fk fv : E} {Q : VK} (hv : ∀ i ∈ Tg.names t, i ∈ vs) (h : tE G W (eDc vs it t tc fk fv) σ H Q) : tDcG G (tI G W it) (Tg.tg G.K t) (tT G W0 tc) (tE G W0 fk) (tE G W0 fv) vs σ H Q :=
  tX_mono (tX_bind h) fun J H1 ⟨ms, st, env, p, S, r, r1, k⟩ => by
    intro Dl hD
    split at k
    · rename_i sf ef
      have g0 : Gr ms H1 (ms ++ [Dl]) (upd H1 Dl (.dK [])) := Gr.new hD [Dl]
      refine ⟨fun i m H' => ∃ ms' st', Gr (ms ++ [Dl]) (upd H1 Dl (.dK [])) ms' H' ∧ SRel G ms' st' H' ∧ i ≤ p.items.length ∧ m = p.items.length - i ∧ dcS p vs t tc fk fv st.length env (p.items.drop i) st' = some sf,
        ⟨p.items.length, ms ++ [Dl], st ++ [.dct []], Gr.refl, S.new (c := .dct []) hD (.inl ⟨[], upd_same, rfl⟩), Nat.zero_le _, rfl, by rw [List.drop_zero]; exact ef⟩, ?_⟩
      rintro i m H' ⟨ms', st', g', S', hi, rfl, k'⟩
      have hL : ms'[st.length]? = some Dl := g'.at (by rw [← S.len]; simp)
      by_cases hlt : i < p.items.length
      · rw [List.drop_eq_getElem_cons hlt] at k'
        simp only [dcS] at k'
        split at k'
        · rename_i ok
          obtain ⟨h1, h2⟩ := (r1 i ms' H' st' (g0.trans g') S' ok).1 hlt
          refine .inr ⟨h1, fun H2 => ∃ ms2 st2, Gr (ms ++ [Dl]) (upd H1 Dl (.dK [])) ms2 H2 ∧ SRel G ms2 st2 H2 ∧ dcS p vs t tc fk fv st.length env (p.items.drop (i + 1)) st2 = some sf, fun H2 ⟨ms2, st2, g2, S2, k2⟩ =>
            ⟨p.items.length - (i + 1), by omega, ms2, st2, g2, S2, hlt, rfl, k2⟩, fun x H2 y => ?_⟩
          obtain ⟨d, e1, g2, S2, rx⟩ := h2 x H2 y
          have ed : p.items[i] = d := by
            rw [List.getElem?_eq_getElem hlt] at e1
            exact Option.some.inj e1
          rw [ed] at k'
          split at k'
          · rename_i e he
            have rw1 := (r.gr ((g0.trans g').trans g2)).wipe vs
            obtain ⟨σ2, a, b, cw⟩ := Tg.ok S2 t d _ e x _ he rx rw1
            refine b _ ⟨by rw [cw vs hv, wipe_wipe], ms', st', e, S2, a, ?_⟩
            cases e4 : tc e st' with
            | ok b4 s4 =>
              rw [e4] at k'
              intro b5 m5 H5 g5 S5 r5
              cases r5
              cases b4 with
              | true =>
                rw [if_pos rfl]
                refine ⟨m5, s4, e, S5, a.gr g5, ?_⟩
                simp only at k'
                cases e6 : fk e s4 with
                | ok y6 s6 =>
                  rw [e6] at k'
                  simp only at k'
                  intro v6 m6 H6 g6 S6 r6
                  refine ⟨m6, s6, e, S6, (a.gr g5).gr g6, ?_⟩
                  cases e7 : fv e s6 with
                  | ok z7 s7 =>
                    rw [e7] at k'
                    simp only at k'
                    intro v7 m7 H7 g7 S7 r7
                    have hLL : m7[st.length]? = some Dl := (((g2.trans g5).trans g6).trans g7).at hL
                    split at k'
                    · rename_i s8 e8
                      refine ⟨m7, s7, .ref st.length, y6, z7, S7, (by simp only [RV]; exact ⟨Dl, rfl, hLL⟩), RV.gr g7 _ _ r6, r7, s8, e8, fun H8 g8 S8 => ?_⟩
                      exact ⟨m7, s8, ((((g'.trans g2).trans g5).trans g6).trans g7).trans g8, S8, k'⟩
                    · cases k'
                  | exn c fs s => rw [e7] at k'; cases k'
                  | bad => rw [e7] at k'; cases k'
                | exn c fs s => rw [e6] at k'; cases k'
                | bad => rw [e6] at k'; cases k'
              | false =>
                rw [if_neg Bool.false_ne_true]
                exact ⟨m5, s4, (g'.trans g2).trans g5, S5, k'⟩
            | exn c fs s => rw [e4] at k'; cases k'
            | bad => rw [e4] at k'; cases k'
          · cases k'
        · cases k'
      · have hn : p.items.drop i = [] := List.drop_eq_nil_of_le (Nat.le_of_not_lt hlt)
        rw [hn] at k'
        simp only [dcS] at k'
        split at k'
        · rename_i ok
          cases k'
          refine .inl ⟨(r1 i ms' H' sf (g0.trans g') S' ok).2 (Nat.le_of_not_lt hlt), k (.ref Dl) ms' H' (g0.trans g') S' ?_⟩
          simp only [RV]
          exact ⟨Dl, rfl, hL⟩
        · cases k'
    · exact k.elim
theorem e_dc {kx vx tg iter : Expr} {ifs : List Expr} {scope : Scope} {own : List (Str × Nat)} {pos : Pos} {it : Sl → M Its} {t : Tg} {tc : T} {fk fv : E} (hK : X.K = G.K) (hu : X.A.units + 64 < cLine) (hc : X.calm = true) (hN : X.N.Nodup) (hi : PI X tg iter (tI G W it)) (ok : BlkOk X.N X.env.scope scope own)
    (hg : ∀ (s : Shared) (H : Hp) (C : Addr) (cl : List (Str × Addr)) (fp : List Addr), PG (X.blk s H scope (compEnvC scope cl C X.env) fp) tg (Tg.tg G.K t)) (ht : ∀ (s : Shared) (H : Hp) (C : Addr) (cl : List (Str × Addr)) (fp : List Addr), PTs (X.blk s H scope (compEnvC scope cl C X.env) fp) ifs (tT G W0 tc))
    (hk : ∀ (s : Shared) (H : Hp) (C : Addr) (cl : List (Str × Addr)) (fp : List Addr), PE (X.blk s H scope (compEnvC scope cl C X.env) fp) kx (tE G W0 fk)) (he : ∀ (s : Shared) (H : Hp) (C : Addr) (cl : List (Str × Addr)) (fp : List Addr), PE (X.blk s H scope (compEnvC scope cl C X.env) fp) vx (tE G W0 fv))
    (hv : ∀ i ∈ Tg.names t, i ∈ own.map (·.2) := by decide) (hs : ∀ x, foldedSetIterable iter X.env x = pure x := by intro _; rfl) :
    PE X (.DictComp kx vx [⟨tg, iter, ifs, 0⟩] scope pos) (tE G W (eDc (own.map (·.2)) it t tc fk fv)) :=
  PE_weak (pe_dcG hK hu hc hN hi ok hg ht hk he hs) fun σ H Q h => dc_tDc hv h
theorem s_setDc {i : Nat} {y : Str} {py : Pos} {kx vx tg iter : Expr} {ifs : List Expr} {scope : Scope} {own : List (Str × Nat)} {pos spos : Pos} {it : Sl → M Its} {t : Tg} {tc : T} {fk fv : E} (hK : X.K = G.K) (hu : X.A.units + 64 < cLine) (hc : X.calm = true) (hN : X.N.Nodup) (hi : PI X tg iter (tI G W it)) (ok : BlkOk X.N X.env.scope scope own)
    (hsw : swapsWith (.DictComp kx vx [⟨tg, iter, ifs, 0⟩] scope pos) (some (.Name y py)) spos.line X.env = pure true)
    (hg : ∀ (s : Shared) (H : Hp) (C : Addr) (cl : List (Str × Addr)) (fp : List Addr), PG (X.blk s H scope (compEnvC scope cl C X.env) fp) tg (Tg.tg G.K t)) (ht : ∀ (s : Shared) (H : Hp) (C : Addr) (cl : List (Str × Addr)) (fp : List Addr), PTs (X.blk s H scope (compEnvC scope cl C X.env) fp) ifs (tT G W0 tc))
    (hk : ∀ (s : Shared) (H : Hp) (C : Addr) (cl : List (Str × Addr)) (fp : List Addr), PE (X.blk s H scope (compEnvC scope cl C X.env) fp) kx (tE G W0 fk)) (he : ∀ (s : Shared) (H : Hp) (C : Addr) (cl : List (Str × Addr)) (fp : List Addr), PE (X.blk s H scope (compEnvC scope cl C X.env) fp) vx (tE G W0 fv))
    (hv : ∀ i ∈ Tg.names t, i ∈ own.map (·.2) := by decide) (hy : X.N[i]? = some y := by rfl) (hyl : X.env.scope.names.lookup y = some .local := by rfl) (hs : ∀ x, foldedSetIterable iter X.env x = pure x := by intro _; rfl) :
    PS X (.Assign [.Name y py] (.DictComp kx vx [⟨tg, iter, ifs, 0⟩] scope pos) spos) (tS G W (sAsg (.name i) (eDc (own.map (·.2)) it t tc fk fv))) :=
  PS_weak (ps_setDcG hK hu hc hN hy hyl hsw hi ok hg ht hk he hs) fun K σ H h => by
    have q := asg_fin h
    simp only [Tg.tg] at q
    exact dc_tDc hv q
end
end LF

set_option Elab.async false
set_option linter.all false
set_option maxRecDepth 100000
set_option maxHeartbeats 4000000
/-! the end with a table, where no repr is under way; what is never reached -/
namespace LF
open PySem PySem.Spec PyProof.Rows L2
section
variable {G : Gx} {W : WX} {X : Cx} {σ : L2.St} {H : Hp}
/-- an expression that no promise reaches -/
def eNever : E := fun _ _ => .bad
theorem e_never {e : Expr} : PE X e (tE G W eNever) := ⟨fun _ _ _ _ _ _ ⟨_, _, _, _, _, k⟩ => k.elim⟩
end
theorem end_okTG {K : PySem.W.Frag} {tb : Nat → Addr} {P : Program} {w : World} {mg : Str → Option Value} {base : Heap} {k : Nat} {f : Addr} {cs : List (Addr × Str)} {fd : FuncData} {g : F} (h : FnG P w K mg base k f fd ["script"] (spF ⟨K, tb, none, cs⟩ g))
    (hg : ∀ ns : List Int, ns.length ≤ 63 → ∀ d st, ((d = .scr ns ∧ st = []) ∨ (d = .ref 0 ∧ st = [.lst (ns.map D.int)])) → ∃ s, g [d] st = .ok (.bl true) s) :
    FnG P w K mg base k f fd ["script"] (fun vs H Q _ => ∃ (a : Addr) (ns : List Int), vs = [.ref a] ∧ ns.length ≤ 63 ∧ (∀ c ∈ cs, H c.1 = some (.tbl #[])) ∧ SqL K H a (ns.map V.int) ∧ ∀ H', Q (.bl true) H') := h.imp fun vs H Q E qq => by
  obtain ⟨a, ns, rfl, hl, hT, hS, qq⟩ := qq
  have tabs : LamX.Tabs cs H := fun p hp => LamX.TabS.nil (hT p hp)
  have fin : ∀ (ms : List Addr) (d : D) (st : Sto), ((d = .scr ns ∧ st = []) ∨ (d = .ref 0 ∧ st = [.lst (ns.map D.int)])) → SRel ⟨K, tb, none, cs⟩ ms st H → RV ⟨K, tb, none, cs⟩ ms H d (.ref a) → spF ⟨K, tb, none, cs⟩ g [.ref a] H Q E := fun ms d st hd S r => by
    obtain ⟨s, e⟩ := hg ns hl d st hd
    refine ⟨ms, st, [d], S, RVs.one r, ?_⟩
    rw [e]
    intro v m1 H1 _ _ r
    simp only [RV] at r
    subst r
    exact qq H1
  have scr : SqS K H a (ns.map V.int) → spF ⟨K, tb, none, cs⟩ g [.ref a] H Q E := fun hs => by
    refine fin [] (.scr ns) [] (.inl ⟨rfl, rfl⟩) ⟨rfl, List.nodup_nil, (fun i a c h _ => by simp at h), (fun a d fs z => by cases z), tabs⟩ ?_
    simp only [RV]
    exact ⟨a, rfl, hs⟩
  rcases hS with (hS | ⟨o, hS⟩) | hS
  · refine fin [a] (.ref 0) _ (.inr ⟨rfl, rfl⟩) ⟨rfl, by simp, fun i b cl h1 h2 => ?_, (fun a d fs z => by cases z), tabs⟩ ?_
    · cases i with
      | zero =>
        simp at h1 h2
        subst h1 h2
        exact ⟨_, hS, RVs.ints ns⟩
      | succ i => simp at h1
    · simp only [RV]
      exact ⟨a, rfl, rfl⟩
  · exact scr (.inl ⟨o, hS⟩)
  · exact scr (.inr hS)
end LF

set_option Elab.async false
set_option linter.all false
set_option maxRecDepth 100000
set_option maxHeartbeats 4000000
/-! a lambda handed to a def that tries it and drops what it tells -/
namespace LF
open PySem PySem.Spec PyProof.Rows L2
/-- what the def makes of the call's end: n names, what is told is dropped -/
noncomputable def foundD (n : Nat) (hs : List Hx) (fr : E) (r : Res D) : Res D := match r with
  | .ok d s => match fr (List.replicate n none) s with
    | .ok x s' => .ok x s'
    | _ => .bad
  | .exn c fs s => match hGo c fs (List.replicate n none) s hs with
    | .rt d s' => .ok d s'
    | _ => .bad
  | .bad => .bad
noncomputable def eFoundD (n : Nat) (hs : List Hx) (fr : E) (th : E) : E := fun env st => foundD n hs fr (th env st)
def TTd (G : Gx) (n : Nat) (hs : List Hx) (fr : E) : (XK → Hp → VK → Prop) → Hp → VK → Prop := fun tl H Q =>
  tl (fun cls od H' => ∃ c fs st ms, cls = .ref (G.tb c) ∧ SRel G ms st H' ∧ XRel G ms H' fs od ∧ Okk (RV G) G F0 Q ms H' (foundD n hs fr (.exn c fs st)))
    H (fun v H' => ∃ ms st d, SRel G ms st H' ∧ RV G ms H' d v ∧ Okk (RV G) G F0 Q ms H' (foundD n hs fr (.ok d st)))
section
variable {G : Gx} {W : WX} {X : Cx} {σ : L2.St} {H : Hp}
theorem found_givesD (h0 : G.xi = none) {Ng : List Str} {x a q : Str} {sg : Scope} {g : Addr} {cdg : Value} {hd1 : ExceptHandler} {hds : List ExceptHandler} {l : List Hx} {fr : E} {ret : Expr} {p1 p2 p3 p4 p6 : Pos}
    (hN : Ng.Nodup) (hst : ∀ f : Addr, (L2.start Ng [V.ref f])[0]? = some (some (V.ref f))) (hln : ∀ f : Addr, (L2.start Ng [V.ref f]).length = Ng.length)
    (hsw : ∀ env : Env, swapsWith (.Call (.Name a p1) [] [] p2) none p3.line env = pure false)
    (hh : ∀ (s : Shared) (H : Hp), HxOk (cxOf C8.CX0 X.prog X.w X.K X.mg X.base Ng x sg g cdg X.A X.stack s H C8.E0).nox G (hd1 :: hds) l)
    (hr : ∀ (s : Shared) (H : Hp), PE (cxOf C8.CX0 X.prog X.w X.K X.mg X.base Ng x sg g cdg X.A X.stack s H C8.E0).nox ret (tE G W0 fr)) :
    LamX.GivesTo X Ng x sg g cdg [.Try [.Expr (.Call (.Name a p1) [] [] p2) p3] (hd1 :: hds) [] [] p4, .Return (some ret) p6] a q (TTd G Ng.length l fr) := by
  intro f c' s H Q tl act hc h
  let D0 : Ends := { nx := fun _ H' => Q .non H', rt := Q }
  have body : ∀ (W : WX) (pn : List (Addr × Obj)) (xe : Value → Shared → Prop), Takes ((cxOf C8.CX0 X.prog X.w X.K X.mg X.base Ng x sg g cdg X.A X.stack s H C8.E0).nox.tr pn xe) W →
      PassesOwn (model X.prog X.w) (cxOf C8.CX0 X.prog X.w X.K X.mg X.base Ng x sg g cdg X.A X.stack s H C8.E0).nox.A (cxOf C8.CX0 X.prog X.w X.K X.mg X.base Ng x sg g cdg X.A X.stack s H C8.E0).nox.env xe →
      PSs ((cxOf C8.CX0 X.prog X.w X.K X.mg X.base Ng x sg g cdg X.A X.stack s H C8.E0).nox.tr pn xe) [.Expr (.Call (.Name a p1) [] [] p2) p3]
        (fun D σ H => ∃ (Ech : XK) (Q1 : VK), (∀ cls d σ' H', Ech cls d H' → σ'.length = Ng.length → W cls d σ' H') ∧ σ[0]? = some (some (.ref f)) ∧ H c' = some (LamX.CodeO c' q) ∧ tl Ech H Q1 ∧ ∀ v H', Q1 v H' → D.nx σ H') := by
    intro W pn xe tk _
    refine ⟨fun pins s' σ H' D I h' => ?_⟩
    obtain ⟨Ech, Q1, hW, h1, h2, h3, h4⟩ := h'
    have hp := act (fun cls d σ' H' => σ'.length = Ng.length → W cls d σ' H') pn xe Ech p1 p2 (takes_len tk) hW
    exact (pss_one (ps_expr (pos := p3) (PE_up hp) (hsw _))).run pins s' σ H' D I ⟨Q1, ⟨h1, h2, h3⟩, h4⟩
  refine ⟨_, pss_cons (ps_try_mix (X := (cxOf C8.CX0 X.prog X.w X.K X.mg X.base Ng x sg g cdg X.A X.stack s H C8.E0).nox) (Wout := W0) rfl rfl LamX.takes0 body (mix_of (hh s H))) (pss_one (ps_ret (hr s H))), ?_⟩
  refine ⟨fun cls od H' => ∃ c fs st ms, cls = .ref (G.tb c) ∧ SRel G ms st H' ∧ XRel G ms H' fs od ∧ Okk (RV G) G F0 Q ms H' (foundD Ng.length l fr (.exn c fs st)), _, ?_, hst f, hc, h, ?_⟩
  · intro cls od σ' H' hE hl
    obtain ⟨c, fs, st, ms, rfl, S, xr, k⟩ := hE
    refine try_go (W := W0) (ms := ms) (H := H') h0 (hh s H) (e := List.replicate Ng.length none) (st := st) ?_ od σ' ms H' Gr.refl S (by rw [← hl]; exact re_none) xr
    unfold foundD at k
    dsimp only at k
    cases e : hGo c fs (List.replicate Ng.length none) st l with
    | rt d s' =>
      rw [e] at k
      exact fun v m2 H2 g2 S2 r2 => k v m2 H2 g2 S2 r2
    | nx e2 s2 => rw [e] at k; exact k.elim
    | bk e2 s2 => rw [e] at k; exact k.elim
    | ct e2 s2 => rw [e] at k; exact k.elim
    | exn c2 f2 e2 s2 => rw [e] at k; exact k.elim
    | bad => rw [e] at k; exact k.elim
  · rintro v H' ⟨ms, st, d, S, rv, k⟩
    refine ⟨ms, st, List.replicate Ng.length none, S, (by rw [← hln f]; exact re_none), ?_⟩
    unfold foundD at k
    dsimp only at k
    cases e : fr (List.replicate Ng.length none) st with
    | ok y s' =>
      rw [e] at k
      exact k
    | exn c2 f2 s2 => rw [e] at k; exact k.elim
    | bad => rw [e] at k; exact k.elim
/-- x(lambda: body), x the def that tries it -/
theorem e_foundD {x a : Str} {g c P : Addr} {k n : Nat} {st : Stmt} {Ng : List Str} {params : Arguments} {body : Expr} {scope : Scope} {p lpos pos : Pos} {l : List Hx} {fr fe : E} {fg : FuncData} {hd1 : ExceptHandler} {hds : List ExceptHandler} {ret : Expr} {p1 p2 p3 p4 p6 : Pos}
    (h0 : G.xi = none) (Fg : Fun X.K x x st g fg) (hg : Gl X x) (hm : X.mg x = some (.ref g)) (hb : Binds X.K fg [a] []) (Sg : FnScope Ng [a] (defScope st))
    (hbd : defBody st = [.Try [.Expr (.Call (.Name a p1) [] [] p2) p3] (hd1 :: hds) [] [] p4, .Return (some ret) p6])
    (hva : Vis (defScope st) a) (hNg : Ng[0]? = some a)
    (hsw : ∀ env : Env, swapsWith (.Call (.Name a p1) [] [] p2) none p3.line env = pure false)
    (hh : ∀ (cdg : Value) (s : Shared) (H : Hp), HxOk (cxOf C8.CX0 X.prog X.w X.K X.mg X.base Ng x (defScope st) g cdg X.A X.stack s H C8.E0).nox G (hd1 :: hds) l)
    (hrt : ∀ (cdg : Value) (s : Shared) (H : Hp), PE (cxOf C8.CX0 X.prog X.w X.K X.mg X.base Ng x (defScope st) g cdg X.A X.stack s H C8.E0).nox ret (tE G W0 fr))
    (hn : n = Ng.length) (TB : LamX.TabB X.base X.mg c P) (hcode : X.env.code = .ref c) (hT : G.T = [(P, X.env.qual ++ "<lambda>")]) (hr : Room (k + 2) X.A) (L : LamX.LamS X.env.scope scope) (hdef : defaultsOf params X.env = ([], []))
    (hbind : ∀ (q : Str) (cl : List (Str × Addr)) (pm cv ctv : Value), bindArgs (PySem.W.kla_fn "<lambda>" q params body scope cl pm cv ctv) ⟨[], []⟩ = pure [])
    (hbody : ∀ (A : Around) (outer : List Env) (s : Shared) (H : Hp) (E : XK) (f c' : Addr), Room k (A.deeper (LamX.lamEnv X scope s.heap.objs.size f c')) → PE (LamX.lamCx X A outer s H E scope f c') body (tE G (fun c d _ H => E c d H) fe))
    (hst : ∀ f : Addr, (L2.start Ng [V.ref f])[0]? = some (some (V.ref f)) := by intro _; rfl) (hln : ∀ f : Addr, (L2.start Ng [V.ref f]).length = Ng.length := by intro _; rfl)
    (hdb : (x == ("__debug__" : Str)) = false := by decide) (hd : (a == ("__debug__" : Str)) = false := by decide) (hcd : (a == ("__classdict__" : Str)) = false := by decide) :
    PE X (.Call (.Name x p) [.Lambda params body scope lpos] [] pos) (tE G W (eFoundD n l fr fe)) := by
  obtain ⟨oc, od, kV, doc, pm, an, cdv, ct, osl, rfl, lk, hcg⟩ := Fg.ex
  rw [hbd] at lk hb
  subst hn
  have hm1 : (P, X.env.qual ++ "<lambda>") ∈ G.T := by rw [hT]; exact List.mem_singleton.mpr rfl
  refine PE_weak (LamX.pe_lamcall (T := G.T) (TT := TTd G Ng.length l fr) (t := fun E => tE G (fun c d _ H => E c d H) fe) (dV := .none) hg hm Fg.kp lk hcg hb Sg hNg hva (found_givesD h0 Sg.nd hst hln hsw (hh cdv) (hrt cdv)) TB hcode hm1
    (fun q hq _ => by rw [hT] at hq; rw [List.mem_singleton.mp hq]) hr L hdef hbind hbody hdb hd hcd) fun σ H Q q => ?_
  obtain ⟨ms, st, env, S, re, q⟩ := q
  refine ⟨S.tabs, fun H1 eN t1 => ?_⟩
  have S1 := S.extN eN t1
  have g1 := ext_gr (ms := ms) eN
  refine ⟨ms, st, env, S1, re.gr g1, ?_⟩
  unfold eFoundD at q
  have q1 := Okk.gr g1 q
  cases e : fe env st with
  | ok d s =>
    rw [e] at q1
    intro v m2 H2 g2 S2 r2
    refine ⟨m2, s, d, S2, r2, ?_⟩
    have q2 := Okk.gr g2 q1
    revert q2
    cases ef : foundD Ng.length l fr (.ok d s) with
    | ok y t => exact fun z => z
    | exn c2 f2 t2 =>
      exfalso
      unfold foundD at ef
      dsimp only at ef
      split at ef <;> cases ef
    | bad => exact fun z => z.elim
  | exn c2 fs s =>
    rw [e] at q1
    intro od m2 H2 g2 S2 xr
    refine ⟨c2, fs, s, m2, rfl, S2, xr, ?_⟩
    have q2 := Okk.gr g2 q1
    revert q2
    cases ef : foundD Ng.length l fr (.exn c2 fs s) with
    | ok y t => exact fun z => z
    | exn c3 f3 t3 =>
      exfalso
      unfold foundD at ef
      dsimp only at ef
      split at ef <;> cases ef
    | bad => exact fun z => z.elim
  | bad =>
    rw [e] at q1
    exact q1.elim
end
end LF

set_option Elab.async false
set_option linter.all false
set_option maxRecDepth 100000
set_option maxHeartbeats 4000000
/-! exceptions as values: made, asked, read -/
namespace LF
open PySem PySem.Spec PyProof.Rows L2
theorem exv_ok {P : Program} {w : World} {H : Hp} {h : Heap} {a C : Addr} {d : Option Addr} {oe : Obj} {vs : Array Value} (e : h.get? a = some oe) (hc : oe.cls = .ref C) (hd : oe.dict = d) (hf : oe.data = .fields vs) (h1 : vs[1]? = some .none) : ObjOk P w H h a (ExV a C d) :=
  ⟨⟨oe, vs, e, hc, hd, hf, h1⟩, ⟨oe, e⟩, fun _ _ ⟨o, v, q, r⟩ k => ⟨o, v, k o q, r⟩⟩
theorem exv_at {P : Program} {w : World} {H : Hp} {h : Heap} {a C : Addr} {d : Option Addr} (hok : HOk P w H h) (he : H a = some (ExV a C d)) : ∃ (oe : Obj) (vs : Array Value), h.get? a = some oe ∧ oe.cls = .ref C ∧ oe.dict = d ∧ oe.data = .fields vs ∧ vs[1]? = some .none := by
  have x : ObjOk P w H h a (.ext fun h => ∃ (oe : Obj) (vs : Array Value), h.get? a = some oe ∧ oe.cls = .ref C ∧ oe.dict = d ∧ oe.data = .fields vs ∧ vs[1]? = some .none) := hok a _ he
  exact x.1
section
variable {X : Cx} {pins : List (Addr × Obj)} {σ : L2.St} {H H1 : Hp} {s : Shared}
/-- the same object, seen otherwise -/
theorem inv_recast {a : Addr} {φ : Heap → Prop} {o : HO} (I : Inv X pins σ H s) (ha : H a = some (.ext φ)) (new : ObjOk X.prog X.w (upd H a o) s.heap a o) : Inv X pins σ (upd H a o) s := by
  have nn : ∀ b, H b = none → b ≠ a := fun b e z => by
    rw [z, ha] at e
    cases e
  have no : ∀ b u, H b = some u → (∀ φ, u ≠ .ext φ) → b ≠ a := fun b u e n z => by
    rw [z, ha] at e
    cases e
    exact n _ rfl
  have U : Un X.fs [] H (upd H a o) s.heap s.heap := {
    keep := fun b u q _ _ _ => q
    slot := fun b u q _ _ _ => ⟨u.slots, q⟩
    free := fun b u q n _ => by rw [upd_ne (nn b n)]; exact n
    there := fun b u q _ => ⟨u, q⟩
    tups := fun b xs q => by rw [upd_ne (no b _ q (fun _ z => by cases z))]; exact q
    frzs := fun b u xs q => by rw [upd_ne (no b _ q (fun _ z => by cases z))]; exact q
    tbls := fun b ps q => ⟨#[], by rw [upd_ne (no b _ q (fun _ z => by cases z)), q]; simp⟩ }
  have hok : HOk X.prog X.w (upd H a o) s.heap := fun b u e => by
    by_cases hb : b = a
    · subst hb
      rw [upd_same] at e
      cases e
      exact new
    · rw [upd_ne hb] at e
      exact (I.hok b u e).stay (fun c v _ q => q) (fun c q => by rw [upd_ne (no c _ q (fun _ z => by cases z))]; exact q) (fun c xs q => by rw [upd_ne (no c _ q (fun _ z => by cases z))]; exact q)
  exact I.un (t' := s.toks) U hok
/-- how it ends: no dict, or one -/
def EndV (C : Addr) (H2 : Hp) (a : Addr) (Q : VK) : Prop := (H2 a = some (exo a C none) ∧ Q (.ref a) (upd H2 a (ExV a C none))) ∨
  ∃ (dx : Addr) (fs : List (Str × V)), H2 a = some (exo a C (some dx)) ∧ H2 dx = some (exd dx fs) ∧ dx ≠ a ∧ Q (.ref a) (upd (upd H2 dx (.xd fs)) a (ExV a C (some dx)))
def tMkV (C : Addr) (sp : Sp) (ta : TA) : TE := fun σ H Q => ta σ H fun vs H1 => vs.length ≤ 1000 ∧ ∀ a, H1 a = none → sp (.ref a :: vs) (upd H1 a (exo a C none)) (fun v H2 => v = .non ∧ EndV C H2 a Q) (fun _ _ _ => False)
theorem mkV_core {Q : VK} {C fI : Addr} {k : Nat} {fd : FuncData} {ps : List Str} {sp : Sp} {us : List Value} {vs : List V} (T : OexC X.K C) (iC : PySem.W.findIn X.K (.ref C) "__init__" = some (some (.ref fI))) (tI : PySem.W.typeIn X.K (.ref fI) = some (.type "function"))
    (F1 : FnOk X.prog X.w X.K X.mg X.base (L2.CX X.prog X.w) k fI fd ps sp) (hr : Room (k + 1) X.A) (hb : Binds X.K fd ps []) (I1 : Inv X pins σ H1 s) (r1 : Vals vs us) (hz : vs.length ≤ 1000)
    (q1 : ∀ a, H1 a = none → sp (.ref a :: vs) (upd H1 a (exo a C none)) (fun v H2 => v = .non ∧ EndV C H2 a Q) (fun _ _ _ => False)) :
    wpAny (model X.prog X.w) X.A (call (.ref C) us) (fun u s' => ∃ v H', Inv X pins σ H' s' ∧ RelV v u ∧ Q v H') X.xe s := by
  obtain ⟨nm, q, N, bs, bm, sn, sub, ab, col, dd, k0, k1, k2, k3, k5, hC, hbm⟩ := T.cls
  obtain ⟨hp, g, dr, tk, os⟩ := s
  have hsz : hp.objs.size ≤ hp.objs.size + 1 := Nat.le_succ _
  have hn : H1 (hp.objs.size + 1) = none := I1.hok.fresh hsz
  have hq := q1 (hp.objs.size + 1) hn
  have kk : ∀ b o, hp.get? b = some o → ((hp.push (PySem.W.kdv_tup us)).push (PySem.HandSPX.excO C hp.objs.size)).get? b = some o := fun b o e => Heap.get?_push_of_some _ (Heap.get?_push_of_some _ e)
  have hget : ((hp.push (PySem.W.kdv_tup us)).push (PySem.HandSPX.excO C hp.objs.size)).get? (hp.objs.size + 1) = some (PySem.HandSPX.excO C hp.objs.size) := by heap_get
  have I2 : Inv X pins σ (upd H1 (hp.objs.size + 1) (exo (hp.objs.size + 1) C none)) ⟨(hp.push (PySem.W.kdv_tup us)).push (PySem.HandSPX.excO C hp.objs.size), g, dr, tk, os⟩ :=
    I1.laid (t' := tk) (a := hp.objs.size + 1) (o := exo (hp.objs.size + 1) C none) (h' := (hp.push (PySem.W.kdv_tup us)).push (PySem.HandSPX.excO C hp.objs.size)) kk hsz (exo_ok hget)
  have r2 : Vals (V.ref (hp.objs.size + 1) :: vs) (Value.ref (hp.objs.size + 1) :: us) := .cons rfl r1
  have hl : (Value.ref (hp.objs.size + 1) :: us).length = ps.length := by
    have e := r2.length
    rw [F1.len _ _ _ _ hq] at e
    exact e.symm
  have hus : us.length ≤ sizeLine := by
    rw [← Paired.length r1, sizeLine_eq]
    omega
  refine wpAny_call (PySem.HandSPX.call_own F.excBase_ValueError (fun Y => PySem.HandSPX.refsVE_contains Y bm hbm) (I1.kIn _ _ hC) (PySem.W.looks_findIn I1.kIn iC) (fun self => PySem.W.bind_fn I1.kIn self tI) hus
    (codeAny_mono (F1.run _ X.stack _ _ ⟨Value.ref (hp.objs.size + 1) :: us, []⟩ (Value.ref (hp.objs.size + 1) :: us) _ _ (fun _ _ _ => False) (hr.make C us []) (I2.env0.make C us []) (by
      have := hb _ (Value.ref (hp.objs.size + 1) :: us) I2.kIn (by simpa using hl)
      simpa using this) r2 hq) fun r s' hq' => ?_))
  cases r with
  | error er => exact passL pins σ _ _ er s' I2 hq'
  | ok fl =>
    cases fl with
    | ret u =>
      obtain ⟨v, H2, os2, bare2, un2, hok2, rv, ev, q2⟩ := hq'
      subst ev
      obtain ⟨h2, g2, d2, t2, os'⟩ := s'
      have J : Inv X pins σ H2 ⟨h2, g2, d2, t2, os'⟩ := I2.call' (ch := []) os2 un2 hok2 bare2 (fun b z => absurd z (by simp))
      refine ⟨rv, ?_⟩
      rcases q2 with ⟨ea, q2⟩ | ⟨dx, fs, ea, ed, hne, q2⟩
      · obtain ⟨t1, ho⟩ := exo_at hok2 ea
        exact ⟨.ref (hp.objs.size + 1), _, inv_recast J ea (exv_ok ho rfl rfl rfl rfl), rfl, q2⟩
      · obtain ⟨t1, ho⟩ := exo_at hok2 ea
        obtain ⟨mA, hns, rel⟩ := exd_at hok2 ed
        have J2 : Inv X pins σ (upd H2 dx (.xd fs)) ⟨h2, g2, d2, t2, os'⟩ := inv_recast J ed ⟨mA, hns, rel⟩
        have ea2 : upd H2 dx (.xd fs) (hp.objs.size + 1) = some (exo (hp.objs.size + 1) C (some dx)) := by rw [upd_ne (Ne.symm hne)]; exact ea
        exact ⟨.ref (hp.objs.size + 1), _, inv_recast J2 ea2 (exv_ok ho rfl rfl rfl rfl), rfl, q2⟩
    | next => exact False.elim hq'
    | brk => exact False.elim hq'
    | cont => exact False.elim hq'
theorem pe_mkV {x : Str} {C fI : Addr} {k : Nat} {fd : FuncData} {ps : List Str} {sp : Sp} {e : Expr} {es : List Expr} {ta : TA} {p pos : Pos} (T : OexC X.K C) (iC : PySem.W.findIn X.K (.ref C) "__init__" = some (some (.ref fI))) (tI : PySem.W.typeIn X.K (.ref fI) = some (.type "function"))
    (F1 : FnOk X.prog X.w X.K X.mg X.base (L2.CX X.prog X.w) k fI fd ps sp) (hr : Room (k + 1) X.A) (hb : Binds X.K fd ps []) (hg : Gl X x) (hm : X.mg x = some (.ref C)) (ha : PA X (e :: es) ta)
    (hdb : (x == ("__debug__" : Str)) = false := by decide) (he : starEach (e :: es) X.env = (false, eval e X.env) :: starEach es X.env := by rfl) (hpl : (backTo pos (starEach es X.env)).any (·.1) = false := by rfl) :
    PE X (.Call (.Name x p) (e :: es) [] pos) (tMkV C sp ta) := by
  refine ⟨fun pins s σ H Q I h => ?_⟩
  refine wpAny_Call_Name_kw (ld_glob I hg hm ?_ hdb)
  refine PySem.W.callWith_K (h₀ := X.base) I.ok.mod.kin T.kC (thn (ha.run pos pins s σ H _ I h) fun us s1 ⟨vs, H1, I1, r1, hz, q1⟩ => ⟨I1.kIn, ?_⟩) he hpl
  exact mkV_core T iC tI F1 hr hb I1 r1 hz q1
theorem pe_mkV0 {x : Str} {C fI : Addr} {k : Nat} {fd : FuncData} {ps : List Str} {sp : Sp} {p pos : Pos} (T : OexC X.K C) (iC : PySem.W.findIn X.K (.ref C) "__init__" = some (some (.ref fI))) (tI : PySem.W.typeIn X.K (.ref fI) = some (.type "function"))
    (F1 : FnOk X.prog X.w X.K X.mg X.base (L2.CX X.prog X.w) k fI fd ps sp) (hr : Room (k + 1) X.A) (hb : Binds X.K fd ps []) (hg : Gl X x) (hm : X.mg x = some (.ref C))
    (hdb : (x == ("__debug__" : Str)) = false := by decide) : PE X (.Call (.Name x p) [] [] pos) (tMkV C sp tNil) := by
  refine ⟨fun pins s σ H Q I h => ?_⟩
  refine wpAny_Call_Name_kw (ld_glob I hg hm ?_ hdb)
  exact PySem.W.callWith_K0 I.kIn T.kC (mkV_core (us := []) T iC tI F1 hr hb I .nil h.1 h.2)
end
/-! ### in the layer -/
section
variable {G : Gx} {W : WX} {X : Cx} {σ : L2.St} {H : Hp} {x : Str} {p pos : Pos}
def eMkX (c : Nat) (fl : List String) (as : List E) : E := fun env st => (eArgs as env st).bind fun ds s => if ds.length = fl.length then .ok (.ref s.length) (s ++ [.exn c (fl.zip ds).reverse]) else .bad
theorem exn_new {ms : List Addr} {st : Sto} {c : Nat} {fs : List (String × D)} {gs : List (Str × V)} {a dx : Addr} (S : SRel G ms st H) (ha : H a = none) (hd : H dx = none) (hne : dx ≠ a) (rf : RF G ms H fs gs) :
    SRel G (ms ++ [a]) (st ++ [.exn c fs]) (upd (upd H dx (.xd gs)) a (ExV a (G.tb c) (some dx))) ∧ Gr ms H (ms ++ [a]) (upd (upd H dx (.xd gs)) a (ExV a (G.tb c) (some dx))) := by
  have ha1 : upd H dx (.xd gs) a = none := by rw [upd_ne (Ne.symm hne)]; exact ha
  have g1 : Gr ms H ms (upd H dx (.xd gs)) := Gr.new0 hd
  have g2 : Gr ms (upd H dx (.xd gs)) (ms ++ [a]) (upd (upd H dx (.xd gs)) a (ExV a (G.tb c) (some dx))) := Gr.new ha1 [a]
  refine ⟨(S.lay hd).new ha1 ⟨some dx, upd_same, .inr ⟨dx, gs, rfl, by rw [upd_ne hne, upd_same], RF.gr (g1.trans g2) rf⟩⟩, g1.trans g2⟩
theorem rv_new {ms : List Addr} {st : Sto} {a : Addr} {H' : Hp} (S : SRel G ms st H) : RV G (ms ++ [a]) H' (.ref st.length) (.ref a) := by
  simp only [RV]
  exact ⟨a, rfl, by rw [← S.len]; simp⟩
theorem e_mkX0 {k c : Nat} (T : ExC X (G.tb c) ["self"] (spX0 (G.tb c))) (hr : Room k X.A) (hm : X.mg x = some (.ref (G.tb c))) (hj : 2 ≤ k := by decide) (hg : Gl X x := by rfl) (hdb : (x == ("__debug__" : Str)) = false := by decide) :
    PE X (.Call (.Name x p) [] [] pos) (tE G W (eMkX c [] [])) := by
  obtain ⟨fI, fd, h1, h2, h3, h4⟩ := T.ex
  refine PE_weak (pe_mkV0 T.oc h1 h2 h3 (hr.mono hj) h4 hg hm hdb) fun σ H Q ⟨ms, st, env, S, r, q⟩ => ?_
  refine ⟨by simp, fun a ha => ⟨a, rfl, upd_same, rfl, .inl ⟨upd_same, ?_⟩⟩⟩
  rw [show upd (upd H a (exo a (G.tb c) none)) a (ExV a (G.tb c) none) = upd H a (ExV a (G.tb c) none) from upd_upd]
  exact q _ (ms ++ [a]) _ (Gr.new ha [a]) (S.new ha ⟨none, upd_same, .inl ⟨rfl, rfl⟩⟩) (rv_new S)
theorem e_mkX1 {k c : Nat} {f : String} {fs ep : Str} {e : Expr} {fe : E} (hfs : fs = Str.ofString f) (T : ExC X (G.tb c) ["self", ep] (spX1 (G.tb c) fs)) (hr : Room k X.A) (hm : X.mg x = some (.ref (G.tb c)))
    (ha : PA X [e] (tA G W (eArgs [fe]))) (hj : 2 ≤ k := by decide) (hg : Gl X x := by rfl) (hdb : (x == ("__debug__" : Str)) = false := by decide)
    (he : starEach [e] X.env = (false, eval e X.env) :: starEach [] X.env := by rfl) (hpl : (backTo pos (starEach [] X.env)).any (·.1) = false := by rfl) :
    PE X (.Call (.Name x p) [e] [] pos) (tE G W (eMkX c [f] [fe])) := by
  obtain ⟨fI, fd, h1, h2, h3, h4⟩ := T.ex
  refine PE_weak (pe_mkV T.oc h1 h2 h3 (hr.mono hj) h4 hg hm ha hdb he hpl) fun σ H Q h => ?_
  refine tX_mono (tX_bind (R := RVs G) h) fun vs H1 ⟨ms, st, env, ds, S, r, r1, k1⟩ => ?_
  split at k1
  · rename_i hl
    obtain ⟨d, rfl⟩ : ∃ d, ds = [d] := by
      cases ds with
      | nil => simp at hl
      | cons d t => cases t with
        | nil => exact ⟨d, rfl⟩
        | cons _ _ => simp at hl
    obtain ⟨v, rfl, rv⟩ := r1.one'
    refine ⟨by simp, fun a hn => ⟨a, v, rfl, upd_same, fun dx h5 h6 => ⟨rfl, .inr ⟨dx, [(fs, v)], upd_same, by rw [upd_ne h6, upd_same], h6, ?_⟩⟩⟩⟩
    rw [upd_ne h6] at h5
    have e3 : upd (upd (upd (upd (upd H1 a (exo a (G.tb c) none)) dx (exd dx [(fs, v)])) a (exo a (G.tb c) (some dx))) dx (.xd [(fs, v)])) a (ExV a (G.tb c) (some dx)) = upd (upd H1 dx (.xd [(fs, v)])) a (ExV a (G.tb c) (some dx)) := by
      funext b
      by_cases hb : b = a
      · rw [hb, upd_same, upd_same]
      · rw [upd_ne hb, upd_ne hb]
        by_cases hd : b = dx
        · rw [hd, upd_same, upd_same]
        · rw [upd_ne hd, upd_ne hd, upd_ne hb, upd_ne hd, upd_ne hb]
    rw [e3]
    obtain ⟨S2, g⟩ := exn_new (c := c) (fs := [(f, d)]) (gs := [(fs, v)]) S hn h5 h6 ⟨v, [], by rw [hfs], rv, rfl⟩
    exact k1 _ (ms ++ [a]) _ g S2 (rv_new S)
  · exact k1.elim
theorem e_mkX2 {k c : Nat} {f g : String} {fs gs e1p e2p : Str} {e e2 : Expr} {fe fe2 : E} (hfs : fs = Str.ofString f) (hgs : gs = Str.ofString g) (T : ExC X (G.tb c) ["self", e1p, e2p] (spX2 (G.tb c) fs gs)) (hr : Room k X.A) (hm : X.mg x = some (.ref (G.tb c)))
    (ha : PA X [e, e2] (tA G W (eArgs [fe, fe2]))) (hj : 2 ≤ k := by decide) (hg : Gl X x := by rfl) (hdb : (x == ("__debug__" : Str)) = false := by decide)
    (he : starEach [e, e2] X.env = (false, eval e X.env) :: starEach [e2] X.env := by rfl) (hpl : (backTo pos (starEach [e2] X.env)).any (·.1) = false := by rfl) :
    PE X (.Call (.Name x p) [e, e2] [] pos) (tE G W (eMkX c [f, g] [fe, fe2])) := by
  obtain ⟨fI, fd, h1, h2, h3, h4⟩ := T.ex
  refine PE_weak (pe_mkV T.oc h1 h2 h3 (hr.mono hj) h4 hg hm ha hdb he hpl) fun σ H Q h => ?_
  refine tX_mono (tX_bind (R := RVs G) h) fun vs H1 ⟨ms, st, env, ds, S, r, r1, k1⟩ => ?_
  split at k1
  · rename_i hl
    obtain ⟨d1, d2, rfl⟩ : ∃ d1 d2, ds = [d1, d2] := by
      cases ds with
      | nil => simp at hl
      | cons d t => cases t with
        | nil => simp at hl
        | cons d2 t => cases t with
          | nil => exact ⟨d, d2, rfl⟩
          | cons _ _ => simp at hl
    obtain ⟨v, u, rfl, rv, ru⟩ := r1.two'
    refine ⟨by simp, fun a hn => ⟨a, v, u, rfl, upd_same, fun dx h5 h6 => ⟨rfl, .inr ⟨dx, [(gs, u), (fs, v)], by rw [upd_ne (Ne.symm h6), upd_same], upd_same, h6, ?_⟩⟩⟩⟩
    rw [upd_ne h6] at h5
    have e3 : upd (upd (upd (upd (upd (upd H1 a (exo a (G.tb c) none)) dx (exd dx [(fs, v)])) a (exo a (G.tb c) (some dx))) dx (exd dx [(gs, u), (fs, v)])) dx (.xd [(gs, u), (fs, v)])) a (ExV a (G.tb c) (some dx)) = upd (upd H1 dx (.xd [(gs, u), (fs, v)])) a (ExV a (G.tb c) (some dx)) := by
      funext b
      by_cases hb : b = a
      · rw [hb, upd_same, upd_same]
      · rw [upd_ne hb, upd_ne hb]
        by_cases hd : b = dx
        · rw [hd, upd_same, upd_same]
        · rw [upd_ne hd, upd_ne hd, upd_ne hd, upd_ne hb, upd_ne hd, upd_ne hb]
    rw [e3]
    obtain ⟨S2, g⟩ := exn_new (c := c) (fs := [(g, d2), (f, d1)]) (gs := [(gs, u), (fs, v)]) S hn h5 h6 ⟨u, [(fs, v)], by rw [hgs], ru, v, [], by rw [hfs], rv, rfl⟩
    exact k1 _ (ms ++ [a]) _ g S2 (rv_new S)
  · exact k1.elim
/-- C(e) of a class without an own __init__ -/
def eMkT (c : Nat) (a : E) : E := fun env st => (a env st).bind fun _ s => .ok (.ref s.length) (s ++ [.exn c []])
theorem e_mkT {c : Nat} {bmB : List Value} {B newId initId : String} {e : Expr} {fe : E} (F : ExcBaseFacts B newId initId bmB) (q : PySem.W.excIn X.K (G.tb c) bmB newId = true) (hm : X.mg x = some (.ref (G.tb c))) (kC : PySem.W.keepIn X.K (.ref (G.tb c)) = true)
    (ha : PE X e (tE G W fe)) (hg : Gl X x := by rfl) (hs : starEach [e] X.env = (false, eval e X.env) :: starEach [] X.env := by rfl) (hdb : (x == ("__debug__" : Str)) = false := by decide) :
    PE X (.Call (.Name x p) [e] [] pos) (tE G W (eMkT c fe)) := by
  refine ⟨fun pins s σ H Q I h => ?_⟩
  refine thn ((pe_exc1 (p := p) (pos := pos) F q hm kC hg ha hs hdb).run pins s σ H (fun v H1 => ∃ a H0 ms st, v = .ref a ∧ H0 a = none ∧ H1 = upd H0 a (ExO (.ref (G.tb c)) a) ∧ SRel G ms st H0 ∧ Okk (RV G) G (fun c d H => W c d σ H) Q ms H0 (Res.ok (D.ref st.length) (st ++ [Cell.exn c []]))) I (tX_mono (tX_bind (R := RV G) h) fun v H1 ⟨ms, st, env, d, S, r, rv, k⟩ a hn => ⟨a, H1, ms, st, rfl, hn, rfl, S, k⟩)) fun u s1 ⟨v, H1, I1, ru, a, H0, ms, st, ev, hn, eH, S, k⟩ => ?_
  subst ev eH
  obtain ⟨⟨oe, vs, ho, hz, hd, h1, _⟩, _⟩ := I1.hok a _ upd_same
  have J := inv_recast I1 upd_same (exv_ok (d := none) ho hz.1 hz.2 hd h1 (P := X.prog) (w := X.w) (H := upd (upd H0 a (ExO (.ref (G.tb c)) a)) a (ExV a (G.tb c) none)))
  rw [show upd (upd H0 a (ExO (.ref (G.tb c)) a)) a (ExV a (G.tb c) none) = upd H0 a (ExV a (G.tb c) none) from upd_upd] at J
  exact ⟨.ref a, _, J, ru, k _ (ms ++ [a]) _ (Gr.new hn [a]) (S.new hn ⟨none, upd_same, .inl ⟨rfl, rfl⟩⟩) (rv_new S)⟩
end
end LF

set_option Elab.async false
set_option linter.all false
set_option maxRecDepth 100000
set_option maxHeartbeats 4000000
/-! exceptions as values: isinstance, fields; {text: e}; repr of a list of things -/
namespace LF
open PySem PySem.Spec PyProof.Rows L2
section
variable {G : Gx} {W : WX} {X : Cx} {σ : L2.St} {H : Hp} {pins : List (Addr × Obj)} {s : Shared}
theorem SRel.exn {ms : List Addr} {st : Sto} (S : SRel G ms st H) {i c : Nat} {fs : List (String × D)} {v : V} (h : st[i]? = some (.exn c fs)) (r : RV G ms H (.ref i) v) :
    ∃ (a : Addr) (d : Option Addr), v = .ref a ∧ H a = some (ExV a (G.tb c) d) ∧ ((fs = [] ∧ d = none) ∨ ∃ dx gs, d = some dx ∧ H dx = some (.xd gs) ∧ RF G ms H fs gs) := by
  simp only [RV] at r
  obtain ⟨a, rfl, ha⟩ := r
  obtain ⟨d, h1, h2⟩ := S.has ha
  rw [h] at h1
  cases h1
  obtain ⟨d, h3, h4⟩ := h2
  exact ⟨a, d, rfl, h3, h4⟩
/-- isinstance(e, T) -/
def opIsE (t : TC) (ans : Nat → Option Bool) : List D → O D
  | [.ref i, c] => fun st => if isTC t c = true then match st[i]? with
      | some (.exn k _) => match ans k with
        | some b => some (.bl b, st)
        | none => none
      | _ => none
    else none
  | _ => fun _ => none
theorem c_isE (hK : X.K = G.K) {t : TC} {ans : Nat → Option Bool} (h : ∀ k b, ans k = some b → ExcC G.K (G.tb k) ∧ PySem.W.kitOne G.K (.ref (G.tb k)) (t.val G) = some b) : CallR X (.builtin "isinstance") (rN G (opIsE t ans)) := by
  intro pins s σ H xs us Q I rx ⟨ms, st, ds, S, rs, k⟩
  unfold opIsE at k
  split at k
  · rename_i i c
    obtain ⟨v, u, rfl, rv, ru⟩ := rs.two'
    split at k
    · rename_i ht
      split at k
      · rename_i kc fs e
        split at k
        · rename_i b e2
          obtain ⟨C, e3⟩ := h kc b e2
          obtain ⟨a, d, rfl, hx, hd⟩ := S.exn e rv
          cases rx with
          | cons r1 rr =>
            rename_i u1 ur
            cases rr with
            | cons r2 rt =>
              rename_i u2 ut
              cases rt
              obtain rfl : u1 = Value.ref a := r1
              have e4 : u2 = t.val G := by
                rw [isTC_eq ht] at ru
                cases t with
                | ty n =>
                  simp only [TC.d, RV] at ru
                  subst ru
                  exact r2
                | glo n =>
                  simp only [TC.d, RV] at ru
                  subst ru
                  exact r2
              subst e4
              obtain ⟨oe, vs, ho, hc, hdd, hf, _⟩ := exv_at I.hok hx
              have hcl : (PySem.W.clsIn X.K (G.tb kc)).isSome = true := by
                rw [hK]
                obtain ⟨cd, hcd, _⟩ := PySem.W.any_some C.hd
                rw [hcd]
                rfl
              have J : ∃ od, PySem.W.InstAt s.heap a oe (G.tb kc) od := by
                rcases hd with ⟨_, rfl⟩ | ⟨dx, gs, rfl, hxd, _⟩
                · exact ⟨none, ho, hc, by unfold PySem.W.notCls; rw [hf] <;> rfl, by rw [hdd]; trivial⟩
                · have hx2 : ObjOk X.prog X.w H s.heap dx (.xd gs) := I.hok dx _ hxd
                  obtain ⟨mA, hns, hr⟩ := hx2
                  obtain ⟨od, hod, hl⟩ := lookIn_ns hns
                  exact ⟨some od, ho, hc, by unfold PySem.W.notCls; rw [hf] <;> rfl, by rw [hdd]; exact hod⟩
              obtain ⟨od, J⟩ := J
              rw [← hK] at C e3
              exact PySem.W.kia_one (PySem.W.kitx_exc hcl C.hg C.hk C.hs C.ha C.hn C.ht C.hm) I.kIn J e3 (fun z => nomatch z) fun tk => ⟨.bl b, H, I.kept (t' := tk) fun _ _ z => z, rfl, OkO.bl S k⟩
        · exact k.elim
      · exact k.elim
    · exact k.elim
  · exact k.elim
/-- e.f -/
def opXV (P : Nat → Bool) (f : String) : D → O D
  | .ref i => fun st => match st[i]? with
    | some (.exn c fs) => if P c = true then match fs.lookup f with
        | some d => some (d, st)
        | none => none
      else none
    | _ => none
  | _ => fun _ => none
theorem e_xv {e : Expr} {f : String} {fs : Str} {pos : Pos} {P : Nat → Bool} {fe : E} (hK : X.K = G.K) (hP : ∀ c, P c = true → XfC G.K (G.tb c) ∧ PySem.W.findIn G.K (.ref (G.tb c)) fs = some none) (hf : fs = Str.ofString f) (he : PE X e (tE G W fe)) (hb : attributeBase e fs X.env (eval e X.env) = eval e X.env := by rfl) :
    PE X (.Attribute e fs pos) (tE G W (eUn (opXV P f) fe)) := by
  refine ⟨fun pins s σ H Q I h => ?_⟩
  refine attr_of hb (thn (he.run pins s σ H (fun v H1 => ∃ ms st x, SRel G ms st H1 ∧ RV G ms H1 x v ∧ OkO (RV G) G Q ms H1 (opXV P f x st)) I (tX_mono (tX_bind h) fun v H1 ⟨ms, st, env, x, S, r, r1, k⟩ => ⟨ms, st, x, S, r1, k.ofO⟩)) fun u s1 ⟨v, H1, I1, rx, ms, st, x, S, r1, k⟩ => ?_)
  unfold opXV at k
  split at k
  · rename_i i
    split at k
    · rename_i c gs e
      split at k
      · rename_i hc
        split at k
        · rename_i d e2
          obtain ⟨T, hno⟩ := hP c hc
          rw [← hK] at T hno
          obtain ⟨a, dd, rfl, hx, hd⟩ := S.exn e r1
          obtain rfl : u = Value.ref a := rx
          rcases hd with ⟨rfl, _⟩ | ⟨dx, hs, rfl, hxd, rf⟩
          · cases e2
          · obtain ⟨oe, vs, ho, hcl, hdd, hff, _⟩ := exv_at I1.hok hx
            have hx2 : ObjOk X.prog X.w H1 s1.heap dx (.xd hs) := I1.hok dx _ hxd
            obtain ⟨mA, hns, hr⟩ := hx2
            obtain ⟨od, hod, hl⟩ := lookIn_ns hns
            obtain ⟨w, l, rw'⟩ := rf.look e2
            rw [← hf] at l
            obtain ⟨u, hu, ru⟩ := RelO.some_of (v := w) (o := mA fs) (by rw [← l]; exact hr fs)
            have J : PySem.W.InstAt s1.heap a oe (G.tb c) (some od) := ⟨ho, hcl, by unfold PySem.W.notCls; rw [hff] <;> rfl, by rw [hdd]; exact hod⟩
            exact HandSPX.exc_get I1.kIn J T.ga T.gg T.exC (PySem.W.findObj_own T.hdC hno rfl (by rw [hl, hu])) (handed_of ru) ⟨w, H1, I1.tok _, ru, OkO.val S rw' k⟩
        · exact k.elim
      · exact k.elim
    · exact k.elim
  · exact k.elim
end
end LF

set_option Elab.async false
set_option linter.all false
set_option maxRecDepth 100000
set_option maxHeartbeats 4000000
/-! {text: e}; repr of a list of things -/
namespace LF
open PySem PySem.Spec PyProof.Rows L2
section
variable {G : Gx} {W : WX} {X : Cx} {σ : L2.St} {H : Hp}
def eDS (x : Str) (fv : E) : E := fun env st => (fv env (st ++ [.dct []])).bind fun z s => match s[st.length]? with
  | some (.dct []) => .ok (.ref st.length) (s.set st.length (.dtx x z))
  | _ => .bad
theorem e_dtx {x : Str} {k v : Expr} {fv : E} {pos : Pos} (hk : PE X k (tE G W (eC (.str x)))) (hv : PE X v (tE G W fv)) : PE X (.Dict [some k] [v] pos) (tE G W (eDS x fv)) := by
  refine PE_weak (pe_disp (pps_cons hk hv pps_nil) rfl rfl (by simp) (by simp)) fun σ H Q ⟨ms, st, env, S, r, q⟩ p hp => ?_
  have g1 : Gr ms H (ms ++ [p]) (upd H p (.dK [])) := Gr.new hp [_]
  have S1 : SRel G (ms ++ [p]) (st ++ [.dct []]) (upd H p (.dK [])) := S.new hp (.inl ⟨[], upd_same, rfl⟩)
  have at1 : (ms ++ [p])[st.length]? = some p := by rw [← S.len]; simp
  refine ⟨ms ++ [p], st ++ [.dct []], env, S1, r.gr g1, fun u m1 H1 g S2 ru => ?_⟩
  simp only [RV] at ru
  subst ru
  refine ⟨m1, st ++ [.dct []], env, S2, (r.gr g1).gr g, ?_⟩
  refine Okk.bind (Okk.gr (g1.trans g) q) fun z s b m2 H2 g2 S3 r3 k3 => ?_
  have at2 : m2[st.length]? = some p := g2.at (g.at at1)
  split at k3
  · rename_i e
    obtain ⟨cl, e3, c⟩ := S3.has at2
    rw [e] at e3
    cases e3
    have c0 := c
    rcases c with ⟨l, h2, hl⟩ | ⟨h0, _⟩
    · obtain rfl : l = [] := hl
      refine ⟨h2, [(.inr x, b)], rfl, by simp, ?_⟩
      refine k3 (.ref p) m2 _ (Gr.cell c0) (S3.put at2 ⟨b, upd_same, RV.gr (Gr.cell c0) _ _ r3⟩) ?_
      simp only [RV]
      exact ⟨_, rfl, at2⟩
    · exact (h0 rfl).elim
  · exact k3.elim
end
/-! ### repr -/
inductive Each2 (R : Value → PyData → Prop) : List Value → List PyData → Prop where
  | nil : Each2 R [] []
  | cons {v : Value} {d : PyData} {vs : List Value} {ds : List PyData} : R v d → Each2 R vs ds → Each2 R (v :: vs) (d :: ds)
def RdOk (h : Heap) (v : Value) (d : PyData) : Prop := ∃ as, Reads h v d as ∧ (d.hasDict = true → sysModules ∉ as)
section
variable {prog : Program} {w : World} {h₀ : Heap}
theorem each_reads : ∀ {vs : List Value} {ds : List PyData}, Each2 (RdOk h₀) vs ds → ∃ as, ReadsAll h₀ vs ds as
  | _, _, .nil => ⟨_, .nil⟩
  | _, _, .cons ⟨as, r, _⟩ t => by
    obtain ⟨bs, q⟩ := each_reads t
    exact ⟨_, .cons r q⟩
theorem each_repr : ∀ {vs : List Value} {ds : List PyData}, Each2 (RdOk h₀) vs ds → PyData.showableAll ds = true → (∀ t ∈ PyData.shownAll ds, t.length ≤ sizeLine) → ∃ bs, ReadAtMost h₀ (PyData.depthAll ds) bs ∧ ReprAllK prog w bs h₀ (PyData.depthAll ds) vs (PyData.shownAll ds)
  | _, _, .nil, _, _ => ⟨[], (fun _ hb => nomatch hb), .nil⟩
  | _, _, @Each2.cons _ v d vs ds ⟨as, r, hd⟩ t, hs, hz => by
    have hs' : d.showable = true ∧ PyData.showableAll ds = true := by simpa [PyData.showableAll] using hs
    obtain ⟨b1, hb1, k1⟩ := ReprAllK.of_readsAll (prog := prog) (w := w) (ReadsAll.cons r .nil) (by simp [PyData.showableAll, hs'.1]) (fun hx => by
      have := hd (by simpa [PyData.hasDictAll] using hx)
      simpa using this) (fun t ht => hz t (by
      simp only [PyData.shownAll, List.mem_cons, List.not_mem_nil, or_false] at ht ⊢
      exact .inl ht))
    obtain ⟨b2, hb2, k2⟩ := each_repr t hs'.2 fun t ht => hz t (by simp only [PyData.shownAll, List.mem_cons]; exact .inr ht)
    have e1 : PyData.depthAll [d] ≤ PyData.depthAll (d :: ds) := by simp only [PyData.depthAll]; omega
    have e2 : PyData.depthAll ds ≤ PyData.depthAll (d :: ds) := by simp only [PyData.depthAll]; omega
    refine ⟨b1 ++ b2, (hb1.mono e1).append (hb2.mono e2), ?_⟩
    cases k1 with
    | cons hx _ => exact .cons ((hx.more (fun b hb => List.mem_append_left _ hb)).level_le e1) (k2.more_le (fun b hb => List.mem_append_right _ hb) e2)
theorem repr_each {a : Addr} {o : Obj} {vs : Array Value} {n : Nat} {xs : List PyData} {A : Around} {E : Value → Shared → Prop} {s : Shared} {Q : Value → Shared → Prop} (h1 : s.heap.get? a = some o) (h2 : o.cls = .type "list") (h3 : o.data = .seq vs n) (h4 : Each2 (RdOk s.heap) vs.toList xs) (hs : PyData.showableAll xs = true)
    (hsz : (listText (PyData.shownAll xs)).length ≤ sizeLine) (hg : A.guards = some []) (hu : A.units + (PyData.depthAll xs + 2) < cLine)
    (hQ : ∀ h' u tk, (∀ b o, s.heap.get? b = some o → h'.get? b = some o) → Q (.str (listText (PyData.shownAll xs)) u) { s with heap := h', toks := tk }) : wpAny (model prog w) A (call (.builtin "repr") [.ref a]) Q E s := by
  obtain ⟨as, ra⟩ := each_reads h4
  obtain ⟨bs, hb, hk⟩ := each_repr (prog := prog) (w := w) h4 hs (fun t ht => Nat.le_trans (listText_mem_le ht) hsz)
  have hna : a ∉ bs := not_mem_of_deeper (.list h1 h2 h3 ra) (by simp only [PyData.depth]; omega) hb
  refine call_repr_slot (T := "list") (idr := "list.__repr__") (by omega) ⟨o, h1, h2⟩ F.slot_list_repr.toG ?_
  have fin : ∀ h' u tk, (∀ b o, s.heap.get? b = some o → h'.get? b = some o) → ∃ x t, (Value.str (listText (PyData.shownAll xs)) u) = Value.str x t ∧ Q (.str (listText (PyData.shownAll xs)) u) { s with heap := h', toks := tk } := fun h' u tk hk => ⟨_, _, rfl, hQ h' u tk hk⟩
  obtain ⟨l⟩ := vs
  cases l with
  | nil =>
    cases h4
    simp only [PyData.shownAll, listText_nil] at fin
    exact call_list_repr_empty ⟨o, h1, h2⟩ h1 h3 (fin s.heap _ _ fun _ _ e => e)
  | cons x l =>
    exact call_list_reprK h1 h2 h3 hna (by simpa using hk.length_eq) (fun i y e => hk.item i y (by simpa using e)) hg (fun b _ => Clear.nil b) (by show A.units + 1 + (PyData.depthAll xs + 1) < cLine; omega) (fun _ _ e => e) fin hsz
end
def plainD (d : D) : Option PyData := match deep [] 8 d with
  | some p => if p.hasDict = false then some p else none
  | none => none
def thingD (st : Sto) : D → Option PyData
  | .ref i => match st[i]? with
    | some (.lst ds) => match mapO plainD ds with
      | some ps => if PyData.hasDictAll ps = false then some (.list ps) else none
      | none => none
    | some (.dct []) => some (.dict [])
    | some (.dtx x (.tup [.int i])) => some (.dict [(.str x, .tuple [.int i])])
    | _ => none
  | d => plainD d
def opReprL : List D → O D
  | [.ref i] => fun st => match st[i]? with
    | some (.lst es) => match mapO (thingD st) es with
      | some ps => if PyData.showableAll ps = true ∧ (listText (PyData.shownAll ps)).length ≤ sizeLine ∧ PyData.depthAll ps ≤ 16 then some (.str (listText (PyData.shownAll ps)), st) else none
      | none => none
    | _ => none
  | _ => fun _ => none
section
variable {G : Gx} {W : WX} {X : Cx} {σ : L2.St} {H : Hp} {pins : List (Addr × Obj)} {s : Shared} {ms : List Addr} {st : Sto}
theorem plain_some {d : D} {p : PyData} (h : plainD d = some p) : deep [] 8 d = some p ∧ p.hasDict = false := by
  unfold plainD at h
  split at h
  · rename_i q e
    split at h
    · rename_i hc
      cases h
      exact ⟨e, hc⟩
    · cases h
  · cases h
theorem plain_reads (hK : X.K = G.K) (I : Inv X pins σ H s) (S : SRel G ms st H) {d : D} {v : V} {u : Value} {p : PyData} (r : RV G ms H d v) (ru : RelV v u) (h : plainD d = some p) : ∃ as, Reads s.heap u p as := by
  obtain ⟨e, _⟩ := plain_some h
  exact Dp.reads I p v u (hK ▸ dp_of S 8 d v p r (deep_nil 8 d p e)) ru
theorem plains_reads (hK : X.K = G.K) (I : Inv X pins σ H s) (S : SRel G ms st H) : ∀ {ds : List D} {vs : List V} {us : List Value} {ps : List PyData}, RVs G ms H ds vs → Vals vs us → mapO plainD ds = some ps → ∃ as, ReadsAll s.heap us ps as
  | [], _, _, _, r, rv, e => by
    simp only [RVs] at r
    subst r
    cases rv
    cases e
    exact ⟨_, .nil⟩
  | d :: ds, _, _, _, r, rv, e => by
    simp only [RVs] at r
    obtain ⟨v, vs, rfl, r1, r2⟩ := r
    cases rv with
    | cons q1 q2 =>
      simp only [mapO] at e
      split at e
      · rename_i p ps e1 e2
        cases e
        obtain ⟨as, z1⟩ := plain_reads hK I S r1 q1 e1
        obtain ⟨bs, z2⟩ := plains_reads hK I S r2 q2 e2
        exact ⟨_, .cons z1 z2⟩
      · cases e
theorem thing_reads (hK : X.K = G.K) (I : Inv X pins σ H s) (S : SRel G ms st H) {d : D} {v : V} {u : Value} {p : PyData} (r : RV G ms H d v) (ru : RelV v u) (h : thingD st d = some p) : RdOk s.heap u p := by
  have plain : plainD d = some p → RdOk s.heap u p := fun h => by
    obtain ⟨as, z⟩ := plain_reads hK I S r ru h
    exact ⟨as, z, fun q => by rw [(plain_some h).2] at q; cases q⟩
  cases d with
  | ref i =>
    simp only [thingD] at h
    split at h
    · rename_i ds e
      split at h
      · rename_i ps e1
        split at h
        · rename_i hc
          cases h
          obtain ⟨a, vs, rfl, _, h1, h2⟩ := S.ref e r
          obtain rfl : u = Value.ref a := ru
          obtain ⟨its, rv, ⟨o, n, ho, hcl, _, hd⟩, _⟩ := I.list (SqL.of h1)
          obtain ⟨as, z⟩ := plains_reads hK I S h2 rv e1
          exact ⟨_, Reads.list ho hcl hd z, fun q => by simp only [PyData.hasDict] at q; rw [hc] at q; cases q⟩
        · cases h
      · cases h
    · rename_i e
      cases h
      simp only [RV] at r
      obtain ⟨a, rfl, ha⟩ := r
      obtain rfl : u = Value.ref a := ru
      obtain ⟨cl, e3, c⟩ := S.has ha
      rw [e] at e3
      cases e3
      rcases c with ⟨l, h2, hl⟩ | ⟨h0, _⟩
      · obtain rfl : l = [] := hl
        obtain ⟨_, hsm, vs, kv, ⟨o, es, ep, ho, ⟨hc, _⟩, hdat, _, hp, _⟩⟩ := dk_of I.hok h2
        cases kv
        have he : es.toList = [] := by
          generalize es.toList = l at hp
          cases hp
          rfl
        refine ⟨_, Reads.dict (kvs := []) ho hc hdat (by rw [he]; exact .nil) (by rw [he]; exact .nil), fun _ q => ?_⟩
        simp only [List.append_nil, List.mem_singleton] at q
        rw [← q] at hsm
        simp at hsm
      · exact (h0 rfl).elim
    · rename_i x i e
      cases h
      simp only [RV] at r
      obtain ⟨a, rfl, ha⟩ := r
      obtain rfl : u = Value.ref a := ru
      obtain ⟨cl, e3, c⟩ := S.has ha
      rw [e] at e3
      cases e3
      obtain ⟨v1, h2, hv⟩ := c
      obtain ⟨_, hsm, vs, kv, ⟨o, es, ep, ho, ⟨hc, _⟩, hdat, _, hp, _⟩⟩ := dk_of I.hok h2
      cases kv with
      | @cons _ q1 _ qs k1 k2 =>
        cases k2
        obtain ⟨kk, kw⟩ := q1
        obtain ⟨rfl, rw1⟩ := k1
        generalize hl : es.toList = l at hp
        cases hp with
        | @cons en _ es' _ hk hval hrest =>
          cases hrest
          rcases keyIs_shape (k := Sum.inr x) (v := en.key) hk with ⟨i, t, z, _⟩ | ⟨y, t, z, hkey⟩
          · cases z
          · cases z
            obtain ⟨as, z1⟩ := plain_reads (p := .tuple [.int i]) hK I S hv rw1 (by simp [plainD, deep, mapO, PyData.hasDict, PyData.hasDictAll])
            have z1' : Reads s.heap en.val (.tuple [.int i]) as := by rw [hval]; exact z1
            have e0 : as = [] := by
              cases z1 with
              | tuple _ _ _ q =>
                revert q
                generalize Array.toList _ = l
                intro q
                cases q with
                | cons q1 q2 =>
                  cases q1
                  cases q2
                  rfl
            subst e0
            refine ⟨_, Reads.dict (kvs := [(.str x, .tuple [.int i])]) ho hc hdat (by rw [hl]; show ReadsAll s.heap [en.key] _ _; rw [hkey]; exact .cons (.str x t) .nil) (by rw [hl]; exact .cons z1' .nil), fun _ q => ?_⟩
            simp only [List.append_nil, List.mem_singleton] at q
            rw [← q] at hsm
            simp at hsm
    · cases h
  | _ => exact plain h
theorem things_reads (hK : X.K = G.K) (I : Inv X pins σ H s) (S : SRel G ms st H) : ∀ {ds : List D} {vs : List V} {us : List Value} {ps : List PyData}, RVs G ms H ds vs → Vals vs us → mapO (thingD st) ds = some ps → Each2 (RdOk s.heap) us ps
  | [], _, _, _, r, rv, e => by
    simp only [RVs] at r
    subst r
    cases rv
    cases e
    exact .nil
  | d :: ds, _, _, _, r, rv, e => by
    simp only [RVs] at r
    obtain ⟨v, vs, rfl, r1, r2⟩ := r
    cases rv with
    | cons q1 q2 =>
      simp only [mapO] at e
      split at e
      · rename_i p ps e1 e2
        cases e
        exact .cons (thing_reads hK I S r1 q1 e1) (things_reads hK I S r2 q2 e2)
      · cases e
theorem c_reprL (hK : X.K = G.K) (hG : X.A.guards = some []) (hu : X.A.units + 64 < cLine) : CallR X (.builtin "repr") (rN G opReprL) := by
  intro pins s σ H xs us Q I rx ⟨ms, st, ds, S, rs, k⟩
  unfold opReprL at k
  split at k
  · rename_i i
    split at k
    · rename_i es e1
      split at k
      · rename_i ps e2
        split at k
        · rename_i hc
          obtain ⟨v, rfl, rv⟩ := rs.one'
          obtain ⟨u, rfl, ru⟩ := vals1 rx
          obtain ⟨a, vs, rfl, _, h1, h2⟩ := S.ref e1 rv
          obtain rfl : u = .ref a := ru
          obtain ⟨its, rv2, ⟨o, n, ho, hcl, _, hd⟩, _⟩ := I.list (SqL.of h1)
          have hu2 := hc.2.2
          exact repr_each ho hcl hd (things_reads hK I S h2 rv2 e2) hc.1 hc.2.1 hG (by omega) fun h' t tk hk => ⟨.str _, H, I.kept (t' := tk) hk, ⟨_, rfl⟩, OkO.str S k⟩
        · exact k.elim
      · exact k.elim
    · exact k.elim
  · exact k.elim
end
end LF

set_option Elab.async false
set_option linter.all false
namespace LF
open PySem PySem.Spec PyProof.Rows L2
/-! ### promises of results, in plain Lean -/
abbrev XP := Nat → List (String × D) → Sto → Prop
def WpD {α : Type} (X : XP) (Q : α → Sto → Prop) : Res α → Prop
  | .ok a s => Q a s
  | .exn c fs s => X c fs s
  | .bad => False
/-- shut: a unifier that looks into it walks the whole def -/
structure Wp {α : Type} (X : XP) (Q : α → Sto → Prop) (r : Res α) : Prop where
  out : WpD X Q r
def WoD {α : Type} (Q : α → Sto → Prop) : Option (α × Sto) → Prop
  | some (a, s) => Q a s
  | none => False
structure Wo {α : Type} (Q : α → Sto → Prop) (r : Option (α × Sto)) : Prop where
  out : WoD Q r
structure Ks where
  nx : Sl → Sto → Prop
  rt : D → Sto → Prop
  bk : Sl → Sto → Prop
  ct : Sl → Sto → Prop
  ex : Nat → List (String × D) → Sl → Sto → Prop
def OwpD (K : Ks) : Out → Prop
  | .nx e s => K.nx e s
  | .rt d s => K.rt d s
  | .bk e s => K.bk e s
  | .ct e s => K.ct e s
  | .exn c fs e s => K.ex c fs e s
  | .bad => False
structure Owp (K : Ks) (r : Out) : Prop where
  out : OwpD K r
/-- behind a first statement -/
def Ks.seq (K : Ks) (b : Sm) : Ks := ⟨fun e s => Owp K (b e s), K.rt, K.bk, K.ct, K.ex⟩
/-- in a loop -/
def Ks.loop (K : Ks) (I : Sl → Sto → Prop) : Ks := ⟨I, K.rt, K.nx, I, K.ex⟩
/-- of a def -/
def Ks.fn (X : XP) (Q : D → Sto → Prop) : Ks := ⟨fun _ s => Q .non s, Q, fun _ _ => False, fun _ _ => False, fun c fs _ s => X c fs s⟩
section
variable {α β : Type} {X X' : XP} {Q Q' : α → Sto → Prop} {env : Sl} {st : Sto} {K : Ks}
theorem wp_ok {a : α} {s : Sto} : Wp X Q (.ok a s) = Q a s := propext ⟨fun h => h.out, fun h => ⟨h⟩⟩
theorem wp_exn {c : Nat} {fs : List (String × D)} {s : Sto} : Wp X Q (.exn c fs s) = X c fs s := propext ⟨fun h => h.out, fun h => ⟨h⟩⟩
theorem wp_bad : Wp X Q .bad = False := propext ⟨fun h => h.out, fun h => ⟨h⟩⟩
theorem wo_some {a : α} {s : Sto} : Wo Q (some (a, s)) = Q a s := propext ⟨fun h => h.out, fun h => ⟨h⟩⟩
theorem wo_none : Wo Q none = False := propext ⟨fun h => h.out, fun h => ⟨h⟩⟩
theorem wp_ofO {o : Option (α × Sto)} : Wp X Q (ofO o) = Wo Q o := by
  cases o with
  | none => exact wp_bad.trans wo_none.symm
  | some p => exact wp_ok.trans wo_some.symm
theorem wp_bind {r : Res α} {f : α → Sto → Res β} {Q : β → Sto → Prop} : Wp X Q (r.bind f) = Wp X (fun a s => Wp X Q (f a s)) r := by
  cases r with
  | ok a s => rw [wp_ok]; rfl
  | exn c fs s => rw [wp_exn]; exact wp_exn
  | bad => rw [wp_bad]; exact wp_bad
theorem Wp.imp {r : Res α} (h : Wp X Q r) (hq : ∀ a s, Q a s → Q' a s) (hx : ∀ c fs s, X c fs s → X' c fs s) : Wp X' Q' r := by
  refine ⟨?_⟩
  have h := h.out
  cases r with
  | ok a s => exact hq _ _ h
  | exn c fs s => exact hx _ _ _ h
  | bad => exact h
theorem Wp.mono {r : Res α} (h : Wp (fun _ _ _ => False) Q r) (hq : ∀ a s, Q a s → Q' a s) : Wp X Q' r := h.imp hq fun _ _ _ z => z.elim
theorem Wp.to {r : Res α} (h : Wp (fun _ _ _ => False) Q r) : ∃ a s, r = .ok a s ∧ Q a s := by
  have h := h.out
  cases r with
  | ok a s => exact ⟨a, s, rfl, h⟩
  | exn c fs s => exact h.elim
  | bad => exact h.elim
theorem Wo.mono {o : Option (α × Sto)} (h : Wo Q o) (hq : ∀ a s, Q a s → Q' a s) : Wo Q' o := by
  refine ⟨?_⟩
  have h := h.out
  rcases o with _ | ⟨a, s⟩
  · exact h
  · exact hq _ _ h
theorem wp_ext {Q Q' : α → Sto → Prop} {r : Res α} (h : ∀ a s, Q a s = Q' a s) : Wp X Q r = Wp X Q' r := by
  cases r
  · rw [wp_ok, wp_ok]; exact h _ _
  · rw [wp_exn, wp_exn]
  · rw [wp_bad, wp_bad]
theorem wo_ext {Q Q' : α → Sto → Prop} {r : Option (α × Sto)} (h : ∀ a s, Q a s = Q' a s) : Wo Q r = Wo Q' r := by
  rcases r with _ | ⟨_, _⟩
  · rw [wo_none, wo_none]
  · rw [wo_some, wo_some]; exact h _ _
/-! expressions -/
theorem wp_c {d : D} {Q : D → Sto → Prop} : Wp X Q (eC d env st) = Q d st := wp_ok
theorem wp_var {i : Nat} {Q : D → Sto → Prop} : Wp X Q (eVar i env st) = Wp X Q (match env[i]? with | some (some d) => .ok d st | _ => .bad) := by
  unfold eVar
  congr 1
theorem eVar_of {i : Nat} {d : D} (h : env[i]? = some (some d)) : eVar i env st = .ok d st := by simp [eVar, h]
theorem wp_bin {op : D → D → O D} {a b : E} {Q : D → Sto → Prop} : Wp X Q (eBin op a b env st) = Wp X (fun x s => Wp X (fun y s' => Wo Q (op x y s')) (b env s)) (a env st) := by unfold eBin; rw [wp_bind]; exact wp_ext fun x s => by rw [wp_bind]; exact wp_ext fun y s => wp_ofO
theorem wp_un {op : D → O D} {a : E} {Q : D → Sto → Prop} : Wp X Q (eUn op a env st) = Wp X (fun x s => Wo Q (op x s)) (a env st) := by unfold eUn; rw [wp_bind]; exact wp_ext fun x s => wp_ofO
theorem wp_nil {Q : List D → Sto → Prop} : Wp X Q (eArgs [] env st) = Q [] st := wp_ok
theorem wp_cons {a : E} {as : List E} {Q : List D → Sto → Prop} : Wp X Q (eArgs (a :: as) env st) = Wp X (fun x s => Wp X (fun xs s' => Q (x :: xs) s') (eArgs as env s)) (a env st) := by rw [eArgs, wp_bind]; exact wp_ext fun x s => by rw [wp_bind]; exact wp_ext fun xs s' => wp_ok
theorem wp_blt {op : List D → O D} {as : List E} {Q : D → Sto → Prop} : Wp X Q (eBlt op as env st) = Wp X (fun xs s => Wo Q (op xs s)) (eArgs as env st) := by unfold eBlt; rw [wp_bind]; exact wp_ext fun x s => wp_ofO
theorem wp_if {c : T} {a b : E} {Q : D → Sto → Prop} : Wp X Q (eIf c a b env st) = Wp X (fun k s => Wp X Q (if k = true then a env s else b env s)) (c env st) := by rw [eIf, wp_bind]
theorem wp_asB {a : E} {Q : Bool → Sto → Prop} : Wp X Q (asB a env st) = Wp X (fun x s => Wp X Q (match x with | .bl k => .ok k s | _ => .bad)) (a env st) := by simp only [asB, wp_bind] <;> rfl
theorem wp_tTru {a : E} {Q : Bool → Sto → Prop} : Wp X Q (tTru a env st) = Wp X (fun x s => Wp X Q (match tru x s with | some k => .ok k s | none => .bad)) (a env st) := by simp only [tTru, wp_bind] <;> rfl
theorem wp_tAnd {a b : T} {Q : Bool → Sto → Prop} : Wp X Q (tAnd' a b env st) = Wp X (fun k s => Wp X Q (if k = true then b env s else .ok false s)) (a env st) := by simp only [tAnd', wp_bind] <;> rfl
theorem wp_tOr {a b : T} {Q : Bool → Sto → Prop} : Wp X Q (tOr' a b env st) = Wp X (fun k s => Wp X Q (if k = true then .ok true s else b env s)) (a env st) := by simp only [tOr', wp_bind] <;> rfl
theorem wp_tNot {a : T} {Q : Bool → Sto → Prop} : Wp X Q (tNot' a env st) = Wp X (fun k s => Q (!k) s) (a env st) := by unfold tNot'; rw [wp_bind]; exact wp_ext fun k s => wp_ok
theorem wp_tYes {Q : Bool → Sto → Prop} : Wp X Q (tYes' env st) = Q true st := wp_ok
theorem wp_eAnd {a b : E} {Q : D → Sto → Prop} : Wp X Q (eAnd a b env st) = Wp X (fun x s => Wp X Q (match tru x s with | some true => b env s | some false => .ok x s | none => .bad)) (a env st) := by simp only [eAnd, wp_bind] <;> rfl
theorem wp_eOr {a b : E} {Q : D → Sto → Prop} : Wp X Q (eOr a b env st) = Wp X (fun x s => Wp X Q (match tru x s with | some true => .ok x s | some false => b env s | none => .bad)) (a env st) := by simp only [eOr, wp_bind] <;> rfl
theorem wp_eNot {a : E} {Q : D → Sto → Prop} : Wp X Q (eNot a env st) = Wp X (fun x s => Wp X Q (match tru x s with | some k => .ok (.bl (!k)) s | none => .bad)) (a env st) := by simp only [eNot, wp_bind] <;> rfl
theorem wp_chain {f g : D → D → O D} {a b c : E} {Q : D → Sto → Prop} : Wp X Q (eChain f g a b c env st) = Wp X (fun x s => Wp X (fun y s => Wo (fun z s => Wp X Q (match z with
  | .bl true => (c env s).bind fun w s => ofO (g y w s)
  | .bl false => .ok (.bl false) s
  | _ => .bad)) (f x y s)) (b env s)) (a env st) := by unfold eChain; rw [wp_bind]; exact wp_ext fun x s => by rw [wp_bind]; exact wp_ext fun y s => by rw [wp_bind, wp_ofO] <;> rfl
theorem wp_call {g : F} {as : List E} {Q : D → Sto → Prop} : Wp X Q (eCall g as env st) = Wp X (fun xs s => Wp X Q (g xs s)) (eArgs as env st) := by rw [eCall, wp_bind]
theorem wp_mt {T : String} {op : D → List D → O D} {a : E} {as : List E} {Q : D → Sto → Prop} : Wp X Q (eMt T op a as env st) = Wp X (fun x s => Wp X Q (if tyOk T x s = true then (eArgs as env s).bind fun xs s' => ofO (op x xs s') else .bad)) (a env st) := by simp only [eMt, wp_bind] <;> rfl
theorem wp_meth {c : Nat} {m : String} {g : F} {a : E} {as : List E} {Q : D → Sto → Prop} : Wp X Q (eMeth c m g a as env st) = Wp X (fun x s => Wp X Q (match x with
  | .ref i => match s[i]? with
    | some (.ins c' fs) => if c' = c ∧ fs.lookup m = none then (eArgs as env s).bind fun xs s' => g (.ref i :: xs) s' else .bad
    | _ => .bad
  | _ => .bad)) (a env st) := by simp only [eMeth, wp_bind] <;> rfl
theorem wp_make {c : Nat} {g : F} {as : List E} {Q : D → Sto → Prop} : Wp X Q (eMake c g as env st) = Wp X (fun xs s => Wp X (fun r s' => Wp X Q (match r with
  | .non => .ok (.ref s.length) s'
  | _ => .bad)) (g (.ref s.length :: xs) (s ++ [.ins c []]))) (eArgs as env st) := by unfold eMake; rw [wp_bind]; exact wp_ext fun x s => by rw [wp_bind] <;> rfl
theorem wp_fmt {a : E} {Q : D → Sto → Prop} : Wp X Q (eFmt a env st) = Wp X (fun x s => Wp X Q (match x with
  | .str y => if y.length ≤ LIM then .ok (.str y) s else .bad
  | .int i => if i.natAbs.log2 < 1920 then .ok (.str (toString i)) s else .bad
  | _ => .bad)) (a env st) := by simp only [eFmt, wp_bind] <;> rfl
theorem wp_joinN {acc : Str} {Q : D → Sto → Prop} : Wp X Q (eJoin [] acc env st) = Q (.str acc) st := wp_ok
theorem wp_joinC {a : E} {as : List E} {acc : Str} {Q : D → Sto → Prop} : Wp X Q (eJoin (a :: as) acc env st) = Wp X (fun x s => Wp X Q (match x with
  | .str y => if (acc ++ y).length ≤ LIM then eJoin as (acc ++ y) env s else .bad
  | _ => .bad)) (a env st) := by simp only [eJoin, wp_bind] <;> rfl
theorem wp_partN {Q : Option Int → Sto → Prop} : Wp X Q (ePart none env st) = Q none st := wp_ok
theorem wp_partS {f : E} {Q : Option Int → Sto → Prop} : Wp X Q (ePart (some f) env st) = Wp X (fun x s => Wp X Q (match x with | .int i => .ok (some i) s | _ => .bad)) (f env st) := by simp only [ePart, wp_bind] <;> rfl
theorem wp_sl {a : E} {lo hi : Option E} {Q : D → Sto → Prop} : Wp X Q (eSl a lo hi env st) = Wp X (fun x s => Wp X (fun l s => Wp X (fun h s => Wo Q (opSl l h x s)) (ePart hi env s)) (ePart lo env s)) (a env st) := by unfold eSl; rw [wp_bind]; exact wp_ext fun x s => by rw [wp_bind]; exact wp_ext fun l s => by rw [wp_bind]; exact wp_ext fun h s => wp_ofO
theorem wp_iS {a : E} {Q : Its → Sto → Prop} : Wp X Q (iS a env st) = Wp X (fun d s => Wp X Q (match iterOf d s with | some t => .ok t s | none => .bad)) (a env st) := by simp only [iS, wp_bind] <;> rfl
theorem wp_iR1 {a : E} {Q : Its → Sto → Prop} : Wp X Q (iR1 a env st) = Wp X (fun ds s => Wp X Q (match ds with
  | [.int j] => if -(2 ^ 62) ≤ j ∧ j < 2 ^ 62 then .ok ⟨rngI 0 j.toNat, none⟩ s else .bad
  | _ => .bad)) (eArgs [a] env st) := by simp only [iR1, wp_bind] <;> rfl
theorem wp_iR2 {a b : E} {Q : Its → Sto → Prop} : Wp X Q (iR2 a b env st) = Wp X (fun ds s => Wp X Q (match ds with
  | [.int i, .int j] => if -(2 ^ 62) ≤ i ∧ i < 2 ^ 62 ∧ -(2 ^ 62) ≤ j ∧ j < 2 ^ 62 then .ok ⟨rngI i (j - i).toNat, none⟩ s else .bad
  | _ => .bad)) (eArgs [a, b] env st) := by simp only [iR2, wp_bind] <;> rfl
theorem wp_iEn {a : E} {Q : Its → Sto → Prop} : Wp X Q (iEn a env st) = Wp X (fun ds s => Wp X Q (match ds with
  | [.ref i] => match s[i]? with
    | some (.lst ds) => .ok ⟨enumI ds, some (i, ds)⟩ s
    | _ => .bad
  | _ => .bad)) (eArgs [a] env st) := by simp only [iEn, wp_bind] <;> rfl
/-! statements -/
theorem owp_nx {e : Sl} {s : Sto} : Owp K (.nx e s) = K.nx e s := propext ⟨fun h => h.out, fun h => ⟨h⟩⟩
theorem owp_rt {d : D} {s : Sto} : Owp K (.rt d s) = K.rt d s := propext ⟨fun h => h.out, fun h => ⟨h⟩⟩
theorem owp_bk {e : Sl} {s : Sto} : Owp K (.bk e s) = K.bk e s := propext ⟨fun h => h.out, fun h => ⟨h⟩⟩
theorem owp_ct {e : Sl} {s : Sto} : Owp K (.ct e s) = K.ct e s := propext ⟨fun h => h.out, fun h => ⟨h⟩⟩
theorem owp_exn {c : Nat} {fs : List (String × D)} {e : Sl} {s : Sto} : Owp K (.exn c fs e s) = K.ex c fs e s := propext ⟨fun h => h.out, fun h => ⟨h⟩⟩
theorem owp_bad : Owp K .bad = False := propext ⟨fun h => h.out, fun h => ⟨h⟩⟩
theorem owp_out {r : Res α} {k : α → Sto → Out} : Owp K (r.out env k) = Wp (fun c fs s => K.ex c fs env s) (fun a s => Owp K (k a s)) r := by
  cases r with
  | ok a s => rw [wp_ok]; rfl
  | exn c fs s => rw [wp_exn]; exact owp_exn
  | bad => rw [wp_bad]; exact owp_bad
theorem owp_seq {a b : Sm} : Owp K (sSeq a b env st) = Owp (K.seq b) (a env st) := by
  unfold sSeq
  cases a env st with
  | nx e s => rw [owp_nx]; rfl
  | rt d s => rw [owp_rt]; exact (owp_rt (K := K.seq b)).symm
  | bk e s => rw [owp_bk]; exact (owp_bk (K := K.seq b)).symm
  | ct e s => rw [owp_ct]; exact (owp_ct (K := K.seq b)).symm
  | exn c fs e s => rw [owp_exn]; exact (owp_exn (K := K.seq b)).symm
  | bad => rw [owp_bad]; exact (owp_bad (K := K.seq b)).symm
theorem owp_skip : Owp K (sSkip env st) = K.nx env st := owp_nx
theorem owp_brk : Owp K (sBreak env st) = K.bk env st := owp_bk
theorem owp_cnt : Owp K (sCont env st) = K.ct env st := owp_ct
theorem owp_ret {a : E} : Owp K (sRet a env st) = Wp (fun c fs s => K.ex c fs env s) (fun d s => K.rt d s) (a env st) := by unfold sRet; rw [owp_out]; exact wp_ext fun d s => owp_rt
theorem owp_expr {a : E} : Owp K (sExpr a env st) = Wp (fun c fs s => K.ex c fs env s) (fun d s => K.nx env s) (a env st) := by unfold sExpr; rw [owp_out]; exact wp_ext fun d s => owp_nx
theorem owp_if {c : T} {a b : Sm} : Owp K (sIf c a b env st) = Wp (fun c fs s => K.ex c fs env s) (fun k s => Owp K (if k = true then a env s else b env s)) (c env st) := by unfold sIf; rw [owp_out]
theorem owp_asg {i : Nat} {a : E} : Owp K (sAsg (.name i) a env st) = Wp (fun c fs s => K.ex c fs env s) (fun d s => K.nx (env.set i (some d)) s) (a env st) := by unfold sAsg; rw [owp_out]; exact wp_ext fun d s => owp_nx
theorem owp_asgT {ts : List Tg} {a : E} : Owp K (sAsg (.tup ts) a env st) = Wp (fun c fs s => K.ex c fs env s) (fun d s => match Tg.sem s (.tup ts) d env with | some e => K.nx e s | none => False) (a env st) := by
  unfold sAsg
  rw [owp_out]
  exact wp_ext fun d s => by
    cases Tg.sem s (.tup ts) d env with
    | none => exact owp_bad
    | some e => exact owp_nx
theorem owp_par {i j : Nat} {a b : E} : Owp K (sPar i j a b env st) = Wp (fun c fs s => K.ex c fs env s) (fun x s => Wp (fun c fs s => K.ex c fs env s) (fun y s => K.nx ((env.set i (some x)).set j (some y)) s) (b env s)) (a env st) := by
  unfold sPar
  rw [owp_out, wp_cons]
  exact wp_ext fun x s => by
    rw [wp_cons]
    exact wp_ext fun y s => by rw [wp_nil]; exact owp_nx
theorem owp_setIx {o i e : E} : Owp K (sSetIx o i e env st) = Wp (fun c fs s => K.ex c fs env s) (fun d s => Wp (fun c fs s => K.ex c fs env s) (fun x s => Wp (fun c fs s => K.ex c fs env s) (fun y s => Wo (fun _ s => K.nx env s) (opSet x y d s)) (i env s)) (o env s)) (e env st) := by
  unfold sSetIx
  rw [owp_out]
  exact wp_ext fun d s => by
    rw [owp_out]
    exact wp_ext fun x s => by
      rw [owp_out]
      exact wp_ext fun y s => by
        rcases opSet x y d s with _ | ⟨_, _⟩
        · exact owp_bad.trans wo_none.symm
        · exact owp_nx.trans (wo_some (Q := fun _ s => K.nx env s)).symm
theorem owp_setF {P : Nat → Bool} {f : String} {o e : E} : Owp K (sSetF P f o e env st) = Wp (fun c fs s => K.ex c fs env s) (fun d s => Wp (fun c fs s => K.ex c fs env s) (fun x s => Wo (fun _ s => K.nx env s) (opSetF P f x d s)) (o env s)) (e env st) := by
  unfold sSetF
  rw [owp_out]
  exact wp_ext fun d s => by
    rw [owp_out]
    exact wp_ext fun x s => by
      rcases opSetF P f x d s with _ | ⟨_, _⟩
      · exact owp_bad.trans wo_none.symm
      · exact owp_nx.trans (wo_some (Q := fun _ s => K.nx env s)).symm
/-! the same as rules -/
theorem r_wp_ok {a : α} {s : Sto} (h : Q a s) : Wp X Q (.ok a s) := Eq.mpr wp_ok h
theorem r_wp_exn {c : Nat} {fs : List (String × D)} {s : Sto} (h : X c fs s) : Wp X Q (.exn c fs s) := Eq.mpr wp_exn h
theorem r_wo_some {a : α} {s : Sto} (h : Q a s) : Wo Q (some (a, s)) := Eq.mpr wo_some h
theorem r_wp_ofO {o : Option (α × Sto)} (h : Wo Q o) : Wp X Q (ofO o) := Eq.mpr wp_ofO h
theorem r_wp_bind {r : Res α} {f : α → Sto → Res β} {Q : β → Sto → Prop} (h : Wp X (fun a s => Wp X Q (f a s)) r) : Wp X Q (r.bind f) := Eq.mpr wp_bind h
theorem r_wp_c {d : D} {Q : D → Sto → Prop} (h : Q d st) : Wp X Q (eC d env st) := Eq.mpr wp_c h
theorem r_wp_bin {op : D → D → O D} {a b : E} {Q : D → Sto → Prop} (h : Wp X (fun x s => Wp X (fun y s' => Wo Q (op x y s')) (b env s)) (a env st)) : Wp X Q (eBin op a b env st) := Eq.mpr wp_bin h
theorem r_wp_un {op : D → O D} {a : E} {Q : D → Sto → Prop} (h : Wp X (fun x s => Wo Q (op x s)) (a env st)) : Wp X Q (eUn op a env st) := Eq.mpr wp_un h
theorem r_wp_nil {Q : List D → Sto → Prop} (h : Q [] st) : Wp X Q (eArgs [] env st) := Eq.mpr wp_nil h
theorem r_wp_cons {a : E} {as : List E} {Q : List D → Sto → Prop} (h : Wp X (fun x s => Wp X (fun xs s' => Q (x :: xs) s') (eArgs as env s)) (a env st)) : Wp X Q (eArgs (a :: as) env st) := Eq.mpr wp_cons h
theorem r_wp_blt {op : List D → O D} {as : List E} {Q : D → Sto → Prop} (h : Wp X (fun xs s => Wo Q (op xs s)) (eArgs as env st)) : Wp X Q (eBlt op as env st) := Eq.mpr wp_blt h
theorem r_wp_if {c : T} {a b : E} {Q : D → Sto → Prop} (h : Wp X (fun k s => Wp X Q (if k = true then a env s else b env s)) (c env st)) : Wp X Q (eIf c a b env st) := Eq.mpr wp_if h
theorem r_wp_asB {a : E} {Q : Bool → Sto → Prop} (h : Wp X (fun x s => Wp X Q (match x with | .bl k => .ok k s | _ => .bad)) (a env st)) : Wp X Q (asB a env st) := Eq.mpr wp_asB h
theorem r_wp_tTru {a : E} {Q : Bool → Sto → Prop} (h : Wp X (fun x s => Wp X Q (match tru x s with | some k => .ok k s | none => .bad)) (a env st)) : Wp X Q (tTru a env st) := Eq.mpr wp_tTru h
theorem r_wp_tAnd {a b : T} {Q : Bool → Sto → Prop} (h : Wp X (fun k s => Wp X Q (if k = true then b env s else .ok false s)) (a env st)) : Wp X Q (tAnd' a b env st) := Eq.mpr wp_tAnd h
theorem r_wp_tOr {a b : T} {Q : Bool → Sto → Prop} (h : Wp X (fun k s => Wp X Q (if k = true then .ok true s else b env s)) (a env st)) : Wp X Q (tOr' a b env st) := Eq.mpr wp_tOr h
theorem r_wp_tNot {a : T} {Q : Bool → Sto → Prop} (h : Wp X (fun k s => Q (!k) s) (a env st)) : Wp X Q (tNot' a env st) := Eq.mpr wp_tNot h
theorem r_wp_tYes {Q : Bool → Sto → Prop} (h : Q true st) : Wp X Q (tYes' env st) := Eq.mpr wp_tYes h
theorem r_wp_eAnd {a b : E} {Q : D → Sto → Prop} (h : Wp X (fun x s => Wp X Q (match tru x s with | some true => b env s | some false => .ok x s | none => .bad)) (a env st)) : Wp X Q (eAnd a b env st) := Eq.mpr wp_eAnd h
theorem r_wp_eOr {a b : E} {Q : D → Sto → Prop} (h : Wp X (fun x s => Wp X Q (match tru x s with | some true => .ok x s | some false => b env s | none => .bad)) (a env st)) : Wp X Q (eOr a b env st) := Eq.mpr wp_eOr h
theorem r_wp_eNot {a : E} {Q : D → Sto → Prop} (h : Wp X (fun x s => Wp X Q (match tru x s with | some k => .ok (.bl (!k)) s | none => .bad)) (a env st)) : Wp X Q (eNot a env st) := Eq.mpr wp_eNot h
theorem r_wp_chain {f g : D → D → O D} {a b c : E} {Q : D → Sto → Prop} (h : Wp X (fun x s => Wp X (fun y s => Wo (fun z s => Wp X Q (match z with
  | .bl true => (c env s).bind fun w s => ofO (g y w s)
  | .bl false => .ok (.bl false) s
  | _ => .bad)) (f x y s)) (b env s)) (a env st)) : Wp X Q (eChain f g a b c env st) := Eq.mpr wp_chain h
theorem r_wp_call {g : F} {as : List E} {Q : D → Sto → Prop} (h : Wp X (fun xs s => Wp X Q (g xs s)) (eArgs as env st)) : Wp X Q (eCall g as env st) := Eq.mpr wp_call h
theorem r_wp_mt {T : String} {op : D → List D → O D} {a : E} {as : List E} {Q : D → Sto → Prop} (h : Wp X (fun x s => Wp X Q (if tyOk T x s = true then (eArgs as env s).bind fun xs s' => ofO (op x xs s') else .bad)) (a env st)) : Wp X Q (eMt T op a as env st) := Eq.mpr wp_mt h
theorem r_wp_meth {c : Nat} {m : String} {g : F} {a : E} {as : List E} {Q : D → Sto → Prop} (h : Wp X (fun x s => Wp X Q (match x with
  | .ref i => match s[i]? with
    | some (.ins c' fs) => if c' = c ∧ fs.lookup m = none then (eArgs as env s).bind fun xs s' => g (.ref i :: xs) s' else .bad
    | _ => .bad
  | _ => .bad)) (a env st)) : Wp X Q (eMeth c m g a as env st) := Eq.mpr wp_meth h
theorem r_wp_make {c : Nat} {g : F} {as : List E} {Q : D → Sto → Prop} (h : Wp X (fun xs s => Wp X (fun r s' => Wp X Q (match r with
  | .non => .ok (.ref s.length) s'
  | _ => .bad)) (g (.ref s.length :: xs) (s ++ [.ins c []]))) (eArgs as env st)) : Wp X Q (eMake c g as env st) := Eq.mpr wp_make h
theorem r_wp_fmt {a : E} {Q : D → Sto → Prop} (h : Wp X (fun x s => Wp X Q (match x with
  | .str y => if y.length ≤ LIM then .ok (.str y) s else .bad
  | .int i => if i.natAbs.log2 < 1920 then .ok (.str (toString i)) s else .bad
  | _ => .bad)) (a env st)) : Wp X Q (eFmt a env st) := Eq.mpr wp_fmt h
theorem r_wp_joinN {acc : Str} {Q : D → Sto → Prop} (h : Q (.str acc) st) : Wp X Q (eJoin [] acc env st) := Eq.mpr wp_joinN h
theorem r_wp_joinC {a : E} {as : List E} {acc : Str} {Q : D → Sto → Prop} (h : Wp X (fun x s => Wp X Q (match x with
  | .str y => if (acc ++ y).length ≤ LIM then eJoin as (acc ++ y) env s else .bad
  | _ => .bad)) (a env st)) : Wp X Q (eJoin (a :: as) acc env st) := Eq.mpr wp_joinC h
theorem r_wp_partN {Q : Option Int → Sto → Prop} (h : Q none st) : Wp X Q (ePart none env st) := Eq.mpr wp_partN h
theorem r_wp_partS {f : E} {Q : Option Int → Sto → Prop} (h : Wp X (fun x s => Wp X Q (match x with | .int i => .ok (some i) s | _ => .bad)) (f env st)) : Wp X Q (ePart (some f) env st) := Eq.mpr wp_partS h
theorem r_wp_sl {a : E} {lo hi : Option E} {Q : D → Sto → Prop} (h : Wp X (fun x s => Wp X (fun l s => Wp X (fun h s => Wo Q (opSl l h x s)) (ePart hi env s)) (ePart lo env s)) (a env st)) : Wp X Q (eSl a lo hi env st) := Eq.mpr wp_sl h
theorem r_wp_iS {a : E} {Q : Its → Sto → Prop} (h : Wp X (fun d s => Wp X Q (match iterOf d s with | some t => .ok t s | none => .bad)) (a env st)) : Wp X Q (iS a env st) := Eq.mpr wp_iS h
theorem r_wp_iR1 {a : E} {Q : Its → Sto → Prop} (h : Wp X (fun ds s => Wp X Q (match ds with
  | [.int j] => if -(2 ^ 62) ≤ j ∧ j < 2 ^ 62 then .ok ⟨rngI 0 j.toNat, none⟩ s else .bad
  | _ => .bad)) (eArgs [a] env st)) : Wp X Q (iR1 a env st) := Eq.mpr wp_iR1 h
theorem r_wp_iR2 {a b : E} {Q : Its → Sto → Prop} (h : Wp X (fun ds s => Wp X Q (match ds with
  | [.int i, .int j] => if -(2 ^ 62) ≤ i ∧ i < 2 ^ 62 ∧ -(2 ^ 62) ≤ j ∧ j < 2 ^ 62 then .ok ⟨rngI i (j - i).toNat, none⟩ s else .bad
  | _ => .bad)) (eArgs [a, b] env st)) : Wp X Q (iR2 a b env st) := Eq.mpr wp_iR2 h
theorem r_wp_iEn {a : E} {Q : Its → Sto → Prop} (h : Wp X (fun ds s => Wp X Q (match ds with
  | [.ref i] => match s[i]? with
    | some (.lst ds) => .ok ⟨enumI ds, some (i, ds)⟩ s
    | _ => .bad
  | _ => .bad)) (eArgs [a] env st)) : Wp X Q (iEn a env st) := Eq.mpr wp_iEn h
theorem r_owp_nx {e : Sl} {s : Sto} (h : K.nx e s) : Owp K (.nx e s) := Eq.mpr owp_nx h
theorem r_owp_rt {d : D} {s : Sto} (h : K.rt d s) : Owp K (.rt d s) := Eq.mpr owp_rt h
theorem r_owp_out {r : Res α} {k : α → Sto → Out} (h : Wp (fun c fs s => K.ex c fs env s) (fun a s => Owp K (k a s)) r) : Owp K (r.out env k) := Eq.mpr owp_out h
theorem r_owp_seq {a b : Sm} (h : Owp (K.seq b) (a env st)) : Owp K (sSeq a b env st) := Eq.mpr owp_seq h
theorem r_owp_skip (h : K.nx env st) : Owp K (sSkip env st) := Eq.mpr owp_skip h
theorem r_owp_brk (h : K.bk env st) : Owp K (sBreak env st) := Eq.mpr owp_brk h
theorem r_owp_cnt (h : K.ct env st) : Owp K (sCont env st) := Eq.mpr owp_cnt h
theorem r_owp_ret {a : E} (h : Wp (fun c fs s => K.ex c fs env s) (fun d s => K.rt d s) (a env st)) : Owp K (sRet a env st) := Eq.mpr owp_ret h
theorem r_owp_expr {a : E} (h : Wp (fun c fs s => K.ex c fs env s) (fun d s => K.nx env s) (a env st)) : Owp K (sExpr a env st) := Eq.mpr owp_expr h
theorem r_owp_if {c : T} {a b : Sm} (h : Wp (fun c fs s => K.ex c fs env s) (fun k s => Owp K (if k = true then a env s else b env s)) (c env st)) : Owp K (sIf c a b env st) := Eq.mpr owp_if h
theorem r_owp_asg {i : Nat} {a : E} (h : Wp (fun c fs s => K.ex c fs env s) (fun d s => K.nx (env.set i (some d)) s) (a env st)) : Owp K (sAsg (.name i) a env st) := Eq.mpr owp_asg h
theorem r_owp_asgT {ts : List Tg} {a : E} (h : Wp (fun c fs s => K.ex c fs env s) (fun d s => match Tg.sem s (.tup ts) d env with | some e => K.nx e s | none => False) (a env st)) : Owp K (sAsg (.tup ts) a env st) := Eq.mpr owp_asgT h
theorem r_owp_par {i j : Nat} {a b : E} (h : Wp (fun c fs s => K.ex c fs env s) (fun x s => Wp (fun c fs s => K.ex c fs env s) (fun y s => K.nx ((env.set i (some x)).set j (some y)) s) (b env s)) (a env st)) : Owp K (sPar i j a b env st) := Eq.mpr owp_par h
theorem r_owp_setIx {o i e : E} (h : Wp (fun c fs s => K.ex c fs env s) (fun d s => Wp (fun c fs s => K.ex c fs env s) (fun x s => Wp (fun c fs s => K.ex c fs env s) (fun y s => Wo (fun _ s => K.nx env s) (opSet x y d s)) (i env s)) (o env s)) (e env st)) : Owp K (sSetIx o i e env st) := Eq.mpr owp_setIx h
theorem r_owp_setF {P : Nat → Bool} {f : String} {o e : E} (h : Wp (fun c fs s => K.ex c fs env s) (fun d s => Wp (fun c fs s => K.ex c fs env s) (fun x s => Wo (fun _ s => K.nx env s) (opSetF P f x d s)) (o env s)) (e env st)) : Owp K (sSetF P f o e env st) := Eq.mpr owp_setF h
theorem r_seq_nx {b : Sm} {e : Sl} {s : Sto} (h : Owp K (b e s)) : (K.seq b).nx e s := h
theorem r_seq_rt {b : Sm} {d : D} {s : Sto} (h : K.rt d s) : (K.seq b).rt d s := h
theorem r_seq_bk {b : Sm} {e : Sl} {s : Sto} (h : K.bk e s) : (K.seq b).bk e s := h
theorem r_seq_ct {b : Sm} {e : Sl} {s : Sto} (h : K.ct e s) : (K.seq b).ct e s := h
theorem r_seq_ex {b : Sm} {c : Nat} {fs : List (String × D)} {e : Sl} {s : Sto} (h : K.ex c fs e s) : (K.seq b).ex c fs e s := h
theorem r_loop_nx {I : Sl → Sto → Prop} {e : Sl} {s : Sto} (h : I e s) : (K.loop I).nx e s := h
theorem r_loop_rt {I : Sl → Sto → Prop} {d : D} {s : Sto} (h : K.rt d s) : (K.loop I).rt d s := h
theorem r_loop_bk {I : Sl → Sto → Prop} {e : Sl} {s : Sto} (h : K.nx e s) : (K.loop I).bk e s := h
theorem r_loop_ct {I : Sl → Sto → Prop} {e : Sl} {s : Sto} (h : I e s) : (K.loop I).ct e s := h
theorem r_loop_ex {I : Sl → Sto → Prop} {c : Nat} {fs : List (String × D)} {e : Sl} {s : Sto} (h : K.ex c fs e s) : (K.loop I).ex c fs e s := h
theorem r_fn_nx {Q : D → Sto → Prop} {e : Sl} {s : Sto} (h : Q .non s) : (Ks.fn X Q).nx e s := h
theorem r_fn_rt {Q : D → Sto → Prop} {d : D} {s : Sto} (h : Q d s) : (Ks.fn X Q).rt d s := h
theorem r_fn_ex {Q : D → Sto → Prop} {c : Nat} {fs : List (String × D)} {e : Sl} {s : Sto} (h : X c fs s) : (Ks.fn X Q).ex c fs e s := h
theorem r_var {i : Nat} {d : D} {Q : D → Sto → Prop} (h : env[i]? = some (some d)) (k : Q d st) : Wp X Q (eVar i env st) := by
  rw [eVar_of h]; exact r_wp_ok k
theorem r_wp_iteT {c : Prop} [Decidable c] {a b : Res α} (hc : c) (h : Wp X Q a) : Wp X Q (if c then a else b) := by rw [if_pos hc]; exact h
theorem r_wp_iteF {c : Prop} [Decidable c] {a b : Res α} (hc : ¬ c) (h : Wp X Q b) : Wp X Q (if c then a else b) := by rw [if_neg hc]; exact h
theorem r_owp_iteT {c : Prop} [Decidable c] {a b : Out} (hc : c) (h : Owp K a) : Owp K (if c then a else b) := by rw [if_pos hc]; exact h
theorem r_owp_iteF {c : Prop} [Decidable c] {a b : Out} (hc : ¬ c) (h : Owp K b) : Owp K (if c then a else b) := by rw [if_neg hc]; exact h
theorem r_wp_ite {c : Prop} [Decidable c] {a b : Res α} (h : c → Wp X Q a) (k : ¬ c → Wp X Q b) : Wp X Q (if c then a else b) := by split <;> rename_i z <;> first | exact h z | exact k z
theorem r_owp_ite {c : Prop} [Decidable c] {a b : Out} (h : c → Owp K a) (k : ¬ c → Owp K b) : Owp K (if c then a else b) := by split <;> rename_i z <;> first | exact h z | exact k z
theorem r_decT {p : Prop} [Decidable p] (h : p) : decide p = true := decide_eq_true h
theorem r_decF {p : Prop} [Decidable p] (h : ¬ p) : ¬ decide p = true := fun z => h (of_decide_eq_true z)
theorem r_notT {b : Bool} (h : ¬ b = true) : (!b) = true := by simpa using h
theorem r_notF {b : Bool} (h : b = true) : ¬ (!b) = true := by simpa using h
theorem r_wo_of {o : Option (α × Sto)} {a : α} {s : Sto} (h : o = some (a, s)) (k : Q a s) : Wo Q o := by rw [h]; exact r_wo_some k
theorem wp_fn {n m : Nat} {body : Sm} {ds : List D} {Q : D → Sto → Prop} (h : ds.length = n) (k : Owp (Ks.fn X Q) (body (ds.map some ++ List.replicate (m - n) none) st)) : Wp X Q (fnS n m body ds st) := by
  unfold fnS
  rw [if_pos h]
  revert k
  cases body (ds.map some ++ List.replicate (m - n) none) st <;> exact fun k => ⟨k.out⟩
end
/-! rules that look at a value -/
theorem q_eqX {neg : Bool} {c : Nat} {g : F} {ok : Kd → Bool} {a b : E} {X : XP} {env : Sl} {st : Sto} {Q : D → Sto → Prop} (h : Wp X (fun x s => Wp X (fun y s => ∃ i fs k, x = .ref i ∧ s[i]? = some (.ins c fs) ∧ kind y s = some k ∧ ok k = true ∧ Wp (fun _ _ _ => False) (fun z s => ∃ r : Bool, z = .bl r ∧ Q (.bl (if neg then !r else r)) s) (g [x, y] s)) (b env s)) (a env st)) : Wp X Q (eEqX neg c g ok a b env st) := by
  unfold eEqX
  rw [wp_bind]
  refine h.imp ?_ fun _ _ _ z => z
  intro x s h
  rw [wp_bind]
  refine h.imp ?_ fun _ _ _ z => z
  intro y s h
  obtain ⟨i, fs, k, rfl, hi, hk, ho, h⟩ := h
  obtain ⟨z, s2, e, r, rfl, h⟩ := h.to
  simp only [hi, hk, ho, e, if_pos]
  exact ⟨h⟩
theorem RgC.same {i j c : Int} {n m : Nat} (h : RgC i j c n) (k : RgC i j c m) : n = m := by
  have := h.2.2.2.symm.trans k.2.2.2
  omega
theorem Wp.w {α : Type} {X : XP} {Q Q' : α → Sto → Prop} {r : Res α} (h : Wp X Q r) (hq : ∀ a s, Q a s → Q' a s) : Wp X Q' r := h.imp hq fun _ _ _ z => z
theorem r_p_iteT {A0 B0 c : Prop} [Decidable c] (hc : c) (h : A0) : if c then A0 else B0 := by rw [if_pos hc]; exact h
theorem r_p_iteF {A0 B0 c : Prop} [Decidable c] (hc : ¬ c) (h : B0) : if c then A0 else B0 := by rw [if_neg hc]; exact h
theorem atI0 {α : Type} {x : α} {xs : List α} : atI (x :: xs) 0 = some x := by
  unfold atI ixN
  rw [if_pos (by omega), if_pos (by simp)]
  rfl
theorem atIn {α : Type} {xs : List α} {n : Nat} {x : α} (h : xs[n]? = some x) : atI xs (n : Int) = some x := by
  have hn := (List.getElem?_eq_some_iff.mp h).1
  unfold atI ixN
  rw [if_pos (by omega), if_pos (by omega)]
  simpa using h
/-- a side condition, then the rest -/
def Both (a b : Prop) : Prop := a ∧ b
theorem r_both {a b : Prop} (h : a) (k : b) : Both a b := ⟨h, k⟩
def onB (x : D) (A B : Prop) : Prop := ∃ k : Bool, x = .bl k ∧ (k = true → A) ∧ (k = false → B)
def onTru (x : D) (s : Sto) (A B : Prop) : Prop := ∃ k : Bool, tru x s = some k ∧ (k = true → A) ∧ (k = false → B)
def onBl (x : D) (P : Bool → Prop) : Prop := ∃ k : Bool, x = .bl k ∧ P k
def onInt (x : D) (P : Int → Prop) : Prop := ∃ k : Int, x = .int k ∧ P k
def onStr (x : D) (P : Str → Prop) : Prop := ∃ k : Str, x = .str k ∧ P k
def onNon (x : D) (P : Prop) : Prop := x = .non ∧ P
def onFmt (x : D) (P : Str → Prop) : Prop := (∃ y, x = .str y ∧ y.length ≤ LIM ∧ P y) ∨ ∃ i : Int, x = .int i ∧ i.natAbs.log2 < 1920 ∧ P (toString i)
def onIter (x : D) (s : Sto) (P : Its → Prop) : Prop := ∃ t, iterOf x s = some t ∧ P t
def onObj (x : D) (s : Sto) (c : Nat) (m : String) (P : Nat → Prop) : Prop := ∃ i fs, x = .ref i ∧ s[i]? = some (.ins c fs) ∧ fs.lookup m = none ∧ P i
section
variable {X : XP} {env : Sl} {st s : Sto} {K : Ks} {A B : Prop}
theorem r_bT {k : Bool} (hk : k = true) (h : A) : onB (.bl k) A B := ⟨k, rfl, fun _ => h, fun z => by rw [hk] at z; cases z⟩
theorem r_bF {k : Bool} (hk : ¬ k = true) (h : B) : onB (.bl k) A B := ⟨k, rfl, fun z => (hk z).elim, fun _ => h⟩
theorem r_bSplit {k : Bool} (h1 : k = true → A) (h2 : ¬ k = true → B) : onB (.bl k) A B := ⟨k, rfl, h1, fun z => h2 (by rw [z]; exact Bool.false_ne_true)⟩
theorem r_tT {k : Bool} (hk : k = true) (h : A) : onTru (.bl k) s A B := ⟨k, rfl, fun _ => h, fun z => by rw [hk] at z; cases z⟩
theorem r_tF {k : Bool} (hk : ¬ k = true) (h : B) : onTru (.bl k) s A B := ⟨k, rfl, fun z => (hk z).elim, fun _ => h⟩
theorem r_tSplit {k : Bool} (h1 : k = true → A) (h2 : ¬ k = true → B) : onTru (.bl k) s A B := ⟨k, rfl, h1, fun z => h2 (by rw [z]; exact Bool.false_ne_true)⟩
theorem r_tOf {x : D} {k : Bool} (e : tru x s = some k) (h1 : k = true → A) (h2 : ¬ k = true → B) : onTru x s A B := ⟨k, e, h1, fun z => h2 (by rw [z]; exact Bool.false_ne_true)⟩
theorem r_onBl {P : Bool → Prop} {k : Bool} (h : P k) : onBl (.bl k) P := ⟨k, rfl, h⟩
theorem r_onInt {P : Int → Prop} {k : Int} (h : P k) : onInt (.int k) P := ⟨k, rfl, h⟩
theorem r_onStr {P : Str → Prop} {k : Str} (h : P k) : onStr (.str k) P := ⟨k, rfl, h⟩
theorem r_onNon {P : Prop} (h : P) : onNon .non P := ⟨rfl, h⟩
theorem r_fmtS {P : Str → Prop} {y : Str} (hl : y.length ≤ LIM) (h : P y) : onFmt (.str y) P := .inl ⟨y, rfl, hl, h⟩
theorem r_fmtI {P : Str → Prop} {i : Int} (hl : i.natAbs.log2 < 1920) (h : P (toString i)) : onFmt (.int i) P := .inr ⟨i, rfl, hl, h⟩
theorem r_itT {P : Its → Prop} {ds : List D} (h : P ⟨ds, none⟩) : onIter (.tup ds) s P := ⟨_, rfl, h⟩
theorem r_itS {P : Its → Prop} {ns : List Int} (h : P ⟨ns.map D.int, none⟩) : onIter (.scr ns) s P := ⟨_, rfl, h⟩
theorem r_itL {P : Its → Prop} {r : Nat} {ds : List D} (hr : s[r]? = some (.lst ds)) (h : P ⟨ds, some (r, ds)⟩) : onIter (.ref r) s P := ⟨_, by simp [iterOf, hr], h⟩
theorem r_onObj {P : Nat → Prop} {i c : Nat} {m : String} {fs : List (String × D)} (hr : s[i]? = some (.ins c fs)) (hm : fs.lookup m = none) (h : P i) : onObj (.ref i) s c m P := ⟨i, fs, rfl, hr, hm, h⟩
theorem q_asB {a : E} {Q : Bool → Sto → Prop} (h : Wp X (fun x s => onBl x (fun k => Q k s)) (a env st)) : Wp X Q (asB a env st) := by
  rw [wp_asB]
  exact h.w fun x s ⟨k, e, h⟩ => by subst e; exact r_wp_ok h
theorem q_tTru {a : E} {Q : Bool → Sto → Prop} (h : Wp X (fun x s => onTru x s (Q true s) (Q false s)) (a env st)) : Wp X Q (tTru a env st) := by
  rw [wp_tTru]
  refine h.w fun x s ⟨k, e, h1, h2⟩ => ?_
  rw [e]
  cases k with
  | true => exact r_wp_ok (h1 rfl)
  | false => exact r_wp_ok (h2 rfl)
theorem q_eAnd {a b : E} {Q : D → Sto → Prop} (h : Wp X (fun x s => onTru x s (Wp X Q (b env s)) (Q x s)) (a env st)) : Wp X Q (eAnd a b env st) := by
  rw [wp_eAnd]
  refine h.w fun x s ⟨k, e, h1, h2⟩ => ?_
  rw [e]
  cases k with
  | true => exact h1 rfl
  | false => exact r_wp_ok (h2 rfl)
theorem q_eOr {a b : E} {Q : D → Sto → Prop} (h : Wp X (fun x s => onTru x s (Q x s) (Wp X Q (b env s))) (a env st)) : Wp X Q (eOr a b env st) := by
  rw [wp_eOr]
  refine h.w fun x s ⟨k, e, h1, h2⟩ => ?_
  rw [e]
  cases k with
  | true => exact r_wp_ok (h1 rfl)
  | false => exact h2 rfl
theorem q_eNot {a : E} {Q : D → Sto → Prop} (h : Wp X (fun x s => onTru x s (Q (.bl false) s) (Q (.bl true) s)) (a env st)) : Wp X Q (eNot a env st) := by
  rw [wp_eNot]
  refine h.w fun x s ⟨k, e, h1, h2⟩ => ?_
  rw [e]
  cases k with
  | true => exact r_wp_ok (h1 rfl)
  | false => exact r_wp_ok (h2 rfl)
theorem q_chain {f g : D → D → O D} {a b c : E} {Q : D → Sto → Prop} (h : Wp X (fun x s => Wp X (fun y s => Wo (fun z s => onB z (Wp X (fun w s => Wo Q (g y w s)) (c env s)) (Q (.bl false) s)) (f x y s)) (b env s)) (a env st)) : Wp X Q (eChain f g a b c env st) := by
  rw [wp_chain]
  refine h.w fun x s h => h.w fun y s h => h.mono fun z s ⟨k, e, h1, h2⟩ => ?_
  subst e
  cases k with
  | true =>
    show Wp X Q ((c env s).bind fun w s => ofO (g y w s))
    rw [wp_bind]
    exact (h1 rfl).w fun w s h => r_wp_ofO h
  | false => exact r_wp_ok (h2 rfl)
theorem q_meth {c : Nat} {m : String} {g : F} {a : E} {as : List E} {Q : D → Sto → Prop} (h : Wp X (fun x s => onObj x s c m fun i => Wp X (fun xs s' => Wp X Q (g (.ref i :: xs) s')) (eArgs as env s)) (a env st)) : Wp X Q (eMeth c m g a as env st) := by
  rw [wp_meth]
  refine h.w fun x s ⟨i, fs, e, hi, hm, h⟩ => ?_
  subst e
  simp only [hi]
  rw [if_pos ⟨trivial, hm⟩, wp_bind]
  exact h
theorem q_make {c : Nat} {g : F} {as : List E} {Q : D → Sto → Prop} (h : Wp X (fun xs s => Wp X (fun r s' => onNon r (Q (.ref s.length) s')) (g (.ref s.length :: xs) (s ++ [.ins c []]))) (eArgs as env st)) : Wp X Q (eMake c g as env st) := by
  rw [wp_make]
  exact h.w fun xs s h => h.w fun r s' ⟨e, h⟩ => by subst e; exact r_wp_ok h
theorem q_fmt {a : E} {Q : D → Sto → Prop} (h : Wp X (fun x s => onFmt x fun y => Q (.str y) s) (a env st)) : Wp X Q (eFmt a env st) := by
  rw [wp_fmt]
  refine h.w fun x s h => ?_
  rcases h with ⟨y, rfl, hl, h⟩ | ⟨i, rfl, hl, h⟩
  · simp only [if_pos hl]; exact r_wp_ok h
  · simp only [if_pos hl]; exact r_wp_ok h
theorem q_join {a : E} {as : List E} {acc : Str} {Q : D → Sto → Prop} (h : Wp X (fun x s => onStr x fun y => Both ((acc ++ y).length ≤ LIM) (Wp X Q (eJoin as (acc ++ y) env s))) (a env st)) : Wp X Q (eJoin (a :: as) acc env st) := by
  rw [wp_joinC]
  refine h.w fun x s ⟨y, e, hl, h⟩ => ?_
  subst e
  simp only [if_pos hl]; exact h
theorem q_part {f : E} {Q : Option Int → Sto → Prop} (h : Wp X (fun x s => onInt x fun i => Q (some i) s) (f env st)) : Wp X Q (ePart (some f) env st) := by
  rw [wp_partS]
  exact h.w fun x s ⟨y, e, h⟩ => by subst e; exact r_wp_ok h
theorem q_iS {a : E} {Q : Its → Sto → Prop} (h : Wp X (fun x s => onIter x s fun t => Q t s) (a env st)) : Wp X Q (iS a env st) := by
  rw [wp_iS]
  exact h.w fun x s ⟨y, e, h⟩ => by rw [e]; exact r_wp_ok h
theorem q_iR1 {a : E} {Q : Its → Sto → Prop} (h : Wp X (fun x s => onInt x fun j => Both (-(2 ^ 62) ≤ j ∧ j < 2 ^ 62) (Q ⟨rngI 0 j.toNat, none⟩ s)) (a env st)) : Wp X Q (iR1 a env st) := by
  rw [wp_iR1, wp_cons]
  refine h.w fun x s ⟨y, e, hl, h⟩ => ?_
  subst e
  rw [wp_nil]
  simp only [if_pos hl]; exact r_wp_ok h
theorem q_iR2 {a b : E} {Q : Its → Sto → Prop} (h : Wp X (fun x s => Wp X (fun y s => onInt x fun i => onInt y fun j => Both (-(2 ^ 62) ≤ i ∧ i < 2 ^ 62 ∧ -(2 ^ 62) ≤ j ∧ j < 2 ^ 62) (Q ⟨rngI i (j - i).toNat, none⟩ s)) (b env s)) (a env st)) : Wp X Q (iR2 a b env st) := by
  rw [wp_iR2, wp_cons]
  refine h.w fun x s h => ?_
  rw [wp_cons]
  refine h.w fun y s h8 => ?_
  obtain ⟨i, e, j, e2, hl, h9⟩ := h8
  subst e e2
  rw [wp_nil]
  simp only [if_pos hl]; exact r_wp_ok h9
theorem q_iR3 {a b c : E} {Q : Its → Sto → Prop} {n : Nat} {i j k : Int} (h : Wp X (fun x s => Wp X (fun y s => Wp X (fun z s => x = .int i ∧ y = .int j ∧ z = .int k ∧ RgC i j k n ∧ Q ⟨rngC i k n, none⟩ s) (c env s)) (b env s)) (a env st)) : Wp X Q (iR3 a b c env st) := by
  unfold iR3
  rw [wp_bind, wp_cons]
  refine h.w fun x s h => ?_
  rw [wp_cons]
  refine h.w fun y s h => ?_
  rw [wp_cons]
  refine h.w fun z s h => ?_
  obtain ⟨rfl, rfl, rfl, hr, h⟩ := h
  rw [wp_nil]
  have he : ∃ n, RgC i j k n := ⟨n, hr⟩
  simp only [dif_pos he]
  rw [RgC.same he.choose_spec hr]
  exact r_wp_ok h
def onLst (x : D) (s : Sto) (P : Nat → List D → Prop) : Prop := ∃ r ds, x = .ref r ∧ s[r]? = some (.lst ds) ∧ P r ds
theorem r_onLst {P : Nat → List D → Prop} {r : Nat} {ds : List D} (hr : s[r]? = some (.lst ds)) (h : P r ds) : onLst (.ref r) s P := ⟨r, ds, rfl, hr, h⟩
theorem q_iEn {a : E} {Q : Its → Sto → Prop} (h : Wp X (fun x s => onLst x s fun r ds => Q ⟨enumI ds, some (r, ds)⟩ s) (a env st)) : Wp X Q (iEn a env st) := by
  rw [wp_iEn, wp_cons]
  refine h.w fun x s h => ?_
  obtain ⟨r, ds, rfl, hr, h⟩ := h
  rw [wp_nil]
  simp only [hr]
  exact r_wp_ok h
end
/-! ### what of the store stays -/
/-- all cells but those of P are as they were -/
def Chg (P : List Nat) (st st' : Sto) : Prop := ∀ i c, i ∉ P → st[i]? = some c → st'[i]? = some c
theorem Chg.refl {P : List Nat} {st : Sto} : Chg P st st := fun _ _ _ h => h
theorem Chg.trans {P : List Nat} {a b c : Sto} (h : Chg P a b) (k : Chg P b c) : Chg P a c := fun i x hi e => k i x hi (h i x hi e)
theorem Chg.wide {P P' : List Nat} {a b : Sto} (h : Chg P a b) (k : ∀ i ∈ P, i ∈ P') : Chg P' a b := fun i x hi e => h i x (fun z => hi (k i z)) e
theorem Chg.up {P : List Nat} {a b : Sto} (h : Chg [] a b) : Chg P a b := h.wide (by simp)
theorem Chg.get {P : List Nat} {a b : Sto} (h : Chg P a b) {i : Nat} {c : Cell} (hi : i ∉ P) (e : a[i]? = some c) : b[i]? = some c := h i c hi e
theorem Chg.get0 {a b : Sto} (h : Chg [] a b) {i : Nat} {c : Cell} (e : a[i]? = some c) : b[i]? = some c := h i c (by simp) e
/-- a place that stood nowhere before -/
theorem Chg.new {P : List Nat} {a b c : Sto} {r : Nat} (h : Chg P a b) (hr : a[r]? = none) (k : Chg (r :: P) b c) : Chg P a c := fun i x hi e => k i x (fun z => by
  rcases List.mem_cons.mp z with z | z
  · subst z; rw [hr] at e; cases e
  · exact hi z) (h i x hi e)
theorem Chg.app {P : List Nat} {st t : Sto} : Chg P st (st ++ t) := fun i c _ e => by
  rw [List.getElem?_append_left (List.getElem?_eq_some_iff.mp e).1]; exact e
theorem Chg.set {P : List Nat} {st : Sto} {i : Nat} {c : Cell} (hi : i ∈ P) : Chg P st (st.set i c) := fun j x hj e => by
  rw [List.getElem?_set]
  split
  · rename_i h; subst h; exact (hj hi).elim
  · exact e
section
variable {X : XP} {Q : D → Sto → Prop} {env : Sl} {st : Sto} {K : Ks}
/-- a new list -/
theorem wo_new {ds : List D} (h : ∀ r s, s[r]? = some (.lst ds) → st[r]? = none → Chg [] st s → Q (.ref r) s) : Wo Q (newL ds st) := r_wo_some (h _ _ (by simp) (by simp) Chg.app)
theorem wo_lst {ds : List D} (hl : ds.length ≤ LIM) (h : ∀ r s, s[r]? = some (.lst ds) → st[r]? = none → Chg [] st s → Q (.ref r) s) : Wo Q (opLst ds st) := by
  unfold opLst
  rw [if_pos hl]
  exact wo_new h
theorem set_get {st : Sto} {i : Nat} {c c' : Cell} (h : st[i]? = some c') : (st.set i c)[i]? = some c := by
  rw [List.getElem?_set_self (List.getElem?_eq_some_iff.mp h).1]
theorem wo_append {i : Nat} {ds : List D} {y : D} (hi : st[i]? = some (.lst ds)) (hl : ds.length < LIM) (h : ∀ s, s[i]? = some (.lst (ds ++ [y])) → Chg [i] st s → Q .non s) : Wo Q (opAppend (.ref i) [y] st) := by
  simp only [opAppend, hi, if_pos hl]
  exact r_wo_some (h _ (set_get hi) (Chg.set (by simp)))
theorem wo_extend {i j : Nat} {ds es : List D} (hi : st[i]? = some (.lst ds)) (hj : st[j]? = some (.lst es)) (hl : ds.length + es.length ≤ LIM) (h : ∀ s, s[i]? = some (.lst (ds ++ es)) → Chg [i] st s → Q .non s) : Wo Q (opExtend (.ref i) [.ref j] st) := by
  simp only [opExtend, hi, hj, if_pos hl]
  exact r_wo_some (h _ (set_get hi) (Chg.set (by simp)))
theorem wo_setIx {Q : Unit → Sto → Prop} {r : Nat} {ds : List D} {z : Int} {j : Nat} {d : D} (hi : st[r]? = some (.lst ds)) (hj : ixN ds.length z = some j) (h : ∀ s, s[r]? = some (.lst (ds.set j d)) → Chg [r] st s → Q () s) : Wo Q (opSet (.ref r) (.int z) d st) := by
  simp only [opSet, hi, hj]
  exact r_wo_some (h _ (set_get hi) (Chg.set (by simp)))
theorem wo_setF {Q : Unit → Sto → Prop} {P : Nat → Bool} {f : String} {r c : Nat} {fs : List (String × D)} {d : D} (hi : st[r]? = some (.ins c fs)) (hP : P c = true) (hl : fs.length < 1000) (h : ∀ s, s[r]? = some (.ins c (putD f d fs)) → Chg [r] st s → Q () s) : Wo Q (opSetF P f (.ref r) d st) := by
  simp only [opSetF, hi, if_pos (And.intro hP hl)]
  exact r_wo_some (h _ (set_get hi) (Chg.set (by simp)))
theorem wo_addL {i j : Nat} {a b : List D} (hi : st[i]? = some (.lst a)) (hj : st[j]? = some (.lst b)) (hl : a.length + b.length ≤ LIM) (h : ∀ r s, s[r]? = some (.lst (a ++ b)) → st[r]? = none → Chg [] st s → Q (.ref r) s) : Wo Q (opAdd (.ref i) (.ref j) st) := by
  simp only [opAdd, hi, hj, if_pos hl]
  exact wo_new h
theorem tyOk_list {r : Nat} {ds : List D} {s : Sto} (h : s[r]? = some (.lst ds)) : tyOk "list" (.ref r) s = true := by simp [tyOk, h]
theorem tyOk_str {x : Str} {s : Sto} : tyOk "str" (.str x) s = true := rfl
/-! operations -/
theorem w_addI {i j : Int} (h : Q (.int (i + j)) st) : Wo Q (opAdd (.int i) (.int j) st) := r_wo_of rfl h
theorem w_addS {x y : Str} (hl : x.length + y.length ≤ LIM) (h : Q (.str (x ++ y)) st) : Wo Q (opAdd (.str x) (.str y) st) := by simp only [opAdd, if_pos hl]; exact r_wo_some h
theorem w_sub {i j : Int} (h : Q (.int (i - j)) st) : Wo Q (opSub (.int i) (.int j) st) := r_wo_of rfl h
theorem w_mul {i j : Int} (hl : (-(2 ^ 64) < i ∧ i < 2 ^ 64) ∨ (-(2 ^ 64) < j ∧ j < 2 ^ 64)) (h : Q (.int (i * j)) st) : Wo Q (opMul (.int i) (.int j) st) := by simp only [opMul, if_pos hl]; exact r_wo_some h
theorem w_div {i j : Int} (h0 : 0 < j) (h1 : j < 1073741824) (h : Q (.int (i / j)) st) : Wo Q (opDiv (.int i) (.int j) st) := by simp only [opDiv, if_pos (And.intro h0 h1)]; exact r_wo_some h
theorem w_mod {i j : Int} (h0 : 0 < j) (h : Q (.int (i % j)) st) : Wo Q (opMod (.int i) (.int j) st) := by simp only [opMod, if_pos h0]; exact r_wo_some h
theorem w_pow {i j : Int} (h0 : 0 ≤ j ∧ j ≤ 1000000 ∧ i.natAbs < 2 ^ 64) (h : Q (.int (i ^ j.toNat)) st) : Wo Q (opPow (.int i) (.int j) st) := by simp only [opPow, if_pos h0]; exact r_wo_some h
theorem w_neg {i : Int} (h : Q (.int (-i)) st) : Wo Q (opNeg (.int i) st) := r_wo_of rfl h
theorem w_lt {i j : Int} (h : Q (.bl (decide (i < j))) st) : Wo Q (opCmp (fun i j => decide (i < j)) (.int i) (.int j) st) := r_wo_of rfl h
theorem w_le {i j : Int} (h : Q (.bl (decide (i ≤ j))) st) : Wo Q (opCmp (fun i j => decide (i ≤ j)) (.int i) (.int j) st) := r_wo_of rfl h
theorem w_gt {i j : Int} (h : Q (.bl (decide (j < i))) st) : Wo Q (opCmp (fun i j => decide (j < i)) (.int i) (.int j) st) := r_wo_of rfl h
theorem w_ge {i j : Int} (h : Q (.bl (decide (j ≤ i))) st) : Wo Q (opCmp (fun i j => decide (j ≤ i)) (.int i) (.int j) st) := r_wo_of rfl h
theorem w_is {x : D} (h : Q (.bl (isNon x)) st) : Wo Q (opIs x .non st) := r_wo_of rfl h
theorem w_isNot {x : D} (h : Q (.bl (!isNon x)) st) : Wo Q (opIsNot x .non st) := r_wo_of rfl h
theorem w_ixT {ds : List D} {i : Int} {d : D} (hi : atI ds i = some d) (h : Q d st) : Wo Q (opIx (.tup ds) (.int i) st) := by simp only [opIx, seqOf, hi]; exact r_wo_some h
theorem w_ixL {r : Nat} {ds : List D} {i : Int} {d : D} (hr : st[r]? = some (.lst ds)) (hi : atI ds i = some d) (h : Q d st) : Wo Q (opIx (.ref r) (.int i) st) := by simp only [opIx, seqOf, hr, hi]; exact r_wo_some h
theorem w_ixS {x : Str} {i : Int} {c : Nat} (hi : atI x.cps.toList i = some c) (hl : x.length ≤ LIM) (h : Q (.str ⟨#[c]⟩) st) : Wo Q (opIx (.str x) (.int i) st) := by simp only [opIx, hi, if_pos hl]; exact r_wo_some h
theorem w_lenT {ds : List D} (h : Q (.int ds.length) st) : Wo Q (opLen [.tup ds] st) := r_wo_of rfl h
theorem w_lenL {r : Nat} {ds : List D} (hr : st[r]? = some (.lst ds)) (h : Q (.int ds.length) st) : Wo Q (opLen [.ref r] st) := by simp only [opLen, lenOf, seqOf, hr, Option.map_some]; exact r_wo_some h
theorem w_lenS {x : Str} (hl : x.length ≤ LIM) (h : Q (.int x.length) st) : Wo Q (opLen [.str x] st) := by simp only [opLen, lenOf, if_pos hl]; exact r_wo_some h
theorem w_intI {i : Int} (h : Q (.int i) st) : Wo Q (opInt [.int i] st) := r_wo_of rfl h
theorem w_abs {i : Int} (h : Q (.int (if i < 0 then -i else i)) st) : Wo Q (opAbs [.int i] st) := r_wo_of rfl h
theorem w_str {i : Int} (hl : i.natAbs.log2 < 1920) (h : Q (.str (toString i)) st) : Wo Q (opStr [.int i] st) := by simp only [opStr, if_pos hl]; exact r_wo_some h
theorem w_strS {x : Str} (h : Q (.str x) st) : Wo Q (opStr [.str x] st) := r_wo_of rfl h
theorem w_fld {P : Nat → Bool} {f : String} {r c : Nat} {fs : List (String × D)} {d : D} (hr : st[r]? = some (.ins c fs)) (hP : P c = true) (hf : fs.lookup f = some d) (h : Q d st) : Wo Q (opFld P f (.ref r) st) := by simp only [opFld, hr, if_pos hP, hf]; exact r_wo_some h
theorem w_isiR {t : TC} {ans : Kd → Option Bool} {r : Nat} {c : D} {ds : List D} {b : Bool} (hr : st[r]? = some (.lst ds)) (ht : isTC t c = true) (hb : ans .lst = some b) (h : Q (.bl b) st) : Wo Q (opIsi t ans [.ref r, c] st) := by simp only [opIsi, if_pos ht, kind, hr, hb]; exact r_wo_some h
theorem w_isiC {t : TC} {ans : Kd → Option Bool} {r k : Nat} {c : D} {fs : List (String × D)} {b : Bool} (hr : st[r]? = some (.ins k fs)) (ht : isTC t c = true) (hb : ans (.ins k) = some b) (h : Q (.bl b) st) : Wo Q (opIsi t ans [.ref r, c] st) := by simp only [opIsi, if_pos ht, kind, hr, hb]; exact r_wo_some h
theorem w_isi {t : TC} {ans : Kd → Option Bool} {x c : D} {b : Bool} (hb : opIsi t ans [x, c] [] = some (.bl b, [])) (hx : ∀ r, x ≠ .ref r) (h : Q (.bl b) st) : Wo Q (opIsi t ans [x, c] st) := by
  have e : kind x st = kind x [] := by cases x <;> first | rfl | exact (hx _ rfl).elim
  have e2 : opIsi t ans [x, c] st = some (.bl b, st) := by
    unfold opIsi at hb ⊢
    simp only [e] at hb ⊢
    split at hb
    · rename_i ht
      rw [if_pos ht]
      split at hb
      · split at hb
        · cases hb; rfl
        · cases hb
      · cases hb
    · cases hb
  rw [e2]; exact r_wo_some h
theorem w_isiRT {t : TC} {ans : Kd → Option Bool} {r : Nat} {c : D} {ds : List D} {b : Bool} (hr : st[r]? = some (.lst ds)) (ht : isTC t c = true) (hb : ans .lst = some b) (e : b = true) (h : Q (.bl true) st) : Wo Q (opIsi t ans [.ref r, c] st) := w_isiR hr ht hb (by rw [e]; exact h)
theorem w_isiCT {t : TC} {ans : Kd → Option Bool} {r k : Nat} {c : D} {fs : List (String × D)} {b : Bool} (hr : st[r]? = some (.ins k fs)) (ht : isTC t c = true) (hb : ans (.ins k) = some b) (e : b = true) (h : Q (.bl true) st) : Wo Q (opIsi t ans [.ref r, c] st) := w_isiC hr ht hb (by rw [e]; exact h)
theorem w_isiT {t : TC} {ans : Kd → Option Bool} {x c : D} {b : Bool} (hb : opIsi t ans [x, c] [] = some (.bl b, [])) (e : b = true) (hx : ∀ r, x ≠ .ref r) (h : Q (.bl true) st) : Wo Q (opIsi t ans [x, c] st) := w_isi hb hx (by rw [e]; exact h)
theorem w_isiRF {t : TC} {ans : Kd → Option Bool} {r : Nat} {c : D} {ds : List D} {b : Bool} (hr : st[r]? = some (.lst ds)) (ht : isTC t c = true) (hb : ans .lst = some b) (e : b = false) (h : Q (.bl false) st) : Wo Q (opIsi t ans [.ref r, c] st) := w_isiR hr ht hb (by rw [e]; exact h)
theorem w_isiCF {t : TC} {ans : Kd → Option Bool} {r k : Nat} {c : D} {fs : List (String × D)} {b : Bool} (hr : st[r]? = some (.ins k fs)) (ht : isTC t c = true) (hb : ans (.ins k) = some b) (e : b = false) (h : Q (.bl false) st) : Wo Q (opIsi t ans [.ref r, c] st) := w_isiC hr ht hb (by rw [e]; exact h)
theorem w_isiF {t : TC} {ans : Kd → Option Bool} {x c : D} {b : Bool} (hb : opIsi t ans [x, c] [] = some (.bl b, [])) (e : b = false) (hx : ∀ r, x ≠ .ref r) (h : Q (.bl false) st) : Wo Q (opIsi t ans [x, c] st) := w_isi hb hx (by rw [e]; exact h)
theorem w_tup {ds : List D} (hl : ds.length ≤ LIM) (h : Q (.tup ds) st) : Wo Q (opTup ds st) := by simp only [opTup, if_pos hl]; exact r_wo_some h
theorem w_tupleL {r : Nat} {ds : List D} (hr : st[r]? = some (.lst ds)) (h : Q (.tup ds) st) : Wo Q (opTuple [.ref r] st) := by simp only [opTuple, seqOf, hr]; exact r_wo_some h
theorem w_join {a : Str} {r : Nat} {ds : List D} {ys : List Str} (hr : st[r]? = some (.lst ds)) (hs : strsOf ds = some ys) (hl : (ys.map (·.length)).sum + ys.length * a.length ≤ LIM) (h : Q (.str (Txt.join a ys)) st) : Wo Q (opJoin (.str a) [.ref r] st) := by simp only [opJoin, seqOf, hr, hs, if_pos hl]; exact r_wo_some h
theorem w_split {a b : Str} (hb : (b.length == 0) = false) (hl : a.length + 2 ≤ LIM) (h : ∀ r s, s[r]? = some (.lst ((Txt.split a b).map D.str)) → st[r]? = none → Chg [] st s → Q (.ref r) s) : Wo Q (opSplit (.str a) [.str b] st) := by
  simp only [opSplit, if_pos (And.intro hb hl)]
  exact wo_new h
theorem w_strip {a b : Str} (hl : a.length ≤ LIM) (h : Q (.str (Txt.stripChars a b)) st) : Wo Q (opStrip (.str a) [.str b] st) := by simp only [opStrip, if_pos hl]; exact r_wo_some h
theorem w_eq {x y : D} {b : Bool} (he : eqD st x y = some b) (h : Q (.bl b) st) : Wo Q (opEq x y st) := by simp only [opEq, he]; exact r_wo_some h
theorem w_ne {x y : D} {b : Bool} (he : eqD st x y = some b) (h : Q (.bl (!b)) st) : Wo Q (opNe x y st) := by simp only [opNe, he]; exact r_wo_some h
theorem eqD_int {i j : Int} : eqD st (.int i) (.int j) = some (i == j) := by
  simp [eqD, deep, SeqAt.shaped, PyData.eqv, PyData.canLay0, PyData.depth]
theorem w_eqI {i j : Int} (h : Q (.bl (i == j)) st) : Wo Q (opEq (.int i) (.int j) st) := w_eq eqD_int h
theorem w_neI {i j : Int} (h : Q (.bl (!(i == j))) st) : Wo Q (opNe (.int i) (.int j) st) := w_ne eqD_int h
theorem eqD_str {x y : Str} (hx : PyData.strOk x = true) (hy : PyData.strOk y = true) : eqD st (.str x) (.str y) = some (x == y) := by
  simp [eqD, deep, SeqAt.shaped, PyData.eqv, PyData.canLay0, PyData.depth, hx, hy]
theorem w_eqS {x y : Str} (hx : PyData.strOk x = true) (hy : PyData.strOk y = true) (h : Q (.bl (x == y)) st) : Wo Q (opEq (.str x) (.str y) st) := w_eq (eqD_str hx hy) h
theorem w_neS {x y : Str} (hx : PyData.strOk x = true) (hy : PyData.strOk y = true) (h : Q (.bl (!(x == y))) st) : Wo Q (opNe (.str x) (.str y) st) := w_ne (eqD_str hx hy) h
theorem eqD_bl {i j : Bool} : eqD st (.bl i) (.bl j) = some (i == j) := by
  simp [eqD, deep, SeqAt.shaped, PyData.eqv, PyData.canLay0, PyData.depth]
theorem w_eqB {x y : Bool} (h : Q (.bl (x == y)) st) : Wo Q (opEq (.bl x) (.bl y) st) := w_eq eqD_bl h
theorem w_neB {x y : Bool} (h : Q (.bl (!(x == y))) st) : Wo Q (opNe (.bl x) (.bl y) st) := w_ne eqD_bl h
theorem w_in {neg : Bool} {x : Str} {ds : List D} (h0 : ds.all flatD = true) (h : Q (.bl (if neg then !inF (.str x) ds else inF (.str x) ds)) st) : Wo Q (opIn neg (.str x) (.tup ds) st) := by
  simp only [opIn, seqOf]
  rw [if_pos ⟨rfl, h0⟩]
  exact r_wo_some h
theorem w_inL {neg : Bool} {r : Nat} {x : Str} {ds : List D} (hr : st[r]? = some (.lst ds)) (h0 : ds.all flatD = true) (h : Q (.bl (if neg then !inF (.str x) ds else inF (.str x) ds)) st) : Wo Q (opIn neg (.str x) (.ref r) st) := by
  simp only [opIn, seqOf, hr]
  rw [if_pos ⟨rfl, h0⟩]
  exact r_wo_some h
theorem w_slL {lo hi : Option Int} {r : Nat} {ds : List D} (hr : st[r]? = some (.lst ds)) (h : ∀ q s, s[q]? = some (.lst (cutD ds lo hi)) → st[q]? = none → Chg [] st s → Q (.ref q) s) : Wo Q (opSl lo hi (.ref r) st) := by
  simp only [opSl, seqOf, hr]
  exact wo_new h
theorem w_intS {x : Str} {n : Int} (hn : PySem.intText? x = some n) (hl : x.length ≤ 640) (h : Q (.int n) st) : Wo Q (opInt [.str x] st) := by
  simp only [opInt, hn, if_pos hl]
  exact r_wo_some h
/-! loops -/
theorem owp_forS {p : Its} {t : Tg} {body : Sm} {ds : List D} (I : Nat → Sl → Sto → Prop)
    (step : ∀ i d e s, ds[i]? = some d → I i e s → p.okB s ∧ ∃ e', Tg.sem s t d e = some e' ∧ Owp (K.loop (I (i + 1))) (body e' s))
    (hend : ∀ e s, I ds.length e s → p.okB s ∧ K.nx e s) : ∀ {env st}, I 0 env st → Owp K (forS p t body ds env st) := by
  intro env st h0
  have key : ∀ (k : Nat) (l : List D) (e : Sl) (s : Sto), l = ds.drop k → k ≤ ds.length → I k e s → Owp K (forS p t body l e s) := by
    intro k l
    induction l generalizing k with
    | nil =>
      intro e s hl hk hI
      have : k = ds.length := by
        have := congrArg List.length hl
        simp at this
        omega
      subst this
      obtain ⟨h1, h2⟩ := hend e s hI
      unfold forS
      rw [if_pos h1]
      exact ⟨h2⟩
    | cons d l ih =>
      intro e s hl hk hI
      have hd : ds[k]? = some d := by
        have := congrArg (fun l => l[0]?) hl
        simp at this
        exact this.symm
      have hkl : k < ds.length := (List.getElem?_eq_some_iff.mp hd).1
      have hl' : l = ds.drop (k + 1) := by
        have := congrArg List.tail hl
        simpa using this
      obtain ⟨h1, e', h2, h3⟩ := step k d e s hd hI
      unfold forS
      rw [if_pos h1, h2]
      simp only
      revert h3
      cases body e' s with
      | nx e2 s2 => exact fun h3 => ih (k + 1) e2 s2 hl' hkl h3.out
      | ct e2 s2 => exact fun h3 => ih (k + 1) e2 s2 hl' hkl h3.out
      | bk e2 s2 => exact fun h3 => ⟨h3.out⟩
      | rt d2 s2 => exact fun h3 => ⟨h3.out⟩
      | exn c fs e2 s2 => exact fun h3 => ⟨h3.out⟩
      | bad => exact fun h3 => ⟨h3.out⟩
  exact key 0 ds env st (by simp) (Nat.zero_le _) h0
theorem owp_for {it : Sl → M Its} {t : Tg} {body : Sm} : Owp K (sFor it t body env st) = Wp (fun c fs s => K.ex c fs env s) (fun p s => Owp K (forS p t body p.items env s)) (it env st) := by unfold sFor; rw [owp_out]
theorem r_owp_for {it : Sl → M Its} {t : Tg} {body : Sm} (h : Wp (fun c fs s => K.ex c fs env s) (fun p s => Owp K (forS p t body p.items env s)) (it env st)) : Owp K (sFor it t body env st) := Eq.mpr owp_for h
theorem okB_none {ds : List D} {s : Sto} : Its.okB ⟨ds, none⟩ s := fun _ _ h => by cases h
theorem okB_some {ds es : List D} {i : Nat} {s : Sto} (h : s[i]? = some (.lst es)) : Its.okB ⟨ds, some (i, es)⟩ s := fun _ _ z => by cases z; exact h
/-- a comprehension: what each item gives -/
theorem wp_lcS {p : Its} {vs : List Nat} {t : Tg} {c : T} {e : E} {L : Nat} {env : Sl} {st0 : Sto} (sel : D → Option D) (hp : ∀ s, Chg [] st0 s → p.okB s) (hL : st0[L]? = none) : ∀ (ds : List D) (acc : List D) (s : Sto), acc.length + ds.length ≤ LIM → s[L]? = some (.lst acc) → Chg [] st0 s →
    (∀ d ∈ ds, ∀ s ds', s[L]? = some (.lst ds') → Chg [] st0 s → ∃ e1, Tg.sem s t d (wipeD env vs) = some e1 ∧ Wp (fun _ _ _ => False) (fun k s1 => if k = true then Wp (fun _ _ _ => False) (fun y s2 => sel d = some y ∧ Chg [] s s2) (e e1 s1) else sel d = none ∧ Chg [] s s1) (c e1 s)) →
    ∃ s', lcS p vs t c e L env ds s = some s' ∧ s'[L]? = some (.lst (acc ++ ds.filterMap sel)) ∧ Chg [] st0 s'
  | [], acc, s, _, hs, h, _ => ⟨s, by unfold lcS; rw [if_pos (hp s h)], by simpa using hs, h⟩
  | d :: ds, acc, s, hl, hs, h, H => by
    obtain ⟨e1, he1, hw⟩ := H d (by simp) s acc hs h
    obtain ⟨k, s1, hc, hw⟩ := hw.to
    have H' := fun d hd => H d (List.mem_cons_of_mem _ hd)
    unfold lcS
    rw [if_pos (hp s h), he1]
    simp only [hc]
    cases k with
    | true =>
      rw [if_pos rfl] at hw
      obtain ⟨y, s2, he, hy, hch⟩ := hw.to
      have h2 := hch.get0 hs
      simp only [List.length_cons] at hl
      simp only [he, h2]
      rw [if_pos (by omega)]
      obtain ⟨s', r1, r2, r3⟩ := wp_lcS (p := p) (vs := vs) (t := t) (c := c) (e := e) (env := env) sel hp hL ds (acc ++ [y]) (s2.set L (.lst (acc ++ [y]))) (by simp; omega) (set_get h2) (Chg.new (h.trans hch) hL (Chg.set (by simp))) H'
      exact ⟨s', r1, by rw [r2]; simp [hy], r3⟩
    | false =>
      simp only [Bool.false_eq_true, if_false] at hw
      obtain ⟨hy, hch⟩ := hw
      simp only [List.length_cons] at hl
      obtain ⟨s', r1, r2, r3⟩ := wp_lcS (p := p) (vs := vs) (t := t) (c := c) (e := e) (env := env) sel hp hL ds acc s1 (by omega) (hch.get0 hs) (h.trans hch) H'
      exact ⟨s', r1, by rw [r2]; simp [hy], r3⟩
theorem wp_lc {vs : List Nat} {it : Sl → M Its} {t : Tg} {c : T} {e : E} (h : Wp X (fun p s0 => ∃ sel : D → Option D, (∀ s, Chg [] s0 s → p.okB s) ∧ p.items.length ≤ LIM ∧
    (∀ d ∈ p.items, ∀ s, Chg [] s0 s → ∃ e1, Tg.sem s t d (wipeD env vs) = some e1 ∧ Wp (fun _ _ _ => False) (fun k s1 => if k = true then Wp (fun _ _ _ => False) (fun y s2 => sel d = some y ∧ Chg [] s s2) (e e1 s1) else sel d = none ∧ Chg [] s s1) (c e1 s)) ∧
    ∀ r s, s[r]? = some (.lst (p.items.filterMap sel)) → s0[r]? = none → Chg [] s0 s → Q (.ref r) s) (it env st)) : Wp X Q (eLc vs it t c e env st) := by
  unfold eLc
  rw [wp_bind]
  refine h.imp ?_ fun _ _ _ z => z
  rintro p s0 ⟨sel, hp, hl, H, k⟩
  obtain ⟨s', r1, r2, r3⟩ := wp_lcS (p := p) (vs := vs) (t := t) (c := c) (e := e) (env := env) (L := s0.length) (st0 := s0) sel hp (by simp) p.items [] (s0 ++ [.lst []]) (by simpa using hl) (by simp) Chg.app (fun d hd s ds' _ hs => H d hd s hs)
  rw [r1]
  exact r_wp_ok (k _ _ (by simpa using r2) (by simp) r3)
end
end LF

set_option Elab.async false
set_option linter.all false
namespace LF
open PySem PySem.Spec PyProof.Rows L2
section
variable {α : Type} {X : XP} {Q : D → Sto → Prop} {env : Sl} {st s : Sto} {K : Ks}
/-! ### raise, try -/
theorem r_raise0 {c : Nat} (h : K.ex c [] env st) : Owp K (sRaise0 c env st) := Eq.mpr owp_exn h
theorem r_raise1 {c : Nat} {f : String} {a : E} (h : Wp (fun c fs s => K.ex c fs env s) (fun d s => K.ex c [(f, d)] env s) (a env st)) : Owp K (sRaise1 c f a env st) := by
  unfold sRaise1
  rw [owp_out]
  exact h.w fun d s h => Eq.mpr owp_exn h
theorem r_raise2 {c : Nat} {f g : String} {a b : E} (h : Wp (fun c fs s => K.ex c fs env s) (fun x s => Wp (fun c fs s => K.ex c fs env s) (fun y s => K.ex c [(g, y), (f, x)] env s) (b env s)) (a env st)) : Owp K (sRaise2 c f g a b env st) := by
  unfold sRaise2
  rw [owp_out]
  refine h.w fun d s h => ?_
  rw [owp_out]
  exact h.w fun d s h => Eq.mpr owp_exn h
def Ks.try (K : Ks) (hs : List Hx) : Ks := ⟨K.nx, K.rt, K.bk, K.ct, fun c fs e s => Owp K (hGo c fs e s hs)⟩
theorem r_try {b : Sm} {hs : List Hx} (h : Owp (K.try hs) (b env st)) : Owp K (sTry b hs env st) := by
  unfold sTry
  revert h
  cases b env st with
  | exn c fs e s => exact fun h => h.out
  | nx e s => exact fun h => ⟨h.out⟩
  | rt d s => exact fun h => ⟨h.out⟩
  | bk e s => exact fun h => ⟨h.out⟩
  | ct e s => exact fun h => ⟨h.out⟩
  | bad => exact fun h => ⟨h.out⟩
theorem r_try_nx {hs : List Hx} {e : Sl} {s : Sto} (h : K.nx e s) : (K.try hs).nx e s := h
theorem r_try_rt {hs : List Hx} {d : D} {s : Sto} (h : K.rt d s) : (K.try hs).rt d s := h
theorem r_try_ex {hs : List Hx} {c : Nat} {fs : List (String × D)} {e : Sl} {s : Sto} (h : Owp K (hGo c fs e s hs)) : (K.try hs).ex c fs e s := h
theorem r_hgo_no {c : Nat} {fs : List (String × D)} {h : Hx} {hs : List Hx} (hc : c ≠ h.c) (hm : c ∈ h.no) (k : Owp K (hGo c fs env st hs)) : Owp K (hGo c fs env st (h :: hs)) := by
  unfold hGo
  rw [if_neg hc, if_pos hm]
  exact k
theorem r_hgo_only {c : Nat} {fs : List (String × D)} {no : List Nat} {f : List (String × D) → E} {hs : List Hx} (h : Wp (fun _ _ _ => False) (fun d s => K.rt d s) (f [] env st)) : Owp K (hGo c fs env st (⟨c, no, none, f⟩ :: hs)) := by
  unfold hGo Hx.run
  rw [if_pos rfl]
  obtain ⟨d, s, e, q⟩ := h.to
  simp only [e]
  exact r_owp_rt q
theorem r_hgo_named {c i : Nat} {fs : List (String × D)} {no : List Nat} {f : List (String × D) → E} {hs : List Hx} (hf : fs ≠ []) (h : Wp (fun _ _ _ => False) (fun d s => noX 8 d = true ∧ s = st ∧ K.rt d s) (f fs (env.set i (some .xc)) st)) : Owp K (hGo c fs env st (⟨c, no, some i, f⟩ :: hs)) := by
  unfold hGo Hx.run
  rw [if_pos rfl]
  obtain ⟨d, s, e, q1, q2, q⟩ := h.to
  simp only [e]
  rw [if_neg hf, if_pos ⟨q1, q2⟩]
  exact r_owp_rt q
theorem q_xf {fs : List (String × D)} {f : String} {a : E} {d : D} (hd : fs.lookup f = some d) (h : Wp X (fun x s => x = .xc ∧ Q d s) (a env st)) : Wp X Q (eXf fs f a env st) := by
  unfold eXf
  rw [wp_bind]
  refine h.w fun x s h => ?_
  obtain ⟨rfl, h⟩ := h
  simp only [hd]
  exact r_wp_ok h
/-! ### values -/
theorem r_newD (h : ∀ r s, s[r]? = some (.dct []) → st[r]? = none → Chg [] st s → Q (.ref r) s) : Wp X Q (eNewD env st) := r_wp_ok (h _ _ (by simp) (by simp) Chg.app)
theorem w_isiK {t : TC} {ans : Kd → Option Bool} {x c : D} {k : Kd} {b : Bool} (hk : kind x st = some k) (ht : isTC t c = true) (hb : ans k = some b) (h : Q (.bl b) st) : Wo Q (opIsi t ans [x, c] st) := by
  simp only [opIsi, if_pos ht, hk, hb]; exact r_wo_some h
theorem w_isiDF {t : TC} {ans : Kd → Option Bool} {r : Nat} {c : D} {b : Bool} (hr : st[r]? = some (.dct [])) (ht : isTC t c = true) (hb : ans .dct = some b) (e : b = false) (h : Q (.bl false) st) : Wo Q (opIsi t ans [.ref r, c] st) := w_isiK (k := .dct) (by simp only [kind, hr]) ht hb (by rw [e]; exact h)
theorem w_isiLT {x : D} {k : Kd} {b : Bool} (hk : kind x st = some k) (hb : ansLT k = some b) (h : Q (.bl b) st) : Wo Q (opIsiLT [x, .tup [.ty "list", .ty "tuple"]] st) := by
  simp only [opIsiLT, hk, hb]
  rw [if_pos ⟨trivial, trivial⟩]
  exact r_wo_some h
theorem w_neE {i j : Nat} {a b : List D} (hi : st[i]? = some (.lst a)) (hj : st[j]? = some (.lst b)) (hab : a.length ≠ b.length ∨ a = []) (h : Q (.bl (decide (a.length ≠ b.length))) st) : Wo Q (opEqE true (.ref i) (.ref j) st) := by
  simp only [opEqE, hi, hj]
  by_cases hl : a.length ≠ b.length
  · rw [if_pos hl]
    rw [decide_eq_true hl] at h
    exact r_wo_some h
  · rw [if_neg hl]
    rw [decide_eq_false hl] at h
    rw [if_pos (hab.resolve_left hl)]
    exact r_wo_some h
theorem w_eqE {i j : Nat} {a b : List D} (hi : st[i]? = some (.lst a)) (hj : st[j]? = some (.lst b)) (hab : a.length ≠ b.length ∨ a = []) (h : Q (.bl (decide (a.length = b.length))) st) : Wo Q (opEqE false (.ref i) (.ref j) st) := by
  simp only [opEqE, hi, hj]
  by_cases hl : a.length ≠ b.length
  · rw [if_pos hl]
    rw [decide_eq_false hl] at h
    exact r_wo_some h
  · rw [if_neg hl]
    rw [decide_eq_true (by omega)] at h
    rw [if_pos (hab.resolve_left hl)]
    exact r_wo_some h
theorem w_addBI {i j : Int} (h : Q (.int (i + j)) st) : Wo Q (opAddB (.int i) (.int j) st) := r_wo_of rfl h
theorem w_addBB {i : Bool} {j : Int} (h : Q (.int (b2 i + j)) st) : Wo Q (opAddB (.bl i) (.int j) st) := r_wo_of rfl h
theorem w_subBI {i j : Int} (h : Q (.int (i - j)) st) : Wo Q (opSubB (.int i) (.int j) st) := r_wo_of rfl h
theorem w_subBB {i : Bool} {j : Int} (h : Q (.int (b2 i - j)) st) : Wo Q (opSubB (.bl i) (.int j) st) := r_wo_of rfl h
theorem w_addT {x y : List D} (hl : x.length + y.length ≤ LIM) (h : Q (.tup (x ++ y)) st) : Wo Q (opAdd (.tup x) (.tup y) st) := by simp only [opAdd, if_pos hl]; exact r_wo_some h
theorem w_slT {lo hi : Option Int} {ds : List D} (h : Q (.tup (cutD ds lo hi)) st) : Wo Q (opSl lo hi (.tup ds) st) := r_wo_of rfl h
theorem w_slS {lo hi : Option Int} {z : Str} (hl : z.length ≤ LIM) (h : Q (.str (cutS z lo hi)) st) : Wo Q (opSl lo hi (.str z) st) := by simp only [opSl, if_pos hl]; exact r_wo_some h
theorem w_listT {ds : List D} (h : ∀ r s, s[r]? = some (.lst ds) → st[r]? = none → Chg [] st s → Q (.ref r) s) : Wo Q (opList [.tup ds] st) := by
  simp only [opList, seqOf]
  exact wo_new h
theorem w_listL {r : Nat} {ds : List D} (hr : st[r]? = some (.lst ds)) (h : ∀ r s, s[r]? = some (.lst ds) → st[r]? = none → Chg [] st s → Q (.ref r) s) : Wo Q (opList [.ref r] st) := by
  simp only [opList, seqOf, hr]
  exact wo_new h
theorem w_strBI {i : Int} (hl : i.natAbs.log2 < 1920) (h : Q (.str (toString i)) st) : Wo Q (opStrB [.int i] st) := by simp only [opStrB, opStr, if_pos hl]; exact r_wo_some h
theorem w_strBB {b : Bool} (h : Q (.str (if b then "True" else "False")) st) : Wo Q (opStrB [.bl b] st) := r_wo_of rfl h
theorem w_strBS {x : Str} (h : Q (.str x) st) : Wo Q (opStrB [.str x] st) := r_wo_of rfl h
theorem w_mulXI {i j : Int} (hl : (-(2 ^ 64) < i ∧ i < 2 ^ 64) ∨ (-(2 ^ 64) < j ∧ j < 2 ^ 64)) (h : Q (.int (i * j)) st) : Wo Q (opMulX (.int i) (.int j) st) := by simp only [opMulX, opMul, if_pos hl]; exact r_wo_some h
theorem w_mulXT {a : List D} {k : Int} (hc : a ≠ [] ∧ 2 ≤ k ∧ k ≤ 1000 ∧ a.length ≤ 1000) (h : Q (.tup (List.replicate k.toNat a).flatten) st) : Wo Q (opMulX (.tup a) (.int k) st) := by simp only [opMulX, if_pos hc]; exact r_wo_some h
theorem w_mulXS {x : Str} {k : Int} (hc : 1 ≤ k ∧ k ≤ 1000 ∧ 1 ≤ x.length ∧ x.length ≤ 1000) (h : Q (.str (if k = 1 then x else ⟨(List.replicate k.toNat x.cps).foldl (· ++ ·) #[]⟩)) st) : Wo Q (opMulX (.str x) (.int k) st) := by simp only [opMulX, if_pos hc]; exact r_wo_some h
theorem w_mulXL {r : Nat} {a : List D} {k : Int} (hr : st[r]? = some (.lst a)) (hc : a.length * k.toNat ≤ LIM ∧ -(2 ^ 63) ≤ k ∧ k < 2 ^ 63) (h : ∀ q s, s[q]? = some (.lst (List.replicate k.toNat a).flatten) → st[q]? = none → Chg [] st s → Q (.ref q) s) : Wo Q (opMulX (.ref r) (.int k) st) := by
  simp only [opMulX, opMul, hr, if_pos hc]
  exact wo_new h
/-- x == y, x no instance -/
theorem q_eqXD {neg : Bool} {c : Nat} {g : F} {ok : Kd → Bool} {a b : E} (h : Wp X (fun x s => Wp X (fun y s => (∀ i k fs, x = .ref i → s[i]? ≠ some (.ins k fs)) ∧ Wo Q ((if neg then opNe else opEq) x y s)) (b env s)) (a env st)) : Wp X Q (eEqX neg c g ok a b env st) := by
  unfold eEqX
  rw [wp_bind]
  refine h.w fun x s h => ?_
  rw [wp_bind]
  refine h.w fun y s h => ?_
  obtain ⟨hx, h⟩ := h
  have done : Wp X Q (ofO (if neg then opNe x y s else opEq x y s)) := r_wp_ofO (by cases neg <;> exact h)
  cases x with
  | ref i =>
    simp only
    split
    · rename_i k fs e
      exact (hx i k fs rfl e).elim
    · exact done
  | _ => exact done
end
end LF

set_option Elab.async false
set_option linter.all false
/-! rules for stars, lambdas handed to a def, list(range), two places set -/
namespace LF
open PySem PySem.Spec PyProof.Rows L2
section
variable {α : Type} {X : XP} {Q : D → Sto → Prop} {env : Sl} {st s : Sto} {K : Ks}
theorem w_mulYI {i j : Int} (hl : (-(2 ^ 64) < i ∧ i < 2 ^ 64) ∨ (-(2 ^ 64) < j ∧ j < 2 ^ 64)) (h : Q (.int (i * j)) st) : Wo Q (opMulY (.int i) (.int j) st) := w_mulXI hl h
theorem w_mulYT {a : List D} {k : Int} (hc : a ≠ [] ∧ 0 ≤ k ∧ k ≤ 1000 ∧ a.length ≤ 1000) (h : Q (.tup (List.replicate k.toNat a).flatten) st) : Wo Q (opMulY (.tup a) (.int k) st) := by simp only [opMulY, if_pos hc]; exact r_wo_some h
theorem w_mulYL {r : Nat} {a : List D} {k : Int} (hr : st[r]? = some (.lst a)) (hc : a.length * k.toNat ≤ LIM ∧ -(2 ^ 63) ≤ k ∧ k < 2 ^ 63) (h : ∀ q s, s[q]? = some (.lst (List.replicate k.toNat a).flatten) → st[q]? = none → Chg [] st s → Q (.ref q) s) : Wo Q (opMulY (.ref r) (.int k) st) := w_mulXL hr hc h
theorem r_bltX {op : List D → O D} {as : List (Bool × E)} (h : Wp X (fun xs s => Wo Q (op xs s)) (eArgsX as env st)) : Wp X Q (eBltX op as env st) := by
  unfold eBltX
  rw [wp_bind]
  exact h.w fun xs s h => r_wp_ofO h
theorem r_xnil {Q : List D → Sto → Prop} (h : Q [] st) : Wp X Q (eArgsX [] env st) := r_wp_ok h
theorem r_xcons {a : E} {as : List (Bool × E)} {Q : List D → Sto → Prop} (h : Wp X (fun x s => Wp X (fun xs s' => Q (x :: xs) s') (eArgsX as env s)) (a env st)) : Wp X Q (eArgsX ((false, a) :: as) env st) := by
  rw [eArgsX, wp_bind]
  refine h.w fun x s h => ?_
  rw [wp_bind]
  exact h.w fun xs s h => r_wp_ok h
def onSeq (x : D) (s : Sto) (P : List D → Prop) : Prop := ∃ ds, seqOf x s = some ds ∧ P ds
theorem r_onSeqT {ds : List D} {P : List D → Prop} (h : P ds) : onSeq (.tup ds) s P := ⟨ds, rfl, h⟩
theorem r_onSeqL {r : Nat} {ds : List D} {P : List D → Prop} (hr : s[r]? = some (.lst ds)) (h : P ds) : onSeq (.ref r) s P := ⟨ds, by simp [seqOf, hr], h⟩
theorem r_xstar {a : E} {as : List (Bool × E)} {Q : List D → Sto → Prop} (h : Wp X (fun x s => onSeq x s fun ds => Wp X (fun xs s' => Q (ds ++ xs) s') (eArgsX as env s)) (a env st)) : Wp X Q (eArgsX ((true, a) :: as) env st) := by
  rw [eArgsX, wp_bind]
  refine h.w fun x s h => ?_
  obtain ⟨ds, e, h⟩ := h
  simp only [e]
  rw [wp_bind]
  exact h.w fun xs s h => r_wp_ok h
theorem q_lrg {a : E} (h : Wp X (fun x s => ∃ n : Nat, x = .int n ∧ n ≤ 1000000 ∧ ∀ r s', s'[r]? = some (.lst (rngI 0 n)) → s[r]? = none → Chg [] s s' → Q (.ref r) s') (a env st)) : Wp X Q (eLRg a env st) := by
  unfold eLRg
  rw [wp_bind]
  refine h.w fun x s h => ?_
  obtain ⟨n, rfl, hn, h⟩ := h
  simp only
  rw [if_pos (by omega)]
  exact r_wp_ofO (wo_new h)
theorem r_setV2 {o1 i1 o2 i2 : Nat} {a b : E} (h : Wp (fun c fs s => K.ex c fs env s) (fun x s => Wp (fun c fs s => K.ex c fs env s) (fun y s => ∃ p i q j : D, env[o1]? = some (some p) ∧ env[i1]? = some (some i) ∧ env[o2]? = some (some q) ∧ env[i2]? = some (some j) ∧
    Wo (fun _ s => Wo (fun _ s => K.nx env s) (opSet q j y s)) (opSet p i x s)) (b env s)) (a env st)) : Owp K (sSetV2 o1 i1 o2 i2 a b env st) := by
  unfold sSetV2
  rw [owp_out, wp_cons]
  refine h.w fun x s h => ?_
  rw [wp_cons]
  refine h.w fun y s h => ?_
  obtain ⟨p, i, q, j, e1, e2, e3, e4, h⟩ := h
  rw [wp_nil]
  simp only [e1, e2, e3, e4]
  have h := h.out
  cases h1 : opSet p i x s with
  | none => rw [h1] at h; exact h.elim
  | some r =>
    obtain ⟨u, s1⟩ := r
    rw [h1] at h
    have h := h.out
    dsimp only
    cases h2 : opSet q j y s1 with
    | none => rw [h2] at h; exact h.elim
    | some r =>
      obtain ⟨u, s2⟩ := r
      rw [h2] at h
      exact ⟨h⟩
theorem r_asgT {ts : List Tg} {a : E} (h : Wp (fun c fs s => K.ex c fs env s) (fun d s => ∃ e, Tg.sem s (.tup ts) d env = some e ∧ K.nx e s) (a env st)) : Owp K (sAsg (.tup ts) a env st) := r_owp_asgT (h.w fun d s h => by
  obtain ⟨e, h1, h2⟩ := h
  simp only [h1]
  exact h2)
/-- only an answer counts -/
def Ks.ans (Q : D → Sto → Prop) : Ks := ⟨fun _ _ => False, Q, fun _ _ => False, fun _ _ => False, fun _ _ _ _ => False⟩
theorem r_ans_rt {d : D} (h : Q d s) : (Ks.ans Q).rt d s := h
theorem q_found {n i : Nat} {hs : List Hx} {fr th : E} (h : Wp (fun c fs s => Owp (Ks.ans Q) (hGo c fs (List.replicate n none) s hs)) (fun d s => Wp (fun _ _ _ => False) Q (fr ((List.replicate n none).set i (some d)) s)) (th env st)) : Wp X Q (eFound n i hs fr th env st) := by
  unfold eFound
  have h := h.out
  cases e : th env st with
  | ok d s =>
    rw [e] at h
    obtain ⟨x, s', e2, q⟩ := Wp.to h
    simp only [foundR, e2]
    exact ⟨q⟩
  | exn c fs s =>
    rw [e] at h
    have h := h.out
    revert h
    simp only [foundR]
    cases hGo c fs (List.replicate n none) s hs with
    | rt d s' => exact fun h => ⟨h⟩
    | nx e s => exact fun h => h.elim
    | bk e s => exact fun h => h.elim
    | ct e s => exact fun h => h.elim
    | exn c fs e s => exact fun h => h.elim
    | bad => exact fun h => h.elim
  | bad =>
    rw [e] at h
    exact h.elim
end
end LF

set_option Elab.async false
set_option linter.all false
/-! rules for enumerate of both kinds, a variable that holds a def -/
namespace LF
open PySem PySem.Spec PyProof.Rows L2
section
variable {X : XP} {Q : D → Sto → Prop} {env : Sl} {st s : Sto}
def onEn (x : D) (s : Sto) (P : Its → Prop) : Prop := (∃ r ds, x = .ref r ∧ s[r]? = some (.lst ds) ∧ P ⟨enumI ds, some (r, ds)⟩) ∨ ∃ ds, x = .tup ds ∧ P ⟨enumI ds, none⟩
theorem r_onEnL {r : Nat} {ds : List D} {P : Its → Prop} (hr : s[r]? = some (.lst ds)) (h : P ⟨enumI ds, some (r, ds)⟩) : onEn (.ref r) s P := .inl ⟨r, ds, rfl, hr, h⟩
theorem r_onEnT {ds : List D} {P : Its → Prop} (h : P ⟨enumI ds, none⟩) : onEn (.tup ds) s P := .inr ⟨ds, rfl, h⟩
theorem q_iEnX {a : E} {Q : Its → Sto → Prop} (h : Wp X (fun x s => onEn x s fun p => Q p s) (a env st)) : Wp X Q (iEnX a env st) := by
  unfold iEnX
  rw [wp_bind, wp_cons]
  refine h.w fun x s h => ?_
  rw [wp_nil]
  rcases h with ⟨r, ds, rfl, hr, h⟩ | ⟨ds, rfl, h⟩
  · simp only [hr]
    exact r_wp_ok h
  · exact r_wp_ok h
theorem r_callV1 {i n1 n2 : Nat} {g1 g2 : F} {as : List E} (e : env[i]? = some (some (.glo n1))) (h : Wp X Q (eCall g1 as env st)) : Wp X Q (eCallV i n1 n2 g1 g2 as env st) := by
  simp only [eCallV, e]
  rw [if_pos trivial]
  exact h
theorem r_callV2 {i n1 n2 : Nat} {g1 g2 : F} {as : List E} (e : env[i]? = some (some (.glo n2))) (hn : n2 ≠ n1) (h : Wp X Q (eCall g2 as env st)) : Wp X Q (eCallV i n1 n2 g1 g2 as env st) := by
  simp only [eCallV, e]
  rw [if_neg hn, if_pos trivial]
  exact h
theorem lcS_inv {p : Its} {vs : List Nat} {t : Tg} {e : E} {L : Nat} {env : Sl} (I : Sto → Prop) (Gd : D → Prop) (hp : ∀ s, I s → p.okB s) (hset : ∀ s acc y, I s → s[L]? = some (.lst acc) → I (s.set L (.lst (acc ++ [y])))) :
    ∀ (ds : List D) (acc : List D) (s : Sto), acc.length + ds.length ≤ LIM → s[L]? = some (.lst acc) → I s → (∀ y ∈ acc, Gd y) →
    (∀ d ∈ ds, ∀ s acc, I s → s[L]? = some (.lst acc) → ∃ e1, Tg.sem s t d (wipeD env vs) = some e1 ∧ Wp (fun _ _ _ => False) (fun y s2 => Gd y ∧ I s2 ∧ s2[L]? = s[L]?) (e e1 s)) →
    ∃ s' ys, lcS p vs t tYes' e L env ds s = some s' ∧ s'[L]? = some (.lst ys) ∧ ys.length = acc.length + ds.length ∧ (∀ y ∈ ys, Gd y) ∧ I s'
  | [], acc, s, _, hs, hI, hG, _ => ⟨s, acc, by unfold lcS; rw [if_pos (hp s hI)], hs, by simp, hG, hI⟩
  | d :: ds, acc, s, hl, hs, hI, hG, H => by
    obtain ⟨e1, he1, hw⟩ := H d (by simp) s acc hI hs
    obtain ⟨y, s2, he, hy, hI2, hL2⟩ := hw.to
    rw [hs] at hL2
    unfold lcS
    rw [if_pos (hp s hI), he1]
    have ht : tYes' e1 s = .ok true s := rfl
    simp only [ht, he, hL2]
    simp only [List.length_cons] at hl
    rw [if_pos (by omega)]
    obtain ⟨s', ys, r1, r2, r3, r4, r5⟩ := lcS_inv (p := p) (vs := vs) (t := t) (e := e) (L := L) (env := env) I Gd hp hset ds (acc ++ [y]) (s2.set L (.lst (acc ++ [y]))) (by simp; omega) (set_get hL2) (hset s2 acc y hI2 hL2) (fun z hz => by
      rcases List.mem_append.mp hz with hz | hz
      · exact hG z hz
      · rw [List.mem_singleton.mp hz]; exact hy) fun d hd => H d (List.mem_cons_of_mem _ hd)
    exact ⟨s', ys, r1, r2, by rw [r3]; simp; omega, r4, r5⟩
/-- a comprehension whose items change the store -/
theorem wp_lcI {vs : List Nat} {it : Sl → M Its} {t : Tg} {e : E} (h : Wp X (fun p s0 => ∃ (I : Sto → Prop) (Gd : D → Prop), p.items.length ≤ LIM ∧ (∀ s, I s → p.okB s) ∧ I (s0 ++ [.lst []]) ∧ (∀ s acc y, I s → s[s0.length]? = some (.lst acc) → I (s.set s0.length (.lst (acc ++ [y])))) ∧
    (∀ d ∈ p.items, ∀ s acc, I s → s[s0.length]? = some (.lst acc) → ∃ e1, Tg.sem s t d (wipeD env vs) = some e1 ∧ Wp (fun _ _ _ => False) (fun y s2 => Gd y ∧ I s2 ∧ s2[s0.length]? = s[s0.length]?) (e e1 s)) ∧
    ∀ s ys, ys.length = p.items.length → (∀ y ∈ ys, Gd y) → I s → s[s0.length]? = some (.lst ys) → Q (.ref s0.length) s) (it env st)) : Wp X Q (eLc vs it t tYes' e env st) := by
  unfold eLc
  rw [wp_bind]
  refine h.imp ?_ fun _ _ _ z => z
  rintro p s0 ⟨I, Gd, hl, hp, hI, hset, H, k⟩
  obtain ⟨s', ys, r1, r2, r3, r4, r5⟩ := lcS_inv (p := p) (vs := vs) (t := t) (e := e) (env := env) (L := s0.length) I Gd hp hset p.items [] (s0 ++ [.lst []]) (by simpa using hl) (by simp) hI (by simp) H
  rw [r1]
  exact r_wp_ok (k _ ys (by simpa using r3) r4 r5 r2)
end
end LF

set_option Elab.async false
set_option linter.all false
/-! plain facts of texts: splits, digits, lengths -/
namespace LF
open PySem PySem.Spec PyProof.Rows L2
/-! ### split -/
theorem split_mem {x y p : Str} (h : p ∈ Txt.split x y) {c : Nat} (hc : c ∈ p.cps.toList) : c ∈ x.cps.toList := by
  rw [← StrLaws.join_split x y]
  exact (mem_join y c _).mpr (.inl ⟨p, h, hc⟩)
theorem join_mem_len (y : Str) : ∀ {l : List Str} {p : Str}, p ∈ l → p.length ≤ (Str.join y l).length
  | [], p, h => by cases h
  | [x], p, h => by
    rw [List.mem_singleton.mp h]
    exact Nat.le_refl _
  | x :: z :: l, p, h => by
    show p.length ≤ (x ++ y ++ Str.join y (z :: l)).length
    rw [Str.length_append, Str.length_append]
    rcases List.mem_cons.mp h with rfl | h
    · omega
    · have := join_mem_len y h
      omega
theorem split_len {x y p : Str} (h : p ∈ Txt.split x y) : p.length ≤ x.length := by
  have := join_mem_len y h
  rw [StrLaws.join_split x y] at this
  exact this
theorem strOk_iff {x : Str} : PyData.strOk x = true ↔ ∀ c ∈ x.cps.toList, c < 0x110000 := by
  simp only [PyData.strOk, Array.all_eq_true', decide_eq_true_eq, Array.mem_toList_iff]
theorem split_ok {x y p : Str} (h : p ∈ Txt.split x y) (hx : PyData.strOk x = true) : PyData.strOk p = true :=
  strOk_iff.mpr fun c hc => strOk_iff.mp hx c (split_mem h hc)
theorem split_ne {x y : Str} : Txt.split x y ≠ [] := fun e => by
  have := split_pos x y
  rw [e] at this
  simp at this
theorem join_ok {sep : Str} {ys : List Str} (hs : PyData.strOk sep = true) (h : ∀ y ∈ ys, PyData.strOk y = true) : PyData.strOk (Txt.join sep ys) = true := by
  refine strOk_iff.mpr fun c hc => ?_
  rw [TL.join_eq] at hc
  rcases (mem_join sep c ys).mp hc with ⟨t, ht, hc⟩ | ⟨_, hc⟩
  · exact strOk_iff.mp (h t ht) c hc
  · exact strOk_iff.mp hs c hc
theorem strsOf_map (ys : List Str) : strsOf (ys.map D.str) = some ys := by
  induction ys with
  | nil => rfl
  | cons y ys ih => simp only [List.map_cons, strsOf, ih, Option.map_some]
theorem jlen (sep : Str) (ys : List Str) : (Txt.join sep ys).length ≤ (ys.map (·.length)).sum + ys.length * sep.length := by
  rw [TL.join_eq]
  exact StrLaws.join_length_le sep ys
theorem sum_le {ys : List Str} {k : Nat} (h : ∀ y ∈ ys, y.length ≤ k) : (ys.map (·.length)).sum ≤ ys.length * k := by
  induction ys with
  | nil => simp
  | cons y ys ih =>
    simp only [List.map_cons, List.sum_cons, List.length_cons, Nat.succ_mul]
    have := h y (by simp)
    have := ih fun z hz => h z (by simp [hz])
    omega
/-- what the pieces have together -/
theorem split_sum {x : Str} {c : Nat} : ((Txt.split x ⟨#[c]⟩).map (·.length)).sum + (Txt.split x ⟨#[c]⟩).length = x.length + 1 := by
  have key : ∀ {l : List Str}, l ≠ [] → (l.map (·.length)).sum + l.length = (Str.join ⟨#[c]⟩ l).length + 1 := by
    intro l
    induction l with
    | nil => exact fun h => (h rfl).elim
    | cons a l ih =>
      intro _
      cases l with
      | nil => simp [Str.join]
      | cons b l =>
        have e := ih (by simp)
        show ((a :: b :: l).map (·.length)).sum + (b :: l).length + 1 = (a ++ ⟨#[c]⟩ ++ Str.join ⟨#[c]⟩ (b :: l)).length + 1
        rw [Str.length_append, Str.length_append, List.map_cons, List.sum_cons]
        have : (⟨#[c]⟩ : Str).length = 1 := rfl
        omega
  rw [key split_ne, StrLaws.join_split]
/-! ### a sign in a text -/
theorem inS_one {y : Str} {c : Nat} : inS ⟨#[c]⟩ y = decide (c ∈ y.cps.toList) := StrLaws.found_one y c
def digB (c : Nat) : Bool := decide (48 ≤ c) && decide (c ≤ 57)
theorem digits_cps : (Str.ofString "0123456789").cps.toList = [48, 49, 50, 51, 52, 53, 54, 55, 56, 57] := by decide +kernel
theorem mem_digits {c : Nat} : c ∈ (Str.ofString "0123456789").cps.toList ↔ digB c = true := by
  rw [digits_cps]
  simp only [List.mem_cons, List.not_mem_nil, or_false, digB, Bool.and_eq_true, decide_eq_true_eq]
  omega
theorem inS_digit {c : Nat} : inS ⟨#[c]⟩ (Str.ofString "0123456789") = digB c := by
  rw [inS_one, Bool.eq_iff_iff, decide_eq_true_eq, mem_digits]
theorem takeWhile_all' {p : Nat → Bool} {l : List Nat} (h : l.all p = true) : l.takeWhile p = l := by
  induction l with
  | nil => rfl
  | cons a l ih =>
    simp only [List.all_cons, Bool.and_eq_true] at h
    rw [List.takeWhile_cons_of_pos h.1, ih h.2]
theorem takeWhile_lt {p : Nat → Bool} {l : List Nat} (h : ¬ l.all p = true) : (l.takeWhile p).length < l.length := by
  induction l with
  | nil => exact (h rfl).elim
  | cons a l ih =>
    by_cases ha : p a = true
    · rw [List.takeWhile_cons_of_pos ha]
      simp only [List.all_cons, ha, Bool.true_and] at h
      have := ih h
      simp only [List.length_cons]
      omega
    · rw [List.takeWhile_cons_of_neg ha]
      simp
theorem drop_takeWhile {p : Nat → Bool} : ∀ {l : List Nat} {a : Nat}, (l.drop (l.takeWhile p).length)[0]? = some a → ¬ p a = true
  | [], a, h => by simp at h
  | x :: l, a, h => by
    by_cases hx : p x = true
    · rw [List.takeWhile_cons_of_pos hx] at h
      exact drop_takeWhile (l := l) (by simpa using h)
    · rw [List.takeWhile_cons_of_neg hx] at h
      simp at h
      rw [← h]
      exact hx
theorem str_len {x : Str} : x.length = x.cps.toList.length := by simp [Str.length]
theorem ext_cps {x y : Str} (h : x.cps.toList = y.cps.toList) : x = y := TL.ext_tl h
theorem empty_cps : (Str.ofString "").cps.toList = [] := by decide +kernel
theorem strip_digits {w : Str} (h1 : 1 ≤ w.length) : (Txt.stripChars w (Str.ofString "0123456789") = Str.ofString "") ↔ w.cps.toList.all digB = true := by
  have hg : ∀ c, (Str.ofString "0123456789").cps.contains c = digB c := fun c => by
    rw [Bool.eq_iff_iff, Array.contains_iff_mem, ← Array.mem_toList_iff, mem_digits]
  have hg : (Str.ofString "0123456789").cps.contains = digB := funext hg
  have hl : w.length = w.cps.toList.length := str_len
  unfold Txt.stripChars Txt.stripBy
  rw [hg]
  constructor
  · intro e
    refine Decidable.byContradiction fun hn => ?_
    have h2 := takeWhile_lt hn
    split at e
    · rw [e] at h1
      rw [str_len, empty_cps] at h1
      simp at h1
    · have e2 := congrArg (fun z : Str => z.cps.toList.length) e
      simp only [stripped, empty_cps, List.length_nil, StrLaws.strSub_toList, List.length_take, List.length_drop, stripLo, stripHi, if_true] at e2
      have hd : (w.cps.toList.drop (w.cps.toList.takeWhile digB).length) ≠ [] := fun z => by
        have := congrArg List.length z
        rw [List.length_drop, List.length_nil] at this
        omega
      obtain ⟨a, t, ht⟩ := List.exists_cons_of_ne_nil hd
      have ha := drop_takeWhile (p := digB) (l := w.cps.toList) (a := a) (by rw [ht]; rfl)
      have h3 : ¬ (w.cps.toList.drop (w.cps.toList.takeWhile digB).length).reverse.all digB = true := by
        rw [ht]
        simp [ha]
      have h4 := takeWhile_lt h3
      rw [List.length_reverse, List.length_drop] at h4
      omega
  · intro ha
    have e1 := takeWhile_all' ha
    have e2 : stripLo digB true w = w.cps.toList.length := by
      simp only [stripLo, if_true, e1]
    have e3 : stripSame digB true true w = false := by
      unfold stripSame
      rw [e2]
      have : (w.cps.toList.length == 0) = false := by rw [beq_eq_false_iff_ne]; omega
      rw [this, Bool.false_and]
    rw [e3, if_neg (by simp)]
    refine ext_cps ?_
    rw [empty_cps]
    unfold stripped
    rw [StrLaws.strSub_toList, e2]
    simp
/-! ### the number that a word writes -/
def numV (w : Str) : Option Nat := if 1 ≤ w.length ∧ w.length ≤ 6 ∧ w.cps.toList.all digB = true ∧ (w.cps.toList[0]? = some 48 → w = Str.ofString "0") then some (NumText.digitsVal w.cps.toList) else none
theorem int_digits {w : Str} (h1 : 1 ≤ w.length) (h6 : w.length ≤ 6) (ha : w.cps.toList.all digB = true) : PySem.intText? w = some ((NumText.digitsVal w.cps.toList : Nat) : Int) :=
  PySem.intText_digits (fun c hc => by
    have := List.all_eq_true.mp ha c hc
    simpa [digB] using this) (fun e => by rw [str_len, e] at h1; simp at h1) (by omega)
end LF

set_option Elab.async false
set_option linter.all false
/-! rules for walks over texts, a text in a text, three names at once -/
namespace LF
open PySem PySem.Spec PyProof.Rows L2
section
variable {X : XP} {Q : D → Sto → Prop} {env : Sl} {st s : Sto} {K : Ks}
theorem q_iSs {a : E} {Q : LF.Its → Sto → Prop} (h : Wp X (fun x s => onStr x fun y => Q ⟨chars y, none⟩ s) (a env st)) : Wp X Q (iSs a env st) := by
  unfold iSs
  rw [wp_bind]
  refine h.w fun x s h => ?_
  obtain ⟨y, rfl, h⟩ := h
  exact r_wp_ok h
theorem w_inSS {neg : Bool} {x y : Str} (h : Q (.bl (if neg then !inS x y else inS x y)) st) : Wo Q (opInS neg (.str x) (.str y) st) := r_wo_of rfl h
theorem r_par3 {i j l : Nat} {a b c : E} (h : Wp (fun c fs s => K.ex c fs env s) (fun x s => Wp (fun c fs s => K.ex c fs env s) (fun y s => Wp (fun c fs s => K.ex c fs env s) (fun z s => K.nx (((env.set i (some x)).set j (some y)).set l (some z)) s) (c env s)) (b env s)) (a env st)) : Owp K (sPar3 i j l a b c env st) := by
  unfold sPar3
  rw [owp_out, wp_cons]
  refine h.w fun x s h => ?_
  rw [wp_cons]
  refine h.w fun y s h => ?_
  rw [wp_cons]
  refine h.w fun z s h => ?_
  rw [wp_nil]
  exact r_owp_nx h
end
end LF

set_option Elab.async false
set_option linter.all false
/-! rules for exceptions as values, repr of things -/
namespace LF
open PySem PySem.Spec PyProof.Rows L2
section
variable {X : XP} {Q : D → Sto → Prop} {env : Sl} {st s : Sto} {K : Ks}
theorem w_isE {t : TC} {ans : Nat → Option Bool} {r k : Nat} {c : D} {fs : List (String × D)} {b : Bool} (hr : st[r]? = some (.exn k fs)) (ht : isTC t c = true) (hb : ans k = some b) (h : Q (.bl b) st) : Wo Q (opIsE t ans [.ref r, c] st) := by
  simp only [opIsE, if_pos ht, hr, hb]
  exact r_wo_some h
theorem w_xv {P : Nat → Bool} {f : String} {r c : Nat} {fs : List (String × D)} {d : D} (hr : st[r]? = some (.exn c fs)) (hP : P c = true) (hf : fs.lookup f = some d) (h : Q d st) : Wo Q (opXV P f (.ref r) st) := by
  simp only [opXV, hr, if_pos hP, hf]
  exact r_wo_some h
theorem w_reprL {r : Nat} {es : List D} {ps : List PyData} (hr : st[r]? = some (.lst es)) (he : mapO (thingD st) es = some ps) (hs : PyData.showableAll ps = true) (hl : (listText (PyData.shownAll ps)).length ≤ sizeLine) (hd : PyData.depthAll ps ≤ 16) (h : Q (.str (listText (PyData.shownAll ps))) st) : Wo Q (opReprL [.ref r] st) := by
  simp only [opReprL, hr, he, if_pos (And.intro hs (And.intro hl hd))]
  exact r_wo_some h
theorem q_mkX {c : Nat} {fl : List String} {as : List E} (h : Wp X (fun ds s => ds.length = fl.length ∧ ∀ r s', s'[r]? = some (.exn c (fl.zip ds).reverse) → s[r]? = none → Chg [] s s' → Q (.ref r) s') (eArgs as env st)) : Wp X Q (eMkX c fl as env st) := by
  unfold eMkX
  rw [wp_bind]
  refine h.imp ?_ fun _ _ _ z => z
  rintro ds s ⟨hl, k⟩
  rw [if_pos hl]
  exact r_wp_ok (k _ _ (by simp) (by simp) Chg.app)
theorem q_mkT {c : Nat} {a : E} (h : Wp X (fun _ s => ∀ r s', s'[r]? = some (.exn c []) → s[r]? = none → Chg [] s s' → Q (.ref r) s') (a env st)) : Wp X Q (eMkT c a env st) := by
  unfold eMkT
  rw [wp_bind]
  refine h.imp ?_ fun _ _ _ z => z
  intro d s k
  exact r_wp_ok (k _ _ (by simp) (by simp) Chg.app)
theorem q_dS {x : Str} {fv : E} {z : D} (hv : ∀ s, fv env s = .ok z s) (h : ∀ r s', s'[r]? = some (.dtx x z) → st[r]? = none → Chg [] st s' → Q (.ref r) s') : Wp X Q (eDS x fv env st) := by
  unfold eDS
  rw [hv]
  have e : (st ++ [Cell.dct []])[st.length]? = some (.dct []) := by simp
  simp only [Res.bind, e]
  refine r_wp_ok (h _ _ (by simp) (by simp) ?_)
  intro i c _ hi
  have := (List.getElem?_eq_some_iff.mp hi).1
  rw [List.getElem?_set_ne (by omega), List.getElem?_append_left this]
  exact hi
end
end LF

set_option Elab.async false
set_option linter.all false
set_option maxRecDepth 100000
set_option maxHeartbeats 4000000
namespace K00
open PySem PySem.Spec PyProof.Rows L2 LF
def topS (i : Nat) : Stmt := PySem.Challenge.pw_lampfolk_k00_errors_alone.main.body.getD i (.Pass ⟨0, 0, 0, 0⟩)
abbrev N__law_pot : List Str := ["script", "cell"]
theorem sc__law_pot : FnScope N__law_pot ["script"] (defScope (topS 13)) := ⟨rfl, rfl, rfl, by decide +kernel, rfl, by decide +kernel, by decide +kernel⟩
abbrev N__law_draw : List Str := ["pot", "many", "found", "cell"]
theorem sc__law_draw : FnScope N__law_draw ["pot", "many"] (defScope (topS 14)) := ⟨rfl, rfl, rfl, by decide +kernel, rfl, by decide +kernel, by decide +kernel⟩
abbrev N__law_pick : List Str := ["pot", "row"]
theorem sc__law_pick : FnScope N__law_pick ["pot", "row"] (defScope (topS 15)) := ⟨rfl, rfl, rfl, by decide +kernel, rfl, by decide +kernel, by decide +kernel⟩
abbrev N__law_thing : List Str := ["pot"]
theorem sc__law_thing : FnScope N__law_thing ["pot"] (defScope (topS 16)) := ⟨rfl, rfl, rfl, by decide +kernel, rfl, by decide +kernel, by decide +kernel⟩
abbrev N__law_kinds : List Str := ["error", "found"]
theorem sc__law_kinds : FnScope N__law_kinds ["error"] (defScope (topS 17)) := ⟨rfl, rfl, rfl, by decide +kernel, rfl, by decide +kernel, by decide +kernel⟩
abbrev N__law_rows : List Str := ["a", "b", "rows"]
theorem sc__law_rows : FnScope N__law_rows ["a", "b"] (defScope (topS 18)) := ⟨rfl, rfl, rfl, by decide +kernel, rfl, by decide +kernel, by decide +kernel⟩
abbrev N__law_told_of : List Str := ["error", "words", "found", "word"]
theorem sc__law_told_of : FnScope N__law_told_of ["error", "words"] (defScope (topS 19)) := ⟨rfl, rfl, rfl, by decide +kernel, rfl, by decide +kernel, by decide +kernel⟩
abbrev N_law : List Str := ["script", "pot", "a", "b", "c", "rows", "later", "at", "row", "error", "words", "due", "alone", "k"]
theorem sc_law : FnScope N_law ["script"] (defScope (topS 20)) := ⟨rfl, rfl, rfl, by decide +kernel, rfl, by decide +kernel, by decide +kernel⟩
def xvp_at (c : Nat) : Bool := c == 8
def xvp_line (c : Nat) : Bool := c == 3
def xvp_most (c : Nat) : Bool := c == 11
def xvp_value (c : Nat) : Bool := c == 4
def xvp_what (c : Nat) : Bool := c == 2 || c == 3
def ansE_BadNumber (k : Nat) : Option Bool := if k = 1 then some false else if k = 2 then some false else if k = 3 then some false else if k = 4 then some true else if k = 5 then some false else if k = 6 then some false else if k = 7 then some false else if k = 8 then some false else if k = 9 then some false else if k = 10 then some false else if k = 11 then some false else none
def ansE_BadProgram (k : Nat) : Option Bool := if k = 1 then some false else if k = 2 then some true else if k = 3 then some false else if k = 4 then some false else if k = 5 then some false else if k = 6 then some false else if k = 7 then some false else if k = 8 then some false else if k = 9 then some false else if k = 10 then some false else if k = 11 then some false else none
def ansE_BadText (k : Nat) : Option Bool := if k = 1 then some false else if k = 2 then some false else if k = 3 then some true else if k = 4 then some false else if k = 5 then some false else if k = 6 then some false else if k = 7 then some false else if k = 8 then some false else if k = 9 then some false else if k = 10 then some false else if k = 11 then some false else none
def ansE_LampError (k : Nat) : Option Bool := if k = 2 then some true else if k = 3 then some true else if k = 4 then some true else if k = 5 then some true else if k = 6 then some true else if k = 7 then some true else if k = 8 then some true else if k = 9 then some true else if k = 10 then some true else if k = 11 then some true else none
def ansE_NoColour (k : Nat) : Option Bool := if k = 1 then some false else if k = 2 then some false else if k = 3 then some false else if k = 4 then some false else if k = 5 then some true else if k = 6 then some false else if k = 7 then some false else if k = 8 then some false else if k = 9 then some false else if k = 10 then some false else if k = 11 then some false else none
def ansE_NoFit (k : Nat) : Option Bool := if k = 1 then some false else if k = 2 then some false else if k = 3 then some false else if k = 4 then some false else if k = 5 then some false else if k = 6 then some false else if k = 7 then some false else if k = 8 then some false else if k = 9 then some false else if k = 10 then some true else if k = 11 then some false else none
def ansE_NoOrder (k : Nat) : Option Bool := if k = 1 then some false else if k = 2 then some false else if k = 3 then some false else if k = 4 then some false else if k = 5 then some false else if k = 6 then some false else if k = 7 then some false else if k = 8 then some true else if k = 9 then some false else if k = 10 then some false else if k = 11 then some false else none
def ansE_NoStanding (k : Nat) : Option Bool := if k = 1 then some false else if k = 2 then some false else if k = 3 then some false else if k = 4 then some false else if k = 5 then some false else if k = 6 then some true else if k = 7 then some false else if k = 8 then some false else if k = 9 then some false else if k = 10 then some false else if k = 11 then some false else none
def ansE_NoVisit (k : Nat) : Option Bool := if k = 1 then some false else if k = 2 then some false else if k = 3 then some false else if k = 4 then some false else if k = 5 then some false else if k = 6 then some false else if k = 7 then some true else if k = 8 then some false else if k = 9 then some false else if k = 10 then some false else if k = 11 then some false else none
def ansE_NoWord (k : Nat) : Option Bool := if k = 1 then some false else if k = 2 then some false else if k = 3 then some false else if k = 4 then some false else if k = 5 then some false else if k = 6 then some false else if k = 7 then some false else if k = 8 then some false else if k = 9 then some true else if k = 10 then some false else if k = 11 then some false else none
def ansE_TooMany (k : Nat) : Option Bool := if k = 1 then some false else if k = 2 then some false else if k = 3 then some false else if k = 4 then some false else if k = 5 then some false else if k = 6 then some false else if k = 7 then some false else if k = 8 then some false else if k = 9 then some false else if k = 10 then some false else if k = 11 then some true else none
def ansE_ValueError (k : Nat) : Option Bool := if k = 1 then some true else if k = 2 then some true else if k = 3 then some true else if k = 4 then some true else if k = 5 then some true else if k = 6 then some true else if k = 7 then some true else if k = 8 then some true else if k = 9 then some true else if k = 10 then some true else if k = 11 then some true else none
noncomputable def b__law_pot : Sm := sRet (eBlt opLst [eLc [1] (iS (eSl (eVar 0) none (some (eC (.int 63))))) (.name 1) (tYes') (eBlt opAbs [eVar 1]), eC (.int 0), eC (.int 20011), eC (.int 0)])
noncomputable def f__law_pot : F := fnS 1 2 b__law_pot
noncomputable def b__law_draw : Sm := sSeq (sIf (asB (eBin opLt (eVar 1) (eC (.int 2)))) (sRet (eC (.int 0))) (sSkip)) (sSeq (sIf (asB (eBin opGt (eBin opIx (eVar 0) (eC (.int 3))) (eC (.int 0)))) (sSeq (sAsg (.name 2) (eBin opMod (eBlt opInt [eBin opIx (eVar 0) (eC (.int 3))]) (eVar 1))) (sSeq (sSetIx (eVar 0) (eC (.int 3)) (eBin opDiv (eBin opIx (eVar 0) (eC (.int 3))) (eVar 1))) (sRet (eVar 2)))) (sSkip)) (sSeq (sAsg (.name 3) (eC (.int 0))) (sSeq (sIf (asB (eBin opLt (eBin opIx (eVar 0) (eC (.int 1))) (eBlt opLen [eBin opIx (eVar 0) (eC (.int 0))]))) (sSeq (sAsg (.name 3) (eBin opIx (eBin opIx (eVar 0) (eC (.int 0))) (eBin opIx (eVar 0) (eC (.int 1))))) (sSeq (sSetIx (eVar 0) (eC (.int 1)) (eBin opAdd (eBin opIx (eVar 0) (eC (.int 1))) (eC (.int 1)))) (sIf (asB (eBin opGe (eVar 3) (eBin opPow (eC (.int 10)) (eC (.int 18))))) (sSeq (sSetIx (eVar 0) (eC (.int 3)) (eBin opDiv (eVar 3) (eVar 1))) (sRet (eBin opMod (eBlt opInt [eVar 3]) (eVar 1)))) (sSkip)))) (sSkip)) (sSeq (sSetIx (eVar 0) (eC (.int 2)) (eBin opMod (eBlt opInt [eBin opAdd (eBin opAdd (eBin opMulY (eBin opIx (eVar 0) (eC (.int 2))) (eC (.int 48271))) (eVar 3)) (eC (.int 12345))]) (eC (.int 2147483647)))) (sRet (eBin opMod (eBlt opInt [eBin opAdd (eBin opDiv (eBin opMulY (eBin opIx (eVar 0) (eC (.int 2))) (eBin opIx (eVar 0) (eC (.int 2)))) (eC (.int 64))) (eBin opDiv (eBin opIx (eVar 0) (eC (.int 2))) (eC (.int 7)))]) (eVar 1)))))))
noncomputable def f__law_draw : F := fnS 2 4 b__law_draw
noncomputable def b__law_pick : Sm := sRet (eBin opIx (eVar 1) (eCall (f__law_draw) [eVar 0, eBlt opLen [eVar 1]]))
noncomputable def f__law_pick : F := fnS 2 2 b__law_pick
noncomputable def b__law_thing : Sm := sRet (eCall (f__law_pick) [eVar 0, eBlt opLst [eC .non, eC (.bl true), eC (.int 0), eUn opNeg (eC (.int 3)), eBin opPow (eC (.int 10)) (eC (.int 39)), eC (.str (Str.ofString "")), eC (.str (Str.ofString "all")), eC (.str (Str.ofString "a b")), eBlt opTup [], eBlt opTup [eC (.int 1), eC (.str (Str.ofString "x"))], eBlt opLst [], eBlt opLst [eC .non], eNewD, eDS (Str.ofString "a") (eBlt opTup [eC (.int 0)])]])
noncomputable def f__law_thing : F := fnS 1 1 b__law_thing
noncomputable def b__law_kinds : Sm := sSeq (sAsg (.name 1) (eBlt opLst [eBlt (opIsE (.glo 4) ansE_BadNumber) [eVar 0, eC (.glo 4)], eBlt (opIsE (.glo 2) ansE_BadProgram) [eVar 0, eC (.glo 2)], eBlt (opIsE (.glo 3) ansE_BadText) [eVar 0, eC (.glo 3)]])) (sSeq (sAsg (.name 1) (eBin opAdd (eVar 1) (eBlt opLst [eBlt (opIsE (.glo 5) ansE_NoColour) [eVar 0, eC (.glo 5)], eBlt (opIsE (.glo 10) ansE_NoFit) [eVar 0, eC (.glo 10)], eBlt (opIsE (.glo 8) ansE_NoOrder) [eVar 0, eC (.glo 8)]]))) (sSeq (sAsg (.name 1) (eBin opAdd (eVar 1) (eBlt opLst [eBlt (opIsE (.glo 6) ansE_NoStanding) [eVar 0, eC (.glo 6)], eBlt (opIsE (.glo 7) ansE_NoVisit) [eVar 0, eC (.glo 7)], eBlt (opIsE (.glo 9) ansE_NoWord) [eVar 0, eC (.glo 9)]]))) (sRet (eBin opAdd (eVar 1) (eBlt opLst [eBlt (opIsE (.glo 11) ansE_TooMany) [eVar 0, eC (.glo 11)]])))))
noncomputable def f__law_kinds : F := fnS 1 2 b__law_kinds
noncomputable def b__law_rows : Sm := sSeq (sAsg (.name 2) (eBlt opLst [eBlt opTup [eMkX 4 ["value"] [eVar 0], eC (.str (Str.ofString "value"))], eBlt opTup [eMkX 2 ["what"] [eVar 0], eC (.str (Str.ofString "what"))], eBlt opTup [eMkX 3 ["line", "what"] [eVar 0, eVar 1], eC (.str (Str.ofString "line what"))], eBlt opTup [eMkX 5 [] [], eC (.str (Str.ofString ""))], eBlt opTup [eMkX 10 [] [], eC (.str (Str.ofString ""))]])) (sRet (eBin opAdd (eVar 2) (eBlt opLst [eBlt opTup [eMkX 8 ["at"] [eVar 0], eC (.str (Str.ofString "at"))], eBlt opTup [eMkX 6 [] [], eC (.str (Str.ofString ""))], eBlt opTup [eMkX 7 [] [], eC (.str (Str.ofString ""))], eBlt opTup [eMkX 9 [] [], eC (.str (Str.ofString ""))], eBlt opTup [eMkX 11 ["most"] [eVar 0], eC (.str (Str.ofString "most"))]])))
noncomputable def f__law_rows : F := fnS 2 3 b__law_rows
noncomputable def b__law_told_of : Sm := sSeq (sAsg (.name 2) (eBlt opLst [])) (sSeq (sFor (iS (eMt "str" opSplit (eVar 1) [eC (.str (Str.ofString " "))])) (.name 3) (sIf (asB (eBin opEq (eVar 3) (eC (.str (Str.ofString "value"))))) (sExpr (eMt "list" opAppend (eVar 2) [eUn (opXV xvp_value "value") (eVar 0)])) (sIf (asB (eBin opEq (eVar 3) (eC (.str (Str.ofString "what"))))) (sExpr (eMt "list" opAppend (eVar 2) [eUn (opXV xvp_what "what") (eVar 0)])) (sIf (asB (eBin opEq (eVar 3) (eC (.str (Str.ofString "line"))))) (sExpr (eMt "list" opAppend (eVar 2) [eUn (opXV xvp_line "line") (eVar 0)])) (sIf (asB (eBin opEq (eVar 3) (eC (.str (Str.ofString "at"))))) (sExpr (eMt "list" opAppend (eVar 2) [eUn (opXV xvp_at "at") (eVar 0)])) (sIf (asB (eBin opEq (eVar 3) (eC (.str (Str.ofString "most"))))) (sExpr (eMt "list" opAppend (eVar 2) [eUn (opXV xvp_most "most") (eVar 0)])) (sSkip))))))) (sRet (eVar 2)))
noncomputable def f__law_told_of : F := fnS 2 4 b__law_told_of
noncomputable def b_law : Sm := sSeq (sAsg (.name 1) (eCall (f__law_pot) [eVar 0])) (sSeq (sPar3 2 3 4 (eCall (f__law_thing) [eVar 1]) (eCall (f__law_thing) [eVar 1]) (eCall (f__law_thing) [eVar 1])) (sSeq (sPar 5 6 (eCall (f__law_rows) [eVar 2, eVar 3]) (eCall (f__law_rows) [eVar 4, eVar 2])) (sSeq (sFor (iEnX (eVar 5)) (.tup [.name 7, .name 8]) (sSeq (sAsg (.tup [.name 9, .name 10]) (eVar 8)) (sSeq (sAsg (.name 11) (eIf (asB (eBin opNe (eVar 10) (eC (.str (Str.ofString ""))))) (eSl (eBlt opLst [eVar 2, eVar 3]) none (some (eBlt opLen [eMt "str" opSplit (eVar 10) [eC (.str (Str.ofString " "))]]))) (eBlt opLst []))) (sSeq (sIf (tOr' (tNot' (tTru (eBlt (opIsE (.glo 1) ansE_LampError) [eVar 9, eC (.glo 1)]))) (tNot' (tTru (eBlt (opIsE (.ty "ValueError") ansE_ValueError) [eVar 9, eC (.ty "ValueError")])))) (sRet (eC (.bl false))) (sSkip)) (sSeq (sIf (asB (eBin opNe (eCall (f__law_kinds) [eVar 9]) (eLc [13] (iR1 (eBlt opLen [eVar 5])) (.name 13) (tYes') (eBin opEq (eVar 13) (eVar 7))))) (sRet (eC (.bl false))) (sSkip)) (sSeq (sIf (asB (eBin opNe (eNever) (eNever))) (sRet (eC (.bl false))) (sSkip)) (sIf (asB (eBin opNe (eNever) (eNever))) (sRet (eC (.bl false))) (sSkip)))))))) (sSeq (sAsg (.name 12) (eMkT 1 (eC (.str (Str.ofString "x"))))) (sRet (eAnd (eBlt (opIsE (.ty "ValueError") ansE_ValueError) [eVar 12, eC (.ty "ValueError")]) (eBin (opIn true) (eC (.bl true)) (eCall (f__law_kinds) [eVar 12]))))))))
noncomputable def f_law : F := fnS 1 14 b_law
noncomputable def b_lawG : Sm := sSeq (sAsg (.name 1) (eCall (f__law_pot) [eVar 0])) (sSeq (sPar3 2 3 4 (eCall (f__law_thing) [eVar 1]) (eCall (f__law_thing) [eVar 1]) (eCall (f__law_thing) [eVar 1])) (sSeq (sPar 5 6 (eCall (f__law_rows) [eVar 2, eVar 3]) (eCall (f__law_rows) [eVar 4, eVar 2])) (sSeq (sFor (iEnX (eVar 5)) (.tup [.name 7, .name 8]) (sSeq (sAsg (.tup [.name 9, .name 10]) (eVar 8)) (sSeq (sAsg (.name 11) (eIf (asB (eBin opNe (eVar 10) (eC (.str (Str.ofString ""))))) (eSl (eBlt opLst [eVar 2, eVar 3]) none (some (eBlt opLen [eMt "str" opSplit (eVar 10) [eC (.str (Str.ofString " "))]]))) (eBlt opLst []))) (sSeq (sIf (tOr' (tNot' (tTru (eBlt (opIsE (.glo 1) ansE_LampError) [eVar 9, eC (.glo 1)]))) (tNot' (tTru (eBlt (opIsE (.ty "ValueError") ansE_ValueError) [eVar 9, eC (.ty "ValueError")])))) (sRet (eC (.bl false))) (sSkip)) (sSeq (sIf (asB (eBin opNe (eCall (f__law_kinds) [eVar 9]) (eLc [13] (iR1 (eBlt opLen [eVar 5])) (.name 13) (tYes') (eBin opEq (eVar 13) (eVar 7))))) (sRet (eC (.bl false))) (sSkip)) (sSeq (sIf (asB (eBin opNe (eBlt opReprL [eCall (f__law_told_of) [eVar 9, eVar 10]]) (eBlt opReprL [eVar 11]))) (sRet (eC (.bl false))) (sSkip)) (sIf (asB (eBin opNe (eBlt opReprL [eCall (f__law_told_of) [eBin opIx (eBin opIx (eVar 6) (eVar 7)) (eC (.int 0)), eVar 10]]) (eBlt opReprL [eSl (eBlt opLst [eVar 4, eVar 2]) none (some (eBlt opLen [eVar 11]))]))) (sRet (eC (.bl false))) (sSkip)))))))) (sSeq (sAsg (.name 12) (eMkT 1 (eC (.str (Str.ofString "x"))))) (sRet (eAnd (eBlt (opIsE (.ty "ValueError") ansE_ValueError) [eVar 12, eC (.ty "ValueError")]) (eBin (opIn true) (eC (.bl true)) (eCall (f__law_kinds) [eVar 12]))))))))
noncomputable def f_lawG : F := fnS 1 14 b_lawG
/-! ### what the top leaves -/
structure Tx (G : Gx) (mg : Str → Option Value) (w : World) (P : Program) where
  xi0 : G.xi = none
  a__law_pot : Addr
  d__law_pot : FuncData
  F__law_pot : Fun G.K "_law_pot" "_law_pot" (topS 13) a__law_pot d__law_pot
  B__law_pot : Binds G.K d__law_pot ["script"] []
  m__law_pot : mg "_law_pot" = some (.ref a__law_pot)
  a__law_draw : Addr
  d__law_draw : FuncData
  F__law_draw : Fun G.K "_law_draw" "_law_draw" (topS 14) a__law_draw d__law_draw
  B__law_draw : Binds G.K d__law_draw ["pot", "many"] []
  m__law_draw : mg "_law_draw" = some (.ref a__law_draw)
  a__law_pick : Addr
  d__law_pick : FuncData
  F__law_pick : Fun G.K "_law_pick" "_law_pick" (topS 15) a__law_pick d__law_pick
  B__law_pick : Binds G.K d__law_pick ["pot", "row"] []
  m__law_pick : mg "_law_pick" = some (.ref a__law_pick)
  a__law_thing : Addr
  d__law_thing : FuncData
  F__law_thing : Fun G.K "_law_thing" "_law_thing" (topS 16) a__law_thing d__law_thing
  B__law_thing : Binds G.K d__law_thing ["pot"] []
  m__law_thing : mg "_law_thing" = some (.ref a__law_thing)
  a__law_kinds : Addr
  d__law_kinds : FuncData
  F__law_kinds : Fun G.K "_law_kinds" "_law_kinds" (topS 17) a__law_kinds d__law_kinds
  B__law_kinds : Binds G.K d__law_kinds ["error"] []
  m__law_kinds : mg "_law_kinds" = some (.ref a__law_kinds)
  a__law_rows : Addr
  d__law_rows : FuncData
  F__law_rows : Fun G.K "_law_rows" "_law_rows" (topS 18) a__law_rows d__law_rows
  B__law_rows : Binds G.K d__law_rows ["a", "b"] []
  m__law_rows : mg "_law_rows" = some (.ref a__law_rows)
  a__law_told_of : Addr
  d__law_told_of : FuncData
  F__law_told_of : Fun G.K "_law_told_of" "_law_told_of" (topS 19) a__law_told_of d__law_told_of
  B__law_told_of : Binds G.K d__law_told_of ["error", "words"] []
  m__law_told_of : mg "_law_told_of" = some (.ref a__law_told_of)
  a_law : Addr
  d_law : FuncData
  F_law : Fun G.K "law" "law" (topS 20) a_law d_law
  B_law : Binds G.K d_law ["script"] []
  m_law : mg "law" = some (.ref a_law)
  m_BadProgram : mg "BadProgram" = some (.ref (G.tb 2))
  ex_BadProgram : Exc0 P w G.K mg (G.tb 2) ["self", "what"] (spX1 (G.tb 2) "what")
  m_BadText : mg "BadText" = some (.ref (G.tb 3))
  ex_BadText : Exc0 P w G.K mg (G.tb 3) ["self", "line", "what"] (spX2 (G.tb 3) "line" "what")
  m_BadNumber : mg "BadNumber" = some (.ref (G.tb 4))
  ex_BadNumber : Exc0 P w G.K mg (G.tb 4) ["self", "value"] (spX1 (G.tb 4) "value")
  m_NoColour : mg "NoColour" = some (.ref (G.tb 5))
  ex_NoColour : Exc0 P w G.K mg (G.tb 5) ["self"] (spX0 (G.tb 5))
  m_NoStanding : mg "NoStanding" = some (.ref (G.tb 6))
  ex_NoStanding : Exc0 P w G.K mg (G.tb 6) ["self"] (spX0 (G.tb 6))
  m_NoVisit : mg "NoVisit" = some (.ref (G.tb 7))
  ex_NoVisit : Exc0 P w G.K mg (G.tb 7) ["self"] (spX0 (G.tb 7))
  m_NoOrder : mg "NoOrder" = some (.ref (G.tb 8))
  ex_NoOrder : Exc0 P w G.K mg (G.tb 8) ["self", "at"] (spX1 (G.tb 8) "at")
  m_NoWord : mg "NoWord" = some (.ref (G.tb 9))
  ex_NoWord : Exc0 P w G.K mg (G.tb 9) ["self"] (spX0 (G.tb 9))
  m_NoFit : mg "NoFit" = some (.ref (G.tb 10))
  ex_NoFit : Exc0 P w G.K mg (G.tb 10) ["self"] (spX0 (G.tb 10))
  m_TooMany : mg "TooMany" = some (.ref (G.tb 11))
  ex_TooMany : Exc0 P w G.K mg (G.tb 11) ["self", "most"] (spX1 (G.tb 11) "most")
  m_LampError : mg "LampError" = some (.ref (G.tb 1))
  kp_LampError : PySem.W.keepIn G.K (.ref (G.tb 1)) = true
  xi_LampError : PySem.W.excIn G.K (G.tb 1) [.type "ValueError", .type "Exception", .type "BaseException", .type "object"] "ValueError.__new__" = true
  isE_BadNumber : ∀ k b, ansE_BadNumber k = some b → ExcC G.K (G.tb k) ∧ PySem.W.kitOne G.K (.ref (G.tb k)) ((TC.glo 4).val G) = some b
  isE_BadProgram : ∀ k b, ansE_BadProgram k = some b → ExcC G.K (G.tb k) ∧ PySem.W.kitOne G.K (.ref (G.tb k)) ((TC.glo 2).val G) = some b
  isE_BadText : ∀ k b, ansE_BadText k = some b → ExcC G.K (G.tb k) ∧ PySem.W.kitOne G.K (.ref (G.tb k)) ((TC.glo 3).val G) = some b
  isE_LampError : ∀ k b, ansE_LampError k = some b → ExcC G.K (G.tb k) ∧ PySem.W.kitOne G.K (.ref (G.tb k)) ((TC.glo 1).val G) = some b
  isE_NoColour : ∀ k b, ansE_NoColour k = some b → ExcC G.K (G.tb k) ∧ PySem.W.kitOne G.K (.ref (G.tb k)) ((TC.glo 5).val G) = some b
  isE_NoFit : ∀ k b, ansE_NoFit k = some b → ExcC G.K (G.tb k) ∧ PySem.W.kitOne G.K (.ref (G.tb k)) ((TC.glo 10).val G) = some b
  isE_NoOrder : ∀ k b, ansE_NoOrder k = some b → ExcC G.K (G.tb k) ∧ PySem.W.kitOne G.K (.ref (G.tb k)) ((TC.glo 8).val G) = some b
  isE_NoStanding : ∀ k b, ansE_NoStanding k = some b → ExcC G.K (G.tb k) ∧ PySem.W.kitOne G.K (.ref (G.tb k)) ((TC.glo 6).val G) = some b
  isE_NoVisit : ∀ k b, ansE_NoVisit k = some b → ExcC G.K (G.tb k) ∧ PySem.W.kitOne G.K (.ref (G.tb k)) ((TC.glo 7).val G) = some b
  isE_NoWord : ∀ k b, ansE_NoWord k = some b → ExcC G.K (G.tb k) ∧ PySem.W.kitOne G.K (.ref (G.tb k)) ((TC.glo 9).val G) = some b
  isE_TooMany : ∀ k b, ansE_TooMany k = some b → ExcC G.K (G.tb k) ∧ PySem.W.kitOne G.K (.ref (G.tb k)) ((TC.glo 11).val G) = some b
  isE_ValueError : ∀ k b, ansE_ValueError k = some b → ExcC G.K (G.tb k) ∧ PySem.W.kitOne G.K (.ref (G.tb k)) ((TC.ty "ValueError").val G) = some b
  xv_at : ∀ c, xvp_at c = true → XfC G.K (G.tb c) ∧ PySem.W.findIn G.K (.ref (G.tb c)) "at" = some none
  xv_line : ∀ c, xvp_line c = true → XfC G.K (G.tb c) ∧ PySem.W.findIn G.K (.ref (G.tb c)) "line" = some none
  xv_most : ∀ c, xvp_most c = true → XfC G.K (G.tb c) ∧ PySem.W.findIn G.K (.ref (G.tb c)) "most" = some none
  xv_value : ∀ c, xvp_value c = true → XfC G.K (G.tb c) ∧ PySem.W.findIn G.K (.ref (G.tb c)) "value" = some none
  xv_what : ∀ c, xvp_what c = true → XfC G.K (G.tb c) ∧ PySem.W.findIn G.K (.ref (G.tb c)) "what" = some none
  z_ValueError : mg "ValueError" = none
  z_abs : mg "abs" = none
  z_enumerate : mg "enumerate" = none
  z_int : mg "int" = none
  z_isinstance : mg "isinstance" = none
  z_len : mg "len" = none
  z_range : mg "range" = none
  z_repr : mg "repr" = none
variable {G : Gx} {mg : Str → Option Value} {P : Program} {w : World} {base : Heap}
theorem ok__law_pot (T : Tx G mg w P) : FnOk P w G.K mg base (L2.CX P w) 1 T.a__law_pot T.d__law_pot ["script"] (spF G f__law_pot) :=
  fn_ok (k := 0) T.F__law_pot sc__law_pot fun cdv A outer s H E hr =>
    have tk := takes_of (X := cxOf (L2.CX P w) P w G.K mg base N__law_pot "_law_pot" (defScope (topS 13)) T.a__law_pot cdv A outer s H E) rfl rfl rfl rfl
    (ss_one (s_ret (e_lst (a_cons (e_lc (own := [("cell", 1)]) rfl sc__law_pot.nd (i_seq rfl (e_sl rfl (e_var (pv 0)) p_none (p_some e_int))) (blkOk_by (N := N__law_pot) (sc := defScope (topS 13)) (by decide +kernel)) (fun _ _ _ _ _ => (g_name sc__law_pot.nd)) (fun _ _ _ _ _ => ts_nil) (fun _ _ _ _ _ => (e_blt c_abs (by rfl) T.z_abs (by decide +kernel) (a_cons (e_var (pv 1)) a_nil)))) (a_cons e_int (a_cons e_int (a_cons e_int a_nil)))))))
theorem ok__law_draw (T : Tx G mg w P) : FnOk P w G.K mg base (L2.CX P w) 1 T.a__law_draw T.d__law_draw ["pot", "many"] (spF G f__law_draw) :=
  fn_ok (k := 0) T.F__law_draw sc__law_draw fun cdv A outer s H E hr =>
    have tk := takes_of (X := cxOf (L2.CX P w) P w G.K mg base N__law_draw "_law_draw" (defScope (topS 14)) T.a__law_draw cdv A outer s H E) rfl rfl rfl rfl
    (ss_cons (s_if (t_cmp o_lt (e_var (pv 1)) e_int (nomark _)) (ss_one (s_ret e_int)) ss_nil)
    (ss_cons (s_if (t_cmp o_gt (e_ix (o_ix rfl) (e_var (pv 0)) e_int) e_int (nomark _)) (ss_cons (s_set sc__law_draw.nd (e_bin o_mod (e_bty c_int (by rfl) T.z_int (by decide +kernel) (a_cons (e_ix (o_ix rfl) (e_var (pv 0)) e_int) a_nil)) (e_var (pv 1))))
    (ss_cons (s_setIx (e_bin o_div (e_ix (o_ix rfl) (e_var (pv 0)) e_int) (e_var (pv 1))) (e_var (pv 0)) e_int)
    (ss_one (s_ret (e_var (pv 2)))))) ss_nil)
    (ss_cons (s_set sc__law_draw.nd e_int)
    (ss_cons (s_if (t_cmp o_lt (e_ix (o_ix rfl) (e_var (pv 0)) e_int) (e_blt (c_len rfl) (by rfl) T.z_len (by decide +kernel) (a_cons (e_ix (o_ix rfl) (e_var (pv 0)) e_int) a_nil)) (nomark _)) (ss_cons (s_set sc__law_draw.nd (e_ix (o_ix rfl) (e_ix (o_ix rfl) (e_var (pv 0)) e_int) (e_ix (o_ix rfl) (e_var (pv 0)) e_int)))
    (ss_cons (s_setIx (e_bin (o_add rfl) (e_ix (o_ix rfl) (e_var (pv 0)) e_int) e_int) (e_var (pv 0)) e_int)
    (ss_one (s_if (t_cmp o_ge (e_var (pv 3)) (e_bin o_pow e_int e_int) (nomark _)) (ss_cons (s_setIx (e_bin o_div (e_var (pv 3)) (e_var (pv 1))) (e_var (pv 0)) e_int)
    (ss_one (s_ret (e_bin o_mod (e_bty c_int (by rfl) T.z_int (by decide +kernel) (a_cons (e_var (pv 3)) a_nil)) (e_var (pv 1)))))) ss_nil)))) ss_nil)
    (ss_cons (s_setIx (e_bin o_mod (e_bty c_int (by rfl) T.z_int (by decide +kernel) (a_cons (e_bin (o_add rfl) (e_bin (o_add rfl) (e_bin (o_mulY rfl) (e_ix (o_ix rfl) (e_var (pv 0)) e_int) e_int) (e_var (pv 3))) e_int) a_nil)) e_int) (e_var (pv 0)) e_int)
    (ss_one (s_ret (e_bin o_mod (e_bty c_int (by rfl) T.z_int (by decide +kernel) (a_cons (e_bin (o_add rfl) (e_bin o_div (e_bin (o_mulY rfl) (e_ix (o_ix rfl) (e_var (pv 0)) e_int) (e_ix (o_ix rfl) (e_var (pv 0)) e_int)) e_int) (e_bin o_div (e_ix (o_ix rfl) (e_var (pv 0)) e_int) e_int)) a_nil)) (e_var (pv 1))))))))))
theorem ok__law_pick (T : Tx G mg w P) : FnOk P w G.K mg base (L2.CX P w) 2 T.a__law_pick T.d__law_pick ["pot", "row"] (spF G f__law_pick) :=
  fn_ok (k := 1) T.F__law_pick sc__law_pick fun cdv A outer s H E hr =>
    have tk := takes_of (X := cxOf (L2.CX P w) P w G.K mg base N__law_pick "_law_pick" (defScope (topS 15)) T.a__law_pick cdv A outer s H E) rfl rfl rfl rfl
    (ss_one (s_ret (e_ix (o_ix rfl) (e_var (pv 1)) (e_call (ok__law_draw T) hr T.m__law_draw T.F__law_draw.kp T.B__law_draw tk (a_cons (e_var (pv 0)) (a_cons (e_blt (c_len rfl) (by rfl) T.z_len (by decide +kernel) (a_cons (e_var (pv 1)) a_nil)) a_nil)) ))))
theorem ok__law_thing (T : Tx G mg w P) : FnOk P w G.K mg base (L2.CX P w) 3 T.a__law_thing T.d__law_thing ["pot"] (spF G f__law_thing) :=
  fn_ok (k := 2) T.F__law_thing sc__law_thing fun cdv A outer s H E hr =>
    have tk := takes_of (X := cxOf (L2.CX P w) P w G.K mg base N__law_thing "_law_thing" (defScope (topS 16)) T.a__law_thing cdv A outer s H E) rfl rfl rfl rfl
    (ss_one (s_ret (e_call (ok__law_pick T) hr T.m__law_pick T.F__law_pick.kp T.B__law_pick tk (a_cons (e_var (pv 0)) (a_cons (e_lst (a_cons e_non (a_cons e_bl (a_cons e_int (a_cons (e_un o_neg e_int) (a_cons (e_bin o_pow e_int e_int) (a_cons e_str (a_cons e_str (a_cons e_str (a_cons (e_tup a_nil) (a_cons (e_tup (a_cons e_int (a_cons e_str a_nil))) (a_cons (e_lst a_nil) (a_cons (e_lst (a_cons e_non a_nil)) (a_cons e_newD (a_cons (e_dtx e_str (e_tup (a_cons e_int a_nil))) a_nil))))))))))))))) a_nil)) )))
theorem ok__law_kinds (T : Tx G mg w P) : FnOk P w G.K mg base (L2.CX P w) 1 T.a__law_kinds T.d__law_kinds ["error"] (spF G f__law_kinds) :=
  fn_ok (k := 0) T.F__law_kinds sc__law_kinds fun cdv A outer s H E hr =>
    have tk := takes_of (X := cxOf (L2.CX P w) P w G.K mg base N__law_kinds "_law_kinds" (defScope (topS 17)) T.a__law_kinds cdv A outer s H E) rfl rfl rfl rfl
    (ss_cons (s_set sc__law_kinds.nd (e_lst (a_cons (e_blt (c_isE rfl T.isE_BadNumber) (by rfl) T.z_isinstance (by decide +kernel) (a_cons (e_var (pv 0)) (a_cons (e_glob (v := .ref (G.tb 4)) (by rfl) T.m_BadNumber rfl fun _ _ => by simp only [RV]) a_nil))) (a_cons (e_blt (c_isE rfl T.isE_BadProgram) (by rfl) T.z_isinstance (by decide +kernel) (a_cons (e_var (pv 0)) (a_cons (e_glob (v := .ref (G.tb 2)) (by rfl) T.m_BadProgram rfl fun _ _ => by simp only [RV]) a_nil))) (a_cons (e_blt (c_isE rfl T.isE_BadText) (by rfl) T.z_isinstance (by decide +kernel) (a_cons (e_var (pv 0)) (a_cons (e_glob (v := .ref (G.tb 3)) (by rfl) T.m_BadText rfl fun _ _ => by simp only [RV]) a_nil))) a_nil)))))
    (ss_cons (s_set sc__law_kinds.nd (e_bin (o_add rfl) (e_var (pv 1)) (e_lst (a_cons (e_blt (c_isE rfl T.isE_NoColour) (by rfl) T.z_isinstance (by decide +kernel) (a_cons (e_var (pv 0)) (a_cons (e_glob (v := .ref (G.tb 5)) (by rfl) T.m_NoColour rfl fun _ _ => by simp only [RV]) a_nil))) (a_cons (e_blt (c_isE rfl T.isE_NoFit) (by rfl) T.z_isinstance (by decide +kernel) (a_cons (e_var (pv 0)) (a_cons (e_glob (v := .ref (G.tb 10)) (by rfl) T.m_NoFit rfl fun _ _ => by simp only [RV]) a_nil))) (a_cons (e_blt (c_isE rfl T.isE_NoOrder) (by rfl) T.z_isinstance (by decide +kernel) (a_cons (e_var (pv 0)) (a_cons (e_glob (v := .ref (G.tb 8)) (by rfl) T.m_NoOrder rfl fun _ _ => by simp only [RV]) a_nil))) a_nil))))))
    (ss_cons (s_set sc__law_kinds.nd (e_bin (o_add rfl) (e_var (pv 1)) (e_lst (a_cons (e_blt (c_isE rfl T.isE_NoStanding) (by rfl) T.z_isinstance (by decide +kernel) (a_cons (e_var (pv 0)) (a_cons (e_glob (v := .ref (G.tb 6)) (by rfl) T.m_NoStanding rfl fun _ _ => by simp only [RV]) a_nil))) (a_cons (e_blt (c_isE rfl T.isE_NoVisit) (by rfl) T.z_isinstance (by decide +kernel) (a_cons (e_var (pv 0)) (a_cons (e_glob (v := .ref (G.tb 7)) (by rfl) T.m_NoVisit rfl fun _ _ => by simp only [RV]) a_nil))) (a_cons (e_blt (c_isE rfl T.isE_NoWord) (by rfl) T.z_isinstance (by decide +kernel) (a_cons (e_var (pv 0)) (a_cons (e_glob (v := .ref (G.tb 9)) (by rfl) T.m_NoWord rfl fun _ _ => by simp only [RV]) a_nil))) a_nil))))))
    (ss_one (s_ret (e_bin (o_add rfl) (e_var (pv 1)) (e_lst (a_cons (e_blt (c_isE rfl T.isE_TooMany) (by rfl) T.z_isinstance (by decide +kernel) (a_cons (e_var (pv 0)) (a_cons (e_glob (v := .ref (G.tb 11)) (by rfl) T.m_TooMany rfl fun _ _ => by simp only [RV]) a_nil))) a_nil))))))))
theorem ok__law_rows (T : Tx G mg w P) : FnOk P w G.K mg base (L2.CX P w) 3 T.a__law_rows T.d__law_rows ["a", "b"] (spF G f__law_rows) :=
  fn_ok (k := 2) T.F__law_rows sc__law_rows fun cdv A outer s H E hr =>
    have tk := takes_of (X := cxOf (L2.CX P w) P w G.K mg base N__law_rows "_law_rows" (defScope (topS 18)) T.a__law_rows cdv A outer s H E) rfl rfl rfl rfl
    (ss_cons (s_set sc__law_rows.nd (e_lst (a_cons (e_tup (a_cons (e_mkX1 rfl (T.ex_BadNumber.at rfl) hr T.m_BadNumber (a_cons (e_var (pv 0)) a_nil)) (a_cons e_str a_nil))) (a_cons (e_tup (a_cons (e_mkX1 rfl (T.ex_BadProgram.at rfl) hr T.m_BadProgram (a_cons (e_var (pv 0)) a_nil)) (a_cons e_str a_nil))) (a_cons (e_tup (a_cons (e_mkX2 rfl rfl (T.ex_BadText.at rfl) hr T.m_BadText (a_cons (e_var (pv 0)) (a_cons (e_var (pv 1)) a_nil))) (a_cons e_str a_nil))) (a_cons (e_tup (a_cons (e_mkX0 (T.ex_NoColour.at rfl) hr T.m_NoColour) (a_cons e_str a_nil))) (a_cons (e_tup (a_cons (e_mkX0 (T.ex_NoFit.at rfl) hr T.m_NoFit) (a_cons e_str a_nil))) a_nil)))))))
    (ss_one (s_ret (e_bin (o_add rfl) (e_var (pv 2)) (e_lst (a_cons (e_tup (a_cons (e_mkX1 rfl (T.ex_NoOrder.at rfl) hr T.m_NoOrder (a_cons (e_var (pv 0)) a_nil)) (a_cons e_str a_nil))) (a_cons (e_tup (a_cons (e_mkX0 (T.ex_NoStanding.at rfl) hr T.m_NoStanding) (a_cons e_str a_nil))) (a_cons (e_tup (a_cons (e_mkX0 (T.ex_NoVisit.at rfl) hr T.m_NoVisit) (a_cons e_str a_nil))) (a_cons (e_tup (a_cons (e_mkX0 (T.ex_NoWord.at rfl) hr T.m_NoWord) (a_cons e_str a_nil))) (a_cons (e_tup (a_cons (e_mkX1 rfl (T.ex_TooMany.at rfl) hr T.m_TooMany (a_cons (e_var (pv 0)) a_nil)) (a_cons e_str a_nil))) a_nil))))))))))
theorem ok__law_told_of (T : Tx G mg w P) : FnOk P w G.K mg base (L2.CX P w) 1 T.a__law_told_of T.d__law_told_of ["error", "words"] (spF G f__law_told_of) :=
  fn_ok (k := 0) T.F__law_told_of sc__law_told_of fun cdv A outer s H E hr =>
    have tk := takes_of (X := cxOf (L2.CX P w) P w G.K mg base N__law_told_of "_law_told_of" (defScope (topS 19)) T.a__law_told_of cdv A outer s H E) rfl rfl rfl rfl
    (ss_cons (s_set sc__law_told_of.nd (e_lst a_nil))
    (ss_cons (s_for rfl (passes_of rfl) (i_seq rfl (e_mt rfl PySem.F.plainAttrs_str PySem.F.slot_str_split PySem.F.type_str_split m_split (e_var (pv 1)) (a_cons e_str a_nil))) (g_name sc__law_told_of.nd)
    (ss_one (s_if (t_cmp (o_eq rfl hr.units) (e_var (pv 3)) e_str (nomark _)) (ss_one (s_expr (e_mt rfl PySem.F.plainAttrs_list PySem.F.slot_list_append PySem.F.type_list_append m_append (e_var (pv 2)) (a_cons (e_xv rfl T.xv_value rfl (e_var (pv 0))) a_nil)))) (ss_one (s_if (t_cmp (o_eq rfl hr.units) (e_var (pv 3)) e_str (nomark _)) (ss_one (s_expr (e_mt rfl PySem.F.plainAttrs_list PySem.F.slot_list_append PySem.F.type_list_append m_append (e_var (pv 2)) (a_cons (e_xv rfl T.xv_what rfl (e_var (pv 0))) a_nil)))) (ss_one (s_if (t_cmp (o_eq rfl hr.units) (e_var (pv 3)) e_str (nomark _)) (ss_one (s_expr (e_mt rfl PySem.F.plainAttrs_list PySem.F.slot_list_append PySem.F.type_list_append m_append (e_var (pv 2)) (a_cons (e_xv rfl T.xv_line rfl (e_var (pv 0))) a_nil)))) (ss_one (s_if (t_cmp (o_eq rfl hr.units) (e_var (pv 3)) e_str (nomark _)) (ss_one (s_expr (e_mt rfl PySem.F.plainAttrs_list PySem.F.slot_list_append PySem.F.type_list_append m_append (e_var (pv 2)) (a_cons (e_xv rfl T.xv_at rfl (e_var (pv 0))) a_nil)))) (ss_one (s_if (t_cmp (o_eq rfl hr.units) (e_var (pv 3)) e_str (nomark _)) (ss_one (s_expr (e_mt rfl PySem.F.plainAttrs_list PySem.F.slot_list_append PySem.F.type_list_append m_append (e_var (pv 2)) (a_cons (e_xv rfl T.xv_most rfl (e_var (pv 0))) a_nil)))) ss_nil)))))))))))
    (ss_one (s_ret (e_var (pv 2))))))
theorem okG_law (T : Tx G mg w P) : FnG P w G.K mg base 4 T.a_law T.d_law ["script"] (spF G f_lawG) := by
  obtain ⟨oc, od, kV, doc, pm, an, cdv, ct, osl, hd, lk, hcd⟩ := T.F_law.ex
  rw [hd] at lk ⊢
  exact fn_okG (k := 3) lk hcd sc_law fun A outer s H E hG hr =>
    have tk := takes_of (X := cxOf (L2.CX P w) P w G.K mg base N_law "law" (defScope (topS 20)) T.a_law cdv A outer s H E) rfl rfl rfl rfl
    (ss_cons (s_set sc_law.nd (e_call (ok__law_pot T) hr T.m__law_pot T.F__law_pot.kp T.B__law_pot tk (a_cons (e_var (pv 0)) a_nil) ))
    (ss_cons (s_par3 rfl sc_law.nd (a_cons (e_call (ok__law_thing T) hr T.m__law_thing T.F__law_thing.kp T.B__law_thing tk (a_cons (e_var (pv 1)) a_nil) ) (a_cons (e_call (ok__law_thing T) hr T.m__law_thing T.F__law_thing.kp T.B__law_thing tk (a_cons (e_var (pv 1)) a_nil) ) (a_cons (e_call (ok__law_thing T) hr T.m__law_thing T.F__law_thing.kp T.B__law_thing tk (a_cons (e_var (pv 1)) a_nil) ) a_nil))))
    (ss_cons (s_par rfl sc_law.nd (a_cons (e_call (ok__law_rows T) hr T.m__law_rows T.F__law_rows.kp T.B__law_rows tk (a_cons (e_var (pv 2)) (a_cons (e_var (pv 3)) a_nil)) ) (a_cons (e_call (ok__law_rows T) hr T.m__law_rows T.F__law_rows.kp T.B__law_rows tk (a_cons (e_var (pv 4)) (a_cons (e_var (pv 2)) a_nil)) ) a_nil)))
    (ss_cons (s_for rfl (passes_of rfl) (i_enumX rfl T.z_enumerate (a_cons (e_var (pv 5)) a_nil)) (g_tup rfl rfl (gs_cons (g_name sc_law.nd) (gs_cons (g_name sc_law.nd) gs_nil)))
    (ss_cons (s_asg (e_var (pv 8)) (g_tup rfl rfl (gs_cons (g_name sc_law.nd) (gs_cons (g_name sc_law.nd) gs_nil))))
    (ss_cons (s_set sc_law.nd (e_if (t_cmp (o_ne rfl hr.units) (e_var (pv 10)) e_str (nomark _)) (e_sl rfl (e_lst (a_cons (e_var (pv 2)) (a_cons (e_var (pv 3)) a_nil))) p_none (p_some (e_blt (c_len rfl) (by rfl) T.z_len (by decide +kernel) (a_cons (e_mt rfl PySem.F.plainAttrs_str PySem.F.slot_str_split PySem.F.type_str_split m_split (e_var (pv 10)) (a_cons e_str a_nil)) a_nil)))) (e_lst a_nil)))
    (ss_cons (s_if (PW.pt (w_or (t_not (t_truth rfl (e_blt (c_isE rfl T.isE_LampError) (by rfl) T.z_isinstance (by decide +kernel) (a_cons (e_var (pv 9)) (a_cons (e_glob (v := .ref (G.tb 1)) (by rfl) T.m_LampError rfl fun _ _ => by simp only [RV]) a_nil))))) (w_one_or (t_not (t_truth rfl (e_blt (c_isE rfl T.isE_ValueError) (by rfl) T.z_isinstance (by decide +kernel) (a_cons (e_var (pv 9)) (a_cons (e_ty (by rfl) T.z_ValueError (by decide +kernel)) a_nil)))))))) (ss_one (s_ret e_bl)) ss_nil)
    (ss_cons (s_if (t_cmp (o_ne rfl hr.units) (e_call (ok__law_kinds T) hr T.m__law_kinds T.F__law_kinds.kp T.B__law_kinds tk (a_cons (e_var (pv 9)) a_nil) ) (e_lc (own := [("k", 13)]) rfl sc_law.nd (i_range1 T.z_range (a_cons (e_blt (c_len rfl) (by rfl) T.z_len (by decide +kernel) (a_cons (e_var (pv 5)) a_nil)) a_nil)) (blkOk_by (N := N_law) (sc := defScope (topS 20)) (by decide +kernel)) (fun _ _ _ _ _ => (g_name sc_law.nd)) (fun _ _ _ _ _ => ts_nil) (fun _ _ _ _ _ => (e_cmp (o_eq rfl hr.units) (e_var (pv 13)) (e_var (pv 7)) (nomark _)))) (nomark _)) (ss_one (s_ret e_bl)) ss_nil)
    (ss_cons (s_if (t_cmp (o_ne rfl hr.units) (e_blt (c_reprL rfl hG hr.units) (by rfl) T.z_repr (by decide +kernel) (a_cons (e_call (ok__law_told_of T) hr T.m__law_told_of T.F__law_told_of.kp T.B__law_told_of tk (a_cons (e_var (pv 9)) (a_cons (e_var (pv 10)) a_nil)) ) a_nil)) (e_blt (c_reprL rfl hG hr.units) (by rfl) T.z_repr (by decide +kernel) (a_cons (e_var (pv 11)) a_nil)) (nomark _)) (ss_one (s_ret e_bl)) ss_nil)
    (ss_one (s_if (t_cmp (o_ne rfl hr.units) (e_blt (c_reprL rfl hG hr.units) (by rfl) T.z_repr (by decide +kernel) (a_cons (e_call (ok__law_told_of T) hr T.m__law_told_of T.F__law_told_of.kp T.B__law_told_of tk (a_cons (e_ix (o_ix rfl) (e_ix (o_ix rfl) (e_var (pv 6)) (e_var (pv 7))) e_int) (a_cons (e_var (pv 10)) a_nil)) ) a_nil)) (e_blt (c_reprL rfl hG hr.units) (by rfl) T.z_repr (by decide +kernel) (a_cons (e_sl rfl (e_lst (a_cons (e_var (pv 4)) (a_cons (e_var (pv 2)) a_nil))) p_none (p_some (e_blt (c_len rfl) (by rfl) T.z_len (by decide +kernel) (a_cons (e_var (pv 11)) a_nil)))) a_nil)) (nomark _)) (ss_one (s_ret e_bl)) ss_nil))))))))
    (ss_cons (s_set sc_law.nd (e_mkT PySem.F.excBase_ValueError T.xi_LampError T.m_LampError T.kp_LampError e_str))
    (ss_one (s_ret (e_and rfl (e_blt (c_isE rfl T.isE_ValueError) (by rfl) T.z_isinstance (by decide +kernel) (a_cons (e_var (pv 12)) (a_cons (e_ty (by rfl) T.z_ValueError (by decide +kernel)) a_nil))) (e_one (e_cmp (o_notin rfl) e_bl (e_call (ok__law_kinds T) hr T.m__law_kinds T.F__law_kinds.kp T.B__law_kinds tk (a_cons (e_var (pv 12)) a_nil) ) (by rfl)))))))))))
theorem ok_law (T : Tx G mg w P) : FnOk P w G.K mg base (L2.CX P w) 4 T.a_law T.d_law ["script"] (spF G f_law) :=
  fn_ok (k := 3) T.F_law sc_law fun cdv A outer s H E hr =>
    have tk := takes_of (X := cxOf (L2.CX P w) P w G.K mg base N_law "law" (defScope (topS 20)) T.a_law cdv A outer s H E) rfl rfl rfl rfl
    (ss_cons (s_set sc_law.nd (e_call (ok__law_pot T) hr T.m__law_pot T.F__law_pot.kp T.B__law_pot tk (a_cons (e_var (pv 0)) a_nil) ))
    (ss_cons (s_par3 rfl sc_law.nd (a_cons (e_call (ok__law_thing T) hr T.m__law_thing T.F__law_thing.kp T.B__law_thing tk (a_cons (e_var (pv 1)) a_nil) ) (a_cons (e_call (ok__law_thing T) hr T.m__law_thing T.F__law_thing.kp T.B__law_thing tk (a_cons (e_var (pv 1)) a_nil) ) (a_cons (e_call (ok__law_thing T) hr T.m__law_thing T.F__law_thing.kp T.B__law_thing tk (a_cons (e_var (pv 1)) a_nil) ) a_nil))))
    (ss_cons (s_par rfl sc_law.nd (a_cons (e_call (ok__law_rows T) hr T.m__law_rows T.F__law_rows.kp T.B__law_rows tk (a_cons (e_var (pv 2)) (a_cons (e_var (pv 3)) a_nil)) ) (a_cons (e_call (ok__law_rows T) hr T.m__law_rows T.F__law_rows.kp T.B__law_rows tk (a_cons (e_var (pv 4)) (a_cons (e_var (pv 2)) a_nil)) ) a_nil)))
    (ss_cons (s_for rfl (passes_of rfl) (i_enumX rfl T.z_enumerate (a_cons (e_var (pv 5)) a_nil)) (g_tup rfl rfl (gs_cons (g_name sc_law.nd) (gs_cons (g_name sc_law.nd) gs_nil)))
    (ss_cons (s_asg (e_var (pv 8)) (g_tup rfl rfl (gs_cons (g_name sc_law.nd) (gs_cons (g_name sc_law.nd) gs_nil))))
    (ss_cons (s_set sc_law.nd (e_if (t_cmp (o_ne rfl hr.units) (e_var (pv 10)) e_str (nomark _)) (e_sl rfl (e_lst (a_cons (e_var (pv 2)) (a_cons (e_var (pv 3)) a_nil))) p_none (p_some (e_blt (c_len rfl) (by rfl) T.z_len (by decide +kernel) (a_cons (e_mt rfl PySem.F.plainAttrs_str PySem.F.slot_str_split PySem.F.type_str_split m_split (e_var (pv 10)) (a_cons e_str a_nil)) a_nil)))) (e_lst a_nil)))
    (ss_cons (s_if (PW.pt (w_or (t_not (t_truth rfl (e_blt (c_isE rfl T.isE_LampError) (by rfl) T.z_isinstance (by decide +kernel) (a_cons (e_var (pv 9)) (a_cons (e_glob (v := .ref (G.tb 1)) (by rfl) T.m_LampError rfl fun _ _ => by simp only [RV]) a_nil))))) (w_one_or (t_not (t_truth rfl (e_blt (c_isE rfl T.isE_ValueError) (by rfl) T.z_isinstance (by decide +kernel) (a_cons (e_var (pv 9)) (a_cons (e_ty (by rfl) T.z_ValueError (by decide +kernel)) a_nil)))))))) (ss_one (s_ret e_bl)) ss_nil)
    (ss_cons (s_if (t_cmp (o_ne rfl hr.units) (e_call (ok__law_kinds T) hr T.m__law_kinds T.F__law_kinds.kp T.B__law_kinds tk (a_cons (e_var (pv 9)) a_nil) ) (e_lc (own := [("k", 13)]) rfl sc_law.nd (i_range1 T.z_range (a_cons (e_blt (c_len rfl) (by rfl) T.z_len (by decide +kernel) (a_cons (e_var (pv 5)) a_nil)) a_nil)) (blkOk_by (N := N_law) (sc := defScope (topS 20)) (by decide +kernel)) (fun _ _ _ _ _ => (g_name sc_law.nd)) (fun _ _ _ _ _ => ts_nil) (fun _ _ _ _ _ => (e_cmp (o_eq rfl hr.units) (e_var (pv 13)) (e_var (pv 7)) (nomark _)))) (nomark _)) (ss_one (s_ret e_bl)) ss_nil)
    (ss_cons (s_if (t_cmp (o_ne rfl hr.units) e_never e_never (nomark _)) (ss_one (s_ret e_bl)) ss_nil)
    (ss_one (s_if (t_cmp (o_ne rfl hr.units) e_never e_never (nomark _)) (ss_one (s_ret e_bl)) ss_nil))))))))
    (ss_cons (s_set sc_law.nd (e_mkT PySem.F.excBase_ValueError T.xi_LampError T.m_LampError T.kp_LampError e_str))
    (ss_one (s_ret (e_and rfl (e_blt (c_isE rfl T.isE_ValueError) (by rfl) T.z_isinstance (by decide +kernel) (a_cons (e_var (pv 12)) (a_cons (e_ty (by rfl) T.z_ValueError (by decide +kernel)) a_nil))) (e_one (e_cmp (o_notin rfl) e_bl (e_call (ok__law_kinds T) hr T.m__law_kinds T.F__law_kinds.kp T.B__law_kinds tk (a_cons (e_var (pv 12)) a_nil) ) (by rfl)))))))))))
end K00

set_option Elab.async false
set_option linter.all false
set_option maxRecDepth 100000
set_option maxHeartbeats 4000000
namespace K00
open PySem PySem.Spec PyProof.Rows L2 LF
def tbF (C_BadProgram C_BadText C_BadNumber C_NoColour C_NoStanding C_NoVisit C_NoOrder C_NoWord C_NoFit C_TooMany C_LampError : Addr) : Nat → Addr := fun n => if n = 2 then C_BadProgram else if n = 3 then C_BadText else if n = 4 then C_BadNumber else if n = 5 then C_NoColour else if n = 6 then C_NoStanding else if n = 7 then C_NoVisit else if n = 8 then C_NoOrder else if n = 9 then C_NoWord else if n = 10 then C_NoFit else if n = 11 then C_TooMany else if n = 1 then C_LampError else 0
theorem sub_kit {K : PySem.W.Frag} {t : Value} {C : Addr} {b : Bool} (h1 : PySem.W.isClsIn K C = true) (h2 : PySem.W.typeIn K (.ref C) = some (.type "type")) (h3 : PySem.W.subIn K t (.ref C) = some b) (h4 : (t == .ref C) = false) : PySem.W.kitOne K t (.ref C) = some b := by
  unfold PySem.W.kitOne PySem.W.kitCls
  rw [h4, if_neg (by decide)]
  simp only [PySem.W.isClsIn] at h1
  simp only [h1, h2]
  simpa using h3
theorem sub_kitT {K : PySem.W.Frag} {t : Value} {C : Addr} (h1 : PySem.W.isClsIn K C = true) (h2 : PySem.W.typeIn K (.ref C) = some (.type "type")) (h3 : PySem.W.subIn K t (.ref C) = some true) : PySem.W.kitOne K t (.ref C) = some true := by
  by_cases h4 : (t == Value.ref C) = true
  · unfold PySem.W.kitOne
    rw [if_pos h4]
  · exact sub_kit h1 h2 h3 (Bool.eq_false_iff.mpr h4)
theorem sub_kitF {K : PySem.W.Frag} {t : Value} {C : Addr} (h1 : PySem.W.isClsIn K C = true) (h2 : PySem.W.typeIn K (.ref C) = some (.type "type")) (h0 : PySem.W.subIn K (.ref C) (.ref C) = some true) (h3 : PySem.W.subIn K t (.ref C) = some false) : PySem.W.kitOne K t (.ref C) = some false := by
  by_cases h4 : (t == Value.ref C) = true
  · rw [eq_of_beq h4, h0] at h3
    cases h3
  · exact sub_kit h1 h2 h3 (Bool.eq_false_iff.mpr h4)
theorem sub_kitV {K : PySem.W.Frag} {D : Addr} (h3 : PySem.W.subIn K (.ref D) (.type "ValueError") = some true) : PySem.W.kitOne K (.ref D) (.type "ValueError") = some true := by
  unfold PySem.W.kitOne PySem.W.kitCls
  rw [if_neg (fun z => by have z := eq_of_beq z; cases z)]
  simp only
  rw [if_pos (by decide +kernel)]
  exact h3
theorem isE_mk_BadNumber {K : PySem.W.Frag} {tb : Nat → Addr} (h1 : ExcC K (tb 1) ∧ PySem.W.kitOne K (.ref (tb 1)) (.ref (tb 4)) = some false) (h2 : ExcC K (tb 2) ∧ PySem.W.kitOne K (.ref (tb 2)) (.ref (tb 4)) = some false) (h3 : ExcC K (tb 3) ∧ PySem.W.kitOne K (.ref (tb 3)) (.ref (tb 4)) = some false) (h4 : ExcC K (tb 4) ∧ PySem.W.kitOne K (.ref (tb 4)) (.ref (tb 4)) = some true) (h5 : ExcC K (tb 5) ∧ PySem.W.kitOne K (.ref (tb 5)) (.ref (tb 4)) = some false) (h6 : ExcC K (tb 6) ∧ PySem.W.kitOne K (.ref (tb 6)) (.ref (tb 4)) = some false) (h7 : ExcC K (tb 7) ∧ PySem.W.kitOne K (.ref (tb 7)) (.ref (tb 4)) = some false) (h8 : ExcC K (tb 8) ∧ PySem.W.kitOne K (.ref (tb 8)) (.ref (tb 4)) = some false) (h9 : ExcC K (tb 9) ∧ PySem.W.kitOne K (.ref (tb 9)) (.ref (tb 4)) = some false) (h10 : ExcC K (tb 10) ∧ PySem.W.kitOne K (.ref (tb 10)) (.ref (tb 4)) = some false) (h11 : ExcC K (tb 11) ∧ PySem.W.kitOne K (.ref (tb 11)) (.ref (tb 4)) = some false) : ∀ k b, ansE_BadNumber k = some b → ExcC K (tb k) ∧ PySem.W.kitOne K (.ref (tb k)) (.ref (tb 4)) = some b := by
  intro k b h
  unfold ansE_BadNumber at h
  split at h
  · rename_i hc
    subst hc
    cases h
    exact h1
  split at h
  · rename_i hc
    subst hc
    cases h
    exact h2
  split at h
  · rename_i hc
    subst hc
    cases h
    exact h3
  split at h
  · rename_i hc
    subst hc
    cases h
    exact h4
  split at h
  · rename_i hc
    subst hc
    cases h
    exact h5
  split at h
  · rename_i hc
    subst hc
    cases h
    exact h6
  split at h
  · rename_i hc
    subst hc
    cases h
    exact h7
  split at h
  · rename_i hc
    subst hc
    cases h
    exact h8
  split at h
  · rename_i hc
    subst hc
    cases h
    exact h9
  split at h
  · rename_i hc
    subst hc
    cases h
    exact h10
  split at h
  · rename_i hc
    subst hc
    cases h
    exact h11
  cases h
theorem isE_mk_BadProgram {K : PySem.W.Frag} {tb : Nat → Addr} (h1 : ExcC K (tb 1) ∧ PySem.W.kitOne K (.ref (tb 1)) (.ref (tb 2)) = some false) (h2 : ExcC K (tb 2) ∧ PySem.W.kitOne K (.ref (tb 2)) (.ref (tb 2)) = some true) (h3 : ExcC K (tb 3) ∧ PySem.W.kitOne K (.ref (tb 3)) (.ref (tb 2)) = some false) (h4 : ExcC K (tb 4) ∧ PySem.W.kitOne K (.ref (tb 4)) (.ref (tb 2)) = some false) (h5 : ExcC K (tb 5) ∧ PySem.W.kitOne K (.ref (tb 5)) (.ref (tb 2)) = some false) (h6 : ExcC K (tb 6) ∧ PySem.W.kitOne K (.ref (tb 6)) (.ref (tb 2)) = some false) (h7 : ExcC K (tb 7) ∧ PySem.W.kitOne K (.ref (tb 7)) (.ref (tb 2)) = some false) (h8 : ExcC K (tb 8) ∧ PySem.W.kitOne K (.ref (tb 8)) (.ref (tb 2)) = some false) (h9 : ExcC K (tb 9) ∧ PySem.W.kitOne K (.ref (tb 9)) (.ref (tb 2)) = some false) (h10 : ExcC K (tb 10) ∧ PySem.W.kitOne K (.ref (tb 10)) (.ref (tb 2)) = some false) (h11 : ExcC K (tb 11) ∧ PySem.W.kitOne K (.ref (tb 11)) (.ref (tb 2)) = some false) : ∀ k b, ansE_BadProgram k = some b → ExcC K (tb k) ∧ PySem.W.kitOne K (.ref (tb k)) (.ref (tb 2)) = some b := by
  intro k b h
  unfold ansE_BadProgram at h
  split at h
  · rename_i hc
    subst hc
    cases h
    exact h1
  split at h
  · rename_i hc
    subst hc
    cases h
    exact h2
  split at h
  · rename_i hc
    subst hc
    cases h
    exact h3
  split at h
  · rename_i hc
    subst hc
    cases h
    exact h4
  split at h
  · rename_i hc
    subst hc
    cases h
    exact h5
  split at h
  · rename_i hc
    subst hc
    cases h
    exact h6
  split at h
  · rename_i hc
    subst hc
    cases h
    exact h7
  split at h
  · rename_i hc
    subst hc
    cases h
    exact h8
  split at h
  · rename_i hc
    subst hc
    cases h
    exact h9
  split at h
  · rename_i hc
    subst hc
    cases h
    exact h10
  split at h
  · rename_i hc
    subst hc
    cases h
    exact h11
  cases h
theorem isE_mk_BadText {K : PySem.W.Frag} {tb : Nat → Addr} (h1 : ExcC K (tb 1) ∧ PySem.W.kitOne K (.ref (tb 1)) (.ref (tb 3)) = some false) (h2 : ExcC K (tb 2) ∧ PySem.W.kitOne K (.ref (tb 2)) (.ref (tb 3)) = some false) (h3 : ExcC K (tb 3) ∧ PySem.W.kitOne K (.ref (tb 3)) (.ref (tb 3)) = some true) (h4 : ExcC K (tb 4) ∧ PySem.W.kitOne K (.ref (tb 4)) (.ref (tb 3)) = some false) (h5 : ExcC K (tb 5) ∧ PySem.W.kitOne K (.ref (tb 5)) (.ref (tb 3)) = some false) (h6 : ExcC K (tb 6) ∧ PySem.W.kitOne K (.ref (tb 6)) (.ref (tb 3)) = some false) (h7 : ExcC K (tb 7) ∧ PySem.W.kitOne K (.ref (tb 7)) (.ref (tb 3)) = some false) (h8 : ExcC K (tb 8) ∧ PySem.W.kitOne K (.ref (tb 8)) (.ref (tb 3)) = some false) (h9 : ExcC K (tb 9) ∧ PySem.W.kitOne K (.ref (tb 9)) (.ref (tb 3)) = some false) (h10 : ExcC K (tb 10) ∧ PySem.W.kitOne K (.ref (tb 10)) (.ref (tb 3)) = some false) (h11 : ExcC K (tb 11) ∧ PySem.W.kitOne K (.ref (tb 11)) (.ref (tb 3)) = some false) : ∀ k b, ansE_BadText k = some b → ExcC K (tb k) ∧ PySem.W.kitOne K (.ref (tb k)) (.ref (tb 3)) = some b := by
  intro k b h
  unfold ansE_BadText at h
  split at h
  · rename_i hc
    subst hc
    cases h
    exact h1
  split at h
  · rename_i hc
    subst hc
    cases h
    exact h2
  split at h
  · rename_i hc
    subst hc
    cases h
    exact h3
  split at h
  · rename_i hc
    subst hc
    cases h
    exact h4
  split at h
  · rename_i hc
    subst hc
    cases h
    exact h5
  split at h
  · rename_i hc
    subst hc
    cases h
    exact h6
  split at h
  · rename_i hc
    subst hc
    cases h
    exact h7
  split at h
  · rename_i hc
    subst hc
    cases h
    exact h8
  split at h
  · rename_i hc
    subst hc
    cases h
    exact h9
  split at h
  · rename_i hc
    subst hc
    cases h
    exact h10
  split at h
  · rename_i hc
    subst hc
    cases h
    exact h11
  cases h
theorem isE_mk_LampError {K : PySem.W.Frag} {tb : Nat → Addr} (h2 : ExcC K (tb 2) ∧ PySem.W.kitOne K (.ref (tb 2)) (.ref (tb 1)) = some true) (h3 : ExcC K (tb 3) ∧ PySem.W.kitOne K (.ref (tb 3)) (.ref (tb 1)) = some true) (h4 : ExcC K (tb 4) ∧ PySem.W.kitOne K (.ref (tb 4)) (.ref (tb 1)) = some true) (h5 : ExcC K (tb 5) ∧ PySem.W.kitOne K (.ref (tb 5)) (.ref (tb 1)) = some true) (h6 : ExcC K (tb 6) ∧ PySem.W.kitOne K (.ref (tb 6)) (.ref (tb 1)) = some true) (h7 : ExcC K (tb 7) ∧ PySem.W.kitOne K (.ref (tb 7)) (.ref (tb 1)) = some true) (h8 : ExcC K (tb 8) ∧ PySem.W.kitOne K (.ref (tb 8)) (.ref (tb 1)) = some true) (h9 : ExcC K (tb 9) ∧ PySem.W.kitOne K (.ref (tb 9)) (.ref (tb 1)) = some true) (h10 : ExcC K (tb 10) ∧ PySem.W.kitOne K (.ref (tb 10)) (.ref (tb 1)) = some true) (h11 : ExcC K (tb 11) ∧ PySem.W.kitOne K (.ref (tb 11)) (.ref (tb 1)) = some true) : ∀ k b, ansE_LampError k = some b → ExcC K (tb k) ∧ PySem.W.kitOne K (.ref (tb k)) (.ref (tb 1)) = some b := by
  intro k b h
  unfold ansE_LampError at h
  split at h
  · rename_i hc
    subst hc
    cases h
    exact h2
  split at h
  · rename_i hc
    subst hc
    cases h
    exact h3
  split at h
  · rename_i hc
    subst hc
    cases h
    exact h4
  split at h
  · rename_i hc
    subst hc
    cases h
    exact h5
  split at h
  · rename_i hc
    subst hc
    cases h
    exact h6
  split at h
  · rename_i hc
    subst hc
    cases h
    exact h7
  split at h
  · rename_i hc
    subst hc
    cases h
    exact h8
  split at h
  · rename_i hc
    subst hc
    cases h
    exact h9
  split at h
  · rename_i hc
    subst hc
    cases h
    exact h10
  split at h
  · rename_i hc
    subst hc
    cases h
    exact h11
  cases h
theorem isE_mk_NoColour {K : PySem.W.Frag} {tb : Nat → Addr} (h1 : ExcC K (tb 1) ∧ PySem.W.kitOne K (.ref (tb 1)) (.ref (tb 5)) = some false) (h2 : ExcC K (tb 2) ∧ PySem.W.kitOne K (.ref (tb 2)) (.ref (tb 5)) = some false) (h3 : ExcC K (tb 3) ∧ PySem.W.kitOne K (.ref (tb 3)) (.ref (tb 5)) = some false) (h4 : ExcC K (tb 4) ∧ PySem.W.kitOne K (.ref (tb 4)) (.ref (tb 5)) = some false) (h5 : ExcC K (tb 5) ∧ PySem.W.kitOne K (.ref (tb 5)) (.ref (tb 5)) = some true) (h6 : ExcC K (tb 6) ∧ PySem.W.kitOne K (.ref (tb 6)) (.ref (tb 5)) = some false) (h7 : ExcC K (tb 7) ∧ PySem.W.kitOne K (.ref (tb 7)) (.ref (tb 5)) = some false) (h8 : ExcC K (tb 8) ∧ PySem.W.kitOne K (.ref (tb 8)) (.ref (tb 5)) = some false) (h9 : ExcC K (tb 9) ∧ PySem.W.kitOne K (.ref (tb 9)) (.ref (tb 5)) = some false) (h10 : ExcC K (tb 10) ∧ PySem.W.kitOne K (.ref (tb 10)) (.ref (tb 5)) = some false) (h11 : ExcC K (tb 11) ∧ PySem.W.kitOne K (.ref (tb 11)) (.ref (tb 5)) = some false) : ∀ k b, ansE_NoColour k = some b → ExcC K (tb k) ∧ PySem.W.kitOne K (.ref (tb k)) (.ref (tb 5)) = some b := by
  intro k b h
  unfold ansE_NoColour at h
  split at h
  · rename_i hc
    subst hc
    cases h
    exact h1
  split at h
  · rename_i hc
    subst hc
    cases h
    exact h2
  split at h
  · rename_i hc
    subst hc
    cases h
    exact h3
  split at h
  · rename_i hc
    subst hc
    cases h
    exact h4
  split at h
  · rename_i hc
    subst hc
    cases h
    exact h5
  split at h
  · rename_i hc
    subst hc
    cases h
    exact h6
  split at h
  · rename_i hc
    subst hc
    cases h
    exact h7
  split at h
  · rename_i hc
    subst hc
    cases h
    exact h8
  split at h
  · rename_i hc
    subst hc
    cases h
    exact h9
  split at h
  · rename_i hc
    subst hc
    cases h
    exact h10
  split at h
  · rename_i hc
    subst hc
    cases h
    exact h11
  cases h
theorem isE_mk_NoFit {K : PySem.W.Frag} {tb : Nat → Addr} (h1 : ExcC K (tb 1) ∧ PySem.W.kitOne K (.ref (tb 1)) (.ref (tb 10)) = some false) (h2 : ExcC K (tb 2) ∧ PySem.W.kitOne K (.ref (tb 2)) (.ref (tb 10)) = some false) (h3 : ExcC K (tb 3) ∧ PySem.W.kitOne K (.ref (tb 3)) (.ref (tb 10)) = some false) (h4 : ExcC K (tb 4) ∧ PySem.W.kitOne K (.ref (tb 4)) (.ref (tb 10)) = some false) (h5 : ExcC K (tb 5) ∧ PySem.W.kitOne K (.ref (tb 5)) (.ref (tb 10)) = some false) (h6 : ExcC K (tb 6) ∧ PySem.W.kitOne K (.ref (tb 6)) (.ref (tb 10)) = some false) (h7 : ExcC K (tb 7) ∧ PySem.W.kitOne K (.ref (tb 7)) (.ref (tb 10)) = some false) (h8 : ExcC K (tb 8) ∧ PySem.W.kitOne K (.ref (tb 8)) (.ref (tb 10)) = some false) (h9 : ExcC K (tb 9) ∧ PySem.W.kitOne K (.ref (tb 9)) (.ref (tb 10)) = some false) (h10 : ExcC K (tb 10) ∧ PySem.W.kitOne K (.ref (tb 10)) (.ref (tb 10)) = some true) (h11 : ExcC K (tb 11) ∧ PySem.W.kitOne K (.ref (tb 11)) (.ref (tb 10)) = some false) : ∀ k b, ansE_NoFit k = some b → ExcC K (tb k) ∧ PySem.W.kitOne K (.ref (tb k)) (.ref (tb 10)) = some b := by
  intro k b h
  unfold ansE_NoFit at h
  split at h
  · rename_i hc
    subst hc
    cases h
    exact h1
  split at h
  · rename_i hc
    subst hc
    cases h
    exact h2
  split at h
  · rename_i hc
    subst hc
    cases h
    exact h3
  split at h
  · rename_i hc
    subst hc
    cases h
    exact h4
  split at h
  · rename_i hc
    subst hc
    cases h
    exact h5
  split at h
  · rename_i hc
    subst hc
    cases h
    exact h6
  split at h
  · rename_i hc
    subst hc
    cases h
    exact h7
  split at h
  · rename_i hc
    subst hc
    cases h
    exact h8
  split at h
  · rename_i hc
    subst hc
    cases h
    exact h9
  split at h
  · rename_i hc
    subst hc
    cases h
    exact h10
  split at h
  · rename_i hc
    subst hc
    cases h
    exact h11
  cases h
theorem isE_mk_NoOrder {K : PySem.W.Frag} {tb : Nat → Addr} (h1 : ExcC K (tb 1) ∧ PySem.W.kitOne K (.ref (tb 1)) (.ref (tb 8)) = some false) (h2 : ExcC K (tb 2) ∧ PySem.W.kitOne K (.ref (tb 2)) (.ref (tb 8)) = some false) (h3 : ExcC K (tb 3) ∧ PySem.W.kitOne K (.ref (tb 3)) (.ref (tb 8)) = some false) (h4 : ExcC K (tb 4) ∧ PySem.W.kitOne K (.ref (tb 4)) (.ref (tb 8)) = some false) (h5 : ExcC K (tb 5) ∧ PySem.W.kitOne K (.ref (tb 5)) (.ref (tb 8)) = some false) (h6 : ExcC K (tb 6) ∧ PySem.W.kitOne K (.ref (tb 6)) (.ref (tb 8)) = some false) (h7 : ExcC K (tb 7) ∧ PySem.W.kitOne K (.ref (tb 7)) (.ref (tb 8)) = some false) (h8 : ExcC K (tb 8) ∧ PySem.W.kitOne K (.ref (tb 8)) (.ref (tb 8)) = some true) (h9 : ExcC K (tb 9) ∧ PySem.W.kitOne K (.ref (tb 9)) (.ref (tb 8)) = some false) (h10 : ExcC K (tb 10) ∧ PySem.W.kitOne K (.ref (tb 10)) (.ref (tb 8)) = some false) (h11 : ExcC K (tb 11) ∧ PySem.W.kitOne K (.ref (tb 11)) (.ref (tb 8)) = some false) : ∀ k b, ansE_NoOrder k = some b → ExcC K (tb k) ∧ PySem.W.kitOne K (.ref (tb k)) (.ref (tb 8)) = some b := by
  intro k b h
  unfold ansE_NoOrder at h
  split at h
  · rename_i hc
    subst hc
    cases h
    exact h1
  split at h
  · rename_i hc
    subst hc
    cases h
    exact h2
  split at h
  · rename_i hc
    subst hc
    cases h
    exact h3
  split at h
  · rename_i hc
    subst hc
    cases h
    exact h4
  split at h
  · rename_i hc
    subst hc
    cases h
    exact h5
  split at h
  · rename_i hc
    subst hc
    cases h
    exact h6
  split at h
  · rename_i hc
    subst hc
    cases h
    exact h7
  split at h
  · rename_i hc
    subst hc
    cases h
    exact h8
  split at h
  · rename_i hc
    subst hc
    cases h
    exact h9
  split at h
  · rename_i hc
    subst hc
    cases h
    exact h10
  split at h
  · rename_i hc
    subst hc
    cases h
    exact h11
  cases h
theorem isE_mk_NoStanding {K : PySem.W.Frag} {tb : Nat → Addr} (h1 : ExcC K (tb 1) ∧ PySem.W.kitOne K (.ref (tb 1)) (.ref (tb 6)) = some false) (h2 : ExcC K (tb 2) ∧ PySem.W.kitOne K (.ref (tb 2)) (.ref (tb 6)) = some false) (h3 : ExcC K (tb 3) ∧ PySem.W.kitOne K (.ref (tb 3)) (.ref (tb 6)) = some false) (h4 : ExcC K (tb 4) ∧ PySem.W.kitOne K (.ref (tb 4)) (.ref (tb 6)) = some false) (h5 : ExcC K (tb 5) ∧ PySem.W.kitOne K (.ref (tb 5)) (.ref (tb 6)) = some false) (h6 : ExcC K (tb 6) ∧ PySem.W.kitOne K (.ref (tb 6)) (.ref (tb 6)) = some true) (h7 : ExcC K (tb 7) ∧ PySem.W.kitOne K (.ref (tb 7)) (.ref (tb 6)) = some false) (h8 : ExcC K (tb 8) ∧ PySem.W.kitOne K (.ref (tb 8)) (.ref (tb 6)) = some false) (h9 : ExcC K (tb 9) ∧ PySem.W.kitOne K (.ref (tb 9)) (.ref (tb 6)) = some false) (h10 : ExcC K (tb 10) ∧ PySem.W.kitOne K (.ref (tb 10)) (.ref (tb 6)) = some false) (h11 : ExcC K (tb 11) ∧ PySem.W.kitOne K (.ref (tb 11)) (.ref (tb 6)) = some false) : ∀ k b, ansE_NoStanding k = some b → ExcC K (tb k) ∧ PySem.W.kitOne K (.ref (tb k)) (.ref (tb 6)) = some b := by
  intro k b h
  unfold ansE_NoStanding at h
  split at h
  · rename_i hc
    subst hc
    cases h
    exact h1
  split at h
  · rename_i hc
    subst hc
    cases h
    exact h2
  split at h
  · rename_i hc
    subst hc
    cases h
    exact h3
  split at h
  · rename_i hc
    subst hc
    cases h
    exact h4
  split at h
  · rename_i hc
    subst hc
    cases h
    exact h5
  split at h
  · rename_i hc
    subst hc
    cases h
    exact h6
  split at h
  · rename_i hc
    subst hc
    cases h
    exact h7
  split at h
  · rename_i hc
    subst hc
    cases h
    exact h8
  split at h
  · rename_i hc
    subst hc
    cases h
    exact h9
  split at h
  · rename_i hc
    subst hc
    cases h
    exact h10
  split at h
  · rename_i hc
    subst hc
    cases h
    exact h11
  cases h
theorem isE_mk_NoVisit {K : PySem.W.Frag} {tb : Nat → Addr} (h1 : ExcC K (tb 1) ∧ PySem.W.kitOne K (.ref (tb 1)) (.ref (tb 7)) = some false) (h2 : ExcC K (tb 2) ∧ PySem.W.kitOne K (.ref (tb 2)) (.ref (tb 7)) = some false) (h3 : ExcC K (tb 3) ∧ PySem.W.kitOne K (.ref (tb 3)) (.ref (tb 7)) = some false) (h4 : ExcC K (tb 4) ∧ PySem.W.kitOne K (.ref (tb 4)) (.ref (tb 7)) = some false) (h5 : ExcC K (tb 5) ∧ PySem.W.kitOne K (.ref (tb 5)) (.ref (tb 7)) = some false) (h6 : ExcC K (tb 6) ∧ PySem.W.kitOne K (.ref (tb 6)) (.ref (tb 7)) = some false) (h7 : ExcC K (tb 7) ∧ PySem.W.kitOne K (.ref (tb 7)) (.ref (tb 7)) = some true) (h8 : ExcC K (tb 8) ∧ PySem.W.kitOne K (.ref (tb 8)) (.ref (tb 7)) = some false) (h9 : ExcC K (tb 9) ∧ PySem.W.kitOne K (.ref (tb 9)) (.ref (tb 7)) = some false) (h10 : ExcC K (tb 10) ∧ PySem.W.kitOne K (.ref (tb 10)) (.ref (tb 7)) = some false) (h11 : ExcC K (tb 11) ∧ PySem.W.kitOne K (.ref (tb 11)) (.ref (tb 7)) = some false) : ∀ k b, ansE_NoVisit k = some b → ExcC K (tb k) ∧ PySem.W.kitOne K (.ref (tb k)) (.ref (tb 7)) = some b := by
  intro k b h
  unfold ansE_NoVisit at h
  split at h
  · rename_i hc
    subst hc
    cases h
    exact h1
  split at h
  · rename_i hc
    subst hc
    cases h
    exact h2
  split at h
  · rename_i hc
    subst hc
    cases h
    exact h3
  split at h
  · rename_i hc
    subst hc
    cases h
    exact h4
  split at h
  · rename_i hc
    subst hc
    cases h
    exact h5
  split at h
  · rename_i hc
    subst hc
    cases h
    exact h6
  split at h
  · rename_i hc
    subst hc
    cases h
    exact h7
  split at h
  · rename_i hc
    subst hc
    cases h
    exact h8
  split at h
  · rename_i hc
    subst hc
    cases h
    exact h9
  split at h
  · rename_i hc
    subst hc
    cases h
    exact h10
  split at h
  · rename_i hc
    subst hc
    cases h
    exact h11
  cases h
theorem isE_mk_NoWord {K : PySem.W.Frag} {tb : Nat → Addr} (h1 : ExcC K (tb 1) ∧ PySem.W.kitOne K (.ref (tb 1)) (.ref (tb 9)) = some false) (h2 : ExcC K (tb 2) ∧ PySem.W.kitOne K (.ref (tb 2)) (.ref (tb 9)) = some false) (h3 : ExcC K (tb 3) ∧ PySem.W.kitOne K (.ref (tb 3)) (.ref (tb 9)) = some false) (h4 : ExcC K (tb 4) ∧ PySem.W.kitOne K (.ref (tb 4)) (.ref (tb 9)) = some false) (h5 : ExcC K (tb 5) ∧ PySem.W.kitOne K (.ref (tb 5)) (.ref (tb 9)) = some false) (h6 : ExcC K (tb 6) ∧ PySem.W.kitOne K (.ref (tb 6)) (.ref (tb 9)) = some false) (h7 : ExcC K (tb 7) ∧ PySem.W.kitOne K (.ref (tb 7)) (.ref (tb 9)) = some false) (h8 : ExcC K (tb 8) ∧ PySem.W.kitOne K (.ref (tb 8)) (.ref (tb 9)) = some false) (h9 : ExcC K (tb 9) ∧ PySem.W.kitOne K (.ref (tb 9)) (.ref (tb 9)) = some true) (h10 : ExcC K (tb 10) ∧ PySem.W.kitOne K (.ref (tb 10)) (.ref (tb 9)) = some false) (h11 : ExcC K (tb 11) ∧ PySem.W.kitOne K (.ref (tb 11)) (.ref (tb 9)) = some false) : ∀ k b, ansE_NoWord k = some b → ExcC K (tb k) ∧ PySem.W.kitOne K (.ref (tb k)) (.ref (tb 9)) = some b := by
  intro k b h
  unfold ansE_NoWord at h
  split at h
  · rename_i hc
    subst hc
    cases h
    exact h1
  split at h
  · rename_i hc
    subst hc
    cases h
    exact h2
  split at h
  · rename_i hc
    subst hc
    cases h
    exact h3
  split at h
  · rename_i hc
    subst hc
    cases h
    exact h4
  split at h
  · rename_i hc
    subst hc
    cases h
    exact h5
  split at h
  · rename_i hc
    subst hc
    cases h
    exact h6
  split at h
  · rename_i hc
    subst hc
    cases h
    exact h7
  split at h
  · rename_i hc
    subst hc
    cases h
    exact h8
  split at h
  · rename_i hc
    subst hc
    cases h
    exact h9
  split at h
  · rename_i hc
    subst hc
    cases h
    exact h10
  split at h
  · rename_i hc
    subst hc
    cases h
    exact h11
  cases h
theorem isE_mk_TooMany {K : PySem.W.Frag} {tb : Nat → Addr} (h1 : ExcC K (tb 1) ∧ PySem.W.kitOne K (.ref (tb 1)) (.ref (tb 11)) = some false) (h2 : ExcC K (tb 2) ∧ PySem.W.kitOne K (.ref (tb 2)) (.ref (tb 11)) = some false) (h3 : ExcC K (tb 3) ∧ PySem.W.kitOne K (.ref (tb 3)) (.ref (tb 11)) = some false) (h4 : ExcC K (tb 4) ∧ PySem.W.kitOne K (.ref (tb 4)) (.ref (tb 11)) = some false) (h5 : ExcC K (tb 5) ∧ PySem.W.kitOne K (.ref (tb 5)) (.ref (tb 11)) = some false) (h6 : ExcC K (tb 6) ∧ PySem.W.kitOne K (.ref (tb 6)) (.ref (tb 11)) = some false) (h7 : ExcC K (tb 7) ∧ PySem.W.kitOne K (.ref (tb 7)) (.ref (tb 11)) = some false) (h8 : ExcC K (tb 8) ∧ PySem.W.kitOne K (.ref (tb 8)) (.ref (tb 11)) = some false) (h9 : ExcC K (tb 9) ∧ PySem.W.kitOne K (.ref (tb 9)) (.ref (tb 11)) = some false) (h10 : ExcC K (tb 10) ∧ PySem.W.kitOne K (.ref (tb 10)) (.ref (tb 11)) = some false) (h11 : ExcC K (tb 11) ∧ PySem.W.kitOne K (.ref (tb 11)) (.ref (tb 11)) = some true) : ∀ k b, ansE_TooMany k = some b → ExcC K (tb k) ∧ PySem.W.kitOne K (.ref (tb k)) (.ref (tb 11)) = some b := by
  intro k b h
  unfold ansE_TooMany at h
  split at h
  · rename_i hc
    subst hc
    cases h
    exact h1
  split at h
  · rename_i hc
    subst hc
    cases h
    exact h2
  split at h
  · rename_i hc
    subst hc
    cases h
    exact h3
  split at h
  · rename_i hc
    subst hc
    cases h
    exact h4
  split at h
  · rename_i hc
    subst hc
    cases h
    exact h5
  split at h
  · rename_i hc
    subst hc
    cases h
    exact h6
  split at h
  · rename_i hc
    subst hc
    cases h
    exact h7
  split at h
  · rename_i hc
    subst hc
    cases h
    exact h8
  split at h
  · rename_i hc
    subst hc
    cases h
    exact h9
  split at h
  · rename_i hc
    subst hc
    cases h
    exact h10
  split at h
  · rename_i hc
    subst hc
    cases h
    exact h11
  cases h
theorem isE_mk_ValueError {K : PySem.W.Frag} {tb : Nat → Addr} (h1 : ExcC K (tb 1) ∧ PySem.W.kitOne K (.ref (tb 1)) (.type "ValueError") = some true) (h2 : ExcC K (tb 2) ∧ PySem.W.kitOne K (.ref (tb 2)) (.type "ValueError") = some true) (h3 : ExcC K (tb 3) ∧ PySem.W.kitOne K (.ref (tb 3)) (.type "ValueError") = some true) (h4 : ExcC K (tb 4) ∧ PySem.W.kitOne K (.ref (tb 4)) (.type "ValueError") = some true) (h5 : ExcC K (tb 5) ∧ PySem.W.kitOne K (.ref (tb 5)) (.type "ValueError") = some true) (h6 : ExcC K (tb 6) ∧ PySem.W.kitOne K (.ref (tb 6)) (.type "ValueError") = some true) (h7 : ExcC K (tb 7) ∧ PySem.W.kitOne K (.ref (tb 7)) (.type "ValueError") = some true) (h8 : ExcC K (tb 8) ∧ PySem.W.kitOne K (.ref (tb 8)) (.type "ValueError") = some true) (h9 : ExcC K (tb 9) ∧ PySem.W.kitOne K (.ref (tb 9)) (.type "ValueError") = some true) (h10 : ExcC K (tb 10) ∧ PySem.W.kitOne K (.ref (tb 10)) (.type "ValueError") = some true) (h11 : ExcC K (tb 11) ∧ PySem.W.kitOne K (.ref (tb 11)) (.type "ValueError") = some true) : ∀ k b, ansE_ValueError k = some b → ExcC K (tb k) ∧ PySem.W.kitOne K (.ref (tb k)) (.type "ValueError") = some b := by
  intro k b h
  unfold ansE_ValueError at h
  split at h
  · rename_i hc
    subst hc
    cases h
    exact h1
  split at h
  · rename_i hc
    subst hc
    cases h
    exact h2
  split at h
  · rename_i hc
    subst hc
    cases h
    exact h3
  split at h
  · rename_i hc
    subst hc
    cases h
    exact h4
  split at h
  · rename_i hc
    subst hc
    cases h
    exact h5
  split at h
  · rename_i hc
    subst hc
    cases h
    exact h6
  split at h
  · rename_i hc
    subst hc
    cases h
    exact h7
  split at h
  · rename_i hc
    subst hc
    cases h
    exact h8
  split at h
  · rename_i hc
    subst hc
    cases h
    exact h9
  split at h
  · rename_i hc
    subst hc
    cases h
    exact h10
  split at h
  · rename_i hc
    subst hc
    cases h
    exact h11
  cases h
theorem all_mk {P : Program} {w : World} {K : PySem.W.Frag} {h : Heap} {mg : Str → Option Value} {fa : Addr} {C_LampError N_LampError : Addr} {nm_LampError q_LampError : Str} {bs_LampError : List Value} {sn_LampError : List Str} {sub_LampError : List Value} {ab_LampError : Bool} {col_LampError : Option Bool} {dd_LampError : Option Addr} {k0_LampError k1_LampError k2_LampError k3_LampError k5_LampError : Option Value} {C_BadProgram N_BadProgram A_BadProgram cc_BadProgram ca_BadProgram : Addr} {nm_BadProgram q_BadProgram fi_BadProgram : Str} {bs_BadProgram : List Value} {sn_BadProgram : List Str} {sub_BadProgram : List Value} {ab_BadProgram : Bool} {col_BadProgram : Option Bool} {dd_BadProgram od_BadProgram an_BadProgram x1_BadProgram cod_BadProgram : Option Addr} {k0_BadProgram k1_BadProgram k2_BadProgram k3_BadProgram k5_BadProgram : Option Value} {oc_BadProgram kV_BadProgram dc_BadProgram pm_BadProgram ct_BadProgram x0_BadProgram coc_BadProgram v0_BadProgram v1_BadProgram : Value} {sl_BadProgram x2_BadProgram csl_BadProgram : Array (Option Value)} {tf_BadProgram : Tok} {vr_BadProgram : List Value} {C_BadText N_BadText A_BadText cc_BadText ca_BadText : Addr} {nm_BadText q_BadText fi_BadText : Str} {bs_BadText : List Value} {sn_BadText : List Str} {sub_BadText : List Value} {ab_BadText : Bool} {col_BadText : Option Bool} {dd_BadText od_BadText an_BadText x1_BadText cod_BadText : Option Addr} {k0_BadText k1_BadText k2_BadText k3_BadText k5_BadText : Option Value} {oc_BadText kV_BadText dc_BadText pm_BadText ct_BadText x0_BadText coc_BadText v0_BadText v1_BadText : Value} {sl_BadText x2_BadText csl_BadText : Array (Option Value)} {tf_BadText : Tok} {vr_BadText : List Value} {C_BadNumber N_BadNumber A_BadNumber cc_BadNumber ca_BadNumber : Addr} {nm_BadNumber q_BadNumber fi_BadNumber : Str} {bs_BadNumber : List Value} {sn_BadNumber : List Str} {sub_BadNumber : List Value} {ab_BadNumber : Bool} {col_BadNumber : Option Bool} {dd_BadNumber od_BadNumber an_BadNumber x1_BadNumber cod_BadNumber : Option Addr} {k0_BadNumber k1_BadNumber k2_BadNumber k3_BadNumber k5_BadNumber : Option Value} {oc_BadNumber kV_BadNumber dc_BadNumber pm_BadNumber ct_BadNumber x0_BadNumber coc_BadNumber v0_BadNumber v1_BadNumber : Value} {sl_BadNumber x2_BadNumber csl_BadNumber : Array (Option Value)} {tf_BadNumber : Tok} {vr_BadNumber : List Value} {C_NoColour N_NoColour A_NoColour cc_NoColour ca_NoColour : Addr} {nm_NoColour q_NoColour fi_NoColour : Str} {bs_NoColour : List Value} {sn_NoColour : List Str} {sub_NoColour : List Value} {ab_NoColour : Bool} {col_NoColour : Option Bool} {dd_NoColour od_NoColour an_NoColour x1_NoColour cod_NoColour : Option Addr} {k0_NoColour k1_NoColour k2_NoColour k3_NoColour k5_NoColour : Option Value} {oc_NoColour kV_NoColour dc_NoColour pm_NoColour ct_NoColour x0_NoColour coc_NoColour v0_NoColour v1_NoColour : Value} {sl_NoColour x2_NoColour csl_NoColour : Array (Option Value)} {tf_NoColour : Tok} {vr_NoColour : List Value} {C_NoStanding N_NoStanding A_NoStanding cc_NoStanding ca_NoStanding : Addr} {nm_NoStanding q_NoStanding fi_NoStanding : Str} {bs_NoStanding : List Value} {sn_NoStanding : List Str} {sub_NoStanding : List Value} {ab_NoStanding : Bool} {col_NoStanding : Option Bool} {dd_NoStanding od_NoStanding an_NoStanding x1_NoStanding cod_NoStanding : Option Addr} {k0_NoStanding k1_NoStanding k2_NoStanding k3_NoStanding k5_NoStanding : Option Value} {oc_NoStanding kV_NoStanding dc_NoStanding pm_NoStanding ct_NoStanding x0_NoStanding coc_NoStanding v0_NoStanding v1_NoStanding : Value} {sl_NoStanding x2_NoStanding csl_NoStanding : Array (Option Value)} {tf_NoStanding : Tok} {vr_NoStanding : List Value} {C_NoVisit N_NoVisit A_NoVisit cc_NoVisit ca_NoVisit : Addr} {nm_NoVisit q_NoVisit fi_NoVisit : Str} {bs_NoVisit : List Value} {sn_NoVisit : List Str} {sub_NoVisit : List Value} {ab_NoVisit : Bool} {col_NoVisit : Option Bool} {dd_NoVisit od_NoVisit an_NoVisit x1_NoVisit cod_NoVisit : Option Addr} {k0_NoVisit k1_NoVisit k2_NoVisit k3_NoVisit k5_NoVisit : Option Value} {oc_NoVisit kV_NoVisit dc_NoVisit pm_NoVisit ct_NoVisit x0_NoVisit coc_NoVisit v0_NoVisit v1_NoVisit : Value} {sl_NoVisit x2_NoVisit csl_NoVisit : Array (Option Value)} {tf_NoVisit : Tok} {vr_NoVisit : List Value} {C_NoOrder N_NoOrder A_NoOrder cc_NoOrder ca_NoOrder : Addr} {nm_NoOrder q_NoOrder fi_NoOrder : Str} {bs_NoOrder : List Value} {sn_NoOrder : List Str} {sub_NoOrder : List Value} {ab_NoOrder : Bool} {col_NoOrder : Option Bool} {dd_NoOrder od_NoOrder an_NoOrder x1_NoOrder cod_NoOrder : Option Addr} {k0_NoOrder k1_NoOrder k2_NoOrder k3_NoOrder k5_NoOrder : Option Value} {oc_NoOrder kV_NoOrder dc_NoOrder pm_NoOrder ct_NoOrder x0_NoOrder coc_NoOrder v0_NoOrder v1_NoOrder : Value} {sl_NoOrder x2_NoOrder csl_NoOrder : Array (Option Value)} {tf_NoOrder : Tok} {vr_NoOrder : List Value} {C_NoWord N_NoWord A_NoWord cc_NoWord ca_NoWord : Addr} {nm_NoWord q_NoWord fi_NoWord : Str} {bs_NoWord : List Value} {sn_NoWord : List Str} {sub_NoWord : List Value} {ab_NoWord : Bool} {col_NoWord : Option Bool} {dd_NoWord od_NoWord an_NoWord x1_NoWord cod_NoWord : Option Addr} {k0_NoWord k1_NoWord k2_NoWord k3_NoWord k5_NoWord : Option Value} {oc_NoWord kV_NoWord dc_NoWord pm_NoWord ct_NoWord x0_NoWord coc_NoWord v0_NoWord v1_NoWord : Value} {sl_NoWord x2_NoWord csl_NoWord : Array (Option Value)} {tf_NoWord : Tok} {vr_NoWord : List Value} {C_NoFit N_NoFit A_NoFit cc_NoFit ca_NoFit : Addr} {nm_NoFit q_NoFit fi_NoFit : Str} {bs_NoFit : List Value} {sn_NoFit : List Str} {sub_NoFit : List Value} {ab_NoFit : Bool} {col_NoFit : Option Bool} {dd_NoFit od_NoFit an_NoFit x1_NoFit cod_NoFit : Option Addr} {k0_NoFit k1_NoFit k2_NoFit k3_NoFit k5_NoFit : Option Value} {oc_NoFit kV_NoFit dc_NoFit pm_NoFit ct_NoFit x0_NoFit coc_NoFit v0_NoFit v1_NoFit : Value} {sl_NoFit x2_NoFit csl_NoFit : Array (Option Value)} {tf_NoFit : Tok} {vr_NoFit : List Value} {C_TooMany N_TooMany A_TooMany cc_TooMany ca_TooMany : Addr} {nm_TooMany q_TooMany fi_TooMany : Str} {bs_TooMany : List Value} {sn_TooMany : List Str} {sub_TooMany : List Value} {ab_TooMany : Bool} {col_TooMany : Option Bool} {dd_TooMany od_TooMany an_TooMany x1_TooMany cod_TooMany : Option Addr} {k0_TooMany k1_TooMany k2_TooMany k3_TooMany k5_TooMany : Option Value} {oc_TooMany kV_TooMany dc_TooMany pm_TooMany ct_TooMany x0_TooMany coc_TooMany v0_TooMany v1_TooMany : Value} {sl_TooMany x2_TooMany csl_TooMany : Array (Option Value)} {tf_TooMany : Tok} {vr_TooMany : List Value} {A__law_pot : Addr} {od__law_pot an__law_pot : Option Addr} {sl__law_pot : Array (Option Value)} {oc__law_pot kV__law_pot dc__law_pot pm__law_pot cd__law_pot ct__law_pot : Value} {A__law_draw : Addr} {od__law_draw an__law_draw : Option Addr} {sl__law_draw : Array (Option Value)} {oc__law_draw kV__law_draw dc__law_draw pm__law_draw cd__law_draw ct__law_draw : Value} {A__law_pick : Addr} {od__law_pick an__law_pick : Option Addr} {sl__law_pick : Array (Option Value)} {oc__law_pick kV__law_pick dc__law_pick pm__law_pick cd__law_pick ct__law_pick : Value} {A__law_thing : Addr} {od__law_thing an__law_thing : Option Addr} {sl__law_thing : Array (Option Value)} {oc__law_thing kV__law_thing dc__law_thing pm__law_thing cd__law_thing ct__law_thing : Value} {A__law_kinds : Addr} {od__law_kinds an__law_kinds : Option Addr} {sl__law_kinds : Array (Option Value)} {oc__law_kinds kV__law_kinds dc__law_kinds pm__law_kinds cd__law_kinds ct__law_kinds : Value} {A__law_rows : Addr} {od__law_rows an__law_rows : Option Addr} {sl__law_rows : Array (Option Value)} {oc__law_rows kV__law_rows dc__law_rows pm__law_rows cd__law_rows ct__law_rows : Value} {A__law_told_of : Addr} {od__law_told_of an__law_told_of : Option Addr} {sl__law_told_of : Array (Option Value)} {oc__law_told_of kV__law_told_of dc__law_told_of pm__law_told_of cd__law_told_of ct__law_told_of : Value} {A_law : Addr} {od_law an_law : Option Addr} {sl_law : Array (Option Value)} {oc_law kV_law dc_law pm_law cd_law ct_law : Value} (X : K.In h) (G : h.Ns mainGlobals mg) (hfa : mg "law" = some (.ref fa))
    (n_LampError : PySem.W.nsIn K mainGlobals "LampError" = some (some (.ref C_LampError)))
    (x_LampError : K.lookup C_LampError = some (excClassObj nm_LampError q_LampError C_LampError N_LampError bs_LampError veRest true sn_LampError sub_LampError ab_LampError col_LampError dd_LampError k0_LampError k1_LampError k2_LampError k3_LampError k5_LampError "ValueError.__new__"))
    (fi_LampError : PySem.W.findIn K (.ref C_LampError) "__init__" = some (some (.builtin "ValueError.__init__")))
    (sup_top : (P.main.scope.names.lookup ("super" : Str)).isSome = false)
    (sup_mg : PySem.W.nsIn K mainGlobals "super" = some none)
    (sup_opq : PySem.W.nsIn K cStatics "thirdparty.any" = some none)
    (n_BadProgram : PySem.W.nsIn K mainGlobals "BadProgram" = some (some (.ref C_BadProgram)))
    (x_BadProgram : K.lookup C_BadProgram = some (excClassObj nm_BadProgram q_BadProgram C_BadProgram N_BadProgram bs_BadProgram (lamTail C_LampError) true sn_BadProgram sub_BadProgram ab_BadProgram col_BadProgram dd_BadProgram k0_BadProgram k1_BadProgram k2_BadProgram k3_BadProgram k5_BadProgram "ValueError.__new__"))
    (sa_BadProgram : PySem.W.findIn K (.ref C_BadProgram) "__setattr__" = some (some (.builtin "object.__setattr__")))
    (eb_BadProgram : PySem.W.subIn K (.ref C_BadProgram) (.type "BaseException") = some true)
    (ty_BadProgram : PySem.W.typeIn K (.ref C_BadProgram) = some (.type "type"))
    (kc_BadProgram : PySem.W.keepIn K (.ref C_BadProgram) = true)
    (ni_BadProgram : PySem.W.findIn K (.ref C_BadProgram) "__init__" = some (some (.ref A_BadProgram)))
    (ti_BadProgram : PySem.W.typeIn K (.ref A_BadProgram) = some (.type "function"))
    (li_BadProgram : K.lookup A_BadProgram = some ⟨oc_BadProgram, od_BadProgram, .func (PySem.W.ksFn "__init__" "BadProgram.__init__" (defArgs (inClass (topS 2) 0)) (defBody (inClass (topS 2) 0)) (defScope (inClass (topS 2) 0)) .none kV_BadProgram dc_BadProgram pm_BadProgram an_BadProgram (.ref ca_BadProgram) ct_BadProgram cc_BadProgram), sl_BadProgram⟩)
    (ci_BadProgram : PySem.W.codeIn K (.ref ca_BadProgram) "BadProgram.__init__" = true)
    (cl_BadProgram : K.lookup cc_BadProgram = some ⟨x0_BadProgram, x1_BadProgram, .cell (some (.ref C_BadProgram)), x2_BadProgram⟩)
    (co_BadProgram : K.lookup ca_BadProgram = some ⟨coc_BadProgram, cod_BadProgram, .fields ⟨v0_BadProgram :: v1_BadProgram :: .str fi_BadProgram tf_BadProgram :: vr_BadProgram⟩, csl_BadProgram⟩)
    (fi_BadProgram : ((P.main.file : Str) == fi_BadProgram) = true)
    (sc_BadProgram : PySem.W.mroIn K C_BadProgram (.ref C_BadProgram) = some true)
    (sv_BadProgram : PySem.W.subIn K (.ref C_BadProgram) (.type "ValueError") = some true)
    (xn_BadProgram_what : PySem.W.findIn K (.ref C_BadProgram) "what" = some none)
    (n_BadText : PySem.W.nsIn K mainGlobals "BadText" = some (some (.ref C_BadText)))
    (x_BadText : K.lookup C_BadText = some (excClassObj nm_BadText q_BadText C_BadText N_BadText bs_BadText (lamTail C_LampError) true sn_BadText sub_BadText ab_BadText col_BadText dd_BadText k0_BadText k1_BadText k2_BadText k3_BadText k5_BadText "ValueError.__new__"))
    (sa_BadText : PySem.W.findIn K (.ref C_BadText) "__setattr__" = some (some (.builtin "object.__setattr__")))
    (eb_BadText : PySem.W.subIn K (.ref C_BadText) (.type "BaseException") = some true)
    (ty_BadText : PySem.W.typeIn K (.ref C_BadText) = some (.type "type"))
    (kc_BadText : PySem.W.keepIn K (.ref C_BadText) = true)
    (ni_BadText : PySem.W.findIn K (.ref C_BadText) "__init__" = some (some (.ref A_BadText)))
    (ti_BadText : PySem.W.typeIn K (.ref A_BadText) = some (.type "function"))
    (li_BadText : K.lookup A_BadText = some ⟨oc_BadText, od_BadText, .func (PySem.W.ksFn "__init__" "BadText.__init__" (defArgs (inClass (topS 3) 0)) (defBody (inClass (topS 3) 0)) (defScope (inClass (topS 3) 0)) .none kV_BadText dc_BadText pm_BadText an_BadText (.ref ca_BadText) ct_BadText cc_BadText), sl_BadText⟩)
    (ci_BadText : PySem.W.codeIn K (.ref ca_BadText) "BadText.__init__" = true)
    (cl_BadText : K.lookup cc_BadText = some ⟨x0_BadText, x1_BadText, .cell (some (.ref C_BadText)), x2_BadText⟩)
    (co_BadText : K.lookup ca_BadText = some ⟨coc_BadText, cod_BadText, .fields ⟨v0_BadText :: v1_BadText :: .str fi_BadText tf_BadText :: vr_BadText⟩, csl_BadText⟩)
    (fi_BadText : ((P.main.file : Str) == fi_BadText) = true)
    (sc_BadText : PySem.W.mroIn K C_BadText (.ref C_BadText) = some true)
    (sv_BadText : PySem.W.subIn K (.ref C_BadText) (.type "ValueError") = some true)
    (xn_BadText_line : PySem.W.findIn K (.ref C_BadText) "line" = some none)
    (xn_BadText_what : PySem.W.findIn K (.ref C_BadText) "what" = some none)
    (n_BadNumber : PySem.W.nsIn K mainGlobals "BadNumber" = some (some (.ref C_BadNumber)))
    (x_BadNumber : K.lookup C_BadNumber = some (excClassObj nm_BadNumber q_BadNumber C_BadNumber N_BadNumber bs_BadNumber (lamTail C_LampError) true sn_BadNumber sub_BadNumber ab_BadNumber col_BadNumber dd_BadNumber k0_BadNumber k1_BadNumber k2_BadNumber k3_BadNumber k5_BadNumber "ValueError.__new__"))
    (sa_BadNumber : PySem.W.findIn K (.ref C_BadNumber) "__setattr__" = some (some (.builtin "object.__setattr__")))
    (eb_BadNumber : PySem.W.subIn K (.ref C_BadNumber) (.type "BaseException") = some true)
    (ty_BadNumber : PySem.W.typeIn K (.ref C_BadNumber) = some (.type "type"))
    (kc_BadNumber : PySem.W.keepIn K (.ref C_BadNumber) = true)
    (ni_BadNumber : PySem.W.findIn K (.ref C_BadNumber) "__init__" = some (some (.ref A_BadNumber)))
    (ti_BadNumber : PySem.W.typeIn K (.ref A_BadNumber) = some (.type "function"))
    (li_BadNumber : K.lookup A_BadNumber = some ⟨oc_BadNumber, od_BadNumber, .func (PySem.W.ksFn "__init__" "BadNumber.__init__" (defArgs (inClass (topS 4) 0)) (defBody (inClass (topS 4) 0)) (defScope (inClass (topS 4) 0)) .none kV_BadNumber dc_BadNumber pm_BadNumber an_BadNumber (.ref ca_BadNumber) ct_BadNumber cc_BadNumber), sl_BadNumber⟩)
    (ci_BadNumber : PySem.W.codeIn K (.ref ca_BadNumber) "BadNumber.__init__" = true)
    (cl_BadNumber : K.lookup cc_BadNumber = some ⟨x0_BadNumber, x1_BadNumber, .cell (some (.ref C_BadNumber)), x2_BadNumber⟩)
    (co_BadNumber : K.lookup ca_BadNumber = some ⟨coc_BadNumber, cod_BadNumber, .fields ⟨v0_BadNumber :: v1_BadNumber :: .str fi_BadNumber tf_BadNumber :: vr_BadNumber⟩, csl_BadNumber⟩)
    (fi_BadNumber : ((P.main.file : Str) == fi_BadNumber) = true)
    (sc_BadNumber : PySem.W.mroIn K C_BadNumber (.ref C_BadNumber) = some true)
    (sv_BadNumber : PySem.W.subIn K (.ref C_BadNumber) (.type "ValueError") = some true)
    (xn_BadNumber_value : PySem.W.findIn K (.ref C_BadNumber) "value" = some none)
    (n_NoColour : PySem.W.nsIn K mainGlobals "NoColour" = some (some (.ref C_NoColour)))
    (x_NoColour : K.lookup C_NoColour = some (excClassObj nm_NoColour q_NoColour C_NoColour N_NoColour bs_NoColour (lamTail C_LampError) true sn_NoColour sub_NoColour ab_NoColour col_NoColour dd_NoColour k0_NoColour k1_NoColour k2_NoColour k3_NoColour k5_NoColour "ValueError.__new__"))
    (sa_NoColour : PySem.W.findIn K (.ref C_NoColour) "__setattr__" = some (some (.builtin "object.__setattr__")))
    (eb_NoColour : PySem.W.subIn K (.ref C_NoColour) (.type "BaseException") = some true)
    (ty_NoColour : PySem.W.typeIn K (.ref C_NoColour) = some (.type "type"))
    (kc_NoColour : PySem.W.keepIn K (.ref C_NoColour) = true)
    (ni_NoColour : PySem.W.findIn K (.ref C_NoColour) "__init__" = some (some (.ref A_NoColour)))
    (ti_NoColour : PySem.W.typeIn K (.ref A_NoColour) = some (.type "function"))
    (li_NoColour : K.lookup A_NoColour = some ⟨oc_NoColour, od_NoColour, .func (PySem.W.ksFn "__init__" "NoColour.__init__" (defArgs (inClass (topS 5) 0)) (defBody (inClass (topS 5) 0)) (defScope (inClass (topS 5) 0)) .none kV_NoColour dc_NoColour pm_NoColour an_NoColour (.ref ca_NoColour) ct_NoColour cc_NoColour), sl_NoColour⟩)
    (ci_NoColour : PySem.W.codeIn K (.ref ca_NoColour) "NoColour.__init__" = true)
    (cl_NoColour : K.lookup cc_NoColour = some ⟨x0_NoColour, x1_NoColour, .cell (some (.ref C_NoColour)), x2_NoColour⟩)
    (co_NoColour : K.lookup ca_NoColour = some ⟨coc_NoColour, cod_NoColour, .fields ⟨v0_NoColour :: v1_NoColour :: .str fi_NoColour tf_NoColour :: vr_NoColour⟩, csl_NoColour⟩)
    (fi_NoColour : ((P.main.file : Str) == fi_NoColour) = true)
    (sc_NoColour : PySem.W.mroIn K C_NoColour (.ref C_NoColour) = some true)
    (sv_NoColour : PySem.W.subIn K (.ref C_NoColour) (.type "ValueError") = some true)
    (n_NoStanding : PySem.W.nsIn K mainGlobals "NoStanding" = some (some (.ref C_NoStanding)))
    (x_NoStanding : K.lookup C_NoStanding = some (excClassObj nm_NoStanding q_NoStanding C_NoStanding N_NoStanding bs_NoStanding (lamTail C_LampError) true sn_NoStanding sub_NoStanding ab_NoStanding col_NoStanding dd_NoStanding k0_NoStanding k1_NoStanding k2_NoStanding k3_NoStanding k5_NoStanding "ValueError.__new__"))
    (sa_NoStanding : PySem.W.findIn K (.ref C_NoStanding) "__setattr__" = some (some (.builtin "object.__setattr__")))
    (eb_NoStanding : PySem.W.subIn K (.ref C_NoStanding) (.type "BaseException") = some true)
    (ty_NoStanding : PySem.W.typeIn K (.ref C_NoStanding) = some (.type "type"))
    (kc_NoStanding : PySem.W.keepIn K (.ref C_NoStanding) = true)
    (ni_NoStanding : PySem.W.findIn K (.ref C_NoStanding) "__init__" = some (some (.ref A_NoStanding)))
    (ti_NoStanding : PySem.W.typeIn K (.ref A_NoStanding) = some (.type "function"))
    (li_NoStanding : K.lookup A_NoStanding = some ⟨oc_NoStanding, od_NoStanding, .func (PySem.W.ksFn "__init__" "NoStanding.__init__" (defArgs (inClass (topS 6) 0)) (defBody (inClass (topS 6) 0)) (defScope (inClass (topS 6) 0)) .none kV_NoStanding dc_NoStanding pm_NoStanding an_NoStanding (.ref ca_NoStanding) ct_NoStanding cc_NoStanding), sl_NoStanding⟩)
    (ci_NoStanding : PySem.W.codeIn K (.ref ca_NoStanding) "NoStanding.__init__" = true)
    (cl_NoStanding : K.lookup cc_NoStanding = some ⟨x0_NoStanding, x1_NoStanding, .cell (some (.ref C_NoStanding)), x2_NoStanding⟩)
    (co_NoStanding : K.lookup ca_NoStanding = some ⟨coc_NoStanding, cod_NoStanding, .fields ⟨v0_NoStanding :: v1_NoStanding :: .str fi_NoStanding tf_NoStanding :: vr_NoStanding⟩, csl_NoStanding⟩)
    (fi_NoStanding : ((P.main.file : Str) == fi_NoStanding) = true)
    (sc_NoStanding : PySem.W.mroIn K C_NoStanding (.ref C_NoStanding) = some true)
    (sv_NoStanding : PySem.W.subIn K (.ref C_NoStanding) (.type "ValueError") = some true)
    (n_NoVisit : PySem.W.nsIn K mainGlobals "NoVisit" = some (some (.ref C_NoVisit)))
    (x_NoVisit : K.lookup C_NoVisit = some (excClassObj nm_NoVisit q_NoVisit C_NoVisit N_NoVisit bs_NoVisit (lamTail C_LampError) true sn_NoVisit sub_NoVisit ab_NoVisit col_NoVisit dd_NoVisit k0_NoVisit k1_NoVisit k2_NoVisit k3_NoVisit k5_NoVisit "ValueError.__new__"))
    (sa_NoVisit : PySem.W.findIn K (.ref C_NoVisit) "__setattr__" = some (some (.builtin "object.__setattr__")))
    (eb_NoVisit : PySem.W.subIn K (.ref C_NoVisit) (.type "BaseException") = some true)
    (ty_NoVisit : PySem.W.typeIn K (.ref C_NoVisit) = some (.type "type"))
    (kc_NoVisit : PySem.W.keepIn K (.ref C_NoVisit) = true)
    (ni_NoVisit : PySem.W.findIn K (.ref C_NoVisit) "__init__" = some (some (.ref A_NoVisit)))
    (ti_NoVisit : PySem.W.typeIn K (.ref A_NoVisit) = some (.type "function"))
    (li_NoVisit : K.lookup A_NoVisit = some ⟨oc_NoVisit, od_NoVisit, .func (PySem.W.ksFn "__init__" "NoVisit.__init__" (defArgs (inClass (topS 7) 0)) (defBody (inClass (topS 7) 0)) (defScope (inClass (topS 7) 0)) .none kV_NoVisit dc_NoVisit pm_NoVisit an_NoVisit (.ref ca_NoVisit) ct_NoVisit cc_NoVisit), sl_NoVisit⟩)
    (ci_NoVisit : PySem.W.codeIn K (.ref ca_NoVisit) "NoVisit.__init__" = true)
    (cl_NoVisit : K.lookup cc_NoVisit = some ⟨x0_NoVisit, x1_NoVisit, .cell (some (.ref C_NoVisit)), x2_NoVisit⟩)
    (co_NoVisit : K.lookup ca_NoVisit = some ⟨coc_NoVisit, cod_NoVisit, .fields ⟨v0_NoVisit :: v1_NoVisit :: .str fi_NoVisit tf_NoVisit :: vr_NoVisit⟩, csl_NoVisit⟩)
    (fi_NoVisit : ((P.main.file : Str) == fi_NoVisit) = true)
    (sc_NoVisit : PySem.W.mroIn K C_NoVisit (.ref C_NoVisit) = some true)
    (sv_NoVisit : PySem.W.subIn K (.ref C_NoVisit) (.type "ValueError") = some true)
    (n_NoOrder : PySem.W.nsIn K mainGlobals "NoOrder" = some (some (.ref C_NoOrder)))
    (x_NoOrder : K.lookup C_NoOrder = some (excClassObj nm_NoOrder q_NoOrder C_NoOrder N_NoOrder bs_NoOrder (lamTail C_LampError) true sn_NoOrder sub_NoOrder ab_NoOrder col_NoOrder dd_NoOrder k0_NoOrder k1_NoOrder k2_NoOrder k3_NoOrder k5_NoOrder "ValueError.__new__"))
    (sa_NoOrder : PySem.W.findIn K (.ref C_NoOrder) "__setattr__" = some (some (.builtin "object.__setattr__")))
    (eb_NoOrder : PySem.W.subIn K (.ref C_NoOrder) (.type "BaseException") = some true)
    (ty_NoOrder : PySem.W.typeIn K (.ref C_NoOrder) = some (.type "type"))
    (kc_NoOrder : PySem.W.keepIn K (.ref C_NoOrder) = true)
    (ni_NoOrder : PySem.W.findIn K (.ref C_NoOrder) "__init__" = some (some (.ref A_NoOrder)))
    (ti_NoOrder : PySem.W.typeIn K (.ref A_NoOrder) = some (.type "function"))
    (li_NoOrder : K.lookup A_NoOrder = some ⟨oc_NoOrder, od_NoOrder, .func (PySem.W.ksFn "__init__" "NoOrder.__init__" (defArgs (inClass (topS 8) 0)) (defBody (inClass (topS 8) 0)) (defScope (inClass (topS 8) 0)) .none kV_NoOrder dc_NoOrder pm_NoOrder an_NoOrder (.ref ca_NoOrder) ct_NoOrder cc_NoOrder), sl_NoOrder⟩)
    (ci_NoOrder : PySem.W.codeIn K (.ref ca_NoOrder) "NoOrder.__init__" = true)
    (cl_NoOrder : K.lookup cc_NoOrder = some ⟨x0_NoOrder, x1_NoOrder, .cell (some (.ref C_NoOrder)), x2_NoOrder⟩)
    (co_NoOrder : K.lookup ca_NoOrder = some ⟨coc_NoOrder, cod_NoOrder, .fields ⟨v0_NoOrder :: v1_NoOrder :: .str fi_NoOrder tf_NoOrder :: vr_NoOrder⟩, csl_NoOrder⟩)
    (fi_NoOrder : ((P.main.file : Str) == fi_NoOrder) = true)
    (sc_NoOrder : PySem.W.mroIn K C_NoOrder (.ref C_NoOrder) = some true)
    (sv_NoOrder : PySem.W.subIn K (.ref C_NoOrder) (.type "ValueError") = some true)
    (xn_NoOrder_at : PySem.W.findIn K (.ref C_NoOrder) "at" = some none)
    (n_NoWord : PySem.W.nsIn K mainGlobals "NoWord" = some (some (.ref C_NoWord)))
    (x_NoWord : K.lookup C_NoWord = some (excClassObj nm_NoWord q_NoWord C_NoWord N_NoWord bs_NoWord (lamTail C_LampError) true sn_NoWord sub_NoWord ab_NoWord col_NoWord dd_NoWord k0_NoWord k1_NoWord k2_NoWord k3_NoWord k5_NoWord "ValueError.__new__"))
    (sa_NoWord : PySem.W.findIn K (.ref C_NoWord) "__setattr__" = some (some (.builtin "object.__setattr__")))
    (eb_NoWord : PySem.W.subIn K (.ref C_NoWord) (.type "BaseException") = some true)
    (ty_NoWord : PySem.W.typeIn K (.ref C_NoWord) = some (.type "type"))
    (kc_NoWord : PySem.W.keepIn K (.ref C_NoWord) = true)
    (ni_NoWord : PySem.W.findIn K (.ref C_NoWord) "__init__" = some (some (.ref A_NoWord)))
    (ti_NoWord : PySem.W.typeIn K (.ref A_NoWord) = some (.type "function"))
    (li_NoWord : K.lookup A_NoWord = some ⟨oc_NoWord, od_NoWord, .func (PySem.W.ksFn "__init__" "NoWord.__init__" (defArgs (inClass (topS 9) 0)) (defBody (inClass (topS 9) 0)) (defScope (inClass (topS 9) 0)) .none kV_NoWord dc_NoWord pm_NoWord an_NoWord (.ref ca_NoWord) ct_NoWord cc_NoWord), sl_NoWord⟩)
    (ci_NoWord : PySem.W.codeIn K (.ref ca_NoWord) "NoWord.__init__" = true)
    (cl_NoWord : K.lookup cc_NoWord = some ⟨x0_NoWord, x1_NoWord, .cell (some (.ref C_NoWord)), x2_NoWord⟩)
    (co_NoWord : K.lookup ca_NoWord = some ⟨coc_NoWord, cod_NoWord, .fields ⟨v0_NoWord :: v1_NoWord :: .str fi_NoWord tf_NoWord :: vr_NoWord⟩, csl_NoWord⟩)
    (fi_NoWord : ((P.main.file : Str) == fi_NoWord) = true)
    (sc_NoWord : PySem.W.mroIn K C_NoWord (.ref C_NoWord) = some true)
    (sv_NoWord : PySem.W.subIn K (.ref C_NoWord) (.type "ValueError") = some true)
    (n_NoFit : PySem.W.nsIn K mainGlobals "NoFit" = some (some (.ref C_NoFit)))
    (x_NoFit : K.lookup C_NoFit = some (excClassObj nm_NoFit q_NoFit C_NoFit N_NoFit bs_NoFit (lamTail C_LampError) true sn_NoFit sub_NoFit ab_NoFit col_NoFit dd_NoFit k0_NoFit k1_NoFit k2_NoFit k3_NoFit k5_NoFit "ValueError.__new__"))
    (sa_NoFit : PySem.W.findIn K (.ref C_NoFit) "__setattr__" = some (some (.builtin "object.__setattr__")))
    (eb_NoFit : PySem.W.subIn K (.ref C_NoFit) (.type "BaseException") = some true)
    (ty_NoFit : PySem.W.typeIn K (.ref C_NoFit) = some (.type "type"))
    (kc_NoFit : PySem.W.keepIn K (.ref C_NoFit) = true)
    (ni_NoFit : PySem.W.findIn K (.ref C_NoFit) "__init__" = some (some (.ref A_NoFit)))
    (ti_NoFit : PySem.W.typeIn K (.ref A_NoFit) = some (.type "function"))
    (li_NoFit : K.lookup A_NoFit = some ⟨oc_NoFit, od_NoFit, .func (PySem.W.ksFn "__init__" "NoFit.__init__" (defArgs (inClass (topS 10) 0)) (defBody (inClass (topS 10) 0)) (defScope (inClass (topS 10) 0)) .none kV_NoFit dc_NoFit pm_NoFit an_NoFit (.ref ca_NoFit) ct_NoFit cc_NoFit), sl_NoFit⟩)
    (ci_NoFit : PySem.W.codeIn K (.ref ca_NoFit) "NoFit.__init__" = true)
    (cl_NoFit : K.lookup cc_NoFit = some ⟨x0_NoFit, x1_NoFit, .cell (some (.ref C_NoFit)), x2_NoFit⟩)
    (co_NoFit : K.lookup ca_NoFit = some ⟨coc_NoFit, cod_NoFit, .fields ⟨v0_NoFit :: v1_NoFit :: .str fi_NoFit tf_NoFit :: vr_NoFit⟩, csl_NoFit⟩)
    (fi_NoFit : ((P.main.file : Str) == fi_NoFit) = true)
    (sc_NoFit : PySem.W.mroIn K C_NoFit (.ref C_NoFit) = some true)
    (sv_NoFit : PySem.W.subIn K (.ref C_NoFit) (.type "ValueError") = some true)
    (n_TooMany : PySem.W.nsIn K mainGlobals "TooMany" = some (some (.ref C_TooMany)))
    (x_TooMany : K.lookup C_TooMany = some (excClassObj nm_TooMany q_TooMany C_TooMany N_TooMany bs_TooMany (lamTail C_LampError) true sn_TooMany sub_TooMany ab_TooMany col_TooMany dd_TooMany k0_TooMany k1_TooMany k2_TooMany k3_TooMany k5_TooMany "ValueError.__new__"))
    (sa_TooMany : PySem.W.findIn K (.ref C_TooMany) "__setattr__" = some (some (.builtin "object.__setattr__")))
    (eb_TooMany : PySem.W.subIn K (.ref C_TooMany) (.type "BaseException") = some true)
    (ty_TooMany : PySem.W.typeIn K (.ref C_TooMany) = some (.type "type"))
    (kc_TooMany : PySem.W.keepIn K (.ref C_TooMany) = true)
    (ni_TooMany : PySem.W.findIn K (.ref C_TooMany) "__init__" = some (some (.ref A_TooMany)))
    (ti_TooMany : PySem.W.typeIn K (.ref A_TooMany) = some (.type "function"))
    (li_TooMany : K.lookup A_TooMany = some ⟨oc_TooMany, od_TooMany, .func (PySem.W.ksFn "__init__" "TooMany.__init__" (defArgs (inClass (topS 11) 0)) (defBody (inClass (topS 11) 0)) (defScope (inClass (topS 11) 0)) .none kV_TooMany dc_TooMany pm_TooMany an_TooMany (.ref ca_TooMany) ct_TooMany cc_TooMany), sl_TooMany⟩)
    (ci_TooMany : PySem.W.codeIn K (.ref ca_TooMany) "TooMany.__init__" = true)
    (cl_TooMany : K.lookup cc_TooMany = some ⟨x0_TooMany, x1_TooMany, .cell (some (.ref C_TooMany)), x2_TooMany⟩)
    (co_TooMany : K.lookup ca_TooMany = some ⟨coc_TooMany, cod_TooMany, .fields ⟨v0_TooMany :: v1_TooMany :: .str fi_TooMany tf_TooMany :: vr_TooMany⟩, csl_TooMany⟩)
    (fi_TooMany : ((P.main.file : Str) == fi_TooMany) = true)
    (sc_TooMany : PySem.W.mroIn K C_TooMany (.ref C_TooMany) = some true)
    (sv_TooMany : PySem.W.subIn K (.ref C_TooMany) (.type "ValueError") = some true)
    (xn_TooMany_most : PySem.W.findIn K (.ref C_TooMany) "most" = some none)
    (xi_LampError : PySem.W.excIn K C_LampError [.type "ValueError", .type "Exception", .type "BaseException", .type "object"] "ValueError.__new__" = true)
    (kp_LampError : PySem.W.keepIn K (.ref C_LampError) = true)
    (eb_LampError : PySem.W.subIn K (.ref C_LampError) (.type "BaseException") = some true)
    (ty_LampError : PySem.W.typeIn K (.ref C_LampError) = some (.type "type"))
    (sv_LampError : PySem.W.subIn K (.ref C_LampError) (.type "ValueError") = some true)
    (isp : PySem.W.specialIn K (.builtin "object.__class__") "__get__" = some (some (.builtin "getset_descriptor.__get__")))
    (itk : PySem.W.takesIn K (.builtin "object.__class__") = some true)
    (ga_LampError : PySem.W.findIn K (.ref C_LampError) "__getattribute__" = some (some (.builtin "BaseException.__getattribute__")))
    (gg_LampError : PySem.W.findIn K (.ref C_LampError) "__getattr__" = some none)
    (hd_LampError : PySem.W.hasDictIn K C_LampError = true)
    (icl_LampError : PySem.W.findIn K (.ref C_LampError) "__class__" = some (some (.builtin "object.__class__")))
    (mro_LampError : PySem.W.mroIn K C_LampError (.type "object") = some true)
    (ga_BadProgram : PySem.W.findIn K (.ref C_BadProgram) "__getattribute__" = some (some (.builtin "BaseException.__getattribute__")))
    (gg_BadProgram : PySem.W.findIn K (.ref C_BadProgram) "__getattr__" = some none)
    (hd_BadProgram : PySem.W.hasDictIn K C_BadProgram = true)
    (icl_BadProgram : PySem.W.findIn K (.ref C_BadProgram) "__class__" = some (some (.builtin "object.__class__")))
    (mro_BadProgram : PySem.W.mroIn K C_BadProgram (.type "object") = some true)
    (ga_BadText : PySem.W.findIn K (.ref C_BadText) "__getattribute__" = some (some (.builtin "BaseException.__getattribute__")))
    (gg_BadText : PySem.W.findIn K (.ref C_BadText) "__getattr__" = some none)
    (hd_BadText : PySem.W.hasDictIn K C_BadText = true)
    (icl_BadText : PySem.W.findIn K (.ref C_BadText) "__class__" = some (some (.builtin "object.__class__")))
    (mro_BadText : PySem.W.mroIn K C_BadText (.type "object") = some true)
    (ga_BadNumber : PySem.W.findIn K (.ref C_BadNumber) "__getattribute__" = some (some (.builtin "BaseException.__getattribute__")))
    (gg_BadNumber : PySem.W.findIn K (.ref C_BadNumber) "__getattr__" = some none)
    (hd_BadNumber : PySem.W.hasDictIn K C_BadNumber = true)
    (icl_BadNumber : PySem.W.findIn K (.ref C_BadNumber) "__class__" = some (some (.builtin "object.__class__")))
    (mro_BadNumber : PySem.W.mroIn K C_BadNumber (.type "object") = some true)
    (ga_NoColour : PySem.W.findIn K (.ref C_NoColour) "__getattribute__" = some (some (.builtin "BaseException.__getattribute__")))
    (gg_NoColour : PySem.W.findIn K (.ref C_NoColour) "__getattr__" = some none)
    (hd_NoColour : PySem.W.hasDictIn K C_NoColour = true)
    (icl_NoColour : PySem.W.findIn K (.ref C_NoColour) "__class__" = some (some (.builtin "object.__class__")))
    (mro_NoColour : PySem.W.mroIn K C_NoColour (.type "object") = some true)
    (ga_NoStanding : PySem.W.findIn K (.ref C_NoStanding) "__getattribute__" = some (some (.builtin "BaseException.__getattribute__")))
    (gg_NoStanding : PySem.W.findIn K (.ref C_NoStanding) "__getattr__" = some none)
    (hd_NoStanding : PySem.W.hasDictIn K C_NoStanding = true)
    (icl_NoStanding : PySem.W.findIn K (.ref C_NoStanding) "__class__" = some (some (.builtin "object.__class__")))
    (mro_NoStanding : PySem.W.mroIn K C_NoStanding (.type "object") = some true)
    (ga_NoVisit : PySem.W.findIn K (.ref C_NoVisit) "__getattribute__" = some (some (.builtin "BaseException.__getattribute__")))
    (gg_NoVisit : PySem.W.findIn K (.ref C_NoVisit) "__getattr__" = some none)
    (hd_NoVisit : PySem.W.hasDictIn K C_NoVisit = true)
    (icl_NoVisit : PySem.W.findIn K (.ref C_NoVisit) "__class__" = some (some (.builtin "object.__class__")))
    (mro_NoVisit : PySem.W.mroIn K C_NoVisit (.type "object") = some true)
    (ga_NoOrder : PySem.W.findIn K (.ref C_NoOrder) "__getattribute__" = some (some (.builtin "BaseException.__getattribute__")))
    (gg_NoOrder : PySem.W.findIn K (.ref C_NoOrder) "__getattr__" = some none)
    (hd_NoOrder : PySem.W.hasDictIn K C_NoOrder = true)
    (icl_NoOrder : PySem.W.findIn K (.ref C_NoOrder) "__class__" = some (some (.builtin "object.__class__")))
    (mro_NoOrder : PySem.W.mroIn K C_NoOrder (.type "object") = some true)
    (ga_NoWord : PySem.W.findIn K (.ref C_NoWord) "__getattribute__" = some (some (.builtin "BaseException.__getattribute__")))
    (gg_NoWord : PySem.W.findIn K (.ref C_NoWord) "__getattr__" = some none)
    (hd_NoWord : PySem.W.hasDictIn K C_NoWord = true)
    (icl_NoWord : PySem.W.findIn K (.ref C_NoWord) "__class__" = some (some (.builtin "object.__class__")))
    (mro_NoWord : PySem.W.mroIn K C_NoWord (.type "object") = some true)
    (ga_NoFit : PySem.W.findIn K (.ref C_NoFit) "__getattribute__" = some (some (.builtin "BaseException.__getattribute__")))
    (gg_NoFit : PySem.W.findIn K (.ref C_NoFit) "__getattr__" = some none)
    (hd_NoFit : PySem.W.hasDictIn K C_NoFit = true)
    (icl_NoFit : PySem.W.findIn K (.ref C_NoFit) "__class__" = some (some (.builtin "object.__class__")))
    (mro_NoFit : PySem.W.mroIn K C_NoFit (.type "object") = some true)
    (ga_TooMany : PySem.W.findIn K (.ref C_TooMany) "__getattribute__" = some (some (.builtin "BaseException.__getattribute__")))
    (gg_TooMany : PySem.W.findIn K (.ref C_TooMany) "__getattr__" = some none)
    (hd_TooMany : PySem.W.hasDictIn K C_TooMany = true)
    (icl_TooMany : PySem.W.findIn K (.ref C_TooMany) "__class__" = some (some (.builtin "object.__class__")))
    (mro_TooMany : PySem.W.mroIn K C_TooMany (.type "object") = some true)
    (isc_BadNumber : PySem.W.isClsIn K C_BadNumber = true)
    (sub_LampError_BadNumber : PySem.W.subIn K (.ref C_LampError) (.ref C_BadNumber) = some false)
    (sub_BadProgram_BadNumber : PySem.W.subIn K (.ref C_BadProgram) (.ref C_BadNumber) = some false)
    (sub_BadText_BadNumber : PySem.W.subIn K (.ref C_BadText) (.ref C_BadNumber) = some false)
    (sub_BadNumber_BadNumber : PySem.W.subIn K (.ref C_BadNumber) (.ref C_BadNumber) = some true)
    (sub_NoColour_BadNumber : PySem.W.subIn K (.ref C_NoColour) (.ref C_BadNumber) = some false)
    (sub_NoStanding_BadNumber : PySem.W.subIn K (.ref C_NoStanding) (.ref C_BadNumber) = some false)
    (sub_NoVisit_BadNumber : PySem.W.subIn K (.ref C_NoVisit) (.ref C_BadNumber) = some false)
    (sub_NoOrder_BadNumber : PySem.W.subIn K (.ref C_NoOrder) (.ref C_BadNumber) = some false)
    (sub_NoWord_BadNumber : PySem.W.subIn K (.ref C_NoWord) (.ref C_BadNumber) = some false)
    (sub_NoFit_BadNumber : PySem.W.subIn K (.ref C_NoFit) (.ref C_BadNumber) = some false)
    (sub_TooMany_BadNumber : PySem.W.subIn K (.ref C_TooMany) (.ref C_BadNumber) = some false)
    (isc_BadProgram : PySem.W.isClsIn K C_BadProgram = true)
    (sub_LampError_BadProgram : PySem.W.subIn K (.ref C_LampError) (.ref C_BadProgram) = some false)
    (sub_BadProgram_BadProgram : PySem.W.subIn K (.ref C_BadProgram) (.ref C_BadProgram) = some true)
    (sub_BadText_BadProgram : PySem.W.subIn K (.ref C_BadText) (.ref C_BadProgram) = some false)
    (sub_BadNumber_BadProgram : PySem.W.subIn K (.ref C_BadNumber) (.ref C_BadProgram) = some false)
    (sub_NoColour_BadProgram : PySem.W.subIn K (.ref C_NoColour) (.ref C_BadProgram) = some false)
    (sub_NoStanding_BadProgram : PySem.W.subIn K (.ref C_NoStanding) (.ref C_BadProgram) = some false)
    (sub_NoVisit_BadProgram : PySem.W.subIn K (.ref C_NoVisit) (.ref C_BadProgram) = some false)
    (sub_NoOrder_BadProgram : PySem.W.subIn K (.ref C_NoOrder) (.ref C_BadProgram) = some false)
    (sub_NoWord_BadProgram : PySem.W.subIn K (.ref C_NoWord) (.ref C_BadProgram) = some false)
    (sub_NoFit_BadProgram : PySem.W.subIn K (.ref C_NoFit) (.ref C_BadProgram) = some false)
    (sub_TooMany_BadProgram : PySem.W.subIn K (.ref C_TooMany) (.ref C_BadProgram) = some false)
    (isc_BadText : PySem.W.isClsIn K C_BadText = true)
    (sub_LampError_BadText : PySem.W.subIn K (.ref C_LampError) (.ref C_BadText) = some false)
    (sub_BadProgram_BadText : PySem.W.subIn K (.ref C_BadProgram) (.ref C_BadText) = some false)
    (sub_BadText_BadText : PySem.W.subIn K (.ref C_BadText) (.ref C_BadText) = some true)
    (sub_BadNumber_BadText : PySem.W.subIn K (.ref C_BadNumber) (.ref C_BadText) = some false)
    (sub_NoColour_BadText : PySem.W.subIn K (.ref C_NoColour) (.ref C_BadText) = some false)
    (sub_NoStanding_BadText : PySem.W.subIn K (.ref C_NoStanding) (.ref C_BadText) = some false)
    (sub_NoVisit_BadText : PySem.W.subIn K (.ref C_NoVisit) (.ref C_BadText) = some false)
    (sub_NoOrder_BadText : PySem.W.subIn K (.ref C_NoOrder) (.ref C_BadText) = some false)
    (sub_NoWord_BadText : PySem.W.subIn K (.ref C_NoWord) (.ref C_BadText) = some false)
    (sub_NoFit_BadText : PySem.W.subIn K (.ref C_NoFit) (.ref C_BadText) = some false)
    (sub_TooMany_BadText : PySem.W.subIn K (.ref C_TooMany) (.ref C_BadText) = some false)
    (isc_LampError : PySem.W.isClsIn K C_LampError = true)
    (sub_LampError_LampError : PySem.W.subIn K (.ref C_LampError) (.ref C_LampError) = some true)
    (sub_BadProgram_LampError : PySem.W.subIn K (.ref C_BadProgram) (.ref C_LampError) = some true)
    (sub_BadText_LampError : PySem.W.subIn K (.ref C_BadText) (.ref C_LampError) = some true)
    (sub_BadNumber_LampError : PySem.W.subIn K (.ref C_BadNumber) (.ref C_LampError) = some true)
    (sub_NoColour_LampError : PySem.W.subIn K (.ref C_NoColour) (.ref C_LampError) = some true)
    (sub_NoStanding_LampError : PySem.W.subIn K (.ref C_NoStanding) (.ref C_LampError) = some true)
    (sub_NoVisit_LampError : PySem.W.subIn K (.ref C_NoVisit) (.ref C_LampError) = some true)
    (sub_NoOrder_LampError : PySem.W.subIn K (.ref C_NoOrder) (.ref C_LampError) = some true)
    (sub_NoWord_LampError : PySem.W.subIn K (.ref C_NoWord) (.ref C_LampError) = some true)
    (sub_NoFit_LampError : PySem.W.subIn K (.ref C_NoFit) (.ref C_LampError) = some true)
    (sub_TooMany_LampError : PySem.W.subIn K (.ref C_TooMany) (.ref C_LampError) = some true)
    (isc_NoColour : PySem.W.isClsIn K C_NoColour = true)
    (sub_LampError_NoColour : PySem.W.subIn K (.ref C_LampError) (.ref C_NoColour) = some false)
    (sub_BadProgram_NoColour : PySem.W.subIn K (.ref C_BadProgram) (.ref C_NoColour) = some false)
    (sub_BadText_NoColour : PySem.W.subIn K (.ref C_BadText) (.ref C_NoColour) = some false)
    (sub_BadNumber_NoColour : PySem.W.subIn K (.ref C_BadNumber) (.ref C_NoColour) = some false)
    (sub_NoColour_NoColour : PySem.W.subIn K (.ref C_NoColour) (.ref C_NoColour) = some true)
    (sub_NoStanding_NoColour : PySem.W.subIn K (.ref C_NoStanding) (.ref C_NoColour) = some false)
    (sub_NoVisit_NoColour : PySem.W.subIn K (.ref C_NoVisit) (.ref C_NoColour) = some false)
    (sub_NoOrder_NoColour : PySem.W.subIn K (.ref C_NoOrder) (.ref C_NoColour) = some false)
    (sub_NoWord_NoColour : PySem.W.subIn K (.ref C_NoWord) (.ref C_NoColour) = some false)
    (sub_NoFit_NoColour : PySem.W.subIn K (.ref C_NoFit) (.ref C_NoColour) = some false)
    (sub_TooMany_NoColour : PySem.W.subIn K (.ref C_TooMany) (.ref C_NoColour) = some false)
    (isc_NoFit : PySem.W.isClsIn K C_NoFit = true)
    (sub_LampError_NoFit : PySem.W.subIn K (.ref C_LampError) (.ref C_NoFit) = some false)
    (sub_BadProgram_NoFit : PySem.W.subIn K (.ref C_BadProgram) (.ref C_NoFit) = some false)
    (sub_BadText_NoFit : PySem.W.subIn K (.ref C_BadText) (.ref C_NoFit) = some false)
    (sub_BadNumber_NoFit : PySem.W.subIn K (.ref C_BadNumber) (.ref C_NoFit) = some false)
    (sub_NoColour_NoFit : PySem.W.subIn K (.ref C_NoColour) (.ref C_NoFit) = some false)
    (sub_NoStanding_NoFit : PySem.W.subIn K (.ref C_NoStanding) (.ref C_NoFit) = some false)
    (sub_NoVisit_NoFit : PySem.W.subIn K (.ref C_NoVisit) (.ref C_NoFit) = some false)
    (sub_NoOrder_NoFit : PySem.W.subIn K (.ref C_NoOrder) (.ref C_NoFit) = some false)
    (sub_NoWord_NoFit : PySem.W.subIn K (.ref C_NoWord) (.ref C_NoFit) = some false)
    (sub_NoFit_NoFit : PySem.W.subIn K (.ref C_NoFit) (.ref C_NoFit) = some true)
    (sub_TooMany_NoFit : PySem.W.subIn K (.ref C_TooMany) (.ref C_NoFit) = some false)
    (isc_NoOrder : PySem.W.isClsIn K C_NoOrder = true)
    (sub_LampError_NoOrder : PySem.W.subIn K (.ref C_LampError) (.ref C_NoOrder) = some false)
    (sub_BadProgram_NoOrder : PySem.W.subIn K (.ref C_BadProgram) (.ref C_NoOrder) = some false)
    (sub_BadText_NoOrder : PySem.W.subIn K (.ref C_BadText) (.ref C_NoOrder) = some false)
    (sub_BadNumber_NoOrder : PySem.W.subIn K (.ref C_BadNumber) (.ref C_NoOrder) = some false)
    (sub_NoColour_NoOrder : PySem.W.subIn K (.ref C_NoColour) (.ref C_NoOrder) = some false)
    (sub_NoStanding_NoOrder : PySem.W.subIn K (.ref C_NoStanding) (.ref C_NoOrder) = some false)
    (sub_NoVisit_NoOrder : PySem.W.subIn K (.ref C_NoVisit) (.ref C_NoOrder) = some false)
    (sub_NoOrder_NoOrder : PySem.W.subIn K (.ref C_NoOrder) (.ref C_NoOrder) = some true)
    (sub_NoWord_NoOrder : PySem.W.subIn K (.ref C_NoWord) (.ref C_NoOrder) = some false)
    (sub_NoFit_NoOrder : PySem.W.subIn K (.ref C_NoFit) (.ref C_NoOrder) = some false)
    (sub_TooMany_NoOrder : PySem.W.subIn K (.ref C_TooMany) (.ref C_NoOrder) = some false)
    (isc_NoStanding : PySem.W.isClsIn K C_NoStanding = true)
    (sub_LampError_NoStanding : PySem.W.subIn K (.ref C_LampError) (.ref C_NoStanding) = some false)
    (sub_BadProgram_NoStanding : PySem.W.subIn K (.ref C_BadProgram) (.ref C_NoStanding) = some false)
    (sub_BadText_NoStanding : PySem.W.subIn K (.ref C_BadText) (.ref C_NoStanding) = some false)
    (sub_BadNumber_NoStanding : PySem.W.subIn K (.ref C_BadNumber) (.ref C_NoStanding) = some false)
    (sub_NoColour_NoStanding : PySem.W.subIn K (.ref C_NoColour) (.ref C_NoStanding) = some false)
    (sub_NoStanding_NoStanding : PySem.W.subIn K (.ref C_NoStanding) (.ref C_NoStanding) = some true)
    (sub_NoVisit_NoStanding : PySem.W.subIn K (.ref C_NoVisit) (.ref C_NoStanding) = some false)
    (sub_NoOrder_NoStanding : PySem.W.subIn K (.ref C_NoOrder) (.ref C_NoStanding) = some false)
    (sub_NoWord_NoStanding : PySem.W.subIn K (.ref C_NoWord) (.ref C_NoStanding) = some false)
    (sub_NoFit_NoStanding : PySem.W.subIn K (.ref C_NoFit) (.ref C_NoStanding) = some false)
    (sub_TooMany_NoStanding : PySem.W.subIn K (.ref C_TooMany) (.ref C_NoStanding) = some false)
    (isc_NoVisit : PySem.W.isClsIn K C_NoVisit = true)
    (sub_LampError_NoVisit : PySem.W.subIn K (.ref C_LampError) (.ref C_NoVisit) = some false)
    (sub_BadProgram_NoVisit : PySem.W.subIn K (.ref C_BadProgram) (.ref C_NoVisit) = some false)
    (sub_BadText_NoVisit : PySem.W.subIn K (.ref C_BadText) (.ref C_NoVisit) = some false)
    (sub_BadNumber_NoVisit : PySem.W.subIn K (.ref C_BadNumber) (.ref C_NoVisit) = some false)
    (sub_NoColour_NoVisit : PySem.W.subIn K (.ref C_NoColour) (.ref C_NoVisit) = some false)
    (sub_NoStanding_NoVisit : PySem.W.subIn K (.ref C_NoStanding) (.ref C_NoVisit) = some false)
    (sub_NoVisit_NoVisit : PySem.W.subIn K (.ref C_NoVisit) (.ref C_NoVisit) = some true)
    (sub_NoOrder_NoVisit : PySem.W.subIn K (.ref C_NoOrder) (.ref C_NoVisit) = some false)
    (sub_NoWord_NoVisit : PySem.W.subIn K (.ref C_NoWord) (.ref C_NoVisit) = some false)
    (sub_NoFit_NoVisit : PySem.W.subIn K (.ref C_NoFit) (.ref C_NoVisit) = some false)
    (sub_TooMany_NoVisit : PySem.W.subIn K (.ref C_TooMany) (.ref C_NoVisit) = some false)
    (isc_NoWord : PySem.W.isClsIn K C_NoWord = true)
    (sub_LampError_NoWord : PySem.W.subIn K (.ref C_LampError) (.ref C_NoWord) = some false)
    (sub_BadProgram_NoWord : PySem.W.subIn K (.ref C_BadProgram) (.ref C_NoWord) = some false)
    (sub_BadText_NoWord : PySem.W.subIn K (.ref C_BadText) (.ref C_NoWord) = some false)
    (sub_BadNumber_NoWord : PySem.W.subIn K (.ref C_BadNumber) (.ref C_NoWord) = some false)
    (sub_NoColour_NoWord : PySem.W.subIn K (.ref C_NoColour) (.ref C_NoWord) = some false)
    (sub_NoStanding_NoWord : PySem.W.subIn K (.ref C_NoStanding) (.ref C_NoWord) = some false)
    (sub_NoVisit_NoWord : PySem.W.subIn K (.ref C_NoVisit) (.ref C_NoWord) = some false)
    (sub_NoOrder_NoWord : PySem.W.subIn K (.ref C_NoOrder) (.ref C_NoWord) = some false)
    (sub_NoWord_NoWord : PySem.W.subIn K (.ref C_NoWord) (.ref C_NoWord) = some true)
    (sub_NoFit_NoWord : PySem.W.subIn K (.ref C_NoFit) (.ref C_NoWord) = some false)
    (sub_TooMany_NoWord : PySem.W.subIn K (.ref C_TooMany) (.ref C_NoWord) = some false)
    (isc_TooMany : PySem.W.isClsIn K C_TooMany = true)
    (sub_LampError_TooMany : PySem.W.subIn K (.ref C_LampError) (.ref C_TooMany) = some false)
    (sub_BadProgram_TooMany : PySem.W.subIn K (.ref C_BadProgram) (.ref C_TooMany) = some false)
    (sub_BadText_TooMany : PySem.W.subIn K (.ref C_BadText) (.ref C_TooMany) = some false)
    (sub_BadNumber_TooMany : PySem.W.subIn K (.ref C_BadNumber) (.ref C_TooMany) = some false)
    (sub_NoColour_TooMany : PySem.W.subIn K (.ref C_NoColour) (.ref C_TooMany) = some false)
    (sub_NoStanding_TooMany : PySem.W.subIn K (.ref C_NoStanding) (.ref C_TooMany) = some false)
    (sub_NoVisit_TooMany : PySem.W.subIn K (.ref C_NoVisit) (.ref C_TooMany) = some false)
    (sub_NoOrder_TooMany : PySem.W.subIn K (.ref C_NoOrder) (.ref C_TooMany) = some false)
    (sub_NoWord_TooMany : PySem.W.subIn K (.ref C_NoWord) (.ref C_TooMany) = some false)
    (sub_NoFit_TooMany : PySem.W.subIn K (.ref C_NoFit) (.ref C_TooMany) = some false)
    (sub_TooMany_TooMany : PySem.W.subIn K (.ref C_TooMany) (.ref C_TooMany) = some true)
    (n__law_pot : PySem.W.nsIn K mainGlobals "_law_pot" = some (some (.ref A__law_pot)))
    (l__law_pot : K.lookup A__law_pot = some ⟨oc__law_pot, od__law_pot, .func (PySem.W.fnOf "_law_pot" "_law_pot" (defArgs (topS 13)) (defBody (topS 13)) (defScope (topS 13)) .none kV__law_pot dc__law_pot pm__law_pot an__law_pot cd__law_pot ct__law_pot), sl__law_pot⟩)
    (c__law_pot : PySem.W.codeIn K cd__law_pot "_law_pot" = true)
    (k__law_pot : PySem.W.keepIn K (.ref A__law_pot) = true)
    (n__law_draw : PySem.W.nsIn K mainGlobals "_law_draw" = some (some (.ref A__law_draw)))
    (l__law_draw : K.lookup A__law_draw = some ⟨oc__law_draw, od__law_draw, .func (PySem.W.fnOf "_law_draw" "_law_draw" (defArgs (topS 14)) (defBody (topS 14)) (defScope (topS 14)) .none kV__law_draw dc__law_draw pm__law_draw an__law_draw cd__law_draw ct__law_draw), sl__law_draw⟩)
    (c__law_draw : PySem.W.codeIn K cd__law_draw "_law_draw" = true)
    (k__law_draw : PySem.W.keepIn K (.ref A__law_draw) = true)
    (n__law_pick : PySem.W.nsIn K mainGlobals "_law_pick" = some (some (.ref A__law_pick)))
    (l__law_pick : K.lookup A__law_pick = some ⟨oc__law_pick, od__law_pick, .func (PySem.W.fnOf "_law_pick" "_law_pick" (defArgs (topS 15)) (defBody (topS 15)) (defScope (topS 15)) .none kV__law_pick dc__law_pick pm__law_pick an__law_pick cd__law_pick ct__law_pick), sl__law_pick⟩)
    (c__law_pick : PySem.W.codeIn K cd__law_pick "_law_pick" = true)
    (k__law_pick : PySem.W.keepIn K (.ref A__law_pick) = true)
    (n__law_thing : PySem.W.nsIn K mainGlobals "_law_thing" = some (some (.ref A__law_thing)))
    (l__law_thing : K.lookup A__law_thing = some ⟨oc__law_thing, od__law_thing, .func (PySem.W.fnOf "_law_thing" "_law_thing" (defArgs (topS 16)) (defBody (topS 16)) (defScope (topS 16)) .none kV__law_thing dc__law_thing pm__law_thing an__law_thing cd__law_thing ct__law_thing), sl__law_thing⟩)
    (c__law_thing : PySem.W.codeIn K cd__law_thing "_law_thing" = true)
    (k__law_thing : PySem.W.keepIn K (.ref A__law_thing) = true)
    (n__law_kinds : PySem.W.nsIn K mainGlobals "_law_kinds" = some (some (.ref A__law_kinds)))
    (l__law_kinds : K.lookup A__law_kinds = some ⟨oc__law_kinds, od__law_kinds, .func (PySem.W.fnOf "_law_kinds" "_law_kinds" (defArgs (topS 17)) (defBody (topS 17)) (defScope (topS 17)) .none kV__law_kinds dc__law_kinds pm__law_kinds an__law_kinds cd__law_kinds ct__law_kinds), sl__law_kinds⟩)
    (c__law_kinds : PySem.W.codeIn K cd__law_kinds "_law_kinds" = true)
    (k__law_kinds : PySem.W.keepIn K (.ref A__law_kinds) = true)
    (n__law_rows : PySem.W.nsIn K mainGlobals "_law_rows" = some (some (.ref A__law_rows)))
    (l__law_rows : K.lookup A__law_rows = some ⟨oc__law_rows, od__law_rows, .func (PySem.W.fnOf "_law_rows" "_law_rows" (defArgs (topS 18)) (defBody (topS 18)) (defScope (topS 18)) .none kV__law_rows dc__law_rows pm__law_rows an__law_rows cd__law_rows ct__law_rows), sl__law_rows⟩)
    (c__law_rows : PySem.W.codeIn K cd__law_rows "_law_rows" = true)
    (k__law_rows : PySem.W.keepIn K (.ref A__law_rows) = true)
    (n__law_told_of : PySem.W.nsIn K mainGlobals "_law_told_of" = some (some (.ref A__law_told_of)))
    (l__law_told_of : K.lookup A__law_told_of = some ⟨oc__law_told_of, od__law_told_of, .func (PySem.W.fnOf "_law_told_of" "_law_told_of" (defArgs (topS 19)) (defBody (topS 19)) (defScope (topS 19)) .none kV__law_told_of dc__law_told_of pm__law_told_of an__law_told_of cd__law_told_of ct__law_told_of), sl__law_told_of⟩)
    (c__law_told_of : PySem.W.codeIn K cd__law_told_of "_law_told_of" = true)
    (k__law_told_of : PySem.W.keepIn K (.ref A__law_told_of) = true)
    (n_law : PySem.W.nsIn K mainGlobals "law" = some (some (.ref A_law)))
    (l_law : K.lookup A_law = some ⟨oc_law, od_law, .func (PySem.W.fnOf "law" "law" (defArgs (topS 20)) (defBody (topS 20)) (defScope (topS 20)) .none kV_law dc_law pm_law an_law cd_law ct_law), sl_law⟩)
    (c_law : PySem.W.codeIn K cd_law "law" = true)
    (k_law : PySem.W.keepIn K (.ref A_law) = true)
    (z_ValueError : PySem.W.nsIn K mainGlobals "ValueError" = some none)
    (z_abs : PySem.W.nsIn K mainGlobals "abs" = some none)
    (z_enumerate : PySem.W.nsIn K mainGlobals "enumerate" = some none)
    (z_int : PySem.W.nsIn K mainGlobals "int" = some none)
    (z_isinstance : PySem.W.nsIn K mainGlobals "isinstance" = some none)
    (z_len : PySem.W.nsIn K mainGlobals "len" = some none)
    (z_range : PySem.W.nsIn K mainGlobals "range" = some none)
    (z_repr : PySem.W.nsIn K mainGlobals "repr" = some none)
    : ∃ T : Tx ⟨K, (tbF C_BadProgram C_BadText C_BadNumber C_NoColour C_NoStanding C_NoVisit C_NoOrder C_NoWord C_NoFit C_TooMany C_LampError), none, []⟩ mg w P, T.a_law = fa ∧ (∀ (s : Shared) (u : Value), BindsTo s T.d_law ⟨[u], []⟩ [("script", u)]) := by
  have e := hfa.symm.trans (PySem.W.mg_of X G n_law)
  cases e
  have oe_BadProgram := oexC_of x_BadProgram sa_BadProgram eb_BadProgram ty_BadProgram kc_BadProgram
  have se_BadProgram : PySem.W.nsIn K mainGlobals "super" = some none := sup_mg
  have sp_BadProgram := supC_of (P := P) (mg := mg) (scope := defScope (inClass (topS 2) 0)) x_BadProgram x_LampError fi_LampError rfl rfl rfl cl_BadProgram li_BadProgram ⟨_, rfl, rfl⟩ co_BadProgram fi_BadProgram sup_top (PySem.W.mg_none_of X G sup_mg) sc_BadProgram sv_BadProgram sup_opq
  have ef_BadProgram : ∀ base : Heap, FnOk P w K mg base (L2.CX P w) 1 A_BadProgram _ ["self", "what"] (spX1 C_BadProgram "what") := fun base => ex_fn1 li_BadProgram ci_BadProgram ⟨rfl, rfl, rfl, by decide +kernel, rfl, by decide +kernel, by decide +kernel, by decide +kernel⟩ oe_BadProgram sp_BadProgram xn_BadProgram_what rfl (fun _ => ⟨_, rfl⟩)
  have eb2_BadProgram : Exc0 P w K mg C_BadProgram ["self", "what"] (spX1 C_BadProgram "what") := ⟨oe_BadProgram, A_BadProgram, _, ni_BadProgram, ti_BadProgram, ef_BadProgram, fun s us _ hl => match us, hl with | [_, _], _ => .of_eq rfl⟩
  have oe_BadText := oexC_of x_BadText sa_BadText eb_BadText ty_BadText kc_BadText
  have se_BadText : PySem.W.nsIn K mainGlobals "super" = some none := sup_mg
  have sp_BadText := supC_of (P := P) (mg := mg) (scope := defScope (inClass (topS 3) 0)) x_BadText x_LampError fi_LampError rfl rfl rfl cl_BadText li_BadText ⟨_, rfl, rfl⟩ co_BadText fi_BadText sup_top (PySem.W.mg_none_of X G sup_mg) sc_BadText sv_BadText sup_opq
  have ef_BadText : ∀ base : Heap, FnOk P w K mg base (L2.CX P w) 1 A_BadText _ ["self", "line", "what"] (spX2 C_BadText "line" "what") := fun base => ex_fn2 li_BadText ci_BadText ⟨rfl, rfl, rfl, by decide +kernel, rfl, by decide +kernel, by decide +kernel, by decide +kernel⟩ oe_BadText sp_BadText xn_BadText_line xn_BadText_what rfl (fun _ => ⟨_, rfl⟩)
  have eb2_BadText : Exc0 P w K mg C_BadText ["self", "line", "what"] (spX2 C_BadText "line" "what") := ⟨oe_BadText, A_BadText, _, ni_BadText, ti_BadText, ef_BadText, fun s us _ hl => match us, hl with | [_, _, _], _ => .of_eq rfl⟩
  have oe_BadNumber := oexC_of x_BadNumber sa_BadNumber eb_BadNumber ty_BadNumber kc_BadNumber
  have se_BadNumber : PySem.W.nsIn K mainGlobals "super" = some none := sup_mg
  have sp_BadNumber := supC_of (P := P) (mg := mg) (scope := defScope (inClass (topS 4) 0)) x_BadNumber x_LampError fi_LampError rfl rfl rfl cl_BadNumber li_BadNumber ⟨_, rfl, rfl⟩ co_BadNumber fi_BadNumber sup_top (PySem.W.mg_none_of X G sup_mg) sc_BadNumber sv_BadNumber sup_opq
  have ef_BadNumber : ∀ base : Heap, FnOk P w K mg base (L2.CX P w) 1 A_BadNumber _ ["self", "value"] (spX1 C_BadNumber "value") := fun base => ex_fn1 li_BadNumber ci_BadNumber ⟨rfl, rfl, rfl, by decide +kernel, rfl, by decide +kernel, by decide +kernel, by decide +kernel⟩ oe_BadNumber sp_BadNumber xn_BadNumber_value rfl (fun _ => ⟨_, rfl⟩)
  have eb2_BadNumber : Exc0 P w K mg C_BadNumber ["self", "value"] (spX1 C_BadNumber "value") := ⟨oe_BadNumber, A_BadNumber, _, ni_BadNumber, ti_BadNumber, ef_BadNumber, fun s us _ hl => match us, hl with | [_, _], _ => .of_eq rfl⟩
  have oe_NoColour := oexC_of x_NoColour sa_NoColour eb_NoColour ty_NoColour kc_NoColour
  have se_NoColour : PySem.W.nsIn K mainGlobals "super" = some none := sup_mg
  have sp_NoColour := supC_of (P := P) (mg := mg) (scope := defScope (inClass (topS 5) 0)) x_NoColour x_LampError fi_LampError rfl rfl rfl cl_NoColour li_NoColour ⟨_, rfl, rfl⟩ co_NoColour fi_NoColour sup_top (PySem.W.mg_none_of X G sup_mg) sc_NoColour sv_NoColour sup_opq
  have ef_NoColour : ∀ base : Heap, FnOk P w K mg base (L2.CX P w) 1 A_NoColour _ ["self"] (spX0 C_NoColour) := fun base => ex_fn0 li_NoColour ci_NoColour ⟨rfl, rfl, rfl, by decide +kernel, rfl, by decide +kernel, by decide +kernel, by decide +kernel⟩ oe_NoColour sp_NoColour rfl (fun _ => ⟨_, rfl⟩)
  have eb2_NoColour : Exc0 P w K mg C_NoColour ["self"] (spX0 C_NoColour) := ⟨oe_NoColour, A_NoColour, _, ni_NoColour, ti_NoColour, ef_NoColour, fun s us _ hl => match us, hl with | [_], _ => .of_eq rfl⟩
  have oe_NoStanding := oexC_of x_NoStanding sa_NoStanding eb_NoStanding ty_NoStanding kc_NoStanding
  have se_NoStanding : PySem.W.nsIn K mainGlobals "super" = some none := sup_mg
  have sp_NoStanding := supC_of (P := P) (mg := mg) (scope := defScope (inClass (topS 6) 0)) x_NoStanding x_LampError fi_LampError rfl rfl rfl cl_NoStanding li_NoStanding ⟨_, rfl, rfl⟩ co_NoStanding fi_NoStanding sup_top (PySem.W.mg_none_of X G sup_mg) sc_NoStanding sv_NoStanding sup_opq
  have ef_NoStanding : ∀ base : Heap, FnOk P w K mg base (L2.CX P w) 1 A_NoStanding _ ["self"] (spX0 C_NoStanding) := fun base => ex_fn0 li_NoStanding ci_NoStanding ⟨rfl, rfl, rfl, by decide +kernel, rfl, by decide +kernel, by decide +kernel, by decide +kernel⟩ oe_NoStanding sp_NoStanding rfl (fun _ => ⟨_, rfl⟩)
  have eb2_NoStanding : Exc0 P w K mg C_NoStanding ["self"] (spX0 C_NoStanding) := ⟨oe_NoStanding, A_NoStanding, _, ni_NoStanding, ti_NoStanding, ef_NoStanding, fun s us _ hl => match us, hl with | [_], _ => .of_eq rfl⟩
  have oe_NoVisit := oexC_of x_NoVisit sa_NoVisit eb_NoVisit ty_NoVisit kc_NoVisit
  have se_NoVisit : PySem.W.nsIn K mainGlobals "super" = some none := sup_mg
  have sp_NoVisit := supC_of (P := P) (mg := mg) (scope := defScope (inClass (topS 7) 0)) x_NoVisit x_LampError fi_LampError rfl rfl rfl cl_NoVisit li_NoVisit ⟨_, rfl, rfl⟩ co_NoVisit fi_NoVisit sup_top (PySem.W.mg_none_of X G sup_mg) sc_NoVisit sv_NoVisit sup_opq
  have ef_NoVisit : ∀ base : Heap, FnOk P w K mg base (L2.CX P w) 1 A_NoVisit _ ["self"] (spX0 C_NoVisit) := fun base => ex_fn0 li_NoVisit ci_NoVisit ⟨rfl, rfl, rfl, by decide +kernel, rfl, by decide +kernel, by decide +kernel, by decide +kernel⟩ oe_NoVisit sp_NoVisit rfl (fun _ => ⟨_, rfl⟩)
  have eb2_NoVisit : Exc0 P w K mg C_NoVisit ["self"] (spX0 C_NoVisit) := ⟨oe_NoVisit, A_NoVisit, _, ni_NoVisit, ti_NoVisit, ef_NoVisit, fun s us _ hl => match us, hl with | [_], _ => .of_eq rfl⟩
  have oe_NoOrder := oexC_of x_NoOrder sa_NoOrder eb_NoOrder ty_NoOrder kc_NoOrder
  have se_NoOrder : PySem.W.nsIn K mainGlobals "super" = some none := sup_mg
  have sp_NoOrder := supC_of (P := P) (mg := mg) (scope := defScope (inClass (topS 8) 0)) x_NoOrder x_LampError fi_LampError rfl rfl rfl cl_NoOrder li_NoOrder ⟨_, rfl, rfl⟩ co_NoOrder fi_NoOrder sup_top (PySem.W.mg_none_of X G sup_mg) sc_NoOrder sv_NoOrder sup_opq
  have ef_NoOrder : ∀ base : Heap, FnOk P w K mg base (L2.CX P w) 1 A_NoOrder _ ["self", "at"] (spX1 C_NoOrder "at") := fun base => ex_fn1 li_NoOrder ci_NoOrder ⟨rfl, rfl, rfl, by decide +kernel, rfl, by decide +kernel, by decide +kernel, by decide +kernel⟩ oe_NoOrder sp_NoOrder xn_NoOrder_at rfl (fun _ => ⟨_, rfl⟩)
  have eb2_NoOrder : Exc0 P w K mg C_NoOrder ["self", "at"] (spX1 C_NoOrder "at") := ⟨oe_NoOrder, A_NoOrder, _, ni_NoOrder, ti_NoOrder, ef_NoOrder, fun s us _ hl => match us, hl with | [_, _], _ => .of_eq rfl⟩
  have oe_NoWord := oexC_of x_NoWord sa_NoWord eb_NoWord ty_NoWord kc_NoWord
  have se_NoWord : PySem.W.nsIn K mainGlobals "super" = some none := sup_mg
  have sp_NoWord := supC_of (P := P) (mg := mg) (scope := defScope (inClass (topS 9) 0)) x_NoWord x_LampError fi_LampError rfl rfl rfl cl_NoWord li_NoWord ⟨_, rfl, rfl⟩ co_NoWord fi_NoWord sup_top (PySem.W.mg_none_of X G sup_mg) sc_NoWord sv_NoWord sup_opq
  have ef_NoWord : ∀ base : Heap, FnOk P w K mg base (L2.CX P w) 1 A_NoWord _ ["self"] (spX0 C_NoWord) := fun base => ex_fn0 li_NoWord ci_NoWord ⟨rfl, rfl, rfl, by decide +kernel, rfl, by decide +kernel, by decide +kernel, by decide +kernel⟩ oe_NoWord sp_NoWord rfl (fun _ => ⟨_, rfl⟩)
  have eb2_NoWord : Exc0 P w K mg C_NoWord ["self"] (spX0 C_NoWord) := ⟨oe_NoWord, A_NoWord, _, ni_NoWord, ti_NoWord, ef_NoWord, fun s us _ hl => match us, hl with | [_], _ => .of_eq rfl⟩
  have oe_NoFit := oexC_of x_NoFit sa_NoFit eb_NoFit ty_NoFit kc_NoFit
  have se_NoFit : PySem.W.nsIn K mainGlobals "super" = some none := sup_mg
  have sp_NoFit := supC_of (P := P) (mg := mg) (scope := defScope (inClass (topS 10) 0)) x_NoFit x_LampError fi_LampError rfl rfl rfl cl_NoFit li_NoFit ⟨_, rfl, rfl⟩ co_NoFit fi_NoFit sup_top (PySem.W.mg_none_of X G sup_mg) sc_NoFit sv_NoFit sup_opq
  have ef_NoFit : ∀ base : Heap, FnOk P w K mg base (L2.CX P w) 1 A_NoFit _ ["self"] (spX0 C_NoFit) := fun base => ex_fn0 li_NoFit ci_NoFit ⟨rfl, rfl, rfl, by decide +kernel, rfl, by decide +kernel, by decide +kernel, by decide +kernel⟩ oe_NoFit sp_NoFit rfl (fun _ => ⟨_, rfl⟩)
  have eb2_NoFit : Exc0 P w K mg C_NoFit ["self"] (spX0 C_NoFit) := ⟨oe_NoFit, A_NoFit, _, ni_NoFit, ti_NoFit, ef_NoFit, fun s us _ hl => match us, hl with | [_], _ => .of_eq rfl⟩
  have oe_TooMany := oexC_of x_TooMany sa_TooMany eb_TooMany ty_TooMany kc_TooMany
  have se_TooMany : PySem.W.nsIn K mainGlobals "super" = some none := sup_mg
  have sp_TooMany := supC_of (P := P) (mg := mg) (scope := defScope (inClass (topS 11) 0)) x_TooMany x_LampError fi_LampError rfl rfl rfl cl_TooMany li_TooMany ⟨_, rfl, rfl⟩ co_TooMany fi_TooMany sup_top (PySem.W.mg_none_of X G sup_mg) sc_TooMany sv_TooMany sup_opq
  have ef_TooMany : ∀ base : Heap, FnOk P w K mg base (L2.CX P w) 1 A_TooMany _ ["self", "most"] (spX1 C_TooMany "most") := fun base => ex_fn1 li_TooMany ci_TooMany ⟨rfl, rfl, rfl, by decide +kernel, rfl, by decide +kernel, by decide +kernel, by decide +kernel⟩ oe_TooMany sp_TooMany xn_TooMany_most rfl (fun _ => ⟨_, rfl⟩)
  have eb2_TooMany : Exc0 P w K mg C_TooMany ["self", "most"] (spX1 C_TooMany "most") := ⟨oe_TooMany, A_TooMany, _, ni_TooMany, ti_TooMany, ef_TooMany, fun s us _ hl => match us, hl with | [_, _], _ => .of_eq rfl⟩
  have xc_LampError : ExcC K C_LampError := ⟨ga_LampError, gg_LampError, eb_LampError, hd_LampError, icl_LampError, isp, itk, mro_LampError⟩
  have xc_BadProgram : ExcC K C_BadProgram := ⟨ga_BadProgram, gg_BadProgram, eb_BadProgram, hd_BadProgram, icl_BadProgram, isp, itk, mro_BadProgram⟩
  have xc_BadText : ExcC K C_BadText := ⟨ga_BadText, gg_BadText, eb_BadText, hd_BadText, icl_BadText, isp, itk, mro_BadText⟩
  have xc_BadNumber : ExcC K C_BadNumber := ⟨ga_BadNumber, gg_BadNumber, eb_BadNumber, hd_BadNumber, icl_BadNumber, isp, itk, mro_BadNumber⟩
  have xc_NoColour : ExcC K C_NoColour := ⟨ga_NoColour, gg_NoColour, eb_NoColour, hd_NoColour, icl_NoColour, isp, itk, mro_NoColour⟩
  have xc_NoStanding : ExcC K C_NoStanding := ⟨ga_NoStanding, gg_NoStanding, eb_NoStanding, hd_NoStanding, icl_NoStanding, isp, itk, mro_NoStanding⟩
  have xc_NoVisit : ExcC K C_NoVisit := ⟨ga_NoVisit, gg_NoVisit, eb_NoVisit, hd_NoVisit, icl_NoVisit, isp, itk, mro_NoVisit⟩
  have xc_NoOrder : ExcC K C_NoOrder := ⟨ga_NoOrder, gg_NoOrder, eb_NoOrder, hd_NoOrder, icl_NoOrder, isp, itk, mro_NoOrder⟩
  have xc_NoWord : ExcC K C_NoWord := ⟨ga_NoWord, gg_NoWord, eb_NoWord, hd_NoWord, icl_NoWord, isp, itk, mro_NoWord⟩
  have xc_NoFit : ExcC K C_NoFit := ⟨ga_NoFit, gg_NoFit, eb_NoFit, hd_NoFit, icl_NoFit, isp, itk, mro_NoFit⟩
  have xc_TooMany : ExcC K C_TooMany := ⟨ga_TooMany, gg_TooMany, eb_TooMany, hd_TooMany, icl_TooMany, isp, itk, mro_TooMany⟩
  have F__law_pot := fun_mk (st := (topS 13)) l__law_pot c__law_pot k__law_pot
  have B__law_pot := F__law_pot.binds (ps := ["script"]) fun _ _ _ _ _ _ us hl => match us, hl with | [_], _ => rfl
  have F__law_draw := fun_mk (st := (topS 14)) l__law_draw c__law_draw k__law_draw
  have B__law_draw := F__law_draw.binds (ps := ["pot", "many"]) fun _ _ _ _ _ _ us hl => match us, hl with | [_, _], _ => rfl
  have F__law_pick := fun_mk (st := (topS 15)) l__law_pick c__law_pick k__law_pick
  have B__law_pick := F__law_pick.binds (ps := ["pot", "row"]) fun _ _ _ _ _ _ us hl => match us, hl with | [_, _], _ => rfl
  have F__law_thing := fun_mk (st := (topS 16)) l__law_thing c__law_thing k__law_thing
  have B__law_thing := F__law_thing.binds (ps := ["pot"]) fun _ _ _ _ _ _ us hl => match us, hl with | [_], _ => rfl
  have F__law_kinds := fun_mk (st := (topS 17)) l__law_kinds c__law_kinds k__law_kinds
  have B__law_kinds := F__law_kinds.binds (ps := ["error"]) fun _ _ _ _ _ _ us hl => match us, hl with | [_], _ => rfl
  have F__law_rows := fun_mk (st := (topS 18)) l__law_rows c__law_rows k__law_rows
  have B__law_rows := F__law_rows.binds (ps := ["a", "b"]) fun _ _ _ _ _ _ us hl => match us, hl with | [_, _], _ => rfl
  have F__law_told_of := fun_mk (st := (topS 19)) l__law_told_of c__law_told_of k__law_told_of
  have B__law_told_of := F__law_told_of.binds (ps := ["error", "words"]) fun _ _ _ _ _ _ us hl => match us, hl with | [_, _], _ => rfl
  have F_law := fun_mk (st := (topS 20)) l_law c_law k_law
  have B_law := F_law.binds (ps := ["script"]) fun _ _ _ _ _ _ us hl => match us, hl with | [_], _ => rfl
  exact ⟨{
      xi0 := rfl,
      m_BadProgram := PySem.W.mg_of X G n_BadProgram,
      ex_BadProgram := eb2_BadProgram,
      m_BadText := PySem.W.mg_of X G n_BadText,
      ex_BadText := eb2_BadText,
      m_BadNumber := PySem.W.mg_of X G n_BadNumber,
      ex_BadNumber := eb2_BadNumber,
      m_NoColour := PySem.W.mg_of X G n_NoColour,
      ex_NoColour := eb2_NoColour,
      m_NoStanding := PySem.W.mg_of X G n_NoStanding,
      ex_NoStanding := eb2_NoStanding,
      m_NoVisit := PySem.W.mg_of X G n_NoVisit,
      ex_NoVisit := eb2_NoVisit,
      m_NoOrder := PySem.W.mg_of X G n_NoOrder,
      ex_NoOrder := eb2_NoOrder,
      m_NoWord := PySem.W.mg_of X G n_NoWord,
      ex_NoWord := eb2_NoWord,
      m_NoFit := PySem.W.mg_of X G n_NoFit,
      ex_NoFit := eb2_NoFit,
      m_TooMany := PySem.W.mg_of X G n_TooMany,
      ex_TooMany := eb2_TooMany,
      m_LampError := PySem.W.mg_of X G n_LampError,
      kp_LampError := kp_LampError,
      xi_LampError := xi_LampError,
      isE_BadNumber := isE_mk_BadNumber (⟨xc_LampError, sub_kitF isc_BadNumber ty_BadNumber sub_BadNumber_BadNumber sub_LampError_BadNumber⟩) (⟨xc_BadProgram, sub_kitF isc_BadNumber ty_BadNumber sub_BadNumber_BadNumber sub_BadProgram_BadNumber⟩) (⟨xc_BadText, sub_kitF isc_BadNumber ty_BadNumber sub_BadNumber_BadNumber sub_BadText_BadNumber⟩) (⟨xc_BadNumber, sub_kitT isc_BadNumber ty_BadNumber sub_BadNumber_BadNumber⟩) (⟨xc_NoColour, sub_kitF isc_BadNumber ty_BadNumber sub_BadNumber_BadNumber sub_NoColour_BadNumber⟩) (⟨xc_NoStanding, sub_kitF isc_BadNumber ty_BadNumber sub_BadNumber_BadNumber sub_NoStanding_BadNumber⟩) (⟨xc_NoVisit, sub_kitF isc_BadNumber ty_BadNumber sub_BadNumber_BadNumber sub_NoVisit_BadNumber⟩) (⟨xc_NoOrder, sub_kitF isc_BadNumber ty_BadNumber sub_BadNumber_BadNumber sub_NoOrder_BadNumber⟩) (⟨xc_NoWord, sub_kitF isc_BadNumber ty_BadNumber sub_BadNumber_BadNumber sub_NoWord_BadNumber⟩) (⟨xc_NoFit, sub_kitF isc_BadNumber ty_BadNumber sub_BadNumber_BadNumber sub_NoFit_BadNumber⟩) (⟨xc_TooMany, sub_kitF isc_BadNumber ty_BadNumber sub_BadNumber_BadNumber sub_TooMany_BadNumber⟩),
      isE_BadProgram := isE_mk_BadProgram (⟨xc_LampError, sub_kitF isc_BadProgram ty_BadProgram sub_BadProgram_BadProgram sub_LampError_BadProgram⟩) (⟨xc_BadProgram, sub_kitT isc_BadProgram ty_BadProgram sub_BadProgram_BadProgram⟩) (⟨xc_BadText, sub_kitF isc_BadProgram ty_BadProgram sub_BadProgram_BadProgram sub_BadText_BadProgram⟩) (⟨xc_BadNumber, sub_kitF isc_BadProgram ty_BadProgram sub_BadProgram_BadProgram sub_BadNumber_BadProgram⟩) (⟨xc_NoColour, sub_kitF isc_BadProgram ty_BadProgram sub_BadProgram_BadProgram sub_NoColour_BadProgram⟩) (⟨xc_NoStanding, sub_kitF isc_BadProgram ty_BadProgram sub_BadProgram_BadProgram sub_NoStanding_BadProgram⟩) (⟨xc_NoVisit, sub_kitF isc_BadProgram ty_BadProgram sub_BadProgram_BadProgram sub_NoVisit_BadProgram⟩) (⟨xc_NoOrder, sub_kitF isc_BadProgram ty_BadProgram sub_BadProgram_BadProgram sub_NoOrder_BadProgram⟩) (⟨xc_NoWord, sub_kitF isc_BadProgram ty_BadProgram sub_BadProgram_BadProgram sub_NoWord_BadProgram⟩) (⟨xc_NoFit, sub_kitF isc_BadProgram ty_BadProgram sub_BadProgram_BadProgram sub_NoFit_BadProgram⟩) (⟨xc_TooMany, sub_kitF isc_BadProgram ty_BadProgram sub_BadProgram_BadProgram sub_TooMany_BadProgram⟩),
      isE_BadText := isE_mk_BadText (⟨xc_LampError, sub_kitF isc_BadText ty_BadText sub_BadText_BadText sub_LampError_BadText⟩) (⟨xc_BadProgram, sub_kitF isc_BadText ty_BadText sub_BadText_BadText sub_BadProgram_BadText⟩) (⟨xc_BadText, sub_kitT isc_BadText ty_BadText sub_BadText_BadText⟩) (⟨xc_BadNumber, sub_kitF isc_BadText ty_BadText sub_BadText_BadText sub_BadNumber_BadText⟩) (⟨xc_NoColour, sub_kitF isc_BadText ty_BadText sub_BadText_BadText sub_NoColour_BadText⟩) (⟨xc_NoStanding, sub_kitF isc_BadText ty_BadText sub_BadText_BadText sub_NoStanding_BadText⟩) (⟨xc_NoVisit, sub_kitF isc_BadText ty_BadText sub_BadText_BadText sub_NoVisit_BadText⟩) (⟨xc_NoOrder, sub_kitF isc_BadText ty_BadText sub_BadText_BadText sub_NoOrder_BadText⟩) (⟨xc_NoWord, sub_kitF isc_BadText ty_BadText sub_BadText_BadText sub_NoWord_BadText⟩) (⟨xc_NoFit, sub_kitF isc_BadText ty_BadText sub_BadText_BadText sub_NoFit_BadText⟩) (⟨xc_TooMany, sub_kitF isc_BadText ty_BadText sub_BadText_BadText sub_TooMany_BadText⟩),
      isE_LampError := isE_mk_LampError (⟨xc_BadProgram, sub_kitT isc_LampError ty_LampError sub_BadProgram_LampError⟩) (⟨xc_BadText, sub_kitT isc_LampError ty_LampError sub_BadText_LampError⟩) (⟨xc_BadNumber, sub_kitT isc_LampError ty_LampError sub_BadNumber_LampError⟩) (⟨xc_NoColour, sub_kitT isc_LampError ty_LampError sub_NoColour_LampError⟩) (⟨xc_NoStanding, sub_kitT isc_LampError ty_LampError sub_NoStanding_LampError⟩) (⟨xc_NoVisit, sub_kitT isc_LampError ty_LampError sub_NoVisit_LampError⟩) (⟨xc_NoOrder, sub_kitT isc_LampError ty_LampError sub_NoOrder_LampError⟩) (⟨xc_NoWord, sub_kitT isc_LampError ty_LampError sub_NoWord_LampError⟩) (⟨xc_NoFit, sub_kitT isc_LampError ty_LampError sub_NoFit_LampError⟩) (⟨xc_TooMany, sub_kitT isc_LampError ty_LampError sub_TooMany_LampError⟩),
      isE_NoColour := isE_mk_NoColour (⟨xc_LampError, sub_kitF isc_NoColour ty_NoColour sub_NoColour_NoColour sub_LampError_NoColour⟩) (⟨xc_BadProgram, sub_kitF isc_NoColour ty_NoColour sub_NoColour_NoColour sub_BadProgram_NoColour⟩) (⟨xc_BadText, sub_kitF isc_NoColour ty_NoColour sub_NoColour_NoColour sub_BadText_NoColour⟩) (⟨xc_BadNumber, sub_kitF isc_NoColour ty_NoColour sub_NoColour_NoColour sub_BadNumber_NoColour⟩) (⟨xc_NoColour, sub_kitT isc_NoColour ty_NoColour sub_NoColour_NoColour⟩) (⟨xc_NoStanding, sub_kitF isc_NoColour ty_NoColour sub_NoColour_NoColour sub_NoStanding_NoColour⟩) (⟨xc_NoVisit, sub_kitF isc_NoColour ty_NoColour sub_NoColour_NoColour sub_NoVisit_NoColour⟩) (⟨xc_NoOrder, sub_kitF isc_NoColour ty_NoColour sub_NoColour_NoColour sub_NoOrder_NoColour⟩) (⟨xc_NoWord, sub_kitF isc_NoColour ty_NoColour sub_NoColour_NoColour sub_NoWord_NoColour⟩) (⟨xc_NoFit, sub_kitF isc_NoColour ty_NoColour sub_NoColour_NoColour sub_NoFit_NoColour⟩) (⟨xc_TooMany, sub_kitF isc_NoColour ty_NoColour sub_NoColour_NoColour sub_TooMany_NoColour⟩),
      isE_NoFit := isE_mk_NoFit (⟨xc_LampError, sub_kitF isc_NoFit ty_NoFit sub_NoFit_NoFit sub_LampError_NoFit⟩) (⟨xc_BadProgram, sub_kitF isc_NoFit ty_NoFit sub_NoFit_NoFit sub_BadProgram_NoFit⟩) (⟨xc_BadText, sub_kitF isc_NoFit ty_NoFit sub_NoFit_NoFit sub_BadText_NoFit⟩) (⟨xc_BadNumber, sub_kitF isc_NoFit ty_NoFit sub_NoFit_NoFit sub_BadNumber_NoFit⟩) (⟨xc_NoColour, sub_kitF isc_NoFit ty_NoFit sub_NoFit_NoFit sub_NoColour_NoFit⟩) (⟨xc_NoStanding, sub_kitF isc_NoFit ty_NoFit sub_NoFit_NoFit sub_NoStanding_NoFit⟩) (⟨xc_NoVisit, sub_kitF isc_NoFit ty_NoFit sub_NoFit_NoFit sub_NoVisit_NoFit⟩) (⟨xc_NoOrder, sub_kitF isc_NoFit ty_NoFit sub_NoFit_NoFit sub_NoOrder_NoFit⟩) (⟨xc_NoWord, sub_kitF isc_NoFit ty_NoFit sub_NoFit_NoFit sub_NoWord_NoFit⟩) (⟨xc_NoFit, sub_kitT isc_NoFit ty_NoFit sub_NoFit_NoFit⟩) (⟨xc_TooMany, sub_kitF isc_NoFit ty_NoFit sub_NoFit_NoFit sub_TooMany_NoFit⟩),
      isE_NoOrder := isE_mk_NoOrder (⟨xc_LampError, sub_kitF isc_NoOrder ty_NoOrder sub_NoOrder_NoOrder sub_LampError_NoOrder⟩) (⟨xc_BadProgram, sub_kitF isc_NoOrder ty_NoOrder sub_NoOrder_NoOrder sub_BadProgram_NoOrder⟩) (⟨xc_BadText, sub_kitF isc_NoOrder ty_NoOrder sub_NoOrder_NoOrder sub_BadText_NoOrder⟩) (⟨xc_BadNumber, sub_kitF isc_NoOrder ty_NoOrder sub_NoOrder_NoOrder sub_BadNumber_NoOrder⟩) (⟨xc_NoColour, sub_kitF isc_NoOrder ty_NoOrder sub_NoOrder_NoOrder sub_NoColour_NoOrder⟩) (⟨xc_NoStanding, sub_kitF isc_NoOrder ty_NoOrder sub_NoOrder_NoOrder sub_NoStanding_NoOrder⟩) (⟨xc_NoVisit, sub_kitF isc_NoOrder ty_NoOrder sub_NoOrder_NoOrder sub_NoVisit_NoOrder⟩) (⟨xc_NoOrder, sub_kitT isc_NoOrder ty_NoOrder sub_NoOrder_NoOrder⟩) (⟨xc_NoWord, sub_kitF isc_NoOrder ty_NoOrder sub_NoOrder_NoOrder sub_NoWord_NoOrder⟩) (⟨xc_NoFit, sub_kitF isc_NoOrder ty_NoOrder sub_NoOrder_NoOrder sub_NoFit_NoOrder⟩) (⟨xc_TooMany, sub_kitF isc_NoOrder ty_NoOrder sub_NoOrder_NoOrder sub_TooMany_NoOrder⟩),
      isE_NoStanding := isE_mk_NoStanding (⟨xc_LampError, sub_kitF isc_NoStanding ty_NoStanding sub_NoStanding_NoStanding sub_LampError_NoStanding⟩) (⟨xc_BadProgram, sub_kitF isc_NoStanding ty_NoStanding sub_NoStanding_NoStanding sub_BadProgram_NoStanding⟩) (⟨xc_BadText, sub_kitF isc_NoStanding ty_NoStanding sub_NoStanding_NoStanding sub_BadText_NoStanding⟩) (⟨xc_BadNumber, sub_kitF isc_NoStanding ty_NoStanding sub_NoStanding_NoStanding sub_BadNumber_NoStanding⟩) (⟨xc_NoColour, sub_kitF isc_NoStanding ty_NoStanding sub_NoStanding_NoStanding sub_NoColour_NoStanding⟩) (⟨xc_NoStanding, sub_kitT isc_NoStanding ty_NoStanding sub_NoStanding_NoStanding⟩) (⟨xc_NoVisit, sub_kitF isc_NoStanding ty_NoStanding sub_NoStanding_NoStanding sub_NoVisit_NoStanding⟩) (⟨xc_NoOrder, sub_kitF isc_NoStanding ty_NoStanding sub_NoStanding_NoStanding sub_NoOrder_NoStanding⟩) (⟨xc_NoWord, sub_kitF isc_NoStanding ty_NoStanding sub_NoStanding_NoStanding sub_NoWord_NoStanding⟩) (⟨xc_NoFit, sub_kitF isc_NoStanding ty_NoStanding sub_NoStanding_NoStanding sub_NoFit_NoStanding⟩) (⟨xc_TooMany, sub_kitF isc_NoStanding ty_NoStanding sub_NoStanding_NoStanding sub_TooMany_NoStanding⟩),
      isE_NoVisit := isE_mk_NoVisit (⟨xc_LampError, sub_kitF isc_NoVisit ty_NoVisit sub_NoVisit_NoVisit sub_LampError_NoVisit⟩) (⟨xc_BadProgram, sub_kitF isc_NoVisit ty_NoVisit sub_NoVisit_NoVisit sub_BadProgram_NoVisit⟩) (⟨xc_BadText, sub_kitF isc_NoVisit ty_NoVisit sub_NoVisit_NoVisit sub_BadText_NoVisit⟩) (⟨xc_BadNumber, sub_kitF isc_NoVisit ty_NoVisit sub_NoVisit_NoVisit sub_BadNumber_NoVisit⟩) (⟨xc_NoColour, sub_kitF isc_NoVisit ty_NoVisit sub_NoVisit_NoVisit sub_NoColour_NoVisit⟩) (⟨xc_NoStanding, sub_kitF isc_NoVisit ty_NoVisit sub_NoVisit_NoVisit sub_NoStanding_NoVisit⟩) (⟨xc_NoVisit, sub_kitT isc_NoVisit ty_NoVisit sub_NoVisit_NoVisit⟩) (⟨xc_NoOrder, sub_kitF isc_NoVisit ty_NoVisit sub_NoVisit_NoVisit sub_NoOrder_NoVisit⟩) (⟨xc_NoWord, sub_kitF isc_NoVisit ty_NoVisit sub_NoVisit_NoVisit sub_NoWord_NoVisit⟩) (⟨xc_NoFit, sub_kitF isc_NoVisit ty_NoVisit sub_NoVisit_NoVisit sub_NoFit_NoVisit⟩) (⟨xc_TooMany, sub_kitF isc_NoVisit ty_NoVisit sub_NoVisit_NoVisit sub_TooMany_NoVisit⟩),
      isE_NoWord := isE_mk_NoWord (⟨xc_LampError, sub_kitF isc_NoWord ty_NoWord sub_NoWord_NoWord sub_LampError_NoWord⟩) (⟨xc_BadProgram, sub_kitF isc_NoWord ty_NoWord sub_NoWord_NoWord sub_BadProgram_NoWord⟩) (⟨xc_BadText, sub_kitF isc_NoWord ty_NoWord sub_NoWord_NoWord sub_BadText_NoWord⟩) (⟨xc_BadNumber, sub_kitF isc_NoWord ty_NoWord sub_NoWord_NoWord sub_BadNumber_NoWord⟩) (⟨xc_NoColour, sub_kitF isc_NoWord ty_NoWord sub_NoWord_NoWord sub_NoColour_NoWord⟩) (⟨xc_NoStanding, sub_kitF isc_NoWord ty_NoWord sub_NoWord_NoWord sub_NoStanding_NoWord⟩) (⟨xc_NoVisit, sub_kitF isc_NoWord ty_NoWord sub_NoWord_NoWord sub_NoVisit_NoWord⟩) (⟨xc_NoOrder, sub_kitF isc_NoWord ty_NoWord sub_NoWord_NoWord sub_NoOrder_NoWord⟩) (⟨xc_NoWord, sub_kitT isc_NoWord ty_NoWord sub_NoWord_NoWord⟩) (⟨xc_NoFit, sub_kitF isc_NoWord ty_NoWord sub_NoWord_NoWord sub_NoFit_NoWord⟩) (⟨xc_TooMany, sub_kitF isc_NoWord ty_NoWord sub_NoWord_NoWord sub_TooMany_NoWord⟩),
      isE_TooMany := isE_mk_TooMany (⟨xc_LampError, sub_kitF isc_TooMany ty_TooMany sub_TooMany_TooMany sub_LampError_TooMany⟩) (⟨xc_BadProgram, sub_kitF isc_TooMany ty_TooMany sub_TooMany_TooMany sub_BadProgram_TooMany⟩) (⟨xc_BadText, sub_kitF isc_TooMany ty_TooMany sub_TooMany_TooMany sub_BadText_TooMany⟩) (⟨xc_BadNumber, sub_kitF isc_TooMany ty_TooMany sub_TooMany_TooMany sub_BadNumber_TooMany⟩) (⟨xc_NoColour, sub_kitF isc_TooMany ty_TooMany sub_TooMany_TooMany sub_NoColour_TooMany⟩) (⟨xc_NoStanding, sub_kitF isc_TooMany ty_TooMany sub_TooMany_TooMany sub_NoStanding_TooMany⟩) (⟨xc_NoVisit, sub_kitF isc_TooMany ty_TooMany sub_TooMany_TooMany sub_NoVisit_TooMany⟩) (⟨xc_NoOrder, sub_kitF isc_TooMany ty_TooMany sub_TooMany_TooMany sub_NoOrder_TooMany⟩) (⟨xc_NoWord, sub_kitF isc_TooMany ty_TooMany sub_TooMany_TooMany sub_NoWord_TooMany⟩) (⟨xc_NoFit, sub_kitF isc_TooMany ty_TooMany sub_TooMany_TooMany sub_NoFit_TooMany⟩) (⟨xc_TooMany, sub_kitT isc_TooMany ty_TooMany sub_TooMany_TooMany⟩),
      isE_ValueError := isE_mk_ValueError (⟨xc_LampError, sub_kitV sv_LampError⟩) (⟨xc_BadProgram, sub_kitV sv_BadProgram⟩) (⟨xc_BadText, sub_kitV sv_BadText⟩) (⟨xc_BadNumber, sub_kitV sv_BadNumber⟩) (⟨xc_NoColour, sub_kitV sv_NoColour⟩) (⟨xc_NoStanding, sub_kitV sv_NoStanding⟩) (⟨xc_NoVisit, sub_kitV sv_NoVisit⟩) (⟨xc_NoOrder, sub_kitV sv_NoOrder⟩) (⟨xc_NoWord, sub_kitV sv_NoWord⟩) (⟨xc_NoFit, sub_kitV sv_NoFit⟩) (⟨xc_TooMany, sub_kitV sv_TooMany⟩),
      xv_at := (fun c h => by
        simp only [xvp_at, Bool.or_eq_true, beq_iff_eq] at h
        subst h
        exact ⟨⟨ga_NoOrder, gg_NoOrder, eb_NoOrder, hd_NoOrder⟩, xn_NoOrder_at⟩),
      xv_line := (fun c h => by
        simp only [xvp_line, Bool.or_eq_true, beq_iff_eq] at h
        subst h
        exact ⟨⟨ga_BadText, gg_BadText, eb_BadText, hd_BadText⟩, xn_BadText_line⟩),
      xv_most := (fun c h => by
        simp only [xvp_most, Bool.or_eq_true, beq_iff_eq] at h
        subst h
        exact ⟨⟨ga_TooMany, gg_TooMany, eb_TooMany, hd_TooMany⟩, xn_TooMany_most⟩),
      xv_value := (fun c h => by
        simp only [xvp_value, Bool.or_eq_true, beq_iff_eq] at h
        subst h
        exact ⟨⟨ga_BadNumber, gg_BadNumber, eb_BadNumber, hd_BadNumber⟩, xn_BadNumber_value⟩),
      xv_what := (fun c h => by
        simp only [xvp_what, Bool.or_eq_true, beq_iff_eq] at h
        rcases h with rfl | rfl
        · exact ⟨⟨ga_BadProgram, gg_BadProgram, eb_BadProgram, hd_BadProgram⟩, xn_BadProgram_what⟩
        · exact ⟨⟨ga_BadText, gg_BadText, eb_BadText, hd_BadText⟩, xn_BadText_what⟩),
      a__law_pot := A__law_pot,
      d__law_pot := _,
      F__law_pot := F__law_pot,
      B__law_pot := B__law_pot,
      m__law_pot := PySem.W.mg_of X G n__law_pot,
      a__law_draw := A__law_draw,
      d__law_draw := _,
      F__law_draw := F__law_draw,
      B__law_draw := B__law_draw,
      m__law_draw := PySem.W.mg_of X G n__law_draw,
      a__law_pick := A__law_pick,
      d__law_pick := _,
      F__law_pick := F__law_pick,
      B__law_pick := B__law_pick,
      m__law_pick := PySem.W.mg_of X G n__law_pick,
      a__law_thing := A__law_thing,
      d__law_thing := _,
      F__law_thing := F__law_thing,
      B__law_thing := B__law_thing,
      m__law_thing := PySem.W.mg_of X G n__law_thing,
      a__law_kinds := A__law_kinds,
      d__law_kinds := _,
      F__law_kinds := F__law_kinds,
      B__law_kinds := B__law_kinds,
      m__law_kinds := PySem.W.mg_of X G n__law_kinds,
      a__law_rows := A__law_rows,
      d__law_rows := _,
      F__law_rows := F__law_rows,
      B__law_rows := B__law_rows,
      m__law_rows := PySem.W.mg_of X G n__law_rows,
      a__law_told_of := A__law_told_of,
      d__law_told_of := _,
      F__law_told_of := F__law_told_of,
      B__law_told_of := B__law_told_of,
      m__law_told_of := PySem.W.mg_of X G n__law_told_of,
      a_law := fa,
      d_law := _,
      F_law := F_law,
      B_law := B_law,
      m_law := PySem.W.mg_of X G n_law,
      z_ValueError := PySem.W.mg_none_of X G z_ValueError,
      z_abs := PySem.W.mg_none_of X G z_abs,
      z_enumerate := PySem.W.mg_none_of X G z_enumerate,
      z_int := PySem.W.mg_none_of X G z_int,
      z_isinstance := PySem.W.mg_none_of X G z_isinstance,
      z_len := PySem.W.mg_none_of X G z_len,
      z_range := PySem.W.mg_none_of X G z_range,
      z_repr := PySem.W.mg_none_of X G z_repr }, rfl, fun s v => .of_eq rfl⟩
def spLaw (K : PySem.W.Frag) : Sp := fun vs H Q _ => ∃ (a : Addr) (ns : List Int), vs = [.ref a] ∧ ns.length ≤ 63 ∧ Only H ∧ SqL K H a (ns.map V.int) ∧ ∀ H', Q (.bl true) H'
theorem end_ok {K : PySem.W.Frag} {tb : Nat → Addr} {P : Program} {w : World} {mg : Str → Option Value} {base : Heap} {k : Nat} {f : Addr} {fd : FuncData} {g : F} (h : FnOk P w K mg base (L2.CX P w) k f fd ["script"] (spF ⟨K, tb, none, []⟩ g))
    (hg : ∀ ns : List Int, ns.length ≤ 63 → ∃ st, g [.scr ns] [] = .ok (.bl true) st) : FnOk P w K mg base (L2.CX P w) k f fd ["script"] (spLaw K) := h.imp fun vs H Q E q => by
  obtain ⟨a, ns, rfl, hl, hO, hS, q⟩ := q
  obtain ⟨st, e⟩ := hg ns hl
  refine ⟨[], [], [.scr ns], ⟨rfl, List.nodup_nil, (fun i a c h _ => by simp at h), (fun a d fs z => by cases z), fun p hp => absurd hp (by simp)⟩, ?_, ?_⟩
  · simp only [RVs, RV]
    refine ⟨_, _, rfl, ⟨a, rfl, ?_⟩, rfl⟩
    rcases hS with (hS | ⟨o, hS⟩) | hS
    · rcases hO a with z | ⟨o, xs, z⟩
      · rw [z] at hS; cases hS
      · rw [z] at hS; cases hS
    · exact .inl ⟨o, hS⟩
    · exact .inr hS
  · rw [e]
    intro v m1 H1 _ _ r
    simp only [RV] at r
    subst r
    exact q H1
end K00

namespace K00
open PySem PySem.Spec PyProof.Rows L2 LF
local macro_rules | `(tactic| walk_at "wp") => `(tactic| repeat walk_at "w1")
local macro_rules | `(tactic| walk_at "fld") => `(tactic| repeat walk_at "f1")
local macro_rules
  | `(tactic| walk_at "w1") => `(tactic| with_reducible refine r_owp_iteF (by first | decide | assumption | (exact r_decF (by assumption)) | (exact r_decF (by omega)) | (exact r_notF (by assumption)) | (exact r_notF (r_decT (by assumption))) | (exact r_notF (r_decT (by omega))) | omega | (exact r_notF (by with_unfolding_all rfl)) | (simp [LF.isNon]; done) | (simp; omega)) ?_)
  | `(tactic| walk_at "f1") => `(tactic| with_reducible refine r_owp_iteF (by first | decide | assumption | (exact r_decF (by assumption)) | (exact r_decF (by omega)) | (exact r_notF (by assumption)) | (exact r_notF (r_decT (by assumption))) | (exact r_notF (r_decT (by omega))) | omega | (exact r_notF (by with_unfolding_all rfl)) | (simp [LF.isNon]; done) | (simp; omega)) ?_)
local macro_rules
  | `(tactic| walk_at "w1") => `(tactic| with_reducible refine r_owp_iteT (by first | decide | assumption | (exact tyOk_list (by assumption)) | (exact tyOk_str) | (exact r_decT (by assumption)) | (exact r_decT (by omega)) | (exact r_notT (by assumption)) | (exact r_notT (r_decF (by assumption))) | (exact r_notT (r_decF (by omega))) | omega | (with_unfolding_all rfl) | (simp [LF.isNon]; done) | (simp; omega)) ?_)
  | `(tactic| walk_at "f1") => `(tactic| with_reducible refine r_owp_iteT (by first | decide | assumption | (exact tyOk_list (by assumption)) | (exact tyOk_str) | (exact r_decT (by assumption)) | (exact r_decT (by omega)) | (exact r_notT (by assumption)) | (exact r_notT (r_decF (by assumption))) | (exact r_notT (r_decF (by omega))) | omega | (with_unfolding_all rfl) | (simp [LF.isNon]; done) | (simp; omega)) ?_)
local macro_rules
  | `(tactic| walk_at "w1") => `(tactic| with_reducible refine r_wp_iteF (by first | decide | assumption | (exact r_decF (by assumption)) | (exact r_decF (by omega)) | (exact r_notF (by assumption)) | (exact r_notF (r_decT (by assumption))) | (exact r_notF (r_decT (by omega))) | omega | (exact r_notF (by with_unfolding_all rfl)) | (simp [LF.isNon]; done) | (simp; omega)) ?_)
  | `(tactic| walk_at "f1") => `(tactic| with_reducible refine r_wp_iteF (by first | decide | assumption | (exact r_decF (by assumption)) | (exact r_decF (by omega)) | (exact r_notF (by assumption)) | (exact r_notF (r_decT (by assumption))) | (exact r_notF (r_decT (by omega))) | omega | (exact r_notF (by with_unfolding_all rfl)) | (simp [LF.isNon]; done) | (simp; omega)) ?_)
local macro_rules
  | `(tactic| walk_at "w1") => `(tactic| with_reducible refine r_wp_iteT (by first | decide | assumption | (exact tyOk_list (by assumption)) | (exact tyOk_str) | (exact r_decT (by assumption)) | (exact r_decT (by omega)) | (exact r_notT (by assumption)) | (exact r_notT (r_decF (by assumption))) | (exact r_notT (r_decF (by omega))) | omega | (with_unfolding_all rfl) | (simp [LF.isNon]; done) | (simp; omega)) ?_)
  | `(tactic| walk_at "f1") => `(tactic| with_reducible refine r_wp_iteT (by first | decide | assumption | (exact tyOk_list (by assumption)) | (exact tyOk_str) | (exact r_decT (by assumption)) | (exact r_decT (by omega)) | (exact r_notT (by assumption)) | (exact r_notT (r_decF (by assumption))) | (exact r_notT (r_decF (by omega))) | omega | (with_unfolding_all rfl) | (simp [LF.isNon]; done) | (simp; omega)) ?_)
local macro_rules
  | `(tactic| walk_at "w1") => `(tactic| with_reducible refine r_p_iteF (by first | decide | assumption | (exact r_decF (by assumption)) | (exact r_decF (by omega)) | (exact r_notF (by assumption)) | (exact r_notF (r_decT (by assumption))) | (exact r_notF (r_decT (by omega))) | omega | (exact r_notF (by with_unfolding_all rfl)) | (simp [LF.isNon]; done) | (simp; omega)) ?_)
  | `(tactic| walk_at "f1") => `(tactic| with_reducible refine r_p_iteF (by first | decide | assumption | (exact r_decF (by assumption)) | (exact r_decF (by omega)) | (exact r_notF (by assumption)) | (exact r_notF (r_decT (by assumption))) | (exact r_notF (r_decT (by omega))) | omega | (exact r_notF (by with_unfolding_all rfl)) | (simp [LF.isNon]; done) | (simp; omega)) ?_)
local macro_rules
  | `(tactic| walk_at "w1") => `(tactic| with_reducible refine r_p_iteT (by first | decide | assumption | (exact tyOk_list (by assumption)) | (exact tyOk_str) | (exact r_decT (by assumption)) | (exact r_decT (by omega)) | (exact r_notT (by assumption)) | (exact r_notT (r_decF (by assumption))) | (exact r_notT (r_decF (by omega))) | omega | (with_unfolding_all rfl) | (simp [LF.isNon]; done) | (simp; omega)) ?_)
  | `(tactic| walk_at "f1") => `(tactic| with_reducible refine r_p_iteT (by first | decide | assumption | (exact tyOk_list (by assumption)) | (exact tyOk_str) | (exact r_decT (by assumption)) | (exact r_decT (by omega)) | (exact r_notT (by assumption)) | (exact r_notT (r_decF (by assumption))) | (exact r_notT (r_decF (by omega))) | omega | (with_unfolding_all rfl) | (simp [LF.isNon]; done) | (simp; omega)) ?_)
local macro_rules
  | `(tactic| walk_at "w1") => `(tactic| with_reducible refine r_bF (by first | decide | assumption | (exact r_decF (by assumption)) | (exact r_decF (by omega)) | (exact r_notF (by assumption)) | (exact r_notF (r_decT (by assumption))) | (exact r_notF (r_decT (by omega))) | omega | (exact r_notF (by with_unfolding_all rfl)) | (simp [LF.isNon]; done) | (simp; omega)) ?_)
  | `(tactic| walk_at "f1") => `(tactic| with_reducible refine r_bF (by first | decide | assumption | (exact r_decF (by assumption)) | (exact r_decF (by omega)) | (exact r_notF (by assumption)) | (exact r_notF (r_decT (by assumption))) | (exact r_notF (r_decT (by omega))) | omega | (exact r_notF (by with_unfolding_all rfl)) | (simp [LF.isNon]; done) | (simp; omega)) ?_)
local macro_rules
  | `(tactic| walk_at "w1") => `(tactic| with_reducible refine r_bT (by first | decide | assumption | (exact tyOk_list (by assumption)) | (exact tyOk_str) | (exact r_decT (by assumption)) | (exact r_decT (by omega)) | (exact r_notT (by assumption)) | (exact r_notT (r_decF (by assumption))) | (exact r_notT (r_decF (by omega))) | omega | (with_unfolding_all rfl) | (simp [LF.isNon]; done) | (simp; omega)) ?_)
  | `(tactic| walk_at "f1") => `(tactic| with_reducible refine r_bT (by first | decide | assumption | (exact tyOk_list (by assumption)) | (exact tyOk_str) | (exact r_decT (by assumption)) | (exact r_decT (by omega)) | (exact r_notT (by assumption)) | (exact r_notT (r_decF (by assumption))) | (exact r_notT (r_decF (by omega))) | omega | (with_unfolding_all rfl) | (simp [LF.isNon]; done) | (simp; omega)) ?_)
local macro_rules
  | `(tactic| walk_at "w1") => `(tactic| with_reducible refine r_tF (by first | decide | assumption | (exact r_decF (by assumption)) | (exact r_decF (by omega)) | (exact r_notF (by assumption)) | (exact r_notF (r_decT (by assumption))) | (exact r_notF (r_decT (by omega))) | omega | (exact r_notF (by with_unfolding_all rfl)) | (simp [LF.isNon]; done) | (simp; omega)) ?_)
  | `(tactic| walk_at "f1") => `(tactic| with_reducible refine r_tF (by first | decide | assumption | (exact r_decF (by assumption)) | (exact r_decF (by omega)) | (exact r_notF (by assumption)) | (exact r_notF (r_decT (by assumption))) | (exact r_notF (r_decT (by omega))) | omega | (exact r_notF (by with_unfolding_all rfl)) | (simp [LF.isNon]; done) | (simp; omega)) ?_)
local macro_rules
  | `(tactic| walk_at "w1") => `(tactic| with_reducible refine r_tT (by first | decide | assumption | (exact tyOk_list (by assumption)) | (exact tyOk_str) | (exact r_decT (by assumption)) | (exact r_decT (by omega)) | (exact r_notT (by assumption)) | (exact r_notT (r_decF (by assumption))) | (exact r_notT (r_decF (by omega))) | omega | (with_unfolding_all rfl) | (simp [LF.isNon]; done) | (simp; omega)) ?_)
  | `(tactic| walk_at "f1") => `(tactic| with_reducible refine r_tT (by first | decide | assumption | (exact tyOk_list (by assumption)) | (exact tyOk_str) | (exact r_decT (by assumption)) | (exact r_decT (by omega)) | (exact r_notT (by assumption)) | (exact r_notT (r_decF (by assumption))) | (exact r_notT (r_decF (by omega))) | omega | (with_unfolding_all rfl) | (simp [LF.isNon]; done) | (simp; omega)) ?_)
local macro_rules
  | `(tactic| walk_at "w1") => `(tactic| with_reducible refine r_onObj (by assumption) (by with_unfolding_all rfl) ?_)
  | `(tactic| walk_at "f1") => `(tactic| with_reducible refine r_onObj (by assumption) (by with_unfolding_all rfl) ?_)
local macro_rules
  | `(tactic| walk_at "w1") => `(tactic| with_reducible refine r_itL (by assumption) ?_)
  | `(tactic| walk_at "f1") => `(tactic| with_reducible refine r_itL (by assumption) ?_)
local macro_rules
  | `(tactic| walk_at "w1") => `(tactic| with_reducible refine r_onEnL (by assumption) ?_)
  | `(tactic| walk_at "f1") => `(tactic| with_reducible refine r_onEnL (by assumption) ?_)
local macro_rules
  | `(tactic| walk_at "w1") => `(tactic| with_reducible refine r_onLst (by assumption) ?_)
  | `(tactic| walk_at "f1") => `(tactic| with_reducible refine r_onLst (by assumption) ?_)
local macro_rules
  | `(tactic| walk_at "w1") => `(tactic| with_reducible refine r_both (by omega) ?_)
  | `(tactic| walk_at "f1") => `(tactic| with_reducible refine r_both (by omega) ?_)
local macro_rules
  | `(tactic| walk_at "w1") => `(tactic| with_reducible refine w_isiDF (by assumption) (by with_unfolding_all rfl) (by with_unfolding_all rfl) (by decide +kernel) ?_)
  | `(tactic| walk_at "f1") => `(tactic| with_reducible refine w_isiDF (by assumption) (by with_unfolding_all rfl) (by with_unfolding_all rfl) (by decide +kernel) ?_)
local macro_rules
  | `(tactic| walk_at "w1") => `(tactic| with_reducible refine w_isiCF (by assumption) (by with_unfolding_all rfl) (by with_unfolding_all rfl) (by decide +kernel) ?_)
  | `(tactic| walk_at "f1") => `(tactic| with_reducible refine w_isiCF (by assumption) (by with_unfolding_all rfl) (by with_unfolding_all rfl) (by decide +kernel) ?_)
local macro_rules
  | `(tactic| walk_at "w1") => `(tactic| with_reducible refine w_isiRF (by assumption) (by with_unfolding_all rfl) (by with_unfolding_all rfl) (by decide +kernel) ?_)
  | `(tactic| walk_at "f1") => `(tactic| with_reducible refine w_isiRF (by assumption) (by with_unfolding_all rfl) (by with_unfolding_all rfl) (by decide +kernel) ?_)
local macro_rules
  | `(tactic| walk_at "w1") => `(tactic| with_reducible refine w_isiF (by with_unfolding_all rfl) (by decide +kernel) (by with_unfolding_all (intro r h; cases h)) ?_)
  | `(tactic| walk_at "f1") => `(tactic| with_reducible refine w_isiF (by with_unfolding_all rfl) (by decide +kernel) (by with_unfolding_all (intro r h; cases h)) ?_)
local macro_rules
  | `(tactic| walk_at "w1") => `(tactic| with_reducible refine w_isiCT (by assumption) (by with_unfolding_all rfl) (by with_unfolding_all rfl) (by decide +kernel) ?_)
  | `(tactic| walk_at "f1") => `(tactic| with_reducible refine w_isiCT (by assumption) (by with_unfolding_all rfl) (by with_unfolding_all rfl) (by decide +kernel) ?_)
local macro_rules
  | `(tactic| walk_at "w1") => `(tactic| with_reducible refine w_isiRT (by assumption) (by with_unfolding_all rfl) (by with_unfolding_all rfl) (by decide +kernel) ?_)
  | `(tactic| walk_at "f1") => `(tactic| with_reducible refine w_isiRT (by assumption) (by with_unfolding_all rfl) (by with_unfolding_all rfl) (by decide +kernel) ?_)
local macro_rules
  | `(tactic| walk_at "w1") => `(tactic| with_reducible refine w_isiT (by with_unfolding_all rfl) (by decide +kernel) (by with_unfolding_all (intro r h; cases h)) ?_)
  | `(tactic| walk_at "f1") => `(tactic| with_reducible refine w_isiT (by with_unfolding_all rfl) (by decide +kernel) (by with_unfolding_all (intro r h; cases h)) ?_)
local macro_rules
  | `(tactic| walk_at "w1") => `(tactic| with_reducible refine w_mulYI (by omega) ?_)
  | `(tactic| walk_at "f1") => `(tactic| with_reducible refine w_mulYI (by omega) ?_)
local macro_rules
  | `(tactic| walk_at "w1") => `(tactic| with_reducible refine w_mulXI (by omega) ?_)
  | `(tactic| walk_at "f1") => `(tactic| with_reducible refine w_mulXI (by omega) ?_)
local macro_rules
  | `(tactic| walk_at "w1") => `(tactic| with_reducible refine w_mul (by omega) ?_)
  | `(tactic| walk_at "f1") => `(tactic| with_reducible refine w_mul (by omega) ?_)
local macro_rules
  | `(tactic| walk_at "w1") => `(tactic| with_reducible refine w_div (by omega) (by omega) ?_)
  | `(tactic| walk_at "f1") => `(tactic| with_reducible refine w_div (by omega) (by omega) ?_)
local macro_rules
  | `(tactic| walk_at "w1") => `(tactic| with_reducible refine w_mod (by omega) ?_)
  | `(tactic| walk_at "f1") => `(tactic| with_reducible refine w_mod (by omega) ?_)
local macro_rules
  | `(tactic| walk_at "w1") => `(tactic| with_reducible refine w_tupleL (by assumption) ?_)
  | `(tactic| walk_at "f1") => `(tactic| with_reducible refine w_tupleL (by assumption) ?_)
local macro_rules
  | `(tactic| walk_at "w1") => `(tactic| with_reducible refine w_fld (by assumption) (by with_unfolding_all rfl) (by with_unfolding_all rfl) ?_)
  | `(tactic| walk_at "f1") => `(tactic| with_reducible refine w_fld (by assumption) (by with_unfolding_all rfl) (by with_unfolding_all rfl) ?_)
local macro_rules
  | `(tactic| walk_at "w1") => `(tactic| with_reducible refine w_lenL (by assumption) ?_)
  | `(tactic| walk_at "f1") => `(tactic| with_reducible refine w_lenL (by assumption) ?_)
local macro_rules
  | `(tactic| walk_at "w1") => `(tactic| with_reducible refine w_ixT (by with_unfolding_all rfl) ?_)
  | `(tactic| walk_at "f1") => `(tactic| with_reducible refine w_ixT (by with_unfolding_all rfl) ?_)
local macro_rules
  | `(tactic| walk_at "w1") => `(tactic| with_reducible refine w_ixL (by assumption) (by with_unfolding_all rfl) ?_)
  | `(tactic| walk_at "f1") => `(tactic| with_reducible refine w_ixL (by assumption) (by with_unfolding_all rfl) ?_)
local macro_rules
  | `(tactic| walk_at "w1") => `(tactic| with_reducible refine r_var (by with_unfolding_all rfl) ?_)
  | `(tactic| walk_at "f1") => `(tactic| with_reducible refine r_var (by with_unfolding_all rfl) ?_)
local macro_rules
  | `(tactic| walk_at "w1") => `(tactic| ((with_reducible refine r_par3 ?_); (try dsimp only [List.set])))
  | `(tactic| walk_at "f1") => `(tactic| ((with_reducible refine r_par3 ?_); (try dsimp only [List.set])))
local macro_rules
  | `(tactic| walk_at "w1") => `(tactic| ((with_reducible refine r_owp_par ?_); (try dsimp only [List.set])))
  | `(tactic| walk_at "f1") => `(tactic| ((with_reducible refine r_owp_par ?_); (try dsimp only [List.set])))
local macro_rules
  | `(tactic| walk_at "w1") => `(tactic| ((with_reducible refine r_owp_asg ?_); (try dsimp only [List.set])))
  | `(tactic| walk_at "f1") => `(tactic| ((with_reducible refine r_owp_asg ?_); (try dsimp only [List.set])))
local macro_rules
  | `(tactic| walk_at "w1") => `(tactic| with_reducible refine q_iSs ?_)
  | `(tactic| walk_at "f1") => `(tactic| with_reducible refine q_iSs ?_)
local macro_rules
  | `(tactic| walk_at "w1") => `(tactic| with_reducible refine r_onEnT ?_)
  | `(tactic| walk_at "f1") => `(tactic| with_reducible refine r_onEnT ?_)
local macro_rules
  | `(tactic| walk_at "w1") => `(tactic| with_reducible refine q_iEnX ?_)
  | `(tactic| walk_at "f1") => `(tactic| with_reducible refine q_iEnX ?_)
local macro_rules
  | `(tactic| walk_at "w1") => `(tactic| with_reducible refine r_asgT ?_)
  | `(tactic| walk_at "f1") => `(tactic| with_reducible refine r_asgT ?_)
local macro_rules
  | `(tactic| walk_at "w1") => `(tactic| with_reducible refine r_onSeqT ?_)
  | `(tactic| walk_at "f1") => `(tactic| with_reducible refine r_onSeqT ?_)
local macro_rules
  | `(tactic| walk_at "w1") => `(tactic| with_reducible refine r_xstar ?_)
  | `(tactic| walk_at "f1") => `(tactic| with_reducible refine r_xstar ?_)
local macro_rules
  | `(tactic| walk_at "w1") => `(tactic| with_reducible refine r_xcons ?_)
  | `(tactic| walk_at "f1") => `(tactic| with_reducible refine r_xcons ?_)
local macro_rules
  | `(tactic| walk_at "w1") => `(tactic| with_reducible refine r_xnil ?_)
  | `(tactic| walk_at "f1") => `(tactic| with_reducible refine r_xnil ?_)
local macro_rules
  | `(tactic| walk_at "w1") => `(tactic| with_reducible refine r_bltX ?_)
  | `(tactic| walk_at "f1") => `(tactic| with_reducible refine r_bltX ?_)
local macro_rules
  | `(tactic| walk_at "w1") => `(tactic| with_reducible refine w_subBB ?_)
  | `(tactic| walk_at "f1") => `(tactic| with_reducible refine w_subBB ?_)
local macro_rules
  | `(tactic| walk_at "w1") => `(tactic| with_reducible refine w_subBI ?_)
  | `(tactic| walk_at "f1") => `(tactic| with_reducible refine w_subBI ?_)
local macro_rules
  | `(tactic| walk_at "w1") => `(tactic| with_reducible refine w_addBB ?_)
  | `(tactic| walk_at "f1") => `(tactic| with_reducible refine w_addBB ?_)
local macro_rules
  | `(tactic| walk_at "w1") => `(tactic| with_reducible refine w_addBI ?_)
  | `(tactic| walk_at "f1") => `(tactic| with_reducible refine w_addBI ?_)
local macro_rules
  | `(tactic| walk_at "w1") => `(tactic| with_reducible refine w_strBS ?_)
  | `(tactic| walk_at "f1") => `(tactic| with_reducible refine w_strBS ?_)
local macro_rules
  | `(tactic| walk_at "w1") => `(tactic| with_reducible refine w_slT ?_)
  | `(tactic| walk_at "f1") => `(tactic| with_reducible refine w_slT ?_)
local macro_rules
  | `(tactic| walk_at "w1") => `(tactic| with_reducible refine r_try_ex ?_)
  | `(tactic| walk_at "f1") => `(tactic| with_reducible refine r_try_ex ?_)
local macro_rules
  | `(tactic| walk_at "w1") => `(tactic| with_reducible refine r_try_rt ?_)
  | `(tactic| walk_at "f1") => `(tactic| with_reducible refine r_try_rt ?_)
local macro_rules
  | `(tactic| walk_at "w1") => `(tactic| with_reducible refine r_try_nx ?_)
  | `(tactic| walk_at "f1") => `(tactic| with_reducible refine r_try_nx ?_)
local macro_rules
  | `(tactic| walk_at "w1") => `(tactic| with_reducible refine r_try ?_)
  | `(tactic| walk_at "f1") => `(tactic| with_reducible refine r_try ?_)
local macro_rules
  | `(tactic| walk_at "w1") => `(tactic| with_reducible refine r_raise2 ?_)
  | `(tactic| walk_at "f1") => `(tactic| with_reducible refine r_raise2 ?_)
local macro_rules
  | `(tactic| walk_at "w1") => `(tactic| with_reducible refine r_raise1 ?_)
  | `(tactic| walk_at "f1") => `(tactic| with_reducible refine r_raise1 ?_)
local macro_rules
  | `(tactic| walk_at "w1") => `(tactic| with_reducible refine r_raise0 ?_)
  | `(tactic| walk_at "f1") => `(tactic| with_reducible refine r_raise0 ?_)
local macro_rules
  | `(tactic| walk_at "w1") => `(tactic| with_reducible refine w_neg ?_)
  | `(tactic| walk_at "f1") => `(tactic| with_reducible refine w_neg ?_)
local macro_rules
  | `(tactic| walk_at "w1") => `(tactic| with_reducible refine w_neB ?_)
  | `(tactic| walk_at "f1") => `(tactic| with_reducible refine w_neB ?_)
local macro_rules
  | `(tactic| walk_at "w1") => `(tactic| with_reducible refine w_eqB ?_)
  | `(tactic| walk_at "f1") => `(tactic| with_reducible refine w_eqB ?_)
local macro_rules
  | `(tactic| walk_at "w1") => `(tactic| with_reducible refine w_neI ?_)
  | `(tactic| walk_at "f1") => `(tactic| with_reducible refine w_neI ?_)
local macro_rules
  | `(tactic| walk_at "w1") => `(tactic| with_reducible refine w_eqI ?_)
  | `(tactic| walk_at "f1") => `(tactic| with_reducible refine w_eqI ?_)
local macro_rules
  | `(tactic| walk_at "w1") => `(tactic| with_reducible refine w_abs ?_)
  | `(tactic| walk_at "f1") => `(tactic| with_reducible refine w_abs ?_)
local macro_rules
  | `(tactic| walk_at "w1") => `(tactic| with_reducible refine w_strS ?_)
  | `(tactic| walk_at "f1") => `(tactic| with_reducible refine w_strS ?_)
local macro_rules
  | `(tactic| walk_at "w1") => `(tactic| with_reducible refine w_intI ?_)
  | `(tactic| walk_at "f1") => `(tactic| with_reducible refine w_intI ?_)
local macro_rules
  | `(tactic| walk_at "w1") => `(tactic| with_reducible refine w_lenT ?_)
  | `(tactic| walk_at "f1") => `(tactic| with_reducible refine w_lenT ?_)
local macro_rules
  | `(tactic| walk_at "w1") => `(tactic| with_reducible refine w_isNot ?_)
  | `(tactic| walk_at "f1") => `(tactic| with_reducible refine w_isNot ?_)
local macro_rules
  | `(tactic| walk_at "w1") => `(tactic| with_reducible refine w_is ?_)
  | `(tactic| walk_at "f1") => `(tactic| with_reducible refine w_is ?_)
local macro_rules
  | `(tactic| walk_at "w1") => `(tactic| with_reducible refine w_ge ?_)
  | `(tactic| walk_at "f1") => `(tactic| with_reducible refine w_ge ?_)
local macro_rules
  | `(tactic| walk_at "w1") => `(tactic| with_reducible refine w_gt ?_)
  | `(tactic| walk_at "f1") => `(tactic| with_reducible refine w_gt ?_)
local macro_rules
  | `(tactic| walk_at "w1") => `(tactic| with_reducible refine w_le ?_)
  | `(tactic| walk_at "f1") => `(tactic| with_reducible refine w_le ?_)
local macro_rules
  | `(tactic| walk_at "w1") => `(tactic| with_reducible refine w_lt ?_)
  | `(tactic| walk_at "f1") => `(tactic| with_reducible refine w_lt ?_)
local macro_rules
  | `(tactic| walk_at "w1") => `(tactic| with_reducible refine w_sub ?_)
  | `(tactic| walk_at "f1") => `(tactic| with_reducible refine w_sub ?_)
local macro_rules
  | `(tactic| walk_at "w1") => `(tactic| with_reducible refine w_addI ?_)
  | `(tactic| walk_at "f1") => `(tactic| with_reducible refine w_addI ?_)
local macro_rules
  | `(tactic| walk_at "w1") => `(tactic| with_reducible refine r_wo_some ?_)
  | `(tactic| walk_at "f1") => `(tactic| with_reducible refine r_wo_some ?_)
local macro_rules
  | `(tactic| walk_at "w1") => `(tactic| with_reducible refine r_wp_ok ?_)
  | `(tactic| walk_at "f1") => `(tactic| with_reducible refine r_wp_ok ?_)
local macro_rules
  | `(tactic| walk_at "w1") => `(tactic| with_reducible refine r_wp_ofO ?_)
  | `(tactic| walk_at "f1") => `(tactic| with_reducible refine r_wp_ofO ?_)
local macro_rules
  | `(tactic| walk_at "w1") => `(tactic| with_reducible refine r_wp_bind ?_)
  | `(tactic| walk_at "f1") => `(tactic| with_reducible refine r_wp_bind ?_)
local macro_rules
  | `(tactic| walk_at "w1") => `(tactic| with_reducible refine r_itS ?_)
  | `(tactic| walk_at "f1") => `(tactic| with_reducible refine r_itS ?_)
local macro_rules
  | `(tactic| walk_at "w1") => `(tactic| with_reducible refine r_itT ?_)
  | `(tactic| walk_at "f1") => `(tactic| with_reducible refine r_itT ?_)
local macro_rules
  | `(tactic| walk_at "w1") => `(tactic| with_reducible refine r_onNon ?_)
  | `(tactic| walk_at "f1") => `(tactic| with_reducible refine r_onNon ?_)
local macro_rules
  | `(tactic| walk_at "w1") => `(tactic| with_reducible refine r_onStr ?_)
  | `(tactic| walk_at "f1") => `(tactic| with_reducible refine r_onStr ?_)
local macro_rules
  | `(tactic| walk_at "w1") => `(tactic| with_reducible refine r_onInt ?_)
  | `(tactic| walk_at "f1") => `(tactic| with_reducible refine r_onInt ?_)
local macro_rules
  | `(tactic| walk_at "w1") => `(tactic| with_reducible refine r_onBl ?_)
  | `(tactic| walk_at "f1") => `(tactic| with_reducible refine r_onBl ?_)
local macro_rules
  | `(tactic| walk_at "w1") => `(tactic| with_reducible refine q_iEn ?_)
  | `(tactic| walk_at "f1") => `(tactic| with_reducible refine q_iEn ?_)
local macro_rules
  | `(tactic| walk_at "w1") => `(tactic| with_reducible refine q_iR2 ?_)
  | `(tactic| walk_at "f1") => `(tactic| with_reducible refine q_iR2 ?_)
local macro_rules
  | `(tactic| walk_at "w1") => `(tactic| with_reducible refine q_iR1 ?_)
  | `(tactic| walk_at "f1") => `(tactic| with_reducible refine q_iR1 ?_)
local macro_rules
  | `(tactic| walk_at "w1") => `(tactic| with_reducible refine q_iS ?_)
  | `(tactic| walk_at "f1") => `(tactic| with_reducible refine q_iS ?_)
local macro_rules
  | `(tactic| walk_at "w1") => `(tactic| with_reducible refine r_wp_sl ?_)
  | `(tactic| walk_at "f1") => `(tactic| with_reducible refine r_wp_sl ?_)
local macro_rules
  | `(tactic| walk_at "w1") => `(tactic| with_reducible refine q_part ?_)
  | `(tactic| walk_at "f1") => `(tactic| with_reducible refine q_part ?_)
local macro_rules
  | `(tactic| walk_at "w1") => `(tactic| with_reducible refine r_wp_partN ?_)
  | `(tactic| walk_at "f1") => `(tactic| with_reducible refine r_wp_partN ?_)
local macro_rules
  | `(tactic| walk_at "w1") => `(tactic| with_reducible refine q_join ?_)
  | `(tactic| walk_at "f1") => `(tactic| with_reducible refine q_join ?_)
local macro_rules
  | `(tactic| walk_at "w1") => `(tactic| with_reducible refine r_wp_joinN ?_)
  | `(tactic| walk_at "f1") => `(tactic| with_reducible refine r_wp_joinN ?_)
local macro_rules
  | `(tactic| walk_at "w1") => `(tactic| with_reducible refine q_fmt ?_)
  | `(tactic| walk_at "f1") => `(tactic| with_reducible refine q_fmt ?_)
local macro_rules
  | `(tactic| walk_at "w1") => `(tactic| with_reducible refine q_make ?_)
  | `(tactic| walk_at "f1") => `(tactic| with_reducible refine q_make ?_)
local macro_rules
  | `(tactic| walk_at "w1") => `(tactic| with_reducible refine q_meth ?_)
  | `(tactic| walk_at "f1") => `(tactic| with_reducible refine q_meth ?_)
local macro_rules
  | `(tactic| walk_at "w1") => `(tactic| with_reducible refine r_wp_mt ?_)
  | `(tactic| walk_at "f1") => `(tactic| with_reducible refine r_wp_mt ?_)
local macro_rules
  | `(tactic| walk_at "w1") => `(tactic| with_reducible refine r_wp_call ?_)
  | `(tactic| walk_at "f1") => `(tactic| with_reducible refine r_wp_call ?_)
local macro_rules
  | `(tactic| walk_at "w1") => `(tactic| with_reducible refine q_chain ?_)
  | `(tactic| walk_at "f1") => `(tactic| with_reducible refine q_chain ?_)
local macro_rules
  | `(tactic| walk_at "w1") => `(tactic| with_reducible refine q_eNot ?_)
  | `(tactic| walk_at "f1") => `(tactic| with_reducible refine q_eNot ?_)
local macro_rules
  | `(tactic| walk_at "w1") => `(tactic| with_reducible refine q_eOr ?_)
  | `(tactic| walk_at "f1") => `(tactic| with_reducible refine q_eOr ?_)
local macro_rules
  | `(tactic| walk_at "w1") => `(tactic| with_reducible refine q_eAnd ?_)
  | `(tactic| walk_at "f1") => `(tactic| with_reducible refine q_eAnd ?_)
local macro_rules
  | `(tactic| walk_at "w1") => `(tactic| with_reducible refine r_wp_tYes ?_)
  | `(tactic| walk_at "f1") => `(tactic| with_reducible refine r_wp_tYes ?_)
local macro_rules
  | `(tactic| walk_at "w1") => `(tactic| with_reducible refine r_wp_tNot ?_)
  | `(tactic| walk_at "f1") => `(tactic| with_reducible refine r_wp_tNot ?_)
local macro_rules
  | `(tactic| walk_at "w1") => `(tactic| with_reducible refine r_wp_tOr ?_)
  | `(tactic| walk_at "f1") => `(tactic| with_reducible refine r_wp_tOr ?_)
local macro_rules
  | `(tactic| walk_at "w1") => `(tactic| with_reducible refine r_wp_tAnd ?_)
  | `(tactic| walk_at "f1") => `(tactic| with_reducible refine r_wp_tAnd ?_)
local macro_rules
  | `(tactic| walk_at "w1") => `(tactic| with_reducible refine q_tTru ?_)
  | `(tactic| walk_at "f1") => `(tactic| with_reducible refine q_tTru ?_)
local macro_rules
  | `(tactic| walk_at "w1") => `(tactic| with_reducible refine q_asB ?_)
  | `(tactic| walk_at "f1") => `(tactic| with_reducible refine q_asB ?_)
local macro_rules
  | `(tactic| walk_at "w1") => `(tactic| with_reducible refine r_wp_if ?_)
  | `(tactic| walk_at "f1") => `(tactic| with_reducible refine r_wp_if ?_)
local macro_rules
  | `(tactic| walk_at "w1") => `(tactic| with_reducible refine r_wp_c ?_)
  | `(tactic| walk_at "f1") => `(tactic| with_reducible refine r_wp_c ?_)
local macro_rules
  | `(tactic| walk_at "w1") => `(tactic| with_reducible refine r_wp_nil ?_)
  | `(tactic| walk_at "f1") => `(tactic| with_reducible refine r_wp_nil ?_)
local macro_rules
  | `(tactic| walk_at "w1") => `(tactic| with_reducible refine r_wp_cons ?_)
  | `(tactic| walk_at "f1") => `(tactic| with_reducible refine r_wp_cons ?_)
local macro_rules
  | `(tactic| walk_at "w1") => `(tactic| with_reducible refine r_wp_blt ?_)
  | `(tactic| walk_at "f1") => `(tactic| with_reducible refine r_wp_blt ?_)
local macro_rules
  | `(tactic| walk_at "w1") => `(tactic| with_reducible refine r_wp_un ?_)
  | `(tactic| walk_at "f1") => `(tactic| with_reducible refine r_wp_un ?_)
local macro_rules
  | `(tactic| walk_at "w1") => `(tactic| with_reducible refine r_wp_bin ?_)
  | `(tactic| walk_at "f1") => `(tactic| with_reducible refine r_wp_bin ?_)
local macro_rules
  | `(tactic| walk_at "w1") => `(tactic| with_reducible refine r_owp_out ?_)
  | `(tactic| walk_at "f1") => `(tactic| with_reducible refine r_owp_out ?_)
local macro_rules
  | `(tactic| walk_at "w1") => `(tactic| with_reducible refine r_owp_rt ?_)
  | `(tactic| walk_at "f1") => `(tactic| with_reducible refine r_owp_rt ?_)
local macro_rules
  | `(tactic| walk_at "w1") => `(tactic| with_reducible refine r_owp_nx ?_)
  | `(tactic| walk_at "f1") => `(tactic| with_reducible refine r_owp_nx ?_)
local macro_rules
  | `(tactic| walk_at "w1") => `(tactic| with_reducible refine r_owp_for ?_)
  | `(tactic| walk_at "f1") => `(tactic| with_reducible refine r_owp_for ?_)
local macro_rules
  | `(tactic| walk_at "w1") => `(tactic| with_reducible refine r_owp_setF ?_)
  | `(tactic| walk_at "f1") => `(tactic| with_reducible refine r_owp_setF ?_)
local macro_rules
  | `(tactic| walk_at "w1") => `(tactic| with_reducible refine r_owp_setIx ?_)
  | `(tactic| walk_at "f1") => `(tactic| with_reducible refine r_owp_setIx ?_)
local macro_rules
  | `(tactic| walk_at "w1") => `(tactic| with_reducible refine r_owp_cnt ?_)
  | `(tactic| walk_at "f1") => `(tactic| with_reducible refine r_owp_cnt ?_)
local macro_rules
  | `(tactic| walk_at "w1") => `(tactic| with_reducible refine r_owp_brk ?_)
  | `(tactic| walk_at "f1") => `(tactic| with_reducible refine r_owp_brk ?_)
local macro_rules
  | `(tactic| walk_at "w1") => `(tactic| with_reducible refine r_owp_skip ?_)
  | `(tactic| walk_at "f1") => `(tactic| with_reducible refine r_owp_skip ?_)
local macro_rules
  | `(tactic| walk_at "w1") => `(tactic| with_reducible refine r_owp_expr ?_)
  | `(tactic| walk_at "f1") => `(tactic| with_reducible refine r_owp_expr ?_)
local macro_rules
  | `(tactic| walk_at "w1") => `(tactic| with_reducible refine r_owp_ret ?_)
  | `(tactic| walk_at "f1") => `(tactic| with_reducible refine r_owp_ret ?_)
local macro_rules
  | `(tactic| walk_at "w1") => `(tactic| with_reducible refine r_owp_if ?_)
  | `(tactic| walk_at "f1") => `(tactic| with_reducible refine r_owp_if ?_)
local macro_rules
  | `(tactic| walk_at "w1") => `(tactic| with_reducible refine r_owp_seq ?_)
local macro_rules
  | `(tactic| walk_at "w1") => `(tactic| with_reducible refine r_fn_ex ?_)
  | `(tactic| walk_at "f1") => `(tactic| with_reducible refine r_fn_ex ?_)
local macro_rules
  | `(tactic| walk_at "w1") => `(tactic| with_reducible refine r_fn_rt ?_)
  | `(tactic| walk_at "f1") => `(tactic| with_reducible refine r_fn_rt ?_)
local macro_rules
  | `(tactic| walk_at "w1") => `(tactic| with_reducible refine r_fn_nx ?_)
  | `(tactic| walk_at "f1") => `(tactic| with_reducible refine r_fn_nx ?_)
local macro_rules
  | `(tactic| walk_at "w1") => `(tactic| with_reducible refine r_loop_ex ?_)
  | `(tactic| walk_at "f1") => `(tactic| with_reducible refine r_loop_ex ?_)
local macro_rules
  | `(tactic| walk_at "w1") => `(tactic| with_reducible refine r_loop_ct ?_)
  | `(tactic| walk_at "f1") => `(tactic| with_reducible refine r_loop_ct ?_)
local macro_rules
  | `(tactic| walk_at "w1") => `(tactic| with_reducible refine r_loop_bk ?_)
  | `(tactic| walk_at "f1") => `(tactic| with_reducible refine r_loop_bk ?_)
local macro_rules
  | `(tactic| walk_at "w1") => `(tactic| with_reducible refine r_loop_rt ?_)
  | `(tactic| walk_at "f1") => `(tactic| with_reducible refine r_loop_rt ?_)
local macro_rules
  | `(tactic| walk_at "w1") => `(tactic| with_reducible refine r_loop_nx ?_)
  | `(tactic| walk_at "f1") => `(tactic| with_reducible refine r_loop_nx ?_)
local macro_rules
  | `(tactic| walk_at "w1") => `(tactic| with_reducible refine r_seq_ex ?_)
  | `(tactic| walk_at "f1") => `(tactic| with_reducible refine r_seq_ex ?_)
local macro_rules
  | `(tactic| walk_at "w1") => `(tactic| with_reducible refine r_seq_ct ?_)
  | `(tactic| walk_at "f1") => `(tactic| with_reducible refine r_seq_ct ?_)
local macro_rules
  | `(tactic| walk_at "w1") => `(tactic| with_reducible refine r_seq_bk ?_)
  | `(tactic| walk_at "f1") => `(tactic| with_reducible refine r_seq_bk ?_)
local macro_rules
  | `(tactic| walk_at "w1") => `(tactic| with_reducible refine r_seq_rt ?_)
  | `(tactic| walk_at "f1") => `(tactic| with_reducible refine r_seq_rt ?_)
local macro_rules
  | `(tactic| walk_at "w1") => `(tactic| with_reducible refine r_seq_nx ?_)
local macro_rules | `(tactic| walk_at "fn") => `(tactic| (refine wp_fn rfl ?_; dsimp only [List.map_cons, List.map_nil, List.cons_append, List.nil_append, List.replicate, List.map, Nat.reduceSub]))

/-! ### the pot -/
structure Pot (st : Sto) (p : Nat) (q : Nat) (ns : List Int) : Prop where
  ex : ∃ a b c : Int, st[p]? = some (.lst [.ref q, .int a, .int b, .int c]) ∧ 0 ≤ a ∧ 0 ≤ b ∧ b < 2147483647 ∧ 0 ≤ c
  at_q : st[q]? = some (.lst (ns.map D.int))
  ne : q ≠ p
  le : ns.length ≤ 63
  nn : ∀ n ∈ ns, 0 ≤ n
theorem Pot.of {st s : Sto} {p q : Nat} {ns : List Int} (P : Pot st p q ns) {a b c : Int} (h : s[p]? = some (.lst [.ref q, .int a, .int b, .int c])) (k : Chg [p] st s) (ha : 0 ≤ a) (hb : 0 ≤ b) (hb2 : b < 2147483647) (hc : 0 ≤ c) : Pot s p q ns :=
  ⟨⟨a, b, c, h, ha, hb, hb2, hc⟩, k.get (by simpa using P.ne) P.at_q, P.ne, P.le, P.nn⟩
theorem Pot.keep {st s : Sto} {p q : Nat} {ns : List Int} (P : Pot st p q ns) (k : Chg [] st s) : Pot s p q ns := by
  obtain ⟨⟨a, b, c, hp, ha, hb, hb2, hc⟩, hq, hne, hle, hnn⟩ := P
  exact ⟨⟨a, b, c, k.get0 hp, ha, hb, hb2, hc⟩, k.get0 hq, hne, hle, hnn⟩
theorem atI_map {ns : List Int} {a : Int} (h0 : 0 ≤ a) (h1 : a < ns.length) : ∃ x ∈ ns, atI (ns.map D.int) a = some (.int x) := by
  have h2 : a.toNat < ns.length := by omega
  refine ⟨ns[a.toNat], List.getElem_mem h2, ?_⟩
  unfold atI ixN
  rw [if_pos h0, if_pos (by simpa using h1)]
  simp [h2]
theorem law_draw {st : Sto} {p q : Nat} {ns : List Int} {m : Int} (P : Pot st p q ns) (h0 : 1 ≤ m) (h1 : m < 100000) {X : XP} :
    Wp X (fun d s => ∃ r : Nat, d = .int r ∧ (r : Int) < m ∧ Pot s p q ns ∧ Chg [p] st s) (f__law_draw [.ref p, .int m] st) := by
  have P0 := P
  obtain ⟨⟨a, b, c, hp, ha, hb, hb2, hc⟩, hq, hne, hle, hnn⟩ := P
  have hmod : ∀ x : Int, ∃ r : Nat, x % m = r ∧ (r : Int) < m := fun x => ⟨(x % m).toNat, by have := Int.emod_nonneg x (show m ≠ 0 by omega); omega, by have := Int.emod_lt_of_pos x (show 0 < m by omega); have := Int.emod_nonneg x (show m ≠ 0 by omega); omega⟩
  have hm0 : 0 < m := by omega
  have hm1 : m < 1073741824 := by omega
  walk_at "fn"
  unfold b__law_draw
  by_cases c1 : m < 2
  · walk_at "wp"
    exact ⟨0, rfl, by omega, P0, Chg.refl⟩
  by_cases c2 : 0 < c
  · walk_at "wp"
    refine wo_setIx hp (by rfl) fun s hs k => ?_
    walk_at "wp"
    obtain ⟨r, e, hr⟩ := hmod c
    exact ⟨r, by rw [e], hr, P0.of hs k ha hb hb2 (Int.ediv_nonneg hc (by omega)), k⟩
  by_cases c3 : a < (ns.map D.int).length
  · obtain ⟨x, hx, ex⟩ := atI_map (ns := ns) ha (by simpa using c3)
    have hx0 := hnn x hx
    walk_at "wp"
    refine w_ixL hq ex ?_
    walk_at "wp"
    refine wo_setIx hp (by rfl) fun s2 hs2 k => ?_
    walk_at "wp"
    refine w_pow ⟨by decide, by decide, by decide⟩ ?_
    walk_at "wp"
    refine r_owp_ite (fun c4 => ?_) (fun c4 => ?_)
    · walk_at "wp"
      refine wo_setIx hs2 (by rfl) fun s3 hs3 k3 => ?_
      walk_at "wp"
      obtain ⟨r, e, hr⟩ := hmod x
      exact ⟨r, by rw [e], hr, P0.of hs3 (k.trans k3) (by omega) hb hb2 (Int.ediv_nonneg hx0 (by omega)), k.trans k3⟩
    · walk_at "wp"
      refine wo_setIx hs2 (by rfl) fun s9 hs9 k9 => ?_
      walk_at "wp"
      obtain ⟨r, e, hr⟩ := hmod ((b * 48271 + x + 12345) % 2147483647 * ((b * 48271 + x + 12345) % 2147483647) / 64 + (b * 48271 + x + 12345) % 2147483647 / 7)
      exact ⟨r, by rw [e], hr, P0.of hs9 (k.trans k9) (by omega) (by omega) (by omega) hc, (k.trans k9)⟩
  · walk_at "wp"
    refine wo_setIx hp (by rfl) fun s9 hs9 k9 => ?_
    walk_at "wp"
    obtain ⟨r, e, hr⟩ := hmod ((b * 48271 + 0 + 12345) % 2147483647 * ((b * 48271 + 0 + 12345) % 2147483647) / 64 + (b * 48271 + 0 + 12345) % 2147483647 / 7)
    exact ⟨r, by rw [e], hr, P0.of hs9 k9 (by omega) (by omega) (by omega) hc, k9⟩
theorem law_pick {st : Sto} {p q l : Nat} {ns : List Int} {ds : List D} (P : Pot st p q ns) (hl : st[l]? = some (.lst ds)) (h1 : 1 ≤ ds.length) (h2 : ds.length < 100000) (hlp : l ≠ p) {X : XP} :
    Wp X (fun d s => d ∈ ds ∧ Pot s p q ns ∧ Chg [p] st s) (f__law_pick [.ref p, .ref l] st) := by
  walk_at "fn"
  unfold b__law_pick
  walk_at "wp"
  refine (law_draw P (by omega) (by omega)).mono ?_
  rintro _ s ⟨r, rfl, hr, P1, k⟩
  have hl1 := k.get (by simpa using hlp) hl
  walk_at "wp"
  have hr2 : r < ds.length := by omega
  refine w_ixL (d := ds[r]) hl1 ?_ ?_
  · unfold atI ixN
    rw [if_pos (by omega), if_pos (by omega)]
    simp
  · exact ⟨List.getElem_mem hr2, P1, k⟩
theorem app_ok {x y : Str} (h : PyData.strOk x = true) (k : PyData.strOk y = true) : PyData.strOk (x ++ y) = true := by
  simp only [PyData.strOk, Array.all_eq_true'] at h k ⊢
  intro c hc
  rw [Str.cps_append] at hc
  rcases Array.mem_append.mp hc with hc | hc
  · exact h c hc
  · exact k c hc
theorem app_len {x y : Str} : (x ++ y).length = x.length + y.length := by
  show (x ++ y).cps.size = x.cps.size + y.cps.size
  rw [Str.cps_append, Array.size_append]
theorem Pot.live {st : Sto} {p q : Nat} {ns : List Int} (P : Pot st p q ns) {l : Nat} (h : st[l]? = none) : l ≠ p := fun e => by
  obtain ⟨_, _, _, hp, _⟩ := P.ex
  rw [e, hp] at h
  cases h

/-! ### things -/
theorem none_back {a b : Sto} {r : Nat} (k : Chg [] a b) (h : b[r]? = none) : a[r]? = none := by
  cases e : a[r]? with
  | none => rfl
  | some c => rw [k.get0 e] at h; cases h
def okP (p : PyData) : Bool := p.showable && (PyData.strOk p.shown && (decide (p.shown.length ≤ 100) && decide (p.depth ≤ 3)))
def Th (st : Sto) (d : D) : Prop := ∃ p, thingD st d = some p ∧ okP p = true
theorem th_pot {st : Sto} {p q : Nat} {ns : List Int} (P : Pot st p q ns) : thingD st (.ref p) = none := by
  obtain ⟨_, _, _, hp, _⟩ := P.ex
  simp only [thingD, hp, mapO, plainD, deep]
  simp
theorem th_keep {st s : Sto} {d : D} {x : PyData} (e : thingD st d = some x) (k : ∀ i c, d = .ref i → st[i]? = some c → s[i]? = some c) : thingD s d = some x := by
  cases d with
  | ref i =>
    simp only [thingD] at e ⊢
    cases hc : st[i]? with
    | none => rw [hc] at e; cases e
    | some c =>
      rw [hc] at e
      rw [k i c rfl hc]
      exact e
  | _ => exact e
theorem Th.keep {st s : Sto} {d : D} (h : Th st d) (k : Chg [] st s) : Th s d := by
  obtain ⟨x, e, o⟩ := h
  exact ⟨x, th_keep e fun i c _ hc => k.get0 hc, o⟩
theorem Th.pot {st s : Sto} {d : D} {p q : Nat} {ns : List Int} (P : Pot st p q ns) (h : Th st d) (k : Chg [p] st s) : Th s d := by
  obtain ⟨x, e, o⟩ := h
  refine ⟨x, th_keep e fun i c hd hc => k.get ?_ hc, o⟩
  simp only [List.mem_singleton]
  rintro rfl
  rw [hd, th_pot P] at e
  cases e
theorem law_thing_ok {st : Sto} {p q : Nat} {ns : List Int} (P : Pot st p q ns) {X : XP} :
    Wp X (fun d s => Th s d ∧ Pot s p q ns ∧ Chg [p] st s) (f__law_thing [.ref p] st) := by
  walk_at "fn"
  unfold b__law_thing
  walk_at "wp"
  refine w_pow ⟨by decide, by decide, by decide⟩ ?_
  walk_at "wp"
  refine w_tup (by simp [LIM]) ?_
  walk_at "wp"
  refine w_tup (by simp [LIM]) ?_
  walk_at "wp"
  refine wo_lst (by simp [LIM]) fun l1 s1 h1 h1n k1 => ?_
  walk_at "wp"
  refine wo_lst (by simp [LIM]) fun l2 s2 h2 h2n k2 => ?_
  walk_at "wp"
  refine r_newD fun l3 s3 h3 h3n k3 => ?_
  walk_at "wp"
  refine q_dS (z := .tup [.int 0]) (fun s => rfl) fun l4 s4 h4 h4n k4 => ?_
  walk_at "wp"
  refine wo_lst (by simp [LIM]) fun L s5 hL hLn k5 => ?_
  walk_at "wp"
  have k15 := k1.trans (k2.trans (k3.trans (k4.trans k5)))
  have P5 := P.keep k15
  refine (law_pick P5 hL (by simp) (by simp) ((P.keep (k1.trans (k2.trans (k3.trans k4)))).live hLn)).mono ?_
  rintro d s ⟨hd, Ps, ks⟩
  refine ⟨?_, Ps, k15.up.trans ks⟩
  refine Th.pot P5 ?_ ks
  have h1 := (k2.trans (k3.trans (k4.trans k5))).get0 h1
  have h2 := (k3.trans (k4.trans k5)).get0 h2
  have h3 := (k4.trans k5).get0 h3
  have h4 := k5.get0 h4
  simp only [List.mem_cons, List.not_mem_nil, or_false] at hd
  rcases hd with rfl | rfl | rfl | rfl | rfl | rfl | rfl | rfl | rfl | rfl | rfl | rfl | rfl | rfl
  · exact ⟨.none, by simp [thingD, plainD, deep, PyData.hasDict], by decide +kernel⟩
  · exact ⟨.bool true, by simp [thingD, plainD, deep, PyData.hasDict], by decide +kernel⟩
  · exact ⟨.int 0, by simp [thingD, plainD, deep, PyData.hasDict], by decide +kernel⟩
  · exact ⟨.int (-3), by simp [thingD, plainD, deep, PyData.hasDict], by decide +kernel⟩
  · exact ⟨.int (10 ^ 39), by simp [thingD, plainD, deep, PyData.hasDict], by decide +kernel⟩
  · exact ⟨.str "", by simp [thingD, plainD, deep, PyData.hasDict], by decide +kernel⟩
  · exact ⟨.str "all", by simp [thingD, plainD, deep, PyData.hasDict], by decide +kernel⟩
  · exact ⟨.str "a b", by simp [thingD, plainD, deep, PyData.hasDict], by decide +kernel⟩
  · exact ⟨.tuple [], by simp [thingD, plainD, deep, mapO, PyData.hasDict, PyData.hasDictAll], by decide +kernel⟩
  · exact ⟨.tuple [.int 1, .str "x"], by simp [thingD, plainD, deep, mapO, PyData.hasDict, PyData.hasDictAll], by decide +kernel⟩
  · exact ⟨.list [], by simp [thingD, h1, mapO, PyData.hasDictAll], by decide +kernel⟩
  · exact ⟨.list [.none], by simp [thingD, h2, mapO, plainD, deep, PyData.hasDict, PyData.hasDictAll], by decide +kernel⟩
  · exact ⟨.dict [], by simp [thingD, h3], by decide +kernel⟩
  · exact ⟨.dict [(.str "a", .tuple [.int 0])], by simp [thingD, h4], by decide +kernel⟩
/-! ### their texts -/
theorem okP_parts {p : PyData} (h : okP p = true) : p.showable = true ∧ PyData.strOk p.shown = true ∧ p.shown.length ≤ 100 ∧ p.depth ≤ 3 := by
  simpa [okP] using h
theorem things_text {st : Sto} {es : List D} (h : ∀ d ∈ es, Th st d) (hl : es.length ≤ 2) :
    ∃ ps, mapO (thingD st) es = some ps ∧ PyData.showableAll ps = true ∧ (listText (PyData.shownAll ps)).length ≤ sizeLine ∧ PyData.depthAll ps ≤ 16 ∧ PyData.strOk (listText (PyData.shownAll ps)) = true := by
  have hb : PyData.strOk ("[" : Str) = true ∧ ("[" : Str).length = 1 := by decide +kernel
  have he : PyData.strOk ("]" : Str) = true ∧ ("]" : Str).length = 1 := by decide +kernel
  have hc : PyData.strOk (", " : Str) = true ∧ (", " : Str).length = 2 := by decide +kernel
  have h0 : PyData.strOk ("" : Str) = true ∧ ("" : Str).length = 0 := by decide +kernel
  match es, h, hl with
  | [], _, _ => exact ⟨[], rfl, by simp [PyData.showableAll], by rw [sizeLine_eq]; decide +kernel, by simp [PyData.depthAll], by decide +kernel⟩
  | [x], h, _ =>
    obtain ⟨p, e, o⟩ := h x (by simp)
    obtain ⟨o1, o2, o3, o4⟩ := okP_parts o
    refine ⟨[p], by simp only [mapO, e], by simp [PyData.showableAll, o1], ?_, by simp only [PyData.depthAll]; omega, ?_⟩
    · show ((("[" : Str) ++ ("" : Str) ++ p.shown) ++ ("]" : Str)).length ≤ sizeLine
      rw [sizeLine_eq]
      simp only [app_len, hb.2, he.2, h0.2]
      omega
    · show PyData.strOk ((("[" : Str) ++ ("" : Str) ++ p.shown) ++ ("]" : Str)) = true
      exact app_ok (app_ok (app_ok hb.1 h0.1) o2) he.1
  | [x, y], h, _ =>
    obtain ⟨p, e, o⟩ := h x (by simp)
    obtain ⟨o1, o2, o3, o4⟩ := okP_parts o
    obtain ⟨p', e', o'⟩ := h y (by simp)
    obtain ⟨u1, u2, u3, u4⟩ := okP_parts o'
    refine ⟨[p, p'], by simp only [mapO, e, e'], by simp [PyData.showableAll, o1, u1], ?_, by simp only [PyData.depthAll]; omega, ?_⟩
    · show ((((("[" : Str) ++ ("" : Str) ++ p.shown) ++ (", " : Str)) ++ p'.shown) ++ ("]" : Str)).length ≤ sizeLine
      rw [sizeLine_eq]
      simp only [app_len, hb.2, he.2, hc.2, h0.2]
      omega
    · show PyData.strOk ((((("[" : Str) ++ ("" : Str) ++ p.shown) ++ (", " : Str)) ++ p'.shown) ++ ("]" : Str)) = true
      exact app_ok (app_ok (app_ok (app_ok (app_ok hb.1 h0.1) o2) hc.1) u2) he.1
  | _ :: _ :: _ :: _, _, hl => simp at hl
/-! ### kinds, rows, what is told -/
section
variable {st s : Sto} {X : XP}
theorem w_eqSb {Q : D → Sto → Prop} {x y : Str} {b : Bool} (hx : PyData.strOk x = true) (hy : PyData.strOk y = true) (hb : (x == y) = b) (h : Q (.bl b) st) : Wo Q (opEq (.str x) (.str y) st) := w_eqS hx hy (by rw [hb]; exact h)
theorem w_neSb {Q : D → Sto → Prop} {x y : Str} {b : Bool} (hx : PyData.strOk x = true) (hy : PyData.strOk y = true) (hb : (x == y) = b) (h : Q (.bl (!b)) st) : Wo Q (opNe (.str x) (.str y) st) := w_neS hx hy (by rw [hb]; exact h)
def kindsL (c : Nat) : List D := [4, 2, 3, 5, 10, 8, 6, 7, 9, 11].map fun k => D.bl (decide (c = k))
theorem law_kinds_ok {e c : Nat} {fs : List (String × D)} (he : st[e]? = some (.exn c fs)) (hc : c ∈ [1, 2, 3, 4, 5, 6, 7, 8, 9, 10, 11]) :
    Wp X (fun d s => ∃ r, d = .ref r ∧ s[r]? = some (.lst (kindsL c)) ∧ Chg [] st s) (f__law_kinds [.ref e] st) := by
  have a4 : ansE_BadNumber c = some (decide (c = 4)) := by
    simp only [List.mem_cons, List.not_mem_nil, or_false] at hc
    rcases hc with rfl | rfl | rfl | rfl | rfl | rfl | rfl | rfl | rfl | rfl | rfl <;> rfl
  have a2 : ansE_BadProgram c = some (decide (c = 2)) := by
    simp only [List.mem_cons, List.not_mem_nil, or_false] at hc
    rcases hc with rfl | rfl | rfl | rfl | rfl | rfl | rfl | rfl | rfl | rfl | rfl <;> rfl
  have a3 : ansE_BadText c = some (decide (c = 3)) := by
    simp only [List.mem_cons, List.not_mem_nil, or_false] at hc
    rcases hc with rfl | rfl | rfl | rfl | rfl | rfl | rfl | rfl | rfl | rfl | rfl <;> rfl
  have a5 : ansE_NoColour c = some (decide (c = 5)) := by
    simp only [List.mem_cons, List.not_mem_nil, or_false] at hc
    rcases hc with rfl | rfl | rfl | rfl | rfl | rfl | rfl | rfl | rfl | rfl | rfl <;> rfl
  have a10 : ansE_NoFit c = some (decide (c = 10)) := by
    simp only [List.mem_cons, List.not_mem_nil, or_false] at hc
    rcases hc with rfl | rfl | rfl | rfl | rfl | rfl | rfl | rfl | rfl | rfl | rfl <;> rfl
  have a8 : ansE_NoOrder c = some (decide (c = 8)) := by
    simp only [List.mem_cons, List.not_mem_nil, or_false] at hc
    rcases hc with rfl | rfl | rfl | rfl | rfl | rfl | rfl | rfl | rfl | rfl | rfl <;> rfl
  have a6 : ansE_NoStanding c = some (decide (c = 6)) := by
    simp only [List.mem_cons, List.not_mem_nil, or_false] at hc
    rcases hc with rfl | rfl | rfl | rfl | rfl | rfl | rfl | rfl | rfl | rfl | rfl <;> rfl
  have a7 : ansE_NoVisit c = some (decide (c = 7)) := by
    simp only [List.mem_cons, List.not_mem_nil, or_false] at hc
    rcases hc with rfl | rfl | rfl | rfl | rfl | rfl | rfl | rfl | rfl | rfl | rfl <;> rfl
  have a9 : ansE_NoWord c = some (decide (c = 9)) := by
    simp only [List.mem_cons, List.not_mem_nil, or_false] at hc
    rcases hc with rfl | rfl | rfl | rfl | rfl | rfl | rfl | rfl | rfl | rfl | rfl <;> rfl
  have a11 : ansE_TooMany c = some (decide (c = 11)) := by
    simp only [List.mem_cons, List.not_mem_nil, or_false] at hc
    rcases hc with rfl | rfl | rfl | rfl | rfl | rfl | rfl | rfl | rfl | rfl | rfl <;> rfl
  walk_at "fn"
  unfold b__law_kinds
  walk_at "wp"
  refine w_isE he rfl a4 ?_
  walk_at "wp"
  refine w_isE he rfl a2 ?_
  walk_at "wp"
  refine w_isE he rfl a3 ?_
  walk_at "wp"
  refine wo_lst (by simp [LIM]) fun l1 s1 h1 h1n k1 => ?_
  have he1 := k1.get0 he
  walk_at "wp"
  refine w_isE he1 rfl a5 ?_
  walk_at "wp"
  refine w_isE he1 rfl a10 ?_
  walk_at "wp"
  refine w_isE he1 rfl a8 ?_
  walk_at "wp"
  refine wo_lst (by simp [LIM]) fun l2 s2 h2 h2n k2 => ?_
  refine wo_addL (k2.get0 h1) h2 (by simp [LIM]) fun l3 s3 h3 h3n k3 => ?_
  have he3 := (k2.trans k3).get0 he1
  walk_at "wp"
  refine w_isE he3 rfl a6 ?_
  walk_at "wp"
  refine w_isE he3 rfl a7 ?_
  walk_at "wp"
  refine w_isE he3 rfl a9 ?_
  walk_at "wp"
  refine wo_lst (by simp [LIM]) fun l4 s4 h4 h4n k4 => ?_
  refine wo_addL (k4.get0 h3) h4 (by simp [LIM]) fun l5 s5 h5 h5n k5 => ?_
  have he5 := (k4.trans k5).get0 he3
  walk_at "wp"
  refine w_isE he5 rfl a11 ?_
  walk_at "wp"
  refine wo_lst (by simp [LIM]) fun l6 s6 h6 h6n k6 => ?_
  refine wo_addL (k6.get0 h5) h6 (by simp [LIM]) fun l7 s7 h7 h7n k7 => ?_
  exact ⟨l7, rfl, by rw [h7]; rfl, ((k1.trans (k2.trans k3)).trans (k4.trans k5)).trans (k6.trans k7)⟩
def tab (a b : D) : List (Nat × List (String × D) × String) := [(4, [("value", a)], "value"), (2, [("what", a)], "what"), (3, [("what", b), ("line", a)], "line what"), (5, [], ""), (10, [], ""), (8, [("at", a)], "at"), (6, [], ""), (7, [], ""), (9, [], ""), (11, [("most", a)], "most")]
def rowsL (es : List Nat) (a b : D) : List D := List.zipWith (fun e x => D.tup [.ref e, .str (Str.ofString x.2.2)]) es (tab a b)
structure Rows (s : Sto) (r : Nat) (es : List Nat) (a b : D) : Prop where
  at_ : s[r]? = some (.lst (rowsL es a b))
  len : es.length = 10
  each : ∀ (i e : Nat) x, es[i]? = some e → (tab a b)[i]? = some x → s[e]? = some (.exn x.1 x.2.1)
theorem Rows.keep {r : Nat} {es : List Nat} {a b : D} (h : Rows st r es a b) (k : Chg [] st s) : Rows s r es a b := ⟨k.get0 h.at_, h.len, fun i e x he hx => k.get0 (h.each i e x he hx)⟩
theorem law_rows_ok {a b : D} : Wp X (fun d s => ∃ r es, d = .ref r ∧ Rows s r es a b ∧ Chg [] st s) (f__law_rows [a, b] st) := by
  walk_at "fn"
  unfold b__law_rows
  walk_at "wp"
  refine q_mkX ?_
  walk_at "wp"
  refine ⟨rfl, fun e0 s0 h0 h0n k0 => ?_⟩
  walk_at "wp"
  refine w_tup (by simp [LIM]) ?_
  walk_at "wp"
  refine q_mkX ?_
  walk_at "wp"
  refine ⟨rfl, fun e1 s1 h1 h1n k1 => ?_⟩
  walk_at "wp"
  refine w_tup (by simp [LIM]) ?_
  walk_at "wp"
  refine q_mkX ?_
  walk_at "wp"
  refine ⟨rfl, fun e2 s2 h2 h2n k2 => ?_⟩
  walk_at "wp"
  refine w_tup (by simp [LIM]) ?_
  walk_at "wp"
  refine q_mkX ?_
  walk_at "wp"
  refine ⟨rfl, fun e3 s3 h3 h3n k3 => ?_⟩
  walk_at "wp"
  refine w_tup (by simp [LIM]) ?_
  walk_at "wp"
  refine q_mkX ?_
  walk_at "wp"
  refine ⟨rfl, fun e4 s4 h4 h4n k4 => ?_⟩
  walk_at "wp"
  refine w_tup (by simp [LIM]) ?_
  walk_at "wp"
  refine wo_lst (by simp [LIM]) fun l1 t1 g1 g1n j1 => ?_
  walk_at "wp"
  refine q_mkX ?_
  walk_at "wp"
  refine ⟨rfl, fun e5 s5 h5 h5n k5 => ?_⟩
  walk_at "wp"
  refine w_tup (by simp [LIM]) ?_
  walk_at "wp"
  refine q_mkX ?_
  walk_at "wp"
  refine ⟨rfl, fun e6 s6 h6 h6n k6 => ?_⟩
  walk_at "wp"
  refine w_tup (by simp [LIM]) ?_
  walk_at "wp"
  refine q_mkX ?_
  walk_at "wp"
  refine ⟨rfl, fun e7 s7 h7 h7n k7 => ?_⟩
  walk_at "wp"
  refine w_tup (by simp [LIM]) ?_
  walk_at "wp"
  refine q_mkX ?_
  walk_at "wp"
  refine ⟨rfl, fun e8 s8 h8 h8n k8 => ?_⟩
  walk_at "wp"
  refine w_tup (by simp [LIM]) ?_
  walk_at "wp"
  refine q_mkX ?_
  walk_at "wp"
  refine ⟨rfl, fun e9 s9 h9 h9n k9 => ?_⟩
  walk_at "wp"
  refine w_tup (by simp [LIM]) ?_
  walk_at "wp"
  refine wo_lst (by simp [LIM]) fun l2 t2 g2 g2n j2 => ?_
  have kb := k5.trans (k6.trans (k7.trans (k8.trans k9)))
  refine wo_addL ((kb.trans j2).get0 g1) g2 (by simp [LIM]) fun r t3 g3 g3n j3 => ?_
  have z9 := j2.trans j3
  have z8 := k9.trans z9
  have z7 := k8.trans z8
  have z6 := k7.trans z7
  have z5 := k6.trans z6
  have z4 := j1.trans (k5.trans z5)
  have z3 := k4.trans z4
  have z2 := k3.trans z3
  have z1 := k2.trans z2
  have z0 := k1.trans z1
  refine ⟨r, [e0, e1, e2, e3, e4, e5, e6, e7, e8, e9], rfl, ⟨by rw [g3]; rfl, rfl, fun i e x he hx => ?_⟩, k0.trans z0⟩
  match i, he, hx with
  | 0, he, hx => cases he; cases hx; exact z0.get0 h0
  | 1, he, hx => cases he; cases hx; exact z1.get0 h1
  | 2, he, hx => cases he; cases hx; exact z2.get0 h2
  | 3, he, hx => cases he; cases hx; exact z3.get0 h3
  | 4, he, hx => cases he; cases hx; exact z4.get0 h4
  | 5, he, hx => cases he; cases hx; exact z5.get0 h5
  | 6, he, hx => cases he; cases hx; exact z6.get0 h6
  | 7, he, hx => cases he; cases hx; exact z7.get0 h7
  | 8, he, hx => cases he; cases hx; exact z8.get0 h8
  | 9, he, hx => cases he; cases hx; exact z9.get0 h9
  | _ + 10, he, hx => cases he
inductive WOk (c : Nat) (fs : List (String × D)) : String → List D → Prop where
  | value (d : D) (hP : xvp_value c = true) (hf : fs.lookup "value" = some d) : WOk c fs "value" [d]
  | what (d : D) (hP : xvp_what c = true) (hf : fs.lookup "what" = some d) : WOk c fs "what" [d]
  | line (d : D) (hP : xvp_line c = true) (hf : fs.lookup "line" = some d) : WOk c fs "line" [d]
  | at_ (d : D) (hP : xvp_at c = true) (hf : fs.lookup "at" = some d) : WOk c fs "at" [d]
  | most (d : D) (hP : xvp_most c = true) (hf : fs.lookup "most" = some d) : WOk c fs "most" [d]
  | no : WOk c fs "" []
abbrev flt (wd : List (String × List D)) : List D := wd.flatMap (·.2)
theorem law_told_ok {e c : Nat} {fs : List (String × D)} {w : Str} {wd : List (String × List D)} (he : st[e]? = some (.exn c fs)) (hl : w.length ≤ 100) (hs : Txt.split w (Str.ofString " ") = wd.map fun x => Str.ofString x.1) (hW : ∀ x ∈ wd, WOk c fs x.1 x.2) (h2 : (flt wd).length ≤ 100) :
    Wp X (fun d s => ∃ r, d = .ref r ∧ s[r]? = some (.lst (flt wd)) ∧ st[r]? = none ∧ Chg [] st s) (f__law_told_of [.ref e, .str w] st) := by
  walk_at "fn"
  unfold b__law_told_of
  walk_at "wp"
  refine wo_lst (by simp [LIM]) fun R s1 hR hRn k1 => ?_
  walk_at "wp"
  refine w_split (by decide +kernel) (by simp only [LIM]; omega) fun q s2 hq hqn k2 => ?_
  rw [hs] at hq
  walk_at "wp"
  refine owp_forS (fun i e' s => ∃ (x3 : Option D), e' = [some (.ref e), some (.str w), some (.ref R), x3] ∧ s[R]? = some (.lst (flt (wd.take i))) ∧ s[q]? = s2[q]? ∧ Chg [] st s) ?_ ?_ ⟨none, rfl, by simpa [flt] using k2.get0 hR, rfl, k1.trans k2⟩
  · rintro i d e' s hd ⟨x3, rfl, hRs, hqs, ks⟩
    rw [List.map_map, List.getElem?_map] at hd
    obtain ⟨x, hx, rfl⟩ := Option.map_eq_some_iff.mp hd
    have hstep : flt (wd.take (i + 1)) = flt (wd.take i) ++ x.2 := by
      rw [List.take_succ, hx]
      simp [flt]
    have hlen : (flt (wd.take i)).length ≤ 100 := by
      refine Nat.le_trans ?_ h2
      have : flt wd = flt (wd.take i) ++ flt (wd.drop i) := by
        unfold flt
        rw [← List.flatMap_append, List.take_append_drop]
      rw [this, List.length_append]
      omega
    have hes := ks.get0 he
    have hqR : q ≠ R := fun z => by
      rw [z] at hqn
      rw [hR] at hqn
      cases hqn
    refine ⟨fun i es e => by cases e; rw [hqs]; exact hq, _, rfl, ?_⟩
    dsimp only [List.set]
    have push : ∀ {d : D}, x.2 = [d] → ∀ {K : Ks} {x3 : Option D}, (∀ t, t[R]? = some (.lst (flt (wd.take (i + 1)))) → t[q]? = s2[q]? → Chg [] st t → K.nx [some (.ref e), some (.str w), some (.ref R), x3] t) → Wo (fun _ t => K.nx [some (.ref e), some (.str w), some (.ref R), x3] t) (opAppend (.ref R) [d] s) := by
      intro d hx2 K x3 kk
      refine wo_append hRs (by simp only [LIM]; omega) fun t ht kt => ?_
      refine kk t (by rw [ht, hstep, hx2]) ?_ (ks.new hRn kt)
      rw [hq] at hqs ⊢
      exact kt.get (by simpa using hqR) hqs
    obtain ⟨w0, ds0⟩ := x
    have hw := hW _ (List.mem_of_getElem? hx)
    dsimp only [Function.comp] at hw ⊢
    cases hw with
    | value d hP hf =>
      walk_at "wp"
      refine w_eqSb (b := true) (by decide +kernel) (by decide +kernel) (by decide +kernel) ?_
      walk_at "wp"
      refine w_xv hes hP hf ?_
      walk_at "wp"
      exact push rfl fun t h1 h2 h3 => ⟨_, rfl, h1, h2, h3⟩
    | what d hP hf =>
      walk_at "wp"
      refine w_eqSb (b := false) (by decide +kernel) (by decide +kernel) (by decide +kernel) ?_
      walk_at "wp"
      refine w_eqSb (b := true) (by decide +kernel) (by decide +kernel) (by decide +kernel) ?_
      walk_at "wp"
      refine w_xv hes hP hf ?_
      walk_at "wp"
      exact push rfl fun t h1 h2 h3 => ⟨_, rfl, h1, h2, h3⟩
    | line d hP hf =>
      walk_at "wp"
      refine w_eqSb (b := false) (by decide +kernel) (by decide +kernel) (by decide +kernel) ?_
      walk_at "wp"
      refine w_eqSb (b := false) (by decide +kernel) (by decide +kernel) (by decide +kernel) ?_
      walk_at "wp"
      refine w_eqSb (b := true) (by decide +kernel) (by decide +kernel) (by decide +kernel) ?_
      walk_at "wp"
      refine w_xv hes hP hf ?_
      walk_at "wp"
      exact push rfl fun t h1 h2 h3 => ⟨_, rfl, h1, h2, h3⟩
    | at_ d hP hf =>
      walk_at "wp"
      refine w_eqSb (b := false) (by decide +kernel) (by decide +kernel) (by decide +kernel) ?_
      walk_at "wp"
      refine w_eqSb (b := false) (by decide +kernel) (by decide +kernel) (by decide +kernel) ?_
      walk_at "wp"
      refine w_eqSb (b := false) (by decide +kernel) (by decide +kernel) (by decide +kernel) ?_
      walk_at "wp"
      refine w_eqSb (b := true) (by decide +kernel) (by decide +kernel) (by decide +kernel) ?_
      walk_at "wp"
      refine w_xv hes hP hf ?_
      walk_at "wp"
      exact push rfl fun t h1 h2 h3 => ⟨_, rfl, h1, h2, h3⟩
    | most d hP hf =>
      walk_at "wp"
      refine w_eqSb (b := false) (by decide +kernel) (by decide +kernel) (by decide +kernel) ?_
      walk_at "wp"
      refine w_eqSb (b := false) (by decide +kernel) (by decide +kernel) (by decide +kernel) ?_
      walk_at "wp"
      refine w_eqSb (b := false) (by decide +kernel) (by decide +kernel) (by decide +kernel) ?_
      walk_at "wp"
      refine w_eqSb (b := false) (by decide +kernel) (by decide +kernel) (by decide +kernel) ?_
      walk_at "wp"
      refine w_eqSb (b := true) (by decide +kernel) (by decide +kernel) (by decide +kernel) ?_
      walk_at "wp"
      refine w_xv hes hP hf ?_
      walk_at "wp"
      exact push rfl fun t h1 h2 h3 => ⟨_, rfl, h1, h2, h3⟩
    | no =>
      walk_at "wp"
      refine w_eqSb (b := false) (by decide +kernel) (by decide +kernel) (by decide +kernel) ?_
      walk_at "wp"
      refine w_eqSb (b := false) (by decide +kernel) (by decide +kernel) (by decide +kernel) ?_
      walk_at "wp"
      refine w_eqSb (b := false) (by decide +kernel) (by decide +kernel) (by decide +kernel) ?_
      walk_at "wp"
      refine w_eqSb (b := false) (by decide +kernel) (by decide +kernel) (by decide +kernel) ?_
      walk_at "wp"
      refine w_eqSb (b := false) (by decide +kernel) (by decide +kernel) (by decide +kernel) ?_
      walk_at "wp"
      exact ⟨_, rfl, by rw [hstep, List.append_nil]; exact hRs, hqs, ks⟩
  · rintro e' s ⟨x3, rfl, hRs, hqs, ks⟩
    refine ⟨fun i es e => by cases e; rw [hqs]; exact hq, ?_⟩
    rw [List.length_map, List.length_map, List.take_length] at hRs
    walk_at "wp"
    exact ⟨R, rfl, hRs, hRn, ks⟩
end
/-! ### the law -/
noncomputable def s2 : Sm := sSeq (sIf (tOr' (tNot' (tTru (eBlt (opIsE (.glo 1) ansE_LampError) [eVar 9, eC (.glo 1)]))) (tNot' (tTru (eBlt (opIsE (.ty "ValueError") ansE_ValueError) [eVar 9, eC (.ty "ValueError")])))) (sRet (eC (.bl false))) (sSkip)) (sSeq (sIf (asB (eBin opNe (eCall (f__law_kinds) [eVar 9]) (eLc [13] (iR1 (eBlt opLen [eVar 5])) (.name 13) (tYes') (eBin opEq (eVar 13) (eVar 7))))) (sRet (eC (.bl false))) (sSkip)) (sSeq (sIf (asB (eBin opNe (eBlt opReprL [eCall (f__law_told_of) [eVar 9, eVar 10]]) (eBlt opReprL [eVar 11]))) (sRet (eC (.bl false))) (sSkip)) (sIf (asB (eBin opNe (eBlt opReprL [eCall (f__law_told_of) [eBin opIx (eBin opIx (eVar 6) (eVar 7)) (eC (.int 0)), eVar 10]]) (eBlt opReprL [eSl (eBlt opLst [eVar 4, eVar 2]) none (some (eBlt opLen [eVar 11]))]))) (sRet (eC (.bl false))) (sSkip))))
noncomputable def sBody : Sm := sSeq (sAsg (.tup [.name 9, .name 10]) (eVar 8)) (sSeq (sAsg (.name 11) (eIf (asB (eBin opNe (eVar 10) (eC (.str (Str.ofString ""))))) (eSl (eBlt opLst [eVar 2, eVar 3]) none (some (eBlt opLen [eMt "str" opSplit (eVar 10) [eC (.str (Str.ofString " "))]]))) (eBlt opLst []))) s2)
theorem b_lawG_eq : b_lawG = sSeq (sAsg (.name 1) (eCall (f__law_pot) [eVar 0])) (sSeq (sPar3 2 3 4 (eCall (f__law_thing) [eVar 1]) (eCall (f__law_thing) [eVar 1]) (eCall (f__law_thing) [eVar 1])) (sSeq (sPar 5 6 (eCall (f__law_rows) [eVar 2, eVar 3]) (eCall (f__law_rows) [eVar 4, eVar 2])) (sSeq (sFor (iEnX (eVar 5)) (.tup [.name 7, .name 8]) sBody) (sSeq (sAsg (.name 12) (eMkT 1 (eC (.str (Str.ofString "x"))))) (sRet (eAnd (eBlt (opIsE (.ty "ValueError") ansE_ValueError) [eVar 12, eC (.ty "ValueError")]) (eBin (opIn true) (eC (.bl true)) (eCall (f__law_kinds) [eVar 12])))))))) := rfl
theorem enum_get {ds : List D} {i : Nat} {d : D} (h : (enumI ds)[i]? = some d) : ∃ x, ds[i]? = some x ∧ d = .tup [.int (i : Int), x] := by
  unfold enumI at h
  rw [List.getElem?_map, List.getElem?_zipIdx] at h
  rcases hx : ds[i]? with _ | x
  · rw [hx] at h; cases h
  · rw [hx] at h
    simp at h
    exact ⟨x, rfl, h.symm⟩
theorem enum_len {ds : List D} : (enumI ds).length = ds.length := by simp [enumI]
theorem mapO_map {α : Type} {f : D → Option PyData} {g : α → D} {h : α → PyData} (k : ∀ a, f (g a) = some (h a)) : ∀ l : List α, mapO f (l.map g) = some (l.map h)
  | [] => rfl
  | a :: l => by simp only [List.map_cons, mapO, k a, mapO_map k l]
theorem layAll_map {α : Type} {f : α → PyData} (h : ∀ a, (f a).canLay0 = true) : ∀ l : List α, PyData.canLayAll0 (l.map f) = true
  | [] => rfl
  | a :: l => by rw [List.map_cons, PyData.canLayAll0, h a, layAll_map h l]; rfl
theorem depAll_map {α : Type} {f : α → PyData} {n : Nat} (h : ∀ a, (f a).depth ≤ n) : ∀ l : List α, PyData.depthAll (l.map f) ≤ n
  | [] => by simp [PyData.depthAll]
  | a :: l => by
    have h1 := h a
    have h2 := depAll_map h l
    simp only [List.map_cons, PyData.depthAll]
    omega
theorem eqD_bls {st : Sto} {i j : Nat} {bs : List Bool} (hi : st[i]? = some (.lst (bs.map D.bl))) (hj : st[j]? = some (.lst (bs.map D.bl))) : eqD st (.ref i) (.ref j) = some true := by
  have h0 : mapO (deep st 65) (bs.map D.bl) = some (bs.map PyData.bool) := mapO_map (fun _ => rfl) bs
  have e1 : deep st 66 (.ref i) = some (.list (bs.map PyData.bool)) := by
    show (match st[i]? with | some (.lst ds) => (mapO (deep st 65) ds).map PyData.list | _ => _) = _
    simp only [hi, h0]
    rfl
  have e2 : deep st 66 (.ref j) = some (.list (bs.map PyData.bool)) := by
    show (match st[j]? with | some (.lst ds) => (mapO (deep st 65) ds).map PyData.list | _ => _) = _
    simp only [hj, h0]
    rfl
  have l1 : PyData.canLay0 (.list (bs.map PyData.bool)) = true := by
    simpa [PyData.canLay0] using layAll_map (f := PyData.bool) (fun _ => rfl) bs
  have d1 := depAll_map (f := PyData.bool) (n := 0) (fun _ => by simp [PyData.depth]) bs
  have d2 : (PyData.list (bs.map PyData.bool)).depth ≤ 1 := by
    simp only [PyData.depth]
    omega
  have sh : SeqAt.shaped (.list (bs.map PyData.bool)) = true := by
    simp only [SeqAt.shaped, l1, Bool.true_and, decide_eq_true_eq]
    omega
  simp only [eqD, e1, e2]
  rw [if_pos ⟨sh, sh⟩, SeqAt.eqv_refl _ l1]
section
variable {s : Sto} {K : Ks} {a b c : D} {x0 x1 x7 x9 x10 x11 x12 x13 : Option D}
def isAt (i : Nat) : D → Option D
  | .int k => some (.bl (k == (i : Int)))
  | _ => none
theorem body_ok {i cc e e' l5 l6 : Nat} {fs fs' : List (String × D)} {w : String} {wb : Bool} {wd wd' : List (String × List D)} {rs rs' : List D} {bs : List Bool}
    (h5 : s[l5]? = some (.lst rs)) (h5l : rs.length = 10) (h6 : s[l6]? = some (.lst rs')) (h6i : rs'[i]? = some (.tup [.ref e', .str (Str.ofString w)])) (he : s[e]? = some (.exn cc fs)) (he' : s[e']? = some (.exn cc fs'))
    (hcc : cc ∈ [1, 2, 3, 4, 5, 6, 7, 8, 9, 10, 11]) (hL : ansE_LampError cc = some true) (hV : ansE_ValueError cc = some true)
    (hk1 : kindsL cc = bs.map D.bl) (hk2 : (rngI 0 10).filterMap (isAt i) = bs.map D.bl)
    (hok : PyData.strOk (Str.ofString w) = true ∧ (Str.ofString w).length ≤ 100) (hwb : (Str.ofString w == Str.ofString "") = wb)
    (hs1 : Txt.split (Str.ofString w) (Str.ofString " ") = wd.map fun x => Str.ofString x.1) (hs2 : Txt.split (Str.ofString w) (Str.ofString " ") = wd'.map fun x => Str.ofString x.1)
    (hW : ∀ x ∈ wd, WOk cc fs x.1 x.2) (hW' : ∀ x ∈ wd', WOk cc fs' x.1 x.2)
    (hf : ∀ d ∈ flt wd, Th s d) (hf' : ∀ d ∈ flt wd', Th s d) (hl : (flt wd).length ≤ 2) (hl' : (flt wd').length ≤ 2)
    (hd : wb = false → LF.cutD [a, b] none (some (wd.length : Int)) = flt wd) (hd0 : wb = true → flt wd = []) (hd' : LF.cutD [c, a] none (some ((flt wd).length : Int)) = flt wd')
    (kont : ∀ (t : Sto) (y9 y10 y11 y13 : Option D), Chg [] s t → K.nx [x0, x1, some a, some b, some c, some (.ref l5), some (.ref l6), some (.int i), some (.tup [.ref e, .str (Str.ofString w)]), y9, y10, y11, x12, y13] t) :
    Owp K (sBody [x0, x1, some a, some b, some c, some (.ref l5), some (.ref l6), some (.int i), some (.tup [.ref e, .str (Str.ofString w)]), x9, x10, x11, x12, x13] s) := by
  have second : ∀ (t : Sto) (r11 : Nat), Chg [] s t → t[r11]? = some (.lst (flt wd)) → Owp K (s2 [x0, x1, some a, some b, some c, some (.ref l5), some (.ref l6), some (.int i), some (.tup [.ref e, .str (Str.ofString w)]), some (.ref e), some (.str (Str.ofString w)), some (.ref r11), x12, x13] t) := by
    intro t r11 kt hr11
    have het := kt.get0 he
    have h5t := kt.get0 h5
    unfold s2
    walk_at "wp"
    refine w_isE het rfl hL ?_
    walk_at "wp"
    refine w_isE het rfl hV ?_
    walk_at "wp"
    refine (law_kinds_ok het hcc).mono ?_
    rintro _ t1 ⟨r1, rfl, hr1, k1⟩
    have h5t1 := k1.get0 h5t
    walk_at "wp"
    refine wp_lc ?_
    walk_at "wp"
    rw [h5l]
    refine ⟨isAt i, fun _ _ => okB_none, by rw [show (rngI 0 ((10 : Nat) : Int).toNat).length = 10 from by simp [rngI]]; decide, ?_, ?_⟩
    · intro d hd t2 ht2
      obtain ⟨j, _, rfl⟩ := List.mem_map.mp (show d ∈ (List.range _).map _ from hd)
      refine ⟨_, rfl, ?_⟩
      dsimp only [wipeD, List.set]
      walk_at "wp"
      exact ⟨by simp [isAt], Chg.refl⟩
    intro r2 t2 hr2 hr2n k2
    have hr2' : t2[r2]? = some (.lst (bs.map D.bl)) := by rw [hr2, ← hk2]; rfl
    rw [hk1] at hr1
    walk_at "wp"
    refine w_ne (eqD_bls (k2.get0 hr1) hr2') ?_
    have k02 := k1.trans k2
    have ks2 := kt.trans k02
    walk_at "wp"
    refine (law_told_ok (k02.get0 het) hok.2 hs1 hW (by omega)).mono ?_
    rintro _ t3 ⟨r3, rfl, hr3, hr3n, k3⟩
    have ks3 := ks2.trans k3
    obtain ⟨ps, g1, g2, g3, g4, g5⟩ := things_text (st := t3) (es := flt wd) (fun d hd => (hf d hd).keep ks3) hl
    walk_at "wp"
    refine w_reprL hr3 g1 g2 g3 g4 ?_
    walk_at "wp"
    refine w_reprL ((k02.trans k3).get0 hr11) g1 g2 g3 g4 ?_
    refine w_neSb (b := true) g5 g5 (by simp) ?_
    walk_at "wp"
    have h6t := ks3.get0 h6
    refine w_ixL h6t (atIn h6i) ?_
    walk_at "wp"
    refine (law_told_ok (ks3.get0 he') hok.2 hs2 hW' (by omega)).mono ?_
    rintro _ t4 ⟨r4, rfl, hr4, hr4n, k4⟩
    have ks4 := ks3.trans k4
    walk_at "wp"
    obtain ⟨ps', g1, g2, g3, g4, g5⟩ := things_text (st := t4) (es := flt wd') (fun d hd => (hf' d hd).keep ks4) hl'
    refine w_reprL hr4 g1 g2 g3 g4 ?_
    walk_at "wp"
    refine wo_lst (by simp [LIM]) fun u1 t5 hu1 hu1n k5 => ?_
    have hr11' := ((k02.trans k3).trans (k4.trans k5)).get0 hr11
    walk_at "wp"
    refine w_slL hu1 fun u2 t6 hu2 hu2n k6 => ?_
    rw [hd'] at hu2
    have ks6 := ks4.trans (k5.trans k6)
    obtain ⟨ps'', q1, q2, q3, q4, q5⟩ := things_text (st := t6) (es := flt wd') (fun d hd => (hf' d hd).keep ks6) hl'
    have e12 : ps' = ps'' := by
      have : mapO (thingD t6) (flt wd') = some ps' := by
        have key : ∀ (es : List D) (qs : List PyData), mapO (thingD t4) es = some qs → mapO (thingD t6) es = some qs := by
          intro es
          induction es with
          | nil => intro qs h; exact h
          | cons z es ih =>
            intro qs h
            simp only [mapO] at h ⊢
            split at h
            · rename_i p1 p2 e1 e2
              rw [th_keep e1 fun _ _ _ hc => (k5.trans k6).get0 hc, ih _ e2]
              exact h
            · cases h
        exact key _ _ g1
      rw [this] at q1
      cases q1
      rfl
    subst e12
    walk_at "wp"
    refine w_reprL hu2 q1 q2 q3 q4 ?_
    refine w_neSb (b := true) g5 g5 (by simp) ?_
    walk_at "wp"
    exact kont t6 _ _ _ _ ks6
  unfold sBody
  walk_at "wp"
  refine ⟨_, rfl, ?_⟩
  dsimp only [List.set]
  walk_at "wp"
  refine w_neSb (b := wb) hok.1 (by decide +kernel) hwb ?_
  cases wb with
  | true =>
    walk_at "wp"
    refine wo_lst (by simp [LIM]) fun r11 t ht htn kt => ?_
    walk_at "wp"
    exact second t r11 kt (by rw [ht, hd0 rfl])
  | false =>
    walk_at "wp"
    refine wo_lst (by simp [LIM]) fun u t1 hu hun k1 => ?_
    walk_at "wp"
    refine w_split (by decide +kernel) (by have := hok.2; simp only [LIM]; omega) fun q t2 hq hqn k2 => ?_
    rw [hs1] at hq
    walk_at "wp"
    rw [show ((List.map D.str (wd.map fun x => Str.ofString x.1)).length : Int) = (wd.length : Int) by simp]
    refine w_slL (k2.get0 hu) fun r11 t3 h3 h3n k3 => ?_
    rw [hd rfl] at h3
    walk_at "wp"
    exact second t3 r11 (k1.trans (k2.trans k3)) h3
end
def absS : D → Option D
  | .int i => some (.int (if i < 0 then -i else i))
  | _ => none
theorem abs_map (ns : List Int) : (ns.map D.int).filterMap absS = (ns.map fun i => if i < 0 then -i else i).map D.int := by
  induction ns with
  | nil => rfl
  | cons x l ih =>
    rw [List.map_cons, List.filterMap_cons]
    show D.int (if x < 0 then -x else x) :: List.filterMap absS (l.map D.int) = _
    rw [ih]
    rfl
theorem cut63 {ns : List Int} (h : ns.length ≤ 63) : LF.cutD (ns.map D.int) none (some 63) = ns.map D.int := by
  unfold LF.cutD
  rw [show (some (63 : Int)) = some ((63 : Nat) : Int) from rfl, HT.sIx_nat, HT.sIx_none, List.length_map, Nat.min_eq_right h]
  simp
  rw [← List.length_map (f := D.int), List.take_length]
theorem pot_abs {ns : List Int} (h : ns.length ≤ 63) {s s3 : Sto} {p q : Nat} (hp : s3[p]? = some (.lst [.ref q, .int 0, .int 20011, .int 0])) (hq : s[q]? = some (.lst ((ns.map D.int).filterMap absS))) (hpn : s[p]? = none) (k : Chg [] s s3) :
    Pot s3 p q (ns.map fun i => if i < 0 then -i else i) := by
  rw [abs_map] at hq
  refine ⟨⟨0, 20011, 0, hp, by decide, by decide, by decide, by decide⟩, k.get0 hq, (fun e => by rw [e, hpn] at hq; cases hq), by simpa using h, ?_⟩
  intro n hn
  obtain ⟨x, hx, rfl⟩ := List.mem_map.mp hn
  split <;> omega
theorem law_pot_ok {ns : List Int} (h : ns.length ≤ 63) {st : Sto} {X : XP} : Wp X (fun d s => ∃ p q ms, d = .ref p ∧ Pot s p q ms ∧ Chg [] st s) (f__law_pot [.scr ns] st) := by
  walk_at "fn"
  unfold b__law_pot
  walk_at "wp"
  refine wp_lc ?_
  walk_at "wp"
  refine wo_new fun L s1 hL hLn k1 => ?_
  have hL' : s1[L]? = some (.lst (ns.map D.int)) := by
    rw [hL, show (List.map (fun n => D.int n) ns) = ns.map D.int from rfl, cut63 h]
  walk_at "wp"
  refine ⟨absS, fun s hs => okB_some (hs.get0 hL'), by simp [LIM]; omega, ?_, ?_⟩
  · intro d hd s0 hs0
    obtain ⟨x, hx, rfl⟩ := List.mem_map.mp (show d ∈ ns.map D.int from hd)
    refine ⟨_, rfl, ?_⟩
    dsimp only [wipeD, List.set]
    walk_at "wp"
    exact ⟨rfl, Chg.refl⟩
  intro q s2 hq hqn k2
  walk_at "wp"
  refine wo_lst (by simp [LIM]) fun p s3 hp hpn k3 => ?_
  walk_at "wp"
  exact ⟨p, q, _, rfl, pot_abs h hp hq hpn k3, (k1.trans k2).trans k3⟩
theorem law_pot_ref {ns : List Int} (h : ns.length ≤ 63) {st : Sto} {r : Nat} (hr : st[r]? = some (.lst (ns.map D.int))) {X : XP} : Wp X (fun d s => ∃ p q ms, d = .ref p ∧ Pot s p q ms ∧ Chg [] st s) (f__law_pot [.ref r] st) := by
  walk_at "fn"
  unfold b__law_pot
  walk_at "wp"
  refine wp_lc ?_
  walk_at "wp"
  refine w_slL hr fun L s1 hL hLn k1 => ?_
  have hL' : s1[L]? = some (.lst (ns.map D.int)) := by
    rw [hL, cut63 h]
  walk_at "wp"
  refine ⟨absS, fun s hs => okB_some (hs.get0 hL'), by simp [LIM]; omega, ?_, ?_⟩
  · intro d hd s0 hs0
    obtain ⟨x, hx, rfl⟩ := List.mem_map.mp (show d ∈ ns.map D.int from hd)
    refine ⟨_, rfl, ?_⟩
    dsimp only [wipeD, List.set]
    walk_at "wp"
    exact ⟨rfl, Chg.refl⟩
  intro q s2 hq hqn k2
  walk_at "wp"
  refine wo_lst (by simp [LIM]) fun p s3 hp hpn k3 => ?_
  walk_at "wp"
  exact ⟨p, q, _, rfl, pot_abs h hp hq hpn k3, (k1.trans k2).trans k3⟩
theorem row_at {s : Sto} {r i : Nat} {es : List Nat} {a b d : D} (h : Rows s r es a b) (hd : (rowsL es a b)[i]? = some d) : ∃ e x, (tab a b)[i]? = some x ∧ d = .tup [.ref e, .str (Str.ofString x.2.2)] ∧ s[e]? = some (.exn x.1 x.2.1) := by
  unfold rowsL at hd
  rw [List.getElem?_zipWith] at hd
  cases h1 : es[i]? with
  | none => rw [h1] at hd; simp at hd
  | some e =>
    cases h2 : (tab a b)[i]? with
    | none => rw [h1, h2] at hd; simp at hd
    | some x =>
      rw [h1, h2] at hd
      simp at hd
      exact ⟨e, x, rfl, hd.symm, h.each i e x h1 h2⟩
theorem rows_len {s : Sto} {r : Nat} {es : List Nat} {a b : D} (h : Rows s r es a b) : (rowsL es a b).length = 10 := by
  unfold rowsL
  rw [List.length_zipWith, h.len]
  rfl
theorem row_get {s : Sto} {r i : Nat} {es : List Nat} {a b : D} (h : Rows s r es a b) (hi : i < 10) : ∃ d, (rowsL es a b)[i]? = some d := ⟨_, List.getElem?_eq_getElem (by rw [rows_len h]; exact hi)⟩
section
variable {s : Sto} {K : Ks} {a b c : D} {x0 x1 x7 x9 x10 x11 x12 x13 : Option D}
theorem each_ok {i l5 l6 : Nat} {es es' : List Nat} {d : D} (h5 : Rows s l5 es a b) (h6 : Rows s l6 es' c a) (ha : Th s a) (hb : Th s b) (hc : Th s c) (hd : (rowsL es a b)[i]? = some d)
    (kont : ∀ (t : Sto) (y8 y9 y10 y11 y13 : Option D), Chg [] s t → K.nx [x0, x1, some a, some b, some c, some (.ref l5), some (.ref l6), some (.int i), y8, y9, y10, y11, x12, y13] t) :
    Owp K (sBody [x0, x1, some a, some b, some c, some (.ref l5), some (.ref l6), some (.int i), some d, x9, x10, x11, x12, x13] s) := by
  have hi : i < 10 := by
    have := (List.getElem?_eq_some_iff.mp hd).1
    rw [rows_len h5] at this
    exact this
  obtain ⟨d', hd'⟩ := row_get h6 hi
  obtain ⟨e, x, hx, rfl, he⟩ := row_at h5 hd
  obtain ⟨e', x', hx', rfl, he'⟩ := row_at h6 hd'
  have n0 : ∀ d ∈ flt [(("" : String), ([] : List D))], Th s d := fun d hd => by simp [flt] at hd
  have na : ∀ w : String, ∀ d ∈ flt [(w, [a])], Th s d := fun w d hd => by
    simp [flt] at hd
    rw [hd]; exact ha
  have nc : ∀ w : String, ∀ d ∈ flt [(w, [c])], Th s d := fun w d hd => by
    simp [flt] at hd
    rw [hd]; exact hc
  match i, hi, hx, hx' with
  | 0, _, hx, hx' =>
    cases hx
    cases hx'
    exact body_ok (w := "value") (wb := false) (wd := [("value", [a])]) (wd' := [("value", [c])]) (bs := [true, false, false, false, false, false, false, false, false, false]) h5.at_ (rows_len h5) h6.at_ hd' he he' (by simp) rfl rfl rfl rfl (by decide +kernel) (by decide +kernel) (show Txt.split (Str.ofString "value") (Str.ofString " ") = [Str.ofString "value"] from by decide +kernel) (show Txt.split (Str.ofString "value") (Str.ofString " ") = [Str.ofString "value"] from by decide +kernel)
      (fun x hx => by rw [List.mem_singleton.mp hx]; exact .value _ rfl rfl) (fun x hx => by rw [List.mem_singleton.mp hx]; exact .value _ rfl rfl) (na _) (nc _) (by simp [flt]) (by simp [flt]) (fun _ => rfl) (fun z => by cases z) rfl fun t y9 y10 y11 y13 kt => kont t _ y9 y10 y11 y13 kt
  | 1, _, hx, hx' =>
    cases hx
    cases hx'
    exact body_ok (w := "what") (wb := false) (wd := [("what", [a])]) (wd' := [("what", [c])]) (bs := [false, true, false, false, false, false, false, false, false, false]) h5.at_ (rows_len h5) h6.at_ hd' he he' (by simp) rfl rfl rfl rfl (by decide +kernel) (by decide +kernel) (show Txt.split (Str.ofString "what") (Str.ofString " ") = [Str.ofString "what"] from by decide +kernel) (show Txt.split (Str.ofString "what") (Str.ofString " ") = [Str.ofString "what"] from by decide +kernel)
      (fun x hx => by rw [List.mem_singleton.mp hx]; exact .what _ rfl rfl) (fun x hx => by rw [List.mem_singleton.mp hx]; exact .what _ rfl rfl) (na _) (nc _) (by simp [flt]) (by simp [flt]) (fun _ => rfl) (fun z => by cases z) rfl fun t y9 y10 y11 y13 kt => kont t _ y9 y10 y11 y13 kt
  | 2, _, hx, hx' =>
    cases hx
    cases hx'
    exact body_ok (w := "line what") (wb := false) (wd := [("line", [a]), ("what", [b])]) (wd' := [("line", [c]), ("what", [a])]) (bs := [false, false, true, false, false, false, false, false, false, false]) h5.at_ (rows_len h5) h6.at_ hd' he he' (by simp) rfl rfl rfl rfl (by decide +kernel) (by decide +kernel) (show Txt.split (Str.ofString "line what") (Str.ofString " ") = [Str.ofString "line", Str.ofString "what"] from by decide +kernel) (show Txt.split (Str.ofString "line what") (Str.ofString " ") = [Str.ofString "line", Str.ofString "what"] from by decide +kernel)
      (fun x hx => by
      simp only [List.mem_cons, List.not_mem_nil, or_false] at hx
      rcases hx with rfl | rfl
      · exact .line _ rfl rfl
      · exact .what _ rfl rfl) (fun x hx => by
      simp only [List.mem_cons, List.not_mem_nil, or_false] at hx
      rcases hx with rfl | rfl
      · exact .line _ rfl rfl
      · exact .what _ rfl rfl) (fun d hd => by
      simp [flt] at hd
      rcases hd with rfl | rfl
      · exact ha
      · exact hb) (fun d hd => by
      simp [flt] at hd
      rcases hd with rfl | rfl
      · exact hc
      · exact ha) (by simp [flt]) (by simp [flt]) (fun _ => rfl) (fun z => by cases z) rfl fun t y9 y10 y11 y13 kt => kont t _ y9 y10 y11 y13 kt
  | 3, _, hx, hx' =>
    cases hx
    cases hx'
    exact body_ok (w := "") (wb := true) (wd := [("", [])]) (wd' := [("", [])]) (bs := [false, false, false, true, false, false, false, false, false, false]) h5.at_ (rows_len h5) h6.at_ hd' he he' (by simp) rfl rfl rfl rfl (by decide +kernel) (by decide +kernel) (show Txt.split (Str.ofString "") (Str.ofString " ") = [Str.ofString ""] from by decide +kernel) (show Txt.split (Str.ofString "") (Str.ofString " ") = [Str.ofString ""] from by decide +kernel)
      (fun x hx => by rw [List.mem_singleton.mp hx]; exact .no) (fun x hx => by rw [List.mem_singleton.mp hx]; exact .no) n0 n0 (by simp [flt]) (by simp [flt]) (fun z => by cases z) (fun _ => rfl) rfl fun t y9 y10 y11 y13 kt => kont t _ y9 y10 y11 y13 kt
  | 4, _, hx, hx' =>
    cases hx
    cases hx'
    exact body_ok (w := "") (wb := true) (wd := [("", [])]) (wd' := [("", [])]) (bs := [false, false, false, false, true, false, false, false, false, false]) h5.at_ (rows_len h5) h6.at_ hd' he he' (by simp) rfl rfl rfl rfl (by decide +kernel) (by decide +kernel) (show Txt.split (Str.ofString "") (Str.ofString " ") = [Str.ofString ""] from by decide +kernel) (show Txt.split (Str.ofString "") (Str.ofString " ") = [Str.ofString ""] from by decide +kernel)
      (fun x hx => by rw [List.mem_singleton.mp hx]; exact .no) (fun x hx => by rw [List.mem_singleton.mp hx]; exact .no) n0 n0 (by simp [flt]) (by simp [flt]) (fun z => by cases z) (fun _ => rfl) rfl fun t y9 y10 y11 y13 kt => kont t _ y9 y10 y11 y13 kt
  | 5, _, hx, hx' =>
    cases hx
    cases hx'
    exact body_ok (w := "at") (wb := false) (wd := [("at", [a])]) (wd' := [("at", [c])]) (bs := [false, false, false, false, false, true, false, false, false, false]) h5.at_ (rows_len h5) h6.at_ hd' he he' (by simp) rfl rfl rfl rfl (by decide +kernel) (by decide +kernel) (show Txt.split (Str.ofString "at") (Str.ofString " ") = [Str.ofString "at"] from by decide +kernel) (show Txt.split (Str.ofString "at") (Str.ofString " ") = [Str.ofString "at"] from by decide +kernel)
      (fun x hx => by rw [List.mem_singleton.mp hx]; exact .at_ _ rfl rfl) (fun x hx => by rw [List.mem_singleton.mp hx]; exact .at_ _ rfl rfl) (na _) (nc _) (by simp [flt]) (by simp [flt]) (fun _ => rfl) (fun z => by cases z) rfl fun t y9 y10 y11 y13 kt => kont t _ y9 y10 y11 y13 kt
  | 6, _, hx, hx' =>
    cases hx
    cases hx'
    exact body_ok (w := "") (wb := true) (wd := [("", [])]) (wd' := [("", [])]) (bs := [false, false, false, false, false, false, true, false, false, false]) h5.at_ (rows_len h5) h6.at_ hd' he he' (by simp) rfl rfl rfl rfl (by decide +kernel) (by decide +kernel) (show Txt.split (Str.ofString "") (Str.ofString " ") = [Str.ofString ""] from by decide +kernel) (show Txt.split (Str.ofString "") (Str.ofString " ") = [Str.ofString ""] from by decide +kernel)
      (fun x hx => by rw [List.mem_singleton.mp hx]; exact .no) (fun x hx => by rw [List.mem_singleton.mp hx]; exact .no) n0 n0 (by simp [flt]) (by simp [flt]) (fun z => by cases z) (fun _ => rfl) rfl fun t y9 y10 y11 y13 kt => kont t _ y9 y10 y11 y13 kt
  | 7, _, hx, hx' =>
    cases hx
    cases hx'
    exact body_ok (w := "") (wb := true) (wd := [("", [])]) (wd' := [("", [])]) (bs := [false, false, false, false, false, false, false, true, false, false]) h5.at_ (rows_len h5) h6.at_ hd' he he' (by simp) rfl rfl rfl rfl (by decide +kernel) (by decide +kernel) (show Txt.split (Str.ofString "") (Str.ofString " ") = [Str.ofString ""] from by decide +kernel) (show Txt.split (Str.ofString "") (Str.ofString " ") = [Str.ofString ""] from by decide +kernel)
      (fun x hx => by rw [List.mem_singleton.mp hx]; exact .no) (fun x hx => by rw [List.mem_singleton.mp hx]; exact .no) n0 n0 (by simp [flt]) (by simp [flt]) (fun z => by cases z) (fun _ => rfl) rfl fun t y9 y10 y11 y13 kt => kont t _ y9 y10 y11 y13 kt
  | 8, _, hx, hx' =>
    cases hx
    cases hx'
    exact body_ok (w := "") (wb := true) (wd := [("", [])]) (wd' := [("", [])]) (bs := [false, false, false, false, false, false, false, false, true, false]) h5.at_ (rows_len h5) h6.at_ hd' he he' (by simp) rfl rfl rfl rfl (by decide +kernel) (by decide +kernel) (show Txt.split (Str.ofString "") (Str.ofString " ") = [Str.ofString ""] from by decide +kernel) (show Txt.split (Str.ofString "") (Str.ofString " ") = [Str.ofString ""] from by decide +kernel)
      (fun x hx => by rw [List.mem_singleton.mp hx]; exact .no) (fun x hx => by rw [List.mem_singleton.mp hx]; exact .no) n0 n0 (by simp [flt]) (by simp [flt]) (fun z => by cases z) (fun _ => rfl) rfl fun t y9 y10 y11 y13 kt => kont t _ y9 y10 y11 y13 kt
  | 9, _, hx, hx' =>
    cases hx
    cases hx'
    exact body_ok (w := "most") (wb := false) (wd := [("most", [a])]) (wd' := [("most", [c])]) (bs := [false, false, false, false, false, false, false, false, false, true]) h5.at_ (rows_len h5) h6.at_ hd' he he' (by simp) rfl rfl rfl rfl (by decide +kernel) (by decide +kernel) (show Txt.split (Str.ofString "most") (Str.ofString " ") = [Str.ofString "most"] from by decide +kernel) (show Txt.split (Str.ofString "most") (Str.ofString " ") = [Str.ofString "most"] from by decide +kernel)
      (fun x hx => by rw [List.mem_singleton.mp hx]; exact .most _ rfl rfl) (fun x hx => by rw [List.mem_singleton.mp hx]; exact .most _ rfl rfl) (na _) (nc _) (by simp [flt]) (by simp [flt]) (fun _ => rfl) (fun z => by cases z) rfl fun t y9 y10 y11 y13 kt => kont t _ y9 y10 y11 y13 kt
  | n + 10, hi, _, _ => omega
end
theorem w_inX {Q : D → Sto → Prop} {st : Sto} {neg : Bool} {r : Nat} {x : D} {ds : List D} (hr : st[r]? = some (.lst ds)) (hx : flatD x = true) (h0 : ds.all flatD = true) (h : Q (.bl (if neg then !inF x ds else inF x ds)) st) : Wo Q (opIn neg x (.ref r) st) := by
  simp only [opIn, seqOf, hr]
  rw [if_pos ⟨hx, h0⟩]
  exact r_wo_some h
theorem law_main {d : D} {st : Sto} (hpot : Wp (fun _ _ _ => False) (fun x s => ∃ p q ms, x = .ref p ∧ Pot s p q ms ∧ Chg [] st s) (f__law_pot [d] st)) : Wp (fun _ _ _ => False) (fun x _ => x = .bl true) (f_lawG [d] st) := by
  walk_at "fn"
  rw [b_lawG_eq]
  walk_at "wp"
  refine hpot.mono ?_
  rintro _ s1 ⟨p, q, ns, rfl, P1, k1⟩
  walk_at "wp"
  refine (law_thing_ok P1).mono ?_
  rintro a s2 ⟨ha, P2, k2⟩
  walk_at "wp"
  refine (law_thing_ok P2).mono ?_
  rintro b s3 ⟨hb, P3, k3⟩
  walk_at "wp"
  refine (law_thing_ok P3).mono ?_
  rintro c s4 ⟨hc, P4, k4⟩
  have ha4 := (ha.pot P2 k3).pot P3 k4
  have hb4 := hb.pot P3 k4
  walk_at "wp"
  refine (law_rows_ok).mono ?_
  rintro _ s5 ⟨l5, es, rfl, h5, k5⟩
  walk_at "wp"
  refine (law_rows_ok).mono ?_
  rintro _ s6 ⟨l6, es', rfl, h6, k6⟩
  have h56 := h5.keep k6
  have h5a := h56.at_
  have k56 := k5.trans k6
  walk_at "wp"
  refine owp_forS (fun i e t => ∃ (x7 x8 x9 x10 x11 x13 : Option D), e = [some d, some (.ref p), some a, some b, some c, some (.ref l5), some (.ref l6), x7, x8, x9, x10, x11, none, x13] ∧ Chg [] s6 t) ?_ ?_ ⟨none, none, none, none, none, none, rfl, Chg.refl⟩
  · rintro i x e t hx ⟨x7, x8, x9, x10, x11, x13, rfl, kt⟩
    obtain ⟨y, hy, rfl⟩ := enum_get hx
    refine ⟨fun i es e => by cases e; exact kt.get0 h5a, _, rfl, ?_⟩
    dsimp only [List.set]
    exact each_ok (h56.keep kt) (h6.keep kt) (ha4.keep (k56.trans kt)) (hb4.keep (k56.trans kt)) (hc.keep (k56.trans kt)) hy fun u y8 y9 y10 y11 y13 ku => ⟨_, _, _, _, _, _, rfl, kt.trans ku⟩
  · rintro e t ⟨x7, x8, x9, x10, x11, x13, rfl, kt⟩
    refine ⟨fun i es e => by cases e; exact kt.get0 h5a, ?_⟩
    walk_at "wp"
    refine q_mkT ?_
    walk_at "wp"
    intro r u hr hrn ku
    walk_at "wp"
    refine w_isE hr rfl rfl ?_
    walk_at "wp"
    refine (law_kinds_ok hr (by decide)).mono ?_
    rintro _ v ⟨r2, rfl, hr2, kv⟩
    walk_at "wp"
    refine w_inX hr2 rfl (by rfl) ?_
    rfl
theorem law_true : ∀ ns : List Int, ns.length ≤ 63 → ∀ d st, ((d = .scr ns ∧ st = []) ∨ (d = .ref 0 ∧ st = [.lst (ns.map D.int)])) → ∃ s, f_lawG [d] st = .ok (.bl true) s := by
  rintro ns h d st (⟨rfl, rfl⟩ | ⟨rfl, rfl⟩)
  · obtain ⟨x, s, e, rfl⟩ := (law_main (law_pot_ok h)).to
    exact ⟨s, e⟩
  · obtain ⟨x, s, e, rfl⟩ := (law_main (law_pot_ref (r := 0) (st := [.lst (ns.map D.int)]) h rfl)).to
    exact ⟨s, e⟩
end K00
open LF
open PySem PySem.W PyProof.Rows in
set_option maxRecDepth 100000 in
set_option maxHeartbeats 0 in
theorem PySem.Challenge.cw_lampfolk_k00_errors_alone_holds : PySem.Challenge.rw_lampfolk_k00_errors_alone.Holds := by
  w_on; o_law; k_head; (case hw => w_witness2)
  k_fill
  refine LF.walk_ofG (l := PySem.Challenge.rw_lampfolk_k00_errors_alone) (n := 63) (k := 4) (x := "script") rfl (by decide) rfl ⟨rfl, by decide, by decide⟩ (fun w h Y => PySem.W.kIn_of Y) ?F
  case F =>
    intro w mg fa h Y KX G hmg
    obtain ⟨T, e1, e2⟩ : ∃ T : K00.Tx ⟨_, _, _, _⟩ mg w PySem.Challenge.rw_lampfolk_k00_errors_alone.prog, T.a_law = fa ∧ (∀ (s : Shared) (u : Value), BindsTo s T.d_law ⟨[u], []⟩ [("script", u)]) := by
      refine' K00.all_mk (P := PySem.Challenge.rw_lampfolk_k00_errors_alone.prog) KX G hmg ?n_LampError ?x_LampError ?fi_LampError ?sup_top ?sup_mg ?sup_opq ?n_BadProgram ?x_BadProgram ?sa_BadProgram ?eb_BadProgram ?ty_BadProgram ?kc_BadProgram ?ni_BadProgram ?ti_BadProgram ?li_BadProgram ?ci_BadProgram ?cl_BadProgram ?co_BadProgram ?fi_BadProgram ?sc_BadProgram ?sv_BadProgram ?xn_BadProgram_what ?n_BadText ?x_BadText ?sa_BadText ?eb_BadText ?ty_BadText ?kc_BadText ?ni_BadText ?ti_BadText ?li_BadText ?ci_BadText ?cl_BadText ?co_BadText ?fi_BadText ?sc_BadText ?sv_BadText ?xn_BadText_line ?xn_BadText_what ?n_BadNumber ?x_BadNumber ?sa_BadNumber ?eb_BadNumber ?ty_BadNumber ?kc_BadNumber ?ni_BadNumber ?ti_BadNumber ?li_BadNumber ?ci_BadNumber ?cl_BadNumber ?co_BadNumber ?fi_BadNumber ?sc_BadNumber ?sv_BadNumber ?xn_BadNumber_value ?n_NoColour ?x_NoColour ?sa_NoColour ?eb_NoColour ?ty_NoColour ?kc_NoColour ?ni_NoColour ?ti_NoColour ?li_NoColour ?ci_NoColour ?cl_NoColour ?co_NoColour ?fi_NoColour ?sc_NoColour ?sv_NoColour ?n_NoStanding ?x_NoStanding ?sa_NoStanding ?eb_NoStanding ?ty_NoStanding ?kc_NoStanding ?ni_NoStanding ?ti_NoStanding ?li_NoStanding ?ci_NoStanding ?cl_NoStanding ?co_NoStanding ?fi_NoStanding ?sc_NoStanding ?sv_NoStanding ?n_NoVisit ?x_NoVisit ?sa_NoVisit ?eb_NoVisit ?ty_NoVisit ?kc_NoVisit ?ni_NoVisit ?ti_NoVisit ?li_NoVisit ?ci_NoVisit ?cl_NoVisit ?co_NoVisit ?fi_NoVisit ?sc_NoVisit ?sv_NoVisit ?n_NoOrder ?x_NoOrder ?sa_NoOrder ?eb_NoOrder ?ty_NoOrder ?kc_NoOrder ?ni_NoOrder ?ti_NoOrder ?li_NoOrder ?ci_NoOrder ?cl_NoOrder ?co_NoOrder ?fi_NoOrder ?sc_NoOrder ?sv_NoOrder ?xn_NoOrder_at ?n_NoWord ?x_NoWord ?sa_NoWord ?eb_NoWord ?ty_NoWord ?kc_NoWord ?ni_NoWord ?ti_NoWord ?li_NoWord ?ci_NoWord ?cl_NoWord ?co_NoWord ?fi_NoWord ?sc_NoWord ?sv_NoWord ?n_NoFit ?x_NoFit ?sa_NoFit ?eb_NoFit ?ty_NoFit ?kc_NoFit ?ni_NoFit ?ti_NoFit ?li_NoFit ?ci_NoFit ?cl_NoFit ?co_NoFit ?fi_NoFit ?sc_NoFit ?sv_NoFit ?n_TooMany ?x_TooMany ?sa_TooMany ?eb_TooMany ?ty_TooMany ?kc_TooMany ?ni_TooMany ?ti_TooMany ?li_TooMany ?ci_TooMany ?cl_TooMany ?co_TooMany ?fi_TooMany ?sc_TooMany ?sv_TooMany ?xn_TooMany_most ?xi_LampError ?kp_LampError ?eb_LampError ?ty_LampError ?sv_LampError ?isp ?itk ?ga_LampError ?gg_LampError ?hd_LampError ?icl_LampError ?mro_LampError ?ga_BadProgram ?gg_BadProgram ?hd_BadProgram ?icl_BadProgram ?mro_BadProgram ?ga_BadText ?gg_BadText ?hd_BadText ?icl_BadText ?mro_BadText ?ga_BadNumber ?gg_BadNumber ?hd_BadNumber ?icl_BadNumber ?mro_BadNumber ?ga_NoColour ?gg_NoColour ?hd_NoColour ?icl_NoColour ?mro_NoColour ?ga_NoStanding ?gg_NoStanding ?hd_NoStanding ?icl_NoStanding ?mro_NoStanding ?ga_NoVisit ?gg_NoVisit ?hd_NoVisit ?icl_NoVisit ?mro_NoVisit ?ga_NoOrder ?gg_NoOrder ?hd_NoOrder ?icl_NoOrder ?mro_NoOrder ?ga_NoWord ?gg_NoWord ?hd_NoWord ?icl_NoWord ?mro_NoWord ?ga_NoFit ?gg_NoFit ?hd_NoFit ?icl_NoFit ?mro_NoFit ?ga_TooMany ?gg_TooMany ?hd_TooMany ?icl_TooMany ?mro_TooMany ?isc_BadNumber ?sub_LampError_BadNumber ?sub_BadProgram_BadNumber ?sub_BadText_BadNumber ?sub_BadNumber_BadNumber ?sub_NoColour_BadNumber ?sub_NoStanding_BadNumber ?sub_NoVisit_BadNumber ?sub_NoOrder_BadNumber ?sub_NoWord_BadNumber ?sub_NoFit_BadNumber ?sub_TooMany_BadNumber ?isc_BadProgram ?sub_LampError_BadProgram ?sub_BadProgram_BadProgram ?sub_BadText_BadProgram ?sub_BadNumber_BadProgram ?sub_NoColour_BadProgram ?sub_NoStanding_BadProgram ?sub_NoVisit_BadProgram ?sub_NoOrder_BadProgram ?sub_NoWord_BadProgram ?sub_NoFit_BadProgram ?sub_TooMany_BadProgram ?isc_BadText ?sub_LampError_BadText ?sub_BadProgram_BadText ?sub_BadText_BadText ?sub_BadNumber_BadText ?sub_NoColour_BadText ?sub_NoStanding_BadText ?sub_NoVisit_BadText ?sub_NoOrder_BadText ?sub_NoWord_BadText ?sub_NoFit_BadText ?sub_TooMany_BadText ?isc_LampError ?sub_LampError_LampError ?sub_BadProgram_LampError ?sub_BadText_LampError ?sub_BadNumber_LampError ?sub_NoColour_LampError ?sub_NoStanding_LampError ?sub_NoVisit_LampError ?sub_NoOrder_LampError ?sub_NoWord_LampError ?sub_NoFit_LampError ?sub_TooMany_LampError ?isc_NoColour ?sub_LampError_NoColour ?sub_BadProgram_NoColour ?sub_BadText_NoColour ?sub_BadNumber_NoColour ?sub_NoColour_NoColour ?sub_NoStanding_NoColour ?sub_NoVisit_NoColour ?sub_NoOrder_NoColour ?sub_NoWord_NoColour ?sub_NoFit_NoColour ?sub_TooMany_NoColour ?isc_NoFit ?sub_LampError_NoFit ?sub_BadProgram_NoFit ?sub_BadText_NoFit ?sub_BadNumber_NoFit ?sub_NoColour_NoFit ?sub_NoStanding_NoFit ?sub_NoVisit_NoFit ?sub_NoOrder_NoFit ?sub_NoWord_NoFit ?sub_NoFit_NoFit ?sub_TooMany_NoFit ?isc_NoOrder ?sub_LampError_NoOrder ?sub_BadProgram_NoOrder ?sub_BadText_NoOrder ?sub_BadNumber_NoOrder ?sub_NoColour_NoOrder ?sub_NoStanding_NoOrder ?sub_NoVisit_NoOrder ?sub_NoOrder_NoOrder ?sub_NoWord_NoOrder ?sub_NoFit_NoOrder ?sub_TooMany_NoOrder ?isc_NoStanding ?sub_LampError_NoStanding ?sub_BadProgram_NoStanding ?sub_BadText_NoStanding ?sub_BadNumber_NoStanding ?sub_NoColour_NoStanding ?sub_NoStanding_NoStanding ?sub_NoVisit_NoStanding ?sub_NoOrder_NoStanding ?sub_NoWord_NoStanding ?sub_NoFit_NoStanding ?sub_TooMany_NoStanding ?isc_NoVisit ?sub_LampError_NoVisit ?sub_BadProgram_NoVisit ?sub_BadText_NoVisit ?sub_BadNumber_NoVisit ?sub_NoColour_NoVisit ?sub_NoStanding_NoVisit ?sub_NoVisit_NoVisit ?sub_NoOrder_NoVisit ?sub_NoWord_NoVisit ?sub_NoFit_NoVisit ?sub_TooMany_NoVisit ?isc_NoWord ?sub_LampError_NoWord ?sub_BadProgram_NoWord ?sub_BadText_NoWord ?sub_BadNumber_NoWord ?sub_NoColour_NoWord ?sub_NoStanding_NoWord ?sub_NoVisit_NoWord ?sub_NoOrder_NoWord ?sub_NoWord_NoWord ?sub_NoFit_NoWord ?sub_TooMany_NoWord ?isc_TooMany ?sub_LampError_TooMany ?sub_BadProgram_TooMany ?sub_BadText_TooMany ?sub_BadNumber_TooMany ?sub_NoColour_TooMany ?sub_NoStanding_TooMany ?sub_NoVisit_TooMany ?sub_NoOrder_TooMany ?sub_NoWord_TooMany ?sub_NoFit_TooMany ?sub_TooMany_TooMany ?n__law_pot ?l__law_pot ?c__law_pot ?k__law_pot ?n__law_draw ?l__law_draw ?c__law_draw ?k__law_draw ?n__law_pick ?l__law_pick ?c__law_pick ?k__law_pick ?n__law_thing ?l__law_thing ?c__law_thing ?k__law_thing ?n__law_kinds ?l__law_kinds ?c__law_kinds ?k__law_kinds ?n__law_rows ?l__law_rows ?c__law_rows ?k__law_rows ?n__law_told_of ?l__law_told_of ?c__law_told_of ?k__law_told_of ?n_law ?l_law ?c_law ?k_law ?z_ValueError ?z_abs ?z_enumerate ?z_int ?z_isinstance ?z_len ?z_range ?z_repr
      (case n_LampError => k_is)
      (case x_LampError => k_is)
      (case fi_LampError => k_is)
      (case sup_top => rfl)
      (case sup_mg => k_is)
      (case sup_opq => k_is)
      (case n_BadProgram => k_is)
      (case x_BadProgram => k_is)
      (case sa_BadProgram => k_is)
      (case eb_BadProgram => k_is)
      (case ty_BadProgram => k_is)
      (case kc_BadProgram => k_is)
      (case ni_BadProgram => k_is)
      (case ti_BadProgram => k_is)
      (case li_BadProgram => k_is)
      (case ci_BadProgram => k_is)
      (case cl_BadProgram => k_is)
      (case co_BadProgram => k_is)
      (case fi_BadProgram => rfl)
      (case sc_BadProgram => k_is)
      (case sv_BadProgram => k_is)
      (case xn_BadProgram_what => k_is)
      (case n_BadText => k_is)
      (case x_BadText => k_is)
      (case sa_BadText => k_is)
      (case eb_BadText => k_is)
      (case ty_BadText => k_is)
      (case kc_BadText => k_is)
      (case ni_BadText => k_is)
      (case ti_BadText => k_is)
      (case li_BadText => k_is)
      (case ci_BadText => k_is)
      (case cl_BadText => k_is)
      (case co_BadText => k_is)
      (case fi_BadText => rfl)
      (case sc_BadText => k_is)
      (case sv_BadText => k_is)
      (case xn_BadText_line => k_is)
      (case xn_BadText_what => k_is)
      (case n_BadNumber => k_is)
      (case x_BadNumber => k_is)
      (case sa_BadNumber => k_is)
      (case eb_BadNumber => k_is)
      (case ty_BadNumber => k_is)
      (case kc_BadNumber => k_is)
      (case ni_BadNumber => k_is)
      (case ti_BadNumber => k_is)
      (case li_BadNumber => k_is)
      (case ci_BadNumber => k_is)
      (case cl_BadNumber => k_is)
      (case co_BadNumber => k_is)
      (case fi_BadNumber => rfl)
      (case sc_BadNumber => k_is)
      (case sv_BadNumber => k_is)
      (case xn_BadNumber_value => k_is)
      (case n_NoColour => k_is)
      (case x_NoColour => k_is)
      (case sa_NoColour => k_is)
      (case eb_NoColour => k_is)
      (case ty_NoColour => k_is)
      (case kc_NoColour => k_is)
      (case ni_NoColour => k_is)
      (case ti_NoColour => k_is)
      (case li_NoColour => k_is)
      (case ci_NoColour => k_is)
      (case cl_NoColour => k_is)
      (case co_NoColour => k_is)
      (case fi_NoColour => rfl)
      (case sc_NoColour => k_is)
      (case sv_NoColour => k_is)
      (case n_NoStanding => k_is)
      (case x_NoStanding => k_is)
      (case sa_NoStanding => k_is)
      (case eb_NoStanding => k_is)
      (case ty_NoStanding => k_is)
      (case kc_NoStanding => k_is)
      (case ni_NoStanding => k_is)
      (case ti_NoStanding => k_is)
      (case li_NoStanding => k_is)
      (case ci_NoStanding => k_is)
      (case cl_NoStanding => k_is)
      (case co_NoStanding => k_is)
      (case fi_NoStanding => rfl)
      (case sc_NoStanding => k_is)
      (case sv_NoStanding => k_is)
      (case n_NoVisit => k_is)
      (case x_NoVisit => k_is)
      (case sa_NoVisit => k_is)
      (case eb_NoVisit => k_is)
      (case ty_NoVisit => k_is)
      (case kc_NoVisit => k_is)
      (case ni_NoVisit => k_is)
      (case ti_NoVisit => k_is)
      (case li_NoVisit => k_is)
      (case ci_NoVisit => k_is)
      (case cl_NoVisit => k_is)
      (case co_NoVisit => k_is)
      (case fi_NoVisit => rfl)
      (case sc_NoVisit => k_is)
      (case sv_NoVisit => k_is)
      (case n_NoOrder => k_is)
      (case x_NoOrder => k_is)
      (case sa_NoOrder => k_is)
      (case eb_NoOrder => k_is)
      (case ty_NoOrder => k_is)
      (case kc_NoOrder => k_is)
      (case ni_NoOrder => k_is)
      (case ti_NoOrder => k_is)
      (case li_NoOrder => k_is)
      (case ci_NoOrder => k_is)
      (case cl_NoOrder => k_is)
      (case co_NoOrder => k_is)
      (case fi_NoOrder => rfl)
      (case sc_NoOrder => k_is)
      (case sv_NoOrder => k_is)
      (case xn_NoOrder_at => k_is)
      (case n_NoWord => k_is)
      (case x_NoWord => k_is)
      (case sa_NoWord => k_is)
      (case eb_NoWord => k_is)
      (case ty_NoWord => k_is)
      (case kc_NoWord => k_is)
      (case ni_NoWord => k_is)
      (case ti_NoWord => k_is)
      (case li_NoWord => k_is)
      (case ci_NoWord => k_is)
      (case cl_NoWord => k_is)
      (case co_NoWord => k_is)
      (case fi_NoWord => rfl)
      (case sc_NoWord => k_is)
      (case sv_NoWord => k_is)
      (case n_NoFit => k_is)
      (case x_NoFit => k_is)
      (case sa_NoFit => k_is)
      (case eb_NoFit => k_is)
      (case ty_NoFit => k_is)
      (case kc_NoFit => k_is)
      (case ni_NoFit => k_is)
      (case ti_NoFit => k_is)
      (case li_NoFit => k_is)
      (case ci_NoFit => k_is)
      (case cl_NoFit => k_is)
      (case co_NoFit => k_is)
      (case fi_NoFit => rfl)
      (case sc_NoFit => k_is)
      (case sv_NoFit => k_is)
      (case n_TooMany => k_is)
      (case x_TooMany => k_is)
      (case sa_TooMany => k_is)
      (case eb_TooMany => k_is)
      (case ty_TooMany => k_is)
      (case kc_TooMany => k_is)
      (case ni_TooMany => k_is)
      (case ti_TooMany => k_is)
      (case li_TooMany => k_is)
      (case ci_TooMany => k_is)
      (case cl_TooMany => k_is)
      (case co_TooMany => k_is)
      (case fi_TooMany => rfl)
      (case sc_TooMany => k_is)
      (case sv_TooMany => k_is)
      (case xn_TooMany_most => k_is)
      (case xi_LampError => kernel_rfl)
      (case kp_LampError => k_is)
      (case eb_LampError => k_is)
      (case ty_LampError => k_is)
      (case sv_LampError => k_is)
      (case isp => k_is)
      (case itk => k_is)
      (case ga_LampError => k_is)
      (case gg_LampError => k_is)
      (case hd_LampError => k_is)
      (case icl_LampError => k_is)
      (case mro_LampError => k_is)
      (case ga_BadProgram => k_is)
      (case gg_BadProgram => k_is)
      (case hd_BadProgram => k_is)
      (case icl_BadProgram => k_is)
      (case mro_BadProgram => k_is)
      (case ga_BadText => k_is)
      (case gg_BadText => k_is)
      (case hd_BadText => k_is)
      (case icl_BadText => k_is)
      (case mro_BadText => k_is)
      (case ga_BadNumber => k_is)
      (case gg_BadNumber => k_is)
      (case hd_BadNumber => k_is)
      (case icl_BadNumber => k_is)
      (case mro_BadNumber => k_is)
      (case ga_NoColour => k_is)
      (case gg_NoColour => k_is)
      (case hd_NoColour => k_is)
      (case icl_NoColour => k_is)
      (case mro_NoColour => k_is)
      (case ga_NoStanding => k_is)
      (case gg_NoStanding => k_is)
      (case hd_NoStanding => k_is)
      (case icl_NoStanding => k_is)
      (case mro_NoStanding => k_is)
      (case ga_NoVisit => k_is)
      (case gg_NoVisit => k_is)
      (case hd_NoVisit => k_is)
      (case icl_NoVisit => k_is)
      (case mro_NoVisit => k_is)
      (case ga_NoOrder => k_is)
      (case gg_NoOrder => k_is)
      (case hd_NoOrder => k_is)
      (case icl_NoOrder => k_is)
      (case mro_NoOrder => k_is)
      (case ga_NoWord => k_is)
      (case gg_NoWord => k_is)
      (case hd_NoWord => k_is)
      (case icl_NoWord => k_is)
      (case mro_NoWord => k_is)
      (case ga_NoFit => k_is)
      (case gg_NoFit => k_is)
      (case hd_NoFit => k_is)
      (case icl_NoFit => k_is)
      (case mro_NoFit => k_is)
      (case ga_TooMany => k_is)
      (case gg_TooMany => k_is)
      (case hd_TooMany => k_is)
      (case icl_TooMany => k_is)
      (case mro_TooMany => k_is)
      (case isc_BadNumber => k_is)
      (case sub_LampError_BadNumber => k_is)
      (case sub_BadProgram_BadNumber => k_is)
      (case sub_BadText_BadNumber => k_is)
      (case sub_BadNumber_BadNumber => k_is)
      (case sub_NoColour_BadNumber => k_is)
      (case sub_NoStanding_BadNumber => k_is)
      (case sub_NoVisit_BadNumber => k_is)
      (case sub_NoOrder_BadNumber => k_is)
      (case sub_NoWord_BadNumber => k_is)
      (case sub_NoFit_BadNumber => k_is)
      (case sub_TooMany_BadNumber => k_is)
      (case isc_BadProgram => k_is)
      (case sub_LampError_BadProgram => k_is)
      (case sub_BadProgram_BadProgram => k_is)
      (case sub_BadText_BadProgram => k_is)
      (case sub_BadNumber_BadProgram => k_is)
      (case sub_NoColour_BadProgram => k_is)
      (case sub_NoStanding_BadProgram => k_is)
      (case sub_NoVisit_BadProgram => k_is)
      (case sub_NoOrder_BadProgram => k_is)
      (case sub_NoWord_BadProgram => k_is)
      (case sub_NoFit_BadProgram => k_is)
      (case sub_TooMany_BadProgram => k_is)
      (case isc_BadText => k_is)
      (case sub_LampError_BadText => k_is)
      (case sub_BadProgram_BadText => k_is)
      (case sub_BadText_BadText => k_is)
      (case sub_BadNumber_BadText => k_is)
      (case sub_NoColour_BadText => k_is)
      (case sub_NoStanding_BadText => k_is)
      (case sub_NoVisit_BadText => k_is)
      (case sub_NoOrder_BadText => k_is)
      (case sub_NoWord_BadText => k_is)
      (case sub_NoFit_BadText => k_is)
      (case sub_TooMany_BadText => k_is)
      (case isc_LampError => k_is)
      (case sub_LampError_LampError => k_is)
      (case sub_BadProgram_LampError => k_is)
      (case sub_BadText_LampError => k_is)
      (case sub_BadNumber_LampError => k_is)
      (case sub_NoColour_LampError => k_is)
      (case sub_NoStanding_LampError => k_is)
      (case sub_NoVisit_LampError => k_is)
      (case sub_NoOrder_LampError => k_is)
      (case sub_NoWord_LampError => k_is)
      (case sub_NoFit_LampError => k_is)
      (case sub_TooMany_LampError => k_is)
      (case isc_NoColour => k_is)
      (case sub_LampError_NoColour => k_is)
      (case sub_BadProgram_NoColour => k_is)
      (case sub_BadText_NoColour => k_is)
      (case sub_BadNumber_NoColour => k_is)
      (case sub_NoColour_NoColour => k_is)
      (case sub_NoStanding_NoColour => k_is)
      (case sub_NoVisit_NoColour => k_is)
      (case sub_NoOrder_NoColour => k_is)
      (case sub_NoWord_NoColour => k_is)
      (case sub_NoFit_NoColour => k_is)
      (case sub_TooMany_NoColour => k_is)
      (case isc_NoFit => k_is)
      (case sub_LampError_NoFit => k_is)
      (case sub_BadProgram_NoFit => k_is)
      (case sub_BadText_NoFit => k_is)
      (case sub_BadNumber_NoFit => k_is)
      (case sub_NoColour_NoFit => k_is)
      (case sub_NoStanding_NoFit => k_is)
      (case sub_NoVisit_NoFit => k_is)
      (case sub_NoOrder_NoFit => k_is)
      (case sub_NoWord_NoFit => k_is)
      (case sub_NoFit_NoFit => k_is)
      (case sub_TooMany_NoFit => k_is)
      (case isc_NoOrder => k_is)
      (case sub_LampError_NoOrder => k_is)
      (case sub_BadProgram_NoOrder => k_is)
      (case sub_BadText_NoOrder => k_is)
      (case sub_BadNumber_NoOrder => k_is)
      (case sub_NoColour_NoOrder => k_is)
      (case sub_NoStanding_NoOrder => k_is)
      (case sub_NoVisit_NoOrder => k_is)
      (case sub_NoOrder_NoOrder => k_is)
      (case sub_NoWord_NoOrder => k_is)
      (case sub_NoFit_NoOrder => k_is)
      (case sub_TooMany_NoOrder => k_is)
      (case isc_NoStanding => k_is)
      (case sub_LampError_NoStanding => k_is)
      (case sub_BadProgram_NoStanding => k_is)
      (case sub_BadText_NoStanding => k_is)
      (case sub_BadNumber_NoStanding => k_is)
      (case sub_NoColour_NoStanding => k_is)
      (case sub_NoStanding_NoStanding => k_is)
      (case sub_NoVisit_NoStanding => k_is)
      (case sub_NoOrder_NoStanding => k_is)
      (case sub_NoWord_NoStanding => k_is)
      (case sub_NoFit_NoStanding => k_is)
      (case sub_TooMany_NoStanding => k_is)
      (case isc_NoVisit => k_is)
      (case sub_LampError_NoVisit => k_is)
      (case sub_BadProgram_NoVisit => k_is)
      (case sub_BadText_NoVisit => k_is)
      (case sub_BadNumber_NoVisit => k_is)
      (case sub_NoColour_NoVisit => k_is)
      (case sub_NoStanding_NoVisit => k_is)
      (case sub_NoVisit_NoVisit => k_is)
      (case sub_NoOrder_NoVisit => k_is)
      (case sub_NoWord_NoVisit => k_is)
      (case sub_NoFit_NoVisit => k_is)
      (case sub_TooMany_NoVisit => k_is)
      (case isc_NoWord => k_is)
      (case sub_LampError_NoWord => k_is)
      (case sub_BadProgram_NoWord => k_is)
      (case sub_BadText_NoWord => k_is)
      (case sub_BadNumber_NoWord => k_is)
      (case sub_NoColour_NoWord => k_is)
      (case sub_NoStanding_NoWord => k_is)
      (case sub_NoVisit_NoWord => k_is)
      (case sub_NoOrder_NoWord => k_is)
      (case sub_NoWord_NoWord => k_is)
      (case sub_NoFit_NoWord => k_is)
      (case sub_TooMany_NoWord => k_is)
      (case isc_TooMany => k_is)
      (case sub_LampError_TooMany => k_is)
      (case sub_BadProgram_TooMany => k_is)
      (case sub_BadText_TooMany => k_is)
      (case sub_BadNumber_TooMany => k_is)
      (case sub_NoColour_TooMany => k_is)
      (case sub_NoStanding_TooMany => k_is)
      (case sub_NoVisit_TooMany => k_is)
      (case sub_NoOrder_TooMany => k_is)
      (case sub_NoWord_TooMany => k_is)
      (case sub_NoFit_TooMany => k_is)
      (case sub_TooMany_TooMany => k_is)
      (case n__law_pot => k_is)
      (case l__law_pot => k_is)
      (case c__law_pot => k_is)
      (case k__law_pot => k_is)
      (case n__law_draw => k_is)
      (case l__law_draw => k_is)
      (case c__law_draw => k_is)
      (case k__law_draw => k_is)
      (case n__law_pick => k_is)
      (case l__law_pick => k_is)
      (case c__law_pick => k_is)
      (case k__law_pick => k_is)
      (case n__law_thing => k_is)
      (case l__law_thing => k_is)
      (case c__law_thing => k_is)
      (case k__law_thing => k_is)
      (case n__law_kinds => k_is)
      (case l__law_kinds => k_is)
      (case c__law_kinds => k_is)
      (case k__law_kinds => k_is)
      (case n__law_rows => k_is)
      (case l__law_rows => k_is)
      (case c__law_rows => k_is)
      (case k__law_rows => k_is)
      (case n__law_told_of => k_is)
      (case l__law_told_of => k_is)
      (case c__law_told_of => k_is)
      (case k__law_told_of => k_is)
      (case n_law => k_is)
      (case l_law => k_is)
      (case c_law => k_is)
      (case k_law => k_is)
      (case z_ValueError => k_is)
      (case z_abs => k_is)
      (case z_enumerate => k_is)
      (case z_int => k_is)
      (case z_isinstance => k_is)
      (case z_len => k_is)
      (case z_range => k_is)
      (case z_repr => k_is)
    subst e1
    refine ⟨T.d_law, [], ?sp, (fun p hp => nomatch hp), (fun p hp => nomatch hp), (fun p hp => nomatch hp), e2, ?_, fun base hK hN hB => ?h⟩
    case h => exact LF.end_okTG (K00.okG_law T) K00.law_true
    · intro H a ns hl _ hT hS
      exact ⟨a, ns, rfl, hl, (fun c hc => nomatch hc), hS, fun _ => rfl⟩
