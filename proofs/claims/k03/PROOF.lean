import PyProof.Rows.All
import Wide.All
import OpenK.AllK
import Wide.FinOn
import HandS.ForMost
import HandS.ForExc
import HandS.CallSlots
import HandS.TryMany
import HandS.Flow
import HandS.RaiseMore
import HandS.Lambda
import HandS.IsInst
import HandS.TupAny
import HandS.StrMore
import HandS.Text
import HandS.FStr
import HandS.Deep
import HandS.ExcOwn
import HandS.WordsExc
import HandS.NoneIn
import HandS.Iter
import HandS.Comp
import HandS.Dict
import KE.KExcSuper
import HandS.ExcInit
import HandS.ExcField
import HandS.TupMul
import PyProof.Rows.IntBool
import PyProof.StrOps2
import PyProof.NeKinds
import PyProof.CallStr
import HandS.EndTab
import KE.KNestM
import HandS.Star
import HandS.Conv
import KE.GoesMore
import HandS.Style
import PyProof.Rows.Walk
import KE.IntTextLaws
import PyProof.StrLawsIn
import PyProof.StrLawsChain
import PyProof.Rows.StrItems
import PySem.Challenge.RW_lampfolk_k03_first_wrong_lines
set_option Elab.async false
set_option linter.all false
set_option maxRecDepth 100000
set_option maxHeartbeats 4000000
/-! The layer: values as trees, a store of cells, programs as functions on both. -/
namespace LF
open PySem PySem.Spec PyProof.Rows L2

/-! ### values, cells, results -/
inductive D where
  | non | bl (b : Bool) | int (i : Int) | str (x : Str) | tup (ds : List D) | ref (i : Nat) | glo (n : Nat) | ty (n : String) | scr (ns : List Int) | xc
inductive Cell where
  | lst (ds : List D)
  | ins (c : Nat) (fs : List (String × D))
  | dct
abbrev Sto := List Cell
abbrev Sl := List (Option D)
inductive Res (α : Type) where
  | ok (a : α) (s : Sto)
  | exn (c : Nat) (fs : List (String × D)) (s : Sto)
  | bad
def Res.bind {α β : Type} : Res α → (α → Sto → Res β) → Res β
  | .ok a s, f => f a s
  | .exn c fs s, _ => .exn c fs s
  | .bad, _ => .bad
abbrev M (α : Type) := Sto → Res α
abbrev E := Sl → M D

/-- what stands at which address: the written part, the addresses of the module's own things -/
structure Gx where
  K : PySem.W.Frag
  tb : Nat → Addr
  /-- the exception at hand: its address, its dict, its fields -/
  xi : Option (Addr × Addr × List (String × D))
  /-- tables of code objects -/
  T : List (Addr × Str)

/-- a list that is only read -/
def SqS (K : PySem.W.Frag) (H : Hp) (a : Addr) (xs : List V) : Prop :=
  (∃ o, H a = some (.frz o (.lst xs))) ∨
    ∃ (o : Obj) (its : Array Value) (n : Nat), K.lookup a = some o ∧ o.cls = .type "list" ∧ o.dict = none ∧ o.data = .seq its n ∧ its.size ≤ sizeLine ∧ Vals xs its.toList
theorem SqS.l {K : PySem.W.Frag} {H : Hp} {a : Addr} {xs : List V} (h : SqS K H a xs) : SqL K H a xs := by
  rcases h with ⟨o, h⟩ | h
  · exact .inl (.inr ⟨o, h⟩)
  · exact .inr h

/-- a tuple: tracked, or an object of the written part -/
def SqU (K : PySem.W.Frag) (H : Hp) (a : Addr) (xs : List V) : Prop :=
  H a = some (.tup xs) ∨ ∃ (o : Obj) (its : Array Value) (n : Nat), K.lookup a = some o ∧ o.cls = .type "tuple" ∧ o.data = .seq its n ∧ its.size ≤ sizeLine ∧ Vals xs its.toList
theorem SqU.t {K : PySem.W.Frag} {H : Hp} {a : Addr} {xs : List V} (h : SqU K H a xs) : SqT K H a xs := by
  rcases h with h | h
  · exact .inl (.inl h)
  · exact .inr h
section
variable (G : Gx)
mutual
def RV (ms : List Addr) (H : Hp) : D → V → Prop
  | .non, v => v = .non
  | .bl b, v => v = .bl b
  | .int i, v => v = .int i
  | .str x, v => v = .str x
  | .tup ds, v => ∃ a vs, v = .ref a ∧ SqU G.K H a vs ∧ RVs ms H ds vs
  | .ref i, v => ∃ a, v = .ref a ∧ ms[i]? = some a
  | .glo n, v => v = .ref (G.tb n)
  | .ty n, v => v = .ty n
  | .scr ns, v => ∃ a, v = .ref a ∧ SqS G.K H a (ns.map V.int)
  | .xc, v => ∃ a d fs, G.xi = some (a, d, fs) ∧ v = .ref a
def RVs (ms : List Addr) (H : Hp) : List D → List V → Prop
  | [], vs => vs = []
  | d :: ds, vs => ∃ v r, vs = v :: r ∧ RV ms H d v ∧ RVs ms H ds r
end
/-- fields -/
def RF (ms : List Addr) (H : Hp) : List (String × D) → List (Str × V) → Prop
  | [], gs => gs = []
  | p :: fs, gs => ∃ v r, gs = (Str.ofString p.1, v) :: r ∧ RV G ms H p.2 v ∧ RF ms H fs r
/-- slots -/
def RE (ms : List Addr) (H : Hp) : Sl → L2.St → Prop
  | [], σ => σ = []
  | none :: e, σ => ∃ o r, σ = o :: r ∧ RE ms H e r
  | some d :: e, σ => ∃ v r, σ = some v :: r ∧ RV G ms H d v ∧ RE ms H e r
/-- the addresses grow, what never changes stays -/
structure Gr (ms : List Addr) (H : Hp) (ms' : List Addr) (H' : Hp) : Prop where
  pre : ∃ t, ms' = ms ++ t
  tup : ∀ a xs, H a = some (.tup xs) → H' a = some (.tup xs)
  frz : ∀ a o u, H a = some (.frz o u) → H' a = some (.frz o u)
variable {G}
variable {ms ms' ms1 ms2 : List Addr} {H H' H1 H2 : Hp}
theorem Gr.refl : Gr ms H ms H := ⟨⟨[], by simp⟩, fun _ _ h => h, fun _ _ _ h => h⟩
theorem Gr.trans (a : Gr ms H ms1 H1) (b : Gr ms1 H1 ms2 H2) : Gr ms H ms2 H2 := by
  obtain ⟨t, rfl⟩ := a.pre
  obtain ⟨u, rfl⟩ := b.pre
  exact ⟨⟨t ++ u, by simp⟩, fun c xs h => b.tup c xs (a.tup c xs h), fun c o u h => b.frz c o u (a.frz c o u h)⟩
theorem Gr.sqT {K : PySem.W.Frag} {a : Addr} {xs : List V} (g : Gr ms H ms' H') (h : SqU K H a xs) : SqU K H' a xs := by
  rcases h with h | h
  · exact .inl (g.tup _ _ h)
  · exact .inr h
theorem Gr.sqS {K : PySem.W.Frag} {a : Addr} {xs : List V} (g : Gr ms H ms' H') (h : SqS K H a xs) : SqS K H' a xs := by
  rcases h with ⟨o, h⟩ | h
  · exact .inl ⟨o, g.frz _ _ _ h⟩
  · exact .inr h
theorem Gr.at (g : Gr ms H ms' H') {i : Nat} {a : Addr} (h : ms[i]? = some a) : ms'[i]? = some a := by
  obtain ⟨t, rfl⟩ := g.pre
  obtain ⟨h1, h2⟩ := List.getElem?_eq_some_iff.mp h
  rw [List.getElem?_append_left h1]
  exact h
mutual
theorem RV.gr (g : Gr ms H ms' H') : ∀ (d : D) (v : V), RV G ms H d v → RV G ms' H' d v
  | .non, _, h => h
  | .bl _, _, h => h
  | .int _, _, h => h
  | .str _, _, h => h
  | .tup ds, _, h => by
    simp only [RV] at h ⊢
    obtain ⟨a, vs, e, h1, h2⟩ := h
    exact ⟨a, vs, e, g.sqT h1, RVs.gr g ds vs h2⟩
  | .ref _, _, h => by
    simp only [RV] at h ⊢
    obtain ⟨a, e, h1⟩ := h
    exact ⟨a, e, g.at h1⟩
  | .glo _, _, h => h
  | .ty _, _, h => h
  | .scr _, _, h => by
    simp only [RV] at h ⊢
    obtain ⟨a, e, h1⟩ := h
    exact ⟨a, e, g.sqS h1⟩
  | .xc, _, h => by
    simp only [RV] at h ⊢
    exact h
theorem RVs.gr (g : Gr ms H ms' H') : ∀ (ds : List D) (vs : List V), RVs G ms H ds vs → RVs G ms' H' ds vs
  | [], _, h => h
  | d :: ds, _, h => by
    simp only [RVs] at h ⊢
    obtain ⟨v, r, e, h1, h2⟩ := h
    exact ⟨v, r, e, RV.gr g d v h1, RVs.gr g ds r h2⟩
end
theorem RF.gr (g : Gr ms H ms' H') : ∀ {fs : List (String × D)} {gs : List (Str × V)}, RF G ms H fs gs → RF G ms' H' fs gs
  | [], _, h => h
  | p :: fs, _, h => by
    obtain ⟨v, r, e, h1, h2⟩ := h
    exact ⟨v, r, e, RV.gr g _ _ h1, RF.gr g h2⟩
theorem RE.gr (g : Gr ms H ms' H') : ∀ {e : Sl} {σ : L2.St}, RE G ms H e σ → RE G ms' H' e σ
  | [], _, h => h
  | none :: e, _, h => by
    obtain ⟨o, r, e, h1⟩ := h
    exact ⟨o, r, e, RE.gr g h1⟩
  | some d :: e, _, h => by
    obtain ⟨v, r, e, h1, h2⟩ := h
    exact ⟨v, r, e, RV.gr g _ _ h1, RE.gr g h2⟩
theorem RVs.length : ∀ {ds : List D} {vs : List V}, RVs G ms H ds vs → vs.length = ds.length
  | [], _, h => by
    simp only [RVs] at h
    rw [h]
    rfl
  | d :: ds, _, h => by
    simp only [RVs] at h
    obtain ⟨v, r, e, _, h2⟩ := h
    rw [e, List.length_cons, List.length_cons, RVs.length h2]
theorem RVs.at : ∀ {ds : List D} {vs : List V} {i : Nat} {d : D}, RVs G ms H ds vs → ds[i]? = some d → ∃ v, vs[i]? = some v ∧ RV G ms H d v
  | [], _, _, _, _, e => by simp at e
  | d :: ds, _, 0, _, h, e => by
    simp only [RVs] at h
    obtain ⟨v, r, rfl, h1, _⟩ := h
    obtain rfl : d = _ := Option.some.inj e
    exact ⟨v, rfl, h1⟩
  | d :: ds, _, i + 1, _, h, e => by
    simp only [RVs] at h
    obtain ⟨v, r, rfl, _, h2⟩ := h
    obtain ⟨u, h3, h4⟩ := RVs.at (i := i) h2 (by simpa using e)
    exact ⟨u, by simpa using h3, h4⟩
theorem RVs.back : ∀ {ds : List D} {vs : List V} {i : Nat} {v : V}, RVs G ms H ds vs → vs[i]? = some v → ∃ d, ds[i]? = some d ∧ RV G ms H d v := fun {ds vs i v} h e => by
  have hl := h.length
  obtain ⟨h1, h2⟩ := List.getElem?_eq_some_iff.mp e
  obtain ⟨u, h3, h4⟩ := h.at (i := i) (d := ds[i]) (by simp [← hl, h1])
  rw [e] at h3
  cases h3
  exact ⟨_, by simp [← hl, h1], h4⟩
theorem RVs.app : ∀ {ds es : List D} {vs us : List V}, RVs G ms H ds vs → RVs G ms H es us → RVs G ms H (ds ++ es) (vs ++ us)
  | [], _, _, _, h, k => by
    simp only [RVs] at h
    rw [h]
    exact k
  | d :: ds, _, _, _, h, k => by
    simp only [RVs, List.cons_append] at h ⊢
    obtain ⟨v, r, rfl, h1, h2⟩ := h
    exact ⟨v, r ++ _, rfl, h1, RVs.app h2 k⟩
theorem RVs.one {d : D} {v : V} (h : RV G ms H d v) : RVs G ms H [d] [v] := by
  simp only [RVs]
  exact ⟨v, [], rfl, h, rfl⟩
theorem RVs.take : ∀ {ds : List D} {vs : List V} (n : Nat), RVs G ms H ds vs → RVs G ms H (ds.take n) (vs.take n)
  | _, _, 0, _ => by simp [RVs]
  | [], _, n + 1, h => by
    simp only [RVs] at h
    rw [h]
    simp [RVs]
  | d :: ds, _, n + 1, h => by
    simp only [RVs, List.take_succ_cons] at h ⊢
    obtain ⟨v, r, rfl, h1, h2⟩ := h
    exact ⟨v, r.take n, rfl, h1, RVs.take n h2⟩
theorem RVs.drop : ∀ {ds : List D} {vs : List V} (n : Nat), RVs G ms H ds vs → RVs G ms H (ds.drop n) (vs.drop n)
  | _, _, 0, h => h
  | [], _, n + 1, h => by
    simp only [RVs] at h
    rw [h]
    simp [RVs]
  | d :: ds, _, n + 1, h => by
    simp only [RVs, List.drop_succ_cons] at h ⊢
    obtain ⟨v, r, rfl, h1, h2⟩ := h
    exact RVs.drop n h2
theorem RVs.set : ∀ {ds : List D} {vs : List V} {d : D} {v : V} (n : Nat), RVs G ms H ds vs → RV G ms H d v → RVs G ms H (ds.set n d) (vs.set n v)
  | [], _, _, _, _, h, _ => by
    simp only [RVs] at h
    rw [h]
    simp [RVs]
  | d :: ds, _, _, _, 0, h, k => by
    simp only [RVs] at h
    obtain ⟨v, r, rfl, h1, h2⟩ := h
    simp only [List.set_cons_zero, RVs]
    exact ⟨_, r, rfl, k, h2⟩
  | d :: ds, _, _, _, n + 1, h, k => by
    simp only [RVs] at h
    obtain ⟨v, r, rfl, h1, h2⟩ := h
    simp only [List.set_cons_succ, RVs]
    exact ⟨v, _, rfl, h1, RVs.set n h2 k⟩
theorem RVs.rep {d : D} {v : V} (h : RV G ms H d v) : ∀ n, RVs G ms H (List.replicate n d) (List.replicate n v)
  | 0 => by simp [RVs]
  | n + 1 => by
    simp only [List.replicate_succ, RVs]
    exact ⟨v, _, rfl, h, RVs.rep h n⟩
theorem RVs.ints : ∀ ns : List Int, RVs G ms H (ns.map D.int) (ns.map V.int)
  | [] => by simp [RVs]
  | n :: ns => by
    simp only [List.map_cons, RVs]
    exact ⟨_, _, rfl, by simp only [RV], RVs.ints ns⟩
theorem RE.len : ∀ {e : Sl} {σ : L2.St}, RE G ms H e σ → σ.length = e.length
  | [], _, h => by
    rw [show _ = _ from h]
    rfl
  | none :: e, _, h => by
    obtain ⟨o, r, rfl, h1⟩ := h
    simp [h1.len]
  | some d :: e, _, h => by
    obtain ⟨v, r, rfl, _, h1⟩ := h
    simp [h1.len]
theorem RE.at : ∀ {e : Sl} {σ : L2.St} {i : Nat} {d : D}, RE G ms H e σ → e[i]? = some (some d) → ∃ v, σ[i]? = some (some v) ∧ RV G ms H d v
  | [], _, _, _, _, e => by simp at e
  | none :: _, _, 0, _, _, e => by simp at e
  | some d :: _, _, 0, _, h, e => by
    obtain ⟨v, r, rfl, h1, _⟩ := h
    simp at e
    subst e
    exact ⟨v, rfl, h1⟩
  | none :: e, _, i + 1, _, h, q => by
    obtain ⟨o, r, rfl, h1⟩ := h
    obtain ⟨v, h3, h4⟩ := h1.at (i := i) (by simpa using q)
    exact ⟨v, by simpa using h3, h4⟩
  | some d :: e, _, i + 1, _, h, q => by
    obtain ⟨v, r, rfl, _, h1⟩ := h
    obtain ⟨v, h3, h4⟩ := h1.at (i := i) (by simpa using q)
    exact ⟨v, by simpa using h3, h4⟩
theorem RE.set {d : D} {v : V} (k : RV G ms H d v) : ∀ {e : Sl} {σ : L2.St} (i : Nat), RE G ms H e σ → RE G ms H (e.set i (some d)) (σ.set i (some v))
  | [], _, _, h => by
    rw [show _ = _ from h]
    exact rfl
  | none :: e, _, 0, h => by
    obtain ⟨o, r, rfl, h1⟩ := h
    exact ⟨v, r, rfl, k, h1⟩
  | some _ :: e, _, 0, h => by
    obtain ⟨_, r, rfl, _, h1⟩ := h
    exact ⟨v, r, rfl, k, h1⟩
  | none :: e, _, i + 1, h => by
    obtain ⟨o, r, rfl, h1⟩ := h
    exact ⟨_, _, rfl, RE.set k i h1⟩
  | some _ :: e, _, i + 1, h => by
    obtain ⟨u, r, rfl, h0, h1⟩ := h
    exact ⟨u, _, rfl, h0, RE.set k i h1⟩
theorem RE.unset : ∀ {e : Sl} {σ : L2.St} (i : Nat), RE G ms H e σ → RE G ms H (e.set i none) (σ.set i none)
  | [], _, _, h => by
    rw [show _ = _ from h]
    exact rfl
  | none :: e, _, 0, h => by
    obtain ⟨o, r, rfl, h1⟩ := h
    exact ⟨_, r, rfl, h1⟩
  | some _ :: e, _, 0, h => by
    obtain ⟨_, r, rfl, _, h1⟩ := h
    exact ⟨_, r, rfl, h1⟩
  | none :: e, _, i + 1, h => by
    obtain ⟨o, r, rfl, h1⟩ := h
    exact ⟨_, _, rfl, RE.unset i h1⟩
  | some _ :: e, _, i + 1, h => by
    obtain ⟨u, r, rfl, h0, h1⟩ := h
    exact ⟨u, _, rfl, h0, RE.unset i h1⟩
theorem RE.start : ∀ {ds : List D} {vs : List V} (n : Nat), RVs G ms H ds vs → RE G ms H (ds.map some ++ List.replicate n none) (vs.map some ++ List.replicate n none)
  | [], _, n, h => by
    simp only [RVs] at h
    rw [h]
    show RE G ms H (List.replicate n none) (List.replicate n none)
    induction n with
    | zero => exact rfl
    | succ n ih =>
      rw [List.replicate_succ, List.replicate_succ]
      exact ⟨_, _, rfl, ih⟩
  | d :: ds, _, n, h => by
    simp only [RVs] at h
    obtain ⟨v, r, rfl, h1, h2⟩ := h
    exact ⟨v, _, rfl, h1, RE.start n h2⟩

/-! ### the store -/
def CellOk (G : Gx) (ms : List Addr) (H : Hp) (a : Addr) : Cell → Prop
  | .lst ds => ∃ vs, H a = some (.lst vs) ∧ RVs G ms H ds vs
  | .ins c fs => ∃ dx gs, H a = some (.ins (G.tb c) dx gs) ∧ RF G ms H fs gs
  | .dct => H a = some (.dK [])
/-- an object that a cell never is -/
def NoCell (o : HO) : Prop := (∃ xs, o = .tup xs) ∨ (∃ ob u, o = .frz ob u) ∨ (∃ x, o = .own x) ∨ (∃ fs, o = .xd fs) ∨ (∃ ps, o = .tbl ps) ∨ ∃ f, o = .ext f
/-- all but the cells stay -/
def Keeps (H H' : Hp) : Prop := ∀ b o, H b = some o → NoCell o → H' b = some o
theorem Keeps.tabs {T : List (Addr × Str)} {H H' : Hp} (k : Keeps H H') (t : LamX.Tabs T H) : LamX.Tabs T H' := fun p hp => by
  obtain ⟨ps, h1, h2, h3⟩ := t p hp
  refine ⟨ps, k _ _ h1 (.inr (.inr (.inr (.inr (.inl ⟨_, rfl⟩))))), h2, fun pos cv hc => ?_⟩
  obtain ⟨c, e1, e2⟩ := h3 pos cv hc
  exact ⟨c, e1, k _ _ e2 (.inr (.inr (.inr (.inr (.inr ⟨_, rfl⟩)))))⟩
theorem Keeps.new {H : Hp} {p : Addr} {o : HO} (hp : H p = none) : Keeps H (upd H p o) := fun b u e _ => by
  rw [upd_ne (ne_of_none e hp)]
  exact e
structure SRel (G : Gx) (ms : List Addr) (st : Sto) (H : Hp) : Prop where
  len : ms.length = st.length
  nd : ms.Nodup
  cell : ∀ (i : Nat) a c, ms[i]? = some a → st[i]? = some c → CellOk G ms H a c
  xd : ∀ a d fs, G.xi = some (a, d, fs) → ∃ gs, H d = some (.xd gs) ∧ RF G ms H fs gs
  tabs : LamX.Tabs G.T H
theorem CellOk.has {a : Addr} {c : Cell} (h : CellOk G ms H a c) : ∃ o, H a = some o ∧ (∀ xs, o ≠ .tup xs) ∧ (∀ ob u, o ≠ .frz ob u) ∧ (∀ x, o ≠ .own x) ∧ ¬ NoCell o := by
  have nc : ∀ o : HO, (∀ xs, o ≠ .tup xs) → (∀ ob u, o ≠ .frz ob u) → (∀ x, o ≠ .own x) → (∀ x, o ≠ .xd x) → (∀ x, o ≠ .tbl x) → (∀ x, o ≠ .ext x) → ¬ NoCell o := fun o h1 h2 h3 h4 h5 h6 q => by
    rcases q with ⟨x, e⟩ | ⟨x, y, e⟩ | ⟨x, e⟩ | ⟨x, e⟩ | ⟨x, e⟩ | ⟨x, e⟩
    · exact h1 x e
    · exact h2 x y e
    · exact h3 x e
    · exact h4 x e
    · exact h5 x e
    · exact h6 x e
  cases c with
  | lst ds =>
    obtain ⟨vs, h, _⟩ := h
    exact ⟨_, h, (fun _ z => HO.noConfusion z), (fun _ _ z => HO.noConfusion z), (fun _ z => HO.noConfusion z), nc _ (fun _ z => HO.noConfusion z) (fun _ _ z => HO.noConfusion z) (fun _ z => HO.noConfusion z) (fun _ z => HO.noConfusion z) (fun _ z => HO.noConfusion z) (fun _ z => HO.noConfusion z)⟩
  | ins c fs =>
    obtain ⟨dx, gs, h, _⟩ := h
    exact ⟨_, h, (fun _ z => HO.noConfusion z), (fun _ _ z => HO.noConfusion z), (fun _ z => HO.noConfusion z), nc _ (fun _ z => HO.noConfusion z) (fun _ _ z => HO.noConfusion z) (fun _ z => HO.noConfusion z) (fun _ z => HO.noConfusion z) (fun _ z => HO.noConfusion z) (fun _ z => HO.noConfusion z)⟩
  | dct => exact ⟨_, h, (fun _ z => HO.noConfusion z), (fun _ _ z => HO.noConfusion z), (fun _ z => HO.noConfusion z), nc _ (fun _ z => HO.noConfusion z) (fun _ _ z => HO.noConfusion z) (fun _ z => HO.noConfusion z) (fun _ z => HO.noConfusion z) (fun _ z => HO.noConfusion z) (fun _ z => HO.noConfusion z)⟩
theorem SRel.has {st : Sto} (S : SRel G ms st H) {i : Nat} {a : Addr} (h : ms[i]? = some a) : ∃ c, st[i]? = some c ∧ CellOk G ms H a c := by
  obtain ⟨h1, h2⟩ := List.getElem?_eq_some_iff.mp h
  have h3 : i < st.length := by rw [← S.len]; exact h1
  exact ⟨st[i], by simp [h3], S.cell i a _ h (by simp [h3])⟩
theorem SRel.fresh {st : Sto} (S : SRel G ms st H) {p : Addr} (hp : H p = none) : p ∉ ms := fun hm => by
  obtain ⟨i, hi, e⟩ := List.getElem_of_mem hm
  obtain ⟨c, _, hc⟩ := S.has (i := i) (a := p) (by simp [hi, e])
  obtain ⟨o, ho, _⟩ := hc.has
  rw [hp] at ho
  cases ho
theorem Gr.new {p : Addr} {o : HO} (hp : H p = none) (t : List Addr) : Gr ms H (ms ++ t) (upd H p o) :=
  ⟨⟨t, rfl⟩, fun a xs h => by rw [upd_ne (ne_of_none h hp)]; exact h, fun a ob u h => by rw [upd_ne (ne_of_none h hp)]; exact h⟩
theorem Gr.new0 {p : Addr} {o : HO} (hp : H p = none) : Gr ms H ms (upd H p o) := by
  have h := Gr.new (ms := ms) (o := o) hp []
  rw [List.append_nil] at h
  exact h
theorem CellOk.gr {a : Addr} {c : Cell} (g : Gr ms H ms' H') (k : H' a = H a) (h : CellOk G ms H a c) : CellOk G ms' H' a c := by
  cases c with
  | lst ds =>
    obtain ⟨vs, h1, h2⟩ := h
    exact ⟨vs, by rw [k]; exact h1, RVs.gr g _ _ h2⟩
  | ins c fs =>
    obtain ⟨dx, gs, h1, h2⟩ := h
    exact ⟨dx, gs, by rw [k]; exact h1, RF.gr g h2⟩
  | dct => exact k.trans h
theorem Keeps.cell {a : Addr} {c : Cell} {o : HO} (h : CellOk G ms H a c) : Keeps H (upd H a o) := fun b u e n => by
  obtain ⟨w, hw, _, _, _, nc⟩ := h.has
  rw [upd_ne (fun z => by rw [z, hw] at e; cases e; exact nc n)]
  exact e
/-- the exception at hand stays -/
theorem Keeps.xd {ms ms' : List Addr} {H H' : Hp} (k : Keeps H H') (g : Gr ms H ms' H') (h : ∀ a d fs, G.xi = some (a, d, fs) → ∃ gs, H d = some (.xd gs) ∧ RF G ms H fs gs) : ∀ a d fs, G.xi = some (a, d, fs) → ∃ gs, H' d = some (.xd gs) ∧ RF G ms' H' fs gs := fun a d fs e => by
  obtain ⟨gs, h1, h2⟩ := h a d fs e
  exact ⟨gs, k _ _ h1 (.inr (.inr (.inr (.inl ⟨_, rfl⟩)))), h2.gr g⟩
/-- an object that is no cell is laid -/
theorem SRel.lay {st : Sto} (S : SRel G ms st H) {p : Addr} {o : HO} (hp : H p = none) : SRel G ms st (upd H p o) :=
  ⟨S.len, S.nd, fun i a c h1 h2 => (S.cell i a c h1 h2).gr (Gr.new0 hp) (upd_ne fun e => S.fresh hp (e ▸ List.mem_of_getElem? h1)), (Keeps.new hp).xd (Gr.new0 hp) S.xd, (Keeps.new hp).tabs S.tabs⟩
/-- a new cell -/
theorem SRel.new {st : Sto} (S : SRel G ms st H) {p : Addr} {o : HO} {c : Cell} (hp : H p = none) (hc : CellOk G (ms ++ [p]) (upd H p o) p c) : SRel G (ms ++ [p]) (st ++ [c]) (upd H p o) := by
  refine ⟨by simp [S.len], ?_, fun i a d h1 h2 => ?_, (Keeps.new hp).xd (Gr.new hp [p]) S.xd, (Keeps.new hp).tabs S.tabs⟩
  · rw [List.nodup_append]
    refine ⟨S.nd, by simp, fun a ha b hb e => ?_⟩
    have hb' : b = p := by simpa using hb
    exact S.fresh hp (hb' ▸ e ▸ ha)
  · by_cases hi : i < ms.length
    · rw [List.getElem?_append_left hi] at h1
      rw [List.getElem?_append_left (by rw [← S.len]; exact hi)] at h2
      exact (S.cell i a d h1 h2).gr (Gr.new hp [p]) (upd_ne fun e => S.fresh hp (e ▸ List.mem_of_getElem? h1))
    · have hi' : i = ms.length := by
        have := (List.getElem?_eq_some_iff.mp h1).1
        simp at this
        omega
      subst hi'
      rw [List.getElem?_append_right (Nat.le_refl _)] at h1
      rw [S.len, List.getElem?_append_right (Nat.le_refl _)] at h2
      simp at h1 h2
      subst h1 h2
      exact hc
theorem Gr.cell {a : Addr} {c : Cell} {o : HO} (h : CellOk G ms H a c) : Gr ms H ms (upd H a o) := by
  obtain ⟨u, hu, n1, n2, _⟩ := h.has
  refine ⟨⟨[], by simp⟩, fun b xs e => ?_, fun b ob w e => ?_⟩
  · rw [upd_ne (fun z => by rw [z, hu] at e; exact n1 xs (Option.some.inj e))]
    exact e
  · rw [upd_ne (fun z => by rw [z, hu] at e; exact n2 ob w (Option.some.inj e))]
    exact e
/-- a cell is written -/
theorem SRel.put {st : Sto} (S : SRel G ms st H) {i : Nat} {a : Addr} {o : HO} {c : Cell} (hi : ms[i]? = some a) (hc : CellOk G ms (upd H a o) a c) : SRel G ms (st.set i c) (upd H a o) := by
  obtain ⟨c0, h0, k0⟩ := S.has hi
  refine ⟨by simp [S.len], S.nd, fun j b d h1 h2 => ?_, (Keeps.cell k0).xd (Gr.cell k0) S.xd, (Keeps.cell k0).tabs S.tabs⟩
  by_cases hj : i = j
  · subst hj
    rw [hi] at h1
    cases h1
    have hl := (List.getElem?_eq_some_iff.mp h0).1
    rw [List.getElem?_set_self hl] at h2
    cases h2
    exact hc
  · rw [List.getElem?_set_ne hj] at h2
    refine (S.cell j b d h1 h2).gr (Gr.cell k0) (upd_ne fun e => ?_)
    subst e
    exact hj (nd_ix S.nd hi h1)

/-! ### what a result promises -/
/-- an exception's own dict -/
def XRel (G : Gx) (ms : List Addr) (H : Hp) (fs : List (String × D)) (od : Option Addr) : Prop :=
  (fs = [] ∧ od = none) ∨ ∃ d gs, fs ≠ [] ∧ od = some d ∧ H d = some (.xd gs) ∧ RF G ms H fs gs
def Okk {α β : Type} (R : List Addr → Hp → α → β → Prop) (G : Gx) (W : Value → Option Addr → Hp → Prop) (Q : β → Hp → Prop) (ms : List Addr) (H : Hp) : Res α → Prop
  | .ok a st => ∀ b ms' H', Gr ms H ms' H' → SRel G ms' st H' → R ms' H' a b → Q b H'
  | .exn c fs st => ∀ od ms' H', Gr ms H ms' H' → SRel G ms' st H' → XRel G ms' H' fs od → W (.ref (G.tb c)) od H'
  | .bad => False
theorem Okk.gr {α β : Type} {R : List Addr → Hp → α → β → Prop} {W : Value → Option Addr → Hp → Prop} {Q : β → Hp → Prop} {r : Res α} (g : Gr ms H ms' H') (h : Okk R G W Q ms H r) : Okk R G W Q ms' H' r := by
  cases r with
  | ok a st => exact fun b m2 H2 g2 => h b m2 H2 (g.trans g2)
  | exn c fs st => exact fun od m2 H2 g2 => h od m2 H2 (g.trans g2)
  | bad => exact h
theorem Okk.bind {α β α' β' : Type} {R : List Addr → Hp → α → β → Prop} {R' : List Addr → Hp → α' → β' → Prop} {W : Value → Option Addr → Hp → Prop} {Q : β' → Hp → Prop} {Q1 : β → Hp → Prop} {r : Res α} {f : α → Sto → Res α'}
    (h : Okk R' G W Q ms H (r.bind f)) (k : ∀ a s b m1 H1, Gr ms H m1 H1 → SRel G m1 s H1 → R m1 H1 a b → Okk R' G W Q m1 H1 (f a s) → Q1 b H1) : Okk R G W Q1 ms H r := by
  cases r with
  | ok a s => exact fun b m1 H1 g S r => k a s b m1 H1 g S r (Okk.gr g h)
  | exn c fs s => exact h
  | bad => exact h
abbrev RB : List Addr → Hp → Bool → Bool → Prop := fun _ _ a b => b = a

/-! ### readings -/
def tX {α β : Type} (R : List Addr → Hp → α → β → Prop) (G : Gx) (W : WX) (f : Sl → M α) : L2.St → Hp → (β → Hp → Prop) → Prop := fun σ H Q => ∃ ms st env, SRel G ms st H ∧ RE G ms H env σ ∧ Okk R G (fun c d H => W c d σ H) Q ms H (f env st)
abbrev tE (G : Gx) (W : WX) (f : E) : TE := tX (RV G) G W f
abbrev tA (G : Gx) (W : WX) (f : Sl → M (List D)) : TA := tX (RVs G) G W f
abbrev tT (G : Gx) (W : WX) (f : Sl → M Bool) : TT := tX RB G W f
theorem PE_weak {X : Cx} {e : Expr} {t t' : TE} (h : PE X e t) (k : ∀ σ H Q, t' σ H Q → t σ H Q) : PE X e t' := ⟨fun pins s σ H Q I q => h.run pins s σ H Q I (k σ H Q q)⟩
theorem PT_weak {X : Cx} {e : Expr} {t t' : TT} (h : PT X e t) (k : ∀ σ H Q, t' σ H Q → t σ H Q) : PT X e t' := ⟨fun pins s σ H Q I q => h.run pins s σ H Q I (k σ H Q q)⟩
theorem PW_weak {X : Cx} {e : Expr} {t t' : TT} (h : PW X e t) (k : ∀ σ H Q, t' σ H Q → t σ H Q) : PW X e t' := ⟨fun wh pins s σ H Q I q => h.run wh pins s σ H Q I (k σ H Q q)⟩
theorem PA_weak {X : Cx} {es : List Expr} {t t' : TA} (h : PA X es t) (k : ∀ σ H Q, t' σ H Q → t σ H Q) : PA X es t' := ⟨fun pos pins s σ H Q I q => h.run pos pins s σ H Q I (k σ H Q q)⟩
theorem PS_weak {X : Cx} {e : Stmt} {t t' : TS} (h : PS X e t) (k : ∀ D σ H, t' D σ H → t D σ H) : PS X e t' := ⟨fun pins s σ H D I q => h.run pins s σ H D I (k D σ H q)⟩
theorem PSs_weak {X : Cx} {e : List Stmt} {t t' : TS} (h : PSs X e t) (k : ∀ D σ H, t' D σ H → t D σ H) : PSs X e t' := ⟨fun pins s σ H D I q => h.run pins s σ H D I (k D σ H q)⟩

end
end LF

set_option Elab.async false
set_option linter.all false
set_option maxRecDepth 100000
set_option maxHeartbeats 4000000
/-! The layer: expressions. -/
namespace LF
open PySem PySem.Spec PyProof.Rows L2
section
variable {G : Gx} {W : WX} {X : Cx} {σ : L2.St} {H : Hp}

/-! ### sequencing -/
theorem tX_bind {α β α' β' : Type} {R : List Addr → Hp → α → β → Prop} {R' : List Addr → Hp → α' → β' → Prop} {fa : Sl → M α} {g : Sl → α → M α'} {Q : β' → Hp → Prop}
    (h : tX R' G W (fun env st => (fa env st).bind (g env)) σ H Q) :
    tX R G W fa σ H fun v H1 => ∃ ms st env x, SRel G ms st H1 ∧ RE G ms H1 env σ ∧ R ms H1 x v ∧ Okk R' G (fun c d H => W c d σ H) Q ms H1 (g env x st) := by
  obtain ⟨ms, st, env, S, r, k⟩ := h
  exact ⟨ms, st, env, S, r, Okk.bind k fun x s v m1 H1 g1 S1 r1 k1 => ⟨m1, s, env, x, S1, r.gr g1, r1, k1⟩⟩
theorem tX_bin {α β : Type} {R' : List Addr → Hp → α → β → Prop} {fa fb : E} {g : D → D → M α} {Q : β → Hp → Prop}
    (h : tX R' G W (fun env st => (fa env st).bind fun x s => (fb env s).bind (g x)) σ H Q) :
    tE G W fa σ H fun v H1 => tE G W fb σ H1 fun u H2 => ∃ ms st x y, SRel G ms st H2 ∧ RV G ms H2 x v ∧ RV G ms H2 y u ∧ Okk R' G (fun c d H => W c d σ H) Q ms H2 (g x y st) := by
  obtain ⟨ms, st, env, S, r, k⟩ := h
  exact ⟨ms, st, env, S, r, Okk.bind k fun x s v m1 H1 g1 S1 r1 k1 => ⟨m1, s, env, S1, r.gr g1, Okk.bind k1 fun y s2 u m2 H2 g2 S2 r2 k2 => ⟨m2, s2, x, y, S2, RV.gr g2 _ _ r1, r2, k2⟩⟩⟩
/-- a test, then one of two -/
theorem tX_if {α β : Type} {R' : List Addr → Hp → α → β → Prop} {c : Sl → M Bool} {fa fb : Sl → M α} {Q : β → Hp → Prop}
    (h : tX R' G W (fun env st => (c env st).bind fun b s => if b = true then fa env s else fb env s) σ H Q) :
    tT G W c σ H fun b H1 => if b = true then tX R' G W fa σ H1 Q else tX R' G W fb σ H1 Q := by
  obtain ⟨ms, st, env, S, r, k⟩ := h
  refine ⟨ms, st, env, S, r, Okk.bind k fun b s b' m1 H1 g1 S1 r1 k1 => ?_⟩
  cases r1
  cases b with
  | true => exact ⟨m1, s, env, S1, r.gr g1, by simpa using k1⟩
  | false => exact ⟨m1, s, env, S1, r.gr g1, by simpa using k1⟩

/-! ### operations that raise nothing -/
abbrev O (α : Type) := Sto → Option (α × Sto)
def ofO {α : Type} : Option (α × Sto) → Res α
  | some (a, s) => .ok a s
  | none => .bad
def OkO {α β : Type} (R : List Addr → Hp → α → β → Prop) (G : Gx) (Q : β → Hp → Prop) (ms : List Addr) (H : Hp) : Option (α × Sto) → Prop
  | some (a, st) => ∀ b ms' H', Gr ms H ms' H' → SRel G ms' st H' → R ms' H' a b → Q b H'
  | none => False
theorem Okk.ofO {α β : Type} {R : List Addr → Hp → α → β → Prop} {W : Value → Option Addr → Hp → Prop} {Q : β → Hp → Prop} {ms : List Addr} {o : Option (α × Sto)} (h : Okk R G W Q ms H (ofO o)) : OkO R G Q ms H o := by
  cases o with
  | some p => exact h
  | none => exact h
/-- a new list -/
def newL (ds : List D) : O D := fun st => some (.ref st.length, st ++ [.lst ds])
theorem OkO.newL {Q : VK} {ms : List Addr} {st : Sto} {ds : List D} {vs : List V} (S : SRel G ms st H) (r : RVs G ms H ds vs) (h : OkO (RV G) G Q ms H (newL ds st)) : ∀ p, H p = none → Q (.ref p) (upd H p (.lst vs)) := fun p hp => by
  refine h (.ref p) (ms ++ [p]) _ (Gr.new hp [p]) (S.new hp ⟨vs, upd_same, RVs.gr (Gr.new hp [p]) _ _ r⟩) ?_
  simp only [RV]
  exact ⟨p, rfl, by rw [List.getElem?_append_right (by rw [S.len]; exact Nat.le_refl _), S.len]; simp⟩
theorem OkO.val {Q : VK} {ms : List Addr} {st : Sto} {d : D} {v : V} (S : SRel G ms st H) (r : RV G ms H d v) (h : OkO (RV G) G Q ms H (some (d, st))) : Q v H := h v ms H Gr.refl S r
theorem OkO.tup {Q : VK} {ms : List Addr} {st : Sto} {ds : List D} {vs : List V} (S : SRel G ms st H) (r : RVs G ms H ds vs) (h : OkO (RV G) G Q ms H (some (.tup ds, st))) : ∀ p, H p = none → Q (.ref p) (upd H p (.tup vs)) := fun p hp => by
  refine h (.ref p) ms _ (Gr.new0 hp) (S.lay hp) ?_
  simp only [RV]
  exact ⟨p, vs, rfl, .inl upd_same, RVs.gr (Gr.new0 hp) _ _ r⟩

def rO (G : Gx) (op : D → D → O D) : R2 := fun v u H Q => ∃ ms st x y, SRel G ms st H ∧ RV G ms H x v ∧ RV G ms H y u ∧ OkO (RV G) G Q ms H (op x y st)
def rU1 (G : Gx) (op : D → O D) : V → Hp → VK → Prop := fun v H Q => ∃ ms st x, SRel G ms st H ∧ RV G ms H x v ∧ OkO (RV G) G Q ms H (op x st)
def rN (G : Gx) (op : List D → O D) : List V → Hp → VK → Prop := fun vs H Q => ∃ ms st ds, SRel G ms st H ∧ RVs G ms H ds vs ∧ OkO (RV G) G Q ms H (op ds st)
def rM (G : Gx) (op : D → List D → O D) : V → List V → Hp → VK → Prop := fun v vs H Q => ∃ ms st x ds, SRel G ms st H ∧ RV G ms H x v ∧ RVs G ms H ds vs ∧ OkO (RV G) G Q ms H (op x ds st)
theorem OpR_imp {f : Value → Value → Sem Value} {r r' : R2} (h : OpR X f r) (k : ∀ x y H Q, r' x y H Q → r x y H Q) : OpR X f r' := fun pins s σ H x y v u Q I rx ry q => h pins s σ H x y v u Q I rx ry (k x y H Q q)
theorem UnR_imp {f : Value → Sem Value} {r r' : V → Hp → VK → Prop} (h : UnR X f r) (k : ∀ x H Q, r' x H Q → r x H Q) : UnR X f r' := fun pins s σ H x v Q I rx q => h pins s σ H x v Q I rx (k x H Q q)
theorem CallR_imp {f : Value} {r r' : List V → Hp → VK → Prop} (h : CallR X f r) (k : ∀ xs H Q, r' xs H Q → r xs H Q) : CallR X f r' := fun pins s σ H xs us Q I rx q => h pins s σ H xs us Q I rx (k xs H Q q)
theorem CallR_or {f : Value} {r r' : List V → Hp → VK → Prop} (h : CallR X f r) (h' : CallR X f r') : CallR X f (fun xs H Q => r xs H Q ∨ r' xs H Q) := fun pins s σ H xs us Q I rx q => by
  rcases q with q | q
  · exact h pins s σ H xs us Q I rx q
  · exact h' pins s σ H xs us Q I rx q
theorem IxR_imp {r r' : R2} (h : IxR X r) (k : ∀ x y H Q, r' x y H Q → r x y H Q) : IxR X r' := fun va sl pins s σ H x y v u Q I rx ry q => h va sl pins s σ H x y v u Q I rx ry (k x y H Q q)
theorem MtR_imp {id : String} {r r' : V → List V → Hp → VK → Prop} (h : MtR X id r) (k : ∀ x xs H Q, r' x xs H Q → r x xs H Q) : MtR X id r' := fun pins s σ H x xs v us Q I rx rv q => h pins s σ H x xs v us Q I rx rv (k x xs H Q q)
theorem SlR_imp {r r' : V → Option Int → Option Int → Hp → VK → Prop} (h : SlR X r) (k : ∀ x lo hi H Q, r' x lo hi H Q → r x lo hi H Q) : SlR X r' := fun pins s σ H x v vl vu lo hi sl Q I rx hs pl pu q => h pins s σ H x v vl vu lo hi sl Q I rx hs pl pu (k x lo hi H Q q)

/-! ### expressions -/
def eVar (i : Nat) : E := fun env st => match env[i]? with
  | some (some d) => .ok d st
  | _ => .bad
def eC (d : D) : E := fun _ st => .ok d st
def eBin (op : D → D → O D) (a b : E) : E := fun env st => (a env st).bind fun x s => (b env s).bind fun y s' => ofO (op x y s')
def eUn (op : D → O D) (a : E) : E := fun env st => (a env st).bind fun x s => ofO (op x s)
def eArgs : List E → Sl → M (List D)
  | [] => fun _ st => .ok [] st
  | a :: as => fun env st => (a env st).bind fun x s => (eArgs as env s).bind fun xs s' => .ok (x :: xs) s'
def eBlt (op : List D → O D) (as : List E) : E := fun env st => (eArgs as env st).bind fun xs s => ofO (op xs s)
def eIf (c : Sl → M Bool) (a b : E) : E := fun env st => (c env st).bind fun k s => if k = true then a env s else b env s
def LIM : Nat := 16000000
theorem LIM_le {n : Nat} (h : n ≤ LIM) : n ≤ sizeLine := Nat.le_trans h (by decide)
theorem LIM_lt {n : Nat} (h : n < LIM) : n < sizeLine := Nat.lt_of_lt_of_le h (by decide)
def opTup (ds : List D) : O D := fun st => if ds.length ≤ LIM then some (.tup ds, st) else none
def opLst (ds : List D) : O D := fun st => if ds.length ≤ LIM then newL ds st else none

theorem e_var {e : Expr} {i : Nat} (h : PE X e (tVar i)) : PE X e (tE G W (eVar i)) := PE_weak h fun σ H Q ⟨ms, st, env, S, r, k⟩ => by
  unfold eVar at k
  cases hi : env[i]? with
  | none => rw [hi] at k; exact k.elim
  | some o =>
    cases o with
    | none => rw [hi] at k; exact k.elim
    | some d =>
      rw [hi] at k
      obtain ⟨v, h1, h2⟩ := r.at hi
      exact ⟨v, h1, k v ms H Gr.refl S h2⟩
theorem e_c {e : Expr} {d : D} {v : V} (h : PE X e (tC v)) (r : ∀ ms H, RV G ms H d v) : PE X e (tE G W (eC d)) := PE_weak h fun σ H Q ⟨ms, st, env, S, _, k⟩ => k v ms H Gr.refl S (r ms H)
theorem e_int {i j pos} : PE X (.Constant (.int i) j pos) (tE G W (eC (.int i))) := e_c pe_int fun _ _ => by simp only [RV]
theorem e_bl {b j pos} : PE X (.Constant (.bool b) j pos) (tE G W (eC (.bl b))) := e_c pe_bl fun _ _ => by simp only [RV]
theorem e_non {j pos} : PE X (.Constant .none j pos) (tE G W (eC .non)) := e_c pe_non fun _ _ => by simp only [RV]
theorem e_str {x j pos} : PE X (.Constant (.str x) j pos) (tE G W (eC (.str x))) := e_c pe_str fun _ _ => by simp only [RV]
theorem e_glob {x : Str} {v : V} {d : D} {u : Value} {pos : Pos} (hg : Gl X x) (hm : X.mg x = some u) (r : RelV v u) (rd : ∀ ms H, RV G ms H d v) (hd : (x == ("__debug__" : Str)) = false := by decide) : PE X (.Name x pos) (tE G W (eC d)) :=
  e_c (pe_glob hg hm r hd) rd
theorem tX_mono {α β : Type} {R : List Addr → Hp → α → β → Prop} {f : Sl → M α} {Q Q' : β → Hp → Prop} (h : tX R G W f σ H Q) (k : ∀ b H1, Q b H1 → Q' b H1) : tX R G W f σ H Q' := by
  obtain ⟨ms, st, env, S, r, q⟩ := h
  refine ⟨ms, st, env, S, r, ?_⟩
  cases e : f env st with
  | ok x s =>
    rw [e] at q
    exact fun v m1 H1 g1 S1 r1 => k v H1 (q v m1 H1 g1 S1 r1)
  | exn c fs s =>
    rw [e] at q
    exact q
  | bad =>
    rw [e] at q
    exact q
theorem bin_tOp {f : D → D → O D} {fa fb : E} {Q : VK} (h : tE G W (eBin f fa fb) σ H Q) : tOp (rO G f) (tE G W fa) (tE G W fb) σ H Q :=
  tX_mono (tX_bin h) fun v H1 h1 => tX_mono h1 fun u H2 ⟨ms, st, x, y, S, r1, r2, k⟩ => ⟨ms, st, x, y, S, r1, r2, k.ofO⟩
theorem un_tUn {f : D → O D} {fa : E} {Q : VK} (h : tE G W (eUn f fa) σ H Q) : tUn (rU1 G f) (tE G W fa) σ H Q :=
  tX_mono (tX_bind h) fun v H1 ⟨ms, st, env, x, S, _, r1, k⟩ => ⟨ms, st, x, S, r1, k.ofO⟩
theorem e_bin {a b : Expr} {pos : Pos} {op : Operator} {f : D → D → O D} {fa fb : E} (ho : OpR X (binaryOp op) (rO G f)) (ha : PE X a (tE G W fa)) (hb : PE X b (tE G W fb)) : PE X (.BinOp a op b pos) (tE G W (eBin f fa fb)) :=
  PE_weak (pe_op ho ha hb) fun _ _ _ h => bin_tOp h
theorem e_un {a : Expr} {pos : Pos} {op : UnaryOp} {f : D → O D} {fa : E} (ho : UnR X (unaryOp op) (rU1 G f)) (ha : PE X a (tE G W fa)) : PE X (.UnaryOp op a pos) (tE G W (eUn f fa)) :=
  PE_weak (pe_un ho ha) fun _ _ _ h => un_tUn h
theorem e_cmp {a b : Expr} {pos : Pos} {op : CmpOp} {f : D → D → O D} {fa fb : E} (ho : OpR X (compareOp op) (rO G f)) (ha : PE X a (tE G W fa)) (hb : PE X b (tE G W fb)) (hm : behindInMarks op b = false) : PE X (.Compare a [op] [b] pos) (tE G W (eBin f fa fb)) :=
  PE_weak (pe_cmpR ho ha hb hm) fun _ _ _ h => bin_tOp h

/-! ### tests -/
abbrev T := Sl → M Bool
def asB (a : E) : T := fun env st => (a env st).bind fun x s => match x with
  | .bl k => .ok k s
  | _ => .bad
theorem asB_tTest {fa : E} {Q : Bool → Hp → Prop} (h : tT G W (asB fa) σ H Q) : tE G W fa σ H fun x H' => ∃ k, x = .bl k ∧ Q k H' :=
  tX_mono (tX_bind h) fun v H1 ⟨ms, st, env, x, S, _, r1, k⟩ => by
    cases x with
    | bl b =>
      simp only [RV] at r1
      exact ⟨b, r1, k b ms H1 Gr.refl S rfl⟩
    | _ => exact k.elim
theorem tE_tTest {t : TE} {fa : E} (k : ∀ σ H Q, tE G W fa σ H Q → t σ H Q) {Q : Bool → Hp → Prop} (h : tT G W (asB fa) σ H Q) : tTest t σ H Q := k _ _ _ (asB_tTest h)
theorem t_cmp {a b : Expr} {pos : Pos} {op : CmpOp} {f : D → D → O D} {fa fb : E} (ho : OpR X (compareOp op) (rO G f)) (ha : PE X a (tE G W fa)) (hb : PE X b (tE G W fb)) (hm : behindInMarks op b = false) : PT X (.Compare a [op] [b] pos) (tT G W (asB (eBin f fa fb))) :=
  PT_weak (pt_cmpR ho ha hb hm) fun _ _ _ h => tE_tTest (fun _ _ _ h => bin_tOp h) h
def eChain (f g : D → D → O D) (a b c : E) : E := fun env st => (a env st).bind fun x s => (b env s).bind fun y s => (ofO (f x y s)).bind fun z s => match z with
  | .bl true => (c env s).bind fun w s => ofO (g y w s)
  | .bl false => .ok (.bl false) s
  | _ => .bad
theorem chain_tChain {f g : D → D → O D} {fa fb fc : E} {Q : VK} (h : tE G W (eChain f g fa fb fc) σ H Q) : tChain (rO G f) (rO G g) (tE G W fa) (tE G W fb) (tE G W fc) σ H Q := by
  obtain ⟨ms, st, env, S, r, k⟩ := h
  refine ⟨ms, st, env, S, r, Okk.bind k fun x s v m1 H1 g1 S1 r1 k1 => ⟨m1, s, env, S1, r.gr g1, Okk.bind k1 fun y s2 u m2 H2 g2 S2 r2 k2 => ⟨m2, s2, x, y, S2, RV.gr g2 _ _ r1, r2, ?_⟩⟩⟩
  refine Okk.ofO (W := fun c d H => W c d σ H) (Okk.bind k2 fun z s3 z' m3 H3 g3 S3 r3 k3 => ?_)
  cases z with
  | bl b =>
    simp only [RV] at r3
    refine ⟨b, r3, ?_⟩
    cases b with
    | true =>
      rw [if_pos rfl]
      exact ⟨m3, s3, env, S3, (r.gr g1).gr (g2.trans g3), Okk.bind k3 fun w s4 w' m4 H4 g4 S4 r4 k4 => ⟨m4, s4, y, w, S4, RV.gr (g3.trans g4) _ _ r2, r4, k4.ofO⟩⟩
    | false =>
      rw [if_neg Bool.false_ne_true]
      exact k3 (.bl false) m3 H3 Gr.refl S3 (by simp only [RV])
  | _ => exact k3.elim
theorem e_chain {a b c : Expr} {pos : Pos} {op op' : CmpOp} {f g : D → D → O D} {fa fb fc : E} (ho : OpR X (compareOp op) (rO G f)) (ho' : OpR X (compareOp op') (rO G g)) (ha : PE X a (tE G W fa)) (hb : PE X b (tE G W fb)) (hc : PE X c (tE G W fc))
    (hm : lastMarks [op, op'] [b, c] = false := by with_unfolding_all rfl) : PE X (.Compare a [op, op'] [b, c] pos) (tE G W (eChain f g fa fb fc)) :=
  PE_weak (pe_chain ho ho' ha hb hc hm) fun _ _ _ h => chain_tChain h
theorem t_chain {a b c : Expr} {pos : Pos} {op op' : CmpOp} {f g : D → D → O D} {fa fb fc : E} (ho : OpR X (compareOp op) (rO G f)) (ho' : OpR X (compareOp op') (rO G g)) (ha : PE X a (tE G W fa)) (hb : PE X b (tE G W fb)) (hc : PE X c (tE G W fc))
    (hm : lastMarks [op, op'] [b, c] = false := by with_unfolding_all rfl) : PT X (.Compare a [op, op'] [b, c] pos) (tT G W (asB (eChain f g fa fb fc))) :=
  PT_weak (pt_chain ho ho' ha hb hc hm) fun _ _ _ h => tE_tTest (fun _ _ _ h => chain_tChain h) h
/-- a value's truth -/
def tru : D → Sto → Option Bool
  | .non, _ => some false
  | .bl b, _ => some b
  | .int i, _ => some (i != 0)
  | .str x, _ => if x.length ≤ LIM then some ((x.length : Int) != 0) else none
  | .tup ds, _ => some (!ds.isEmpty)
  | .ref i, st => match st[i]? with
    | some (.lst ds) => some (!ds.isEmpty)
    | _ => none
  | _, _ => none
theorem RVs.empty {ms : List Addr} {ds : List D} {vs : List V} (h : RVs G ms H ds vs) : (!vs.isEmpty) = !ds.isEmpty := by
  cases ds with
  | nil =>
    simp only [RVs] at h
    subst h
    rfl
  | cons d ds =>
    simp only [RVs] at h
    obtain ⟨v, r, rfl, _⟩ := h
    rfl
theorem SRel.lst {ms : List Addr} {st : Sto} (S : SRel G ms st H) {i : Nat} {ds : List D} (h : st[i]? = some (.lst ds)) : ∃ a vs, ms[i]? = some a ∧ H a = some (.lst vs) ∧ RVs G ms H ds vs := by
  have hl : i < ms.length := by
    rw [S.len]
    exact (List.getElem?_eq_some_iff.mp h).1
  obtain ⟨vs, h1, h2⟩ := S.cell i ms[i] _ (by simp [hl]) h
  exact ⟨ms[i], vs, by simp [hl], h1, h2⟩
theorem SRel.ref {ms : List Addr} {st : Sto} (S : SRel G ms st H) {i : Nat} {ds : List D} {v : V} (h : st[i]? = some (.lst ds)) (r : RV G ms H (.ref i) v) : ∃ a vs, v = .ref a ∧ ms[i]? = some a ∧ H a = some (.lst vs) ∧ RVs G ms H ds vs := by
  simp only [RV] at r
  obtain ⟨a, rfl, ha⟩ := r
  obtain ⟨b, vs, hb, h1, h2⟩ := S.lst h
  rw [ha] at hb
  cases hb
  exact ⟨a, vs, rfl, ha, h1, h2⟩
theorem tru_ok {ms : List Addr} {st : Sto} (S : SRel G ms st H) {d : D} {v : V} {k : Bool} (r : RV G ms H d v) (h : tru d st = some k) : TruV G.K v H k := by
  cases d with
  | non => simp only [RV] at r; simp only [tru] at h; cases h; subst r; exact rfl
  | bl b => simp only [RV] at r; simp only [tru] at h; cases h; subst r; exact rfl
  | int i => simp only [RV] at r; simp only [tru] at h; cases h; subst r; exact rfl
  | str x =>
    simp only [RV] at r
    simp only [tru] at h
    split at h
    · cases h
      subst r
      rename_i hx
      exact ⟨LIM_le hx, rfl⟩
    · cases h
  | tup ds =>
    simp only [RV] at r
    obtain ⟨a, vs, rfl, h1, h2⟩ := r
    simp only [tru] at h
    cases h
    exact .inr (.inl ⟨vs, h1.t, h2.empty.symm⟩)
  | ref i =>
    simp only [tru] at h
    split at h
    · rename_i ds e
      cases h
      obtain ⟨a, vs, rfl, _, h1, h2⟩ := S.ref e r
      exact .inl ⟨vs, SqL.of h1, h2.empty.symm⟩
    · cases h
  | glo n => cases h
  | ty n => cases h
  | scr ns => cases h
  | xc => cases h
def tTru (a : E) : T := fun env st => (a env st).bind fun x s => match tru x s with
  | some k => .ok k s
  | none => .bad
theorem t_truth {a : Expr} {fa : E} (hK : X.K = G.K) (ha : PE X a (tE G W fa)) (he : ∀ whole, isTrue a X.env whole = (do let v ← whole; standAt a.pos; holding [v] (truthy v)) := by intro _; rfl) : PT X a (tT G W (tTru fa)) :=
  PT_weak (pt_truth ha he) fun σ H Q h => tX_mono (tX_bind h) fun v H1 ⟨ms, st, env, x, S, _, r1, k⟩ => by
    cases e : tru x st with
    | none => rw [e] at k; exact k.elim
    | some b =>
      rw [e] at k
      exact ⟨b, by rw [hK]; exact tru_ok S r1 e, k b ms H1 Gr.refl S rfl⟩
def tAnd' (a b : T) : T := fun env st => (a env st).bind fun k s => if k = true then b env s else .ok false s
def tOr' (a b : T) : T := fun env st => (a env st).bind fun k s => if k = true then .ok true s else b env s
def tNot' (a : T) : T := fun env st => (a env st).bind fun k s => .ok (!k) s
theorem w_one_and {a : Expr} {pos : Pos} {ta : T} (ha : PT X a (tT G W ta)) : PW X (.BoolOp .And [a] pos) (tT G W ta) := pw_and1 ha
theorem w_one_or {a : Expr} {pos : Pos} {ta : T} (ha : PT X a (tT G W ta)) : PW X (.BoolOp .Or [a] pos) (tT G W ta) := pw_or1 ha
theorem w_and {a b : Expr} {rest : List Expr} {pos : Pos} {ta tb : T} (ha : PT X a (tT G W ta)) (hb : PW X (.BoolOp .And (b :: rest) pos) (tT G W tb)) : PW X (.BoolOp .And (a :: b :: rest) pos) (tT G W (tAnd' ta tb)) :=
  PW_weak (pw_and ha hb) fun σ H Q h => tX_mono (tX_bind h) fun b H1 ⟨ms, st, env, x, S, r, r1, k⟩ => by
    cases r1
    cases b with
    | true => exact ⟨ms, st, env, S, r, by simpa using k⟩
    | false => exact (show Okk RB G _ Q ms H1 (.ok false st) by simpa using k) false ms H1 Gr.refl S rfl
theorem w_or {a b : Expr} {rest : List Expr} {pos : Pos} {ta tb : T} (ha : PT X a (tT G W ta)) (hb : PW X (.BoolOp .Or (b :: rest) pos) (tT G W tb)) : PW X (.BoolOp .Or (a :: b :: rest) pos) (tT G W (tOr' ta tb)) :=
  PW_weak (pw_or ha hb) fun σ H Q h => tX_mono (tX_bind h) fun b H1 ⟨ms, st, env, x, S, r, r1, k⟩ => by
    cases r1
    cases b with
    | true => exact (show Okk RB G _ Q ms H1 (.ok true st) by simpa using k) true ms H1 Gr.refl S rfl
    | false => exact ⟨ms, st, env, S, r, by simpa using k⟩
theorem t_not {a : Expr} {pos : Pos} {ta : T} (ha : PT X a (tT G W ta)) : PT X (.UnaryOp .Not a pos) (tT G W (tNot' ta)) :=
  PT_weak (pt_not ha) fun σ H Q h => tX_mono (tX_bind h) fun b H1 ⟨ms, st, env, x, S, r, r1, k⟩ => by
    cases r1
    exact k (!b) ms H1 Gr.refl S rfl
/-- and, or, not as values -/
def eAnd (a b : E) : E := fun env st => (a env st).bind fun x s => match tru x s with
  | some true => b env s
  | some false => .ok x s
  | none => .bad
def eOr (a b : E) : E := fun env st => (a env st).bind fun x s => match tru x s with
  | some true => .ok x s
  | some false => b env s
  | none => .bad
def eNot (a : E) : E := fun env st => (a env st).bind fun x s => match tru x s with
  | some k => .ok (.bl (!k)) s
  | none => .bad
theorem e_one {op} {a : Expr} {pos : Pos} {fa : E} (ha : PE X a (tE G W fa)) : PE X (.BoolOp op [a] pos) (tE G W fa) := pe_one ha
theorem e_and {a b : Expr} {rest : List Expr} {pos : Pos} {fa fb : E} (hK : X.K = G.K) (ha : PE X a (tE G W fa)) (hb : PE X (.BoolOp .And (b :: rest) pos) (tE G W fb)) : PE X (.BoolOp .And (a :: b :: rest) pos) (tE G W (eAnd fa fb)) :=
  PE_weak (pe_andT ha hb) fun σ H Q h => tX_mono (tX_bind h) fun v H1 ⟨ms, st, env, x, S, r, r1, k⟩ => by
    cases e : tru x st with
    | none => rw [e] at k; exact k.elim
    | some b =>
      rw [e] at k
      refine ⟨b, by rw [hK]; exact tru_ok S r1 e, ?_⟩
      cases b with
      | true => exact ⟨ms, st, env, S, r, k⟩
      | false => exact k v ms H1 Gr.refl S r1
theorem e_or {a b : Expr} {rest : List Expr} {pos : Pos} {fa fb : E} (hK : X.K = G.K) (ha : PE X a (tE G W fa)) (hb : PE X (.BoolOp .Or (b :: rest) pos) (tE G W fb)) : PE X (.BoolOp .Or (a :: b :: rest) pos) (tE G W (eOr fa fb)) :=
  PE_weak (pe_orT ha hb) fun σ H Q h => tX_mono (tX_bind h) fun v H1 ⟨ms, st, env, x, S, r, r1, k⟩ => by
    cases e : tru x st with
    | none => rw [e] at k; exact k.elim
    | some b =>
      rw [e] at k
      refine ⟨b, by rw [hK]; exact tru_ok S r1 e, ?_⟩
      cases b with
      | true => exact k v ms H1 Gr.refl S r1
      | false => exact ⟨ms, st, env, S, r, k⟩
theorem e_not {a : Expr} {pos : Pos} {fa : E} (hK : X.K = G.K) (ha : PE X a (tE G W fa)) : PE X (.UnaryOp .Not a pos) (tE G W (eNot fa)) :=
  PE_weak (pe_notT ha) fun σ H Q h => tX_mono (tX_bind h) fun v H1 ⟨ms, st, env, x, S, r, r1, k⟩ => by
    cases e : tru x st with
    | none => rw [e] at k; exact k.elim
    | some b =>
      rw [e] at k
      exact ⟨b, by rw [hK]; exact tru_ok S r1 e, k (.bl (!b)) ms H1 Gr.refl S (by simp only [RV])⟩
theorem e_if {c a b : Expr} {pos : Pos} {tc : T} {fa fb : E} (hc : PT X c (tT G W tc)) (ha : PE X a (tE G W fa)) (hb : PE X b (tE G W fb)) : PE X (.IfExp c a b pos) (tE G W (eIf tc fa fb)) :=
  PE_weak (pe_ifExp hc ha hb) fun σ H Q h => tX_mono (tX_if h) fun b H1 h1 => by
    cases b with
    | true => exact h1
    | false => exact h1

/-! ### arguments, displays, calls of what is built in -/
theorem a_nil : PA X [] (tA G W (eArgs [])) := PA_weak pa_nil fun σ H Q ⟨ms, st, env, S, _, k⟩ => k [] ms H Gr.refl S (by simp only [RVs])
theorem a_cons {e : Expr} {es : List Expr} {fa : E} {fs : List E} (ha : PE X e (tE G W fa)) (hr : PA X es (tA G W (eArgs fs))) (hs : starEach (e :: es) X.env = (false, eval e X.env) :: starEach es X.env := by rfl) : PA X (e :: es) (tA G W (eArgs (fa :: fs))) :=
  PA_weak (pa_cons ha hr hs) fun σ H Q h => by
    obtain ⟨ms, st, env, S, r, k⟩ := h
    exact ⟨ms, st, env, S, r, Okk.bind k fun x s v m1 H1 g1 S1 r1 k1 => ⟨m1, s, env, S1, r.gr g1, Okk.bind k1 fun xs s2 vs m2 H2 g2 S2 r2 k2 =>
      k2 (v :: vs) m2 H2 Gr.refl S2 (by simp only [RVs]; exact ⟨v, vs, rfl, RV.gr g2 _ _ r1, r2⟩)⟩⟩
theorem e_tup {es : List Expr} {x1} {pos : Pos} {fs : List E} (h : PA X es (tA G W (eArgs fs))) : PE X (.Tuple es x1 pos) (tE G W (eBlt opTup fs)) :=
  PE_weak (pe_tup h) fun σ H Q h => tX_mono (tX_bind h) fun vs H1 ⟨ms, st, env, ds, S, r, r1, k⟩ => by
    have k := k.ofO
    unfold opTup at k
    split at k
    · rename_i hl
      exact ⟨by rw [r1.length]; exact LIM_le hl, OkO.tup S r1 k⟩
    · exact k.elim
theorem e_lst {es : List Expr} {pos : Pos} {fs : List E} (h : PA X es (tA G W (eArgs fs))) : PE X (.List es pos) (tE G W (eBlt opLst fs)) :=
  PE_weak (pe_lst h) fun σ H Q h => tX_mono (tX_bind h) fun vs H1 ⟨ms, st, env, ds, S, r, r1, k⟩ => by
    have k := k.ofO
    unfold opLst at k
    split at k
    · rename_i hl
      exact ⟨by rw [r1.length]; exact LIM_le hl, OkO.newL S r1 k⟩
    · exact k.elim
theorem blt_tCB {op : List D → O D} {fs : List E} {Q : VK} (h : tE G W (eBlt op fs) σ H Q) : tCB (rN G op) (tA G W (eArgs fs)) σ H Q :=
  tX_mono (tX_bind h) fun vs H1 ⟨ms, st, env, ds, S, r, r1, k⟩ => ⟨ms, st, ds, S, r1, k.ofO⟩
theorem e_blt {x : Str} {e : Expr} {es : List Expr} {p pos : Pos} {id : String} {op : List D → O D} {fs : List E} (hc : CallR X (.builtin id) (rN G op)) (hg : Gl X x) (hm : X.mg x = none) (hv : bootBuiltins x = some (.builtin id)) (ha : PA X (e :: es) (tA G W (eArgs fs)))
    (hn : x ≠ "__name__" := by decide) (hdb : (x == ("__debug__" : Str)) = false := by decide) (he : starEach (e :: es) X.env = (false, eval e X.env) :: starEach es X.env := by rfl) (hpl : (backTo pos (starEach es X.env)).any (·.1) = false := by rfl) :
    PE X (.Call (.Name x p) (e :: es) [] pos) (tE G W (eBlt op fs)) :=
  PE_weak (pe_callB hc hg hm hv ha hn hdb he hpl) fun _ _ _ h => blt_tCB h
theorem e_bty {x : Str} {e : Expr} {es : List Expr} {p pos : Pos} {id : String} {op : List D → O D} {fs : List E} (hc : CallR X (.type id) (rN G op)) (hg : Gl X x) (hm : X.mg x = none) (hv : bootBuiltins x = some (.type id)) (ha : PA X (e :: es) (tA G W (eArgs fs)))
    (hn : x ≠ "__name__" := by decide) (hdb : (x == ("__debug__" : Str)) = false := by decide) (he : starEach (e :: es) X.env = (false, eval e X.env) :: starEach es X.env := by rfl) (hpl : (backTo pos (starEach es X.env)).any (·.1) = false := by rfl) :
    PE X (.Call (.Name x p) (e :: es) [] pos) (tE G W (eBlt op fs)) :=
  PE_weak (pe_callTy hc hg hm hv ha hn hdb he hpl) fun _ _ _ h => blt_tCB h
/-- o[i] -/
theorem e_ix {a b : Expr} {pos : Pos} {f : D → D → O D} {fa fb : E} (ho : IxR X (rO G f)) (ha : PE X a (tE G W fa)) (hb : PE X b (tE G W fb)) (hs : PlainIx b := by exact fun _ _ => rfl) : PE X (.Subscript a b pos) (tE G W (eBin f fa fb)) :=
  PE_weak (pe_ix ho ha hb hs) fun _ _ _ h => bin_tOp h
end
end LF

set_option Elab.async false
set_option linter.all false
set_option maxRecDepth 100000
set_option maxHeartbeats 4000000
/-! The layer: operations. -/
namespace LF
open PySem PySem.Spec PyProof.Rows L2
section
variable {G : Gx} {W : WX} {X : Cx} {σ : L2.St} {H : Hp}
/-! ### ints, texts, tuples, lists: + - * // % ** -/
def opAdd : D → D → O D
  | .int i, .int j => fun st => some (.int (i + j), st)
  | .str x, .str y => fun st => if x.length + y.length ≤ LIM then some (.str (x ++ y), st) else none
  | .tup a, .tup b => fun st => if a.length + b.length ≤ LIM then some (.tup (a ++ b), st) else none
  | .ref i, .ref j => fun st => match st[i]?, st[j]? with
    | some (.lst a), some (.lst b) => if a.length + b.length ≤ LIM then newL (a ++ b) st else none
    | _, _ => none
  | _, _ => fun _ => none
def opSub : D → D → O D
  | .int i, .int j => fun st => some (.int (i - j), st)
  | _, _ => fun _ => none
def opMul : D → D → O D
  | .int i, .int j => fun st => if (-(2 ^ 64) < i ∧ i < 2 ^ 64) ∨ (-(2 ^ 64) < j ∧ j < 2 ^ 64) then some (.int (i * j), st) else none
  | .ref i, .int k => fun st => match st[i]? with
    | some (.lst a) => if a.length * k.toNat ≤ LIM ∧ -(2 ^ 63) ≤ k ∧ k < 2 ^ 63 then newL (List.replicate k.toNat a).flatten st else none
    | _ => none
  | _, _ => fun _ => none
def opDiv : D → D → O D
  | .int i, .int j => fun st => if 0 < j ∧ j < 1073741824 then some (.int (i / j), st) else none
  | _, _ => fun _ => none
def opMod : D → D → O D
  | .int i, .int j => fun st => if 0 < j then some (.int (i % j), st) else none
  | _, _ => fun _ => none
def opPow : D → D → O D
  | .int i, .int j => fun st => if 0 ≤ j ∧ j ≤ 1000000 ∧ i.natAbs < 2 ^ 64 then some (.int (i ^ j.toNat), st) else none
  | _, _ => fun _ => none
def opNeg : D → O D
  | .int i => fun st => some (.int (-i), st)
  | _ => fun _ => none
theorem OkO.int {Q : VK} {ms : List Addr} {st : Sto} {i : Int} (S : SRel G ms st H) (h : OkO (RV G) G Q ms H (some (.int i, st))) : Q (.int i) H := OkO.val S (by simp only [RV]) h
theorem OkO.bl {Q : VK} {ms : List Addr} {st : Sto} {i : Bool} (S : SRel G ms st H) (h : OkO (RV G) G Q ms H (some (.bl i, st))) : Q (.bl i) H := OkO.val S (by simp only [RV]) h
theorem OkO.str {Q : VK} {ms : List Addr} {st : Sto} {i : Str} (S : SRel G ms st H) (h : OkO (RV G) G Q ms H (some (.str i, st))) : Q (.str i) H := OkO.val S (by simp only [RV]) h
theorem o_add (hK : X.K = G.K) : OpR X (binaryOp .Add) (rO G opAdd) := OpR_imp (op_add.or (op_add_str.or (op_catA.or op_cat))) fun v u H Q ⟨ms, st, x, y, S, rx, ry, k⟩ => by
  unfold opAdd at k
  split at k
  · simp only [RV] at rx ry
    subst rx ry
    exact .inl ⟨_, _, rfl, rfl, OkO.int S k⟩
  · simp only [RV] at rx ry
    subst rx ry
    split at k
    · rename_i hl
      exact .inr (.inl ⟨_, _, rfl, rfl, LIM_le hl, OkO.str S k⟩)
    · exact k.elim
  · rename_i a b
    have rx0 := rx
    have ry0 := ry
    simp only [RV] at rx ry
    obtain ⟨p, vs, rfl, h1, h2⟩ := rx
    obtain ⟨q, us, rfl, h3, h4⟩ := ry
    split at k
    · rename_i hl
      refine .inr (.inr (.inl ⟨p, q, vs, us, rfl, rfl, by rw [hK]; exact h1.t, by rw [hK]; exact h3.t, by rw [h2.length, h4.length]; exact LIM_le hl, fun e => ?_, fun _ e => ?_, fun _ _ => OkO.tup S (h2.app h4) k⟩))
      · have hl0 := h2.length
        rw [e] at hl0
        have e2 : a = [] := List.eq_nil_of_length_eq_zero hl0.symm
        subst e2
        exact OkO.val S ry0 k
      · have hl0 := h4.length
        rw [e] at hl0
        have e2 : b = [] := List.eq_nil_of_length_eq_zero hl0.symm
        subst e2
        rw [List.append_nil] at k
        exact OkO.val S rx0 k
    · exact k.elim
  · split at k
    · rename_i a b e1 e2
      obtain ⟨p, vs, rfl, _, h1, h2⟩ := S.ref e1 rx
      obtain ⟨q, us, rfl, _, h3, h4⟩ := S.ref e2 ry
      split at k
      · rename_i hl
        exact .inr (.inr (.inr ⟨p, q, vs, us, rfl, rfl, h1, h3, by rw [h2.length, h4.length]; exact LIM_le hl, OkO.newL S (h2.app h4) k⟩))
      · exact k.elim
    · exact k.elim
  · exact k.elim
theorem o_sub : OpR X (binaryOp .Sub) (rO G opSub) := OpR_imp op_sub fun v u H Q ⟨ms, st, x, y, S, rx, ry, k⟩ => by
  unfold opSub at k
  split at k
  · simp only [RV] at rx ry
    subst rx ry
    exact ⟨_, _, rfl, rfl, OkO.int S k⟩
  · exact k.elim
theorem RVs.repf {ms : List Addr} {ds : List D} {vs : List V} (h : RVs G ms H ds vs) : ∀ n, RVs G ms H (List.replicate n ds).flatten (List.replicate n vs).flatten
  | 0 => by simp [RVs]
  | n + 1 => by
    simp only [List.replicate_succ, List.flatten_cons]
    exact h.app (RVs.repf h n)
theorem o_mul : OpR X (binaryOp .Mult) (rO G opMul) := OpR_imp (op_mul.or op_rep) fun v u H Q ⟨ms, st, x, y, S, rx, ry, k⟩ => by
  unfold opMul at k
  split at k
  · simp only [RV] at rx ry
    subst rx ry
    split at k
    · rename_i hc
      exact .inl ⟨_, _, rfl, rfl, hc, OkO.int S k⟩
    · exact k.elim
  · simp only [RV] at ry
    subst ry
    split at k
    · rename_i a e1
      obtain ⟨p, vs, rfl, _, h1, h2⟩ := S.ref e1 rx
      split at k
      · rename_i hl
        exact .inr ⟨p, _, vs, rfl, rfl, h1, hl.2.1, hl.2.2, by rw [h2.length]; exact LIM_le hl.1, OkO.newL S (h2.repf _) k⟩
      · exact k.elim
    · exact k.elim
  · exact k.elim
theorem o_div : OpR X (binaryOp .FloorDiv) (rO G opDiv) := OpR_imp op_fdiv fun v u H Q ⟨ms, st, x, y, S, rx, ry, k⟩ => by
  unfold opDiv at k
  split at k
  · simp only [RV] at rx ry
    subst rx ry
    split at k
    · rename_i hc
      exact ⟨_, _, rfl, rfl, hc, OkO.int S k⟩
    · exact k.elim
  · exact k.elim
theorem o_mod : OpR X (binaryOp .Mod) (rO G opMod) := OpR_imp op_mod fun v u H Q ⟨ms, st, x, y, S, rx, ry, k⟩ => by
  unfold opMod at k
  split at k
  · simp only [RV] at rx ry
    subst rx ry
    split at k
    · rename_i hc
      exact ⟨_, _, rfl, rfl, hc, OkO.int S k⟩
    · exact k.elim
  · exact k.elim
theorem o_pow : OpR X (binaryOp .Pow) (rO G opPow) := OpR_imp op_pow fun v u H Q ⟨ms, st, x, y, S, rx, ry, k⟩ => by
  unfold opPow at k
  split at k
  · simp only [RV] at rx ry
    subst rx ry
    split at k
    · rename_i hc
      exact ⟨_, _, rfl, rfl, hc, OkO.int S k⟩
    · exact k.elim
  · exact k.elim
theorem o_neg : UnR X (unaryOp .USub) (rU1 G opNeg) := UnR_imp un_neg fun v H Q ⟨ms, st, x, S, rx, k⟩ => by
  unfold opNeg at k
  split at k
  · simp only [RV] at rx
    subst rx
    exact ⟨_, rfl, OkO.int S k⟩
  · exact k.elim
/-! ### comparisons -/
def opCmp (f : Int → Int → Bool) : D → D → O D
  | .int i, .int j => fun st => some (.bl (f i j), st)
  | _, _ => fun _ => none
theorem o_cmp {op : CmpOp} {f : Int → Int → Bool} (h : OpR X (compareOp op) (rI0 fun i j => .bl (f i j))) : OpR X (compareOp op) (rO G (opCmp f)) := OpR_imp h fun v u H Q ⟨ms, st, x, y, S, rx, ry, k⟩ => by
  unfold opCmp at k
  split at k
  · simp only [RV] at rx ry
    subst rx ry
    exact ⟨_, _, rfl, rfl, OkO.bl S k⟩
  · exact k.elim
abbrev opLt := opCmp fun i j => decide (i < j)
abbrev opLe := opCmp fun i j => decide (i ≤ j)
abbrev opGt := opCmp fun i j => decide (j < i)
abbrev opGe := opCmp fun i j => decide (j ≤ i)
theorem o_lt : OpR X (compareOp .Lt) (rO G opLt) := o_cmp op_lt
theorem o_le : OpR X (compareOp .LtE) (rO G opLe) := o_cmp op_le
theorem o_gt : OpR X (compareOp .Gt) (rO G opGt) := o_cmp op_gt
theorem o_ge : OpR X (compareOp .GtE) (rO G opGe) := o_cmp op_ge
def isNon : D → Bool
  | .non => true
  | _ => false
theorem isNon_ok {ms : List Addr} {d : D} {v : V} (r : RV G ms H d v) : decide (v = V.non) = isNon d := by
  cases d with
  | non => simp only [RV] at r; subst r; rfl
  | bl _ => simp only [RV] at r; subst r; rfl
  | int _ => simp only [RV] at r; subst r; rfl
  | str _ => simp only [RV] at r; subst r; rfl
  | tup _ => simp only [RV] at r; obtain ⟨a, vs, rfl, _⟩ := r; rfl
  | ref _ => simp only [RV] at r; obtain ⟨a, rfl, _⟩ := r; rfl
  | glo _ => simp only [RV] at r; subst r; rfl
  | ty _ => simp only [RV] at r; subst r; rfl
  | scr _ => simp only [RV] at r; obtain ⟨a, rfl, _⟩ := r; rfl
  | xc => simp only [RV] at r; obtain ⟨a, _, _, _, rfl⟩ := r; rfl
def opIs : D → D → O D
  | x, .non => fun st => some (.bl (isNon x), st)
  | _, _ => fun _ => none
def opIsNot : D → D → O D
  | x, .non => fun st => some (.bl (!isNon x), st)
  | _, _ => fun _ => none
theorem o_is : OpR X (compareOp .Is) (rO G opIs) := OpR_imp op_isN fun v u H Q ⟨ms, st, x, y, S, rx, ry, k⟩ => by
  unfold opIs at k
  split at k
  · simp only [RV] at ry
    subst ry
    exact ⟨rfl, by rw [isNon_ok rx]; exact OkO.bl S k⟩
  · exact k.elim
theorem o_isnot : OpR X (compareOp .IsNot) (rO G opIsNot) := OpR_imp op_notN fun v u H Q ⟨ms, st, x, y, S, rx, ry, k⟩ => by
  unfold opIsNot at k
  split at k
  · simp only [RV] at ry
    subst ry
    exact ⟨rfl, by rw [isNon_ok rx]; exact OkO.bl S k⟩
  · exact k.elim
/-! ### data -/
def mapO {α β : Type} (f : α → Option β) : List α → Option (List β)
  | [] => some []
  | x :: xs => match f x, mapO f xs with
    | some y, some ys => some (y :: ys)
    | _, _ => none
/-- what a value is as data, its lists read in the store -/
def deep (st : Sto) : Nat → D → Option PyData
  | 0 => fun d => match d with
    | .non => some .none
    | .bl b => some (.bool b)
    | .int i => some (.int i)
    | .str x => some (.str x)
    | _ => none
  | n + 1 => fun d => match d with
    | .non => some .none
    | .bl b => some (.bool b)
    | .int i => some (.int i)
    | .str x => some (.str x)
    | .tup ds => (mapO (deep st n) ds).map .tuple
    | .ref i => match st[i]? with
      | some (.lst ds) => (mapO (deep st n) ds).map .list
      | _ => none
    | _ => none
theorem dpAll {ms : List Addr} {f : D → Option PyData} (h : ∀ d v p, RV G ms H d v → f d = some p → Dp G.K H v p) : ∀ (ds : List D) (vs : List V) (ps : List PyData), RVs G ms H ds vs → mapO f ds = some ps → DpAll G.K H vs ps
  | [], vs, ps, r, e => by
    simp only [RVs] at r
    simp only [mapO] at e
    cases e
    subst r
    exact .nil
  | d :: ds, vs, ps, r, e => by
    simp only [RVs] at r
    obtain ⟨v, r', rfl, r1, r2⟩ := r
    simp only [mapO] at e
    split at e
    · rename_i p qs e1 e2
      cases e
      exact .cons (h d v p r1 e1) (dpAll h ds r' qs r2 e2)
    · cases e
theorem dp_of {ms : List Addr} {st : Sto} (S : SRel G ms st H) : ∀ (n : Nat) (d : D) (v : V) (p : PyData), RV G ms H d v → deep st n d = some p → Dp G.K H v p := by
  intro n
  induction n with
  | zero =>
    intro d v p r e
    cases d <;> simp only [deep] at e <;> simp only [RV] at r <;> (first | (cases e; done) | skip) <;> cases e <;> subst r
    · exact .non
    · exact .bl _
    · exact .int _
    · exact .str _
  | succ n ih =>
    intro d v p r e
    cases d with
    | non => simp only [deep] at e; simp only [RV] at r; cases e; subst r; exact .non
    | bl _ => simp only [deep] at e; simp only [RV] at r; cases e; subst r; exact .bl _
    | int _ => simp only [deep] at e; simp only [RV] at r; cases e; subst r; exact .int _
    | str _ => simp only [deep] at e; simp only [RV] at r; cases e; subst r; exact .str _
    | tup ds =>
      simp only [deep] at e
      simp only [RV] at r
      obtain ⟨a, vs, rfl, h1, h2⟩ := r
      cases e1 : mapO (deep st n) ds with
      | none => rw [e1] at e; cases e
      | some ps =>
        rw [e1] at e
        cases e
        exact .tup h1.t (dpAll ih ds vs ps h2 e1)
    | ref i =>
      simp only [deep] at e
      split at e
      · rename_i ds e0
        obtain ⟨a, vs, rfl, _, h1, h2⟩ := S.ref e0 r
        cases e1 : mapO (deep st n) ds with
        | none => rw [e1] at e; cases e
        | some ps =>
          rw [e1] at e
          cases e
          exact .lst (SqL.of h1) (dpAll ih ds vs ps h2 e1)
      · cases e
    | glo _ => simp only [deep] at e; cases e
    | ty _ => simp only [deep] at e; cases e
    | scr _ => simp only [deep] at e; cases e
    | xc => simp only [deep] at e; cases e
/-- x == y of data -/
def eqD (st : Sto) (x y : D) : Option Bool := match deep st 66 x, deep st 66 y with
  | some p, some q => if SeqAt.shaped p = true ∧ SeqAt.shaped q = true then some (PyData.eqv p q) else none
  | _, _ => none
def opEq (x y : D) : O D := fun st => match eqD st x y with
  | some b => some (.bl b, st)
  | none => none
def opNe (x y : D) : O D := fun st => match eqD st x y with
  | some b => some (.bl (!b), st)
  | none => none
theorem eqD_ok {ms : List Addr} {st : Sto} (S : SRel G ms st H) {x y : D} {v u : V} {b : Bool} (rx : RV G ms H x v) (ry : RV G ms H y u) (h : eqD st x y = some b) : ∃ d e, Dp G.K H v d ∧ Dp G.K H u e ∧ SeqAt.shaped d = true ∧ SeqAt.shaped e = true ∧ PyData.eqv d e = b := by
  unfold eqD at h
  split at h
  · rename_i p q e1 e2
    split at h
    · rename_i hs
      cases h
      exact ⟨p, q, dp_of S _ _ _ _ rx e1, dp_of S _ _ _ _ ry e2, hs.1, hs.2, rfl⟩
    · cases h
  · cases h
theorem o_eq (hK : X.K = G.K) (hu : X.A.units + 64 < cLine) : OpR X (compareOp .Eq) (rO G opEq) := OpR_imp (op_eqD hu) fun v u H Q ⟨ms, st, x, y, S, rx, ry, k⟩ => by
  unfold opEq at k
  split at k
  · rename_i b e
    obtain ⟨d, d', h1, h2, h3, h4, rfl⟩ := eqD_ok S rx ry e
    exact ⟨d, d', by rw [hK]; exact h1, by rw [hK]; exact h2, h3, h4, OkO.bl S k⟩
  · exact k.elim
theorem o_ne (hK : X.K = G.K) (hu : X.A.units + 64 < cLine) : OpR X (compareOp .NotEq) (rO G opNe) := OpR_imp (op_neD hu) fun v u H Q ⟨ms, st, x, y, S, rx, ry, k⟩ => by
  unfold opNe at k
  split at k
  · rename_i b e
    obtain ⟨d, d', h1, h2, h3, h4, rfl⟩ := eqD_ok S rx ry e
    exact ⟨d, d', by rw [hK]; exact h1, by rw [hK]; exact h2, h3, h4, OkO.bl S k⟩
  · exact k.elim

/-! ### in, of flat things -/
def flatD : D → Bool
  | .non => true
  | .bl _ => true
  | .int _ => true
  | .str _ => true
  | _ => false
def eqF : D → D → Bool
  | .non, .non => true
  | .bl a, .bl b => a == b
  | .bl a, .int b => (if a then 1 else 0) == b
  | .int a, .bl b => a == (if b then 1 else 0)
  | .int a, .int b => a == b
  | .str a, .str b => a == b
  | _, _ => false
theorem flat_ok {ms : List Addr} {d : D} {v : V} (r : RV G ms H d v) (h : flatD d = true) : flatV v = true ∧ ∀ e u, RV G ms H e u → flatD e = true → eqV u v = eqF e d := by
  cases d <;> simp only [flatD] at h <;> (first | (cases h; done) | skip) <;> simp only [RV] at r <;> subst r <;> refine ⟨rfl, fun e u re he => ?_⟩ <;> cases e <;> simp only [flatD] at he <;> (first | (cases he; done) | skip) <;> simp only [RV] at re <;> subst re <;> rfl
/-- the items of a tuple or a list -/
def seqOf : D → Sto → Option (List D)
  | .tup ds, _ => some ds
  | .ref i, st => match st[i]? with
    | some (.lst ds) => some ds
    | _ => none
  | .scr ns, _ => some (ns.map D.int)
  | _, _ => none
theorem seq_ok {ms : List Addr} {st : Sto} (S : SRel G ms st H) {d : D} {v : V} {ds : List D} (r : RV G ms H d v) (h : seqOf d st = some ds) : ∃ p vs, v = .ref p ∧ (SqL G.K H p vs ∨ SqT G.K H p vs) ∧ RVs G ms H ds vs := by
  cases d with
  | tup es =>
    simp only [seqOf] at h
    cases h
    simp only [RV] at r
    obtain ⟨a, vs, rfl, h1, h2⟩ := r
    exact ⟨a, vs, rfl, .inr h1.t, h2⟩
  | ref i =>
    simp only [seqOf] at h
    split at h
    · rename_i es e
      cases h
      obtain ⟨a, vs, rfl, _, h1, h2⟩ := S.ref e r
      exact ⟨a, vs, rfl, .inl (SqL.of h1), h2⟩
    · cases h
  | scr ns =>
    simp only [seqOf] at h
    cases h
    simp only [RV] at r
    obtain ⟨a, rfl, h1⟩ := r
    exact ⟨a, _, rfl, .inl h1.l, RVs.ints ns⟩
  | non => cases h
  | bl _ => cases h
  | int _ => cases h
  | str _ => cases h
  | glo _ => cases h
  | ty _ => cases h
  | xc => cases h
def inF (x : D) (ds : List D) : Bool := ds.any fun y => eqF y x
theorem inF_ok {ms : List Addr} {x : D} {v : V} (r : RV G ms H x v) (hx : flatD x = true) : ∀ {ds : List D} {vs : List V}, RVs G ms H ds vs → ds.all flatD = true → vs.all flatV = true ∧ inV v vs = inF x ds
  | [], vs, h, _ => by
    simp only [RVs] at h
    subst h
    exact ⟨rfl, rfl⟩
  | d :: ds, vs, h, ha => by
    simp only [RVs] at h
    obtain ⟨u, r', rfl, r1, r2⟩ := h
    simp only [List.all_cons, Bool.and_eq_true] at ha
    obtain ⟨i1, i2⟩ := inF_ok r hx r2 ha.2
    refine ⟨by simp only [List.all_cons, Bool.and_eq_true]; exact ⟨(flat_ok r1 ha.1).1, i1⟩, ?_⟩
    unfold inV inF at i2 ⊢
    rw [List.any_cons, List.any_cons, i2, (flat_ok r hx).2 d u r1 ha.1]
def opIn (neg : Bool) (x y : D) : O D := fun st => match seqOf y st with
  | some ds => if flatD x = true ∧ ds.all flatD = true then some (.bl (if neg then !inF x ds else inF x ds), st) else none
  | none => none
theorem rIn_of (hK : X.K = G.K) {neg : Bool} {v u : V} {Q : VK} (h : rO G (opIn neg) v u H Q) : rIn X.K neg v u H Q := by
  obtain ⟨ms, st, x, y, S, rx, ry, k⟩ := h
  unfold opIn at k
  split at k
  · rename_i ds e
    split at k
    · rename_i hf
      obtain ⟨p, vs, rfl, h1, h2⟩ := seq_ok S ry e
      obtain ⟨i1, i2⟩ := inF_ok rx hf.1 h2 hf.2
      exact ⟨p, vs, rfl, by rw [hK]; exact h1, (flat_ok rx hf.1).1, i1, by rw [i2]; exact OkO.bl S k⟩
    · exact k.elim
  · exact k.elim
theorem o_in (hK : X.K = G.K) : OpR X (compareOp .In) (rO G (opIn false)) := OpR_imp op_in_seq fun v u H Q h => rIn_of hK h
theorem o_notin (hK : X.K = G.K) : OpR X (compareOp .NotIn) (rO G (opIn true)) := OpR_imp op_notIn_seq fun v u H Q h => rIn_of hK h

/-! ### subscripts -/
def opIx (x y : D) : O D := fun st => match x, y with
  | .str z, .int i => match atI z.cps.toList i with
    | some c => if z.length ≤ LIM then some (.str ⟨#[c]⟩, st) else none
    | none => none
  | x, .int i => match seqOf x st with
    | some ds => match atI ds i with
      | some d => some (d, st)
      | none => none
    | none => none
  | _, _ => none
theorem atI_ok {ms : List Addr} {ds : List D} {vs : List V} {i : Int} {d : D} (r : RVs G ms H ds vs) (h : atI ds i = some d) : ∃ v, atI vs i = some v ∧ RV G ms H d v := by
  unfold atI at h ⊢
  rw [r.length]
  cases e : ixN ds.length i with
  | none => rw [e] at h; cases h
  | some j =>
    rw [e] at h
    exact r.at h
theorem o_ix (hK : X.K = G.K) : IxR X (rO G opIx) := IxR_imp ix_seq fun v u H Q ⟨ms, st, x, y, S, rx, ry, k⟩ => by
  unfold opIx at k
  split at k
  · simp only [RV] at rx ry
    subst rx ry
    split at k
    · rename_i c e
      split at k
      · rename_i hl
        exact .inr (.inr ⟨_, _, _, rfl, rfl, LIM_le hl, e, OkO.str S k⟩)
      · exact k.elim
    · exact k.elim
  · simp only [RV] at ry
    subst ry
    split at k
    · rename_i ds e
      split at k
      · rename_i d e2
        obtain ⟨p, vs, rfl, h1, h2⟩ := seq_ok S rx e
        obtain ⟨w, h3, h4⟩ := atI_ok h2 e2
        rcases h1 with h1 | h1
        · exact .inl ⟨p, vs, _, w, rfl, rfl, by rw [hK]; exact h1, h3, OkO.val S h4 k⟩
        · exact .inr (.inl ⟨p, vs, _, w, rfl, rfl, by rw [hK]; exact h1, h3, OkO.val S h4 k⟩)
      · exact k.elim
    · exact k.elim
  · exact k.elim
/-- x[lo:hi] -/
def cutD {α : Type} (xs : List α) (lo hi : Option Int) : List α := (xs.drop (HT.sIx xs.length 0 lo)).take (HT.sIx xs.length xs.length hi - HT.sIx xs.length 0 lo)
theorem cut_ok {ms : List Addr} {ds : List D} {vs : List V} (lo hi : Option Int) (r : RVs G ms H ds vs) : RVs G ms H (cutD ds lo hi) (cutV vs lo hi) := by
  unfold cutD cutV
  rw [r.length]
  exact (r.drop _).take _
def opSl (lo hi : Option Int) (x : D) : O D := fun st => match x with
  | .str z => if z.length ≤ LIM then some (.str (cutS z lo hi), st) else none
  | .tup ds => some (.tup (cutD ds lo hi), st)
  | x => match seqOf x st with
    | some ds => newL (cutD ds lo hi) st
    | none => none
def rS (G : Gx) (op : Option Int → Option Int → D → O D) : V → Option Int → Option Int → Hp → VK → Prop := fun v lo hi H Q => ∃ ms st x, SRel G ms st H ∧ RV G ms H x v ∧ OkO (RV G) G Q ms H (op lo hi x st)
theorem cut_whole {α : Type} {xs : List α} {lo hi : Option Int} (h : HT.sIx xs.length 0 lo = 0 ∧ HT.sIx xs.length xs.length hi = xs.length) : cutD xs lo hi = xs := by
  unfold cutD
  rw [h.1, h.2]
  simp
theorem s_sl (hK : X.K = G.K) : SlR X (rS G opSl) := SlR_imp (sl_str.or (sl_tupA.or sl_list)) fun v lo hi H Q ⟨ms, st, x, S, rx, k⟩ => by
  unfold opSl at k
  split at k
  · simp only [RV] at rx
    subst rx
    split at k
    · rename_i hl
      exact .inl ⟨_, rfl, LIM_le hl, OkO.str S k⟩
    · exact k.elim
  · rename_i ds
    have rx0 := rx
    simp only [RV] at rx
    obtain ⟨a, vs, rfl, h1, h2⟩ := rx
    refine .inr (.inl ⟨a, vs, rfl, by rw [hK]; exact h1.t, fun e => ?_, fun _ => OkO.tup S (cut_ok lo hi h2) k⟩)
    rw [h2.length] at e
    rw [cut_whole e] at k
    exact OkO.val S rx0 k
  · split at k
    · rename_i x _ _ hn _ ds e
      cases x with
      | tup es => exact (hn es rfl).elim
      | ref i =>
        simp only [seqOf] at e
        split at e
        · rename_i es e1
          cases e
          obtain ⟨a, vs, rfl, _, h1, h2⟩ := S.ref e1 rx
          exact .inr (.inr ⟨a, vs, rfl, SqL.of h1, OkO.newL S (cut_ok lo hi h2) k⟩)
        · cases e
      | scr ns =>
        simp only [seqOf] at e
        cases e
        simp only [RV] at rx
        obtain ⟨a, rfl, h1⟩ := rx
        exact .inr (.inr ⟨a, _, rfl, by rw [hK]; exact h1.l, OkO.newL S (cut_ok lo hi (RVs.ints ns)) k⟩)
      | non => cases e
      | bl _ => cases e
      | int _ => cases e
      | str _ => cases e
      | glo _ => cases e
      | ty _ => cases e
      | xc => cases e
    · exact k.elim
abbrev RP : List Addr → Hp → Option Int → Option Int → Prop := fun _ _ a b => b = a
def ePart : Option E → Sl → M (Option Int)
  | none => fun _ st => .ok none st
  | some f => fun env st => (f env st).bind fun x s => match x with
    | .int i => .ok (some i) s
    | _ => .bad
theorem p_none : PO X none (tX RP G W (ePart none)) := ⟨fun pins s σ H Q I h => po_none.run pins s σ H Q I (by
  obtain ⟨ms, st, env, S, _, k⟩ := h
  exact k none ms H Gr.refl S rfl)⟩
theorem p_some {e : Expr} {f : E} (h : PE X e (tE G W f)) : PO X (some e) (tX RP G W (ePart (some f))) := ⟨fun pins s σ H Q I q => (po_some h).run pins s σ H Q I (tX_mono (tX_bind q) fun v H1 ⟨ms, st, env, x, S, _, r1, k⟩ => by
  cases x with
  | int i =>
    simp only [RV] at r1
    exact ⟨i, r1, k (some i) ms H1 Gr.refl S rfl⟩
  | _ => exact k.elim)⟩
def eSl (a : E) (lo hi : Option E) : E := fun env st => (a env st).bind fun x s => (ePart lo env s).bind fun l s => (ePart hi env s).bind fun h s => ofO (opSl l h x s)
theorem e_sl {a : Expr} {lo hi : Option Expr} {p2 pos : Pos} {fa : E} {fl fh : Option E} (hK : X.K = G.K) (ha : PE X a (tE G W fa)) (hl : PO X lo (tX RP G W (ePart fl))) (hh : PO X hi (tX RP G W (ePart fh))) :
    PE X (.Subscript a (.Slice lo hi none p2) pos) (tE G W (eSl fa fl fh)) := PE_weak (pe_slice (s_sl (G := G) hK) ha hl hh) fun σ H Q h => by
  obtain ⟨ms, st, env, S, r, k⟩ := h
  exact ⟨ms, st, env, S, r, Okk.bind k fun x s v m1 H1 g1 S1 r1 k1 => ⟨m1, s, env, S1, r.gr g1, Okk.bind k1 fun l s2 l' m2 H2 g2 S2 r2 k2 => ⟨m2, s2, env, S2, r.gr (g1.trans g2), Okk.bind k2 fun h s3 h' m3 H3 g3 S3 r3 k3 => by
    cases r2
    cases r3
    exact ⟨m3, s3, x, S3, RV.gr (g2.trans g3) _ _ r1, k3.ofO⟩⟩⟩⟩

/-! ### built-in functions -/
def lenOf : D → Sto → Option Nat
  | .str x, _ => if x.length ≤ LIM then some x.length else none
  | x, st => (seqOf x st).map List.length
def opLen : List D → O D
  | [x] => fun st => match lenOf x st with
    | some n => some (.int n, st)
    | none => none
  | _ => fun _ => none
theorem RVs.one' {ms : List Addr} {d : D} {vs : List V} (h : RVs G ms H [d] vs) : ∃ v, vs = [v] ∧ RV G ms H d v := by
  simp only [RVs] at h
  obtain ⟨v, r, rfl, h1, rfl⟩ := h
  exact ⟨v, rfl, h1⟩
theorem RVs.two' {ms : List Addr} {d e : D} {vs : List V} (h : RVs G ms H [d, e] vs) : ∃ v u, vs = [v, u] ∧ RV G ms H d v ∧ RV G ms H e u := by
  simp only [RVs] at h
  obtain ⟨v, r, rfl, h1, u, r2, rfl, h2, rfl⟩ := h
  exact ⟨v, u, rfl, h1, h2⟩
theorem c_len (hK : X.K = G.K) : CallR X (.builtin "len") (rN G opLen) := CallR_imp call_len fun vs H Q ⟨ms, st, ds, S, r, k⟩ => by
  unfold opLen at k
  split at k
  · rename_i x
    obtain ⟨v, rfl, rv⟩ := r.one'
    split at k
    · rename_i n e
      refine ⟨v, n, rfl, ?_, OkO.int S k⟩
      unfold lenOf at e
      split at e
      · simp only [RV] at rv
        subst rv
        split at e
        · rename_i hl
          cases e
          exact ⟨LIM_le hl, rfl⟩
        · cases e
      · cases e1 : seqOf x st with
        | none => rw [e1] at e; cases e
        | some ds =>
          rw [e1] at e
          cases e
          obtain ⟨p, us, rfl, h1, h2⟩ := seq_ok S rv e1
          rcases h1 with h1 | h1
          · exact .inl ⟨us, by rw [hK]; exact h1, h2.length.symm⟩
          · exact .inr ⟨us, by rw [hK]; exact h1, h2.length.symm⟩
    · exact k.elim
  · exact k.elim
def opAbs : List D → O D
  | [.int i] => fun st => some (.int (if i < 0 then -i else i), st)
  | _ => fun _ => none
theorem c_abs : CallR X (.builtin "abs") (rN G opAbs) := CallR_imp call_abs fun vs H Q ⟨ms, st, ds, S, r, k⟩ => by
  unfold opAbs at k
  split at k
  · obtain ⟨v, rfl, rv⟩ := r.one'
    simp only [RV] at rv
    subst rv
    exact ⟨_, rfl, OkO.int S k⟩
  · exact k.elim
/-- int(x): of an int, a bool, a text -/
def opInt : List D → O D
  | [.int i] => fun st => some (.int i, st)
  | [.bl b] => fun st => some (.int (if b then 1 else 0), st)
  | [.str x] => fun st => match PySem.intText? x with
    | some n => if x.length ≤ 640 then some (.int n, st) else none
    | none => none
  | _ => fun _ => none
theorem c_int : CallR X (.type "int") (rN G opInt) := CallR_imp (CallR_or call_int1 call_int_str) fun vs H Q ⟨ms, st, ds, S, r, k⟩ => by
  unfold opInt at k
  split at k
  · obtain ⟨v, rfl, rv⟩ := r.one'
    simp only [RV] at rv
    subst rv
    exact .inl (.inl ⟨_, rfl, OkO.int S k⟩)
  · obtain ⟨v, rfl, rv⟩ := r.one'
    simp only [RV] at rv
    subst rv
    exact .inl (.inr ⟨_, rfl, OkO.int S k⟩)
  · obtain ⟨v, rfl, rv⟩ := r.one'
    simp only [RV] at rv
    subst rv
    split at k
    · rename_i n e
      split at k
      · rename_i hl
        exact .inr ⟨_, n, rfl, e, hl, OkO.int S k⟩
      · exact k.elim
    · exact k.elim
  · exact k.elim
/-- list(x), tuple(x) of a sequence -/
def opList : List D → O D
  | [x] => fun st => match seqOf x st with
    | some ds => newL ds st
    | none => none
  | _ => fun _ => none
def opTuple : List D → O D
  | [x] => fun st => match seqOf x st with
    | some ds => some (.tup ds, st)
    | none => none
  | _ => fun _ => none
theorem c_list (hK : X.K = G.K) : CallR X (.type "list") (rN G opList) := CallR_imp call_list_of fun vs H Q ⟨ms, st, ds, S, r, k⟩ => by
  unfold opList at k
  split at k
  · obtain ⟨v, rfl, rv⟩ := r.one'
    split at k
    · rename_i ds e
      obtain ⟨p, us, rfl, h1, h2⟩ := seq_ok S rv e
      exact ⟨p, us, rfl, by rw [hK]; exact h1, OkO.newL S h2 k⟩
    · exact k.elim
  · exact k.elim
theorem c_tuple (hK : X.K = G.K) : CallR X (.type "tuple") (rN G opTuple) := CallR_imp call_tuple_of fun vs H Q ⟨ms, st, ds, S, r, k⟩ => by
  unfold opTuple at k
  split at k
  · rename_i x
    obtain ⟨v, rfl, rv⟩ := r.one'
    split at k
    · rename_i ds e
      obtain ⟨p, us, rfl, h1, h2⟩ := seq_ok S rv e
      cases x with
      | tup es =>
        simp only [seqOf] at e
        cases e
        have rv0 := rv
        simp only [RV] at rv
        obtain ⟨a, ws, e2, h3, h4⟩ := rv
        cases e2
        exact ⟨p, ws, rfl, .inr ⟨by rw [hK]; exact h3.t, OkO.val S rv0 k⟩⟩
      | ref i =>
        simp only [seqOf] at e
        split at e
        · rename_i es e1
          cases e
          obtain ⟨a, ws, e2, _, h3, h4⟩ := S.ref e1 rv
          cases e2
          exact ⟨p, ws, rfl, .inl ⟨SqL.of h3, OkO.tup S h4 k⟩⟩
        · cases e
      | scr ns =>
        simp only [seqOf] at e
        cases e
        simp only [RV] at rv
        obtain ⟨a, e2, h3⟩ := rv
        cases e2
        exact ⟨p, _, rfl, .inl ⟨by rw [hK]; exact h3.l, OkO.tup S (RVs.ints ns) k⟩⟩
      | non => cases e
      | bl _ => cases e
      | int _ => cases e
      | str _ => cases e
      | glo _ => cases e
      | ty _ => cases e
      | xc => cases e
    · exact k.elim
  · exact k.elim
/-- all([..]), any([..]) of bools -/
def bools : List D → Option (List Bool)
  | [] => some []
  | .bl b :: ds => (bools ds).map (b :: ·)
  | _ => none
theorem bools_ok {ms : List Addr} : ∀ {ds : List D} {vs : List V} {bs : List Bool}, RVs G ms H ds vs → bools ds = some bs → vs = bs.map V.bl
  | [], vs, bs, r, e => by
    simp only [RVs] at r
    simp only [bools] at e
    cases e
    exact r
  | d :: ds, vs, bs, r, e => by
    simp only [RVs] at r
    obtain ⟨v, r', rfl, h1, h2⟩ := r
    cases d with
    | bl b =>
      simp only [RV] at h1
      simp only [bools] at e
      cases e1 : bools ds with
      | none => rw [e1] at e; cases e
      | some cs =>
        rw [e1] at e
        cases e
        rw [h1, bools_ok h2 e1]
        rfl
    | _ => simp only [bools] at e; cases e
def opAll : List D → O D
  | [.ref i] => fun st => match st[i]? with
    | some (.lst ds) => match bools ds with
      | some bs => some (.bl (bs.all id), st)
      | none => none
    | _ => none
  | _ => fun _ => none
def opAny : List D → O D
  | [.ref i] => fun st => match st[i]? with
    | some (.lst ds) => match bools ds with
      | some bs => some (.bl (bs.any id), st)
      | none => none
    | _ => none
  | _ => fun _ => none
theorem c_all (hc : X.calm = true) : CallR X (.builtin "all") (rN G opAll) := CallR_imp (cr_all hc) fun vs H Q ⟨ms, st, ds, S, r, k⟩ => by
  unfold opAll at k
  split at k
  · obtain ⟨v, rfl, rv⟩ := r.one'
    split at k
    · rename_i ds e
      split at k
      · rename_i bs e2
        obtain ⟨a, ws, rfl, _, h3, h4⟩ := S.ref e rv
        exact ⟨a, bs, rfl, SqL.of (by rw [h3, bools_ok h4 e2]), OkO.bl S k⟩
      · exact k.elim
    · exact k.elim
  · exact k.elim
theorem c_any (hc : X.calm = true) : CallR X (.builtin "any") (rN G opAny) := CallR_imp (cr_any hc) fun vs H Q ⟨ms, st, ds, S, r, k⟩ => by
  unfold opAny at k
  split at k
  · obtain ⟨v, rfl, rv⟩ := r.one'
    split at k
    · rename_i ds e
      split at k
      · rename_i bs e2
        obtain ⟨a, ws, rfl, _, h3, h4⟩ := S.ref e rv
        exact ⟨a, bs, rfl, SqL.of (by rw [h3, bools_ok h4 e2]), OkO.bl S k⟩
      · exact k.elim
    · exact k.elim
  · exact k.elim
/-- str(x) of an int, a text -/
def opStr : List D → O D
  | [.int i] => fun st => if i.natAbs.log2 < 1920 then some (.str (toString i), st) else none
  | [.str x] => fun st => some (.str x, st)
  | _ => fun _ => none
theorem c_str : CallR X (.type "str") (rN G opStr) := by
  intro pins s σ H xs us Q I rr hh
  obtain ⟨ms, st, ds, S, r, k⟩ := hh
  unfold opStr at k
  split at k
  · obtain ⟨v, rfl, rv⟩ := r.one'
    simp only [RV] at rv
    subst rv
    split at k
    · rename_i hl
      exact call_str_int pins s σ H _ us Q I rr ⟨_, rfl, hl, OkO.str S k⟩
    · exact k.elim
  · obtain ⟨v, rfl, rv⟩ := r.one'
    simp only [RV] at rv
    subst rv
    exact SkE.call_str_str pins s σ H _ us Q I rr ⟨_, rfl, OkO.str S k⟩
  · exact k.elim
end
end LF

set_option Elab.async false
set_option linter.all false
set_option maxRecDepth 100000
set_option maxHeartbeats 4000000
/-! The layer: methods, kinds, f-strings, fields, calls. -/
namespace LF
open PySem PySem.Spec PyProof.Rows L2
section
variable {G : Gx} {W : WX} {X : Cx} {σ : L2.St} {H : Hp}
/-! ### methods of built-in types -/
def tyOk (T : String) : D → Sto → Bool
  | .str _, _ => T == "str"
  | .ref i, st => T == "list" && match st[i]? with
    | some (.lst _) => true
    | _ => false
  | _, _ => false
theorem ty_ok {ms : List Addr} {st : Sto} (S : SRel G ms st H) {T : String} {x : D} {v : V} (r : RV G ms H x v) (h : tyOk T x st = true) : tyV G.K T v H := by
  cases x with
  | str _ =>
    simp only [RV] at r
    subst r
    simp only [tyOk, beq_iff_eq] at h
    exact h
  | ref i =>
    simp only [tyOk, Bool.and_eq_true, beq_iff_eq] at h
    obtain ⟨h1, h2⟩ := h
    split at h2
    · rename_i ds e
      obtain ⟨a, vs, rfl, _, h3, _⟩ := S.ref e r
      exact .inl ⟨h1, vs, SqL.of h3⟩
    · cases h2
  | non => cases h
  | bl _ => cases h
  | int _ => cases h
  | tup _ => cases h
  | glo _ => cases h
  | ty _ => cases h
  | scr _ => cases h
  | xc => cases h
def eMt (T : String) (op : D → List D → O D) (a : E) (as : List E) : E := fun env st => (a env st).bind fun x s => if tyOk T x s = true then (eArgs as env s).bind fun xs s' => ofO (op x xs s') else .bad
theorem e_mt {o e : Expr} {es : List Expr} {name : Str} {apos cpos : Pos} {T id : String} {op : D → List D → O D} {fo : E} {fs : List E} (hK : X.K = G.K) (pa : PlainAttrs T) (slot : Slot T name id) (hty : typeOf (.builtin id) = pure (.type "method_descriptor")) (hm : MtR X id (rM G op))
    (ho : PE X o (tE G W fo)) (ha : PA X (e :: es) (tA G W (eArgs fs)))
    (hbase : attributeBase o name X.env (eval o X.env) = eval o X.env := by rfl)
    (hfew : ((backTo cpos (starEach (e :: es) X.env)).all (fun x => !x.1) && (backToKw cpos (keywordEach [] X.env)).all (fun x => x.1.isSome)
      && decide ((e :: es).length + ([] : List Keyword).length + (if ([] : List Keyword).isEmpty then 0 else 1) < 30)) = true := by rfl)
    (hline : (apos.endLine == cpos.line) = true := by rfl) (hs : starEach (e :: es) X.env = (false, eval e X.env) :: starEach es X.env := by rfl) (hplain : (backTo cpos (starEach es X.env)).any (·.1) = false := by rfl) :
    PE X (.Call (.Attribute o name apos) (e :: es) [] cpos) (tE G W (eMt T op fo fs)) :=
  PE_weak (pe_bm pa slot hty hm ho ha hbase hfew hline hs hplain) fun σ H Q h => tX_mono (tX_bind h) fun v H1 ⟨ms, st, env, x, S, r, r1, k⟩ => by
    split at k
    · rename_i ht
      refine ⟨by rw [hK]; exact ty_ok S r1 ht, ms, st, env, S, r, Okk.bind k fun xs s vs m1 H2 g1 S1 r2 k1 => ⟨m1, s, x, xs, S1, RV.gr g1 _ _ r1, r2, k1.ofO⟩⟩
    · exact k.elim
theorem e_mt0 {o : Expr} {name : Str} {apos cpos : Pos} {T id : String} {op : D → List D → O D} {fo : E} (hK : X.K = G.K) (pa : PlainAttrs T) (slot : Slot T name id) (hty : typeOf (.builtin id) = pure (.type "method_descriptor")) (hm : MtR X id (rM G op)) (ho : PE X o (tE G W fo))
    (hbase : attributeBase o name X.env (eval o X.env) = eval o X.env := by rfl) (hline : (apos.endLine == cpos.line) = true := by rfl) : PE X (.Call (.Attribute o name apos) [] [] cpos) (tE G W (eMt T op fo [])) :=
  PE_weak (pe_bm0 pa slot hty hm ho hbase hline) fun σ H Q h => tX_mono (tX_bind h) fun v H1 ⟨ms, st, env, x, S, r, r1, k⟩ => by
    split at k
    · rename_i ht
      have k : Okk (RV G) G (fun c d H => W c d σ H) Q ms H1 (ofO (op x [] st)) := k
      exact ⟨by rw [hK]; exact ty_ok S r1 ht, ms, st, x, [], S, r1, by simp only [RVs], k.ofO⟩
    · exact k.elim
/-! lists -/
def opAppend (x : D) (xs : List D) : O D := fun st => match x, xs with
  | .ref i, [y] => match st[i]? with
    | some (.lst ds) => if ds.length < LIM then some (.non, st.set i (.lst (ds ++ [y]))) else none
    | _ => none
  | _, _ => none
theorem OkO.put {Q : VK} {ms : List Addr} {st : Sto} {i : Nat} {a : Addr} {ds : List D} {vs : List V} {d : D} {v : V} (S : SRel G ms st H) (hi : ms[i]? = some a) (r : RVs G ms H ds vs) (rd : RV G ms H d v) (h : OkO (RV G) G Q ms H (some (d, st.set i (.lst ds)))) : Q v (upd H a (.lst vs)) := by
  obtain ⟨c, _, hc⟩ := S.has hi
  have g : Gr ms H ms (upd H a (.lst vs)) := Gr.cell hc
  exact h v ms _ g (S.put hi ⟨vs, upd_same, RVs.gr g _ _ r⟩) (RV.gr g _ _ rd)
theorem m_append : MtR X "list.append" (rM G opAppend) := MtR_imp mt_append fun v vs H Q ⟨ms, st, x, ds, S, rx, rs, k⟩ => by
  unfold opAppend at k
  split at k
  · obtain ⟨u, rfl, ru⟩ := rs.one'
    split at k
    · rename_i es e
      obtain ⟨a, ws, rfl, ha, h1, h2⟩ := S.ref e rx
      split at k
      · rename_i hl
        exact ⟨a, ws, u, rfl, rfl, h1, by rw [h2.length]; exact LIM_lt hl, OkO.put S ha (h2.app (.one ru)) (by simp only [RV]) k⟩
      · exact k.elim
    · exact k.elim
  · exact k.elim
def opExtend (x : D) (xs : List D) : O D := fun st => match x, xs with
  | .ref i, [.ref j] => match st[i]?, st[j]? with
    | some (.lst ds), some (.lst es) => if ds.length + es.length ≤ LIM then some (.non, st.set i (.lst (ds ++ es))) else none
    | _, _ => none
  | _, _ => none
theorem m_extend : MtR X "list.extend" (rM G opExtend) := MtR_imp mt_extend fun v vs H Q ⟨ms, st, x, ds, S, rx, rs, k⟩ => by
  unfold opExtend at k
  split at k
  · obtain ⟨u, rfl, ru⟩ := rs.one'
    split at k
    · rename_i es fs e1 e2
      obtain ⟨a, ws, rfl, ha, h1, h2⟩ := S.ref e1 rx
      obtain ⟨b, us, rfl, _, h3, h4⟩ := S.ref e2 ru
      split at k
      · rename_i hl
        exact ⟨a, b, ws, us, rfl, rfl, h1, h3, by rw [h2.length, h4.length]; exact LIM_le hl, OkO.put S ha (h2.app h4) (by simp only [RV]) k⟩
      · exact k.elim
    · exact k.elim
  · exact k.elim
def opPop (x : D) (xs : List D) : O D := fun st => match x, xs with
  | .ref i, [] => match st[i]? with
    | some (.lst ds) => match ds[ds.length - 1]? with
      | some d => some (d, st.set i (.lst ds.dropLast))
      | none => none
    | _ => none
  | _, _ => none
theorem RVs.dropLast {ms : List Addr} {ds : List D} {vs : List V} (h : RVs G ms H ds vs) : RVs G ms H ds.dropLast vs.dropLast := by
  rw [List.dropLast_eq_take, List.dropLast_eq_take, h.length]
  exact h.take _
theorem m_pop : MtR X "list.pop" (rM G opPop) := MtR_imp mt_pop fun v vs H Q ⟨ms, st, x, ds, S, rx, rs, k⟩ => by
  unfold opPop at k
  split at k
  · simp only [RVs] at rs
    subst rs
    split at k
    · rename_i es e
      obtain ⟨a, ws, rfl, ha, h1, h2⟩ := S.ref e rx
      split at k
      · rename_i d e2
        obtain ⟨y, h3, h4⟩ := h2.at e2
        exact ⟨a, ws, y, rfl, rfl, h1, by rw [h2.length]; exact h3, OkO.put S ha h2.dropLast h4 k⟩
      · exact k.elim
    · exact k.elim
  · exact k.elim
/-! texts -/
def strsOf : List D → Option (List Str)
  | [] => some []
  | .str x :: ds => (strsOf ds).map (x :: ·)
  | _ => none
theorem strs_ok {ms : List Addr} : ∀ {ds : List D} {vs : List V} {bs : List Str}, RVs G ms H ds vs → strsOf ds = some bs → vs = bs.map V.str
  | [], vs, bs, r, e => by
    simp only [RVs] at r
    simp only [strsOf] at e
    cases e
    exact r
  | d :: ds, vs, bs, r, e => by
    simp only [RVs] at r
    obtain ⟨v, r', rfl, h1, h2⟩ := r
    cases d with
    | str b =>
      simp only [RV] at h1
      simp only [strsOf] at e
      cases e1 : strsOf ds with
      | none => rw [e1] at e; cases e
      | some cs =>
        rw [e1] at e
        cases e
        rw [h1, strs_ok h2 e1]
        rfl
    | _ => simp only [strsOf] at e; cases e
def opJoin (x : D) (xs : List D) : O D := fun st => match x, xs with
  | .str a, [y] => match seqOf y st with
    | some ds => match strsOf ds with
      | some ys => if (ys.map (·.length)).sum + ys.length * a.length ≤ LIM then some (.str (Txt.join a ys), st) else none
      | none => none
    | none => none
  | _, _ => none
theorem m_join (hK : X.K = G.K) : MtR X "str.join" (rM G opJoin) := MtR_imp mt_join fun v vs H Q ⟨ms, st, x, ds, S, rx, rs, k⟩ => by
  unfold opJoin at k
  split at k
  · simp only [RV] at rx
    subst rx
    obtain ⟨u, rfl, ru⟩ := rs.one'
    split at k
    · rename_i es e
      split at k
      · rename_i ys e2
        split at k
        · rename_i hl
          obtain ⟨p, us, rfl, h1, h2⟩ := seq_ok S ru e
          have h3 := strs_ok h2 e2
          subst h3
          exact ⟨_, p, ys, rfl, rfl, by rw [hK]; exact h1, Nat.le_trans hl (by decide), OkO.str S k⟩
        · exact k.elim
      · exact k.elim
    · exact k.elim
  · exact k.elim
def opSplit (x : D) (xs : List D) : O D := fun st => match x, xs with
  | .str a, [.str b] => if (b.length == 0) = false ∧ a.length + 2 ≤ LIM then newL ((Txt.split a b).map D.str) st else none
  | _, _ => none
theorem RVs.strs {ms : List Addr} : ∀ ys : List Str, RVs G ms H (ys.map D.str) (ys.map V.str)
  | [] => by simp [RVs]
  | y :: ys => by
    simp only [List.map_cons, RVs]
    exact ⟨_, _, rfl, by simp only [RV], RVs.strs ys⟩
theorem m_split : MtR X "str.split" (rM G opSplit) := MtR_imp mt_split fun v vs H Q ⟨ms, st, x, ds, S, rx, rs, k⟩ => by
  unfold opSplit at k
  split at k
  · simp only [RV] at rx
    subst rx
    obtain ⟨u, rfl, ru⟩ := rs.one'
    simp only [RV] at ru
    subst ru
    split at k
    · rename_i hl
      exact ⟨_, _, rfl, rfl, hl.1, LIM_le hl.2, OkO.newL S (RVs.strs _) k⟩
    · exact k.elim
  · exact k.elim
def opStrip (x : D) (xs : List D) : O D := fun st => match x, xs with
  | .str a, [.str b] => if a.length ≤ LIM then some (.str (Txt.stripChars a b), st) else none
  | _, _ => none
theorem m_strip : MtR X "str.strip" (rM G opStrip) := MtR_imp mt_stripChars fun v vs H Q ⟨ms, st, x, ds, S, rx, rs, k⟩ => by
  unfold opStrip at k
  split at k
  · simp only [RV] at rx
    subst rx
    obtain ⟨u, rfl, ru⟩ := rs.one'
    simp only [RV] at ru
    subst ru
    split at k
    · rename_i hl
      exact ⟨_, _, rfl, rfl, LIM_le hl, OkO.str S k⟩
    · exact k.elim
  · exact k.elim

/-! ### kinds, isinstance -/
inductive Kd where
  | non | bl | int | str | tup | lst | ins (c : Nat) | dct
def kind : D → Sto → Option Kd
  | .non, _ => some .non
  | .bl _, _ => some .bl
  | .int _, _ => some .int
  | .str _, _ => some .str
  | .tup _, _ => some .tup
  | .ref i, st => match st[i]? with
    | some (.lst _) => some .lst
    | some (.ins c _) => some (.ins c)
    | some .dct => some .dct
    | none => none
  | .scr _, _ => some .lst
  | _, _ => none
/-- what the written part must say of a class whose instances are asked -/
structure InsOk (K : PySem.W.Frag) (C : Addr) : Prop where
  cl : Cls K C
  ha : PySem.W.findIn K (.ref C) "__class__" = some (some (.builtin "object.__class__"))
  hn : PySem.W.specialIn K (.builtin "object.__class__") "__get__" = some (some (.builtin "getset_descriptor.__get__"))
  htk : PySem.W.takesIn K (.builtin "object.__class__") = some true
  hm : PySem.W.mroIn K C (.type "object") = some true
/-- a kind's type -/
def KdT (G : Gx) : Kd → Value → Prop
  | .non, t => t = .type "NoneType"
  | .bl, t => t = .type "bool"
  | .int, t => t = .type "int"
  | .str, t => t = .type "str"
  | .tup, t => t = .type "tuple"
  | .lst, t => t = .type "list"
  | .ins c, t => InsOk G.K (G.tb c) ∧ t = .ref (G.tb c)
  | .dct, t => t = .type "dict"
theorem SRel.ins {ms : List Addr} {st : Sto} (S : SRel G ms st H) {i : Nat} {c : Nat} {fs : List (String × D)} {v : V} (h : st[i]? = some (.ins c fs)) (r : RV G ms H (.ref i) v) : ∃ a dx gs, v = .ref a ∧ ms[i]? = some a ∧ H a = some (.ins (G.tb c) dx gs) ∧ RF G ms H fs gs := by
  simp only [RV] at r
  obtain ⟨a, rfl, ha⟩ := r
  obtain ⟨d, h1, h2⟩ := S.has ha
  rw [h] at h1
  cases h1
  obtain ⟨dx, gs, h3, h4⟩ := h2
  exact ⟨a, dx, gs, rfl, ha, h3, h4⟩
theorem kd_ok {ms : List Addr} {st : Sto} (S : SRel G ms st H) {x : D} {v : V} {k : Kd} {t : Value} (r : RV G ms H x v) (h : kind x st = some k) (ht : KdT G k t) : TyX G.K H v t := by
  cases x with
  | non => simp only [kind] at h; cases h; simp only [RV] at r; subst r; cases ht; exact .base .non
  | bl _ => simp only [kind] at h; cases h; simp only [RV] at r; subst r; cases ht; exact .base (.bl _)
  | int _ => simp only [kind] at h; cases h; simp only [RV] at r; subst r; cases ht; exact .base (.int _)
  | str _ => simp only [kind] at h; cases h; simp only [RV] at r; subst r; cases ht; exact .base (.str _)
  | tup ds =>
    simp only [kind] at h
    cases h
    simp only [RV] at r
    obtain ⟨a, vs, rfl, h1, _⟩ := r
    cases ht
    rcases h1 with h1 | ⟨o, its, n, h2, h3, _⟩
    · exact .base (.tup h1)
    · exact .kTuple h2 h3
  | ref i =>
    simp only [kind] at h
    split at h
    · rename_i ds e
      cases h
      obtain ⟨a, vs, rfl, _, h1, _⟩ := S.ref e r
      cases ht
      exact .base (.lst h1)
    · rename_i c fs e
      cases h
      obtain ⟨a, dx, gs, rfl, _, h1, _⟩ := S.ins e r
      obtain ⟨q, rfl⟩ := ht
      exact .base (.ins h1 q.cl q.ha q.hn q.htk q.hm)
    · rename_i e
      cases h
      simp only [RV] at r
      obtain ⟨a, rfl, ha⟩ := r
      obtain ⟨d, h1, h2⟩ := S.has ha
      rw [e] at h1
      cases h1
      cases ht
      exact .base (.dK h2)
    · cases h
  | scr ns =>
    simp only [kind] at h
    cases h
    simp only [RV] at r
    obtain ⟨a, rfl, h1⟩ := r
    cases ht
    rcases h1 with ⟨o, h1⟩ | ⟨o, its, n, h2, h3, _⟩
    · exact .base (.frz h1)
    · exact .kList h2 h3
  | glo _ => cases h
  | ty _ => cases h
  | xc => cases h
/-- isinstance(x, T): T one class; ans: what is known of the kinds -/
inductive TC where
  | ty (n : String) | glo (n : Nat)
def TC.d : TC → D
  | .ty n => .ty n
  | .glo n => .glo n
def TC.val (G : Gx) : TC → Value
  | .ty n => .type n
  | .glo n => .ref (G.tb n)
def isTC : TC → D → Bool
  | .ty n, .ty m => n == m
  | .glo n, .glo m => n == m
  | _, _ => false
theorem isTC_eq {t : TC} {d : D} (h : isTC t d = true) : d = t.d := by
  cases t <;> cases d <;> simp only [isTC, beq_iff_eq] at h <;> (first | (cases h; done) | (subst h; rfl))
def opIsi (t : TC) (ans : Kd → Option Bool) : List D → O D
  | [x, c] => fun st => if isTC t c = true then match kind x st with
      | some k => match ans k with
        | some b => some (.bl b, st)
        | none => none
      | none => none
    else none
  | _ => fun _ => none
theorem c_isi (hK : X.K = G.K) {t : TC} {ans : Kd → Option Bool} (h : ∀ k b, ans k = some b → ∃ u, KdT G k u ∧ PySem.W.kitOne G.K u (t.val G) = some b) : CallR X (.builtin "isinstance") (rN G (opIsi t ans)) := CallR_imp call_isi fun vs H Q ⟨ms, st, ds, S, r, k⟩ => by
  unfold opIsi at k
  split at k
  · obtain ⟨v, u, rfl, rv, ru⟩ := r.two'
    split at k
    · rename_i ht
      split at k
      · rename_i kd e
        split at k
        · rename_i b e2
          obtain ⟨w, h1, h2⟩ := h kd b e2
          refine ⟨v, u, w, t.val G, b, rfl, ?_, by rw [hK]; exact kd_ok S rv e h1, by rw [hK]; exact h2, OkO.bl S k⟩
          rw [isTC_eq ht] at ru
          cases t with
          | ty n =>
            simp only [TC.d, RV] at ru
            subst ru
            exact .ty n
          | glo n =>
            simp only [TC.d, RV] at ru
            subst ru
            exact .own _
        · exact k.elim
      · exact k.elim
    · exact k.elim
  · exact k.elim
/-- the usual answers -/
def ansTy (n : String) : Kd → Option Bool
  | .non => some (n == "NoneType" || n == "object")
  | .bl => some (n == "bool" || n == "int" || n == "object")
  | .int => some (n == "int" || n == "object")
  | .str => some (n == "str" || n == "object")
  | .tup => some (n == "tuple" || n == "object")
  | .lst => some (n == "list" || n == "object")
  | .dct => some (n == "dict" || n == "object")
  | .ins _ => none
theorem isi_ty (hK : X.K = G.K) {n : String} (h : n = "int" ∨ n = "bool" ∨ n = "str" ∨ n = "tuple" ∨ n = "list") : CallR X (.builtin "isinstance") (rN G (opIsi (.ty n) (ansTy n))) := c_isi hK fun k b e => by
  cases k with
  | ins c => cases e
  | non => simp only [ansTy] at e; cases e; exact ⟨_, rfl, by rcases h with rfl | rfl | rfl | rfl | rfl <;> exact kit_ty (by decide +kernel)⟩
  | bl => simp only [ansTy] at e; cases e; exact ⟨_, rfl, by rcases h with rfl | rfl | rfl | rfl | rfl <;> exact kit_ty (by decide +kernel)⟩
  | int => simp only [ansTy] at e; cases e; exact ⟨_, rfl, by rcases h with rfl | rfl | rfl | rfl | rfl <;> exact kit_ty (by decide +kernel)⟩
  | str => simp only [ansTy] at e; cases e; exact ⟨_, rfl, by rcases h with rfl | rfl | rfl | rfl | rfl <;> exact kit_ty (by decide +kernel)⟩
  | tup => simp only [ansTy] at e; cases e; exact ⟨_, rfl, by rcases h with rfl | rfl | rfl | rfl | rfl <;> exact kit_ty (by decide +kernel)⟩
  | lst => simp only [ansTy] at e; cases e; exact ⟨_, rfl, by rcases h with rfl | rfl | rfl | rfl | rfl <;> exact kit_ty (by decide +kernel)⟩
  | dct => simp only [ansTy] at e; cases e; exact ⟨_, rfl, by rcases h with rfl | rfl | rfl | rfl | rfl <;> exact kit_ty (by decide +kernel)⟩
/-- a built-in type's name as a value -/
theorem e_ty {x : Str} {n : String} {pos : Pos} (hg : Gl X x) (hm : X.mg x = none) (hv : bootBuiltins x = some (.type n)) (hn : x ≠ "__name__" := by decide) (hd : (x == ("__debug__" : Str)) = false := by decide) : PE X (.Name x pos) (tE G W (eC (.ty n))) :=
  e_c (pe_bltn (v := .ty n) hg hm hv rfl hn hd) fun _ _ => by simp only [RV]

/-! ### f-strings -/
def eFmt (a : E) : E := fun env st => (a env st).bind fun x s => match x with
  | .str y => if y.length ≤ LIM then .ok (.str y) s else .bad
  | .int i => if i.natAbs.log2 < 1920 then .ok (.str (toString i)) s else .bad
  | _ => .bad
theorem e_fmt {e : Expr} {fe : E} {pos : Pos} (he : PE X e (tE G W fe)) : PE X (.FormattedValue e (-1) none pos) (tE G W (eFmt fe)) :=
  PE_weak (pe_fmt he) fun σ H Q h => tX_mono (tX_bind h) fun v H1 ⟨ms, st, env, x, S, r, r1, k⟩ => by
    cases x with
    | str y =>
      simp only [RV] at r1
      simp only at k
      split at k
      · rename_i hl
        exact .inl ⟨y, r1, LIM_le hl, k (.str y) ms H1 Gr.refl S (by simp only [RV])⟩
      · exact k.elim
    | int i =>
      simp only [RV] at r1
      simp only at k
      split at k
      · rename_i hl
        exact .inr ⟨i, r1, hl, k _ ms H1 Gr.refl S (by simp only [RV])⟩
      · exact k.elim
    | _ => exact k.elim
def eJoin : List E → Str → E
  | [], acc => fun _ st => .ok (.str acc) st
  | a :: as, acc => fun env st => (a env st).bind fun x s => match x with
    | .str y => if (acc ++ y).length ≤ LIM then eJoin as (acc ++ y) env s else .bad
    | _ => .bad
theorem join_tJs : ∀ (fs : List E) (acc : Str) (H : Hp) (Q : VK), tE G W (eJoin fs acc) σ H Q → tJs (fs.map (tE G W)) acc σ H fun out H1 => Q (.str out) H1
  | [], acc, H, Q, ⟨ms, st, env, S, r, k⟩ => k (.str acc) ms H Gr.refl S (by simp only [RV])
  | f :: fs, acc, H, Q, h => tX_mono (tX_bind h) fun v H1 ⟨ms, st, env, x, S, r, r1, k⟩ => by
    cases x with
    | str y =>
      simp only [RV] at r1
      simp only at k
      split at k
      · rename_i hl
        exact ⟨y, r1, LIM_le hl, join_tJs fs _ H1 Q ⟨ms, st, env, S, r, k⟩⟩
      · exact k.elim
    | _ => exact k.elim
theorem e_joined {v1 v2 : Expr} {rest : List Expr} {fs : List E} {pos : Pos} (h : PJ X (v1 :: v2 :: rest) (fs.map (tE G W))) : PE X (.JoinedStr (v1 :: v2 :: rest) pos) (tE G W (eJoin fs Str.empty)) :=
  PE_weak (pe_joined h) fun σ H Q q => join_tJs fs _ H Q q

/-! ### fields -/
theorem ofString_inj {a b : String} (h : Str.ofString a = Str.ofString b) : a = b := by
  unfold Str.ofString at h
  rw [cpsOfBytes_string, cpsOfBytes_string] at h
  have h1 : a.toList.map Char.toNat = b.toList.map Char.toNat := by simpa using h
  have h2 : a.toList = b.toList := by
    have inj : ∀ (l m : List Char), l.map Char.toNat = m.map Char.toNat → l = m := by
      intro l
      induction l with
      | nil => intro m e; cases m with
        | nil => rfl
        | cons _ _ => simp at e
      | cons c l ih =>
        intro m e
        cases m with
        | nil => simp at e
        | cons d m =>
          simp only [List.map_cons, List.cons.injEq] at e
          rw [ih m e.2]
          have : c = d := Char.ext (UInt32.toNat_inj.mp e.1)
          rw [this]
    exact inj _ _ h1
  exact String.toList_inj.mp h2
theorem RF.look {ms : List Addr} {f : String} {d : D} : ∀ {fs : List (String × D)} {gs : List (Str × V)}, RF G ms H fs gs → fs.lookup f = some d → ∃ v, gs.lookup (Str.ofString f) = some v ∧ RV G ms H d v
  | [], _, _, e => by cases e
  | p :: fs, _, ⟨v, r, rfl, h1, h2⟩, e => by
    obtain ⟨g, x⟩ := p
    by_cases hg : f = g
    · subst hg
      simp only [List.lookup, beq_self_eq_true] at e ⊢
      cases e
      exact ⟨v, rfl, h1⟩
    · have h3 : (f == g) = false := by simpa using hg
      have h4 : (Str.ofString f == Str.ofString g) = false := beq_eq_false_iff_ne.mpr fun z => hg (ofString_inj z)
      simp only [List.lookup, h3] at e
      simp only [List.lookup, h4]
      exact RF.look h2 e
theorem RF.lookN {ms : List Addr} {f : String} : ∀ {fs : List (String × D)} {gs : List (Str × V)}, RF G ms H fs gs → fs.lookup f = none → gs.lookup (Str.ofString f) = none
  | [], _, h, _ => by
    rw [show _ = _ from h]
    rfl
  | p :: fs, _, ⟨v, r, rfl, h1, h2⟩, e => by
    obtain ⟨g, x⟩ := p
    by_cases hg : f = g
    · subst hg
      simp only [List.lookup, beq_self_eq_true] at e
      cases e
    · have h3 : (f == g) = false := by simpa using hg
      have h4 : (Str.ofString f == Str.ofString g) = false := beq_eq_false_iff_ne.mpr fun z => hg (ofString_inj z)
      simp only [List.lookup, h3] at e
      simp only [List.lookup, h4]
      exact RF.lookN h2 e
def putD (f : String) (d : D) : List (String × D) → List (String × D)
  | [] => [(f, d)]
  | (g, x) :: r => if g = f then (g, d) :: r else (g, x) :: putD f d r
theorem RF.put {ms : List Addr} {f : String} {d : D} {v : V} (k : RV G ms H d v) : ∀ {fs : List (String × D)} {gs : List (Str × V)}, RF G ms H fs gs → RF G ms H (putD f d fs) (putF (Str.ofString f) v gs)
  | [], _, h => by
    rw [show _ = _ from h]
    exact ⟨v, [], rfl, k, rfl⟩
  | p :: fs, _, ⟨u, r, rfl, h1, h2⟩ => by
    obtain ⟨g, x⟩ := p
    by_cases hg : g = f
    · subst hg
      simp only [putD, putF, if_true]
      exact ⟨v, r, rfl, k, h2⟩
    · have h3 : ¬ Str.ofString g = Str.ofString f := fun z => hg (ofString_inj z)
      simp only [putD, putF, if_neg hg, if_neg h3]
      exact ⟨u, _, rfl, h1, RF.put k h2⟩
theorem RF.len {ms : List Addr} : ∀ {fs : List (String × D)} {gs : List (Str × V)}, RF G ms H fs gs → gs.length = fs.length
  | [], _, h => by
    rw [show _ = _ from h]
    rfl
  | p :: fs, _, ⟨u, r, rfl, h1, h2⟩ => by rw [List.length_cons, List.length_cons, RF.len h2]
/-- the field f of an instance of a class in P -/
def opFld (P : Nat → Bool) (f : String) (x : D) : O D := fun st => match x with
  | .ref i => match st[i]? with
    | some (.ins c fs) => if P c = true then match fs.lookup f with
        | some d => some (d, st)
        | none => none
      else none
    | _ => none
  | _ => none
theorem e_fld {e : Expr} {f : String} {fs : Str} {pos : Pos} {P : Nat → Bool} {fe : E} (hK : X.K = G.K) (hP : ∀ c, P c = true → Cls G.K (G.tb c) ∧ NoAttr G.K (G.tb c) fs) (hf : fs = Str.ofString f) (he : PE X e (tE G W fe)) (hb : attributeBase e fs X.env (eval e X.env) = eval e X.env := by rfl) :
    PE X (.Attribute e fs pos) (tE G W (eUn (opFld P f) fe)) := PE_weak (pe_fld he hb) fun σ H Q h => tX_mono (tX_bind h) fun v H1 ⟨ms, st, env, x, S, r, r1, k⟩ => by
  have k := k.ofO
  unfold opFld at k
  split at k
  · split at k
    · rename_i c gs e
      split at k
      · rename_i hc
        split at k
        · rename_i d e2
          obtain ⟨a, dx, hs, rfl, _, h1, h2⟩ := S.ins e r1
          obtain ⟨w, h3, h4⟩ := h2.look e2
          obtain ⟨p1, p2⟩ := hP c hc
          exact ⟨a, _, dx, hs, w, rfl, h1, by rw [hK]; exact p1, by rw [hK]; exact p2, by rw [hf]; exact h3, OkO.val S h4 k⟩
        · exact k.elim
      · exact k.elim
    · exact k.elim
  · exact k.elim

/-! ### calls of defs -/
abbrev F := List D → M D
def spF (G : Gx) (g : F) : Sp := fun vs H Q E => ∃ ms st ds, SRel G ms st H ∧ RVs G ms H ds vs ∧ Okk (RV G) G (fun c d H => E c d H) Q ms H (g ds st)
def eCall (g : F) (as : List E) : E := fun env st => (eArgs as env st).bind g
theorem call_tCall {g : F} {fs : List E} {Q : VK} (h : tE G W (eCall g fs) σ H Q) : tCallS (spF G g) (WE W) (tA G W (eArgs fs)) σ H Q :=
  tX_mono (tX_bind (R := RVs G) h) fun vs H1 ⟨ms, st, env, ds, S, r, r1, k⟩ => ⟨ms, st, ds, S, r1, k⟩
theorem e_call {k j : Nat} {f : Addr} {fd : FuncData} {ps : List Str} {x : Str} {p pos : Pos} {e : Expr} {es : List Expr} {g : F} {fs : List E} (T : FnOk X.prog X.w X.K X.mg X.base (L2.CX X.prog X.w) j f fd ps (spF G g)) (hr : Room k X.A) (hm : X.mg x = some (.ref f)) (hk : PySem.W.keepIn X.K (.ref f) = true)
    (hb : Binds X.K fd ps []) (tk : Takes X W) (ha : PA X (e :: es) (tA G W (eArgs fs))) (hj : j ≤ k := by decide) (hg : Gl X x := by rfl) (hdb : (x == ("__debug__" : Str)) = false := by decide)
    (he : starEach (e :: es) X.env = (false, eval e X.env) :: starEach es X.env := by rfl) (hpl : (backTo pos (starEach es X.env)).any (·.1) = false := by rfl) :
    PE X (.Call (.Name x p) (e :: es) [] pos) (tE G W (eCall g fs)) :=
  PE_weak (pe_callS (E := WE W) T (hr.mono hj) hg hm hk hb (fun σ => passAt tk σ) ha hdb he hpl) fun _ _ _ h => call_tCall h
/-- o.m(..) -/
def eMeth (c : Nat) (m : String) (g : F) (a : E) (as : List E) : E := fun env st => (a env st).bind fun x s => match x with
  | .ref i => match s[i]? with
    | some (.ins c' fs) => if c' = c ∧ fs.lookup m = none then (eArgs as env s).bind fun xs s' => g (.ref i :: xs) s' else .bad
    | _ => .bad
  | _ => .bad
def tMethS (C : Addr) (m : Str) (sp : Sp) (E : L2.St → XK) (ta : TE) (t : TA) : TE := fun σ H Q => ta σ H fun x H1 => ∃ a dx fs, x = .ref a ∧ H1 a = some (.ins C dx fs) ∧ fs.lookup m = none ∧ t σ H1 fun vs H2 => sp (x :: vs) H2 Q (E σ)
theorem pe_methS {k : Nat} {f C : Addr} {fd : FuncData} {ps : List Str} {sp : Sp} {E : L2.St → XK} {m : Str} {pos apos : Pos} {e o : Expr} {es : List Expr} {ta : TE} {t : TA} {pl : Sem Bool} (he : PE X o ta) (c : Cls X.K C) (hm : Meth X.K C m f) (F : FnOk X.prog X.w X.K X.mg X.base (L2.CX X.prog X.w) k f fd ps sp) (hr : Room k X.A)
    (hb : Binds X.K fd ps []) (hx : ∀ σ, PassesAt (L2.CX X.prog X.w) X σ (E σ)) (ha : PA X (e :: es) t)
    (hst : starEach (e :: es) X.env = (false, eval e X.env) :: starEach es X.env := by rfl) (hpl : (backTo pos (starEach es X.env)).any (·.1) = false := by rfl)
    (ht : eval (.Call (.Attribute o m apos) (e :: es) [] pos) X.env = (do
      let ov ← eval o X.env
      standAt apos.atName
      let (f, first) ← holding [ov] (getMethod ov m pl)
      callWith pos f first (backTo pos (starEach (e :: es) X.env)) (backToKw pos (keywordEach [] X.env))) := by rfl) :
    PE X (.Call (.Attribute o m apos) (e :: es) [] pos) (tMethS C m sp E ta t) := by
  refine ⟨fun pins s σ H Q I h => ?_⟩
  refine PySem.W.methodCall_KW (pl := pl) (thn (he.run pins s σ H _ I h) fun u s1 ⟨x, H1, I1, rx, a, dx, fs, ex, ea, l, q⟩ => ?_) ht
  subst ex
  obtain rfl : u = Value.ref a := rx
  refine getmeth_ok I1 ea c hm l ?_
  refine PySem.W.callWith_K (first := [.ref a]) (h₀ := X.base) I.ok.mod.kin hm.kp (thn (ha.run pos pins s1 σ H1 _ I1 q) fun us s2 ⟨vs, H2, I2, r, q2⟩ => ⟨I2.kIn, ?_⟩) hst hpl
  exact run_fnS (us := .ref a :: us) (vs := .ref a :: vs) F hr hb (hx σ) I2 (.cons rfl r) q2
theorem pe_methS0 {k : Nat} {f C : Addr} {fd : FuncData} {ps : List Str} {sp : Sp} {E : L2.St → XK} {m : Str} {pos apos : Pos} {o : Expr} {ta : TE} {pl : Sem Bool} (he : PE X o ta) (c : Cls X.K C) (hm : Meth X.K C m f) (F : FnOk X.prog X.w X.K X.mg X.base (L2.CX X.prog X.w) k f fd ps sp) (hr : Room k X.A)
    (hb : Binds X.K fd ps []) (hx : ∀ σ, PassesAt (L2.CX X.prog X.w) X σ (E σ))
    (ht : eval (.Call (.Attribute o m apos) [] [] pos) X.env = (do
      let ov ← eval o X.env
      standAt apos.atName
      let (f, first) ← holding [ov] (getMethod ov m pl)
      callWith pos f first (backTo pos (starEach [] X.env)) (backToKw pos (keywordEach [] X.env))) := by rfl) :
    PE X (.Call (.Attribute o m apos) [] [] pos) (tMethS C m sp E ta tNil) := by
  refine ⟨fun pins s σ H Q I h => ?_⟩
  refine PySem.W.methodCall_KW (pl := pl) (thn (he.run pins s σ H _ I h) fun u s1 ⟨x, H1, I1, rx, a, dx, fs, ex, ea, l, q⟩ => ?_) ht
  subst ex
  obtain rfl : u = Value.ref a := rx
  refine getmeth_ok I1 ea c hm l ?_
  exact PySem.W.callWith_K0 (first := [.ref a]) I1.kIn hm.kp (run_fnS (us := [.ref a]) (vs := [.ref a]) F hr hb (hx σ) I1 (.cons rfl .nil) q)
theorem meth_tMeth {c : Nat} {m : String} {g : F} {fa : E} {fs : List E} {Q : VK} (h : tE G W (eMeth c m g fa fs) σ H Q) : tMethS (G.tb c) (Str.ofString m) (spF G g) (WE W) (tE G W fa) (tA G W (eArgs fs)) σ H Q :=
  tX_mono (tX_bind h) fun v H1 ⟨ms, st, env, x, S, r, r1, k⟩ => by
    split at k
    · split at k
      · rename_i c' fs' e
        split at k
        · rename_i hc
          obtain ⟨rfl, hl⟩ := hc
          have r1' := r1
          obtain ⟨a, dx, gs, rfl, _, h1, h2⟩ := S.ins e r1
          exact ⟨a, dx, gs, rfl, h1, h2.lookN hl, ms, st, env, S, r, Okk.bind k fun xs s vs m1 H2 g1 S1 r2 k1 => ⟨m1, s, _, S1, by
            simp only [RVs]
            exact ⟨.ref a, vs, rfl, RV.gr g1 _ _ r1', r2⟩, k1⟩⟩
        · exact k.elim
      · exact k.elim
    · exact k.elim
theorem e_meth {k j : Nat} {f : Addr} {fd : FuncData} {ps : List Str} {c : Nat} {m : String} {mS : Str} {pos apos : Pos} {e o : Expr} {es : List Expr} {g : F} {fa : E} {fs : List E} {pl : Sem Bool} (hmS : mS = Str.ofString m) (he : PE X o (tE G W fa)) (hc : Cls X.K (G.tb c)) (hm : Meth X.K (G.tb c) mS f)
    (T : FnOk X.prog X.w X.K X.mg X.base (L2.CX X.prog X.w) j f fd ps (spF G g)) (hr : Room k X.A) (hb : Binds X.K fd ps []) (tk : Takes X W) (ha : PA X (e :: es) (tA G W (eArgs fs))) (hj : j ≤ k := by decide)
    (hst : starEach (e :: es) X.env = (false, eval e X.env) :: starEach es X.env := by rfl) (hpl : (backTo pos (starEach es X.env)).any (·.1) = false := by rfl)
    (ht : eval (.Call (.Attribute o mS apos) (e :: es) [] pos) X.env = (do
      let ov ← eval o X.env
      standAt apos.atName
      let (f, first) ← holding [ov] (getMethod ov mS pl)
      callWith pos f first (backTo pos (starEach (e :: es) X.env)) (backToKw pos (keywordEach [] X.env))) := by rfl) :
    PE X (.Call (.Attribute o mS apos) (e :: es) [] pos) (tE G W (eMeth c m g fa fs)) := PE_weak (pe_methS (E := WE W) he hc hm T (hr.mono hj) hb (fun σ => passAt tk σ) ha hst hpl ht) fun σ H Q h => by
  rw [hmS]
  exact meth_tMeth h
/-- C(..) -/
def eMake (c : Nat) (g : F) (as : List E) : E := fun env st => (eArgs as env st).bind fun xs s => (g (.ref s.length :: xs) (s ++ [.ins c []])).bind fun r s' => match r with
  | .non => .ok (.ref s.length) s'
  | _ => .bad
def tMakeS (C : Addr) (sp : Sp) (E : L2.St → XK) (t : TA) : TE := fun σ H Q => t σ H fun vs H1 => ∀ x dx, H1 x = none → H1 dx = none → dx ≠ x → sp (.ref x :: vs) (upd (upd H1 dx (.own x)) x (.ins C dx [])) (fun v H2 => v = .non ∧ Q (.ref x) H2) (E σ)
theorem run_makeS {k : Nat} {f C : Addr} {fd : FuncData} {ps : List Str} {sp : Sp} {E : XK} {pins : List (Addr × Obj)} {s : Shared} {Q : VK} {us : List Value} {vs : List V} (M : Mk X.K C f) (F : FnOk X.prog X.w X.K X.mg X.base (L2.CX X.prog X.w) k f fd ps sp) (hr : Room (k + 1) X.A) (hb : Binds X.K fd ps [])
    (hx : PassesAt (L2.CX X.prog X.w) X σ E) (I : Inv X pins σ H s) (r : Vals vs us)
    (h : ∀ x dx, H x = none → H dx = none → dx ≠ x → sp (.ref x :: vs) (upd (upd H dx (.own x)) x (.ins C dx [])) (fun v H2 => v = .non ∧ Q (.ref x) H2) E) :
    wpAny (model X.prog X.w) X.A (PySem.call (.ref C) us) (EP X pins σ Q) X.xe s := by
  have hq := h (s.heap.objs.size + 1) s.heap.objs.size (I.hok.fresh (Nat.le_succ _)) (I.hok.fresh (Nat.le_refl _)) (Nat.ne_of_lt (Nat.lt_succ_self _))
  have I2 := Inv.made (C := C) I
  have r2 : Vals (V.ref (s.heap.objs.size + 1) :: vs) (Value.ref (s.heap.objs.size + 1) :: us) := .cons rfl r
  have hl : (Value.ref (s.heap.objs.size + 1) :: us ++ []).length = ps.length := by
    have e := r2.length
    rw [F.len _ _ _ _ hq] at e
    rw [List.append_nil]
    exact e.symm
  have hb2 := hb _ (Value.ref (s.heap.objs.size + 1) :: us) I2.kIn hl
  rw [List.append_nil] at hb2
  refine wpAny_call (make_map (f := f) I.kIn M.makes M.init (beq_iff_eq.mp M.fn) (codeAny_mono (F.run _ X.stack _ _ ⟨Value.ref (s.heap.objs.size + 1) :: us, []⟩ (Value.ref (s.heap.objs.size + 1) :: us) _ _ E (hr.make C us [])
    (I2.env0.make C us []) hb2 r2 hq) fun r s' hq' => ?_))
  cases r with
  | error e => exact hx pins _ _ e s' I2 hq'
  | ok fl =>
    cases fl with
    | ret u =>
      obtain ⟨v, H', I3, rv, ev, q3⟩ := I2.after hq'
      subst ev
      exact ⟨rv, ⟨V.ref (s.heap.objs.size + 1), H', I3, rfl, q3⟩⟩
    | next => exact False.elim hq'
    | brk => exact False.elim hq'
    | cont => exact False.elim hq'
theorem pe_makeS {k : Nat} {f C : Addr} {fd : FuncData} {ps : List Str} {sp : Sp} {E : L2.St → XK} {x : Str} {p pos : Pos} {e : Expr} {es : List Expr} {t : TA} (M : Mk X.K C f) (F : FnOk X.prog X.w X.K X.mg X.base (L2.CX X.prog X.w) k f fd ps sp) (hr : Room (k + 1) X.A) (hg : Gl X x) (hm : X.mg x = some (.ref C)) (hb : Binds X.K fd ps [])
    (hx : ∀ σ, PassesAt (L2.CX X.prog X.w) X σ (E σ)) (ha : PA X (e :: es) t) (hdb : (x == ("__debug__" : Str)) = false := by decide) (he : starEach (e :: es) X.env = (false, eval e X.env) :: starEach es X.env := by rfl) (hpl : (backTo pos (starEach es X.env)).any (·.1) = false := by rfl) :
    PE X (.Call (.Name x p) (e :: es) [] pos) (tMakeS C sp E t) := by
  refine ⟨fun pins s σ H Q I h => ?_⟩
  refine wpAny_Call_Name_kw (ld_glob I hg hm ?_ hdb)
  refine PySem.W.callWith_K (h₀ := X.base) I.ok.mod.kin M.kp (thn (ha.run pos pins s σ H _ I h) fun us s1 ⟨vs, H1, I1, r, q⟩ => ⟨I1.kIn, ?_⟩) he hpl
  exact run_makeS M F hr hb (hx σ) I1 r q
theorem pe_makeS0 {k : Nat} {f C : Addr} {fd : FuncData} {ps : List Str} {sp : Sp} {E : L2.St → XK} {x : Str} {p pos : Pos} (M : Mk X.K C f) (F : FnOk X.prog X.w X.K X.mg X.base (L2.CX X.prog X.w) k f fd ps sp) (hr : Room (k + 1) X.A) (hg : Gl X x) (hm : X.mg x = some (.ref C)) (hb : Binds X.K fd ps [])
    (hx : ∀ σ, PassesAt (L2.CX X.prog X.w) X σ (E σ)) (hdb : (x == ("__debug__" : Str)) = false := by decide) : PE X (.Call (.Name x p) [] [] pos) (tMakeS C sp E tNil) := by
  refine ⟨fun pins s σ H Q I h => ?_⟩
  refine wpAny_Call_Name_kw (ld_glob I hg hm ?_ hdb)
  exact PySem.W.callWith_K0 I.kIn M.kp (run_makeS (us := []) M F hr hb (hx σ) I .nil h)
theorem make_fin {c : Nat} {g : F} {ms : List Addr} {st : Sto} {env : Sl} {ds : List D} {vs : List V} {Q : VK} (S : SRel G ms st H) (r1 : RVs G ms H ds vs)
    (k : Okk (RV G) G (fun c d H => W c d σ H) Q ms H ((g (.ref st.length :: ds) (st ++ [.ins c []])).bind fun r s' => match r with
      | .non => .ok (.ref st.length) s'
      | _ => .bad)) : ∀ x dx, H x = none → H dx = none → dx ≠ x → spF G g (.ref x :: vs) (upd (upd H dx (.own x)) x (.ins (G.tb c) dx [])) (fun v H2 => v = .non ∧ Q (.ref x) H2) (WE W σ) := fun x dx hx hdx ne => by
  have hx1 : upd H dx (.own x) x = none := by
    rw [upd_ne (Ne.symm ne)]
    exact hx
  have g1 : Gr ms H ms (upd H dx (.own x)) := Gr.new0 hdx
  have g2 : Gr ms (upd H dx (.own x)) (ms ++ [x]) (upd (upd H dx (.own x)) x (.ins (G.tb c) dx [])) := Gr.new hx1 [x]
  have S2 : SRel G (ms ++ [x]) (st ++ [.ins c []]) (upd (upd H dx (.own x)) x (.ins (G.tb c) dx [])) := (S.lay hdx).new hx1 ⟨dx, [], upd_same, rfl⟩
  have rx : RV G (ms ++ [x]) (upd (upd H dx (.own x)) x (.ins (G.tb c) dx [])) (.ref st.length) (.ref x) := by
    simp only [RV]
    exact ⟨x, rfl, by rw [← S.len]; simp⟩
  refine ⟨ms ++ [x], st ++ [.ins c []], .ref st.length :: ds, S2, ?_, ?_⟩
  · simp only [RVs]
    exact ⟨_, vs, rfl, rx, RVs.gr (g1.trans g2) _ _ r1⟩
  · refine Okk.bind (Okk.gr (g1.trans g2) k) fun r s b m1 H1 g3 S3 r3 k3 => ?_
    cases r with
    | non =>
      simp only [RV] at r3
      exact ⟨r3, k3 (.ref x) m1 H1 Gr.refl S3 (RV.gr g3 _ _ rx)⟩
    | _ => exact k3.elim
theorem e_make {k j : Nat} {f : Addr} {fd : FuncData} {ps : List Str} {c : Nat} {x : Str} {p pos : Pos} {e : Expr} {es : List Expr} {g : F} {fs : List E} (M : Mk X.K (G.tb c) f) (T : FnOk X.prog X.w X.K X.mg X.base (L2.CX X.prog X.w) j f fd ps (spF G g)) (hr : Room k X.A) (hm : X.mg x = some (.ref (G.tb c)))
    (hb : Binds X.K fd ps []) (tk : Takes X W) (ha : PA X (e :: es) (tA G W (eArgs fs))) (hj : j + 1 ≤ k := by decide) (hg : Gl X x := by rfl) (hdb : (x == ("__debug__" : Str)) = false := by decide)
    (he : starEach (e :: es) X.env = (false, eval e X.env) :: starEach es X.env := by rfl) (hpl : (backTo pos (starEach es X.env)).any (·.1) = false := by rfl) :
    PE X (.Call (.Name x p) (e :: es) [] pos) (tE G W (eMake c g fs)) :=
  PE_weak (pe_makeS (E := WE W) M T (hr.mono hj) hg hm hb (fun σ => passAt tk σ) ha hdb he hpl) fun σ H Q h =>
    tX_mono (tX_bind (R := RVs G) h) fun vs H1 ⟨ms, st, env, ds, S, r, r1, k⟩ => make_fin (env := env) S r1 k
theorem e_make0 {k j : Nat} {f : Addr} {fd : FuncData} {ps : List Str} {c : Nat} {x : Str} {p pos : Pos} {g : F} (M : Mk X.K (G.tb c) f) (T : FnOk X.prog X.w X.K X.mg X.base (L2.CX X.prog X.w) j f fd ps (spF G g)) (hr : Room k X.A) (hm : X.mg x = some (.ref (G.tb c)))
    (hb : Binds X.K fd ps []) (tk : Takes X W) (hj : j + 1 ≤ k := by decide) (hg : Gl X x := by rfl) (hdb : (x == ("__debug__" : Str)) = false := by decide) :
    PE X (.Call (.Name x p) [] [] pos) (tE G W (eMake c g [])) :=
  PE_weak (pe_makeS0 (E := WE W) M T (hr.mono hj) hg hm hb (fun σ => passAt tk σ) hdb) fun σ H Q ⟨ms, st, env, S, r, k⟩ => make_fin (env := env) S (by simp only [RVs]) k
end
end LF

set_option Elab.async false
set_option linter.all false
set_option maxRecDepth 100000
set_option maxHeartbeats 4000000
/-! The layer: statements, loops, comprehensions, defs. -/
namespace LF
open PySem PySem.Spec PyProof.Rows L2
inductive Out where
  | nx (e : Sl) (s : Sto) | rt (d : D) (s : Sto) | bk (e : Sl) (s : Sto) | ct (e : Sl) (s : Sto)
  | exn (c : Nat) (fs : List (String × D)) (e : Sl) (s : Sto)
  | bad
abbrev Sm := Sl → Sto → Out
def Res.out {α : Type} (env : Sl) : Res α → (α → Sto → Out) → Out
  | .ok a s, k => k a s
  | .exn c fs s, _ => .exn c fs env s
  | .bad, _ => .bad
section
variable {G : Gx} {W : WX} {X : Cx} {σ : L2.St} {H : Hp}
def OutOk (G : Gx) (W : WX) (K : Ends) (ms : List Addr) (H : Hp) : Out → Prop
  | .nx e st => ∀ σ' ms' H', Gr ms H ms' H' → SRel G ms' st H' → RE G ms' H' e σ' → K.nx σ' H'
  | .bk e st => ∀ σ' ms' H', Gr ms H ms' H' → SRel G ms' st H' → RE G ms' H' e σ' → K.bk σ' H'
  | .ct e st => ∀ σ' ms' H', Gr ms H ms' H' → SRel G ms' st H' → RE G ms' H' e σ' → K.ct σ' H'
  | .rt d st => ∀ v ms' H', Gr ms H ms' H' → SRel G ms' st H' → RV G ms' H' d v → K.rt v H'
  | .exn c fs e st => ∀ od σ' ms' H', Gr ms H ms' H' → SRel G ms' st H' → RE G ms' H' e σ' → XRel G ms' H' fs od → W (.ref (G.tb c)) od σ' H'
  | .bad => False
def tS (G : Gx) (W : WX) (f : Sm) : TS := fun K σ H => ∃ ms st env, SRel G ms st H ∧ RE G ms H env σ ∧ OutOk G W K ms H (f env st)
theorem OutOk.gr {K : Ends} {ms ms' : List Addr} {H' : Hp} {o : Out} (g : Gr ms H ms' H') (h : OutOk G W K ms H o) : OutOk G W K ms' H' o := by
  cases o with
  | nx e st => exact fun σ' m2 H2 g2 => h σ' m2 H2 (g.trans g2)
  | bk e st => exact fun σ' m2 H2 g2 => h σ' m2 H2 (g.trans g2)
  | ct e st => exact fun σ' m2 H2 g2 => h σ' m2 H2 (g.trans g2)
  | rt d st => exact fun v m2 H2 g2 => h v m2 H2 (g.trans g2)
  | exn c fs e st => exact fun od σ' m2 H2 g2 => h od σ' m2 H2 (g.trans g2)
  | bad => exact h
/-- the exceptions of an expression within a statement: the slots are those at hand -/
theorem tX_out {α β : Type} {R : List Addr → Hp → α → β → Prop} {fa : Sl → M α} {k : Sl → α → Sto → Out} {K : Ends} (h : tS G W (fun env st => (fa env st).out env (k env)) K σ H) :
    tX R G W fa σ H fun b H1 => ∃ ms st env a, SRel G ms st H1 ∧ RE G ms H1 env σ ∧ R ms H1 a b ∧ OutOk G W K ms H1 (k env a st) := by
  obtain ⟨ms, st, env, S, r, q⟩ := h
  have q : OutOk G W K ms H ((fa env st).out env (k env)) := q
  refine ⟨ms, st, env, S, r, ?_⟩
  cases e : fa env st with
  | ok a s =>
    rw [e] at q
    exact fun b m1 H1 g1 S1 r1 => ⟨m1, s, env, a, S1, r.gr g1, r1, OutOk.gr g1 q⟩
  | exn c fs s =>
    rw [e] at q
    exact fun od m1 H1 g1 S1 x1 => q od σ m1 H1 g1 S1 (r.gr g1) x1
  | bad =>
    rw [e] at q
    exact q

/-! ### blocks and small statements -/
def sSeq (a b : Sm) : Sm := fun env st => match a env st with
  | .nx e s => b e s
  | r => r
def sSkip : Sm := fun env st => .nx env st
def sBreak : Sm := fun env st => .bk env st
def sCont : Sm := fun env st => .ct env st
def sRet (a : E) : Sm := fun env st => (a env st).out env fun d s => .rt d s
def sExpr (a : E) : Sm := fun env st => (a env st).out env fun _ s => .nx env s
def sIf (c : T) (a b : Sm) : Sm := fun env st => (c env st).out env fun k s => if k = true then a env s else b env s
theorem OutOk.seq {K : Ends} {ms : List Addr} {o : Out} {b : Sm} (h : OutOk G W K ms H (match o with
  | .nx e s => b e s
  | r => r)) : OutOk G W { K with nx := tS G W b K } ms H o := by
  cases o with
  | nx e s => exact fun σ' m1 H1 g1 S1 r1 => ⟨m1, s, e, S1, r1, OutOk.gr g1 h⟩
  | bk e st => exact h
  | ct e st => exact h
  | rt d st => exact h
  | exn c fs e st => exact h
  | bad => exact h
theorem ss_nil : PSs X [] (tS G W sSkip) := PSs_weak pss_nil fun K σ H ⟨ms, st, env, S, r, k⟩ => k σ ms H Gr.refl S r
theorem ss_cons {st : Stmt} {rest : List Stmt} {a b : Sm} (h1 : PS X st (tS G W a)) (h2 : PSs X rest (tS G W b)) : PSs X (st :: rest) (tS G W (sSeq a b)) :=
  PSs_weak (pss_cons h1 h2) fun K σ H ⟨ms, st, env, S, r, k⟩ => ⟨ms, st, env, S, r, OutOk.seq k⟩
theorem ss_one {st : Stmt} {a : Sm} (h1 : PS X st (tS G W a)) : PSs X [st] (tS G W a) := pss_one h1
theorem s_pass {pos} : PS X (.Pass pos) (tS G W sSkip) := PS_weak ps_pass fun K σ H ⟨ms, st, env, S, r, k⟩ => k σ ms H Gr.refl S r
theorem s_break {pos} : PS X (.Break pos) (tS G W sBreak) := PS_weak ps_break fun K σ H ⟨ms, st, env, S, r, k⟩ => k σ ms H Gr.refl S r
theorem s_cont {pos} : PS X (.Continue pos) (tS G W sCont) := PS_weak ps_continue fun K σ H ⟨ms, st, env, S, r, k⟩ => k σ ms H Gr.refl S r
theorem s_ret {e : Expr} {pos : Pos} {fe : E} (he : PE X e (tE G W fe)) : PS X (.Return (some e) pos) (tS G W (sRet fe)) :=
  PS_weak (ps_ret he) fun K σ H h => tX_mono (tX_out (k := fun _ d s => .rt d s) h) fun v H1 ⟨ms, st, env, d, S, _, r1, k⟩ => k v ms H1 Gr.refl S r1
theorem s_retN {pos : Pos} : PS X (.Return none pos) (tS G W (sRet (eC .non))) :=
  PS_weak ps_retN fun K σ H ⟨ms, st, env, S, r, k⟩ => k .non ms H Gr.refl S (by simp only [RV])
theorem s_expr {e : Expr} {pos : Pos} {fe : E} (he : PE X e (tE G W fe)) (hs : swapsWith e none pos.line X.env = pure false := by rfl) : PS X (.Expr e pos) (tS G W (sExpr fe)) :=
  PS_weak (ps_expr he hs) fun K σ H h => tX_mono (tX_out (k := fun env _ s => .nx env s) h) fun v H1 ⟨ms, st, env, d, S, r, r1, k⟩ => k σ ms H1 Gr.refl S r
theorem s_if {c : Expr} {p q : List Stmt} {pos : Pos} {tc : T} {a b : Sm} (hc : PT X c (tT G W tc)) (ha : PSs X p (tS G W a)) (hb : PSs X q (tS G W b)) : PS X (.If c p q pos) (tS G W (sIf tc a b)) :=
  PS_weak (ps_if hc ha hb) fun K σ H h => tX_mono (tX_out (k := fun env k s => if k = true then a env s else b env s) h) fun v H1 ⟨ms, st, env, d, S, r, r1, k⟩ => by
    cases r1
    cases v with
    | true => exact ⟨ms, st, env, S, r, by simpa using k⟩
    | false => exact ⟨ms, st, env, S, r, by simpa using k⟩
theorem s_never {st : Stmt} : PS X st (tS G W fun _ _ => .bad) := PS_weak ps_never fun K σ H ⟨ms, st, env, S, r, k⟩ => k

/-! ### targets -/
inductive Tg where
  | name (i : Nat) | tup (ts : List Tg)
def gSeq (K : PySem.W.Frag) (n : Nat) (t : TGs) : TG := fun v σ H Q => ∃ a xs, v = .ref a ∧ (SqT K H a xs ∨ SqL K H a xs) ∧ xs.length = n ∧ t xs σ H Q
mutual
def Tg.tg (K : PySem.W.Frag) : Tg → TG
  | .name i => gName i
  | .tup ts => gSeq K ts.length (Tg.tgs K ts)
def Tg.tgs (K : PySem.W.Frag) : List Tg → TGs
  | [] => gNil
  | t :: ts => gCons (Tg.tg K t) (Tg.tgs K ts)
end
mutual
def Tg.sem (st : Sto) : Tg → D → Sl → Option Sl
  | .name i, d, env => some (env.set i (some d))
  | .tup ts, d, env => match seqOf d st with
    | some ds => if ds.length = ts.length then Tg.sems st ts ds env else none
    | none => none
def Tg.sems (st : Sto) : List Tg → List D → Sl → Option Sl
  | [], [], env => some env
  | t :: ts, d :: ds, env => match Tg.sem st t d env with
    | some e => Tg.sems st ts ds e
    | none => none
  | _, _, _ => none
end
mutual
def Tg.names : Tg → List Nat
  | .name i => [i]
  | .tup ts => Tg.namess ts
def Tg.namess : List Tg → List Nat
  | [] => []
  | t :: ts => Tg.names t ++ Tg.namess ts
end
theorem wipe_set {σ : L2.St} {i : Nat} {o : Option V} : ∀ {vs : List Nat}, i ∈ vs → wipe (σ.set i o) vs = wipe σ vs
  | [], h => by simp at h
  | v :: vs, h => by
    unfold wipe
    by_cases hv : i ∈ vs
    · rw [wipe_set hv]
    · have e : i = v := by
        rcases List.mem_cons.mp h with h | h
        · exact h
        · exact (hv h).elim
      subst e
      have out : ∀ (l : List Nat) (τ : L2.St), i ∉ l → wipe (τ.set i o) l = (wipe τ l).set i o := by
        intro l
        induction l with
        | nil => intro τ _; rfl
        | cons w l ih =>
          intro τ hw
          simp only [List.mem_cons, not_or] at hw
          unfold wipe
          rw [ih τ hw.2, List.set_comm _ _ hw.1]
      rw [out vs σ hv, List.set_set]
mutual
theorem Tg.ok {ms : List Addr} {st : Sto} (S : SRel G ms st H) : ∀ (t : Tg) (d : D) (env env' : Sl) (v : V) (σ : L2.St), Tg.sem st t d env = some env' → RV G ms H d v → RE G ms H env σ →
    ∃ σ', RE G ms H env' σ' ∧ (∀ Q : L2.St → Hp → Prop, Q σ' H → Tg.tg G.K t v σ H Q) ∧ ∀ vs : List Nat, (∀ i ∈ Tg.names t, i ∈ vs) → wipe σ' vs = wipe σ vs
  | .name i, d, env, env', v, σ, h, r, re => by
    simp only [Tg.sem] at h
    cases h
    refine ⟨_, RE.set r i re, fun Q q => ?_, fun vs hv => wipe_set (hv i (by simp [Tg.names]))⟩
    simp only [Tg.tg]
    exact q
  | .tup ts, d, env, env', v, σ, h, r, re => by
    simp only [Tg.sem] at h
    split at h
    · rename_i ds e
      split at h
      · rename_i hl
        obtain ⟨p, us, rfl, h1, h2⟩ := seq_ok S r e
        obtain ⟨σ', a, b, c⟩ := Tg.oks S ts ds env env' us σ h h2 re
        refine ⟨σ', a, fun Q q => ?_, fun vs hv => c vs (by simpa [Tg.names] using hv)⟩
        simp only [Tg.tg]
        exact ⟨p, us, rfl, h1.symm, by rw [h2.length]; exact hl, b Q q⟩
      · cases h
    · cases h
theorem Tg.oks {ms : List Addr} {st : Sto} (S : SRel G ms st H) : ∀ (ts : List Tg) (ds : List D) (env env' : Sl) (vs : List V) (σ : L2.St), Tg.sems st ts ds env = some env' → RVs G ms H ds vs → RE G ms H env σ →
    ∃ σ', RE G ms H env' σ' ∧ (∀ Q : L2.St → Hp → Prop, Q σ' H → Tg.tgs G.K ts vs σ H Q) ∧ ∀ ws : List Nat, (∀ i ∈ Tg.namess ts, i ∈ ws) → wipe σ' ws = wipe σ ws
  | [], [], env, env', vs, σ, h, r, re => by
    simp only [Tg.sems] at h
    cases h
    simp only [RVs] at r
    subst r
    refine ⟨σ, re, fun Q q => ?_, fun _ _ => rfl⟩
    simp only [Tg.tgs]
    exact ⟨rfl, q⟩
  | t :: ts, d :: ds, env, env', vs, σ, h, r, re => by
    simp only [Tg.sems] at h
    split at h
    · rename_i e he
      simp only [RVs] at r
      obtain ⟨v, r', rfl, r1, r2⟩ := r
      obtain ⟨σ1, a1, b1, c1⟩ := Tg.ok S t d env e v σ he r1 re
      obtain ⟨σ2, a2, b2, c2⟩ := Tg.oks S ts ds e env' r' σ1 h r2 a1
      refine ⟨σ2, a2, fun Q q => ?_, fun ws hv => ?_⟩
      · simp only [Tg.tgs]
        exact ⟨v, r', rfl, b1 _ (b2 Q q)⟩
      · simp only [Tg.namess, List.mem_append] at hv
        rw [c2 ws fun i hi => hv i (.inr hi), c1 ws fun i hi => hv i (.inl hi)]
    · cases h
  | [], _ :: _, _, _, _, _, h, _, _ => by simp only [Tg.sems] at h; cases h
  | _ :: _, [], _, _, _, _, h, _, _ => by simp only [Tg.sems] at h; cases h
end
theorem g_name {i : Nat} {x : Str} {pos : Pos} (hN : X.N.Nodup) (hi : X.N[i]? = some x := by rfl) (hx : Loc X.env.scope x := by first | exact Or.inl rfl | exact Or.inr rfl) (hf : X.fn x = true ∨ X.env.scope.names.lookup x = some .local := by first | exact .inl rfl | exact .inr rfl) : PG X (.Name x pos) (Tg.tg G.K (.name i)) := by
  have h := pg_name (pos := pos) hN hi hx hf
  have e : Tg.tg G.K (.name i) = gName i := by simp only [Tg.tg]
  rw [e]
  exact h
theorem gs_nil : PGs X [] (Tg.tgs G.K []) := by
  have e : Tg.tgs G.K [] = gNil := by simp only [Tg.tgs]
  rw [e]
  exact pgs_nil
theorem gs_cons {e : Expr} {es : List Expr} {t : Tg} {ts : List Tg} (h1 : PG X e (Tg.tg G.K t)) (h2 : PGs X es (Tg.tgs G.K ts))
    (hs : (assignEach (e :: es) X.env).map (·.2) = assign e X.env :: (assignEach es X.env).map (·.2) := by rfl) : PGs X (e :: es) (Tg.tgs G.K (t :: ts)) := by
  have q : Tg.tgs G.K (t :: ts) = gCons (Tg.tg G.K t) (Tg.tgs G.K ts) := by simp only [Tg.tgs]
  rw [q]
  exact pgs_cons h1 h2 hs
theorem g_tup {es : List Expr} {k : Nat} {pos : Pos} {ts : List Tg} (hK : X.K = G.K) (hc : X.calm = true) (h : PGs X es (Tg.tgs G.K ts))
    (hn : (assignEach es X.env).length = ts.length := by rfl) (hst : (assignEach es X.env).findIdx? (·.1) = none := by rfl) : PG X (.Tuple es k pos) (Tg.tg G.K (.tup ts)) := by
  have h1 := pg_tup (k := k) (pos := pos) hc h hn hst
  have h2 := pg_unl (k := k) (pos := pos) hc h hn hst
  have e : Tg.tg G.K (.tup ts) = gSeq G.K ts.length (Tg.tgs G.K ts) := by simp only [Tg.tg]
  rw [e]
  refine ⟨fun pins s σ H v u Q I r hw => ?_⟩
  obtain ⟨a, xs, e1, hq, hl, hw⟩ := hw
  rcases hq with hq | hq
  · exact h1.run pins s σ H v u Q I r ⟨a, xs, e1, by rw [hK]; exact hq, hl, hw⟩
  · exact h2.run pins s σ H v u Q I r ⟨a, xs, e1, by rw [hK]; exact hq, hl, hw⟩
/-- target = value -/
def sAsg (t : Tg) (a : E) : Sm := fun env st => (a env st).out env fun d s => match Tg.sem s t d env with
  | some e => .nx e s
  | none => .bad
theorem asg_fin {K : Ends} {t : Tg} {fe : E} (h : tS G W (sAsg t fe) K σ H) : tE G W fe σ H fun v H1 => Tg.tg G.K t v σ H1 K.nx :=
  tX_mono (tX_out (k := fun env d s => match Tg.sem s t d env with
  | some e => .nx e s
  | none => .bad) h) fun v H1 ⟨ms, st, env, d, S, r, r1, k⟩ => by
    split at k
    · rename_i e he
      obtain ⟨σ', a, b, _⟩ := Tg.ok S t d env e v σ he r1 r
      exact b _ (k σ' ms H1 Gr.refl S a)
    · exact k.elim
theorem s_asg {tg e : Expr} {pos : Pos} {t : Tg} {fe : E} (he : PE X e (tE G W fe)) (hg : PG X tg (Tg.tg G.K t)) (hs : swapsWithSole [tg] e pos.line X.env = pure false := by rfl) (hw : swappedStores [tg] e X.env = pure none := by rfl)
    (h1 : (assignEach [tg] X.env).map (·.2) = [assign tg X.env] := by rfl) : PS X (.Assign [tg] e pos) (tS G W (sAsg t fe)) :=
  PS_weak (ps_asg he hg hs hw h1) fun K σ H h => asg_fin h
theorem s_set {i : Nat} {x : Str} {e : Expr} {fe : E} {pos pos' : Pos} (hN : X.N.Nodup) (he : PE X e (tE G W fe)) (hi : X.N[i]? = some x := by rfl) (hx : Loc X.env.scope x := by first | exact Or.inl rfl | exact Or.inr rfl) (hs : swapsWith e (some (.Name x pos')) pos.line X.env = pure false := by rfl)
    (hf : X.fn x = true ∨ X.env.scope.names.lookup x = some .local := by first | exact .inl rfl | exact .inr rfl) : PS X (.Assign [.Name x pos'] e pos) (tS G W (sAsg (.name i) fe)) :=
  PS_weak (ps_set hN hi hx he hs hf) fun K σ H h => by
    have q := asg_fin h
    simp only [Tg.tg] at q
    exact q
/-- x, y = a, b: two local names -/
def sPar (i j : Nat) (a b : E) : Sm := fun env st => (eArgs [a, b] env st).out env fun ds s => match ds with
  | [x, y] => .nx ((env.set i (some x)).set j (some y)) s
  | _ => .bad
theorem s_par {i j : Nat} {x y : Str} {a b : Expr} {fa fb : E} {px py pt : Pos} {kt k2 pt2} {pos : Pos} (hc : X.calm = true) (hN : X.N.Nodup) (ha : PA X [a, b] (tA G W (eArgs [fa, fb]))) (hi : X.N[i]? = some x := by rfl) (hj : X.N[j]? = some y := by rfl) (hij : i ≠ j := by decide)
    (hx : X.env.scope.names.lookup x = some .local := by rfl) (hy : X.env.scope.names.lookup y = some .local := by rfl)
    (hw : swappedStores [.Tuple [.Name x px, .Name y py] kt pt] (.Tuple [a, b] k2 pt2) X.env = pure (some [x, y]) := by rfl)
    (hs : swapsWithSole [.Tuple [.Name x px, .Name y py] kt pt] (.Tuple [a, b] k2 pt2) pos.line X.env = pure false := by rfl) :
    PS X (.Assign [.Tuple [.Name x px, .Name y py] kt pt] (.Tuple [a, b] k2 pt2) pos) (tS G W (sPar i j fa fb)) :=
  PS_weak (ps_par hc hN hi hj hij hx hy ha hw hs) fun K σ H h => tX_mono (tX_out (R := RVs G) (k := fun env ds s => match ds with
  | [x, y] => .nx ((env.set i (some x)).set j (some y)) s
  | _ => .bad) h) fun vs H1 ⟨ms, st, env, ds, S, r, r1, k⟩ => by
    split at k
    · obtain ⟨v, u, rfl, rv, ru⟩ := r1.two'
      exact ⟨v, u, rfl, k _ ms H1 Gr.refl S (RE.set ru j (RE.set rv i r))⟩
    · exact k.elim
/-- o[i] = e, o a list -/
def opSet (o i d : D) : O Unit := fun st => match o, i with
  | .ref r, .int z => match st[r]? with
    | some (.lst ds) => match ixN ds.length z with
      | some j => some ((), st.set r (.lst (ds.set j d)))
      | none => none
    | _ => none
  | _, _ => none
def sSetIx (o i e : E) : Sm := fun env st => (e env st).out env fun d s => (o env s).out env fun x s => (i env s).out env fun y s => match opSet x y d s with
  | some (_, s) => .nx env s
  | none => .bad
theorem s_setIx {o i e : Expr} {fo fi fe : E} {pos p2 : Pos} (he : PE X e (tE G W fe)) (ho : PE X o (tE G W fo)) (hi : PE X i (tE G W fi))
    (ha : ∀ v, assign (.Subscript o i p2) X.env v = (do
      let ov ← holding [v] (eval o X.env)
      let iv ← holding [v, ov] (eval i X.env)
      standAt p2
      holding [v, ov, iv] (setItem ov iv v)
      release [v, ov, iv] []) := by intro _; rfl) (hs : swapsWithSole [.Subscript o i p2] e pos.line X.env = pure false := by rfl) (hw : swappedStores [.Subscript o i p2] e X.env = pure none := by rfl)
    (h1 : (assignEach [.Subscript o i p2] X.env).map (·.2) = [assign (.Subscript o i p2) X.env] := by rfl) : PS X (.Assign [.Subscript o i p2] e pos) (tS G W (sSetIx fo fi fe)) :=
  PS_weak (ps_asg he (pg_sub ho hi set_list ha) hs hw h1) fun K σ H h => by
    refine tX_mono (tX_out (k := fun env d s => (fo env s).out env fun x s => (fi env s).out env fun y s => match opSet x y d s with
      | some (_, s) => .nx env s
      | none => .bad) h) fun v H1 ⟨ms, st, env, d, S, r, r1, k⟩ => ?_
    have q : tE G W fo σ H1 fun x H2 => ∃ ms st env d x', SRel G ms st H2 ∧ RE G ms H2 env σ ∧ RV G ms H2 d v ∧ RV G ms H2 x' x ∧ OutOk G W K ms H2 ((fi env st).out env fun y s => match opSet x' y d s with
        | some (_, s) => .nx env s
        | none => .bad) := by
      refine ⟨ms, st, env, S, r, ?_⟩
      cases e1 : fo env st with
      | ok x s =>
        rw [e1] at k
        exact fun b m1 H2 g1 S1 r2 => ⟨m1, s, env, d, x, S1, r.gr g1, RV.gr g1 _ _ r1, r2, OutOk.gr g1 k⟩
      | exn c fs s =>
        rw [e1] at k
        exact fun od m1 H2 g1 S1 x1 => k od σ m1 H2 g1 S1 (r.gr g1) x1
      | bad =>
        rw [e1] at k
        exact k
    refine tX_mono q fun x H2 ⟨ms, st, env, d, x', S, r, r1, r2, k⟩ => ?_
    have q : tE G W fi σ H2 fun y H3 => ∃ ms st env d x' y', SRel G ms st H3 ∧ RE G ms H3 env σ ∧ RV G ms H3 d v ∧ RV G ms H3 x' x ∧ RV G ms H3 y' y ∧ OutOk G W K ms H3 (match opSet x' y' d st with
        | some (_, s) => .nx env s
        | none => .bad) := by
      refine ⟨ms, st, env, S, r, ?_⟩
      cases e1 : fi env st with
      | ok y s =>
        rw [e1] at k
        exact fun b m1 H3 g1 S1 r3 => ⟨m1, s, env, d, x', y, S1, r.gr g1, RV.gr g1 _ _ r1, RV.gr g1 _ _ r2, r3, OutOk.gr g1 k⟩
      | exn c fs s =>
        rw [e1] at k
        exact fun od m1 H2 g1 S1 x1 => k od σ m1 H2 g1 S1 (r.gr g1) x1
      | bad =>
        rw [e1] at k
        exact k
    refine tX_mono q fun y H3 ⟨ms, st, env, d, x', y', S, r, r1, r2, r3, k⟩ => ?_
    split at k
    · rename_i s e
      unfold opSet at e
      split at e
      · simp only [RV] at r3
        subst r3
        split at e
        · rename_i ds e2
          obtain ⟨a, vs, rfl, ha, h1, h2⟩ := S.ref e2 r2
          split at e
          · rename_i j e3
            cases e
            obtain ⟨c, _, hc⟩ := S.has ha
            have g : Gr ms H3 ms (upd H3 a (.lst (vs.set j v))) := Gr.cell hc
            exact ⟨a, vs, _, j, rfl, rfl, h1, by rw [h2.length]; exact e3, k σ ms _ g (S.put ha ⟨_, upd_same, RVs.gr g _ _ (h2.set j r1)⟩) (r.gr g)⟩
          · cases e
        · cases e
      · cases e
    · exact k.elim
/-- o.f = e -/
def opSetF (P : Nat → Bool) (f : String) (o d : D) : O Unit := fun st => match o with
  | .ref r => match st[r]? with
    | some (.ins c fs) => if P c = true ∧ fs.length < 1000 then some ((), st.set r (.ins c (putD f d fs))) else none
    | _ => none
  | _ => none
def sSetF (P : Nat → Bool) (f : String) (o e : E) : Sm := fun env st => (e env st).out env fun d s => (o env s).out env fun x s => match opSetF P f x d s with
  | some (_, s) => .nx env s
  | none => .bad
theorem s_setF {o e : Expr} {fo fe : E} {P : Nat → Bool} {f : String} {fS : Str} {pos p2 : Pos} (hK : X.K = G.K) (hP : ∀ c, P c = true → Cls G.K (G.tb c) ∧ NoAttr G.K (G.tb c) fS) (hf : fS = Str.ofString f) (he : PE X e (tE G W fe)) (ho : PE X o (tE G W fo))
    (hs : swapsWith e (some (.Attribute o fS p2)) pos.line X.env = pure false := by rfl) : PS X (.Assign [.Attribute o fS p2] e pos) (tS G W (sSetF P f fo fe)) :=
  PS_weak (ps_fld ho he hs) fun K σ H h => by
    refine tX_mono (tX_out (k := fun env d s => (fo env s).out env fun x s => match opSetF P f x d s with
      | some (_, s) => .nx env s
      | none => .bad) h) fun v H1 ⟨ms, st, env, d, S, r, r1, k⟩ => ?_
    have q : tE G W fo σ H1 fun x H2 => ∃ ms st env d x', SRel G ms st H2 ∧ RE G ms H2 env σ ∧ RV G ms H2 d v ∧ RV G ms H2 x' x ∧ OutOk G W K ms H2 (match opSetF P f x' d st with
        | some (_, s) => .nx env s
        | none => .bad) := by
      refine ⟨ms, st, env, S, r, ?_⟩
      cases e1 : fo env st with
      | ok x s =>
        rw [e1] at k
        exact fun b m1 H2 g1 S1 r2 => ⟨m1, s, env, d, x, S1, r.gr g1, RV.gr g1 _ _ r1, r2, OutOk.gr g1 k⟩
      | exn c fs s =>
        rw [e1] at k
        exact fun od m1 H2 g1 S1 x1 => k od σ m1 H2 g1 S1 (r.gr g1) x1
      | bad =>
        rw [e1] at k
        exact k
    refine tX_mono q fun x H2 ⟨ms, st, env, d, x', S, r, r1, r2, k⟩ => ?_
    split at k
    · rename_i s e
      unfold opSetF at e
      split at e
      · split at e
        · rename_i c gs e2
          obtain ⟨a, dx, hs, rfl, ha, h1, h2⟩ := S.ins e2 r2
          split at e
          · rename_i hc
            cases e
            obtain ⟨c', _, hc'⟩ := S.has ha
            have g : Gr ms H2 ms (upd H2 a (.ins (G.tb c) dx (putF (Str.ofString f) v hs))) := Gr.cell hc'
            obtain ⟨p1, p2⟩ := hP c hc.1
            refine ⟨a, _, dx, hs, rfl, h1, by rw [hK]; exact p1, by rw [hK]; exact p2, by rw [h2.len]; exact hc.2, ?_⟩
            rw [hf]
            exact k σ ms _ g (S.put ha ⟨dx, _, upd_same, RF.gr g (h2.put r1)⟩) (r.gr g)
          · cases e
        · cases e
      · cases e
    · exact k.elim
/-- x += e, ints -/
def sAugI (f : Int → Int → Int) (i : Nat) (e : E) : Sm := fun env st => match env[i]? with
  | some (some (.int a)) => (e env st).out env fun d s => match d with
    | .int b => .nx (env.set i (some (.int (f a b)))) s
    | _ => .bad
  | _ => .bad
theorem s_augI {f : Int → Int → Int} {i : Nat} {x : Str} {e : Expr} {fe : E} {op : Operator} {pos pos' : Pos} (ho : PIp X op (ipI f)) (hN : X.N.Nodup) (he : PE X e (tE G W fe)) (hi : X.N[i]? = some x := by rfl) (hx : Loc X.env.scope x := by first | exact Or.inl rfl | exact Or.inr rfl)
    (hf : X.fn x = true ∨ X.env.scope.names.lookup x = some .local := by first | exact .inl rfl | exact .inr rfl) : PS X (.AugAssign (.Name x pos') op e pos) (tS G W (sAugI f i fe)) :=
  PS_weak (ps_aug hN hi hx he ho hf) fun K σ H ⟨ms, st, env, S, r, k⟩ => by
    unfold sAugI at k
    split at k
    · rename_i a ea
      obtain ⟨v, h1, h2⟩ := r.at ea
      simp only [RV] at h2
      subst h2
      have q : tS G W (fun env st => (fe env st).out env fun d s => match d with
        | .int b => .nx (env.set i (some (.int (f a b)))) s
        | _ => .bad) K σ H := ⟨ms, st, env, S, r, k⟩
      refine ⟨_, h1, tX_mono (tX_out (k := fun env d s => match d with
        | .int b => .nx (env.set i (some (.int (f a b)))) s
        | _ => .bad) q) fun v H1 ⟨ms, st, env, d, S, r, r1, k⟩ => ?_⟩
      split at k
      · simp only [RV] at r1
        subst r1
        exact ⟨_, _, rfl, rfl, k _ ms H1 Gr.refl S (RE.set (by simp only [RV]) i r)⟩
      · exact k.elim
    · exact k.elim
end
end LF

set_option Elab.async false
set_option linter.all false
set_option maxRecDepth 100000
set_option maxHeartbeats 4000000
/-! The layer: loops, comprehensions, defs. -/
namespace LF
open PySem PySem.Spec PyProof.Rows L2
section
variable {G : Gx} {W : WX} {X : Cx} {σ : L2.St} {H : Hp}
/-! ### what is walked: the items, and the list that must stay as it is -/
structure Its where
  items : List D
  chk : Option (Nat × List D)
def Its.okB (t : Its) (st : Sto) : Prop := ∀ i ds, t.chk = some (i, ds) → st[i]? = some (.lst ds)
def RIt (G : Gx) (ms : List Addr) (H : Hp) (p : Its) (J : It) : Prop := ∀ (i : Nat) ms' H' st', Gr ms H ms' H' → SRel G ms' st' H' → p.okB st' →
  (i < p.items.length → J.go i H' ∧ ∀ x H2, J.yld i H' x H2 → ∃ d, p.items[i]? = some d ∧ Gr ms' H' ms' H2 ∧ SRel G ms' st' H2 ∧ RV G ms' H2 d x) ∧ (p.items.length ≤ i → J.stop i H')
abbrev tI (G : Gx) (W : WX) (f : Sl → M Its) : TI := tX (RIt G) G W f
theorem PI_weak {tg e : Expr} {t t' : TI} (h : PI X tg e t) (k : ∀ σ H R, t' σ H R → t σ H R) : PI X tg e t' := ⟨fun pins s σ H R I q => h.run pins s σ H R I (k σ H R q)⟩
/-- a list or a tuple -/
def iSeq (K : PySem.W.Frag) (tl : TE) : TI := fun σ H R => tl σ H fun x H1 => ∃ a, x = .ref a ∧ (((∃ xs, SqL K H1 a xs) ∧ R (Itl K a) H1) ∨ ((∃ xs, SqT K H1 a xs) ∧ R (Itt K a) H1))
theorem pi_seq {tg l : Expr} {tl : TE} (hl : PE X l tl) : PI X tg l (iSeq X.K tl) := by
  refine ⟨fun pins s σ H R I h => ?_⟩
  refine thn (hl.run pins s σ H _ I h) fun v s1 ⟨x, H1, I1, r1, q1⟩ => ?_
  obtain ⟨a, e, q⟩ := q1
  subst e
  cases r1
  rcases q with ⟨⟨xs, hq⟩, q⟩ | ⟨⟨xs, hq⟩, q⟩
  · obtain ⟨its, rv, p, hz⟩ := I1.list hq
    refine wpAny_pyIter_list p.isList ?_
    refine ⟨s1.heap.objs.size, [s1.heap.objs.size], _, _, H1, rfl, I1.kept (t' := s1.toks) fun b o e => Heap.get?_push_of_some _ e, turn_list a _, ⟨_, Heap.get?_push_size _ rfl, rfl, rfl⟩, fun b hb => ?_, q⟩
    have e : b = s1.heap.objs.size := by simpa using hb
    subst e
    exact I1.fpOk (Nat.le_refl _) (I1.hok.fresh (Nat.le_refl _))
  · obtain ⟨its, rv, p, hz⟩ := I1.tuple hq
    refine wpAny_pyIter_tuple (show s1.heap.IsTuple a its.toArray from p) ?_
    refine ⟨s1.heap.objs.size, [s1.heap.objs.size], _, _, H1, rfl, I1.kept (t' := s1.toks) fun b o e => Heap.get?_push_of_some _ e, turn_tuple a _, ⟨_, Heap.get?_push_size _ rfl, rfl, rfl⟩, fun b hb => ?_, q⟩
    have e : b = s1.heap.objs.size := by simpa using hb
    subst e
    exact I1.fpOk (Nat.le_refl _) (I1.hok.fresh (Nat.le_refl _))
def iterOf (d : D) (s : Sto) : Option Its := match d with
  | .tup ds => some ⟨ds, none⟩
  | .ref i => match s[i]? with
    | some (.lst ds) => some ⟨ds, some (i, ds)⟩
    | _ => none
  | .scr ns => some ⟨ns.map D.int, none⟩
  | _ => none
def iS (a : E) : Sl → M Its := fun env st => (a env st).bind fun d s => match iterOf d s with
  | some t => .ok t s
  | none => .bad
theorem Gr.sqT' {ms ms' : List Addr} {H' : Hp} {K : PySem.W.Frag} {a : Addr} {xs : List V} (g : Gr ms H ms' H') (h : SqU K H a xs) : SqT K H' a xs := (g.sqT h).t
theorem it_list {K : PySem.W.Frag} {H : Hp} {a : Addr} {vs : List V} {i : Nat} (h : SqL K H a vs) : (i < vs.length → (Itl K a).go i H ∧ ∀ x H2, (Itl K a).yld i H x H2 → H2 = H ∧ vs[i]? = some x) ∧ (vs.length ≤ i → (Itl K a).stop i H) :=
  ⟨fun hi => ⟨⟨vs, vs[i], h, by simp [hi]⟩, fun x H2 y => ⟨y.1, y.2 vs h⟩⟩, fun hi => ⟨vs, h, hi⟩⟩
theorem it_tup {K : PySem.W.Frag} {H : Hp} {a : Addr} {vs : List V} {i : Nat} (h : SqT K H a vs) : (i < vs.length → (Itt K a).go i H ∧ ∀ x H2, (Itt K a).yld i H x H2 → H2 = H ∧ vs[i]? = some x) ∧ (vs.length ≤ i → (Itt K a).stop i H) :=
  ⟨fun hi => ⟨⟨vs, vs[i], h, by simp [hi]⟩, fun x H2 y => ⟨y.1, y.2 vs h⟩⟩, fun hi => ⟨vs, h, hi⟩⟩
theorem RIt.of_seq {ms : List Addr} {p : Its} {J : It} (h : ∀ (i : Nat) ms' H' st', Gr ms H ms' H' → SRel G ms' st' H' → p.okB st' → ∃ vs, RVs G ms' H' p.items vs ∧ ((i < vs.length → J.go i H' ∧ ∀ x H2, J.yld i H' x H2 → H2 = H' ∧ vs[i]? = some x) ∧ (vs.length ≤ i → J.stop i H'))) : RIt G ms H p J := fun i ms' H' st' g S ok => by
  obtain ⟨vs, r, h1, h2⟩ := h i ms' H' st' g S ok
  refine ⟨fun hi => ?_, fun hi => h2 (by rw [r.length]; exact hi)⟩
  obtain ⟨h3, h4⟩ := h1 (by rw [r.length]; exact hi)
  refine ⟨h3, fun x H2 y => ?_⟩
  obtain ⟨rfl, e⟩ := h4 x H2 y
  obtain ⟨d, e2, r2⟩ := r.back e
  exact ⟨d, e2, Gr.refl, S, r2⟩
theorem i_seq {tg e : Expr} {fe : E} (hK : X.K = G.K) (he : PE X e (tE G W fe)) : PI X tg e (tI G W (iS fe)) := PI_weak (pi_seq he) fun σ H R h => tX_mono (tX_bind h) fun v H1 ⟨ms, st, env, d, S, r, r1, k⟩ => by
  rw [hK]
  cases d with
  | tup ds =>
    have r0 := r1
    simp only [RV] at r1
    obtain ⟨a, vs, rfl, h1, h2⟩ := r1
    refine ⟨a, rfl, .inr ⟨⟨vs, h1.t⟩, k _ ms H1 Gr.refl S (RIt.of_seq fun i ms' H' st' g S' ok => ⟨vs, RVs.gr g _ _ h2, it_tup (g.sqT' h1)⟩)⟩⟩
  | ref i =>
    simp only [iterOf] at k
    split at k
    · rename_i t e
      split at e
      · rename_i ds e1
        cases e
        obtain ⟨a, vs, rfl, ha, h1, h2⟩ := S.ref e1 r1
        refine ⟨a, rfl, .inl ⟨⟨vs, SqL.of h1⟩, k _ ms H1 Gr.refl S (RIt.of_seq fun j ms' H' st' g S' ok => ?_)⟩⟩
        obtain ⟨b, us, hb, h3, h4⟩ := S'.lst (ok i ds rfl)
        rw [g.at ha] at hb
        cases hb
        exact ⟨us, h4, it_list (SqL.of h3)⟩
      · cases e
    · exact k.elim
  | scr ns =>
    simp only [RV] at r1
    obtain ⟨a, rfl, h1⟩ := r1
    refine ⟨a, rfl, .inl ⟨⟨_, h1.l⟩, k _ ms H1 Gr.refl S (RIt.of_seq fun i ms' H' st' g S' ok => ⟨_, RVs.ints ns, it_list (g.sqS h1).l⟩)⟩⟩
  | non => exact k.elim
  | bl _ => exact k.elim
  | int _ => exact k.elim
  | str _ => exact k.elim
  | glo _ => exact k.elim
  | ty _ => exact k.elim
  | xc => exact k.elim
/-- range -/
def rngI (lo : Int) (n : Nat) : List D := (List.range n).map fun i : Nat => D.int (lo + (i : Int))
theorem RIt.rng {ms : List Addr} {lo : Int} {n : Nat} : RIt G ms H ⟨rngI lo n, none⟩ (Itr lo n) := fun i ms' H' st' g S ok => by
  have hl : (rngI lo n).length = n := by simp [rngI]
  refine ⟨fun hi => ?_, fun hi => ?_⟩
  · have hi' : i < n := by rw [← hl]; exact hi
    refine ⟨hi', fun x H2 y => ?_⟩
    obtain ⟨rfl, rfl⟩ := y
    exact ⟨.int (lo + i), by simp [rngI, hi'], Gr.refl, S, by simp only [RV]⟩
  · show n ≤ i
    rw [← hl]
    exact hi
def iR1 (a : E) : Sl → M Its := fun env st => (eArgs [a] env st).bind fun ds s => match ds with
  | [.int j] => if -(2 ^ 62) ≤ j ∧ j < 2 ^ 62 then .ok ⟨rngI 0 j.toNat, none⟩ s else .bad
  | _ => .bad
def iR2 (a b : E) : Sl → M Its := fun env st => (eArgs [a, b] env st).bind fun ds s => match ds with
  | [.int i, .int j] => if -(2 ^ 62) ≤ i ∧ i < 2 ^ 62 ∧ -(2 ^ 62) ≤ j ∧ j < 2 ^ 62 then .ok ⟨rngI i (j - i).toNat, none⟩ s else .bad
  | _ => .bad
theorem i_range1 {tg a : Expr} {p pos : Pos} {fa : E} (hm : X.mg "range" = none) (ha : PA X [a] (tA G W (eArgs [fa]))) (hg : Gl X "range" := by rfl) (hs : starEach [a] X.env = [(false, eval a X.env)] := by rfl) : PI X tg (.Call (.Name "range" p) [a] [] pos) (tI G W (iR1 fa)) :=
  PI_weak (pi_range1 hg hm ha hs) fun σ H R h => tX_mono (tX_bind h) fun vs H1 ⟨ms, st, env, ds, S, r, r1, k⟩ => by
    split at k
    · obtain ⟨v, rfl, rv⟩ := r1.one'
      simp only [RV] at rv
      subst rv
      split at k
      · rename_i hj
        exact ⟨_, rfl, hj.1, hj.2, k _ ms H1 Gr.refl S RIt.rng⟩
      · exact k.elim
    · exact k.elim
theorem i_range2 {tg a b : Expr} {p pos : Pos} {fa fb : E} (hm : X.mg "range" = none) (ha : PA X [a, b] (tA G W (eArgs [fa, fb]))) (hg : Gl X "range" := by rfl) (hs : starEach [a, b] X.env = [(false, eval a X.env), (false, eval b X.env)] := by rfl) (hs2 : starEach [b] X.env = [(false, eval b X.env)] := by rfl) : PI X tg (.Call (.Name "range" p) [a, b] [] pos) (tI G W (iR2 fa fb)) :=
  PI_weak (pi_range2 hg hm ha hs hs2) fun σ H R h => tX_mono (tX_bind h) fun vs H1 ⟨ms, st, env, ds, S, r, r1, k⟩ => by
    split at k
    · obtain ⟨v, u, rfl, rv, ru⟩ := r1.two'
      simp only [RV] at rv ru
      subst rv ru
      split at k
      · rename_i hj
        exact ⟨_, _, rfl, hj, k _ ms H1 Gr.refl S RIt.rng⟩
      · exact k.elim
    · exact k.elim
def rngC (lo c : Int) (n : Nat) : List D := (List.range n).map fun i : Nat => D.int (lo + (i : Int) * c)
theorem RIt.rngc {ms : List Addr} {lo c : Int} {n : Nat} : RIt G ms H ⟨rngC lo c n, none⟩ (Itc lo c n) := fun i ms' H' st' g S ok => by
  have hl : (rngC lo c n).length = n := by simp [rngC]
  refine ⟨fun hi => ?_, fun hi => ?_⟩
  · have hi' : i < n := by rw [← hl]; exact hi
    refine ⟨hi', fun x H2 y => ?_⟩
    obtain ⟨rfl, rfl⟩ := y
    exact ⟨.int (lo + i * c), by simp [rngC, hi'], Gr.refl, S, by simp only [RV]⟩
  · show n ≤ i
    rw [← hl]
    exact hi
open Classical in
noncomputable def iR3 (a b c : E) : Sl → M Its := fun env st => (eArgs [a, b, c] env st).bind fun ds s => match ds with
  | [.int i, .int j, .int c] => if h : ∃ n, RgC i j c n then .ok ⟨rngC i c h.choose, none⟩ s else .bad
  | _ => .bad
theorem i_range3 {tg a b c : Expr} {p pos : Pos} {fa fb fc : E} (hm : X.mg "range" = none) (ha : PA X [a, b, c] (tA G W (eArgs [fa, fb, fc]))) (hg : Gl X "range" := by rfl) (hs : starEach [a, b, c] X.env = (false, eval a X.env) :: starEach [b, c] X.env := by rfl) (hpl : (backTo pos (starEach [b, c] X.env)).any (·.1) = false := by rfl) : PI X tg (.Call (.Name "range" p) [a, b, c] [] pos) (tI G W (iR3 fa fb fc)) :=
  PI_weak (pi_range3 hg hm ha hs hpl) fun σ H R h => tX_mono (tX_bind h) fun vs H1 ⟨ms, st, env, ds, S, r, r1, k⟩ => by
    split at k
    · simp only [RVs] at r1
      obtain ⟨v, _, rfl, rv, u, _, rfl, ru, w, _, rfl, rw', rfl⟩ := r1
      simp only [RV] at rv ru rw'
      subst rv ru rw'
      split at k
      · rename_i hj
        exact ⟨_, _, _, _, rfl, hj.choose_spec, k _ ms H1 Gr.refl S RIt.rngc⟩
      · exact k.elim
    · exact k.elim
/-- enumerate(xs) of a list -/
def enumI (ds : List D) : List D := ds.zipIdx.map fun p => .tup [.int (p.2 : Int), p.1]
def iEn (a : E) : Sl → M Its := fun env st => (eArgs [a] env st).bind fun ds s => match ds with
  | [.ref i] => match s[i]? with
    | some (.lst ds) => .ok ⟨enumI ds, some (i, ds)⟩ s
    | _ => .bad
  | _ => .bad
theorem i_enum {e : Expr} {p pos tpos : Pos} {elts : List Expr} {kk : Nat} {fe : E} (hK : X.K = G.K) (hm : X.mg "enumerate" = none) (ha : PA X [e] (tA G W (eArgs [fe]))) (hg : Gl X "enumerate" := by rfl) (hs : starEach [e] X.env = [(false, eval e X.env)] := by rfl) :
    PI X (.Tuple elts kk tpos) (.Call (.Name "enumerate" p) [e] [] pos) (tI G W (iEn fe)) :=
  PI_weak (pi_enum hg hm ha hs) fun σ H R h => tX_mono (tX_bind h) fun vs H1 ⟨ms, st, env, ds, S, r, r1, k⟩ => by
    rw [hK]
    split at k
    · rename_i i
      obtain ⟨v, rfl, rv⟩ := r1.one'
      split at k
      · rename_i ds e1
        obtain ⟨a, vs, rfl, ha, h1, h2⟩ := S.ref e1 rv
        refine ⟨a, vs, rfl, SqL.of h1, k _ ms H1 Gr.refl S fun j ms' H' st' g S' ok => ?_⟩
        obtain ⟨b, us, hb, h3, h4⟩ := S'.lst (ok i ds rfl)
        rw [g.at ha] at hb
        cases hb
        have hl : (enumI ds).length = ds.length := by simp [enumI]
        have hul := h4.length
        refine ⟨fun hj => ?_, fun hj => ⟨us, SqL.of h3, by
          have hj : (enumI ds).length ≤ j := hj
          omega⟩⟩
        have hj : j < (enumI ds).length := hj
        have hj' : j < us.length := by omega
        refine ⟨⟨us, us[j], SqL.of h3, by simp [hj']⟩, fun x H2 y => ?_⟩
        obtain ⟨T, w, rfl, hT, rfl, hw⟩ := y
        have e5 := hw us (SqL.of h3)
        obtain ⟨d, e6, r6⟩ := h4.back e5
        refine ⟨.tup [.int (j : Int), d], by simp [enumI, e6], Gr.new0 hT, S'.lay hT, ?_⟩
        simp only [RV]
        refine ⟨T, _, rfl, .inl upd_same, ?_⟩
        simp only [RVs]
        exact ⟨_, _, rfl, by simp only [RV], _, _, rfl, RV.gr (Gr.new0 hT) _ _ r6, rfl⟩
      · exact k.elim
    · exact k.elim

/-! ### for -/
open Classical in
noncomputable def forS (p : Its) (t : Tg) (body : Sm) : List D → Sm
  | [] => fun env st => if p.okB st then .nx env st else .bad
  | d :: ds => fun env st => if p.okB st then match Tg.sem st t d env with
      | some e => match body e st with
        | .nx e s => forS p t body ds e s
        | .ct e s => forS p t body ds e s
        | .bk e s => .nx e s
        | r => r
      | none => .bad
    else .bad
noncomputable def sFor (it : Sl → M Its) (t : Tg) (body : Sm) : Sm := fun env st => (it env st).out env fun p s => forS p t body p.items env s
theorem s_for {iter tgt : Expr} {body : List Stmt} {it : Sl → M Its} {t : Tg} {fb : Sm} {pos : Pos} (hc : X.calm = true) (hp : PassesOwn (model X.prog X.w) X.A X.env X.xe) (hi : PI X tgt iter (tI G W it)) (hg : PG X tgt (Tg.tg G.K t)) (hb : PSs X body (tS G W fb))
    (hs : ∀ x, foldedSetIterable iter X.env x = pure x := by intro _; rfl) : PS X (.For tgt iter body [] pos) (tS G W (sFor it t fb)) :=
  PS_weak (ps_for hp hc hi hg hb hs) fun K σ H h => tX_mono (tX_out (k := fun env p s => forS p t fb p.items env s) h) fun J H1 ⟨ms, st, env, p, S, r, r1, k⟩ => by
    refine ⟨fun i m σ' H' => ∃ ms' st' env', Gr ms H1 ms' H' ∧ SRel G ms' st' H' ∧ RE G ms' H' env' σ' ∧ i ≤ p.items.length ∧ m = p.items.length - i ∧ OutOk G W K ms' H' (forS p t fb (p.items.drop i) env' st'),
      ⟨p.items.length, ms, st, env, Gr.refl, S, r, Nat.zero_le _, rfl, k⟩, ?_⟩
    rintro i m σ' H' ⟨ms', st', env', g', S', r', hi, rfl, k'⟩
    by_cases hlt : i < p.items.length
    · rw [List.drop_eq_getElem_cons hlt] at k'
      simp only [forS] at k'
      split at k'
      · rename_i ok
        obtain ⟨h1, h2⟩ := (r1 i ms' H' st' g' S' ok).1 hlt
        refine .inr ⟨h1, fun σ2 H2 => ∃ ms2 st2 env2, Gr ms H1 ms2 H2 ∧ SRel G ms2 st2 H2 ∧ RE G ms2 H2 env2 σ2 ∧ OutOk G W K ms2 H2 (forS p t fb (p.items.drop (i + 1)) env2 st2), fun σ2 H2 ⟨ms2, st2, env2, g2, S2, r2, k2⟩ =>
          ⟨p.items.length - (i + 1), by omega, ms2, st2, env2, g2, S2, r2, hlt, rfl, k2⟩, fun x H2 y => ?_⟩
        obtain ⟨d, e1, g2, S2, rx⟩ := h2 x H2 y
        have ed : p.items[i] = d := by
          rw [List.getElem?_eq_getElem hlt] at e1
          exact Option.some.inj e1
        rw [ed] at k'
        split at k'
        · rename_i e he
          obtain ⟨σ2, a, b, _⟩ := Tg.ok S2 t d env' e x σ' he rx (r'.gr g2)
          refine b _ ⟨ms', st', e, S2, a, ?_⟩
          have k' := OutOk.gr g2 k'
          cases e4 : fb e st' with
          | nx e5 s5 =>
            rw [e4] at k'
            exact fun σ5 m5 H5 g5 S5 r5 => ⟨m5, s5, e5, (g'.trans g2).trans g5, S5, r5, OutOk.gr g5 k'⟩
          | ct e5 s5 =>
            rw [e4] at k'
            exact fun σ5 m5 H5 g5 S5 r5 => ⟨m5, s5, e5, (g'.trans g2).trans g5, S5, r5, OutOk.gr g5 k'⟩
          | bk e5 s5 =>
            rw [e4] at k'
            exact k'
          | rt d5 s5 =>
            rw [e4] at k'
            exact k'
          | exn c fs e5 s5 =>
            rw [e4] at k'
            exact k'
          | bad =>
            rw [e4] at k'
            exact k'
        · exact k'.elim
      · exact k'.elim
    · have hn : p.items.drop i = [] := List.drop_eq_nil_of_le (Nat.le_of_not_lt hlt)
      rw [hn] at k'
      simp only [forS] at k'
      split at k'
      · rename_i ok
        exact .inl ⟨(r1 i ms' H' st' g' S' ok).2 (Nat.le_of_not_lt hlt), k' σ' ms' H' Gr.refl S' r'⟩
      · exact k'.elim

/-! ### while -/
def whileN (c : T) (body : Sm) : Nat → Sm
  | 0 => fun _ _ => .bad
  | n + 1 => fun env st => (c env st).out env fun k s => if k = true then match body env s with
      | .nx e s => whileN c body n e s
      | .ct e s => whileN c body n e s
      | .bk e s => .nx e s
      | r => r
    else .nx env s
open Classical in
noncomputable def sWhile (c : T) (body : Sm) : Sm := fun env st => if h : ∃ n, whileN c body n env st ≠ .bad then whileN c body h.choose env st else .bad
theorem s_while {c : Expr} {body : List Stmt} {tc : T} {fb : Sm} {pos : Pos} (hp : PassesOwn (model X.prog X.w) X.A X.env X.xe) (hc : PT X c (tT G W tc)) (hb : PSs X body (tS G W fb)) : PS X (.While c body [] pos) (tS G W (sWhile tc fb)) :=
  PS_weak (ps_while hp hc hb) fun K σ H ⟨ms, st, env, S, r, k⟩ => by
    unfold sWhile at k
    split at k
    · rename_i hn
      refine ⟨fun m σ' H' => ∃ ms' st' env', SRel G ms' st' H' ∧ RE G ms' H' env' σ' ∧ OutOk G W K ms' H' (whileN tc fb m env' st'), ⟨_, ms, st, env, S, r, k⟩, ?_⟩
      rintro m σ' H' ⟨ms', st', env', S', r', k'⟩
      cases m with
      | zero => exact k'.elim
      | succ m =>
        have q : tS G W (fun env st => (tc env st).out env fun k s => if k = true then match fb env s with
            | .nx e s => whileN tc fb m e s
            | .ct e s => whileN tc fb m e s
            | .bk e s => .nx e s
            | r => r
          else .nx env s) K σ' H' := ⟨ms', st', env', S', r', k'⟩
        refine tX_mono (tX_out (k := fun env k s => if k = true then match fb env s with
            | .nx e s => whileN tc fb m e s
            | .ct e s => whileN tc fb m e s
            | .bk e s => .nx e s
            | r => r
          else .nx env s) q) fun b H1 ⟨ms, st, env, b', S, r, r1, k⟩ => ?_
        cases r1
        cases b with
        | true =>
          rw [if_pos rfl]
          have k : OutOk G W K ms H1 (match fb env st with
            | .nx e s => whileN tc fb m e s
            | .ct e s => whileN tc fb m e s
            | .bk e s => .nx e s
            | r => r) := by simpa using k
          refine ⟨fun σ2 H2 => ∃ ms2 st2 env2, SRel G ms2 st2 H2 ∧ RE G ms2 H2 env2 σ2 ∧ OutOk G W K ms2 H2 (whileN tc fb m env2 st2), fun σ2 H2 ⟨ms2, st2, env2, S2, r2, k2⟩ => ⟨m, Nat.lt_succ_self _, ms2, st2, env2, S2, r2, k2⟩, ms, st, env, S, r, ?_⟩
          cases e4 : fb env st with
          | nx e5 s5 =>
            rw [e4] at k
            exact fun σ5 m5 H5 g5 S5 r5 => ⟨m5, s5, e5, S5, r5, OutOk.gr g5 k⟩
          | ct e5 s5 =>
            rw [e4] at k
            exact fun σ5 m5 H5 g5 S5 r5 => ⟨m5, s5, e5, S5, r5, OutOk.gr g5 k⟩
          | bk e5 s5 =>
            rw [e4] at k
            exact k
          | rt d5 s5 =>
            rw [e4] at k
            exact k
          | exn c fs e5 s5 =>
            rw [e4] at k
            exact k
          | bad =>
            rw [e4] at k
            exact k
        | false =>
          rw [if_neg Bool.false_ne_true]
          have k : OutOk G W K ms H1 (.nx env st) := by simpa using k
          exact k _ ms H1 Gr.refl S r
    · exact k.elim

/-! ### list comprehensions -/
def wipeD (e : Sl) : List Nat → Sl
  | [] => e
  | v :: vs => (wipeD e vs).set v none
theorem RE.wipe {ms : List Addr} {e : Sl} {σ : L2.St} (r : RE G ms H e σ) : ∀ vs : List Nat, RE G ms H (wipeD e vs) (L2.wipe σ vs)
  | [] => r
  | v :: vs => by
    unfold wipeD L2.wipe
    exact RE.unset v (RE.wipe r vs)
open Classical in
noncomputable def lcS (p : Its) (vs : List Nat) (t : Tg) (c : T) (e : E) (L : Nat) (env : Sl) : List D → Sto → Option Sto
  | [] => fun st => if p.okB st then some st else none
  | d :: ds => fun st => if p.okB st then match Tg.sem st t d (wipeD env vs) with
      | some e1 => match c e1 st with
        | .ok true s => match e e1 s with
          | .ok y s => match s[L]? with
            | some (.lst acc) => if acc.length < LIM then lcS p vs t c e L env ds (s.set L (.lst (acc ++ [y]))) else none
            | _ => none
          | _ => none
        | .ok false s => lcS p vs t c e L env ds s
        | _ => none
      | none => none
    else none
noncomputable def eLc (vs : List Nat) (it : Sl → M Its) (t : Tg) (c : T) (e : E) : E := fun env st => (it env st).bind fun p s => match lcS p vs t c e s.length env p.items (s ++ [.lst []]) with
  | some s' => .ok (.ref s.length) s'
  | none => .bad
abbrev W0 : WX := fun _ _ _ _ => False
theorem lc_tLc {vs : List Nat} {it : Sl → M Its} {t : Tg} {tc : T} {fe : E} {Q : VK} (hv : ∀ i ∈ Tg.names t, i ∈ vs) (h : tE G W (eLc vs it t tc fe) σ H Q) : tLc (tI G W it) (Tg.tg G.K t) (tT G W0 tc) (tE G W0 fe) vs σ H Q :=
  tX_mono (tX_bind h) fun J H1 ⟨ms, st, env, p, S, r, r1, k⟩ => by
    intro Dl hD
    split at k
    · rename_i sf ef
      have g0 : Gr ms H1 (ms ++ [Dl]) (upd H1 Dl (.lst [])) := Gr.new hD [Dl]
      refine ⟨fun i m H' => ∃ ms' st', Gr (ms ++ [Dl]) (upd H1 Dl (.lst [])) ms' H' ∧ SRel G ms' st' H' ∧ i ≤ p.items.length ∧ m = p.items.length - i ∧ lcS p vs t tc fe st.length env (p.items.drop i) st' = some sf,
        ⟨p.items.length, ms ++ [Dl], st ++ [.lst []], Gr.refl, S.new (c := .lst []) hD ⟨[], upd_same, by simp only [RVs]⟩, Nat.zero_le _, rfl, by rw [List.drop_zero]; exact ef⟩, ?_⟩
      rintro i m H' ⟨ms', st', g', S', hi, rfl, k'⟩
      have hL : ms'[st.length]? = some Dl := g'.at (by rw [← S.len]; simp)
      by_cases hlt : i < p.items.length
      · rw [List.drop_eq_getElem_cons hlt] at k'
        simp only [lcS] at k'
        split at k'
        · rename_i ok
          obtain ⟨h1, h2⟩ := (r1 i ms' H' st' (g0.trans g') S' ok).1 hlt
          refine .inr ⟨h1, fun H2 => ∃ ms2 st2, Gr (ms ++ [Dl]) (upd H1 Dl (.lst [])) ms2 H2 ∧ SRel G ms2 st2 H2 ∧ lcS p vs t tc fe st.length env (p.items.drop (i + 1)) st2 = some sf, fun H2 ⟨ms2, st2, g2, S2, k2⟩ =>
            ⟨p.items.length - (i + 1), by omega, ms2, st2, g2, S2, hlt, rfl, k2⟩, fun x H2 y => ?_⟩
          obtain ⟨d, e1, g2, S2, rx⟩ := h2 x H2 y
          have ed : p.items[i] = d := by
            rw [List.getElem?_eq_getElem hlt] at e1
            exact Option.some.inj e1
          rw [ed] at k'
          split at k'
          · rename_i e he
            have rw1 := (r.gr ((g0.trans g').trans g2)).wipe vs
            obtain ⟨σ2, a, b, cw⟩ := Tg.ok S2 t d _ e x _ he rx rw1
            refine b _ ⟨?_, ms', st', e, S2, a, ?_⟩
            · rw [cw vs hv]
              have ww : ∀ (l : List Nat) (τ : L2.St), L2.wipe (L2.wipe τ l) l = L2.wipe τ l := by
                intro l
                induction l with
                | nil => intro τ; rfl
                | cons w l ih =>
                  intro τ
                  show (L2.wipe ((L2.wipe τ l).set w none) l).set w none = (L2.wipe τ l).set w none
                  by_cases hw : w ∈ l
                  · rw [wipe_set hw, ih]
                  · have out : ∀ (m : List Nat) (τ : L2.St), w ∉ m → L2.wipe (τ.set w none) m = (L2.wipe τ m).set w none := by
                      intro m
                      induction m with
                      | nil => intro τ _; rfl
                      | cons u m ihm =>
                        intro τ hu
                        simp only [List.mem_cons, not_or] at hu
                        unfold L2.wipe
                        rw [ihm τ hu.2, List.set_comm _ _ hu.1]
                    rw [out l _ hw, List.set_set, ih]
              exact ww vs σ
            · cases e4 : tc e st' with
              | ok b4 s4 =>
                rw [e4] at k'
                intro b5 m5 H5 g5 S5 r5
                cases r5
                cases b4 with
                | true =>
                  rw [if_pos rfl]
                  refine ⟨m5, s4, e, S5, a.gr g5, ?_⟩
                  simp only at k'
                  cases e6 : fe e s4 with
                  | ok y6 s6 =>
                    rw [e6] at k'
                    intro v6 m6 H6 g6 S6 r6
                    simp only at k'
                    split at k'
                    · rename_i acc ea
                      split at k'
                      · rename_i hl
                        have hLL : m6[st.length]? = some Dl := ((g2.trans g5).trans g6).at hL
                        obtain ⟨b7, us, hb7, h7, h8⟩ := S6.lst ea
                        rw [hLL] at hb7
                        cases hb7
                        obtain ⟨c9, _, hc9⟩ := S6.has hLL
                        have g9 : Gr m6 H6 m6 (upd H6 Dl (.lst (us ++ [v6]))) := Gr.cell hc9
                        exact ⟨us, h7, by rw [h8.length]; exact LIM_lt hl, m6, _, (((g'.trans g2).trans g5).trans g6).trans g9, S6.put (c := .lst (acc ++ [y6])) hLL ⟨_, upd_same, RVs.gr g9 _ _ (h8.app (.one r6))⟩, k'⟩
                      · cases k'
                    · cases k'
                  | exn c fs s => rw [e6] at k'; cases k'
                  | bad => rw [e6] at k'; cases k'
                | false =>
                  rw [if_neg Bool.false_ne_true]
                  exact ⟨m5, s4, (g'.trans g2).trans g5, S5, k'⟩
              | exn c fs s => rw [e4] at k'; cases k'
              | bad => rw [e4] at k'; cases k'
          · cases k'
        · cases k'
      · have hn : p.items.drop i = [] := List.drop_eq_nil_of_le (Nat.le_of_not_lt hlt)
        rw [hn] at k'
        simp only [lcS] at k'
        split at k'
        · rename_i ok
          cases k'
          refine .inl ⟨(r1 i ms' H' sf (g0.trans g') S' ok).2 (Nat.le_of_not_lt hlt), k (.ref Dl) ms' H' (g0.trans g') S' ?_⟩
          simp only [RV]
          exact ⟨Dl, rfl, hL⟩
        · cases k'
    · exact k.elim
def tYes' : T := fun _ st => .ok true st
theorem ts_nil : PTs X [] (tT G W tYes') := ⟨fun pins s σ H Q I ⟨ms, st, env, S, _, k⟩ => pts_nil.run pins s σ H Q I (k true ms H Gr.refl S rfl)⟩
theorem ts_one {c : Expr} {tc : T} (h : PT X c (tT G W tc)) : PTs X [c] (tT G W tc) := pts_one h
theorem e_lc {elt tg iter : Expr} {ifs : List Expr} {scope : Scope} {own : List (Str × Nat)} {pos : Pos} {it : Sl → M Its} {t : Tg} {tc : T} {fe : E} (hc : X.calm = true) (hN : X.N.Nodup) (hi : PI X tg iter (tI G W it)) (ok : BlkOk X.N X.env.scope scope own)
    (hg : ∀ (s : Shared) (H : Hp) (C : Addr) (cl : List (Str × Addr)) (fp : List Addr), PG (X.blk s H scope (compEnvC scope cl C X.env) fp) tg (Tg.tg G.K t)) (ht : ∀ (s : Shared) (H : Hp) (C : Addr) (cl : List (Str × Addr)) (fp : List Addr), PTs (X.blk s H scope (compEnvC scope cl C X.env) fp) ifs (tT G W0 tc))
    (he : ∀ (s : Shared) (H : Hp) (C : Addr) (cl : List (Str × Addr)) (fp : List Addr), PE (X.blk s H scope (compEnvC scope cl C X.env) fp) elt (tE G W0 fe)) (hv : ∀ i ∈ Tg.names t, i ∈ own.map (·.2) := by decide) (hs : ∀ x, foldedSetIterable iter X.env x = pure x := by intro _; rfl) :
    PE X (.ListComp elt [⟨tg, iter, ifs, 0⟩] scope pos) (tE G W (eLc (own.map (·.2)) it t tc fe)) :=
  PE_weak (pe_lc hc hN hi ok hg ht he hs) fun σ H Q h => lc_tLc hv h
theorem s_setLc {i : Nat} {y : Str} {py : Pos} {elt tg iter : Expr} {ifs : List Expr} {scope : Scope} {own : List (Str × Nat)} {pos spos : Pos} {it : Sl → M Its} {t : Tg} {tc : T} {fe : E} (hc : X.calm = true) (hN : X.N.Nodup) (hi : PI X tg iter (tI G W it)) (ok : BlkOk X.N X.env.scope scope own)
    (hsw : swapsWith (.ListComp elt [⟨tg, iter, ifs, 0⟩] scope pos) (some (.Name y py)) spos.line X.env = pure true)
    (hg : ∀ (s : Shared) (H : Hp) (C : Addr) (cl : List (Str × Addr)) (fp : List Addr), PG (X.blk s H scope (compEnvC scope cl C X.env) fp) tg (Tg.tg G.K t)) (ht : ∀ (s : Shared) (H : Hp) (C : Addr) (cl : List (Str × Addr)) (fp : List Addr), PTs (X.blk s H scope (compEnvC scope cl C X.env) fp) ifs (tT G W0 tc))
    (he : ∀ (s : Shared) (H : Hp) (C : Addr) (cl : List (Str × Addr)) (fp : List Addr), PE (X.blk s H scope (compEnvC scope cl C X.env) fp) elt (tE G W0 fe)) (hv : ∀ i ∈ Tg.names t, i ∈ own.map (·.2) := by decide) (hy : X.N[i]? = some y := by rfl) (hyl : X.env.scope.names.lookup y = some .local := by rfl) (hs : ∀ x, foldedSetIterable iter X.env x = pure x := by intro _; rfl) :
    PS X (.Assign [.Name y py] (.ListComp elt [⟨tg, iter, ifs, 0⟩] scope pos) spos) (tS G W (sAsg (.name i) (eLc (own.map (·.2)) it t tc fe))) :=
  PS_weak (ps_setLc hc hN hy hyl hsw hi ok hg ht he hs) fun K σ H h => by
    have q := asg_fin h
    simp only [Tg.tg] at q
    exact lc_tLc hv q

/-! ### defs -/
def Out.fin : Out → Res D
  | .nx _ s => .ok .non s
  | .rt d s => .ok d s
  | .exn c fs _ s => .exn c fs s
  | _ => .bad
def fnS (n m : Nat) (body : Sm) : F := fun ds st => if ds.length = n then (body (ds.map some ++ List.replicate (m - n) none) st).fin else .bad
theorem fn_ok {P : Program} {w : World} {mg : Str → Option Value} {base : Heap} {x qual : Str} {st : Stmt} {f : Addr} {fd : FuncData} {N ps : List Str} {k : Nat} {body : Sm} (T : Fun G.K x qual st f fd) (S : FnScope N ps (defScope st))
    (hb : ∀ (cdv : Value) (A : Around) (outer : List Env) (s : Shared) (H : Hp) (E : XK), Room k (A.deeper (envOfC qual (defScope st) s.heap.objs.size f cdv)) →
      PSs (cxOf (L2.CX P w) P w G.K mg base N qual (defScope st) f cdv A outer s H E) (defBody st) (tS G (fun cls d _ H => E cls d H) body)) : FnOk P w G.K mg base (L2.CX P w) (k + 1) f fd ps (spF G (fnS ps.length N.length body)) := by
  have hlen : ∀ vs H Q E, spF G (fnS ps.length N.length body) vs H Q E → vs.length = ps.length := by
    rintro vs H Q E ⟨ms, st, ds, S1, r, q⟩
    unfold fnS at q
    split at q
    · rename_i hl
      rw [r.length, hl]
    · exact q.elim
  refine T.okX S hlen fun cdv A outer s H vs Q E hr h => ⟨_, hb cdv A outer s H E hr, ?_⟩
  have hl := hlen vs H Q E h
  obtain ⟨ms, st1, ds, S1, r, q⟩ := h
  have hl2 : ds.length = ps.length := by rw [← r.length]; exact hl
  unfold fnS at q
  rw [if_pos hl2] at q
  refine ⟨ms, st1, ds.map some ++ List.replicate (N.length - ps.length) none, S1, ?_, ?_⟩
  · unfold L2.start
    rw [hl]
    exact RE.start _ r
  · cases e : body (ds.map some ++ List.replicate (N.length - ps.length) none) st1 with
    | nx e1 s1 =>
      rw [e] at q
      exact fun σ' m1 H1 g1 S1 _ => q .non m1 H1 g1 S1 (by simp only [RV])
    | rt d s1 =>
      rw [e] at q
      exact q
    | exn c fs e1 s1 =>
      rw [e] at q
      exact fun od σ' m1 H1 g1 S1 _ x1 => q od m1 H1 g1 S1 x1
    | bk e1 s1 => rw [e] at q; exact q.elim
    | ct e1 s1 => rw [e] at q; exact q.elim
    | bad => rw [e] at q; exact q.elim
end
end LF

set_option Elab.async false
set_option linter.all false
set_option maxRecDepth 100000
set_option maxHeartbeats 4000000
/-! The layer: == and != by an own __eq__. -/
namespace LF
open PySem PySem.Spec PyProof.Rows L2
section
open PySem.W Builtin
variable {prog : Program} {w : World} {A : Around} {E : Value → Shared → Prop} {s : Shared} {K : PySem.W.Frag} {x C f : Addr} {ox : Obj} {od : Option Obj} {b tb : Value}
theorem objNe_own {Q : Fin → Shared → Prop} (hu : A.units < cLine) (X : K.In s.heap) (I : PySem.W.InstAt s.heap x ox C od) (hs : PySem.W.findIn K (.ref C) "__eq__" = some (some (.ref f))) (hf : PySem.W.isFn K (.ref f) = true)
    (h : wpAny (model prog w) A (call (.ref f) [.ref x, b]) (fun v s' => ∃ k, v = .bool k ∧ Q (.done (.ret (.bool (!k)))) s') E s) : wpAny (model prog w) A (Builtin.«object.__ne__» ⟨[.ref x, b], []⟩) Q E s := by
  unfold Builtin.«object.__ne__»
  repeat (first
    | with_reducible refine wpAny_cRoomFor hu ?_
    | (refine wpAny_bind (m := callSpecialIfBound? (.ref x) (Str.ofString "__eq__") [b])
        (PySem.W.ifBound_K X I hs hf (wpAny_mono h (fun r s' hr => by
          obtain ⟨k, rfl, hq⟩ := hr
          repeat (first | exact hq | exact wpAny_pure hq | exact wpAny_truthy_bool hq | (refine wpAny_bind (m := truthy (.bool _)) (wpAny_truthy_bool ?_)) | wp_step)) fun _ _ e => e)))
    | wp_step)
theorem ifBound_ne {Q : Option Value → Shared → Prop} (X : K.In s.heap) (I : PySem.W.InstAt s.heap x ox C od) (hs : PySem.W.findIn K (.ref C) "__ne__" = some (some (.builtin "object.__ne__")))
    (h : wpAny (model prog w) A (call (.builtin "object.__ne__") (.ref x :: [b])) (fun v => Q (some v)) E s) : wpAny (model prog w) A (callSpecialIfBound? (.ref x) "__ne__" [b]) Q E s := by
  simp only [callSpecialIfBound?, bindSpecialIfBound?]
  refine wpAny_holding (wpAny_bind (wpAny_bind (wpAny_bind (I.type.here ((PySem.W.looks_findIn X hs).here ?_)))))
  refine wpAny_bind (wpAny_askSetting (wpAny_ite ?_))
  have fin : wpAny (model prog w) A (call (.builtin "object.__ne__") ([.ref x] ++ [b]) >>= fun v => pure (some v)) Q E s := wpAny_bind (wpAny_mono h (fun v s' h' => wpAny_pure h') fun _ _ h' => h')
  simp only [F.cmp_object.ne.bind]
  split
  · exact wpAny_bind (wpAny_pure (wpAny_pure fin))
  · exact wpAny_tryCatch (wpAny_bind (wpAny_pure (wpAny_pure fin)))
theorem tryNe_own {Q : Option Value → Shared → Prop} (hu : A.units + 1 < cLine) (X : K.In s.heap) (I : PySem.W.InstAt s.heap x ox C od) (hn : PySem.W.findIn K (.ref C) "__ne__" = some (some (.builtin "object.__ne__"))) (hs : PySem.W.findIn K (.ref C) "__eq__" = some (some (.ref f)))
    (hf : PySem.W.isFn K (.ref f) = true) (hm : PySem.W.mroIn K C (.type "object") = some true)
    (h : wpAny (model prog w) A.in1 (call (.ref f) [.ref x, b]) (fun v s' => ∃ k, v = .bool k ∧ Q (some (.bool (!k))) s') E s) : wpAny (model prog w) A (tryCompare (.ref x) "__ne__" b) Q E s := by
  simp only [tryCompare]
  have sub : PySem.W.Looks (model prog w) s.heap (isInstance (.ref x) (.type "object")) true := I.type.andThen (PySem.W.looks_mroIn X hm)
  refine wpAny_bind (ifBound_ne X I hn (wpAny_call (codeAny_call_builtin F.cmp_object.ne.plain F.cmpEntry_ne
    (@PySem.W.check_slot (model prog w) _ _ s "object.__ne__" "object" "__ne__" (.ref x) [b] [] _ F.cmpKind_ne F.cmpSplit_ne sub (F.cmpArgs_ne _ _)
      (objNe_own (A := A.in1) hu X I hs hf (wpAny_mono h (fun v s' hv => ?_) fun _ _ e => e))))))
  obtain ⟨k, rfl, hq⟩ := hv
  first | exact ⟨k, rfl, wpAny_pure hq⟩ | exact ⟨k, rfl, wpAny_pure (wpAny_pure hq)⟩ | exact ⟨k, rfl, hq⟩
theorem ne_own {Q : Value → Shared → Prop} (hu : A.units + 1 < cLine) (X : K.In s.heap) (I : PySem.W.InstAt s.heap x ox C od) (hb : PySem.W.Looks (model prog w) s.heap (typeOf b) tb) (hnf : PySem.W.notFirst K C tb = true)
    (hn : PySem.W.findIn K (.ref C) "__ne__" = some (some (.builtin "object.__ne__"))) (hs : PySem.W.findIn K (.ref C) "__eq__" = some (some (.ref f))) (hf : PySem.W.isFn K (.ref f) = true) (hm : PySem.W.mroIn K C (.type "object") = some true)
    (h : wpAny (model prog w) A.in1 (call (.ref f) [.ref x, b]) (fun v s' => ∃ k, v = .bool k ∧ Q (.bool (!k)) s') E s) : wpAny (model prog w) A (richCompare .NotEq (.ref x) b) Q E s := by
  have one : wpAny (model prog w) A (tryCompare (.ref x) "__ne__" b) (fun r s' => ∃ v, r = some v ∧ Q v s') E s :=
    tryNe_own hu X I hn hs hf hm (wpAny_mono h (fun v s' ⟨k, e, q⟩ => ⟨k, e, _, rfl, q⟩) fun _ _ e => e)
  unfold richCompare
  simp only [oneThing_ref]
  refine wpAny_holding (wpAny_bind (wpAny_cRoomFor (Nat.lt_of_succ_lt hu) ?_))
  rw [cmpInfo_NotEq]
  dsimp only
  refine wpAny_bind (I.type.here (wpAny_bind (hb.here ?_)))
  split
  · rename_i q
    have e : PySem.W.subIn K tb (.ref C) = some false := by
      rcases Bool.or_eq_true_iff.mp hnf with e | e
      · rw [beq_iff_eq.mp e] at q; simp at q
      · exact beq_iff_eq.mp e
    refine wpAny_bind ((PySem.W.looks_subIn X e).here ?_)
    simp only [Bool.false_eq_true, if_false]
    refine wpAny_bind (wpAny_mono one (fun r s' z => ?_) fun _ _ e => e)
    obtain ⟨v, rfl, hq⟩ := z
    exact wpAny_pure hq
  · refine wpAny_bind (wpAny_pure ?_)
    simp only [Bool.false_eq_true, if_false]
    refine wpAny_bind (wpAny_mono one (fun r s' z => ?_) fun _ _ e => e)
    obtain ⟨v, rfl, hq⟩ := z
    exact wpAny_pure hq
end
section
variable {G : Gx} {W : WX} {X : Cx} {σ : L2.St} {H : Hp}
/-- what is known of a class with an own __eq__, and of the def -/
structure OwnEq (X : Cx) (G : Gx) (c : Nat) (g : F) (k : Nat) : Prop where
  ex : ∃ (f : Addr) (fd : FuncData) (ps : List Str), FnOk X.prog X.w X.K X.mg X.base (L2.CX X.prog X.w) k f fd ps (spF G g) ∧ Binds X.K fd ps [] ∧ PySem.W.findIn X.K (.ref (G.tb c)) "__eq__" = some (some (.ref f)) ∧ PySem.W.isFn X.K (.ref f) = true
  ne : PySem.W.findIn X.K (.ref (G.tb c)) "__ne__" = some (some (.builtin "object.__ne__"))
  mro : PySem.W.mroIn X.K (G.tb c) (.type "object") = some true
/-- x == y, x an instance of the class c, g the own __eq__ -/
def rOwn (G : Gx) (neg : Bool) (c : Nat) (g : F) (ok : Kd → Bool) : R2 := fun v u H Q => ∃ ms st x y i fs k, SRel G ms st H ∧ RV G ms H x v ∧ RV G ms H y u ∧ x = .ref i ∧ st[i]? = some (.ins c fs) ∧ kind y st = some k ∧ ok k = true ∧
  Okk (RV G) G (fun _ _ _ => False) (fun z H' => ∃ b, z = .bl b ∧ Q (.bl (if neg then !b else b)) H') ms H (g [x, y] st)
theorem run_own {k : Nat} {g : F} {pins : List (Addr × Obj)} {s : Shared} {A : Around} {a : Addr} {v2 : V} {u : Value} {Q : VK} {f : Addr} {fd : FuncData} {ps : List Str} (T : FnOk X.prog X.w X.K X.mg X.base (L2.CX X.prog X.w) k f fd ps (spF G g)) (hb : Binds X.K fd ps []) (hr : Room k A) (hfr : A.frames = X.A.frames)
    (I : Inv X pins σ H s) (ru : RelV v2 u) (h : spF G g [.ref a, v2] H Q (fun _ _ _ => False)) : wpAny (model X.prog X.w) A (PySem.call (.ref f) [.ref a, u]) (EP X pins σ Q) X.xe s := by
  have e0 : Env0 X.prog X.w X.K X.mg X.base A X.stack s H := by
    have e := I.env0
    exact ⟨by rw [hfr]; exact e.frames, e.mod, e.bs, e.bsz, e.funs, e.frf, e.hok, e.bare⟩
  have hl := T.len _ _ _ _ h
  have r2 : Vals [V.ref a, v2] [Value.ref a, u] := .cons rfl (.cons ru .nil)
  refine wpAny_call (codeAny_mono (T.run A X.stack s H ⟨[.ref a, u], []⟩ [.ref a, u] [.ref a, v2] _ _ hr e0 (by
    have := hb s [.ref a, u] I.kIn (by simpa using hl)
    simpa using this) r2 h) fun r s' hq => ?_)
  cases r with
  | error e => exact passL pins σ H s e s' I hq
  | ok fl =>
    cases fl with
    | ret w => exact I.after hq
    | next => exact False.elim hq
    | brk => exact False.elim hq
    | cont => exact False.elim hq
theorem own_pre {c : Nat} {g : F} {ok : Kd → Bool} {neg : Bool} {v u : V} {Q : VK} (hK : X.K = G.K) (hok : ∀ k, ok k = true → ∃ t, KdT G k t ∧ PySem.W.notFirst G.K (G.tb c) t = true) {pins : List (Addr × Obj)} {s : Shared} {uv : Value} (I : Inv X pins σ H s) (ru : RelV u uv)
    (h : rOwn G neg c g ok v u H Q) : ∃ (a : Addr) (ox : Obj) (od : Option Obj) (tb : Value), v = .ref a ∧ PySem.W.InstAt s.heap a ox (G.tb c) od ∧ PySem.W.Looks (model X.prog X.w) s.heap (typeOf uv) tb ∧ PySem.W.notFirst X.K (G.tb c) tb = true ∧
      spF G g [.ref a, u] H (fun z H' => ∃ b, z = .bl b ∧ Q (.bl (if neg then !b else b)) H') (fun _ _ _ => False) := by
  obtain ⟨ms, st, x, y, i, fs, k, S, rx, ry, rfl, ei, ek, ho, q⟩ := h
  have rx0 := rx
  obtain ⟨a, dx, gs, rfl, _, h1, _⟩ := S.ins ei rx
  obtain ⟨mA, J, _⟩ := ins_get I.hok h1
  obtain ⟨od, J, _⟩ := J.look
  obtain ⟨t, ht, hn⟩ := hok k ho
  obtain ⟨P, Z, p, _⟩ := kit_of I ru (by rw [hK]; exact kd_ok S ry ek ht)
  exact ⟨a, _, _, t, rfl, J, Z.ty _ _ I.kIn p, by rw [hK]; exact hn, ms, st, [.ref i, y], S, by
    simp only [RVs]
    exact ⟨_, _, rfl, rx0, _, _, rfl, ry, rfl⟩, q⟩
theorem op_own {k c : Nat} {g : F} {ok : Kd → Bool} (hK : X.K = G.K) (T : OwnEq X G c g k) (hr : Room k X.A) (hok : ∀ k, ok k = true → ∃ t, KdT G k t ∧ PySem.W.notFirst G.K (G.tb c) t = true) : OpR X (compareOp .Eq) (rOwn G false c g ok) := by
  intro pins s σ H v u vv uv Q I rv ru h
  obtain ⟨a, ox, od, tb, rfl, J, L, hn, sp⟩ := own_pre hK hok I ru h
  cases rv
  obtain ⟨f, fd, ps, FO, hb, hs, hf⟩ := T.ex
  obtain ⟨m, hF⟩ := I.fr
  show wpAny (model X.prog X.w) X.A (richCompare .Eq (.ref a) uv) (EP X pins σ Q) X.xe s
  refine PySem.W.cmp_K (op := .Eq) hr.units0 hF I.ok.mod.kin J L hn hs hf ?_
  refine wpAny_mono (run_own FO hb hr rfl I ru sp) (fun w s' ⟨z, H', I', rz, b, ez, q⟩ => ?_) fun _ _ e => e
  subst ez
  cases rz
  exact ⟨.bl b, H', I', rfl, q⟩
theorem op_ownN {k c : Nat} {g : F} {ok : Kd → Bool} (hK : X.K = G.K) (T : OwnEq X G c g k) (hr : Room (k + 1) X.A) (hok : ∀ k, ok k = true → ∃ t, KdT G k t ∧ PySem.W.notFirst G.K (G.tb c) t = true) : OpR X (compareOp .NotEq) (rOwn G true c g ok) := by
  intro pins s σ H v u vv uv Q I rv ru h
  obtain ⟨a, ox, od, tb, rfl, J, L, hn, sp⟩ := own_pre hK hok I ru h
  cases rv
  obtain ⟨f, fd, ps, FO, hb, hs, hf⟩ := T.ex
  show wpAny (model X.prog X.w) X.A (richCompare .NotEq (.ref a) uv) (EP X pins σ Q) X.xe s
  have hu := hr.units
  refine ne_own (by omega) I.kIn J L hn T.ne hs hf T.mro ?_
  refine wpAny_mono (run_own (A := X.A.in1) FO hb hr.in1 rfl I ru sp) (fun w s' ⟨z, H', I', rz, b, ez, q⟩ => ?_) fun _ _ e => e
  subst ez
  cases rz
  exact ⟨b, rfl, .bl (!b), H', I', rfl, q⟩
/-- x == y where x may be an instance of the class c with an own __eq__ g -/
def eEqX (neg : Bool) (c : Nat) (g : F) (ok : Kd → Bool) (a b : E) : E := fun env st => (a env st).bind fun x s => (b env s).bind fun y s => match x with
  | .ref i => match s[i]? with
    | some (.ins c' _) => if c' = c then match kind y s with
        | some k => if ok k = true then match g [x, y] s with
            | .ok (.bl r) s => .ok (.bl (if neg then !r else r)) s
            | _ => .bad
          else .bad
        | none => .bad
      else .bad
    | _ => ofO (if neg then opNe x y s else opEq x y s)
  | _ => ofO (if neg then opNe x y s else opEq x y s)
theorem eqx_r {neg : Bool} {c : Nat} {g : F} {ok : Kd → Bool} {fa fb : E} {Q : VK} {r : R2} (hd : ∀ v u H Q, rO G (if neg then opNe else opEq) v u H Q → r v u H Q) (ho : ∀ v u H Q, rOwn G neg c g ok v u H Q → r v u H Q) (h : tE G W (eEqX neg c g ok fa fb) σ H Q) : tOp r (tE G W fa) (tE G W fb) σ H Q := by
  refine tX_mono (tX_bin h) fun v H1 h1 => tX_mono h1 fun u H2 ⟨ms, st, x, y, S, r1, r2, k⟩ => ?_
  have data : Okk (RV G) G (fun c d H => W c d σ H) Q ms H2 (ofO (if neg then opNe x y st else opEq x y st)) → r v u H2 Q := fun k => hd _ _ _ _ ⟨ms, st, x, y, S, r1, r2, by
    cases neg with
    | true => exact k.ofO
    | false => exact k.ofO⟩
  split at k
  · rename_i i
    split at k
    · rename_i c' fs e
      split at k
      · rename_i hc
        subst hc
        split at k
        · rename_i kd ek
          split at k
          · rename_i hk
            refine ho _ _ _ _ ⟨ms, st, .ref i, y, i, fs, kd, S, r1, r2, rfl, e, ek, hk, ?_⟩
            split at k
            · rename_i b s' eg
              rw [eg]
              exact fun z m1 H1 g1 S1 rz => by
                simp only [RV] at rz
                exact ⟨b, rz, k _ m1 H1 g1 S1 (by simp only [RV])⟩
            · exact k.elim
          · exact k.elim
        · exact k.elim
      · exact k.elim
    · exact data k
  · exact data k
theorem o_eqX {k c : Nat} {g : F} {ok : Kd → Bool} (hK : X.K = G.K) (T : OwnEq X G c g k) (hr : Room k X.A) (hok : ∀ k, ok k = true → ∃ t, KdT G k t ∧ PySem.W.notFirst G.K (G.tb c) t = true) : OpR X (compareOp .Eq) (fun v u H Q => rO G opEq v u H Q ∨ rOwn G false c g ok v u H Q) :=
  (o_eq hK hr.units).or (op_own hK T hr hok)
theorem o_neX {k c : Nat} {g : F} {ok : Kd → Bool} (hK : X.K = G.K) (T : OwnEq X G c g k) (hr : Room (k + 1) X.A) (hok : ∀ k, ok k = true → ∃ t, KdT G k t ∧ PySem.W.notFirst G.K (G.tb c) t = true) : OpR X (compareOp .NotEq) (fun v u H Q => rO G opNe v u H Q ∨ rOwn G true c g ok v u H Q) :=
  (o_ne hK hr.units).or (op_ownN hK T hr hok)
theorem e_eqX {k j c : Nat} {g : F} {ok : Kd → Bool} {a b : Expr} {pos : Pos} {fa fb : E} (hK : X.K = G.K) (T : OwnEq X G c g j) (hr : Room k X.A) (hok : ∀ k, ok k = true → ∃ t, KdT G k t ∧ PySem.W.notFirst G.K (G.tb c) t = true) (ha : PE X a (tE G W fa)) (hb : PE X b (tE G W fb)) (hj : j ≤ k := by decide) : PE X (.Compare a [.Eq] [b] pos) (tE G W (eEqX false c g ok fa fb)) :=
  PE_weak (pe_cmpR (o_eqX hK T (hr.mono hj) hok) ha hb (nomark _)) fun σ H Q h => eqx_r (neg := false) (fun _ _ _ _ q => .inl q) (fun _ _ _ _ q => .inr q) h
theorem e_neX {k j c : Nat} {g : F} {ok : Kd → Bool} {a b : Expr} {pos : Pos} {fa fb : E} (hK : X.K = G.K) (T : OwnEq X G c g j) (hr : Room k X.A) (hok : ∀ k, ok k = true → ∃ t, KdT G k t ∧ PySem.W.notFirst G.K (G.tb c) t = true) (ha : PE X a (tE G W fa)) (hb : PE X b (tE G W fb)) (hj : j + 1 ≤ k := by decide) : PE X (.Compare a [.NotEq] [b] pos) (tE G W (eEqX true c g ok fa fb)) :=
  PE_weak (pe_cmpR (o_neX hK T (hr.mono hj) hok) ha hb (nomark _)) fun σ H Q h => eqx_r (neg := true) (fun _ _ _ _ q => .inl q) (fun _ _ _ _ q => .inr q) h
theorem t_eqX {k j c : Nat} {g : F} {ok : Kd → Bool} {a b : Expr} {pos : Pos} {fa fb : E} (hK : X.K = G.K) (T : OwnEq X G c g j) (hr : Room k X.A) (hok : ∀ k, ok k = true → ∃ t, KdT G k t ∧ PySem.W.notFirst G.K (G.tb c) t = true) (ha : PE X a (tE G W fa)) (hb : PE X b (tE G W fb)) (hj : j ≤ k := by decide) : PT X (.Compare a [.Eq] [b] pos) (tT G W (asB (eEqX false c g ok fa fb))) :=
  PT_weak (pt_cmpR (o_eqX hK T (hr.mono hj) hok) ha hb (nomark _)) fun σ H Q h => tE_tTest (fun _ _ _ h => eqx_r (neg := false) (fun _ _ _ _ q => .inl q) (fun _ _ _ _ q => .inr q) h) h
theorem t_neX {k j c : Nat} {g : F} {ok : Kd → Bool} {a b : Expr} {pos : Pos} {fa fb : E} (hK : X.K = G.K) (T : OwnEq X G c g j) (hr : Room k X.A) (hok : ∀ k, ok k = true → ∃ t, KdT G k t ∧ PySem.W.notFirst G.K (G.tb c) t = true) (ha : PE X a (tE G W fa)) (hb : PE X b (tE G W fb)) (hj : j + 1 ≤ k := by decide) : PT X (.Compare a [.NotEq] [b] pos) (tT G W (asB (eEqX true c g ok fa fb))) :=
  PT_weak (pt_cmpR (o_neX hK T (hr.mono hj) hok) ha hb (nomark _)) fun σ H Q h => tE_tTest (fun _ _ _ h => eqx_r (neg := true) (fun _ _ _ _ q => .inl q) (fun _ _ _ _ q => .inr q) h) h
end
end LF

set_option Elab.async false
set_option linter.all false
set_option maxRecDepth 100000
set_option maxHeartbeats 4000000
/-! The layer: a dict of the module, asked. -/
namespace LF
open PySem PySem.Spec PyProof.Rows L2
section
variable {G : Gx} {W : WX} {X : Cx} {σ : L2.St} {H : Hp}
theorem e_kget {x : Str} {a : Addr} {es : Array DictEntry} {n : Nat} {p apos cpos : Pos} {e : Expr} {fe : E} {op : D → O D} (hg : Gl X x) (hm : X.mg x = some (.ref a)) (hl : X.K.lookup a = some ⟨.type "dict", none, .dict es n, #[]⟩) (hk : PySem.W.KeysLit X.w.params es.toList) (hs : (a == sysModules) = false)
    (he : PE X e (tE G W fe)) (m : M1 X (.Name x p) "get" apos e cpos) (hop : ∀ (y : D) (st : Sto) (d : D × Sto), op y st = some d → ∃ k, y = .str k ∧ ∃ r, PySem.W.nsIn X.K a k = some r ∧ ∃ v, RelV v (r.getD .none) ∧ (∀ ms H, RV G ms H d.1 v) ∧ d.2 = st)
    (hdb : (x == ("__debug__" : Str)) = false := by decide) :
    PE X (.Call (.Attribute (.Name x p) "get" apos) [e] [] cpos) (tE G W (eUn op fe)) := by
  refine ⟨fun pins s σ H Q I h => ?_⟩
  refine wpAny_Call_method m.base m.few m.line PySem.F.plainAttrs_dict PySem.F.slot_dict_get PySem.F.type_dict_get (ld_glob I hg hm ?_ hdb)
  have ha : s.heap.get? a = some ⟨.type "dict", none, .dict es n, #[]⟩ := I.kIn a _ hl
  refine ⟨⟨_, ha, rfl⟩, fun b e => by cases e; exact ⟨_, ha, rfl⟩, ?_⟩
  rw [m.trees]
  refine Calls.callWith_builtin rfl (Calls.evalArgs_plain (Calls.spliced_cons (thn (he.run pins s σ H _ I (tX_bind h)) fun iv s2 ⟨y, H2, I2, ry, ms, st, env, d, S, r, r1, k⟩ => Calls.spliced_nil ?_)))
  have k : Okk (RV G) G (fun c d H => W c d σ H) Q ms H2 (ofO (op d st)) := k
  cases eo : op d st with
  | none => rw [eo] at k; exact k.elim
  | some d2 =>
    obtain ⟨z, rfl, r, hr, v, rv, rvd, e2⟩ := hop d st d2 eo
    obtain ⟨d1, s1⟩ := d2
    simp only at e2 rvd
    subst e2
    simp only [RV] at r1
    subst r1
    obtain ⟨t, rfl⟩ := ry
    have ha2 : s2.heap.get? a = some ⟨.type "dict", none, .dict es n, #[]⟩ := I2.kIn a _ hl
    have hm2 := PySem.W.mapOf_K (prog := X.prog) (w := X.w) I2.kIn hl hk
    refine call_meetsIn PySem.F.slot_dict_get ⟨_, ha2, rfl⟩ PySem.F.entry_dict_get (PySem.F.args_dict_get_2 _ _) (meets_dict_get (strKind X.prog X.w) a (strKind_is X.prog X.w z t) hs) ⟨_, hm2, ?_⟩
    rw [eo] at k
    have q := k v ms H2 Gr.refl S (rvd ms H2)
    show EP X pins σ Q _ _
    rw [PySem.W.find_K hl hr]
    exact ⟨v, H2, I2.tok _, rv, q⟩
end
end LF

set_option Elab.async false
set_option linter.all false
set_option maxRecDepth 100000
set_option maxHeartbeats 4000000
/-! exceptions whose __init__ says super().__init__(..) -/
namespace LF
open PySem PySem.Spec PyProof.Rows L2
section
open PySem.W PySem.Calls
variable {prog : Program} {w : World} {A : Around} {E : Value → Shared → Prop} {h : Heap} {g : Array GenState} {d : Drawn} {t : Nat} {os : OsState}
variable {nm q : Str} {C N : Addr} {bs bm : List Value} {hdct : Bool} {sn : List Str} {sub : List Value} {ab : Bool} {col : Option Bool} {dd : Option Addr} {k0 k1 k2 k3 k5 : Option Value}
/-- ValueError's __init__, bound to the object, called -/
theorem call_mwVE {u e t0 : Addr} {rest : List Value} {Q : Value → Shared → Prop}
    (hC : h.get? C = some (excClassObj nm q C N bs bm hdct sn sub ab col dd k0 k1 k2 k3 k5 "ValueError.__new__")) (he : h.get? e = some (HandSPX.excO C t0)) (hu : h.get? u = some (kxs_mw "ValueError.__init__" e)) (hrest : rest.length ≤ sizeLine)
    (hq : ∀ h' t1, (∀ b o, b ≠ e → h.get? b = some o → h'.get? b = some o) → h'.get? e = some (HandSPX.excO C t1) → Q .none ⟨h', g, d, t, os⟩) :
    wpAny (model prog w) A (call (.ref u) rest) Q E ⟨h, g, d, t, os⟩ := by
  refine wpAny_call (codeAny_of_tree ?_)
  show wpAny _ A.in1 (callAny (.ref u) ⟨rest, []⟩) _ _ _
  simp only [callAny]
  refine wpAny_bind (wpAny_load hu ?_)
  simp only [kxs_mw, show (Value.type "method-wrapper" == Value.type "method" || Value.type "method-wrapper" == Value.type "builtin_function_or_method" || Value.type "method-wrapper" == Value.type "method-wrapper") = true by decide, if_true]
  refine KFB.if_so (by decide) ?_
  refine wpAny_bind (check_bound_init F.excBase_ValueError.toExcCallFacts hC he rfl ?_)
  refine wpAny_bind (wpAny_pure (wpAny_pure ?_))
  refine ⟨plainId_quiet F.excBase_ValueError.init.plain _, codeAny_builtin F.excBase_ValueError.initEntry ?_⟩
  rw [Around.under_plainId F.excBase_ValueError.init.plain _]
  wp_walk
  refine hq _ h.objs.size (fun b o hb ho => ?_) ?_
  · rw [Heap.get?_update_other _ _ (Ne.symm hb)]
    exact Heap.get?_push_of_some _ ho
  · rw [Heap.get?_update_self _ (Heap.get?_push_of_some _ he) rfl]
    rfl
end
section
open PySem.W PySem.Calls
variable {X : Cx} {pins : List (Addr × Obj)} {σ : L2.St} {H : Hp} {s : Shared}
/-- what the frame of such an __init__ has -/
structure SupF (X : Cx) (C a cc f : Addr) (i : Nat) (sn : Str) : Prop where
  ks : X.env.kindOf "super" = some .globalImplicit
  kc : X.env.kindOf "__class__" = some .free
  cell : X.env.cells.lookup ("__class__" : Str) = some cc
  cellK : ∃ c d sl, X.K.lookup cc = some ⟨c, d, .cell (some (.ref C)), sl⟩
  fn : X.env.func = some f
  fnK : ∃ (o : Obj) (fd : FuncData) (ar : Arg), X.K.lookup f = some o ∧ o.data = .func fd ∧ (fd.params.posonlyargs ++ fd.params.args).head? = some ar ∧ ar.arg = sn
  kl : X.env.kindOf sn = some .local
  at_i : X.N[i]? = some sn
  code : ∃ (cda : Addr) (o : Obj) (vs : Array Value) (file : Str) (tf : Tok), X.env.code = .ref cda ∧ X.K.lookup cda = some o ∧ o.data = .fields vs ∧ vs[2]? = some (.str file tf) ∧ ((X.prog.main.file : Str) == file) = true
  top : (X.prog.main.scope.names.lookup ("super" : Str)).isSome = false
  mg : X.mg "super" = none
  boot : bootBuiltins "super" = some (.type "super")
  along : ∃ cd, clsIn X.K C = some cd ∧ alongIn X.K "__init__" ((cd.mro.dropWhile (· != .ref C)).drop 1) = some (some (.builtin "ValueError.__init__"))
  subC : mroIn X.K C (.ref C) = some true
  subV : subIn X.K (.ref C) (.type "ValueError") = some true
  opq : nsIn X.K cStatics "thirdparty.any" = some none
theorem at_super {C a cc f : Addr} {i : Nat} {sn : Str} {body : List Stmt} {e0 : Expr} {rest : List Expr} {ta : TA} {p0 p1 p2 p3 p4 : Pos} {Q : Flow → Shared → Prop} {pl : Sem Bool} (S : SupF X C a cc f i sn) (T : OexC X.K C) (I : Inv X pins σ H s) (e : H a = some (exo a C none)) (hσ : σ[i]? = some (some (.ref a)))
    (ha : PA X (e0 :: rest) ta) (hq : ta σ H fun vs H1 => vs.length ≤ 1000 ∧ H1 = H) (h : ∀ s', Inv X pins σ H s' → Q .next s')
    (he : eval (.Call (.Attribute (.Call (.Name "super" p0) [] [] p1) "__init__" p2) (e0 :: rest) [] p3) X.env = (do
      let ov ← attributeBase (.Call (.Name "super" p0) [] [] p1) "__init__" X.env (eval (.Call (.Name "super" p0) [] [] p1) X.env)
      standAt p2.atName
      let (f, first) ← holding [ov] (getMethod ov "__init__" pl)
      callWith p3 f first (backTo p3 (starEach (e0 :: rest) X.env)) []) := by rfl)
    (hs : swapsWith (.Call (.Attribute (.Call (.Name "super" p0) [] [] p1) "__init__" p2) (e0 :: rest) [] p3) none p4.line X.env = pure false := by rfl)
    (hse : starEach (e0 :: rest) X.env = (false, eval e0 X.env) :: starEach rest X.env := by rfl) (hpl : (backTo p3 (starEach rest X.env)).any (·.1) = false := by rfl) :
    _root_.PySem.wpAt (model X.prog X.w) X.A (.func body X.env) (exec (.Expr (.Call (.Attribute (.Call (.Name "super" p0) [] [] p1) "__init__" p2) (e0 :: rest) [] p3) p4) X.env) Q X.xe s := by
  obtain ⟨of, fd, ar, hf, hfd, hp, har⟩ := S.fnK
  obtain ⟨cda, oc, vs, file, tf, hco, hcc, hoc, hvs, hfile⟩ := S.code
  refine ks_wpAt_Expr_any (ks_wpAt_MethodCall (ks_wpAt_super_base S.ks S.kc (by decide) S.fn (I.kIn _ _ hf) hfd hp hco (I.kIn _ _ hcc) hoc hvs hfile S.top ?_) he) I.quiet hs
  obtain ⟨mb, b1, b2⟩ := I.mod.blt
  refine ks_loadName_global I.ok.kind S.ks (loadGlobal_builtin (by rw [I.ok.glob]; exact I.mod.glob.keeps I.bk) S.mg (by rw [I.ok.blt]; exact b1.keeps I.bk) ((b2 "super" (by decide)).trans S.boot) ⟨rfl, ?_⟩)
  obtain ⟨c1, d1, sl1, hcell⟩ := S.cellK
  refine wpAny_loadName_free I.ok.kind S.kc S.cell ⟨_, I.kIn _ _ hcell, rfl⟩ ?_
  obtain ⟨m, hn, hl⟩ := I.loc
  obtain ⟨u, ru, lk⟩ := hl i sn (.ref a) S.at_i hσ (.inl S.kl)
  obtain rfl : u = Value.ref a := ru
  have hv : m sn = some (Value.ref a) := by
    rcases lk with ⟨_, k⟩ | ⟨k, _⟩
    · exact k
    · rcases k with k | k <;> rw [S.kl] at k <;> cases k
  rw [har]
  refine wpAny_loadName_local I.ok.kind S.kl hn hv ?_
  obtain ⟨cd, hcd, hal⟩ := S.along
  obtain ⟨oD, hD1, hD2⟩ : ∃ oD, s.heap.get? C = some oD ∧ oD.data = .cls cd := by
    unfold clsIn at hcd
    split at hcd
    · rename_i c d cd' sl ho
      cases hcd
      exact ⟨_, I.kIn _ _ ho, rfl⟩
    · cases hcd
  obtain ⟨t1, hx⟩ := exo_at I.hok e
  refine ks_wpAny_isType_cls hD1 hD2 ⟨rfl, ?_⟩
  have hxC : a ≠ C := fun z => by
    rw [z, hD1] at hx
    cases hx
    cases hD2
  obtain ⟨hh, g, d, t, os⟩ := s
  refine ks_wpAny_call_super hD1 hD2 hx rfl (fun c z => by cases z) (looks_mroIn I.kIn S.subC) fun h1 e1 k1 => ?_
  have I1 : L2.Inv X pins σ H ⟨h1, g, d, t, os⟩ := I.kept (t' := t) k1
  have hx1 := k1 _ _ hx
  have ia : InstAt h1 a _ C none := ⟨hx1, rfl, rfl, trivial⟩
  have hI : Looks (model X.prog X.w) h1 (isInstance (.ref a) (.type "ValueError")) true := ia.type.andThen (looks_subIn I1.kIn S.subV)
  refine kxs_getMethod kxs_ValueError e1 (looks_opaque I1.kIn S.opq) (l₀ := cd.mro) (fun A Q E s k q => wpAny_bind ((looks_clsIn I1.kIn hcd) A _ E s k (wpAny_pure q))) rfl I1.kIn hal hI hxC rfl ?_
  have I2 : L2.Inv X pins σ H ⟨h1.push (kxs_mw "ValueError.__init__" a), g, d, t + 1, os⟩ := I1.kept (t' := t + 1) fun b o z => Heap.get?_push_of_some _ z
  have hmw : (h1.push (kxs_mw "ValueError.__init__" a)).get? h1.objs.size = some (kxs_mw "ValueError.__init__" a) := Heap.get?_push_at rfl rfl
  dsimp only
  have hun : H h1.objs.size = none := I1.hok.fresh (Nat.le_refl _)
  have hul : h1.objs.size ≠ X.env.locals := fun z => absurd I1.lt (by rw [← z]; exact Nat.lt_irrefl _)
  have huf : h1.objs.size ∉ X.fs := I1.nofs (Nat.le_refl _)
  have I3 : L2.Inv X ([(h1.objs.size, kxs_mw "ValueError.__init__" a)] ++ pins) σ H ⟨h1.push (kxs_mw "ValueError.__init__" a), g, d, t + 1, os⟩ := I2.pins_of fun p hp => by
    rcases List.mem_append.mp hp with hp | hp
    · rw [List.mem_singleton.mp hp]
      exact ⟨hmw, hun, hul, huf, fun v z => by cases z⟩
    · exact I2.pin p (List.mem_append_right _ hp)
  rw [hse]
  refine kxs_callWith (i := "ValueError.__init__") (x := a) (by show (false || (backTo p3 (starEach rest X.env)).any (·.1)) = false; rw [hpl]; rfl) ?_
  have run := ha.run p3 ([(h1.objs.size, kxs_mw "ValueError.__init__" a)] ++ pins) _ σ H _ I3 hq
  rw [hse] at run
  refine evalArgs_plain (thn run fun us s3 hh3 => ?_)
  obtain ⟨vs3, H1, J, r1, hlen, eH⟩ := hh3
  subst eH
  have pin := (J.pin (h1.objs.size, kxs_mw "ValueError.__init__" a) (List.mem_append_right _ (by simp))).1
  refine ⟨pin, ?_⟩
  obtain ⟨nm, q, N, bs, bm, sn', sub, ab, col, dd, k0, k1', k2, k3, k5, hC, hbm⟩ := T.cls
  obtain ⟨t3, hx3⟩ := exo_at J.hok e
  have hus : us.length ≤ sizeLine := by
    rw [← Paired.length r1, sizeLine_eq]
    omega
  obtain ⟨h3, g3, d3, tk3, os3⟩ := s3
  refine call_mwVE (J.kIn _ _ hC) hx3 pin hus fun h' t2 k hx' => ?_
  have J2 := J.write (t' := tk3) (x := a) (e := a) (o := exo a C none) (by rw [e]; exact True.intro) (.inl rfl) k ⟨_, hx'⟩ (exo_ok hx')
  have eu : upd H1 a (exo a C none) = H1 := by
    funext b
    by_cases hb : b = a
    · rw [hb, upd_same, e]
    · rw [upd_ne hb]
  rw [eu] at J2
  exact h _ (J2.pins_of fun p hp => J2.pin p (List.mem_append_right _ (List.mem_append_right _ hp)))
end
end LF

set_option Elab.async false
set_option linter.all false
set_option maxRecDepth 100000
set_option maxHeartbeats 4000000
/-! exceptions: the __init__ that says super().__init__(..), and C(..) in a raise -/
namespace LF
open PySem PySem.Spec PyProof.Rows L2
section
open PySem.W PySem.Calls
variable {P : Program} {w : World} {K : PySem.W.Frag} {mg : Str → Option Value} {base : Heap}
/-- super().__init__() -/
theorem at_super0 {X : Cx} {pins : List (Addr × Obj)} {σ : L2.St} {H : Hp} {s : Shared} {C a cc f : Addr} {i : Nat} {sn : Str} {body : List Stmt} {p0 p1 p2 p3 p4 : Pos} {Q : Flow → Shared → Prop} {pl : Sem Bool} (S : SupF X C a cc f i sn) (T : OexC X.K C) (I : Inv X pins σ H s) (e : H a = some (exo a C none)) (hσ : σ[i]? = some (some (.ref a)))
    (h : ∀ s', Inv X pins σ H s' → Q .next s')
    (he : eval (.Call (.Attribute (.Call (.Name "super" p0) [] [] p1) "__init__" p2) [] [] p3) X.env = (do
      let ov ← attributeBase (.Call (.Name "super" p0) [] [] p1) "__init__" X.env (eval (.Call (.Name "super" p0) [] [] p1) X.env)
      standAt p2.atName
      let (f, first) ← holding [ov] (getMethod ov "__init__" pl)
      callWith p3 f first (backTo p3 (starEach [] X.env)) []) := by rfl)
    (hs : swapsWith (.Call (.Attribute (.Call (.Name "super" p0) [] [] p1) "__init__" p2) [] [] p3) none p4.line X.env = pure false := by rfl) :
    _root_.PySem.wpAt (model X.prog X.w) X.A (.func body X.env) (exec (.Expr (.Call (.Attribute (.Call (.Name "super" p0) [] [] p1) "__init__" p2) [] [] p3) p4) X.env) Q X.xe s := by
  obtain ⟨of, fd, ar, hf, hfd, hp, har⟩ := S.fnK
  obtain ⟨cda, oc, vs, file, tf, hco, hcc, hoc, hvs, hfile⟩ := S.code
  refine ks_wpAt_Expr_any (ks_wpAt_MethodCall (ks_wpAt_super_base S.ks S.kc (by decide) S.fn (I.kIn _ _ hf) hfd hp hco (I.kIn _ _ hcc) hoc hvs hfile S.top ?_) he) I.quiet hs
  obtain ⟨mb, b1, b2⟩ := I.mod.blt
  refine ks_loadName_global I.ok.kind S.ks (loadGlobal_builtin (by rw [I.ok.glob]; exact I.mod.glob.keeps I.bk) S.mg (by rw [I.ok.blt]; exact b1.keeps I.bk) ((b2 "super" (by decide)).trans S.boot) ⟨rfl, ?_⟩)
  obtain ⟨c1, d1, sl1, hcell⟩ := S.cellK
  refine wpAny_loadName_free I.ok.kind S.kc S.cell ⟨_, I.kIn _ _ hcell, rfl⟩ ?_
  obtain ⟨m, hn, hl⟩ := I.loc
  obtain ⟨u, ru, lk⟩ := hl i sn (.ref a) S.at_i hσ (.inl S.kl)
  obtain rfl : u = Value.ref a := ru
  have hv : m sn = some (Value.ref a) := by
    rcases lk with ⟨_, k⟩ | ⟨k, _⟩
    · exact k
    · rcases k with k | k <;> rw [S.kl] at k <;> cases k
  rw [har]
  refine wpAny_loadName_local I.ok.kind S.kl hn hv ?_
  obtain ⟨cd, hcd, hal⟩ := S.along
  obtain ⟨oD, hD1, hD2⟩ : ∃ oD, s.heap.get? C = some oD ∧ oD.data = .cls cd := by
    unfold clsIn at hcd
    split at hcd
    · rename_i c d cd' sl ho
      cases hcd
      exact ⟨_, I.kIn _ _ ho, rfl⟩
    · cases hcd
  obtain ⟨t1, hx⟩ := exo_at I.hok e
  refine ks_wpAny_isType_cls hD1 hD2 ⟨rfl, ?_⟩
  have hxC : a ≠ C := fun z => by
    rw [z, hD1] at hx
    cases hx
    cases hD2
  obtain ⟨hh, g, d, t, os⟩ := s
  refine ks_wpAny_call_super hD1 hD2 hx rfl (fun c z => by cases z) (looks_mroIn I.kIn S.subC) fun h1 e1 k1 => ?_
  have I1 : L2.Inv X pins σ H ⟨h1, g, d, t, os⟩ := I.kept (t' := t) k1
  have hx1 := k1 _ _ hx
  have ia : InstAt h1 a _ C none := ⟨hx1, rfl, rfl, trivial⟩
  have hI : Looks (model X.prog X.w) h1 (isInstance (.ref a) (.type "ValueError")) true := ia.type.andThen (looks_subIn I1.kIn S.subV)
  refine kxs_getMethod kxs_ValueError e1 (looks_opaque I1.kIn S.opq) (l₀ := cd.mro) (fun A Q E s k q => wpAny_bind ((looks_clsIn I1.kIn hcd) A _ E s k (wpAny_pure q))) rfl I1.kIn hal hI hxC rfl ?_
  have hmw : (h1.push (kxs_mw "ValueError.__init__" a)).get? h1.objs.size = some (kxs_mw "ValueError.__init__" a) := Heap.get?_push_at rfl rfl
  have I2 : L2.Inv X pins σ H ⟨h1.push (kxs_mw "ValueError.__init__" a), g, d, t + 1, os⟩ := I1.kept (t' := t + 1) fun b o z => Heap.get?_push_of_some _ z
  dsimp only
  refine kxs_callWith (i := "ValueError.__init__") (x := a) rfl (evalArgs_empty ⟨hmw, ?_⟩)
  obtain ⟨nm, q, N, bs, bm, sn', sub, ab, col, dd, k0, k1', k2, k3, k5, hC, hbm⟩ := T.cls
  obtain ⟨t3, hx3⟩ := exo_at I2.hok e
  refine call_mwVE (I2.kIn _ _ hC) hx3 hmw (by rw [sizeLine_eq]; decide) fun h' t2 k hx' => ?_
  have J2 := I2.write (t' := t + 1) (x := a) (e := a) (o := exo a C none) (by rw [e]; exact True.intro) (.inl rfl) k ⟨_, hx'⟩ (exo_ok hx')
  have eu : upd H a (exo a C none) = H := by
    funext b
    by_cases hb : b = a
    · rw [hb, upd_same, e]
    · rw [upd_ne hb]
  rw [eu] at J2
  exact h _ J2

/-- names of such an __init__ -/
structure ExS (N ps : List Str) (sc : Scope) : Prop where
  kind : sc.kind = .function
  co : sc.isCoroutine = false
  gen : sc.isGenerator = false
  nd : N.Nodup
  pre : N = ps
  par : ∀ x ∈ ps, sc.names.lookup x = some .local
  nocell : ∀ y ∈ sc.names, y.2 ≠ .cell
  free : ∀ y ∈ sc.names, y.2 = .free → y.1 = ("__class__" : Str)
/-- what is known of its class -/
structure SupC (P : Program) (K : PySem.W.Frag) (mg : Str → Option Value) (C cc f : Addr) (cdv : Value) (sc : Scope) (sn : Str) (fd : FuncData) : Prop where
  ks : sc.names.lookup ("super" : Str) = some .globalImplicit
  kc : sc.names.lookup ("__class__" : Str) = some .free
  kl : sc.names.lookup sn = some .local
  cellK : ∃ c d sl, K.lookup cc = some ⟨c, d, .cell (some (.ref C)), sl⟩
  fnK : ∃ (o : Obj) (ar : Arg), K.lookup f = some o ∧ o.data = .func fd ∧ (fd.params.posonlyargs ++ fd.params.args).head? = some ar ∧ ar.arg = sn
  code : ∃ (cda : Addr) (o : Obj) (vs : Array Value) (file : Str) (tf : Tok), cdv = .ref cda ∧ K.lookup cda = some o ∧ o.data = .fields vs ∧ vs[2]? = some (.str file tf) ∧ ((P.main.file : Str) == file) = true
  top : (P.main.scope.names.lookup ("super" : Str)).isSome = false
  mg : mg "super" = none
  along : ∃ cd, clsIn K C = some cd ∧ alongIn K "__init__" ((cd.mro.dropWhile (· != .ref C)).drop 1) = some (some (.builtin "ValueError.__init__"))
  subC : mroIn K C (.ref C) = some true
  subV : subIn K (.ref C) (.type "ValueError") = some true
  opq : nsIn K cStatics "thirdparty.any" = some none
/-- the context of its body -/
def exCx (P : Program) (w : World) (K : PySem.W.Frag) (mg : Str → Option Value) (base : Heap) (N : List Str) (qual : Str) (scope : Scope) (f : Addr) (cdv : Value) (cc : Addr) (A : Around) (outer : List Env) (s : Shared) (H : Hp) (E : XK) : Cx where
  prog := P
  w := w
  K := K
  mg := mg
  base := base
  A := A.deeper (ksEnv qual scope s.heap.objs.size f cdv cc)
  N := N
  s_0 := s
  H_0 := H
  env := ksEnv qual scope s.heap.objs.size f cdv cc
  outer := outer
  stack := ksEnv qual scope s.heap.objs.size f cdv cc :: outer
  ex := []
  calm := true
  fn := fun _ => false
  pn := []
  xe := fun e s' => wpAny (model P w) (A.deeper (ksEnv qual scope s.heap.objs.size f cdv cc)) (leaving (ksEnv qual scope s.heap.objs.size f cdv cc) e) (fun _ s'' => L2.CX P w outer H s E e s'') (fun e' s'' => L2.CX P w outer H s E e' s'') s'
theorem look_mem {x : Str} {u : Value} : ∀ {l : List (Str × Value)}, (l.map (·.1)).Nodup → (x, u) ∈ l → l.lookup x = some u
  | [], _, h => by simp at h
  | (y, v) :: l, nd, h => by
    rw [List.map_cons, List.nodup_cons] at nd
    rcases List.mem_cons.mp h with e | h
    · cases e
      simp [List.lookup]
    · have ne : x ≠ y := fun z => nd.1 (by rw [← z]; exact List.mem_map.mpr ⟨_, h, rfl⟩)
      have nb : (x == y) = false := by simpa using ne
      simp only [List.lookup, nb]
      exact look_mem nd.2 h
theorem _root_.List.Nodup.reverse' {α : Type} : ∀ {l : List α}, l.Nodup → l.reverse.Nodup
  | [], _ => by simp
  | a :: l, h => by
    rw [List.nodup_cons] at h
    rw [List.reverse_cons, List.nodup_append]
    refine ⟨h.2.reverse', by simp, fun x hx y hy e => ?_⟩
    rw [List.mem_singleton] at hy
    exact h.1 (by rw [← hy, ← e]; exact List.mem_reverse.mp hx)
theorem zip_at : ∀ {ps : List Str} {us : List Value} {i : Nat} {x : Str} {u : Value}, ps[i]? = some x → us[i]? = some u → (x, u) ∈ ps.zip us
  | [], _, _, _, _, h, _ => by simp at h
  | _ :: _, [], _, _, _, _, h => by simp at h
  | p :: ps, v :: us, 0, x, u, h1, h2 => by
    simp at h1 h2
    subst h1 h2
    simp
  | p :: ps, v :: us, i + 1, x, u, h1, h2 => by
    simp only [List.zip_cons_cons, List.mem_cons]
    exact .inr (zip_at (i := i) (by simpa using h1) (by simpa using h2))
theorem zip_fst : ∀ {ps : List Str} {us : List Value}, us.length = ps.length → (ps.zip us).map (·.1) = ps
  | [], _, _ => by simp
  | _ :: _, [], h => by simp at h
  | p :: ps, v :: us, h => by
    simp only [List.zip_cons_cons, List.map_cons]
    rw [zip_fst (by simpa using h)]
theorem ex_start {N ps : List Str} {qual : Str} {scope : Scope} {f cc : Addr} {cdv : Value} {A : Around} {outer : List Env} {s : Shared} {H : Hp} {E : XK} {us : List Value} {vs : List V} {h1 : Heap} {tk : Nat}
    (S : ExS N ps scope) (hd : A.handled = none) (e0 : Env0 P w K mg base A outer s H) (hl : vs.length = ps.length) (r : Vals vs us) (hcell : ∃ c d v sl, K.lookup cc = some ⟨c, d, .cell v, sl⟩)
    (hns : h1.Ns s.heap.objs.size fun x => (ps.zip us).reverse.lookup x) (kp : ∀ b o, s.heap.get? b = some o → h1.get? b = some o) :
    Inv (exCx P w K mg base N qual scope f cdv cc A outer s H E) [] (L2.start N vs) H { s with heap := h1, toks := tk } := by
  have noA : ∀ b : Addr, b ∉ (exCx P w K mg base N qual scope f cdv cc A outer s H E).ex := fun b z => absurd (show b ∈ ([] : List Addr) from z) (by simp)
  have cells : (exCx P w K mg base N qual scope f cdv cc A outer s H E).env.cells = [(("__class__" : Str), cc)] := rfl
  obtain ⟨c0, d0, v0, sl0, hc⟩ := hcell
  have hb := e0.bs cc _ (e0.mod.kin _ _ hc)
  have one : ∀ y c, (exCx P w K mg base N qual scope f cdv cc A outer s H E).env.cells.lookup y = some c → y = ("__class__" : Str) ∧ c = cc := fun y c e => by
    rw [cells] at e
    by_cases hy : y = ("__class__" : Str)
    · subst hy
      simp [List.lookup] at e
      exact ⟨rfl, e.symm⟩
    · have nb : (y == ("__class__" : Str)) = false := by simpa using hy
      simp only [List.lookup, nb] at e
      cases e
  refine ⟨⟨e0.mod, S.kind, rfl, rfl, Nat.le_refl _, fun y z c e1 e2 => (one y c e1).1.trans (one z c e2).1.symm, fun y hy => ?_, fun y c z _ => absurd (show false = true from z) Bool.false_ne_true, fun _ => hd, Around.frames_deeper e0.frames, .inr ⟨rfl, rfl⟩, fun b z => absurd z (noA b), e0.bs, e0.bsz,
      fun b _ _ => noA b, fun b z => absurd z (noA b), e0.funs, e0.frf⟩,
    rfl, e0.bare, Un.kept kp, ⟨_, hns, fun i y v e1 e2 e3 => ?_⟩, fun y c e => ?_, e0.hok.fresh (Nat.le_refl _), fun y c e => ?_, fun p hp => absurd (show p ∈ ([] : List (Addr × Obj)) from hp) (by simp), e0.hok.kept kp, ?_⟩
  · have hy : scope.names.lookup y = some .cell ∨ scope.names.lookup y = some .free := hy
    rcases hy with hy | hy
    · exact absurd rfl (S.nocell _ (PySem.mem_of_lookup hy))
    · have ey := S.free _ (PySem.mem_of_lookup hy) rfl
      dsimp only at ey
      subst ey
      exact ⟨cc, by rw [cells]; simp [List.lookup]⟩
  · have e3 : Vis scope y := e3
    have hN : N = ps := S.pre
    have hi : i < ps.length := by
      rw [← hN]
      exact (List.getElem?_eq_some_iff.mp (show N[i]? = some y from e1)).1
    have ha : vs[i]? = some v := by
      unfold L2.start at e2
      rw [List.getElem?_append_left (by simpa [hl] using hi), List.getElem?_map] at e2
      cases e : vs[i]? with
      | none => rw [e] at e2; cases e2
      | some b => rw [e] at e2; cases e2; rfl
    obtain ⟨u, hu, rv⟩ := r.get ha
    have hp : ps[i]? = some y := by rw [← hN]; exact e1
    refine ⟨u, rv, .inl ⟨S.par y (List.mem_of_getElem? hp), ?_⟩⟩
    have hul : us.length = ps.length := by rw [← hl]; exact (Paired.length r).symm
    refine look_mem ?_ (List.mem_reverse.mpr (zip_at hp hu))
    rw [List.map_reverse, zip_fst hul, ← hN]
    exact S.nd.reverse'
  · obtain ⟨_, e2⟩ := one y c e
    subst e2
    exact ⟨v0, _, kp _ _ hb.1, rfl⟩
  · obtain ⟨_, e2⟩ := one y c e
    subst e2
    exact hb.2
  · unfold L2.start
    show _ = N.length
    rw [List.length_append, List.length_map, List.length_replicate, S.pre]
    omega
theorem SupC.at {C a cc f : Addr} {cdv : Value} {scope : Scope} {sn : Str} {fd : FuncData} {N : List Str} {qual : Str} {A : Around} {outer : List Env} {s : Shared} {H : Hp} {E : XK} (T : SupC P K mg C cc f cdv scope sn fd) (h0 : N[0]? = some sn) :
    SupF (exCx P w K mg base N qual scope f cdv cc A outer s H E) C a cc f 0 sn := by
  obtain ⟨o, ar, e1, e2, e3, e4⟩ := T.fnK
  exact ⟨T.ks, T.kc, by simp [exCx, List.lookup], T.cellK, rfl, ⟨o, fd, ar, e1, e2, e3, e4⟩, T.kl, h0, T.code, T.top, T.mg, PyProof.Rows.Boot.«super», T.along, T.subC, T.subV, T.opq⟩
/-- the __init__, its first row being super's -/
theorem ex_fn {k : Nat} {f cc C : Addr} {name qual : Str} {params : Arguments} {body : List Stmt} {st : Stmt} {rest : List Stmt} {scope : Scope} {dV kV doc pm cdv ct oc : Value} {an od : Option Addr} {osl : Array (Option Value)} {N ps : List Str} {sn : Str} {sp : Sp}
    (lk : K.lookup f = some ⟨oc, od, .func (ksFn name qual params body scope dV kV doc pm an cdv ct cc), osl⟩) (hcd : codeIn K cdv qual = true) (S : ExS N ps scope) (T : SupC P K mg C cc f cdv scope sn (ksFn name qual params body scope dV kV doc pm an cdv ct cc)) (h0 : N[0]? = some sn)
    (hbd : body = st :: rest) (len : ∀ vs H Q E, sp vs H Q E → vs.length = ps.length)
    (hbody : ∀ (A : Around) (outer : List Env) (s : Shared) (H : Hp) (vs : List V) (Q : VK) (E : XK), sp vs H Q E → ∃ a t, H a = some (exo a C none) ∧ vs[0]? = some (.ref a) ∧
      (∀ (s1 : Shared) (Q' : Flow → Shared → Prop), Inv (exCx P w K mg base N qual scope f cdv cc A outer s H E) [] (L2.start N vs) H s1 → (∀ s', Inv (exCx P w K mg base N qual scope f cdv cc A outer s H E) [] (L2.start N vs) H s' → Q' .next s') →
        _root_.PySem.wpAt (model P w) (A.deeper (ksEnv qual scope s.heap.objs.size f cdv cc)) (.func body (ksEnv qual scope s.heap.objs.size f cdv cc)) (exec st (ksEnv qual scope s.heap.objs.size f cdv cc)) Q' (exCx P w K mg base N qual scope f cdv cc A outer s H E).xe s1) ∧
      PSs (exCx P w K mg base N qual scope f cdv cc A outer s H E) rest t ∧ t { nx := fun _ H' => Q .non H', rt := Q } (L2.start N vs) H) :
    FnOk P w K mg base (L2.CX P w) (k + 1) f (ksFn name qual params body scope dV kV doc pm an cdv ct cc) ps sp := by
  refine ⟨len, fun A outer s H args us vs Q E hr e0 hb r hsp => ?_⟩
  have hl := len _ _ _ _ hsp
  have KX : K.In s.heap := e0.mod.kin.keeps fun b o e => (e0.bs b o e).1
  have hul : us.length = ps.length := by rw [← hl]; exact (Paired.length r).symm
  refine ks_codeAny_call_defAt (fd := ksFn name qual params body scope dV kV doc pm an cdv ct cc) (body := body) hr.depth (KX _ _ lk) rfl (e0.mod.nolimit.keeps fun b o e => (e0.bs b o e).1) (codeRec_of KX hcd) rfl hb S.nocell (fun y hy => ?_) (fun h1 hns kp => ?_) S.co S.gen S.kind
  · obtain ⟨n, v⟩ := y
    exact S.par _ (List.of_mem_zip hy).1
  obtain ⟨a, t, ea, ev, first, ht, hq⟩ := hbody A outer s H vs Q E hsp
  obtain ⟨c0, d0, sl0, hc⟩ := T.cellK
  have I := ex_start (qual := qual) (f := f) (cdv := cdv) (E := E) (tk := s.toks + (ps.zip us).length) S hr.hd e0 hl r ⟨c0, d0, _, sl0, hc⟩ hns kp
  have fin : ∀ {σ' : L2.St} {H' : Hp} {v : V} {u : Value} {s' : Shared}, Inv (exCx P w K mg base N qual scope f cdv cc A outer s H E) [] σ' H' s' → RelV v u → Q v H' → CE outer P w H s Q u s' :=
    fun {σ' H' v u s'} J rv q => ⟨v, H', J.os, J.bare, J.base, J.hok, rv, q⟩
  subst hbd
  refine ks_wpAt_execs_cons (first _ _ I fun s' J => ?_)
  refine wpAt_of_wpAny (wpAny_mono (ht.run [] s' (L2.start N vs) H _ J hq) (fun fl s2 hs => ?_) fun e s2 hs => hs)
  cases fl with
  | ret u =>
    obtain ⟨v, σ', H', J, rv, q⟩ := hs
    exact fin J rv q
  | next =>
    obtain ⟨σ', H', J, q⟩ := hs
    exact fin (v := V.non) (u := Value.none) J rfl q
  | brk =>
    obtain ⟨_, _, _, q⟩ := hs
    exact False.elim q
  | cont =>
    obtain ⟨_, _, _, q⟩ := hs
    exact False.elim q
end
end LF

set_option Elab.async false
set_option linter.all false
set_option maxRecDepth 100000
set_option maxHeartbeats 4000000
/-! raise -/
namespace LF
open PySem PySem.Spec PyProof.Rows L2
/-! ### what such an __init__ promises -/
def spX0 (C : Addr) : Sp := fun vs H Q _ => ∃ a, vs = [.ref a] ∧ H a = some (exo a C none) ∧ Q .non H
def spX1 (C : Addr) (f : Str) : Sp := fun vs H Q _ => ∃ a v, vs = [.ref a, v] ∧ H a = some (exo a C none) ∧ ∀ dx, H dx = none → dx ≠ a → Q .non (upd (upd H dx (exd dx [(f, v)])) a (exo a C (some dx)))
def spX2 (C : Addr) (f g : Str) : Sp := fun vs H Q _ => ∃ a v u, vs = [.ref a, v, u] ∧ H a = some (exo a C none) ∧ ∀ dx, H dx = none → dx ≠ a → Q .non (upd (upd (upd H dx (exd dx [(f, v)])) a (exo a C (some dx))) dx (exd dx [(g, u), (f, v)]))
section
open PySem.W PySem.Calls
variable {P : Program} {w : World} {K : PySem.W.Frag} {mg : Str → Option Value} {base : Heap}
variable {f cc C : Addr} {name qual : Str} {params : Arguments} {body : List Stmt} {scope : Scope} {dV kV doc pm cdv ct oc : Value} {an od : Option Addr} {osl : Array (Option Value)}
theorem ex_fn0 {p0 p1 p2 p3 p4 : Pos} (lk : K.lookup f = some ⟨oc, od, .func (ksFn name qual params body scope dV kV doc pm an cdv ct cc), osl⟩) (hcd : codeIn K cdv qual = true) (S : ExS ["self"] ["self"] scope) (O : OexC K C)
    (T : SupC P K mg C cc f cdv scope "self" (ksFn name qual params body scope dV kV doc pm an cdv ct cc)) (hbd : body = [.Expr (.Call (.Attribute (.Call (.Name "super" p0) [] [] p1) "__init__" p2) [] [] p3) p4]) (hev : ∀ L : Addr, ∃ pl : Sem Bool, eval (.Call (.Attribute (.Call (.Name "super" p0) [] [] p1) "__init__" p2) [] [] p3) (ksEnv qual scope L f cdv cc) = (do
      let ov ← attributeBase (.Call (.Name "super" p0) [] [] p1) "__init__" (ksEnv qual scope L f cdv cc) (eval (.Call (.Name "super" p0) [] [] p1) (ksEnv qual scope L f cdv cc))
      standAt p2.atName
      let (g0, first) ← holding [ov] (getMethod ov "__init__" pl)
      callWith p3 g0 first (backTo p3 (starEach [] (ksEnv qual scope L f cdv cc))) [])) :
    FnOk P w K mg base (L2.CX P w) 1 f (ksFn name qual params body scope dV kV doc pm an cdv ct cc) ["self"] (spX0 C) := by
  refine ex_fn (k := 0) (C := C) (sn := "self") (N := ["self"]) lk hcd S T rfl hbd (fun vs H Q E h => ?_) fun A outer s H vs Q E h => ?_
  · obtain ⟨a, rfl, _⟩ := h
    rfl
  · obtain ⟨a, rfl, ea, q⟩ := h
    obtain ⟨pl, hpl⟩ := hev s.heap.objs.size
    exact ⟨a, _, ea, rfl, fun s1 Q' I hk => at_super0 (T.at rfl) O I ea rfl hk hpl, pss_nil, q⟩
theorem ex_fn1 {x fl : Str} {p0 p1 p2 p3 p4 q0 s0 s1 s2 s3 : Pos} (lk : K.lookup f = some ⟨oc, od, .func (ksFn name qual params body scope dV kV doc pm an cdv ct cc), osl⟩) (hcd : codeIn K cdv qual = true) (S : ExS ["self", x] ["self", x] scope) (O : OexC K C)
    (T : SupC P K mg C cc f cdv scope "self" (ksFn name qual params body scope dV kV doc pm an cdv ct cc)) (hno : PySem.W.findIn K (.ref C) fl = some none)
    (hbd : body = [.Expr (.Call (.Attribute (.Call (.Name "super" p0) [] [] p1) "__init__" p2) [.Name x q0] [] p3) p4, .Assign [.Attribute (.Name "self" s0) fl s1] (.Name x s2) s3])
    (hev : ∀ L : Addr, ∃ pl : Sem Bool, eval (.Call (.Attribute (.Call (.Name "super" p0) [] [] p1) "__init__" p2) [.Name x q0] [] p3) (ksEnv qual scope L f cdv cc) = (do
      let ov ← attributeBase (.Call (.Name "super" p0) [] [] p1) "__init__" (ksEnv qual scope L f cdv cc) (eval (.Call (.Name "super" p0) [] [] p1) (ksEnv qual scope L f cdv cc))
      standAt p2.atName
      let (g0, first) ← holding [ov] (getMethod ov "__init__" pl)
      callWith p3 g0 first (backTo p3 (starEach [.Name x q0] (ksEnv qual scope L f cdv cc))) []))
    (hd : (x == ("__debug__" : Str)) = false := by decide) (hcd' : (x == ("__classdict__" : Str)) = false := by decide) :
    FnOk P w K mg base (L2.CX P w) 1 f (ksFn name qual params body scope dV kV doc pm an cdv ct cc) ["self", x] (spX1 C fl) := by
  have hv : Vis scope x := .inl (S.par x (by simp))
  have hself : Vis scope "self" := .inl (S.par "self" (by simp))
  refine ex_fn (k := 0) (C := C) (sn := "self") (N := ["self", x]) lk hcd S T rfl hbd (fun vs H Q E h => ?_) fun A outer s H vs Q E h => ?_
  · obtain ⟨a, v, rfl, _⟩ := h
    rfl
  · obtain ⟨a, v, rfl, ea, q⟩ := h
    obtain ⟨pl, hpl⟩ := hev s.heap.objs.size
    refine ⟨a, tOst K fl (tVar 0) (tVar 1), ea, rfl, fun s1 Q' I hk => at_super (T.at rfl) O I ea rfl (pa_cons (pe_var (i := 1) rfl hv hd hcd') pa_nil) ⟨v, rfl, ?_⟩ hk hpl, pss_one (ps_ost (pe_var (i := 0) rfl hself) (pe_var (i := 1) rfl hv hd hcd')), ?_⟩
    · exact ⟨by simp, rfl⟩
    · exact ⟨v, rfl, .ref a, rfl, a, C, rfl, O, hno, .inl ⟨ea, fun dx h1 h2 => q dx h1 h2⟩⟩
theorem ex_fn2 {x y fl gl : Str} {p0 p1 p2 p3 p4 q0 q1 s0 s1 s2 s3 r0 r1 r2 r3 : Pos} (lk : K.lookup f = some ⟨oc, od, .func (ksFn name qual params body scope dV kV doc pm an cdv ct cc), osl⟩) (hcd : codeIn K cdv qual = true) (S : ExS ["self", x, y] ["self", x, y] scope) (O : OexC K C)
    (T : SupC P K mg C cc f cdv scope "self" (ksFn name qual params body scope dV kV doc pm an cdv ct cc)) (hno : PySem.W.findIn K (.ref C) fl = some none) (hno2 : PySem.W.findIn K (.ref C) gl = some none)
    (hbd : body = [.Expr (.Call (.Attribute (.Call (.Name "super" p0) [] [] p1) "__init__" p2) [.Name x q0, .Name y q1] [] p3) p4, .Assign [.Attribute (.Name "self" s0) fl s1] (.Name x s2) s3, .Assign [.Attribute (.Name "self" r0) gl r1] (.Name y r2) r3])
    (hev : ∀ L : Addr, ∃ pl : Sem Bool, eval (.Call (.Attribute (.Call (.Name "super" p0) [] [] p1) "__init__" p2) [.Name x q0, .Name y q1] [] p3) (ksEnv qual scope L f cdv cc) = (do
      let ov ← attributeBase (.Call (.Name "super" p0) [] [] p1) "__init__" (ksEnv qual scope L f cdv cc) (eval (.Call (.Name "super" p0) [] [] p1) (ksEnv qual scope L f cdv cc))
      standAt p2.atName
      let (g0, first) ← holding [ov] (getMethod ov "__init__" pl)
      callWith p3 g0 first (backTo p3 (starEach [.Name x q0, .Name y q1] (ksEnv qual scope L f cdv cc))) []))
    (hd : (x == ("__debug__" : Str)) = false := by decide) (hcd' : (x == ("__classdict__" : Str)) = false := by decide) (hd2 : (y == ("__debug__" : Str)) = false := by decide) (hcd2 : (y == ("__classdict__" : Str)) = false := by decide) :
    FnOk P w K mg base (L2.CX P w) 1 f (ksFn name qual params body scope dV kV doc pm an cdv ct cc) ["self", x, y] (spX2 C fl gl) := by
  have hv : Vis scope x := .inl (S.par x (by simp))
  have hv2 : Vis scope y := .inl (S.par y (by simp))
  have hself : Vis scope "self" := .inl (S.par "self" (by simp))
  refine ex_fn (k := 0) (C := C) (sn := "self") (N := ["self", x, y]) lk hcd S T rfl hbd (fun vs H Q E h => ?_) fun A outer s H vs Q E h => ?_
  · obtain ⟨a, v, u, rfl, _⟩ := h
    rfl
  · obtain ⟨a, v, u, rfl, ea, q⟩ := h
    obtain ⟨pl, hpl⟩ := hev s.heap.objs.size
    refine ⟨a, _, ea, rfl, fun s1 Q' I hk => at_super (T.at rfl) O I ea rfl (pa_cons (pe_var (i := 1) rfl hv hd hcd') (pa_cons (pe_var (i := 2) rfl hv2 hd2 hcd2) pa_nil)) ⟨v, rfl, u, rfl, ?_⟩ hk hpl,
      pss_cons (ps_ost (pe_var (i := 0) rfl hself) (pe_var (i := 1) rfl hv hd hcd')) (pss_one (ps_ost (pe_var (i := 0) rfl hself) (pe_var (i := 2) rfl hv2 hd2 hcd2))), ?_⟩
    · exact ⟨by simp, rfl⟩
    · refine ⟨v, rfl, .ref a, rfl, a, C, rfl, O, hno, .inl ⟨ea, fun dx h1 h2 => ?_⟩⟩
      exact ⟨u, rfl, .ref a, rfl, a, C, rfl, O, hno2, .inr ⟨dx, _, upd_same, by rw [upd_ne h2, upd_same], by simp, q dx h1 h2⟩⟩
end
/-! ### C(..) in a raise -/
section
variable {X : Cx} {x : Str} {p pos : Pos}
theorem del_upd {H : Hp} {a : Addr} {o : HO} (h : H a = none) : L2.del (upd H a o) a = H := by
  funext b
  by_cases hb : b = a
  · rw [hb, del_same, h]
  · rw [del_ne hb, upd_ne hb]
theorem pmk_none {C fI : Addr} {k : Nat} {fd : FuncData} (T : OexC X.K C) (iC : PySem.W.findIn X.K (.ref C) "__init__" = some (some (.ref fI))) (tI : PySem.W.typeIn X.K (.ref fI) = some (.type "function"))
    (F1 : FnOk X.prog X.w X.K X.mg X.base (L2.CX X.prog X.w) k fI fd ["self"] (spX0 C)) (hr : Room (k + 1) X.A) (hb : Binds X.K fd ["self"] []) (hg : Gl X x) (hm : X.mg x = some (.ref C))
    (hdb : (x == ("__debug__" : Str)) = false := by decide) : PMk X (.Call (.Name x p) [] [] pos) (fun _ H Q => Q (.ref C) none H) := by
  intro pins s σ H Q I q
  obtain ⟨nm, qn, N, bs, bm, sn, sub, ab, col, dd, k0, k1, k2, k3, k5, hC, hbm⟩ := T.cls
  refine wpAny_Call_Name_kw (ld_glob I hg hm ?_ hdb)
  refine PySem.W.callWith_K0 I.kIn T.kC ?_
  show wpAny _ _ (call (.ref C) []) _ _ _
  obtain ⟨hp, g, dr, tk, os⟩ := s
  have hsz : hp.objs.size ≤ hp.objs.size + 1 := Nat.le_succ _
  have hn : H (hp.objs.size + 1) = none := I.hok.fresh hsz
  have kk : ∀ b o, hp.get? b = some o → ((hp.push (PySem.W.kdv_tup [])).push (PySem.HandSPX.excO C hp.objs.size)).get? b = some o := fun b o e => Heap.get?_push_of_some _ (Heap.get?_push_of_some _ e)
  have hget : ((hp.push (PySem.W.kdv_tup [])).push (PySem.HandSPX.excO C hp.objs.size)).get? (hp.objs.size + 1) = some (PySem.HandSPX.excO C hp.objs.size) := by heap_get
  have I2 : Inv X pins σ (upd H (hp.objs.size + 1) (exo (hp.objs.size + 1) C none)) ⟨(hp.push (PySem.W.kdv_tup [])).push (PySem.HandSPX.excO C hp.objs.size), g, dr, tk, os⟩ :=
    I.laid (t' := tk) (a := hp.objs.size + 1) (o := exo (hp.objs.size + 1) C none) (h' := (hp.push (PySem.W.kdv_tup [])).push (PySem.HandSPX.excO C hp.objs.size)) kk hsz (exo_ok hget)
  refine wpAny_call (PySem.HandSPX.call_own F.excBase_ValueError (fun Y => PySem.HandSPX.refsVE_contains Y bm hbm) (I.kIn _ _ hC) (PySem.W.looks_findIn I.kIn iC) (fun self => PySem.W.bind_fn I.kIn self tI) (by rw [sizeLine_eq]; decide)
    (codeAny_mono (F1.run _ X.stack _ _ ⟨[Value.ref (hp.objs.size + 1)], []⟩ [Value.ref (hp.objs.size + 1)] [V.ref (hp.objs.size + 1)] (fun v H2 => v = .non ∧ H2 = upd H (hp.objs.size + 1) (exo (hp.objs.size + 1) C none)) (fun _ _ _ => False) (hr.make C [] []) (I2.env0.make C [] [])
      (by
        have := hb _ [Value.ref (hp.objs.size + 1)] I2.kIn rfl
        simpa using this) (.cons rfl .nil) ⟨_, rfl, upd_same, rfl, rfl⟩) fun r s' hq' => ?_))
  cases r with
  | error er => exact passL pins σ _ _ er s' I2 hq'
  | ok fl =>
    cases fl with
    | ret u =>
      obtain ⟨v, H2, os2, bare2, un, hok2, rv, ev, eH⟩ := hq'
      subst ev eH
      refine ⟨rv, ?_⟩
      obtain ⟨h2, g2, d2, t2, os'⟩ := s'
      obtain ⟨t0, hoe⟩ := exo_at hok2 upd_same
      obtain ⟨GG, g1', g2'⟩ := L2.restrict h2 fun b => decide (b ≠ hp.objs.size + 1)
      have gk : ∀ b, b ≠ hp.objs.size + 1 → GG.get? b = h2.get? b := fun b hb => g1' b (decide_eq_true hb)
      have ge : GG.get? (hp.objs.size + 1) = none := g2' _ (by simp)
      have far : ∀ {b : Addr} {o : Obj}, hp.get? b = some o → b ≠ hp.objs.size + 1 := fun {b o} z => Nat.ne_of_lt (Nat.lt_of_lt_of_le (Heap.lt_size z) hsz)
      have un0 : ∀ {b : Addr} {o : Obj}, hp.get? b = some o → H b = none → upd H (hp.objs.size + 1) (exo (hp.objs.size + 1) C none) b = none := fun {b o} z n => by rw [upd_ne (far z)]; exact n
      have U : Un (frs X.stack) [] H H hp GG := {
        keep := fun b o z n hf hx => (gk b (far z)).trans (un.keep b o (kk b o z) (un0 z n) hf hx)
        slot := fun b o z n hf hx => by
          rw [gk b (far z)]
          exact un.slot b o (kk b o z) (un0 z n) hf hx
        free := fun b o z n hx => n
        there := fun b o z hx => by
          rw [gk b (far z)]
          exact un.there b o (kk b o z) hx
        tups := fun b xs z => z
        frzs := fun b o v z => z
        tbls := fun b ps z => ⟨#[], by rw [z]; simp⟩ }
      have hok3 : HOk X.prog X.w H GG := fun b o z => by
        have nb : b ≠ hp.objs.size + 1 := fun e => by
          rw [e, hn] at z
          cases z
        have z2 : upd H (hp.objs.size + 1) (exo (hp.objs.size + 1) C none) b = some o := by
          rw [upd_ne nb]
          exact z
        have noa : ∀ {c y : Addr}, upd H (hp.objs.size + 1) (exo (hp.objs.size + 1) C none) c = some (.own y) → c ≠ hp.objs.size + 1 := fun {c y} hc e => by
          rw [e, upd_same] at hc
          exact exo_own (Option.some.inj hc)
        exact (hok2 b o z2).stay (fun c v hc y => by
            have hca : c ≠ hp.objs.size + 1 := by
              rcases hc with hc | hc
              · rw [hc]
                exact nb
              · exact noa hc
            exact (gk c hca).trans y)
          (fun c hc => by
            rw [upd_ne (noa hc)] at hc
            exact hc) (fun c xs hc => by
            rw [upd_ne (fun e => by
              rw [e, upd_same] at hc
              exact exo_tup (Option.some.inj hc))] at hc
            exact hc)
      have J : Inv X pins σ H ⟨GG, g2, d2, t2, os'⟩ := I.call' (ch := []) os2 U hok3 bare2 (fun b z => absurd z (by simp))
      refine ⟨_, _, _, ⟨GG, g2, d2, t2, os'⟩, H, .ref C, none, rfl, J, fun b o z => ?_, ge, hoe, ⟨rfl, rfl⟩, rfl, rfl, hn, rfl, bare2, raises_own T.exC T.tyC, q⟩
      by_cases hb : b = hp.objs.size + 1
      · rw [hb, ge] at z
        cases z
      · exact (gk b hb).symm.trans z
    | next => exact False.elim hq'
    | brk => exact False.elim hq'
    | cont => exact False.elim hq'
theorem upd_del1 {H : Hp} {a d : Addr} {o o' u : HO} (ha : H a = none) (hd : d ≠ a) : upd (L2.del (upd (upd H d o) a o') a) d u = upd H d u := by
  funext b
  by_cases hb : b = d
  · rw [hb, upd_same, upd_same]
  · rw [upd_ne hb, upd_ne hb]
    by_cases hc : b = a
    · rw [hc, del_same, ha]
    · rw [del_ne hc, upd_ne hc, upd_ne hb]
theorem upd_del2 {H : Hp} {a d : Addr} {o o' o'' u : HO} (ha : H a = none) (hd : d ≠ a) : upd (L2.del (upd (upd (upd H d o) a o') d o'') a) d u = upd H d u := by
  funext b
  by_cases hb : b = d
  · rw [hb, upd_same, upd_same]
  · rw [upd_ne hb, upd_ne hb]
    by_cases hc : b = a
    · rw [hc, del_same, ha]
    · rw [del_ne hc, upd_ne hb, upd_ne hc, upd_ne hb]
variable {G : Gx} {W : WX}
/-- what a raise of a class wants -/
structure ExC (X : Cx) (C : Addr) (ps : List Str) (sp : Sp) : Prop where
  oc : OexC X.K C
  ex : ∃ (fI : Addr) (fd : FuncData), PySem.W.findIn X.K (.ref C) "__init__" = some (some (.ref fI)) ∧ PySem.W.typeIn X.K (.ref fI) = some (.type "function") ∧ FnOk X.prog X.w X.K X.mg X.base (L2.CX X.prog X.w) 1 fI fd ps sp ∧ Binds X.K fd ps []
def sRaise0 (c : Nat) : Sm := fun env st => .exn c [] env st
def sRaise1 (c : Nat) (f : String) (a : E) : Sm := fun env st => (a env st).out env fun d s => .exn c [(f, d)] env s
def sRaise2 (c : Nat) (f g : String) (a b : E) : Sm := fun env st => (a env st).out env fun x s => (b env s).out env fun y s => .exn c [(g, y), (f, x)] env s
theorem s_raise0 {k : Nat} {c : Nat} {rp : Pos} (T : ExC X (G.tb c) ["self"] (spX0 (G.tb c))) (hc : X.calm = true) (tk : Takes X W) (hr : Room k X.A) (hm : X.mg x = some (.ref (G.tb c))) (hj : 2 ≤ k := by decide) (hg : Gl X x := by rfl) (hdb : (x == ("__debug__" : Str)) = false := by decide) :
    PS X (.Raise (some (.Call (.Name x p) [] [] pos)) none rp) (tS G W (sRaise0 c)) := by
  obtain ⟨fI, fd, h1, h2, h3, h4⟩ := T.ex
  exact PS_weak (ps_raise hc tk (pmk_none T.oc h1 h2 h3 (hr.mono hj) h4 hg hm hdb)) fun K σ H ⟨ms, st, env, S, r, q⟩ => q none σ ms H Gr.refl S r (.inl ⟨rfl, rfl⟩)
theorem Gr.xd {ms : List Addr} {H : Hp} {d : Addr} {gs : List (Str × V)} (h : H d = none) : Gr ms H ms (upd H d (.xd gs)) := Gr.new0 h
theorem s_raise1 {k : Nat} {c : Nat} {f : String} {fs ep : Str} {rp : Pos} {e : Expr} {fe : E} (hfs : fs = Str.ofString f) (T : ExC X (G.tb c) ["self", ep] (spX1 (G.tb c) fs)) (hc : X.calm = true) (tk : Takes X W) (hr : Room k X.A) (hm : X.mg x = some (.ref (G.tb c)))
    (ha : PA X [e] (tA G W (eArgs [fe]))) (hj : 2 ≤ k := by decide) (hg : Gl X x := by rfl) (hdb : (x == ("__debug__" : Str)) = false := by decide)
    (he : starEach [e] X.env = (false, eval e X.env) :: starEach [] X.env := by rfl) (hpl : (backTo pos (starEach [] X.env)).any (·.1) = false := by rfl) :
    PS X (.Raise (some (.Call (.Name x p) [e] [] pos)) none rp) (tS G W (sRaise1 c f fe)) := by
  obtain ⟨fI, fd, h1, h2, h3, h4⟩ := T.ex
  refine PS_weak (ps_raise hc tk (pmk_oex (CX := L2.CX X.prog X.w) (ds := []) (dvs := []) T.oc h1 h2 h3 (hr.mono hj) h4 .nil passL hg hm ha hdb he hpl)) fun K σ H h => ?_
  have q : tS G W (fun env st => (eArgs [fe] env st).out env fun ds s => match ds with | [d] => .exn c [(f, d)] env s | _ => .bad) K σ H := by
    obtain ⟨ms, st, env, S, r, q⟩ := h
    refine ⟨ms, st, env, S, r, ?_⟩
    have : (eArgs [fe] env st).out env (fun ds s => match ds with | [d] => .exn c [(f, d)] env s | _ => .bad) = sRaise1 c f fe env st := by
      unfold sRaise1 eArgs eArgs
      cases fe env st <;> rfl
    rw [← this] at q
    exact q
  refine tX_mono (tX_out (R := RVs G) (k := fun env ds s => match ds with | [d] => .exn c [(f, d)] env s | _ => .bad) q) fun vs H1 ⟨ms, st, env, ds, S, r, r1, k1⟩ => ?_
  split at k1
  · obtain ⟨v, rfl, rv⟩ := r1.one'
    refine ⟨by simp, fun a ha => ?_⟩
    refine ⟨a, v, rfl, upd_same, fun dx h5 h6 => ⟨rfl, dx, [(fs, v)], upd_same, by rw [upd_ne h6, upd_same], ?_, ?_⟩⟩
    · rw [upd_ne h6] at h5
      exact h5
    · rw [upd_ne h6] at h5
      have e3 : upd (L2.del (upd (upd (upd H1 a (exo a (G.tb c) none)) dx (exd dx [(fs, v)])) a (exo a (G.tb c) (some dx))) a) dx (.xd [(fs, v)]) = upd H1 dx (.xd [(fs, v)]) := by
        funext b
        by_cases hb : b = dx
        · rw [hb, upd_same, upd_same]
        · rw [upd_ne hb, upd_ne hb]
          by_cases hc : b = a
          · rw [hc, del_same, ha]
          · rw [del_ne hc, upd_ne hc, upd_ne hb, upd_ne hc]
      rw [e3]
      have g := Gr.new0 (ms := ms) (o := .xd [(fs, v)]) h5
      exact k1 (some dx) σ ms _ g (S.lay h5) (r.gr g) (.inr ⟨dx, _, by simp, rfl, upd_same, by
        refine ⟨v, [], by rw [hfs], RV.gr g _ _ rv, rfl⟩⟩)
  · exact k1.elim
theorem s_raise2 {k : Nat} {c : Nat} {f g : String} {fs gs e1p e2p : Str} {rp : Pos} {e e2 : Expr} {fe fe2 : E} (hfs : fs = Str.ofString f) (hgs : gs = Str.ofString g) (T : ExC X (G.tb c) ["self", e1p, e2p] (spX2 (G.tb c) fs gs)) (hc : X.calm = true) (tk : Takes X W) (hr : Room k X.A) (hm : X.mg x = some (.ref (G.tb c)))
    (ha : PA X [e, e2] (tA G W (eArgs [fe, fe2]))) (hj : 2 ≤ k := by decide) (hg : Gl X x := by rfl) (hdb : (x == ("__debug__" : Str)) = false := by decide)
    (he : starEach [e, e2] X.env = (false, eval e X.env) :: starEach [e2] X.env := by rfl) (hpl : (backTo pos (starEach [e2] X.env)).any (·.1) = false := by rfl) :
    PS X (.Raise (some (.Call (.Name x p) [e, e2] [] pos)) none rp) (tS G W (sRaise2 c f g fe fe2)) := by
  obtain ⟨fI, fd, h1, h2, h3, h4⟩ := T.ex
  refine PS_weak (ps_raise hc tk (pmk_oex (CX := L2.CX X.prog X.w) (ds := []) (dvs := []) T.oc h1 h2 h3 (hr.mono hj) h4 .nil passL hg hm ha hdb he hpl)) fun K σ H h => ?_
  have q : tS G W (fun env st => (eArgs [fe, fe2] env st).out env fun ds s => match ds with | [x, y] => .exn c [(g, y), (f, x)] env s | _ => .bad) K σ H := by
    obtain ⟨ms, st, env, S, r, q⟩ := h
    refine ⟨ms, st, env, S, r, ?_⟩
    have : (eArgs [fe, fe2] env st).out env (fun ds s => match ds with | [x, y] => .exn c [(g, y), (f, x)] env s | _ => .bad) = sRaise2 c f g fe fe2 env st := by
      unfold sRaise2 eArgs eArgs eArgs
      cases e1 : fe env st with
      | ok a s =>
        simp only [Res.bind, Res.out]
        cases fe2 env s <;> rfl
      | _ => rfl
    rw [← this] at q
    exact q
  refine tX_mono (tX_out (R := RVs G) (k := fun env ds s => match ds with | [x, y] => .exn c [(g, y), (f, x)] env s | _ => .bad) q) fun vs H1 ⟨ms, st, env, ds, S, r, r1, k1⟩ => ?_
  split at k1
  · obtain ⟨v, u, rfl, rv, ru⟩ := r1.two'
    refine ⟨by simp, fun a ha => ?_⟩
    refine ⟨a, v, u, rfl, upd_same, fun dx h5 h6 => ⟨rfl, dx, [(gs, u), (fs, v)], by rw [upd_ne (Ne.symm h6), upd_same], upd_same, ?_, ?_⟩⟩
    · rw [upd_ne h6] at h5
      exact h5
    · rw [upd_ne h6] at h5
      have e3 : upd (L2.del (upd (upd (upd (upd H1 a (exo a (G.tb c) none)) dx (exd dx [(fs, v)])) a (exo a (G.tb c) (some dx))) dx (exd dx [(gs, u), (fs, v)])) a) dx (.xd [(gs, u), (fs, v)]) = upd H1 dx (.xd [(gs, u), (fs, v)]) := by
        funext b
        by_cases hb : b = dx
        · rw [hb, upd_same, upd_same]
        · rw [upd_ne hb, upd_ne hb]
          by_cases hc : b = a
          · rw [hc, del_same, ha]
          · rw [del_ne hc, upd_ne hb, upd_ne hc, upd_ne hb, upd_ne hc]
      rw [e3]
      have g' := Gr.new0 (ms := ms) (o := .xd [(gs, u), (fs, v)]) h5
      exact k1 (some dx) σ ms _ g' (S.lay h5) (r.gr g') (.inr ⟨dx, _, by simp, rfl, upd_same, by
        refine ⟨u, _, by rw [hgs], RV.gr g' _ _ ru, v, [], by rw [hfs], RV.gr g' _ _ rv, rfl⟩⟩)
  · exact k1.elim
end
end LF

set_option Elab.async false
set_option linter.all false
set_option maxRecDepth 100000
set_option maxHeartbeats 4000000
/-! try: several except clauses, some with a name; each suite returns -/
namespace LF
open PySem PySem.Spec PyProof.Rows L2
section
variable {X : Cx}
abbrev Cls3 := Value × Option Nat × (Addr → Value → Option Addr → TS)
def offs (i : Nat) (D : Ends) : Ends := { nx := fun τ H' => D.nx (τ.set i none) H', rt := D.rt, bk := fun τ H' => D.bk (τ.set i none) H', ct := fun τ H' => D.ct (τ.set i none) H' }
/-- what the clauses want of an exception of the body -/
def wMix (K : PySem.W.Frag) (Wout : WX) (D : Ends) : List Cls3 → WX
  | [] => Wout
  | (c, none, ts) :: r => fun cls d σ H => ∃ b, PySem.W.exmOne K cls c = some b ∧ (b = true → ∀ a, H a = none → ts a cls d D σ H) ∧ (b = false → wMix K Wout D r cls d σ H)
  | (c, some i, ts) :: r => fun cls d σ H => ∃ b, PySem.W.exmOne K cls c = some b ∧ (b = true → ∀ a, H a = none → ts a cls d (offs i D) (σ.set i (some (.ref a))) H) ∧ (b = false → wMix K Wout D r cls d σ H)
inductive Mix (X : Cx) : List ExceptHandler → List Cls3 → Prop
  | nil : Mix X [] []
  | only {x : Str} {c : Value} {ts : Addr → Value → Option Addr → TS} {b0 : Stmt} {suite : List Stmt} {np hp : Pos} {hds : List ExceptHandler} {l : List Cls3} (hc : Names X x c)
      (hsu : ∀ (a : Addr) (oe : Obj) (cls : Value) (d : Option Addr) (pn : List (Addr × Obj)), Zc cls d oe → (∃ vs, oe.data = .fields vs) → PSs (X.suite a ((a, oe) :: pn)) (b0 :: suite) (ts a cls d)) (r : Mix X hds l) :
      Mix X (.ExceptHandler (some (.Name x np)) none (b0 :: suite) hp :: hds) ((c, none, ts) :: l)
  | named {x n : Str} {i : Nat} {c : Value} {ts : Addr → Value → Option Addr → TS} {b0 : Stmt} {suite : List Stmt} {np hp : Pos} {hds : List ExceptHandler} {l : List Cls3} (hN : X.N.Nodup) (hi : X.N[i]? = some n) (hln : X.env.kindOf n = some .local) (hc : Names X x c)
      (hsu : ∀ (a : Addr) (oe : Obj) (cls : Value) (d : Option Addr) (pn : List (Addr × Obj)), Zc cls d oe → (∃ vs, oe.data = .fields vs) → PSs (X.suite a ((a, oe) :: pn)) (b0 :: suite) (ts a cls d)) (r : Mix X hds l) :
      Mix X (.ExceptHandler (some (.Name x np)) (some n) (b0 :: suite) hp :: hds) ((c, some i, ts) :: l)
theorem ps_try_mix {body : List Stmt} {hd1 : ExceptHandler} {hds : List ExceptHandler} {l : List Cls3} {pos : Pos} {tb : WX → TS} {Wout : WX} (hs : X.stack = X.env :: X.outer) (hf : X.env.frame = some X.env.locals) (tk : Takes X Wout)
    (hb : ∀ (W : WX) (pn : List (Addr × Obj)) (xe : Value → Shared → Prop), Takes (X.tr pn xe) W → PassesOwn (model X.prog X.w) X.A X.env xe → PSs (X.tr pn xe) body (tb W))
    (hh : Mix X (hd1 :: hds) l) : PS X (.Try body (hd1 :: hds) [] [] pos) (fun D σ H => tb (wMix X.K Wout D l) D σ H) := by
  refine ⟨fun pins s σ H D I h => ?_⟩
  have ok := I.ok
  have hfr : X.A.frames = some (X.env :: X.outer) := by rw [ok.frames, hs]
  refine wpAny_Try_except (wpAny_mono ((hb (wMix X.K Wout D l) (X.pn ++ pins) (fun e s₁ => wpAny (model X.prog X.w) X.A (noteFrame e X.env) (fun _ s₂ => wpAny (model X.prog X.w) X.A (setFlight e none) (fun _ s₃ =>
    wpAny (model X.prog X.w) X.A (handleBy e X.env (hd1 :: hds)) (SP X pins D) X.xe s₃) X.xe s₂) X.xe s₁) (fun u s' air => ?_) PassesOwn.looking).run [] s σ H D (I.toTry _) h) (fun fl s1 hsp => ?_) (fun e s1 he => he))
  · obtain ⟨a, B, sI, pins', τ, H', cls, d, rfl, J', nb, up, sky, na, os, ag, want⟩ := air
    have J : Inv X pins τ H' sI := J'.ofTry ok
    have sky2 : Sky B (X.env :: X.outer) a (Zc cls d) X.env.locals s'.heap := by rw [← hs]; exact sky
    show wpAny (model X.prog X.w) X.A (noteFrame (.ref a) X.env) _ _ _
    refine Sky.land Zc.steady hfr hf sky2 fun g fl up3 => ?_
    have JG : Inv X pins τ H' { s' with heap := g } := J.landed nb fl.1 (up.trans up3) os ag
    obtain ⟨oe, ve, he, hz, hdt⟩ := fl.there
    have noFrame : a ∉ frs (X.env :: X.outer) := fun hm => by
      obtain ⟨_, o', e', hnf⟩ := fl.2.2.1.mem hm
      rw [he] at e'
      cases e'
      exact hnf _ hdt
    have nL : a ≠ X.env.locals := fun z => noFrame (List.mem_filterMap.mpr ⟨X.env, List.mem_cons_self, by rw [hf, z]⟩)
    have nF : a ∉ X.fs := fun hm => by
      obtain ⟨e, h1, h2⟩ := List.mem_filterMap.mp hm
      exact noFrame (List.mem_filterMap.mpr ⟨e, List.mem_cons_of_mem _ h1, h2⟩)
    have SG := JG.suite he hdt na nL nF
    have LT : PySem.W.Looks (model X.prog X.w) g (typeOf (.ref a)) cls := fun A Q E s k q => wpAny_typeOf_ref (k _ _ he) (by rw [hz.1]; exact q)
    have test : ∀ {x : Str} {c : Value} {np : Pos} {Q : Value → Shared → Prop} {E : Value → Shared → Prop}, Names X x c → Q c { s' with heap := g } → wpAny (model X.prog X.w) (X.A.mark (some (.ref a))) (eval (.Name x np) X.env) Q E { s' with heap := g } := fun {x c np Q E} hc q => by
      obtain ⟨hg, hdbg, hm | ⟨hm, hv, hnn⟩⟩ := hc
      · exact ld_glob (X := X.suite a ((a, oe) :: (X.pn ++ pins))) SG hg hm q hdbg
      · exact ld_blt (X := X.suite a ((a, oe) :: (X.pn ++ pins))) SG hg hm hv q hnn hdbg
    have again : ∀ {M : Heap → Prop}, (∀ g', HandSPX.FlyingZ B (X.env :: X.outer) a (Zc cls d) g' → g.UpToSlots g' → M g') → ∀ g', HandSPX.FlyingZ B (X.env :: X.outer) a (Zc cls d) g' → g.UpToSlots g' → M g' := fun h => h
    have go : ∀ {hs' : List ExceptHandler} {l' : List Cls3}, Mix X hs' l' → wMix X.K Wout D l' cls d τ H' → wpAny (model X.prog X.w) X.A (handleBy (.ref a) X.env hs') (SP X pins D) X.xe { s' with heap := g } := by
      intro hs' l' hk
      induction hk with
      | nil =>
        intro want
        refine wpAny_handleBy_nil ?_
        obtain ⟨k1, k2, k3, oe2, vs2, T2, oT, ts', he2, hz2, hd2, h12, hr⟩ := id fl
        unfold PySem.passOn
        refine wpAny_bind (wpAny_field he2 hd2 h12 ?_)
        rw [if_neg (show ¬ ((Value.ref T2 == Value.none) = true) from by simp)]
        have out : wpAny (model X.prog X.w) X.A (setFlight (.ref a) X.env.frame) (fun _ s4 => wpAny (model X.prog X.w) X.A (throw (.ref a) : Sem Flow) (SP X pins D) X.xe s4) X.xe { s' with heap := g } := by
          rw [hf]
          exact HandSPX.setFlight_upZ fl fun g4 held up4 => wpAny_throw (tk _ _ ⟨a, B, sI, pins, τ, H', cls, d, rfl, J, nb, (up.trans up3).trans up4, .inr (.inr (by rw [hs]; exact held)), na, os, ag, want⟩)
        first
          | exact wpAny_bind (wpAny_pure (wpAny_bind out))
          | exact wpAny_bind out
      | @only x c ts b0 suite np hp hds2 l2 hc hsu r ih =>
        intro want
        obtain ⟨b, hb1, hyes, hno⟩ := want
        have LM := PySem.W.exm_one (M := model X.prog X.w) JG.kIn LT hb1
        refine wpAny_handleBy_cons (codeAny_handlers_test (test hc (LM.here ?_))) (by intro q; cases q)
        cases b with
        | true =>
          refine codeAny_handlers_suite (HandSPX.lands_againZ fl fun g4 fl4 up4 => ?_)
          have J4 : Inv X pins τ H' { s' with heap := g4 } := J.landed nb fl4.1 ((up.trans up3).trans up4) os ag
          obtain ⟨oe4, vs4, he4, hz4, hd4⟩ := fl4.there
          refine wpAny_mono ((hsu a oe4 cls d (X.pn ++ pins) hz4 ⟨_, hd4⟩).run [] _ _ H' _ (J4.suite he4 hd4 na nL nF) (hyes rfl a na)) (fun f s6 hsp => ?_) (fun _ _ z => False.elim z)
          cases f with
          | ret u =>
            obtain ⟨v6, τ6, H6, S6, r6, q6⟩ := hsp
            exact ⟨_, _, _, S6.unsuite ok, r6, q6⟩
          | next =>
            obtain ⟨τ6, H6, S6, q6⟩ := hsp
            exact ⟨_, _, S6.unsuite ok, q6⟩
          | brk =>
            obtain ⟨τ6, H6, S6, q6⟩ := hsp
            exact ⟨_, _, S6.unsuite ok, q6⟩
          | cont =>
            obtain ⟨τ6, H6, S6, q6⟩ := hsp
            exact ⟨_, _, S6.unsuite ok, q6⟩
        | false =>
          show wpAny _ X.A (handleBy (.ref a) X.env hds2) _ _ _
          exact ih (hno rfl)
      | @named x n i c ts b0 suite np hp hds2 l2 hN hi hln hc hsu r ih =>
        intro want
        obtain ⟨b, hb1, hyes, hno⟩ := want
        have LM := PySem.W.exm_one (M := model X.prog X.w) JG.kIn LT hb1
        refine wpAny_handleBy_cons (codeAny_handlers_test (test hc (LM.here ?_))) (by intro q; cases q)
        cases b with
        | true =>
          refine codeAny_handlers_suite_as (HandSPX.lands_againZ fl fun g4 fl4 up4 => ?_)
          have J4 : Inv X pins τ H' { s' with heap := g4 } := J.landed nb fl4.1 ((up.trans up3).trans up4) os ag
          obtain ⟨oe4, vs4, he4, hz4, hd4⟩ := fl4.there
          refine store_ok (X := X.suite a ((a, oe4) :: (X.pn ++ pins))) (v := .ref a) (J4.suite he4 hd4 na nL nF) hN hi (.inl hln) rfl (fun s5 S5 => ?_) (.inr hln)
          refine wpAny_mono ((hsu a oe4 cls d (X.pn ++ pins) hz4 ⟨_, hd4⟩).run [] s5 _ H' _ S5 (hyes rfl a na)) (fun f s6 hsp => ?_) (fun _ _ z => False.elim z)
          have done : ∀ {τ6 : L2.St} {H6 : Hp} {Q : Shared → Prop}, Inv (X.suite a ((a, oe4) :: (X.pn ++ pins))) [] τ6 H6 s6 → (∀ s7, Inv X pins (τ6.set i none) H6 s7 → Q s7) →
              wpAny (model X.prog X.w) X.A (do bindName X.env n .none; unbindBehindTheSuite X.env n hp) (fun _ s7 => Q s7) X.xe s6 := fun {τ6 H6 Q} S6 hq => gone_ok (S6.unsuite ok) hN hi hln hq
          cases f with
          | ret u =>
            obtain ⟨v6, τ6, H6, S6, r6, q6⟩ := hsp
            exact done S6 fun s7 J7 => ⟨_, _, _, J7, r6, q6⟩
          | next =>
            obtain ⟨τ6, H6, S6, q6⟩ := hsp
            exact done S6 fun s7 J7 => ⟨_, _, J7, q6⟩
          | brk =>
            obtain ⟨τ6, H6, S6, q6⟩ := hsp
            exact done S6 fun s7 J7 => ⟨_, _, J7, q6⟩
          | cont =>
            obtain ⟨τ6, H6, S6, q6⟩ := hsp
            exact done S6 fun s7 J7 => ⟨_, _, J7, q6⟩
        | false =>
          show wpAny _ X.A (handleBy (.ref a) X.env hds2) _ _ _
          exact ih (hno rfl)
    exact go hh want
  · cases fl with
    | ret u =>
      obtain ⟨v, τ, H', J', r, q⟩ := hsp
      exact ⟨v, τ, H', J'.ofTry ok, r, q⟩
    | next =>
      obtain ⟨τ, H', J', q⟩ := hsp
      exact wpAny_execs_nil ⟨τ, H', J'.ofTry ok, q⟩
    | brk =>
      obtain ⟨τ, H', J', q⟩ := hsp
      exact ⟨τ, H', J'.ofTry ok, q⟩
    | cont =>
      obtain ⟨τ, H', J', q⟩ := hsp
      exact ⟨τ, H', J'.ofTry ok, q⟩
end

/-! ### with the exception at hand -/
/-- the same place, an exception at hand -/
abbrev Gx.wx (G : Gx) (a d : Addr) (fs : List (String × D)) : Gx := { G with xi := some (a, d, fs) }
section
variable {G : Gx} {ms : List Addr} {H : Hp} {a0 d0 : Addr} {fs0 : List (String × D)}
mutual
theorem RV.wx (h0 : G.xi = none) : ∀ (d : D) (v : V), RV G ms H d v → RV (G.wx a0 d0 fs0) ms H d v
  | .non, _, h => h
  | .bl _, _, h => h
  | .int _, _, h => h
  | .str _, _, h => h
  | .tup ds, _, h => by
    simp only [RV] at h ⊢
    obtain ⟨a, vs, e, h1, h2⟩ := h
    exact ⟨a, vs, e, h1, RVs.wx h0 ds vs h2⟩
  | .ref _, _, h => h
  | .glo _, _, h => h
  | .ty _, _, h => h
  | .scr _, _, h => h
  | .xc, _, h => by
    simp only [RV] at h
    obtain ⟨a, d, fs, e, _⟩ := h
    rw [h0] at e
    cases e
theorem RVs.wx (h0 : G.xi = none) : ∀ (ds : List D) (vs : List V), RVs G ms H ds vs → RVs (G.wx a0 d0 fs0) ms H ds vs
  | [], _, h => h
  | d :: ds, _, h => by
    simp only [RVs] at h ⊢
    obtain ⟨v, r, e, h1, h2⟩ := h
    exact ⟨v, r, e, RV.wx h0 d v h1, RVs.wx h0 ds r h2⟩
end
theorem RF.wx (h0 : G.xi = none) : ∀ {fs : List (String × D)} {gs : List (Str × V)}, RF G ms H fs gs → RF (G.wx a0 d0 fs0) ms H fs gs
  | [], _, h => h
  | p :: fs, _, h => by
    obtain ⟨v, r, e, h1, h2⟩ := h
    exact ⟨v, r, e, RV.wx h0 _ _ h1, RF.wx h0 h2⟩
theorem RE.wx (h0 : G.xi = none) : ∀ {e : Sl} {σ : L2.St}, RE G ms H e σ → RE (G.wx a0 d0 fs0) ms H e σ
  | [], _, h => h
  | none :: e, _, h => by
    obtain ⟨o, r, e, h1⟩ := h
    exact ⟨o, r, e, RE.wx h0 h1⟩
  | some d :: e, _, h => by
    obtain ⟨v, r, e, h1, h2⟩ := h
    exact ⟨v, r, e, RV.wx h0 _ _ h1, RE.wx h0 h2⟩
theorem CellOk.wx (h0 : G.xi = none) {a : Addr} {c : Cell} (h : CellOk G ms H a c) : CellOk (G.wx a0 d0 fs0) ms H a c := by
  cases c with
  | lst ds =>
    obtain ⟨vs, h1, h2⟩ := h
    exact ⟨vs, h1, RVs.wx h0 _ _ h2⟩
  | ins c fs =>
    obtain ⟨dx, gs, h1, h2⟩ := h
    exact ⟨dx, gs, h1, RF.wx h0 h2⟩
  | dct => exact h
theorem SRel.wx (h0 : G.xi = none) {st : Sto} (S : SRel G ms st H) {gs : List (Str × V)} (h1 : H d0 = some (.xd gs)) (h2 : RF G ms H fs0 gs) : SRel (G.wx a0 d0 fs0) ms st H :=
  ⟨S.len, S.nd, fun i a c e1 e2 => (S.cell i a c e1 e2).wx h0, fun a d fs e => (by cases e; exact ⟨gs, h1, h2.wx h0⟩), S.tabs⟩
/-- no exception in it -/
def noX : Nat → D → Bool
  | _, .non => true
  | _, .bl _ => true
  | _, .int _ => true
  | _, .str _ => true
  | n + 1, .tup ds => ds.all (noX n)
  | _, _ => false
theorem noXs {f : D → Bool} (hf : ∀ d v, f d = true → RV (G.wx a0 d0 fs0) ms H d v → RV G ms H d v) : ∀ {ds : List D} {vs : List V}, ds.all f = true → RVs (G.wx a0 d0 fs0) ms H ds vs → RVs G ms H ds vs
  | [], _, _, h => h
  | d :: ds, _, e, h => by
    simp only [RVs] at h ⊢
    obtain ⟨v, r, rfl, h1, h2⟩ := h
    simp only [List.all_cons, Bool.and_eq_true] at e
    exact ⟨v, r, rfl, hf _ _ e.1 h1, noXs hf e.2 h2⟩
theorem noX_ok : ∀ (n : Nat) (d : D) (v : V), noX n d = true → RV (G.wx a0 d0 fs0) ms H d v → RV G ms H d v
  | _, .non, _, _, h => h
  | _, .bl _, _, _, h => h
  | _, .int _, _, _, h => h
  | _, .str _, _, _, h => h
  | 0, .tup ds, _, e, _ => by simp [noX] at e
  | n + 1, .tup ds, v, e, h => by
    simp only [RV] at h ⊢
    obtain ⟨a, vs, e1, h1, h2⟩ := h
    exact ⟨a, vs, e1, h1, noXs (fun d v k r => noX_ok n d v k r) (by simpa [noX] using e) h2⟩
  | 0, .ref _, _, e, _ => by simp [noX] at e
  | 0, .glo _, _, e, _ => by simp [noX] at e
  | 0, .ty _, _, e, _ => by simp [noX] at e
  | 0, .scr _, _, e, _ => by simp [noX] at e
  | 0, .xc, _, e, _ => by simp [noX] at e
  | n + 1, .ref _, _, e, _ => by simp [noX] at e
  | n + 1, .glo _, _, e, _ => by simp [noX] at e
  | n + 1, .ty _, _, e, _ => by simp [noX] at e
  | n + 1, .scr _, _, e, _ => by simp [noX] at e
  | n + 1, .xc, _, e, _ => by simp [noX] at e
mutual
theorem RV.unwx (h0 : G.xi = none) {ms' : List Addr} {H' : Hp} : ∀ (d : D) (v v' : V), RV G ms H d v → RV (G.wx a0 d0 fs0) ms' H' d v' → RV G ms' H' d v'
  | .non, _, _, _, h => h
  | .bl _, _, _, _, h => h
  | .int _, _, _, _, h => h
  | .str _, _, _, _, h => h
  | .tup ds, _, _, k, h => by
    simp only [RV] at h k ⊢
    obtain ⟨a, vs, e, h1, h2⟩ := h
    obtain ⟨_, us, _, _, k2⟩ := k
    exact ⟨a, vs, e, h1, RVs.unwx h0 ds us vs k2 h2⟩
  | .ref _, _, _, _, h => h
  | .glo _, _, _, _, h => h
  | .ty _, _, _, _, h => h
  | .scr _, _, _, _, h => h
  | .xc, _, _, k, _ => by
    simp only [RV] at k
    obtain ⟨a, d, fs, e, _⟩ := k
    rw [h0] at e
    cases e
theorem RVs.unwx (h0 : G.xi = none) {ms' : List Addr} {H' : Hp} : ∀ (ds : List D) (vs vs' : List V), RVs G ms H ds vs → RVs (G.wx a0 d0 fs0) ms' H' ds vs' → RVs G ms' H' ds vs'
  | [], _, _, _, h => h
  | d :: ds, _, _, k, h => by
    simp only [RVs] at h k ⊢
    obtain ⟨v, r, e, h1, h2⟩ := h
    obtain ⟨u, q, _, k1, k2⟩ := k
    exact ⟨v, r, e, RV.unwx h0 d u v k1 h1, RVs.unwx h0 ds q r k2 h2⟩
end
theorem RF.unwx (h0 : G.xi = none) {ms' : List Addr} {H' : Hp} : ∀ {fs : List (String × D)} {gs gs' : List (Str × V)}, RF G ms H fs gs → RF (G.wx a0 d0 fs0) ms' H' fs gs' → RF G ms' H' fs gs'
  | [], _, _, _, h => h
  | p :: fs, _, _, k, h => by
    obtain ⟨v, r, e, h1, h2⟩ := h
    obtain ⟨u, q, _, k1, k2⟩ := k
    exact ⟨v, r, e, RV.unwx h0 _ _ _ k1 h1, RF.unwx h0 k2 h2⟩
theorem CellOk.unwx (h0 : G.xi = none) {ms' : List Addr} {H' : Hp} {a a' : Addr} {c : Cell} (k : CellOk G ms H a c) (h : CellOk (G.wx a0 d0 fs0) ms' H' a' c) : CellOk G ms' H' a' c := by
  cases c with
  | lst ds =>
    obtain ⟨vs, h1, h2⟩ := h
    obtain ⟨us, _, k2⟩ := k
    exact ⟨vs, h1, RVs.unwx h0 _ _ _ k2 h2⟩
  | ins c fs =>
    obtain ⟨dx, gs, h1, h2⟩ := h
    obtain ⟨_, us, _, k2⟩ := k
    exact ⟨dx, gs, h1, RF.unwx h0 k2 h2⟩
  | dct => exact h
/-- back, where the store is the same -/
theorem SRel.unwx (h0 : G.xi = none) {ms' : List Addr} {H' : Hp} {st : Sto} (S : SRel G ms st H) (g : Gr ms H ms' H') (S' : SRel (G.wx a0 d0 fs0) ms' st H') : SRel G ms' st H' := by
  obtain ⟨t, et⟩ := g.pre
  have e : ms' = ms := by
    have h1 := S.len
    have h2 := S'.len
    rw [et, List.length_append] at h2
    have : t = [] := List.eq_nil_of_length_eq_zero (by omega)
    rw [et, this, List.append_nil]
  subst e
  exact ⟨S'.len, S'.nd, fun i a c e1 e2 => (S.cell i a c e1 e2).unwx h0 (S'.cell i a c e1 e2), fun a d fs z => (by rw [h0] at z; cases z), S'.tabs⟩
end

/-! ### the reading -/
/-- an except clause: its class, those it surely is not, the name's slot, what is returned (of the exception's fields) -/
structure Hx where
  c : Nat
  no : List Nat
  i : Option Nat
  f : List (String × D) → E
open Classical in
noncomputable def Hx.run (h : Hx) (fs : List (String × D)) (env : Sl) (st : Sto) : Out := match h.i with
  | none => match h.f [] env st with
    | .ok d s => .rt d s
    | _ => .bad
  | some i => if fs = [] then .bad else match h.f fs (env.set i (some .xc)) st with
    | .ok d s => if noX 8 d = true ∧ s = st then .rt d s else .bad
    | _ => .bad
open Classical in
noncomputable def hGo (c : Nat) (fs : List (String × D)) (env : Sl) (st : Sto) : List Hx → Out
  | [] => .exn c fs env st
  | h :: hs => if c = h.c then h.run fs env st else if c ∈ h.no then hGo c fs env st hs else .bad
noncomputable def sTry (b : Sm) (hs : List Hx) : Sm := fun env st => match b env st with
  | .exn c fs e s => hGo c fs e s hs
  | r => r
def eXf (fs : List (String × D)) (f : String) (a : E) : E := fun env st => (a env st).bind fun x s => match x with
  | .xc => match fs.lookup f with
    | some d => .ok d s
    | none => .bad
  | _ => .bad
section
variable {G : Gx} {W : WX} {X : Cx} {σ : L2.St} {H : Hp}
theorem RF.get {ms : List Addr} : ∀ {fs : List (String × D)} {gs : List (Str × V)} {f : String} {d : D}, RF G ms H fs gs → fs.lookup f = some d → ∃ v, gs.lookup (Str.ofString f) = some v ∧ RV G ms H d v := fun h e => h.look e
/-- e.f in the suite of 'except C as e' -/
theorem e_xf {a d0 : Addr} {fs0 : List (String × D)} {oe : Obj} {c : Nat} {pn : List (Addr × Obj)} {e : Expr} {fe : E} {pos : Pos} {n : Str} {f : String} (hn : n = Str.ofString f) (T : XfC X.K (G.tb c)) (hno : PySem.W.findIn X.K (.ref (G.tb c)) n = some none)
    (hz : Zc (.ref (G.tb c)) (some d0) oe) (hf : ∃ vs, oe.data = .fields vs) (he : PE (X.suite a ((a, oe) :: pn)) e (tE (G.wx a d0 fs0) W fe)) (hb : attributeBase e n X.env (eval e X.env) = eval e X.env := by rfl) :
    PE (X.suite a ((a, oe) :: pn)) (.Attribute e n pos) (tE (G.wx a d0 fs0) W (eXf fs0 f fe)) := PE_weak (pe_xf T hno hz hf he hb) fun σ H Q h => tX_mono (tX_bind h) fun v H1 ⟨ms, st, env, x, S, r, r1, k⟩ => by
  split at k
  · split at k
    · rename_i d ed
      simp only [RV] at r1
      obtain ⟨a1, d1, fs1, e1, rfl⟩ := r1
      cases e1
      obtain ⟨gs, h1, h2⟩ := S.xd _ _ _ rfl
      obtain ⟨w, h3, h4⟩ := h2.look ed
      exact ⟨rfl, rfl, _, gs, w, rfl, h1, by rw [hn]; exact h3, k w ms H1 Gr.refl S h4⟩
    · exact k.elim
  · exact k.elim
inductive HxOk (X : Cx) (G : Gx) : List ExceptHandler → List Hx → Prop
  | nil : HxOk X G [] []
  | only {x : Str} {c : Nat} {no : List Nat} {e : Expr} {f : E} {np rp hp : Pos} {hds : List ExceptHandler} {l : List Hx} (hc : Names X x (.ref (G.tb c))) (h1 : PySem.W.exmOne X.K (.ref (G.tb c)) (.ref (G.tb c)) = some true) (h2 : ∀ c' ∈ no, PySem.W.exmOne X.K (.ref (G.tb c')) (.ref (G.tb c)) = some false)
      (he : ∀ (a : Addr) (oe : Obj) (pn : List (Addr × Obj)), PE (X.suite a ((a, oe) :: pn)) e (tE G W0 f)) (r : HxOk X G hds l) : HxOk X G (.ExceptHandler (some (.Name x np)) none [.Return (some e) rp] hp :: hds) (⟨c, no, none, fun _ => f⟩ :: l)
  | named {x n : Str} {i : Nat} {c : Nat} {no : List Nat} {e : Expr} {f : List (String × D) → E} {np rp hp : Pos} {hds : List ExceptHandler} {l : List Hx} (hN : X.N.Nodup) (hi : X.N[i]? = some n) (hln : X.env.kindOf n = some .local) (hc : Names X x (.ref (G.tb c)))
      (h1 : PySem.W.exmOne X.K (.ref (G.tb c)) (.ref (G.tb c)) = some true) (h2 : ∀ c' ∈ no, PySem.W.exmOne X.K (.ref (G.tb c')) (.ref (G.tb c)) = some false)
      (he : ∀ (a d : Addr) (fs : List (String × D)) (oe : Obj) (pn : List (Addr × Obj)), Zc (.ref (G.tb c)) (some d) oe → (∃ vs, oe.data = .fields vs) → PE (X.suite a ((a, oe) :: pn)) e (tE (G.wx a d fs) W0 (f fs))) (r : HxOk X G hds l) :
      HxOk X G (.ExceptHandler (some (.Name x np)) (some n) [.Return (some e) rp] hp :: hds) (⟨c, no, some i, f⟩ :: l)
/-- the suite's reading -/
def Hx.ts (G : Gx) (h : Hx) : Addr → Value → Option Addr → TS := fun a cls d D σ H => match h.i with
  | none => tS G W0 (sRet (h.f [])) D σ H
  | some _ => cls = .ref (G.tb h.c) ∧ ∃ d0 fs, d = some d0 ∧ tS (G.wx a d0 fs) W0 (sRet (h.f fs)) D σ H
theorem mix_of {hds : List ExceptHandler} {l : List Hx} (h : HxOk X G hds l) : Mix X hds (l.map fun h => (Value.ref (G.tb h.c), h.i, h.ts G)) := by
  induction h with
  | nil => exact .nil
  | @only x c no e f np rp hp hds l hc h1 h2 he r ih =>
    refine .only hc (fun a oe cls d pn _ _ => ?_) ih
    exact ss_one (s_ret (he a oe pn))
  | @named x n i c no e f np rp hp hds l hN hi hln hc h1 h2 he r ih =>
    refine .named hN hi hln hc (fun a oe cls d pn hz hf => ⟨fun pins s σ H D I q => ?_⟩) ih
    obtain ⟨rfl, d0, fs, rfl, q⟩ := q
    exact (ss_one (s_ret (pos := rp) (he a d0 fs oe pn hz hf))).run pins s σ H D I q
theorem try_go (h0 : G.xi = none) {K : Ends} {hds : List ExceptHandler} {l : List Hx} (h : HxOk X G hds l) {c : Nat} {fs : List (String × D)} {e : Sl} {st : Sto} {ms : List Addr} {H : Hp} (hk : OutOk G W K ms H (hGo c fs e st l)) :
    ∀ od σ' ms' H', Gr ms H ms' H' → SRel G ms' st H' → RE G ms' H' e σ' → XRel G ms' H' fs od → wMix X.K W K (l.map fun h => (Value.ref (G.tb h.c), h.i, h.ts G)) (.ref (G.tb c)) od σ' H' := by
  induction h with
  | nil => exact hk
  | @only x c1 no ex f np rp hp hds l hc h1 h2 he r ih =>
    intro od σ' ms' H' g S re xr
    unfold hGo at hk
    split at hk
    · rename_i hcc
      subst hcc
      refine ⟨true, h1, fun _ a _ => ⟨ms', st, e, S, re, ?_⟩, fun z => by cases z⟩
      unfold Hx.run at hk
      dsimp only at hk
      dsimp only [sRet]
      cases er : f e st with
      | ok d s =>
        rw [er] at hk
        exact OutOk.gr g hk
      | exn c2 f2 s => rw [er] at hk; exact hk.elim
      | bad => rw [er] at hk; exact hk.elim
    · split at hk
      · rename_i hmem
        exact ⟨false, h2 c hmem, (fun z => by cases z), fun _ => ih hk od σ' ms' H' g S re xr⟩
      · exact hk.elim
  | @named x n i c1 no ex f np rp hp hds l hN hi hln hc h1 h2 he r ih =>
    intro od σ' ms' H' g S re xr
    unfold hGo at hk
    split at hk
    · rename_i hcc
      subst hcc
      refine ⟨true, h1, fun _ a na => ⟨rfl, ?_⟩, fun z => by cases z⟩
      unfold Hx.run at hk
      dsimp only at hk
      split at hk
      · exact hk.elim
      rename_i hfs
      rcases xr with ⟨z, _⟩ | ⟨d0, gs, _, rfl, hd, rf⟩
      · exact (hfs z).elim
      refine ⟨d0, fs, rfl, ms', st, e.set i (some .xc), S.wx h0 hd rf, ?_, ?_⟩
      · refine RE.set ?_ i (re.wx h0)
        simp only [RV]
        exact ⟨a, d0, fs, rfl, rfl⟩
      · dsimp only [sRet]
        cases er : f fs (e.set i (some .xc)) st with
        | ok d s =>
          rw [er] at hk
          dsimp only at hk
          split at hk
          · rename_i hn
            obtain ⟨hn, rfl⟩ := hn
            intro v m1 H1 g1 S1 r1
            exact hk v m1 H1 (g.trans g1) (S.unwx h0 g1 S1) (noX_ok 8 d v hn r1)
          · exact hk.elim
        | exn c2 f2 s => rw [er] at hk; exact hk.elim
        | bad => rw [er] at hk; exact hk.elim
    · split at hk
      · rename_i hmem
        exact ⟨false, h2 c hmem, (fun z => by cases z), fun _ => ih hk od σ' ms' H' g S re xr⟩
      · exact hk.elim
theorem s_try (h0 : G.xi = none) {body : List Stmt} {hd1 : ExceptHandler} {hds : List ExceptHandler} {l : List Hx} {pos : Pos} {fb : Sm} (tk : Takes X W)
    (hb : ∀ (W : WX) (pn : List (Addr × Obj)) (xe : Value → Shared → Prop), Takes (X.tr pn xe) W → PassesOwn (model X.prog X.w) X.A X.env xe → PSs (X.tr pn xe) body (tS G W fb)) (hh : HxOk X G (hd1 :: hds) l)
    (hs : X.stack = X.env :: X.outer := by rfl) (hf : X.env.frame = some X.env.locals := by rfl) : PS X (.Try body (hd1 :: hds) [] [] pos) (tS G W (sTry fb l)) :=
  PS_weak (ps_try_mix hs hf tk hb (mix_of hh)) fun K σ H ⟨ms, st, env, S, r, q⟩ => by
    refine ⟨ms, st, env, S, r, ?_⟩
    unfold sTry at q
    cases e1 : fb env st with
    | nx e s => rw [e1] at q; exact q
    | rt d s => rw [e1] at q; exact q
    | bk e s => rw [e1] at q; exact q
    | ct e s => rw [e1] at q; exact q
    | bad => rw [e1] at q; exact q.elim
    | exn c fs e s =>
      rw [e1] at q
      exact try_go h0 hh q
end
end LF

set_option Elab.async false
set_option linter.all false
set_option maxRecDepth 100000
set_option maxHeartbeats 4000000
/-! an exception class, from what the written part tells -/
namespace LF
open PySem PySem.Spec PyProof.Rows L2
open PySem.W
/-- C(..) may be raised -/
structure Exc0 (P : Program) (w : World) (K : PySem.W.Frag) (mg : Str → Option Value) (C : Addr) (ps : List Str) (sp : Sp) : Prop where
  oc : OexC K C
  ex : ∃ (fI : Addr) (fd : FuncData), PySem.W.findIn K (.ref C) "__init__" = some (some (.ref fI)) ∧ PySem.W.typeIn K (.ref fI) = some (.type "function") ∧ (∀ base : Heap, FnOk P w K mg base (L2.CX P w) 1 fI fd ps sp) ∧ Binds K fd ps []
theorem Exc0.at {P : Program} {w : World} {K : PySem.W.Frag} {mg : Str → Option Value} {C : Addr} {ps : List Str} {sp : Sp} (T : Exc0 P w K mg C ps sp) {X : Cx} (h1 : X.prog = P := by rfl) (h2 : X.w = w := by rfl) (h3 : X.K = K := by rfl) (h4 : X.mg = mg := by rfl) : ExC X C ps sp := by
  subst h1 h2 h3 h4
  obtain ⟨fI, fd, a, b, c, d⟩ := T.ex
  exact ⟨T.oc, fI, fd, a, b, c X.base, d⟩
abbrev lamTail (L : Addr) : List Value := [.ref L, .type "ValueError", .type "Exception", .type "BaseException", .type "object"]
abbrev veRest : List Value := [.type "ValueError", .type "Exception", .type "BaseException", .type "object"]
section
variable {P : Program} {w : World} {K : PySem.W.Frag} {mg : Str → Option Value} {C L cc f ca : Addr}
variable {nm q nmL qL : Str} {N NL : Addr} {bs bsL : List Value} {sn snL : List Str} {sub subL : List Value} {ab abL : Bool} {col colL : Option Bool} {dd ddL : Option Addr} {k0 k1 k2 k3 k5 l0 l1 l2 l3 l5 : Option Value}
theorem oexC_of (hC : K.lookup C = some (excClassObj nm q C N bs (lamTail L) true sn sub ab col dd k0 k1 k2 k3 k5 "ValueError.__new__")) (sa : findIn K (.ref C) "__setattr__" = some (some (.builtin "object.__setattr__")))
    (exC : subIn K (.ref C) (.type "BaseException") = some true) (tyC : typeIn K (.ref C) = some (.type "type")) (kC : keepIn K (.ref C) = true) : OexC K C := ⟨⟨_, _, _, _, _, _, _, _, _, _, _, _, _, _, _, hC, by
      simp [lamTail, HandSPX.refsVE]⟩, sa, exC, tyC, kC⟩
theorem exm_of {c' c : Addr} {b : Bool} (h1 : subIn K (.ref c) (.type "BaseException") = some true) (h2 : isClsIn K c = true) (h3 : typeIn K (.ref c) = some (.type "type")) (h4 : subIn K (.ref c') (.ref c) = some b) : exmOne K (.ref c') (.ref c) = some b := by
  have e1 : (subIn K (.ref c) (.type "BaseException") == some true) = true := by rw [h1] <;> rfl
  have h2' : (clsIn K c).isSome = true := h2
  unfold exmOne kitCls
  rw [if_pos e1]
  dsimp only
  rw [if_pos (by rw [h2', h3] <;> rfl)]
  exact h4
variable {scope : Scope} {fd : FuncData} {oc ocd : Value} {od odd : Option Addr} {osl csl : Array (Option Value)} {v0 v1 : Value} {vr : List Value} {fi : Str} {tf : Tok} {x0 : Value} {x1 : Option Addr} {x2 : Array (Option Value)}
theorem supC_of (hC : K.lookup C = some (excClassObj nm q C N bs (lamTail L) true sn sub ab col dd k0 k1 k2 k3 k5 "ValueError.__new__")) (hL : K.lookup L = some (excClassObj nmL qL L NL bsL veRest true snL subL abL colL ddL l0 l1 l2 l3 l5 "ValueError.__new__"))
    (fL : findIn K (.ref L) "__init__" = some (some (.builtin "ValueError.__init__"))) (ks : scope.names.lookup ("super" : Str) = some .globalImplicit) (kc : scope.names.lookup ("__class__" : Str) = some .free) (kl : scope.names.lookup ("self" : Str) = some .local)
    (hcc : K.lookup cc = some ⟨x0, x1, .cell (some (.ref C)), x2⟩) (hf : K.lookup f = some ⟨oc, od, .func fd, osl⟩) (hp : ∃ ar : Arg, (fd.params.posonlyargs ++ fd.params.args).head? = some ar ∧ ar.arg = ("self" : Str))
    (hcd : K.lookup ca = some ⟨ocd, odd, .fields ⟨v0 :: v1 :: .str fi tf :: vr⟩, csl⟩) (hfi : ((P.main.file : Str) == fi) = true) (top : (P.main.scope.names.lookup ("super" : Str)).isSome = false) (hmg : mg "super" = none)
    (subC : mroIn K C (.ref C) = some true) (subV : subIn K (.ref C) (.type "ValueError") = some true) (opq : nsIn K cStatics "thirdparty.any" = some none) : SupC P K mg C cc f (.ref ca) scope "self" fd := by
  obtain ⟨ar, hp1, hp2⟩ := hp
  refine ⟨ks, kc, kl, ⟨_, _, _, hcc⟩, ⟨_, ar, hf, rfl, hp1, hp2⟩, ⟨ca, _, _, fi, tf, rfl, hcd, rfl, rfl, hfi⟩, top, hmg, ?_, subC, subV, opq⟩
  refine ⟨{ name := nm, bases := bs, mro := .ref C :: lamTail L, ns := N, qualname := q, hasDict := true, slotNames := sn, subclasses := sub, abstract := ab, collection := col, hasDel := false }, ?_, ?_⟩
  · unfold clsIn
    rw [hC]
  · have e : ((Value.ref C :: lamTail L).dropWhile (· != .ref C)).drop 1 = lamTail L := by simp [List.dropWhile]
    show alongIn K "__init__" (((Value.ref C :: lamTail L).dropWhile (· != .ref C)).drop 1) = _
    rw [e]
    unfold findIn at fL
    dsimp only at fL
    rw [hL] at fL
    exact fL
end
end LF

set_option Elab.async false
set_option linter.all false
set_option maxRecDepth 100000
set_option maxHeartbeats 4000000
/-! further operations -/
namespace LF
open PySem PySem.Spec PyProof.Rows L2
section
variable {G : Gx} {W : WX} {X : Cx} {σ : L2.St} {H : Hp}
/-! ### a list asked whether it is as long as another, then empty -/
def opEqE (neg : Bool) (x y : D) : O D := fun st => match x, y with
  | .ref i, .ref j => match st[i]?, st[j]? with
    | some (.lst a), some (.lst b) => if a.length ≠ b.length then some (.bl neg, st) else if a = [] then some (.bl (!neg), st) else none
    | _, _ => none
  | _, _ => none
theorem o_eqE (hu : X.A.units + 64 < cLine) : OpR X (compareOp .Eq) (rO G (opEqE false)) := by
  intro pins s σ H v u vv uv Q I rv ru h
  obtain ⟨ms, st, x, y, S, rx, ry, k⟩ := h
  unfold opEqE at k
  split at k
  · split at k
    · rename_i a b e1 e2
      obtain ⟨p, vs, rfl, _, h1, h2⟩ := S.ref e1 rx
      obtain ⟨q, us, rfl, _, h3, h4⟩ := S.ref e2 ry
      cases rv
      cases ru
      obtain ⟨its, r1, pl1, z1⟩ := I.list (SqL.of h1)
      obtain ⟨jts, r2, pl2, z2⟩ := I.list (SqL.of h3)
      have l1 : its.length = a.length := by rw [← h2.length, r1.length]
      have l2 : jts.length = b.length := by rw [← h4.length, r2.length]
      show wpAny (model X.prog X.w) X.A (richCompare .Eq (.ref p) (.ref q)) (EP X pins σ Q) X.xe s
      split at k
      · rename_i hne
        exact SeqAt.RcAt.lists_lengths pl1.isList pl2.isList (by simp only [List.size_toArray, l1, l2]; simpa using hne) (by omega) X.prog X.w X.xe _ ⟨.bl false, H, I, rfl, OkO.bl S k⟩
      · split at k
        · rename_i hle hae
          subst hae
          have e3 : its = [] := List.eq_nil_of_length_eq_zero l1
          have e4 : jts = [] := List.eq_nil_of_length_eq_zero (by rw [l2]; simp at hle; exact hle.symm)
          subst e3 e4
          exact SeqAt.RcAt.lists (e := fun _ => true) pl1.isList pl2.isList rfl (by omega) (fun j h1 _ => absurd h1 (by simp)) X.prog X.w X.xe _ ⟨.bl true, H, I, rfl, OkO.bl S k⟩
        · exact k.elim
    · exact k.elim
  · exact k.elim
theorem o_neE (hu : X.A.units + 64 < cLine) : OpR X (compareOp .NotEq) (rO G (opEqE true)) := by
  intro pins s σ H v u vv uv Q I rv ru h
  obtain ⟨ms, st, x, y, S, rx, ry, k⟩ := h
  unfold opEqE at k
  split at k
  · split at k
    · rename_i a b e1 e2
      obtain ⟨p, vs, rfl, _, h1, h2⟩ := S.ref e1 rx
      obtain ⟨q, us, rfl, _, h3, h4⟩ := S.ref e2 ry
      cases rv
      cases ru
      obtain ⟨its, r1, pl1, z1⟩ := I.list (SqL.of h1)
      obtain ⟨jts, r2, pl2, z2⟩ := I.list (SqL.of h3)
      have l1 : its.length = a.length := by rw [← h2.length, r1.length]
      have l2 : jts.length = b.length := by rw [← h4.length, r2.length]
      show wpAny (model X.prog X.w) X.A (richCompare .NotEq (.ref p) (.ref q)) (EP X pins σ Q) X.xe s
      split at k
      · rename_i hne
        exact SeqAt.RcNeAt.lists_lengths pl1.isList pl2.isList (by simp only [List.size_toArray, l1, l2]; simpa using hne) (by omega) X.prog X.w X.xe _ ⟨.bl true, H, I, rfl, OkO.bl S k⟩
      · split at k
        · rename_i hle hae
          subst hae
          have e3 : its = [] := List.eq_nil_of_length_eq_zero l1
          have e4 : jts = [] := List.eq_nil_of_length_eq_zero (by rw [l2]; simp at hle; exact hle.symm)
          subst e3 e4
          exact SeqAt.RcNeAt.lists (e := fun _ => true) pl1.isList pl2.isList rfl (by omega) (fun j h1 _ => absurd h1 (by simp)) X.prog X.w X.xe _ ⟨.bl false, H, I, rfl, OkO.bl S k⟩
        · exact k.elim
    · exact k.elim
  · exact k.elim
/-! ### bools among ints -/
def b2 (b : Bool) : Int := if b = true then 1 else 0
def opAddB : D → D → O D
  | .bl b, .int j => fun st => some (.int (b2 b + j), st)
  | x, y => opAdd x y
def opSubB : D → D → O D
  | .bl b, .int j => fun st => some (.int (b2 b - j), st)
  | x, y => opSub x y
theorem op_add_bi : OpR X (binaryOp .Add) (fun x y H Q => ∃ b j, x = .bl b ∧ y = .int j ∧ Q (.int (b2 b + j)) H) := by
  intro pins s σ H x y v u Q I rx ry h
  obtain ⟨b, j, rfl, rfl, q⟩ := h
  cases rx
  obtain ⟨t, rfl⟩ := ry
  exact PySem.IntBool.add_bool_int ⟨.int (b2 b + j), H, I.tok _, ⟨_, rfl⟩, q⟩
theorem op_sub_bi : OpR X (binaryOp .Sub) (fun x y H Q => ∃ b j, x = .bl b ∧ y = .int j ∧ Q (.int (b2 b - j)) H) := by
  intro pins s σ H x y v u Q I rx ry h
  obtain ⟨b, j, rfl, rfl, q⟩ := h
  cases rx
  obtain ⟨t, rfl⟩ := ry
  exact PySem.IntBool.sub_bool_int ⟨.int (b2 b - j), H, I.tok _, ⟨_, rfl⟩, q⟩
theorem o_addB (hK : X.K = G.K) : OpR X (binaryOp .Add) (rO G opAddB) := OpR_imp (op_add_bi.or (o_add hK)) fun v u H Q ⟨ms, st, x, y, S, rx, ry, k⟩ => by
  unfold opAddB at k
  split at k
  · simp only [RV] at rx ry
    subst rx ry
    exact .inl ⟨_, _, rfl, rfl, OkO.int S k⟩
  · exact .inr ⟨ms, st, x, y, S, rx, ry, k⟩
theorem o_subB : OpR X (binaryOp .Sub) (rO G opSubB) := OpR_imp (op_sub_bi.or o_sub) fun v u H Q ⟨ms, st, x, y, S, rx, ry, k⟩ => by
  unfold opSubB at k
  split at k
  · simp only [RV] at rx ry
    subst rx ry
    exact .inl ⟨_, _, rfl, rfl, OkO.int S k⟩
  · exact .inr ⟨ms, st, x, y, S, rx, ry, k⟩
/-! ### tuple * int, text * int -/
def opMulX : D → D → O D
  | .tup a, .int k => fun st => if a ≠ [] ∧ 2 ≤ k ∧ k ≤ 1000 ∧ a.length ≤ 1000 then some (.tup (List.replicate k.toNat a).flatten, st) else none
  | .str x, .int k => fun st => if 1 ≤ k ∧ k ≤ 1000 ∧ 1 ≤ x.length ∧ x.length ≤ 1000 then some (.str (if k = 1 then x else ⟨(List.replicate k.toNat x.cps).foldl (· ++ ·) #[]⟩), st) else none
  | x, y => opMul x y
theorem len_foldl : ∀ (n : Nat) (a b : Array Nat), ((List.replicate n a).foldl (· ++ ·) b).size = b.size + n * a.size
  | 0, a, b => by simp
  | n + 1, a, b => by
    rw [List.replicate_succ, List.foldl_cons, len_foldl n a (b ++ a), Array.size_append, Nat.succ_mul]
    omega
theorem op_mul_str : OpR X (binaryOp .Mult) (fun x y H Q => ∃ z k, x = .str z ∧ y = .int k ∧ (1 ≤ k ∧ k ≤ 1000 ∧ 1 ≤ z.length ∧ z.length ≤ 1000) ∧ Q (.str (if k = 1 then z else ⟨(List.replicate k.toNat z.cps).foldl (· ++ ·) #[]⟩)) H) := by
  intro pins s σ H x y v u Q I rx ry h
  obtain ⟨z, k, rfl, rfl, ⟨h1, h2, h3, h4⟩, q⟩ := h
  obtain ⟨t, rfl⟩ := rx
  obtain ⟨t2, rfl⟩ := ry
  refine P.mul_str (by rw [decide_eq_false (by omega), decide_eq_false (by omega)]; rfl) (fun _ _ => ?_) (fun _ _ => ?_) ?_
  · have a1 : (z.length : Int) ≤ (2 ^ 63 - 1) / k := by
      rw [Int.le_ediv_iff_mul_le (by omega)]
      have a2 : (z.length : Int) * k ≤ 1000 * k := Int.mul_le_mul_of_nonneg_right (by omega) (by omega)
      omega
    omega
  · have a1 : z.length * k.toNat ≤ 1000 * 1000 := Nat.mul_le_mul h4 (by omega)
    show decide _ = false
    rw [sizeLine_eq]
    exact decide_eq_false (by omega)
  · rw [if_neg (by omega)]
    by_cases hk : k = 1
    · subst hk
      rw [if_pos (by simp)]
      rw [if_pos rfl] at q
      exact ⟨.str z, H, I, ⟨_, rfl⟩, q⟩
    · rw [if_neg (by simp; omega)]
      rw [if_neg hk] at q
      refine ⟨?_, .str _, H, I.tok _, ⟨_, rfl⟩, q⟩
      show ((List.replicate k.toNat z.cps).foldl (· ++ ·) #[]).size ≤ _
      rw [len_foldl]
      have a1 : k.toNat * z.cps.size ≤ 1000 * 1000 := Nat.mul_le_mul (by omega) h4
      rw [sizeLine_eq]
      simp
      omega
theorem o_mulX (hK : X.K = G.K) : OpR X (binaryOp .Mult) (rO G opMulX) := OpR_imp (op_repT.or (op_mul_str.or o_mul)) fun v u H Q ⟨ms, st, x, y, S, rx, ry, k⟩ => by
  unfold opMulX at k
  split at k
  · simp only [RV] at rx ry
    obtain ⟨p, vs, rfl, h1, h2⟩ := rx
    subst ry
    split at k
    · rename_i hc
      obtain ⟨c1, c2, c3, c4⟩ := hc
      refine .inl ⟨p, _, vs, rfl, rfl, by rw [hK]; exact h1.t, fun e => c1 ?_, c2, c3, by rw [h2.length]; exact c4, OkO.tup S (h2.repf _) k⟩
      have := h2.length
      rw [e] at this
      exact List.eq_nil_of_length_eq_zero this.symm
    · exact k.elim
  · simp only [RV] at rx ry
    subst rx ry
    split at k
    · rename_i hc
      exact .inr (.inl ⟨_, _, rfl, rfl, hc, OkO.str S k⟩)
    · exact k.elim
  · exact .inr (.inr ⟨ms, st, x, y, S, rx, ry, k⟩)
/-! ### repr, str -/
def opRepr : List D → O D
  | [.int i] => fun st => if i.natAbs.log2 < 1920 then some (.str (toString i), st) else none
  | [.bl b] => fun st => some (.str (if b then "True" else "False"), st)
  | [.non] => fun st => some (.str "None", st)
  | _ => fun _ => none
theorem call_reprB : CallR X (.builtin "repr") (fun xs H Q => (∃ b, xs = [.bl b] ∧ Q (.str (if b then "True" else "False")) H) ∨ (xs = [.non] ∧ Q (.str "None") H)) := by
  intro pins s σ H xs us Q I r h
  rcases h with ⟨b, rfl, q⟩ | ⟨rfl, q⟩
  · obtain ⟨u, rfl, r1⟩ := vals1 r
    cases r1
    exact PySem.P.repr_of_bool ⟨.str _, H, I.tok _, ⟨_, rfl⟩, q⟩
  · obtain ⟨u, rfl, r1⟩ := vals1 r
    cases r1
    exact PySem.P.repr_of_none ⟨.str _, H, I.tok _, ⟨_, rfl⟩, q⟩
theorem c_repr : CallR X (.builtin "repr") (rN G opRepr) := CallR_imp (CallR.or SkE.call_repr_int call_reprB) fun vs H Q ⟨ms, st, ds, S, rs, k⟩ => by
  unfold opRepr at k
  split at k
  · obtain ⟨v, rfl, rv⟩ := rs.one'
    simp only [RV] at rv
    subst rv
    split at k
    · rename_i hc
      exact .inl ⟨_, rfl, hc, OkO.str S k⟩
    · exact k.elim
  · obtain ⟨v, rfl, rv⟩ := rs.one'
    simp only [RV] at rv
    subst rv
    exact .inr (.inl ⟨_, rfl, OkO.str S k⟩)
  · obtain ⟨v, rfl, rv⟩ := rs.one'
    simp only [RV] at rv
    subst rv
    exact .inr (.inr ⟨rfl, OkO.str S k⟩)
  · exact k.elim
theorem _root_.PySem.P.str_of_bool' {prog : Program} {w : World} {A : Around} {E : Value → Shared → Prop} {s : Shared} {b : Bool} {Q : Value → Shared → Prop} (h : Q (.str (if b then "True" else "False") s.toks) { s with toks := s.toks + 1 }) : wpAny (model prog w) A (call (.type "str") [.bool b]) Q E s :=
  callType_new F.called_str (by decide) (F.typeCall_str_1 _) (F.newCall_str_1 _) (fun obj => F.args_object_init_2 obj _) F.entry_str_new
    (meets_str_new (S := fun _ R s => R (.ok (.ret (.str (if b then "True" else "False") s.toks))) { s with toks := s.toks + 1 }) fun _ _ _ _ s hq =>
      wpAny_strOf_gives rfl (PySem.typeIs_bool s b) F.slot_bool_str F.slot_bool_repr F.entry_bool_repr (F.args_bool_repr_1 _) (gives_bool_repr b) hq (hsz := by cases b <;> decide)) ⟨typeIs_str _ _ _, h⟩
def opStrB : List D → O D
  | [.bl b] => fun st => some (.str (if b then "True" else "False"), st)
  | ds => opStr ds
theorem call_strB : CallR X (.type "str") (fun xs H Q => ∃ b, xs = [.bl b] ∧ Q (.str (if b then "True" else "False")) H) := by
  intro pins s σ H xs us Q I r h
  obtain ⟨b, rfl, q⟩ := h
  obtain ⟨u, rfl, r1⟩ := vals1 r
  cases r1
  exact PySem.P.str_of_bool' ⟨.str _, H, I.tok _, ⟨_, rfl⟩, q⟩
theorem c_strB : CallR X (.type "str") (rN G opStrB) := CallR_imp (CallR.or call_strB c_str) fun vs H Q ⟨ms, st, ds, S, rs, k⟩ => by
  unfold opStrB at k
  split at k
  · obtain ⟨v, rfl, rv⟩ := rs.one'
    simp only [RV] at rv
    subst rv
    exact .inl ⟨_, rfl, OkO.str S k⟩
  · exact .inr ⟨ms, st, ds, S, rs, k⟩
/-! ### {} -/
def eNewD : E := fun _ st => .ok (.ref st.length) (st ++ [.dct])
theorem e_newD {pos : Pos} : PE X (.Dict [] [] pos) (tE G W eNewD) := PE_weak pe_dnewK fun σ H Q ⟨ms, st, env, S, _, k⟩ p hp => by
  refine k (.ref p) (ms ++ [p]) _ (Gr.new hp [p]) (S.new hp (show CellOk G _ _ p .dct from upd_same)) ?_
  simp only [RV]
  exact ⟨p, rfl, by rw [List.getElem?_append_right (by rw [S.len]; exact Nat.le_refl _), S.len]; simp⟩
/-! ### isinstance(x, (list, tuple)) -/
def ansLT : Kd → Option Bool
  | .tup => some true
  | .lst => some true
  | .ins _ => none
  | _ => some false
def opIsiLT : List D → O D
  | [x, .tup [.ty a, .ty b]] => fun st => if a = "list" ∧ b = "tuple" then match kind x st with
      | some k => match ansLT k with
        | some r => some (.bl r, st)
        | none => none
      | none => none
    else none
  | _ => fun _ => none
theorem kitLT {K : PySem.W.Frag} {G : Gx} {k : Kd} {r : Bool} (h : ansLT k = some r) : ∃ t, KdT G k t ∧ PySem.W.kitAny K t [.type "list", .type "tuple"] = some r := by
  have no : ∀ t : String, kitB t "list" = some false → kitB t "tuple" = some false → PySem.W.kitAny K (.type t) [.type "list", .type "tuple"] = some false := fun t h1 h2 =>
    kitAny_cons (kit_ty h1) (fun _ => kitAny_cons (kit_ty h2) (fun _ => rfl) (fun z => by cases z)) (fun z => by cases z)
  cases k with
  | ins c => cases h
  | non => cases h; exact ⟨_, rfl, no _ (by decide +kernel) (by decide +kernel)⟩
  | bl => cases h; exact ⟨_, rfl, no _ (by decide +kernel) (by decide +kernel)⟩
  | int => cases h; exact ⟨_, rfl, no _ (by decide +kernel) (by decide +kernel)⟩
  | str => cases h; exact ⟨_, rfl, no _ (by decide +kernel) (by decide +kernel)⟩
  | dct => cases h; exact ⟨_, rfl, no _ (by decide +kernel) (by decide +kernel)⟩
  | tup => cases h; exact ⟨_, rfl, kitAny_cons (b := false) (kit_ty (by decide +kernel)) (fun _ => kitAny_cons (b := true) (kit_ty (by decide +kernel)) (fun z => by cases z) (fun _ => rfl)) (fun z => by cases z)⟩
  | lst => cases h; exact ⟨_, rfl, kitAny_cons (b := true) (kit_ty (by decide +kernel)) (fun z => by cases z) (fun _ => rfl)⟩
theorem isi_lt (hK : X.K = G.K) : CallR X (.builtin "isinstance") (rN G opIsiLT) := CallR_imp (CallR.or call_isiT call_isiK) fun vs H Q ⟨ms, st, ds, S, r, k⟩ => by
  unfold opIsiLT at k
  split at k
  · obtain ⟨v, u, rfl, rv, ru⟩ := r.two'
    split at k
    · rename_i hab
      obtain ⟨rfl, rfl⟩ := hab
      split at k
      · rename_i kd e
        split at k
        · rename_i b e2
          obtain ⟨t, h1, h2⟩ := kitLT (K := X.K) (G := G) e2
          simp only [RV] at ru
          obtain ⟨p, us, rfl, hu, ru⟩ := ru
          obtain ⟨u1, u2, rfl, r1, r2⟩ := ru.two'
          simp only [RV] at r1 r2
          subst r1 r2
          rcases hu with hu | ⟨o, its, n, hk, hc, hd, hz, hv⟩
          · exact .inl ⟨v, p, _, t, _, b, rfl, hu, .cons (.ty _) (.cons (.ty _) .nil), by rw [hK]; exact kd_ok S rv e h1, h2, OkO.bl S k⟩
          · obtain ⟨oc, od, dt, sl⟩ := o
            simp only at hc hd
            subst hc hd
            have e5 : its = (its.toList).toArray := by simp
            have e6 := ClsV.all (.cons (.ty _) (.cons (.ty _) .nil)) hv
            refine .inr ⟨v, p, od, [.type "list", .type "tuple"], n, sl, t, b, rfl, ?_, by rw [hK]; exact kd_ok S rv e h1, h2, OkO.bl S k⟩
            rw [hK, hk, ← e6]
        · exact k.elim
      · exact k.elim
    · exact k.elim
  · exact k.elim
/-! ### o.m() -/
theorem e_meth0 {k j : Nat} {f : Addr} {fd : FuncData} {ps : List Str} {c : Nat} {m : String} {mS : Str} {pos apos : Pos} {o : Expr} {g : F} {fa : E} {pl : Sem Bool} (hmS : mS = Str.ofString m) (he : PE X o (tE G W fa)) (hc : Cls X.K (G.tb c)) (hm : Meth X.K (G.tb c) mS f)
    (T : FnOk X.prog X.w X.K X.mg X.base (L2.CX X.prog X.w) j f fd ps (spF G g)) (hr : Room k X.A) (hb : Binds X.K fd ps []) (tk : Takes X W) (hj : j ≤ k := by decide)
    (ht : eval (.Call (.Attribute o mS apos) [] [] pos) X.env = (do
      let ov ← eval o X.env
      standAt apos.atName
      let (f, first) ← holding [ov] (getMethod ov mS pl)
      callWith pos f first (backTo pos (starEach [] X.env)) (backToKw pos (keywordEach [] X.env))) := by rfl) :
    PE X (.Call (.Attribute o mS apos) [] [] pos) (tE G W (eMeth c m g fa [])) := PE_weak (pe_methS0 (E := WE W) he hc hm T (hr.mono hj) hb (fun σ => passAt tk σ) ht) fun σ H Q h => by
  rw [hmS]
  refine tX_mono (tX_bind h) fun v H1 ⟨ms, st, env, x, S, r, r1, k⟩ => ?_
  split at k
  · split at k
    · rename_i c' fs' e
      split at k
      · rename_i hc
        obtain ⟨rfl, hl⟩ := hc
        have r1' := r1
        obtain ⟨a, dx, gs, rfl, _, h1, h2⟩ := S.ins e r1
        exact ⟨a, dx, gs, rfl, h1, h2.lookN hl, ms, st, _, S, RVs.one r1', k⟩
      · exact k.elim
    · exact k.elim
  · exact k.elim
end
end LF

set_option Elab.async false
set_option linter.all false
set_option maxRecDepth 100000
set_option maxHeartbeats 4000000
/-! a lambda without parameters, handed to a def that tries it -/
namespace LF
open PySem PySem.Spec PyProof.Rows L2
section
variable {G : Gx} {ms : List Addr} {H H1 : Hp} {st : Sto}
theorem ext_gr (e : LamX.ExtN H H1) : Gr ms H ms H1 := ⟨⟨[], by simp⟩, fun a xs h => e _ _ h (fun ps z => by cases z), fun a o u h => e _ _ h (fun ps z => by cases z)⟩
theorem ext_cell {a : Addr} {c : Cell} (e : LamX.ExtN H H1) (h : CellOk G ms H a c) : H1 a = H a := by
  obtain ⟨o, ho, _, _, _, nc⟩ := h.has
  rw [ho]
  exact e _ _ ho fun ps z => nc (.inr (.inr (.inr (.inr (.inl ⟨ps, z⟩)))))
theorem SRel.extN (S : SRel G ms st H) (e : LamX.ExtN H H1) (t : LamX.Tabs G.T H1) : SRel G ms st H1 :=
  ⟨S.len, S.nd, fun i a c h1 h2 => (S.cell i a c h1 h2).gr (ext_gr e) (ext_cell e (S.cell i a c h1 h2)), fun a d fs z => by
    obtain ⟨gs, h1, h2⟩ := S.xd a d fs z
    exact ⟨gs, e _ _ h1 (fun ps z => by cases z), h2.gr (ext_gr e)⟩, t⟩
theorem re_none : ∀ {σ : L2.St}, RE G ms H (List.replicate σ.length none) σ
  | [] => rfl
  | o :: σ => ⟨o, σ, rfl, re_none⟩
end
theorem PE_up {X : Cx} {e : Expr} {t : TE} (h : PE X e t) : PE X e (fun σ H Q => ∃ Q1 : VK, t σ H Q1 ∧ ∀ v H', Q1 v H' → Q v H') := ⟨fun pins s σ H Q I ⟨Q1, q, k⟩ => wpAny_mono (h.run pins s σ H Q1 I q) (fun u s' z => by
  obtain ⟨v, H', I', r, q⟩ := z
  exact ⟨v, H', I', r, k v H' q⟩) fun _ _ e => e⟩
theorem takes_len {X : Cx} {W : WX} (tk : Takes X W) : Takes X (fun cls d σ H => σ.length = X.N.length → W cls d σ H) := fun u s' x => by
  obtain ⟨a, B, sI, pins, σ, H, cls, d, e, J, nb, up, sky, na, os, ag, w⟩ := x
  exact tk u s' ⟨a, B, sI, pins, σ, H, cls, d, e, J, nb, up, sky, na, os, ag, w J.len⟩
/-- what the def makes of the call's end: n names, what is told in slot i -/
noncomputable def foundR (n i : Nat) (hs : List Hx) (fr : E) (r : Res D) : Res D := match r with
  | .ok d s => match fr ((List.replicate n none).set i (some d)) s with
    | .ok x s' => .ok x s'
    | _ => .bad
  | .exn c fs s => match hGo c fs (List.replicate n none) s hs with
    | .rt d s' => .ok d s'
    | _ => .bad
  | .bad => .bad
noncomputable def eFound (n i : Nat) (hs : List Hx) (fr : E) (th : E) : E := fun env st => foundR n i hs fr (th env st)
abbrev F0 : Value → Option Addr → Hp → Prop := fun _ _ _ => False
def TTf (G : Gx) (n i : Nat) (hs : List Hx) (fr : E) : (XK → Hp → VK → Prop) → Hp → VK → Prop := fun tl H Q =>
  tl (fun cls od H' => ∃ c fs st ms, cls = .ref (G.tb c) ∧ SRel G ms st H' ∧ XRel G ms H' fs od ∧ Okk (RV G) G F0 Q ms H' (foundR n i hs fr (.exn c fs st)))
    H (fun v H' => ∃ ms st d, SRel G ms st H' ∧ RV G ms H' d v ∧ Okk (RV G) G F0 Q ms H' (foundR n i hs fr (.ok d st)))
section
variable {G : Gx} {W : WX} {X : Cx} {σ : L2.St} {H : Hp}
theorem found_gives (h0 : G.xi = none) {Ng : List Str} {x a told q : Str} {sg : Scope} {g : Addr} {cdg : Value} {i : Nat} {hd1 : ExceptHandler} {hds : List ExceptHandler} {l : List Hx} {fr : E} {ret : Expr} {p1 p2 p3 p4 p5 p6 : Pos}
    (hN : Ng.Nodup) (hi : Ng[i]? = some told) (hloc : sg.names.lookup told = some .local) (hst : ∀ f : Addr, (L2.start Ng [V.ref f])[0]? = some (some (V.ref f))) (hln : ∀ f : Addr, (L2.start Ng [V.ref f]).length = Ng.length)
    (hsw : ∀ env : Env, swapsWith (.Call (.Name a p1) [] [] p2) (some (.Name told p5)) p3.line env = pure false)
    (hh : ∀ (s : Shared) (H : Hp), HxOk (cxOf C8.CX0 X.prog X.w X.K X.mg X.base Ng x sg g cdg X.A X.stack s H C8.E0).nox G (hd1 :: hds) l)
    (hr : ∀ (s : Shared) (H : Hp), PE (cxOf C8.CX0 X.prog X.w X.K X.mg X.base Ng x sg g cdg X.A X.stack s H C8.E0).nox ret (tE G W0 fr)) :
    LamX.GivesTo X Ng x sg g cdg [.Try [.Assign [.Name told p5] (.Call (.Name a p1) [] [] p2) p3] (hd1 :: hds) [] [] p4, .Return (some ret) p6] a q (TTf G Ng.length i l fr) := by
  intro f c' s H Q tl act hc h
  let D0 : Ends := { nx := fun _ H' => Q .non H', rt := Q }
  have body : ∀ (W : WX) (pn : List (Addr × Obj)) (xe : Value → Shared → Prop), Takes ((cxOf C8.CX0 X.prog X.w X.K X.mg X.base Ng x sg g cdg X.A X.stack s H C8.E0).nox.tr pn xe) W →
      PassesOwn (model X.prog X.w) (cxOf C8.CX0 X.prog X.w X.K X.mg X.base Ng x sg g cdg X.A X.stack s H C8.E0).nox.A (cxOf C8.CX0 X.prog X.w X.K X.mg X.base Ng x sg g cdg X.A X.stack s H C8.E0).nox.env xe →
      PSs ((cxOf C8.CX0 X.prog X.w X.K X.mg X.base Ng x sg g cdg X.A X.stack s H C8.E0).nox.tr pn xe) [.Assign [.Name told p5] (.Call (.Name a p1) [] [] p2) p3]
        (fun D σ H => ∃ (Ech : XK) (Q1 : VK), (∀ cls d σ' H', Ech cls d H' → σ'.length = Ng.length → W cls d σ' H') ∧ σ[0]? = some (some (.ref f)) ∧ H c' = some (LamX.CodeO c' q) ∧ tl Ech H Q1 ∧ ∀ v H', Q1 v H' → D.nx (σ.set i (some v)) H') := by
    intro W pn xe tk _
    refine ⟨fun pins s' σ H' D I h' => ?_⟩
    obtain ⟨Ech, Q1, hW, h1, h2, h3, h4⟩ := h'
    have hp := act (fun cls d σ' H' => σ'.length = Ng.length → W cls d σ' H') pn xe Ech p1 p2 (takes_len tk) hW
    exact (pss_one (ps_set (i := i) (pos := p3) hN hi (.inl hloc) (PE_up hp) (hsw _) (.inr hloc))).run pins s' σ H' D I ⟨Q1, ⟨h1, h2, h3⟩, h4⟩
  refine ⟨_, pss_cons (ps_try_mix (X := (cxOf C8.CX0 X.prog X.w X.K X.mg X.base Ng x sg g cdg X.A X.stack s H C8.E0).nox) (Wout := W0) rfl rfl LamX.takes0 body (mix_of (hh s H))) (pss_one (ps_ret (hr s H))), ?_⟩
  refine ⟨fun cls od H' => ∃ c fs st ms, cls = .ref (G.tb c) ∧ SRel G ms st H' ∧ XRel G ms H' fs od ∧ Okk (RV G) G F0 Q ms H' (foundR Ng.length i l fr (.exn c fs st)), _, ?_, hst f, hc, h, ?_⟩
  · intro cls od σ' H' hE hl
    obtain ⟨c, fs, st, ms, rfl, S, xr, k⟩ := hE
    refine try_go (W := W0) (ms := ms) (H := H') h0 (hh s H) (e := List.replicate Ng.length none) (st := st) ?_ od σ' ms H' Gr.refl S (by rw [← hl]; exact re_none) xr
    unfold foundR at k
    dsimp only at k
    cases e : hGo c fs (List.replicate Ng.length none) st l with
    | rt d s' =>
      rw [e] at k
      exact fun v m2 H2 g2 S2 r2 => k v m2 H2 g2 S2 r2
    | nx e2 s2 => rw [e] at k; exact k.elim
    | bk e2 s2 => rw [e] at k; exact k.elim
    | ct e2 s2 => rw [e] at k; exact k.elim
    | exn c2 f2 e2 s2 => rw [e] at k; exact k.elim
    | bad => rw [e] at k; exact k.elim
  · rintro v H' ⟨ms, st, d, S, rv, k⟩
    refine ⟨ms, st, (List.replicate Ng.length none).set i (some d), S, RE.set rv i (by rw [← hln f]; exact re_none), ?_⟩
    unfold foundR at k
    dsimp only at k
    cases e : fr ((List.replicate Ng.length none).set i (some d)) st with
    | ok y s' =>
      rw [e] at k
      exact k
    | exn c2 f2 s2 => rw [e] at k; exact k.elim
    | bad => rw [e] at k; exact k.elim
/-- x(lambda: body), x the def that tries it -/
theorem e_found {x a : Str} {g c P : Addr} {k n i : Nat} {st : Stmt} {Ng : List Str} {params : Arguments} {body : Expr} {scope : Scope} {p lpos pos : Pos} {l : List Hx} {fr fe : E} {fg : FuncData} {told : Str} {hd1 : ExceptHandler} {hds : List ExceptHandler} {ret : Expr} {p1 p2 p3 p4 p5 p6 : Pos}
    (h0 : G.xi = none) (Fg : Fun X.K x x st g fg) (hg : Gl X x) (hm : X.mg x = some (.ref g)) (hb : Binds X.K fg [a] []) (Sg : FnScope Ng [a] (defScope st))
    (hbd : defBody st = [.Try [.Assign [.Name told p5] (.Call (.Name a p1) [] [] p2) p3] (hd1 :: hds) [] [] p4, .Return (some ret) p6])
    (hi : Ng[i]? = some told) (hloc : (defScope st).names.lookup told = some .local) (hva : Vis (defScope st) a) (hNg : Ng[0]? = some a)
    (hsw : ∀ env : Env, swapsWith (.Call (.Name a p1) [] [] p2) (some (.Name told p5)) p3.line env = pure false)
    (hh : ∀ (cdg : Value) (s : Shared) (H : Hp), HxOk (cxOf C8.CX0 X.prog X.w X.K X.mg X.base Ng x (defScope st) g cdg X.A X.stack s H C8.E0).nox G (hd1 :: hds) l)
    (hrt : ∀ (cdg : Value) (s : Shared) (H : Hp), PE (cxOf C8.CX0 X.prog X.w X.K X.mg X.base Ng x (defScope st) g cdg X.A X.stack s H C8.E0).nox ret (tE G W0 fr))
    (hn : n = Ng.length) (TB : LamX.TabB X.base X.mg c P) (hcode : X.env.code = .ref c) (hT : G.T = [(P, X.env.qual ++ "<lambda>")]) (hr : Room (k + 2) X.A) (L : LamX.LamS X.env.scope scope) (hdef : defaultsOf params X.env = ([], []))
    (hbind : ∀ (q : Str) (cl : List (Str × Addr)) (pm cv ctv : Value), bindArgs (PySem.W.kla_fn "<lambda>" q params body scope cl pm cv ctv) ⟨[], []⟩ = pure [])
    (hbody : ∀ (A : Around) (outer : List Env) (s : Shared) (H : Hp) (E : XK) (f c' : Addr), Room k (A.deeper (LamX.lamEnv X scope s.heap.objs.size f c')) → PE (LamX.lamCx X A outer s H E scope f c') body (tE G (fun c d _ H => E c d H) fe))
    (hst : ∀ f : Addr, (L2.start Ng [V.ref f])[0]? = some (some (V.ref f)) := by intro _; rfl) (hln : ∀ f : Addr, (L2.start Ng [V.ref f]).length = Ng.length := by intro _; rfl)
    (hdb : (x == ("__debug__" : Str)) = false := by decide) (hd : (a == ("__debug__" : Str)) = false := by decide) (hcd : (a == ("__classdict__" : Str)) = false := by decide) :
    PE X (.Call (.Name x p) [.Lambda params body scope lpos] [] pos) (tE G W (eFound n i l fr fe)) := by
  obtain ⟨oc, od, kV, doc, pm, an, cdv, ct, osl, rfl, lk, hcg⟩ := Fg.ex
  rw [hbd] at lk hb
  subst hn
  have hm1 : (P, X.env.qual ++ "<lambda>") ∈ G.T := by rw [hT]; exact List.mem_singleton.mpr rfl
  refine PE_weak (LamX.pe_lamcall (T := G.T) (TT := TTf G Ng.length i l fr) (t := fun E => tE G (fun c d _ H => E c d H) fe) (dV := .none) hg hm Fg.kp lk hcg hb Sg hNg hva (found_gives h0 Sg.nd hi hloc hst hln hsw (hh cdv) (hrt cdv)) TB hcode hm1
    (fun q hq _ => by rw [hT] at hq; rw [List.mem_singleton.mp hq]) hr L hdef hbind hbody hdb hd hcd) fun σ H Q q => ?_
  obtain ⟨ms, st, env, S, re, q⟩ := q
  refine ⟨S.tabs, fun H1 eN t1 => ?_⟩
  have S1 := S.extN eN t1
  have g1 := ext_gr (ms := ms) eN
  refine ⟨ms, st, env, S1, re.gr g1, ?_⟩
  unfold eFound at q
  have q1 := Okk.gr g1 q
  cases e : fe env st with
  | ok d s =>
    rw [e] at q1
    intro v m2 H2 g2 S2 r2
    refine ⟨m2, s, d, S2, r2, ?_⟩
    have q2 := Okk.gr g2 q1
    revert q2
    cases ef : foundR Ng.length i l fr (.ok d s) with
    | ok y t => exact fun z => z
    | exn c2 f2 t2 =>
      exfalso
      unfold foundR at ef
      dsimp only at ef
      split at ef <;> cases ef
    | bad => exact fun z => z.elim
  | exn c2 fs s =>
    rw [e] at q1
    intro od m2 H2 g2 S2 xr
    refine ⟨c2, fs, s, m2, rfl, S2, xr, ?_⟩
    have q2 := Okk.gr g2 q1
    revert q2
    cases ef : foundR Ng.length i l fr (.exn c2 fs s) with
    | ok y t => exact fun z => z
    | exn c3 f3 t3 =>
      exfalso
      unfold foundR at ef
      dsimp only at ef
      split at ef <;> cases ef
    | bad => exact fun z => z.elim
  | bad =>
    rw [e] at q1
    exact q1.elim
end
end LF

set_option Elab.async false
set_option linter.all false
set_option maxRecDepth 100000
set_option maxHeartbeats 4000000
/-! stars in displays, list(range), tuple * int, two places set, a def whose code object is known, the end -/
namespace LF
open PySem PySem.Spec PyProof.Rows L2
section
variable {G : Gx} {W : WX} {X : Cx} {σ : L2.St} {H : Hp}
/-! ### stars -/
def eArgsX : List (Bool × E) → Sl → M (List D)
  | [], _ => fun st => .ok [] st
  | (false, a) :: as, env => fun st => (a env st).bind fun x s => (eArgsX as env s).bind fun xs s => .ok (x :: xs) s
  | (true, a) :: as, env => fun st => (a env st).bind fun x s => match seqOf x s with
    | some ds => (eArgsX as env s).bind fun xs s => .ok (ds ++ xs) s
    | none => .bad
def eBltX (op : List D → O D) (as : List (Bool × E)) : E := fun env st => (eArgsX as env st).bind fun xs s => ofO (op xs s)
theorem x_nil : PA X [] (tA G W (eArgsX [])) := PA_weak pa_nil fun σ H Q ⟨ms, st, env, S, _, k⟩ => k [] ms H Gr.refl S (by simp only [RVs])
theorem x_cons {e : Expr} {es : List Expr} {fa : E} {fs : List (Bool × E)} (ha : PE X e (tE G W fa)) (hr : PA X es (tA G W (eArgsX fs))) (hs : starEach (e :: es) X.env = (false, eval e X.env) :: starEach es X.env := by rfl) : PA X (e :: es) (tA G W (eArgsX ((false, fa) :: fs))) :=
  PA_weak (pa_cons ha hr hs) fun σ H Q h => by
    obtain ⟨ms, st, env, S, r, k⟩ := h
    exact ⟨ms, st, env, S, r, Okk.bind k fun x s v m1 H1 g1 S1 r1 k1 => ⟨m1, s, env, S1, r.gr g1, Okk.bind k1 fun xs s2 vs m2 H2 g2 S2 r2 k2 =>
      k2 (v :: vs) m2 H2 Gr.refl S2 (by simp only [RVs]; exact ⟨v, vs, rfl, RV.gr g2 _ _ r1, r2⟩)⟩⟩
theorem x_star {e : Expr} {es : List Expr} {p : Pos} {fa : E} {fs : List (Bool × E)} (hK : X.K = G.K) (ha : PE X e (tE G W fa)) (hr : PA X es (tA G W (eArgsX fs))) (hs : starEach (.Starred e p :: es) X.env = (true, eval e X.env) :: starEach es X.env := by rfl) : PA X (.Starred e p :: es) (tA G W (eArgsX ((true, fa) :: fs))) :=
  PA_weak (StX.pa_star ha hr hs) fun σ H Q h => by
    obtain ⟨ms, st, env, S, r, k⟩ := h
    refine ⟨ms, st, env, S, r, Okk.bind k fun x s v m1 H1 g1 S1 r1 k1 => ?_⟩
    cases e1 : seqOf x s with
    | none => rw [e1] at k1; exact k1.elim
    | some ds =>
      rw [e1] at k1
      obtain ⟨a, vs, rfl, h1, h2⟩ := seq_ok S1 r1 e1
      exact ⟨a, vs, rfl, by rw [hK]; exact h1.symm, m1, s, env, S1, r.gr g1, Okk.bind k1 fun xs s2 us m2 H2 g2 S2 r2 k2 => k2 (vs ++ us) m2 H2 Gr.refl S2 ((RVs.gr g2 _ _ h2).app r2)⟩
theorem e_tupX {es : List Expr} {x1} {pos : Pos} {fs : List (Bool × E)} (h : PA X es (tA G W (eArgsX fs))) : PE X (.Tuple es x1 pos) (tE G W (eBltX opTup fs)) :=
  PE_weak (pe_tup h) fun σ H Q h => tX_mono (tX_bind h) fun vs H1 ⟨ms, st, env, ds, S, r, r1, k⟩ => by
    have k := k.ofO
    unfold opTup at k
    split at k
    · rename_i hl
      exact ⟨by rw [r1.length]; exact LIM_le hl, OkO.tup S r1 k⟩
    · exact k.elim
/-! ### list(range(n)) -/
def eLRg (a : E) : E := fun env st => (a env st).bind fun x s => match x with
  | .int j => if 0 ≤ j ∧ j ≤ 1000000 then ofO (newL (rngI 0 j.toNat) s) else .bad
  | _ => .bad
theorem rvs_rng {ms : List Addr} {n : Nat} : RVs G ms H (rngI 0 n) (rgV 0 (n : Int)) := by
  have key : ∀ l : List Nat, RVs G ms H (l.map fun i : Nat => D.int (0 + (i : Int))) (l.map fun i => V.int (0 + (i : Nat))) := by
    intro l
    induction l with
    | nil => simp [RVs]
    | cons x l ih =>
      simp only [List.map_cons, RVs]
      exact ⟨_, _, rfl, by simp only [RV], ih⟩
  unfold rngI rgV
  rw [show ((n : Int) - 0).toNat = n by omega]
  exact key _
theorem e_lrg {p p2 pos pos2 : Pos} {a : Expr} {fa : E} (hc : X.calm = true) (hg : Gl X "list") (hm : X.mg "list" = none) (hg2 : Gl X "range") (hm2 : X.mg "range" = none) (ha : PE X a (tE G W fa)) (na : starEach [a] X.env = (false, eval a X.env) :: starEach [] X.env := by rfl)
    (nb : starEach [.Call (.Name "range" p2) [a] [] pos2] X.env = (false, eval (.Call (.Name "range" p2) [a] [] pos2) X.env) :: starEach [] X.env := by rfl) : PE X (.Call (.Name "list" p) [.Call (.Name "range" p2) [a] [] pos2] [] pos) (tE G W (eLRg fa)) :=
  PE_weak (pe_listRg hc hg hm (prg_1 hg2 hm2 ha na) nb) fun σ H Q h => tX_mono (tX_bind h) fun v H1 ⟨ms, st, env, x, S, r, r1, k⟩ => by
    split at k
    · rename_i j
      split at k
      · rename_i hj
        simp only [RV] at r1
        subst r1
        obtain ⟨n, rfl⟩ : ∃ n : Nat, j = n := ⟨j.toNat, by omega⟩
        refine ⟨_, rfl, RgOk.of_le (by omega) (by omega) (by omega) (by omega), OkO.newL S ?_ k.ofO⟩
        rw [show ((n : Int)).toNat = n by omega]
        exact rvs_rng
      · exact k.elim
    · exact k.elim
/-! ### tuple * 1, tuple * 0 -/
theorem tuple_mul1 (l : Addr) (items : Array Value) (n : Nat) (dd : Option Addr) (sl : Array (Option Value)) (u : Tok) :
    Meets (Builtin.«tuple.__mul__» ⟨[.ref l, .int 1 u], []⟩) (fun _ R s => s.heap.get? l = some { cls := .type "tuple", dict := dd, data := .seq items n, slots := sl } ∧ R (.ok (.ret (.ref l))) s) :=
  .of_wp fun prog w A R s h => by
    obtain ⟨hp, g, d, tk, os⟩ := s
    obtain ⟨hl, h⟩ := h
    have f1 := AutoSeq1.idx_int
    wp_walk using wpAny_loadPart' hl
    repeat (first
      | (refine wpAny_ite_false (by decide) ?_; wp_walk using wpAny_loadPart' hl)
      | (refine wpAny_ite_true (by simp) ?_; wp_walk using wpAny_loadPart' hl))
    exact ⟨_, rfl, h⟩
theorem tuple_mul0 (l : Addr) (items : Array Value) (n : Nat) (dd : Option Addr) (sl : Array (Option Value)) (u : Tok) (c1 : items.isEmpty = false) :
    Meets (Builtin.«tuple.__mul__» ⟨[.ref l, .int 0 u], []⟩) (fun _ R s => s.heap.get? l = some { cls := .type "tuple", dict := dd, data := .seq items n, slots := sl } ∧
      R (.ok (.ret (Value.ref s.heap.objs.size))) { s with heap := s.heap.push { cls := Value.type "tuple", data := Data.seq #[] }, toks := s.toks }) :=
  .of_wp fun prog w A R s h => by
    obtain ⟨hp, g, d, tk, os⟩ := s
    obtain ⟨hl, h⟩ := h
    have f1 := AutoSeq1.idx_int
    wp_walk using wpAny_loadPart' hl
    repeat (first
      | (refine wpAny_ite_false (by decide) ?_; wp_walk using wpAny_loadPart' hl)
      | (refine wpAny_ite_false (by rw [c1]; decide) ?_; wp_walk using wpAny_loadPart' hl)
      | (refine wpAny_ite_true (by simp) ?_; wp_walk using wpAny_loadPart' hl))
    exact ⟨_, rfl, h⟩
theorem op_rep01 : OpR X (binaryOp .Mult) (fun x y H Q => (∃ l xs, x = .ref l ∧ y = .int 1 ∧ SqT X.K H l xs ∧ Q (.ref l) H) ∨ ∃ l xs, x = .ref l ∧ y = .int 0 ∧ SqT X.K H l xs ∧ xs ≠ [] ∧ ∀ p, H p = none → Q (.ref p) (upd H p (.tup []))) := by
  intro pins s σ H x y v u Q I rx ry h
  rcases h with ⟨l, xs, rfl, rfl, hT, q⟩ | ⟨l, xs, rfl, rfl, hT, hne, q⟩
  · cases rx
    obtain ⟨t, rfl⟩ := ry
    obtain ⟨its, r, ⟨⟨cls, dd, data, sl⟩, ho, hc, n, hd⟩, hs⟩ := I.tuple hT
    simp only at hc hd
    subst hc hd
    exact wpAny_binaryOp_repeat_ref (T := "tuple") (U := "int") (by decide) ⟨_, ho, rfl⟩ (fun s' => typeIs_int s' 1 t) noFill_tuple_mul F.fills_int_mul F.slot_int_rmul repeat_tuple F.slot_int_index.lookup
      (call_meets F.slot_int_rmul (typeIs_int s 1 t) F.entry_int_rmul (F.args_int_rmul_2 _ _) (int_rmul_tuple 1 t l its.toArray n dd sl)
        ⟨ho, rfl, ⟨_, ho, rfl⟩, call_meets F.slot_tuple_mul ⟨_, ho, rfl⟩ F.entry_tuple_mul (F.args_tuple_mul_2 _ _) (tuple_mul1 l its.toArray n dd sl t) ⟨ho, ⟨.ref l, H, I, rfl, q⟩⟩⟩)
  · cases rx
    obtain ⟨t, rfl⟩ := ry
    obtain ⟨its, r, ⟨⟨cls, dd, data, sl⟩, ho, hc, n, hd⟩, hs⟩ := I.tuple hT
    simp only at hc hd
    subst hc hd
    have hi : its.toArray.isEmpty = false := by
      cases its with
      | nil =>
        cases r
        exact absurd rfl hne
      | cons a b => rfl
    refine wpAny_binaryOp_repeat_ref (T := "tuple") (U := "int") (by decide) ⟨_, ho, rfl⟩ (fun s' => typeIs_int s' 0 t) noFill_tuple_mul F.fills_int_mul F.slot_int_rmul repeat_tuple F.slot_int_index.lookup
      (call_meets F.slot_int_rmul (typeIs_int s 0 t) F.entry_int_rmul (F.args_int_rmul_2 _ _) (int_rmul_tuple 0 t l its.toArray n dd sl)
        ⟨ho, rfl, ⟨_, ho, rfl⟩, call_meets F.slot_tuple_mul ⟨_, ho, rfl⟩ F.entry_tuple_mul (F.args_tuple_mul_2 _ _) (tuple_mul0 l its.toArray n dd sl t hi) ⟨ho, ?_⟩⟩)
    refine ⟨.ref s.heap.objs.size, _, I.laid (t' := s.toks) (o := .tup []) (fun b ob q => Heap.get?_push_of_some _ q) (Nat.le_refl _) ?_, rfl, q _ (I.hok.fresh (Nat.le_refl _))⟩
    exact ⟨Nat.zero_le _, [], .nil, IsTup.new _ _⟩
/-- tuple * any small number -/
def opMulY : D → D → O D
  | .tup a, .int k => fun st => if a ≠ [] ∧ 0 ≤ k ∧ k ≤ 1000 ∧ a.length ≤ 1000 then some (.tup (List.replicate k.toNat a).flatten, st) else none
  | x, y => opMulX x y
theorem o_mulY (hK : X.K = G.K) : OpR X (binaryOp .Mult) (rO G opMulY) := OpR_imp (op_rep01.or (o_mulX hK)) fun v u H Q ⟨ms, st, x, y, S, rx, ry, k⟩ => by
  unfold opMulY at k
  split at k
  · rename_i a j
    split at k
    · rename_i hc
      obtain ⟨c1, c2, c3, c4⟩ := hc
      by_cases h2 : 2 ≤ j
      · refine .inr ⟨ms, st, .tup a, .int j, S, rx, ry, ?_⟩
        simp only [opMulX]
        rw [if_pos ⟨c1, h2, c3, c4⟩]
        exact k
      · have rx0 := rx
        simp only [RV] at rx ry
        obtain ⟨p, vs, rfl, h1, h3⟩ := rx
        subst ry
        by_cases hj : j = 1
        · subst hj
          refine .inl (.inl ⟨p, vs, rfl, rfl, by rw [hK]; exact h1.t, ?_⟩)
          have e : (List.replicate (1 : Int).toNat a).flatten = a := by simp
          rw [e] at k
          exact OkO.val S rx0 k
        · obtain rfl : j = 0 := by omega
          have r0 : RVs G ms H ([] : List D) ([] : List V) := by simp [RVs]
          have e0 : (List.replicate (0 : Int).toNat a).flatten = [] := by simp
          rw [e0] at k
          refine .inl (.inr ⟨p, vs, rfl, rfl, by rw [hK]; exact h1.t, fun e => c1 ?_, OkO.tup S r0 k⟩)
          have := h3.length
          rw [e] at this
          exact List.eq_nil_of_length_eq_zero this.symm
    · exact k.elim
  · exact .inr ⟨ms, st, x, y, S, rx, ry, k⟩
/-! ### a[i], b[j] = x, y -/
def sSetV2 (o1 i1 o2 i2 : Nat) (a b : E) : Sm := fun env st => (eArgs [a, b] env st).out env fun ds s => match ds with
  | [x, y] => match env[o1]?, env[i1]?, env[o2]?, env[i2]? with
    | some (some p), some (some i), some (some q), some (some j) => match opSet p i x s with
      | some (_, s1) => match opSet q j y s1 with
        | some (_, s2) => .nx env s2
        | none => .bad
      | none => .bad
    | _, _, _, _ => .bad
  | _ => .bad
theorem set_step {ms : List Addr} {st : Sto} {p i x : D} {vp vi vx : V} {s1 : Sto} (S : SRel G ms st H) (rp : RV G ms H p vp) (ri : RV G ms H i vi) (rx : RV G ms H x vx) (h : opSet p i x st = some ((), s1)) {Q : Hp → Prop} (k : ∀ H', Gr ms H ms H' → SRel G ms s1 H' → Q H') : rSetL vp vi vx H Q := by
  unfold opSet at h
  split at h
  · simp only [RV] at ri
    subst ri
    split at h
    · rename_i ds e2
      obtain ⟨a, vs, rfl, ha, h1, h2⟩ := S.ref e2 rp
      split at h
      · rename_i j e3
        cases h
        obtain ⟨c, _, hc⟩ := S.has ha
        have g : Gr ms H ms (upd H a (.lst (vs.set j vx))) := Gr.cell hc
        exact ⟨a, vs, _, j, rfl, rfl, h1, by rw [h2.length]; exact e3, k _ g (S.put ha ⟨_, upd_same, RVs.gr g _ _ (h2.set j rx)⟩)⟩
      · cases h
    · cases h
  · cases h
theorem s_setV2 {n1 m1 n2 m2 : Str} {o1 i1 o2 i2 : Nat} {a b : Expr} {fa fb : E} {q1 q2 q3 q4 q5 q6 pt pos : Pos} {kt k2 pt2} (hc : X.calm = true) (ha : PA X [a, b] (tA G W (eArgs [fa, fb])))
    (h1 : X.N[o1]? = some n1 := by rfl) (h2 : X.N[i1]? = some m1 := by rfl) (h3 : X.N[o2]? = some n2 := by rfl) (h4 : X.N[i2]? = some m2 := by rfl) (v1 : Vis X.env.scope n1) (v2 : Vis X.env.scope m1) (v3 : Vis X.env.scope n2) (v4 : Vis X.env.scope m2)
    (d1 : (n1 == ("__debug__" : Str)) = false := by decide) (e1 : (n1 == ("__classdict__" : Str)) = false := by decide) (d2 : (m1 == ("__debug__" : Str)) = false := by decide) (e2 : (m1 == ("__classdict__" : Str)) = false := by decide)
    (d3 : (n2 == ("__debug__" : Str)) = false := by decide) (e3 : (n2 == ("__classdict__" : Str)) = false := by decide) (d4 : (m2 == ("__debug__" : Str)) = false := by decide) (e4 : (m2 == ("__classdict__" : Str)) = false := by decide)
    (hn : (assignEach [.Subscript (.Name n1 q1) (.Name m1 q2) q3, .Subscript (.Name n2 q4) (.Name m2 q5) q6] X.env).length = 2 := by rfl) (hst : (assignEach [.Subscript (.Name n1 q1) (.Name m1 q2) q3, .Subscript (.Name n2 q4) (.Name m2 q5) q6] X.env).findIdx? (·.1) = none := by rfl)
    (ha1 : ∀ v, assign (.Subscript (.Name n1 q1) (.Name m1 q2) q3) X.env v = (do
      let ov ← holding [v] (eval (.Name n1 q1) X.env)
      let iv ← holding [v, ov] (eval (.Name m1 q2) X.env)
      standAt q3
      holding [v, ov, iv] (setItem ov iv v)
      release [v, ov, iv] []) := by intro _; rfl)
    (ha2 : ∀ v, assign (.Subscript (.Name n2 q4) (.Name m2 q5) q6) X.env v = (do
      let ov ← holding [v] (eval (.Name n2 q4) X.env)
      let iv ← holding [v, ov] (eval (.Name m2 q5) X.env)
      standAt q6
      holding [v, ov, iv] (setItem ov iv v)
      release [v, ov, iv] []) := by intro _; rfl)
    (hs1 : (assignEach [.Subscript (.Name n1 q1) (.Name m1 q2) q3, .Subscript (.Name n2 q4) (.Name m2 q5) q6] X.env).map (·.2) = assign (.Subscript (.Name n1 q1) (.Name m1 q2) q3) X.env :: (assignEach [.Subscript (.Name n2 q4) (.Name m2 q5) q6] X.env).map (·.2) := by rfl)
    (hs2 : (assignEach [.Subscript (.Name n2 q4) (.Name m2 q5) q6] X.env).map (·.2) = assign (.Subscript (.Name n2 q4) (.Name m2 q5) q6) X.env :: (assignEach [] X.env).map (·.2) := by rfl)
    (hs : swapsWithSole [.Tuple [.Subscript (.Name n1 q1) (.Name m1 q2) q3, .Subscript (.Name n2 q4) (.Name m2 q5) q6] kt pt] (.Tuple [a, b] k2 pt2) pos.line X.env = pure false := by rfl)
    (hw : swappedStores [.Tuple [.Subscript (.Name n1 q1) (.Name m1 q2) q3, .Subscript (.Name n2 q4) (.Name m2 q5) q6] kt pt] (.Tuple [a, b] k2 pt2) X.env = pure none := by rfl)
    (h0 : (assignEach [.Tuple [.Subscript (.Name n1 q1) (.Name m1 q2) q3, .Subscript (.Name n2 q4) (.Name m2 q5) q6] kt pt] X.env).map (·.2) = [assign (.Tuple [.Subscript (.Name n1 q1) (.Name m1 q2) q3, .Subscript (.Name n2 q4) (.Name m2 q5) q6] kt pt) X.env] := by rfl) :
    PS X (.Assign [.Tuple [.Subscript (.Name n1 q1) (.Name m1 q2) q3, .Subscript (.Name n2 q4) (.Name m2 q5) q6] kt pt] (.Tuple [a, b] k2 pt2) pos) (tS G W (sSetV2 o1 i1 o2 i2 fa fb)) :=
  PS_weak (ps_asg (pe_tup ha) (pg_tup hc (pgs_cons (pg_sub (pe_var h1 v1 d1 e1) (pe_var h2 v2 d2 e2) set_list ha1) (pgs_cons (pg_sub (pe_var h3 v3 d3 e3) (pe_var h4 v4 d4 e4) set_list ha2) pgs_nil hs2) hs1) hn hst) hs hw h0) fun K σ H h => by
    refine tX_mono (tX_out (R := RVs G) (k := fun env ds s => match ds with
      | [x, y] => match env[o1]?, env[i1]?, env[o2]?, env[i2]? with
        | some (some p), some (some i), some (some q), some (some j) => match opSet p i x s with
          | some (_, s1) => match opSet q j y s1 with
            | some (_, s2) => .nx env s2
            | none => .bad
          | none => .bad
        | _, _, _, _ => .bad
      | _ => .bad) h) fun vs H1 ⟨ms, st, env, ds, S, r, r1, k⟩ => ?_
    split at k
    · rename_i x y
      split at k
      · rename_i p i q j ep ei eq ej
        split at k
        · rename_i s1 es1
          split at k
          · rename_i s2 es2
            obtain ⟨vx, vy, rfl, rvx, rvy⟩ := r1.two'
            refine ⟨by show 2 ≤ sizeLine; decide, fun t ht => ?_⟩
            have g0 : Gr ms H1 ms (upd H1 t (.tup [vx, vy])) := Gr.new0 ht
            have S0 := S.lay (o := .tup [vx, vy]) ht
            obtain ⟨w1, a1, b1⟩ := r.at ep
            obtain ⟨w2, a2, b2⟩ := r.at ei
            obtain ⟨w3, a3, b3⟩ := r.at eq
            obtain ⟨w4, a4, b4⟩ := r.at ej
            refine ⟨t, [vx, vy], rfl, .inl (.inl upd_same), rfl, vx, [vy], rfl, w1, a1, w2, a2, ?_⟩
            refine set_step S0 (RV.gr g0 _ _ b1) (RV.gr g0 _ _ b2) (RV.gr g0 _ _ rvx) es1 fun H2 g1 S1 => ?_
            have g01 := g0.trans g1
            refine ⟨vy, [], rfl, w3, a3, w4, a4, ?_⟩
            refine set_step S1 (RV.gr g01 _ _ b3) (RV.gr g01 _ _ b4) (RV.gr g01 _ _ rvy) es2 fun H3 g2 S2 => ?_
            exact ⟨rfl, k σ ms H3 (g01.trans g2) S2 (r.gr (g01.trans g2))⟩
          · exact k.elim
        · exact k.elim
      · exact k.elim
    · exact k.elim
/-! ### a def whose code object is known -/
theorem fn_okC {P : Program} {w : World} {mg : Str → Option Value} {base : Heap} {x qual : Str} {st : Stmt} {f c : Addr} {oc kV doc pm ct : Value} {od an : Option Addr} {osl : Array (Option Value)} {N ps : List Str} {k : Nat} {body : Sm}
    (lk : G.K.lookup f = some ⟨oc, od, .func (PySem.W.fnOf x qual (defArgs st) (defBody st) (defScope st) .none kV doc pm an (.ref c) ct), osl⟩) (hcd : PySem.W.codeIn G.K (.ref c) qual = true) (S : FnScope N ps (defScope st))
    (hb : ∀ (A : Around) (outer : List Env) (s : Shared) (H : Hp) (E : XK), Room k (A.deeper (envOfC qual (defScope st) s.heap.objs.size f (.ref c))) →
      PSs (cxOf (L2.CX P w) P w G.K mg base N qual (defScope st) f (.ref c) A outer s H E) (defBody st) (tS G (fun cls d _ H => E cls d H) body)) :
    FnOk P w G.K mg base (L2.CX P w) (k + 1) f (PySem.W.fnOf x qual (defArgs st) (defBody st) (defScope st) .none kV doc pm an (.ref c) ct) ps (spF G (fnS ps.length N.length body)) := by
  have hlen : ∀ vs H Q E, spF G (fnS ps.length N.length body) vs H Q E → vs.length = ps.length := by
    rintro vs H Q E ⟨ms, st, ds, S1, r, q⟩
    unfold fnS at q
    split at q
    · rename_i hl
      rw [r.length, hl]
    · exact q.elim
  refine L2.fn_of lk hcd S hlen fun A outer s H vs Q E hr h => ⟨_, hb A outer s H E hr, ?_⟩
  have hl := hlen vs H Q E h
  obtain ⟨ms, st1, ds, S1, r, q⟩ := h
  have hl2 : ds.length = ps.length := by rw [← r.length]; exact hl
  unfold fnS at q
  rw [if_pos hl2] at q
  refine ⟨ms, st1, ds.map some ++ List.replicate (N.length - ps.length) none, S1, ?_, ?_⟩
  · unfold L2.start
    rw [hl]
    exact RE.start _ r
  · cases e : body (ds.map some ++ List.replicate (N.length - ps.length) none) st1 with
    | nx e1 s1 =>
      rw [e] at q
      exact fun σ' m1 H1 g1 S1 _ => q .non m1 H1 g1 S1 (by simp only [RV])
    | rt d s1 =>
      rw [e] at q
      exact q
    | exn c fs e1 s1 =>
      rw [e] at q
      exact fun od σ' m1 H1 g1 S1 _ x1 => q od m1 H1 g1 S1 x1
    | bk e1 s1 => rw [e] at q; exact q.elim
    | ct e1 s1 => rw [e] at q; exact q.elim
    | bad => rw [e] at q; exact q.elim
end
/-! ### the end, with a table -/
def spLawT (K : PySem.W.Frag) (c : Addr) : Sp := fun vs H Q _ => ∃ (a : Addr) (ns : List Int), vs = [.ref a] ∧ ns.length ≤ 63 ∧ H c = some (.tbl #[]) ∧ SqL K H a (ns.map V.int) ∧ ∀ H', Q (.bl true) H'
theorem end_okT {K : PySem.W.Frag} {tb : Nat → Addr} {P : Program} {w : World} {mg : Str → Option Value} {base : Heap} {k : Nat} {f c : Addr} {q : Str} {fd : FuncData} {g : F} (h : FnOk P w K mg base (L2.CX P w) k f fd ["script"] (spF ⟨K, tb, none, [(c, q)]⟩ g))
    (hg : ∀ ns : List Int, ns.length ≤ 63 → ∀ d st, ((d = .scr ns ∧ st = []) ∨ (d = .ref 0 ∧ st = [.lst (ns.map D.int)])) → ∃ s, g [d] st = .ok (.bl true) s) : FnOk P w K mg base (L2.CX P w) k f fd ["script"] (spLawT K c) := h.imp fun vs H Q E qq => by
  obtain ⟨a, ns, rfl, hl, hT, hS, qq⟩ := qq
  have tabs : LamX.Tabs [(c, q)] H := fun p hp => by
    rw [List.mem_singleton.mp hp]
    exact LamX.TabS.nil hT
  have fin : ∀ (ms : List Addr) (d : D) (st : Sto), ((d = .scr ns ∧ st = []) ∨ (d = .ref 0 ∧ st = [.lst (ns.map D.int)])) → SRel ⟨K, tb, none, [(c, q)]⟩ ms st H → RV ⟨K, tb, none, [(c, q)]⟩ ms H d (.ref a) → spF ⟨K, tb, none, [(c, q)]⟩ g [.ref a] H Q E := fun ms d st hd S r => by
    obtain ⟨s, e⟩ := hg ns hl d st hd
    refine ⟨ms, st, [d], S, RVs.one r, ?_⟩
    rw [e]
    intro v m1 H1 _ _ r
    simp only [RV] at r
    subst r
    exact qq H1
  rcases hS with (hS | ⟨o, hS⟩) | hS
  · refine fin [a] (.ref 0) _ (.inr ⟨rfl, rfl⟩) ⟨rfl, by simp, fun i b cl h1 h2 => ?_, (fun a d fs z => by cases z), tabs⟩ ?_
    · cases i with
      | zero =>
        simp at h1 h2
        subst h1 h2
        exact ⟨_, hS, RVs.ints ns⟩
      | succ i => simp at h1
    · simp only [RV]
      exact ⟨a, rfl, rfl⟩
  · refine fin [] (.scr ns) [] (.inl ⟨rfl, rfl⟩) ⟨rfl, List.nodup_nil, (fun i a c h _ => by simp at h), (fun a d fs z => by cases z), tabs⟩ ?_
    simp only [RV]
    exact ⟨a, rfl, .inl ⟨o, hS⟩⟩
  · refine fin [] (.scr ns) [] (.inl ⟨rfl, rfl⟩) ⟨rfl, List.nodup_nil, (fun i a c h _ => by simp at h), (fun a d fs z => by cases z), tabs⟩ ?_
    simp only [RV]
    exact ⟨a, rfl, .inr hS⟩
end LF

set_option Elab.async false
set_option linter.all false
set_option maxRecDepth 100000
set_option maxHeartbeats 4000000
/-! a call of a variable that holds one of two defs -/
namespace LF
open PySem PySem.Spec PyProof.Rows L2
section
variable {G : Gx} {W : WX} {X : Cx} {σ : L2.St} {H : Hp}
theorem pe_callLS {CX : CXT} {k i : Nat} {f : Addr} {fd : FuncData} {ps : List Str} {sp : Sp} {E : L2.St → XK} {x : Str} {p pos : Pos} {e : Expr} {es : List Expr} {t : TA} (F : FnOk X.prog X.w X.K X.mg X.base CX k f fd ps sp) (hr : Room k X.A) (hN : X.N[i]? = some x) (hv : Vis X.env.scope x) (hk : PySem.W.keepIn X.K (.ref f) = true) (hb : Binds X.K fd ps []) (hx : ∀ σ, PassesAt CX X σ (E σ))
    (ha : PA X (e :: es) t) (hdb : (x == ("__debug__" : Str)) = false := by decide) (hcd : (x == ("__classdict__" : Str)) = false := by decide) (he : starEach (e :: es) X.env = (false, eval e X.env) :: starEach es X.env := by rfl) (hpl : (backTo pos (starEach es X.env)).any (·.1) = false := by rfl) :
    PE X (.Call (.Name x p) (e :: es) [] pos) (fun σ H Q => σ[i]? = some (some (.ref f)) ∧ tCallS sp E t σ H Q) := by
  refine ⟨fun pins s σ H Q I h => ?_⟩
  obtain ⟨hs, ht⟩ := h
  refine wpAny_Call_Name_kw (thn ((pe_var (pos := p) hN hv hdb hcd).run pins s σ H (fun v H1 => v = .ref f ∧ H1 = H) I ⟨.ref f, hs, rfl, rfl⟩) fun u s1 ⟨v, H1, I1, r1, q1⟩ => ?_)
  obtain ⟨rfl, rfl⟩ := q1
  cases r1
  refine PySem.W.callWith_K (h₀ := X.base) I.ok.mod.kin hk (thn (ha.run pos pins s1 σ _ _ I1 ht) fun us s2 ⟨vs, H2, I2, r, q⟩ => ⟨I2.kIn, ?_⟩) he hpl
  exact run_fnS F hr hb (hx σ) I2 r q
theorem PE_or {e : Expr} {t1 t2 : TE} (h1 : PE X e t1) (h2 : PE X e t2) : PE X e (fun σ H Q => t1 σ H Q ∨ t2 σ H Q) :=
  ⟨fun pins s σ H Q I h => h.elim (h1.run pins s σ H Q I) (h2.run pins s σ H Q I)⟩
def eCallV (i n1 n2 : Nat) (g1 g2 : F) (as : List E) : E := fun env st => match env[i]? with
  | some (some (.glo n)) => if n = n1 then eCall g1 as env st else if n = n2 then eCall g2 as env st else .bad
  | _ => .bad
theorem e_callV {k j1 j2 i n1 n2 : Nat} {f1 f2 : Addr} {fd1 fd2 : FuncData} {ps1 ps2 : List Str} {x : Str} {p pos : Pos} {e : Expr} {es : List Expr} {g1 g2 : F} {fs : List E} (T1 : FnOk X.prog X.w X.K X.mg X.base (L2.CX X.prog X.w) j1 f1 fd1 ps1 (spF G g1)) (T2 : FnOk X.prog X.w X.K X.mg X.base (L2.CX X.prog X.w) j2 f2 fd2 ps2 (spF G g2)) (hr : Room k X.A)
    (e1 : G.tb n1 = f1) (e2 : G.tb n2 = f2) (hN : X.N[i]? = some x) (hv : Vis X.env.scope x) (k1 : PySem.W.keepIn X.K (.ref f1) = true) (k2 : PySem.W.keepIn X.K (.ref f2) = true) (b1 : Binds X.K fd1 ps1 []) (b2 : Binds X.K fd2 ps2 []) (tk : Takes X W) (ha : PA X (e :: es) (tA G W (eArgs fs)))
    (h1 : j1 ≤ k := by decide) (h2 : j2 ≤ k := by decide) (hdb : (x == ("__debug__" : Str)) = false := by decide) (hcd : (x == ("__classdict__" : Str)) = false := by decide)
    (he : starEach (e :: es) X.env = (false, eval e X.env) :: starEach es X.env := by rfl) (hpl : (backTo pos (starEach es X.env)).any (·.1) = false := by rfl) :
    PE X (.Call (.Name x p) (e :: es) [] pos) (tE G W (eCallV i n1 n2 g1 g2 fs)) :=
  PE_weak (PE_or (pe_callLS (i := i) (E := WE W) T1 (hr.mono h1) hN hv k1 b1 (fun σ => passAt tk σ) ha hdb hcd he hpl) (pe_callLS (i := i) (E := WE W) T2 (hr.mono h2) hN hv k2 b2 (fun σ => passAt tk σ) ha hdb hcd he hpl)) fun σ H Q h => by
    obtain ⟨ms, st, env, S, r, q⟩ := h
    unfold eCallV at q
    split at q
    · rename_i n en
      obtain ⟨w, a, b⟩ := r.at en
      simp only [RV] at b
      split at q
      · rename_i hn
        rw [hn, e1] at b
        subst b
        exact .inl ⟨a, call_tCall ⟨ms, st, env, S, r, q⟩⟩
      · split at q
        · rename_i hn
          rw [hn, e2] at b
          subst b
          exact .inr ⟨a, call_tCall ⟨ms, st, env, S, r, q⟩⟩
        · exact q.elim
    · exact q.elim
end
end LF

set_option Elab.async false
set_option linter.all false
set_option maxRecDepth 100000
set_option maxHeartbeats 4000000
/-! enumerate of a tuple -/
namespace LF
open PySem PySem.Spec PyProof.Rows L2
open AutoSeq1 (wpAny_loadPart')
theorem meets_enumT (l : Addr) (items : Array Value) (n : Nat) (dct : Option Addr) (sl : Array (Option Value)) :
    Meets (Builtin.«enumerate.__new__» ⟨[.type "enumerate", .ref l], []⟩) (fun _ R s => s.heap.get? l = some { cls := .type "tuple", dict := dct, data := .seq items n, slots := sl } ∧
      R (.ok (.ret (.ref (s.heap.push { cls := .type "tuple_iterator", data := .fields #[.ref l, .int 0 0] }).objs.size)))
        { s with heap := (s.heap.push { cls := .type "tuple_iterator", data := .fields #[.ref l, .int 0 0] }).push { cls := .type "enumerate", data := .fields #[.none, .bool false, .ref s.heap.objs.size, rawInt 0, .none, .none] } }) :=
  .of_wp fun prog w A R s h => by
    obtain ⟨hp, g, d, tk, os⟩ := s; obtain ⟨hl, h⟩ := h
    have hsub := sub_enumerate
    have hL : Heap.IsTuple (Shared.heap ⟨hp, g, d, tk, os⟩) l items := ⟨_, hl, rfl, n, rfl⟩
    wp_walk using wpAny_loadPart' hl
    refine wpAny_stack_any fun st => wpAny_pure ?_
    split
    · rename_i c _ _ _ _ _
      cases (c == Value.type "enumerate")
      · wp_walk using wpAny_loadPart' hl, wpAny_pyIter_tuple hL
        exact ⟨_, rfl, h⟩
      · wp_walk using wpAny_loadPart' hl, wpAny_pyIter_tuple hL
        exact ⟨_, rfl, h⟩
    · wp_walk using wpAny_loadPart' hl, wpAny_pyIter_tuple hL
      exact ⟨_, rfl, h⟩
theorem call_enumT {prog : Program} {w : World} {A : Around} {E : Value → Shared → Prop} {s : Shared} {l : Addr} {items : Array Value} {Q : Value → Shared → Prop} (hL : s.heap.IsTuple l items)
    (h : ∀ h', IsEnum h' (s.heap.objs.size + 1) s.heap.objs.size 0 .none → h'.IsTupleIter s.heap.objs.size l 0 → h'.objs.size = s.heap.objs.size + 2 →
      (∀ b o, s.heap.get? b = some o → h'.get? b = some o) → Q (.ref (s.heap.objs.size + 1)) { s with heap := h' }) :
    wpAny (model prog w) A (call (.type "enumerate") [.ref l]) Q E s := by
  obtain ⟨⟨c, dct, dt, sl⟩, hl, hc, n, hd⟩ := hL
  replace hc : c = .type "tuple" := hc
  replace hd : dt = .seq items n := hd
  subst hc hd
  refine callType_new F.called_enumerate (by decide) (F.typeCall_enumerate_1 _) (F.newCall_enumerate_1 _) (fun obj => F.args_object_init_2 obj _) F.entry_enumerate_new
    (meets_enumT l items n dct sl) ⟨hl, ?_⟩
  have hz : (s.heap.push { cls := .type "tuple_iterator", data := .fields #[.ref l, .int 0 0] }).objs.size = s.heap.objs.size + 1 := Heap.size_push ..
  show _ ∧ _
  rw [hz]
  have he : IsEnum ((s.heap.push { cls := .type "tuple_iterator", data := .fields #[.ref l, .int 0 0] }).push
      { cls := .type "enumerate", data := .fields #[.none, .bool false, .ref s.heap.objs.size, rawInt 0, .none, .none] }) (s.heap.objs.size + 1) s.heap.objs.size 0 .none := by
    have := Heap.get?_push_size (s.heap.push { cls := .type "tuple_iterator", data := .fields #[.ref l, .int 0 0] })
      (o := { cls := .type "enumerate", data := .fields #[.none, .bool false, .ref s.heap.objs.size, rawInt 0, .none, .none] }) rfl
    rw [hz] at this; exact this
  refine ⟨⟨_, he, rfl⟩, h _ he ⟨_, Heap.get?_push_of_some _ (Heap.get?_push_size _ rfl), rfl, rfl⟩ (by rw [Heap.size_push, hz]) fun b o x => Heap.get?_push_of_some _ (Heap.get?_push_of_some _ x)⟩
/-- the tuple at a, each item in a new pair -/
def IteT (K : PySem.W.Frag) (a : Addr) : It :=
  ⟨fun i H => ∃ (xs : List V) (x : V), SqT K H a xs ∧ xs[i]? = some x, fun i H v H' => ∃ T x, v = .ref T ∧ H T = none ∧ H' = upd H T (.tup [.int (i : Nat), x]) ∧ ∀ xs, SqT K H a xs → xs[i]? = some x, fun i H => ∃ xs : List V, SqT K H a xs ∧ xs.length ≤ i⟩
theorem turn_enumT {P : Program} {w : World} {K : PySem.W.Frag} {elts : List Expr} {kk : Nat} {tpos : Pos} (a e it : Addr) :
    Turn P w K (.Tuple elts kk tpos) (IteT K a) [e, it] e (fun i h => (∃ old, IsEnum h e it ((i : Nat) : Int) old) ∧ h.IsTupleIter it a i ∧ e ≠ it) where
  mem := by simp
  obj := fun i h st b hb => by
    obtain ⟨⟨old, he⟩, ⟨o, ho, hc, hd⟩, _⟩ := st
    have e' : b = e ∨ b = it := by simpa using hb
    rcases e' with z | z
    · rw [z]; exact ⟨_, he, fun v q => nomatch q⟩
    · rw [z]; exact ⟨o, ho, fun v q => by rw [hd] at q; cases q⟩
  keep := fun i h h' st k => let ⟨⟨old, he⟩, hi, hne⟩ := st; ⟨⟨old, k e (by simp) _ he⟩, hi.at fun o q => k it (by simp) o q, hne⟩
  item := by
    intro X hP hw hK hc i pins s σ H E I hf st hg
    subst hP hw hK
    obtain ⟨⟨old, he⟩, hit, hne⟩ := st
    obtain ⟨xs, x, hq, hx⟩ := hg
    obtain ⟨its, rv, p, hz⟩ := I.tuple hq
    obtain ⟨u, hu, ru⟩ := rv.get hx
    have hel : e < s.heap.objs.size := Heap.lt_size he
    have hil : it < s.heap.objs.size := by obtain ⟨_, q, _⟩ := hit; exact Heap.lt_size q
    have hT : s.heap.IsTuple a its.toArray := p
    have hai : a ≠ it := fun z => by
      obtain ⟨o, ho, hc1, _⟩ := hT
      obtain ⟨o2, ho2, hc2, _⟩ := hit
      rw [z, ho2] at ho
      cases ho
      rw [hc2] at hc1
      exact absurd hc1 (by simp)
    have hae : e ∉ [it, a] := fun z => by
      simp only [List.mem_cons, List.not_mem_nil, or_false] at z
      rcases z with z | z
      · exact hne z
      · obtain ⟨o, ho, hc1, _⟩ := hT
        rw [← z, he] at ho
        cases ho
        exact absurd hc1 (by simp)
    refine wpAny_pyNext_enum_itemD (Draws.tuple (A := X.A.in1) (I.ok.hd hc) it a hai its.toArray) he ⟨hit, hT⟩ (i := i) (by have := (List.getElem?_eq_some_iff.mp hu).1; simpa using this) hne hae fun u' h' tk hu' ho hit' hT' hsz hk => ?_
    have eu : u' = u := by
      have hu' : its.toArray[i]? = some u' := hu'
      rw [List.getElem?_toArray, hu] at hu'
      exact (Option.some.inj hu').symm
    subst eu
    refine ⟨_, rfl, wpAny_letOwnedTupleGo_enum (s := { s with heap := h', toks := tk + 1 }) ho fun h'' he' sb => ?_⟩
    have hT2 : h''.get? s.heap.objs.size = some { cls := .type "tuple", data := .seq #[.int i tk, u'] } := (sb.2 _ (Nat.ne_of_gt hel)).trans hT'
    have new : ObjOk X.prog X.w (upd H s.heap.objs.size (.tup [.int (i : Nat), x])) h'' s.heap.objs.size (.tup [.int (i : Nat), x]) :=
      ⟨by show 2 ≤ sizeLine; decide, [.int i tk, u'], .cons ⟨_, rfl⟩ (.cons ru .nil), ⟨_, hT2, rfl, _, rfl⟩⟩
    have I1 : Inv X pins σ (upd H s.heap.objs.size (.tup [.int (i : Nat), x])) { s with heap := h'', toks := tk + 1 } :=
      I.turnedNew (ch := [e, it]) (fun b ob hb q => (sb.2 b (fun z => hb (by simp [z]))).trans (hk b ob (fun z => hb (by simp [z])) (fun z => hb (by simp [z])) q)) hf (Nat.le_refl _) new
    refine ⟨.ref s.heap.objs.size, _, I1, rfl, ⟨_, x, rfl, I.hok.fresh (Nat.le_refl _), rfl, fun ys hy => by rw [I.tuple_inj hy hq]; exact hx⟩, ⟨⟨u', ?_⟩, hit'.1.at fun o q => (sb.2 it (Ne.symm hne)).trans q, hne⟩, fun b hb => ?_⟩
    · have e1 : ((i + 1 : Nat) : Int) = (i : Int) + 1 := by omega
      rw [e1]; exact he'
    · have hb' : b < s.heap.objs.size := by
        have e' : b = e ∨ b = it := by simpa using hb
        rcases e' with z | z
        · rw [z]; exact hel
        · rw [z]; exact hil
      rw [upd_ne (Nat.ne_of_lt hb')]
      exact (hf b hb).1
  done := by
    intro X hP hw hK hc i pins s σ H E I hf st hg
    subst hP hw hK
    obtain ⟨⟨old, he⟩, hit, hne⟩ := st
    obtain ⟨xs, hq, hx⟩ := hg
    obtain ⟨its, rv, p, hz⟩ := I.tuple hq
    obtain ⟨f0, f1, f2, f3, f4, f5⟩ := hf it (by simp)
    have hl := rv.length
    have hT : s.heap.IsTuple a its.toArray := p
    have hTy : s.TypeIs (.ref e) "enumerate" := ⟨_, he, rfl⟩
    unfold pyNext
    refine wpAny_bind (wpAny_attempt (wpAny_callSpecial?_slot (name := Str.ofString "__next__") hTy F.slot_enumerate_next
      (wpAny_call_entry F.slot_enumerate_next hTy F.entry_enumerate_next ?_ (F.args_enumerate_next_1 _))))
    show wpAny _ _ (field (.ref e) 2 >>= _) _ _ _
    refine wpAny_bind (wpAny_field he rfl (x := .ref it) rfl ?_)
    refine wpAny_bind (wpAny_nextOf_tuple_end (I.ok.hd hc) hit hT (by simp; omega) fun h' x he' hx' => ?_)
    obtain ⟨o, ho, hc'⟩ := hx'
    refine wpAny_bind (wpAny_isInstance (T := "StopIteration") (b := true) ⟨o, ho, hc'⟩ isSubtype_stop ?_)
    exact wpAny_pure ⟨rfl, I.turned (t' := s.toks) (fun b o hb q => he' b o hb q) f0 f1 f3 f4 f5⟩
  self := fun A i s Q E st h => let ⟨⟨_, he⟩, _⟩ := st; wpAny_pyIter_enum he h
def iEnumLT (K : PySem.W.Frag) (ta : TA) : TI := fun σ H R => ta σ H fun vs H1 => ∃ a, vs = [.ref a] ∧ (((∃ xs, SqL K H1 a xs) ∧ R (Ite K a) H1) ∨ ((∃ xs, SqT K H1 a xs) ∧ R (IteT K a) H1))
theorem pi_enumLT {X : Cx} {e : Expr} {ta : TA} {p pos tpos : Pos} {elts : List Expr} {kk : Nat} (hg : Gl X "enumerate") (hm : X.mg "enumerate" = none) (ha : PA X [e] ta) (hs : starEach [e] X.env = [(false, eval e X.env)] := by rfl) :
    PI X (.Tuple elts kk tpos) (.Call (.Name "enumerate" p) [e] [] pos) (iEnumLT X.K ta) := by
  refine ⟨fun pins s σ H R I h => ?_⟩
  refine Call_ (ld_blt I hg hm boot_enumerate (PyProof.Rows.callWith_type1 (thn (ha.run pos pins s σ H _ I h) fun us s1 ⟨vs, H1, I1, r1, q1⟩ => ?_) hs rfl))
  obtain ⟨a, ex, q⟩ := q1
  subst ex
  cases r1 with
  | cons r rr =>
    cases rr
    cases r
    have fin : ∀ b, b ∈ [s1.heap.objs.size + 1, s1.heap.objs.size] → s1.heap.objs.size ≤ b := fun b hb => by
      have e' : b = s1.heap.objs.size + 1 ∨ b = s1.heap.objs.size := by simpa using hb
      rcases e' with z | z
      · rw [z]; exact Nat.le_add_right _ _
      · rw [z]; exact Nat.le_refl _
    rcases q with ⟨⟨xs, hq⟩, q⟩ | ⟨⟨xs, hq⟩, q⟩
    · obtain ⟨its, rv, p', hz⟩ := I1.list hq
      refine call_enumerate_list p'.isList fun h' he hit hsz hk => wpAny_pyIter_enum he ?_
      have I2 : Inv X pins σ H1 { s1 with heap := h' } := I1.kept (t' := s1.toks) hk
      exact ⟨s1.heap.objs.size + 1, [s1.heap.objs.size + 1, s1.heap.objs.size], _, _, H1, rfl, I2, turn_enum a (s1.heap.objs.size + 1) s1.heap.objs.size, ⟨⟨.none, he⟩, hit, Nat.succ_ne_self _⟩, fun b hb => I1.fpOk (fin b hb) (I1.hok.fresh (fin b hb)), q⟩
    · obtain ⟨its, rv, p', hz⟩ := I1.tuple hq
      refine call_enumT p' fun h' he hit hsz hk => wpAny_pyIter_enum he ?_
      have I2 : Inv X pins σ H1 { s1 with heap := h' } := I1.kept (t' := s1.toks) hk
      exact ⟨s1.heap.objs.size + 1, [s1.heap.objs.size + 1, s1.heap.objs.size], _, _, H1, rfl, I2, turn_enumT a (s1.heap.objs.size + 1) s1.heap.objs.size, ⟨⟨.none, he⟩, hit, Nat.succ_ne_self _⟩, fun b hb => I1.fpOk (fin b hb) (I1.hok.fresh (fin b hb)), q⟩
section
variable {G : Gx} {W : WX} {X : Cx} {σ : L2.St} {H : Hp}
/-- enumerate of a list or a tuple -/
def iEnX (a : E) : Sl → M Its := fun env st => (eArgs [a] env st).bind fun ds s => match ds with
  | [.ref i] => match s[i]? with
    | some (.lst ds) => .ok ⟨enumI ds, some (i, ds)⟩ s
    | _ => .bad
  | [.tup ds] => .ok ⟨enumI ds, none⟩ s
  | _ => .bad
theorem enum_len' {ds : List D} : (enumI ds).length = ds.length := by simp [enumI]
theorem i_enumX {e : Expr} {p pos tpos : Pos} {elts : List Expr} {kk : Nat} {fe : E} (hK : X.K = G.K) (hm : X.mg "enumerate" = none) (ha : PA X [e] (tA G W (eArgs [fe]))) (hg : Gl X "enumerate" := by rfl) (hs : starEach [e] X.env = [(false, eval e X.env)] := by rfl) :
    PI X (.Tuple elts kk tpos) (.Call (.Name "enumerate" p) [e] [] pos) (tI G W (iEnX fe)) :=
  PI_weak (pi_enumLT hg hm ha hs) fun σ H R h => tX_mono (tX_bind h) fun vs H1 ⟨ms, st, env, ds, S, r, r1, k⟩ => by
    rw [hK]
    split at k
    · rename_i i
      obtain ⟨v, rfl, rv⟩ := r1.one'
      split at k
      · rename_i ds e1
        obtain ⟨a, vs, rfl, ha, h1, h2⟩ := S.ref e1 rv
        refine ⟨a, rfl, .inl ⟨⟨vs, SqL.of h1⟩, k _ ms H1 Gr.refl S fun j ms' H' st' g S' ok => ?_⟩⟩
        obtain ⟨b, us, hb, h3, h4⟩ := S'.lst (ok i ds rfl)
        rw [g.at ha] at hb
        cases hb
        have hl : (enumI ds).length = ds.length := enum_len'
        have hul := h4.length
        refine ⟨fun hj => ?_, fun hj => ⟨us, SqL.of h3, by
          have hj : (enumI ds).length ≤ j := hj
          omega⟩⟩
        have hj : j < (enumI ds).length := hj
        have hj' : j < us.length := by omega
        refine ⟨⟨us, us[j], SqL.of h3, by simp [hj']⟩, fun x H2 y => ?_⟩
        obtain ⟨T, w, rfl, hT, rfl, hw⟩ := y
        have e5 := hw us (SqL.of h3)
        obtain ⟨d, e6, r6⟩ := h4.back e5
        refine ⟨.tup [.int (j : Int), d], by simp [enumI, e6], Gr.new0 hT, S'.lay hT, ?_⟩
        simp only [RV]
        refine ⟨T, _, rfl, .inl upd_same, ?_⟩
        simp only [RVs]
        exact ⟨_, _, rfl, by simp only [RV], _, _, rfl, RV.gr (Gr.new0 hT) _ _ r6, rfl⟩
      · exact k.elim
    · rename_i ds
      obtain ⟨v, rfl, rv⟩ := r1.one'
      simp only [RV] at rv
      obtain ⟨a, us, rfl, h1, h2⟩ := rv
      refine ⟨a, rfl, .inr ⟨⟨us, h1.t⟩, k _ ms H1 Gr.refl S fun j ms' H' st' g S' ok => ?_⟩⟩
      have h3 := g.sqT' h1
      have h4 := RVs.gr g _ _ h2
      have hl : (enumI ds).length = ds.length := enum_len'
      have hul := h4.length
      refine ⟨fun hj => ?_, fun hj => ⟨us, h3, by
        have hj : (enumI ds).length ≤ j := hj
        omega⟩⟩
      have hj : j < (enumI ds).length := hj
      have hj' : j < us.length := by omega
      refine ⟨⟨us, us[j], h3, by simp [hj']⟩, fun x H2 y => ?_⟩
      obtain ⟨T, w, rfl, hT, rfl, hw⟩ := y
      have e5 := hw us h3
      obtain ⟨d, e6, r6⟩ := h4.back e5
      refine ⟨.tup [.int (j : Int), d], by simp [enumI, e6], Gr.new0 hT, S'.lay hT, ?_⟩
      simp only [RV]
      refine ⟨T, _, rfl, .inl upd_same, ?_⟩
      simp only [RVs]
      exact ⟨_, _, rfl, by simp only [RV], _, _, rfl, RV.gr (Gr.new0 hT) _ _ r6, rfl⟩
    · exact k.elim
end
end LF

set_option Elab.async false
set_option linter.all false
set_option maxRecDepth 100000
set_option maxHeartbeats 4000000
/-! walks over texts, a text in a text -/
namespace LF
open PySem PySem.Spec PyProof.Rows L2
section
variable {G : Gx} {W : WX} {X : Cx} {σ : L2.St} {H : Hp}
def chars (x : Str) : List D := x.cps.toList.map fun c => D.str ⟨#[c]⟩
def iSs (a : E) : Sl → M LF.Its := fun env st => (a env st).bind fun d s => match d with
  | .str x => .ok ⟨chars x, none⟩ s
  | _ => .bad
theorem RIt.chars {ms : List Addr} {x : Str} : RIt G ms H ⟨chars x, none⟩ (L2.Its x) := fun i ms' H' st' g S ok => by
  have hl : (LF.chars x).length = x.cps.size := by simp [LF.chars]
  refine ⟨fun hi => ⟨?_, fun v H2 y => ?_⟩, fun hi => ?_⟩
  · show i < x.cps.size
    rw [← hl]
    exact hi
  · obtain ⟨rfl, c, hc, rfl⟩ := y
    refine ⟨.str ⟨#[c]⟩, ?_, Gr.refl, S, by simp only [RV]⟩
    show (LF.chars x)[i]? = _
    unfold LF.chars
    rw [List.getElem?_map, Array.getElem?_toList, hc]
    rfl
  · show x.cps.size ≤ i
    rw [← hl]
    exact hi
theorem i_str {tg e : Expr} {fe : E} (he : PE X e (tE G W fe)) : PI X tg e (tI G W (iSs fe)) := PI_weak (pi_str he) fun σ H R h => tX_mono (tX_bind h) fun v H1 ⟨ms, st, env, d, S, r, r1, k⟩ => by
  cases d with
  | str x =>
    simp only [RV] at r1
    subst r1
    exact ⟨x, rfl, k (L2.Its x) ms H1 Gr.refl S RIt.chars⟩
  | _ => exact k.elim
def inS (x y : Str) : Bool := !(Builtin.Str.occurrences y x 0 y.length 1).isEmpty
def opInS (neg : Bool) : D → D → O D
  | .str x, .str y => fun st => some (.bl (if neg then !inS x y else inS x y), st)
  | _, _ => fun _ => none
theorem o_inS : OpR X (compareOp .In) (rO G (opInS false)) := OpR_imp op_in_str fun v u H Q ⟨ms, st, x, y, S, rx, ry, k⟩ => by
  unfold opInS at k
  split at k
  · simp only [RV] at rx ry
    subst rx ry
    exact ⟨_, _, rfl, rfl, OkO.bl S k⟩
  · exact k.elim
theorem o_notinS : OpR X (compareOp .NotIn) (rO G (opInS true)) := OpR_imp op_notIn_str fun v u H Q ⟨ms, st, x, y, S, rx, ry, k⟩ => by
  unfold opInS at k
  split at k
  · simp only [RV] at rx ry
    subst rx ry
    exact ⟨_, _, rfl, rfl, OkO.bl S k⟩
  · exact k.elim
end
end LF

set_option Elab.async false
set_option linter.all false
set_option maxRecDepth 100000
set_option maxHeartbeats 4000000
/-! three names at once -/
namespace LF
open PySem PySem.Spec PyProof.Rows L2
section
variable {G : Gx} {W : WX} {X : Cx} {σ : L2.St} {H : Hp}
theorem RVs.three' {ms : List Addr} {d e f : D} {vs : List V} (h : RVs G ms H [d, e, f] vs) : ∃ v u w, vs = [v, u, w] ∧ RV G ms H d v ∧ RV G ms H e u ∧ RV G ms H f w := by
  simp only [RVs] at h
  obtain ⟨v, r, rfl, h1, u, r2, rfl, h2, w, r3, rfl, h3, rfl⟩ := h
  exact ⟨v, u, w, rfl, h1, h2, h3⟩
def sPar3 (i j l : Nat) (a b c : E) : Sm := fun env st => (eArgs [a, b, c] env st).out env fun ds s => match ds with
  | [x, y, z] => .nx (((env.set i (some x)).set j (some y)).set l (some z)) s
  | _ => .bad
theorem s_par3 {i j l : Nat} {x y z : Str} {a b c : Expr} {fa fb fc : E} {px py pz pt : Pos} {kt k2 pt2} {pos : Pos} (hc : X.calm = true) (hN : X.N.Nodup) (ha : PA X [a, b, c] (tA G W (eArgs [fa, fb, fc]))) (hi : X.N[i]? = some x := by rfl) (hj : X.N[j]? = some y := by rfl) (hl : X.N[l]? = some z := by rfl)
    (hij : i ≠ j := by decide) (hil : i ≠ l := by decide) (hjl : j ≠ l := by decide)
    (hx : X.env.scope.names.lookup x = some .local := by rfl) (hy : X.env.scope.names.lookup y = some .local := by rfl) (hz : X.env.scope.names.lookup z = some .local := by rfl)
    (hw : swappedStores [.Tuple [.Name x px, .Name y py, .Name z pz] kt pt] (.Tuple [a, b, c] k2 pt2) X.env = pure (some [x, y, z]) := by rfl)
    (hs : swapsWithSole [.Tuple [.Name x px, .Name y py, .Name z pz] kt pt] (.Tuple [a, b, c] k2 pt2) pos.line X.env = pure false := by rfl) :
    PS X (.Assign [.Tuple [.Name x px, .Name y py, .Name z pz] kt pt] (.Tuple [a, b, c] k2 pt2) pos) (tS G W (sPar3 i j l fa fb fc)) :=
  PS_weak (ps_par3 hc hN hi hj hl hij hil hjl hx hy hz ha hw hs) fun K σ H h => tX_mono (tX_out (R := RVs G) (k := fun env ds s => match ds with
  | [x, y, z] => .nx (((env.set i (some x)).set j (some y)).set l (some z)) s
  | _ => .bad) h) fun vs H1 ⟨ms, st, env, ds, S, r, r1, k⟩ => by
    split at k
    · obtain ⟨v, u, w, rfl, rv, ru, rw'⟩ := r1.three'
      exact ⟨v, u, w, rfl, k _ ms H1 Gr.refl S (RE.set rw' l (RE.set ru j (RE.set rv i r)))⟩
    · exact k.elim
end
end LF

set_option Elab.async false
set_option linter.all false
namespace LF
open PySem PySem.Spec PyProof.Rows L2
/-! ### promises of results, in plain Lean -/
abbrev XP := Nat → List (String × D) → Sto → Prop
def WpD {α : Type} (X : XP) (Q : α → Sto → Prop) : Res α → Prop
  | .ok a s => Q a s
  | .exn c fs s => X c fs s
  | .bad => False
/-- shut: a unifier that looks into it walks the whole def -/
structure Wp {α : Type} (X : XP) (Q : α → Sto → Prop) (r : Res α) : Prop where
  out : WpD X Q r
def WoD {α : Type} (Q : α → Sto → Prop) : Option (α × Sto) → Prop
  | some (a, s) => Q a s
  | none => False
structure Wo {α : Type} (Q : α → Sto → Prop) (r : Option (α × Sto)) : Prop where
  out : WoD Q r
structure Ks where
  nx : Sl → Sto → Prop
  rt : D → Sto → Prop
  bk : Sl → Sto → Prop
  ct : Sl → Sto → Prop
  ex : Nat → List (String × D) → Sl → Sto → Prop
def OwpD (K : Ks) : Out → Prop
  | .nx e s => K.nx e s
  | .rt d s => K.rt d s
  | .bk e s => K.bk e s
  | .ct e s => K.ct e s
  | .exn c fs e s => K.ex c fs e s
  | .bad => False
structure Owp (K : Ks) (r : Out) : Prop where
  out : OwpD K r
/-- behind a first statement -/
def Ks.seq (K : Ks) (b : Sm) : Ks := ⟨fun e s => Owp K (b e s), K.rt, K.bk, K.ct, K.ex⟩
/-- in a loop -/
def Ks.loop (K : Ks) (I : Sl → Sto → Prop) : Ks := ⟨I, K.rt, K.nx, I, K.ex⟩
/-- of a def -/
def Ks.fn (X : XP) (Q : D → Sto → Prop) : Ks := ⟨fun _ s => Q .non s, Q, fun _ _ => False, fun _ _ => False, fun c fs _ s => X c fs s⟩
section
variable {α β : Type} {X X' : XP} {Q Q' : α → Sto → Prop} {env : Sl} {st : Sto} {K : Ks}
theorem wp_ok {a : α} {s : Sto} : Wp X Q (.ok a s) = Q a s := propext ⟨fun h => h.out, fun h => ⟨h⟩⟩
theorem wp_exn {c : Nat} {fs : List (String × D)} {s : Sto} : Wp X Q (.exn c fs s) = X c fs s := propext ⟨fun h => h.out, fun h => ⟨h⟩⟩
theorem wp_bad : Wp X Q .bad = False := propext ⟨fun h => h.out, fun h => ⟨h⟩⟩
theorem wo_some {a : α} {s : Sto} : Wo Q (some (a, s)) = Q a s := propext ⟨fun h => h.out, fun h => ⟨h⟩⟩
theorem wo_none : Wo Q none = False := propext ⟨fun h => h.out, fun h => ⟨h⟩⟩
theorem wp_ofO {o : Option (α × Sto)} : Wp X Q (ofO o) = Wo Q o := by
  cases o with
  | none => exact wp_bad.trans wo_none.symm
  | some p => exact wp_ok.trans wo_some.symm
theorem wp_bind {r : Res α} {f : α → Sto → Res β} {Q : β → Sto → Prop} : Wp X Q (r.bind f) = Wp X (fun a s => Wp X Q (f a s)) r := by
  cases r with
  | ok a s => rw [wp_ok]; rfl
  | exn c fs s => rw [wp_exn]; exact wp_exn
  | bad => rw [wp_bad]; exact wp_bad
theorem Wp.imp {r : Res α} (h : Wp X Q r) (hq : ∀ a s, Q a s → Q' a s) (hx : ∀ c fs s, X c fs s → X' c fs s) : Wp X' Q' r := by
  refine ⟨?_⟩
  have h := h.out
  cases r with
  | ok a s => exact hq _ _ h
  | exn c fs s => exact hx _ _ _ h
  | bad => exact h
theorem Wp.mono {r : Res α} (h : Wp (fun _ _ _ => False) Q r) (hq : ∀ a s, Q a s → Q' a s) : Wp X Q' r := h.imp hq fun _ _ _ z => z.elim
theorem Wp.to {r : Res α} (h : Wp (fun _ _ _ => False) Q r) : ∃ a s, r = .ok a s ∧ Q a s := by
  have h := h.out
  cases r with
  | ok a s => exact ⟨a, s, rfl, h⟩
  | exn c fs s => exact h.elim
  | bad => exact h.elim
theorem Wo.mono {o : Option (α × Sto)} (h : Wo Q o) (hq : ∀ a s, Q a s → Q' a s) : Wo Q' o := by
  refine ⟨?_⟩
  have h := h.out
  rcases o with _ | ⟨a, s⟩
  · exact h
  · exact hq _ _ h
theorem wp_ext {Q Q' : α → Sto → Prop} {r : Res α} (h : ∀ a s, Q a s = Q' a s) : Wp X Q r = Wp X Q' r := by
  cases r
  · rw [wp_ok, wp_ok]; exact h _ _
  · rw [wp_exn, wp_exn]
  · rw [wp_bad, wp_bad]
theorem wo_ext {Q Q' : α → Sto → Prop} {r : Option (α × Sto)} (h : ∀ a s, Q a s = Q' a s) : Wo Q r = Wo Q' r := by
  rcases r with _ | ⟨_, _⟩
  · rw [wo_none, wo_none]
  · rw [wo_some, wo_some]; exact h _ _
/-! expressions -/
theorem wp_c {d : D} {Q : D → Sto → Prop} : Wp X Q (eC d env st) = Q d st := wp_ok
theorem wp_var {i : Nat} {Q : D → Sto → Prop} : Wp X Q (eVar i env st) = Wp X Q (match env[i]? with | some (some d) => .ok d st | _ => .bad) := by
  unfold eVar
  congr 1
theorem eVar_of {i : Nat} {d : D} (h : env[i]? = some (some d)) : eVar i env st = .ok d st := by simp [eVar, h]
theorem wp_bin {op : D → D → O D} {a b : E} {Q : D → Sto → Prop} : Wp X Q (eBin op a b env st) = Wp X (fun x s => Wp X (fun y s' => Wo Q (op x y s')) (b env s)) (a env st) := by unfold eBin; rw [wp_bind]; exact wp_ext fun x s => by rw [wp_bind]; exact wp_ext fun y s => wp_ofO
theorem wp_un {op : D → O D} {a : E} {Q : D → Sto → Prop} : Wp X Q (eUn op a env st) = Wp X (fun x s => Wo Q (op x s)) (a env st) := by unfold eUn; rw [wp_bind]; exact wp_ext fun x s => wp_ofO
theorem wp_nil {Q : List D → Sto → Prop} : Wp X Q (eArgs [] env st) = Q [] st := wp_ok
theorem wp_cons {a : E} {as : List E} {Q : List D → Sto → Prop} : Wp X Q (eArgs (a :: as) env st) = Wp X (fun x s => Wp X (fun xs s' => Q (x :: xs) s') (eArgs as env s)) (a env st) := by rw [eArgs, wp_bind]; exact wp_ext fun x s => by rw [wp_bind]; exact wp_ext fun xs s' => wp_ok
theorem wp_blt {op : List D → O D} {as : List E} {Q : D → Sto → Prop} : Wp X Q (eBlt op as env st) = Wp X (fun xs s => Wo Q (op xs s)) (eArgs as env st) := by unfold eBlt; rw [wp_bind]; exact wp_ext fun x s => wp_ofO
theorem wp_if {c : T} {a b : E} {Q : D → Sto → Prop} : Wp X Q (eIf c a b env st) = Wp X (fun k s => Wp X Q (if k = true then a env s else b env s)) (c env st) := by rw [eIf, wp_bind]
theorem wp_asB {a : E} {Q : Bool → Sto → Prop} : Wp X Q (asB a env st) = Wp X (fun x s => Wp X Q (match x with | .bl k => .ok k s | _ => .bad)) (a env st) := by simp only [asB, wp_bind] <;> rfl
theorem wp_tTru {a : E} {Q : Bool → Sto → Prop} : Wp X Q (tTru a env st) = Wp X (fun x s => Wp X Q (match tru x s with | some k => .ok k s | none => .bad)) (a env st) := by simp only [tTru, wp_bind] <;> rfl
theorem wp_tAnd {a b : T} {Q : Bool → Sto → Prop} : Wp X Q (tAnd' a b env st) = Wp X (fun k s => Wp X Q (if k = true then b env s else .ok false s)) (a env st) := by simp only [tAnd', wp_bind] <;> rfl
theorem wp_tOr {a b : T} {Q : Bool → Sto → Prop} : Wp X Q (tOr' a b env st) = Wp X (fun k s => Wp X Q (if k = true then .ok true s else b env s)) (a env st) := by simp only [tOr', wp_bind] <;> rfl
theorem wp_tNot {a : T} {Q : Bool → Sto → Prop} : Wp X Q (tNot' a env st) = Wp X (fun k s => Q (!k) s) (a env st) := by unfold tNot'; rw [wp_bind]; exact wp_ext fun k s => wp_ok
theorem wp_tYes {Q : Bool → Sto → Prop} : Wp X Q (tYes' env st) = Q true st := wp_ok
theorem wp_eAnd {a b : E} {Q : D → Sto → Prop} : Wp X Q (eAnd a b env st) = Wp X (fun x s => Wp X Q (match tru x s with | some true => b env s | some false => .ok x s | none => .bad)) (a env st) := by simp only [eAnd, wp_bind] <;> rfl
theorem wp_eOr {a b : E} {Q : D → Sto → Prop} : Wp X Q (eOr a b env st) = Wp X (fun x s => Wp X Q (match tru x s with | some true => .ok x s | some false => b env s | none => .bad)) (a env st) := by simp only [eOr, wp_bind] <;> rfl
theorem wp_eNot {a : E} {Q : D → Sto → Prop} : Wp X Q (eNot a env st) = Wp X (fun x s => Wp X Q (match tru x s with | some k => .ok (.bl (!k)) s | none => .bad)) (a env st) := by simp only [eNot, wp_bind] <;> rfl
theorem wp_chain {f g : D → D → O D} {a b c : E} {Q : D → Sto → Prop} : Wp X Q (eChain f g a b c env st) = Wp X (fun x s => Wp X (fun y s => Wo (fun z s => Wp X Q (match z with
  | .bl true => (c env s).bind fun w s => ofO (g y w s)
  | .bl false => .ok (.bl false) s
  | _ => .bad)) (f x y s)) (b env s)) (a env st) := by unfold eChain; rw [wp_bind]; exact wp_ext fun x s => by rw [wp_bind]; exact wp_ext fun y s => by rw [wp_bind, wp_ofO] <;> rfl
theorem wp_call {g : F} {as : List E} {Q : D → Sto → Prop} : Wp X Q (eCall g as env st) = Wp X (fun xs s => Wp X Q (g xs s)) (eArgs as env st) := by rw [eCall, wp_bind]
theorem wp_mt {T : String} {op : D → List D → O D} {a : E} {as : List E} {Q : D → Sto → Prop} : Wp X Q (eMt T op a as env st) = Wp X (fun x s => Wp X Q (if tyOk T x s = true then (eArgs as env s).bind fun xs s' => ofO (op x xs s') else .bad)) (a env st) := by simp only [eMt, wp_bind] <;> rfl
theorem wp_meth {c : Nat} {m : String} {g : F} {a : E} {as : List E} {Q : D → Sto → Prop} : Wp X Q (eMeth c m g a as env st) = Wp X (fun x s => Wp X Q (match x with
  | .ref i => match s[i]? with
    | some (.ins c' fs) => if c' = c ∧ fs.lookup m = none then (eArgs as env s).bind fun xs s' => g (.ref i :: xs) s' else .bad
    | _ => .bad
  | _ => .bad)) (a env st) := by simp only [eMeth, wp_bind] <;> rfl
theorem wp_make {c : Nat} {g : F} {as : List E} {Q : D → Sto → Prop} : Wp X Q (eMake c g as env st) = Wp X (fun xs s => Wp X (fun r s' => Wp X Q (match r with
  | .non => .ok (.ref s.length) s'
  | _ => .bad)) (g (.ref s.length :: xs) (s ++ [.ins c []]))) (eArgs as env st) := by unfold eMake; rw [wp_bind]; exact wp_ext fun x s => by rw [wp_bind] <;> rfl
theorem wp_fmt {a : E} {Q : D → Sto → Prop} : Wp X Q (eFmt a env st) = Wp X (fun x s => Wp X Q (match x with
  | .str y => if y.length ≤ LIM then .ok (.str y) s else .bad
  | .int i => if i.natAbs.log2 < 1920 then .ok (.str (toString i)) s else .bad
  | _ => .bad)) (a env st) := by simp only [eFmt, wp_bind] <;> rfl
theorem wp_joinN {acc : Str} {Q : D → Sto → Prop} : Wp X Q (eJoin [] acc env st) = Q (.str acc) st := wp_ok
theorem wp_joinC {a : E} {as : List E} {acc : Str} {Q : D → Sto → Prop} : Wp X Q (eJoin (a :: as) acc env st) = Wp X (fun x s => Wp X Q (match x with
  | .str y => if (acc ++ y).length ≤ LIM then eJoin as (acc ++ y) env s else .bad
  | _ => .bad)) (a env st) := by simp only [eJoin, wp_bind] <;> rfl
theorem wp_partN {Q : Option Int → Sto → Prop} : Wp X Q (ePart none env st) = Q none st := wp_ok
theorem wp_partS {f : E} {Q : Option Int → Sto → Prop} : Wp X Q (ePart (some f) env st) = Wp X (fun x s => Wp X Q (match x with | .int i => .ok (some i) s | _ => .bad)) (f env st) := by simp only [ePart, wp_bind] <;> rfl
theorem wp_sl {a : E} {lo hi : Option E} {Q : D → Sto → Prop} : Wp X Q (eSl a lo hi env st) = Wp X (fun x s => Wp X (fun l s => Wp X (fun h s => Wo Q (opSl l h x s)) (ePart hi env s)) (ePart lo env s)) (a env st) := by unfold eSl; rw [wp_bind]; exact wp_ext fun x s => by rw [wp_bind]; exact wp_ext fun l s => by rw [wp_bind]; exact wp_ext fun h s => wp_ofO
theorem wp_iS {a : E} {Q : Its → Sto → Prop} : Wp X Q (iS a env st) = Wp X (fun d s => Wp X Q (match iterOf d s with | some t => .ok t s | none => .bad)) (a env st) := by simp only [iS, wp_bind] <;> rfl
theorem wp_iR1 {a : E} {Q : Its → Sto → Prop} : Wp X Q (iR1 a env st) = Wp X (fun ds s => Wp X Q (match ds with
  | [.int j] => if -(2 ^ 62) ≤ j ∧ j < 2 ^ 62 then .ok ⟨rngI 0 j.toNat, none⟩ s else .bad
  | _ => .bad)) (eArgs [a] env st) := by simp only [iR1, wp_bind] <;> rfl
theorem wp_iR2 {a b : E} {Q : Its → Sto → Prop} : Wp X Q (iR2 a b env st) = Wp X (fun ds s => Wp X Q (match ds with
  | [.int i, .int j] => if -(2 ^ 62) ≤ i ∧ i < 2 ^ 62 ∧ -(2 ^ 62) ≤ j ∧ j < 2 ^ 62 then .ok ⟨rngI i (j - i).toNat, none⟩ s else .bad
  | _ => .bad)) (eArgs [a, b] env st) := by simp only [iR2, wp_bind] <;> rfl
theorem wp_iEn {a : E} {Q : Its → Sto → Prop} : Wp X Q (iEn a env st) = Wp X (fun ds s => Wp X Q (match ds with
  | [.ref i] => match s[i]? with
    | some (.lst ds) => .ok ⟨enumI ds, some (i, ds)⟩ s
    | _ => .bad
  | _ => .bad)) (eArgs [a] env st) := by simp only [iEn, wp_bind] <;> rfl
/-! statements -/
theorem owp_nx {e : Sl} {s : Sto} : Owp K (.nx e s) = K.nx e s := propext ⟨fun h => h.out, fun h => ⟨h⟩⟩
theorem owp_rt {d : D} {s : Sto} : Owp K (.rt d s) = K.rt d s := propext ⟨fun h => h.out, fun h => ⟨h⟩⟩
theorem owp_bk {e : Sl} {s : Sto} : Owp K (.bk e s) = K.bk e s := propext ⟨fun h => h.out, fun h => ⟨h⟩⟩
theorem owp_ct {e : Sl} {s : Sto} : Owp K (.ct e s) = K.ct e s := propext ⟨fun h => h.out, fun h => ⟨h⟩⟩
theorem owp_exn {c : Nat} {fs : List (String × D)} {e : Sl} {s : Sto} : Owp K (.exn c fs e s) = K.ex c fs e s := propext ⟨fun h => h.out, fun h => ⟨h⟩⟩
theorem owp_bad : Owp K .bad = False := propext ⟨fun h => h.out, fun h => ⟨h⟩⟩
theorem owp_out {r : Res α} {k : α → Sto → Out} : Owp K (r.out env k) = Wp (fun c fs s => K.ex c fs env s) (fun a s => Owp K (k a s)) r := by
  cases r with
  | ok a s => rw [wp_ok]; rfl
  | exn c fs s => rw [wp_exn]; exact owp_exn
  | bad => rw [wp_bad]; exact owp_bad
theorem owp_seq {a b : Sm} : Owp K (sSeq a b env st) = Owp (K.seq b) (a env st) := by
  unfold sSeq
  cases a env st with
  | nx e s => rw [owp_nx]; rfl
  | rt d s => rw [owp_rt]; exact (owp_rt (K := K.seq b)).symm
  | bk e s => rw [owp_bk]; exact (owp_bk (K := K.seq b)).symm
  | ct e s => rw [owp_ct]; exact (owp_ct (K := K.seq b)).symm
  | exn c fs e s => rw [owp_exn]; exact (owp_exn (K := K.seq b)).symm
  | bad => rw [owp_bad]; exact (owp_bad (K := K.seq b)).symm
theorem owp_skip : Owp K (sSkip env st) = K.nx env st := owp_nx
theorem owp_brk : Owp K (sBreak env st) = K.bk env st := owp_bk
theorem owp_cnt : Owp K (sCont env st) = K.ct env st := owp_ct
theorem owp_ret {a : E} : Owp K (sRet a env st) = Wp (fun c fs s => K.ex c fs env s) (fun d s => K.rt d s) (a env st) := by unfold sRet; rw [owp_out]; exact wp_ext fun d s => owp_rt
theorem owp_expr {a : E} : Owp K (sExpr a env st) = Wp (fun c fs s => K.ex c fs env s) (fun d s => K.nx env s) (a env st) := by unfold sExpr; rw [owp_out]; exact wp_ext fun d s => owp_nx
theorem owp_if {c : T} {a b : Sm} : Owp K (sIf c a b env st) = Wp (fun c fs s => K.ex c fs env s) (fun k s => Owp K (if k = true then a env s else b env s)) (c env st) := by unfold sIf; rw [owp_out]
theorem owp_asg {i : Nat} {a : E} : Owp K (sAsg (.name i) a env st) = Wp (fun c fs s => K.ex c fs env s) (fun d s => K.nx (env.set i (some d)) s) (a env st) := by unfold sAsg; rw [owp_out]; exact wp_ext fun d s => owp_nx
theorem owp_asgT {ts : List Tg} {a : E} : Owp K (sAsg (.tup ts) a env st) = Wp (fun c fs s => K.ex c fs env s) (fun d s => match Tg.sem s (.tup ts) d env with | some e => K.nx e s | none => False) (a env st) := by
  unfold sAsg
  rw [owp_out]
  exact wp_ext fun d s => by
    cases Tg.sem s (.tup ts) d env with
    | none => exact owp_bad
    | some e => exact owp_nx
theorem owp_par {i j : Nat} {a b : E} : Owp K (sPar i j a b env st) = Wp (fun c fs s => K.ex c fs env s) (fun x s => Wp (fun c fs s => K.ex c fs env s) (fun y s => K.nx ((env.set i (some x)).set j (some y)) s) (b env s)) (a env st) := by
  unfold sPar
  rw [owp_out, wp_cons]
  exact wp_ext fun x s => by
    rw [wp_cons]
    exact wp_ext fun y s => by rw [wp_nil]; exact owp_nx
theorem owp_setIx {o i e : E} : Owp K (sSetIx o i e env st) = Wp (fun c fs s => K.ex c fs env s) (fun d s => Wp (fun c fs s => K.ex c fs env s) (fun x s => Wp (fun c fs s => K.ex c fs env s) (fun y s => Wo (fun _ s => K.nx env s) (opSet x y d s)) (i env s)) (o env s)) (e env st) := by
  unfold sSetIx
  rw [owp_out]
  exact wp_ext fun d s => by
    rw [owp_out]
    exact wp_ext fun x s => by
      rw [owp_out]
      exact wp_ext fun y s => by
        rcases opSet x y d s with _ | ⟨_, _⟩
        · exact owp_bad.trans wo_none.symm
        · exact owp_nx.trans (wo_some (Q := fun _ s => K.nx env s)).symm
theorem owp_setF {P : Nat → Bool} {f : String} {o e : E} : Owp K (sSetF P f o e env st) = Wp (fun c fs s => K.ex c fs env s) (fun d s => Wp (fun c fs s => K.ex c fs env s) (fun x s => Wo (fun _ s => K.nx env s) (opSetF P f x d s)) (o env s)) (e env st) := by
  unfold sSetF
  rw [owp_out]
  exact wp_ext fun d s => by
    rw [owp_out]
    exact wp_ext fun x s => by
      rcases opSetF P f x d s with _ | ⟨_, _⟩
      · exact owp_bad.trans wo_none.symm
      · exact owp_nx.trans (wo_some (Q := fun _ s => K.nx env s)).symm
/-! the same as rules -/
theorem r_wp_ok {a : α} {s : Sto} (h : Q a s) : Wp X Q (.ok a s) := Eq.mpr wp_ok h
theorem r_wp_exn {c : Nat} {fs : List (String × D)} {s : Sto} (h : X c fs s) : Wp X Q (.exn c fs s) := Eq.mpr wp_exn h
theorem r_wo_some {a : α} {s : Sto} (h : Q a s) : Wo Q (some (a, s)) := Eq.mpr wo_some h
theorem r_wp_ofO {o : Option (α × Sto)} (h : Wo Q o) : Wp X Q (ofO o) := Eq.mpr wp_ofO h
theorem r_wp_bind {r : Res α} {f : α → Sto → Res β} {Q : β → Sto → Prop} (h : Wp X (fun a s => Wp X Q (f a s)) r) : Wp X Q (r.bind f) := Eq.mpr wp_bind h
theorem r_wp_c {d : D} {Q : D → Sto → Prop} (h : Q d st) : Wp X Q (eC d env st) := Eq.mpr wp_c h
theorem r_wp_bin {op : D → D → O D} {a b : E} {Q : D → Sto → Prop} (h : Wp X (fun x s => Wp X (fun y s' => Wo Q (op x y s')) (b env s)) (a env st)) : Wp X Q (eBin op a b env st) := Eq.mpr wp_bin h
theorem r_wp_un {op : D → O D} {a : E} {Q : D → Sto → Prop} (h : Wp X (fun x s => Wo Q (op x s)) (a env st)) : Wp X Q (eUn op a env st) := Eq.mpr wp_un h
theorem r_wp_nil {Q : List D → Sto → Prop} (h : Q [] st) : Wp X Q (eArgs [] env st) := Eq.mpr wp_nil h
theorem r_wp_cons {a : E} {as : List E} {Q : List D → Sto → Prop} (h : Wp X (fun x s => Wp X (fun xs s' => Q (x :: xs) s') (eArgs as env s)) (a env st)) : Wp X Q (eArgs (a :: as) env st) := Eq.mpr wp_cons h
theorem r_wp_blt {op : List D → O D} {as : List E} {Q : D → Sto → Prop} (h : Wp X (fun xs s => Wo Q (op xs s)) (eArgs as env st)) : Wp X Q (eBlt op as env st) := Eq.mpr wp_blt h
theorem r_wp_if {c : T} {a b : E} {Q : D → Sto → Prop} (h : Wp X (fun k s => Wp X Q (if k = true then a env s else b env s)) (c env st)) : Wp X Q (eIf c a b env st) := Eq.mpr wp_if h
theorem r_wp_asB {a : E} {Q : Bool → Sto → Prop} (h : Wp X (fun x s => Wp X Q (match x with | .bl k => .ok k s | _ => .bad)) (a env st)) : Wp X Q (asB a env st) := Eq.mpr wp_asB h
theorem r_wp_tTru {a : E} {Q : Bool → Sto → Prop} (h : Wp X (fun x s => Wp X Q (match tru x s with | some k => .ok k s | none => .bad)) (a env st)) : Wp X Q (tTru a env st) := Eq.mpr wp_tTru h
theorem r_wp_tAnd {a b : T} {Q : Bool → Sto → Prop} (h : Wp X (fun k s => Wp X Q (if k = true then b env s else .ok false s)) (a env st)) : Wp X Q (tAnd' a b env st) := Eq.mpr wp_tAnd h
theorem r_wp_tOr {a b : T} {Q : Bool → Sto → Prop} (h : Wp X (fun k s => Wp X Q (if k = true then .ok true s else b env s)) (a env st)) : Wp X Q (tOr' a b env st) := Eq.mpr wp_tOr h
theorem r_wp_tNot {a : T} {Q : Bool → Sto → Prop} (h : Wp X (fun k s => Q (!k) s) (a env st)) : Wp X Q (tNot' a env st) := Eq.mpr wp_tNot h
theorem r_wp_tYes {Q : Bool → Sto → Prop} (h : Q true st) : Wp X Q (tYes' env st) := Eq.mpr wp_tYes h
theorem r_wp_eAnd {a b : E} {Q : D → Sto → Prop} (h : Wp X (fun x s => Wp X Q (match tru x s with | some true => b env s | some false => .ok x s | none => .bad)) (a env st)) : Wp X Q (eAnd a b env st) := Eq.mpr wp_eAnd h
theorem r_wp_eOr {a b : E} {Q : D → Sto → Prop} (h : Wp X (fun x s => Wp X Q (match tru x s with | some true => .ok x s | some false => b env s | none => .bad)) (a env st)) : Wp X Q (eOr a b env st) := Eq.mpr wp_eOr h
theorem r_wp_eNot {a : E} {Q : D → Sto → Prop} (h : Wp X (fun x s => Wp X Q (match tru x s with | some k => .ok (.bl (!k)) s | none => .bad)) (a env st)) : Wp X Q (eNot a env st) := Eq.mpr wp_eNot h
theorem r_wp_chain {f g : D → D → O D} {a b c : E} {Q : D → Sto → Prop} (h : Wp X (fun x s => Wp X (fun y s => Wo (fun z s => Wp X Q (match z with
  | .bl true => (c env s).bind fun w s => ofO (g y w s)
  | .bl false => .ok (.bl false) s
  | _ => .bad)) (f x y s)) (b env s)) (a env st)) : Wp X Q (eChain f g a b c env st) := Eq.mpr wp_chain h
theorem r_wp_call {g : F} {as : List E} {Q : D → Sto → Prop} (h : Wp X (fun xs s => Wp X Q (g xs s)) (eArgs as env st)) : Wp X Q (eCall g as env st) := Eq.mpr wp_call h
theorem r_wp_mt {T : String} {op : D → List D → O D} {a : E} {as : List E} {Q : D → Sto → Prop} (h : Wp X (fun x s => Wp X Q (if tyOk T x s = true then (eArgs as env s).bind fun xs s' => ofO (op x xs s') else .bad)) (a env st)) : Wp X Q (eMt T op a as env st) := Eq.mpr wp_mt h
theorem r_wp_meth {c : Nat} {m : String} {g : F} {a : E} {as : List E} {Q : D → Sto → Prop} (h : Wp X (fun x s => Wp X Q (match x with
  | .ref i => match s[i]? with
    | some (.ins c' fs) => if c' = c ∧ fs.lookup m = none then (eArgs as env s).bind fun xs s' => g (.ref i :: xs) s' else .bad
    | _ => .bad
  | _ => .bad)) (a env st)) : Wp X Q (eMeth c m g a as env st) := Eq.mpr wp_meth h
theorem r_wp_make {c : Nat} {g : F} {as : List E} {Q : D → Sto → Prop} (h : Wp X (fun xs s => Wp X (fun r s' => Wp X Q (match r with
  | .non => .ok (.ref s.length) s'
  | _ => .bad)) (g (.ref s.length :: xs) (s ++ [.ins c []]))) (eArgs as env st)) : Wp X Q (eMake c g as env st) := Eq.mpr wp_make h
theorem r_wp_fmt {a : E} {Q : D → Sto → Prop} (h : Wp X (fun x s => Wp X Q (match x with
  | .str y => if y.length ≤ LIM then .ok (.str y) s else .bad
  | .int i => if i.natAbs.log2 < 1920 then .ok (.str (toString i)) s else .bad
  | _ => .bad)) (a env st)) : Wp X Q (eFmt a env st) := Eq.mpr wp_fmt h
theorem r_wp_joinN {acc : Str} {Q : D → Sto → Prop} (h : Q (.str acc) st) : Wp X Q (eJoin [] acc env st) := Eq.mpr wp_joinN h
theorem r_wp_joinC {a : E} {as : List E} {acc : Str} {Q : D → Sto → Prop} (h : Wp X (fun x s => Wp X Q (match x with
  | .str y => if (acc ++ y).length ≤ LIM then eJoin as (acc ++ y) env s else .bad
  | _ => .bad)) (a env st)) : Wp X Q (eJoin (a :: as) acc env st) := Eq.mpr wp_joinC h
theorem r_wp_partN {Q : Option Int → Sto → Prop} (h : Q none st) : Wp X Q (ePart none env st) := Eq.mpr wp_partN h
theorem r_wp_partS {f : E} {Q : Option Int → Sto → Prop} (h : Wp X (fun x s => Wp X Q (match x with | .int i => .ok (some i) s | _ => .bad)) (f env st)) : Wp X Q (ePart (some f) env st) := Eq.mpr wp_partS h
theorem r_wp_sl {a : E} {lo hi : Option E} {Q : D → Sto → Prop} (h : Wp X (fun x s => Wp X (fun l s => Wp X (fun h s => Wo Q (opSl l h x s)) (ePart hi env s)) (ePart lo env s)) (a env st)) : Wp X Q (eSl a lo hi env st) := Eq.mpr wp_sl h
theorem r_wp_iS {a : E} {Q : Its → Sto → Prop} (h : Wp X (fun d s => Wp X Q (match iterOf d s with | some t => .ok t s | none => .bad)) (a env st)) : Wp X Q (iS a env st) := Eq.mpr wp_iS h
theorem r_wp_iR1 {a : E} {Q : Its → Sto → Prop} (h : Wp X (fun ds s => Wp X Q (match ds with
  | [.int j] => if -(2 ^ 62) ≤ j ∧ j < 2 ^ 62 then .ok ⟨rngI 0 j.toNat, none⟩ s else .bad
  | _ => .bad)) (eArgs [a] env st)) : Wp X Q (iR1 a env st) := Eq.mpr wp_iR1 h
theorem r_wp_iR2 {a b : E} {Q : Its → Sto → Prop} (h : Wp X (fun ds s => Wp X Q (match ds with
  | [.int i, .int j] => if -(2 ^ 62) ≤ i ∧ i < 2 ^ 62 ∧ -(2 ^ 62) ≤ j ∧ j < 2 ^ 62 then .ok ⟨rngI i (j - i).toNat, none⟩ s else .bad
  | _ => .bad)) (eArgs [a, b] env st)) : Wp X Q (iR2 a b env st) := Eq.mpr wp_iR2 h
theorem r_wp_iEn {a : E} {Q : Its → Sto → Prop} (h : Wp X (fun ds s => Wp X Q (match ds with
  | [.ref i] => match s[i]? with
    | some (.lst ds) => .ok ⟨enumI ds, some (i, ds)⟩ s
    | _ => .bad
  | _ => .bad)) (eArgs [a] env st)) : Wp X Q (iEn a env st) := Eq.mpr wp_iEn h
theorem r_owp_nx {e : Sl} {s : Sto} (h : K.nx e s) : Owp K (.nx e s) := Eq.mpr owp_nx h
theorem r_owp_rt {d : D} {s : Sto} (h : K.rt d s) : Owp K (.rt d s) := Eq.mpr owp_rt h
theorem r_owp_out {r : Res α} {k : α → Sto → Out} (h : Wp (fun c fs s => K.ex c fs env s) (fun a s => Owp K (k a s)) r) : Owp K (r.out env k) := Eq.mpr owp_out h
theorem r_owp_seq {a b : Sm} (h : Owp (K.seq b) (a env st)) : Owp K (sSeq a b env st) := Eq.mpr owp_seq h
theorem r_owp_skip (h : K.nx env st) : Owp K (sSkip env st) := Eq.mpr owp_skip h
theorem r_owp_brk (h : K.bk env st) : Owp K (sBreak env st) := Eq.mpr owp_brk h
theorem r_owp_cnt (h : K.ct env st) : Owp K (sCont env st) := Eq.mpr owp_cnt h
theorem r_owp_ret {a : E} (h : Wp (fun c fs s => K.ex c fs env s) (fun d s => K.rt d s) (a env st)) : Owp K (sRet a env st) := Eq.mpr owp_ret h
theorem r_owp_expr {a : E} (h : Wp (fun c fs s => K.ex c fs env s) (fun d s => K.nx env s) (a env st)) : Owp K (sExpr a env st) := Eq.mpr owp_expr h
theorem r_owp_if {c : T} {a b : Sm} (h : Wp (fun c fs s => K.ex c fs env s) (fun k s => Owp K (if k = true then a env s else b env s)) (c env st)) : Owp K (sIf c a b env st) := Eq.mpr owp_if h
theorem r_owp_asg {i : Nat} {a : E} (h : Wp (fun c fs s => K.ex c fs env s) (fun d s => K.nx (env.set i (some d)) s) (a env st)) : Owp K (sAsg (.name i) a env st) := Eq.mpr owp_asg h
theorem r_owp_asgT {ts : List Tg} {a : E} (h : Wp (fun c fs s => K.ex c fs env s) (fun d s => match Tg.sem s (.tup ts) d env with | some e => K.nx e s | none => False) (a env st)) : Owp K (sAsg (.tup ts) a env st) := Eq.mpr owp_asgT h
theorem r_owp_par {i j : Nat} {a b : E} (h : Wp (fun c fs s => K.ex c fs env s) (fun x s => Wp (fun c fs s => K.ex c fs env s) (fun y s => K.nx ((env.set i (some x)).set j (some y)) s) (b env s)) (a env st)) : Owp K (sPar i j a b env st) := Eq.mpr owp_par h
theorem r_owp_setIx {o i e : E} (h : Wp (fun c fs s => K.ex c fs env s) (fun d s => Wp (fun c fs s => K.ex c fs env s) (fun x s => Wp (fun c fs s => K.ex c fs env s) (fun y s => Wo (fun _ s => K.nx env s) (opSet x y d s)) (i env s)) (o env s)) (e env st)) : Owp K (sSetIx o i e env st) := Eq.mpr owp_setIx h
theorem r_owp_setF {P : Nat → Bool} {f : String} {o e : E} (h : Wp (fun c fs s => K.ex c fs env s) (fun d s => Wp (fun c fs s => K.ex c fs env s) (fun x s => Wo (fun _ s => K.nx env s) (opSetF P f x d s)) (o env s)) (e env st)) : Owp K (sSetF P f o e env st) := Eq.mpr owp_setF h
theorem r_seq_nx {b : Sm} {e : Sl} {s : Sto} (h : Owp K (b e s)) : (K.seq b).nx e s := h
theorem r_seq_rt {b : Sm} {d : D} {s : Sto} (h : K.rt d s) : (K.seq b).rt d s := h
theorem r_seq_bk {b : Sm} {e : Sl} {s : Sto} (h : K.bk e s) : (K.seq b).bk e s := h
theorem r_seq_ct {b : Sm} {e : Sl} {s : Sto} (h : K.ct e s) : (K.seq b).ct e s := h
theorem r_seq_ex {b : Sm} {c : Nat} {fs : List (String × D)} {e : Sl} {s : Sto} (h : K.ex c fs e s) : (K.seq b).ex c fs e s := h
theorem r_loop_nx {I : Sl → Sto → Prop} {e : Sl} {s : Sto} (h : I e s) : (K.loop I).nx e s := h
theorem r_loop_rt {I : Sl → Sto → Prop} {d : D} {s : Sto} (h : K.rt d s) : (K.loop I).rt d s := h
theorem r_loop_bk {I : Sl → Sto → Prop} {e : Sl} {s : Sto} (h : K.nx e s) : (K.loop I).bk e s := h
theorem r_loop_ct {I : Sl → Sto → Prop} {e : Sl} {s : Sto} (h : I e s) : (K.loop I).ct e s := h
theorem r_loop_ex {I : Sl → Sto → Prop} {c : Nat} {fs : List (String × D)} {e : Sl} {s : Sto} (h : K.ex c fs e s) : (K.loop I).ex c fs e s := h
theorem r_fn_nx {Q : D → Sto → Prop} {e : Sl} {s : Sto} (h : Q .non s) : (Ks.fn X Q).nx e s := h
theorem r_fn_rt {Q : D → Sto → Prop} {d : D} {s : Sto} (h : Q d s) : (Ks.fn X Q).rt d s := h
theorem r_fn_ex {Q : D → Sto → Prop} {c : Nat} {fs : List (String × D)} {e : Sl} {s : Sto} (h : X c fs s) : (Ks.fn X Q).ex c fs e s := h
theorem r_var {i : Nat} {d : D} {Q : D → Sto → Prop} (h : env[i]? = some (some d)) (k : Q d st) : Wp X Q (eVar i env st) := by
  rw [eVar_of h]; exact r_wp_ok k
theorem r_wp_iteT {c : Prop} [Decidable c] {a b : Res α} (hc : c) (h : Wp X Q a) : Wp X Q (if c then a else b) := by rw [if_pos hc]; exact h
theorem r_wp_iteF {c : Prop} [Decidable c] {a b : Res α} (hc : ¬ c) (h : Wp X Q b) : Wp X Q (if c then a else b) := by rw [if_neg hc]; exact h
theorem r_owp_iteT {c : Prop} [Decidable c] {a b : Out} (hc : c) (h : Owp K a) : Owp K (if c then a else b) := by rw [if_pos hc]; exact h
theorem r_owp_iteF {c : Prop} [Decidable c] {a b : Out} (hc : ¬ c) (h : Owp K b) : Owp K (if c then a else b) := by rw [if_neg hc]; exact h
theorem r_wp_ite {c : Prop} [Decidable c] {a b : Res α} (h : c → Wp X Q a) (k : ¬ c → Wp X Q b) : Wp X Q (if c then a else b) := by split <;> rename_i z <;> first | exact h z | exact k z
theorem r_owp_ite {c : Prop} [Decidable c] {a b : Out} (h : c → Owp K a) (k : ¬ c → Owp K b) : Owp K (if c then a else b) := by split <;> rename_i z <;> first | exact h z | exact k z
theorem r_decT {p : Prop} [Decidable p] (h : p) : decide p = true := decide_eq_true h
theorem r_decF {p : Prop} [Decidable p] (h : ¬ p) : ¬ decide p = true := fun z => h (of_decide_eq_true z)
theorem r_notT {b : Bool} (h : ¬ b = true) : (!b) = true := by simpa using h
theorem r_notF {b : Bool} (h : b = true) : ¬ (!b) = true := by simpa using h
theorem r_wo_of {o : Option (α × Sto)} {a : α} {s : Sto} (h : o = some (a, s)) (k : Q a s) : Wo Q o := by rw [h]; exact r_wo_some k
theorem wp_fn {n m : Nat} {body : Sm} {ds : List D} {Q : D → Sto → Prop} (h : ds.length = n) (k : Owp (Ks.fn X Q) (body (ds.map some ++ List.replicate (m - n) none) st)) : Wp X Q (fnS n m body ds st) := by
  unfold fnS
  rw [if_pos h]
  revert k
  cases body (ds.map some ++ List.replicate (m - n) none) st <;> exact fun k => ⟨k.out⟩
end
/-! rules that look at a value -/
theorem q_eqX {neg : Bool} {c : Nat} {g : F} {ok : Kd → Bool} {a b : E} {X : XP} {env : Sl} {st : Sto} {Q : D → Sto → Prop} (h : Wp X (fun x s => Wp X (fun y s => ∃ i fs k, x = .ref i ∧ s[i]? = some (.ins c fs) ∧ kind y s = some k ∧ ok k = true ∧ Wp (fun _ _ _ => False) (fun z s => ∃ r : Bool, z = .bl r ∧ Q (.bl (if neg then !r else r)) s) (g [x, y] s)) (b env s)) (a env st)) : Wp X Q (eEqX neg c g ok a b env st) := by
  unfold eEqX
  rw [wp_bind]
  refine h.imp ?_ fun _ _ _ z => z
  intro x s h
  rw [wp_bind]
  refine h.imp ?_ fun _ _ _ z => z
  intro y s h
  obtain ⟨i, fs, k, rfl, hi, hk, ho, h⟩ := h
  obtain ⟨z, s2, e, r, rfl, h⟩ := h.to
  simp only [hi, hk, ho, e, if_pos]
  exact ⟨h⟩
theorem RgC.same {i j c : Int} {n m : Nat} (h : RgC i j c n) (k : RgC i j c m) : n = m := by
  have := h.2.2.2.symm.trans k.2.2.2
  omega
theorem Wp.w {α : Type} {X : XP} {Q Q' : α → Sto → Prop} {r : Res α} (h : Wp X Q r) (hq : ∀ a s, Q a s → Q' a s) : Wp X Q' r := h.imp hq fun _ _ _ z => z
theorem r_p_iteT {A0 B0 c : Prop} [Decidable c] (hc : c) (h : A0) : if c then A0 else B0 := by rw [if_pos hc]; exact h
theorem r_p_iteF {A0 B0 c : Prop} [Decidable c] (hc : ¬ c) (h : B0) : if c then A0 else B0 := by rw [if_neg hc]; exact h
theorem atI0 {α : Type} {x : α} {xs : List α} : atI (x :: xs) 0 = some x := by
  unfold atI ixN
  rw [if_pos (by omega), if_pos (by simp)]
  rfl
theorem atIn {α : Type} {xs : List α} {n : Nat} {x : α} (h : xs[n]? = some x) : atI xs (n : Int) = some x := by
  have hn := (List.getElem?_eq_some_iff.mp h).1
  unfold atI ixN
  rw [if_pos (by omega), if_pos (by omega)]
  simpa using h
/-- a side condition, then the rest -/
def Both (a b : Prop) : Prop := a ∧ b
theorem r_both {a b : Prop} (h : a) (k : b) : Both a b := ⟨h, k⟩
def onB (x : D) (A B : Prop) : Prop := ∃ k : Bool, x = .bl k ∧ (k = true → A) ∧ (k = false → B)
def onTru (x : D) (s : Sto) (A B : Prop) : Prop := ∃ k : Bool, tru x s = some k ∧ (k = true → A) ∧ (k = false → B)
def onBl (x : D) (P : Bool → Prop) : Prop := ∃ k : Bool, x = .bl k ∧ P k
def onInt (x : D) (P : Int → Prop) : Prop := ∃ k : Int, x = .int k ∧ P k
def onStr (x : D) (P : Str → Prop) : Prop := ∃ k : Str, x = .str k ∧ P k
def onNon (x : D) (P : Prop) : Prop := x = .non ∧ P
def onFmt (x : D) (P : Str → Prop) : Prop := (∃ y, x = .str y ∧ y.length ≤ LIM ∧ P y) ∨ ∃ i : Int, x = .int i ∧ i.natAbs.log2 < 1920 ∧ P (toString i)
def onIter (x : D) (s : Sto) (P : Its → Prop) : Prop := ∃ t, iterOf x s = some t ∧ P t
def onObj (x : D) (s : Sto) (c : Nat) (m : String) (P : Nat → Prop) : Prop := ∃ i fs, x = .ref i ∧ s[i]? = some (.ins c fs) ∧ fs.lookup m = none ∧ P i
section
variable {X : XP} {env : Sl} {st s : Sto} {K : Ks} {A B : Prop}
theorem r_bT {k : Bool} (hk : k = true) (h : A) : onB (.bl k) A B := ⟨k, rfl, fun _ => h, fun z => by rw [hk] at z; cases z⟩
theorem r_bF {k : Bool} (hk : ¬ k = true) (h : B) : onB (.bl k) A B := ⟨k, rfl, fun z => (hk z).elim, fun _ => h⟩
theorem r_bSplit {k : Bool} (h1 : k = true → A) (h2 : ¬ k = true → B) : onB (.bl k) A B := ⟨k, rfl, h1, fun z => h2 (by rw [z]; exact Bool.false_ne_true)⟩
theorem r_tT {k : Bool} (hk : k = true) (h : A) : onTru (.bl k) s A B := ⟨k, rfl, fun _ => h, fun z => by rw [hk] at z; cases z⟩
theorem r_tF {k : Bool} (hk : ¬ k = true) (h : B) : onTru (.bl k) s A B := ⟨k, rfl, fun z => (hk z).elim, fun _ => h⟩
theorem r_tSplit {k : Bool} (h1 : k = true → A) (h2 : ¬ k = true → B) : onTru (.bl k) s A B := ⟨k, rfl, h1, fun z => h2 (by rw [z]; exact Bool.false_ne_true)⟩
theorem r_tOf {x : D} {k : Bool} (e : tru x s = some k) (h1 : k = true → A) (h2 : ¬ k = true → B) : onTru x s A B := ⟨k, e, h1, fun z => h2 (by rw [z]; exact Bool.false_ne_true)⟩
theorem r_onBl {P : Bool → Prop} {k : Bool} (h : P k) : onBl (.bl k) P := ⟨k, rfl, h⟩
theorem r_onInt {P : Int → Prop} {k : Int} (h : P k) : onInt (.int k) P := ⟨k, rfl, h⟩
theorem r_onStr {P : Str → Prop} {k : Str} (h : P k) : onStr (.str k) P := ⟨k, rfl, h⟩
theorem r_onNon {P : Prop} (h : P) : onNon .non P := ⟨rfl, h⟩
theorem r_fmtS {P : Str → Prop} {y : Str} (hl : y.length ≤ LIM) (h : P y) : onFmt (.str y) P := .inl ⟨y, rfl, hl, h⟩
theorem r_fmtI {P : Str → Prop} {i : Int} (hl : i.natAbs.log2 < 1920) (h : P (toString i)) : onFmt (.int i) P := .inr ⟨i, rfl, hl, h⟩
theorem r_itT {P : Its → Prop} {ds : List D} (h : P ⟨ds, none⟩) : onIter (.tup ds) s P := ⟨_, rfl, h⟩
theorem r_itS {P : Its → Prop} {ns : List Int} (h : P ⟨ns.map D.int, none⟩) : onIter (.scr ns) s P := ⟨_, rfl, h⟩
theorem r_itL {P : Its → Prop} {r : Nat} {ds : List D} (hr : s[r]? = some (.lst ds)) (h : P ⟨ds, some (r, ds)⟩) : onIter (.ref r) s P := ⟨_, by simp [iterOf, hr], h⟩
theorem r_onObj {P : Nat → Prop} {i c : Nat} {m : String} {fs : List (String × D)} (hr : s[i]? = some (.ins c fs)) (hm : fs.lookup m = none) (h : P i) : onObj (.ref i) s c m P := ⟨i, fs, rfl, hr, hm, h⟩
theorem q_asB {a : E} {Q : Bool → Sto → Prop} (h : Wp X (fun x s => onBl x (fun k => Q k s)) (a env st)) : Wp X Q (asB a env st) := by
  rw [wp_asB]
  exact h.w fun x s ⟨k, e, h⟩ => by subst e; exact r_wp_ok h
theorem q_tTru {a : E} {Q : Bool → Sto → Prop} (h : Wp X (fun x s => onTru x s (Q true s) (Q false s)) (a env st)) : Wp X Q (tTru a env st) := by
  rw [wp_tTru]
  refine h.w fun x s ⟨k, e, h1, h2⟩ => ?_
  rw [e]
  cases k with
  | true => exact r_wp_ok (h1 rfl)
  | false => exact r_wp_ok (h2 rfl)
theorem q_eAnd {a b : E} {Q : D → Sto → Prop} (h : Wp X (fun x s => onTru x s (Wp X Q (b env s)) (Q x s)) (a env st)) : Wp X Q (eAnd a b env st) := by
  rw [wp_eAnd]
  refine h.w fun x s ⟨k, e, h1, h2⟩ => ?_
  rw [e]
  cases k with
  | true => exact h1 rfl
  | false => exact r_wp_ok (h2 rfl)
theorem q_eOr {a b : E} {Q : D → Sto → Prop} (h : Wp X (fun x s => onTru x s (Q x s) (Wp X Q (b env s))) (a env st)) : Wp X Q (eOr a b env st) := by
  rw [wp_eOr]
  refine h.w fun x s ⟨k, e, h1, h2⟩ => ?_
  rw [e]
  cases k with
  | true => exact r_wp_ok (h1 rfl)
  | false => exact h2 rfl
theorem q_eNot {a : E} {Q : D → Sto → Prop} (h : Wp X (fun x s => onTru x s (Q (.bl false) s) (Q (.bl true) s)) (a env st)) : Wp X Q (eNot a env st) := by
  rw [wp_eNot]
  refine h.w fun x s ⟨k, e, h1, h2⟩ => ?_
  rw [e]
  cases k with
  | true => exact r_wp_ok (h1 rfl)
  | false => exact r_wp_ok (h2 rfl)
theorem q_chain {f g : D → D → O D} {a b c : E} {Q : D → Sto → Prop} (h : Wp X (fun x s => Wp X (fun y s => Wo (fun z s => onB z (Wp X (fun w s => Wo Q (g y w s)) (c env s)) (Q (.bl false) s)) (f x y s)) (b env s)) (a env st)) : Wp X Q (eChain f g a b c env st) := by
  rw [wp_chain]
  refine h.w fun x s h => h.w fun y s h => h.mono fun z s ⟨k, e, h1, h2⟩ => ?_
  subst e
  cases k with
  | true =>
    show Wp X Q ((c env s).bind fun w s => ofO (g y w s))
    rw [wp_bind]
    exact (h1 rfl).w fun w s h => r_wp_ofO h
  | false => exact r_wp_ok (h2 rfl)
theorem q_meth {c : Nat} {m : String} {g : F} {a : E} {as : List E} {Q : D → Sto → Prop} (h : Wp X (fun x s => onObj x s c m fun i => Wp X (fun xs s' => Wp X Q (g (.ref i :: xs) s')) (eArgs as env s)) (a env st)) : Wp X Q (eMeth c m g a as env st) := by
  rw [wp_meth]
  refine h.w fun x s ⟨i, fs, e, hi, hm, h⟩ => ?_
  subst e
  simp only [hi]
  rw [if_pos ⟨trivial, hm⟩, wp_bind]
  exact h
theorem q_make {c : Nat} {g : F} {as : List E} {Q : D → Sto → Prop} (h : Wp X (fun xs s => Wp X (fun r s' => onNon r (Q (.ref s.length) s')) (g (.ref s.length :: xs) (s ++ [.ins c []]))) (eArgs as env st)) : Wp X Q (eMake c g as env st) := by
  rw [wp_make]
  exact h.w fun xs s h => h.w fun r s' ⟨e, h⟩ => by subst e; exact r_wp_ok h
theorem q_fmt {a : E} {Q : D → Sto → Prop} (h : Wp X (fun x s => onFmt x fun y => Q (.str y) s) (a env st)) : Wp X Q (eFmt a env st) := by
  rw [wp_fmt]
  refine h.w fun x s h => ?_
  rcases h with ⟨y, rfl, hl, h⟩ | ⟨i, rfl, hl, h⟩
  · simp only [if_pos hl]; exact r_wp_ok h
  · simp only [if_pos hl]; exact r_wp_ok h
theorem q_join {a : E} {as : List E} {acc : Str} {Q : D → Sto → Prop} (h : Wp X (fun x s => onStr x fun y => Both ((acc ++ y).length ≤ LIM) (Wp X Q (eJoin as (acc ++ y) env s))) (a env st)) : Wp X Q (eJoin (a :: as) acc env st) := by
  rw [wp_joinC]
  refine h.w fun x s ⟨y, e, hl, h⟩ => ?_
  subst e
  simp only [if_pos hl]; exact h
theorem q_part {f : E} {Q : Option Int → Sto → Prop} (h : Wp X (fun x s => onInt x fun i => Q (some i) s) (f env st)) : Wp X Q (ePart (some f) env st) := by
  rw [wp_partS]
  exact h.w fun x s ⟨y, e, h⟩ => by subst e; exact r_wp_ok h
theorem q_iS {a : E} {Q : Its → Sto → Prop} (h : Wp X (fun x s => onIter x s fun t => Q t s) (a env st)) : Wp X Q (iS a env st) := by
  rw [wp_iS]
  exact h.w fun x s ⟨y, e, h⟩ => by rw [e]; exact r_wp_ok h
theorem q_iR1 {a : E} {Q : Its → Sto → Prop} (h : Wp X (fun x s => onInt x fun j => Both (-(2 ^ 62) ≤ j ∧ j < 2 ^ 62) (Q ⟨rngI 0 j.toNat, none⟩ s)) (a env st)) : Wp X Q (iR1 a env st) := by
  rw [wp_iR1, wp_cons]
  refine h.w fun x s ⟨y, e, hl, h⟩ => ?_
  subst e
  rw [wp_nil]
  simp only [if_pos hl]; exact r_wp_ok h
theorem q_iR2 {a b : E} {Q : Its → Sto → Prop} (h : Wp X (fun x s => Wp X (fun y s => onInt x fun i => onInt y fun j => Both (-(2 ^ 62) ≤ i ∧ i < 2 ^ 62 ∧ -(2 ^ 62) ≤ j ∧ j < 2 ^ 62) (Q ⟨rngI i (j - i).toNat, none⟩ s)) (b env s)) (a env st)) : Wp X Q (iR2 a b env st) := by
  rw [wp_iR2, wp_cons]
  refine h.w fun x s h => ?_
  rw [wp_cons]
  refine h.w fun y s h8 => ?_
  obtain ⟨i, e, j, e2, hl, h9⟩ := h8
  subst e e2
  rw [wp_nil]
  simp only [if_pos hl]; exact r_wp_ok h9
theorem q_iR3 {a b c : E} {Q : Its → Sto → Prop} {n : Nat} {i j k : Int} (h : Wp X (fun x s => Wp X (fun y s => Wp X (fun z s => x = .int i ∧ y = .int j ∧ z = .int k ∧ RgC i j k n ∧ Q ⟨rngC i k n, none⟩ s) (c env s)) (b env s)) (a env st)) : Wp X Q (iR3 a b c env st) := by
  unfold iR3
  rw [wp_bind, wp_cons]
  refine h.w fun x s h => ?_
  rw [wp_cons]
  refine h.w fun y s h => ?_
  rw [wp_cons]
  refine h.w fun z s h => ?_
  obtain ⟨rfl, rfl, rfl, hr, h⟩ := h
  rw [wp_nil]
  have he : ∃ n, RgC i j k n := ⟨n, hr⟩
  simp only [dif_pos he]
  rw [RgC.same he.choose_spec hr]
  exact r_wp_ok h
def onLst (x : D) (s : Sto) (P : Nat → List D → Prop) : Prop := ∃ r ds, x = .ref r ∧ s[r]? = some (.lst ds) ∧ P r ds
theorem r_onLst {P : Nat → List D → Prop} {r : Nat} {ds : List D} (hr : s[r]? = some (.lst ds)) (h : P r ds) : onLst (.ref r) s P := ⟨r, ds, rfl, hr, h⟩
theorem q_iEn {a : E} {Q : Its → Sto → Prop} (h : Wp X (fun x s => onLst x s fun r ds => Q ⟨enumI ds, some (r, ds)⟩ s) (a env st)) : Wp X Q (iEn a env st) := by
  rw [wp_iEn, wp_cons]
  refine h.w fun x s h => ?_
  obtain ⟨r, ds, rfl, hr, h⟩ := h
  rw [wp_nil]
  simp only [hr]
  exact r_wp_ok h
end
/-! ### what of the store stays -/
/-- all cells but those of P are as they were -/
def Chg (P : List Nat) (st st' : Sto) : Prop := ∀ i c, i ∉ P → st[i]? = some c → st'[i]? = some c
theorem Chg.refl {P : List Nat} {st : Sto} : Chg P st st := fun _ _ _ h => h
theorem Chg.trans {P : List Nat} {a b c : Sto} (h : Chg P a b) (k : Chg P b c) : Chg P a c := fun i x hi e => k i x hi (h i x hi e)
theorem Chg.wide {P P' : List Nat} {a b : Sto} (h : Chg P a b) (k : ∀ i ∈ P, i ∈ P') : Chg P' a b := fun i x hi e => h i x (fun z => hi (k i z)) e
theorem Chg.up {P : List Nat} {a b : Sto} (h : Chg [] a b) : Chg P a b := h.wide (by simp)
theorem Chg.get {P : List Nat} {a b : Sto} (h : Chg P a b) {i : Nat} {c : Cell} (hi : i ∉ P) (e : a[i]? = some c) : b[i]? = some c := h i c hi e
theorem Chg.get0 {a b : Sto} (h : Chg [] a b) {i : Nat} {c : Cell} (e : a[i]? = some c) : b[i]? = some c := h i c (by simp) e
/-- a place that stood nowhere before -/
theorem Chg.new {P : List Nat} {a b c : Sto} {r : Nat} (h : Chg P a b) (hr : a[r]? = none) (k : Chg (r :: P) b c) : Chg P a c := fun i x hi e => k i x (fun z => by
  rcases List.mem_cons.mp z with z | z
  · subst z; rw [hr] at e; cases e
  · exact hi z) (h i x hi e)
theorem Chg.app {P : List Nat} {st t : Sto} : Chg P st (st ++ t) := fun i c _ e => by
  rw [List.getElem?_append_left (List.getElem?_eq_some_iff.mp e).1]; exact e
theorem Chg.set {P : List Nat} {st : Sto} {i : Nat} {c : Cell} (hi : i ∈ P) : Chg P st (st.set i c) := fun j x hj e => by
  rw [List.getElem?_set]
  split
  · rename_i h; subst h; exact (hj hi).elim
  · exact e
section
variable {X : XP} {Q : D → Sto → Prop} {env : Sl} {st : Sto} {K : Ks}
/-- a new list -/
theorem wo_new {ds : List D} (h : ∀ r s, s[r]? = some (.lst ds) → st[r]? = none → Chg [] st s → Q (.ref r) s) : Wo Q (newL ds st) := r_wo_some (h _ _ (by simp) (by simp) Chg.app)
theorem wo_lst {ds : List D} (hl : ds.length ≤ LIM) (h : ∀ r s, s[r]? = some (.lst ds) → st[r]? = none → Chg [] st s → Q (.ref r) s) : Wo Q (opLst ds st) := by
  unfold opLst
  rw [if_pos hl]
  exact wo_new h
theorem set_get {st : Sto} {i : Nat} {c c' : Cell} (h : st[i]? = some c') : (st.set i c)[i]? = some c := by
  rw [List.getElem?_set_self (List.getElem?_eq_some_iff.mp h).1]
theorem wo_append {i : Nat} {ds : List D} {y : D} (hi : st[i]? = some (.lst ds)) (hl : ds.length < LIM) (h : ∀ s, s[i]? = some (.lst (ds ++ [y])) → Chg [i] st s → Q .non s) : Wo Q (opAppend (.ref i) [y] st) := by
  simp only [opAppend, hi, if_pos hl]
  exact r_wo_some (h _ (set_get hi) (Chg.set (by simp)))
theorem wo_extend {i j : Nat} {ds es : List D} (hi : st[i]? = some (.lst ds)) (hj : st[j]? = some (.lst es)) (hl : ds.length + es.length ≤ LIM) (h : ∀ s, s[i]? = some (.lst (ds ++ es)) → Chg [i] st s → Q .non s) : Wo Q (opExtend (.ref i) [.ref j] st) := by
  simp only [opExtend, hi, hj, if_pos hl]
  exact r_wo_some (h _ (set_get hi) (Chg.set (by simp)))
theorem wo_setIx {Q : Unit → Sto → Prop} {r : Nat} {ds : List D} {z : Int} {j : Nat} {d : D} (hi : st[r]? = some (.lst ds)) (hj : ixN ds.length z = some j) (h : ∀ s, s[r]? = some (.lst (ds.set j d)) → Chg [r] st s → Q () s) : Wo Q (opSet (.ref r) (.int z) d st) := by
  simp only [opSet, hi, hj]
  exact r_wo_some (h _ (set_get hi) (Chg.set (by simp)))
theorem wo_setF {Q : Unit → Sto → Prop} {P : Nat → Bool} {f : String} {r c : Nat} {fs : List (String × D)} {d : D} (hi : st[r]? = some (.ins c fs)) (hP : P c = true) (hl : fs.length < 1000) (h : ∀ s, s[r]? = some (.ins c (putD f d fs)) → Chg [r] st s → Q () s) : Wo Q (opSetF P f (.ref r) d st) := by
  simp only [opSetF, hi, if_pos (And.intro hP hl)]
  exact r_wo_some (h _ (set_get hi) (Chg.set (by simp)))
theorem wo_addL {i j : Nat} {a b : List D} (hi : st[i]? = some (.lst a)) (hj : st[j]? = some (.lst b)) (hl : a.length + b.length ≤ LIM) (h : ∀ r s, s[r]? = some (.lst (a ++ b)) → st[r]? = none → Chg [] st s → Q (.ref r) s) : Wo Q (opAdd (.ref i) (.ref j) st) := by
  simp only [opAdd, hi, hj, if_pos hl]
  exact wo_new h
theorem tyOk_list {r : Nat} {ds : List D} {s : Sto} (h : s[r]? = some (.lst ds)) : tyOk "list" (.ref r) s = true := by simp [tyOk, h]
theorem tyOk_str {x : Str} {s : Sto} : tyOk "str" (.str x) s = true := rfl
/-! operations -/
theorem w_addI {i j : Int} (h : Q (.int (i + j)) st) : Wo Q (opAdd (.int i) (.int j) st) := r_wo_of rfl h
theorem w_addS {x y : Str} (hl : x.length + y.length ≤ LIM) (h : Q (.str (x ++ y)) st) : Wo Q (opAdd (.str x) (.str y) st) := by simp only [opAdd, if_pos hl]; exact r_wo_some h
theorem w_sub {i j : Int} (h : Q (.int (i - j)) st) : Wo Q (opSub (.int i) (.int j) st) := r_wo_of rfl h
theorem w_mul {i j : Int} (hl : (-(2 ^ 64) < i ∧ i < 2 ^ 64) ∨ (-(2 ^ 64) < j ∧ j < 2 ^ 64)) (h : Q (.int (i * j)) st) : Wo Q (opMul (.int i) (.int j) st) := by simp only [opMul, if_pos hl]; exact r_wo_some h
theorem w_div {i j : Int} (h0 : 0 < j) (h1 : j < 1073741824) (h : Q (.int (i / j)) st) : Wo Q (opDiv (.int i) (.int j) st) := by simp only [opDiv, if_pos (And.intro h0 h1)]; exact r_wo_some h
theorem w_mod {i j : Int} (h0 : 0 < j) (h : Q (.int (i % j)) st) : Wo Q (opMod (.int i) (.int j) st) := by simp only [opMod, if_pos h0]; exact r_wo_some h
theorem w_pow {i j : Int} (h0 : 0 ≤ j ∧ j ≤ 1000000 ∧ i.natAbs < 2 ^ 64) (h : Q (.int (i ^ j.toNat)) st) : Wo Q (opPow (.int i) (.int j) st) := by simp only [opPow, if_pos h0]; exact r_wo_some h
theorem w_neg {i : Int} (h : Q (.int (-i)) st) : Wo Q (opNeg (.int i) st) := r_wo_of rfl h
theorem w_lt {i j : Int} (h : Q (.bl (decide (i < j))) st) : Wo Q (opCmp (fun i j => decide (i < j)) (.int i) (.int j) st) := r_wo_of rfl h
theorem w_le {i j : Int} (h : Q (.bl (decide (i ≤ j))) st) : Wo Q (opCmp (fun i j => decide (i ≤ j)) (.int i) (.int j) st) := r_wo_of rfl h
theorem w_gt {i j : Int} (h : Q (.bl (decide (j < i))) st) : Wo Q (opCmp (fun i j => decide (j < i)) (.int i) (.int j) st) := r_wo_of rfl h
theorem w_ge {i j : Int} (h : Q (.bl (decide (j ≤ i))) st) : Wo Q (opCmp (fun i j => decide (j ≤ i)) (.int i) (.int j) st) := r_wo_of rfl h
theorem w_is {x : D} (h : Q (.bl (isNon x)) st) : Wo Q (opIs x .non st) := r_wo_of rfl h
theorem w_isNot {x : D} (h : Q (.bl (!isNon x)) st) : Wo Q (opIsNot x .non st) := r_wo_of rfl h
theorem w_ixT {ds : List D} {i : Int} {d : D} (hi : atI ds i = some d) (h : Q d st) : Wo Q (opIx (.tup ds) (.int i) st) := by simp only [opIx, seqOf, hi]; exact r_wo_some h
theorem w_ixL {r : Nat} {ds : List D} {i : Int} {d : D} (hr : st[r]? = some (.lst ds)) (hi : atI ds i = some d) (h : Q d st) : Wo Q (opIx (.ref r) (.int i) st) := by simp only [opIx, seqOf, hr, hi]; exact r_wo_some h
theorem w_ixS {x : Str} {i : Int} {c : Nat} (hi : atI x.cps.toList i = some c) (hl : x.length ≤ LIM) (h : Q (.str ⟨#[c]⟩) st) : Wo Q (opIx (.str x) (.int i) st) := by simp only [opIx, hi, if_pos hl]; exact r_wo_some h
theorem w_lenT {ds : List D} (h : Q (.int ds.length) st) : Wo Q (opLen [.tup ds] st) := r_wo_of rfl h
theorem w_lenL {r : Nat} {ds : List D} (hr : st[r]? = some (.lst ds)) (h : Q (.int ds.length) st) : Wo Q (opLen [.ref r] st) := by simp only [opLen, lenOf, seqOf, hr, Option.map_some]; exact r_wo_some h
theorem w_lenS {x : Str} (hl : x.length ≤ LIM) (h : Q (.int x.length) st) : Wo Q (opLen [.str x] st) := by simp only [opLen, lenOf, if_pos hl]; exact r_wo_some h
theorem w_intI {i : Int} (h : Q (.int i) st) : Wo Q (opInt [.int i] st) := r_wo_of rfl h
theorem w_abs {i : Int} (h : Q (.int (if i < 0 then -i else i)) st) : Wo Q (opAbs [.int i] st) := r_wo_of rfl h
theorem w_str {i : Int} (hl : i.natAbs.log2 < 1920) (h : Q (.str (toString i)) st) : Wo Q (opStr [.int i] st) := by simp only [opStr, if_pos hl]; exact r_wo_some h
theorem w_strS {x : Str} (h : Q (.str x) st) : Wo Q (opStr [.str x] st) := r_wo_of rfl h
theorem w_fld {P : Nat → Bool} {f : String} {r c : Nat} {fs : List (String × D)} {d : D} (hr : st[r]? = some (.ins c fs)) (hP : P c = true) (hf : fs.lookup f = some d) (h : Q d st) : Wo Q (opFld P f (.ref r) st) := by simp only [opFld, hr, if_pos hP, hf]; exact r_wo_some h
theorem w_isiR {t : TC} {ans : Kd → Option Bool} {r : Nat} {c : D} {ds : List D} {b : Bool} (hr : st[r]? = some (.lst ds)) (ht : isTC t c = true) (hb : ans .lst = some b) (h : Q (.bl b) st) : Wo Q (opIsi t ans [.ref r, c] st) := by simp only [opIsi, if_pos ht, kind, hr, hb]; exact r_wo_some h
theorem w_isiC {t : TC} {ans : Kd → Option Bool} {r k : Nat} {c : D} {fs : List (String × D)} {b : Bool} (hr : st[r]? = some (.ins k fs)) (ht : isTC t c = true) (hb : ans (.ins k) = some b) (h : Q (.bl b) st) : Wo Q (opIsi t ans [.ref r, c] st) := by simp only [opIsi, if_pos ht, kind, hr, hb]; exact r_wo_some h
theorem w_isi {t : TC} {ans : Kd → Option Bool} {x c : D} {b : Bool} (hb : opIsi t ans [x, c] [] = some (.bl b, [])) (hx : ∀ r, x ≠ .ref r) (h : Q (.bl b) st) : Wo Q (opIsi t ans [x, c] st) := by
  have e : kind x st = kind x [] := by cases x <;> first | rfl | exact (hx _ rfl).elim
  have e2 : opIsi t ans [x, c] st = some (.bl b, st) := by
    unfold opIsi at hb ⊢
    simp only [e] at hb ⊢
    split at hb
    · rename_i ht
      rw [if_pos ht]
      split at hb
      · split at hb
        · cases hb; rfl
        · cases hb
      · cases hb
    · cases hb
  rw [e2]; exact r_wo_some h
theorem w_isiRT {t : TC} {ans : Kd → Option Bool} {r : Nat} {c : D} {ds : List D} {b : Bool} (hr : st[r]? = some (.lst ds)) (ht : isTC t c = true) (hb : ans .lst = some b) (e : b = true) (h : Q (.bl true) st) : Wo Q (opIsi t ans [.ref r, c] st) := w_isiR hr ht hb (by rw [e]; exact h)
theorem w_isiCT {t : TC} {ans : Kd → Option Bool} {r k : Nat} {c : D} {fs : List (String × D)} {b : Bool} (hr : st[r]? = some (.ins k fs)) (ht : isTC t c = true) (hb : ans (.ins k) = some b) (e : b = true) (h : Q (.bl true) st) : Wo Q (opIsi t ans [.ref r, c] st) := w_isiC hr ht hb (by rw [e]; exact h)
theorem w_isiT {t : TC} {ans : Kd → Option Bool} {x c : D} {b : Bool} (hb : opIsi t ans [x, c] [] = some (.bl b, [])) (e : b = true) (hx : ∀ r, x ≠ .ref r) (h : Q (.bl true) st) : Wo Q (opIsi t ans [x, c] st) := w_isi hb hx (by rw [e]; exact h)
theorem w_isiRF {t : TC} {ans : Kd → Option Bool} {r : Nat} {c : D} {ds : List D} {b : Bool} (hr : st[r]? = some (.lst ds)) (ht : isTC t c = true) (hb : ans .lst = some b) (e : b = false) (h : Q (.bl false) st) : Wo Q (opIsi t ans [.ref r, c] st) := w_isiR hr ht hb (by rw [e]; exact h)
theorem w_isiCF {t : TC} {ans : Kd → Option Bool} {r k : Nat} {c : D} {fs : List (String × D)} {b : Bool} (hr : st[r]? = some (.ins k fs)) (ht : isTC t c = true) (hb : ans (.ins k) = some b) (e : b = false) (h : Q (.bl false) st) : Wo Q (opIsi t ans [.ref r, c] st) := w_isiC hr ht hb (by rw [e]; exact h)
theorem w_isiF {t : TC} {ans : Kd → Option Bool} {x c : D} {b : Bool} (hb : opIsi t ans [x, c] [] = some (.bl b, [])) (e : b = false) (hx : ∀ r, x ≠ .ref r) (h : Q (.bl false) st) : Wo Q (opIsi t ans [x, c] st) := w_isi hb hx (by rw [e]; exact h)
theorem w_tup {ds : List D} (hl : ds.length ≤ LIM) (h : Q (.tup ds) st) : Wo Q (opTup ds st) := by simp only [opTup, if_pos hl]; exact r_wo_some h
theorem w_tupleL {r : Nat} {ds : List D} (hr : st[r]? = some (.lst ds)) (h : Q (.tup ds) st) : Wo Q (opTuple [.ref r] st) := by simp only [opTuple, seqOf, hr]; exact r_wo_some h
theorem w_join {a : Str} {r : Nat} {ds : List D} {ys : List Str} (hr : st[r]? = some (.lst ds)) (hs : strsOf ds = some ys) (hl : (ys.map (·.length)).sum + ys.length * a.length ≤ LIM) (h : Q (.str (Txt.join a ys)) st) : Wo Q (opJoin (.str a) [.ref r] st) := by simp only [opJoin, seqOf, hr, hs, if_pos hl]; exact r_wo_some h
theorem w_split {a b : Str} (hb : (b.length == 0) = false) (hl : a.length + 2 ≤ LIM) (h : ∀ r s, s[r]? = some (.lst ((Txt.split a b).map D.str)) → st[r]? = none → Chg [] st s → Q (.ref r) s) : Wo Q (opSplit (.str a) [.str b] st) := by
  simp only [opSplit, if_pos (And.intro hb hl)]
  exact wo_new h
theorem w_strip {a b : Str} (hl : a.length ≤ LIM) (h : Q (.str (Txt.stripChars a b)) st) : Wo Q (opStrip (.str a) [.str b] st) := by simp only [opStrip, if_pos hl]; exact r_wo_some h
theorem w_eq {x y : D} {b : Bool} (he : eqD st x y = some b) (h : Q (.bl b) st) : Wo Q (opEq x y st) := by simp only [opEq, he]; exact r_wo_some h
theorem w_ne {x y : D} {b : Bool} (he : eqD st x y = some b) (h : Q (.bl (!b)) st) : Wo Q (opNe x y st) := by simp only [opNe, he]; exact r_wo_some h
theorem eqD_int {i j : Int} : eqD st (.int i) (.int j) = some (i == j) := by
  simp [eqD, deep, SeqAt.shaped, PyData.eqv, PyData.canLay0, PyData.depth]
theorem w_eqI {i j : Int} (h : Q (.bl (i == j)) st) : Wo Q (opEq (.int i) (.int j) st) := w_eq eqD_int h
theorem w_neI {i j : Int} (h : Q (.bl (!(i == j))) st) : Wo Q (opNe (.int i) (.int j) st) := w_ne eqD_int h
theorem eqD_str {x y : Str} (hx : PyData.strOk x = true) (hy : PyData.strOk y = true) : eqD st (.str x) (.str y) = some (x == y) := by
  simp [eqD, deep, SeqAt.shaped, PyData.eqv, PyData.canLay0, PyData.depth, hx, hy]
theorem w_eqS {x y : Str} (hx : PyData.strOk x = true) (hy : PyData.strOk y = true) (h : Q (.bl (x == y)) st) : Wo Q (opEq (.str x) (.str y) st) := w_eq (eqD_str hx hy) h
theorem w_neS {x y : Str} (hx : PyData.strOk x = true) (hy : PyData.strOk y = true) (h : Q (.bl (!(x == y))) st) : Wo Q (opNe (.str x) (.str y) st) := w_ne (eqD_str hx hy) h
theorem eqD_bl {i j : Bool} : eqD st (.bl i) (.bl j) = some (i == j) := by
  simp [eqD, deep, SeqAt.shaped, PyData.eqv, PyData.canLay0, PyData.depth]
theorem w_eqB {x y : Bool} (h : Q (.bl (x == y)) st) : Wo Q (opEq (.bl x) (.bl y) st) := w_eq eqD_bl h
theorem w_neB {x y : Bool} (h : Q (.bl (!(x == y))) st) : Wo Q (opNe (.bl x) (.bl y) st) := w_ne eqD_bl h
theorem w_in {neg : Bool} {x : Str} {ds : List D} (h0 : ds.all flatD = true) (h : Q (.bl (if neg then !inF (.str x) ds else inF (.str x) ds)) st) : Wo Q (opIn neg (.str x) (.tup ds) st) := by
  simp only [opIn, seqOf]
  rw [if_pos ⟨rfl, h0⟩]
  exact r_wo_some h
theorem w_inL {neg : Bool} {r : Nat} {x : Str} {ds : List D} (hr : st[r]? = some (.lst ds)) (h0 : ds.all flatD = true) (h : Q (.bl (if neg then !inF (.str x) ds else inF (.str x) ds)) st) : Wo Q (opIn neg (.str x) (.ref r) st) := by
  simp only [opIn, seqOf, hr]
  rw [if_pos ⟨rfl, h0⟩]
  exact r_wo_some h
theorem w_slL {lo hi : Option Int} {r : Nat} {ds : List D} (hr : st[r]? = some (.lst ds)) (h : ∀ q s, s[q]? = some (.lst (cutD ds lo hi)) → st[q]? = none → Chg [] st s → Q (.ref q) s) : Wo Q (opSl lo hi (.ref r) st) := by
  simp only [opSl, seqOf, hr]
  exact wo_new h
theorem w_intS {x : Str} {n : Int} (hn : PySem.intText? x = some n) (hl : x.length ≤ 640) (h : Q (.int n) st) : Wo Q (opInt [.str x] st) := by
  simp only [opInt, hn, if_pos hl]
  exact r_wo_some h
/-! loops -/
theorem owp_forS {p : Its} {t : Tg} {body : Sm} {ds : List D} (I : Nat → Sl → Sto → Prop)
    (step : ∀ i d e s, ds[i]? = some d → I i e s → p.okB s ∧ ∃ e', Tg.sem s t d e = some e' ∧ Owp (K.loop (I (i + 1))) (body e' s))
    (hend : ∀ e s, I ds.length e s → p.okB s ∧ K.nx e s) : ∀ {env st}, I 0 env st → Owp K (forS p t body ds env st) := by
  intro env st h0
  have key : ∀ (k : Nat) (l : List D) (e : Sl) (s : Sto), l = ds.drop k → k ≤ ds.length → I k e s → Owp K (forS p t body l e s) := by
    intro k l
    induction l generalizing k with
    | nil =>
      intro e s hl hk hI
      have : k = ds.length := by
        have := congrArg List.length hl
        simp at this
        omega
      subst this
      obtain ⟨h1, h2⟩ := hend e s hI
      unfold forS
      rw [if_pos h1]
      exact ⟨h2⟩
    | cons d l ih =>
      intro e s hl hk hI
      have hd : ds[k]? = some d := by
        have := congrArg (fun l => l[0]?) hl
        simp at this
        exact this.symm
      have hkl : k < ds.length := (List.getElem?_eq_some_iff.mp hd).1
      have hl' : l = ds.drop (k + 1) := by
        have := congrArg List.tail hl
        simpa using this
      obtain ⟨h1, e', h2, h3⟩ := step k d e s hd hI
      unfold forS
      rw [if_pos h1, h2]
      simp only
      revert h3
      cases body e' s with
      | nx e2 s2 => exact fun h3 => ih (k + 1) e2 s2 hl' hkl h3.out
      | ct e2 s2 => exact fun h3 => ih (k + 1) e2 s2 hl' hkl h3.out
      | bk e2 s2 => exact fun h3 => ⟨h3.out⟩
      | rt d2 s2 => exact fun h3 => ⟨h3.out⟩
      | exn c fs e2 s2 => exact fun h3 => ⟨h3.out⟩
      | bad => exact fun h3 => ⟨h3.out⟩
  exact key 0 ds env st (by simp) (Nat.zero_le _) h0
theorem owp_for {it : Sl → M Its} {t : Tg} {body : Sm} : Owp K (sFor it t body env st) = Wp (fun c fs s => K.ex c fs env s) (fun p s => Owp K (forS p t body p.items env s)) (it env st) := by unfold sFor; rw [owp_out]
theorem r_owp_for {it : Sl → M Its} {t : Tg} {body : Sm} (h : Wp (fun c fs s => K.ex c fs env s) (fun p s => Owp K (forS p t body p.items env s)) (it env st)) : Owp K (sFor it t body env st) := Eq.mpr owp_for h
theorem okB_none {ds : List D} {s : Sto} : Its.okB ⟨ds, none⟩ s := fun _ _ h => by cases h
theorem okB_some {ds es : List D} {i : Nat} {s : Sto} (h : s[i]? = some (.lst es)) : Its.okB ⟨ds, some (i, es)⟩ s := fun _ _ z => by cases z; exact h
/-- a comprehension: what each item gives -/
theorem wp_lcS {p : Its} {vs : List Nat} {t : Tg} {c : T} {e : E} {L : Nat} {env : Sl} {st0 : Sto} (sel : D → Option D) (hp : ∀ s, Chg [] st0 s → p.okB s) (hL : st0[L]? = none) : ∀ (ds : List D) (acc : List D) (s : Sto), acc.length + ds.length ≤ LIM → s[L]? = some (.lst acc) → Chg [] st0 s →
    (∀ d ∈ ds, ∀ s ds', s[L]? = some (.lst ds') → Chg [] st0 s → ∃ e1, Tg.sem s t d (wipeD env vs) = some e1 ∧ Wp (fun _ _ _ => False) (fun k s1 => if k = true then Wp (fun _ _ _ => False) (fun y s2 => sel d = some y ∧ Chg [] s s2) (e e1 s1) else sel d = none ∧ Chg [] s s1) (c e1 s)) →
    ∃ s', lcS p vs t c e L env ds s = some s' ∧ s'[L]? = some (.lst (acc ++ ds.filterMap sel)) ∧ Chg [] st0 s'
  | [], acc, s, _, hs, h, _ => ⟨s, by unfold lcS; rw [if_pos (hp s h)], by simpa using hs, h⟩
  | d :: ds, acc, s, hl, hs, h, H => by
    obtain ⟨e1, he1, hw⟩ := H d (by simp) s acc hs h
    obtain ⟨k, s1, hc, hw⟩ := hw.to
    have H' := fun d hd => H d (List.mem_cons_of_mem _ hd)
    unfold lcS
    rw [if_pos (hp s h), he1]
    simp only [hc]
    cases k with
    | true =>
      rw [if_pos rfl] at hw
      obtain ⟨y, s2, he, hy, hch⟩ := hw.to
      have h2 := hch.get0 hs
      simp only [List.length_cons] at hl
      simp only [he, h2]
      rw [if_pos (by omega)]
      obtain ⟨s', r1, r2, r3⟩ := wp_lcS (p := p) (vs := vs) (t := t) (c := c) (e := e) (env := env) sel hp hL ds (acc ++ [y]) (s2.set L (.lst (acc ++ [y]))) (by simp; omega) (set_get h2) (Chg.new (h.trans hch) hL (Chg.set (by simp))) H'
      exact ⟨s', r1, by rw [r2]; simp [hy], r3⟩
    | false =>
      simp only [Bool.false_eq_true, if_false] at hw
      obtain ⟨hy, hch⟩ := hw
      simp only [List.length_cons] at hl
      obtain ⟨s', r1, r2, r3⟩ := wp_lcS (p := p) (vs := vs) (t := t) (c := c) (e := e) (env := env) sel hp hL ds acc s1 (by omega) (hch.get0 hs) (h.trans hch) H'
      exact ⟨s', r1, by rw [r2]; simp [hy], r3⟩
theorem wp_lc {vs : List Nat} {it : Sl → M Its} {t : Tg} {c : T} {e : E} (h : Wp X (fun p s0 => ∃ sel : D → Option D, (∀ s, Chg [] s0 s → p.okB s) ∧ p.items.length ≤ LIM ∧
    (∀ d ∈ p.items, ∀ s, Chg [] s0 s → ∃ e1, Tg.sem s t d (wipeD env vs) = some e1 ∧ Wp (fun _ _ _ => False) (fun k s1 => if k = true then Wp (fun _ _ _ => False) (fun y s2 => sel d = some y ∧ Chg [] s s2) (e e1 s1) else sel d = none ∧ Chg [] s s1) (c e1 s)) ∧
    ∀ r s, s[r]? = some (.lst (p.items.filterMap sel)) → s0[r]? = none → Chg [] s0 s → Q (.ref r) s) (it env st)) : Wp X Q (eLc vs it t c e env st) := by
  unfold eLc
  rw [wp_bind]
  refine h.imp ?_ fun _ _ _ z => z
  rintro p s0 ⟨sel, hp, hl, H, k⟩
  obtain ⟨s', r1, r2, r3⟩ := wp_lcS (p := p) (vs := vs) (t := t) (c := c) (e := e) (env := env) (L := s0.length) (st0 := s0) sel hp (by simp) p.items [] (s0 ++ [.lst []]) (by simpa using hl) (by simp) Chg.app (fun d hd s ds' _ hs => H d hd s hs)
  rw [r1]
  exact r_wp_ok (k _ _ (by simpa using r2) (by simp) r3)
end
end LF

set_option Elab.async false
set_option linter.all false
namespace LF
open PySem PySem.Spec PyProof.Rows L2
section
variable {α : Type} {X : XP} {Q : D → Sto → Prop} {env : Sl} {st s : Sto} {K : Ks}
/-! ### raise, try -/
theorem r_raise0 {c : Nat} (h : K.ex c [] env st) : Owp K (sRaise0 c env st) := Eq.mpr owp_exn h
theorem r_raise1 {c : Nat} {f : String} {a : E} (h : Wp (fun c fs s => K.ex c fs env s) (fun d s => K.ex c [(f, d)] env s) (a env st)) : Owp K (sRaise1 c f a env st) := by
  unfold sRaise1
  rw [owp_out]
  exact h.w fun d s h => Eq.mpr owp_exn h
theorem r_raise2 {c : Nat} {f g : String} {a b : E} (h : Wp (fun c fs s => K.ex c fs env s) (fun x s => Wp (fun c fs s => K.ex c fs env s) (fun y s => K.ex c [(g, y), (f, x)] env s) (b env s)) (a env st)) : Owp K (sRaise2 c f g a b env st) := by
  unfold sRaise2
  rw [owp_out]
  refine h.w fun d s h => ?_
  rw [owp_out]
  exact h.w fun d s h => Eq.mpr owp_exn h
def Ks.try (K : Ks) (hs : List Hx) : Ks := ⟨K.nx, K.rt, K.bk, K.ct, fun c fs e s => Owp K (hGo c fs e s hs)⟩
theorem r_try {b : Sm} {hs : List Hx} (h : Owp (K.try hs) (b env st)) : Owp K (sTry b hs env st) := by
  unfold sTry
  revert h
  cases b env st with
  | exn c fs e s => exact fun h => h.out
  | nx e s => exact fun h => ⟨h.out⟩
  | rt d s => exact fun h => ⟨h.out⟩
  | bk e s => exact fun h => ⟨h.out⟩
  | ct e s => exact fun h => ⟨h.out⟩
  | bad => exact fun h => ⟨h.out⟩
theorem r_try_nx {hs : List Hx} {e : Sl} {s : Sto} (h : K.nx e s) : (K.try hs).nx e s := h
theorem r_try_rt {hs : List Hx} {d : D} {s : Sto} (h : K.rt d s) : (K.try hs).rt d s := h
theorem r_try_ex {hs : List Hx} {c : Nat} {fs : List (String × D)} {e : Sl} {s : Sto} (h : Owp K (hGo c fs e s hs)) : (K.try hs).ex c fs e s := h
theorem r_hgo_no {c : Nat} {fs : List (String × D)} {h : Hx} {hs : List Hx} (hc : c ≠ h.c) (hm : c ∈ h.no) (k : Owp K (hGo c fs env st hs)) : Owp K (hGo c fs env st (h :: hs)) := by
  unfold hGo
  rw [if_neg hc, if_pos hm]
  exact k
theorem r_hgo_only {c : Nat} {fs : List (String × D)} {no : List Nat} {f : List (String × D) → E} {hs : List Hx} (h : Wp (fun _ _ _ => False) (fun d s => K.rt d s) (f [] env st)) : Owp K (hGo c fs env st (⟨c, no, none, f⟩ :: hs)) := by
  unfold hGo Hx.run
  rw [if_pos rfl]
  obtain ⟨d, s, e, q⟩ := h.to
  simp only [e]
  exact r_owp_rt q
theorem r_hgo_named {c i : Nat} {fs : List (String × D)} {no : List Nat} {f : List (String × D) → E} {hs : List Hx} (hf : fs ≠ []) (h : Wp (fun _ _ _ => False) (fun d s => noX 8 d = true ∧ s = st ∧ K.rt d s) (f fs (env.set i (some .xc)) st)) : Owp K (hGo c fs env st (⟨c, no, some i, f⟩ :: hs)) := by
  unfold hGo Hx.run
  rw [if_pos rfl]
  obtain ⟨d, s, e, q1, q2, q⟩ := h.to
  simp only [e]
  rw [if_neg hf, if_pos ⟨q1, q2⟩]
  exact r_owp_rt q
theorem q_xf {fs : List (String × D)} {f : String} {a : E} {d : D} (hd : fs.lookup f = some d) (h : Wp X (fun x s => x = .xc ∧ Q d s) (a env st)) : Wp X Q (eXf fs f a env st) := by
  unfold eXf
  rw [wp_bind]
  refine h.w fun x s h => ?_
  obtain ⟨rfl, h⟩ := h
  simp only [hd]
  exact r_wp_ok h
/-! ### values -/
theorem r_newD (h : ∀ r s, s[r]? = some .dct → st[r]? = none → Chg [] st s → Q (.ref r) s) : Wp X Q (eNewD env st) := r_wp_ok (h _ _ (by simp) (by simp) Chg.app)
theorem w_isiK {t : TC} {ans : Kd → Option Bool} {x c : D} {k : Kd} {b : Bool} (hk : kind x st = some k) (ht : isTC t c = true) (hb : ans k = some b) (h : Q (.bl b) st) : Wo Q (opIsi t ans [x, c] st) := by
  simp only [opIsi, if_pos ht, hk, hb]; exact r_wo_some h
theorem w_isiDF {t : TC} {ans : Kd → Option Bool} {r : Nat} {c : D} {b : Bool} (hr : st[r]? = some .dct) (ht : isTC t c = true) (hb : ans .dct = some b) (e : b = false) (h : Q (.bl false) st) : Wo Q (opIsi t ans [.ref r, c] st) := w_isiK (k := .dct) (by simp only [kind, hr]) ht hb (by rw [e]; exact h)
theorem w_isiLT {x : D} {k : Kd} {b : Bool} (hk : kind x st = some k) (hb : ansLT k = some b) (h : Q (.bl b) st) : Wo Q (opIsiLT [x, .tup [.ty "list", .ty "tuple"]] st) := by
  simp only [opIsiLT, hk, hb]
  rw [if_pos ⟨trivial, trivial⟩]
  exact r_wo_some h
theorem w_neE {i j : Nat} {a b : List D} (hi : st[i]? = some (.lst a)) (hj : st[j]? = some (.lst b)) (hab : a.length ≠ b.length ∨ a = []) (h : Q (.bl (decide (a.length ≠ b.length))) st) : Wo Q (opEqE true (.ref i) (.ref j) st) := by
  simp only [opEqE, hi, hj]
  by_cases hl : a.length ≠ b.length
  · rw [if_pos hl]
    rw [decide_eq_true hl] at h
    exact r_wo_some h
  · rw [if_neg hl]
    rw [decide_eq_false hl] at h
    rw [if_pos (hab.resolve_left hl)]
    exact r_wo_some h
theorem w_eqE {i j : Nat} {a b : List D} (hi : st[i]? = some (.lst a)) (hj : st[j]? = some (.lst b)) (hab : a.length ≠ b.length ∨ a = []) (h : Q (.bl (decide (a.length = b.length))) st) : Wo Q (opEqE false (.ref i) (.ref j) st) := by
  simp only [opEqE, hi, hj]
  by_cases hl : a.length ≠ b.length
  · rw [if_pos hl]
    rw [decide_eq_false hl] at h
    exact r_wo_some h
  · rw [if_neg hl]
    rw [decide_eq_true (by omega)] at h
    rw [if_pos (hab.resolve_left hl)]
    exact r_wo_some h
theorem w_addBI {i j : Int} (h : Q (.int (i + j)) st) : Wo Q (opAddB (.int i) (.int j) st) := r_wo_of rfl h
theorem w_addBB {i : Bool} {j : Int} (h : Q (.int (b2 i + j)) st) : Wo Q (opAddB (.bl i) (.int j) st) := r_wo_of rfl h
theorem w_subBI {i j : Int} (h : Q (.int (i - j)) st) : Wo Q (opSubB (.int i) (.int j) st) := r_wo_of rfl h
theorem w_subBB {i : Bool} {j : Int} (h : Q (.int (b2 i - j)) st) : Wo Q (opSubB (.bl i) (.int j) st) := r_wo_of rfl h
theorem w_addT {x y : List D} (hl : x.length + y.length ≤ LIM) (h : Q (.tup (x ++ y)) st) : Wo Q (opAdd (.tup x) (.tup y) st) := by simp only [opAdd, if_pos hl]; exact r_wo_some h
theorem w_slT {lo hi : Option Int} {ds : List D} (h : Q (.tup (cutD ds lo hi)) st) : Wo Q (opSl lo hi (.tup ds) st) := r_wo_of rfl h
theorem w_slS {lo hi : Option Int} {z : Str} (hl : z.length ≤ LIM) (h : Q (.str (cutS z lo hi)) st) : Wo Q (opSl lo hi (.str z) st) := by simp only [opSl, if_pos hl]; exact r_wo_some h
theorem w_listT {ds : List D} (h : ∀ r s, s[r]? = some (.lst ds) → st[r]? = none → Chg [] st s → Q (.ref r) s) : Wo Q (opList [.tup ds] st) := by
  simp only [opList, seqOf]
  exact wo_new h
theorem w_listL {r : Nat} {ds : List D} (hr : st[r]? = some (.lst ds)) (h : ∀ r s, s[r]? = some (.lst ds) → st[r]? = none → Chg [] st s → Q (.ref r) s) : Wo Q (opList [.ref r] st) := by
  simp only [opList, seqOf, hr]
  exact wo_new h
theorem w_strBI {i : Int} (hl : i.natAbs.log2 < 1920) (h : Q (.str (toString i)) st) : Wo Q (opStrB [.int i] st) := by simp only [opStrB, opStr, if_pos hl]; exact r_wo_some h
theorem w_strBB {b : Bool} (h : Q (.str (if b then "True" else "False")) st) : Wo Q (opStrB [.bl b] st) := r_wo_of rfl h
theorem w_strBS {x : Str} (h : Q (.str x) st) : Wo Q (opStrB [.str x] st) := r_wo_of rfl h
theorem w_mulXI {i j : Int} (hl : (-(2 ^ 64) < i ∧ i < 2 ^ 64) ∨ (-(2 ^ 64) < j ∧ j < 2 ^ 64)) (h : Q (.int (i * j)) st) : Wo Q (opMulX (.int i) (.int j) st) := by simp only [opMulX, opMul, if_pos hl]; exact r_wo_some h
theorem w_mulXT {a : List D} {k : Int} (hc : a ≠ [] ∧ 2 ≤ k ∧ k ≤ 1000 ∧ a.length ≤ 1000) (h : Q (.tup (List.replicate k.toNat a).flatten) st) : Wo Q (opMulX (.tup a) (.int k) st) := by simp only [opMulX, if_pos hc]; exact r_wo_some h
theorem w_mulXS {x : Str} {k : Int} (hc : 1 ≤ k ∧ k ≤ 1000 ∧ 1 ≤ x.length ∧ x.length ≤ 1000) (h : Q (.str (if k = 1 then x else ⟨(List.replicate k.toNat x.cps).foldl (· ++ ·) #[]⟩)) st) : Wo Q (opMulX (.str x) (.int k) st) := by simp only [opMulX, if_pos hc]; exact r_wo_some h
theorem w_mulXL {r : Nat} {a : List D} {k : Int} (hr : st[r]? = some (.lst a)) (hc : a.length * k.toNat ≤ LIM ∧ -(2 ^ 63) ≤ k ∧ k < 2 ^ 63) (h : ∀ q s, s[q]? = some (.lst (List.replicate k.toNat a).flatten) → st[q]? = none → Chg [] st s → Q (.ref q) s) : Wo Q (opMulX (.ref r) (.int k) st) := by
  simp only [opMulX, opMul, hr, if_pos hc]
  exact wo_new h
/-- x == y, x no instance -/
theorem q_eqXD {neg : Bool} {c : Nat} {g : F} {ok : Kd → Bool} {a b : E} (h : Wp X (fun x s => Wp X (fun y s => (∀ i k fs, x = .ref i → s[i]? ≠ some (.ins k fs)) ∧ Wo Q ((if neg then opNe else opEq) x y s)) (b env s)) (a env st)) : Wp X Q (eEqX neg c g ok a b env st) := by
  unfold eEqX
  rw [wp_bind]
  refine h.w fun x s h => ?_
  rw [wp_bind]
  refine h.w fun y s h => ?_
  obtain ⟨hx, h⟩ := h
  have done : Wp X Q (ofO (if neg then opNe x y s else opEq x y s)) := r_wp_ofO (by cases neg <;> exact h)
  cases x with
  | ref i =>
    simp only
    split
    · rename_i k fs e
      exact (hx i k fs rfl e).elim
    · exact done
  | _ => exact done
end
end LF

set_option Elab.async false
set_option linter.all false
/-! rules for stars, lambdas handed to a def, list(range), two places set -/
namespace LF
open PySem PySem.Spec PyProof.Rows L2
section
variable {α : Type} {X : XP} {Q : D → Sto → Prop} {env : Sl} {st s : Sto} {K : Ks}
theorem w_mulYI {i j : Int} (hl : (-(2 ^ 64) < i ∧ i < 2 ^ 64) ∨ (-(2 ^ 64) < j ∧ j < 2 ^ 64)) (h : Q (.int (i * j)) st) : Wo Q (opMulY (.int i) (.int j) st) := w_mulXI hl h
theorem w_mulYT {a : List D} {k : Int} (hc : a ≠ [] ∧ 0 ≤ k ∧ k ≤ 1000 ∧ a.length ≤ 1000) (h : Q (.tup (List.replicate k.toNat a).flatten) st) : Wo Q (opMulY (.tup a) (.int k) st) := by simp only [opMulY, if_pos hc]; exact r_wo_some h
theorem w_mulYL {r : Nat} {a : List D} {k : Int} (hr : st[r]? = some (.lst a)) (hc : a.length * k.toNat ≤ LIM ∧ -(2 ^ 63) ≤ k ∧ k < 2 ^ 63) (h : ∀ q s, s[q]? = some (.lst (List.replicate k.toNat a).flatten) → st[q]? = none → Chg [] st s → Q (.ref q) s) : Wo Q (opMulY (.ref r) (.int k) st) := w_mulXL hr hc h
theorem r_bltX {op : List D → O D} {as : List (Bool × E)} (h : Wp X (fun xs s => Wo Q (op xs s)) (eArgsX as env st)) : Wp X Q (eBltX op as env st) := by
  unfold eBltX
  rw [wp_bind]
  exact h.w fun xs s h => r_wp_ofO h
theorem r_xnil {Q : List D → Sto → Prop} (h : Q [] st) : Wp X Q (eArgsX [] env st) := r_wp_ok h
theorem r_xcons {a : E} {as : List (Bool × E)} {Q : List D → Sto → Prop} (h : Wp X (fun x s => Wp X (fun xs s' => Q (x :: xs) s') (eArgsX as env s)) (a env st)) : Wp X Q (eArgsX ((false, a) :: as) env st) := by
  rw [eArgsX, wp_bind]
  refine h.w fun x s h => ?_
  rw [wp_bind]
  exact h.w fun xs s h => r_wp_ok h
def onSeq (x : D) (s : Sto) (P : List D → Prop) : Prop := ∃ ds, seqOf x s = some ds ∧ P ds
theorem r_onSeqT {ds : List D} {P : List D → Prop} (h : P ds) : onSeq (.tup ds) s P := ⟨ds, rfl, h⟩
theorem r_onSeqL {r : Nat} {ds : List D} {P : List D → Prop} (hr : s[r]? = some (.lst ds)) (h : P ds) : onSeq (.ref r) s P := ⟨ds, by simp [seqOf, hr], h⟩
theorem r_xstar {a : E} {as : List (Bool × E)} {Q : List D → Sto → Prop} (h : Wp X (fun x s => onSeq x s fun ds => Wp X (fun xs s' => Q (ds ++ xs) s') (eArgsX as env s)) (a env st)) : Wp X Q (eArgsX ((true, a) :: as) env st) := by
  rw [eArgsX, wp_bind]
  refine h.w fun x s h => ?_
  obtain ⟨ds, e, h⟩ := h
  simp only [e]
  rw [wp_bind]
  exact h.w fun xs s h => r_wp_ok h
theorem q_lrg {a : E} (h : Wp X (fun x s => ∃ n : Nat, x = .int n ∧ n ≤ 1000000 ∧ ∀ r s', s'[r]? = some (.lst (rngI 0 n)) → s[r]? = none → Chg [] s s' → Q (.ref r) s') (a env st)) : Wp X Q (eLRg a env st) := by
  unfold eLRg
  rw [wp_bind]
  refine h.w fun x s h => ?_
  obtain ⟨n, rfl, hn, h⟩ := h
  simp only
  rw [if_pos (by omega)]
  exact r_wp_ofO (wo_new h)
theorem r_setV2 {o1 i1 o2 i2 : Nat} {a b : E} (h : Wp (fun c fs s => K.ex c fs env s) (fun x s => Wp (fun c fs s => K.ex c fs env s) (fun y s => ∃ p i q j : D, env[o1]? = some (some p) ∧ env[i1]? = some (some i) ∧ env[o2]? = some (some q) ∧ env[i2]? = some (some j) ∧
    Wo (fun _ s => Wo (fun _ s => K.nx env s) (opSet q j y s)) (opSet p i x s)) (b env s)) (a env st)) : Owp K (sSetV2 o1 i1 o2 i2 a b env st) := by
  unfold sSetV2
  rw [owp_out, wp_cons]
  refine h.w fun x s h => ?_
  rw [wp_cons]
  refine h.w fun y s h => ?_
  obtain ⟨p, i, q, j, e1, e2, e3, e4, h⟩ := h
  rw [wp_nil]
  simp only [e1, e2, e3, e4]
  have h := h.out
  cases h1 : opSet p i x s with
  | none => rw [h1] at h; exact h.elim
  | some r =>
    obtain ⟨u, s1⟩ := r
    rw [h1] at h
    have h := h.out
    dsimp only
    cases h2 : opSet q j y s1 with
    | none => rw [h2] at h; exact h.elim
    | some r =>
      obtain ⟨u, s2⟩ := r
      rw [h2] at h
      exact ⟨h⟩
theorem r_asgT {ts : List Tg} {a : E} (h : Wp (fun c fs s => K.ex c fs env s) (fun d s => ∃ e, Tg.sem s (.tup ts) d env = some e ∧ K.nx e s) (a env st)) : Owp K (sAsg (.tup ts) a env st) := r_owp_asgT (h.w fun d s h => by
  obtain ⟨e, h1, h2⟩ := h
  simp only [h1]
  exact h2)
/-- only an answer counts -/
def Ks.ans (Q : D → Sto → Prop) : Ks := ⟨fun _ _ => False, Q, fun _ _ => False, fun _ _ => False, fun _ _ _ _ => False⟩
theorem r_ans_rt {d : D} (h : Q d s) : (Ks.ans Q).rt d s := h
theorem q_found {n i : Nat} {hs : List Hx} {fr th : E} (h : Wp (fun c fs s => Owp (Ks.ans Q) (hGo c fs (List.replicate n none) s hs)) (fun d s => Wp (fun _ _ _ => False) Q (fr ((List.replicate n none).set i (some d)) s)) (th env st)) : Wp X Q (eFound n i hs fr th env st) := by
  unfold eFound
  have h := h.out
  cases e : th env st with
  | ok d s =>
    rw [e] at h
    obtain ⟨x, s', e2, q⟩ := Wp.to h
    simp only [foundR, e2]
    exact ⟨q⟩
  | exn c fs s =>
    rw [e] at h
    have h := h.out
    revert h
    simp only [foundR]
    cases hGo c fs (List.replicate n none) s hs with
    | rt d s' => exact fun h => ⟨h⟩
    | nx e s => exact fun h => h.elim
    | bk e s => exact fun h => h.elim
    | ct e s => exact fun h => h.elim
    | exn c fs e s => exact fun h => h.elim
    | bad => exact fun h => h.elim
  | bad =>
    rw [e] at h
    exact h.elim
end
end LF

set_option Elab.async false
set_option linter.all false
/-! rules for enumerate of both kinds, a variable that holds a def -/
namespace LF
open PySem PySem.Spec PyProof.Rows L2
section
variable {X : XP} {Q : D → Sto → Prop} {env : Sl} {st s : Sto}
def onEn (x : D) (s : Sto) (P : Its → Prop) : Prop := (∃ r ds, x = .ref r ∧ s[r]? = some (.lst ds) ∧ P ⟨enumI ds, some (r, ds)⟩) ∨ ∃ ds, x = .tup ds ∧ P ⟨enumI ds, none⟩
theorem r_onEnL {r : Nat} {ds : List D} {P : Its → Prop} (hr : s[r]? = some (.lst ds)) (h : P ⟨enumI ds, some (r, ds)⟩) : onEn (.ref r) s P := .inl ⟨r, ds, rfl, hr, h⟩
theorem r_onEnT {ds : List D} {P : Its → Prop} (h : P ⟨enumI ds, none⟩) : onEn (.tup ds) s P := .inr ⟨ds, rfl, h⟩
theorem q_iEnX {a : E} {Q : Its → Sto → Prop} (h : Wp X (fun x s => onEn x s fun p => Q p s) (a env st)) : Wp X Q (iEnX a env st) := by
  unfold iEnX
  rw [wp_bind, wp_cons]
  refine h.w fun x s h => ?_
  rw [wp_nil]
  rcases h with ⟨r, ds, rfl, hr, h⟩ | ⟨ds, rfl, h⟩
  · simp only [hr]
    exact r_wp_ok h
  · exact r_wp_ok h
theorem r_callV1 {i n1 n2 : Nat} {g1 g2 : F} {as : List E} (e : env[i]? = some (some (.glo n1))) (h : Wp X Q (eCall g1 as env st)) : Wp X Q (eCallV i n1 n2 g1 g2 as env st) := by
  simp only [eCallV, e]
  rw [if_pos trivial]
  exact h
theorem r_callV2 {i n1 n2 : Nat} {g1 g2 : F} {as : List E} (e : env[i]? = some (some (.glo n2))) (hn : n2 ≠ n1) (h : Wp X Q (eCall g2 as env st)) : Wp X Q (eCallV i n1 n2 g1 g2 as env st) := by
  simp only [eCallV, e]
  rw [if_neg hn, if_pos trivial]
  exact h
theorem lcS_inv {p : Its} {vs : List Nat} {t : Tg} {e : E} {L : Nat} {env : Sl} (I : Sto → Prop) (Gd : D → Prop) (hp : ∀ s, I s → p.okB s) (hset : ∀ s acc y, I s → s[L]? = some (.lst acc) → I (s.set L (.lst (acc ++ [y])))) :
    ∀ (ds : List D) (acc : List D) (s : Sto), acc.length + ds.length ≤ LIM → s[L]? = some (.lst acc) → I s → (∀ y ∈ acc, Gd y) →
    (∀ d ∈ ds, ∀ s acc, I s → s[L]? = some (.lst acc) → ∃ e1, Tg.sem s t d (wipeD env vs) = some e1 ∧ Wp (fun _ _ _ => False) (fun y s2 => Gd y ∧ I s2 ∧ s2[L]? = s[L]?) (e e1 s)) →
    ∃ s' ys, lcS p vs t tYes' e L env ds s = some s' ∧ s'[L]? = some (.lst ys) ∧ ys.length = acc.length + ds.length ∧ (∀ y ∈ ys, Gd y) ∧ I s'
  | [], acc, s, _, hs, hI, hG, _ => ⟨s, acc, by unfold lcS; rw [if_pos (hp s hI)], hs, by simp, hG, hI⟩
  | d :: ds, acc, s, hl, hs, hI, hG, H => by
    obtain ⟨e1, he1, hw⟩ := H d (by simp) s acc hI hs
    obtain ⟨y, s2, he, hy, hI2, hL2⟩ := hw.to
    rw [hs] at hL2
    unfold lcS
    rw [if_pos (hp s hI), he1]
    have ht : tYes' e1 s = .ok true s := rfl
    simp only [ht, he, hL2]
    simp only [List.length_cons] at hl
    rw [if_pos (by omega)]
    obtain ⟨s', ys, r1, r2, r3, r4, r5⟩ := lcS_inv (p := p) (vs := vs) (t := t) (e := e) (L := L) (env := env) I Gd hp hset ds (acc ++ [y]) (s2.set L (.lst (acc ++ [y]))) (by simp; omega) (set_get hL2) (hset s2 acc y hI2 hL2) (fun z hz => by
      rcases List.mem_append.mp hz with hz | hz
      · exact hG z hz
      · rw [List.mem_singleton.mp hz]; exact hy) fun d hd => H d (List.mem_cons_of_mem _ hd)
    exact ⟨s', ys, r1, r2, by rw [r3]; simp; omega, r4, r5⟩
/-- a comprehension whose items change the store -/
theorem wp_lcI {vs : List Nat} {it : Sl → M Its} {t : Tg} {e : E} (h : Wp X (fun p s0 => ∃ (I : Sto → Prop) (Gd : D → Prop), p.items.length ≤ LIM ∧ (∀ s, I s → p.okB s) ∧ I (s0 ++ [.lst []]) ∧ (∀ s acc y, I s → s[s0.length]? = some (.lst acc) → I (s.set s0.length (.lst (acc ++ [y])))) ∧
    (∀ d ∈ p.items, ∀ s acc, I s → s[s0.length]? = some (.lst acc) → ∃ e1, Tg.sem s t d (wipeD env vs) = some e1 ∧ Wp (fun _ _ _ => False) (fun y s2 => Gd y ∧ I s2 ∧ s2[s0.length]? = s[s0.length]?) (e e1 s)) ∧
    ∀ s ys, ys.length = p.items.length → (∀ y ∈ ys, Gd y) → I s → s[s0.length]? = some (.lst ys) → Q (.ref s0.length) s) (it env st)) : Wp X Q (eLc vs it t tYes' e env st) := by
  unfold eLc
  rw [wp_bind]
  refine h.imp ?_ fun _ _ _ z => z
  rintro p s0 ⟨I, Gd, hl, hp, hI, hset, H, k⟩
  obtain ⟨s', ys, r1, r2, r3, r4, r5⟩ := lcS_inv (p := p) (vs := vs) (t := t) (e := e) (env := env) (L := s0.length) I Gd hp hset p.items [] (s0 ++ [.lst []]) (by simpa using hl) (by simp) hI (by simp) H
  rw [r1]
  exact r_wp_ok (k _ ys (by simpa using r3) r4 r5 r2)
end
end LF

set_option Elab.async false
set_option linter.all false
/-! plain facts of texts: splits, digits, lengths -/
namespace LF
open PySem PySem.Spec PyProof.Rows L2
/-! ### split -/
theorem split_mem {x y p : Str} (h : p ∈ Txt.split x y) {c : Nat} (hc : c ∈ p.cps.toList) : c ∈ x.cps.toList := by
  rw [← StrLaws.join_split x y]
  exact (mem_join y c _).mpr (.inl ⟨p, h, hc⟩)
theorem join_mem_len (y : Str) : ∀ {l : List Str} {p : Str}, p ∈ l → p.length ≤ (Str.join y l).length
  | [], p, h => by cases h
  | [x], p, h => by
    rw [List.mem_singleton.mp h]
    exact Nat.le_refl _
  | x :: z :: l, p, h => by
    show p.length ≤ (x ++ y ++ Str.join y (z :: l)).length
    rw [Str.length_append, Str.length_append]
    rcases List.mem_cons.mp h with rfl | h
    · omega
    · have := join_mem_len y h
      omega
theorem split_len {x y p : Str} (h : p ∈ Txt.split x y) : p.length ≤ x.length := by
  have := join_mem_len y h
  rw [StrLaws.join_split x y] at this
  exact this
theorem strOk_iff {x : Str} : PyData.strOk x = true ↔ ∀ c ∈ x.cps.toList, c < 0x110000 := by
  simp only [PyData.strOk, Array.all_eq_true', decide_eq_true_eq, Array.mem_toList_iff]
theorem split_ok {x y p : Str} (h : p ∈ Txt.split x y) (hx : PyData.strOk x = true) : PyData.strOk p = true :=
  strOk_iff.mpr fun c hc => strOk_iff.mp hx c (split_mem h hc)
theorem split_ne {x y : Str} : Txt.split x y ≠ [] := fun e => by
  have := split_pos x y
  rw [e] at this
  simp at this
theorem join_ok {sep : Str} {ys : List Str} (hs : PyData.strOk sep = true) (h : ∀ y ∈ ys, PyData.strOk y = true) : PyData.strOk (Txt.join sep ys) = true := by
  refine strOk_iff.mpr fun c hc => ?_
  rw [TL.join_eq] at hc
  rcases (mem_join sep c ys).mp hc with ⟨t, ht, hc⟩ | ⟨_, hc⟩
  · exact strOk_iff.mp (h t ht) c hc
  · exact strOk_iff.mp hs c hc
theorem strsOf_map (ys : List Str) : strsOf (ys.map D.str) = some ys := by
  induction ys with
  | nil => rfl
  | cons y ys ih => simp only [List.map_cons, strsOf, ih, Option.map_some]
theorem jlen (sep : Str) (ys : List Str) : (Txt.join sep ys).length ≤ (ys.map (·.length)).sum + ys.length * sep.length := by
  rw [TL.join_eq]
  exact StrLaws.join_length_le sep ys
theorem sum_le {ys : List Str} {k : Nat} (h : ∀ y ∈ ys, y.length ≤ k) : (ys.map (·.length)).sum ≤ ys.length * k := by
  induction ys with
  | nil => simp
  | cons y ys ih =>
    simp only [List.map_cons, List.sum_cons, List.length_cons, Nat.succ_mul]
    have := h y (by simp)
    have := ih fun z hz => h z (by simp [hz])
    omega
/-- what the pieces have together -/
theorem split_sum {x : Str} {c : Nat} : ((Txt.split x ⟨#[c]⟩).map (·.length)).sum + (Txt.split x ⟨#[c]⟩).length = x.length + 1 := by
  have key : ∀ {l : List Str}, l ≠ [] → (l.map (·.length)).sum + l.length = (Str.join ⟨#[c]⟩ l).length + 1 := by
    intro l
    induction l with
    | nil => exact fun h => (h rfl).elim
    | cons a l ih =>
      intro _
      cases l with
      | nil => simp [Str.join]
      | cons b l =>
        have e := ih (by simp)
        show ((a :: b :: l).map (·.length)).sum + (b :: l).length + 1 = (a ++ ⟨#[c]⟩ ++ Str.join ⟨#[c]⟩ (b :: l)).length + 1
        rw [Str.length_append, Str.length_append, List.map_cons, List.sum_cons]
        have : (⟨#[c]⟩ : Str).length = 1 := rfl
        omega
  rw [key split_ne, StrLaws.join_split]
/-! ### a sign in a text -/
theorem inS_one {y : Str} {c : Nat} : inS ⟨#[c]⟩ y = decide (c ∈ y.cps.toList) := StrLaws.found_one y c
def digB (c : Nat) : Bool := decide (48 ≤ c) && decide (c ≤ 57)
theorem digits_cps : (Str.ofString "0123456789").cps.toList = [48, 49, 50, 51, 52, 53, 54, 55, 56, 57] := by decide +kernel
theorem mem_digits {c : Nat} : c ∈ (Str.ofString "0123456789").cps.toList ↔ digB c = true := by
  rw [digits_cps]
  simp only [List.mem_cons, List.not_mem_nil, or_false, digB, Bool.and_eq_true, decide_eq_true_eq]
  omega
theorem inS_digit {c : Nat} : inS ⟨#[c]⟩ (Str.ofString "0123456789") = digB c := by
  rw [inS_one, Bool.eq_iff_iff, decide_eq_true_eq, mem_digits]
theorem takeWhile_all' {p : Nat → Bool} {l : List Nat} (h : l.all p = true) : l.takeWhile p = l := by
  induction l with
  | nil => rfl
  | cons a l ih =>
    simp only [List.all_cons, Bool.and_eq_true] at h
    rw [List.takeWhile_cons_of_pos h.1, ih h.2]
theorem takeWhile_lt {p : Nat → Bool} {l : List Nat} (h : ¬ l.all p = true) : (l.takeWhile p).length < l.length := by
  induction l with
  | nil => exact (h rfl).elim
  | cons a l ih =>
    by_cases ha : p a = true
    · rw [List.takeWhile_cons_of_pos ha]
      simp only [List.all_cons, ha, Bool.true_and] at h
      have := ih h
      simp only [List.length_cons]
      omega
    · rw [List.takeWhile_cons_of_neg ha]
      simp
theorem drop_takeWhile {p : Nat → Bool} : ∀ {l : List Nat} {a : Nat}, (l.drop (l.takeWhile p).length)[0]? = some a → ¬ p a = true
  | [], a, h => by simp at h
  | x :: l, a, h => by
    by_cases hx : p x = true
    · rw [List.takeWhile_cons_of_pos hx] at h
      exact drop_takeWhile (l := l) (by simpa using h)
    · rw [List.takeWhile_cons_of_neg hx] at h
      simp at h
      rw [← h]
      exact hx
theorem str_len {x : Str} : x.length = x.cps.toList.length := by simp [Str.length]
theorem ext_cps {x y : Str} (h : x.cps.toList = y.cps.toList) : x = y := TL.ext_tl h
theorem empty_cps : (Str.ofString "").cps.toList = [] := by decide +kernel
theorem strip_digits {w : Str} (h1 : 1 ≤ w.length) : (Txt.stripChars w (Str.ofString "0123456789") = Str.ofString "") ↔ w.cps.toList.all digB = true := by
  have hg : ∀ c, (Str.ofString "0123456789").cps.contains c = digB c := fun c => by
    rw [Bool.eq_iff_iff, Array.contains_iff_mem, ← Array.mem_toList_iff, mem_digits]
  have hg : (Str.ofString "0123456789").cps.contains = digB := funext hg
  have hl : w.length = w.cps.toList.length := str_len
  unfold Txt.stripChars Txt.stripBy
  rw [hg]
  constructor
  · intro e
    refine Decidable.byContradiction fun hn => ?_
    have h2 := takeWhile_lt hn
    split at e
    · rw [e] at h1
      rw [str_len, empty_cps] at h1
      simp at h1
    · have e2 := congrArg (fun z : Str => z.cps.toList.length) e
      simp only [stripped, empty_cps, List.length_nil, StrLaws.strSub_toList, List.length_take, List.length_drop, stripLo, stripHi, if_true] at e2
      have hd : (w.cps.toList.drop (w.cps.toList.takeWhile digB).length) ≠ [] := fun z => by
        have := congrArg List.length z
        rw [List.length_drop, List.length_nil] at this
        omega
      obtain ⟨a, t, ht⟩ := List.exists_cons_of_ne_nil hd
      have ha := drop_takeWhile (p := digB) (l := w.cps.toList) (a := a) (by rw [ht]; rfl)
      have h3 : ¬ (w.cps.toList.drop (w.cps.toList.takeWhile digB).length).reverse.all digB = true := by
        rw [ht]
        simp [ha]
      have h4 := takeWhile_lt h3
      rw [List.length_reverse, List.length_drop] at h4
      omega
  · intro ha
    have e1 := takeWhile_all' ha
    have e2 : stripLo digB true w = w.cps.toList.length := by
      simp only [stripLo, if_true, e1]
    have e3 : stripSame digB true true w = false := by
      unfold stripSame
      rw [e2]
      have : (w.cps.toList.length == 0) = false := by rw [beq_eq_false_iff_ne]; omega
      rw [this, Bool.false_and]
    rw [e3, if_neg (by simp)]
    refine ext_cps ?_
    rw [empty_cps]
    unfold stripped
    rw [StrLaws.strSub_toList, e2]
    simp
/-! ### the number that a word writes -/
def numV (w : Str) : Option Nat := if 1 ≤ w.length ∧ w.length ≤ 6 ∧ w.cps.toList.all digB = true ∧ (w.cps.toList[0]? = some 48 → w = Str.ofString "0") then some (NumText.digitsVal w.cps.toList) else none
theorem int_digits {w : Str} (h1 : 1 ≤ w.length) (h6 : w.length ≤ 6) (ha : w.cps.toList.all digB = true) : PySem.intText? w = some ((NumText.digitsVal w.cps.toList : Nat) : Int) :=
  PySem.intText_digits (fun c hc => by
    have := List.all_eq_true.mp ha c hc
    simpa [digB] using this) (fun e => by rw [str_len, e] at h1; simp at h1) (by omega)
end LF

set_option Elab.async false
set_option linter.all false
/-! rules for walks over texts, a text in a text, three names at once -/
namespace LF
open PySem PySem.Spec PyProof.Rows L2
section
variable {X : XP} {Q : D → Sto → Prop} {env : Sl} {st s : Sto} {K : Ks}
theorem q_iSs {a : E} {Q : LF.Its → Sto → Prop} (h : Wp X (fun x s => onStr x fun y => Q ⟨chars y, none⟩ s) (a env st)) : Wp X Q (iSs a env st) := by
  unfold iSs
  rw [wp_bind]
  refine h.w fun x s h => ?_
  obtain ⟨y, rfl, h⟩ := h
  exact r_wp_ok h
theorem w_inSS {neg : Bool} {x y : Str} (h : Q (.bl (if neg then !inS x y else inS x y)) st) : Wo Q (opInS neg (.str x) (.str y) st) := r_wo_of rfl h
theorem r_par3 {i j l : Nat} {a b c : E} (h : Wp (fun c fs s => K.ex c fs env s) (fun x s => Wp (fun c fs s => K.ex c fs env s) (fun y s => Wp (fun c fs s => K.ex c fs env s) (fun z s => K.nx (((env.set i (some x)).set j (some y)).set l (some z)) s) (c env s)) (b env s)) (a env st)) : Owp K (sPar3 i j l a b c env st) := by
  unfold sPar3
  rw [owp_out, wp_cons]
  refine h.w fun x s h => ?_
  rw [wp_cons]
  refine h.w fun y s h => ?_
  rw [wp_cons]
  refine h.w fun z s h => ?_
  rw [wp_nil]
  exact r_owp_nx h
end
end LF

set_option Elab.async false
set_option linter.all false
set_option maxRecDepth 100000
set_option maxHeartbeats 4000000
namespace K03
open PySem PySem.Spec PyProof.Rows L2 LF
def topS (i : Nat) : Stmt := PySem.Challenge.pw_lampfolk_k03_first_wrong_lines.main.body.getD i (.Pass ⟨0, 0, 0, 0⟩)
abbrev N_is_number : List Str := ["value"]
theorem sc_is_number : FnScope N_is_number ["value"] (defScope (topS 7)) := ⟨rfl, rfl, rfl, by decide +kernel, rfl, by decide +kernel, by decide +kernel⟩
abbrev N_is_within : List Str := ["value", "least", "most"]
theorem sc_is_within : FnScope N_is_within ["value", "least", "most"] (defScope (topS 8)) := ⟨rfl, rfl, rfl, by decide +kernel, rfl, by decide +kernel, by decide +kernel⟩
abbrev N_is_word : List Str := ["value"]
theorem sc_is_word : FnScope N_is_word ["value"] (defScope (topS 9)) := ⟨rfl, rfl, rfl, by decide +kernel, rfl, by decide +kernel, by decide +kernel⟩
abbrev N_is_step : List Str := ["value", "states", "colours"]
theorem sc_is_step : FnScope N_is_step ["value", "states", "colours"] (defScope (topS 13)) := ⟨rfl, rfl, rfl, by decide +kernel, rfl, by decide +kernel, by decide +kernel⟩
abbrev N_are_steps : List Str := ["value", "row", "step"]
theorem sc_are_steps : FnScope N_are_steps ["value"] (defScope (topS 14)) := ⟨rfl, rfl, rfl, by decide +kernel, rfl, by decide +kernel, by decide +kernel⟩
abbrev N_number_in : List Str := ["word"]
theorem sc_number_in : FnScope N_number_in ["word"] (defScope (topS 21)) := ⟨rfl, rfl, rfl, by decide +kernel, rfl, by decide +kernel, by decide +kernel⟩
abbrev N_is_saying_word : List Str := ["word"]
theorem sc_is_saying_word : FnScope N_is_saying_word ["word"] (defScope (topS 22)) := ⟨rfl, rfl, rfl, by decide +kernel, rfl, by decide +kernel, by decide +kernel⟩
abbrev N_saying_in : List Str := ["word"]
theorem sc_saying_in : FnScope N_saying_in ["word"] (defScope (topS 23)) := ⟨rfl, rfl, rfl, by decide +kernel, rfl, by decide +kernel, by decide +kernel⟩
abbrev N_LineReader_init : List Str := ["self"]
theorem sc_LineReader_init : FnScope N_LineReader_init ["self"] (defScope (inClass (topS 24) 0)) := ⟨rfl, rfl, rfl, by decide +kernel, rfl, by decide +kernel, by decide +kernel⟩
abbrev N_LineReader_takes_row : List Str := ["self", "words", "row", "at", "state", "colour", "word"]
theorem sc_LineReader_takes_row : FnScope N_LineReader_takes_row ["self", "words"] (defScope (inClass (topS 24) 2)) := ⟨rfl, rfl, rfl, by decide +kernel, rfl, by decide +kernel, by decide +kernel⟩
abbrev N_LineReader_takes : List Str := ["self", "words", "is_open"]
theorem sc_LineReader_takes : FnScope N_LineReader_takes ["self", "words"] (defScope (inClass (topS 24) 1)) := ⟨rfl, rfl, rfl, by decide +kernel, rfl, by decide +kernel, by decide +kernel⟩
abbrev N_Program_init : List Str := ["self", "steps", "first", "leader", "lamp"]
theorem sc_Program_init : FnScope N_Program_init ["self", "steps", "first", "leader", "lamp"] (defScope (inClass (topS 15) 0)) := ⟨rfl, rfl, rfl, by decide +kernel, rfl, by decide +kernel, by decide +kernel⟩
abbrev N_read_program : List Str := ["text", "lines", "reader", "at", "line", "words", "first", "leader", "lamp"]
theorem sc_read_program : FnScope N_read_program ["text"] (defScope (topS 25)) := ⟨rfl, rfl, rfl, by decide +kernel, rfl, by decide +kernel, by decide +kernel⟩
abbrev N__law_pot : List Str := ["script", "cell"]
theorem sc__law_pot : FnScope N__law_pot ["script"] (defScope (topS 27)) := ⟨rfl, rfl, rfl, by decide +kernel, rfl, by decide +kernel, by decide +kernel⟩
abbrev N__law_draw : List Str := ["pot", "many", "found", "cell"]
theorem sc__law_draw : FnScope N__law_draw ["pot", "many"] (defScope (topS 28)) := ⟨rfl, rfl, rfl, by decide +kernel, rfl, by decide +kernel, by decide +kernel⟩
abbrev N__law_pick : List Str := ["pot", "row"]
theorem sc__law_pick : FnScope N__law_pick ["pot", "row"] (defScope (topS 29)) := ⟨rfl, rfl, rfl, by decide +kernel, rfl, by decide +kernel, by decide +kernel⟩
abbrev N__law_same : List Str := ["found", "due", "k"]
theorem sc__law_same : FnScope N__law_same ["found", "due"] (defScope (topS 30)) := ⟨rfl, rfl, rfl, by decide +kernel, rfl, by decide +kernel, by decide +kernel⟩
abbrev N__law_within : List Str := ["thing", "low", "high"]
theorem sc__law_within : FnScope N__law_within ["thing", "low", "high"] (defScope (topS 31)) := ⟨rfl, rfl, rfl, by decide +kernel, rfl, by decide +kernel, by decide +kernel⟩
abbrev N__law_saying : List Str := ["pot"]
theorem sc__law_saying : FnScope N__law_saying ["pot"] (defScope (topS 32)) := ⟨rfl, rfl, rfl, by decide +kernel, rfl, by decide +kernel, by decide +kernel⟩
abbrev N__law_spec : List Str := ["pot", "most", "states", "colours", "rows", "state", "row", "colour", "leader"]
theorem sc__law_spec : FnScope N__law_spec ["pot", "most"] (defScope (topS 33)) := ⟨rfl, rfl, rfl, by decide +kernel, rfl, by decide +kernel, by decide +kernel⟩
abbrev N__law_is_word : List Str := ["thing"]
theorem sc__law_is_word : FnScope N__law_is_word ["thing"] (defScope (topS 34)) := ⟨rfl, rfl, rfl, by decide +kernel, rfl, by decide +kernel, by decide +kernel⟩
abbrev N__law_fault : List Str := ["spec", "rows", "row", "step"]
theorem sc__law_fault : FnScope N__law_fault ["spec"] (defScope (topS 35)) := ⟨rfl, rfl, rfl, by decide +kernel, rfl, by decide +kernel, by decide +kernel⟩
abbrev N__law_lines : List Str := ["spec", "found", "row", "words", "one"]
theorem sc__law_lines : FnScope N__law_lines ["spec"] (defScope (topS 36)) := ⟨rfl, rfl, rfl, by decide +kernel, rfl, by decide +kernel, by decide +kernel⟩
abbrev N__law_number : List Str := ["word", "sign"]
theorem sc__law_number : FnScope N__law_number ["word"] (defScope (topS 37)) := ⟨rfl, rfl, rfl, by decide +kernel, rfl, by decide +kernel, by decide +kernel⟩
abbrev N__law_taken : List Str := ["book", "words", "rows", "last", "at", "state", "colour", "word"]
theorem sc__law_taken : FnScope N__law_taken ["book", "words"] (defScope (topS 38)) := ⟨rfl, rfl, rfl, by decide +kernel, rfl, by decide +kernel, by decide +kernel⟩
abbrev N__law_reader : List Str := ["text", "rows", "book", "at", "line", "words"]
theorem sc__law_reader : FnScope N__law_reader ["text"] (defScope (topS 39)) := ⟨rfl, rfl, rfl, by decide +kernel, rfl, by decide +kernel, by decide +kernel⟩
abbrev N__law_bent_line : List Str := ["pot", "line", "words", "at", "way", "more", "cut"]
theorem sc__law_bent_line : FnScope N__law_bent_line ["pot", "line"] (defScope (topS 40)) := ⟨rfl, rfl, rfl, by decide +kernel, rfl, by decide +kernel, by decide +kernel⟩
abbrev N__law_bent_text : List Str := ["pot", "lines", "at", "other", "way"]
theorem sc__law_bent_text : FnScope N__law_bent_text ["pot", "lines"] (defScope (topS 41)) := ⟨rfl, rfl, rfl, by decide +kernel, rfl, by decide +kernel, by decide +kernel⟩
abbrev N__law_found : List Str := ["text", "made", "e"]
theorem sc__law_found : FnScope N__law_found ["text"] (defScope (topS 42)) := ⟨rfl, rfl, rfl, by decide +kernel, rfl, by decide +kernel, by decide +kernel⟩
abbrev N_law : List Str := ["script", "pot", "turn", "lines", "time", "text", "due", "fault", "line"]
theorem sc_law : FnScope N_law ["script"] (defScope (topS 43)) := ⟨rfl, rfl, rfl, by decide +kernel, rfl, by decide +kernel, by decide +kernel⟩
abbrev c_MOST_SAID : D := .int 4
abbrev c_ALL : D := .str (Str.ofString "all")
abbrev c_MOST_STATES : D := .int 5
abbrev c_MOST_COLOURS : D := .int 4
abbrev c_DIGITS : D := .str (Str.ofString "0123456789")
abbrev c_MOST_DIGITS : D := .int 6
abbrev c_HEADS : D := .tup [.str (Str.ofString "first"), .str (Str.ofString "leader"), .str (Str.ofString "lamp"), .str (Str.ofString "end")]
def opGet_OPEN : D → O D
  | .str k => fun st => if k = Str.ofString "first" then some (.non, st) else if k = Str.ofString "leader" then some (.str (Str.ofString "none"), st) else if k = Str.ofString "lamp" then some (.str (Str.ofString "any"), st) else  none
  | _ => fun _ => none
def fld_first (c : Nat) : Bool := c == 4
def fld_lamp (c : Nat) : Bool := c == 4
def fld_last (c : Nat) : Bool := c == 5
def fld_leader (c : Nat) : Bool := c == 4
def fld_read_rows (c : Nat) : Bool := c == 5
def fld_steps (c : Nat) : Bool := c == 4
def no_BadProgram : List Nat := [3]
def no_BadText : List Nat := [2]
noncomputable def b_is_number : Sm := sRet (eAnd (eBlt (opIsi (.ty "int") (ansTy "int")) [eVar 0, eC (.ty "int")]) (eNot (eBlt (opIsi (.ty "bool") (ansTy "bool")) [eVar 0, eC (.ty "bool")])))
noncomputable def f_is_number : F := fnS 1 1 b_is_number
noncomputable def b_is_within : Sm := sRet (eAnd (eCall (f_is_number) [eVar 0]) (eChain opLe opLe (eVar 1) (eVar 0) (eVar 2)))
noncomputable def f_is_within : F := fnS 3 3 b_is_within
noncomputable def b_is_word : Sm := sRet (eOr (eCall (f_is_within) [eVar 0, eC (.int 1), eC c_MOST_SAID]) (eAnd (eBlt (opIsi (.ty "str") (ansTy "str")) [eVar 0, eC (.ty "str")]) (eBin opEq (eVar 0) (eC c_ALL))))
noncomputable def f_is_word : F := fnS 1 1 b_is_word
noncomputable def b_is_step : Sm := sSeq (sIf (tOr' (tNot' (tTru (eBlt (opIsi (.ty "tuple") (ansTy "tuple")) [eVar 0, eC (.ty "tuple")]))) (asB (eBin opNe (eBlt opLen [eVar 0]) (eC (.int 3))))) (sRet (eC (.bl false))) (sSkip)) (sSeq (sIf (tOr' (tNot' (tTru (eCall (f_is_within) [eBin opIx (eVar 0) (eC (.int 0)), eC (.int 0), eBin opSub (eVar 1) (eC (.int 1))]))) (tNot' (tTru (eCall (f_is_within) [eBin opIx (eVar 0) (eC (.int 1)), eC (.int 0), eBin opSub (eVar 2) (eC (.int 1))])))) (sRet (eC (.bl false))) (sSkip)) (sRet (eOr (eBin opIs (eBin opIx (eVar 0) (eC (.int 2))) (eC .non)) (eCall (f_is_word) [eBin opIx (eVar 0) (eC (.int 2))]))))
noncomputable def f_is_step : F := fnS 3 3 b_is_step
noncomputable def b_are_steps : Sm := sSeq (sIf (tOr' (tNot' (tTru (eBlt (opIsi (.ty "tuple") (ansTy "tuple")) [eVar 0, eC (.ty "tuple")]))) (tNot' (asB (eChain opLe opLe (eC (.int 1)) (eBlt opLen [eVar 0]) (eC c_MOST_STATES))))) (sRet (eC (.bl false))) (sSkip)) (sSeq (sIf (tNot' (tTru (eBlt opAll [eLc [1] (iS (eVar 0)) (.name 1) (tYes') (eAnd (eBlt (opIsi (.ty "tuple") (ansTy "tuple")) [eVar 1, eC (.ty "tuple")]) (eChain opLe opLe (eC (.int 1)) (eBlt opLen [eVar 1]) (eC c_MOST_COLOURS)))]))) (sRet (eC (.bl false))) (sSkip)) (sSeq (sFor (iS (eVar 0)) (.name 1) (sIf (tOr' (asB (eBin opNe (eBlt opLen [eVar 1]) (eBlt opLen [eBin opIx (eVar 0) (eC (.int 0))]))) (tNot' (tTru (eBlt opAll [eLc [2] (iS (eVar 1)) (.name 2) (tYes') (eCall (f_is_step) [eVar 2, eBlt opLen [eVar 0], eBlt opLen [eVar 1]])])))) (sRet (eC (.bl false))) (sSkip))) (sRet (eC (.bl true)))))
noncomputable def f_are_steps : F := fnS 1 3 b_are_steps
noncomputable def b_number_in : Sm := sSeq (sIf (tOr' (tNot' (asB (eChain opLe opLe (eC (.int 1)) (eBlt opLen [eVar 0]) (eC c_MOST_DIGITS)))) (asB (eBin opNe (eMt "str" opStrip (eVar 0) [eC c_DIGITS]) (eC (.str (Str.ofString "")))))) (sRet (eC .non)) (sSkip)) (sRet (eIf (tAnd' (asB (eBin opEq (eBin opIx (eVar 0) (eC (.int 0))) (eC (.str (Str.ofString "0"))))) (asB (eBin opNe (eVar 0) (eC (.str (Str.ofString "0")))))) (eC .non) (eBlt opInt [eVar 0])))
noncomputable def f_number_in : F := fnS 1 1 b_number_in
noncomputable def b_is_saying_word : Sm := sRet (eOr (eBin (opIn false) (eVar 0) (eBlt opTup [eC (.str (Str.ofString "-")), eC (.str (Str.ofString "all"))])) (eBin opIsNot (eCall (f_number_in) [eVar 0]) (eC .non)))
noncomputable def f_is_saying_word : F := fnS 1 1 b_is_saying_word
noncomputable def b_saying_in : Sm := sSeq (sIf (asB (eBin opEq (eVar 0) (eC (.str (Str.ofString "-"))))) (sRet (eC .non)) (sSkip)) (sRet (eIf (asB (eBin opEq (eVar 0) (eC (.str (Str.ofString "all"))))) (eVar 0) (eCall (f_number_in) [eVar 0])))
noncomputable def f_saying_in : F := fnS 1 1 b_saying_in
noncomputable def b_LineReader_init : Sm := sSeq (sSetF fld_read_rows "read_rows" (eVar 0) (eBlt opLst [])) (sSetF fld_last "last" (eVar 0) (eBlt opLst []))
noncomputable def f_LineReader_init : F := fnS 1 1 b_LineReader_init
noncomputable def b_LineReader_takes_row : Sm := sSeq (sIf (asB (eBin opNe (eBin opMod (eBlt opLen [eVar 1]) (eC (.int 3))) (eC (.int 0)))) (sRet (eC (.bl false))) (sSkip)) (sSeq (sAsg (.name 2) (eBlt opLst [])) (sSeq (sFor (iR3 (eC (.int 0)) (eBlt opLen [eVar 1]) (eC (.int 3))) (.name 3) (sSeq (sAsg (.tup [.name 4, .name 5, .name 6]) (eSl (eVar 1) (some (eVar 3)) (some (eBin opAdd (eVar 3) (eC (.int 3)))))) (sSeq (sIf (tOr' (asB (eBin opIs (eCall (f_number_in) [eVar 4]) (eC .non))) (tOr' (asB (eBin opIs (eCall (f_number_in) [eVar 5]) (eC .non))) (tNot' (tTru (eCall (f_is_saying_word) [eVar 6]))))) (sRet (eC (.bl false))) (sSkip)) (sExpr (eMt "list" opAppend (eVar 2) [eBlt opTup [eCall (f_number_in) [eVar 4], eCall (f_number_in) [eVar 5], eCall (f_saying_in) [eVar 6]]]))))) (sSeq (sExpr (eMt "list" opAppend (eUn (opFld fld_read_rows "read_rows") (eVar 0)) [eBlt opTuple [eVar 2]])) (sRet (eC (.bl true))))))
noncomputable def f_LineReader_takes_row : F := fnS 2 7 b_LineReader_takes_row
noncomputable def b_LineReader_takes : Sm := sSeq (sIf (tAnd' (asB (eBin opEq (eBin opIx (eVar 1) (eC (.int 0))) (eC (.str (Str.ofString "state"))))) (asB (eBin opEq (eBlt opLen [eUn (opFld fld_last "last") (eVar 0)]) (eC (.int 0))))) (sRet (eMeth 5 "takes_row" f_LineReader_takes_row (eVar 0) [eSl (eVar 1) (some (eC (.int 1))) none])) (sSkip)) (sSeq (sIf (tOr' (asB (eBin opEq (eBlt opLen [eUn (opFld fld_read_rows "read_rows") (eVar 0)]) (eC (.int 0)))) (tOr' (asB (eBin opEq (eBlt opLen [eUn (opFld fld_last "last") (eVar 0)]) (eBlt opLen [eC c_HEADS]))) (asB (eBin opNe (eBin opIx (eVar 1) (eC (.int 0))) (eBin opIx (eC c_HEADS) (eBlt opLen [eUn (opFld fld_last "last") (eVar 0)])))))) (sRet (eC (.bl false))) (sSkip)) (sSeq (sIf (asB (eBin opEq (eBin opIx (eVar 1) (eC (.int 0))) (eC (.str (Str.ofString "end"))))) (sSeq (sExpr (eMt "list" opAppend (eUn (opFld fld_last "last") (eVar 0)) [eC .non])) (sRet (eBin opEq (eBlt opLen [eVar 1]) (eC (.int 1))))) (sSkip)) (sSeq (sIf (asB (eBin opNe (eBlt opLen [eVar 1]) (eC (.int 2)))) (sRet (eC (.bl false))) (sSkip)) (sSeq (sAsg (.name 2) (eBin opEq (eBin opIx (eVar 1) (eC (.int 1))) (eUn opGet_OPEN (eBin opIx (eVar 1) (eC (.int 0)))))) (sSeq (sExpr (eMt "list" opAppend (eUn (opFld fld_last "last") (eVar 0)) [eIf (tTru (eVar 2)) (eC .non) (eCall (f_number_in) [eBin opIx (eVar 1) (eC (.int 1))])])) (sRet (eOr (eVar 2) (eBin opIsNot (eBin opIx (eUn (opFld fld_last "last") (eVar 0)) (eUn opNeg (eC (.int 1)))) (eC .non)))))))))
noncomputable def f_LineReader_takes : F := fnS 2 3 b_LineReader_takes
noncomputable def b_Program_init : Sm := sSeq (sIf (tNot' (tTru (eCall (f_are_steps) [eVar 1]))) (sRaise1 2 "what" (eC (.str (Str.ofString "steps")))) (sSkip)) (sSeq (sIf (tNot' (tTru (eCall (f_is_within) [eVar 2, eC (.int 0), eBin opSub (eBlt opLen [eVar 1]) (eC (.int 1))]))) (sRaise1 2 "what" (eC (.str (Str.ofString "first")))) (sSkip)) (sSeq (sIf (tAnd' (asB (eBin opIsNot (eVar 3) (eC .non))) (tNot' (tTru (eCall (f_is_within) [eVar 3, eC (.int 0), eBin opSub (eBlt opLen [eVar 1]) (eC (.int 1))])))) (sRaise1 2 "what" (eC (.str (Str.ofString "leader")))) (sSkip)) (sSeq (sIf (tAnd' (asB (eBin opIsNot (eVar 4) (eC .non))) (tNot' (tTru (eCall (f_is_within) [eVar 4, eC (.int 0), eBin opSub (eBlt opLen [eBin opIx (eVar 1) (eC (.int 0))]) (eC (.int 1))])))) (sRaise1 2 "what" (eC (.str (Str.ofString "lamp")))) (sSkip)) (sSeq (sSetF fld_steps "steps" (eVar 0) (eVar 1)) (sSeq (sSetF fld_first "first" (eVar 0) (eVar 2)) (sSeq (sSetF fld_leader "leader" (eVar 0) (eVar 3)) (sSetF fld_lamp "lamp" (eVar 0) (eVar 4))))))))
noncomputable def f_Program_init : F := fnS 5 5 b_Program_init
noncomputable def b_read_program : Sm := sSeq (sIf (tNot' (tTru (eBlt (opIsi (.ty "str") (ansTy "str")) [eVar 0, eC (.ty "str")]))) (sRaise2 3 "line" "what" (eC (.int 0)) (eC (.str (Str.ofString "text")))) (sSkip)) (sSeq (sAsg (.name 1) (eMt "str" opSplit (eVar 0) [eC (.str (Str.ofString "\n"))])) (sSeq (sAsg (.name 2) (eMake 5 f_LineReader_init [])) (sSeq (sFor (iEnX (eVar 1)) (.tup [.name 3, .name 4]) (sSeq (sAsg (.name 5) (eMt "str" opSplit (eVar 4) [eC (.str (Str.ofString " "))])) (sIf (asB (eBin opEq (eVar 3) (eBin opSub (eBlt opLen [eVar 1]) (eC (.int 1))))) (sIf (asB (eBin opNe (eVar 4) (eC (.str (Str.ofString ""))))) (sRaise2 3 "line" "what" (eVar 3) (eC (.str (Str.ofString "feed")))) (sSkip)) (sIf (asB (eBin (opIn false) (eC (.str (Str.ofString ""))) (eVar 5))) (sRaise2 3 "line" "what" (eVar 3) (eC (.str (Str.ofString "words")))) (sIf (tNot' (tTru (eMeth 5 "takes" f_LineReader_takes (eVar 2) [eVar 5]))) (sRaise2 3 "line" "what" (eVar 3) (eC (.str (Str.ofString "form")))) (sSkip)))))) (sSeq (sIf (asB (eBin opLt (eBlt opLen [eUn (opFld fld_last "last") (eVar 2)]) (eBlt opLen [eC c_HEADS]))) (sRaise2 3 "line" "what" (eBin opSub (eBlt opLen [eVar 1]) (eC (.int 1))) (eC (.str (Str.ofString "missing")))) (sSkip)) (sSeq (sAsg (.tup [.name 6, .name 7, .name 8]) (eSl (eUn (opFld fld_last "last") (eVar 2)) none (some (eC (.int 3))))) (sRet (eMake 4 f_Program_init [eBlt opTuple [eUn (opFld fld_read_rows "read_rows") (eVar 2)], eVar 6, eVar 7, eVar 8])))))))
noncomputable def f_read_program : F := fnS 1 9 b_read_program
noncomputable def b__law_pot : Sm := sRet (eBlt opLst [eLc [1] (iS (eSl (eVar 0) none (some (eC (.int 63))))) (.name 1) (tYes') (eBlt opAbs [eVar 1]), eC (.int 0), eC (.int 20011), eC (.int 0)])
noncomputable def f__law_pot : F := fnS 1 2 b__law_pot
noncomputable def b__law_draw : Sm := sSeq (sIf (asB (eBin opLt (eVar 1) (eC (.int 2)))) (sRet (eC (.int 0))) (sSkip)) (sSeq (sIf (asB (eBin opGt (eBin opIx (eVar 0) (eC (.int 3))) (eC (.int 0)))) (sSeq (sAsg (.name 2) (eBin opMod (eBlt opInt [eBin opIx (eVar 0) (eC (.int 3))]) (eVar 1))) (sSeq (sSetIx (eVar 0) (eC (.int 3)) (eBin opDiv (eBin opIx (eVar 0) (eC (.int 3))) (eVar 1))) (sRet (eVar 2)))) (sSkip)) (sSeq (sAsg (.name 3) (eC (.int 0))) (sSeq (sIf (asB (eBin opLt (eBin opIx (eVar 0) (eC (.int 1))) (eBlt opLen [eBin opIx (eVar 0) (eC (.int 0))]))) (sSeq (sAsg (.name 3) (eBin opIx (eBin opIx (eVar 0) (eC (.int 0))) (eBin opIx (eVar 0) (eC (.int 1))))) (sSeq (sSetIx (eVar 0) (eC (.int 1)) (eBin opAdd (eBin opIx (eVar 0) (eC (.int 1))) (eC (.int 1)))) (sIf (asB (eBin opGe (eVar 3) (eBin opPow (eC (.int 10)) (eC (.int 18))))) (sSeq (sSetIx (eVar 0) (eC (.int 3)) (eBin opDiv (eVar 3) (eVar 1))) (sRet (eBin opMod (eBlt opInt [eVar 3]) (eVar 1)))) (sSkip)))) (sSkip)) (sSeq (sSetIx (eVar 0) (eC (.int 2)) (eBin opMod (eBlt opInt [eBin opAdd (eBin opAdd (eBin opMulY (eBin opIx (eVar 0) (eC (.int 2))) (eC (.int 48271))) (eVar 3)) (eC (.int 12345))]) (eC (.int 2147483647)))) (sRet (eBin opMod (eBlt opInt [eBin opAdd (eBin opDiv (eBin opMulY (eBin opIx (eVar 0) (eC (.int 2))) (eBin opIx (eVar 0) (eC (.int 2)))) (eC (.int 64))) (eBin opDiv (eBin opIx (eVar 0) (eC (.int 2))) (eC (.int 7)))]) (eVar 1)))))))
noncomputable def f__law_draw : F := fnS 2 4 b__law_draw
noncomputable def b__law_pick : Sm := sRet (eBin opIx (eVar 1) (eCall (f__law_draw) [eVar 0, eBlt opLen [eVar 1]]))
noncomputable def f__law_pick : F := fnS 2 2 b__law_pick
noncomputable def b__law_same (rec : F) : Sm := sSeq (sIf (tOr' (tTru (eBlt (opIsi (.ty "tuple") (ansTy "tuple")) [eVar 1, eC (.ty "tuple")])) (tTru (eBlt (opIsi (.ty "list") (ansTy "list")) [eVar 1, eC (.ty "list")]))) (sSeq (sIf (tOr' (asB (eBin opNe (eBlt (opIsi (.ty "tuple") (ansTy "tuple")) [eVar 1, eC (.ty "tuple")]) (eBlt (opIsi (.ty "tuple") (ansTy "tuple")) [eVar 0, eC (.ty "tuple")]))) (asB (eBin opNe (eBlt (opIsi (.ty "list") (ansTy "list")) [eVar 1, eC (.ty "list")]) (eBlt (opIsi (.ty "list") (ansTy "list")) [eVar 0, eC (.ty "list")])))) (sRet (eC (.bl false))) (sSkip)) (sSeq (sIf (asB (eBin opNe (eBlt opLen [eVar 0]) (eBlt opLen [eVar 1]))) (sRet (eC (.bl false))) (sSkip)) (sRet (eBin (opEqE false) (eLc [2] (iR1 (eBlt opLen [eVar 1])) (.name 2) (tNot' (tTru (eCall rec [eBin opIx (eVar 0) (eVar 2), eBin opIx (eVar 1) (eVar 2)]))) (eVar 2)) (eBlt opLst []))))) (sSkip)) (sSeq (sIf (asB (eBin opIs (eVar 1) (eC .non))) (sRet (eBin opIs (eVar 0) (eC .non))) (sSkip)) (sSeq (sIf (tTru (eBlt (opIsi (.ty "str") (ansTy "str")) [eVar 1, eC (.ty "str")])) (sRet (eAnd (eBlt (opIsi (.ty "str") (ansTy "str")) [eVar 0, eC (.ty "str")]) (eBin opEq (eVar 0) (eVar 1)))) (sSkip)) (sRet (eAnd (eBlt (opIsi (.ty "int") (ansTy "int")) [eVar 0, eC (.ty "int")]) (eAnd (eBin opEq (eBlt (opIsi (.ty "bool") (ansTy "bool")) [eVar 0, eC (.ty "bool")]) (eBlt (opIsi (.ty "bool") (ansTy "bool")) [eVar 1, eC (.ty "bool")])) (eBin opEq (eVar 0) (eVar 1)))))))
noncomputable def f__law_same : Nat → F
  | 0 => fun _ _ => .bad
  | k + 1 => fnS 2 3 (b__law_same (f__law_same k))
noncomputable def b__law_within : Sm := sRet (eAnd (eBlt (opIsi (.ty "int") (ansTy "int")) [eVar 0, eC (.ty "int")]) (eAnd (eNot (eBlt (opIsi (.ty "bool") (ansTy "bool")) [eVar 0, eC (.ty "bool")])) (eChain opLe opLe (eVar 1) (eVar 0) (eVar 2))))
noncomputable def f__law_within : F := fnS 3 3 b__law_within
noncomputable def b__law_saying : Sm := sRet (eCall (f__law_pick) [eVar 0, eBlt opLst [eC .non, eC .non, eC .non, eC .non, eC (.int 1), eC (.int 2), eC (.int 3), eC (.int 4), eC (.str (Str.ofString "all"))]])
noncomputable def f__law_saying : F := fnS 1 1 b__law_saying
noncomputable def b__law_spec : Sm := sSeq (sPar 2 3 (eBin opAdd (eC (.int 1)) (eCall (f__law_draw) [eVar 0, eBin opIx (eVar 1) (eC (.int 0))])) (eBin opAdd (eC (.int 1)) (eCall (f__law_draw) [eVar 0, eBin opIx (eVar 1) (eC (.int 1))]))) (sSeq (sAsg (.name 4) (eBlt opLst [])) (sSeq (sFor (iR1 (eVar 2)) (.name 5) (sSeq (sAsg (.name 6) (eBlt opLst [])) (sSeq (sFor (iR1 (eVar 3)) (.name 7) (sExpr (eMt "list" opAppend (eVar 6) [eBlt opTup [eCall (f__law_draw) [eVar 0, eVar 2], eCall (f__law_draw) [eVar 0, eVar 3], eCall (f__law_saying) [eVar 0]]]))) (sExpr (eMt "list" opAppend (eVar 4) [eBlt opTuple [eVar 6]]))))) (sSeq (sAsg (.name 8) (eCall (f__law_pick) [eVar 0, eBlt opLst [eC .non, eC .non, eCall (f__law_draw) [eVar 0, eVar 2]]])) (sRet (eBlt opLst [eBlt opTuple [eVar 4], eCall (f__law_draw) [eVar 0, eVar 2], eVar 8, eCall (f__law_pick) [eVar 0, eBlt opLst [eC .non, eCall (f__law_draw) [eVar 0, eVar 3], eCall (f__law_draw) [eVar 0, eVar 3]]]])))))
noncomputable def f__law_spec : F := fnS 2 9 b__law_spec
noncomputable def b__law_is_word : Sm := sRet (eOr (eCall (f__law_within) [eVar 0, eC (.int 1), eC (.int 4)]) (eAnd (eBlt (opIsi (.ty "str") (ansTy "str")) [eVar 0, eC (.ty "str")]) (eBin opEq (eVar 0) (eC (.str (Str.ofString "all"))))))
noncomputable def f__law_is_word : F := fnS 1 1 b__law_is_word
noncomputable def b__law_fault : Sm := sSeq (sAsg (.name 1) (eBin opIx (eVar 0) (eC (.int 0)))) (sSeq (sIf (tOr' (tNot' (tTru (eBlt (opIsi (.ty "tuple") (ansTy "tuple")) [eVar 1, eC (.ty "tuple")]))) (tOr' (tNot' (asB (eChain opLe opLe (eC (.int 1)) (eBlt opLen [eVar 1]) (eC (.int 5))))) (asB (eBin (opEqE true) (eLc [2] (iS (eVar 1)) (.name 2) (tNot' (tTru (eBlt (opIsi (.ty "tuple") (ansTy "tuple")) [eVar 2, eC (.ty "tuple")]))) (eVar 2)) (eBlt opLst []))))) (sRet (eC (.str (Str.ofString "steps")))) (sSkip)) (sSeq (sIf (tOr' (tNot' (asB (eChain opLe opLe (eC (.int 1)) (eBlt opLen [eBin opIx (eVar 1) (eC (.int 0))]) (eC (.int 4))))) (asB (eBin (opEqE true) (eLc [2] (iS (eVar 1)) (.name 2) (asB (eBin opNe (eBlt opLen [eVar 2]) (eBlt opLen [eBin opIx (eVar 1) (eC (.int 0))]))) (eVar 2)) (eBlt opLst [])))) (sRet (eC (.str (Str.ofString "steps")))) (sSkip)) (sSeq (sFor (iS (eVar 1)) (.name 2) (sFor (iS (eVar 2)) (.name 3) (sSeq (sIf (tOr' (tNot' (tTru (eBlt (opIsi (.ty "tuple") (ansTy "tuple")) [eVar 3, eC (.ty "tuple")]))) (tOr' (asB (eBin opNe (eBlt opLen [eVar 3]) (eC (.int 3)))) (tNot' (tTru (eCall (f__law_within) [eBin opIx (eVar 3) (eC (.int 0)), eC (.int 0), eBin opSub (eBlt opLen [eVar 1]) (eC (.int 1))]))))) (sRet (eC (.str (Str.ofString "steps")))) (sSkip)) (sIf (tOr' (tNot' (tTru (eCall (f__law_within) [eBin opIx (eVar 3) (eC (.int 1)), eC (.int 0), eBin opSub (eBlt opLen [eVar 2]) (eC (.int 1))]))) (tNot' (tOr' (asB (eBin opIs (eBin opIx (eVar 3) (eC (.int 2))) (eC .non))) (tTru (eCall (f__law_is_word) [eBin opIx (eVar 3) (eC (.int 2))]))))) (sRet (eC (.str (Str.ofString "steps")))) (sSkip))))) (sSeq (sIf (tNot' (tTru (eCall (f__law_within) [eBin opIx (eVar 0) (eC (.int 1)), eC (.int 0), eBin opSub (eBlt opLen [eVar 1]) (eC (.int 1))]))) (sRet (eC (.str (Str.ofString "first")))) (sSkip)) (sSeq (sIf (tAnd' (asB (eBin opIsNot (eBin opIx (eVar 0) (eC (.int 2))) (eC .non))) (tNot' (tTru (eCall (f__law_within) [eBin opIx (eVar 0) (eC (.int 2)), eC (.int 0), eBin opSub (eBlt opLen [eVar 1]) (eC (.int 1))])))) (sRet (eC (.str (Str.ofString "leader")))) (sSkip)) (sRet (eIf (tOr' (asB (eBin opIs (eBin opIx (eVar 0) (eC (.int 3))) (eC .non))) (tTru (eCall (f__law_within) [eBin opIx (eVar 0) (eC (.int 3)), eC (.int 0), eBin opSub (eBlt opLen [eBin opIx (eVar 1) (eC (.int 0))]) (eC (.int 1))]))) (eC .non) (eC (.str (Str.ofString "lamp"))))))))))
noncomputable def f__law_fault : F := fnS 1 4 b__law_fault
noncomputable def b__law_lines : Sm := sSeq (sAsg (.name 1) (eBlt opLst [])) (sSeq (sFor (iS (eBin opIx (eVar 0) (eC (.int 0)))) (.name 2) (sSeq (sAsg (.name 3) (eBlt opLst [eC (.str (Str.ofString "state"))])) (sSeq (sFor (iS (eVar 2)) (.name 4) (sAsg (.name 3) (eBin opAdd (eVar 3) (eBlt opLst [eBlt opStrB [eBin opIx (eVar 4) (eC (.int 0))], eBlt opStrB [eBin opIx (eVar 4) (eC (.int 1))], eIf (asB (eBin opIs (eBin opIx (eVar 4) (eC (.int 2))) (eC .non))) (eC (.str (Str.ofString "-"))) (eBlt opStrB [eBin opIx (eVar 4) (eC (.int 2))])])))) (sExpr (eMt "list" opAppend (eVar 1) [eMt "str" opJoin (eC (.str (Str.ofString " "))) [eVar 3]]))))) (sSeq (sAsg (.name 1) (eBin opAdd (eVar 1) (eBlt opLst [eBin opAdd (eC (.str (Str.ofString "first "))) (eBlt opStrB [eBin opIx (eVar 0) (eC (.int 1))]), eBin opAdd (eC (.str (Str.ofString "leader "))) (eIf (asB (eBin opIs (eBin opIx (eVar 0) (eC (.int 2))) (eC .non))) (eC (.str (Str.ofString "none"))) (eBlt opStrB [eBin opIx (eVar 0) (eC (.int 2))]))]))) (sRet (eBin opAdd (eVar 1) (eBlt opLst [eBin opAdd (eC (.str (Str.ofString "lamp "))) (eIf (asB (eBin opIs (eBin opIx (eVar 0) (eC (.int 3))) (eC .non))) (eC (.str (Str.ofString "any"))) (eBlt opStrB [eBin opIx (eVar 0) (eC (.int 3))])), eC (.str (Str.ofString "end"))])))))
noncomputable def f__law_lines : F := fnS 1 5 b__law_lines
noncomputable def b__law_number : Sm := sSeq (sIf (tOr' (tNot' (asB (eChain opLe opLe (eC (.int 1)) (eBlt opLen [eVar 0]) (eC (.int 6))))) (asB (eBin (opEqE true) (eLc [1] (iSs (eVar 0)) (.name 1) (asB (eBin (opInS true) (eVar 1) (eC (.str (Str.ofString "0123456789"))))) (eVar 1)) (eBlt opLst [])))) (sRet (eC .non)) (sSkip)) (sRet (eIf (tAnd' (asB (eBin opEq (eBin opIx (eVar 0) (eC (.int 0))) (eC (.str (Str.ofString "0"))))) (asB (eBin opNe (eVar 0) (eC (.str (Str.ofString "0")))))) (eC .non) (eBlt opInt [eVar 0])))
noncomputable def f__law_number : F := fnS 1 2 b__law_number
noncomputable def b__law_taken : Sm := sSeq (sAsg (.tup [.name 2, .name 3]) (eVar 0)) (sSeq (sIf (tAnd' (asB (eBin opEq (eBin opIx (eVar 1) (eC (.int 0))) (eC (.str (Str.ofString "state"))))) (asB (eBin (opEqE false) (eVar 3) (eBlt opLst [])))) (sSeq (sExpr (eMt "list" opAppend (eVar 2) [eBlt opTup []])) (sSeq (sIf (asB (eBin opNe (eBlt opInt [eBin opMod (eBlt opLen [eVar 1]) (eC (.int 3))]) (eC (.int 1)))) (sRet (eC (.bl false))) (sSkip)) (sSeq (sFor (iR3 (eC (.int 1)) (eBlt opLen [eVar 1]) (eC (.int 3))) (.name 4) (sSeq (sPar3 5 6 7 (eCall (f__law_number) [eBin opIx (eVar 1) (eVar 4)]) (eCall (f__law_number) [eBin opIx (eVar 1) (eBin opAdd (eVar 4) (eC (.int 1)))]) (eBin opIx (eVar 1) (eBin opAdd (eVar 4) (eC (.int 2))))) (sSeq (sIf (tOr' (asB (eBin opIs (eVar 5) (eC .non))) (tOr' (asB (eBin opIs (eVar 6) (eC .non))) (tAnd' (asB (eBin (opIn true) (eVar 7) (eBlt opTup [eC (.str (Str.ofString "-")), eC (.str (Str.ofString "all"))]))) (asB (eBin opIs (eCall (f__law_number) [eVar 7]) (eC .non)))))) (sRet (eC (.bl false))) (sSkip)) (sSetIx (eVar 2) (eUn opNeg (eC (.int 1))) (eBin opAdd (eBin opIx (eVar 2) (eUn opNeg (eC (.int 1)))) (eBlt opTup [eBlt opTup [eVar 5, eVar 6, eIf (asB (eBin opEq (eVar 7) (eC (.str (Str.ofString "-"))))) (eC .non) (eIf (asB (eBin opEq (eVar 7) (eC (.str (Str.ofString "all"))))) (eVar 7) (eCall (f__law_number) [eVar 7]))]])))))) (sRet (eC (.bl true)))))) (sSkip)) (sSeq (sIf (tOr' (asB (eBin (opEqE false) (eVar 2) (eBlt opLst []))) (tOr' (asB (eBin opEq (eBlt opLen [eVar 3]) (eC (.int 4)))) (asB (eBin opNe (eBin opIx (eVar 1) (eC (.int 0))) (eBin opIx (eBlt opLst [eC (.str (Str.ofString "first")), eC (.str (Str.ofString "leader")), eC (.str (Str.ofString "lamp")), eC (.str (Str.ofString "end"))]) (eBlt opLen [eVar 3])))))) (sRet (eC (.bl false))) (sSkip)) (sSeq (sIf (asB (eBin opEq (eBin opIx (eVar 1) (eC (.int 0))) (eC (.str (Str.ofString "end"))))) (sSeq (sExpr (eMt "list" opAppend (eVar 3) [eC .non])) (sRet (eBin opEq (eVar 1) (eBlt opLst [eC (.str (Str.ofString "end"))])))) (sSkip)) (sSeq (sExpr (eMt "list" opAppend (eVar 3) [eC .non])) (sSeq (sIf (tOr' (asB (eBin opNe (eBlt opLen [eVar 1]) (eC (.int 2)))) (tOr' (asB (eBin opEq (eVar 1) (eBlt opLst [eC (.str (Str.ofString "leader")), eC (.str (Str.ofString "none"))]))) (asB (eBin opEq (eVar 1) (eBlt opLst [eC (.str (Str.ofString "lamp")), eC (.str (Str.ofString "any"))]))))) (sRet (eBin opEq (eBlt opLen [eVar 1]) (eC (.int 2)))) (sSkip)) (sSeq (sSetIx (eVar 3) (eUn opNeg (eC (.int 1))) (eCall (f__law_number) [eBin opIx (eVar 1) (eC (.int 1))])) (sRet (eBin opIsNot (eBin opIx (eVar 3) (eUn opNeg (eC (.int 1)))) (eC .non)))))))))
noncomputable def f__law_taken : F := fnS 2 8 b__law_taken
noncomputable def b__law_reader : Sm := sSeq (sPar 1 2 (eMt "str" opSplit (eVar 0) [eC (.str (Str.ofString "\n"))]) (eBlt opLst [eBlt opLst [], eBlt opLst []])) (sSeq (sFor (iEnX (eSl (eVar 1) none (some (eUn opNeg (eC (.int 1)))))) (.tup [.name 3, .name 4]) (sSeq (sAsg (.name 5) (eMt "str" opSplit (eVar 4) [eC (.str (Str.ofString " "))])) (sSeq (sIf (asB (eBin (opIn false) (eC (.str (Str.ofString ""))) (eVar 5))) (sRet (eBlt opTup [eC (.str (Str.ofString "text")), eVar 3, eC (.str (Str.ofString "words"))])) (sSkip)) (sIf (tNot' (tTru (eCall (f__law_taken) [eVar 2, eVar 5]))) (sRet (eBlt opTup [eC (.str (Str.ofString "text")), eVar 3, eC (.str (Str.ofString "form"))])) (sSkip))))) (sSeq (sIf (asB (eBin opNe (eBin opIx (eVar 1) (eUn opNeg (eC (.int 1)))) (eC (.str (Str.ofString ""))))) (sRet (eBlt opTup [eC (.str (Str.ofString "text")), eBin opSub (eBlt opLen [eVar 1]) (eC (.int 1)), eC (.str (Str.ofString "feed"))])) (sSkip)) (sSeq (sIf (asB (eBin opLt (eBlt opLen [eBin opIx (eVar 2) (eC (.int 1))]) (eC (.int 4)))) (sRet (eBlt opTup [eC (.str (Str.ofString "text")), eBin opSub (eBlt opLen [eVar 1]) (eC (.int 1)), eC (.str (Str.ofString "missing"))])) (sSkip)) (sRet (eBlt opTup [eC (.str (Str.ofString "parts")), eBin opAdd (eBlt opLst [eBlt opTuple [eBin opIx (eVar 2) (eC (.int 0))]]) (eSl (eBin opIx (eVar 2) (eC (.int 1))) none (some (eC (.int 3))))])))))
noncomputable def f__law_reader : F := fnS 1 6 b__law_reader
noncomputable def b__law_bent_line : Sm := sSeq (sAsg (.name 2) (eMt "str" opSplit (eVar 1) [eC (.str (Str.ofString " "))])) (sSeq (sPar 3 4 (eCall (f__law_draw) [eVar 0, eBlt opLen [eVar 2]]) (eCall (f__law_draw) [eVar 0, eC (.int 8)])) (sSeq (sAsg (.name 5) (eCall (f__law_pick) [eVar 0, eBlt opLst [eC (.str (Str.ofString "state")), eC (.str (Str.ofString "first")), eC (.str (Str.ofString "leader")), eC (.str (Str.ofString "lamp")), eC (.str (Str.ofString "end")), eC (.str (Str.ofString "none")), eC (.str (Str.ofString "any")), eC (.str (Str.ofString "all")), eC (.str (Str.ofString "-")), eC (.str (Str.ofString "0")), eC (.str (Str.ofString "1")), eC (.str (Str.ofString "07")), eC (.str (Str.ofString "-1")), eC (.str (Str.ofString "x")), eC (.str (Str.ofString "5")), eC (.str (Str.ofString "1234567")), eC (.str (Str.ofString ""))]])) (sSeq (sIf (asB (eBin opLt (eVar 4) (eC (.int 2)))) (sAsg (.name 2) (eBin opAdd (eBin opAdd (eSl (eVar 2) none (some (eVar 3))) (eBlt opLst [eVar 5])) (eSl (eVar 2) (some (eBin opAdd (eVar 3) (eVar 4))) none))) (sIf (asB (eBin opEq (eVar 4) (eC (.int 2)))) (sAsg (.name 2) (eBin opAdd (eSl (eVar 2) none (some (eVar 3))) (eSl (eVar 2) (some (eBin opAdd (eVar 3) (eC (.int 1)))) none))) (sIf (asB (eBin opEq (eVar 4) (eC (.int 3)))) (sAsg (.name 2) (eBin opAdd (eBin opAdd (eSl (eVar 2) none (some (eVar 3))) (eSl (eVar 2) (some (eVar 3)) (some (eBin opAdd (eVar 3) (eC (.int 1)))))) (eSl (eVar 2) (some (eVar 3)) none))) (sIf (asB (eBin opEq (eVar 4) (eC (.int 4)))) (sAsg (.name 2) (eBin opAdd (eVar 2) (eBlt opLst [eCall (f__law_pick) [eVar 0, eBin opAdd (eVar 2) (eBlt opLst [eVar 5])]]))) (sSeq (sAsg (.name 6) (eCall (f__law_draw) [eVar 0, eBin opAdd (eBlt opLen [eVar 1]) (eC (.int 1))])) (sRet (eBin opAdd (eBin opAdd (eSl (eVar 1) none (some (eVar 6))) (eCall (f__law_pick) [eVar 0, eBlt opLst [eC (.str (Str.ofString " ")), eC (.str (Str.ofString "a")), eC (.str (Str.ofString "\n")), eC (.str (Str.ofString "1")), eC (.str (Str.ofString "0")), eC (.str (Str.ofString "end")), eC (.str (Str.ofString "\nend\n"))]])) (eSl (eVar 1) (some (eVar 6)) none)))))))) (sRet (eMt "str" opJoin (eC (.str (Str.ofString " "))) [eVar 2])))))
noncomputable def f__law_bent_line : F := fnS 2 7 b__law_bent_line
noncomputable def b__law_bent_text : Sm := sSeq (sIf (asB (eBin (opEqE false) (eVar 1) (eBlt opLst []))) (sRet (eBlt opLst [eCall (f__law_pick) [eVar 0, eBlt opLst [eC (.str (Str.ofString "")), eC (.str (Str.ofString "end")), eC (.str (Str.ofString "state"))]]])) (sSkip)) (sSeq (sPar3 2 3 4 (eCall (f__law_draw) [eVar 0, eBlt opLen [eVar 1]]) (eCall (f__law_draw) [eVar 0, eBlt opLen [eVar 1]]) (eCall (f__law_draw) [eVar 0, eC (.int 8)])) (sSeq (sIf (asB (eBin opEq (eVar 4) (eC (.int 0)))) (sRet (eBin opAdd (eSl (eVar 1) none (some (eVar 2))) (eSl (eVar 1) (some (eBin opAdd (eVar 2) (eC (.int 1)))) none))) (sSkip)) (sSeq (sIf (asB (eBin opEq (eVar 4) (eC (.int 1)))) (sRet (eBin opAdd (eBin opAdd (eSl (eVar 1) none (some (eVar 2))) (eBlt opLst [eBin opIx (eVar 1) (eVar 3)])) (eSl (eVar 1) (some (eVar 2)) none))) (sSkip)) (sSeq (sIf (asB (eBin opEq (eVar 4) (eC (.int 2)))) (sRet (eBin opAdd (eBin opAdd (eSl (eVar 1) none (some (eVar 2))) (eBlt opLst [eCall (f__law_pick) [eVar 0, eBlt opLst [eC (.str (Str.ofString "end")), eC (.str (Str.ofString "state")), eC (.str (Str.ofString "state 0 0 -")), eC (.str (Str.ofString "first 0")), eC (.str (Str.ofString "leader none")), eC (.str (Str.ofString "lamp any")), eC (.str (Str.ofString ""))]]])) (eSl (eVar 1) (some (eVar 2)) none))) (sSkip)) (sSeq (sIf (asB (eBin opEq (eVar 4) (eC (.int 3)))) (sRet (eBin opAdd (eBin opAdd (eSl (eVar 1) none (some (eVar 2))) (eBlt opLst [eBin opIx (eVar 1) (eVar 3)])) (eSl (eVar 1) (some (eBin opAdd (eVar 2) (eC (.int 1)))) none))) (sSkip)) (sRet (eBin opAdd (eBin opAdd (eSl (eVar 1) none (some (eVar 2))) (eBlt opLst [eCall (f__law_bent_line) [eVar 0, eBin opIx (eVar 1) (eVar 2)]])) (eSl (eVar 1) (some (eBin opAdd (eVar 2) (eC (.int 1)))) none))))))))
noncomputable def f__law_bent_text : F := fnS 2 5 b__law_bent_text
noncomputable def b__law_found : Sm := sSeq (sTry (sAsg (.name 1) (eCall (f_read_program) [eVar 0])) [⟨3, no_BadText, some 2, fun fs => eBlt opTup [eC (.str (Str.ofString "text")), eXf fs "line" (eVar 2), eXf fs "what" (eVar 2)]⟩, ⟨2, no_BadProgram, some 2, fun fs => eBlt opTup [eC (.str (Str.ofString "program")), eXf fs "what" (eVar 2)]⟩]) (sRet (eBlt opTup [eC (.str (Str.ofString "parts")), eBlt opLst [eUn (opFld fld_steps "steps") (eVar 1), eUn (opFld fld_first "first") (eVar 1), eUn (opFld fld_leader "leader") (eVar 1), eUn (opFld fld_lamp "lamp") (eVar 1)]]))
noncomputable def f__law_found : F := fnS 1 3 b__law_found
noncomputable def b_law : Sm := sSeq (sAsg (.name 1) (eCall (f__law_pot) [eVar 0])) (sSeq (sFor (iR1 (eC (.int 6))) (.name 2) (sSeq (sAsg (.name 3) (eCall (f__law_lines) [eCall (f__law_spec) [eVar 1, eBlt opLst [eC (.int 3), eC (.int 3)]]])) (sSeq (sFor (iR1 (eCall (f__law_draw) [eVar 1, eC (.int 4)])) (.name 4) (sAsg (.name 3) (eCall (f__law_bent_text) [eVar 1, eVar 3]))) (sSeq (sAsg (.name 5) (eMt "str" opJoin (eC (.str (Str.ofString ""))) [eLc [8] (iS (eVar 3)) (.name 8) (tYes') (eBin opAdd (eVar 8) (eC (.str (Str.ofString "\n"))))])) (sSeq (sIf (asB (eBin opEq (eCall (f__law_draw) [eVar 1, eC (.int 6)]) (eC (.int 0)))) (sAsg (.name 5) (eSl (eVar 5) none (some (eCall (f__law_draw) [eVar 1, eBin opAdd (eBlt opLen [eVar 5]) (eC (.int 1))])))) (sSkip)) (sSeq (sAsg (.name 6) (eCall (f__law_reader) [eVar 5])) (sSeq (sIf (asB (eBin opEq (eBin opIx (eVar 6) (eC (.int 0))) (eC (.str (Str.ofString "parts"))))) (sSeq (sAsg (.name 7) (eCall (f__law_fault) [eBin opIx (eVar 6) (eC (.int 1))])) (sAsg (.name 6) (eIf (asB (eBin opIs (eVar 7) (eC .non))) (eVar 6) (eBlt opTup [eC (.str (Str.ofString "program")), eVar 7])))) (sSkip)) (sIf (tNot' (tTru (eCall (f__law_same 7) [eCall (f__law_found) [eVar 5], eVar 6]))) (sRet (eC (.bl false))) (sSkip))))))))) (sRet (eBin opEq (eCall (f__law_found) [eCall (f__law_pick) [eVar 1, eBlt opLst [eC .non, eC (.int 7), eBlt opTup [eC (.str (Str.ofString "end"))], eBlt opLst [eC (.str (Str.ofString "end"))], eC (.bl true), eNewD]]]) (eBlt opTup [eC (.str (Str.ofString "text")), eC (.int 0), eC (.str (Str.ofString "text"))]))))
noncomputable def f_law : F := fnS 1 9 b_law
/-! ### what the top leaves -/
structure Tx (G : Gx) (mg : Str → Option Value) (w : World) (P : Program) where
  xi0 : G.xi = none
  a_is_number : Addr
  d_is_number : FuncData
  F_is_number : Fun G.K "is_number" "is_number" (topS 7) a_is_number d_is_number
  B_is_number : Binds G.K d_is_number ["value"] []
  m_is_number : mg "is_number" = some (.ref a_is_number)
  a_is_within : Addr
  d_is_within : FuncData
  F_is_within : Fun G.K "is_within" "is_within" (topS 8) a_is_within d_is_within
  B_is_within : Binds G.K d_is_within ["value", "least", "most"] []
  m_is_within : mg "is_within" = some (.ref a_is_within)
  a_is_word : Addr
  d_is_word : FuncData
  F_is_word : Fun G.K "is_word" "is_word" (topS 9) a_is_word d_is_word
  B_is_word : Binds G.K d_is_word ["value"] []
  m_is_word : mg "is_word" = some (.ref a_is_word)
  a_is_step : Addr
  d_is_step : FuncData
  F_is_step : Fun G.K "is_step" "is_step" (topS 13) a_is_step d_is_step
  B_is_step : Binds G.K d_is_step ["value", "states", "colours"] []
  m_is_step : mg "is_step" = some (.ref a_is_step)
  a_are_steps : Addr
  d_are_steps : FuncData
  F_are_steps : Fun G.K "are_steps" "are_steps" (topS 14) a_are_steps d_are_steps
  B_are_steps : Binds G.K d_are_steps ["value"] []
  m_are_steps : mg "are_steps" = some (.ref a_are_steps)
  a_number_in : Addr
  d_number_in : FuncData
  F_number_in : Fun G.K "number_in" "number_in" (topS 21) a_number_in d_number_in
  B_number_in : Binds G.K d_number_in ["word"] []
  m_number_in : mg "number_in" = some (.ref a_number_in)
  a_is_saying_word : Addr
  d_is_saying_word : FuncData
  F_is_saying_word : Fun G.K "is_saying_word" "is_saying_word" (topS 22) a_is_saying_word d_is_saying_word
  B_is_saying_word : Binds G.K d_is_saying_word ["word"] []
  m_is_saying_word : mg "is_saying_word" = some (.ref a_is_saying_word)
  a_saying_in : Addr
  d_saying_in : FuncData
  F_saying_in : Fun G.K "saying_in" "saying_in" (topS 23) a_saying_in d_saying_in
  B_saying_in : Binds G.K d_saying_in ["word"] []
  m_saying_in : mg "saying_in" = some (.ref a_saying_in)
  a_LineReader_init : Addr
  d_LineReader_init : FuncData
  F_LineReader_init : Fun G.K "__init__" "LineReader.__init__" (inClass (topS 24) 0) a_LineReader_init d_LineReader_init
  B_LineReader_init : Binds G.K d_LineReader_init ["self"] []
  mk_LineReader : Mk G.K (G.tb 5) a_LineReader_init
  a_LineReader_takes_row : Addr
  d_LineReader_takes_row : FuncData
  F_LineReader_takes_row : Fun G.K "takes_row" "LineReader.takes_row" (inClass (topS 24) 2) a_LineReader_takes_row d_LineReader_takes_row
  B_LineReader_takes_row : Binds G.K d_LineReader_takes_row ["self", "words"] []
  me_LineReader_takes_row : Meth G.K (G.tb 5) "takes_row" a_LineReader_takes_row
  a_LineReader_takes : Addr
  d_LineReader_takes : FuncData
  F_LineReader_takes : Fun G.K "takes" "LineReader.takes" (inClass (topS 24) 1) a_LineReader_takes d_LineReader_takes
  B_LineReader_takes : Binds G.K d_LineReader_takes ["self", "words"] []
  me_LineReader_takes : Meth G.K (G.tb 5) "takes" a_LineReader_takes
  a_Program_init : Addr
  d_Program_init : FuncData
  F_Program_init : Fun G.K "__init__" "Program.__init__" (inClass (topS 15) 0) a_Program_init d_Program_init
  B_Program_init : Binds G.K d_Program_init ["self", "steps", "first", "leader", "lamp"] []
  mk_Program : Mk G.K (G.tb 4) a_Program_init
  a_read_program : Addr
  d_read_program : FuncData
  F_read_program : Fun G.K "read_program" "read_program" (topS 25) a_read_program d_read_program
  B_read_program : Binds G.K d_read_program ["text"] []
  m_read_program : mg "read_program" = some (.ref a_read_program)
  a__law_pot : Addr
  d__law_pot : FuncData
  F__law_pot : Fun G.K "_law_pot" "_law_pot" (topS 27) a__law_pot d__law_pot
  B__law_pot : Binds G.K d__law_pot ["script"] []
  m__law_pot : mg "_law_pot" = some (.ref a__law_pot)
  a__law_draw : Addr
  d__law_draw : FuncData
  F__law_draw : Fun G.K "_law_draw" "_law_draw" (topS 28) a__law_draw d__law_draw
  B__law_draw : Binds G.K d__law_draw ["pot", "many"] []
  m__law_draw : mg "_law_draw" = some (.ref a__law_draw)
  a__law_pick : Addr
  d__law_pick : FuncData
  F__law_pick : Fun G.K "_law_pick" "_law_pick" (topS 29) a__law_pick d__law_pick
  B__law_pick : Binds G.K d__law_pick ["pot", "row"] []
  m__law_pick : mg "_law_pick" = some (.ref a__law_pick)
  a__law_same : Addr
  d__law_same : FuncData
  F__law_same : Fun G.K "_law_same" "_law_same" (topS 30) a__law_same d__law_same
  B__law_same : Binds G.K d__law_same ["found", "due"] []
  m__law_same : mg "_law_same" = some (.ref a__law_same)
  a__law_within : Addr
  d__law_within : FuncData
  F__law_within : Fun G.K "_law_within" "_law_within" (topS 31) a__law_within d__law_within
  B__law_within : Binds G.K d__law_within ["thing", "low", "high"] []
  m__law_within : mg "_law_within" = some (.ref a__law_within)
  a__law_saying : Addr
  d__law_saying : FuncData
  F__law_saying : Fun G.K "_law_saying" "_law_saying" (topS 32) a__law_saying d__law_saying
  B__law_saying : Binds G.K d__law_saying ["pot"] []
  m__law_saying : mg "_law_saying" = some (.ref a__law_saying)
  a__law_spec : Addr
  d__law_spec : FuncData
  F__law_spec : Fun G.K "_law_spec" "_law_spec" (topS 33) a__law_spec d__law_spec
  B__law_spec : Binds G.K d__law_spec ["pot", "most"] []
  m__law_spec : mg "_law_spec" = some (.ref a__law_spec)
  a__law_is_word : Addr
  d__law_is_word : FuncData
  F__law_is_word : Fun G.K "_law_is_word" "_law_is_word" (topS 34) a__law_is_word d__law_is_word
  B__law_is_word : Binds G.K d__law_is_word ["thing"] []
  m__law_is_word : mg "_law_is_word" = some (.ref a__law_is_word)
  a__law_fault : Addr
  d__law_fault : FuncData
  F__law_fault : Fun G.K "_law_fault" "_law_fault" (topS 35) a__law_fault d__law_fault
  B__law_fault : Binds G.K d__law_fault ["spec"] []
  m__law_fault : mg "_law_fault" = some (.ref a__law_fault)
  a__law_lines : Addr
  d__law_lines : FuncData
  F__law_lines : Fun G.K "_law_lines" "_law_lines" (topS 36) a__law_lines d__law_lines
  B__law_lines : Binds G.K d__law_lines ["spec"] []
  m__law_lines : mg "_law_lines" = some (.ref a__law_lines)
  a__law_number : Addr
  d__law_number : FuncData
  F__law_number : Fun G.K "_law_number" "_law_number" (topS 37) a__law_number d__law_number
  B__law_number : Binds G.K d__law_number ["word"] []
  m__law_number : mg "_law_number" = some (.ref a__law_number)
  a__law_taken : Addr
  d__law_taken : FuncData
  F__law_taken : Fun G.K "_law_taken" "_law_taken" (topS 38) a__law_taken d__law_taken
  B__law_taken : Binds G.K d__law_taken ["book", "words"] []
  m__law_taken : mg "_law_taken" = some (.ref a__law_taken)
  a__law_reader : Addr
  d__law_reader : FuncData
  F__law_reader : Fun G.K "_law_reader" "_law_reader" (topS 39) a__law_reader d__law_reader
  B__law_reader : Binds G.K d__law_reader ["text"] []
  m__law_reader : mg "_law_reader" = some (.ref a__law_reader)
  a__law_bent_line : Addr
  d__law_bent_line : FuncData
  F__law_bent_line : Fun G.K "_law_bent_line" "_law_bent_line" (topS 40) a__law_bent_line d__law_bent_line
  B__law_bent_line : Binds G.K d__law_bent_line ["pot", "line"] []
  m__law_bent_line : mg "_law_bent_line" = some (.ref a__law_bent_line)
  a__law_bent_text : Addr
  d__law_bent_text : FuncData
  F__law_bent_text : Fun G.K "_law_bent_text" "_law_bent_text" (topS 41) a__law_bent_text d__law_bent_text
  B__law_bent_text : Binds G.K d__law_bent_text ["pot", "lines"] []
  m__law_bent_text : mg "_law_bent_text" = some (.ref a__law_bent_text)
  a__law_found : Addr
  d__law_found : FuncData
  F__law_found : Fun G.K "_law_found" "_law_found" (topS 42) a__law_found d__law_found
  B__law_found : Binds G.K d__law_found ["text"] []
  m__law_found : mg "_law_found" = some (.ref a__law_found)
  a_law : Addr
  d_law : FuncData
  F_law : Fun G.K "law" "law" (topS 43) a_law d_law
  B_law : Binds G.K d_law ["script"] []
  m_law : mg "law" = some (.ref a_law)
  m_Program : mg "Program" = some (.ref (G.tb 4))
  cls_Program : Cls G.K (G.tb 4)
  m_LineReader : mg "LineReader" = some (.ref (G.tb 5))
  cls_LineReader : Cls G.K (G.tb 5)
  m_BadProgram : mg "BadProgram" = some (.ref (G.tb 2))
  ex_BadProgram : Exc0 P w G.K mg (G.tb 2) ["self", "what"] (spX1 (G.tb 2) "what")
  m_BadText : mg "BadText" = some (.ref (G.tb 3))
  ex_BadText : Exc0 P w G.K mg (G.tb 3) ["self", "line", "what"] (spX2 (G.tb 3) "line" "what")
  exm_BadProgram : PySem.W.exmOne G.K (.ref (G.tb 2)) (.ref (G.tb 2)) = some true
  exn_BadProgram : ∀ c' ∈ no_BadProgram, PySem.W.exmOne G.K (.ref (G.tb c')) (.ref (G.tb 2)) = some false
  exm_BadText : PySem.W.exmOne G.K (.ref (G.tb 3)) (.ref (G.tb 3)) = some true
  exn_BadText : ∀ c' ∈ no_BadText, PySem.W.exmOne G.K (.ref (G.tb c')) (.ref (G.tb 3)) = some false
  xn_BadProgram_what : PySem.W.findIn G.K (.ref (G.tb 2)) "what" = some none
  xn_BadText_line : PySem.W.findIn G.K (.ref (G.tb 3)) "line" = some none
  xn_BadText_what : PySem.W.findIn G.K (.ref (G.tb 3)) "what" = some none
  xf_BadProgram : XfC G.K (G.tb 2)
  xf_BadText : XfC G.K (G.tb 3)
  na_first_Program : NoAttr G.K (G.tb 4) "first"
  na_lamp_Program : NoAttr G.K (G.tb 4) "lamp"
  na_last_LineReader : NoAttr G.K (G.tb 5) "last"
  na_leader_Program : NoAttr G.K (G.tb 4) "leader"
  na_read_rows_LineReader : NoAttr G.K (G.tb 5) "read_rows"
  na_steps_Program : NoAttr G.K (G.tb 4) "steps"
  z_abs : mg "abs" = none
  z_all : mg "all" = none
  z_bool : mg "bool" = none
  z_enumerate : mg "enumerate" = none
  z_int : mg "int" = none
  z_isinstance : mg "isinstance" = none
  z_len : mg "len" = none
  z_list : mg "list" = none
  z_range : mg "range" = none
  z_str : mg "str" = none
  z_tuple : mg "tuple" = none
  t_MOST_SAID : Tok
  k_MOST_SAID : mg "MOST_SAID" = some (.int 4 t_MOST_SAID)
  t_ALL : Tok
  k_ALL : mg "ALL" = some (.str (Str.ofString "all") t_ALL)
  t_MOST_STATES : Tok
  k_MOST_STATES : mg "MOST_STATES" = some (.int 5 t_MOST_STATES)
  t_MOST_COLOURS : Tok
  k_MOST_COLOURS : mg "MOST_COLOURS" = some (.int 4 t_MOST_COLOURS)
  t_DIGITS : Tok
  k_DIGITS : mg "DIGITS" = some (.str (Str.ofString "0123456789") t_DIGITS)
  t_MOST_DIGITS : Tok
  k_MOST_DIGITS : mg "MOST_DIGITS" = some (.int 6 t_MOST_DIGITS)
  k_HEADS : ∃ (a : Addr) (o : Obj) (its : Array Value) (n : Nat), mg "HEADS" = some (.ref a) ∧ G.K.lookup a = some o ∧ o.cls = .type "tuple" ∧ o.data = .seq its n ∧ its.size ≤ sizeLine ∧ Vals [.str (Str.ofString "first"), .str (Str.ofString "leader"), .str (Str.ofString "lamp"), .str (Str.ofString "end")] its.toList
  k_OPEN : ∃ (a : Addr) (es : Array DictEntry) (n : Nat), mg "OPEN" = some (.ref a) ∧ G.K.lookup a = some ⟨.type "dict", none, .dict es n, #[]⟩ ∧ PySem.W.KeysLit w.params es.toList ∧ (a == sysModules) = false
  kk_OPEN_first : ∀ a, mg "OPEN" = some (.ref a) → ∃ r, PySem.W.nsIn G.K a "first" = some r ∧ RelV (.non) (r.getD .none)
  kk_OPEN_leader : ∀ a, mg "OPEN" = some (.ref a) → ∃ r, PySem.W.nsIn G.K a "leader" = some r ∧ RelV (.str (Str.ofString "none")) (r.getD .none)
  kk_OPEN_lamp : ∀ a, mg "OPEN" = some (.ref a) → ∃ r, PySem.W.nsIn G.K a "lamp" = some r ∧ RelV (.str (Str.ofString "any")) (r.getD .none)
variable {G : Gx} {mg : Str → Option Value} {P : Program} {w : World} {base : Heap}
theorem Tx.fld_first (T : Tx G mg w P) : ∀ c, fld_first c = true → Cls G.K (G.tb c) ∧ NoAttr G.K (G.tb c) "first" := fun c h => by
  simp only [K03.fld_first, Bool.or_eq_true, beq_iff_eq] at h
  subst h
  exact ⟨T.cls_Program, T.na_first_Program⟩
theorem Tx.fld_lamp (T : Tx G mg w P) : ∀ c, fld_lamp c = true → Cls G.K (G.tb c) ∧ NoAttr G.K (G.tb c) "lamp" := fun c h => by
  simp only [K03.fld_lamp, Bool.or_eq_true, beq_iff_eq] at h
  subst h
  exact ⟨T.cls_Program, T.na_lamp_Program⟩
theorem Tx.fld_last (T : Tx G mg w P) : ∀ c, fld_last c = true → Cls G.K (G.tb c) ∧ NoAttr G.K (G.tb c) "last" := fun c h => by
  simp only [K03.fld_last, Bool.or_eq_true, beq_iff_eq] at h
  subst h
  exact ⟨T.cls_LineReader, T.na_last_LineReader⟩
theorem Tx.fld_leader (T : Tx G mg w P) : ∀ c, fld_leader c = true → Cls G.K (G.tb c) ∧ NoAttr G.K (G.tb c) "leader" := fun c h => by
  simp only [K03.fld_leader, Bool.or_eq_true, beq_iff_eq] at h
  subst h
  exact ⟨T.cls_Program, T.na_leader_Program⟩
theorem Tx.fld_read_rows (T : Tx G mg w P) : ∀ c, fld_read_rows c = true → Cls G.K (G.tb c) ∧ NoAttr G.K (G.tb c) "read_rows" := fun c h => by
  simp only [K03.fld_read_rows, Bool.or_eq_true, beq_iff_eq] at h
  subst h
  exact ⟨T.cls_LineReader, T.na_read_rows_LineReader⟩
theorem Tx.fld_steps (T : Tx G mg w P) : ∀ c, fld_steps c = true → Cls G.K (G.tb c) ∧ NoAttr G.K (G.tb c) "steps" := fun c h => by
  simp only [K03.fld_steps, Bool.or_eq_true, beq_iff_eq] at h
  subst h
  exact ⟨T.cls_Program, T.na_steps_Program⟩
theorem Tx.c_MOST_SAID_e (T : Tx G mg w P) {W : WX} {X : Cx} {pos : Pos} (hg : Gl X "MOST_SAID") (hm : X.mg = mg := by rfl) : PE X (.Name "MOST_SAID" pos) (tE G W (eC c_MOST_SAID)) := e_glob hg (by rw [hm]; exact T.k_MOST_SAID) (v := .int 4) ⟨_, rfl⟩ fun _ _ => by simp only [RV]
theorem Tx.c_ALL_e (T : Tx G mg w P) {W : WX} {X : Cx} {pos : Pos} (hg : Gl X "ALL") (hm : X.mg = mg := by rfl) : PE X (.Name "ALL" pos) (tE G W (eC c_ALL)) := e_glob hg (by rw [hm]; exact T.k_ALL) (v := .str (Str.ofString "all")) ⟨_, rfl⟩ fun _ _ => by simp only [RV]
theorem Tx.c_MOST_STATES_e (T : Tx G mg w P) {W : WX} {X : Cx} {pos : Pos} (hg : Gl X "MOST_STATES") (hm : X.mg = mg := by rfl) : PE X (.Name "MOST_STATES" pos) (tE G W (eC c_MOST_STATES)) := e_glob hg (by rw [hm]; exact T.k_MOST_STATES) (v := .int 5) ⟨_, rfl⟩ fun _ _ => by simp only [RV]
theorem Tx.c_MOST_COLOURS_e (T : Tx G mg w P) {W : WX} {X : Cx} {pos : Pos} (hg : Gl X "MOST_COLOURS") (hm : X.mg = mg := by rfl) : PE X (.Name "MOST_COLOURS" pos) (tE G W (eC c_MOST_COLOURS)) := e_glob hg (by rw [hm]; exact T.k_MOST_COLOURS) (v := .int 4) ⟨_, rfl⟩ fun _ _ => by simp only [RV]
theorem Tx.c_DIGITS_e (T : Tx G mg w P) {W : WX} {X : Cx} {pos : Pos} (hg : Gl X "DIGITS") (hm : X.mg = mg := by rfl) : PE X (.Name "DIGITS" pos) (tE G W (eC c_DIGITS)) := e_glob hg (by rw [hm]; exact T.k_DIGITS) (v := .str (Str.ofString "0123456789")) ⟨_, rfl⟩ fun _ _ => by simp only [RV]
theorem Tx.c_MOST_DIGITS_e (T : Tx G mg w P) {W : WX} {X : Cx} {pos : Pos} (hg : Gl X "MOST_DIGITS") (hm : X.mg = mg := by rfl) : PE X (.Name "MOST_DIGITS" pos) (tE G W (eC c_MOST_DIGITS)) := e_glob hg (by rw [hm]; exact T.k_MOST_DIGITS) (v := .int 6) ⟨_, rfl⟩ fun _ _ => by simp only [RV]
theorem Tx.c_HEADS_e (T : Tx G mg w P) {W : WX} {X : Cx} {pos : Pos} (hg : Gl X "HEADS") (hm : X.mg = mg := by rfl) : PE X (.Name "HEADS" pos) (tE G W (eC c_HEADS)) := by
  obtain ⟨a, o, its, n, h1, h2, h3, h4, h5, h6⟩ := T.k_HEADS
  refine e_glob (v := .ref a) hg (by rw [hm]; exact h1) rfl fun ms H => ?_
  simp only [RV]
  exact ⟨a, _, rfl, .inr ⟨o, its, n, h2, h3, h4, h5, h6⟩, by simp [RVs, RV]⟩
theorem Tx.get_OPEN_e (T : Tx G mg w P) {W : WX} {X : Cx} {p apos cpos : Pos} {e : Expr} {fe : E} (hg : Gl X "OPEN") (he : PE X e (tE G W fe)) (m : M1 X (.Name "OPEN" p) "get" apos e cpos := by exact ⟨rfl, rfl, rfl, rfl⟩) (hm : X.mg = mg := by rfl) (hK : X.K = G.K := by rfl) (hw : X.w = w := by rfl) : PE X (.Call (.Attribute (.Name "OPEN" p) "get" apos) [e] [] cpos) (tE G W (eUn opGet_OPEN fe)) := by
  obtain ⟨a, es, n, h1, h2, h3, h4⟩ := T.k_OPEN
  refine e_kget (a := a) hg (by rw [hm]; exact h1) (by rw [hK]; exact h2) (by rw [hw]; exact h3) h4 he m fun x st d h => ?_
  unfold opGet_OPEN at h
  cases x with
  | str k =>
    simp only at h
    split at h
    · rename_i hk
      subst hk
      obtain ⟨r, e1, e2⟩ := T.kk_OPEN_first a h1
      cases h
      exact ⟨_, rfl, r, by rw [hK]; exact e1, _, e2, fun _ _ => by simp only [RV], rfl⟩
    split at h
    · rename_i hk
      subst hk
      obtain ⟨r, e1, e2⟩ := T.kk_OPEN_leader a h1
      cases h
      exact ⟨_, rfl, r, by rw [hK]; exact e1, _, e2, fun _ _ => by simp only [RV], rfl⟩
    split at h
    · rename_i hk
      subst hk
      obtain ⟨r, e1, e2⟩ := T.kk_OPEN_lamp a h1
      cases h
      exact ⟨_, rfl, r, by rw [hK]; exact e1, _, e2, fun _ _ => by simp only [RV], rfl⟩
    cases h
  | _ => cases h
theorem ok_is_number (T : Tx G mg w P) : FnOk P w G.K mg base (L2.CX P w) 1 T.a_is_number T.d_is_number ["value"] (spF G f_is_number) :=
  fn_ok (k := 0) T.F_is_number sc_is_number fun cdv A outer s H E hr =>
    have tk := takes_of (X := cxOf (L2.CX P w) P w G.K mg base N_is_number "is_number" (defScope (topS 7)) T.a_is_number cdv A outer s H E) rfl rfl rfl rfl
    (ss_one (s_ret (e_and rfl (e_blt (isi_ty rfl (.inl rfl)) (by rfl) T.z_isinstance (by decide +kernel) (a_cons (e_var (pv 0)) (a_cons (e_ty (by rfl) T.z_int (by decide +kernel)) a_nil))) (e_one (e_not rfl (e_blt (isi_ty rfl (.inr (.inl rfl))) (by rfl) T.z_isinstance (by decide +kernel) (a_cons (e_var (pv 0)) (a_cons (e_ty (by rfl) T.z_bool (by decide +kernel)) a_nil))))))))
theorem ok_is_within (T : Tx G mg w P) : FnOk P w G.K mg base (L2.CX P w) 2 T.a_is_within T.d_is_within ["value", "least", "most"] (spF G f_is_within) :=
  fn_ok (k := 1) T.F_is_within sc_is_within fun cdv A outer s H E hr =>
    have tk := takes_of (X := cxOf (L2.CX P w) P w G.K mg base N_is_within "is_within" (defScope (topS 8)) T.a_is_within cdv A outer s H E) rfl rfl rfl rfl
    (ss_one (s_ret (e_and rfl (e_call (ok_is_number T) hr T.m_is_number T.F_is_number.kp T.B_is_number tk (a_cons (e_var (pv 0)) a_nil) ) (e_one (e_chain o_le o_le (e_var (pv 1)) (e_var (pv 0)) (e_var (pv 2)))))))
theorem ok_is_word (T : Tx G mg w P) : FnOk P w G.K mg base (L2.CX P w) 3 T.a_is_word T.d_is_word ["value"] (spF G f_is_word) :=
  fn_ok (k := 2) T.F_is_word sc_is_word fun cdv A outer s H E hr =>
    have tk := takes_of (X := cxOf (L2.CX P w) P w G.K mg base N_is_word "is_word" (defScope (topS 9)) T.a_is_word cdv A outer s H E) rfl rfl rfl rfl
    (ss_one (s_ret (e_or rfl (e_call (ok_is_within T) hr T.m_is_within T.F_is_within.kp T.B_is_within tk (a_cons (e_var (pv 0)) (a_cons e_int (a_cons (T.c_MOST_SAID_e (by rfl)) a_nil))) ) (e_one (e_and rfl (e_blt (isi_ty rfl (.inr (.inr (.inl rfl)))) (by rfl) T.z_isinstance (by decide +kernel) (a_cons (e_var (pv 0)) (a_cons (e_ty (by rfl) T.z_str (by decide +kernel)) a_nil))) (e_one (e_cmp (o_eq rfl hr.units) (e_var (pv 0)) (T.c_ALL_e (by rfl)) (nomark _))))))))
theorem ok_is_step (T : Tx G mg w P) : FnOk P w G.K mg base (L2.CX P w) 4 T.a_is_step T.d_is_step ["value", "states", "colours"] (spF G f_is_step) :=
  fn_ok (k := 3) T.F_is_step sc_is_step fun cdv A outer s H E hr =>
    have tk := takes_of (X := cxOf (L2.CX P w) P w G.K mg base N_is_step "is_step" (defScope (topS 13)) T.a_is_step cdv A outer s H E) rfl rfl rfl rfl
    (ss_cons (s_if (PW.pt (w_or (t_not (t_truth rfl (e_blt (isi_ty rfl (.inr (.inr (.inr (.inl rfl))))) (by rfl) T.z_isinstance (by decide +kernel) (a_cons (e_var (pv 0)) (a_cons (e_ty (by rfl) T.z_tuple (by decide +kernel)) a_nil))))) (w_one_or (t_cmp (o_ne rfl hr.units) (e_blt (c_len rfl) (by rfl) T.z_len (by decide +kernel) (a_cons (e_var (pv 0)) a_nil)) e_int (nomark _))))) (ss_one (s_ret e_bl)) ss_nil)
    (ss_cons (s_if (PW.pt (w_or (t_not (t_truth rfl (e_call (ok_is_within T) hr T.m_is_within T.F_is_within.kp T.B_is_within tk (a_cons (e_ix (o_ix rfl) (e_var (pv 0)) e_int) (a_cons e_int (a_cons (e_bin o_sub (e_var (pv 1)) e_int) a_nil))) ))) (w_one_or (t_not (t_truth rfl (e_call (ok_is_within T) hr T.m_is_within T.F_is_within.kp T.B_is_within tk (a_cons (e_ix (o_ix rfl) (e_var (pv 0)) e_int) (a_cons e_int (a_cons (e_bin o_sub (e_var (pv 2)) e_int) a_nil))) )))))) (ss_one (s_ret e_bl)) ss_nil)
    (ss_one (s_ret (e_or rfl (e_cmp o_is (e_ix (o_ix rfl) (e_var (pv 0)) e_int) e_non (nomark _)) (e_one (e_call (ok_is_word T) hr T.m_is_word T.F_is_word.kp T.B_is_word tk (a_cons (e_ix (o_ix rfl) (e_var (pv 0)) e_int) a_nil) )))))))
theorem ok_are_steps (T : Tx G mg w P) : FnOk P w G.K mg base (L2.CX P w) 5 T.a_are_steps T.d_are_steps ["value"] (spF G f_are_steps) :=
  fn_ok (k := 4) T.F_are_steps sc_are_steps fun cdv A outer s H E hr =>
    have tk := takes_of (X := cxOf (L2.CX P w) P w G.K mg base N_are_steps "are_steps" (defScope (topS 14)) T.a_are_steps cdv A outer s H E) rfl rfl rfl rfl
    (ss_cons (s_if (PW.pt (w_or (t_not (t_truth rfl (e_blt (isi_ty rfl (.inr (.inr (.inr (.inl rfl))))) (by rfl) T.z_isinstance (by decide +kernel) (a_cons (e_var (pv 0)) (a_cons (e_ty (by rfl) T.z_tuple (by decide +kernel)) a_nil))))) (w_one_or (t_not (t_chain o_le o_le e_int (e_blt (c_len rfl) (by rfl) T.z_len (by decide +kernel) (a_cons (e_var (pv 0)) a_nil)) (T.c_MOST_STATES_e (by rfl))))))) (ss_one (s_ret e_bl)) ss_nil)
    (ss_cons (s_if (t_not (t_truth rfl (e_blt (c_all rfl) (by rfl) T.z_all (by decide +kernel) (a_cons (e_lc (own := [("row", 1)]) rfl sc_are_steps.nd (i_seq rfl (e_var (pv 0))) (blkOk_by (N := N_are_steps) (sc := defScope (topS 14)) (by decide +kernel)) (fun _ _ _ _ _ => (g_name sc_are_steps.nd)) (fun _ _ _ _ _ => ts_nil) (fun _ _ _ _ _ => (e_and rfl (e_blt (isi_ty rfl (.inr (.inr (.inr (.inl rfl))))) (by rfl) T.z_isinstance (by decide +kernel) (a_cons (e_var (pv 1)) (a_cons (e_ty (by rfl) T.z_tuple (by decide +kernel)) a_nil))) (e_one (e_chain o_le o_le e_int (e_blt (c_len rfl) (by rfl) T.z_len (by decide +kernel) (a_cons (e_var (pv 1)) a_nil)) (T.c_MOST_COLOURS_e (by rfl))))))) a_nil)))) (ss_one (s_ret e_bl)) ss_nil)
    (ss_cons (s_for rfl (passes_of rfl) (i_seq rfl (e_var (pv 0))) (g_name sc_are_steps.nd)
    (ss_one (s_if (PW.pt (w_or (t_cmp (o_ne rfl hr.units) (e_blt (c_len rfl) (by rfl) T.z_len (by decide +kernel) (a_cons (e_var (pv 1)) a_nil)) (e_blt (c_len rfl) (by rfl) T.z_len (by decide +kernel) (a_cons (e_ix (o_ix rfl) (e_var (pv 0)) e_int) a_nil)) (nomark _)) (w_one_or (t_not (t_truth rfl (e_blt (c_all rfl) (by rfl) T.z_all (by decide +kernel) (a_cons (e_lc (own := [("step", 2)]) rfl sc_are_steps.nd (i_seq rfl (e_var (pv 1))) (blkOk_by (N := N_are_steps) (sc := defScope (topS 14)) (by decide +kernel)) (fun _ _ _ _ _ => (g_name sc_are_steps.nd)) (fun _ _ _ _ _ => ts_nil) (fun _ _ _ _ _ => (e_call (ok_is_step T) hr T.m_is_step T.F_is_step.kp T.B_is_step takes0 (a_cons (e_var (pv 2)) (a_cons (e_blt (c_len rfl) (by rfl) T.z_len (by decide +kernel) (a_cons (e_var (pv 0)) a_nil)) (a_cons (e_blt (c_len rfl) (by rfl) T.z_len (by decide +kernel) (a_cons (e_var (pv 1)) a_nil)) a_nil))) ))) a_nil))))))) (ss_one (s_ret e_bl)) ss_nil)))
    (ss_one (s_ret e_bl)))))
theorem ok_number_in (T : Tx G mg w P) : FnOk P w G.K mg base (L2.CX P w) 1 T.a_number_in T.d_number_in ["word"] (spF G f_number_in) :=
  fn_ok (k := 0) T.F_number_in sc_number_in fun cdv A outer s H E hr =>
    have tk := takes_of (X := cxOf (L2.CX P w) P w G.K mg base N_number_in "number_in" (defScope (topS 21)) T.a_number_in cdv A outer s H E) rfl rfl rfl rfl
    (ss_cons (s_if (PW.pt (w_or (t_not (t_chain o_le o_le e_int (e_blt (c_len rfl) (by rfl) T.z_len (by decide +kernel) (a_cons (e_var (pv 0)) a_nil)) (T.c_MOST_DIGITS_e (by rfl)))) (w_one_or (t_cmp (o_ne rfl hr.units) (e_mt rfl PySem.F.plainAttrs_str PySem.F.slot_str_strip PySem.F.type_str_strip m_strip (e_var (pv 0)) (a_cons (T.c_DIGITS_e (by rfl)) a_nil)) e_str (nomark _))))) (ss_one (s_ret e_non)) ss_nil)
    (ss_one (s_ret (e_if (PW.pt (w_and (t_cmp (o_eq rfl hr.units) (e_ix (o_ix rfl) (e_var (pv 0)) e_int) e_str (nomark _)) (w_one_and (t_cmp (o_ne rfl hr.units) (e_var (pv 0)) e_str (nomark _))))) e_non (e_bty c_int (by rfl) T.z_int (by decide +kernel) (a_cons (e_var (pv 0)) a_nil))))))
theorem ok_is_saying_word (T : Tx G mg w P) : FnOk P w G.K mg base (L2.CX P w) 2 T.a_is_saying_word T.d_is_saying_word ["word"] (spF G f_is_saying_word) :=
  fn_ok (k := 1) T.F_is_saying_word sc_is_saying_word fun cdv A outer s H E hr =>
    have tk := takes_of (X := cxOf (L2.CX P w) P w G.K mg base N_is_saying_word "is_saying_word" (defScope (topS 22)) T.a_is_saying_word cdv A outer s H E) rfl rfl rfl rfl
    (ss_one (s_ret (e_or rfl (e_cmp (o_in rfl) (e_var (pv 0)) (e_tup (a_cons e_str (a_cons e_str a_nil))) (by rfl)) (e_one (e_cmp o_isnot (e_call (ok_number_in T) hr T.m_number_in T.F_number_in.kp T.B_number_in tk (a_cons (e_var (pv 0)) a_nil) ) e_non (nomark _))))))
theorem ok_saying_in (T : Tx G mg w P) : FnOk P w G.K mg base (L2.CX P w) 2 T.a_saying_in T.d_saying_in ["word"] (spF G f_saying_in) :=
  fn_ok (k := 1) T.F_saying_in sc_saying_in fun cdv A outer s H E hr =>
    have tk := takes_of (X := cxOf (L2.CX P w) P w G.K mg base N_saying_in "saying_in" (defScope (topS 23)) T.a_saying_in cdv A outer s H E) rfl rfl rfl rfl
    (ss_cons (s_if (t_cmp (o_eq rfl hr.units) (e_var (pv 0)) e_str (nomark _)) (ss_one (s_ret e_non)) ss_nil)
    (ss_one (s_ret (e_if (t_cmp (o_eq rfl hr.units) (e_var (pv 0)) e_str (nomark _)) (e_var (pv 0)) (e_call (ok_number_in T) hr T.m_number_in T.F_number_in.kp T.B_number_in tk (a_cons (e_var (pv 0)) a_nil) )))))
theorem ok_LineReader_init (T : Tx G mg w P) : FnOk P w G.K mg base (L2.CX P w) 1 T.a_LineReader_init T.d_LineReader_init ["self"] (spF G f_LineReader_init) :=
  fn_ok (k := 0) T.F_LineReader_init sc_LineReader_init fun cdv A outer s H E hr =>
    have tk := takes_of (X := cxOf (L2.CX P w) P w G.K mg base N_LineReader_init "LineReader.__init__" (defScope (inClass (topS 24) 0)) T.a_LineReader_init cdv A outer s H E) rfl rfl rfl rfl
    (ss_cons (s_setF rfl T.fld_read_rows rfl (e_lst a_nil) (e_var (pv 0)))
    (ss_one (s_setF rfl T.fld_last rfl (e_lst a_nil) (e_var (pv 0)))))
theorem ok_LineReader_takes_row (T : Tx G mg w P) : FnOk P w G.K mg base (L2.CX P w) 3 T.a_LineReader_takes_row T.d_LineReader_takes_row ["self", "words"] (spF G f_LineReader_takes_row) :=
  fn_ok (k := 2) T.F_LineReader_takes_row sc_LineReader_takes_row fun cdv A outer s H E hr =>
    have tk := takes_of (X := cxOf (L2.CX P w) P w G.K mg base N_LineReader_takes_row "LineReader.takes_row" (defScope (inClass (topS 24) 2)) T.a_LineReader_takes_row cdv A outer s H E) rfl rfl rfl rfl
    (ss_cons (s_if (t_cmp (o_ne rfl hr.units) (e_bin o_mod (e_blt (c_len rfl) (by rfl) T.z_len (by decide +kernel) (a_cons (e_var (pv 1)) a_nil)) e_int) e_int (nomark _)) (ss_one (s_ret e_bl)) ss_nil)
    (ss_cons (s_set sc_LineReader_takes_row.nd (e_lst a_nil))
    (ss_cons (s_for rfl (passes_of rfl) (i_range3 T.z_range (a_cons e_int (a_cons (e_blt (c_len rfl) (by rfl) T.z_len (by decide +kernel) (a_cons (e_var (pv 1)) a_nil)) (a_cons e_int a_nil)))) (g_name sc_LineReader_takes_row.nd)
    (ss_cons (s_asg (e_sl rfl (e_var (pv 1)) (p_some (e_var (pv 3))) (p_some (e_bin (o_add rfl) (e_var (pv 3)) e_int))) (g_tup rfl rfl (gs_cons (g_name sc_LineReader_takes_row.nd) (gs_cons (g_name sc_LineReader_takes_row.nd) (gs_cons (g_name sc_LineReader_takes_row.nd) gs_nil)))))
    (ss_cons (s_if (PW.pt (w_or (t_cmp o_is (e_call (ok_number_in T) hr T.m_number_in T.F_number_in.kp T.B_number_in tk (a_cons (e_var (pv 4)) a_nil) ) e_non (nomark _)) (w_or (t_cmp o_is (e_call (ok_number_in T) hr T.m_number_in T.F_number_in.kp T.B_number_in tk (a_cons (e_var (pv 5)) a_nil) ) e_non (nomark _)) (w_one_or (t_not (t_truth rfl (e_call (ok_is_saying_word T) hr T.m_is_saying_word T.F_is_saying_word.kp T.B_is_saying_word tk (a_cons (e_var (pv 6)) a_nil) ))))))) (ss_one (s_ret e_bl)) ss_nil)
    (ss_one (s_expr (e_mt rfl PySem.F.plainAttrs_list PySem.F.slot_list_append PySem.F.type_list_append m_append (e_var (pv 2)) (a_cons (e_tup (a_cons (e_call (ok_number_in T) hr T.m_number_in T.F_number_in.kp T.B_number_in tk (a_cons (e_var (pv 4)) a_nil) ) (a_cons (e_call (ok_number_in T) hr T.m_number_in T.F_number_in.kp T.B_number_in tk (a_cons (e_var (pv 5)) a_nil) ) (a_cons (e_call (ok_saying_in T) hr T.m_saying_in T.F_saying_in.kp T.B_saying_in tk (a_cons (e_var (pv 6)) a_nil) ) a_nil)))) a_nil)))))))
    (ss_cons (s_expr (e_mt rfl PySem.F.plainAttrs_list PySem.F.slot_list_append PySem.F.type_list_append m_append (e_fld rfl T.fld_read_rows rfl (e_var (pv 0))) (a_cons (e_bty (c_tuple rfl) (by rfl) T.z_tuple (by decide +kernel) (a_cons (e_var (pv 2)) a_nil)) a_nil)))
    (ss_one (s_ret e_bl))))))
theorem ok_LineReader_takes (T : Tx G mg w P) : FnOk P w G.K mg base (L2.CX P w) 4 T.a_LineReader_takes T.d_LineReader_takes ["self", "words"] (spF G f_LineReader_takes) :=
  fn_ok (k := 3) T.F_LineReader_takes sc_LineReader_takes fun cdv A outer s H E hr =>
    have tk := takes_of (X := cxOf (L2.CX P w) P w G.K mg base N_LineReader_takes "LineReader.takes" (defScope (inClass (topS 24) 1)) T.a_LineReader_takes cdv A outer s H E) rfl rfl rfl rfl
    (ss_cons (s_if (PW.pt (w_and (t_cmp (o_eq rfl hr.units) (e_ix (o_ix rfl) (e_var (pv 1)) e_int) e_str (nomark _)) (w_one_and (t_cmp (o_eq rfl hr.units) (e_blt (c_len rfl) (by rfl) T.z_len (by decide +kernel) (a_cons (e_fld rfl T.fld_last rfl (e_var (pv 0))) a_nil)) e_int (nomark _))))) (ss_one (s_ret (e_meth rfl (e_var (pv 0)) T.cls_LineReader T.me_LineReader_takes_row (ok_LineReader_takes_row T) hr T.B_LineReader_takes_row tk (a_cons (e_sl rfl (e_var (pv 1)) (p_some e_int) p_none) a_nil) ))) ss_nil)
    (ss_cons (s_if (PW.pt (w_or (t_cmp (o_eq rfl hr.units) (e_blt (c_len rfl) (by rfl) T.z_len (by decide +kernel) (a_cons (e_fld rfl T.fld_read_rows rfl (e_var (pv 0))) a_nil)) e_int (nomark _)) (w_or (t_cmp (o_eq rfl hr.units) (e_blt (c_len rfl) (by rfl) T.z_len (by decide +kernel) (a_cons (e_fld rfl T.fld_last rfl (e_var (pv 0))) a_nil)) (e_blt (c_len rfl) (by rfl) T.z_len (by decide +kernel) (a_cons (T.c_HEADS_e (by rfl)) a_nil)) (nomark _)) (w_one_or (t_cmp (o_ne rfl hr.units) (e_ix (o_ix rfl) (e_var (pv 1)) e_int) (e_ix (o_ix rfl) (T.c_HEADS_e (by rfl)) (e_blt (c_len rfl) (by rfl) T.z_len (by decide +kernel) (a_cons (e_fld rfl T.fld_last rfl (e_var (pv 0))) a_nil))) (nomark _)))))) (ss_one (s_ret e_bl)) ss_nil)
    (ss_cons (s_if (t_cmp (o_eq rfl hr.units) (e_ix (o_ix rfl) (e_var (pv 1)) e_int) e_str (nomark _)) (ss_cons (s_expr (e_mt rfl PySem.F.plainAttrs_list PySem.F.slot_list_append PySem.F.type_list_append m_append (e_fld rfl T.fld_last rfl (e_var (pv 0))) (a_cons e_non a_nil)))
    (ss_one (s_ret (e_cmp (o_eq rfl hr.units) (e_blt (c_len rfl) (by rfl) T.z_len (by decide +kernel) (a_cons (e_var (pv 1)) a_nil)) e_int (nomark _))))) ss_nil)
    (ss_cons (s_if (t_cmp (o_ne rfl hr.units) (e_blt (c_len rfl) (by rfl) T.z_len (by decide +kernel) (a_cons (e_var (pv 1)) a_nil)) e_int (nomark _)) (ss_one (s_ret e_bl)) ss_nil)
    (ss_cons (s_set sc_LineReader_takes.nd (e_cmp (o_eq rfl hr.units) (e_ix (o_ix rfl) (e_var (pv 1)) e_int) (T.get_OPEN_e (by rfl) (e_ix (o_ix rfl) (e_var (pv 1)) e_int)) (nomark _)))
    (ss_cons (s_expr (e_mt rfl PySem.F.plainAttrs_list PySem.F.slot_list_append PySem.F.type_list_append m_append (e_fld rfl T.fld_last rfl (e_var (pv 0))) (a_cons (e_if (t_truth rfl (e_var (pv 2))) e_non (e_call (ok_number_in T) hr T.m_number_in T.F_number_in.kp T.B_number_in tk (a_cons (e_ix (o_ix rfl) (e_var (pv 1)) e_int) a_nil) )) a_nil)))
    (ss_one (s_ret (e_or rfl (e_var (pv 2)) (e_one (e_cmp o_isnot (e_ix (o_ix rfl) (e_fld rfl T.fld_last rfl (e_var (pv 0))) (e_un o_neg e_int)) e_non (nomark _))))))))))))
theorem ok_Program_init (T : Tx G mg w P) : FnOk P w G.K mg base (L2.CX P w) 6 T.a_Program_init T.d_Program_init ["self", "steps", "first", "leader", "lamp"] (spF G f_Program_init) :=
  fn_ok (k := 5) T.F_Program_init sc_Program_init fun cdv A outer s H E hr =>
    have tk := takes_of (X := cxOf (L2.CX P w) P w G.K mg base N_Program_init "Program.__init__" (defScope (inClass (topS 15) 0)) T.a_Program_init cdv A outer s H E) rfl rfl rfl rfl
    (ss_cons (s_if (t_not (t_truth rfl (e_call (ok_are_steps T) hr T.m_are_steps T.F_are_steps.kp T.B_are_steps tk (a_cons (e_var (pv 1)) a_nil) ))) (ss_one (s_raise1 rfl T.ex_BadProgram.at rfl tk hr T.m_BadProgram (a_cons e_str a_nil))) ss_nil)
    (ss_cons (s_if (t_not (t_truth rfl (e_call (ok_is_within T) hr T.m_is_within T.F_is_within.kp T.B_is_within tk (a_cons (e_var (pv 2)) (a_cons e_int (a_cons (e_bin o_sub (e_blt (c_len rfl) (by rfl) T.z_len (by decide +kernel) (a_cons (e_var (pv 1)) a_nil)) e_int) a_nil))) ))) (ss_one (s_raise1 rfl T.ex_BadProgram.at rfl tk hr T.m_BadProgram (a_cons e_str a_nil))) ss_nil)
    (ss_cons (s_if (PW.pt (w_and (t_cmp o_isnot (e_var (pv 3)) e_non (nomark _)) (w_one_and (t_not (t_truth rfl (e_call (ok_is_within T) hr T.m_is_within T.F_is_within.kp T.B_is_within tk (a_cons (e_var (pv 3)) (a_cons e_int (a_cons (e_bin o_sub (e_blt (c_len rfl) (by rfl) T.z_len (by decide +kernel) (a_cons (e_var (pv 1)) a_nil)) e_int) a_nil))) )))))) (ss_one (s_raise1 rfl T.ex_BadProgram.at rfl tk hr T.m_BadProgram (a_cons e_str a_nil))) ss_nil)
    (ss_cons (s_if (PW.pt (w_and (t_cmp o_isnot (e_var (pv 4)) e_non (nomark _)) (w_one_and (t_not (t_truth rfl (e_call (ok_is_within T) hr T.m_is_within T.F_is_within.kp T.B_is_within tk (a_cons (e_var (pv 4)) (a_cons e_int (a_cons (e_bin o_sub (e_blt (c_len rfl) (by rfl) T.z_len (by decide +kernel) (a_cons (e_ix (o_ix rfl) (e_var (pv 1)) e_int) a_nil)) e_int) a_nil))) )))))) (ss_one (s_raise1 rfl T.ex_BadProgram.at rfl tk hr T.m_BadProgram (a_cons e_str a_nil))) ss_nil)
    (ss_cons (s_setF rfl T.fld_steps rfl (e_var (pv 1)) (e_var (pv 0)))
    (ss_cons (s_setF rfl T.fld_first rfl (e_var (pv 2)) (e_var (pv 0)))
    (ss_cons (s_setF rfl T.fld_leader rfl (e_var (pv 3)) (e_var (pv 0)))
    (ss_one (s_setF rfl T.fld_lamp rfl (e_var (pv 4)) (e_var (pv 0)))))))))))
theorem ok_read_program (T : Tx G mg w P) : FnOk P w G.K mg base (L2.CX P w) 8 T.a_read_program T.d_read_program ["text"] (spF G f_read_program) :=
  fn_ok (k := 7) T.F_read_program sc_read_program fun cdv A outer s H E hr =>
    have tk := takes_of (X := cxOf (L2.CX P w) P w G.K mg base N_read_program "read_program" (defScope (topS 25)) T.a_read_program cdv A outer s H E) rfl rfl rfl rfl
    (ss_cons (s_if (t_not (t_truth rfl (e_blt (isi_ty rfl (.inr (.inr (.inl rfl)))) (by rfl) T.z_isinstance (by decide +kernel) (a_cons (e_var (pv 0)) (a_cons (e_ty (by rfl) T.z_str (by decide +kernel)) a_nil))))) (ss_one (s_raise2 rfl rfl T.ex_BadText.at rfl tk hr T.m_BadText (a_cons e_int (a_cons e_str a_nil)))) ss_nil)
    (ss_cons (s_set sc_read_program.nd (e_mt rfl PySem.F.plainAttrs_str PySem.F.slot_str_split PySem.F.type_str_split m_split (e_var (pv 0)) (a_cons e_str a_nil)))
    (ss_cons (s_set sc_read_program.nd (e_make0 T.mk_LineReader (ok_LineReader_init T) hr T.m_LineReader T.B_LineReader_init tk ))
    (ss_cons (s_for rfl (passes_of rfl) (i_enumX rfl T.z_enumerate (a_cons (e_var (pv 1)) a_nil)) (g_tup rfl rfl (gs_cons (g_name sc_read_program.nd) (gs_cons (g_name sc_read_program.nd) gs_nil)))
    (ss_cons (s_set sc_read_program.nd (e_mt rfl PySem.F.plainAttrs_str PySem.F.slot_str_split PySem.F.type_str_split m_split (e_var (pv 4)) (a_cons e_str a_nil)))
    (ss_one (s_if (t_cmp (o_eq rfl hr.units) (e_var (pv 3)) (e_bin o_sub (e_blt (c_len rfl) (by rfl) T.z_len (by decide +kernel) (a_cons (e_var (pv 1)) a_nil)) e_int) (nomark _)) (ss_one (s_if (t_cmp (o_ne rfl hr.units) (e_var (pv 4)) e_str (nomark _)) (ss_one (s_raise2 rfl rfl T.ex_BadText.at rfl tk hr T.m_BadText (a_cons (e_var (pv 3)) (a_cons e_str a_nil)))) ss_nil)) (ss_one (s_if (t_cmp (o_in rfl) e_str (e_var (pv 5)) (by rfl)) (ss_one (s_raise2 rfl rfl T.ex_BadText.at rfl tk hr T.m_BadText (a_cons (e_var (pv 3)) (a_cons e_str a_nil)))) (ss_one (s_if (t_not (t_truth rfl (e_meth rfl (e_var (pv 2)) T.cls_LineReader T.me_LineReader_takes (ok_LineReader_takes T) hr T.B_LineReader_takes tk (a_cons (e_var (pv 5)) a_nil) ))) (ss_one (s_raise2 rfl rfl T.ex_BadText.at rfl tk hr T.m_BadText (a_cons (e_var (pv 3)) (a_cons e_str a_nil)))) ss_nil))))))))
    (ss_cons (s_if (t_cmp o_lt (e_blt (c_len rfl) (by rfl) T.z_len (by decide +kernel) (a_cons (e_fld rfl T.fld_last rfl (e_var (pv 2))) a_nil)) (e_blt (c_len rfl) (by rfl) T.z_len (by decide +kernel) (a_cons (T.c_HEADS_e (by rfl)) a_nil)) (nomark _)) (ss_one (s_raise2 rfl rfl T.ex_BadText.at rfl tk hr T.m_BadText (a_cons (e_bin o_sub (e_blt (c_len rfl) (by rfl) T.z_len (by decide +kernel) (a_cons (e_var (pv 1)) a_nil)) e_int) (a_cons e_str a_nil)))) ss_nil)
    (ss_cons (s_asg (e_sl rfl (e_fld rfl T.fld_last rfl (e_var (pv 2))) p_none (p_some e_int)) (g_tup rfl rfl (gs_cons (g_name sc_read_program.nd) (gs_cons (g_name sc_read_program.nd) (gs_cons (g_name sc_read_program.nd) gs_nil)))))
    (ss_one (s_ret (e_make T.mk_Program (ok_Program_init T) hr T.m_Program T.B_Program_init tk (a_cons (e_bty (c_tuple rfl) (by rfl) T.z_tuple (by decide +kernel) (a_cons (e_fld rfl T.fld_read_rows rfl (e_var (pv 2))) a_nil)) (a_cons (e_var (pv 6)) (a_cons (e_var (pv 7)) (a_cons (e_var (pv 8)) a_nil)))) )))))))))
theorem ok__law_pot (T : Tx G mg w P) : FnOk P w G.K mg base (L2.CX P w) 1 T.a__law_pot T.d__law_pot ["script"] (spF G f__law_pot) :=
  fn_ok (k := 0) T.F__law_pot sc__law_pot fun cdv A outer s H E hr =>
    have tk := takes_of (X := cxOf (L2.CX P w) P w G.K mg base N__law_pot "_law_pot" (defScope (topS 27)) T.a__law_pot cdv A outer s H E) rfl rfl rfl rfl
    (ss_one (s_ret (e_lst (a_cons (e_lc (own := [("cell", 1)]) rfl sc__law_pot.nd (i_seq rfl (e_sl rfl (e_var (pv 0)) p_none (p_some e_int))) (blkOk_by (N := N__law_pot) (sc := defScope (topS 27)) (by decide +kernel)) (fun _ _ _ _ _ => (g_name sc__law_pot.nd)) (fun _ _ _ _ _ => ts_nil) (fun _ _ _ _ _ => (e_blt c_abs (by rfl) T.z_abs (by decide +kernel) (a_cons (e_var (pv 1)) a_nil)))) (a_cons e_int (a_cons e_int (a_cons e_int a_nil)))))))
theorem ok__law_draw (T : Tx G mg w P) : FnOk P w G.K mg base (L2.CX P w) 1 T.a__law_draw T.d__law_draw ["pot", "many"] (spF G f__law_draw) :=
  fn_ok (k := 0) T.F__law_draw sc__law_draw fun cdv A outer s H E hr =>
    have tk := takes_of (X := cxOf (L2.CX P w) P w G.K mg base N__law_draw "_law_draw" (defScope (topS 28)) T.a__law_draw cdv A outer s H E) rfl rfl rfl rfl
    (ss_cons (s_if (t_cmp o_lt (e_var (pv 1)) e_int (nomark _)) (ss_one (s_ret e_int)) ss_nil)
    (ss_cons (s_if (t_cmp o_gt (e_ix (o_ix rfl) (e_var (pv 0)) e_int) e_int (nomark _)) (ss_cons (s_set sc__law_draw.nd (e_bin o_mod (e_bty c_int (by rfl) T.z_int (by decide +kernel) (a_cons (e_ix (o_ix rfl) (e_var (pv 0)) e_int) a_nil)) (e_var (pv 1))))
    (ss_cons (s_setIx (e_bin o_div (e_ix (o_ix rfl) (e_var (pv 0)) e_int) (e_var (pv 1))) (e_var (pv 0)) e_int)
    (ss_one (s_ret (e_var (pv 2)))))) ss_nil)
    (ss_cons (s_set sc__law_draw.nd e_int)
    (ss_cons (s_if (t_cmp o_lt (e_ix (o_ix rfl) (e_var (pv 0)) e_int) (e_blt (c_len rfl) (by rfl) T.z_len (by decide +kernel) (a_cons (e_ix (o_ix rfl) (e_var (pv 0)) e_int) a_nil)) (nomark _)) (ss_cons (s_set sc__law_draw.nd (e_ix (o_ix rfl) (e_ix (o_ix rfl) (e_var (pv 0)) e_int) (e_ix (o_ix rfl) (e_var (pv 0)) e_int)))
    (ss_cons (s_setIx (e_bin (o_add rfl) (e_ix (o_ix rfl) (e_var (pv 0)) e_int) e_int) (e_var (pv 0)) e_int)
    (ss_one (s_if (t_cmp o_ge (e_var (pv 3)) (e_bin o_pow e_int e_int) (nomark _)) (ss_cons (s_setIx (e_bin o_div (e_var (pv 3)) (e_var (pv 1))) (e_var (pv 0)) e_int)
    (ss_one (s_ret (e_bin o_mod (e_bty c_int (by rfl) T.z_int (by decide +kernel) (a_cons (e_var (pv 3)) a_nil)) (e_var (pv 1)))))) ss_nil)))) ss_nil)
    (ss_cons (s_setIx (e_bin o_mod (e_bty c_int (by rfl) T.z_int (by decide +kernel) (a_cons (e_bin (o_add rfl) (e_bin (o_add rfl) (e_bin (o_mulY rfl) (e_ix (o_ix rfl) (e_var (pv 0)) e_int) e_int) (e_var (pv 3))) e_int) a_nil)) e_int) (e_var (pv 0)) e_int)
    (ss_one (s_ret (e_bin o_mod (e_bty c_int (by rfl) T.z_int (by decide +kernel) (a_cons (e_bin (o_add rfl) (e_bin o_div (e_bin (o_mulY rfl) (e_ix (o_ix rfl) (e_var (pv 0)) e_int) (e_ix (o_ix rfl) (e_var (pv 0)) e_int)) e_int) (e_bin o_div (e_ix (o_ix rfl) (e_var (pv 0)) e_int) e_int)) a_nil)) (e_var (pv 1))))))))))
theorem ok__law_pick (T : Tx G mg w P) : FnOk P w G.K mg base (L2.CX P w) 2 T.a__law_pick T.d__law_pick ["pot", "row"] (spF G f__law_pick) :=
  fn_ok (k := 1) T.F__law_pick sc__law_pick fun cdv A outer s H E hr =>
    have tk := takes_of (X := cxOf (L2.CX P w) P w G.K mg base N__law_pick "_law_pick" (defScope (topS 29)) T.a__law_pick cdv A outer s H E) rfl rfl rfl rfl
    (ss_one (s_ret (e_ix (o_ix rfl) (e_var (pv 1)) (e_call (ok__law_draw T) hr T.m__law_draw T.F__law_draw.kp T.B__law_draw tk (a_cons (e_var (pv 0)) (a_cons (e_blt (c_len rfl) (by rfl) T.z_len (by decide +kernel) (a_cons (e_var (pv 1)) a_nil)) a_nil)) ))))
theorem ok__law_same (T : Tx G mg w P) : ∀ n, FnOk P w G.K mg base (L2.CX P w) (1 + n) T.a__law_same T.d__law_same ["found", "due"] (spF G (f__law_same n)) := by
  intro n
  induction n with
  | zero => exact ⟨fun _ _ _ _ ⟨_, _, _, _, _, q⟩ => q.elim, fun _ _ _ _ _ _ _ _ _ _ _ _ _ ⟨_, _, _, _, _, q⟩ => q.elim⟩
  | succ n ih =>
    have hrec : 1 + n ≤ 1 + n := Nat.le_refl _
    refine fn_ok (k := 1 + n) T.F__law_same sc__law_same fun cdv A outer s H E hr => ?_
    have tk := takes_of (X := cxOf (L2.CX P w) P w G.K mg base N__law_same "_law_same" (defScope (topS 30)) T.a__law_same cdv A outer s H E) rfl rfl rfl rfl
    exact
    (ss_cons (s_if (PW.pt (w_or (t_truth rfl (e_blt (isi_ty rfl (.inr (.inr (.inr (.inl rfl))))) (by rfl) T.z_isinstance (by decide +kernel) (a_cons (e_var (pv 1)) (a_cons (e_ty (by rfl) T.z_tuple (by decide +kernel)) a_nil)))) (w_one_or (t_truth rfl (e_blt (isi_ty rfl (.inr (.inr (.inr (.inr (rfl)))))) (by rfl) T.z_isinstance (by decide +kernel) (a_cons (e_var (pv 1)) (a_cons (e_ty (by rfl) T.z_list (by decide +kernel)) a_nil))))))) (ss_cons (s_if (PW.pt (w_or (t_cmp (o_ne rfl hr.units) (e_blt (isi_ty rfl (.inr (.inr (.inr (.inl rfl))))) (by rfl) T.z_isinstance (by decide +kernel) (a_cons (e_var (pv 1)) (a_cons (e_ty (by rfl) T.z_tuple (by decide +kernel)) a_nil))) (e_blt (isi_ty rfl (.inr (.inr (.inr (.inl rfl))))) (by rfl) T.z_isinstance (by decide +kernel) (a_cons (e_var (pv 0)) (a_cons (e_ty (by rfl) T.z_tuple (by decide +kernel)) a_nil))) (nomark _)) (w_one_or (t_cmp (o_ne rfl hr.units) (e_blt (isi_ty rfl (.inr (.inr (.inr (.inr (rfl)))))) (by rfl) T.z_isinstance (by decide +kernel) (a_cons (e_var (pv 1)) (a_cons (e_ty (by rfl) T.z_list (by decide +kernel)) a_nil))) (e_blt (isi_ty rfl (.inr (.inr (.inr (.inr (rfl)))))) (by rfl) T.z_isinstance (by decide +kernel) (a_cons (e_var (pv 0)) (a_cons (e_ty (by rfl) T.z_list (by decide +kernel)) a_nil))) (nomark _))))) (ss_one (s_ret e_bl)) ss_nil)
    (ss_cons (s_if (t_cmp (o_ne rfl hr.units) (e_blt (c_len rfl) (by rfl) T.z_len (by decide +kernel) (a_cons (e_var (pv 0)) a_nil)) (e_blt (c_len rfl) (by rfl) T.z_len (by decide +kernel) (a_cons (e_var (pv 1)) a_nil)) (nomark _)) (ss_one (s_ret e_bl)) ss_nil)
    (ss_one (s_ret (e_cmp (o_eqE hr.units) (e_lc (own := [("k", 2)]) rfl sc__law_same.nd (i_range1 T.z_range (a_cons (e_blt (c_len rfl) (by rfl) T.z_len (by decide +kernel) (a_cons (e_var (pv 1)) a_nil)) a_nil)) (blkOk_by (N := N__law_same) (sc := defScope (topS 30)) (by decide +kernel)) (fun _ _ _ _ _ => (g_name sc__law_same.nd)) (fun _ _ _ _ _ => (ts_one (t_not (t_truth rfl (e_call ih hr T.m__law_same T.F__law_same.kp T.B__law_same takes0 (a_cons (e_ix (o_ix rfl) (e_var (pv 0)) (e_var (pv 2))) (a_cons (e_ix (o_ix rfl) (e_var (pv 1)) (e_var (pv 2))) a_nil)) hrec))))) (fun _ _ _ _ _ => (e_var (pv 2)))) (e_lst a_nil) (nomark _)))))) ss_nil)
    (ss_cons (s_if (t_cmp o_is (e_var (pv 1)) e_non (nomark _)) (ss_one (s_ret (e_cmp o_is (e_var (pv 0)) e_non (nomark _)))) ss_nil)
    (ss_cons (s_if (t_truth rfl (e_blt (isi_ty rfl (.inr (.inr (.inl rfl)))) (by rfl) T.z_isinstance (by decide +kernel) (a_cons (e_var (pv 1)) (a_cons (e_ty (by rfl) T.z_str (by decide +kernel)) a_nil)))) (ss_one (s_ret (e_and rfl (e_blt (isi_ty rfl (.inr (.inr (.inl rfl)))) (by rfl) T.z_isinstance (by decide +kernel) (a_cons (e_var (pv 0)) (a_cons (e_ty (by rfl) T.z_str (by decide +kernel)) a_nil))) (e_one (e_cmp (o_eq rfl hr.units) (e_var (pv 0)) (e_var (pv 1)) (nomark _)))))) ss_nil)
    (ss_one (s_ret (e_and rfl (e_blt (isi_ty rfl (.inl rfl)) (by rfl) T.z_isinstance (by decide +kernel) (a_cons (e_var (pv 0)) (a_cons (e_ty (by rfl) T.z_int (by decide +kernel)) a_nil))) (e_and rfl (e_cmp (o_eq rfl hr.units) (e_blt (isi_ty rfl (.inr (.inl rfl))) (by rfl) T.z_isinstance (by decide +kernel) (a_cons (e_var (pv 0)) (a_cons (e_ty (by rfl) T.z_bool (by decide +kernel)) a_nil))) (e_blt (isi_ty rfl (.inr (.inl rfl))) (by rfl) T.z_isinstance (by decide +kernel) (a_cons (e_var (pv 1)) (a_cons (e_ty (by rfl) T.z_bool (by decide +kernel)) a_nil))) (nomark _)) (e_one (e_cmp (o_eq rfl hr.units) (e_var (pv 0)) (e_var (pv 1)) (nomark _))))))))))
theorem ok__law_within (T : Tx G mg w P) : FnOk P w G.K mg base (L2.CX P w) 1 T.a__law_within T.d__law_within ["thing", "low", "high"] (spF G f__law_within) :=
  fn_ok (k := 0) T.F__law_within sc__law_within fun cdv A outer s H E hr =>
    have tk := takes_of (X := cxOf (L2.CX P w) P w G.K mg base N__law_within "_law_within" (defScope (topS 31)) T.a__law_within cdv A outer s H E) rfl rfl rfl rfl
    (ss_one (s_ret (e_and rfl (e_blt (isi_ty rfl (.inl rfl)) (by rfl) T.z_isinstance (by decide +kernel) (a_cons (e_var (pv 0)) (a_cons (e_ty (by rfl) T.z_int (by decide +kernel)) a_nil))) (e_and rfl (e_not rfl (e_blt (isi_ty rfl (.inr (.inl rfl))) (by rfl) T.z_isinstance (by decide +kernel) (a_cons (e_var (pv 0)) (a_cons (e_ty (by rfl) T.z_bool (by decide +kernel)) a_nil)))) (e_one (e_chain o_le o_le (e_var (pv 1)) (e_var (pv 0)) (e_var (pv 2))))))))
theorem ok__law_saying (T : Tx G mg w P) : FnOk P w G.K mg base (L2.CX P w) 3 T.a__law_saying T.d__law_saying ["pot"] (spF G f__law_saying) :=
  fn_ok (k := 2) T.F__law_saying sc__law_saying fun cdv A outer s H E hr =>
    have tk := takes_of (X := cxOf (L2.CX P w) P w G.K mg base N__law_saying "_law_saying" (defScope (topS 32)) T.a__law_saying cdv A outer s H E) rfl rfl rfl rfl
    (ss_one (s_ret (e_call (ok__law_pick T) hr T.m__law_pick T.F__law_pick.kp T.B__law_pick tk (a_cons (e_var (pv 0)) (a_cons (e_lst (a_cons e_non (a_cons e_non (a_cons e_non (a_cons e_non (a_cons e_int (a_cons e_int (a_cons e_int (a_cons e_int (a_cons e_str a_nil)))))))))) a_nil)) )))
theorem ok__law_spec (T : Tx G mg w P) : FnOk P w G.K mg base (L2.CX P w) 4 T.a__law_spec T.d__law_spec ["pot", "most"] (spF G f__law_spec) :=
  fn_ok (k := 3) T.F__law_spec sc__law_spec fun cdv A outer s H E hr =>
    have tk := takes_of (X := cxOf (L2.CX P w) P w G.K mg base N__law_spec "_law_spec" (defScope (topS 33)) T.a__law_spec cdv A outer s H E) rfl rfl rfl rfl
    (ss_cons (s_par rfl sc__law_spec.nd (a_cons (e_bin (o_add rfl) e_int (e_call (ok__law_draw T) hr T.m__law_draw T.F__law_draw.kp T.B__law_draw tk (a_cons (e_var (pv 0)) (a_cons (e_ix (o_ix rfl) (e_var (pv 1)) e_int) a_nil)) )) (a_cons (e_bin (o_add rfl) e_int (e_call (ok__law_draw T) hr T.m__law_draw T.F__law_draw.kp T.B__law_draw tk (a_cons (e_var (pv 0)) (a_cons (e_ix (o_ix rfl) (e_var (pv 1)) e_int) a_nil)) )) a_nil)))
    (ss_cons (s_set sc__law_spec.nd (e_lst a_nil))
    (ss_cons (s_for rfl (passes_of rfl) (i_range1 T.z_range (a_cons (e_var (pv 2)) a_nil)) (g_name sc__law_spec.nd)
    (ss_cons (s_set sc__law_spec.nd (e_lst a_nil))
    (ss_cons (s_for rfl (passes_of rfl) (i_range1 T.z_range (a_cons (e_var (pv 3)) a_nil)) (g_name sc__law_spec.nd)
    (ss_one (s_expr (e_mt rfl PySem.F.plainAttrs_list PySem.F.slot_list_append PySem.F.type_list_append m_append (e_var (pv 6)) (a_cons (e_tup (a_cons (e_call (ok__law_draw T) hr T.m__law_draw T.F__law_draw.kp T.B__law_draw tk (a_cons (e_var (pv 0)) (a_cons (e_var (pv 2)) a_nil)) ) (a_cons (e_call (ok__law_draw T) hr T.m__law_draw T.F__law_draw.kp T.B__law_draw tk (a_cons (e_var (pv 0)) (a_cons (e_var (pv 3)) a_nil)) ) (a_cons (e_call (ok__law_saying T) hr T.m__law_saying T.F__law_saying.kp T.B__law_saying tk (a_cons (e_var (pv 0)) a_nil) ) a_nil)))) a_nil)))))
    (ss_one (s_expr (e_mt rfl PySem.F.plainAttrs_list PySem.F.slot_list_append PySem.F.type_list_append m_append (e_var (pv 4)) (a_cons (e_bty (c_tuple rfl) (by rfl) T.z_tuple (by decide +kernel) (a_cons (e_var (pv 6)) a_nil)) a_nil)))))))
    (ss_cons (s_set sc__law_spec.nd (e_call (ok__law_pick T) hr T.m__law_pick T.F__law_pick.kp T.B__law_pick tk (a_cons (e_var (pv 0)) (a_cons (e_lst (a_cons e_non (a_cons e_non (a_cons (e_call (ok__law_draw T) hr T.m__law_draw T.F__law_draw.kp T.B__law_draw tk (a_cons (e_var (pv 0)) (a_cons (e_var (pv 2)) a_nil)) ) a_nil)))) a_nil)) ))
    (ss_one (s_ret (e_lst (a_cons (e_bty (c_tuple rfl) (by rfl) T.z_tuple (by decide +kernel) (a_cons (e_var (pv 4)) a_nil)) (a_cons (e_call (ok__law_draw T) hr T.m__law_draw T.F__law_draw.kp T.B__law_draw tk (a_cons (e_var (pv 0)) (a_cons (e_var (pv 2)) a_nil)) ) (a_cons (e_var (pv 8)) (a_cons (e_call (ok__law_pick T) hr T.m__law_pick T.F__law_pick.kp T.B__law_pick tk (a_cons (e_var (pv 0)) (a_cons (e_lst (a_cons e_non (a_cons (e_call (ok__law_draw T) hr T.m__law_draw T.F__law_draw.kp T.B__law_draw tk (a_cons (e_var (pv 0)) (a_cons (e_var (pv 3)) a_nil)) ) (a_cons (e_call (ok__law_draw T) hr T.m__law_draw T.F__law_draw.kp T.B__law_draw tk (a_cons (e_var (pv 0)) (a_cons (e_var (pv 3)) a_nil)) ) a_nil)))) a_nil)) ) a_nil)))))))))))
theorem ok__law_is_word (T : Tx G mg w P) : FnOk P w G.K mg base (L2.CX P w) 2 T.a__law_is_word T.d__law_is_word ["thing"] (spF G f__law_is_word) :=
  fn_ok (k := 1) T.F__law_is_word sc__law_is_word fun cdv A outer s H E hr =>
    have tk := takes_of (X := cxOf (L2.CX P w) P w G.K mg base N__law_is_word "_law_is_word" (defScope (topS 34)) T.a__law_is_word cdv A outer s H E) rfl rfl rfl rfl
    (ss_one (s_ret (e_or rfl (e_call (ok__law_within T) hr T.m__law_within T.F__law_within.kp T.B__law_within tk (a_cons (e_var (pv 0)) (a_cons e_int (a_cons e_int a_nil))) ) (e_one (e_and rfl (e_blt (isi_ty rfl (.inr (.inr (.inl rfl)))) (by rfl) T.z_isinstance (by decide +kernel) (a_cons (e_var (pv 0)) (a_cons (e_ty (by rfl) T.z_str (by decide +kernel)) a_nil))) (e_one (e_cmp (o_eq rfl hr.units) (e_var (pv 0)) e_str (nomark _))))))))
theorem ok__law_fault (T : Tx G mg w P) : FnOk P w G.K mg base (L2.CX P w) 3 T.a__law_fault T.d__law_fault ["spec"] (spF G f__law_fault) :=
  fn_ok (k := 2) T.F__law_fault sc__law_fault fun cdv A outer s H E hr =>
    have tk := takes_of (X := cxOf (L2.CX P w) P w G.K mg base N__law_fault "_law_fault" (defScope (topS 35)) T.a__law_fault cdv A outer s H E) rfl rfl rfl rfl
    (ss_cons (s_set sc__law_fault.nd (e_ix (o_ix rfl) (e_var (pv 0)) e_int))
    (ss_cons (s_if (PW.pt (w_or (t_not (t_truth rfl (e_blt (isi_ty rfl (.inr (.inr (.inr (.inl rfl))))) (by rfl) T.z_isinstance (by decide +kernel) (a_cons (e_var (pv 1)) (a_cons (e_ty (by rfl) T.z_tuple (by decide +kernel)) a_nil))))) (w_or (t_not (t_chain o_le o_le e_int (e_blt (c_len rfl) (by rfl) T.z_len (by decide +kernel) (a_cons (e_var (pv 1)) a_nil)) e_int)) (w_one_or (t_cmp (o_neE hr.units) (e_lc (own := [("row", 2)]) rfl sc__law_fault.nd (i_seq rfl (e_var (pv 1))) (blkOk_by (N := N__law_fault) (sc := defScope (topS 35)) (by decide +kernel)) (fun _ _ _ _ _ => (g_name sc__law_fault.nd)) (fun _ _ _ _ _ => (ts_one (t_not (t_truth rfl (e_blt (isi_ty rfl (.inr (.inr (.inr (.inl rfl))))) (by rfl) T.z_isinstance (by decide +kernel) (a_cons (e_var (pv 2)) (a_cons (e_ty (by rfl) T.z_tuple (by decide +kernel)) a_nil))))))) (fun _ _ _ _ _ => (e_var (pv 2)))) (e_lst a_nil) (nomark _)))))) (ss_one (s_ret e_str)) ss_nil)
    (ss_cons (s_if (PW.pt (w_or (t_not (t_chain o_le o_le e_int (e_blt (c_len rfl) (by rfl) T.z_len (by decide +kernel) (a_cons (e_ix (o_ix rfl) (e_var (pv 1)) e_int) a_nil)) e_int)) (w_one_or (t_cmp (o_neE hr.units) (e_lc (own := [("row", 2)]) rfl sc__law_fault.nd (i_seq rfl (e_var (pv 1))) (blkOk_by (N := N__law_fault) (sc := defScope (topS 35)) (by decide +kernel)) (fun _ _ _ _ _ => (g_name sc__law_fault.nd)) (fun _ _ _ _ _ => (ts_one (t_cmp (o_ne rfl hr.units) (e_blt (c_len rfl) (by rfl) T.z_len (by decide +kernel) (a_cons (e_var (pv 2)) a_nil)) (e_blt (c_len rfl) (by rfl) T.z_len (by decide +kernel) (a_cons (e_ix (o_ix rfl) (e_var (pv 1)) e_int) a_nil)) (nomark _)))) (fun _ _ _ _ _ => (e_var (pv 2)))) (e_lst a_nil) (nomark _))))) (ss_one (s_ret e_str)) ss_nil)
    (ss_cons (s_for rfl (passes_of rfl) (i_seq rfl (e_var (pv 1))) (g_name sc__law_fault.nd)
    (ss_one (s_for rfl (passes_of rfl) (i_seq rfl (e_var (pv 2))) (g_name sc__law_fault.nd)
    (ss_cons (s_if (PW.pt (w_or (t_not (t_truth rfl (e_blt (isi_ty rfl (.inr (.inr (.inr (.inl rfl))))) (by rfl) T.z_isinstance (by decide +kernel) (a_cons (e_var (pv 3)) (a_cons (e_ty (by rfl) T.z_tuple (by decide +kernel)) a_nil))))) (w_or (t_cmp (o_ne rfl hr.units) (e_blt (c_len rfl) (by rfl) T.z_len (by decide +kernel) (a_cons (e_var (pv 3)) a_nil)) e_int (nomark _)) (w_one_or (t_not (t_truth rfl (e_call (ok__law_within T) hr T.m__law_within T.F__law_within.kp T.B__law_within tk (a_cons (e_ix (o_ix rfl) (e_var (pv 3)) e_int) (a_cons e_int (a_cons (e_bin o_sub (e_blt (c_len rfl) (by rfl) T.z_len (by decide +kernel) (a_cons (e_var (pv 1)) a_nil)) e_int) a_nil))) ))))))) (ss_one (s_ret e_str)) ss_nil)
    (ss_one (s_if (PW.pt (w_or (t_not (t_truth rfl (e_call (ok__law_within T) hr T.m__law_within T.F__law_within.kp T.B__law_within tk (a_cons (e_ix (o_ix rfl) (e_var (pv 3)) e_int) (a_cons e_int (a_cons (e_bin o_sub (e_blt (c_len rfl) (by rfl) T.z_len (by decide +kernel) (a_cons (e_var (pv 2)) a_nil)) e_int) a_nil))) ))) (w_one_or (t_not (PW.pt (w_or (t_cmp o_is (e_ix (o_ix rfl) (e_var (pv 3)) e_int) e_non (nomark _)) (w_one_or (t_truth rfl (e_call (ok__law_is_word T) hr T.m__law_is_word T.F__law_is_word.kp T.B__law_is_word tk (a_cons (e_ix (o_ix rfl) (e_var (pv 3)) e_int) a_nil) ))))))))) (ss_one (s_ret e_str)) ss_nil))))))
    (ss_cons (s_if (t_not (t_truth rfl (e_call (ok__law_within T) hr T.m__law_within T.F__law_within.kp T.B__law_within tk (a_cons (e_ix (o_ix rfl) (e_var (pv 0)) e_int) (a_cons e_int (a_cons (e_bin o_sub (e_blt (c_len rfl) (by rfl) T.z_len (by decide +kernel) (a_cons (e_var (pv 1)) a_nil)) e_int) a_nil))) ))) (ss_one (s_ret e_str)) ss_nil)
    (ss_cons (s_if (PW.pt (w_and (t_cmp o_isnot (e_ix (o_ix rfl) (e_var (pv 0)) e_int) e_non (nomark _)) (w_one_and (t_not (t_truth rfl (e_call (ok__law_within T) hr T.m__law_within T.F__law_within.kp T.B__law_within tk (a_cons (e_ix (o_ix rfl) (e_var (pv 0)) e_int) (a_cons e_int (a_cons (e_bin o_sub (e_blt (c_len rfl) (by rfl) T.z_len (by decide +kernel) (a_cons (e_var (pv 1)) a_nil)) e_int) a_nil))) )))))) (ss_one (s_ret e_str)) ss_nil)
    (ss_one (s_ret (e_if (PW.pt (w_or (t_cmp o_is (e_ix (o_ix rfl) (e_var (pv 0)) e_int) e_non (nomark _)) (w_one_or (t_truth rfl (e_call (ok__law_within T) hr T.m__law_within T.F__law_within.kp T.B__law_within tk (a_cons (e_ix (o_ix rfl) (e_var (pv 0)) e_int) (a_cons e_int (a_cons (e_bin o_sub (e_blt (c_len rfl) (by rfl) T.z_len (by decide +kernel) (a_cons (e_ix (o_ix rfl) (e_var (pv 1)) e_int) a_nil)) e_int) a_nil))) ))))) e_non e_str)))))))))
theorem ok__law_lines (T : Tx G mg w P) : FnOk P w G.K mg base (L2.CX P w) 1 T.a__law_lines T.d__law_lines ["spec"] (spF G f__law_lines) :=
  fn_ok (k := 0) T.F__law_lines sc__law_lines fun cdv A outer s H E hr =>
    have tk := takes_of (X := cxOf (L2.CX P w) P w G.K mg base N__law_lines "_law_lines" (defScope (topS 36)) T.a__law_lines cdv A outer s H E) rfl rfl rfl rfl
    (ss_cons (s_set sc__law_lines.nd (e_lst a_nil))
    (ss_cons (s_for rfl (passes_of rfl) (i_seq rfl (e_ix (o_ix rfl) (e_var (pv 0)) e_int)) (g_name sc__law_lines.nd)
    (ss_cons (s_set sc__law_lines.nd (e_lst (a_cons e_str a_nil)))
    (ss_cons (s_for rfl (passes_of rfl) (i_seq rfl (e_var (pv 2))) (g_name sc__law_lines.nd)
    (ss_one (s_set sc__law_lines.nd (e_bin (o_add rfl) (e_var (pv 3)) (e_lst (a_cons (e_bty c_strB (by rfl) T.z_str (by decide +kernel) (a_cons (e_ix (o_ix rfl) (e_var (pv 4)) e_int) a_nil)) (a_cons (e_bty c_strB (by rfl) T.z_str (by decide +kernel) (a_cons (e_ix (o_ix rfl) (e_var (pv 4)) e_int) a_nil)) (a_cons (e_if (t_cmp o_is (e_ix (o_ix rfl) (e_var (pv 4)) e_int) e_non (nomark _)) e_str (e_bty c_strB (by rfl) T.z_str (by decide +kernel) (a_cons (e_ix (o_ix rfl) (e_var (pv 4)) e_int) a_nil))) a_nil))))))))
    (ss_one (s_expr (e_mt rfl PySem.F.plainAttrs_list PySem.F.slot_list_append PySem.F.type_list_append m_append (e_var (pv 1)) (a_cons (e_mt rfl PySem.F.plainAttrs_str PySem.F.slot_str_join PySem.F.type_str_join (m_join rfl) e_str (a_cons (e_var (pv 3)) a_nil)) a_nil)))))))
    (ss_cons (s_set sc__law_lines.nd (e_bin (o_add rfl) (e_var (pv 1)) (e_lst (a_cons (e_bin (o_add rfl) e_str (e_bty c_strB (by rfl) T.z_str (by decide +kernel) (a_cons (e_ix (o_ix rfl) (e_var (pv 0)) e_int) a_nil))) (a_cons (e_bin (o_add rfl) e_str (e_if (t_cmp o_is (e_ix (o_ix rfl) (e_var (pv 0)) e_int) e_non (nomark _)) e_str (e_bty c_strB (by rfl) T.z_str (by decide +kernel) (a_cons (e_ix (o_ix rfl) (e_var (pv 0)) e_int) a_nil)))) a_nil)))))
    (ss_one (s_ret (e_bin (o_add rfl) (e_var (pv 1)) (e_lst (a_cons (e_bin (o_add rfl) e_str (e_if (t_cmp o_is (e_ix (o_ix rfl) (e_var (pv 0)) e_int) e_non (nomark _)) e_str (e_bty c_strB (by rfl) T.z_str (by decide +kernel) (a_cons (e_ix (o_ix rfl) (e_var (pv 0)) e_int) a_nil)))) (a_cons e_str a_nil)))))))))
theorem ok__law_number (T : Tx G mg w P) : FnOk P w G.K mg base (L2.CX P w) 1 T.a__law_number T.d__law_number ["word"] (spF G f__law_number) :=
  fn_ok (k := 0) T.F__law_number sc__law_number fun cdv A outer s H E hr =>
    have tk := takes_of (X := cxOf (L2.CX P w) P w G.K mg base N__law_number "_law_number" (defScope (topS 37)) T.a__law_number cdv A outer s H E) rfl rfl rfl rfl
    (ss_cons (s_if (PW.pt (w_or (t_not (t_chain o_le o_le e_int (e_blt (c_len rfl) (by rfl) T.z_len (by decide +kernel) (a_cons (e_var (pv 0)) a_nil)) e_int)) (w_one_or (t_cmp (o_neE hr.units) (e_lc (own := [("sign", 1)]) rfl sc__law_number.nd (i_str (e_var (pv 0))) (blkOk_by (N := N__law_number) (sc := defScope (topS 37)) (by decide +kernel)) (fun _ _ _ _ _ => (g_name sc__law_number.nd)) (fun _ _ _ _ _ => (ts_one (t_cmp (o_notinS) (e_var (pv 1)) e_str (by rfl)))) (fun _ _ _ _ _ => (e_var (pv 1)))) (e_lst a_nil) (nomark _))))) (ss_one (s_ret e_non)) ss_nil)
    (ss_one (s_ret (e_if (PW.pt (w_and (t_cmp (o_eq rfl hr.units) (e_ix (o_ix rfl) (e_var (pv 0)) e_int) e_str (nomark _)) (w_one_and (t_cmp (o_ne rfl hr.units) (e_var (pv 0)) e_str (nomark _))))) e_non (e_bty c_int (by rfl) T.z_int (by decide +kernel) (a_cons (e_var (pv 0)) a_nil))))))
theorem ok__law_taken (T : Tx G mg w P) : FnOk P w G.K mg base (L2.CX P w) 2 T.a__law_taken T.d__law_taken ["book", "words"] (spF G f__law_taken) :=
  fn_ok (k := 1) T.F__law_taken sc__law_taken fun cdv A outer s H E hr =>
    have tk := takes_of (X := cxOf (L2.CX P w) P w G.K mg base N__law_taken "_law_taken" (defScope (topS 38)) T.a__law_taken cdv A outer s H E) rfl rfl rfl rfl
    (ss_cons (s_asg (e_var (pv 0)) (g_tup rfl rfl (gs_cons (g_name sc__law_taken.nd) (gs_cons (g_name sc__law_taken.nd) gs_nil))))
    (ss_cons (s_if (PW.pt (w_and (t_cmp (o_eq rfl hr.units) (e_ix (o_ix rfl) (e_var (pv 1)) e_int) e_str (nomark _)) (w_one_and (t_cmp (o_eqE hr.units) (e_var (pv 3)) (e_lst a_nil) (nomark _))))) (ss_cons (s_expr (e_mt rfl PySem.F.plainAttrs_list PySem.F.slot_list_append PySem.F.type_list_append m_append (e_var (pv 2)) (a_cons (e_tup a_nil) a_nil)))
    (ss_cons (s_if (t_cmp (o_ne rfl hr.units) (e_bty c_int (by rfl) T.z_int (by decide +kernel) (a_cons (e_bin o_mod (e_blt (c_len rfl) (by rfl) T.z_len (by decide +kernel) (a_cons (e_var (pv 1)) a_nil)) e_int) a_nil)) e_int (nomark _)) (ss_one (s_ret e_bl)) ss_nil)
    (ss_cons (s_for rfl (passes_of rfl) (i_range3 T.z_range (a_cons e_int (a_cons (e_blt (c_len rfl) (by rfl) T.z_len (by decide +kernel) (a_cons (e_var (pv 1)) a_nil)) (a_cons e_int a_nil)))) (g_name sc__law_taken.nd)
    (ss_cons (s_par3 rfl sc__law_taken.nd (a_cons (e_call (ok__law_number T) hr T.m__law_number T.F__law_number.kp T.B__law_number tk (a_cons (e_ix (o_ix rfl) (e_var (pv 1)) (e_var (pv 4))) a_nil) ) (a_cons (e_call (ok__law_number T) hr T.m__law_number T.F__law_number.kp T.B__law_number tk (a_cons (e_ix (o_ix rfl) (e_var (pv 1)) (e_bin (o_add rfl) (e_var (pv 4)) e_int)) a_nil) ) (a_cons (e_ix (o_ix rfl) (e_var (pv 1)) (e_bin (o_add rfl) (e_var (pv 4)) e_int)) a_nil))))
    (ss_cons (s_if (PW.pt (w_or (t_cmp o_is (e_var (pv 5)) e_non (nomark _)) (w_or (t_cmp o_is (e_var (pv 6)) e_non (nomark _)) (w_one_or (PW.pt (w_and (t_cmp (o_notin rfl) (e_var (pv 7)) (e_tup (a_cons e_str (a_cons e_str a_nil))) (by rfl)) (w_one_and (t_cmp o_is (e_call (ok__law_number T) hr T.m__law_number T.F__law_number.kp T.B__law_number tk (a_cons (e_var (pv 7)) a_nil) ) e_non (nomark _))))))))) (ss_one (s_ret e_bl)) ss_nil)
    (ss_one (s_setIx (e_bin (o_add rfl) (e_ix (o_ix rfl) (e_var (pv 2)) (e_un o_neg e_int)) (e_tup (a_cons (e_tup (a_cons (e_var (pv 5)) (a_cons (e_var (pv 6)) (a_cons (e_if (t_cmp (o_eq rfl hr.units) (e_var (pv 7)) e_str (nomark _)) e_non (e_if (t_cmp (o_eq rfl hr.units) (e_var (pv 7)) e_str (nomark _)) (e_var (pv 7)) (e_call (ok__law_number T) hr T.m__law_number T.F__law_number.kp T.B__law_number tk (a_cons (e_var (pv 7)) a_nil) ))) a_nil)))) a_nil))) (e_var (pv 2)) (e_un o_neg e_int))))))
    (ss_one (s_ret e_bl))))) ss_nil)
    (ss_cons (s_if (PW.pt (w_or (t_cmp (o_eqE hr.units) (e_var (pv 2)) (e_lst a_nil) (nomark _)) (w_or (t_cmp (o_eq rfl hr.units) (e_blt (c_len rfl) (by rfl) T.z_len (by decide +kernel) (a_cons (e_var (pv 3)) a_nil)) e_int (nomark _)) (w_one_or (t_cmp (o_ne rfl hr.units) (e_ix (o_ix rfl) (e_var (pv 1)) e_int) (e_ix (o_ix rfl) (e_lst (a_cons e_str (a_cons e_str (a_cons e_str (a_cons e_str a_nil))))) (e_blt (c_len rfl) (by rfl) T.z_len (by decide +kernel) (a_cons (e_var (pv 3)) a_nil))) (nomark _)))))) (ss_one (s_ret e_bl)) ss_nil)
    (ss_cons (s_if (t_cmp (o_eq rfl hr.units) (e_ix (o_ix rfl) (e_var (pv 1)) e_int) e_str (nomark _)) (ss_cons (s_expr (e_mt rfl PySem.F.plainAttrs_list PySem.F.slot_list_append PySem.F.type_list_append m_append (e_var (pv 3)) (a_cons e_non a_nil)))
    (ss_one (s_ret (e_cmp (o_eq rfl hr.units) (e_var (pv 1)) (e_lst (a_cons e_str a_nil)) (nomark _))))) ss_nil)
    (ss_cons (s_expr (e_mt rfl PySem.F.plainAttrs_list PySem.F.slot_list_append PySem.F.type_list_append m_append (e_var (pv 3)) (a_cons e_non a_nil)))
    (ss_cons (s_if (PW.pt (w_or (t_cmp (o_ne rfl hr.units) (e_blt (c_len rfl) (by rfl) T.z_len (by decide +kernel) (a_cons (e_var (pv 1)) a_nil)) e_int (nomark _)) (w_or (t_cmp (o_eq rfl hr.units) (e_var (pv 1)) (e_lst (a_cons e_str (a_cons e_str a_nil))) (nomark _)) (w_one_or (t_cmp (o_eq rfl hr.units) (e_var (pv 1)) (e_lst (a_cons e_str (a_cons e_str a_nil))) (nomark _)))))) (ss_one (s_ret (e_cmp (o_eq rfl hr.units) (e_blt (c_len rfl) (by rfl) T.z_len (by decide +kernel) (a_cons (e_var (pv 1)) a_nil)) e_int (nomark _)))) ss_nil)
    (ss_cons (s_setIx (e_call (ok__law_number T) hr T.m__law_number T.F__law_number.kp T.B__law_number tk (a_cons (e_ix (o_ix rfl) (e_var (pv 1)) e_int) a_nil) ) (e_var (pv 3)) (e_un o_neg e_int))
    (ss_one (s_ret (e_cmp o_isnot (e_ix (o_ix rfl) (e_var (pv 3)) (e_un o_neg e_int)) e_non (nomark _)))))))))))
theorem ok__law_reader (T : Tx G mg w P) : FnOk P w G.K mg base (L2.CX P w) 3 T.a__law_reader T.d__law_reader ["text"] (spF G f__law_reader) :=
  fn_ok (k := 2) T.F__law_reader sc__law_reader fun cdv A outer s H E hr =>
    have tk := takes_of (X := cxOf (L2.CX P w) P w G.K mg base N__law_reader "_law_reader" (defScope (topS 39)) T.a__law_reader cdv A outer s H E) rfl rfl rfl rfl
    (ss_cons (s_par rfl sc__law_reader.nd (a_cons (e_mt rfl PySem.F.plainAttrs_str PySem.F.slot_str_split PySem.F.type_str_split m_split (e_var (pv 0)) (a_cons e_str a_nil)) (a_cons (e_lst (a_cons (e_lst a_nil) (a_cons (e_lst a_nil) a_nil))) a_nil)))
    (ss_cons (s_for rfl (passes_of rfl) (i_enumX rfl T.z_enumerate (a_cons (e_sl rfl (e_var (pv 1)) p_none (p_some (e_un o_neg e_int))) a_nil)) (g_tup rfl rfl (gs_cons (g_name sc__law_reader.nd) (gs_cons (g_name sc__law_reader.nd) gs_nil)))
    (ss_cons (s_set sc__law_reader.nd (e_mt rfl PySem.F.plainAttrs_str PySem.F.slot_str_split PySem.F.type_str_split m_split (e_var (pv 4)) (a_cons e_str a_nil)))
    (ss_cons (s_if (t_cmp (o_in rfl) e_str (e_var (pv 5)) (by rfl)) (ss_one (s_ret (e_tup (a_cons e_str (a_cons (e_var (pv 3)) (a_cons e_str a_nil)))))) ss_nil)
    (ss_one (s_if (t_not (t_truth rfl (e_call (ok__law_taken T) hr T.m__law_taken T.F__law_taken.kp T.B__law_taken tk (a_cons (e_var (pv 2)) (a_cons (e_var (pv 5)) a_nil)) ))) (ss_one (s_ret (e_tup (a_cons e_str (a_cons (e_var (pv 3)) (a_cons e_str a_nil)))))) ss_nil)))))
    (ss_cons (s_if (t_cmp (o_ne rfl hr.units) (e_ix (o_ix rfl) (e_var (pv 1)) (e_un o_neg e_int)) e_str (nomark _)) (ss_one (s_ret (e_tup (a_cons e_str (a_cons (e_bin o_sub (e_blt (c_len rfl) (by rfl) T.z_len (by decide +kernel) (a_cons (e_var (pv 1)) a_nil)) e_int) (a_cons e_str a_nil)))))) ss_nil)
    (ss_cons (s_if (t_cmp o_lt (e_blt (c_len rfl) (by rfl) T.z_len (by decide +kernel) (a_cons (e_ix (o_ix rfl) (e_var (pv 2)) e_int) a_nil)) e_int (nomark _)) (ss_one (s_ret (e_tup (a_cons e_str (a_cons (e_bin o_sub (e_blt (c_len rfl) (by rfl) T.z_len (by decide +kernel) (a_cons (e_var (pv 1)) a_nil)) e_int) (a_cons e_str a_nil)))))) ss_nil)
    (ss_one (s_ret (e_tup (a_cons e_str (a_cons (e_bin (o_add rfl) (e_lst (a_cons (e_bty (c_tuple rfl) (by rfl) T.z_tuple (by decide +kernel) (a_cons (e_ix (o_ix rfl) (e_var (pv 2)) e_int) a_nil)) a_nil)) (e_sl rfl (e_ix (o_ix rfl) (e_var (pv 2)) e_int) p_none (p_some e_int))) a_nil)))))))))
theorem ok__law_bent_line (T : Tx G mg w P) : FnOk P w G.K mg base (L2.CX P w) 3 T.a__law_bent_line T.d__law_bent_line ["pot", "line"] (spF G f__law_bent_line) :=
  fn_ok (k := 2) T.F__law_bent_line sc__law_bent_line fun cdv A outer s H E hr =>
    have tk := takes_of (X := cxOf (L2.CX P w) P w G.K mg base N__law_bent_line "_law_bent_line" (defScope (topS 40)) T.a__law_bent_line cdv A outer s H E) rfl rfl rfl rfl
    (ss_cons (s_set sc__law_bent_line.nd (e_mt rfl PySem.F.plainAttrs_str PySem.F.slot_str_split PySem.F.type_str_split m_split (e_var (pv 1)) (a_cons e_str a_nil)))
    (ss_cons (s_par rfl sc__law_bent_line.nd (a_cons (e_call (ok__law_draw T) hr T.m__law_draw T.F__law_draw.kp T.B__law_draw tk (a_cons (e_var (pv 0)) (a_cons (e_blt (c_len rfl) (by rfl) T.z_len (by decide +kernel) (a_cons (e_var (pv 2)) a_nil)) a_nil)) ) (a_cons (e_call (ok__law_draw T) hr T.m__law_draw T.F__law_draw.kp T.B__law_draw tk (a_cons (e_var (pv 0)) (a_cons e_int a_nil)) ) a_nil)))
    (ss_cons (s_set sc__law_bent_line.nd (e_call (ok__law_pick T) hr T.m__law_pick T.F__law_pick.kp T.B__law_pick tk (a_cons (e_var (pv 0)) (a_cons (e_lst (a_cons e_str (a_cons e_str (a_cons e_str (a_cons e_str (a_cons e_str (a_cons e_str (a_cons e_str (a_cons e_str (a_cons e_str (a_cons e_str (a_cons e_str (a_cons e_str (a_cons e_str (a_cons e_str (a_cons e_str (a_cons e_str (a_cons e_str a_nil)))))))))))))))))) a_nil)) ))
    (ss_cons (s_if (t_cmp o_lt (e_var (pv 4)) e_int (nomark _)) (ss_one (s_set sc__law_bent_line.nd (e_bin (o_add rfl) (e_bin (o_add rfl) (e_sl rfl (e_var (pv 2)) p_none (p_some (e_var (pv 3)))) (e_lst (a_cons (e_var (pv 5)) a_nil))) (e_sl rfl (e_var (pv 2)) (p_some (e_bin (o_add rfl) (e_var (pv 3)) (e_var (pv 4)))) p_none)))) (ss_one (s_if (t_cmp (o_eq rfl hr.units) (e_var (pv 4)) e_int (nomark _)) (ss_one (s_set sc__law_bent_line.nd (e_bin (o_add rfl) (e_sl rfl (e_var (pv 2)) p_none (p_some (e_var (pv 3)))) (e_sl rfl (e_var (pv 2)) (p_some (e_bin (o_add rfl) (e_var (pv 3)) e_int)) p_none)))) (ss_one (s_if (t_cmp (o_eq rfl hr.units) (e_var (pv 4)) e_int (nomark _)) (ss_one (s_set sc__law_bent_line.nd (e_bin (o_add rfl) (e_bin (o_add rfl) (e_sl rfl (e_var (pv 2)) p_none (p_some (e_var (pv 3)))) (e_sl rfl (e_var (pv 2)) (p_some (e_var (pv 3))) (p_some (e_bin (o_add rfl) (e_var (pv 3)) e_int)))) (e_sl rfl (e_var (pv 2)) (p_some (e_var (pv 3))) p_none)))) (ss_one (s_if (t_cmp (o_eq rfl hr.units) (e_var (pv 4)) e_int (nomark _)) (ss_one (s_set sc__law_bent_line.nd (e_bin (o_add rfl) (e_var (pv 2)) (e_lst (a_cons (e_call (ok__law_pick T) hr T.m__law_pick T.F__law_pick.kp T.B__law_pick tk (a_cons (e_var (pv 0)) (a_cons (e_bin (o_add rfl) (e_var (pv 2)) (e_lst (a_cons (e_var (pv 5)) a_nil))) a_nil)) ) a_nil))))) (ss_cons (s_set sc__law_bent_line.nd (e_call (ok__law_draw T) hr T.m__law_draw T.F__law_draw.kp T.B__law_draw tk (a_cons (e_var (pv 0)) (a_cons (e_bin (o_add rfl) (e_blt (c_len rfl) (by rfl) T.z_len (by decide +kernel) (a_cons (e_var (pv 1)) a_nil)) e_int) a_nil)) ))
    (ss_one (s_ret (e_bin (o_add rfl) (e_bin (o_add rfl) (e_sl rfl (e_var (pv 1)) p_none (p_some (e_var (pv 6)))) (e_call (ok__law_pick T) hr T.m__law_pick T.F__law_pick.kp T.B__law_pick tk (a_cons (e_var (pv 0)) (a_cons (e_lst (a_cons e_str (a_cons e_str (a_cons e_str (a_cons e_str (a_cons e_str (a_cons e_str (a_cons e_str a_nil)))))))) a_nil)) )) (e_sl rfl (e_var (pv 1)) (p_some (e_var (pv 6))) p_none))))))))))))
    (ss_one (s_ret (e_mt rfl PySem.F.plainAttrs_str PySem.F.slot_str_join PySem.F.type_str_join (m_join rfl) e_str (a_cons (e_var (pv 2)) a_nil))))))))
theorem ok__law_bent_text (T : Tx G mg w P) : FnOk P w G.K mg base (L2.CX P w) 4 T.a__law_bent_text T.d__law_bent_text ["pot", "lines"] (spF G f__law_bent_text) :=
  fn_ok (k := 3) T.F__law_bent_text sc__law_bent_text fun cdv A outer s H E hr =>
    have tk := takes_of (X := cxOf (L2.CX P w) P w G.K mg base N__law_bent_text "_law_bent_text" (defScope (topS 41)) T.a__law_bent_text cdv A outer s H E) rfl rfl rfl rfl
    (ss_cons (s_if (t_cmp (o_eqE hr.units) (e_var (pv 1)) (e_lst a_nil) (nomark _)) (ss_one (s_ret (e_lst (a_cons (e_call (ok__law_pick T) hr T.m__law_pick T.F__law_pick.kp T.B__law_pick tk (a_cons (e_var (pv 0)) (a_cons (e_lst (a_cons e_str (a_cons e_str (a_cons e_str a_nil)))) a_nil)) ) a_nil)))) ss_nil)
    (ss_cons (s_par3 rfl sc__law_bent_text.nd (a_cons (e_call (ok__law_draw T) hr T.m__law_draw T.F__law_draw.kp T.B__law_draw tk (a_cons (e_var (pv 0)) (a_cons (e_blt (c_len rfl) (by rfl) T.z_len (by decide +kernel) (a_cons (e_var (pv 1)) a_nil)) a_nil)) ) (a_cons (e_call (ok__law_draw T) hr T.m__law_draw T.F__law_draw.kp T.B__law_draw tk (a_cons (e_var (pv 0)) (a_cons (e_blt (c_len rfl) (by rfl) T.z_len (by decide +kernel) (a_cons (e_var (pv 1)) a_nil)) a_nil)) ) (a_cons (e_call (ok__law_draw T) hr T.m__law_draw T.F__law_draw.kp T.B__law_draw tk (a_cons (e_var (pv 0)) (a_cons e_int a_nil)) ) a_nil))))
    (ss_cons (s_if (t_cmp (o_eq rfl hr.units) (e_var (pv 4)) e_int (nomark _)) (ss_one (s_ret (e_bin (o_add rfl) (e_sl rfl (e_var (pv 1)) p_none (p_some (e_var (pv 2)))) (e_sl rfl (e_var (pv 1)) (p_some (e_bin (o_add rfl) (e_var (pv 2)) e_int)) p_none)))) ss_nil)
    (ss_cons (s_if (t_cmp (o_eq rfl hr.units) (e_var (pv 4)) e_int (nomark _)) (ss_one (s_ret (e_bin (o_add rfl) (e_bin (o_add rfl) (e_sl rfl (e_var (pv 1)) p_none (p_some (e_var (pv 2)))) (e_lst (a_cons (e_ix (o_ix rfl) (e_var (pv 1)) (e_var (pv 3))) a_nil))) (e_sl rfl (e_var (pv 1)) (p_some (e_var (pv 2))) p_none)))) ss_nil)
    (ss_cons (s_if (t_cmp (o_eq rfl hr.units) (e_var (pv 4)) e_int (nomark _)) (ss_one (s_ret (e_bin (o_add rfl) (e_bin (o_add rfl) (e_sl rfl (e_var (pv 1)) p_none (p_some (e_var (pv 2)))) (e_lst (a_cons (e_call (ok__law_pick T) hr T.m__law_pick T.F__law_pick.kp T.B__law_pick tk (a_cons (e_var (pv 0)) (a_cons (e_lst (a_cons e_str (a_cons e_str (a_cons e_str (a_cons e_str (a_cons e_str (a_cons e_str (a_cons e_str a_nil)))))))) a_nil)) ) a_nil))) (e_sl rfl (e_var (pv 1)) (p_some (e_var (pv 2))) p_none)))) ss_nil)
    (ss_cons (s_if (t_cmp (o_eq rfl hr.units) (e_var (pv 4)) e_int (nomark _)) (ss_one (s_ret (e_bin (o_add rfl) (e_bin (o_add rfl) (e_sl rfl (e_var (pv 1)) p_none (p_some (e_var (pv 2)))) (e_lst (a_cons (e_ix (o_ix rfl) (e_var (pv 1)) (e_var (pv 3))) a_nil))) (e_sl rfl (e_var (pv 1)) (p_some (e_bin (o_add rfl) (e_var (pv 2)) e_int)) p_none)))) ss_nil)
    (ss_one (s_ret (e_bin (o_add rfl) (e_bin (o_add rfl) (e_sl rfl (e_var (pv 1)) p_none (p_some (e_var (pv 2)))) (e_lst (a_cons (e_call (ok__law_bent_line T) hr T.m__law_bent_line T.F__law_bent_line.kp T.B__law_bent_line tk (a_cons (e_var (pv 0)) (a_cons (e_ix (o_ix rfl) (e_var (pv 1)) (e_var (pv 2))) a_nil)) ) a_nil))) (e_sl rfl (e_var (pv 1)) (p_some (e_bin (o_add rfl) (e_var (pv 2)) e_int)) p_none))))))))))
theorem ok__law_found (T : Tx G mg w P) : FnOk P w G.K mg base (L2.CX P w) 9 T.a__law_found T.d__law_found ["text"] (spF G f__law_found) :=
  fn_ok (k := 8) T.F__law_found sc__law_found fun cdv A outer s H E hr =>
    have tk := takes_of (X := cxOf (L2.CX P w) P w G.K mg base N__law_found "_law_found" (defScope (topS 42)) T.a__law_found cdv A outer s H E) rfl rfl rfl rfl
    (ss_cons (s_try T.xi0 tk (fun W2 pn2 xe2 tk2 po2 => (ss_one (s_set sc__law_found.nd (e_call (ok_read_program T) hr T.m_read_program T.F_read_program.kp T.B_read_program tk2 (a_cons (e_var (pv 0)) a_nil) )))) (.named sc__law_found.nd (i := 2) (by rfl) (by rfl) ⟨by rfl, by decide, .inl T.m_BadText⟩ T.exm_BadText T.exn_BadText (fun a d fs oe pn hz hf => (e_tup (a_cons e_str (a_cons (e_xf rfl T.xf_BadText T.xn_BadText_line hz hf (e_var (pv 2))) (a_cons (e_xf rfl T.xf_BadText T.xn_BadText_what hz hf (e_var (pv 2))) a_nil))))) (.named sc__law_found.nd (i := 2) (by rfl) (by rfl) ⟨by rfl, by decide, .inl T.m_BadProgram⟩ T.exm_BadProgram T.exn_BadProgram (fun a d fs oe pn hz hf => (e_tup (a_cons e_str (a_cons (e_xf rfl T.xf_BadProgram T.xn_BadProgram_what hz hf (e_var (pv 2))) a_nil)))) .nil)))
    (ss_one (s_ret (e_tup (a_cons e_str (a_cons (e_lst (a_cons (e_fld rfl T.fld_steps rfl (e_var (pv 1))) (a_cons (e_fld rfl T.fld_first rfl (e_var (pv 1))) (a_cons (e_fld rfl T.fld_leader rfl (e_var (pv 1))) (a_cons (e_fld rfl T.fld_lamp rfl (e_var (pv 1))) a_nil))))) a_nil))))))
theorem ok_law (T : Tx G mg w P) : FnOk P w G.K mg base (L2.CX P w) 10 T.a_law T.d_law ["script"] (spF G f_law) :=
  fn_ok (k := 9) T.F_law sc_law fun cdv A outer s H E hr =>
    have tk := takes_of (X := cxOf (L2.CX P w) P w G.K mg base N_law "law" (defScope (topS 43)) T.a_law cdv A outer s H E) rfl rfl rfl rfl
    (ss_cons (s_set sc_law.nd (e_call (ok__law_pot T) hr T.m__law_pot T.F__law_pot.kp T.B__law_pot tk (a_cons (e_var (pv 0)) a_nil) ))
    (ss_cons (s_for rfl (passes_of rfl) (i_range1 T.z_range (a_cons e_int a_nil)) (g_name sc_law.nd)
    (ss_cons (s_set sc_law.nd (e_call (ok__law_lines T) hr T.m__law_lines T.F__law_lines.kp T.B__law_lines tk (a_cons (e_call (ok__law_spec T) hr T.m__law_spec T.F__law_spec.kp T.B__law_spec tk (a_cons (e_var (pv 1)) (a_cons (e_lst (a_cons e_int (a_cons e_int a_nil))) a_nil)) ) a_nil) ))
    (ss_cons (s_for rfl (passes_of rfl) (i_range1 T.z_range (a_cons (e_call (ok__law_draw T) hr T.m__law_draw T.F__law_draw.kp T.B__law_draw tk (a_cons (e_var (pv 1)) (a_cons e_int a_nil)) ) a_nil)) (g_name sc_law.nd)
    (ss_one (s_set sc_law.nd (e_call (ok__law_bent_text T) hr T.m__law_bent_text T.F__law_bent_text.kp T.B__law_bent_text tk (a_cons (e_var (pv 1)) (a_cons (e_var (pv 3)) a_nil)) ))))
    (ss_cons (s_set sc_law.nd (e_mt rfl PySem.F.plainAttrs_str PySem.F.slot_str_join PySem.F.type_str_join (m_join rfl) e_str (a_cons (e_lc (own := [("line", 8)]) rfl sc_law.nd (i_seq rfl (e_var (pv 3))) (blkOk_by (N := N_law) (sc := defScope (topS 43)) (by decide +kernel)) (fun _ _ _ _ _ => (g_name sc_law.nd)) (fun _ _ _ _ _ => ts_nil) (fun _ _ _ _ _ => (e_bin (o_add rfl) (e_var (pv 8)) e_str))) a_nil)))
    (ss_cons (s_if (t_cmp (o_eq rfl hr.units) (e_call (ok__law_draw T) hr T.m__law_draw T.F__law_draw.kp T.B__law_draw tk (a_cons (e_var (pv 1)) (a_cons e_int a_nil)) ) e_int (nomark _)) (ss_one (s_set sc_law.nd (e_sl rfl (e_var (pv 5)) p_none (p_some (e_call (ok__law_draw T) hr T.m__law_draw T.F__law_draw.kp T.B__law_draw tk (a_cons (e_var (pv 1)) (a_cons (e_bin (o_add rfl) (e_blt (c_len rfl) (by rfl) T.z_len (by decide +kernel) (a_cons (e_var (pv 5)) a_nil)) e_int) a_nil)) ))))) ss_nil)
    (ss_cons (s_set sc_law.nd (e_call (ok__law_reader T) hr T.m__law_reader T.F__law_reader.kp T.B__law_reader tk (a_cons (e_var (pv 5)) a_nil) ))
    (ss_cons (s_if (t_cmp (o_eq rfl hr.units) (e_ix (o_ix rfl) (e_var (pv 6)) e_int) e_str (nomark _)) (ss_cons (s_set sc_law.nd (e_call (ok__law_fault T) hr T.m__law_fault T.F__law_fault.kp T.B__law_fault tk (a_cons (e_ix (o_ix rfl) (e_var (pv 6)) e_int) a_nil) ))
    (ss_one (s_set sc_law.nd (e_if (t_cmp o_is (e_var (pv 7)) e_non (nomark _)) (e_var (pv 6)) (e_tup (a_cons e_str (a_cons (e_var (pv 7)) a_nil))))))) ss_nil)
    (ss_one (s_if (t_not (t_truth rfl (e_call (ok__law_same T 7) hr T.m__law_same T.F__law_same.kp T.B__law_same tk (a_cons (e_call (ok__law_found T) hr T.m__law_found T.F__law_found.kp T.B__law_found tk (a_cons (e_var (pv 5)) a_nil) ) (a_cons (e_var (pv 6)) a_nil)) ))) (ss_one (s_ret e_bl)) ss_nil)))))))))
    (ss_one (s_ret (e_cmp (o_eq rfl hr.units) (e_call (ok__law_found T) hr T.m__law_found T.F__law_found.kp T.B__law_found tk (a_cons (e_call (ok__law_pick T) hr T.m__law_pick T.F__law_pick.kp T.B__law_pick tk (a_cons (e_var (pv 1)) (a_cons (e_lst (a_cons e_non (a_cons e_int (a_cons (e_tup (a_cons e_str a_nil)) (a_cons (e_lst (a_cons e_str a_nil)) (a_cons e_bl (a_cons e_newD a_nil))))))) a_nil)) ) a_nil) ) (e_tup (a_cons e_str (a_cons e_int (a_cons e_str a_nil)))) (nomark _))))))
end K03

set_option Elab.async false
set_option linter.all false
set_option maxRecDepth 100000
set_option maxHeartbeats 4000000
namespace K03
open PySem PySem.Spec PyProof.Rows L2 LF
def tbF (C_Program C_LineReader C_BadProgram C_BadText : Addr) : Nat → Addr := fun n => if n = 4 then C_Program else if n = 5 then C_LineReader else if n = 2 then C_BadProgram else if n = 3 then C_BadText else 0
theorem sub_kit {K : PySem.W.Frag} {t : Value} {C : Addr} {b : Bool} (h1 : PySem.W.isClsIn K C = true) (h2 : PySem.W.typeIn K (.ref C) = some (.type "type")) (h3 : PySem.W.subIn K t (.ref C) = some b) (h4 : (t == .ref C) = false) : PySem.W.kitOne K t (.ref C) = some b := by
  unfold PySem.W.kitOne PySem.W.kitCls
  rw [h4, if_neg (by decide)]
  simp only [PySem.W.isClsIn] at h1
  simp only [h1, h2]
  simpa using h3
theorem all_mk {P : Program} {w : World} {K : PySem.W.Frag} {h : Heap} {mg : Str → Option Value} {fa : Addr} {C_LampError N_LampError : Addr} {nm_LampError q_LampError : Str} {bs_LampError : List Value} {sn_LampError : List Str} {sub_LampError : List Value} {ab_LampError : Bool} {col_LampError : Option Bool} {dd_LampError : Option Addr} {k0_LampError k1_LampError k2_LampError k3_LampError k5_LampError : Option Value} {C_BadProgram N_BadProgram A_BadProgram cc_BadProgram ca_BadProgram : Addr} {nm_BadProgram q_BadProgram fi_BadProgram : Str} {bs_BadProgram : List Value} {sn_BadProgram : List Str} {sub_BadProgram : List Value} {ab_BadProgram : Bool} {col_BadProgram : Option Bool} {dd_BadProgram od_BadProgram an_BadProgram x1_BadProgram cod_BadProgram : Option Addr} {k0_BadProgram k1_BadProgram k2_BadProgram k3_BadProgram k5_BadProgram : Option Value} {oc_BadProgram kV_BadProgram dc_BadProgram pm_BadProgram ct_BadProgram x0_BadProgram coc_BadProgram v0_BadProgram v1_BadProgram : Value} {sl_BadProgram x2_BadProgram csl_BadProgram : Array (Option Value)} {tf_BadProgram : Tok} {vr_BadProgram : List Value} {C_BadText N_BadText A_BadText cc_BadText ca_BadText : Addr} {nm_BadText q_BadText fi_BadText : Str} {bs_BadText : List Value} {sn_BadText : List Str} {sub_BadText : List Value} {ab_BadText : Bool} {col_BadText : Option Bool} {dd_BadText od_BadText an_BadText x1_BadText cod_BadText : Option Addr} {k0_BadText k1_BadText k2_BadText k3_BadText k5_BadText : Option Value} {oc_BadText kV_BadText dc_BadText pm_BadText ct_BadText x0_BadText coc_BadText v0_BadText v1_BadText : Value} {sl_BadText x2_BadText csl_BadText : Array (Option Value)} {tf_BadText : Tok} {vr_BadText : List Value} {C_Program : Addr} {C_LineReader : Addr} {A_is_number : Addr} {od_is_number an_is_number : Option Addr} {sl_is_number : Array (Option Value)} {oc_is_number kV_is_number dc_is_number pm_is_number cd_is_number ct_is_number : Value} {A_is_within : Addr} {od_is_within an_is_within : Option Addr} {sl_is_within : Array (Option Value)} {oc_is_within kV_is_within dc_is_within pm_is_within cd_is_within ct_is_within : Value} {A_is_word : Addr} {od_is_word an_is_word : Option Addr} {sl_is_word : Array (Option Value)} {oc_is_word kV_is_word dc_is_word pm_is_word cd_is_word ct_is_word : Value} {A_is_step : Addr} {od_is_step an_is_step : Option Addr} {sl_is_step : Array (Option Value)} {oc_is_step kV_is_step dc_is_step pm_is_step cd_is_step ct_is_step : Value} {A_are_steps : Addr} {od_are_steps an_are_steps : Option Addr} {sl_are_steps : Array (Option Value)} {oc_are_steps kV_are_steps dc_are_steps pm_are_steps cd_are_steps ct_are_steps : Value} {A_number_in : Addr} {od_number_in an_number_in : Option Addr} {sl_number_in : Array (Option Value)} {oc_number_in kV_number_in dc_number_in pm_number_in cd_number_in ct_number_in : Value} {A_is_saying_word : Addr} {od_is_saying_word an_is_saying_word : Option Addr} {sl_is_saying_word : Array (Option Value)} {oc_is_saying_word kV_is_saying_word dc_is_saying_word pm_is_saying_word cd_is_saying_word ct_is_saying_word : Value} {A_saying_in : Addr} {od_saying_in an_saying_in : Option Addr} {sl_saying_in : Array (Option Value)} {oc_saying_in kV_saying_in dc_saying_in pm_saying_in cd_saying_in ct_saying_in : Value} {A_LineReader_init : Addr} {od_LineReader_init an_LineReader_init : Option Addr} {sl_LineReader_init : Array (Option Value)} {oc_LineReader_init kV_LineReader_init dc_LineReader_init pm_LineReader_init cd_LineReader_init ct_LineReader_init : Value} {A_LineReader_takes_row : Addr} {od_LineReader_takes_row an_LineReader_takes_row : Option Addr} {sl_LineReader_takes_row : Array (Option Value)} {oc_LineReader_takes_row kV_LineReader_takes_row dc_LineReader_takes_row pm_LineReader_takes_row cd_LineReader_takes_row ct_LineReader_takes_row : Value} {A_LineReader_takes : Addr} {od_LineReader_takes an_LineReader_takes : Option Addr} {sl_LineReader_takes : Array (Option Value)} {oc_LineReader_takes kV_LineReader_takes dc_LineReader_takes pm_LineReader_takes cd_LineReader_takes ct_LineReader_takes : Value} {A_Program_init : Addr} {od_Program_init an_Program_init : Option Addr} {sl_Program_init : Array (Option Value)} {oc_Program_init kV_Program_init dc_Program_init pm_Program_init cd_Program_init ct_Program_init : Value} {A_read_program : Addr} {od_read_program an_read_program : Option Addr} {sl_read_program : Array (Option Value)} {oc_read_program kV_read_program dc_read_program pm_read_program cd_read_program ct_read_program : Value} {A__law_pot : Addr} {od__law_pot an__law_pot : Option Addr} {sl__law_pot : Array (Option Value)} {oc__law_pot kV__law_pot dc__law_pot pm__law_pot cd__law_pot ct__law_pot : Value} {A__law_draw : Addr} {od__law_draw an__law_draw : Option Addr} {sl__law_draw : Array (Option Value)} {oc__law_draw kV__law_draw dc__law_draw pm__law_draw cd__law_draw ct__law_draw : Value} {A__law_pick : Addr} {od__law_pick an__law_pick : Option Addr} {sl__law_pick : Array (Option Value)} {oc__law_pick kV__law_pick dc__law_pick pm__law_pick cd__law_pick ct__law_pick : Value} {A__law_same : Addr} {od__law_same an__law_same : Option Addr} {sl__law_same : Array (Option Value)} {oc__law_same kV__law_same dc__law_same pm__law_same cd__law_same ct__law_same : Value} {A__law_within : Addr} {od__law_within an__law_within : Option Addr} {sl__law_within : Array (Option Value)} {oc__law_within kV__law_within dc__law_within pm__law_within cd__law_within ct__law_within : Value} {A__law_saying : Addr} {od__law_saying an__law_saying : Option Addr} {sl__law_saying : Array (Option Value)} {oc__law_saying kV__law_saying dc__law_saying pm__law_saying cd__law_saying ct__law_saying : Value} {A__law_spec : Addr} {od__law_spec an__law_spec : Option Addr} {sl__law_spec : Array (Option Value)} {oc__law_spec kV__law_spec dc__law_spec pm__law_spec cd__law_spec ct__law_spec : Value} {A__law_is_word : Addr} {od__law_is_word an__law_is_word : Option Addr} {sl__law_is_word : Array (Option Value)} {oc__law_is_word kV__law_is_word dc__law_is_word pm__law_is_word cd__law_is_word ct__law_is_word : Value} {A__law_fault : Addr} {od__law_fault an__law_fault : Option Addr} {sl__law_fault : Array (Option Value)} {oc__law_fault kV__law_fault dc__law_fault pm__law_fault cd__law_fault ct__law_fault : Value} {A__law_lines : Addr} {od__law_lines an__law_lines : Option Addr} {sl__law_lines : Array (Option Value)} {oc__law_lines kV__law_lines dc__law_lines pm__law_lines cd__law_lines ct__law_lines : Value} {A__law_number : Addr} {od__law_number an__law_number : Option Addr} {sl__law_number : Array (Option Value)} {oc__law_number kV__law_number dc__law_number pm__law_number cd__law_number ct__law_number : Value} {A__law_taken : Addr} {od__law_taken an__law_taken : Option Addr} {sl__law_taken : Array (Option Value)} {oc__law_taken kV__law_taken dc__law_taken pm__law_taken cd__law_taken ct__law_taken : Value} {A__law_reader : Addr} {od__law_reader an__law_reader : Option Addr} {sl__law_reader : Array (Option Value)} {oc__law_reader kV__law_reader dc__law_reader pm__law_reader cd__law_reader ct__law_reader : Value} {A__law_bent_line : Addr} {od__law_bent_line an__law_bent_line : Option Addr} {sl__law_bent_line : Array (Option Value)} {oc__law_bent_line kV__law_bent_line dc__law_bent_line pm__law_bent_line cd__law_bent_line ct__law_bent_line : Value} {A__law_bent_text : Addr} {od__law_bent_text an__law_bent_text : Option Addr} {sl__law_bent_text : Array (Option Value)} {oc__law_bent_text kV__law_bent_text dc__law_bent_text pm__law_bent_text cd__law_bent_text ct__law_bent_text : Value} {A__law_found : Addr} {od__law_found an__law_found : Option Addr} {sl__law_found : Array (Option Value)} {oc__law_found kV__law_found dc__law_found pm__law_found cd__law_found ct__law_found : Value} {A_law : Addr} {od_law an_law : Option Addr} {sl_law : Array (Option Value)} {oc_law kV_law dc_law pm_law cd_law ct_law : Value} {tk_MOST_SAID : Tok} {tk_ALL : Tok} {tk_MOST_STATES : Tok} {tk_MOST_COLOURS : Tok} {tk_DIGITS : Tok} {tk_MOST_DIGITS : Tok} {ta_HEADS : Addr} {td_HEADS : Option Addr} {ts_HEADS : Array (Option Value)} {tn_HEADS : Nat} {tt_HEADS_0 : Tok} {tt_HEADS_1 : Tok} {tt_HEADS_2 : Tok} {tt_HEADS_3 : Tok} {da_OPEN : Addr} {de_OPEN : Array DictEntry} {dn_OPEN : Nat} {dt_OPEN_leader : Tok} {dt_OPEN_lamp : Tok} (X : K.In h) (G : h.Ns mainGlobals mg) (hfa : mg "law" = some (.ref fa))
    (n_LampError : PySem.W.nsIn K mainGlobals "LampError" = some (some (.ref C_LampError)))
    (x_LampError : K.lookup C_LampError = some (excClassObj nm_LampError q_LampError C_LampError N_LampError bs_LampError veRest true sn_LampError sub_LampError ab_LampError col_LampError dd_LampError k0_LampError k1_LampError k2_LampError k3_LampError k5_LampError "ValueError.__new__"))
    (fi_LampError : PySem.W.findIn K (.ref C_LampError) "__init__" = some (some (.builtin "ValueError.__init__")))
    (sup_top : (P.main.scope.names.lookup ("super" : Str)).isSome = false)
    (sup_mg : PySem.W.nsIn K mainGlobals "super" = some none)
    (sup_opq : PySem.W.nsIn K cStatics "thirdparty.any" = some none)
    (n_BadProgram : PySem.W.nsIn K mainGlobals "BadProgram" = some (some (.ref C_BadProgram)))
    (x_BadProgram : K.lookup C_BadProgram = some (excClassObj nm_BadProgram q_BadProgram C_BadProgram N_BadProgram bs_BadProgram (lamTail C_LampError) true sn_BadProgram sub_BadProgram ab_BadProgram col_BadProgram dd_BadProgram k0_BadProgram k1_BadProgram k2_BadProgram k3_BadProgram k5_BadProgram "ValueError.__new__"))
    (sa_BadProgram : PySem.W.findIn K (.ref C_BadProgram) "__setattr__" = some (some (.builtin "object.__setattr__")))
    (eb_BadProgram : PySem.W.subIn K (.ref C_BadProgram) (.type "BaseException") = some true)
    (ty_BadProgram : PySem.W.typeIn K (.ref C_BadProgram) = some (.type "type"))
    (kc_BadProgram : PySem.W.keepIn K (.ref C_BadProgram) = true)
    (ni_BadProgram : PySem.W.findIn K (.ref C_BadProgram) "__init__" = some (some (.ref A_BadProgram)))
    (ti_BadProgram : PySem.W.typeIn K (.ref A_BadProgram) = some (.type "function"))
    (li_BadProgram : K.lookup A_BadProgram = some ⟨oc_BadProgram, od_BadProgram, .func (PySem.W.ksFn "__init__" "BadProgram.__init__" (defArgs (inClass (topS 2) 0)) (defBody (inClass (topS 2) 0)) (defScope (inClass (topS 2) 0)) .none kV_BadProgram dc_BadProgram pm_BadProgram an_BadProgram (.ref ca_BadProgram) ct_BadProgram cc_BadProgram), sl_BadProgram⟩)
    (ci_BadProgram : PySem.W.codeIn K (.ref ca_BadProgram) "BadProgram.__init__" = true)
    (cl_BadProgram : K.lookup cc_BadProgram = some ⟨x0_BadProgram, x1_BadProgram, .cell (some (.ref C_BadProgram)), x2_BadProgram⟩)
    (co_BadProgram : K.lookup ca_BadProgram = some ⟨coc_BadProgram, cod_BadProgram, .fields ⟨v0_BadProgram :: v1_BadProgram :: .str fi_BadProgram tf_BadProgram :: vr_BadProgram⟩, csl_BadProgram⟩)
    (fi_BadProgram : ((P.main.file : Str) == fi_BadProgram) = true)
    (sc_BadProgram : PySem.W.mroIn K C_BadProgram (.ref C_BadProgram) = some true)
    (sv_BadProgram : PySem.W.subIn K (.ref C_BadProgram) (.type "ValueError") = some true)
    (xn_BadProgram_what : PySem.W.findIn K (.ref C_BadProgram) "what" = some none)
    (n_BadText : PySem.W.nsIn K mainGlobals "BadText" = some (some (.ref C_BadText)))
    (x_BadText : K.lookup C_BadText = some (excClassObj nm_BadText q_BadText C_BadText N_BadText bs_BadText (lamTail C_LampError) true sn_BadText sub_BadText ab_BadText col_BadText dd_BadText k0_BadText k1_BadText k2_BadText k3_BadText k5_BadText "ValueError.__new__"))
    (sa_BadText : PySem.W.findIn K (.ref C_BadText) "__setattr__" = some (some (.builtin "object.__setattr__")))
    (eb_BadText : PySem.W.subIn K (.ref C_BadText) (.type "BaseException") = some true)
    (ty_BadText : PySem.W.typeIn K (.ref C_BadText) = some (.type "type"))
    (kc_BadText : PySem.W.keepIn K (.ref C_BadText) = true)
    (ni_BadText : PySem.W.findIn K (.ref C_BadText) "__init__" = some (some (.ref A_BadText)))
    (ti_BadText : PySem.W.typeIn K (.ref A_BadText) = some (.type "function"))
    (li_BadText : K.lookup A_BadText = some ⟨oc_BadText, od_BadText, .func (PySem.W.ksFn "__init__" "BadText.__init__" (defArgs (inClass (topS 3) 0)) (defBody (inClass (topS 3) 0)) (defScope (inClass (topS 3) 0)) .none kV_BadText dc_BadText pm_BadText an_BadText (.ref ca_BadText) ct_BadText cc_BadText), sl_BadText⟩)
    (ci_BadText : PySem.W.codeIn K (.ref ca_BadText) "BadText.__init__" = true)
    (cl_BadText : K.lookup cc_BadText = some ⟨x0_BadText, x1_BadText, .cell (some (.ref C_BadText)), x2_BadText⟩)
    (co_BadText : K.lookup ca_BadText = some ⟨coc_BadText, cod_BadText, .fields ⟨v0_BadText :: v1_BadText :: .str fi_BadText tf_BadText :: vr_BadText⟩, csl_BadText⟩)
    (fi_BadText : ((P.main.file : Str) == fi_BadText) = true)
    (sc_BadText : PySem.W.mroIn K C_BadText (.ref C_BadText) = some true)
    (sv_BadText : PySem.W.subIn K (.ref C_BadText) (.type "ValueError") = some true)
    (xn_BadText_line : PySem.W.findIn K (.ref C_BadText) "line" = some none)
    (xn_BadText_what : PySem.W.findIn K (.ref C_BadText) "what" = some none)
    (isc_BadProgram : PySem.W.isClsIn K C_BadProgram = true)
    (sub_BadProgram_BadProgram : PySem.W.subIn K (.ref C_BadProgram) (.ref C_BadProgram) = some true)
    (sub_BadText_BadProgram : PySem.W.subIn K (.ref C_BadText) (.ref C_BadProgram) = some false)
    (isc_BadText : PySem.W.isClsIn K C_BadText = true)
    (sub_BadProgram_BadText : PySem.W.subIn K (.ref C_BadProgram) (.ref C_BadText) = some false)
    (sub_BadText_BadText : PySem.W.subIn K (.ref C_BadText) (.ref C_BadText) = some true)
    (ga_BadProgram : PySem.W.findIn K (.ref C_BadProgram) "__getattribute__" = some (some (.builtin "BaseException.__getattribute__")))
    (gg_BadProgram : PySem.W.findIn K (.ref C_BadProgram) "__getattr__" = some none)
    (hd_BadProgram : PySem.W.hasDictIn K C_BadProgram = true)
    (ga_BadText : PySem.W.findIn K (.ref C_BadText) "__getattribute__" = some (some (.builtin "BaseException.__getattribute__")))
    (gg_BadText : PySem.W.findIn K (.ref C_BadText) "__getattr__" = some none)
    (hd_BadText : PySem.W.hasDictIn K C_BadText = true)
    (n_Program : PySem.W.nsIn K mainGlobals "Program" = some (some (.ref C_Program)))
    (pg_Program : PySem.W.plainGet K C_Program Str.empty = true)
    (hd_Program : PySem.W.hasDictIn K C_Program = true)
    (po_Program : PySem.W.plainOver K C_Program = true)
    (sa_Program : PySem.W.findIn K (.ref C_Program) "__setattr__" = some (some (.builtin "object.__setattr__")))
    (mk_Program : PySem.W.makesIn K C_Program = true)
    (kc_Program : PySem.W.keepIn K (.ref C_Program) = true)
    (n_LineReader : PySem.W.nsIn K mainGlobals "LineReader" = some (some (.ref C_LineReader)))
    (pg_LineReader : PySem.W.plainGet K C_LineReader Str.empty = true)
    (hd_LineReader : PySem.W.hasDictIn K C_LineReader = true)
    (po_LineReader : PySem.W.plainOver K C_LineReader = true)
    (sa_LineReader : PySem.W.findIn K (.ref C_LineReader) "__setattr__" = some (some (.builtin "object.__setattr__")))
    (mk_LineReader : PySem.W.makesIn K C_LineReader = true)
    (kc_LineReader : PySem.W.keepIn K (.ref C_LineReader) = true)
    (na_first_Program : NoAttr K C_Program "first")
    (na_lamp_Program : NoAttr K C_Program "lamp")
    (na_last_LineReader : NoAttr K C_LineReader "last")
    (na_leader_Program : NoAttr K C_Program "leader")
    (na_read_rows_LineReader : NoAttr K C_LineReader "read_rows")
    (na_steps_Program : NoAttr K C_Program "steps")
    (n_is_number : PySem.W.nsIn K mainGlobals "is_number" = some (some (.ref A_is_number)))
    (l_is_number : K.lookup A_is_number = some ⟨oc_is_number, od_is_number, .func (PySem.W.fnOf "is_number" "is_number" (defArgs (topS 7)) (defBody (topS 7)) (defScope (topS 7)) .none kV_is_number dc_is_number pm_is_number an_is_number cd_is_number ct_is_number), sl_is_number⟩)
    (c_is_number : PySem.W.codeIn K cd_is_number "is_number" = true)
    (k_is_number : PySem.W.keepIn K (.ref A_is_number) = true)
    (n_is_within : PySem.W.nsIn K mainGlobals "is_within" = some (some (.ref A_is_within)))
    (l_is_within : K.lookup A_is_within = some ⟨oc_is_within, od_is_within, .func (PySem.W.fnOf "is_within" "is_within" (defArgs (topS 8)) (defBody (topS 8)) (defScope (topS 8)) .none kV_is_within dc_is_within pm_is_within an_is_within cd_is_within ct_is_within), sl_is_within⟩)
    (c_is_within : PySem.W.codeIn K cd_is_within "is_within" = true)
    (k_is_within : PySem.W.keepIn K (.ref A_is_within) = true)
    (n_is_word : PySem.W.nsIn K mainGlobals "is_word" = some (some (.ref A_is_word)))
    (l_is_word : K.lookup A_is_word = some ⟨oc_is_word, od_is_word, .func (PySem.W.fnOf "is_word" "is_word" (defArgs (topS 9)) (defBody (topS 9)) (defScope (topS 9)) .none kV_is_word dc_is_word pm_is_word an_is_word cd_is_word ct_is_word), sl_is_word⟩)
    (c_is_word : PySem.W.codeIn K cd_is_word "is_word" = true)
    (k_is_word : PySem.W.keepIn K (.ref A_is_word) = true)
    (n_is_step : PySem.W.nsIn K mainGlobals "is_step" = some (some (.ref A_is_step)))
    (l_is_step : K.lookup A_is_step = some ⟨oc_is_step, od_is_step, .func (PySem.W.fnOf "is_step" "is_step" (defArgs (topS 13)) (defBody (topS 13)) (defScope (topS 13)) .none kV_is_step dc_is_step pm_is_step an_is_step cd_is_step ct_is_step), sl_is_step⟩)
    (c_is_step : PySem.W.codeIn K cd_is_step "is_step" = true)
    (k_is_step : PySem.W.keepIn K (.ref A_is_step) = true)
    (n_are_steps : PySem.W.nsIn K mainGlobals "are_steps" = some (some (.ref A_are_steps)))
    (l_are_steps : K.lookup A_are_steps = some ⟨oc_are_steps, od_are_steps, .func (PySem.W.fnOf "are_steps" "are_steps" (defArgs (topS 14)) (defBody (topS 14)) (defScope (topS 14)) .none kV_are_steps dc_are_steps pm_are_steps an_are_steps cd_are_steps ct_are_steps), sl_are_steps⟩)
    (c_are_steps : PySem.W.codeIn K cd_are_steps "are_steps" = true)
    (k_are_steps : PySem.W.keepIn K (.ref A_are_steps) = true)
    (n_number_in : PySem.W.nsIn K mainGlobals "number_in" = some (some (.ref A_number_in)))
    (l_number_in : K.lookup A_number_in = some ⟨oc_number_in, od_number_in, .func (PySem.W.fnOf "number_in" "number_in" (defArgs (topS 21)) (defBody (topS 21)) (defScope (topS 21)) .none kV_number_in dc_number_in pm_number_in an_number_in cd_number_in ct_number_in), sl_number_in⟩)
    (c_number_in : PySem.W.codeIn K cd_number_in "number_in" = true)
    (k_number_in : PySem.W.keepIn K (.ref A_number_in) = true)
    (n_is_saying_word : PySem.W.nsIn K mainGlobals "is_saying_word" = some (some (.ref A_is_saying_word)))
    (l_is_saying_word : K.lookup A_is_saying_word = some ⟨oc_is_saying_word, od_is_saying_word, .func (PySem.W.fnOf "is_saying_word" "is_saying_word" (defArgs (topS 22)) (defBody (topS 22)) (defScope (topS 22)) .none kV_is_saying_word dc_is_saying_word pm_is_saying_word an_is_saying_word cd_is_saying_word ct_is_saying_word), sl_is_saying_word⟩)
    (c_is_saying_word : PySem.W.codeIn K cd_is_saying_word "is_saying_word" = true)
    (k_is_saying_word : PySem.W.keepIn K (.ref A_is_saying_word) = true)
    (n_saying_in : PySem.W.nsIn K mainGlobals "saying_in" = some (some (.ref A_saying_in)))
    (l_saying_in : K.lookup A_saying_in = some ⟨oc_saying_in, od_saying_in, .func (PySem.W.fnOf "saying_in" "saying_in" (defArgs (topS 23)) (defBody (topS 23)) (defScope (topS 23)) .none kV_saying_in dc_saying_in pm_saying_in an_saying_in cd_saying_in ct_saying_in), sl_saying_in⟩)
    (c_saying_in : PySem.W.codeIn K cd_saying_in "saying_in" = true)
    (k_saying_in : PySem.W.keepIn K (.ref A_saying_in) = true)
    (n_LineReader_init : PySem.W.findIn K (.ref C_LineReader) "__init__" = some (some (.ref A_LineReader_init)))
    (i_LineReader_init : PySem.W.isFn K (.ref A_LineReader_init) = true)
    (l_LineReader_init : K.lookup A_LineReader_init = some ⟨oc_LineReader_init, od_LineReader_init, .func (PySem.W.fnOf "__init__" "LineReader.__init__" (defArgs (inClass (topS 24) 0)) (defBody (inClass (topS 24) 0)) (defScope (inClass (topS 24) 0)) .none kV_LineReader_init dc_LineReader_init pm_LineReader_init an_LineReader_init cd_LineReader_init ct_LineReader_init), sl_LineReader_init⟩)
    (c_LineReader_init : PySem.W.codeIn K cd_LineReader_init "LineReader.__init__" = true)
    (k_LineReader_init : PySem.W.keepIn K (.ref A_LineReader_init) = true)
    (n_LineReader_takes_row : PySem.W.findIn K (.ref C_LineReader) "takes_row" = some (some (.ref A_LineReader_takes_row)))
    (i_LineReader_takes_row : PySem.W.isFn K (.ref A_LineReader_takes_row) = true)
    (l_LineReader_takes_row : K.lookup A_LineReader_takes_row = some ⟨oc_LineReader_takes_row, od_LineReader_takes_row, .func (PySem.W.fnOf "takes_row" "LineReader.takes_row" (defArgs (inClass (topS 24) 2)) (defBody (inClass (topS 24) 2)) (defScope (inClass (topS 24) 2)) .none kV_LineReader_takes_row dc_LineReader_takes_row pm_LineReader_takes_row an_LineReader_takes_row cd_LineReader_takes_row ct_LineReader_takes_row), sl_LineReader_takes_row⟩)
    (c_LineReader_takes_row : PySem.W.codeIn K cd_LineReader_takes_row "LineReader.takes_row" = true)
    (k_LineReader_takes_row : PySem.W.keepIn K (.ref A_LineReader_takes_row) = true)
    (n_LineReader_takes : PySem.W.findIn K (.ref C_LineReader) "takes" = some (some (.ref A_LineReader_takes)))
    (i_LineReader_takes : PySem.W.isFn K (.ref A_LineReader_takes) = true)
    (l_LineReader_takes : K.lookup A_LineReader_takes = some ⟨oc_LineReader_takes, od_LineReader_takes, .func (PySem.W.fnOf "takes" "LineReader.takes" (defArgs (inClass (topS 24) 1)) (defBody (inClass (topS 24) 1)) (defScope (inClass (topS 24) 1)) .none kV_LineReader_takes dc_LineReader_takes pm_LineReader_takes an_LineReader_takes cd_LineReader_takes ct_LineReader_takes), sl_LineReader_takes⟩)
    (c_LineReader_takes : PySem.W.codeIn K cd_LineReader_takes "LineReader.takes" = true)
    (k_LineReader_takes : PySem.W.keepIn K (.ref A_LineReader_takes) = true)
    (n_Program_init : PySem.W.findIn K (.ref C_Program) "__init__" = some (some (.ref A_Program_init)))
    (i_Program_init : PySem.W.isFn K (.ref A_Program_init) = true)
    (l_Program_init : K.lookup A_Program_init = some ⟨oc_Program_init, od_Program_init, .func (PySem.W.fnOf "__init__" "Program.__init__" (defArgs (inClass (topS 15) 0)) (defBody (inClass (topS 15) 0)) (defScope (inClass (topS 15) 0)) .none kV_Program_init dc_Program_init pm_Program_init an_Program_init cd_Program_init ct_Program_init), sl_Program_init⟩)
    (c_Program_init : PySem.W.codeIn K cd_Program_init "Program.__init__" = true)
    (k_Program_init : PySem.W.keepIn K (.ref A_Program_init) = true)
    (n_read_program : PySem.W.nsIn K mainGlobals "read_program" = some (some (.ref A_read_program)))
    (l_read_program : K.lookup A_read_program = some ⟨oc_read_program, od_read_program, .func (PySem.W.fnOf "read_program" "read_program" (defArgs (topS 25)) (defBody (topS 25)) (defScope (topS 25)) .none kV_read_program dc_read_program pm_read_program an_read_program cd_read_program ct_read_program), sl_read_program⟩)
    (c_read_program : PySem.W.codeIn K cd_read_program "read_program" = true)
    (k_read_program : PySem.W.keepIn K (.ref A_read_program) = true)
    (n__law_pot : PySem.W.nsIn K mainGlobals "_law_pot" = some (some (.ref A__law_pot)))
    (l__law_pot : K.lookup A__law_pot = some ⟨oc__law_pot, od__law_pot, .func (PySem.W.fnOf "_law_pot" "_law_pot" (defArgs (topS 27)) (defBody (topS 27)) (defScope (topS 27)) .none kV__law_pot dc__law_pot pm__law_pot an__law_pot cd__law_pot ct__law_pot), sl__law_pot⟩)
    (c__law_pot : PySem.W.codeIn K cd__law_pot "_law_pot" = true)
    (k__law_pot : PySem.W.keepIn K (.ref A__law_pot) = true)
    (n__law_draw : PySem.W.nsIn K mainGlobals "_law_draw" = some (some (.ref A__law_draw)))
    (l__law_draw : K.lookup A__law_draw = some ⟨oc__law_draw, od__law_draw, .func (PySem.W.fnOf "_law_draw" "_law_draw" (defArgs (topS 28)) (defBody (topS 28)) (defScope (topS 28)) .none kV__law_draw dc__law_draw pm__law_draw an__law_draw cd__law_draw ct__law_draw), sl__law_draw⟩)
    (c__law_draw : PySem.W.codeIn K cd__law_draw "_law_draw" = true)
    (k__law_draw : PySem.W.keepIn K (.ref A__law_draw) = true)
    (n__law_pick : PySem.W.nsIn K mainGlobals "_law_pick" = some (some (.ref A__law_pick)))
    (l__law_pick : K.lookup A__law_pick = some ⟨oc__law_pick, od__law_pick, .func (PySem.W.fnOf "_law_pick" "_law_pick" (defArgs (topS 29)) (defBody (topS 29)) (defScope (topS 29)) .none kV__law_pick dc__law_pick pm__law_pick an__law_pick cd__law_pick ct__law_pick), sl__law_pick⟩)
    (c__law_pick : PySem.W.codeIn K cd__law_pick "_law_pick" = true)
    (k__law_pick : PySem.W.keepIn K (.ref A__law_pick) = true)
    (n__law_same : PySem.W.nsIn K mainGlobals "_law_same" = some (some (.ref A__law_same)))
    (l__law_same : K.lookup A__law_same = some ⟨oc__law_same, od__law_same, .func (PySem.W.fnOf "_law_same" "_law_same" (defArgs (topS 30)) (defBody (topS 30)) (defScope (topS 30)) .none kV__law_same dc__law_same pm__law_same an__law_same cd__law_same ct__law_same), sl__law_same⟩)
    (c__law_same : PySem.W.codeIn K cd__law_same "_law_same" = true)
    (k__law_same : PySem.W.keepIn K (.ref A__law_same) = true)
    (n__law_within : PySem.W.nsIn K mainGlobals "_law_within" = some (some (.ref A__law_within)))
    (l__law_within : K.lookup A__law_within = some ⟨oc__law_within, od__law_within, .func (PySem.W.fnOf "_law_within" "_law_within" (defArgs (topS 31)) (defBody (topS 31)) (defScope (topS 31)) .none kV__law_within dc__law_within pm__law_within an__law_within cd__law_within ct__law_within), sl__law_within⟩)
    (c__law_within : PySem.W.codeIn K cd__law_within "_law_within" = true)
    (k__law_within : PySem.W.keepIn K (.ref A__law_within) = true)
    (n__law_saying : PySem.W.nsIn K mainGlobals "_law_saying" = some (some (.ref A__law_saying)))
    (l__law_saying : K.lookup A__law_saying = some ⟨oc__law_saying, od__law_saying, .func (PySem.W.fnOf "_law_saying" "_law_saying" (defArgs (topS 32)) (defBody (topS 32)) (defScope (topS 32)) .none kV__law_saying dc__law_saying pm__law_saying an__law_saying cd__law_saying ct__law_saying), sl__law_saying⟩)
    (c__law_saying : PySem.W.codeIn K cd__law_saying "_law_saying" = true)
    (k__law_saying : PySem.W.keepIn K (.ref A__law_saying) = true)
    (n__law_spec : PySem.W.nsIn K mainGlobals "_law_spec" = some (some (.ref A__law_spec)))
    (l__law_spec : K.lookup A__law_spec = some ⟨oc__law_spec, od__law_spec, .func (PySem.W.fnOf "_law_spec" "_law_spec" (defArgs (topS 33)) (defBody (topS 33)) (defScope (topS 33)) .none kV__law_spec dc__law_spec pm__law_spec an__law_spec cd__law_spec ct__law_spec), sl__law_spec⟩)
    (c__law_spec : PySem.W.codeIn K cd__law_spec "_law_spec" = true)
    (k__law_spec : PySem.W.keepIn K (.ref A__law_spec) = true)
    (n__law_is_word : PySem.W.nsIn K mainGlobals "_law_is_word" = some (some (.ref A__law_is_word)))
    (l__law_is_word : K.lookup A__law_is_word = some ⟨oc__law_is_word, od__law_is_word, .func (PySem.W.fnOf "_law_is_word" "_law_is_word" (defArgs (topS 34)) (defBody (topS 34)) (defScope (topS 34)) .none kV__law_is_word dc__law_is_word pm__law_is_word an__law_is_word cd__law_is_word ct__law_is_word), sl__law_is_word⟩)
    (c__law_is_word : PySem.W.codeIn K cd__law_is_word "_law_is_word" = true)
    (k__law_is_word : PySem.W.keepIn K (.ref A__law_is_word) = true)
    (n__law_fault : PySem.W.nsIn K mainGlobals "_law_fault" = some (some (.ref A__law_fault)))
    (l__law_fault : K.lookup A__law_fault = some ⟨oc__law_fault, od__law_fault, .func (PySem.W.fnOf "_law_fault" "_law_fault" (defArgs (topS 35)) (defBody (topS 35)) (defScope (topS 35)) .none kV__law_fault dc__law_fault pm__law_fault an__law_fault cd__law_fault ct__law_fault), sl__law_fault⟩)
    (c__law_fault : PySem.W.codeIn K cd__law_fault "_law_fault" = true)
    (k__law_fault : PySem.W.keepIn K (.ref A__law_fault) = true)
    (n__law_lines : PySem.W.nsIn K mainGlobals "_law_lines" = some (some (.ref A__law_lines)))
    (l__law_lines : K.lookup A__law_lines = some ⟨oc__law_lines, od__law_lines, .func (PySem.W.fnOf "_law_lines" "_law_lines" (defArgs (topS 36)) (defBody (topS 36)) (defScope (topS 36)) .none kV__law_lines dc__law_lines pm__law_lines an__law_lines cd__law_lines ct__law_lines), sl__law_lines⟩)
    (c__law_lines : PySem.W.codeIn K cd__law_lines "_law_lines" = true)
    (k__law_lines : PySem.W.keepIn K (.ref A__law_lines) = true)
    (n__law_number : PySem.W.nsIn K mainGlobals "_law_number" = some (some (.ref A__law_number)))
    (l__law_number : K.lookup A__law_number = some ⟨oc__law_number, od__law_number, .func (PySem.W.fnOf "_law_number" "_law_number" (defArgs (topS 37)) (defBody (topS 37)) (defScope (topS 37)) .none kV__law_number dc__law_number pm__law_number an__law_number cd__law_number ct__law_number), sl__law_number⟩)
    (c__law_number : PySem.W.codeIn K cd__law_number "_law_number" = true)
    (k__law_number : PySem.W.keepIn K (.ref A__law_number) = true)
    (n__law_taken : PySem.W.nsIn K mainGlobals "_law_taken" = some (some (.ref A__law_taken)))
    (l__law_taken : K.lookup A__law_taken = some ⟨oc__law_taken, od__law_taken, .func (PySem.W.fnOf "_law_taken" "_law_taken" (defArgs (topS 38)) (defBody (topS 38)) (defScope (topS 38)) .none kV__law_taken dc__law_taken pm__law_taken an__law_taken cd__law_taken ct__law_taken), sl__law_taken⟩)
    (c__law_taken : PySem.W.codeIn K cd__law_taken "_law_taken" = true)
    (k__law_taken : PySem.W.keepIn K (.ref A__law_taken) = true)
    (n__law_reader : PySem.W.nsIn K mainGlobals "_law_reader" = some (some (.ref A__law_reader)))
    (l__law_reader : K.lookup A__law_reader = some ⟨oc__law_reader, od__law_reader, .func (PySem.W.fnOf "_law_reader" "_law_reader" (defArgs (topS 39)) (defBody (topS 39)) (defScope (topS 39)) .none kV__law_reader dc__law_reader pm__law_reader an__law_reader cd__law_reader ct__law_reader), sl__law_reader⟩)
    (c__law_reader : PySem.W.codeIn K cd__law_reader "_law_reader" = true)
    (k__law_reader : PySem.W.keepIn K (.ref A__law_reader) = true)
    (n__law_bent_line : PySem.W.nsIn K mainGlobals "_law_bent_line" = some (some (.ref A__law_bent_line)))
    (l__law_bent_line : K.lookup A__law_bent_line = some ⟨oc__law_bent_line, od__law_bent_line, .func (PySem.W.fnOf "_law_bent_line" "_law_bent_line" (defArgs (topS 40)) (defBody (topS 40)) (defScope (topS 40)) .none kV__law_bent_line dc__law_bent_line pm__law_bent_line an__law_bent_line cd__law_bent_line ct__law_bent_line), sl__law_bent_line⟩)
    (c__law_bent_line : PySem.W.codeIn K cd__law_bent_line "_law_bent_line" = true)
    (k__law_bent_line : PySem.W.keepIn K (.ref A__law_bent_line) = true)
    (n__law_bent_text : PySem.W.nsIn K mainGlobals "_law_bent_text" = some (some (.ref A__law_bent_text)))
    (l__law_bent_text : K.lookup A__law_bent_text = some ⟨oc__law_bent_text, od__law_bent_text, .func (PySem.W.fnOf "_law_bent_text" "_law_bent_text" (defArgs (topS 41)) (defBody (topS 41)) (defScope (topS 41)) .none kV__law_bent_text dc__law_bent_text pm__law_bent_text an__law_bent_text cd__law_bent_text ct__law_bent_text), sl__law_bent_text⟩)
    (c__law_bent_text : PySem.W.codeIn K cd__law_bent_text "_law_bent_text" = true)
    (k__law_bent_text : PySem.W.keepIn K (.ref A__law_bent_text) = true)
    (n__law_found : PySem.W.nsIn K mainGlobals "_law_found" = some (some (.ref A__law_found)))
    (l__law_found : K.lookup A__law_found = some ⟨oc__law_found, od__law_found, .func (PySem.W.fnOf "_law_found" "_law_found" (defArgs (topS 42)) (defBody (topS 42)) (defScope (topS 42)) .none kV__law_found dc__law_found pm__law_found an__law_found cd__law_found ct__law_found), sl__law_found⟩)
    (c__law_found : PySem.W.codeIn K cd__law_found "_law_found" = true)
    (k__law_found : PySem.W.keepIn K (.ref A__law_found) = true)
    (n_law : PySem.W.nsIn K mainGlobals "law" = some (some (.ref A_law)))
    (l_law : K.lookup A_law = some ⟨oc_law, od_law, .func (PySem.W.fnOf "law" "law" (defArgs (topS 43)) (defBody (topS 43)) (defScope (topS 43)) .none kV_law dc_law pm_law an_law cd_law ct_law), sl_law⟩)
    (c_law : PySem.W.codeIn K cd_law "law" = true)
    (k_law : PySem.W.keepIn K (.ref A_law) = true)
    (z_abs : PySem.W.nsIn K mainGlobals "abs" = some none)
    (z_all : PySem.W.nsIn K mainGlobals "all" = some none)
    (z_bool : PySem.W.nsIn K mainGlobals "bool" = some none)
    (z_enumerate : PySem.W.nsIn K mainGlobals "enumerate" = some none)
    (z_int : PySem.W.nsIn K mainGlobals "int" = some none)
    (z_isinstance : PySem.W.nsIn K mainGlobals "isinstance" = some none)
    (z_len : PySem.W.nsIn K mainGlobals "len" = some none)
    (z_list : PySem.W.nsIn K mainGlobals "list" = some none)
    (z_range : PySem.W.nsIn K mainGlobals "range" = some none)
    (z_str : PySem.W.nsIn K mainGlobals "str" = some none)
    (z_tuple : PySem.W.nsIn K mainGlobals "tuple" = some none)
    (kc_MOST_SAID : PySem.W.nsIn K mainGlobals "MOST_SAID" = some (some (.int 4 tk_MOST_SAID)))
    (kc_ALL : PySem.W.nsIn K mainGlobals "ALL" = some (some (.str (Str.ofString "all") tk_ALL)))
    (kc_MOST_STATES : PySem.W.nsIn K mainGlobals "MOST_STATES" = some (some (.int 5 tk_MOST_STATES)))
    (kc_MOST_COLOURS : PySem.W.nsIn K mainGlobals "MOST_COLOURS" = some (some (.int 4 tk_MOST_COLOURS)))
    (kc_DIGITS : PySem.W.nsIn K mainGlobals "DIGITS" = some (some (.str (Str.ofString "0123456789") tk_DIGITS)))
    (kc_MOST_DIGITS : PySem.W.nsIn K mainGlobals "MOST_DIGITS" = some (some (.int 6 tk_MOST_DIGITS)))
    (kc_HEADS : PySem.W.nsIn K mainGlobals "HEADS" = some (some (.ref ta_HEADS)))
    (kl_HEADS : K.lookup ta_HEADS = some ⟨.type "tuple", td_HEADS, .seq #[.str (Str.ofString "first") tt_HEADS_0, .str (Str.ofString "leader") tt_HEADS_1, .str (Str.ofString "lamp") tt_HEADS_2, .str (Str.ofString "end") tt_HEADS_3] tn_HEADS, ts_HEADS⟩)
    (kc_OPEN : PySem.W.nsIn K mainGlobals "OPEN" = some (some (.ref da_OPEN)))
    (kl_OPEN : K.lookup da_OPEN = some ⟨.type "dict", none, .dict de_OPEN dn_OPEN, #[]⟩)
    (kk_OPEN : PySem.W.KeysLit w.params de_OPEN.toList)
    (ks_OPEN : (da_OPEN == sysModules) = false)
    (kg_OPEN_first : PySem.W.nsIn K da_OPEN "first" = some none)
    (kg_OPEN_leader : PySem.W.nsIn K da_OPEN "leader" = some (some (.str (Str.ofString "none") dt_OPEN_leader)))
    (kg_OPEN_lamp : PySem.W.nsIn K da_OPEN "lamp" = some (some (.str (Str.ofString "any") dt_OPEN_lamp)))
    : ∃ T : Tx ⟨K, (tbF C_Program C_LineReader C_BadProgram C_BadText), none, []⟩ mg w P, T.a_law = fa ∧ (∀ (s : Shared) (u : Value), BindsTo s T.d_law ⟨[u], []⟩ [("script", u)]) := by
  have e := hfa.symm.trans (PySem.W.mg_of X G n_law)
  cases e
  have oe_BadProgram := oexC_of x_BadProgram sa_BadProgram eb_BadProgram ty_BadProgram kc_BadProgram
  have se_BadProgram : PySem.W.nsIn K mainGlobals "super" = some none := sup_mg
  have sp_BadProgram := supC_of (P := P) (mg := mg) (scope := defScope (inClass (topS 2) 0)) x_BadProgram x_LampError fi_LampError rfl rfl rfl cl_BadProgram li_BadProgram ⟨_, rfl, rfl⟩ co_BadProgram fi_BadProgram sup_top (PySem.W.mg_none_of X G sup_mg) sc_BadProgram sv_BadProgram sup_opq
  have ef_BadProgram : ∀ base : Heap, FnOk P w K mg base (L2.CX P w) 1 A_BadProgram _ ["self", "what"] (spX1 C_BadProgram "what") := fun base => ex_fn1 li_BadProgram ci_BadProgram ⟨rfl, rfl, rfl, by decide +kernel, rfl, by decide +kernel, by decide +kernel, by decide +kernel⟩ oe_BadProgram sp_BadProgram xn_BadProgram_what rfl (fun _ => ⟨_, rfl⟩)
  have eb2_BadProgram : Exc0 P w K mg C_BadProgram ["self", "what"] (spX1 C_BadProgram "what") := ⟨oe_BadProgram, A_BadProgram, _, ni_BadProgram, ti_BadProgram, ef_BadProgram, fun s us _ hl => match us, hl with | [_, _], _ => .of_eq rfl⟩
  have oe_BadText := oexC_of x_BadText sa_BadText eb_BadText ty_BadText kc_BadText
  have se_BadText : PySem.W.nsIn K mainGlobals "super" = some none := sup_mg
  have sp_BadText := supC_of (P := P) (mg := mg) (scope := defScope (inClass (topS 3) 0)) x_BadText x_LampError fi_LampError rfl rfl rfl cl_BadText li_BadText ⟨_, rfl, rfl⟩ co_BadText fi_BadText sup_top (PySem.W.mg_none_of X G sup_mg) sc_BadText sv_BadText sup_opq
  have ef_BadText : ∀ base : Heap, FnOk P w K mg base (L2.CX P w) 1 A_BadText _ ["self", "line", "what"] (spX2 C_BadText "line" "what") := fun base => ex_fn2 li_BadText ci_BadText ⟨rfl, rfl, rfl, by decide +kernel, rfl, by decide +kernel, by decide +kernel, by decide +kernel⟩ oe_BadText sp_BadText xn_BadText_line xn_BadText_what rfl (fun _ => ⟨_, rfl⟩)
  have eb2_BadText : Exc0 P w K mg C_BadText ["self", "line", "what"] (spX2 C_BadText "line" "what") := ⟨oe_BadText, A_BadText, _, ni_BadText, ti_BadText, ef_BadText, fun s us _ hl => match us, hl with | [_, _, _], _ => .of_eq rfl⟩
  have F_is_number := fun_mk (st := (topS 7)) l_is_number c_is_number k_is_number
  have B_is_number := F_is_number.binds (ps := ["value"]) fun _ _ _ _ _ _ us hl => match us, hl with | [_], _ => rfl
  have F_is_within := fun_mk (st := (topS 8)) l_is_within c_is_within k_is_within
  have B_is_within := F_is_within.binds (ps := ["value", "least", "most"]) fun _ _ _ _ _ _ us hl => match us, hl with | [_, _, _], _ => rfl
  have F_is_word := fun_mk (st := (topS 9)) l_is_word c_is_word k_is_word
  have B_is_word := F_is_word.binds (ps := ["value"]) fun _ _ _ _ _ _ us hl => match us, hl with | [_], _ => rfl
  have F_is_step := fun_mk (st := (topS 13)) l_is_step c_is_step k_is_step
  have B_is_step := F_is_step.binds (ps := ["value", "states", "colours"]) fun _ _ _ _ _ _ us hl => match us, hl with | [_, _, _], _ => rfl
  have F_are_steps := fun_mk (st := (topS 14)) l_are_steps c_are_steps k_are_steps
  have B_are_steps := F_are_steps.binds (ps := ["value"]) fun _ _ _ _ _ _ us hl => match us, hl with | [_], _ => rfl
  have F_number_in := fun_mk (st := (topS 21)) l_number_in c_number_in k_number_in
  have B_number_in := F_number_in.binds (ps := ["word"]) fun _ _ _ _ _ _ us hl => match us, hl with | [_], _ => rfl
  have F_is_saying_word := fun_mk (st := (topS 22)) l_is_saying_word c_is_saying_word k_is_saying_word
  have B_is_saying_word := F_is_saying_word.binds (ps := ["word"]) fun _ _ _ _ _ _ us hl => match us, hl with | [_], _ => rfl
  have F_saying_in := fun_mk (st := (topS 23)) l_saying_in c_saying_in k_saying_in
  have B_saying_in := F_saying_in.binds (ps := ["word"]) fun _ _ _ _ _ _ us hl => match us, hl with | [_], _ => rfl
  have F_LineReader_init := fun_mk (st := (inClass (topS 24) 0)) l_LineReader_init c_LineReader_init k_LineReader_init
  have B_LineReader_init := F_LineReader_init.binds (ps := ["self"]) fun _ _ _ _ _ _ us hl => match us, hl with | [_], _ => rfl
  have F_LineReader_takes_row := fun_mk (st := (inClass (topS 24) 2)) l_LineReader_takes_row c_LineReader_takes_row k_LineReader_takes_row
  have B_LineReader_takes_row := F_LineReader_takes_row.binds (ps := ["self", "words"]) fun _ _ _ _ _ _ us hl => match us, hl with | [_, _], _ => rfl
  have F_LineReader_takes := fun_mk (st := (inClass (topS 24) 1)) l_LineReader_takes c_LineReader_takes k_LineReader_takes
  have B_LineReader_takes := F_LineReader_takes.binds (ps := ["self", "words"]) fun _ _ _ _ _ _ us hl => match us, hl with | [_, _], _ => rfl
  have F_Program_init := fun_mk (st := (inClass (topS 15) 0)) l_Program_init c_Program_init k_Program_init
  have B_Program_init := F_Program_init.binds (ps := ["self", "steps", "first", "leader", "lamp"]) fun _ _ _ _ _ _ us hl => match us, hl with | [_, _, _, _, _], _ => rfl
  have F_read_program := fun_mk (st := (topS 25)) l_read_program c_read_program k_read_program
  have B_read_program := F_read_program.binds (ps := ["text"]) fun _ _ _ _ _ _ us hl => match us, hl with | [_], _ => rfl
  have F__law_pot := fun_mk (st := (topS 27)) l__law_pot c__law_pot k__law_pot
  have B__law_pot := F__law_pot.binds (ps := ["script"]) fun _ _ _ _ _ _ us hl => match us, hl with | [_], _ => rfl
  have F__law_draw := fun_mk (st := (topS 28)) l__law_draw c__law_draw k__law_draw
  have B__law_draw := F__law_draw.binds (ps := ["pot", "many"]) fun _ _ _ _ _ _ us hl => match us, hl with | [_, _], _ => rfl
  have F__law_pick := fun_mk (st := (topS 29)) l__law_pick c__law_pick k__law_pick
  have B__law_pick := F__law_pick.binds (ps := ["pot", "row"]) fun _ _ _ _ _ _ us hl => match us, hl with | [_, _], _ => rfl
  have F__law_same := fun_mk (st := (topS 30)) l__law_same c__law_same k__law_same
  have B__law_same := F__law_same.binds (ps := ["found", "due"]) fun _ _ _ _ _ _ us hl => match us, hl with | [_, _], _ => rfl
  have F__law_within := fun_mk (st := (topS 31)) l__law_within c__law_within k__law_within
  have B__law_within := F__law_within.binds (ps := ["thing", "low", "high"]) fun _ _ _ _ _ _ us hl => match us, hl with | [_, _, _], _ => rfl
  have F__law_saying := fun_mk (st := (topS 32)) l__law_saying c__law_saying k__law_saying
  have B__law_saying := F__law_saying.binds (ps := ["pot"]) fun _ _ _ _ _ _ us hl => match us, hl with | [_], _ => rfl
  have F__law_spec := fun_mk (st := (topS 33)) l__law_spec c__law_spec k__law_spec
  have B__law_spec := F__law_spec.binds (ps := ["pot", "most"]) fun _ _ _ _ _ _ us hl => match us, hl with | [_, _], _ => rfl
  have F__law_is_word := fun_mk (st := (topS 34)) l__law_is_word c__law_is_word k__law_is_word
  have B__law_is_word := F__law_is_word.binds (ps := ["thing"]) fun _ _ _ _ _ _ us hl => match us, hl with | [_], _ => rfl
  have F__law_fault := fun_mk (st := (topS 35)) l__law_fault c__law_fault k__law_fault
  have B__law_fault := F__law_fault.binds (ps := ["spec"]) fun _ _ _ _ _ _ us hl => match us, hl with | [_], _ => rfl
  have F__law_lines := fun_mk (st := (topS 36)) l__law_lines c__law_lines k__law_lines
  have B__law_lines := F__law_lines.binds (ps := ["spec"]) fun _ _ _ _ _ _ us hl => match us, hl with | [_], _ => rfl
  have F__law_number := fun_mk (st := (topS 37)) l__law_number c__law_number k__law_number
  have B__law_number := F__law_number.binds (ps := ["word"]) fun _ _ _ _ _ _ us hl => match us, hl with | [_], _ => rfl
  have F__law_taken := fun_mk (st := (topS 38)) l__law_taken c__law_taken k__law_taken
  have B__law_taken := F__law_taken.binds (ps := ["book", "words"]) fun _ _ _ _ _ _ us hl => match us, hl with | [_, _], _ => rfl
  have F__law_reader := fun_mk (st := (topS 39)) l__law_reader c__law_reader k__law_reader
  have B__law_reader := F__law_reader.binds (ps := ["text"]) fun _ _ _ _ _ _ us hl => match us, hl with | [_], _ => rfl
  have F__law_bent_line := fun_mk (st := (topS 40)) l__law_bent_line c__law_bent_line k__law_bent_line
  have B__law_bent_line := F__law_bent_line.binds (ps := ["pot", "line"]) fun _ _ _ _ _ _ us hl => match us, hl with | [_, _], _ => rfl
  have F__law_bent_text := fun_mk (st := (topS 41)) l__law_bent_text c__law_bent_text k__law_bent_text
  have B__law_bent_text := F__law_bent_text.binds (ps := ["pot", "lines"]) fun _ _ _ _ _ _ us hl => match us, hl with | [_, _], _ => rfl
  have F__law_found := fun_mk (st := (topS 42)) l__law_found c__law_found k__law_found
  have B__law_found := F__law_found.binds (ps := ["text"]) fun _ _ _ _ _ _ us hl => match us, hl with | [_], _ => rfl
  have F_law := fun_mk (st := (topS 43)) l_law c_law k_law
  have B_law := F_law.binds (ps := ["script"]) fun _ _ _ _ _ _ us hl => match us, hl with | [_], _ => rfl
  exact ⟨{
      xi0 := rfl,
      m_BadProgram := PySem.W.mg_of X G n_BadProgram,
      ex_BadProgram := eb2_BadProgram,
      m_BadText := PySem.W.mg_of X G n_BadText,
      ex_BadText := eb2_BadText,
      exm_BadProgram := exm_of eb_BadProgram isc_BadProgram ty_BadProgram sub_BadProgram_BadProgram,
      exn_BadProgram := fun c' h => by
        simp only [no_BadProgram, List.mem_cons, List.not_mem_nil, or_false] at h
        rcases h with rfl
        · exact exm_of eb_BadProgram isc_BadProgram ty_BadProgram sub_BadText_BadProgram,
      exm_BadText := exm_of eb_BadText isc_BadText ty_BadText sub_BadText_BadText,
      exn_BadText := fun c' h => by
        simp only [no_BadText, List.mem_cons, List.not_mem_nil, or_false] at h
        rcases h with rfl
        · exact exm_of eb_BadText isc_BadText ty_BadText sub_BadProgram_BadText,
      xn_BadProgram_what := xn_BadProgram_what,
      xn_BadText_line := xn_BadText_line,
      xn_BadText_what := xn_BadText_what,
      xf_BadProgram := ⟨ga_BadProgram, gg_BadProgram, eb_BadProgram, hd_BadProgram⟩,
      xf_BadText := ⟨ga_BadText, gg_BadText, eb_BadText, hd_BadText⟩,
      a_is_number := A_is_number,
      d_is_number := _,
      F_is_number := F_is_number,
      B_is_number := B_is_number,
      m_is_number := PySem.W.mg_of X G n_is_number,
      a_is_within := A_is_within,
      d_is_within := _,
      F_is_within := F_is_within,
      B_is_within := B_is_within,
      m_is_within := PySem.W.mg_of X G n_is_within,
      a_is_word := A_is_word,
      d_is_word := _,
      F_is_word := F_is_word,
      B_is_word := B_is_word,
      m_is_word := PySem.W.mg_of X G n_is_word,
      a_is_step := A_is_step,
      d_is_step := _,
      F_is_step := F_is_step,
      B_is_step := B_is_step,
      m_is_step := PySem.W.mg_of X G n_is_step,
      a_are_steps := A_are_steps,
      d_are_steps := _,
      F_are_steps := F_are_steps,
      B_are_steps := B_are_steps,
      m_are_steps := PySem.W.mg_of X G n_are_steps,
      a_number_in := A_number_in,
      d_number_in := _,
      F_number_in := F_number_in,
      B_number_in := B_number_in,
      m_number_in := PySem.W.mg_of X G n_number_in,
      a_is_saying_word := A_is_saying_word,
      d_is_saying_word := _,
      F_is_saying_word := F_is_saying_word,
      B_is_saying_word := B_is_saying_word,
      m_is_saying_word := PySem.W.mg_of X G n_is_saying_word,
      a_saying_in := A_saying_in,
      d_saying_in := _,
      F_saying_in := F_saying_in,
      B_saying_in := B_saying_in,
      m_saying_in := PySem.W.mg_of X G n_saying_in,
      a_LineReader_init := A_LineReader_init,
      d_LineReader_init := _,
      F_LineReader_init := F_LineReader_init,
      B_LineReader_init := B_LineReader_init,
      mk_LineReader := ⟨mk_LineReader, n_LineReader_init, i_LineReader_init, kc_LineReader⟩,
      a_LineReader_takes_row := A_LineReader_takes_row,
      d_LineReader_takes_row := _,
      F_LineReader_takes_row := F_LineReader_takes_row,
      B_LineReader_takes_row := B_LineReader_takes_row,
      me_LineReader_takes_row := ⟨n_LineReader_takes_row, i_LineReader_takes_row, k_LineReader_takes_row⟩,
      a_LineReader_takes := A_LineReader_takes,
      d_LineReader_takes := _,
      F_LineReader_takes := F_LineReader_takes,
      B_LineReader_takes := B_LineReader_takes,
      me_LineReader_takes := ⟨n_LineReader_takes, i_LineReader_takes, k_LineReader_takes⟩,
      a_Program_init := A_Program_init,
      d_Program_init := _,
      F_Program_init := F_Program_init,
      B_Program_init := B_Program_init,
      mk_Program := ⟨mk_Program, n_Program_init, i_Program_init, kc_Program⟩,
      a_read_program := A_read_program,
      d_read_program := _,
      F_read_program := F_read_program,
      B_read_program := B_read_program,
      m_read_program := PySem.W.mg_of X G n_read_program,
      a__law_pot := A__law_pot,
      d__law_pot := _,
      F__law_pot := F__law_pot,
      B__law_pot := B__law_pot,
      m__law_pot := PySem.W.mg_of X G n__law_pot,
      a__law_draw := A__law_draw,
      d__law_draw := _,
      F__law_draw := F__law_draw,
      B__law_draw := B__law_draw,
      m__law_draw := PySem.W.mg_of X G n__law_draw,
      a__law_pick := A__law_pick,
      d__law_pick := _,
      F__law_pick := F__law_pick,
      B__law_pick := B__law_pick,
      m__law_pick := PySem.W.mg_of X G n__law_pick,
      a__law_same := A__law_same,
      d__law_same := _,
      F__law_same := F__law_same,
      B__law_same := B__law_same,
      m__law_same := PySem.W.mg_of X G n__law_same,
      a__law_within := A__law_within,
      d__law_within := _,
      F__law_within := F__law_within,
      B__law_within := B__law_within,
      m__law_within := PySem.W.mg_of X G n__law_within,
      a__law_saying := A__law_saying,
      d__law_saying := _,
      F__law_saying := F__law_saying,
      B__law_saying := B__law_saying,
      m__law_saying := PySem.W.mg_of X G n__law_saying,
      a__law_spec := A__law_spec,
      d__law_spec := _,
      F__law_spec := F__law_spec,
      B__law_spec := B__law_spec,
      m__law_spec := PySem.W.mg_of X G n__law_spec,
      a__law_is_word := A__law_is_word,
      d__law_is_word := _,
      F__law_is_word := F__law_is_word,
      B__law_is_word := B__law_is_word,
      m__law_is_word := PySem.W.mg_of X G n__law_is_word,
      a__law_fault := A__law_fault,
      d__law_fault := _,
      F__law_fault := F__law_fault,
      B__law_fault := B__law_fault,
      m__law_fault := PySem.W.mg_of X G n__law_fault,
      a__law_lines := A__law_lines,
      d__law_lines := _,
      F__law_lines := F__law_lines,
      B__law_lines := B__law_lines,
      m__law_lines := PySem.W.mg_of X G n__law_lines,
      a__law_number := A__law_number,
      d__law_number := _,
      F__law_number := F__law_number,
      B__law_number := B__law_number,
      m__law_number := PySem.W.mg_of X G n__law_number,
      a__law_taken := A__law_taken,
      d__law_taken := _,
      F__law_taken := F__law_taken,
      B__law_taken := B__law_taken,
      m__law_taken := PySem.W.mg_of X G n__law_taken,
      a__law_reader := A__law_reader,
      d__law_reader := _,
      F__law_reader := F__law_reader,
      B__law_reader := B__law_reader,
      m__law_reader := PySem.W.mg_of X G n__law_reader,
      a__law_bent_line := A__law_bent_line,
      d__law_bent_line := _,
      F__law_bent_line := F__law_bent_line,
      B__law_bent_line := B__law_bent_line,
      m__law_bent_line := PySem.W.mg_of X G n__law_bent_line,
      a__law_bent_text := A__law_bent_text,
      d__law_bent_text := _,
      F__law_bent_text := F__law_bent_text,
      B__law_bent_text := B__law_bent_text,
      m__law_bent_text := PySem.W.mg_of X G n__law_bent_text,
      a__law_found := A__law_found,
      d__law_found := _,
      F__law_found := F__law_found,
      B__law_found := B__law_found,
      m__law_found := PySem.W.mg_of X G n__law_found,
      a_law := fa,
      d_law := _,
      F_law := F_law,
      B_law := B_law,
      m_law := PySem.W.mg_of X G n_law,
      m_Program := PySem.W.mg_of X G n_Program,
      cls_Program := ⟨pg_Program, hd_Program, po_Program, sa_Program⟩,
      m_LineReader := PySem.W.mg_of X G n_LineReader,
      cls_LineReader := ⟨pg_LineReader, hd_LineReader, po_LineReader, sa_LineReader⟩,
      na_first_Program := na_first_Program,
      na_lamp_Program := na_lamp_Program,
      na_last_LineReader := na_last_LineReader,
      na_leader_Program := na_leader_Program,
      na_read_rows_LineReader := na_read_rows_LineReader,
      na_steps_Program := na_steps_Program,
      z_abs := PySem.W.mg_none_of X G z_abs,
      z_all := PySem.W.mg_none_of X G z_all,
      z_bool := PySem.W.mg_none_of X G z_bool,
      z_enumerate := PySem.W.mg_none_of X G z_enumerate,
      z_int := PySem.W.mg_none_of X G z_int,
      z_isinstance := PySem.W.mg_none_of X G z_isinstance,
      z_len := PySem.W.mg_none_of X G z_len,
      z_list := PySem.W.mg_none_of X G z_list,
      z_range := PySem.W.mg_none_of X G z_range,
      z_str := PySem.W.mg_none_of X G z_str,
      z_tuple := PySem.W.mg_none_of X G z_tuple,
      t_MOST_SAID := tk_MOST_SAID,
      k_MOST_SAID := PySem.W.mg_of X G kc_MOST_SAID,
      t_ALL := tk_ALL,
      k_ALL := PySem.W.mg_of X G kc_ALL,
      t_MOST_STATES := tk_MOST_STATES,
      k_MOST_STATES := PySem.W.mg_of X G kc_MOST_STATES,
      t_MOST_COLOURS := tk_MOST_COLOURS,
      k_MOST_COLOURS := PySem.W.mg_of X G kc_MOST_COLOURS,
      t_DIGITS := tk_DIGITS,
      k_DIGITS := PySem.W.mg_of X G kc_DIGITS,
      t_MOST_DIGITS := tk_MOST_DIGITS,
      k_MOST_DIGITS := PySem.W.mg_of X G kc_MOST_DIGITS,
      k_HEADS := ⟨_, _, _, _, PySem.W.mg_of X G kc_HEADS, kl_HEADS, rfl, rfl, by show 4 ≤ sizeLine; decide, .cons ⟨_, rfl⟩ (.cons ⟨_, rfl⟩ (.cons ⟨_, rfl⟩ (.cons ⟨_, rfl⟩ (.nil))))⟩,
      k_OPEN := ⟨_, _, _, PySem.W.mg_of X G kc_OPEN, kl_OPEN, kk_OPEN, ks_OPEN⟩,
      kk_OPEN_first := fun a h => by
        have e := h.symm.trans (PySem.W.mg_of X G kc_OPEN)
        cases e
        exact ⟨_, kg_OPEN_first, rfl⟩,
      kk_OPEN_leader := fun a h => by
        have e := h.symm.trans (PySem.W.mg_of X G kc_OPEN)
        cases e
        exact ⟨_, kg_OPEN_leader, _, rfl⟩,
      kk_OPEN_lamp := fun a h => by
        have e := h.symm.trans (PySem.W.mg_of X G kc_OPEN)
        cases e
        exact ⟨_, kg_OPEN_lamp, _, rfl⟩ }, rfl, fun s v => .of_eq rfl⟩
def spLaw (K : PySem.W.Frag) : Sp := fun vs H Q _ => ∃ (a : Addr) (ns : List Int), vs = [.ref a] ∧ ns.length ≤ 63 ∧ Only H ∧ SqL K H a (ns.map V.int) ∧ ∀ H', Q (.bl true) H'
theorem end_ok {K : PySem.W.Frag} {tb : Nat → Addr} {P : Program} {w : World} {mg : Str → Option Value} {base : Heap} {k : Nat} {f : Addr} {fd : FuncData} {g : F} (h : FnOk P w K mg base (L2.CX P w) k f fd ["script"] (spF ⟨K, tb, none, []⟩ g))
    (hg : ∀ ns : List Int, ns.length ≤ 63 → ∃ st, g [.scr ns] [] = .ok (.bl true) st) : FnOk P w K mg base (L2.CX P w) k f fd ["script"] (spLaw K) := h.imp fun vs H Q E q => by
  obtain ⟨a, ns, rfl, hl, hO, hS, q⟩ := q
  obtain ⟨st, e⟩ := hg ns hl
  refine ⟨[], [], [.scr ns], ⟨rfl, List.nodup_nil, (fun i a c h _ => by simp at h), (fun a d fs z => by cases z), fun p hp => absurd hp (by simp)⟩, ?_, ?_⟩
  · simp only [RVs, RV]
    refine ⟨_, _, rfl, ⟨a, rfl, ?_⟩, rfl⟩
    rcases hS with (hS | ⟨o, hS⟩) | hS
    · rcases hO a with z | ⟨o, xs, z⟩
      · rw [z] at hS; cases hS
      · rw [z] at hS; cases hS
    · exact .inl ⟨o, hS⟩
    · exact .inr hS
  · rw [e]
    intro v m1 H1 _ _ r
    simp only [RV] at r
    subst r
    exact q H1
end K03

namespace K03
open PySem PySem.Spec PyProof.Rows L2 LF
local macro_rules | `(tactic| walk_at "wp") => `(tactic| repeat walk_at "w1")
local macro_rules | `(tactic| walk_at "fld") => `(tactic| repeat walk_at "f1")
local macro_rules
  | `(tactic| walk_at "w1") => `(tactic| with_reducible refine r_owp_iteF (by first | decide | assumption | (exact r_decF (by assumption)) | (exact r_decF (by omega)) | (exact r_notF (by assumption)) | (exact r_notF (r_decT (by assumption))) | (exact r_notF (r_decT (by omega))) | omega | (exact r_notF (by with_unfolding_all rfl)) | (simp [LF.isNon]; done) | (simp; omega)) ?_)
  | `(tactic| walk_at "f1") => `(tactic| with_reducible refine r_owp_iteF (by first | decide | assumption | (exact r_decF (by assumption)) | (exact r_decF (by omega)) | (exact r_notF (by assumption)) | (exact r_notF (r_decT (by assumption))) | (exact r_notF (r_decT (by omega))) | omega | (exact r_notF (by with_unfolding_all rfl)) | (simp [LF.isNon]; done) | (simp; omega)) ?_)
local macro_rules
  | `(tactic| walk_at "w1") => `(tactic| with_reducible refine r_owp_iteT (by first | decide | assumption | (exact tyOk_list (by assumption)) | (exact tyOk_str) | (exact r_decT (by assumption)) | (exact r_decT (by omega)) | (exact r_notT (by assumption)) | (exact r_notT (r_decF (by assumption))) | (exact r_notT (r_decF (by omega))) | omega | (with_unfolding_all rfl) | (simp [LF.isNon]; done) | (simp; omega)) ?_)
  | `(tactic| walk_at "f1") => `(tactic| with_reducible refine r_owp_iteT (by first | decide | assumption | (exact tyOk_list (by assumption)) | (exact tyOk_str) | (exact r_decT (by assumption)) | (exact r_decT (by omega)) | (exact r_notT (by assumption)) | (exact r_notT (r_decF (by assumption))) | (exact r_notT (r_decF (by omega))) | omega | (with_unfolding_all rfl) | (simp [LF.isNon]; done) | (simp; omega)) ?_)
local macro_rules
  | `(tactic| walk_at "w1") => `(tactic| with_reducible refine r_wp_iteF (by first | decide | assumption | (exact r_decF (by assumption)) | (exact r_decF (by omega)) | (exact r_notF (by assumption)) | (exact r_notF (r_decT (by assumption))) | (exact r_notF (r_decT (by omega))) | omega | (exact r_notF (by with_unfolding_all rfl)) | (simp [LF.isNon]; done) | (simp; omega)) ?_)
  | `(tactic| walk_at "f1") => `(tactic| with_reducible refine r_wp_iteF (by first | decide | assumption | (exact r_decF (by assumption)) | (exact r_decF (by omega)) | (exact r_notF (by assumption)) | (exact r_notF (r_decT (by assumption))) | (exact r_notF (r_decT (by omega))) | omega | (exact r_notF (by with_unfolding_all rfl)) | (simp [LF.isNon]; done) | (simp; omega)) ?_)
local macro_rules
  | `(tactic| walk_at "w1") => `(tactic| with_reducible refine r_wp_iteT (by first | decide | assumption | (exact tyOk_list (by assumption)) | (exact tyOk_str) | (exact r_decT (by assumption)) | (exact r_decT (by omega)) | (exact r_notT (by assumption)) | (exact r_notT (r_decF (by assumption))) | (exact r_notT (r_decF (by omega))) | omega | (with_unfolding_all rfl) | (simp [LF.isNon]; done) | (simp; omega)) ?_)
  | `(tactic| walk_at "f1") => `(tactic| with_reducible refine r_wp_iteT (by first | decide | assumption | (exact tyOk_list (by assumption)) | (exact tyOk_str) | (exact r_decT (by assumption)) | (exact r_decT (by omega)) | (exact r_notT (by assumption)) | (exact r_notT (r_decF (by assumption))) | (exact r_notT (r_decF (by omega))) | omega | (with_unfolding_all rfl) | (simp [LF.isNon]; done) | (simp; omega)) ?_)
local macro_rules
  | `(tactic| walk_at "w1") => `(tactic| with_reducible refine r_p_iteF (by first | decide | assumption | (exact r_decF (by assumption)) | (exact r_decF (by omega)) | (exact r_notF (by assumption)) | (exact r_notF (r_decT (by assumption))) | (exact r_notF (r_decT (by omega))) | omega | (exact r_notF (by with_unfolding_all rfl)) | (simp [LF.isNon]; done) | (simp; omega)) ?_)
  | `(tactic| walk_at "f1") => `(tactic| with_reducible refine r_p_iteF (by first | decide | assumption | (exact r_decF (by assumption)) | (exact r_decF (by omega)) | (exact r_notF (by assumption)) | (exact r_notF (r_decT (by assumption))) | (exact r_notF (r_decT (by omega))) | omega | (exact r_notF (by with_unfolding_all rfl)) | (simp [LF.isNon]; done) | (simp; omega)) ?_)
local macro_rules
  | `(tactic| walk_at "w1") => `(tactic| with_reducible refine r_p_iteT (by first | decide | assumption | (exact tyOk_list (by assumption)) | (exact tyOk_str) | (exact r_decT (by assumption)) | (exact r_decT (by omega)) | (exact r_notT (by assumption)) | (exact r_notT (r_decF (by assumption))) | (exact r_notT (r_decF (by omega))) | omega | (with_unfolding_all rfl) | (simp [LF.isNon]; done) | (simp; omega)) ?_)
  | `(tactic| walk_at "f1") => `(tactic| with_reducible refine r_p_iteT (by first | decide | assumption | (exact tyOk_list (by assumption)) | (exact tyOk_str) | (exact r_decT (by assumption)) | (exact r_decT (by omega)) | (exact r_notT (by assumption)) | (exact r_notT (r_decF (by assumption))) | (exact r_notT (r_decF (by omega))) | omega | (with_unfolding_all rfl) | (simp [LF.isNon]; done) | (simp; omega)) ?_)
local macro_rules
  | `(tactic| walk_at "w1") => `(tactic| with_reducible refine r_bF (by first | decide | assumption | (exact r_decF (by assumption)) | (exact r_decF (by omega)) | (exact r_notF (by assumption)) | (exact r_notF (r_decT (by assumption))) | (exact r_notF (r_decT (by omega))) | omega | (exact r_notF (by with_unfolding_all rfl)) | (simp [LF.isNon]; done) | (simp; omega)) ?_)
  | `(tactic| walk_at "f1") => `(tactic| with_reducible refine r_bF (by first | decide | assumption | (exact r_decF (by assumption)) | (exact r_decF (by omega)) | (exact r_notF (by assumption)) | (exact r_notF (r_decT (by assumption))) | (exact r_notF (r_decT (by omega))) | omega | (exact r_notF (by with_unfolding_all rfl)) | (simp [LF.isNon]; done) | (simp; omega)) ?_)
local macro_rules
  | `(tactic| walk_at "w1") => `(tactic| with_reducible refine r_bT (by first | decide | assumption | (exact tyOk_list (by assumption)) | (exact tyOk_str) | (exact r_decT (by assumption)) | (exact r_decT (by omega)) | (exact r_notT (by assumption)) | (exact r_notT (r_decF (by assumption))) | (exact r_notT (r_decF (by omega))) | omega | (with_unfolding_all rfl) | (simp [LF.isNon]; done) | (simp; omega)) ?_)
  | `(tactic| walk_at "f1") => `(tactic| with_reducible refine r_bT (by first | decide | assumption | (exact tyOk_list (by assumption)) | (exact tyOk_str) | (exact r_decT (by assumption)) | (exact r_decT (by omega)) | (exact r_notT (by assumption)) | (exact r_notT (r_decF (by assumption))) | (exact r_notT (r_decF (by omega))) | omega | (with_unfolding_all rfl) | (simp [LF.isNon]; done) | (simp; omega)) ?_)
local macro_rules
  | `(tactic| walk_at "w1") => `(tactic| with_reducible refine r_tF (by first | decide | assumption | (exact r_decF (by assumption)) | (exact r_decF (by omega)) | (exact r_notF (by assumption)) | (exact r_notF (r_decT (by assumption))) | (exact r_notF (r_decT (by omega))) | omega | (exact r_notF (by with_unfolding_all rfl)) | (simp [LF.isNon]; done) | (simp; omega)) ?_)
  | `(tactic| walk_at "f1") => `(tactic| with_reducible refine r_tF (by first | decide | assumption | (exact r_decF (by assumption)) | (exact r_decF (by omega)) | (exact r_notF (by assumption)) | (exact r_notF (r_decT (by assumption))) | (exact r_notF (r_decT (by omega))) | omega | (exact r_notF (by with_unfolding_all rfl)) | (simp [LF.isNon]; done) | (simp; omega)) ?_)
local macro_rules
  | `(tactic| walk_at "w1") => `(tactic| with_reducible refine r_tT (by first | decide | assumption | (exact tyOk_list (by assumption)) | (exact tyOk_str) | (exact r_decT (by assumption)) | (exact r_decT (by omega)) | (exact r_notT (by assumption)) | (exact r_notT (r_decF (by assumption))) | (exact r_notT (r_decF (by omega))) | omega | (with_unfolding_all rfl) | (simp [LF.isNon]; done) | (simp; omega)) ?_)
  | `(tactic| walk_at "f1") => `(tactic| with_reducible refine r_tT (by first | decide | assumption | (exact tyOk_list (by assumption)) | (exact tyOk_str) | (exact r_decT (by assumption)) | (exact r_decT (by omega)) | (exact r_notT (by assumption)) | (exact r_notT (r_decF (by assumption))) | (exact r_notT (r_decF (by omega))) | omega | (with_unfolding_all rfl) | (simp [LF.isNon]; done) | (simp; omega)) ?_)
local macro_rules
  | `(tactic| walk_at "w1") => `(tactic| with_reducible refine r_onObj (by assumption) (by with_unfolding_all rfl) ?_)
  | `(tactic| walk_at "f1") => `(tactic| with_reducible refine r_onObj (by assumption) (by with_unfolding_all rfl) ?_)
local macro_rules
  | `(tactic| walk_at "w1") => `(tactic| with_reducible refine r_itL (by assumption) ?_)
  | `(tactic| walk_at "f1") => `(tactic| with_reducible refine r_itL (by assumption) ?_)
local macro_rules
  | `(tactic| walk_at "w1") => `(tactic| with_reducible refine r_onEnL (by assumption) ?_)
  | `(tactic| walk_at "f1") => `(tactic| with_reducible refine r_onEnL (by assumption) ?_)
local macro_rules
  | `(tactic| walk_at "w1") => `(tactic| with_reducible refine r_onLst (by assumption) ?_)
  | `(tactic| walk_at "f1") => `(tactic| with_reducible refine r_onLst (by assumption) ?_)
local macro_rules
  | `(tactic| walk_at "w1") => `(tactic| with_reducible refine r_both (by omega) ?_)
  | `(tactic| walk_at "f1") => `(tactic| with_reducible refine r_both (by omega) ?_)
local macro_rules
  | `(tactic| walk_at "w1") => `(tactic| with_reducible refine w_isiDF (by assumption) (by with_unfolding_all rfl) (by with_unfolding_all rfl) (by decide +kernel) ?_)
  | `(tactic| walk_at "f1") => `(tactic| with_reducible refine w_isiDF (by assumption) (by with_unfolding_all rfl) (by with_unfolding_all rfl) (by decide +kernel) ?_)
local macro_rules
  | `(tactic| walk_at "w1") => `(tactic| with_reducible refine w_isiCF (by assumption) (by with_unfolding_all rfl) (by with_unfolding_all rfl) (by decide +kernel) ?_)
  | `(tactic| walk_at "f1") => `(tactic| with_reducible refine w_isiCF (by assumption) (by with_unfolding_all rfl) (by with_unfolding_all rfl) (by decide +kernel) ?_)
local macro_rules
  | `(tactic| walk_at "w1") => `(tactic| with_reducible refine w_isiRF (by assumption) (by with_unfolding_all rfl) (by with_unfolding_all rfl) (by decide +kernel) ?_)
  | `(tactic| walk_at "f1") => `(tactic| with_reducible refine w_isiRF (by assumption) (by with_unfolding_all rfl) (by with_unfolding_all rfl) (by decide +kernel) ?_)
local macro_rules
  | `(tactic| walk_at "w1") => `(tactic| with_reducible refine w_isiF (by with_unfolding_all rfl) (by decide +kernel) (by with_unfolding_all (intro r h; cases h)) ?_)
  | `(tactic| walk_at "f1") => `(tactic| with_reducible refine w_isiF (by with_unfolding_all rfl) (by decide +kernel) (by with_unfolding_all (intro r h; cases h)) ?_)
local macro_rules
  | `(tactic| walk_at "w1") => `(tactic| with_reducible refine w_isiCT (by assumption) (by with_unfolding_all rfl) (by with_unfolding_all rfl) (by decide +kernel) ?_)
  | `(tactic| walk_at "f1") => `(tactic| with_reducible refine w_isiCT (by assumption) (by with_unfolding_all rfl) (by with_unfolding_all rfl) (by decide +kernel) ?_)
local macro_rules
  | `(tactic| walk_at "w1") => `(tactic| with_reducible refine w_isiRT (by assumption) (by with_unfolding_all rfl) (by with_unfolding_all rfl) (by decide +kernel) ?_)
  | `(tactic| walk_at "f1") => `(tactic| with_reducible refine w_isiRT (by assumption) (by with_unfolding_all rfl) (by with_unfolding_all rfl) (by decide +kernel) ?_)
local macro_rules
  | `(tactic| walk_at "w1") => `(tactic| with_reducible refine w_isiT (by with_unfolding_all rfl) (by decide +kernel) (by with_unfolding_all (intro r h; cases h)) ?_)
  | `(tactic| walk_at "f1") => `(tactic| with_reducible refine w_isiT (by with_unfolding_all rfl) (by decide +kernel) (by with_unfolding_all (intro r h; cases h)) ?_)
local macro_rules
  | `(tactic| walk_at "w1") => `(tactic| with_reducible refine w_mulYI (by omega) ?_)
  | `(tactic| walk_at "f1") => `(tactic| with_reducible refine w_mulYI (by omega) ?_)
local macro_rules
  | `(tactic| walk_at "w1") => `(tactic| with_reducible refine w_mulXI (by omega) ?_)
  | `(tactic| walk_at "f1") => `(tactic| with_reducible refine w_mulXI (by omega) ?_)
local macro_rules
  | `(tactic| walk_at "w1") => `(tactic| with_reducible refine w_mul (by omega) ?_)
  | `(tactic| walk_at "f1") => `(tactic| with_reducible refine w_mul (by omega) ?_)
local macro_rules
  | `(tactic| walk_at "w1") => `(tactic| with_reducible refine w_div (by omega) (by omega) ?_)
  | `(tactic| walk_at "f1") => `(tactic| with_reducible refine w_div (by omega) (by omega) ?_)
local macro_rules
  | `(tactic| walk_at "w1") => `(tactic| with_reducible refine w_mod (by omega) ?_)
  | `(tactic| walk_at "f1") => `(tactic| with_reducible refine w_mod (by omega) ?_)
local macro_rules
  | `(tactic| walk_at "w1") => `(tactic| with_reducible refine w_tupleL (by assumption) ?_)
  | `(tactic| walk_at "f1") => `(tactic| with_reducible refine w_tupleL (by assumption) ?_)
local macro_rules
  | `(tactic| walk_at "w1") => `(tactic| with_reducible refine w_fld (by assumption) (by with_unfolding_all rfl) (by with_unfolding_all rfl) ?_)
  | `(tactic| walk_at "f1") => `(tactic| with_reducible refine w_fld (by assumption) (by with_unfolding_all rfl) (by with_unfolding_all rfl) ?_)
local macro_rules
  | `(tactic| walk_at "w1") => `(tactic| with_reducible refine w_lenL (by assumption) ?_)
  | `(tactic| walk_at "f1") => `(tactic| with_reducible refine w_lenL (by assumption) ?_)
local macro_rules
  | `(tactic| walk_at "w1") => `(tactic| with_reducible refine w_ixT (by with_unfolding_all rfl) ?_)
  | `(tactic| walk_at "f1") => `(tactic| with_reducible refine w_ixT (by with_unfolding_all rfl) ?_)
local macro_rules
  | `(tactic| walk_at "w1") => `(tactic| with_reducible refine w_ixL (by assumption) (by with_unfolding_all rfl) ?_)
  | `(tactic| walk_at "f1") => `(tactic| with_reducible refine w_ixL (by assumption) (by with_unfolding_all rfl) ?_)
local macro_rules
  | `(tactic| walk_at "w1") => `(tactic| with_reducible refine r_var (by with_unfolding_all rfl) ?_)
  | `(tactic| walk_at "f1") => `(tactic| with_reducible refine r_var (by with_unfolding_all rfl) ?_)
local macro_rules
  | `(tactic| walk_at "w1") => `(tactic| ((with_reducible refine r_par3 ?_); (try dsimp only [List.set])))
  | `(tactic| walk_at "f1") => `(tactic| ((with_reducible refine r_par3 ?_); (try dsimp only [List.set])))
local macro_rules
  | `(tactic| walk_at "w1") => `(tactic| ((with_reducible refine r_owp_par ?_); (try dsimp only [List.set])))
  | `(tactic| walk_at "f1") => `(tactic| ((with_reducible refine r_owp_par ?_); (try dsimp only [List.set])))
local macro_rules
  | `(tactic| walk_at "w1") => `(tactic| ((with_reducible refine r_owp_asg ?_); (try dsimp only [List.set])))
  | `(tactic| walk_at "f1") => `(tactic| ((with_reducible refine r_owp_asg ?_); (try dsimp only [List.set])))
local macro_rules
  | `(tactic| walk_at "w1") => `(tactic| with_reducible refine q_iSs ?_)
  | `(tactic| walk_at "f1") => `(tactic| with_reducible refine q_iSs ?_)
local macro_rules
  | `(tactic| walk_at "w1") => `(tactic| with_reducible refine r_onEnT ?_)
  | `(tactic| walk_at "f1") => `(tactic| with_reducible refine r_onEnT ?_)
local macro_rules
  | `(tactic| walk_at "w1") => `(tactic| with_reducible refine q_iEnX ?_)
  | `(tactic| walk_at "f1") => `(tactic| with_reducible refine q_iEnX ?_)
local macro_rules
  | `(tactic| walk_at "w1") => `(tactic| with_reducible refine r_asgT ?_)
  | `(tactic| walk_at "f1") => `(tactic| with_reducible refine r_asgT ?_)
local macro_rules
  | `(tactic| walk_at "w1") => `(tactic| with_reducible refine r_onSeqT ?_)
  | `(tactic| walk_at "f1") => `(tactic| with_reducible refine r_onSeqT ?_)
local macro_rules
  | `(tactic| walk_at "w1") => `(tactic| with_reducible refine r_xstar ?_)
  | `(tactic| walk_at "f1") => `(tactic| with_reducible refine r_xstar ?_)
local macro_rules
  | `(tactic| walk_at "w1") => `(tactic| with_reducible refine r_xcons ?_)
  | `(tactic| walk_at "f1") => `(tactic| with_reducible refine r_xcons ?_)
local macro_rules
  | `(tactic| walk_at "w1") => `(tactic| with_reducible refine r_xnil ?_)
  | `(tactic| walk_at "f1") => `(tactic| with_reducible refine r_xnil ?_)
local macro_rules
  | `(tactic| walk_at "w1") => `(tactic| with_reducible refine r_bltX ?_)
  | `(tactic| walk_at "f1") => `(tactic| with_reducible refine r_bltX ?_)
local macro_rules
  | `(tactic| walk_at "w1") => `(tactic| with_reducible refine w_subBB ?_)
  | `(tactic| walk_at "f1") => `(tactic| with_reducible refine w_subBB ?_)
local macro_rules
  | `(tactic| walk_at "w1") => `(tactic| with_reducible refine w_subBI ?_)
  | `(tactic| walk_at "f1") => `(tactic| with_reducible refine w_subBI ?_)
local macro_rules
  | `(tactic| walk_at "w1") => `(tactic| with_reducible refine w_addBB ?_)
  | `(tactic| walk_at "f1") => `(tactic| with_reducible refine w_addBB ?_)
local macro_rules
  | `(tactic| walk_at "w1") => `(tactic| with_reducible refine w_addBI ?_)
  | `(tactic| walk_at "f1") => `(tactic| with_reducible refine w_addBI ?_)
local macro_rules
  | `(tactic| walk_at "w1") => `(tactic| with_reducible refine w_strBS ?_)
  | `(tactic| walk_at "f1") => `(tactic| with_reducible refine w_strBS ?_)
local macro_rules
  | `(tactic| walk_at "w1") => `(tactic| with_reducible refine w_slT ?_)
  | `(tactic| walk_at "f1") => `(tactic| with_reducible refine w_slT ?_)
local macro_rules
  | `(tactic| walk_at "w1") => `(tactic| with_reducible refine r_try_ex ?_)
  | `(tactic| walk_at "f1") => `(tactic| with_reducible refine r_try_ex ?_)
local macro_rules
  | `(tactic| walk_at "w1") => `(tactic| with_reducible refine r_try_rt ?_)
  | `(tactic| walk_at "f1") => `(tactic| with_reducible refine r_try_rt ?_)
local macro_rules
  | `(tactic| walk_at "w1") => `(tactic| with_reducible refine r_try_nx ?_)
  | `(tactic| walk_at "f1") => `(tactic| with_reducible refine r_try_nx ?_)
local macro_rules
  | `(tactic| walk_at "w1") => `(tactic| with_reducible refine r_try ?_)
  | `(tactic| walk_at "f1") => `(tactic| with_reducible refine r_try ?_)
local macro_rules
  | `(tactic| walk_at "w1") => `(tactic| with_reducible refine r_raise2 ?_)
  | `(tactic| walk_at "f1") => `(tactic| with_reducible refine r_raise2 ?_)
local macro_rules
  | `(tactic| walk_at "w1") => `(tactic| with_reducible refine r_raise1 ?_)
  | `(tactic| walk_at "f1") => `(tactic| with_reducible refine r_raise1 ?_)
local macro_rules
  | `(tactic| walk_at "w1") => `(tactic| with_reducible refine r_raise0 ?_)
  | `(tactic| walk_at "f1") => `(tactic| with_reducible refine r_raise0 ?_)
local macro_rules
  | `(tactic| walk_at "w1") => `(tactic| with_reducible refine w_neg ?_)
  | `(tactic| walk_at "f1") => `(tactic| with_reducible refine w_neg ?_)
local macro_rules
  | `(tactic| walk_at "w1") => `(tactic| with_reducible refine w_neB ?_)
  | `(tactic| walk_at "f1") => `(tactic| with_reducible refine w_neB ?_)
local macro_rules
  | `(tactic| walk_at "w1") => `(tactic| with_reducible refine w_eqB ?_)
  | `(tactic| walk_at "f1") => `(tactic| with_reducible refine w_eqB ?_)
local macro_rules
  | `(tactic| walk_at "w1") => `(tactic| with_reducible refine w_neI ?_)
  | `(tactic| walk_at "f1") => `(tactic| with_reducible refine w_neI ?_)
local macro_rules
  | `(tactic| walk_at "w1") => `(tactic| with_reducible refine w_eqI ?_)
  | `(tactic| walk_at "f1") => `(tactic| with_reducible refine w_eqI ?_)
local macro_rules
  | `(tactic| walk_at "w1") => `(tactic| with_reducible refine w_abs ?_)
  | `(tactic| walk_at "f1") => `(tactic| with_reducible refine w_abs ?_)
local macro_rules
  | `(tactic| walk_at "w1") => `(tactic| with_reducible refine w_strS ?_)
  | `(tactic| walk_at "f1") => `(tactic| with_reducible refine w_strS ?_)
local macro_rules
  | `(tactic| walk_at "w1") => `(tactic| with_reducible refine w_intI ?_)
  | `(tactic| walk_at "f1") => `(tactic| with_reducible refine w_intI ?_)
local macro_rules
  | `(tactic| walk_at "w1") => `(tactic| with_reducible refine w_lenT ?_)
  | `(tactic| walk_at "f1") => `(tactic| with_reducible refine w_lenT ?_)
local macro_rules
  | `(tactic| walk_at "w1") => `(tactic| with_reducible refine w_isNot ?_)
  | `(tactic| walk_at "f1") => `(tactic| with_reducible refine w_isNot ?_)
local macro_rules
  | `(tactic| walk_at "w1") => `(tactic| with_reducible refine w_is ?_)
  | `(tactic| walk_at "f1") => `(tactic| with_reducible refine w_is ?_)
local macro_rules
  | `(tactic| walk_at "w1") => `(tactic| with_reducible refine w_ge ?_)
  | `(tactic| walk_at "f1") => `(tactic| with_reducible refine w_ge ?_)
local macro_rules
  | `(tactic| walk_at "w1") => `(tactic| with_reducible refine w_gt ?_)
  | `(tactic| walk_at "f1") => `(tactic| with_reducible refine w_gt ?_)
local macro_rules
  | `(tactic| walk_at "w1") => `(tactic| with_reducible refine w_le ?_)
  | `(tactic| walk_at "f1") => `(tactic| with_reducible refine w_le ?_)
local macro_rules
  | `(tactic| walk_at "w1") => `(tactic| with_reducible refine w_lt ?_)
  | `(tactic| walk_at "f1") => `(tactic| with_reducible refine w_lt ?_)
local macro_rules
  | `(tactic| walk_at "w1") => `(tactic| with_reducible refine w_sub ?_)
  | `(tactic| walk_at "f1") => `(tactic| with_reducible refine w_sub ?_)
local macro_rules
  | `(tactic| walk_at "w1") => `(tactic| with_reducible refine w_addI ?_)
  | `(tactic| walk_at "f1") => `(tactic| with_reducible refine w_addI ?_)
local macro_rules
  | `(tactic| walk_at "w1") => `(tactic| with_reducible refine r_wo_some ?_)
  | `(tactic| walk_at "f1") => `(tactic| with_reducible refine r_wo_some ?_)
local macro_rules
  | `(tactic| walk_at "w1") => `(tactic| with_reducible refine r_wp_ok ?_)
  | `(tactic| walk_at "f1") => `(tactic| with_reducible refine r_wp_ok ?_)
local macro_rules
  | `(tactic| walk_at "w1") => `(tactic| with_reducible refine r_wp_ofO ?_)
  | `(tactic| walk_at "f1") => `(tactic| with_reducible refine r_wp_ofO ?_)
local macro_rules
  | `(tactic| walk_at "w1") => `(tactic| with_reducible refine r_wp_bind ?_)
  | `(tactic| walk_at "f1") => `(tactic| with_reducible refine r_wp_bind ?_)
local macro_rules
  | `(tactic| walk_at "w1") => `(tactic| with_reducible refine r_itS ?_)
  | `(tactic| walk_at "f1") => `(tactic| with_reducible refine r_itS ?_)
local macro_rules
  | `(tactic| walk_at "w1") => `(tactic| with_reducible refine r_itT ?_)
  | `(tactic| walk_at "f1") => `(tactic| with_reducible refine r_itT ?_)
local macro_rules
  | `(tactic| walk_at "w1") => `(tactic| with_reducible refine r_onNon ?_)
  | `(tactic| walk_at "f1") => `(tactic| with_reducible refine r_onNon ?_)
local macro_rules
  | `(tactic| walk_at "w1") => `(tactic| with_reducible refine r_onStr ?_)
  | `(tactic| walk_at "f1") => `(tactic| with_reducible refine r_onStr ?_)
local macro_rules
  | `(tactic| walk_at "w1") => `(tactic| with_reducible refine r_onInt ?_)
  | `(tactic| walk_at "f1") => `(tactic| with_reducible refine r_onInt ?_)
local macro_rules
  | `(tactic| walk_at "w1") => `(tactic| with_reducible refine r_onBl ?_)
  | `(tactic| walk_at "f1") => `(tactic| with_reducible refine r_onBl ?_)
local macro_rules
  | `(tactic| walk_at "w1") => `(tactic| with_reducible refine q_iEn ?_)
  | `(tactic| walk_at "f1") => `(tactic| with_reducible refine q_iEn ?_)
local macro_rules
  | `(tactic| walk_at "w1") => `(tactic| with_reducible refine q_iR2 ?_)
  | `(tactic| walk_at "f1") => `(tactic| with_reducible refine q_iR2 ?_)
local macro_rules
  | `(tactic| walk_at "w1") => `(tactic| with_reducible refine q_iR1 ?_)
  | `(tactic| walk_at "f1") => `(tactic| with_reducible refine q_iR1 ?_)
local macro_rules
  | `(tactic| walk_at "w1") => `(tactic| with_reducible refine q_iS ?_)
  | `(tactic| walk_at "f1") => `(tactic| with_reducible refine q_iS ?_)
local macro_rules
  | `(tactic| walk_at "w1") => `(tactic| with_reducible refine r_wp_sl ?_)
  | `(tactic| walk_at "f1") => `(tactic| with_reducible refine r_wp_sl ?_)
local macro_rules
  | `(tactic| walk_at "w1") => `(tactic| with_reducible refine q_part ?_)
  | `(tactic| walk_at "f1") => `(tactic| with_reducible refine q_part ?_)
local macro_rules
  | `(tactic| walk_at "w1") => `(tactic| with_reducible refine r_wp_partN ?_)
  | `(tactic| walk_at "f1") => `(tactic| with_reducible refine r_wp_partN ?_)
local macro_rules
  | `(tactic| walk_at "w1") => `(tactic| with_reducible refine q_join ?_)
  | `(tactic| walk_at "f1") => `(tactic| with_reducible refine q_join ?_)
local macro_rules
  | `(tactic| walk_at "w1") => `(tactic| with_reducible refine r_wp_joinN ?_)
  | `(tactic| walk_at "f1") => `(tactic| with_reducible refine r_wp_joinN ?_)
local macro_rules
  | `(tactic| walk_at "w1") => `(tactic| with_reducible refine q_fmt ?_)
  | `(tactic| walk_at "f1") => `(tactic| with_reducible refine q_fmt ?_)
local macro_rules
  | `(tactic| walk_at "w1") => `(tactic| with_reducible refine q_make ?_)
  | `(tactic| walk_at "f1") => `(tactic| with_reducible refine q_make ?_)
local macro_rules
  | `(tactic| walk_at "w1") => `(tactic| with_reducible refine q_meth ?_)
  | `(tactic| walk_at "f1") => `(tactic| with_reducible refine q_meth ?_)
local macro_rules
  | `(tactic| walk_at "w1") => `(tactic| with_reducible refine r_wp_mt ?_)
  | `(tactic| walk_at "f1") => `(tactic| with_reducible refine r_wp_mt ?_)
local macro_rules
  | `(tactic| walk_at "w1") => `(tactic| with_reducible refine r_wp_call ?_)
  | `(tactic| walk_at "f1") => `(tactic| with_reducible refine r_wp_call ?_)
local macro_rules
  | `(tactic| walk_at "w1") => `(tactic| with_reducible refine q_chain ?_)
  | `(tactic| walk_at "f1") => `(tactic| with_reducible refine q_chain ?_)
local macro_rules
  | `(tactic| walk_at "w1") => `(tactic| with_reducible refine q_eNot ?_)
  | `(tactic| walk_at "f1") => `(tactic| with_reducible refine q_eNot ?_)
local macro_rules
  | `(tactic| walk_at "w1") => `(tactic| with_reducible refine q_eOr ?_)
  | `(tactic| walk_at "f1") => `(tactic| with_reducible refine q_eOr ?_)
local macro_rules
  | `(tactic| walk_at "w1") => `(tactic| with_reducible refine q_eAnd ?_)
  | `(tactic| walk_at "f1") => `(tactic| with_reducible refine q_eAnd ?_)
local macro_rules
  | `(tactic| walk_at "w1") => `(tactic| with_reducible refine r_wp_tYes ?_)
  | `(tactic| walk_at "f1") => `(tactic| with_reducible refine r_wp_tYes ?_)
local macro_rules
  | `(tactic| walk_at "w1") => `(tactic| with_reducible refine r_wp_tNot ?_)
  | `(tactic| walk_at "f1") => `(tactic| with_reducible refine r_wp_tNot ?_)
local macro_rules
  | `(tactic| walk_at "w1") => `(tactic| with_reducible refine r_wp_tOr ?_)
  | `(tactic| walk_at "f1") => `(tactic| with_reducible refine r_wp_tOr ?_)
local macro_rules
  | `(tactic| walk_at "w1") => `(tactic| with_reducible refine r_wp_tAnd ?_)
  | `(tactic| walk_at "f1") => `(tactic| with_reducible refine r_wp_tAnd ?_)
local macro_rules
  | `(tactic| walk_at "w1") => `(tactic| with_reducible refine q_tTru ?_)
  | `(tactic| walk_at "f1") => `(tactic| with_reducible refine q_tTru ?_)
local macro_rules
  | `(tactic| walk_at "w1") => `(tactic| with_reducible refine q_asB ?_)
  | `(tactic| walk_at "f1") => `(tactic| with_reducible refine q_asB ?_)
local macro_rules
  | `(tactic| walk_at "w1") => `(tactic| with_reducible refine r_wp_if ?_)
  | `(tactic| walk_at "f1") => `(tactic| with_reducible refine r_wp_if ?_)
local macro_rules
  | `(tactic| walk_at "w1") => `(tactic| with_reducible refine r_wp_c ?_)
  | `(tactic| walk_at "f1") => `(tactic| with_reducible refine r_wp_c ?_)
local macro_rules
  | `(tactic| walk_at "w1") => `(tactic| with_reducible refine r_wp_nil ?_)
  | `(tactic| walk_at "f1") => `(tactic| with_reducible refine r_wp_nil ?_)
local macro_rules
  | `(tactic| walk_at "w1") => `(tactic| with_reducible refine r_wp_cons ?_)
  | `(tactic| walk_at "f1") => `(tactic| with_reducible refine r_wp_cons ?_)
local macro_rules
  | `(tactic| walk_at "w1") => `(tactic| with_reducible refine r_wp_blt ?_)
  | `(tactic| walk_at "f1") => `(tactic| with_reducible refine r_wp_blt ?_)
local macro_rules
  | `(tactic| walk_at "w1") => `(tactic| with_reducible refine r_wp_un ?_)
  | `(tactic| walk_at "f1") => `(tactic| with_reducible refine r_wp_un ?_)
local macro_rules
  | `(tactic| walk_at "w1") => `(tactic| with_reducible refine r_wp_bin ?_)
  | `(tactic| walk_at "f1") => `(tactic| with_reducible refine r_wp_bin ?_)
local macro_rules
  | `(tactic| walk_at "w1") => `(tactic| with_reducible refine r_owp_out ?_)
  | `(tactic| walk_at "f1") => `(tactic| with_reducible refine r_owp_out ?_)
local macro_rules
  | `(tactic| walk_at "w1") => `(tactic| with_reducible refine r_owp_rt ?_)
  | `(tactic| walk_at "f1") => `(tactic| with_reducible refine r_owp_rt ?_)
local macro_rules
  | `(tactic| walk_at "w1") => `(tactic| with_reducible refine r_owp_nx ?_)
  | `(tactic| walk_at "f1") => `(tactic| with_reducible refine r_owp_nx ?_)
local macro_rules
  | `(tactic| walk_at "w1") => `(tactic| with_reducible refine r_owp_for ?_)
  | `(tactic| walk_at "f1") => `(tactic| with_reducible refine r_owp_for ?_)
local macro_rules
  | `(tactic| walk_at "w1") => `(tactic| with_reducible refine r_owp_setF ?_)
  | `(tactic| walk_at "f1") => `(tactic| with_reducible refine r_owp_setF ?_)
local macro_rules
  | `(tactic| walk_at "w1") => `(tactic| with_reducible refine r_owp_setIx ?_)
  | `(tactic| walk_at "f1") => `(tactic| with_reducible refine r_owp_setIx ?_)
local macro_rules
  | `(tactic| walk_at "w1") => `(tactic| with_reducible refine r_owp_cnt ?_)
  | `(tactic| walk_at "f1") => `(tactic| with_reducible refine r_owp_cnt ?_)
local macro_rules
  | `(tactic| walk_at "w1") => `(tactic| with_reducible refine r_owp_brk ?_)
  | `(tactic| walk_at "f1") => `(tactic| with_reducible refine r_owp_brk ?_)
local macro_rules
  | `(tactic| walk_at "w1") => `(tactic| with_reducible refine r_owp_skip ?_)
  | `(tactic| walk_at "f1") => `(tactic| with_reducible refine r_owp_skip ?_)
local macro_rules
  | `(tactic| walk_at "w1") => `(tactic| with_reducible refine r_owp_expr ?_)
  | `(tactic| walk_at "f1") => `(tactic| with_reducible refine r_owp_expr ?_)
local macro_rules
  | `(tactic| walk_at "w1") => `(tactic| with_reducible refine r_owp_ret ?_)
  | `(tactic| walk_at "f1") => `(tactic| with_reducible refine r_owp_ret ?_)
local macro_rules
  | `(tactic| walk_at "w1") => `(tactic| with_reducible refine r_owp_if ?_)
  | `(tactic| walk_at "f1") => `(tactic| with_reducible refine r_owp_if ?_)
local macro_rules
  | `(tactic| walk_at "w1") => `(tactic| with_reducible refine r_owp_seq ?_)
local macro_rules
  | `(tactic| walk_at "w1") => `(tactic| with_reducible refine r_fn_ex ?_)
  | `(tactic| walk_at "f1") => `(tactic| with_reducible refine r_fn_ex ?_)
local macro_rules
  | `(tactic| walk_at "w1") => `(tactic| with_reducible refine r_fn_rt ?_)
  | `(tactic| walk_at "f1") => `(tactic| with_reducible refine r_fn_rt ?_)
local macro_rules
  | `(tactic| walk_at "w1") => `(tactic| with_reducible refine r_fn_nx ?_)
  | `(tactic| walk_at "f1") => `(tactic| with_reducible refine r_fn_nx ?_)
local macro_rules
  | `(tactic| walk_at "w1") => `(tactic| with_reducible refine r_loop_ex ?_)
  | `(tactic| walk_at "f1") => `(tactic| with_reducible refine r_loop_ex ?_)
local macro_rules
  | `(tactic| walk_at "w1") => `(tactic| with_reducible refine r_loop_ct ?_)
  | `(tactic| walk_at "f1") => `(tactic| with_reducible refine r_loop_ct ?_)
local macro_rules
  | `(tactic| walk_at "w1") => `(tactic| with_reducible refine r_loop_bk ?_)
  | `(tactic| walk_at "f1") => `(tactic| with_reducible refine r_loop_bk ?_)
local macro_rules
  | `(tactic| walk_at "w1") => `(tactic| with_reducible refine r_loop_rt ?_)
  | `(tactic| walk_at "f1") => `(tactic| with_reducible refine r_loop_rt ?_)
local macro_rules
  | `(tactic| walk_at "w1") => `(tactic| with_reducible refine r_loop_nx ?_)
  | `(tactic| walk_at "f1") => `(tactic| with_reducible refine r_loop_nx ?_)
local macro_rules
  | `(tactic| walk_at "w1") => `(tactic| with_reducible refine r_seq_ex ?_)
  | `(tactic| walk_at "f1") => `(tactic| with_reducible refine r_seq_ex ?_)
local macro_rules
  | `(tactic| walk_at "w1") => `(tactic| with_reducible refine r_seq_ct ?_)
  | `(tactic| walk_at "f1") => `(tactic| with_reducible refine r_seq_ct ?_)
local macro_rules
  | `(tactic| walk_at "w1") => `(tactic| with_reducible refine r_seq_bk ?_)
  | `(tactic| walk_at "f1") => `(tactic| with_reducible refine r_seq_bk ?_)
local macro_rules
  | `(tactic| walk_at "w1") => `(tactic| with_reducible refine r_seq_rt ?_)
  | `(tactic| walk_at "f1") => `(tactic| with_reducible refine r_seq_rt ?_)
local macro_rules
  | `(tactic| walk_at "w1") => `(tactic| with_reducible refine r_seq_nx ?_)
local macro_rules | `(tactic| walk_at "fn") => `(tactic| (refine wp_fn rfl ?_; dsimp only [List.map_cons, List.map_nil, List.cons_append, List.nil_append, List.replicate, List.map, Nat.reduceSub]))

/-! ### the pot -/
structure Pot (st : Sto) (p : Nat) (q : Nat) (ns : List Int) : Prop where
  ex : ∃ a b c : Int, st[p]? = some (.lst [.ref q, .int a, .int b, .int c]) ∧ 0 ≤ a ∧ 0 ≤ b ∧ b < 2147483647 ∧ 0 ≤ c
  at_q : st[q]? = some (.lst (ns.map D.int))
  ne : q ≠ p
  le : ns.length ≤ 63
  nn : ∀ n ∈ ns, 0 ≤ n
theorem Pot.of {st s : Sto} {p q : Nat} {ns : List Int} (P : Pot st p q ns) {a b c : Int} (h : s[p]? = some (.lst [.ref q, .int a, .int b, .int c])) (k : Chg [p] st s) (ha : 0 ≤ a) (hb : 0 ≤ b) (hb2 : b < 2147483647) (hc : 0 ≤ c) : Pot s p q ns :=
  ⟨⟨a, b, c, h, ha, hb, hb2, hc⟩, k.get (by simpa using P.ne) P.at_q, P.ne, P.le, P.nn⟩
theorem Pot.keep {st s : Sto} {p q : Nat} {ns : List Int} (P : Pot st p q ns) (k : Chg [] st s) : Pot s p q ns := by
  obtain ⟨⟨a, b, c, hp, ha, hb, hb2, hc⟩, hq, hne, hle, hnn⟩ := P
  exact ⟨⟨a, b, c, k.get0 hp, ha, hb, hb2, hc⟩, k.get0 hq, hne, hle, hnn⟩
theorem atI_map {ns : List Int} {a : Int} (h0 : 0 ≤ a) (h1 : a < ns.length) : ∃ x ∈ ns, atI (ns.map D.int) a = some (.int x) := by
  have h2 : a.toNat < ns.length := by omega
  refine ⟨ns[a.toNat], List.getElem_mem h2, ?_⟩
  unfold atI ixN
  rw [if_pos h0, if_pos (by simpa using h1)]
  simp [h2]
theorem law_draw {st : Sto} {p q : Nat} {ns : List Int} {m : Int} (P : Pot st p q ns) (h0 : 1 ≤ m) (h1 : m < 1000000000) {X : XP} :
    Wp X (fun d s => ∃ r : Nat, d = .int r ∧ (r : Int) < m ∧ Pot s p q ns ∧ Chg [p] st s) (f__law_draw [.ref p, .int m] st) := by
  have P0 := P
  obtain ⟨⟨a, b, c, hp, ha, hb, hb2, hc⟩, hq, hne, hle, hnn⟩ := P
  have hmod : ∀ x : Int, ∃ r : Nat, x % m = r ∧ (r : Int) < m := fun x => ⟨(x % m).toNat, by have := Int.emod_nonneg x (show m ≠ 0 by omega); omega, by have := Int.emod_lt_of_pos x (show 0 < m by omega); have := Int.emod_nonneg x (show m ≠ 0 by omega); omega⟩
  have hm0 : 0 < m := by omega
  have hm1 : m < 1073741824 := by omega
  walk_at "fn"
  unfold b__law_draw
  by_cases c1 : m < 2
  · walk_at "wp"
    exact ⟨0, rfl, by omega, P0, Chg.refl⟩
  by_cases c2 : 0 < c
  · walk_at "wp"
    refine wo_setIx hp (by rfl) fun s hs k => ?_
    walk_at "wp"
    obtain ⟨r, e, hr⟩ := hmod c
    exact ⟨r, by rw [e], hr, P0.of hs k ha hb hb2 (Int.ediv_nonneg hc (by omega)), k⟩
  by_cases c3 : a < (ns.map D.int).length
  · obtain ⟨x, hx, ex⟩ := atI_map (ns := ns) ha (by simpa using c3)
    have hx0 := hnn x hx
    walk_at "wp"
    refine w_ixL hq ex ?_
    walk_at "wp"
    refine wo_setIx hp (by rfl) fun s2 hs2 k => ?_
    walk_at "wp"
    refine w_pow ⟨by decide, by decide, by decide⟩ ?_
    walk_at "wp"
    refine r_owp_ite (fun c4 => ?_) (fun c4 => ?_)
    · walk_at "wp"
      refine wo_setIx hs2 (by rfl) fun s3 hs3 k3 => ?_
      walk_at "wp"
      obtain ⟨r, e, hr⟩ := hmod x
      exact ⟨r, by rw [e], hr, P0.of hs3 (k.trans k3) (by omega) hb hb2 (Int.ediv_nonneg hx0 (by omega)), k.trans k3⟩
    · walk_at "wp"
      refine wo_setIx hs2 (by rfl) fun s9 hs9 k9 => ?_
      walk_at "wp"
      obtain ⟨r, e, hr⟩ := hmod ((b * 48271 + x + 12345) % 2147483647 * ((b * 48271 + x + 12345) % 2147483647) / 64 + (b * 48271 + x + 12345) % 2147483647 / 7)
      exact ⟨r, by rw [e], hr, P0.of hs9 (k.trans k9) (by omega) (by omega) (by omega) hc, (k.trans k9)⟩
  · walk_at "wp"
    refine wo_setIx hp (by rfl) fun s9 hs9 k9 => ?_
    walk_at "wp"
    obtain ⟨r, e, hr⟩ := hmod ((b * 48271 + 0 + 12345) % 2147483647 * ((b * 48271 + 0 + 12345) % 2147483647) / 64 + (b * 48271 + 0 + 12345) % 2147483647 / 7)
    exact ⟨r, by rw [e], hr, P0.of hs9 k9 (by omega) (by omega) (by omega) hc, k9⟩
/-! ### what is drawn -/
inductive Say where
  | no | num (n : Nat) | all
def Say.d : Say → D
  | .no => .non
  | .num n => .int n
  | .all => .str (Str.ofString "all")
def Say.ok : Say → Prop
  | .num n => 1 ≤ n ∧ n ≤ 4
  | _ => True
abbrev Stp := Nat × Nat × Say
def stpD (s : Stp) : D := .tup [.int s.1, .int s.2.1, s.2.2.d]
def rowD (r : List Stp) : D := .tup (r.map stpD)
def stepsD (rs : List (List Stp)) : D := .tup (rs.map rowD)
def optD : Option Nat → D
  | none => .non
  | some n => .int n
structure Prg where
  rows : List (List Stp)
  first : Nat
  leader : Option Nat
  lamp : Option Nat
structure Prg.Ok (g : Prg) (C : Nat) : Prop where
  n1 : 1 ≤ g.rows.length
  n5 : g.rows.length ≤ 5
  c1 : 1 ≤ C
  c4 : C ≤ 4
  row : ∀ r ∈ g.rows, r.length = C
  stp : ∀ r ∈ g.rows, ∀ s ∈ r, s.1 < g.rows.length ∧ s.2.1 < C ∧ s.2.2.ok
  first : g.first < g.rows.length
  leader : ∀ n, g.leader = some n → n < g.rows.length
  lamp : ∀ n, g.lamp = some n → n < C
theorem law_pick {st : Sto} {p q l : Nat} {ns : List Int} {ds : List D} (P : Pot st p q ns) (hl : st[l]? = some (.lst ds)) (h1 : 1 ≤ ds.length) (h2 : ds.length < 1000) (hlp : l ≠ p) {X : XP} :
    Wp X (fun d s => d ∈ ds ∧ Pot s p q ns ∧ Chg [p] st s) (f__law_pick [.ref p, .ref l] st) := by
  walk_at "fn"
  unfold b__law_pick
  walk_at "wp"
  refine (law_draw P (by omega) (by omega)).mono ?_
  rintro _ s ⟨r, rfl, hr, P1, k⟩
  have hl1 := k.get (by simpa using hlp) hl
  walk_at "wp"
  have hr2 : r < ds.length := by omega
  refine w_ixL (d := ds[r]) hl1 ?_ ?_
  · unfold atI ixN
    rw [if_pos (by omega), if_pos (by omega)]
    simp
  · exact ⟨List.getElem_mem hr2, P1, k⟩
theorem law_saying {st : Sto} {p q : Nat} {ns : List Int} (P : Pot st p q ns) {X : XP} :
    Wp X (fun d s => ∃ y : Say, y.ok ∧ d = y.d ∧ Pot s p q ns ∧ Chg [p] st s) (f__law_saying [.ref p] st) := by
  have hp := P.ex
  obtain ⟨a, b, c, hp, _⟩ := hp
  walk_at "fn"
  unfold b__law_saying
  walk_at "wp"
  refine wo_lst (by simp [LIM]) fun r s hr hn k => ?_
  walk_at "wp"
  refine (law_pick (P.keep k) hr (by decide) (by decide) (fun e => by subst e; rw [hp] at hn; cases hn)).mono ?_
  rintro d s1 ⟨hd, P1, k1⟩
  walk_at "wp"
  simp only [List.mem_cons, List.not_mem_nil, or_false] at hd
  have kk : Chg [p] st s1 := k.up.trans k1
  rcases hd with rfl | rfl | rfl | rfl | rfl | rfl | rfl | rfl | rfl
  · exact ⟨.no, trivial, rfl, P1, kk⟩
  · exact ⟨.no, trivial, rfl, P1, kk⟩
  · exact ⟨.no, trivial, rfl, P1, kk⟩
  · exact ⟨.no, trivial, rfl, P1, kk⟩
  · exact ⟨.num 1, by simp [Say.ok], rfl, P1, kk⟩
  · exact ⟨.num 2, by simp [Say.ok], rfl, P1, kk⟩
  · exact ⟨.num 3, by simp [Say.ok], rfl, P1, kk⟩
  · exact ⟨.num 4, by simp [Say.ok], rfl, P1, kk⟩
  · exact ⟨.all, trivial, rfl, P1, kk⟩
theorem rng_get {n i : Nat} {d : D} (h : (rngI 0 n)[i]? = some d) : i < n ∧ d = .int i := by
  unfold rngI at h
  rw [List.getElem?_map] at h
  by_cases hi : i < n
  · rw [List.getElem?_range hi] at h
    simp at h
    exact ⟨hi, h.symm⟩
  · rw [List.getElem?_eq_none (by simpa using hi)] at h
    cases h
theorem rng_len {n : Nat} {lo : Int} : (rngI lo n).length = n := by simp [rngI]
theorem law_spec {st : Sto} {p q m : Nat} {ns : List Int} (P : Pot st p q ns) (hm : st[m]? = some (.lst [.int 3, .int 3])) (hmp : m ≠ p) {X : XP} :
    Wp X (fun d s => ∃ (g : Prg) (C r : Nat), g.Ok C ∧ d = .ref r ∧ s[r]? = some (.lst [stepsD g.rows, .int g.first, optD g.leader, optD g.lamp]) ∧ st[r]? = none ∧ Pot s p q ns ∧ Chg [p] st s) (f__law_spec [.ref p, .ref m] st) := by
  have hp : ∃ c, st[p]? = some c := by obtain ⟨a, b, c, hp, _⟩ := P.ex; exact ⟨_, hp⟩
  walk_at "fn"
  unfold b__law_spec
  walk_at "wp"
  refine (law_draw P (by omega) (by omega)).mono ?_
  rintro _ s1 ⟨a, rfl, ha, P1, k1⟩
  have hm1 := k1.get (by simpa using hmp) hm
  walk_at "wp"
  refine (law_draw P1 (by omega) (by omega)).mono ?_

  rintro _ s2 ⟨b, rfl, hb, P2, k2⟩
  walk_at "wp"
  refine wo_lst (by simp [LIM]) fun R s3 hR hRn k3 => ?_
  walk_at "wp"
  refine owp_forS (fun i e s => ∃ (rows : List (List Stp)) (x5 x6 x7 : Option D), rows.length = i ∧ (∀ r ∈ rows, r.length = 1 + b ∧ ∀ z ∈ r, z.1 < 1 + a ∧ z.2.1 < 1 + b ∧ z.2.2.ok) ∧ e = [some (.ref p), some (.ref m), some (.int (1 + a)), some (.int (1 + b)), some (.ref R), x5, x6, x7, none] ∧ s[R]? = some (.lst (rows.map rowD)) ∧ Pot s p q ns ∧ Chg [p] st s) ?_ ?_ ⟨[], none, none, none, rfl, by simp, rfl, hR, P2.keep k3, (k1.trans k2).trans k3.up⟩
  · rintro i d e s hd ⟨rows, x5, x6, x7, hl, hrows, rfl, hRs, Ps, ks⟩
    obtain ⟨hi, rfl⟩ := rng_get hd
    refine ⟨okB_none, _, rfl, ?_⟩
    dsimp only [List.set]
    walk_at "wp"
    refine wo_lst (by simp [LIM]) fun Q t1 hQ hQn j1 => ?_
    walk_at "wp"
    refine owp_forS (fun j e s' => ∃ (row : List Stp) (y7 : Option D), row.length = j ∧ (∀ z ∈ row, z.1 < 1 + a ∧ z.2.1 < 1 + b ∧ z.2.2.ok) ∧ e = [some (.ref p), some (.ref m), some (.int (1 + a)), some (.int (1 + b)), some (.ref R), some (.int i), some (.ref Q), y7, none] ∧ s'[Q]? = some (.lst (row.map stpD)) ∧ s'[R]? = some (.lst (rows.map rowD)) ∧ Pot s' p q ns ∧ Chg [p] s s') ?_ ?_ ⟨[], x7, rfl, by simp, rfl, hQ, j1.get0 hRs, Ps.keep j1, j1.up⟩
    · rintro j d e s' hd2 ⟨row, y7, hrl, hrow, rfl, hQ', hR', P', k'⟩
      obtain ⟨hj, rfl⟩ := rng_get hd2
      have hQp : Q ≠ p := fun z => by obtain ⟨_, _, _, hpp, _⟩ := Ps.ex; subst z; rw [hpp] at hQn; cases hQn
      have hRp : R ≠ p := fun z => by obtain ⟨_, _, _, hpp, _⟩ := P2.ex; subst z; rw [hpp] at hRn; cases hRn
      have hRQ : R ≠ Q := fun z => by subst z; rw [hRs] at hQn; cases hQn
      refine ⟨okB_none, _, rfl, ?_⟩
      dsimp only [List.set]
      walk_at "wp"
      refine (law_draw P' (by omega) (by omega)).mono ?_
      rintro _ v1 ⟨c1, rfl, hc1, Q1, l1⟩
      walk_at "wp"
      refine (law_draw Q1 (by omega) (by omega)).mono ?_
      rintro _ v2 ⟨c2, rfl, hc2, Q2, l2⟩
      walk_at "wp"
      refine (law_saying Q2).mono ?_
      rintro _ v3 ⟨y, hy, rfl, Q3, l3⟩
      walk_at "wp"
      refine w_tup (by simp [LIM]) ?_
      walk_at "wp"
      have hl3 := (l1.trans l2).trans l3
      refine wo_append (hl3.get (by simpa using hQp) hQ') (by simp [LIM]; omega) fun v4 hv4 l4 => ?_
      walk_at "wp"
      have hall := k'.trans hl3
      exact ⟨row ++ [(c1, c2, y)], some (.int j), by simp [hrl], by
        intro z hz
        rcases List.mem_append.mp hz with hz | hz
        · exact hrow z hz
        · rw [List.mem_singleton.mp hz]
          exact ⟨by show c1 < _; omega, by show c2 < _; omega, hy⟩, rfl, by simpa [stpD] using hv4, l4.get (by simpa using hRQ) (hl3.get (by simpa using hRp) hR'), by
          obtain ⟨⟨x1, x2, x3, hp1, r1, r2, r3, r4⟩, hq1, n1, n2, n3⟩ := Q3
          exact ⟨⟨x1, x2, x3, l4.get (by simpa using fun z => hQp z.symm) hp1, r1, r2, r3, r4⟩, l4.get (by simp; intro z; subst z; rw [Ps.at_q] at hQn; cases hQn) hq1, n1, n2, n3⟩, hall.new hQn (l4.wide (by simp))⟩
    · rintro e s' ⟨row, y7, hrl, hrow, rfl, hQ', hR', P', k'⟩
      rw [rng_len] at hrl
      refine ⟨okB_none, ?_⟩
      walk_at "wp"
      have hRn0 : st[R]? = none := by
        rcases h : st[R]? with _ | c
        · rfl
        · by_cases z : R = p
          · subst z; obtain ⟨_, _, _, hpp, _⟩ := P2.ex; rw [hpp] at hRn; cases hRn
          · rw [(k1.trans k2).get (by simpa using z) h] at hRn; cases hRn
      have hRp : R ≠ p := fun z => by obtain ⟨_, _, _, hpp, _⟩ := P2.ex; subst z; rw [hpp] at hRn; cases hRn
      refine wo_append hR' (by simp [LIM, hl]; omega) fun v4 hv4 l4 => ?_
      walk_at "wp"
      exact ⟨rows ++ [row], some (.int i), some (.ref Q), y7, by simp [hl], by
        intro r hr
        rcases List.mem_append.mp hr with hr | hr
        · exact hrows r hr
        · rw [List.mem_singleton.mp hr]
          exact ⟨by omega, hrow⟩, rfl, by simpa [rowD] using hv4, by
          obtain ⟨⟨x1, x2, x3, hp1, r1, r2, r3, r4⟩, hq1, n1, n2, n3⟩ := P'
          exact ⟨⟨x1, x2, x3, l4.get (by simpa using fun z => hRp z.symm) hp1, r1, r2, r3, r4⟩, l4.get (by simp; intro z; subst z; rw [P2.at_q] at hRn; cases hRn) hq1, n1, n2, n3⟩, (ks.trans k').new hRn0 (l4.wide (by simp))⟩
  · rintro e s ⟨rows, x5, x6, x7, hl, hrows, rfl, hRs, Ps, ks⟩
    rw [rng_len] at hl
    refine ⟨okB_none, ?_⟩
    have hRp : R ≠ p := fun z => by obtain ⟨_, _, _, hpp, _⟩ := P2.ex; subst z; rw [hpp] at hRn; cases hRn
    walk_at "wp"
    refine (law_draw Ps (by omega) (by omega)).mono ?_
    rintro _ v1 ⟨c1, rfl, hc1, Q1, l1⟩
    walk_at "wp"
    refine wo_lst (by simp [LIM]) fun L1 v2 hL1 hL1n l2 => ?_
    walk_at "wp"
    refine (law_pick (Q1.keep l2) hL1 (by simp) (by simp) (fun z => by obtain ⟨_, _, _, hpp, _⟩ := Q1.ex; subst z; rw [hpp] at hL1n; cases hL1n)).mono ?_
    rintro ld v3 ⟨hld, Q3, l3⟩
    have hR3 := ((l1.trans l2.up).trans l3).get (by simpa using hRp) hRs
    walk_at "wp"
    refine (law_draw Q3 (by omega) (by omega)).mono ?_
    rintro _ v4 ⟨c4, rfl, hc4, Q4, l4⟩
    walk_at "wp"
    refine (law_draw Q4 (by omega) (by omega)).mono ?_
    rintro _ v5 ⟨c5, rfl, hc5, Q5, l5⟩
    walk_at "wp"
    refine (law_draw Q5 (by omega) (by omega)).mono ?_
    rintro _ v6 ⟨c6, rfl, hc6, Q6, l6⟩
    walk_at "wp"
    refine wo_lst (by simp [LIM]) fun L2 v7 hL2 hL2n l7 => ?_
    walk_at "wp"
    refine (law_pick (Q6.keep l7) hL2 (by simp) (by simp) (fun z => by obtain ⟨_, _, _, hpp, _⟩ := Q6.ex; subst z; rw [hpp] at hL2n; cases hL2n)).mono ?_
    rintro lm v8 ⟨hlm, Q8, l8⟩
    walk_at "wp"
    refine wo_lst (by simp [LIM]) fun L v9 hL hLn l9 => ?_
    walk_at "wp"
    have hall : Chg [p] st v8 := (((((((ks.trans l1).trans l2.up).trans l3).trans l4).trans l5).trans l6).trans l7.up).trans l8
    obtain ⟨ldo, hldo, hldb⟩ : ∃ o : Option Nat, ld = optD o ∧ ∀ n, o = some n → n < 1 + a := by
      simp only [List.mem_cons, List.not_mem_nil, or_false] at hld
      rcases hld with rfl | rfl | rfl
      · exact ⟨none, rfl, by simp⟩
      · exact ⟨none, rfl, by simp⟩
      · exact ⟨some c1, rfl, by rintro n ⟨⟩; omega⟩
    obtain ⟨lmo, hlmo, hlmb⟩ : ∃ o : Option Nat, lm = optD o ∧ ∀ n, o = some n → n < 1 + b := by
      simp only [List.mem_cons, List.not_mem_nil, or_false] at hlm
      rcases hlm with rfl | rfl | rfl
      · exact ⟨none, rfl, by simp⟩
      · exact ⟨some c5, rfl, by rintro n ⟨⟩; omega⟩
      · exact ⟨some c6, rfl, by rintro n ⟨⟩; omega⟩
    subst hldo hlmo
    have hla : rows.length = 1 + a := by omega
    refine ⟨⟨rows, c4, ldo, lmo⟩, 1 + b, L, ⟨by simp [hla], by simp [hla]; omega, by omega, by omega, fun r hr => (hrows r hr).1, fun r hr z hz => by simpa [hla] using (hrows r hr).2 z hz, by show c4 < rows.length; omega, by simpa [hla] using hldb, hlmb⟩, rfl, hL, ?_, Q8.keep l9, hall.trans l9.up⟩
    rcases h : st[L]? with _ | c
    · rfl
    · by_cases z : L = p
      · subst z; obtain ⟨_, _, _, hpp, _⟩ := Q8.ex; rw [hpp] at hLn; cases hLn
      · rw [hall.get (by simpa using z) h] at hLn; cases hLn
/-! ### values of any kind -/
inductive Wd (st : Sto) (A : List Nat) (B : Nat) : Nat → D → Prop where
  | non (n : Nat) : Wd st A B n .non
  | bl (n : Nat) (b : Bool) : Wd st A B n (.bl b)
  | int (n : Nat) (i : Int) (h : i.natAbs ≤ B) : Wd st A B n (.int i)
  | str (n : Nat) (x : Str) (h : PyData.strOk x = true) (hl : x.length ≤ B) : Wd st A B n (.str x)
  | tup (n : Nat) (ds : List D) (h : ∀ d ∈ ds, Wd st A B n d) (hl : ds.length ≤ B) : Wd st A B (n + 1) (.tup ds)
  | lst (n r : Nat) (ds : List D) (hr : st[r]? = some (.lst ds)) (ha : r ∉ A) (h : ∀ d ∈ ds, Wd st A B n d) (hl : ds.length ≤ B) : Wd st A B (n + 1) (.ref r)
  | dct (n r : Nat) (hr : st[r]? = some .dct) (ha : r ∉ A) : Wd st A B n (.ref r)
theorem Wd.keep {st s : Sto} {A : List Nat} {B n : Nat} {d : D} (h : Wd st A B n d) (k : Chg A st s) : Wd s A B n d := by
  induction h with
  | non n => exact .non n
  | bl n b => exact .bl n b
  | int n i h => exact .int n i h
  | str n x h hl => exact .str n x h hl
  | tup n ds h hl ih => exact .tup n ds ih hl
  | lst n r ds hr ha h hl ih => exact .lst n r ds (k.get ha hr) ha ih hl
  | dct n r hr ha => exact .dct n r (k.get ha hr) ha
theorem Wd.up {st : Sto} {A : List Nat} {B B' n : Nat} {d : D} (h : Wd st A B n d) (hB : B ≤ B') : ∀ {n' : Nat}, n ≤ n' → Wd st A B' n' d := by
  induction h with
  | non n => intro n' _; exact .non n'
  | bl n b => intro n' _; exact .bl n' b
  | int n i h => intro n' _; exact .int n' i (by omega)
  | str n x h hl => intro n' _; exact .str n' x h (by omega)
  | tup n ds h hl ih =>
    intro n' hn
    obtain ⟨m, rfl⟩ : ∃ m, n' = m + 1 := ⟨n' - 1, by omega⟩
    exact .tup m ds (fun d hd => ih d hd (by omega)) (by omega)
  | lst n r ds hr ha h hl ih =>
    intro n' hn
    obtain ⟨m, rfl⟩ : ∃ m, n' = m + 1 := ⟨n' - 1, by omega⟩
    exact .lst m r ds hr ha (fun d hd => ih d hd (by omega)) (by omega)
  | dct n r hr ha => intro n' _; exact .dct n' r hr ha
/-- one more place is avoided -/
theorem Wd.more {st : Sto} {A : List Nat} {B n b : Nat} {d : D} (h : Wd st A B n d) (hb : st[b]? = none) : Wd st (b :: A) B n d := by
  induction h with
  | non n => exact .non n
  | bl n b => exact .bl n b
  | int n i h => exact .int n i h
  | str n x h hl => exact .str n x h hl
  | tup n ds h hl ih => exact .tup n ds ih hl
  | lst n r ds hr ha h hl ih => exact .lst n r ds hr (by simp only [List.mem_cons, not_or]; exact ⟨fun e => (by rw [e, hb] at hr; cases hr), ha⟩) ih hl
  | dct n r hr ha => exact .dct n r hr (by simp only [List.mem_cons, not_or]; exact ⟨fun e => (by rw [e, hb] at hr; cases hr), ha⟩)
/-- its outermost form -/
inductive Kz (st : Sto) : D → Prop where
  | non : Kz st .non
  | bl (b : Bool) : Kz st (.bl b)
  | int (i : Int) : Kz st (.int i)
  | str (x : Str) (h : PyData.strOk x = true) : Kz st (.str x)
  | tup (ds : List D) : Kz st (.tup ds)
  | lst (r : Nat) (ds : List D) (hr : st[r]? = some (.lst ds)) : Kz st (.ref r)
  | dct (r : Nat) (hr : st[r]? = some .dct) : Kz st (.ref r)
theorem Kz.keep {st s : Sto} {d : D} (h : Kz st d) (k : Chg [] st s) : Kz s d := by
  cases h with
  | non => exact .non
  | bl b => exact .bl b
  | int i => exact .int i
  | str x h => exact .str x h
  | tup ds => exact .tup ds
  | lst r ds hr => exact .lst r ds (k.get0 hr)
  | dct r hr => exact .dct r (k.get0 hr)
theorem Wd.kz {st : Sto} {A : List Nat} {B n : Nat} {d : D} (h : Wd st A B n d) : Kz st d := by
  cases h with
  | non n => exact .non
  | bl n b => exact .bl b
  | int n i h => exact .int i
  | str n x h hl => exact .str x h
  | tup n ds h hl => exact .tup ds
  | lst n r ds hr ha h hl => exact .lst r ds hr
  | dct n r hr ha => exact .dct r hr
/-- its outermost forms, n deep -/
inductive Kn (st : Sto) : Nat → D → Prop where
  | flat (n : Nat) (d : D) (h : Kz st d) (ht : ∀ ds, d ≠ .tup ds) : Kn st n d
  | tup0 (ds : List D) : Kn st 0 (.tup ds)
  | tup (n : Nat) (ds : List D) (h : ∀ d ∈ ds, Kn st n d) : Kn st (n + 1) (.tup ds)
theorem Kn.kz {st : Sto} {n : Nat} {d : D} (h : Kn st n d) : Kz st d := by
  cases h with
  | flat n d h ht => exact h
  | tup0 ds => exact .tup ds
  | tup n ds h => exact .tup ds
theorem Kn.sub {st : Sto} {n : Nat} {ds : List D} (h : Kn st (n + 1) (.tup ds)) : ∀ d ∈ ds, Kn st n d := by
  cases h with
  | flat _ _ h ht => exact (ht ds rfl).elim
  | tup n ds h => exact h
theorem Kn.keep {st s : Sto} {n : Nat} {d : D} (h : Kn st n d) (k : Chg [] st s) : Kn s n d := by
  induction h with
  | flat n d h ht => exact .flat n d (h.keep k) ht
  | tup0 ds => exact .tup0 ds
  | tup n ds h ih => exact .tup n ds ih
theorem Wd.kn {st : Sto} {A : List Nat} {B n : Nat} {d : D} (h : Wd st A B n d) : ∀ m : Nat, Kn st m d := by
  induction h with
  | non n => intro m; exact .flat m _ .non (by simp)
  | bl n b => intro m; exact .flat m _ (.bl b) (by simp)
  | int n i h => intro m; exact .flat m _ (.int i) (by simp)
  | str n x h hl => intro m; exact .flat m _ (.str x h) (by simp)
  | tup n ds h hl ih =>
    intro m
    cases m with
    | zero => exact .tup0 ds
    | succ m => exact .tup m ds fun d hd => ih d hd m
  | lst n r ds hr ha h hl ih => intro m; exact .flat m _ (.lst r ds hr) (by simp)
  | dct n r hr ha => intro m; exact .flat m _ (.dct r hr) (by simp)
/-! ### the judge -/
def isIntD : D → Bool
  | .int _ => true
  | _ => false
def withinB (lo hi : Int) : D → Bool
  | .int i => decide (lo ≤ i) && decide (i ≤ hi)
  | _ => false
def wordB : D → Bool
  | .int i => decide (1 ≤ i) && decide (i ≤ 4)
  | .str x => x == Str.ofString "all"
  | _ => false
def stepB (S C : Int) : D → Bool
  | .tup [a, b, c] => withinB 0 (S - 1) a && (withinB 0 (C - 1) b && (LF.isNon c || wordB c))
  | _ => false
def lenB : D → Bool
  | .tup ds => decide (1 ≤ ds.length) && decide (ds.length ≤ 4)
  | _ => false
def tlen : D → Nat
  | .tup ds => ds.length
  | _ => 0
def rowB (S n : Nat) : D → Bool
  | .tup ds => decide (ds.length = n) && ds.all (stepB S ds.length)
  | _ => false
def stepsB : D → Bool
  | .tup (r :: rs) => decide (rs.length + 1 ≤ 5) && ((r :: rs).all lenB && (r :: rs).all (rowB (rs.length + 1) (tlen r)))
  | _ => false
def nrows : D → Nat
  | .tup rs => rs.length
  | _ => 0
def ncols : D → Nat
  | .tup (r :: _) => tlen r
  | _ => 0
def faultB (a b c d : D) : Option String :=
  if stepsB a = false then some "steps"
  else if withinB 0 (nrows a - 1 : Int) b = false then some "first"
  else if (LF.isNon c || withinB 0 (nrows a - 1 : Int) c) = false then some "leader"
  else if (LF.isNon d || withinB 0 (ncols a - 1 : Int) d) = false then some "lamp"
  else none
theorem is_number_gen {d : D} {st : Sto} (h : Kz st d) {X : XP} : Wp X (fun x s => x = .bl (isIntD d) ∧ s = st) (f_is_number [d] st) := by
  cases h <;> (walk_at "fn"; unfold b_is_number; walk_at "wp"; exact ⟨rfl, rfl⟩)
theorem is_within_gen {d : D} {a b : Int} {st : Sto} (h : Kz st d) {X : XP} : Wp X (fun x s => x = .bl (withinB a b d) ∧ s = st) (f_is_within [d, .int a, .int b] st) := by
  have h0 := h
  walk_at "fn"
  unfold b_is_within
  walk_at "wp"
  refine (is_number_gen h).mono ?_
  rintro _ _ ⟨rfl, rfl⟩
  cases h with
  | int i =>
    simp only [isIntD]
    walk_at "wp"
    refine r_bSplit (fun h => ?_) (fun h => ?_)
    · walk_at "wp"
      exact ⟨by simp [withinB, h], rfl⟩
    · walk_at "wp"
      exact ⟨by simp [withinB, h], rfl⟩
  | _ =>
    simp only [isIntD]
    walk_at "wp"
    exact ⟨rfl, rfl⟩
theorem all_ok : PyData.strOk (Str.ofString "all") = true := by decide +kernel
theorem is_word_gen {d : D} {st : Sto} (h : Kz st d) {X : XP} : Wp X (fun x s => x = .bl (wordB d) ∧ s = st) (f_is_word [d] st) := by
  walk_at "fn"
  unfold b_is_word
  walk_at "wp"
  refine (is_within_gen h).mono ?_
  rintro _ _ ⟨rfl, rfl⟩
  cases h with
  | int i =>
    refine r_tSplit (fun h => ?_) (fun h => ?_)
    · walk_at "wp"
      exact ⟨by simp only [withinB] at h ⊢; simp only [wordB, h], rfl⟩
    · walk_at "wp"
      exact ⟨by simp only [withinB] at h; simp only [wordB, Bool.eq_false_iff.mpr h], rfl⟩
  | str x hx =>
    simp only [withinB]
    walk_at "wp"
    refine w_eqS hx all_ok ?_
    walk_at "wp"
    exact ⟨rfl, rfl⟩
  | _ =>
    simp only [withinB]
    walk_at "wp"
    exact ⟨rfl, rfl⟩
theorem is_step_gen {d : D} {S C : Int} {st : Sto} (h : Kn st 1 d) {X : XP} : Wp X (fun x s => x = .bl (stepB S C d) ∧ s = st) (f_is_step [d, .int S, .int C] st) := by
  have hs : ∀ ds, d = .tup ds → ∀ z ∈ ds, Kz st z := fun ds e z hz => by subst e; exact (h.sub z hz).kz
  have hk := h.kz
  clear h
  cases hk with
  | tup ds =>
    have hs := hs ds rfl
    by_cases hl : ds.length = 3
    · obtain ⟨a, b, c, rfl⟩ : ∃ a b c, ds = [a, b, c] := by
        match ds, hl with
        | [a, b, c], _ => exact ⟨a, b, c, rfl⟩
      have ha := hs a (by simp)
      have hb := hs b (by simp)
      have hc := hs c (by simp)
      walk_at "fn"
      unfold b_is_step
      walk_at "wp"
      refine (is_within_gen ha).mono ?_
      rintro _ _ ⟨rfl, rfl⟩
      by_cases h1 : withinB 0 (S - 1) a = true
      · walk_at "wp"
        refine (is_within_gen hb).mono ?_
        rintro _ _ ⟨rfl, rfl⟩
        by_cases h2 : withinB 0 (C - 1) b = true
        · walk_at "wp"
          by_cases h3 : LF.isNon c = true
          · walk_at "wp"
            exact ⟨by simp [stepB, h1, h2, h3], rfl⟩
          · walk_at "wp"
            refine (is_word_gen hc).mono ?_
            rintro _ _ ⟨rfl, rfl⟩
            walk_at "wp"
            exact ⟨by simp [stepB, h1, h2, h3], rfl⟩
        · walk_at "wp"
          exact ⟨by simp [stepB, h1, h2], rfl⟩
      · walk_at "wp"
        exact ⟨by simp [stepB, h1], rfl⟩
    · have hl2 : ((ds.length : Int) == 3) = false := by simp; omega
      walk_at "fn"
      unfold b_is_step
      walk_at "wp"
      exact ⟨by
        match ds, hl with
        | [], _ => rfl
        | [_], _ => rfl
        | [_, _], _ => rfl
        | [_, _, _], hl => simp at hl
        | _ :: _ :: _ :: _ :: _, _ => rfl, rfl⟩
  | _ => walk_at "fn"; unfold b_is_step; walk_at "wp"; exact ⟨rfl, rfl⟩
/-- a comprehension of answers -/
theorem all_gen {r : Nat} {p : D → Bool} {ds : List D} {st : Sto} {Q : D → Sto → Prop} (hr : st[r]? = some (.lst (ds.filterMap fun d => some (.bl (p d))))) (h : Q (.bl (ds.all p)) st) : Wo Q (opAll [.ref r] st) := by
  have e : ∀ l : List D, bools (l.filterMap fun d => some (.bl (p d))) = some (l.map p) := by
    intro l
    induction l with
    | nil => rfl
    | cons d l ih =>
      show (bools (l.filterMap fun d => some (.bl (p d)))).map (p d :: ·) = _
      rw [ih]; rfl
  simp only [opAll, hr, e]
  refine r_wo_some ?_
  rw [show (List.map p ds).all id = ds.all p by rw [List.all_map]; rfl]
  exact h
/-! ### steps, judged by the program -/
theorem are_steps_gen {d : D} {st : Sto} (h : Kn st 3 d) {X : XP} : Wp X (fun x s => x = .bl (stepsB d) ∧ Chg [] st s) (f_are_steps [d] st) := by
  have hs : ∀ ds, d = .tup ds → ∀ z ∈ ds, Kn st 2 z := fun ds e z hz => by subst e; exact h.sub z hz
  have hk := h.kz
  clear h
  cases hk with
  | tup ds =>
    have hs := hs ds rfl
    cases ds with
    | nil =>
      walk_at "fn"
      unfold b_are_steps
      walk_at "wp"
      exact ⟨rfl, Chg.refl⟩
    | cons r rs =>
      by_cases h5 : rs.length + 1 ≤ 5
      · have h5a : ((r :: rs).length : Int) ≤ 5 := by simp; omega
        have h5b : (1 : Int) ≤ ((r :: rs).length : Int) := by simp; omega
        walk_at "fn"
        unfold b_are_steps
        walk_at "wp"
        refine wp_lc ?_
        walk_at "wp"
        refine ⟨fun z => some (.bl (lenB z)), fun _ _ => okB_none, by show (r :: rs).length ≤ LIM; simp only [List.length_cons, LIM]; omega, ?_, ?_⟩
        · intro z hz s hks
          have hzk := (hs z hz).kz.keep hks
          refine ⟨_, rfl, ?_⟩
          dsimp only [wipeD, List.set]
          walk_at "wp"
          cases hzk with
          | tup zs =>
            walk_at "wp"
            refine r_bSplit (fun h => ?_) (fun h => ?_)
            · walk_at "wp"
              refine ⟨?_, Chg.refl⟩
              have h := of_decide_eq_true h
              simp only [lenB]
              rw [show decide (1 ≤ zs.length) = true by simp; omega, Bool.true_and]
              congr 2
              simp
              omega
            · walk_at "wp"
              refine ⟨?_, Chg.refl⟩
              simp only [lenB]
              rw [show decide (1 ≤ zs.length) = false from decide_eq_false (by have h := of_decide_eq_false (Bool.eq_false_iff.mpr h); omega), Bool.false_and]
          | _ =>
            walk_at "wp"
            exact ⟨rfl, Chg.refl⟩
        intro L s1 hL hLn k1
        walk_at "wp"
        refine all_gen hL ?_
        by_cases hlen : (r :: rs).all lenB = true
        · walk_at "wp"
          refine owp_forS (fun i e s => ∃ x1 x2, e = [some (.tup (r :: rs)), x1, x2] ∧ Chg [] st s ∧ ∀ j z, j < i → (r :: rs)[j]? = some z → rowB (rs.length + 1) (tlen r) z = true) ?_ ?_ ⟨_, _, rfl, k1, fun j z hj => absurd hj (by omega)⟩
          · rintro i z e s hz ⟨x1, x2, rfl, ks, hrows⟩
            have hzm := List.mem_of_getElem? hz
            have hzk := (hs z hzm).keep ks
            have hzl := List.all_eq_true.mp hlen z hzm
            have hrl := List.all_eq_true.mp hlen r (by simp)
            obtain ⟨zs, rfl⟩ : ∃ zs, z = .tup zs := by
              cases z <;> simp only [lenB] at hzl <;> first | exact ⟨_, rfl⟩ | cases hzl
            obtain ⟨qs, rfl⟩ : ∃ qs, r = .tup qs := by
              cases r <;> simp only [lenB] at hrl <;> first | exact ⟨_, rfl⟩ | cases hrl
            have hstop : ∀ s', Chg [] st s' → rowB (rs.length + 1) qs.length (.tup zs) = false → ((D.bl false = .bl (stepsB (.tup (.tup qs :: rs)))) ∧ Chg [] st s') := fun s' ks' hf => ⟨by
              have : (D.tup qs :: rs).all (rowB (rs.length + 1) (tlen (.tup qs))) = false := List.all_eq_false.mpr ⟨_, hzm, by simp [tlen, hf]⟩
              simp only [stepsB, this, Bool.and_false], ks'⟩
            refine ⟨okB_none, _, rfl, ?_⟩
            dsimp only [List.set]
            walk_at "wp"
            refine w_ixT atI0 ?_
            walk_at "wp"
            by_cases hzq : zs.length = qs.length
            · have hzq2 : ((zs.length : Int) == qs.length) = true := by simp; omega
              walk_at "wp"
              refine wp_lc ?_
              walk_at "wp"
              refine ⟨fun y => some (.bl (stepB (rs.length + 1 : Nat) zs.length y)), fun _ _ => okB_none, by simp [lenB] at hzl; simp [LIM]; omega, ?_, ?_⟩
              · intro y hy s2 hs2
                have hyk := (hzk.sub y hy).keep hs2
                refine ⟨_, rfl, ?_⟩
                dsimp only [wipeD, List.set]
                walk_at "wp"
                refine (is_step_gen hyk).mono ?_
                rintro _ _ ⟨rfl, rfl⟩
                exact ⟨rfl, Chg.refl⟩
              intro L2 s2 hL2 hL2n k2
              walk_at "wp"
              refine all_gen hL2 ?_
              by_cases hall : zs.all (stepB (rs.length + 1 : Nat) zs.length) = true
              · walk_at "wp"
                refine ⟨_, _, rfl, ks.trans k2, fun j y hj hy => ?_⟩
                by_cases hji : j = i
                · subst hji
                  rw [hz] at hy
                  cases hy
                  simp only [rowB, tlen, hzq, decide_true, Bool.true_and]
                  rw [← hzq]
                  exact hall
                · exact hrows j y (by omega) hy
              · walk_at "wp"
                exact hstop _ (ks.trans k2) (by simp only [rowB, Bool.eq_false_iff.mpr hall, Bool.and_false])
            · have hzq2 : ((zs.length : Int) == qs.length) = false := by simp; omega
              walk_at "wp"
              exact hstop _ ks (by simp only [rowB, decide_eq_false hzq, Bool.false_and])
          · rintro e s ⟨x1, x2, rfl, ks, hrows⟩
            refine ⟨okB_none, ?_⟩
            walk_at "wp"
            refine ⟨?_, ks⟩
            have : (r :: rs).all (rowB (rs.length + 1) (tlen r)) = true := List.all_eq_true.mpr fun z hz => by
              obtain ⟨j, hj⟩ := List.getElem?_of_mem hz
              exact hrows j z (List.getElem?_eq_some_iff.mp hj).1 hj
            simp [stepsB, hlen, this, h5]
        · walk_at "wp"
          exact ⟨by simp [stepsB, hlen], k1⟩
      · have h5a : ¬ ((r :: rs).length : Int) ≤ 5 := by simp; omega
        have h5b : (1 : Int) ≤ ((r :: rs).length : Int) := by simp; omega
        walk_at "fn"
        unfold b_are_steps
        walk_at "wp"
        exact ⟨by simp [stepsB, h5], Chg.refl⟩
  | _ => walk_at "fn"; unfold b_are_steps; walk_at "wp"; exact ⟨rfl, Chg.refl⟩
/-! ### the object, of any values -/
theorem stepsB_form {d : D} (h : stepsB d = true) : ∃ qs rs, d = .tup (.tup qs :: rs) ∧ rs.length + 1 ≤ 5 ∧ 1 ≤ qs.length ∧ qs.length ≤ 4 := by
  unfold stepsB at h
  split at h
  · rename_i r rs
    simp only [Bool.and_eq_true, decide_eq_true_eq] at h
    obtain ⟨h1, h2, h3⟩ := h
    have h2 := List.all_eq_true.mp h2 r (by simp)
    cases r with
    | tup qs =>
      simp only [lenB, Bool.and_eq_true, decide_eq_true_eq] at h2
      exact ⟨qs, rs, rfl, h1, h2.1, h2.2⟩
    | _ => simp [lenB] at h2
  · cases h
def prgFd (a b c d : D) : List (String × D) := [("steps", a), ("first", b), ("leader", c), ("lamp", d)]
/-- what is wrong is told as BadProgram -/
def XBad (st : Sto) (w : Option String) : XP := fun c fs s => c = 2 ∧ Chg [] st s ∧ ∃ v, w = some v ∧ fs = [("what", .str (Str.ofString v))]
def sFields : Sm := sSeq (sSetF fld_steps "steps" (eVar 0) (eVar 1)) (sSeq (sSetF fld_first "first" (eVar 0) (eVar 2)) (sSeq (sSetF fld_leader "leader" (eVar 0) (eVar 3)) (sSetF fld_lamp "lamp" (eVar 0) (eVar 4))))
noncomputable def sLamp : Sm := sIf (tAnd' (asB (eBin opIsNot (eVar 4) (eC .non))) (tNot' (tTru (eCall f_is_within [eVar 4, eC (.int 0), eBin opSub (eBlt opLen [eBin opIx (eVar 1) (eC (.int 0))]) (eC (.int 1))])))) (sRaise1 2 "what" (eC (.str (Str.ofString "lamp")))) sSkip
theorem Program_init_gen {a b c d : D} {o : Nat} {st : Sto} (ho : st[o]? = some (.ins 4 [])) (ha : Kn st 3 a) (hb : Kz st b) (hc : Kz st c) (hd : Kz st d) :
    Wp (XBad st (faultB a b c d)) (fun x s => x = .non ∧ faultB a b c d = none ∧ s[o]? = some (.ins 4 (prgFd a b c d)) ∧ Chg [o] st s) (f_Program_init [.ref o, a, b, c, d] st) := by
  walk_at "fn"
  unfold b_Program_init
  refine r_owp_seq ?_
  refine r_owp_if ?_
  walk_at "fld"
  refine (are_steps_gen ha).mono ?_
  rintro _ s1 ⟨rfl, k1⟩
  by_cases h1 : stepsB a = true
  rotate_left
  · walk_at "fld"
    exact ⟨rfl, k1, "steps", by simp [faultB, h1], rfl⟩
  obtain ⟨qs, rs, rfl, hrs, hq1, hq4⟩ := stepsB_form h1
  have e1 : ((D.tup qs :: rs).length : Int) - 1 = (nrows (.tup (.tup qs :: rs)) - 1 : Int) := rfl
  walk_at "fld"
  refine r_owp_seq ?_
  refine r_owp_if ?_
  walk_at "fld"
  refine (is_within_gen (hb.keep k1)).mono ?_
  rintro _ _ ⟨rfl, rfl⟩
  rw [e1]
  by_cases h2 : withinB 0 (nrows (.tup (.tup qs :: rs)) - 1 : Int) b = true
  rotate_left
  · walk_at "fld"
    exact ⟨rfl, k1, "first", by simp [faultB, h1, h2], rfl⟩
  walk_at "fld"
  have last : ∀ (hcd : (LF.isNon c || withinB 0 (nrows (.tup (.tup qs :: rs)) - 1 : Int) c) = true) (s : Sto), Chg [] st s → Owp (Ks.fn (XBad st (faultB (.tup (.tup qs :: rs)) b c d)) fun x s => x = .non ∧ faultB (.tup (.tup qs :: rs)) b c d = none ∧ s[o]? = some (.ins 4 (prgFd (.tup (.tup qs :: rs)) b c d)) ∧ Chg [o] st s)
      ((sSeq sLamp sFields) [some (.ref o), some (.tup (.tup qs :: rs)), some b, some c, some d] s) := by
    intro hcd s ks
    have tail : ∀ (hdd : (LF.isNon d || withinB 0 (ncols (.tup (.tup qs :: rs)) - 1 : Int) d) = true), Owp (Ks.fn (XBad st (faultB (.tup (.tup qs :: rs)) b c d)) fun x s => x = .non ∧ faultB (.tup (.tup qs :: rs)) b c d = none ∧ s[o]? = some (.ins 4 (prgFd (.tup (.tup qs :: rs)) b c d)) ∧ Chg [o] st s)
        (sFields [some (.ref o), some (.tup (.tup qs :: rs)), some b, some c, some d] s) := by
      intro hdd
      unfold sFields
      walk_at "wp"
      refine wo_setF (ks.get0 ho) (by decide) (by simp) fun v1 hv1 l1 => ?_
      walk_at "wp"
      refine wo_setF hv1 (by decide) (by simp [putD]) fun v2 hv2 l2 => ?_
      walk_at "wp"
      refine wo_setF hv2 (by decide) (by simp [putD]) fun v3 hv3 l3 => ?_
      walk_at "wp"
      refine wo_setF hv3 (by decide) (by simp [putD]) fun v4 hv4 l4 => ?_
      walk_at "wp"
      exact ⟨rfl, by simp only [faultB, h1, h2, hcd, hdd]; rfl, by simpa [putD, prgFd] using hv4, (((ks.up.trans l1).trans l2).trans l3).trans l4⟩
    refine r_owp_seq ?_
    unfold sLamp
    refine r_owp_if ?_
    by_cases hn : LF.isNon d = true
    · walk_at "fld"
      exact tail (by simp [hn])
    · walk_at "fld"
      refine w_ixT atI0 ?_
      walk_at "fld"
      refine (is_within_gen (hd.keep ks)).mono ?_
      rintro _ _ ⟨rfl, rfl⟩
      rw [show ((qs.length : Int) - 1) = (ncols (.tup (.tup qs :: rs)) - 1 : Int) from rfl]
      by_cases h4 : withinB 0 (ncols (.tup (.tup qs :: rs)) - 1 : Int) d = true
      · walk_at "fld"
        exact tail (by simp [h4])
      · walk_at "fld"
        exact ⟨rfl, ks, "lamp", by simp only [faultB, h1, h2, hcd, hn, h4]; rfl, rfl⟩
  refine r_owp_seq ?_
  refine r_owp_if ?_
  by_cases hn : LF.isNon c = true
  · walk_at "fld"
    exact last (by simp [hn]) _ k1
  · walk_at "fld"
    refine (is_within_gen (hc.keep k1)).mono ?_
    rintro _ _ ⟨rfl, rfl⟩
    rw [e1]
    by_cases h3 : withinB 0 (nrows (.tup (.tup qs :: rs)) - 1 : Int) c = true
    · walk_at "fld"
      exact last (by simp [h3]) _ k1
    · walk_at "fld"
      exact ⟨rfl, k1, "leader", by simp only [faultB, h1, h2, hn, h3]; rfl, rfl⟩
/-! ### the law's own judge -/
theorem law_within_gen {d : D} {a b : Int} {st : Sto} (h : Kz st d) {X : XP} : Wp X (fun x s => x = .bl (withinB a b d) ∧ s = st) (f__law_within [d, .int a, .int b] st) := by
  walk_at "fn"
  unfold b__law_within
  cases h with
  | int i =>
    walk_at "wp"
    refine r_bSplit (fun h => ?_) (fun h => ?_)
    · walk_at "wp"
      exact ⟨by simp [withinB, h], rfl⟩
    · walk_at "wp"
      exact ⟨by simp [withinB, h], rfl⟩
  | _ =>
    walk_at "wp"
    exact ⟨rfl, rfl⟩
theorem law_is_word_gen {d : D} {st : Sto} (h : Kz st d) {X : XP} : Wp X (fun x s => x = .bl (wordB d) ∧ s = st) (f__law_is_word [d] st) := by
  walk_at "fn"
  unfold b__law_is_word
  walk_at "wp"
  refine (law_within_gen h).mono ?_
  rintro _ _ ⟨rfl, rfl⟩
  cases h with
  | int i =>
    refine r_tSplit (fun h => ?_) (fun h => ?_)
    · walk_at "wp"
      exact ⟨by simp only [withinB] at h ⊢; simp only [wordB, h], rfl⟩
    · walk_at "wp"
      exact ⟨by simp only [withinB] at h; simp only [wordB, Bool.eq_false_iff.mpr h], rfl⟩
  | str x hx =>
    simp only [withinB]
    walk_at "wp"
    refine w_eqS hx all_ok ?_
    walk_at "wp"
    exact ⟨rfl, rfl⟩
  | _ =>
    simp only [withinB]
    walk_at "wp"
    exact ⟨rfl, rfl⟩
def isTup : D → Bool
  | .tup _ => true
  | _ => false
def fauD (w : Option String) : D := match w with
  | none => .non
  | some v => .str (Str.ofString v)
/-- one step, judged within the loops -/
noncomputable def sStep : Sm := sSeq (sIf (tOr' (tNot' (tTru (eBlt (opIsi (.ty "tuple") (ansTy "tuple")) [eVar 3, eC (.ty "tuple")]))) (tOr' (asB (eBin opNe (eBlt opLen [eVar 3]) (eC (.int 3)))) (tNot' (tTru (eCall (f__law_within) [eBin opIx (eVar 3) (eC (.int 0)), eC (.int 0), eBin opSub (eBlt opLen [eVar 1]) (eC (.int 1))]))))) (sRet (eC (.str (Str.ofString "steps")))) (sSkip)) (sIf (tOr' (tNot' (tTru (eCall (f__law_within) [eBin opIx (eVar 3) (eC (.int 1)), eC (.int 0), eBin opSub (eBlt opLen [eVar 2]) (eC (.int 1))]))) (tNot' (tOr' (asB (eBin opIs (eBin opIx (eVar 3) (eC (.int 2))) (eC .non))) (tTru (eCall (f__law_is_word) [eBin opIx (eVar 3) (eC (.int 2))]))))) (sRet (eC (.str (Str.ofString "steps")))) (sSkip))
theorem step_gen {K : Ks} {x0 : Option D} {rs zs : List D} {d : D} {st : Sto} (h : Kn st 1 d)
    (hyes : stepB rs.length zs.length d = true → K.nx [x0, some (.tup rs), some (.tup zs), some d] st) (hno : stepB rs.length zs.length d = false → K.rt (.str (Str.ofString "steps")) st) :
    Owp K (sStep [x0, some (.tup rs), some (.tup zs), some d] st) := by
  have hs : ∀ ds, d = .tup ds → ∀ z ∈ ds, Kz st z := fun ds e z hz => by subst e; exact (h.sub z hz).kz
  have hk := h.kz
  clear h
  unfold sStep
  cases hk with
  | tup ds =>
    have hs := hs ds rfl
    by_cases hl : ds.length = 3
    · obtain ⟨a, b, c, rfl⟩ : ∃ a b c, ds = [a, b, c] := by
        match ds, hl with
        | [a, b, c], _ => exact ⟨a, b, c, rfl⟩
      have ha := hs a (by simp)
      have hb := hs b (by simp)
      have hc := hs c (by simp)
      walk_at "wp"
      refine (law_within_gen ha).mono ?_
      rintro _ _ ⟨rfl, rfl⟩
      by_cases h1 : withinB 0 ((rs.length : Int) - 1) a = true
      · walk_at "wp"
        refine (law_within_gen hb).mono ?_
        rintro _ _ ⟨rfl, rfl⟩
        by_cases h2 : withinB 0 ((zs.length : Int) - 1) b = true
        · walk_at "wp"
          by_cases h3 : LF.isNon c = true
          · walk_at "wp"
            exact hyes (by simp [stepB, h1, h2, h3])
          · walk_at "wp"
            refine (law_is_word_gen hc).mono ?_
            rintro _ _ ⟨rfl, rfl⟩
            by_cases h4 : wordB c = true
            · walk_at "wp"
              exact hyes (by simp [stepB, h1, h2, h4])
            · walk_at "wp"
              exact hno (by simp [stepB, h1, h2, h3, h4])
        · walk_at "wp"
          exact hno (by simp [stepB, h1, h2])
      · walk_at "wp"
        exact hno (by simp [stepB, h1])
    · have hl2 : ((ds.length : Int) == 3) = false := by simp; omega
      walk_at "wp"
      exact hno (by
        match ds, hl with
        | [], _ => rfl
        | [_], _ => rfl
        | [_, _], _ => rfl
        | [_, _, _], hl => simp at hl
        | _ :: _ :: _ :: _ :: _, _ => rfl)
  | _ => walk_at "wp"; exact hno rfl
theorem sel_nil {p : D → Bool} {ds : List D} : ds.filterMap (fun z => if p z = true then (none : Option D) else some z) = [] ↔ ds.all p = true := by
  induction ds with
  | nil => simp
  | cons d ds ih =>
    rw [List.filterMap_cons, List.all_cons]
    by_cases h : p d = true
    · simp only [h, if_true, Bool.true_and]
      exact ih
    · simp [h]
theorem lenB_tlen {z : D} (h : lenB z = true) : ∃ qs, z = .tup qs ∧ 1 ≤ qs.length ∧ qs.length ≤ 4 := by
  cases z with
  | tup qs =>
    simp only [lenB, Bool.and_eq_true, decide_eq_true_eq] at h
    exact ⟨qs, rfl, h.1, h.2⟩
  | _ => simp [lenB] at h
theorem rows_tup {rs : List D} (h : rs.all isTup = true) {z : D} (hz : z ∈ rs) : ∃ qs, z = .tup qs := by
  have := List.all_eq_true.mp h z hz
  cases z with
  | tup qs => exact ⟨qs, rfl⟩
  | _ => simp [isTup] at this
theorem law_fault_gen {a b c d : D} {r : Nat} {st : Sto} (hr : st[r]? = some (.lst [a, b, c, d])) (ha : Kn st 3 a) (hb : Kz st b) (hc : Kz st c) (hd : Kz st d) {X : XP} :
    Wp X (fun x s => x = fauD (faultB a b c d) ∧ Chg [] st s) (f__law_fault [.ref r] st) := by
  have hs : ∀ ds, a = .tup ds → ∀ z ∈ ds, Kn st 2 z := fun ds e z hz => by subst e; exact ha.sub z hz
  have hk := ha.kz
  clear ha
  have bad : ∀ {s : Sto}, Chg [] st s → stepsB a = false → (D.str (Str.ofString "steps") = fauD (faultB a b c d) ∧ Chg [] st s) := fun k e => ⟨by simp [faultB, e, fauD], k⟩
  cases hk with
  | tup rs =>
    have hs := hs rs rfl
    cases rs with
    | nil =>
      walk_at "fn"
      unfold b__law_fault
      walk_at "wp"
      exact bad Chg.refl rfl
    | cons r0 rs =>
      by_cases h5 : rs.length + 1 ≤ 5
      rotate_left
      · have h5a : ¬ ((r0 :: rs).length : Int) ≤ 5 := by simp; omega
        have h5b : (1 : Int) ≤ ((r0 :: rs).length : Int) := by simp; omega
        walk_at "fn"
        unfold b__law_fault
        walk_at "wp"
        exact bad Chg.refl (by simp [stepsB, h5])
      have h5a : ((r0 :: rs).length : Int) ≤ 5 := by simp; omega
      have h5b : (1 : Int) ≤ ((r0 :: rs).length : Int) := by simp; omega
      walk_at "fn"
      unfold b__law_fault
      walk_at "wp"
      refine wp_lc ?_
      walk_at "wp"
      refine ⟨fun z => if isTup z = true then none else some z, fun _ _ => okB_none, by show (r0 :: rs).length ≤ LIM; simp only [List.length_cons, LIM]; omega, ?_, ?_⟩
      · intro z hz s hks
        have hzk := (hs z hz).kz.keep hks
        refine ⟨_, rfl, ?_⟩
        dsimp only [wipeD, List.set]
        walk_at "wp"
        cases hzk <;> (walk_at "wp"; exact ⟨rfl, Chg.refl⟩)
      intro L s1 hL hLn k1
      walk_at "wp"
      refine wo_lst (by simp [LIM]) fun L2 s2 hL2 hL2n k2 => ?_
      have hL' := k2.get0 hL
      walk_at "wp"
      by_cases htup : (r0 :: rs).all isTup = true
      rotate_left
      · have hne := (not_congr (sel_nil (p := isTup) (ds := r0 :: rs))).mpr htup
        have hlen : ¬ (List.filterMap (fun z => if isTup z = true then (none : Option D) else some z) (r0 :: rs)).length = ([] : List D).length := fun e => hne (List.eq_nil_of_length_eq_zero e)
        refine w_neE hL' hL2 (.inl hlen) ?_
        rw [decide_eq_true hlen]
        walk_at "wp"
        exact bad (k1.trans k2) (by
          obtain ⟨z, hz, hzf⟩ := List.all_eq_false.mp (Bool.eq_false_iff.mpr htup)
          have : (r0 :: rs).all lenB = false := List.all_eq_false.mpr ⟨z, hz, fun e => by obtain ⟨qs, rfl, _⟩ := lenB_tlen e; exact hzf rfl⟩
          simp only [stepsB, this, Bool.false_and, Bool.and_false])
      have hnil := (sel_nil (p := isTup) (ds := r0 :: rs)).mpr htup
      rw [hnil] at hL'
      refine w_neE hL' hL2 (.inr rfl) ?_
      rw [show decide (([] : List D).length ≠ ([] : List D).length) = false by decide]
      have k12 := k1.trans k2
      obtain ⟨qs, rfl⟩ := rows_tup htup (z := r0) (by simp)
      walk_at "wp"
      refine w_ixT atI0 ?_
      walk_at "wp"
      by_cases hq : 1 ≤ qs.length ∧ qs.length ≤ 4
      rotate_left
      · have hlf : lenB (.tup qs) = false := by simp only [lenB]; rw [← Bool.decide_and]; exact decide_eq_false hq
        have hsf : stepsB (.tup (.tup qs :: rs)) = false := by simp only [stepsB, List.all_cons, hlf, Bool.false_and, Bool.and_false]
        by_cases h1 : (1 : Int) ≤ (qs.length : Int)
        · have h4 : ¬ (qs.length : Int) ≤ 4 := by omega
          walk_at "wp"
          exact bad k12 hsf
        · walk_at "wp"
          exact bad k12 hsf
      have h1 : (1 : Int) ≤ (qs.length : Int) := by omega
      have h4 : (qs.length : Int) ≤ 4 := by omega
      walk_at "wp"
      refine wp_lc ?_
      walk_at "wp"
      refine ⟨fun z => if (fun z => decide (tlen z = qs.length)) z = true then none else some z, fun _ _ => okB_none, by show (D.tup qs :: rs).length ≤ LIM; simp only [List.length_cons, LIM]; omega, ?_, ?_⟩
      · intro z hz s hks
        obtain ⟨zs, rfl⟩ := rows_tup htup hz
        refine ⟨_, rfl, ?_⟩
        dsimp only [wipeD, List.set]
        walk_at "wp"
        refine w_ixT atI0 ?_
        walk_at "wp"
        by_cases e : zs.length = qs.length
        · have e2 : ((zs.length : Int) == qs.length) = true := by simp; omega
          walk_at "wp"
          exact ⟨if_pos (decide_eq_true e), Chg.refl⟩
        · have e2 : ((zs.length : Int) == qs.length) = false := by simp; omega
          walk_at "wp"
          exact ⟨if_neg (by rw [show decide (tlen (.tup zs) = qs.length) = false from decide_eq_false e]; exact Bool.false_ne_true), Chg.refl⟩
      intro L3 s3 hL3 hL3n k3
      walk_at "wp"
      refine wo_lst (by simp [LIM]) fun L4 s4 hL4 hL4n k4 => ?_
      have hL3' := k4.get0 hL3
      walk_at "wp"
      by_cases hsame : (D.tup qs :: rs).all (fun z => decide (tlen z = qs.length)) = true
      rotate_left
      · have hne := (not_congr (sel_nil (p := fun z => decide (tlen z = qs.length)) (ds := D.tup qs :: rs))).mpr hsame
        have hlen : ¬ (List.filterMap (fun z => if (fun z => decide (tlen z = qs.length)) z = true then (none : Option D) else some z) (D.tup qs :: rs)).length = ([] : List D).length := fun e => hne (List.eq_nil_of_length_eq_zero e)
        refine w_neE hL3' hL4 (.inl hlen) ?_
        rw [decide_eq_true hlen]
        walk_at "wp"
        exact bad (k12.trans (k3.trans k4)) (by
          obtain ⟨z, hz, hzf⟩ := List.all_eq_false.mp (Bool.eq_false_iff.mpr hsame)
          obtain ⟨zs, rfl⟩ := rows_tup htup hz
          have : (D.tup qs :: rs).all (rowB (rs.length + 1) (tlen (.tup qs))) = false := List.all_eq_false.mpr ⟨_, hz, fun e => by
            simp only [rowB, Bool.and_eq_true] at e
            exact hzf e.1⟩
          simp only [stepsB, this, Bool.and_false])
      have hnil3 := (sel_nil (p := fun z => decide (tlen z = qs.length)) (ds := D.tup qs :: rs)).mpr hsame
      rw [hnil3] at hL3'
      refine w_neE hL3' hL4 (.inr rfl) ?_
      rw [show decide (([] : List D).length ≠ ([] : List D).length) = false by decide]
      have k14 := k12.trans (k3.trans k4)
      have hsame' : ∀ zs : List D, D.tup zs ∈ D.tup qs :: rs → zs.length = qs.length := fun zs hz => of_decide_eq_true (List.all_eq_true.mp hsame _ hz)
      have hlenAll : (D.tup qs :: rs).all lenB = true := List.all_eq_true.mpr fun z hz => by
        obtain ⟨zs, rfl⟩ := rows_tup htup hz
        have := hsame' zs hz
        show (decide (1 ≤ zs.length) && decide (zs.length ≤ 4)) = true
        rw [decide_eq_true (by omega), decide_eq_true (by omega)]
        rfl
      walk_at "fld"
      refine r_owp_seq ?_
      walk_at "fld"
      refine owp_forS (fun i e s => ∃ x2 x3, e = [some (.ref r), some (.tup (.tup qs :: rs)), x2, x3] ∧ Chg [] st s ∧ ∀ j zs, j < i → (D.tup qs :: rs)[j]? = some (.tup zs) → zs.all (stepB (rs.length + 1 : Nat) zs.length) = true) ?_ ?_ ⟨_, _, rfl, k14, fun j z hj => absurd hj (by omega)⟩
      · rintro i z e s hz ⟨x2, x3, rfl, ks, hrows⟩
        have hzm := List.mem_of_getElem? hz
        obtain ⟨zs, rfl⟩ := rows_tup htup hzm
        have hzk := (hs _ hzm).keep ks
        refine ⟨okB_none, _, rfl, ?_⟩
        dsimp only [List.set]
        walk_at "wp"
        refine owp_forS (fun i' e s' => ∃ y3, e = [some (.ref r), some (.tup (.tup qs :: rs)), some (.tup zs), y3] ∧ Chg [] st s' ∧ ∀ j y, j < i' → zs[j]? = some y → stepB (rs.length + 1 : Nat) zs.length y = true) ?_ ?_ ⟨_, rfl, ks, fun j y hj => absurd hj (by omega)⟩
        · rintro i' y e s' hy ⟨y3, rfl, ks', hst⟩
          refine ⟨okB_none, _, rfl, ?_⟩
          dsimp only [List.set]
          have hym := List.mem_of_getElem? hy
          refine step_gen (x0 := some (.ref r)) (rs := D.tup qs :: rs) (zs := zs) ((hs _ hzm).sub y hym |>.keep ks') (fun hyes => ?_) (fun hno => ?_)
          · exact ⟨_, rfl, ks', fun j w hj hw => by
              by_cases hji : j = i'
              · subst hji
                rw [hy] at hw
                cases hw
                exact hyes
              · exact hst j w (by omega) hw⟩
          · walk_at "wp"
            exact bad ks' (by
              have : (D.tup qs :: rs).all (rowB (rs.length + 1) (tlen (.tup qs))) = false := List.all_eq_false.mpr ⟨_, hzm, fun e => by
                simp only [rowB, Bool.and_eq_true] at e
                have := List.all_eq_true.mp e.2 y hym
                rw [show stepB ((rs.length + 1 : Nat) : Int) zs.length y = false from hno] at this
                cases this⟩
              simp only [stepsB, this, Bool.and_false])
        · rintro e s' ⟨y3, rfl, ks', hst⟩
          refine ⟨okB_none, _, _, rfl, ks', fun j ws hj hw => ?_⟩
          by_cases hji : j = i
          · subst hji
            rw [hz] at hw
            cases hw
            exact List.all_eq_true.mpr fun y hy => by
              obtain ⟨j, hj⟩ := List.getElem?_of_mem hy
              exact hst j y (List.getElem?_eq_some_iff.mp hj).1 hj
          · exact hrows j ws (by omega) hw
      · rintro e s ⟨x2, x3, rfl, ks, hrows⟩
        refine ⟨okB_none, ?_⟩
        have hall : (D.tup qs :: rs).all (rowB (rs.length + 1) (tlen (.tup qs))) = true := List.all_eq_true.mpr fun z hz => by
          obtain ⟨zs, rfl⟩ := rows_tup htup hz
          obtain ⟨j, hj⟩ := List.getElem?_of_mem hz
          have h1 := hrows j zs (List.getElem?_eq_some_iff.mp hj).1 hj
          show (decide (zs.length = qs.length) && zs.all (stepB (rs.length + 1 : Nat) zs.length)) = true
          rw [decide_eq_true (hsame' zs hz), Bool.true_and]
          exact h1
        have hS : stepsB (.tup (.tup qs :: rs)) = true := by simp only [stepsB, hlenAll, hall, h5, decide_true, Bool.and_self]
        have hrs := ks.get0 hr
        have e1 : ((D.tup qs :: rs).length : Int) - 1 = (nrows (.tup (.tup qs :: rs)) - 1 : Int) := rfl
        walk_at "wp"
        refine (law_within_gen (hb.keep ks)).mono ?_
        rintro _ t ⟨rfl, rfl⟩
        rw [e1]
        by_cases hf : withinB 0 (nrows (.tup (.tup qs :: rs)) - 1 : Int) b = true
        rotate_left
        · walk_at "wp"
          exact ⟨by simp [faultB, hS, hf, fauD], ks⟩
        walk_at "fld"
        have lamp : (LF.isNon c || withinB 0 (nrows (.tup (.tup qs :: rs)) - 1 : Int) c) = true → Wp X (fun x s => x = fauD (faultB (.tup (.tup qs :: rs)) b c d) ∧ Chg [] st s)
            (eIf (tOr' (asB (eBin opIs (eBin opIx (eVar 0) (eC (.int 3))) (eC .non))) (tTru (eCall (f__law_within) [eBin opIx (eVar 0) (eC (.int 3)), eC (.int 0), eBin opSub (eBlt opLen [eBin opIx (eVar 1) (eC (.int 0))]) (eC (.int 1))]))) (eC .non) (eC (.str (Str.ofString "lamp"))) [some (.ref r), some (.tup (.tup qs :: rs)), x2, x3] t) := by
          intro hcd
          by_cases hn : LF.isNon d = true
          · walk_at "wp"
            exact ⟨by simp [faultB, hS, hf, hcd, hn, fauD], ks⟩
          · walk_at "wp"
            refine w_ixT atI0 ?_
            walk_at "wp"
            refine (law_within_gen (hd.keep ks)).mono ?_
            rintro _ u ⟨rfl, rfl⟩
            rw [show ((qs.length : Int) - 1) = (ncols (.tup (.tup qs :: rs)) - 1 : Int) from rfl]
            by_cases h4 : withinB 0 (ncols (.tup (.tup qs :: rs)) - 1 : Int) d = true
            · walk_at "wp"
              exact ⟨by simp [faultB, hS, hf, hcd, h4, fauD], ks⟩
            · walk_at "wp"
              exact ⟨by simp [faultB, hS, hf, hcd, hn, h4, fauD], ks⟩
        refine r_owp_seq ?_
        refine r_owp_if ?_
        by_cases hn : LF.isNon c = true
        · walk_at "fld"
          refine r_owp_ret ?_
          exact lamp (by simp [hn])
        · walk_at "fld"
          refine (law_within_gen (hc.keep ks)).mono ?_
          rintro _ u ⟨rfl, rfl⟩
          rw [e1]
          by_cases h3 : withinB 0 (nrows (.tup (.tup qs :: rs)) - 1 : Int) c = true
          · walk_at "fld"
            refine r_owp_ret ?_
            exact lamp (by simp [h3])
          · walk_at "fld"
            exact ⟨by simp [faultB, hS, hf, hn, h3, fauD], ks⟩
  | _ => walk_at "fn"; unfold b__law_fault; walk_at "wp"; exact bad Chg.refl rfl
inductive Pl : Nat → D → Prop where
  | non (n : Nat) : Pl n .non
  | bl (n : Nat) (b : Bool) : Pl n (.bl b)
  | int (n : Nat) (i : Int) : Pl n (.int i)
  | str (n : Nat) (x : Str) (h : PyData.strOk x = true) : Pl n (.str x)
  | tup (n : Nat) (ds : List D) (h : ∀ d ∈ ds, Pl n d) (hl : ds.length ≤ 100000) : Pl (n + 1) (.tup ds)
theorem Pl.up {n : Nat} {d : D} (h : Pl n d) : Pl (n + 1) d := by
  induction h with
  | non n => exact .non _
  | bl n b => exact .bl _ b
  | int n i => exact .int _ i
  | str n x h => exact .str _ x h
  | tup n ds h hl ih => exact .tup _ ds ih hl
theorem deep_pl {n : Nat} {d : D} (h : Pl n d) : ∃ p, (∀ (st : Sto) (k : Nat), deep st (n + k) d = some p) ∧ p.canLay0 = true ∧ p.depth ≤ n := by
  induction h with
  | non n => exact ⟨.none, fun st k => by cases n + k <;> rfl, rfl, by simp [PyData.depth]⟩
  | bl n b => exact ⟨.bool b, fun st k => by cases n + k <;> rfl, rfl, by simp [PyData.depth]⟩
  | int n i => exact ⟨.int i, fun st k => by cases n + k <;> rfl, rfl, by simp [PyData.depth]⟩
  | str n x h => exact ⟨.str x, fun st k => by cases n + k <;> rfl, h, by simp [PyData.depth]⟩
  | tup n ds h hl ih =>
    have key : ∃ ps, (∀ (st : Sto) (k : Nat), mapO (deep st (n + k)) ds = some ps) ∧ PyData.canLayAll0 ps = true ∧ PyData.depthAll ps ≤ n := by
      clear h hl
      induction ds with
      | nil => exact ⟨[], fun st k => rfl, rfl, by simp [PyData.depthAll]⟩
      | cons d ds ihd =>
        obtain ⟨p, p1, p2, p3⟩ := ih d (by simp)
        obtain ⟨ps, q1, q2, q3⟩ := ihd fun z hz => ih z (by simp [hz])
        refine ⟨p :: ps, fun st k => by simp [mapO, p1 st k, q1 st k], by simp [PyData.canLayAll0, p2, q2], ?_⟩
        simp only [PyData.depthAll]
        omega
    obtain ⟨ps, q1, q2, q3⟩ := key
    refine ⟨.tuple ps, fun st k => ?_, q2, by simp only [PyData.depth]; omega⟩
    rw [show n + 1 + k = (n + k) + 1 by omega]
    show (mapO (deep st (n + k)) ds).map PyData.tuple = _
    rw [q1 st k]
    rfl
theorem eqD_pl {st : Sto} {n : Nat} {d : D} (h : Pl n d) (hn : n ≤ 60) : eqD st d d = some true := by
  obtain ⟨p, p1, p2, p3⟩ := deep_pl h
  have e := p1 st (66 - n)
  rw [show n + (66 - n) = 66 by omega] at e
  have sh : SeqAt.shaped p = true := by simp only [SeqAt.shaped, p2, Bool.true_and, decide_eq_true_eq]; omega
  simp only [eqD, e]
  rw [if_pos ⟨sh, sh⟩, SeqAt.eqv_refl p p2]
theorem eqD_nil {st : Sto} {a b : Nat} (ha : st[a]? = some (.lst [])) (hb : st[b]? = some (.lst [])) : eqD st (.ref a) (.ref b) = some true := by
  have e1 : deep st 66 (.ref a) = some (.list []) := by simp [deep, ha, mapO]
  have e2 : deep st 66 (.ref b) = some (.list []) := by simp [deep, hb, mapO]
  simp only [eqD, e1, e2]
  rfl
theorem none_all (ds : List D) : ds.filterMap (fun _ => (none : Option D)) = [] := by
  induction ds with
  | nil => rfl
  | cons d ds ih => simpa using ih
theorem same_flat {n k : Nat} {d : D} (h : Pl n d) (hf : ∀ ds, d ≠ .tup ds) {st : Sto} {X : XP} : Wp X (fun x s => x = .bl true ∧ Chg [] st s) (f__law_same (k + 1) [d, d] st) := by
  cases h with
  | non n =>
    unfold f__law_same
    walk_at "fn"
    unfold b__law_same
    walk_at "wp"
    exact ⟨rfl, Chg.refl⟩
  | bl n b =>
    unfold f__law_same
    walk_at "fn"
    unfold b__law_same
    walk_at "wp"
    exact ⟨by simp, Chg.refl⟩
  | int n i =>
    unfold f__law_same
    walk_at "fn"
    unfold b__law_same
    walk_at "wp"
    exact ⟨by simp, Chg.refl⟩
  | str n x h =>
    unfold f__law_same
    walk_at "fn"
    unfold b__law_same
    walk_at "wp"
    refine w_eqS h h ?_
    walk_at "wp"
    exact ⟨by simp, Chg.refl⟩
  | tup n ds h hl => exact (hf ds rfl).elim
theorem same_tup : ∀ {n : Nat} {d : D}, Pl n d → ∀ {k : Nat}, n ≤ k → ∀ {st : Sto} {X : XP}, Wp X (fun x s => x = .bl true ∧ Chg [] st s) (f__law_same (k + 1) [d, d] st) := by
  intro n d h
  induction h with
  | non n => intro k hk st X; exact same_flat (.non n) (by simp)
  | bl n b => intro k hk st X; exact same_flat (.bl n b) (by simp)
  | int n i => intro k hk st X; exact same_flat (.int n i) (by simp)
  | str n x h => intro k hk st X; exact same_flat (.str n x h) (by simp)
  | tup n ds h hl ih =>
    intro k hk st X
    obtain ⟨k, rfl⟩ : ∃ j, k = j + 1 := ⟨k - 1, by omega⟩
    unfold f__law_same
    walk_at "fn"
    unfold b__law_same
    walk_at "wp"
    refine wp_lc ?_
    walk_at "wp"
    refine ⟨fun _ => none, fun _ _ => okB_none, by rw [rng_len]; simp only [LIM]; omega, ?_, ?_⟩
    · intro d hd s hs
      obtain ⟨i, hi⟩ := List.getElem?_of_mem hd
      obtain ⟨hi, rfl⟩ := rng_get hi
      have hi2 : i < ds.length := by omega
      refine ⟨_, rfl, ?_⟩
      dsimp only [wipeD, List.set]
      walk_at "wp"
      refine w_ixT (atIn (List.getElem?_eq_getElem hi2)) ?_
      walk_at "wp"
      refine w_ixT (atIn (List.getElem?_eq_getElem hi2)) ?_
      walk_at "wp"
      refine (ih _ (List.getElem_mem hi2) (by omega)).mono ?_
      rintro _ s2 ⟨rfl, k2⟩
      walk_at "wp"
      exact ⟨rfl, k2⟩
    · intro L s hL hLn k1
      rw [none_all] at hL
      walk_at "wp"
      refine wo_lst (by simp [LIM]) fun L2 s2 hL2 hL2n k2 => ?_
      walk_at "wp"
      refine w_eqE (k2.get0 hL) hL2 (.inr rfl) ?_
      walk_at "wp"
      exact ⟨rfl, k1.trans k2⟩
theorem same_lst {n k a b : Nat} {ds : List D} (h : ∀ d ∈ ds, Pl n d) (hl : ds.length ≤ 100000) (hk : n ≤ k) {st : Sto} (ha : st[a]? = some (.lst ds)) (hb : st[b]? = some (.lst ds)) {X : XP} : Wp X (fun x s => x = .bl true ∧ Chg [] st s) (f__law_same (k + 1 + 1) [.ref a, .ref b] st) := by
  unfold f__law_same
  walk_at "fn"
  unfold b__law_same
  walk_at "wp"
  refine wp_lc ?_
  walk_at "wp"
  refine ⟨fun _ => none, fun _ _ => okB_none, by rw [rng_len]; simp only [LIM]; omega, ?_, ?_⟩
  · intro d hd s hs
    obtain ⟨i, hi⟩ := List.getElem?_of_mem hd
    obtain ⟨hi, rfl⟩ := rng_get hi
    have hi2 : i < ds.length := by omega
    refine ⟨_, rfl, ?_⟩
    dsimp only [wipeD, List.set]
    walk_at "wp"
    refine w_ixL (hs.get0 ha) (atIn (List.getElem?_eq_getElem hi2)) ?_
    walk_at "wp"
    refine w_ixL (hs.get0 hb) (atIn (List.getElem?_eq_getElem hi2)) ?_
    walk_at "wp"
    refine (same_tup (h _ (List.getElem_mem hi2)) (by omega)).mono ?_
    rintro _ s2 ⟨rfl, k2⟩
    walk_at "wp"
    exact ⟨rfl, k2⟩
  · intro L s hL hLn k1
    rw [none_all] at hL
    walk_at "wp"
    refine wo_lst (by simp [LIM]) fun L2 s2 hL2 hL2n k2 => ?_
    walk_at "wp"
    refine w_eqE (k2.get0 hL) hL2 (.inr rfl) ?_
    walk_at "wp"
    exact ⟨rfl, k1.trans k2⟩
/-! ### the numbers that words write -/
theorem ok_empty : PyData.strOk (Str.ofString "") = true := by decide +kernel
theorem ok_zero : PyData.strOk (Str.ofString "0") = true := by decide +kernel
theorem ok_minus : PyData.strOk (Str.ofString "-") = true := by decide +kernel
theorem beq_str {x y : Str} : (x == y) = decide (x = y) := by
  by_cases h : x = y
  · rw [decide_eq_true h, h]
    exact beq_self_eq_true y
  · rw [decide_eq_false h]
    exact beq_eq_false_iff_ne.mpr h
theorem first_sign {w : Str} (h1 : 1 ≤ w.length) : ∃ c, w.cps.toList[0]? = some c ∧ atI w.cps.toList 0 = some c := by
  have hl : w.length = w.cps.toList.length := str_len
  obtain ⟨c, hc⟩ : ∃ c, w.cps.toList[0]? = some c := ⟨_, List.getElem?_eq_getElem (by omega)⟩
  exact ⟨c, hc, atIn (n := 0) hc⟩
theorem zero_cps : (Str.ofString "0").cps.toList = [48] := by decide +kernel
theorem one_zero {c : Nat} : ((⟨#[c]⟩ : Str) == Str.ofString "0") = decide (c = 48) := by
  rw [beq_str]
  by_cases h : c = 48
  · subst h
    rw [decide_eq_true rfl]
    exact decide_eq_true (ext_cps (by rw [zero_cps]))
  · rw [decide_eq_false h]
    refine decide_eq_false fun e => h ?_
    have := congrArg (fun z : Str => z.cps.toList) e
    simp only [zero_cps] at this
    simpa using this
theorem one_ok {w : Str} {c : Nat} (hw : PyData.strOk w = true) (h : w.cps.toList[0]? = some c) : PyData.strOk (⟨#[c]⟩ : Str) = true := by
  refine strOk_iff.mpr fun d hd => ?_
  simp at hd
  subst hd
  exact strOk_iff.mp hw _ (List.mem_of_getElem? h)
theorem number_in_ok {w : Str} (hw : PyData.strOk w = true) (hl : w.length ≤ LIM) {st : Sto} {X : XP} : Wp X (fun d s => d = optD (numV w) ∧ s = st) (f_number_in [.str w] st) := by
  walk_at "fn"
  unfold b_number_in
  walk_at "wp"
  refine w_lenS hl ?_
  by_cases h1 : 1 ≤ w.length
  rotate_left
  · walk_at "wp"
    exact ⟨by rw [numV, if_neg (fun z => h1 z.1)]; rfl, rfl⟩
  by_cases h6 : w.length ≤ 6
  rotate_left
  · walk_at "wp"
    exact ⟨by rw [numV, if_neg (fun z => h6 z.2.1)]; rfl, rfl⟩
  walk_at "wp"
  refine w_strip hl ?_
  walk_at "wp"
  have hso : PyData.strOk (Txt.stripChars w (Str.ofString "0123456789")) = true := by
    refine strOk_iff.mpr fun c hc => strOk_iff.mp hw c ?_
    unfold Txt.stripChars Txt.stripBy at hc
    split at hc
    · exact hc
    · unfold stripped at hc
      rw [StrLaws.strSub_toList] at hc
      exact List.mem_of_mem_drop (List.mem_of_mem_take hc)
  refine w_neS hso ok_empty ?_
  rw [beq_str]
  by_cases ha : w.cps.toList.all digB = true
  rotate_left
  · rw [decide_eq_false (fun e => ha ((strip_digits h1).mp e))]
    walk_at "wp"
    exact ⟨by rw [numV, if_neg (fun z => ha z.2.2.1)]; rfl, rfl⟩
  rw [decide_eq_true ((strip_digits h1).mpr ha)]
  walk_at "wp"
  obtain ⟨c, hc, hcA⟩ := first_sign h1
  refine w_ixS hcA hl ?_
  walk_at "wp"
  refine w_eqS (one_ok hw hc) ok_zero ?_
  rw [one_zero]
  by_cases hz : c = 48
  · rw [decide_eq_true hz]
    walk_at "wp"
    refine w_neS hw ok_zero ?_
    rw [beq_str]
    by_cases h0 : w = Str.ofString "0"
    · rw [decide_eq_true h0]
      walk_at "wp"
      refine w_intS (int_digits h1 h6 ha) (by omega) ?_
      walk_at "wp"
      exact ⟨by rw [numV, if_pos ⟨h1, h6, ha, fun _ => h0⟩]; rfl, rfl⟩
    · rw [decide_eq_false h0]
      walk_at "wp"
      exact ⟨by rw [numV, if_neg (fun z => h0 (z.2.2.2 (by rw [hc, hz])))]; rfl, rfl⟩
  · rw [decide_eq_false hz]
    walk_at "wp"
    refine w_intS (int_digits h1 h6 ha) (by omega) ?_
    walk_at "wp"
    exact ⟨by rw [numV, if_pos ⟨h1, h6, ha, fun e => (hz (Option.some.inj (hc.symm.trans e))).elim⟩]; rfl, rfl⟩
def noDig : D → Option D
  | .str x => if inS x (Str.ofString "0123456789") = true then none else some (.str x)
  | _ => none
theorem noDig_nil {l : List Nat} : (l.map fun c => D.str ⟨#[c]⟩).filterMap noDig = [] ↔ l.all digB = true := by
  induction l with
  | nil => simp
  | cons c l ih =>
    rw [List.map_cons, List.filterMap_cons, List.all_cons]
    simp only [noDig, inS_digit]
    by_cases h : digB c = true
    · simp only [h, if_true, Bool.true_and]
      exact ih
    · simp [h]
theorem law_number_ok {w : Str} (hw : PyData.strOk w = true) (hl : w.length ≤ LIM) {st : Sto} {X : XP} : Wp X (fun d s => d = optD (numV w) ∧ Chg [] st s) (f__law_number [.str w] st) := by
  walk_at "fn"
  unfold b__law_number
  walk_at "wp"
  refine w_lenS hl ?_
  by_cases h1 : 1 ≤ w.length
  rotate_left
  · walk_at "wp"
    exact ⟨by rw [numV, if_neg (fun z => h1 z.1)]; rfl, Chg.refl⟩
  by_cases h6 : w.length ≤ 6
  rotate_left
  · walk_at "wp"
    exact ⟨by rw [numV, if_neg (fun z => h6 z.2.1)]; rfl, Chg.refl⟩
  walk_at "wp"
  refine wp_lc ?_
  walk_at "wp"
  refine ⟨noDig, fun _ _ => okB_none, by show (chars w).length ≤ LIM; simp only [chars, List.length_map, ← str_len]; exact hl, ?_, ?_⟩
  · intro d hd s hs
    obtain ⟨c, hc, rfl⟩ := List.mem_map.mp (show d ∈ chars w from hd)
    refine ⟨_, rfl, ?_⟩
    dsimp only [wipeD, List.set]
    walk_at "wp"
    refine w_inSS ?_
    simp only [noDig, inS_digit]
    walk_at "wp"
    cases digB c
    · walk_at "wp"
      exact ⟨rfl, Chg.refl⟩
    · walk_at "wp"
      exact ⟨rfl, Chg.refl⟩
  intro L s1 hL hLn k1
  walk_at "wp"
  refine wo_lst (by simp [LIM]) fun E s2 hE hEn k2 => ?_
  have k12 := k1.trans k2
  have hL2 : s2[L]? = some (.lst ((w.cps.toList.map fun c => D.str ⟨#[c]⟩).filterMap noDig)) := k2.get0 hL
  walk_at "wp"
  by_cases ha : w.cps.toList.all digB = true
  rotate_left
  · have hne : ((w.cps.toList.map fun c => D.str ⟨#[c]⟩).filterMap noDig).length ≠ ([] : List D).length := fun e => ha (noDig_nil.mp (List.eq_nil_of_length_eq_zero e))
    refine w_neE hL2 hE (.inl hne) ?_
    rw [decide_eq_true hne]
    walk_at "wp"
    exact ⟨by rw [numV, if_neg (fun z => ha z.2.2.1)]; rfl, k12⟩
  have hnil := noDig_nil.mpr ha
  refine w_neE hL2 hE (.inr hnil) ?_
  rw [hnil]
  walk_at "wp"
  obtain ⟨c, hc, hcA⟩ := first_sign h1
  refine w_ixS hcA hl ?_
  walk_at "wp"
  refine w_eqS (one_ok hw hc) ok_zero ?_
  rw [one_zero]
  by_cases hz : c = 48
  · rw [decide_eq_true hz]
    walk_at "wp"
    refine w_neS hw ok_zero ?_
    rw [beq_str]
    by_cases h0 : w = Str.ofString "0"
    · rw [decide_eq_true h0]
      walk_at "wp"
      refine w_intS (int_digits h1 h6 ha) (by omega) ?_
      walk_at "wp"
      exact ⟨by rw [numV, if_pos ⟨h1, h6, ha, fun _ => h0⟩]; rfl, k12⟩
    · rw [decide_eq_false h0]
      walk_at "wp"
      exact ⟨by rw [numV, if_neg (fun z => h0 (z.2.2.2 (by rw [hc, hz])))]; rfl, k12⟩
  · rw [decide_eq_false hz]
    walk_at "wp"
    refine w_intS (int_digits h1 h6 ha) (by omega) ?_
    walk_at "wp"
    exact ⟨by rw [numV, if_pos ⟨h1, h6, ha, fun e => (hz (Option.some.inj (hc.symm.trans e))).elim⟩]; rfl, k12⟩
/-! ### the sayings that words write -/
def sayV (w : Str) : Option D := if w = Str.ofString "-" then some .non else if w = Str.ofString "all" then some (.str (Str.ofString "all")) else (numV w).map fun n => .int n
theorem isNon_opt {o : Option Nat} : LF.isNon (optD o) = o.isNone := by cases o <;> rfl
theorem inF_two {w : Str} : inF (.str w) [.str (Str.ofString "-"), .str (Str.ofString "all")] = (decide (w = Str.ofString "-") || decide (w = Str.ofString "all")) := by
  simp only [inF, List.any_cons, List.any_nil, eqF, Bool.or_false, beq_str]
  congr 1
  · exact decide_eq_decide.mpr ⟨fun h => h.symm, fun h => h.symm⟩
  · exact decide_eq_decide.mpr ⟨fun h => h.symm, fun h => h.symm⟩
theorem is_saying_word_ok {w : Str} (hw : PyData.strOk w = true) (hl : w.length ≤ LIM) {st : Sto} {X : XP} : Wp X (fun d s => d = .bl (sayV w).isSome ∧ s = st) (f_is_saying_word [.str w] st) := by
  walk_at "fn"
  unfold b_is_saying_word
  walk_at "wp"
  refine w_tup (by simp [LIM]) ?_
  walk_at "wp"
  refine w_in (by rfl) ?_
  rw [if_neg (by decide), inF_two]
  by_cases h1 : w = Str.ofString "-"
  · rw [decide_eq_true h1]
    walk_at "wp"
    exact ⟨by rw [sayV, if_pos h1]; rfl, rfl⟩
  by_cases h2 : w = Str.ofString "all"
  · rw [decide_eq_false h1, decide_eq_true h2]
    walk_at "wp"
    exact ⟨by rw [sayV, if_neg h1, if_pos h2]; rfl, rfl⟩
  rw [decide_eq_false h1, decide_eq_false h2]
  walk_at "wp"
  refine (number_in_ok hw hl).mono ?_
  rintro _ _ ⟨rfl, rfl⟩
  walk_at "wp"
  refine ⟨?_, rfl⟩
  rw [sayV, if_neg h1, if_neg h2, isNon_opt]
  cases numV w <;> rfl
theorem saying_in_ok {w : Str} (hw : PyData.strOk w = true) (hl : w.length ≤ LIM) {st : Sto} {X : XP} : Wp X (fun d s => d = (sayV w).getD .non ∧ s = st) (f_saying_in [.str w] st) := by
  walk_at "fn"
  unfold b_saying_in
  walk_at "wp"
  refine w_eqS hw ok_minus ?_
  rw [beq_str]
  by_cases h1 : w = Str.ofString "-"
  · rw [decide_eq_true h1]
    walk_at "wp"
    exact ⟨by rw [sayV, if_pos h1]; rfl, rfl⟩
  rw [decide_eq_false h1]
  walk_at "wp"
  refine w_eqS hw all_ok ?_
  rw [beq_str]
  by_cases h2 : w = Str.ofString "all"
  · rw [decide_eq_true h2]
    walk_at "wp"
    exact ⟨by rw [sayV, if_neg h1, if_pos h2, h2]; rfl, rfl⟩
  rw [decide_eq_false h2]
  walk_at "wp"
  refine (number_in_ok hw hl).mono ?_
  rintro _ _ ⟨rfl, rfl⟩
  refine ⟨?_, rfl⟩
  rw [sayV, if_neg h1, if_neg h2]
  cases numV w <;> rfl
/-! ### the triples of a state line -/
def tripV : List Str → Option (List D)
  | [] => some []
  | a :: b :: c :: r => match numV a, numV b, sayV c, tripV r with
    | some x, some y, some z, some l => some (.tup [.int x, .int y, z] :: l)
    | _, _, _, _ => none
  | _ => none
theorem trip_len : ∀ {ws : List Str} {l : List D}, tripV ws = some l → ws.length = 3 * l.length
  | [], l, h => by
    simp only [tripV, Option.some.injEq] at h
    subst h
    rfl
  | [_], l, h => by simp [tripV] at h
  | [_, _], l, h => by simp [tripV] at h
  | a :: b :: c :: r, l, h => by
    simp only [tripV] at h
    split at h
    · rename_i x y z l' e1 e2 e3 e4
      cases h
      have := trip_len e4
      simp only [List.length_cons]
      omega
    · cases h
structure WsOk (ws : List Str) : Prop where
  ok : ∀ w ∈ ws, PyData.strOk w = true ∧ w.length ≤ LIM
  len : ws.length ≤ 100000
theorem rg3 {lo k : Nat} (h : lo ≤ 1) (hk : k ≤ 100000) : RgC (lo : Int) ((lo + 3 * k : Nat) : Int) 3 k := by
  have e : Builtin.Range.rangeSize (lo : Int) ((lo + 3 * k : Nat) : Int) 3 = (k : Int) := by
    unfold Builtin.Range.rangeSize
    rw [if_pos (by decide)]
    split <;> omega
  refine ⟨by decide, by decide, ?_, e⟩
  have f : ∀ x : Int, 0 ≤ x → x ≤ 1000000 → Builtin.Range.rangeFitsLong x = true := fun x h1 h2 => by
    unfold Builtin.Range.rangeFitsLong
    rw [Bool.and_eq_true, decide_eq_true_eq, decide_eq_true_eq]
    constructor
    · exact Int.le_trans (by decide) h1
    · exact Int.lt_of_le_of_lt h2 (by decide)
  unfold Builtin.Range.small
  rw [e]
  rw [f (lo : Int) (by omega) (by omega), f ((lo + 3 * k : Nat) : Int) (by omega) (by omega), f 3 (by omega) (by omega), f (k : Int) (by omega) (by omega), if_pos (by decide), f _ (by omega) (by omega), Bool.or_true]
  rfl
theorem rngC_get {n i : Nat} {lo c : Int} {d : D} (h : (rngC lo c n)[i]? = some d) : i < n ∧ d = .int (lo + (i : Int) * c) := by
  unfold rngC at h
  rw [List.getElem?_map] at h
  by_cases hi : i < n
  · rw [List.getElem?_range hi] at h
    simp at h
    exact ⟨hi, h.symm⟩
  · rw [List.getElem?_eq_none (by simpa using hi)] at h
    cases h
theorem rngC_len {n : Nat} {lo c : Int} : (rngC lo c n).length = n := by simp [rngC]
theorem three_at {ws : List Str} {j m : Nat} (hm : ws.length = 3 * m) (hj : j < m) : ∃ a b c r, ws.drop (3 * j) = a :: b :: c :: r ∧ ws.drop (3 * (j + 1)) = r ∧ ws[3 * j]? = some a ∧ ws[3 * j + 1]? = some b ∧ ws[3 * j + 2]? = some c := by
  have hl : (ws.drop (3 * j)).length = 3 * m - 3 * j := by rw [List.length_drop, hm]
  match h : ws.drop (3 * j), hl with
  | [], hl => simp at hl; omega
  | [_], hl => simp at hl; omega
  | [_, _], hl => simp at hl; omega
  | a :: b :: c :: r, _ =>
    refine ⟨a, b, c, r, rfl, ?_, ?_, ?_, ?_⟩
    · rw [show 3 * (j + 1) = 3 * j + 3 by omega, ← List.drop_drop, h]
      rfl
    · have := congrArg (fun l => l[0]?) h
      simpa [List.getElem?_drop] using this
    · have := congrArg (fun l => l[1]?) h
      simpa [List.getElem?_drop] using this
    · have := congrArg (fun l => l[2]?) h
      simpa [List.getElem?_drop] using this
theorem cut_three {ws : List Str} {j : Nat} {a b c : Str} {r : List Str} (h : ws.drop (3 * j) = a :: b :: c :: r) : LF.cutD (ws.map D.str) (some (0 + (j : Int) * 3)) (some (0 + (j : Int) * 3 + 3)) = [.str a, .str b, .str c] := by
  have hl := congrArg List.length h
  rw [List.length_drop] at hl
  simp only [List.length_cons] at hl
  unfold LF.cutD
  rw [show (0 + (j : Int) * 3) = ((3 * j : Nat) : Int) by omega, show (((3 * j : Nat) : Int) + 3) = ((3 * j + 3 : Nat) : Int) by omega, HT.sIx_nat, HT.sIx_nat, List.length_map, Nat.min_eq_left (by omega), Nat.min_eq_left (by omega), show 3 * j + 3 - 3 * j = 3 by omega, ← List.map_drop, ← List.map_take, h]
  rfl
/-! ### the reader of lines -/
structure Rd (s : Sto) (o RR LA : Nat) (rows last : List D) : Prop where
  obj : s[o]? = some (.ins 5 [("read_rows", .ref RR), ("last", .ref LA)])
  rr : s[RR]? = some (.lst rows)
  la : s[LA]? = some (.lst last)
  ne : RR ≠ LA
theorem Rd.keep {s s' : Sto} {o RR LA : Nat} {rows last : List D} (h : Rd s o RR LA rows last) (k : Chg [] s s') : Rd s' o RR LA rows last := ⟨k.get0 h.obj, k.get0 h.rr, k.get0 h.la, h.ne⟩
theorem Rd.o_rr {s : Sto} {o RR LA : Nat} {rows last : List D} (h : Rd s o RR LA rows last) : o ≠ RR := fun e => by
  have h1 := h.obj
  rw [e, h.rr] at h1
  cases h1
theorem Rd.o_la {s : Sto} {o RR LA : Nat} {rows last : List D} (h : Rd s o RR LA rows last) : o ≠ LA := fun e => by
  have h1 := h.obj
  rw [e, h.la] at h1
  cases h1
theorem Reader_init_ok {o : Nat} {st : Sto} (ho : st[o]? = some (.ins 5 [])) {X : XP} :
    Wp X (fun d s => d = .non ∧ (∃ RR LA, Rd s o RR LA [] [] ∧ st[RR]? = none ∧ st[LA]? = none) ∧ Chg [o] st s) (f_LineReader_init [.ref o] st) := by
  walk_at "fn"
  unfold b_LineReader_init
  walk_at "wp"
  refine wo_lst (by simp [LIM]) fun RR s1 hR hRn k1 => ?_
  have ho1 := k1.get0 ho
  walk_at "wp"
  refine wo_setF ho1 (by decide) (by simp) fun s2 ho2 k2 => ?_
  walk_at "wp"
  refine wo_lst (by simp [LIM]) fun LA s3 hL hLn k3 => ?_
  have ho3 := k3.get0 ho2
  walk_at "wp"
  refine wo_setF ho3 (by decide) (by simp [putD]) fun s4 ho4 k4 => ?_
  walk_at "wp"
  have hoR : RR ≠ o := fun e => by rw [e, ho] at hRn; cases hRn
  have hoL : LA ≠ o := fun e => by rw [e, ho2] at hLn; cases hLn
  have hR2 := k2.get (by simpa using hoR) hR
  have hRL : RR ≠ LA := fun e => by rw [← e, hR2] at hLn; cases hLn
  have kk : Chg [o] st s4 := ((k1.up.trans k2).trans k3.up).trans k4
  refine ⟨rfl, ⟨RR, LA, ⟨by simpa [putD] using ho4, k4.get (by simpa using hoR) (k3.get0 hR2), k4.get (by simpa using hoL) hL, hRL⟩, hRn, ?_⟩, kk⟩
  rcases h : st[LA]? with _ | c
  · rfl
  · rw [(k1.up.trans k2).get (by simpa using hoL) h] at hLn; cases hLn
theorem takes_row_ok {ws : List Str} (hws : WsOk ws) {st : Sto} {o RR LA W : Nat} {rows last : List D} (hd : Rd st o RR LA rows last) (hrows : rows.length ≤ 100000) (hW : st[W]? = some (.lst (ws.map D.str))) {X : XP} :
    Wp X (fun d s => Chg [RR] st s ∧ ((∃ r, tripV ws = some r ∧ d = .bl true ∧ Rd s o RR LA (rows ++ [.tup r]) last) ∨ (tripV ws = none ∧ d = .bl false))) (f_LineReader_takes_row [.ref o, .ref W] st) := by
  have hlen : (ws.map D.str).length = ws.length := List.length_map ..
  have hwl := hws.len
  walk_at "fn"
  unfold b_LineReader_takes_row
  by_cases h3 : ws.length % 3 = 0
  rotate_left
  · have hb : ((((ws.map D.str).length : Int) % 3) == 0) = false := by rw [beq_eq_false_iff_ne, hlen]; omega
    walk_at "wp"
    refine ⟨Chg.refl, .inr ⟨?_, rfl⟩⟩
    cases h : tripV ws with
    | none => rfl
    | some l => have := trip_len h; omega
  have hb : ((((ws.map D.str).length : Int) % 3) == 0) = true := by rw [beq_iff_eq, hlen]; omega
  obtain ⟨m, hm⟩ : ∃ m, ws.length = 3 * m := ⟨ws.length / 3, by omega⟩
  walk_at "wp"
  refine wo_lst (by simp [LIM]) fun R s1 hR hRn k1 => ?_
  have hW1 := k1.get0 hW
  have hd1 := hd.keep k1
  walk_at "wp"
  refine q_iR3 (n := m) (i := ((0 : Nat) : Int)) (j := ((0 + 3 * m : Nat) : Int)) (k := 3) ?_
  walk_at "wp"
  refine ⟨rfl, by rw [hlen, hm, Nat.zero_add], rfl, rg3 (by omega) (by omega), ?_⟩
  refine owp_forS (fun j e s => ∃ row x3 x4 x5 x6, e = [some (.ref o), some (.ref W), some (.ref R), x3, x4, x5, x6] ∧ row.length = j ∧ tripV ws = (tripV (ws.drop (3 * j))).map (row ++ ·) ∧ s[R]? = some (.lst row) ∧ Chg [] st s) ?_ ?_ ⟨[], _, _, _, _, rfl, rfl, ?_, hR, k1⟩
  · rintro j e0 e s hde ⟨row, x3, x4, x5, x6, rfl, hrl, hinv, hRs, ks⟩
    obtain ⟨hj, rfl⟩ := rngC_get hde
    obtain ⟨a, b, c, r, h1, h2, ha, hb', hc⟩ := three_at hm hj
    obtain ⟨oa, la⟩ := hws.ok a (List.mem_of_getElem? ha)
    obtain ⟨ob, lb⟩ := hws.ok b (List.mem_of_getElem? hb')
    obtain ⟨oc, lc⟩ := hws.ok c (List.mem_of_getElem? hc)
    have hWs := ks.get0 hW
    have bad : tripV (a :: b :: c :: r) = none → tripV ws = none := fun z => by rw [hinv, h1, z]; rfl
    refine ⟨okB_none, _, rfl, ?_⟩
    dsimp only [List.set]
    refine r_owp_seq (r_owp_asgT ?_)
    walk_at "wp"
    refine w_slL hWs fun V v1 hV hVn l1 => ?_
    rw [show (((0 : Nat) : Int) + (j : Int) * 3) = 0 + (j : Int) * 3 from rfl, cut_three h1] at hV
    simp only [Tg.sem, Tg.sems, seqOf, hV, List.length_cons, List.length_nil, if_pos, List.set]
    walk_at "wp"
    refine (number_in_ok oa la).mono ?_
    rintro _ _ ⟨rfl, rfl⟩
    cases hna : numV a with
    | none =>
      dsimp only [optD]
      walk_at "wp"
      exact ⟨(ks.trans l1).up, .inr ⟨bad (by simp [tripV, hna]), rfl⟩⟩
    | some x =>
      dsimp only [optD]
      walk_at "wp"
      refine (number_in_ok ob lb).mono ?_
      rintro _ _ ⟨rfl, rfl⟩
      cases hnb : numV b with
      | none =>
        dsimp only [optD]
        walk_at "wp"
        exact ⟨(ks.trans l1).up, .inr ⟨bad (by simp [tripV, hnb]), rfl⟩⟩
      | some y =>
        dsimp only [optD]
        walk_at "wp"
        refine (is_saying_word_ok oc lc).mono ?_
        rintro _ _ ⟨rfl, rfl⟩
        cases hnc : sayV c with
        | none =>
          dsimp only [Option.isSome]
          walk_at "wp"
          exact ⟨(ks.trans l1).up, .inr ⟨bad (by simp [tripV, hnc]), rfl⟩⟩
        | some z =>
          have hRs2 := l1.get0 hRs
          walk_at "wp"
          refine (number_in_ok oa la).mono ?_
          rintro _ _ ⟨rfl, rfl⟩
          walk_at "wp"
          refine (number_in_ok ob lb).mono ?_
          rintro _ _ ⟨rfl, rfl⟩
          walk_at "wp"
          refine (saying_in_ok oc lc).mono ?_
          rintro _ _ ⟨rfl, rfl⟩
          walk_at "wp"
          refine w_tup (by simp [LIM]) ?_
          walk_at "wp"
          refine wo_append hRs2 (by simp [LIM]; omega) fun v2 hv2 l2 => ?_
          walk_at "wp"
          rw [hna, hnb, hnc] at hv2
          refine ⟨_, _, _, _, _, rfl, by rw [List.length_append, hrl]; rfl, ?_, hv2, (ks.trans l1).new hRn l2⟩
          rw [hinv, h1, h2]
          simp only [tripV, hna, hnb, hnc]
          cases tripV r with
          | none => rfl
          | some l => simp [optD]
  · rintro e s ⟨row, x3, x4, x5, x6, rfl, hrl, hinv, hRs, ks⟩
    rw [rngC_len] at hrl
    have hds := hd.keep ks
    have h1 := hds.obj
    have h2 := hds.rr
    refine ⟨okB_none, ?_⟩
    walk_at "wp"
    refine wo_append h2 (by simp [LIM]; omega) fun v2 hv2 l2 => ?_
    walk_at "wp"
    refine ⟨ks.up.trans l2, .inl ⟨row, ?_, rfl, ⟨l2.get (by simpa using hds.o_rr) h1, hv2, l2.get (by simpa using hds.ne.symm) hds.la, hds.ne⟩⟩⟩
    rw [rngC_len, List.drop_of_length_le (by omega)] at hinv
    rw [hinv]
    simp [tripV]
  · simp
noncomputable def sTk : Sm := sSeq (sIf (tOr' (asB (eBin opEq (eBlt opLen [eUn (opFld fld_read_rows "read_rows") (eVar 0)]) (eC (.int 0)))) (tOr' (asB (eBin opEq (eBlt opLen [eUn (opFld fld_last "last") (eVar 0)]) (eBlt opLen [eC c_HEADS]))) (asB (eBin opNe (eBin opIx (eVar 1) (eC (.int 0))) (eBin opIx (eC c_HEADS) (eBlt opLen [eUn (opFld fld_last "last") (eVar 0)])))))) (sRet (eC (.bl false))) (sSkip)) (sSeq (sIf (asB (eBin opEq (eBin opIx (eVar 1) (eC (.int 0))) (eC (.str (Str.ofString "end"))))) (sSeq (sExpr (eMt "list" opAppend (eUn (opFld fld_last "last") (eVar 0)) [eC .non])) (sRet (eBin opEq (eBlt opLen [eVar 1]) (eC (.int 1))))) (sSkip)) (sSeq (sIf (asB (eBin opNe (eBlt opLen [eVar 1]) (eC (.int 2)))) (sRet (eC (.bl false))) (sSkip)) (sSeq (sAsg (.name 2) (eBin opEq (eBin opIx (eVar 1) (eC (.int 1))) (eUn opGet_OPEN (eBin opIx (eVar 1) (eC (.int 0)))))) (sSeq (sExpr (eMt "list" opAppend (eUn (opFld fld_last "last") (eVar 0)) [eIf (tTru (eVar 2)) (eC .non) (eCall (f_number_in) [eBin opIx (eVar 1) (eC (.int 1))])])) (sRet (eOr (eVar 2) (eBin opIsNot (eBin opIx (eUn (opFld fld_last "last") (eVar 0)) (eUn opNeg (eC (.int 1)))) (eC .non))))))))
theorem b_takes_eq : b_LineReader_takes = sSeq (sIf (tAnd' (asB (eBin opEq (eBin opIx (eVar 1) (eC (.int 0))) (eC (.str (Str.ofString "state"))))) (asB (eBin opEq (eBlt opLen [eUn (opFld fld_last "last") (eVar 0)]) (eC (.int 0))))) (sRet (eMeth 5 "takes_row" f_LineReader_takes_row (eVar 0) [eSl (eVar 1) (some (eC (.int 1))) none])) (sSkip)) sTk := rfl
/-! ### whether a line can stand -/
structure Bk where
  rows : List D
  last : List D
def sState : Str := Str.ofString "state"
def sFirst : Str := Str.ofString "first"
def sLeader : Str := Str.ofString "leader"
def sLampW : Str := Str.ofString "lamp"
def sEnd : Str := Str.ofString "end"
def sNone : Str := Str.ofString "none"
def sAny : Str := Str.ofString "any"
def heads : List Str := [sFirst, sLeader, sLampW, sEnd]
def openV (h : Str) : Option Str := if h = sLeader then some sNone else if h = sLampW then some sAny else none
def oneV (b : Bk) (h : Str) : List Str → Option Bk
  | [w] => if openV h = some w then some ⟨b.rows, b.last ++ [.non]⟩ else (numV w).map fun n => ⟨b.rows, b.last ++ [.int n]⟩
  | _ => none
def takV (b : Bk) : List Str → Option Bk
  | [] => none
  | v :: tl =>
    if v = sState ∧ b.last = [] then (tripV tl).map fun r => ⟨b.rows ++ [.tup r], b.last⟩
    else if b.rows = [] then none
    else match heads[b.last.length]? with
      | none => none
      | some h => if v ≠ h then none
        else if h = sEnd then (if tl = [] then some ⟨b.rows, b.last ++ [.non]⟩ else none)
        else oneV b h tl
theorem ok_state : PyData.strOk sState = true := by decide +kernel
theorem ok_end : PyData.strOk sEnd = true := by decide +kernel
theorem ok_none : PyData.strOk sNone = true := by decide +kernel
theorem ok_any : PyData.strOk sAny = true := by decide +kernel
theorem ok_leader : PyData.strOk sLeader = true := by decide +kernel
theorem ok_lamp : PyData.strOk sLampW = true := by decide +kernel
theorem ok_heads : ∀ h ∈ heads, PyData.strOk h = true := by decide +kernel
theorem cut1 {x : D} {xs : List D} : LF.cutD (x :: xs) (some 1) none = xs := by
  unfold LF.cutD
  rw [show (some (1 : Int)) = some ((1 : Nat) : Int) from rfl, HT.sIx_nat, HT.sIx_none]
  simp
theorem atI_last {xs : List D} {d : D} : atI (xs ++ [d]) (-1) = some d := by
  unfold atI ixN
  rw [if_neg (by omega), if_pos (by simp; omega)]
  have e : (-1 + ((xs ++ [d]).length : Int)).toNat = xs.length := by simp; omega
  rw [Option.bind_some, e]
  simp
theorem eqD_strNon {x : Str} (hx : PyData.strOk x = true) {st : Sto} : eqD st (.str x) .non = some false := by
  simp [eqD, deep, SeqAt.shaped, PyData.eqv, PyData.canLay0, PyData.depth, hx]
def openD (h : Str) : D := match openV h with
  | none => .non
  | some z => .str z
theorem open_get {h : Str} (hh : h ∈ heads) (he : h ≠ sEnd) {st : Sto} : opGet_OPEN (.str h) st = some (openD h, st) := by
  simp only [heads, List.mem_cons, List.not_mem_nil, or_false] at hh
  rcases hh with rfl | rfl | rfl | rfl
  · rfl
  · rfl
  · rfl
  · exact (he rfl).elim
theorem open_ok {h z : Str} (e : openV h = some z) : PyData.strOk z = true := by
  unfold openV at e
  split at e
  · cases e; exact ok_none
  · split at e
    · cases e; exact ok_any
    · cases e
theorem open_eq {h w : Str} (hw : PyData.strOk w = true) {st : Sto} : eqD st (.str w) (openD h) = some (decide (openV h = some w)) := by
  unfold openD
  cases e : openV h with
  | none => simp only [eqD_strNon hw, reduceCtorEq, decide_false]
  | some z =>
    simp only [eqD_str hw (open_ok e), beq_str, Option.some.injEq]
    congr 1
    exact propext eq_comm
theorem heads_at {k : Nat} {h : Str} (e : heads[k]? = some h) : atI [D.str (Str.ofString "first"), .str (Str.ofString "leader"), .str (Str.ofString "lamp"), .str (Str.ofString "end")] (k : Int) = some (.str h) := by
  refine atIn ?_
  have : (heads.map D.str)[k]? = some (.str h) := by rw [List.getElem?_map, e]; rfl
  exact this
section
variable {K : Ks} {st : Sto} {o RR LA W : Nat} {b : Bk} {v : Str} {tl : List Str} {x2 : Option D}
theorem sTk_ok (hws : WsOk (v :: tl)) (hd : Rd st o RR LA b.rows b.last) (h4 : b.last.length ≤ 4) (hW : st[W]? = some (.lst ((v :: tl).map D.str))) (hwla : W ≠ LA) (hn : ¬ (v = sState ∧ b.last = []))
    (k : ∀ d s, Chg [RR, LA] st s → ((∃ b', takV b (v :: tl) = some b' ∧ d = .bl true ∧ Rd s o RR LA b'.rows b'.last) ∨ (takV b (v :: tl) = none ∧ d = .bl false)) → K.rt d s) :
    Owp K (sTk [some (.ref o), some (.ref W), x2] st) := by
  obtain ⟨ov, lv⟩ := hws.ok v (by simp)
  have h1 := hd.obj
  have h2 := hd.la
  have h3 := hd.rr
  unfold sTk
  by_cases hr : b.rows = []
  · have hz : ((b.rows.length : Int) == 0) = true := by rw [hr]; rfl
    walk_at "wp"
    exact k _ _ Chg.refl (.inr ⟨by simp only [takV, if_neg hn, if_pos hr], rfl⟩)
  have hz : ((b.rows.length : Int) == 0) = false := by
    rw [beq_eq_false_iff_ne]
    intro e
    exact hr (List.eq_nil_of_length_eq_zero (by omega))
  by_cases h44 : b.last.length = 4
  · have hz4 : ((b.last.length : Int) == 4) = true := by rw [h44]; rfl
    walk_at "wp"
    refine k _ _ Chg.refl (.inr ⟨?_, rfl⟩)
    simp only [takV, if_neg hn, if_neg hr, h44]
    rfl
  have hz4 : ((b.last.length : Int) == 4) = false := by rw [beq_eq_false_iff_ne]; omega
  obtain ⟨h, hh⟩ : ∃ h, heads[b.last.length]? = some h := ⟨_, List.getElem?_eq_getElem (show b.last.length < heads.length by simp [heads]; omega)⟩
  have hhm := List.mem_of_getElem? hh
  have hhok := ok_heads h hhm
  have tk : takV b (v :: tl) = if v ≠ h then none else if h = sEnd then (if tl = [] then some ⟨b.rows, b.last ++ [.non]⟩ else none) else oneV b h tl := by
    simp only [takV, if_neg hn, if_neg hr, hh]
  walk_at "wp"
  refine w_ixL hW atI0 ?_
  walk_at "wp"
  refine w_ixT (heads_at hh) ?_
  refine w_neS ov hhok ?_
  rw [beq_str]
  by_cases hvh : v = h
  rotate_left
  · rw [decide_eq_false hvh]
    walk_at "wp"
    exact k _ _ Chg.refl (.inr ⟨by rw [tk, if_pos hvh], rfl⟩)
  subst hvh
  rw [decide_eq_true rfl]
  rw [if_neg (fun z => z rfl)] at tk
  walk_at "wp"
  refine w_ixL hW atI0 ?_
  walk_at "wp"
  refine w_eqS ov ok_end ?_
  rw [beq_str]
  by_cases he : v = sEnd
  · rw [decide_eq_true (show v = Str.ofString "end" from he)]
    rw [if_pos he] at tk
    walk_at "wp"
    refine wo_append h2 (by simp [LIM]; omega) fun s2 hs2 k2 => ?_
    have hW2 := k2.get (by simpa using hwla) hW
    walk_at "wp"
    refine k _ _ (k2.wide (by simp)) ?_
    by_cases ht : tl = []
    · subst ht
      rw [if_pos rfl] at tk
      exact .inl ⟨_, tk, rfl, ⟨k2.get (by simpa using hd.o_la) h1, k2.get (by simpa using hd.ne) h3, hs2, hd.ne⟩⟩
    · rw [if_neg ht] at tk
      refine .inr ⟨tk, ?_⟩
      congr 1
      rw [beq_eq_false_iff_ne, List.length_map, List.length_cons]
      intro e
      exact ht (List.eq_nil_of_length_eq_zero (by omega))
  rw [decide_eq_false (show ¬ v = Str.ofString "end" from he)]
  rw [if_neg he] at tk
  by_cases h2l : tl.length = 1
  rotate_left
  · have hb : ((((v :: tl).map D.str).length : Int) == 2) = false := by rw [beq_eq_false_iff_ne, List.length_map, List.length_cons]; omega
    walk_at "wp"
    refine k _ _ Chg.refl (.inr ⟨?_, rfl⟩)
    rw [tk]
    match tl, h2l with
    | [], _ => rfl
    | [_], h => exact (h rfl).elim
    | _ :: _ :: _, _ => rfl
  obtain ⟨w, rfl⟩ : ∃ w, tl = [w] := by
    match tl, h2l with
    | [w], _ => exact ⟨w, rfl⟩
  obtain ⟨ow, lw⟩ := hws.ok w (by simp)
  have hb : ((((v :: [w]).map D.str).length : Int) == 2) = true := rfl
  walk_at "wp"
  refine r_wo_of (open_get hhm he) ?_
  refine w_eq (open_eq ow) ?_
  simp only [oneV] at tk
  by_cases hop : openV v = some w
  · rw [decide_eq_true hop]
    rw [if_pos hop] at tk
    walk_at "wp"
    refine wo_append h2 (by simp [LIM]; omega) fun s2 hs2 k2 => ?_
    walk_at "wp"
    exact k _ _ (k2.wide (by simp)) (.inl ⟨_, tk, rfl, ⟨k2.get (by simpa using hd.o_la) h1, k2.get (by simpa using hd.ne) h3, hs2, hd.ne⟩⟩)
  · rw [decide_eq_false hop]
    rw [if_neg hop] at tk
    walk_at "wp"
    refine (number_in_ok ow lw).mono ?_
    rintro _ _ ⟨rfl, rfl⟩
    walk_at "wp"
    refine wo_append h2 (by simp [LIM]; omega) fun s2 hs2 k2 => ?_
    have h12 := k2.get (by simpa using hd.o_la) h1
    walk_at "wp"
    refine w_ixL hs2 atI_last ?_
    walk_at "wp"
    refine k _ _ (k2.wide (by simp)) ?_
    cases hnw : numV w with
    | none =>
      rw [hnw] at tk
      exact .inr ⟨tk, rfl⟩
    | some n =>
      rw [hnw] at tk hs2
      exact .inl ⟨_, tk, rfl, ⟨h12, k2.get (by simpa using hd.ne) h3, hs2, hd.ne⟩⟩
theorem takes_ok {X : XP} (hws : WsOk (v :: tl)) (hd : Rd st o RR LA b.rows b.last) (h4 : b.last.length ≤ 4) (hrl : b.rows.length ≤ 100000) (hW : st[W]? = some (.lst ((v :: tl).map D.str))) (hwla : W ≠ LA) :
    Wp X (fun d s => Chg [RR, LA] st s ∧ ((∃ b', takV b (v :: tl) = some b' ∧ d = .bl true ∧ Rd s o RR LA b'.rows b'.last) ∨ (takV b (v :: tl) = none ∧ d = .bl false))) (f_LineReader_takes [.ref o, .ref W] st) := by
  obtain ⟨ov, lv⟩ := hws.ok v (by simp)
  have h1 := hd.obj
  have h2 := hd.la
  walk_at "fn"
  rw [b_takes_eq]
  walk_at "fld"
  refine r_owp_seq (r_owp_if ?_)
  refine r_wp_tAnd (q_asB (r_wp_bin ?_))
  walk_at "fld"
  refine w_ixL hW atI0 ?_
  walk_at "fld"
  refine w_eqS ov ok_state ?_
  rw [beq_str]
  by_cases hv : v = sState
  rotate_left
  · rw [decide_eq_false (show ¬ v = Str.ofString "state" from hv)]
    walk_at "fld"
    exact sTk_ok hws hd h4 hW hwla (fun z => hv z.1) fun d s kk hh => ⟨kk, hh⟩
  rw [decide_eq_true (show v = Str.ofString "state" from hv)]
  by_cases hl : b.last = []
  rotate_left
  · have hb : ((b.last.length : Int) == 0) = false := by
      rw [beq_eq_false_iff_ne]
      intro e
      exact hl (List.eq_nil_of_length_eq_zero (by omega))
    walk_at "fld"
    exact sTk_ok hws hd h4 hW hwla (fun z => hl z.2) fun d s kk hh => ⟨kk, hh⟩
  have hb : ((b.last.length : Int) == 0) = true := by rw [hl]; rfl
  have tk : takV b (v :: tl) = (tripV tl).map fun r => ⟨b.rows ++ [.tup r], b.last⟩ := by simp only [takV, if_pos (And.intro hv hl)]
  walk_at "fld"
  refine w_slL hW fun V s1 hV hVn k1 => ?_
  rw [List.map_cons, cut1] at hV
  walk_at "wp"
  refine (takes_row_ok ⟨fun w hw => hws.ok w (List.mem_cons_of_mem _ hw), by have := hws.len; simp at this; omega⟩ (hd.keep k1) hrl hV).mono ?_
  rintro d s2 ⟨k2, hres⟩
  refine ⟨k1.up.trans (k2.wide (by simp)), ?_⟩
  rcases hres with ⟨r, hr, rfl, hd2⟩ | ⟨hr, rfl⟩
  · exact .inl ⟨_, by rw [tk, hr]; rfl, rfl, hd2⟩
  · exact .inr ⟨by rw [tk, hr]; rfl, rfl⟩
end
noncomputable def sLk : Sm := sSeq (sIf (tOr' (asB (eBin (opEqE false) (eVar 2) (eBlt opLst []))) (tOr' (asB (eBin opEq (eBlt opLen [eVar 3]) (eC (.int 4)))) (asB (eBin opNe (eBin opIx (eVar 1) (eC (.int 0))) (eBin opIx (eBlt opLst [eC (.str (Str.ofString "first")), eC (.str (Str.ofString "leader")), eC (.str (Str.ofString "lamp")), eC (.str (Str.ofString "end"))]) (eBlt opLen [eVar 3])))))) (sRet (eC (.bl false))) (sSkip)) (sSeq (sIf (asB (eBin opEq (eBin opIx (eVar 1) (eC (.int 0))) (eC (.str (Str.ofString "end"))))) (sSeq (sExpr (eMt "list" opAppend (eVar 3) [eC .non])) (sRet (eBin opEq (eVar 1) (eBlt opLst [eC (.str (Str.ofString "end"))])))) (sSkip)) (sSeq (sExpr (eMt "list" opAppend (eVar 3) [eC .non])) (sSeq (sIf (tOr' (asB (eBin opNe (eBlt opLen [eVar 1]) (eC (.int 2)))) (tOr' (asB (eBin opEq (eVar 1) (eBlt opLst [eC (.str (Str.ofString "leader")), eC (.str (Str.ofString "none"))]))) (asB (eBin opEq (eVar 1) (eBlt opLst [eC (.str (Str.ofString "lamp")), eC (.str (Str.ofString "any"))]))))) (sRet (eBin opEq (eBlt opLen [eVar 1]) (eC (.int 2)))) (sSkip)) (sSeq (sSetIx (eVar 3) (eUn opNeg (eC (.int 1))) (eCall (f__law_number) [eBin opIx (eVar 1) (eC (.int 1))])) (sRet (eBin opIsNot (eBin opIx (eVar 3) (eUn opNeg (eC (.int 1)))) (eC .non)))))))
noncomputable def sTri : Sm := sSeq (sPar3 5 6 7 (eCall (f__law_number) [eBin opIx (eVar 1) (eVar 4)]) (eCall (f__law_number) [eBin opIx (eVar 1) (eBin opAdd (eVar 4) (eC (.int 1)))]) (eBin opIx (eVar 1) (eBin opAdd (eVar 4) (eC (.int 2))))) (sSeq (sIf (tOr' (asB (eBin opIs (eVar 5) (eC .non))) (tOr' (asB (eBin opIs (eVar 6) (eC .non))) (tAnd' (asB (eBin (opIn true) (eVar 7) (eBlt opTup [eC (.str (Str.ofString "-")), eC (.str (Str.ofString "all"))]))) (asB (eBin opIs (eCall (f__law_number) [eVar 7]) (eC .non)))))) (sRet (eC (.bl false))) (sSkip)) (sSetIx (eVar 2) (eUn opNeg (eC (.int 1))) (eBin opAdd (eBin opIx (eVar 2) (eUn opNeg (eC (.int 1)))) (eBlt opTup [eBlt opTup [eVar 5, eVar 6, eIf (asB (eBin opEq (eVar 7) (eC (.str (Str.ofString "-"))))) (eC .non) (eIf (asB (eBin opEq (eVar 7) (eC (.str (Str.ofString "all"))))) (eVar 7) (eCall (f__law_number) [eVar 7]))]]))))
theorem b_taken_eq : b__law_taken = sSeq (sAsg (.tup [.name 2, .name 3]) (eVar 0)) (sSeq (sIf (tAnd' (asB (eBin opEq (eBin opIx (eVar 1) (eC (.int 0))) (eC (.str (Str.ofString "state"))))) (asB (eBin (opEqE false) (eVar 3) (eBlt opLst [])))) (sSeq (sExpr (eMt "list" opAppend (eVar 2) [eBlt opTup []])) (sSeq (sIf (asB (eBin opNe (eBlt opInt [eBin opMod (eBlt opLen [eVar 1]) (eC (.int 3))]) (eC (.int 1)))) (sRet (eC (.bl false))) (sSkip)) (sSeq (sFor (iR3 (eC (.int 1)) (eBlt opLen [eVar 1]) (eC (.int 3))) (.name 4) sTri) (sRet (eC (.bl true)))))) (sSkip)) sLk) := rfl
/-! ### lists of texts -/
theorem deep_strs {st : Sto} {n : Nat} : ∀ xs : List Str, mapO (LF.deep st (n + 1)) (xs.map D.str) = some (xs.map PyData.str)
  | [] => rfl
  | x :: xs => by
    have e : LF.deep st (n + 1) (.str x) = some (.str x) := rfl
    simp only [List.map_cons, mapO, e, deep_strs xs]
theorem lay_strs : ∀ {xs : List Str}, (∀ x ∈ xs, PyData.strOk x = true) → PyData.canLayAll0 (xs.map PyData.str) = true ∧ PyData.depthAll (xs.map PyData.str) ≤ 1
  | [], _ => ⟨rfl, by simp [PyData.depthAll]⟩
  | x :: xs, h => by
    obtain ⟨h1, h2⟩ := lay_strs (xs := xs) fun z hz => h z (List.mem_cons_of_mem _ hz)
    simp only [List.map_cons, PyData.canLayAll0, PyData.canLay0, h x (by simp), h1, PyData.depthAll, PyData.depth, Bool.and_self, true_and]
    omega
theorem eqv_strs : ∀ {xs ys : List Str}, PyData.eqvAll (xs.map PyData.str) (ys.map PyData.str) = decide (xs = ys)
  | [], [] => rfl
  | [], y :: ys => by simp [PyData.eqvAll]
  | x :: xs, [] => by simp [PyData.eqvAll]
  | x :: xs, y :: ys => by
    simp only [List.map_cons, PyData.eqvAll, PyData.eqv, eqv_strs (xs := xs) (ys := ys), beq_str, List.cons.injEq]
    by_cases h1 : x = y <;> by_cases h2 : xs = ys <;> simp [h1, h2]
theorem eqD_strs {st : Sto} {i j : Nat} {xs ys : List Str} (hi : st[i]? = some (.lst (xs.map D.str))) (hj : st[j]? = some (.lst (ys.map D.str))) (hx : ∀ x ∈ xs, PyData.strOk x = true) (hy : ∀ y ∈ ys, PyData.strOk y = true) :
    eqD st (.ref i) (.ref j) = some (decide (xs = ys)) := by
  have e1 : LF.deep st 66 (.ref i) = some (.list (xs.map PyData.str)) := by
    rw [show LF.deep st 66 (.ref i) = (match st[i]? with | some (.lst ds) => (mapO (LF.deep st 65) ds).map .list | _ => none) from rfl, hi]
    simp only [deep_strs, Option.map_some]
  have e2 : LF.deep st 66 (.ref j) = some (.list (ys.map PyData.str)) := by
    rw [show LF.deep st 66 (.ref j) = (match st[j]? with | some (.lst ds) => (mapO (LF.deep st 65) ds).map .list | _ => none) from rfl, hj]
    simp only [deep_strs, Option.map_some]
  have sh : ∀ {zs : List Str}, (∀ x ∈ zs, PyData.strOk x = true) → SeqAt.shaped (.list (zs.map PyData.str)) = true := fun {zs} h => by
    obtain ⟨h1, h2⟩ := lay_strs h
    unfold SeqAt.shaped
    rw [show (PyData.list (zs.map PyData.str)).canLay0 = true by simp only [PyData.canLay0, h1], decide_eq_true (by simp only [PyData.depth]; omega)]
    rfl
  simp only [eqD, e1, e2]
  rw [if_pos ⟨sh hx, sh hy⟩]
  simp only [PyData.eqv, eqv_strs]
/-! ### the law's own reader of a line -/
structure Bd (s : Sto) (bk R L : Nat) (rows last : List D) : Prop where
  obj : s[bk]? = some (.lst [.ref R, .ref L])
  rr : s[R]? = some (.lst rows)
  la : s[L]? = some (.lst last)
  ne : R ≠ L
  b1 : bk ≠ R
  b2 : bk ≠ L
theorem Bd.keep {s s' : Sto} {o RR LA : Nat} {rows last : List D} (h : Bd s o RR LA rows last) (k : Chg [] s s') : Bd s' o RR LA rows last := ⟨k.get0 h.obj, k.get0 h.rr, k.get0 h.la, h.ne, h.b1, h.b2⟩
theorem Bd.row {s s' : Sto} {o R L : Nat} {rows last rows' : List D} (h : Bd s o R L rows last) (k : Chg [R] s s') (h2 : s'[R]? = some (.lst rows')) : Bd s' o R L rows' last := ⟨k.get (by simpa using h.b1) h.obj, h2, k.get (by simpa using h.ne.symm) h.la, h.ne, h.b1, h.b2⟩
theorem Bd.lst {s s' : Sto} {o R L : Nat} {rows last last' : List D} (h : Bd s o R L rows last) (k : Chg [L] s s') (h2 : s'[L]? = some (.lst last')) : Bd s' o R L rows last' := ⟨k.get (by simpa using h.b2) h.obj, k.get (by simpa using h.ne) h.rr, h2, h.ne, h.b1, h.b2⟩
theorem ixN_last {n : Nat} : ixN (n + 1) (-1) = some n := by
  unfold ixN
  rw [if_neg (by omega), if_pos (by omega)]
  congr 1
  omega
theorem set_last {xs : List D} {x y : D} : (xs ++ [x]).set xs.length y = xs ++ [y] := by
  rw [List.set_append_right _ _ (Nat.le_refl _), Nat.sub_self]
  rfl
section
variable {K : Ks} {st : Sto} {bk R L W : Nat} {b : Bk} {v : Str} {tl : List Str}
theorem say_test {c : Str} {env : Sl} (oc : PyData.strOk c = true) (lc : c.length ≤ LIM) (e7 : env[7]? = some (some (.str c))) {X : XP} :
    Wp X (fun d s => d = (sayV c).isNone ∧ Chg [] st s) (tAnd' (asB (eBin (opIn true) (eVar 7) (eBlt opTup [eC (.str (Str.ofString "-")), eC (.str (Str.ofString "all"))]))) (asB (eBin opIs (eCall (f__law_number) [eVar 7]) (eC .non))) env st) := by
  refine r_wp_tAnd (q_asB (r_wp_bin (r_var e7 ?_)))
  walk_at "wp"
  refine w_tup (by simp [LIM]) ?_
  refine w_in (by rfl) ?_
  rw [if_pos rfl, inF_two]
  by_cases h1 : c = Str.ofString "-"
  · rw [decide_eq_true h1]
    walk_at "wp"
    exact ⟨by rw [sayV, if_pos h1]; rfl, Chg.refl⟩
  by_cases h2 : c = Str.ofString "all"
  · rw [decide_eq_false h1, decide_eq_true h2]
    walk_at "wp"
    exact ⟨by rw [sayV, if_neg h1, if_pos h2]; rfl, Chg.refl⟩
  rw [decide_eq_false h1, decide_eq_false h2]
  walk_at "wp"
  refine r_var e7 ?_
  walk_at "wp"
  refine (law_number_ok oc lc).mono ?_
  rintro _ s ⟨rfl, k⟩
  walk_at "wp"
  refine ⟨?_, k⟩
  rw [sayV, if_neg h1, if_neg h2, isNon_opt]
  cases numV c <;> rfl
theorem sTri_ok {K : Ks} {s : Sto} {a b c : Str} {rows row : List D} {at_ : Nat} {ws : List Str} {x5 x6 x7 : Option D} (oa : PyData.strOk a = true ∧ a.length ≤ LIM) (ob : PyData.strOk b = true ∧ b.length ≤ LIM) (oc : PyData.strOk c = true ∧ c.length ≤ LIM)
    (ha : ws[at_]? = some a) (hb : ws[at_ + 1]? = some b) (hc : ws[at_ + 2]? = some c) (hW : s[W]? = some (.lst (ws.map D.str))) (hR : s[R]? = some (.lst (rows ++ [.tup row]))) (hrl : row.length ≤ 100000) (hWR : W ≠ R) {x0 x3 : Option D}
    (kbad : ∀ t, Chg [] s t → (numV a = none ∨ numV b = none ∨ sayV c = none) → K.rt (.bl false) t)
    (kgood : ∀ t x y z x5 x6 x7, numV a = some x → numV b = some y → sayV c = some z → Chg [R] s t → t[R]? = some (.lst (rows ++ [.tup (row ++ [.tup [.int x, .int y, z]])])) → K.nx [x0, some (.ref W), some (.ref R), x3, some (.int at_), x5, x6, x7] t) :
    Owp K (sTri [x0, some (.ref W), some (.ref R), x3, some (.int at_), x5, x6, x7] s) := by
  have ix : ∀ {n : Nat} {w : Str}, ws[n]? = some w → (ws.map D.str)[n]? = some (.str w) := fun h => by rw [List.getElem?_map, h]; rfl
  have hb1 : atI (ws.map D.str) ((at_ : Int) + 1) = some (.str b) := by rw [show ((at_ : Int) + 1) = ((at_ + 1 : Nat) : Int) by omega]; exact atIn (ix hb)
  have hc1 : atI (ws.map D.str) ((at_ : Int) + 2) = some (.str c) := by rw [show ((at_ : Int) + 2) = ((at_ + 2 : Nat) : Int) by omega]; exact atIn (ix hc)
  unfold sTri
  walk_at "wp"
  refine w_ixL hW (atIn (ix ha)) ?_
  walk_at "wp"
  refine (law_number_ok oa.1 oa.2).mono ?_
  rintro _ s1 ⟨rfl, k1⟩
  walk_at "wp"
  refine w_ixL (k1.get0 hW) hb1 ?_
  walk_at "wp"
  refine (law_number_ok ob.1 ob.2).mono ?_
  rintro _ s2 ⟨rfl, k2⟩
  have k12 := k1.trans k2
  walk_at "wp"
  refine w_ixL (k12.get0 hW) hc1 ?_
  cases hna : numV a with
  | none =>
    dsimp only [optD]
    walk_at "wp"
    exact kbad _ k12 (.inl hna)
  | some x =>
    cases hnb : numV b with
    | none =>
      dsimp only [optD]
      walk_at "wp"
      exact kbad _ k12 (.inr (.inl hnb))
    | some y =>
      dsimp only [optD]
      refine r_seq_nx (r_owp_seq (r_owp_if (r_wp_tOr (q_asB (r_wp_bin (r_var (d := .int x) ?g1 (r_wp_c (w_is (r_onBl ?_)))))))))
      case g1 => rfl
      rw [if_neg (show ¬ LF.isNon (D.int (x : Int)) = true from Bool.false_ne_true)]
      refine r_wp_tOr (q_asB (r_wp_bin (r_var (d := .int y) ?g2 (r_wp_c (w_is (r_onBl ?_))))))
      case g2 => rfl
      rw [if_neg (show ¬ LF.isNon (D.int (y : Int)) = true from Bool.false_ne_true)]
      refine (say_test oc.1 oc.2 ?h7).mono ?_
      case h7 => rfl
      rintro _ s3 ⟨rfl, k3⟩
      have k13 := k12.trans k3
      cases hnc : sayV c with
      | none =>
        walk_at "wp"
        exact kbad _ k13 (.inr (.inr hnc))
      | some z =>
        have hR3 := k13.get0 hR
        walk_at "wp"
        refine w_ixL hR3 atI_last ?_
        walk_at "wp"
        refine w_eqS oc.1 ok_minus ?_
        rw [beq_str]
        unfold sayV at hnc
        by_cases h1 : c = Str.ofString "-"
        · rw [decide_eq_true h1]
          rw [if_pos h1] at hnc
          cases hnc
          walk_at "wp"
          refine w_tup (by simp [LIM]) ?_
          walk_at "wp"
          refine w_tup (by simp [LIM]) ?_
          refine w_addT (by simp only [List.length_singleton, LIM]; omega) ?_
          walk_at "wp"
          refine wo_setIx (hR3) (by rw [List.length_append]; exact ixN_last) fun s5 hs5 k5 => ?_
          rw [set_last] at hs5
          walk_at "wp"
          exact kgood _ x y _ _ _ _ hna hnb (by rw [sayV, if_pos h1]) (k13.up.trans k5) hs5
        rw [decide_eq_false h1]
        rw [if_neg h1] at hnc
        walk_at "wp"
        refine w_eqS oc.1 all_ok ?_
        rw [beq_str]
        by_cases h2 : c = Str.ofString "all"
        · rw [decide_eq_true h2]
          rw [if_pos h2] at hnc
          cases hnc
          walk_at "wp"
          refine w_tup (by simp [LIM]) ?_
          walk_at "wp"
          refine w_tup (by simp [LIM]) ?_
          refine w_addT (by simp only [List.length_singleton, LIM]; omega) ?_
          walk_at "wp"
          refine wo_setIx (hR3) (by rw [List.length_append]; exact ixN_last) fun s5 hs5 k5 => ?_
          rw [set_last, h2] at hs5
          walk_at "wp"
          exact kgood _ x y _ _ _ _ hna hnb (by rw [sayV, if_neg h1, if_pos h2]) (k13.up.trans k5) hs5
        rw [decide_eq_false h2]
        rw [if_neg h2] at hnc
        walk_at "wp"
        refine (law_number_ok oc.1 oc.2).mono ?_
        rintro _ s4 ⟨rfl, k4⟩
        cases hn : numV c with
        | none => rw [hn] at hnc; cases hnc
        | some n =>
          rw [hn] at hnc
          cases hnc
          dsimp only [optD]
          walk_at "wp"
          refine w_tup (by simp [LIM]) ?_
          walk_at "wp"
          refine w_tup (by simp [LIM]) ?_
          refine w_addT (by simp only [List.length_singleton, LIM]; omega) ?_
          walk_at "wp"
          refine wo_setIx (k4.get0 hR3) (by rw [List.length_append]; exact ixN_last) fun s5 hs5 k5 => ?_
          rw [set_last] at hs5
          walk_at "wp"
          exact kgood _ x y _ _ _ _ hna hnb (by rw [sayV, if_neg h1, if_neg h2, hn]; rfl) ((k13.trans k4).up.trans k5) hs5
end
/-! ### the law's own reader of a line, whole -/
section
variable {K : Ks} {st : Sto} {bk R L W : Nat} {b : Bk} {v : Str} {tl : List Str}
theorem sLk_ok {x4 x5 x6 x7 : Option D} (hws : WsOk (v :: tl)) (hd : Bd st bk R L b.rows b.last) (h4 : b.last.length ≤ 4) (hW : st[W]? = some (.lst ((v :: tl).map D.str))) (hwl : W ≠ L) (hn : ¬ (v = sState ∧ b.last = []))
    (k : ∀ d s, Chg [R, L] st s → ((∃ b', takV b (v :: tl) = some b' ∧ d = .bl true ∧ Bd s bk R L b'.rows b'.last) ∨ (takV b (v :: tl) = none ∧ d = .bl false)) → K.rt d s) :
    Owp K (sLk [some (.ref bk), some (.ref W), some (.ref R), some (.ref L), x4, x5, x6, x7] st) := by
  obtain ⟨ov, lv⟩ := hws.ok v (by simp)
  have h1 := hd.obj
  have h2 := hd.la
  have h3 := hd.rr
  unfold sLk
  walk_at "wp"
  refine wo_lst (by simp [LIM]) fun E s1 hE hEn k1 => ?_
  have hd1 := hd.keep k1
  have hW1 := k1.get0 hW
  have h21 := hd1.la
  by_cases hr : b.rows = []
  · refine w_eqE hd1.rr hE (.inr hr) ?_
    rw [decide_eq_true (by rw [hr])]
    walk_at "wp"
    exact k _ _ k1.up (.inr ⟨by simp only [takV, if_neg hn, if_pos hr], rfl⟩)
  have hne : b.rows.length ≠ ([] : List D).length := fun e => hr (List.eq_nil_of_length_eq_zero e)
  refine w_eqE hd1.rr hE (.inl hne) ?_
  rw [decide_eq_false hne]
  by_cases h44 : b.last.length = 4
  · have hz4 : ((b.last.length : Int) == 4) = true := by rw [h44]; rfl
    walk_at "wp"
    refine k _ _ k1.up (.inr ⟨?_, rfl⟩)
    simp only [takV, if_neg hn, if_neg hr, h44]
    rfl
  have hz4 : ((b.last.length : Int) == 4) = false := by rw [beq_eq_false_iff_ne]; omega
  obtain ⟨h, hh⟩ : ∃ h, heads[b.last.length]? = some h := ⟨_, List.getElem?_eq_getElem (show b.last.length < heads.length by simp [heads]; omega)⟩
  have hhm := List.mem_of_getElem? hh
  have hhok := ok_heads h hhm
  have tk : takV b (v :: tl) = if v ≠ h then none else if h = sEnd then (if tl = [] then some ⟨b.rows, b.last ++ [.non]⟩ else none) else oneV b h tl := by
    simp only [takV, if_neg hn, if_neg hr, hh]
  walk_at "wp"
  refine w_ixL hW1 atI0 ?_
  walk_at "wp"
  refine wo_lst (by simp [LIM]) fun H s2 hH hHn k2 => ?_
  have k12 := k1.trans k2
  have hd2 := hd1.keep k2
  have hW2 := k2.get0 hW1
  have h22 := hd2.la
  walk_at "wp"
  refine w_ixL hH (heads_at hh) ?_
  refine w_neS ov hhok ?_
  rw [beq_str]
  by_cases hvh : v = h
  rotate_left
  · rw [decide_eq_false hvh]
    walk_at "wp"
    exact k _ _ k12.up (.inr ⟨by rw [tk, if_pos hvh], rfl⟩)
  subst hvh
  rw [decide_eq_true rfl]
  rw [if_neg (fun z => z rfl)] at tk
  walk_at "wp"
  refine w_ixL hW2 atI0 ?_
  walk_at "wp"
  refine w_eqS ov ok_end ?_
  rw [beq_str]
  by_cases he : v = sEnd
  · rw [decide_eq_true (show v = Str.ofString "end" from he)]
    rw [if_pos he] at tk
    walk_at "wp"
    refine wo_append h22 (by simp [LIM]; omega) fun s3 hs3 k3 => ?_
    have hd3 := hd2.lst k3 hs3
    have hW3 := k3.get (by simpa using hwl) hW2
    walk_at "wp"
    refine wo_lst (by simp [LIM]) fun Z s4 hZ hZn k4 => ?_
    have hZ' : s4[Z]? = some (.lst ([sEnd].map D.str)) := hZ
    refine w_eq (eqD_strs (k4.get0 hW3) hZ' (fun x hx => (hws.ok x hx).1) (fun x hx => by rw [List.mem_singleton.mp hx]; exact ok_end)) ?_
    walk_at "wp"
    refine k _ _ ((k12.up.trans (k3.wide (by simp))).trans k4.up) ?_
    by_cases ht : tl = []
    · subst ht
      rw [if_pos rfl] at tk
      exact .inl ⟨_, tk, by rw [he, decide_eq_true rfl], hd3.keep k4⟩
    · rw [if_neg ht] at tk
      refine .inr ⟨tk, ?_⟩
      rw [decide_eq_false]
      intro e
      exact ht (List.cons.inj e).2
  rw [decide_eq_false (show ¬ v = Str.ofString "end" from he)]
  rw [if_neg he] at tk
  walk_at "wp"
  refine wo_append h22 (by simp [LIM]; omega) fun s3 hs3 k3 => ?_
  have hd3 := hd2.lst k3 hs3
  have hW3 := k3.get (by simpa using hwl) hW2
  have k13 : Chg [R, L] st s3 := k12.up.trans (k3.wide (by simp))
  by_cases h2l : tl.length = 1
  rotate_left
  · have hb : ((((v :: tl).map D.str).length : Int) == 2) = false := by rw [beq_eq_false_iff_ne, List.length_map, List.length_cons]; omega
    walk_at "wp"
    refine k _ _ k13 (.inr ⟨?_, by rw [hb]⟩)
    rw [tk]
    match tl, h2l with
    | [], _ => rfl
    | [_], h => exact (h rfl).elim
    | _ :: _ :: _, _ => rfl
  obtain ⟨w, rfl⟩ : ∃ w, tl = [w] := by
    match tl, h2l with
    | [w], _ => exact ⟨w, rfl⟩
  obtain ⟨ow, lw⟩ := hws.ok w (by simp)
  have hb : ((((v :: [w]).map D.str).length : Int) == 2) = true := rfl
  simp only [oneV] at tk
  have hvw : ∀ x ∈ [v, w], PyData.strOk x = true := fun x hx => (hws.ok x hx).1
  walk_at "wp"
  refine wo_lst (by simp [LIM]) fun Z s4 hZ hZn k4 => ?_
  have hZ' : s4[Z]? = some (.lst ([sLeader, sNone].map D.str)) := hZ
  refine w_eq (eqD_strs (k4.get0 hW3) hZ' hvw (fun x hx => by
    simp only [List.mem_cons, List.not_mem_nil, or_false] at hx
    rcases hx with rfl | rfl
    · exact ok_leader
    · exact ok_none)) ?_
  by_cases hc1 : [v, w] = [sLeader, sNone]
  · obtain ⟨rfl, rfl⟩ : v = sLeader ∧ w = sNone := by simpa using hc1
    rw [decide_eq_true hc1]
    rw [if_pos (by rfl)] at tk
    have hW4 := k4.get0 hW3
    walk_at "wp"
    refine k _ _ (k13.trans k4.up) (.inl ⟨_, tk, rfl, hd3.keep k4⟩)
  rw [decide_eq_false hc1]
  walk_at "wp"
  refine wo_lst (by simp [LIM]) fun Y s5 hY hYn k5 => ?_
  have hY' : s5[Y]? = some (.lst ([sLampW, sAny].map D.str)) := hY
  refine w_eq (eqD_strs (k5.get0 (k4.get0 hW3)) hY' hvw (fun x hx => by
    simp only [List.mem_cons, List.not_mem_nil, or_false] at hx
    rcases hx with rfl | rfl
    · exact ok_lamp
    · exact ok_any)) ?_
  have k45 := k4.trans k5
  by_cases hc2 : [v, w] = [sLampW, sAny]
  · obtain ⟨rfl, rfl⟩ : v = sLampW ∧ w = sAny := by simpa using hc2
    rw [decide_eq_true hc2]
    rw [if_pos (by rfl)] at tk
    have hW5 := k5.get0 (k4.get0 hW3)
    walk_at "wp"
    refine k _ _ (k13.trans k45.up) (.inl ⟨_, tk, rfl, hd3.keep k45⟩)
  rw [decide_eq_false hc2]
  have hop : ¬ openV v = some w := by
    unfold openV
    intro e
    split at e
    · rename_i hv
      cases e
      exact hc1 (by rw [hv])
    · split at e
      · rename_i hv
        cases e
        exact hc2 (by rw [hv])
      · cases e
  rw [if_neg hop] at tk
  have hd5 := hd3.keep k45
  walk_at "wp"
  refine w_ixL (k45.get0 hW3) (atIn (n := 1) rfl) ?_
  walk_at "wp"
  refine (law_number_ok ow lw).mono ?_
  rintro _ s6 ⟨rfl, k6⟩
  have hd6 := hd5.keep k6
  walk_at "wp"
  refine wo_setIx hd6.la (by rw [List.length_append]; exact ixN_last) fun s7 hs7 k7 => ?_
  rw [set_last] at hs7
  have hd7 := hd6.lst k7 hs7
  walk_at "wp"
  refine w_ixL hs7 atI_last ?_
  walk_at "wp"
  refine k _ _ (((k13.trans k45.up).trans k6.up).trans (k7.wide (by simp))) ?_
  cases hnw : numV w with
  | none =>
    rw [hnw] at tk
    exact .inr ⟨tk, rfl⟩
  | some n =>
    rw [hnw] at tk hd7
    exact .inl ⟨_, tk, rfl, hd7⟩
theorem law_taken_ok {X : XP} (hws : WsOk (v :: tl)) (hd : Bd st bk R L b.rows b.last) (h4 : b.last.length ≤ 4) (hrl : b.rows.length ≤ 100000) (hW : st[W]? = some (.lst ((v :: tl).map D.str))) (hwl : W ≠ L) (hwr : W ≠ R) :
    Wp X (fun d s => Chg [R, L] st s ∧ ((∃ b', takV b (v :: tl) = some b' ∧ d = .bl true ∧ Bd s bk R L b'.rows b'.last) ∨ (takV b (v :: tl) = none ∧ d = .bl false))) (f__law_taken [.ref bk, .ref W] st) := by
  obtain ⟨ov, lv⟩ := hws.ok v (by simp)
  have h1 := hd.obj
  have h2 := hd.la
  have h3 := hd.rr
  have hwlen := hws.len
  simp only [List.length_cons] at hwlen
  walk_at "fn"
  rw [b_taken_eq]
  refine r_owp_seq (r_owp_asgT (r_var (by rfl) ?_))
  simp only [Tg.sem, Tg.sems, seqOf, h1, List.length_cons, List.length_nil, if_pos, List.set]
  walk_at "fld"
  refine r_owp_seq (r_owp_if ?_)
  refine r_wp_tAnd (q_asB (r_wp_bin ?_))
  walk_at "fld"
  refine w_ixL hW atI0 ?_
  walk_at "fld"
  refine w_eqS ov ok_state ?_
  rw [beq_str]
  by_cases hv : v = sState
  rotate_left
  · rw [decide_eq_false (show ¬ v = Str.ofString "state" from hv)]
    walk_at "fld"
    exact sLk_ok hws hd h4 hW hwl (fun z => hv z.1) fun d s kk hh => ⟨kk, hh⟩
  rw [decide_eq_true (show v = Str.ofString "state" from hv)]
  walk_at "fld"
  refine wo_lst (by simp [LIM]) fun E s1 hE hEn k1 => ?_
  have hd1 := hd.keep k1
  have hW1 := k1.get0 hW
  by_cases hl : b.last = []
  rotate_left
  · have hne : b.last.length ≠ ([] : List D).length := fun e => hl (List.eq_nil_of_length_eq_zero e)
    refine w_eqE hd1.la hE (.inl hne) ?_
    rw [decide_eq_false hne]
    walk_at "fld"
    exact sLk_ok hws hd1 h4 hW1 hwl (fun z => hl z.2) fun d s kk hh => ⟨k1.up.trans kk, hh⟩
  refine w_eqE hd1.la hE (.inr hl) ?_
  rw [decide_eq_true (by rw [hl])]
  have tk : takV b (v :: tl) = (tripV tl).map fun r => ⟨b.rows ++ [.tup r], b.last⟩ := by simp only [takV, if_pos (And.intro hv hl)]
  have h31 := hd1.rr
  walk_at "wp"
  refine w_tup (by simp [LIM]) ?_
  walk_at "wp"
  refine wo_append h31 (by simp only [LIM]; omega) fun s2 hs2 k2 => ?_
  have hd2 := hd1.row k2 hs2
  have hW2 := k2.get (by simpa using hwr) hW1
  have k12 : Chg [R] st s2 := k1.up.trans k2
  have hlen : ((v :: tl).map D.str).length = tl.length + 1 := by rw [List.length_map, List.length_cons]
  by_cases hm3 : tl.length % 3 = 0
  rotate_left
  · have hb : ((((v :: tl).map D.str).length : Int) % 3 == 1) = false := by rw [beq_eq_false_iff_ne, hlen]; omega
    walk_at "wp"
    refine ⟨k12.wide (by simp), .inr ⟨?_, rfl⟩⟩
    rw [tk]
    cases h : tripV tl with
    | none => rfl
    | some l => have := trip_len h; omega
  have hb : ((((v :: tl).map D.str).length : Int) % 3 == 1) = true := by rw [beq_iff_eq, hlen]; omega
  obtain ⟨m, hm⟩ : ∃ m, tl.length = 3 * m := ⟨tl.length / 3, by omega⟩
  walk_at "wp"
  refine q_iR3 (n := m) (i := ((1 : Nat) : Int)) (j := ((1 + 3 * m : Nat) : Int)) (k := 3) ?_
  walk_at "wp"
  refine ⟨rfl, by rw [hlen, hm, Nat.add_comm], rfl, rg3 (by omega) (by omega), ?_⟩
  refine owp_forS (fun j e s => ∃ row x4 x5 x6 x7, e = [some (.ref bk), some (.ref W), some (.ref R), some (.ref L), x4, x5, x6, x7] ∧ row.length = j ∧ tripV tl = (tripV (tl.drop (3 * j))).map (row ++ ·) ∧ s[R]? = some (.lst (b.rows ++ [.tup row])) ∧ Chg [R] st s) ?_ ?_ ⟨[], _, _, _, _, rfl, rfl, ?_, hs2, k12⟩
  · rintro j e0 e s hde ⟨row, x4, x5, x6, x7, rfl, hrl2, hinv, hRs, ks⟩
    obtain ⟨hj, rfl⟩ := rngC_get hde
    obtain ⟨a, b', c, r, g1, g2, ha, hb', hc⟩ := three_at hm hj
    have bad : (numV a = none ∨ numV b' = none ∨ sayV c = none) → tripV tl = none := fun z => by
      rw [hinv, g1]
      rcases z with z | z | z
      · simp [tripV, z]
      · cases h : numV a <;> simp [tripV, z, h]
      · cases h : numV a <;> cases h2 : numV b' <;> simp [tripV, z, h, h2]
    refine ⟨okB_none, _, rfl, ?_⟩
    dsimp only [List.set]
    rw [show (((1 : Nat) : Int) + (j : Int) * 3) = ((3 * j + 1 : Nat) : Int) by omega]
    refine sTri_ok (ws := v :: tl) (hws.ok a (List.mem_cons_of_mem _ (List.mem_of_getElem? ha))) (hws.ok b' (List.mem_cons_of_mem _ (List.mem_of_getElem? hb'))) (hws.ok c (List.mem_cons_of_mem _ (List.mem_of_getElem? hc))) (by simpa using ha) (by simpa using hb') (by simpa using hc) (ks.get (by simpa using hwr) hW) hRs (by omega) hwr ?_ ?_
    · intro t kt hbad
      exact ⟨(ks.trans kt.up).wide (by simp), .inr ⟨by rw [tk, bad hbad]; rfl, rfl⟩⟩
    · intro t x y z y5 y6 y7 hna hnb hnc kt ht
      refine ⟨_, _, _, _, _, rfl, by rw [List.length_append, hrl2]; rfl, ?_, ht, ks.trans kt⟩
      rw [hinv, g1, g2]
      simp only [tripV, hna, hnb, hnc]
      cases tripV r with
      | none => rfl
      | some l => simp
  · rintro e s ⟨row, x4, x5, x6, x7, rfl, hrl2, hinv, hRs, ks⟩
    rw [rngC_len] at hrl2
    refine ⟨okB_none, ?_⟩
    walk_at "wp"
    rw [rngC_len, List.drop_of_length_le (by omega)] at hinv
    have ht : tripV tl = some row := by rw [hinv]; simp [tripV]
    exact ⟨ks.wide (by simp), .inl ⟨⟨b.rows ++ [.tup row], b.last⟩, by rw [tk, ht]; rfl, rfl, hd.row ks hRs⟩⟩
  · simp
end
/-! ### what the lines of a text tell -/
def nlS : Str := Str.ofString "\n"
def spS : Str := Str.ofString " "
def emS : Str := Str.ofString ""
/-- what is wrong first, or the book -/
inductive Tld where
  | bad (at_ : Nat) (w : Str)
  | book (b : Bk)
def kText : Str := Str.ofString "text"
def kFeed : Str := Str.ofString "feed"
def kWords : Str := Str.ofString "words"
def kForm : Str := Str.ofString "form"
def kMiss : Str := Str.ofString "missing"
/-- lines, the last one apart -/
def linesV : List Str → Nat → Bk → Tld
  | [], _, b => .book b
  | l :: ls, n, b => if emS ∈ Txt.split l spS then .bad n kWords else match takV b (Txt.split l spS) with
    | none => .bad n kForm
    | some b' => linesV ls (n + 1) b'
def readV (init : List Str) (l : Str) : Tld := match linesV init 0 ⟨[], []⟩ with
  | .bad n w => .bad n w
  | .book b => if l ≠ emS then .bad init.length kFeed else if b.last.length < 4 then .bad init.length kMiss else .book b
def tldV (z : Str) : Tld := readV (Txt.split z nlS).dropLast ((Txt.split z nlS).getLastD emS)
theorem tld_form (z : Str) : ∃ init l, Txt.split z nlS = init ++ [l] ∧ tldV z = readV init l := by
  have hne : Txt.split z nlS ≠ [] := split_ne
  refine ⟨(Txt.split z nlS).dropLast, (Txt.split z nlS).getLast hne, (List.dropLast_concat_getLast hne).symm, ?_⟩
  unfold tldV
  rw [List.getLastD_eq_getLast?, List.getLast?_eq_some_getLast hne]
  rfl
theorem ok_nl : PyData.strOk nlS = true := by decide +kernel
theorem ok_sp : PyData.strOk spS = true := by decide +kernel
theorem nl_one : nlS = ⟨#[10]⟩ := by decide +kernel
theorem sp_one : spS = ⟨#[32]⟩ := by decide +kernel
theorem nl_len : (nlS.length == 0) = false := by decide +kernel
theorem sp_len : (spS.length == 0) = false := by decide +kernel
theorem flat_strs (ws : List Str) : (ws.map D.str).all flatD = true := by
  induction ws with
  | nil => rfl
  | cons w ws ih => rw [List.map_cons, List.all_cons, ih]; rfl
theorem inF_strs {x : Str} {ws : List Str} : inF (.str x) (ws.map D.str) = decide (x ∈ ws) := by
  induction ws with
  | nil => rfl
  | cons w ws ih =>
    have e : inF (.str x) ((w :: ws).map D.str) = ((w == x) || inF (.str x) (ws.map D.str)) := rfl
    rw [e, ih, beq_str, Bool.eq_iff_iff]
    simp only [Bool.or_eq_true, decide_eq_true_eq, List.mem_cons]
    exact ⟨fun h => h.imp_left fun z => z.symm, fun h => h.imp_left fun z => z.symm⟩
theorem words_ok {l : Str} (h : PyData.strOk l = true) (hl : l.length ≤ 90000) : WsOk (Txt.split l spS) :=
  ⟨fun w hw => ⟨split_ok hw h, Nat.le_trans (split_len hw) (by simp only [LIM]; omega)⟩, by have := split_le l spS; omega⟩
theorem tak_len {b b' : Bk} {ws : List Str} (h : takV b ws = some b') (h4 : b.last.length ≤ 4) : b'.last.length ≤ 4 ∧ b'.rows.length ≤ b.rows.length + 1 := by
  cases ws with
  | nil => cases h
  | cons v tl =>
    simp only [takV] at h
    split at h
    · cases ht : tripV tl with
      | none => rw [ht] at h; cases h
      | some r =>
        rw [ht] at h
        cases h
        exact ⟨h4, by simp⟩
    · split at h
      · cases h
      · split at h
        · cases h
        · rename_i hh e
          have hk : b.last.length < 4 := (List.getElem?_eq_some_iff.mp e).1
          split at h
          · cases h
          · split at h
            · split at h
              · cases h
                exact ⟨by simp; omega, by simp⟩
              · cases h
            · unfold oneV at h
              split at h
              · split at h
                · cases h
                  exact ⟨by simp; omega, by simp⟩
                · rename_i w _
                  cases hn : numV w with
                  | none => rw [hn] at h; cases h
                  | some n =>
                    rw [hn] at h
                    cases h
                    exact ⟨by simp; omega, by simp⟩
              · cases h
theorem split_cons {l : Str} : ∃ v tl, Txt.split l spS = v :: tl := List.exists_cons_of_ne_nil split_ne
theorem none_back {a b : Sto} {r : Nat} (k : Chg [] a b) (h : b[r]? = none) : a[r]? = none := by
  cases e : a[r]? with
  | none => rfl
  | some c => rw [k.get0 e] at h; cases h
theorem enum_get {ds : List D} {i : Nat} {d : D} (h : (enumI ds)[i]? = some d) : ∃ x, ds[i]? = some x ∧ d = .tup [.int (i : Int), x] := by
  unfold enumI at h
  rw [List.getElem?_map, List.getElem?_zipIdx] at h
  cases hx : ds[i]? with
  | none => rw [hx] at h; cases h
  | some x =>
    rw [hx] at h
    simp only [Option.map_some, Option.some.injEq] at h
    exact ⟨x, rfl, by rw [← h]; simp⟩
theorem enum_len {ds : List D} : (enumI ds).length = ds.length := by simp [enumI]
/-- a step of linesV -/
theorem lines_step {ls : List Str} {i : Nat} {l : Str} {b : Bk} (h : ls[i]? = some l) : linesV (ls.drop i) i b = if emS ∈ Txt.split l spS then .bad i kWords else match takV b (Txt.split l spS) with
    | none => .bad i kForm
    | some b' => linesV (ls.drop (i + 1)) (i + 1) b' := by
  obtain ⟨hi, rfl⟩ := List.getElem?_eq_some_iff.mp h
  rw [List.drop_eq_getElem_cons hi]
  rfl
section
variable {st : Sto} {z : Str}
structure Zk (z : Str) : Prop where
  ok : PyData.strOk z = true
  len : z.length ≤ 80000
theorem Zk.lines (h : Zk z) {l : Str} (hl : l ∈ Txt.split z nlS) : PyData.strOk l = true ∧ l.length ≤ 80000 := ⟨split_ok hl h.ok, Nat.le_trans (split_len hl) h.len⟩
theorem Zk.count (h : Zk z) : (Txt.split z nlS).length ≤ 80002 := Nat.le_trans (split_le z nlS) (by have := h.len; omega)
theorem cut_init {ds : List D} {d : D} : LF.cutD (ds ++ [d]) none (some (-1)) = ds := by
  unfold LF.cutD
  have e : HT.sIx (ds ++ [d]).length (ds ++ [d]).length (some (-1)) = ds.length := by
    simp only [HT.sIx]
    rw [if_pos (by decide), List.length_append, List.length_singleton]
    omega
  rw [e, HT.sIx_none]
  simp
theorem em_len : emS.length = 0 := by decide +kernel
theorem cut_some {ds : List D} {k : Nat} : LF.cutD ds none (some (k : Int)) = ds.take k := by
  unfold LF.cutD
  rw [HT.sIx_nat, HT.sIx_none, List.drop_zero, Nat.sub_zero]
  by_cases h : k ≤ ds.length
  · rw [Nat.min_eq_left h]
  · rw [Nat.min_eq_right (by omega), List.take_of_length_le (Nat.le_refl _), List.take_of_length_le (by omega)]
theorem law_reader_ok (hz : Zk z) {X : XP} :
    Wp X (fun d s => Chg [] st s ∧ ((∃ n w, tldV z = .bad n w ∧ d = .tup [.str kText, .int (n : Int), .str w]) ∨
      (∃ b r, tldV z = .book b ∧ d = .tup [.str (Str.ofString "parts"), .ref r] ∧ s[r]? = some (.lst (.tup b.rows :: b.last.take 3)) ∧ st[r]? = none))) (f__law_reader [.str z] st) := by
  have hzl := hz.len
  have hcnt := hz.count
  have hall : ∀ l ∈ Txt.split z nlS, PyData.strOk l = true ∧ l.length ≤ 80000 := fun l hl => hz.lines hl
  obtain ⟨init, last, hform, htld⟩ := tld_form z
  walk_at "fn"
  unfold b__law_reader
  walk_at "wp"
  refine w_split nl_len (by simp only [LIM]; omega) fun W s1 hW hWn k1 => ?_
  walk_at "wp"
  refine wo_lst (by simp [LIM]) fun R s2 hR hRn k2 => ?_
  walk_at "wp"
  refine wo_lst (by simp [LIM]) fun L s3 hL hLn k3 => ?_
  walk_at "wp"
  refine wo_lst (by simp [LIM]) fun bk s4 hbk hbkn k4 => ?_
  have hR4 := k4.get0 (k3.get0 hR)
  have hL4 := k4.get0 hL
  have hRL : R ≠ L := fun e => by rw [← e, hR] at hLn; cases hLn
  have hd4 : Bd s4 bk R L [] [] := ⟨hbk, hR4, hL4, hRL, (fun e => by rw [e, k3.get0 hR] at hbkn; cases hbkn), (fun e => by rw [e, hL] at hbkn; cases hbkn)⟩
  have k14 : Chg [] st s4 := k1.trans (k2.trans (k3.trans k4))
  have hW4 : s4[W]? = some (.lst ((Txt.split z nlS).map D.str)) := k4.get0 (k3.get0 (k2.get0 hW))
  have hWR : W ≠ R := fun e => by rw [← e, hW] at hRn; cases hRn
  have hWL : W ≠ L := fun e => by rw [← e, k2.get0 hW] at hLn; cases hLn
  have hRs : st[R]? = none := none_back k1 hRn
  have hLs : st[L]? = none := none_back k1 (none_back k2 hLn)
  have out : ∀ {t : Sto}, Chg [R, L] s4 t → Chg [] st t := fun kt i c _ e => kt i c (by
    simp only [List.mem_cons, List.not_mem_nil, or_false]
    rintro (rfl | rfl)
    · rw [hRs] at e; cases e
    · rw [hLs] at e; cases e) (k14.get0 e)
  rw [hform] at hW4 hcnt hall
  rw [htld]
  rw [List.map_append] at hW4
  simp only [List.length_append, List.length_singleton] at hcnt
  clear hW hform htld hbk hR hL hbkn hRn hLn hR4 hL4
  walk_at "wp"
  refine w_slL hW4 fun V s5 hV hVn k5 => ?_
  rw [show [last].map D.str = [D.str last] from rfl, cut_init] at hV
  have hd5 := hd4.keep k5
  have hW5 := k5.get0 hW4
  have hVR : V ∉ [R, L] := by
    simp only [List.mem_cons, List.not_mem_nil, or_false]
    rintro (rfl | rfl)
    · rw [hd4.rr] at hVn; cases hVn
    · rw [hd4.la] at hVn; cases hVn
  have hWn : W ∉ [R, L] := by simp [hWR, hWL]
  walk_at "wp"
  refine owp_forS (fun i e s => ∃ (b : Bk) (x3 x4 x5 : Option D), e = [some (.str z), some (.ref W), some (.ref bk), x3, x4, x5] ∧ linesV init 0 ⟨[], []⟩ = linesV (init.drop i) i b ∧ b.last.length ≤ 4 ∧ b.rows.length ≤ i ∧ i ≤ init.length ∧ Bd s bk R L b.rows b.last ∧ Chg [R, L] s5 s) ?_ ?_ ⟨⟨[], []⟩, _, _, _, rfl, rfl, by simp, by simp, by omega, hd5, Chg.refl⟩
  · rintro i d e s hde ⟨b, x3, x4, x5, rfl, hinv, h4, hrl, hi, hd, ks⟩
    obtain ⟨x, hx, rfl⟩ := enum_get hde
    rw [List.getElem?_map] at hx
    obtain ⟨l, hl, rfl⟩ := Option.map_eq_some_iff.mp hx
    obtain ⟨ol, ll⟩ := hall l (List.mem_append_left _ (List.mem_of_getElem? hl))
    have hi2 := (List.getElem?_eq_some_iff.mp hl).1
    refine ⟨okB_some (ks.get hVR hV), _, rfl, ?_⟩
    dsimp only [List.set]
    rw [lines_step hl] at hinv
    walk_at "wp"
    refine w_split sp_len (by simp only [LIM]; omega) fun U t1 hU hUn j1 => ?_
    have hws := words_ok ol (by omega)
    have hdt := hd.keep j1
    walk_at "wp"
    refine w_inL hU (flat_strs _) ?_
    rw [if_neg (by decide), inF_strs]
    by_cases hem : emS ∈ Txt.split l spS
    · rw [decide_eq_true (show Str.ofString "" ∈ Txt.split l (Str.ofString " ") from hem)]
      rw [if_pos hem] at hinv
      walk_at "wp"
      refine w_tup (by simp [LIM]) ?_
      walk_at "wp"
      exact ⟨out (k5.up.trans (ks.trans j1.up)), .inl ⟨i, kWords, by rw [readV, hinv], rfl⟩⟩
    rw [decide_eq_false (show ¬ Str.ofString "" ∈ Txt.split l (Str.ofString " ") from hem)]
    rw [if_neg hem] at hinv
    obtain ⟨v, tl, hvt⟩ := split_cons (l := l)
    have hU : t1[U]? = some (.lst ((v :: tl).map D.str)) := by rw [hU, ← hvt]; rfl
    rw [hvt] at hws hinv
    walk_at "wp"
    refine (law_taken_ok (b := b) hws hdt h4 (by omega) hU (fun e => by rw [e, hd.la] at hUn; cases hUn) (fun e => by rw [e, hd.rr] at hUn; cases hUn)).mono ?_
    rintro d t2 ⟨j2, hres⟩
    rcases hres with ⟨b', hb', rfl, hd2⟩ | ⟨hb', rfl⟩
    · rw [hb'] at hinv
      obtain ⟨q1, q2⟩ := tak_len hb' h4
      walk_at "wp"
      exact ⟨b', _, _, _, rfl, hinv, q1, by omega, by omega, hd2, ks.trans (j1.up.trans j2)⟩
    · rw [hb'] at hinv
      walk_at "wp"
      refine w_tup (by simp [LIM]) ?_
      walk_at "wp"
      exact ⟨out (k5.up.trans (ks.trans (j1.up.trans j2))), .inl ⟨i, kForm, by rw [readV, hinv], rfl⟩⟩
  · rintro e s ⟨b, x3, x4, x5, rfl, hinv, h4, hrl, hi, hd, ks⟩
    have e0 : ({ items := enumI (init.map D.str), chk := some (V, init.map D.str) } : LF.Its).items.length = init.length := by
      show (enumI _).length = _
      rw [enum_len, List.length_map]
    rw [e0, List.drop_length] at hinv
    have hinv : linesV init 0 ⟨[], []⟩ = .book b := hinv
    obtain ⟨ol, ll⟩ := hall last (by simp)
    have hWs := ks.get hWn hW5
    refine ⟨okB_some (ks.get hVR hV), ?_⟩
    have hlen : ((init.map D.str ++ [last].map D.str).length : Int) - 1 = (init.length : Int) := by simp
    walk_at "wp"
    refine w_ixL hWs atI_last ?_
    walk_at "wp"
    refine w_neS ol ok_empty ?_
    rw [beq_str]
    by_cases hl : last = emS
    rotate_left
    · rw [decide_eq_false (show ¬ last = Str.ofString "" from hl)]
      walk_at "wp"
      rw [hlen]
      refine w_tup (by simp [LIM]) ?_
      walk_at "wp"
      exact ⟨out (k5.up.trans ks), .inl ⟨init.length, kFeed, by rw [readV, hinv]; simp only; rw [if_pos hl], rfl⟩⟩
    rw [decide_eq_true (show last = Str.ofString "" from hl)]
    have hbs := hd.obj
    have hla := hd.la
    by_cases hm : b.last.length < 4
    · walk_at "wp"
      rw [hlen]
      refine w_tup (by simp [LIM]) ?_
      walk_at "wp"
      exact ⟨out (k5.up.trans ks), .inl ⟨init.length, kMiss, by rw [readV, hinv]; simp only; rw [if_neg (fun z => z hl), if_pos hm], rfl⟩⟩
    · have hrr := hd.rr
      walk_at "wp"
      refine wo_lst (by simp [LIM]) fun A t1 hA hAn j1 => ?_
      have hd1 := hd.keep j1
      have hb1 := hd1.obj
      have hl1 := hd1.la
      walk_at "wp"
      refine w_slL hl1 fun B t2 hB hBn j2 => ?_
      rw [show (some (3 : Int)) = some ((3 : Nat) : Int) from rfl, cut_some] at hB
      refine wo_addL (j2.get0 hA) hB (by rw [List.length_take]; simp only [List.length_singleton, LIM]; omega) fun C t3 hC hCn j3 => ?_
      walk_at "wp"
      refine w_tup (by simp [LIM]) ?_
      walk_at "wp"
      have kk : Chg [] s t3 := j1.trans (j2.trans j3)
      refine ⟨out (k5.up.trans (ks.trans kk.up)), .inr ⟨b, C, by rw [readV, hinv]; simp only; rw [if_neg (fun z => z hl), if_neg hm], rfl, hC, ?_⟩⟩
      cases hst : st[C]? with
      | none => rfl
      | some c =>
        rw [(j1.trans j2).get0 ((out (k5.up.trans ks)).get0 hst)] at hCn
        cases hCn
end
/-! ### what a book holds -/
inductive Wd3 : D → Prop where
  | non : Wd3 .non
  | all : Wd3 (.str (Str.ofString "all"))
  | num (n : Nat) : Wd3 (.int n)
structure RowG (d : D) : Prop where
  ex : ∃ l, d = .tup l ∧ l.length ≤ 100000 ∧ ∀ t ∈ l, ∃ (x y : Nat) (z : D), t = .tup [.int x, .int y, z] ∧ Wd3 z
structure Bk.Good (b : Bk) : Prop where
  rows : ∀ r ∈ b.rows, RowG r
  last : ∀ d ∈ b.last, d = .non ∨ ∃ n : Nat, d = .int n
  l4 : b.last.length ≤ 4
theorem say_wd {c : Str} {z : D} (h : sayV c = some z) : Wd3 z := by
  unfold sayV at h
  split at h
  · cases h; exact .non
  · split at h
    · cases h; exact .all
    · cases hn : numV c with
      | none => rw [hn] at h; cases h
      | some n => rw [hn] at h; cases h; exact .num n
theorem trip_good : ∀ {ws : List Str} {l : List D}, tripV ws = some l → ∀ t ∈ l, ∃ (x y : Nat) (z : D), t = .tup [.int x, .int y, z] ∧ Wd3 z
  | [], l, h, t, ht => by
    simp only [tripV, Option.some.injEq] at h
    subst h
    cases ht
  | [_], l, h, _, _ => by simp [tripV] at h
  | [_, _], l, h, _, _ => by simp [tripV] at h
  | a :: b :: c :: r, l, h, t, ht => by
    simp only [tripV] at h
    split at h
    · rename_i x y z l' e1 e2 e3 e4
      cases h
      rcases List.mem_cons.mp ht with rfl | ht
      · exact ⟨x, y, z, rfl, say_wd e3⟩
      · exact trip_good e4 t ht
    · cases h
theorem tak_good {b b' : Bk} {ws : List Str} (hws : WsOk ws) (h : takV b ws = some b') (hb : b.Good) : b'.Good := by
  have hl := (tak_len h hb.l4).1
  have more : ∀ {d : D}, (d = .non ∨ ∃ n : Nat, d = .int n) → ∀ x ∈ b.last ++ [d], x = .non ∨ ∃ n : Nat, x = .int n := fun hd x hx => by
    rcases List.mem_append.mp hx with hx | hx
    · exact hb.last x hx
    · rw [List.mem_singleton.mp hx]
      exact hd
  cases ws with
  | nil => cases h
  | cons v tl =>
    simp only [takV] at h
    split at h
    · cases ht : tripV tl with
      | none => rw [ht] at h; cases h
      | some r =>
        rw [ht] at h
        cases h
        refine ⟨fun x hx => ?_, hb.last, hl⟩
        rcases List.mem_append.mp hx with hx | hx
        · exact hb.rows x hx
        · rw [List.mem_singleton.mp hx]
          refine ⟨r, rfl, ?_, trip_good ht⟩
          have h1 := trip_len ht
          have h2 := hws.len
          simp only [List.length_cons] at h2
          omega
    · split at h
      · cases h
      · split at h
        · cases h
        · split at h
          · cases h
          · split at h
            · split at h
              · cases h
                exact ⟨hb.rows, more (.inl rfl), hl⟩
              · cases h
            · unfold oneV at h
              split at h
              · split at h
                · cases h
                  exact ⟨hb.rows, more (.inl rfl), hl⟩
                · rename_i w _
                  cases hn : numV w with
                  | none => rw [hn] at h; cases h
                  | some n =>
                    rw [hn] at h
                    cases h
                    exact ⟨hb.rows, more (.inr ⟨n, rfl⟩), hl⟩
              · cases h
theorem lines_good : ∀ {ls : List Str} {n : Nat} {b b' : Bk}, (∀ l ∈ ls, PyData.strOk l = true ∧ l.length ≤ 80000) → linesV ls n b = .book b' → b.Good → b'.Good ∧ b'.rows.length ≤ b.rows.length + ls.length
  | [], n, b, b', _, h, hb => by
    simp only [linesV, Tld.book.injEq] at h
    subst h
    exact ⟨hb, by simp⟩
  | l :: ls, n, b, b', hl, h, hb => by
    simp only [linesV] at h
    split at h
    · cases h
    · split at h
      · cases h
      · rename_i b2 e
        obtain ⟨o1, o2⟩ := hl l (by simp)
        have h2 := tak_good (words_ok o1 (by omega)) e hb
        have h3 := (tak_len e hb.l4).2
        obtain ⟨h4, h5⟩ := lines_good (ls := ls) (fun x hx => hl x (List.mem_cons_of_mem _ hx)) h h2
        exact ⟨h4, by simp only [List.length_cons]; omega⟩
theorem good0 : Bk.Good ⟨[], []⟩ := ⟨by simp, by simp, by simp⟩
structure Pgm (b : Bk) (d0 d1 d2 d3 : D) : Prop where
  last : b.last = [d0, d1, d2, d3]
  good : b.Good
  len : b.rows.length ≤ 100000
theorem tld_pgm {z : Str} (hz : Zk z) {b : Bk} (h : tldV z = .book b) : ∃ d0 d1 d2 d3, Pgm b d0 d1 d2 d3 := by
  obtain ⟨init, last, hform, htld⟩ := tld_form z
  have hcnt := hz.count
  rw [hform, List.length_append, List.length_singleton] at hcnt
  rw [htld] at h
  unfold readV at h
  split at h
  · cases h
  · rename_i b2 e
    split at h
    · cases h
    · split at h
      · cases h
      · rename_i h4
        cases h
        obtain ⟨hg, hl⟩ := lines_good (fun l hl => hz.lines (by rw [hform]; exact List.mem_append_left _ hl)) e good0
        have := hg.l4
        match hb : b.last, h4, this with
        | [d0, d1, d2, d3], _, _ => exact ⟨d0, d1, d2, d3, hb, hg, by simp only [List.length_nil] at hl; omega⟩
        | [], h4, _ => simp at h4
        | [_], h4, _ => simp at h4
        | [_, _], h4, _ => simp at h4
        | [_, _, _], h4, _ => simp at h4
        | _ :: _ :: _ :: _ :: _ :: _, _, h => simp at h
theorem wd3_pl {z : D} (h : Wd3 z) (n : Nat) : Pl n z := by
  cases h with
  | non => exact .non _
  | all => exact .str _ _ all_ok
  | num k => exact .int _ _
theorem row_pl {d : D} (h : RowG d) : Pl 2 d := by
  obtain ⟨l, rfl, hl, ht⟩ := h.ex
  refine .tup 1 _ (fun t hm => ?_) hl
  obtain ⟨x, y, z, rfl, hz⟩ := ht t hm
  refine .tup 0 _ (fun u hu => ?_) (by simp)
  simp only [List.mem_cons, List.not_mem_nil, or_false] at hu
  rcases hu with rfl | rfl | rfl
  · exact .int _ _
  · exact .int _ _
  · exact wd3_pl hz 0
theorem rows_pl {b : Bk} (hg : b.Good) (hl : b.rows.length ≤ 100000) : Pl 3 (.tup b.rows) := .tup 2 _ (fun r hr => row_pl (hg.rows r hr)) hl
theorem pl_kz {st : Sto} {n : Nat} {d : D} (h : Pl n d) : Kz st d := by
  cases h with
  | non n => exact .non
  | bl n b => exact .bl b
  | int n i => exact .int i
  | str n x h => exact .str x h
  | tup n ds h hl => exact .tup ds
theorem pl_kn {st : Sto} {n : Nat} {d : D} (h : Pl n d) : ∀ m : Nat, Kn st m d := by
  induction h with
  | non n => intro m; exact .flat m _ .non (by simp)
  | bl n b => intro m; exact .flat m _ (.bl b) (by simp)
  | int n i => intro m; exact .flat m _ (.int i) (by simp)
  | str n x h => intro m; exact .flat m _ (.str x h) (by simp)
  | tup n ds h hl ih =>
    intro m
    cases m with
    | zero => exact .tup0 ds
    | succ m => exact .tup m ds fun d hd => ih d hd m
theorem last_pl {d : D} (h : d = .non ∨ ∃ n : Nat, d = .int n) (n : Nat) : Pl n d := by
  rcases h with rfl | ⟨k, rfl⟩
  · exact .non _
  · exact .int _ _
/-! ### the reader of texts -/
def XTld (z : Str) (st : Sto) : XP := fun c fs s => Chg [] st s ∧ ((∃ n w, tldV z = .bad n w ∧ c = 3 ∧ fs = [("what", .str w), ("line", .int (n : Int))]) ∨
  ∃ b d0 d1 d2 d3 v, tldV z = .book b ∧ Pgm b d0 d1 d2 d3 ∧ faultB (.tup b.rows) d0 d1 d2 = some v ∧ c = 2 ∧ fs = [("what", .str (Str.ofString v))])
theorem chg_out {st s4 t : Sto} {A : List Nat} (k : Chg [] st s4) (h : ∀ a ∈ A, st[a]? = none) (kt : Chg A s4 t) : Chg [] st t := fun i c _ e => kt i c (fun hm => by rw [h i hm] at e; cases e) (k.get0 e)
theorem read_program_ok {st : Sto} {z : Str} (hz : Zk z) :
    Wp (XTld z st) (fun x s => Chg [] st s ∧ ∃ b d0 d1 d2 d3 o, tldV z = .book b ∧ Pgm b d0 d1 d2 d3 ∧ faultB (.tup b.rows) d0 d1 d2 = none ∧ x = .ref o ∧ s[o]? = some (.ins 4 (prgFd (.tup b.rows) d0 d1 d2))) (f_read_program [.str z] st) := by
  have hzl := hz.len
  have hcnt := hz.count
  have hall : ∀ l ∈ Txt.split z nlS, PyData.strOk l = true ∧ l.length ≤ 80000 := fun l hl => hz.lines hl
  obtain ⟨init, last, hform, htld⟩ := tld_form z
  have pgm := fun {b : Bk} => tld_pgm (b := b) hz
  rw [hform] at hcnt hall
  simp only [List.length_append, List.length_singleton] at hcnt
  walk_at "fn"
  unfold b_read_program
  walk_at "wp"
  refine w_split nl_len (by simp only [LIM]; omega) fun W s1 hW hWn k1 => ?_
  have hW : s1[W]? = some (.lst ((init ++ [last]).map D.str)) := by rw [hW, ← hform]; rfl
  walk_at "wp"
  have ho : (s1 ++ [Cell.ins 5 []])[s1.length]? = some (.ins 5 []) := by simp
  refine (Reader_init_ok ho).mono ?_
  rintro _ s2 ⟨rfl, ⟨RR, LA, hd2, hRn, hLn⟩, k2⟩
  have k12' : Chg [] s1 s2 := (Chg.app (P := []) (t := [Cell.ins 5 []])).new (by simp) k2
  have k12 : Chg [] st s2 := k1.trans k12'
  have hW2 := k12'.get0 hW
  have hRn1 : s1[RR]? = none := none_back Chg.app hRn
  have hLn1 : s1[LA]? = none := none_back Chg.app hLn
  have hWR : W ∉ [RR, LA] := by
    simp only [List.mem_cons, List.not_mem_nil, or_false]
    rintro (rfl | rfl)
    · rw [hW] at hRn1; cases hRn1
    · rw [hW] at hLn1; cases hLn1
  have out : ∀ {t : Sto}, Chg [RR, LA] s2 t → Chg [] st t := fun kt => chg_out k12 (fun a ha => by
    simp only [List.mem_cons, List.not_mem_nil, or_false] at ha
    rcases ha with rfl | rfl
    · exact none_back k1 hRn1
    · exact none_back k1 hLn1) kt
  generalize s1.length = o at hd2 ⊢
  have hlen : (((init ++ [last]).map D.str).length : Int) - 1 = (init.length : Int) := by simp
  clear hform ho hRn hLn
  walk_at "wp"
  refine owp_forS (fun i e s => ∃ (b : Bk) (x3 x4 x5 : Option D), e = [some (.str z), some (.ref W), some (.ref o), x3, x4, x5, none, none, none] ∧ linesV init 0 ⟨[], []⟩ = linesV (init.drop i) i b ∧ (i = init.length + 1 → last = emS) ∧ b.last.length ≤ 4 ∧ b.rows.length ≤ i ∧ Rd s o RR LA b.rows b.last ∧ Chg [RR, LA] s2 s) ?_ ?_ ⟨⟨[], []⟩, _, _, _, rfl, rfl, by omega, by simp, by simp, hd2, Chg.refl⟩
  · rintro i d e s hde ⟨b, x3, x4, x5, rfl, hinv, _, h4, hrl, hd, ks⟩
    obtain ⟨x, hx, rfl⟩ := enum_get hde
    rw [List.getElem?_map] at hx
    obtain ⟨l, hl, rfl⟩ := Option.map_eq_some_iff.mp hx
    obtain ⟨ol, ll⟩ := hall l (List.mem_of_getElem? hl)
    have hi2 := (List.getElem?_eq_some_iff.mp hl).1
    rw [List.length_append, List.length_singleton] at hi2
    have hWs := ks.get hWR hW2
    refine ⟨okB_some hWs, _, rfl, ?_⟩
    dsimp only [List.set]
    walk_at "wp"
    refine w_split sp_len (by simp only [LIM]; omega) fun U t1 hU hUn j1 => ?_
    have hws := words_ok ol (by omega)
    have hdt := hd.keep j1
    have hWt := j1.get0 hWs
    walk_at "wp"
    rw [hlen]
    by_cases hlast : i = init.length
    · subst hlast
      have e1 : ((init.length : Int) == (init.length : Int)) = true := beq_self_eq_true _
      rw [List.getElem?_append_right (Nat.le_refl _), Nat.sub_self] at hl
      cases hl
      rw [List.drop_length] at hinv
      have hinv : linesV init 0 ⟨[], []⟩ = .book b := hinv
      walk_at "wp"
      refine w_neS ol ok_empty ?_
      rw [beq_str]
      by_cases hle : last = emS
      · rw [decide_eq_true (show last = Str.ofString "" from hle)]
        walk_at "wp"
        exact ⟨b, _, _, _, rfl, by rw [hinv, List.drop_of_length_le (by omega)]; rfl, fun _ => hle, h4, by omega, hdt, ks.trans j1.up⟩
      · rw [decide_eq_false (show ¬ last = Str.ofString "" from hle)]
        walk_at "wp"
        exact ⟨out (ks.trans j1.up), .inl ⟨init.length, kFeed, by rw [htld, readV, hinv]; simp only; rw [if_pos hle], rfl, rfl⟩⟩
    · have e1 : ((i : Int) == (init.length : Int)) = false := by rw [beq_eq_false_iff_ne]; omega
      rw [List.getElem?_append_left (by omega)] at hl
      rw [lines_step hl] at hinv
      walk_at "wp"
      refine w_inL hU (flat_strs _) ?_
      rw [if_neg (by decide), inF_strs]
      by_cases hem : emS ∈ Txt.split l spS
      · rw [decide_eq_true (show Str.ofString "" ∈ Txt.split l (Str.ofString " ") from hem)]
        rw [if_pos hem] at hinv
        walk_at "wp"
        exact ⟨out (ks.trans j1.up), .inl ⟨i, kWords, by rw [htld, readV, hinv], rfl, rfl⟩⟩
      rw [decide_eq_false (show ¬ Str.ofString "" ∈ Txt.split l (Str.ofString " ") from hem)]
      rw [if_neg hem] at hinv
      obtain ⟨v, tl, hvt⟩ := split_cons (l := l)
      have hU : t1[U]? = some (.lst ((v :: tl).map D.str)) := by rw [hU, ← hvt]; rfl
      rw [hvt] at hws hinv
      have hob := hdt.obj
      walk_at "wp"
      refine (takes_ok (b := b) hws hdt h4 (by omega) hU (fun e => by rw [e, hd.la] at hUn; cases hUn)).mono ?_
      rintro d t2 ⟨j2, hres⟩
      rcases hres with ⟨b', hb', rfl, hd2⟩ | ⟨hb', rfl⟩
      · rw [hb'] at hinv
        obtain ⟨q1, q2⟩ := tak_len hb' h4
        walk_at "wp"
        exact ⟨b', _, _, _, rfl, hinv, by omega, q1, by omega, hd2, ks.trans (j1.up.trans j2)⟩
      · rw [hb'] at hinv
        walk_at "wp"
        exact ⟨out (ks.trans (j1.up.trans j2)), .inl ⟨i, kForm, by rw [htld, readV, hinv], rfl, rfl⟩⟩
  · rintro e s ⟨b, x3, x4, x5, rfl, hinv, hlast, h4, hrl, hd, ks⟩
    have e0 : ({ items := enumI ((init ++ [last]).map D.str), chk := some (W, (init ++ [last]).map D.str) } : LF.Its).items.length = init.length + 1 := by
      show (enumI _).length = _
      rw [enum_len, List.length_map, List.length_append, List.length_singleton]
    rw [e0, List.drop_of_length_le (by omega)] at hinv
    have hinv : linesV init 0 ⟨[], []⟩ = .book b := hinv
    have hl := hlast e0
    have hWs := ks.get hWR hW2
    refine ⟨okB_some hWs, ?_⟩
    have hob := hd.obj
    have hla := hd.la
    have hrr := hd.rr
    by_cases hm : b.last.length < 4
    · walk_at "wp"
      rw [hlen]
      exact ⟨out ks, .inl ⟨init.length, kMiss, by rw [htld, readV, hinv]; simp only; rw [if_neg (fun z => z hl), if_pos hm], rfl, rfl⟩⟩
    have hbk : tldV z = .book b := by rw [htld, readV, hinv]; simp only; rw [if_neg (fun z => z hl), if_neg hm]
    obtain ⟨d0, d1, d2, d3, pg⟩ := pgm hbk
    refine r_owp_seq (r_owp_if ?_)
    walk_at "fld"
    refine r_seq_nx (r_owp_seq (r_owp_asgT ?_))
    walk_at "wp"
    refine w_slL hla fun V t1 hV hVn j1 => ?_
    rw [show (some (3 : Int)) = some ((3 : Nat) : Int) from rfl, cut_some, pg.last] at hV
    have hV : t1[V]? = some (.lst [d0, d1, d2]) := hV
    have hob1 := j1.get0 hob
    have hrr1 := j1.get0 hrr
    simp only [Tg.sem, Tg.sems, seqOf, hV, List.length_cons, List.length_nil, if_pos, List.set]
    have g0 := pg.good.last d0 (by rw [pg.last]; simp)
    have g1 := pg.good.last d1 (by rw [pg.last]; simp)
    have g2 := pg.good.last d2 (by rw [pg.last]; simp)
    walk_at "wp"
    refine (Program_init_gen (o := t1.length) (by simp) (pl_kn (rows_pl pg.good pg.len) 3) (pl_kz (last_pl g0 0)) (pl_kz (last_pl g1 0)) (pl_kz (last_pl g2 0))).imp ?_ ?_
    · rintro _ t2 ⟨rfl, hf, hoo, j2⟩
      walk_at "wp"
      exact ⟨out (ks.trans (j1.trans ((Chg.app (P := [])).new (by simp) j2)).up), b, d0, d1, d2, d3, _, hbk, pg, hf, rfl, hoo⟩
    · rintro c fs t2 ⟨rfl, j2, v, hf, rfl⟩
      exact ⟨out (ks.trans (j1.trans (Chg.app.trans j2)).up), .inr ⟨b, d0, d1, d2, d3, v, hbk, pg, hf, rfl, rfl⟩⟩
/-! ### lists of texts: parts, weights -/
theorem cutD_map {ls : List Str} {lo hi : Option Int} : LF.cutD (ls.map D.str) lo hi = (LF.cutD ls lo hi).map D.str := by
  unfold LF.cutD
  rw [List.length_map, ← List.map_drop, ← List.map_take]
theorem cutD_take {α : Type} {ls : List α} {k : Nat} : LF.cutD ls none (some (k : Int)) = ls.take k := by
  unfold LF.cutD
  rw [HT.sIx_nat, HT.sIx_none, List.drop_zero, Nat.sub_zero]
  by_cases h : k ≤ ls.length
  · rw [Nat.min_eq_left h]
  · rw [Nat.min_eq_right (by omega), List.take_of_length_le (Nat.le_refl _), List.take_of_length_le (by omega)]
theorem cutD_drop {α : Type} {ls : List α} {k : Nat} : LF.cutD ls (some (k : Int)) none = ls.drop k := by
  unfold LF.cutD
  rw [HT.sIx_nat, HT.sIx_none]
  by_cases h : k ≤ ls.length
  · rw [Nat.min_eq_left h, List.take_of_length_le (by rw [List.length_drop]; omega)]
  · rw [Nat.min_eq_right (by omega), List.drop_of_length_le (Nat.le_refl _), List.drop_of_length_le (by omega), List.take_nil]
theorem cutD_one {α : Type} {ls : List α} {k : Nat} (h : k < ls.length) : LF.cutD ls (some (k : Int)) (some ((k : Int) + 1)) = (ls.drop k).take 1 := by
  unfold LF.cutD
  rw [show ((k : Int) + 1) = ((k + 1 : Nat) : Int) by omega, HT.sIx_nat, HT.sIx_nat, Nat.min_eq_left (by omega), Nat.min_eq_left (by omega), show k + 1 - k = 1 by omega]
def wt (ls : List Str) : Nat := (ls.map (·.length)).sum + ls.length
theorem wt_app {a b : List Str} : wt (a ++ b) = wt a + wt b := by
  unfold wt
  rw [List.map_append, List.sum_append, List.length_append]
  omega
theorem wt_td {ls : List Str} {a : Nat} : wt (ls.take a) + wt (ls.drop a) = wt ls := by
  rw [← wt_app, List.take_append_drop]
theorem wt_drop {ls : List Str} {a : Nat} : wt (ls.drop a) ≤ wt ls := by
  have := wt_td (ls := ls) (a := a)
  omega
theorem wt_tdd {ls : List Str} {a b : Nat} (h : a ≤ b) : wt (ls.take a) + wt (ls.drop b) ≤ wt ls := by
  have h1 := wt_td (ls := ls) (a := a)
  have h2 : wt (ls.drop b) ≤ wt (ls.drop a) := by
    rw [show b = a + (b - a) by omega, ← List.drop_drop]
    exact wt_drop
  omega
theorem wt_one {x : Str} : wt [x] = x.length + 1 := by simp [wt]
theorem join_wt {ws : List Str} : (Txt.join spS ws).length ≤ wt ws := by
  have h := jlen spS ws
  have e : spS.length = 1 := by decide +kernel
  rw [e, Nat.mul_one] at h
  exact h
theorem split_wt {l : Str} : wt (Txt.split l spS) = l.length + 1 := by
  rw [sp_one]
  exact split_sum
def Ts (ls : List Str) (N M : Nat) : Prop := ls.length ≤ N ∧ ∀ l ∈ ls, PyData.strOk l = true ∧ l.length ≤ M
theorem Ts.up {ls : List Str} {N M N' M' : Nat} (h : Ts ls N M) (h1 : N ≤ N') (h2 : M ≤ M') : Ts ls N' M' := ⟨Nat.le_trans h.1 h1, fun l hl => ⟨(h.2 l hl).1, Nat.le_trans (h.2 l hl).2 h2⟩⟩
def LsAt (s : Sto) (r N M : Nat) : Prop := ∃ ls, s[r]? = some (.lst (ls.map D.str)) ∧ Ts ls N M
/-! ### bends -/
theorem Pot.live {st : Sto} {p q : Nat} {ns : List Int} (P : Pot st p q ns) {l : Nat} (h : st[l]? = none) : l ≠ p := fun e => by
  obtain ⟨_, _, _, hp, _⟩ := P.ex
  rw [e, hp] at h
  cases h
theorem cutS_len {x : Str} {lo hi : Option Int} : (cutS x lo hi).length ≤ x.length := by
  unfold cutS
  show (List.toArray _).size ≤ x.cps.size
  rw [List.size_toArray, List.length_take, List.length_drop, Array.length_toList]
  omega
theorem cutS_ok {x : Str} {lo hi : Option Int} (h : PyData.strOk x = true) : PyData.strOk (cutS x lo hi) = true := by
  refine strOk_iff.mpr fun c hc => strOk_iff.mp h c ?_
  unfold cutS at hc
  have hc : c ∈ (x.cps.toList.drop (HT.sIx x.length 0 lo)).take (HT.sIx x.length x.length hi - HT.sIx x.length 0 lo) := by simpa using hc
  exact List.mem_of_mem_drop (List.mem_of_mem_take hc)
theorem app_ok {x y : Str} (h : PyData.strOk x = true) (k : PyData.strOk y = true) : PyData.strOk (x ++ y) = true := by
  refine strOk_iff.mpr fun c hc => ?_
  rw [Str.cps_append, Array.toList_append] at hc
  rcases List.mem_append.mp hc with hc | hc
  · exact strOk_iff.mp h c hc
  · exact strOk_iff.mp k c hc
theorem cuts_len {x : Str} {k : Nat} (h : k ≤ x.length) : (cutS x none (some (k : Int))).length + (cutS x (some (k : Int)) none).length ≤ x.length := by
  unfold cutS
  show (List.toArray _).size + (List.toArray _).size ≤ x.cps.size
  have e : x.cps.size = x.length := rfl
  simp only [List.size_toArray, List.length_take, List.length_drop, Array.length_toList, HT.sIx_nat, HT.sIx_none, Nat.min_eq_left h, e]
  omega
def moreL : List Str := [Str.ofString "state", Str.ofString "first", Str.ofString "leader", Str.ofString "lamp", Str.ofString "end", Str.ofString "none", Str.ofString "any", Str.ofString "all", Str.ofString "-", Str.ofString "0", Str.ofString "1", Str.ofString "07", Str.ofString "-1", Str.ofString "x", Str.ofString "5", Str.ofString "1234567", Str.ofString ""]
def putL : List Str := [Str.ofString " ", Str.ofString "a", Str.ofString "\n", Str.ofString "1", Str.ofString "0", Str.ofString "end", Str.ofString "\nend\n"]
def lineL : List Str := [Str.ofString "end", Str.ofString "state", Str.ofString "state 0 0 -", Str.ofString "first 0", Str.ofString "leader none", Str.ofString "lamp any", Str.ofString ""]
def onlyL : List Str := [Str.ofString "", Str.ofString "end", Str.ofString "state"]
theorem more_ok : ∀ l ∈ moreL, PyData.strOk l = true ∧ l.length ≤ 7 := by decide +kernel
theorem put_ok : ∀ l ∈ putL, PyData.strOk l = true ∧ l.length ≤ 7 := by decide +kernel
theorem line_ok : ∀ l ∈ lineL, PyData.strOk l = true ∧ l.length ≤ 12 := by decide +kernel
theorem only_ok : ∀ l ∈ onlyL, PyData.strOk l = true ∧ l.length ≤ 12 := by decide +kernel
section
variable {st : Sto} {p q : Nat} {ns : List Int}
/-- a text out of a list of texts -/
theorem pick_str {L : Nat} {ls : List Str} (P : Pot st p q ns) (hl : st[L]? = some (.lst (ls.map D.str))) (h1 : ls ≠ []) (h2 : ls.length < 1000) (hlp : L ≠ p) {X : XP} :
    Wp X (fun d s => ∃ l ∈ ls, d = .str l ∧ Pot s p q ns ∧ Chg [p] st s) (f__law_pick [.ref p, .ref L] st) := by
  have hpos : 1 ≤ ls.length := by
    cases ls with
    | nil => exact (h1 rfl).elim
    | cons a l => simp
  refine (law_pick P hl (by rw [List.length_map]; exact hpos) (by rw [List.length_map]; exact h2) hlp).mono ?_
  rintro d s ⟨hd, Ps, ks⟩
  obtain ⟨l, hl, rfl⟩ := List.mem_map.mp hd
  exact ⟨l, hl, rfl, Ps, ks⟩
theorem join_fin {U N : Nat} {us : List Str} (hU : st[U]? = some (.lst (us.map D.str))) (hok : ∀ u ∈ us, PyData.strOk u = true) (hw : wt us ≤ N) (hN : N ≤ 100000) {Q : D → Sto → Prop} (h : ∀ y, PyData.strOk y = true → y.length ≤ N → Q (.str y) st) :
    Wo Q (opJoin (.str (Str.ofString " ")) [.ref U] st) := by
  have e : (Str.ofString " ").length = 1 := by decide +kernel
  have hw' := hw
  unfold wt at hw'
  refine w_join hU (strsOf_map us) (by rw [e, Nat.mul_one]; simp only [LIM]; omega) ?_
  exact h _ (join_ok ok_sp hok) (Nat.le_trans join_wt hw)
theorem law_bent_line_ok {z : Str} {M : Nat} (P : Pot st p q ns) (hz : PyData.strOk z = true) (hl : z.length ≤ M) (hM : M ≤ 450) {X : XP} :
    Wp X (fun d s => ∃ y, d = .str y ∧ PyData.strOk y = true ∧ y.length ≤ 2 * M + 20 ∧ Pot s p q ns ∧ Chg [p] st s) (f__law_bent_line [.ref p, .str z] st) := by
  have hcnt := split_le z spS
  have hpos := split_pos z spS
  have hwt := split_wt (l := z)
  have hws : ∀ w ∈ Txt.split z spS, PyData.strOk w = true ∧ w.length ≤ M := fun w hw => ⟨split_ok hw hz, Nat.le_trans (split_len hw) hl⟩
  walk_at "fn"
  unfold b__law_bent_line
  walk_at "wp"
  refine w_split sp_len (by simp only [LIM]; omega) fun W s1 hW hWn k1 => ?_
  have hW : s1[W]? = some (.lst ((Txt.split z spS).map D.str)) := hW
  generalize Txt.split z spS = ws at hcnt hpos hwt hws hW
  have P1 := P.keep k1
  have hWp := P.live hWn
  walk_at "wp"
  refine (law_draw P1 (by rw [List.length_map]; omega) (by rw [List.length_map]; omega)).mono ?_
  rintro _ s2 ⟨a, rfl, ha, P2, k2⟩
  rw [List.length_map] at ha
  have ha : a < ws.length := by omega
  walk_at "wp"
  refine (law_draw P2 (by omega) (by omega)).mono ?_
  rintro _ s3 ⟨w, rfl, hw8, P3, k3⟩
  walk_at "wp"
  refine wo_lst (by simp [LIM]) fun ML s4 hML hMLn k4 => ?_
  have hML : s4[ML]? = some (.lst (moreL.map D.str)) := hML
  walk_at "wp"
  refine (pick_str (P3.keep k4) hML (by simp [moreL]) (by simp [moreL]) (P3.live hMLn)).mono ?_
  rintro _ s5 ⟨more, hmore, rfl, P5, k5⟩
  obtain ⟨mo, ml⟩ := more_ok more hmore
  have k35 : Chg [p] s1 s5 := k2.trans (k3.trans (k4.up.trans k5))
  have kall : Chg [p] st s5 := k1.up.trans k35
  have hW5 := k35.get (by simpa using hWp) hW
  walk_at "wp"
  by_cases c2 : w < 2
  · walk_at "wp"
    refine w_slL hW5 fun A t1 hA hAn j1 => ?_
    rw [cutD_map, cutD_take] at hA
    walk_at "wp"
    refine wo_lst (by simp [LIM]) fun B t2 hB hBn j2 => ?_
    refine wo_addL (j2.get0 hA) hB (by rw [List.length_map, List.length_take]; simp only [List.length_singleton, LIM]; omega) fun C t3 hC hCn j3 => ?_
    walk_at "wp"
    refine w_slL (j3.get0 (j2.get0 (j1.get0 hW5))) fun D' t4 hD hDn j4 => ?_
    rw [show ((a : Int) + (w : Int)) = ((a + w : Nat) : Int) by omega, cutD_map, cutD_drop] at hD
    refine wo_addL (j4.get0 hC) hD (by rw [List.length_append, List.length_map, List.length_map, List.length_take, List.length_drop]; simp only [List.length_singleton, LIM]; omega) fun U t5 hU hUn j5 => ?_
    have hU : t5[U]? = some (.lst ((ws.take a ++ [more] ++ ws.drop (a + w)).map D.str)) := by rw [hU]; simp
    walk_at "wp"
    refine join_fin (N := 2 * M + 20) hU ?_ ?_ (by omega) fun y hy hyl => ?_
    · intro u hu
      simp only [List.mem_append, List.mem_singleton] at hu
      rcases hu with (hu | rfl) | hu
      · exact (hws u (List.mem_of_mem_take hu)).1
      · exact mo
      · exact (hws u (List.mem_of_mem_drop hu)).1
    · rw [wt_app, wt_app, wt_one]
      have := wt_tdd (ls := ws) (a := a) (b := a + w) (by omega)
      omega
    walk_at "wp"
    have jj := j1.trans (j2.trans (j3.trans (j4.trans j5)))
    exact ⟨y, rfl, hy, hyl, P5.keep jj, kall.trans jj.up⟩
  by_cases c3 : w = 2
  · subst c3
    walk_at "wp"
    refine w_slL hW5 fun A t1 hA hAn j1 => ?_
    rw [cutD_map, cutD_take] at hA
    walk_at "wp"
    refine w_slL (j1.get0 hW5) fun D' t4 hD hDn j4 => ?_
    rw [show ((a : Int) + 1) = ((a + 1 : Nat) : Int) by omega, cutD_map, cutD_drop] at hD
    refine wo_addL (j4.get0 hA) hD (by rw [List.length_map, List.length_map, List.length_take, List.length_drop]; simp only [LIM]; omega) fun U t5 hU hUn j5 => ?_
    have hU : t5[U]? = some (.lst ((ws.take a ++ ws.drop (a + 1)).map D.str)) := by rw [hU]; simp
    walk_at "wp"
    refine join_fin (N := 2 * M + 20) hU ?_ ?_ (by omega) fun y hy hyl => ?_
    · intro u hu
      rcases List.mem_append.mp hu with hu | hu
      · exact (hws u (List.mem_of_mem_take hu)).1
      · exact (hws u (List.mem_of_mem_drop hu)).1
    · rw [wt_app]
      have := wt_tdd (ls := ws) (a := a) (b := a + 1) (by omega)
      omega
    walk_at "wp"
    have jj := j1.trans (j4.trans j5)
    exact ⟨y, rfl, hy, hyl, P5.keep jj, kall.trans jj.up⟩
  by_cases c4 : w = 3
  · subst c4
    walk_at "wp"
    refine w_slL hW5 fun A t1 hA hAn j1 => ?_
    rw [cutD_map, cutD_take] at hA
    walk_at "wp"
    refine w_slL (j1.get0 hW5) fun B t2 hB hBn j2 => ?_
    rw [cutD_map, cutD_one ha] at hB
    refine wo_addL (j2.get0 hA) hB (by rw [List.length_map, List.length_map, List.length_take, List.length_take, List.length_drop]; simp only [LIM]; omega) fun C t3 hC hCn j3 => ?_
    walk_at "wp"
    refine w_slL (j3.get0 (j2.get0 (j1.get0 hW5))) fun D' t4 hD hDn j4 => ?_
    rw [cutD_map, cutD_drop] at hD
    refine wo_addL (j4.get0 hC) hD (by rw [List.length_append, List.length_map, List.length_map, List.length_map, List.length_take, List.length_take, List.length_drop]; simp only [LIM]; omega) fun U t5 hU hUn j5 => ?_
    have hU : t5[U]? = some (.lst ((ws.take a ++ (ws.drop a).take 1 ++ ws.drop a).map D.str)) := by rw [hU]; simp
    walk_at "wp"
    refine join_fin (N := 2 * M + 20) hU ?_ ?_ (by omega) fun y hy hyl => ?_
    · intro u hu
      simp only [List.mem_append] at hu
      rcases hu with (hu | hu) | hu
      · exact (hws u (List.mem_of_mem_take hu)).1
      · exact (hws u (List.mem_of_mem_drop (List.mem_of_mem_take hu))).1
      · exact (hws u (List.mem_of_mem_drop hu)).1
    · rw [wt_app, wt_app]
      have h1 := wt_td (ls := ws) (a := a)
      have h2 : wt ((ws.drop a).take 1) ≤ M + 1 := by
        obtain ⟨x, t, hx⟩ : ∃ x t, ws.drop a = x :: t := List.exists_cons_of_ne_nil (fun e => by
          have := congrArg List.length e
          rw [List.length_drop, List.length_nil] at this
          omega)
        rw [hx]
        show wt [x] ≤ _
        rw [wt_one]
        have := (hws x (List.mem_of_mem_drop (by rw [hx]; simp))).2
        omega
      omega
    walk_at "wp"
    have jj := j1.trans (j2.trans (j3.trans (j4.trans j5)))
    exact ⟨y, rfl, hy, hyl, P5.keep jj, kall.trans jj.up⟩
  by_cases c5 : w = 4
  · subst c5
    walk_at "wp"
    refine wo_lst (by simp [LIM]) fun A t1 hA hAn j1 => ?_
    refine wo_addL (j1.get0 hW5) hA (by rw [List.length_map]; simp only [List.length_singleton, LIM]; omega) fun B t2 hB hBn j2 => ?_
    have hB : t2[B]? = some (.lst ((ws ++ [more]).map D.str)) := by rw [hB]; simp
    have P7 := P5.keep (j1.trans j2)
    walk_at "wp"
    refine (pick_str P7 hB (by simp) (by simp; omega) (P5.live (none_back j1 hBn))).mono ?_
    rintro _ t3 ⟨x, hx, rfl, P8, j3⟩
    have hx : PyData.strOk x = true ∧ x.length ≤ M + 7 := by
      rcases List.mem_append.mp hx with hx | hx
      · exact ⟨(hws x hx).1, Nat.le_trans (hws x hx).2 (by omega)⟩
      · rw [List.mem_singleton.mp hx]
        exact ⟨mo, by omega⟩
    have hW7 := j3.get (by simpa using hWp) (j2.get0 (j1.get0 hW5))
    walk_at "wp"
    refine wo_lst (by simp [LIM]) fun C t4 hC hCn j4 => ?_
    refine wo_addL (j4.get0 hW7) hC (by rw [List.length_map]; simp only [List.length_singleton, LIM]; omega) fun U t5 hU hUn j5 => ?_
    have hU : t5[U]? = some (.lst ((ws ++ [x]).map D.str)) := by rw [hU]; simp
    walk_at "wp"
    refine join_fin (N := 2 * M + 20) hU ?_ ?_ (by omega) fun y hy hyl => ?_
    · intro u hu
      rcases List.mem_append.mp hu with hu | hu
      · exact (hws u hu).1
      · rw [List.mem_singleton.mp hu]; exact hx.1
    · rw [wt_app, wt_one]
      omega
    walk_at "wp"
    exact ⟨y, rfl, hy, hyl, (P8.keep j4).keep j5, kall.trans ((j1.trans j2).up.trans (j3.trans (j4.trans j5).up))⟩
  · have e2 : ((w : Int) == 2) = false := by rw [beq_eq_false_iff_ne]; omega
    have e3 : ((w : Int) == 3) = false := by rw [beq_eq_false_iff_ne]; omega
    have e4 : ((w : Int) == 4) = false := by rw [beq_eq_false_iff_ne]; omega
    walk_at "wp"
    refine w_lenS (by simp only [LIM]; omega) ?_
    walk_at "wp"
    refine (law_draw P5 (by omega) (by omega)).mono ?_
    rintro _ t1 ⟨c, rfl, hc, P6, j1⟩
    walk_at "wp"
    refine w_slS (by simp only [LIM]; omega) ?_
    walk_at "wp"
    refine wo_lst (by simp [LIM]) fun A t2 hA hAn j2 => ?_
    have hA : t2[A]? = some (.lst (putL.map D.str)) := hA
    walk_at "wp"
    refine (pick_str (P6.keep j2) hA (by simp [putL]) (by simp [putL]) (P6.live hAn)).mono ?_
    rintro _ t3 ⟨x, hx, rfl, P8, j3⟩
    obtain ⟨xo, xl⟩ := put_ok x hx
    have hcl := cuts_len (x := z) (k := c) (by omega)
    walk_at "wp"
    refine w_addS (by simp only [LIM]; omega) ?_
    walk_at "wp"
    refine w_slS (by simp only [LIM]; omega) ?_
    refine w_addS (by rw [Str.length_append]; simp only [LIM]; omega) ?_
    walk_at "wp"
    exact ⟨_, rfl, app_ok (app_ok (cutS_ok hz) xo) (cutS_ok hz), by rw [Str.length_append, Str.length_append]; omega, P8, kall.trans (j1.trans (j2.up.trans j3))⟩
end
/-! ### texts bent, drawn lines -/
section
variable {st : Sto} {p q : Nat} {ns : List Int}
theorem law_bent_text_ok {L N M : Nat} (P : Pot st p q ns) (hL : LsAt st L N M) (hLp : L ≠ p) (hN : N ≤ 100) (hM : M ≤ 450) {X : XP} :
    Wp X (fun d s => ∃ r, d = .ref r ∧ LsAt s r (N + 1) (2 * M + 20) ∧ st[r]? = none ∧ Pot s p q ns ∧ Chg [p] st s) (f__law_bent_text [.ref p, .ref L] st) := by
  obtain ⟨ls, hls, hln, hall⟩ := hL
  have old : ∀ l ∈ ls, PyData.strOk l = true ∧ l.length ≤ 2 * M + 20 := fun l hl => ⟨(hall l hl).1, Nat.le_trans (hall l hl).2 (by omega)⟩
  have fin : ∀ {t u : Sto} {us : List Str} {U : Nat}, t[U]? = some (.lst (us.map D.str)) → us.length ≤ N + 1 → (∀ l ∈ us, PyData.strOk l = true ∧ l.length ≤ 2 * M + 20) → u[U]? = none → Chg [p] st u → Pot t p q ns → Chg [p] st t →
      ∃ r, D.ref U = .ref r ∧ LsAt t r (N + 1) (2 * M + 20) ∧ st[r]? = none ∧ Pot t p q ns ∧ Chg [p] st t := fun {t u us U} h1 h2 h3 h4 h5 h6 h7 => by
    refine ⟨U, rfl, ⟨us, h1, h2, h3⟩, ?_, h6, h7⟩
    cases e : st[U]? with
    | none => rfl
    | some c =>
      by_cases hU : U = p
      · obtain ⟨_, _, _, hp, _⟩ := h6.ex
        rw [← hU, h1] at hp
        obtain ⟨_, _, _, hp', _⟩ := P.ex
        cases us with
        | nil => cases hp
        | cons a l => simp at hp
      · rw [h5.get (by simpa using hU) e] at h4
        cases h4
  walk_at "fn"
  unfold b__law_bent_text
  walk_at "wp"
  refine wo_lst (by simp [LIM]) fun E s1 hE hEn k1 => ?_
  have hls1 := k1.get0 hls
  have P1 := P.keep k1
  by_cases hnil : ls = []
  · refine w_eqE hls1 hE (.inr (by rw [hnil]; rfl)) ?_
    rw [show decide ((ls.map D.str).length = ([] : List D).length) = true by rw [hnil]; rfl]
    walk_at "wp"
    refine wo_lst (by simp [LIM]) fun A t1 hA hAn j1 => ?_
    have hA : t1[A]? = some (.lst (onlyL.map D.str)) := hA
    walk_at "wp"
    refine (pick_str (P1.keep j1) hA (by simp [onlyL]) (by simp [onlyL]) (P1.live hAn)).mono ?_
    rintro _ t2 ⟨x, hx, rfl, P2, j2⟩
    obtain ⟨xo, xl⟩ := only_ok x hx
    walk_at "wp"
    refine wo_lst (by simp [LIM]) fun U t3 hU hUn j3 => ?_
    walk_at "wp"
    have kk : Chg [p] st t2 := k1.up.trans (j1.up.trans j2)
    exact fin (us := [x]) hU (by simp) (fun l hl => by rw [List.mem_singleton.mp hl]; exact ⟨xo, by omega⟩) hUn kk (P2.keep j3) (kk.trans j3.up)
  have hne : (ls.map D.str).length ≠ ([] : List D).length := fun e => hnil (List.eq_nil_of_length_eq_zero (by simpa using e))
  refine w_eqE hls1 hE (.inl hne) ?_
  rw [decide_eq_false hne]
  have hpos : 1 ≤ ls.length := by
    cases ls with
    | nil => exact (hnil rfl).elim
    | cons a l => simp
  walk_at "wp"
  refine (law_draw P1 (by rw [List.length_map]; omega) (by rw [List.length_map]; omega)).mono ?_
  rintro _ s2 ⟨a, rfl, ha, P2, k2⟩
  rw [List.length_map] at ha
  have ha : a < ls.length := by omega
  have hls2 := k2.get (by simpa using hLp) hls1
  walk_at "wp"
  refine (law_draw P2 (by rw [List.length_map]; omega) (by rw [List.length_map]; omega)).mono ?_
  rintro _ s3 ⟨o, rfl, ho, P3, k3⟩
  rw [List.length_map] at ho
  have ho : o < ls.length := by omega
  walk_at "wp"
  refine (law_draw P3 (by omega) (by omega)).mono ?_
  rintro _ s4 ⟨w, rfl, hw, P4, k4⟩
  have kall : Chg [p] st s4 := k1.up.trans (k2.trans (k3.trans k4))
  have hls4 := (k3.trans k4).get (by simpa using hLp) hls2
  have hatl : ∀ {i : Nat}, i < ls.length → ∃ l, ls[i]? = some l ∧ l ∈ ls ∧ (ls.map D.str)[i]? = some (.str l) := fun {i} hi => ⟨ls[i], List.getElem?_eq_getElem hi, List.getElem_mem hi, by rw [List.getElem?_map, List.getElem?_eq_getElem hi]; rfl⟩
  obtain ⟨lo, hlo, hlom, hloA⟩ := hatl ho
  obtain ⟨la, hla, hlam, hlaA⟩ := hatl ha
  have tk : ∀ l ∈ ls.take a, PyData.strOk l = true ∧ l.length ≤ 2 * M + 20 := fun l hl => old l (List.mem_of_mem_take hl)
  have dr : ∀ {b : Nat}, ∀ l ∈ ls.drop b, PyData.strOk l = true ∧ l.length ≤ 2 * M + 20 := fun l hl => old l (List.mem_of_mem_drop hl)
  have three : ∀ {x : Str} {b : Nat}, a ≤ b → PyData.strOk x = true ∧ x.length ≤ 2 * M + 20 → (ls.take a ++ [x] ++ ls.drop b).length ≤ N + 1 ∧ ∀ l ∈ ls.take a ++ [x] ++ ls.drop b, PyData.strOk l = true ∧ l.length ≤ 2 * M + 20 := fun {x b} hb hx => by
    refine ⟨by rw [List.length_append, List.length_append, List.length_take, List.length_drop, List.length_singleton]; omega, fun l hl => ?_⟩
    simp only [List.mem_append, List.mem_singleton] at hl
    rcases hl with (hl | rfl) | hl
    · exact tk l hl
    · exact hx
    · exact dr l hl
  walk_at "wp"
  by_cases c0 : w = 0
  · subst c0
    walk_at "wp"
    refine w_slL hls4 fun A t1 hA hAn j1 => ?_
    rw [cutD_map, cutD_take] at hA
    walk_at "wp"
    refine w_slL (j1.get0 hls4) fun B t2 hB hBn j2 => ?_
    rw [show ((a : Int) + 1) = ((a + 1 : Nat) : Int) by omega, cutD_map, cutD_drop] at hB
    refine wo_addL (j2.get0 hA) hB (by rw [List.length_map, List.length_map, List.length_take, List.length_drop]; simp only [LIM]; omega) fun U t3 hU hUn j3 => ?_
    have hU : t3[U]? = some (.lst ((ls.take a ++ ls.drop (a + 1)).map D.str)) := by rw [hU]; simp
    walk_at "wp"
    refine fin hU (by rw [List.length_append, List.length_take, List.length_drop]; omega) (fun l hl => ?_) hUn (kall.trans (j1.trans j2).up) (P4.keep (j1.trans (j2.trans j3))) (kall.trans (j1.trans (j2.trans j3)).up)
    rcases List.mem_append.mp hl with hl | hl
    · exact tk l hl
    · exact dr l hl
  have e0 : ((w : Int) == 0) = false := by rw [beq_eq_false_iff_ne]; omega
  by_cases c1 : w = 1
  · subst c1
    walk_at "wp"
    refine w_slL hls4 fun A t1 hA hAn j1 => ?_
    rw [cutD_map, cutD_take] at hA
    walk_at "wp"
    refine w_ixL (j1.get0 hls4) (atIn hloA) ?_
    walk_at "wp"
    refine wo_lst (by simp [LIM]) fun B t2 hB hBn j2 => ?_
    refine wo_addL (j2.get0 hA) hB (by rw [List.length_map, List.length_take]; simp only [List.length_singleton, LIM]; omega) fun C t3 hC hCn j3 => ?_
    walk_at "wp"
    refine w_slL (j3.get0 (j2.get0 (j1.get0 hls4))) fun D' t4 hD hDn j4 => ?_
    rw [cutD_map, cutD_drop] at hD
    refine wo_addL (j4.get0 hC) hD (by rw [List.length_append, List.length_map, List.length_map, List.length_take, List.length_drop]; simp only [List.length_singleton, LIM]; omega) fun U t5 hU hUn j5 => ?_
    have hU : t5[U]? = some (.lst ((ls.take a ++ [lo] ++ ls.drop a).map D.str)) := by rw [hU]; simp
    walk_at "wp"
    have jj := j1.trans (j2.trans (j3.trans j4))
    exact fin hU (three (Nat.le_refl _) (old lo hlom)).1 (three (Nat.le_refl _) (old lo hlom)).2 hUn (kall.trans jj.up) (P4.keep (jj.trans j5)) (kall.trans (jj.trans j5).up)
  have e1 : ((w : Int) == 1) = false := by rw [beq_eq_false_iff_ne]; omega
  by_cases c2 : w = 2
  · subst c2
    walk_at "wp"
    refine w_slL hls4 fun A t1 hA hAn j1 => ?_
    rw [cutD_map, cutD_take] at hA
    have hAp := P4.live hAn
    walk_at "wp"
    refine wo_lst (by simp [LIM]) fun Z t2 hZ hZn j2 => ?_
    have hZ : t2[Z]? = some (.lst (lineL.map D.str)) := hZ
    walk_at "wp"
    refine (pick_str ((P4.keep j1).keep j2) hZ (by simp [lineL]) (by simp [lineL]) ((P4.keep j1).live hZn)).mono ?_
    rintro _ t3 ⟨x, hx, rfl, P5, j3⟩
    obtain ⟨xo, xl⟩ := line_ok x hx
    have hA3 := j3.get (by simpa using hAp) (j2.get0 hA)
    have hls5 := j3.get (by simpa using hLp) (j2.get0 (j1.get0 hls4))
    walk_at "wp"
    refine wo_lst (by simp [LIM]) fun B t4 hB hBn j4 => ?_
    refine wo_addL (j4.get0 hA3) hB (by rw [List.length_map, List.length_take]; simp only [List.length_singleton, LIM]; omega) fun C t5 hC hCn j5 => ?_
    walk_at "wp"
    refine w_slL (j5.get0 (j4.get0 hls5)) fun D' t6 hD hDn j6 => ?_
    rw [cutD_map, cutD_drop] at hD
    refine wo_addL (j6.get0 hC) hD (by rw [List.length_append, List.length_map, List.length_map, List.length_take, List.length_drop]; simp only [List.length_singleton, LIM]; omega) fun U t7 hU hUn j7 => ?_
    have hU : t7[U]? = some (.lst ((ls.take a ++ [x] ++ ls.drop a).map D.str)) := by rw [hU]; simp
    walk_at "wp"
    have kt : Chg [p] st t6 := kall.trans ((j1.trans j2).up.trans (j3.trans (j4.trans (j5.trans j6)).up))
    exact fin hU (three (Nat.le_refl _) ⟨xo, by omega⟩).1 (three (Nat.le_refl _) ⟨xo, by omega⟩).2 hUn kt (P5.keep (j4.trans (j5.trans (j6.trans j7)))) (kt.trans j7.up)
  have e2 : ((w : Int) == 2) = false := by rw [beq_eq_false_iff_ne]; omega
  by_cases c3 : w = 3
  · subst c3
    walk_at "wp"
    refine w_slL hls4 fun A t1 hA hAn j1 => ?_
    rw [cutD_map, cutD_take] at hA
    walk_at "wp"
    refine w_ixL (j1.get0 hls4) (atIn hloA) ?_
    walk_at "wp"
    refine wo_lst (by simp [LIM]) fun B t2 hB hBn j2 => ?_
    refine wo_addL (j2.get0 hA) hB (by rw [List.length_map, List.length_take]; simp only [List.length_singleton, LIM]; omega) fun C t3 hC hCn j3 => ?_
    walk_at "wp"
    refine w_slL (j3.get0 (j2.get0 (j1.get0 hls4))) fun D' t4 hD hDn j4 => ?_
    rw [show ((a : Int) + 1) = ((a + 1 : Nat) : Int) by omega, cutD_map, cutD_drop] at hD
    refine wo_addL (j4.get0 hC) hD (by rw [List.length_append, List.length_map, List.length_map, List.length_take, List.length_drop]; simp only [List.length_singleton, LIM]; omega) fun U t5 hU hUn j5 => ?_
    have hU : t5[U]? = some (.lst ((ls.take a ++ [lo] ++ ls.drop (a + 1)).map D.str)) := by rw [hU]; simp
    walk_at "wp"
    have jj := j1.trans (j2.trans (j3.trans j4))
    exact fin hU (three (by omega) (old lo hlom)).1 (three (by omega) (old lo hlom)).2 hUn (kall.trans jj.up) (P4.keep (jj.trans j5)) (kall.trans (jj.trans j5).up)
  have e3 : ((w : Int) == 3) = false := by rw [beq_eq_false_iff_ne]; omega
  walk_at "wp"
  refine w_slL hls4 fun A t1 hA hAn j1 => ?_
  rw [cutD_map, cutD_take] at hA
  have hAp := P4.live hAn
  walk_at "wp"
  refine w_ixL (j1.get0 hls4) (atIn hlaA) ?_
  walk_at "wp"
  refine (law_bent_line_ok (M := M) (P4.keep j1) (hall la hlam).1 (hall la hlam).2 hM).mono ?_
  rintro _ t3 ⟨x, rfl, xo, xl, P5, j3⟩
  have hA3 := j3.get (by simpa using hAp) hA
  have hls5 := j3.get (by simpa using hLp) (j1.get0 hls4)
  walk_at "wp"
  refine wo_lst (by simp [LIM]) fun B t4 hB hBn j4 => ?_
  refine wo_addL (j4.get0 hA3) hB (by rw [List.length_map, List.length_take]; simp only [List.length_singleton, LIM]; omega) fun C t5 hC hCn j5 => ?_
  walk_at "wp"
  refine w_slL (j5.get0 (j4.get0 hls5)) fun D' t6 hD hDn j6 => ?_
  rw [show ((a : Int) + 1) = ((a + 1 : Nat) : Int) by omega, cutD_map, cutD_drop] at hD
  refine wo_addL (j6.get0 hC) hD (by rw [List.length_append, List.length_map, List.length_map, List.length_take, List.length_drop]; simp only [List.length_singleton, LIM]; omega) fun U t7 hU hUn j7 => ?_
  have hU : t7[U]? = some (.lst ((ls.take a ++ [x] ++ ls.drop (a + 1)).map D.str)) := by rw [hU]; simp
  walk_at "wp"
  have kt : Chg [p] st t6 := kall.trans (j1.up.trans (j3.trans (j4.trans (j5.trans j6)).up))
  exact fin hU (three (by omega) ⟨xo, xl⟩).1 (three (by omega) ⟨xo, xl⟩).2 hUn kt (P5.keep (j4.trans (j5.trans (j6.trans j7)))) (kt.trans j7.up)
end
/-! drawn lines -/
theorem num_all : ∀ k : Fin 10, (PyData.strOk (Str.ofString (toString (k : Int))) && decide ((Str.ofString (toString (k : Int))).length ≤ 5)) = true := by decide +kernel
theorem num_str {n : Nat} (h : n < 10) : PyData.strOk (Str.ofString (toString (n : Int))) = true ∧ (Str.ofString (toString (n : Int))).length ≤ 5 := by
  have := num_all ⟨n, h⟩
  simpa using this
theorem small_log {n : Nat} (h : n < 10) : ((n : Int)).natAbs.log2 < 1920 := Nat.lt_of_le_of_lt (Nat.log2_le_self _) (by simp; omega)
def wordOk (x : Str) : Prop := PyData.strOk x = true ∧ x.length ≤ 5
theorem strB_num {Q : D → Sto → Prop} {st : Sto} {n : Nat} (h : n < 10) (q : ∀ x, wordOk x → Q (.str x) st) : Wo Q (opStrB [.int n] st) := w_strBI (small_log h) (q _ (num_str h))
theorem say_str {y : Say} (hy : y.ok) {A : E} {w : Str} (hw : wordOk w) {env : Sl} {s : Sto} {X : XP} {Q : D → Sto → Prop} (hA : ∀ Q' : D → Sto → Prop, Q' y.d s → Wp X Q' (A env s)) (h : ∀ x, wordOk x → Q (.str x) s) : Wp X Q (if LF.isNon y.d = true then eC (.str w) env s else eBlt opStrB [A] env s) := by
  cases y with
  | no =>
    rw [if_pos (show LF.isNon Say.no.d = true from rfl)]
    exact r_wp_c (h _ hw)
  | num n =>
    rw [if_neg (show ¬ LF.isNon (Say.num n).d = true from Bool.false_ne_true)]
    refine r_wp_blt (r_wp_cons (hA _ (r_wp_nil ?_)))
    exact strB_num (by have := hy.2; omega) h
  | all =>
    rw [if_neg (show ¬ LF.isNon Say.all.d = true from Bool.false_ne_true)]
    refine r_wp_blt (r_wp_cons (hA _ (r_wp_nil ?_)))
    exact w_strBS (h _ (by unfold wordOk; decide +kernel))
theorem opt_str {o : Option Nat} (ho : ∀ n, o = some n → n < 10) {A : E} {w : Str} (hw : wordOk w) {env : Sl} {s : Sto} {X : XP} {Q : D → Sto → Prop} (hA : ∀ Q' : D → Sto → Prop, Q' (optD o) s → Wp X Q' (A env s)) (h : ∀ x, wordOk x → Q (.str x) s) : Wp X Q (if LF.isNon (optD o) = true then eC (.str w) env s else eBlt opStrB [A] env s) := by
  cases o with
  | none =>
    rw [if_pos (show LF.isNon (optD none) = true from rfl)]
    exact r_wp_c (h _ hw)
  | some n =>
    rw [if_neg (show ¬ LF.isNon (optD (some n)) = true from Bool.false_ne_true)]
    refine r_wp_blt (r_wp_cons (hA _ (r_wp_nil ?_)))
    exact strB_num (ho n rfl) h
theorem law_lines_ok {g : Prg} {C o : Nat} (hg : g.Ok C) {st : Sto} (ho : st[o]? = some (.lst [stepsD g.rows, .int g.first, optD g.leader, optD g.lamp])) {X : XP} :
    Wp X (fun d s => ∃ r, d = .ref r ∧ LsAt s r 9 80 ∧ st[r]? = none ∧ Chg [] st s) (f__law_lines [.ref o] st) := by
  have n5 := hg.n5
  have c4 := hg.c4
  have hfirst := hg.first
  walk_at "fn"
  unfold b__law_lines
  walk_at "wp"
  refine wo_lst (by simp [LIM]) fun R s1 hR hRn k1 => ?_
  have ho1 := k1.get0 ho
  walk_at "wp"
  dsimp only [stepsD]
  walk_at "wp"
  refine owp_forS (fun i e s => ∃ x2 x3 x4 ls, e = [some (.ref o), some (.ref R), x2, x3, x4] ∧ s[R]? = some (.lst (ls.map D.str)) ∧ ls.length = i ∧ (∀ l ∈ ls, PyData.strOk l = true ∧ l.length ≤ 80) ∧ Chg [] st s) ?_ ?_ ⟨_, _, _, [], rfl, hR, rfl, by simp, k1⟩
  · rintro i d e s hd ⟨x2, x3, x4, ls, rfl, hRs, hln, hall, ks⟩
    have hi := (List.getElem?_eq_some_iff.mp hd).1
    rw [List.length_map] at hi
    rw [List.getElem?_map] at hd
    obtain ⟨r, hr, rfl⟩ := Option.map_eq_some_iff.mp hd
    have hrm := List.mem_of_getElem? hr
    have hrl := hg.row r hrm
    have hrs := hg.stp r hrm
    refine ⟨okB_none, _, rfl, ?_⟩
    dsimp only [List.set]
    walk_at "wp"
    refine wo_lst (by simp [LIM]) fun L t1 hL hLn j1 => ?_
    walk_at "wp"
    dsimp only [rowD]
    walk_at "wp"
    refine owp_forS (fun j e s' => ∃ L y4 ws, e = [some (.ref o), some (.ref R), some (rowD r), some (.ref L), y4] ∧ s'[L]? = some (.lst (ws.map D.str)) ∧ ws.length = 1 + 3 * j ∧ (∀ w ∈ ws, wordOk w) ∧ Chg [] s s') ?_ ?_ ⟨L, _, [Str.ofString "state"], rfl, hL, rfl, ?_, j1⟩
    · rintro j d e s' hd ⟨L, y4, ws, rfl, hLs, hwl, hws, ks'⟩
      have hj := (List.getElem?_eq_some_iff.mp hd).1
      rw [List.length_map] at hj
      rw [List.getElem?_map] at hd
      obtain ⟨z, hz, rfl⟩ := Option.map_eq_some_iff.mp hd
      obtain ⟨z1, z2, z3⟩ := hrs z (List.mem_of_getElem? hz)
      refine ⟨okB_none, _, rfl, ?_⟩
      dsimp only [List.set, stpD]
      walk_at "wp"
      refine strB_num (by omega) fun x hx => ?_
      walk_at "wp"
      refine strB_num (by omega) fun y hy => ?_
      walk_at "wp"
      refine say_str z3 (by unfold wordOk; decide +kernel) (fun Q' h => by walk_at "wp"; exact h) fun v hv => ?_
      walk_at "wp"
      refine wo_lst (by simp [LIM]) fun W v1 hW hWn l1 => ?_
      refine wo_addL (l1.get0 hLs) hW (by rw [List.length_map]; simp only [LIM, List.length_cons, List.length_nil]; omega) fun L2 v2 hL2 hL2n l2 => ?_
      walk_at "wp"
      refine ⟨L2, _, ws ++ [x, y, v], rfl, by rw [hL2]; simp, by rw [List.length_append, hwl]; simp; omega, fun w hw => ?_, (ks'.trans l1).trans l2⟩
      simp only [List.mem_append, List.mem_cons, List.not_mem_nil, or_false] at hw
      rcases hw with hw | rfl | rfl | rfl
      · exact hws w hw
      · exact hx
      · exact hy
      · exact hv
    · rintro e s' ⟨L, y4, ws, rfl, hLs, hwl, hws, ks'⟩
      refine ⟨okB_none, ?_⟩
      have hRs' := ks'.get0 hRs
      have hwl : ws.length = 1 + 3 * r.length := by rw [hwl]; simp
      walk_at "wp"
      refine join_fin (N := 80) hLs (fun u hu => (hws u hu).1) ?_ (by omega) fun y hy hyl => ?_
      · have := sum_le (ys := ws) (k := 5) fun w hw => (hws w hw).2
        unfold wt
        omega
      walk_at "wp"
      refine wo_append hRs' (by rw [List.length_map]; simp only [LIM]; omega) fun v4 hv4 l4 => ?_
      walk_at "wp"
      have hRn0 : st[R]? = none := hRn
      refine ⟨_, _, _, ls ++ [y], rfl, by rw [hv4]; simp, by rw [List.length_append, hln]; rfl, fun l hl => ?_, (ks.trans ks').new hRn0 l4⟩
      rcases List.mem_append.mp hl with hl | hl
      · exact hall l hl
      · rw [List.mem_singleton.mp hl]; exact ⟨hy, hyl⟩
    · intro w hw
      rw [List.mem_singleton.mp hw]
      unfold wordOk
      decide +kernel
  · rintro e s ⟨x2, x3, x4, ls, rfl, hRs, hln, hall, ks⟩
    have hln : ls.length = g.rows.length := by rw [hln]; simp
    have hos := ks.get0 ho
    refine ⟨okB_none, ?_⟩
    have o1 : PyData.strOk (Str.ofString "first ") = true ∧ (Str.ofString "first ").length ≤ 10 := by decide +kernel
    have o2 : PyData.strOk (Str.ofString "leader ") = true ∧ (Str.ofString "leader ").length ≤ 10 := by decide +kernel
    have o3 : PyData.strOk (Str.ofString "lamp ") = true ∧ (Str.ofString "lamp ").length ≤ 10 := by decide +kernel
    have o4 : PyData.strOk (Str.ofString "end") = true ∧ (Str.ofString "end").length ≤ 10 := by decide +kernel
    walk_at "wp"
    refine strB_num (by omega) fun x hx => ?_
    refine w_addS (by have := hx.2; have := o1.2; simp only [LIM]; omega) ?_
    walk_at "wp"
    refine opt_str (fun n e => by have := hg.leader n e; omega) (by unfold wordOk; decide +kernel) (fun Q' h => by walk_at "wp"; exact h) fun y hy => ?_
    refine w_addS (by have := hy.2; have := o2.2; simp only [LIM]; omega) ?_
    walk_at "wp"
    refine wo_lst (by simp [LIM]) fun L2 v1 hL2 hL2n l1 => ?_
    refine wo_addL (l1.get0 hRs) hL2 (by rw [List.length_map]; simp only [LIM, List.length_cons, List.length_nil]; omega) fun L3 v2 hL3 hL3n l2 => ?_
    have hos2 := l2.get0 (l1.get0 hos)
    walk_at "wp"
    refine opt_str (fun n e => by have := hg.lamp n e; omega) (by unfold wordOk; decide +kernel) (fun Q' h => by walk_at "wp"; exact h) fun z hz => ?_
    refine w_addS (by have := hz.2; have := o3.2; simp only [LIM]; omega) ?_
    walk_at "wp"
    refine wo_lst (by simp [LIM]) fun L4 v3 hL4 hL4n l3 => ?_
    refine wo_addL (l3.get0 hL3) hL4 (by rw [List.length_append, List.length_map]; simp only [LIM, List.length_cons, List.length_nil]; omega) fun L5 v4 hL5 hL5n l4 => ?_
    walk_at "wp"
    have kk := ks.trans (l1.trans (l2.trans l3))
    refine ⟨L5, rfl, ⟨ls ++ [Str.ofString "first " ++ x, Str.ofString "leader " ++ y, Str.ofString "lamp " ++ z, Str.ofString "end"], by rw [hL5]; simp, by rw [List.length_append, hln]; simp; omega, fun l hl => ?_⟩, none_back kk hL5n, kk.trans l4⟩
    simp only [List.mem_append, List.mem_cons, List.not_mem_nil, or_false] at hl
    rcases hl with hl | rfl | rfl | rfl | rfl
    · exact hall l hl
    · exact ⟨app_ok o1.1 hx.1, by rw [Str.length_append]; have := hx.2; have := o1.2; omega⟩
    · exact ⟨app_ok o2.1 hy.1, by rw [Str.length_append]; have := hy.2; have := o2.2; omega⟩
    · exact ⟨app_ok o3.1 hz.1, by rw [Str.length_append]; have := hz.2; have := o3.2; omega⟩
    · exact ⟨o4.1, by have := o4.2; omega⟩
/-! ### what is found -/
def kParts : Str := Str.ofString "parts"
def kProg : Str := Str.ofString "program"
theorem ok_parts : PyData.strOk kParts = true := by decide +kernel
theorem ok_prog : PyData.strOk kProg = true := by decide +kernel
theorem ok_text : PyData.strOk kText = true := by decide +kernel
theorem lines_bad : ∀ {ls : List Str} {n : Nat} {b : Bk} {m : Nat} {w : Str}, linesV ls n b = .bad m w → PyData.strOk w = true
  | [], n, b, m, w, h => by simp [linesV] at h
  | l :: ls, n, b, m, w, h => by
    simp only [linesV] at h
    split at h
    · cases h
      decide +kernel
    · split at h
      · cases h
        decide +kernel
      · exact lines_bad h
theorem tld_bad {z : Str} {n : Nat} {w : Str} (h : tldV z = .bad n w) : PyData.strOk w = true := by
  unfold tldV readV at h
  split at h
  · rename_i e
    cases h
    exact lines_bad e
  · split at h
    · cases h
      decide +kernel
    · split at h
      · cases h
        decide +kernel
      · cases h
theorem fault_ok {a b c d : D} {w : String} (h : faultB a b c d = some w) : PyData.strOk (Str.ofString w) = true := by
  unfold faultB at h
  split at h
  · cases h; decide +kernel
  · split at h
    · cases h; decide +kernel
    · split at h
      · cases h; decide +kernel
      · split at h
        · cases h; decide +kernel
        · cases h
def OutF (z : Str) (s : Sto) (d : D) : Prop := (∃ n w, tldV z = .bad n w ∧ d = .tup [.str kText, .int (n : Int), .str w]) ∨
  (∃ b d0 d1 d2 d3 v, tldV z = .book b ∧ Pgm b d0 d1 d2 d3 ∧ faultB (.tup b.rows) d0 d1 d2 = some v ∧ d = .tup [.str kProg, .str (Str.ofString v)]) ∨
  ∃ b d0 d1 d2 d3 r, tldV z = .book b ∧ Pgm b d0 d1 d2 d3 ∧ faultB (.tup b.rows) d0 d1 d2 = none ∧ d = .tup [.str kParts, .ref r] ∧ s[r]? = some (.lst [.tup b.rows, d0, d1, d2])
theorem law_found_ok {st : Sto} {z : Str} (hz : Zk z) {X : XP} : Wp X (fun d s => Chg [] st s ∧ OutF z s d) (f__law_found [.str z] st) := by
  walk_at "fn"
  unfold b__law_found
  walk_at "wp"
  refine (read_program_ok hz).imp ?_ ?_
  · rintro _ s ⟨k, b, d0, d1, d2, d3, o, hb, pg, hf, rfl, ho⟩
    unfold prgFd at ho
    walk_at "wp"
    refine wo_lst (by simp [LIM]) fun r s2 hr hrn k2 => ?_
    walk_at "wp"
    refine w_tup (by simp [LIM]) ?_
    walk_at "wp"
    exact ⟨k.trans k2, .inr (.inr ⟨b, d0, d1, d2, d3, r, hb, pg, hf, rfl, hr⟩)⟩
  · rintro c fs s ⟨k, h⟩
    rcases h with ⟨n, w, hb, rfl, rfl⟩ | ⟨b, d0, d1, d2, d3, v, hb, pg, hf, rfl, rfl⟩
    · walk_at "wp"
      refine r_hgo_named (by simp) ?_
      dsimp only [List.set]
      walk_at "wp"
      refine q_xf rfl ?_
      walk_at "wp"
      refine ⟨rfl, ?_⟩
      walk_at "wp"
      refine q_xf rfl ?_
      walk_at "wp"
      refine ⟨rfl, ?_⟩
      walk_at "wp"
      refine w_tup (by simp [LIM]) ?_
      exact ⟨by rfl, rfl, k, .inl ⟨n, w, hb, rfl⟩⟩
    · walk_at "wp"
      refine r_hgo_no (by decide) (by decide) ?_
      refine r_hgo_named (by simp) ?_
      dsimp only [List.set]
      walk_at "wp"
      refine q_xf rfl ?_
      walk_at "wp"
      refine ⟨rfl, ?_⟩
      walk_at "wp"
      refine w_tup (by simp [LIM]) ?_
      exact ⟨by rfl, rfl, k, .inr (.inl ⟨b, d0, d1, d2, d3, v, hb, pg, hf, rfl⟩)⟩
theorem law_found_no {st : Sto} {d : D} {k : Kd} (hk : kind d st = some k) (hb : ansTy "str" k = some false) {X : XP} : Wp X (fun x s => x = .tup [.str kText, .int 0, .str kText] ∧ s = st) (f__law_found [d] st) := by
  walk_at "fn"
  unfold b__law_found
  walk_at "wp"
  have h : Wp (fun c fs s => c = 3 ∧ fs = [("what", .str kText), ("line", .int 0)] ∧ s = st) (fun _ _ => False) (f_read_program [d] st) := by
    walk_at "fn"
    unfold b_read_program
    walk_at "wp"
    refine w_isiK hk rfl hb ?_
    walk_at "wp"
    exact ⟨rfl, rfl, rfl⟩
  refine h.imp (fun _ _ z => z.elim) ?_
  rintro c fs s ⟨rfl, rfl, rfl⟩
  walk_at "wp"
  refine r_hgo_named (by simp) ?_
  dsimp only [List.set]
  walk_at "wp"
  refine q_xf rfl ?_
  walk_at "wp"
  refine ⟨rfl, ?_⟩
  walk_at "wp"
  refine q_xf rfl ?_
  walk_at "wp"
  refine ⟨rfl, ?_⟩
  walk_at "wp"
  refine w_tup (by simp [LIM]) ?_
  exact ⟨by rfl, rfl, rfl, rfl⟩
theorem same_parts {a b : Nat} {x : Str} {ds : List D} (hx : PyData.strOk x = true) (h : ∀ d ∈ ds, Pl 3 d) (hl : ds.length ≤ 1000) {st : Sto} (ha : st[a]? = some (.lst ds)) (hb : st[b]? = some (.lst ds)) {X : XP} :
    Wp X (fun y s => y = .bl true ∧ Chg [] st s) (f__law_same 7 [.tup [.str x, .ref a], .tup [.str x, .ref b]] st) := by
  unfold f__law_same
  walk_at "fn"
  unfold b__law_same
  walk_at "wp"
  refine wp_lc ?_
  walk_at "wp"
  refine r_both (by simp only [List.length_cons, List.length_nil]; omega) ?_
  refine ⟨fun _ => none, fun _ _ => okB_none, by rw [rng_len]; simp only [LIM, List.length_cons, List.length_nil]; omega, ?_, ?_⟩
  · intro d hd s hs
    obtain ⟨i, hi⟩ := List.getElem?_of_mem hd
    obtain ⟨hj, rfl⟩ := rng_get hi
    have hj : i < 2 := hj
    have hi : i = 0 ∨ i = 1 := by omega
    refine ⟨_, rfl, ?_⟩
    dsimp only [wipeD, List.set]
    rcases hi with rfl | rfl
    · walk_at "wp"
      refine (same_flat (.str 0 x hx) (by simp)).mono ?_
      rintro _ s2 ⟨rfl, k2⟩
      walk_at "wp"
      exact ⟨rfl, k2⟩
    · walk_at "wp"
      refine (same_lst (n := 3) (k := 4) h (by omega) (by omega) (hs.get0 ha) (hs.get0 hb)).mono ?_
      rintro _ s2 ⟨rfl, k2⟩
      walk_at "wp"
      exact ⟨rfl, k2⟩
  · intro L s hL hLn k1
    rw [none_all] at hL
    walk_at "wp"
    refine wo_lst (by simp [LIM]) fun L2 s2 hL2 hL2n k2 => ?_
    walk_at "wp"
    refine w_eqE (k2.get0 hL) hL2 (.inr rfl) ?_
    walk_at "wp"
    exact ⟨rfl, k1.trans k2⟩
/-! ### the law -/
noncomputable def sChk : Sm := sSeq (sAsg (.name 6) (eCall (f__law_reader) [eVar 5])) (sSeq (sIf (asB (eBin opEq (eBin opIx (eVar 6) (eC (.int 0))) (eC (.str (Str.ofString "parts"))))) (sSeq (sAsg (.name 7) (eCall (f__law_fault) [eBin opIx (eVar 6) (eC (.int 1))])) (sAsg (.name 6) (eIf (asB (eBin opIs (eVar 7) (eC .non))) (eVar 6) (eBlt opTup [eC (.str (Str.ofString "program")), eVar 7])))) (sSkip)) (sIf (tNot' (tTru (eCall (f__law_same 7) [eCall (f__law_found) [eVar 5], eVar 6]))) (sRet (eC (.bl false))) (sSkip)))
noncomputable def sCut : Sm := sSeq (sIf (asB (eBin opEq (eCall (f__law_draw) [eVar 1, eC (.int 6)]) (eC (.int 0)))) (sAsg (.name 5) (eSl (eVar 5) none (some (eCall (f__law_draw) [eVar 1, eBin opAdd (eBlt opLen [eVar 5]) (eC (.int 1))])))) (sSkip)) sChk
noncomputable def sTurn : Sm := sSeq (sAsg (.name 3) (eCall (f__law_lines) [eCall (f__law_spec) [eVar 1, eBlt opLst [eC (.int 3), eC (.int 3)]]])) (sSeq (sFor (iR1 (eCall (f__law_draw) [eVar 1, eC (.int 4)])) (.name 4) (sAsg (.name 3) (eCall (f__law_bent_text) [eVar 1, eVar 3]))) (sSeq (sAsg (.name 5) (eMt "str" opJoin (eC (.str (Str.ofString ""))) [eLc [8] (iS (eVar 3)) (.name 8) (tYes') (eBin opAdd (eVar 8) (eC (.str (Str.ofString "\n"))))])) sCut))
theorem b_law_eq : b_law = sSeq (sAsg (.name 1) (eCall (f__law_pot) [eVar 0])) (sSeq (sFor (iR1 (eC (.int 6))) (.name 2) sTurn) (sRet (eBin opEq (eCall (f__law_found) [eCall (f__law_pick) [eVar 1, eBlt opLst [eC .non, eC (.int 7), eBlt opTup [eC (.str (Str.ofString "end"))], eBlt opLst [eC (.str (Str.ofString "end"))], eC (.bl true), eNewD]]]) (eBlt opTup [eC (.str (Str.ofString "text")), eC (.int 0), eC (.str (Str.ofString "text"))])))) := rfl
def bnd : Nat → Nat
  | 0 => 80
  | n + 1 => 2 * bnd n + 20
def feed : D → Option D
  | .str x => some (.str (x ++ Str.ofString "\n"))
  | _ => none
theorem feed_map (l : List Str) : (l.map D.str).filterMap feed = (l.map (· ++ Str.ofString "\n")).map D.str := by
  induction l with
  | nil => rfl
  | cons x l ih =>
    rw [List.map_cons, List.filterMap_cons]
    show D.str _ :: _ = _
    rw [ih]
    rfl
section
variable {K : Ks} {s : Sto} {p q : Nat} {ns : List Int} {x0 x2 x3 x4 x5 x6 x7 : Option D}
theorem chk_ok (P : Pot s p q ns) {z : Str} (hz : Zk z) (k : ∀ t x6 x7, Pot t p q ns → K.nx [x0, some (.ref p), x2, x3, x4, some (.str z), x6, x7, none] t) :
    Owp K (sChk [x0, some (.ref p), x2, x3, x4, some (.str z), x6, x7, none] s) := by
  unfold sChk
  walk_at "wp"
  refine (law_reader_ok hz).mono ?_
  rintro _ s1 ⟨k1, h⟩
  have P1 := P.keep k1
  rcases h with ⟨n, w, hb, rfl⟩ | ⟨b, r, hb, rfl, hr, hrn⟩
  · have hw := tld_bad hb
    walk_at "wp"
    refine w_eqS ok_text ok_parts ?_
    rw [show (kText == Str.ofString "parts") = false by decide +kernel]
    walk_at "wp"
    refine (law_found_ok hz).mono ?_
    rintro d s2 ⟨k2, ho⟩
    have P2 := P1.keep k2
    rcases ho with ⟨n', w', hb', rfl⟩ | ⟨b, _, _, _, _, _, hb', _⟩ | ⟨b, _, _, _, _, _, hb', _⟩
    · rw [hb] at hb'
      cases hb'
      walk_at "wp"
      refine (same_tup (.tup 0 _ (fun d hd => ?_) (by simp)) (by omega)).mono ?_
      · simp only [List.mem_cons, List.not_mem_nil, or_false] at hd
        rcases hd with rfl | rfl | rfl
        · exact .str _ _ ok_text
        · exact .int _ _
        · exact .str _ _ hw
      rintro _ s3 ⟨rfl, k3⟩
      walk_at "wp"
      exact k _ _ _ (P2.keep k3)
    · rw [hb] at hb'; cases hb'
    · rw [hb] at hb'; cases hb'
  · obtain ⟨d0, d1, d2, d3, pg⟩ := tld_pgm hz hb
    have g0 := last_pl (pg.good.last d0 (by rw [pg.last]; simp))
    have g1 := last_pl (pg.good.last d1 (by rw [pg.last]; simp))
    have g2 := last_pl (pg.good.last d2 (by rw [pg.last]; simp))
    have gr := rows_pl pg.good pg.len
    have hr : s1[r]? = some (.lst [.tup b.rows, d0, d1, d2]) := by rw [hr, pg.last]; rfl
    walk_at "wp"
    refine w_eqS ok_parts ok_parts ?_
    rw [show (Str.ofString "parts" == Str.ofString "parts") = true by decide +kernel]
    walk_at "wp"
    refine (law_fault_gen hr (pl_kn gr 3) (pl_kz (g0 0)) (pl_kz (g1 0)) (pl_kz (g2 0))).mono ?_
    rintro _ s2 ⟨rfl, k2⟩
    have P2 := P1.keep k2
    have hr2 := k2.get0 hr
    have same : ∀ {b' : Bk} {e0 e1 e2 e3 : D}, tldV z = .book b' → Pgm b' e0 e1 e2 e3 → b' = b ∧ e0 = d0 ∧ e1 = d1 ∧ e2 = d2 := fun h g => by
      rw [hb] at h
      cases h
      have e := g.last.symm.trans pg.last
      simp only [List.cons.injEq] at e
      exact ⟨rfl, e.1, e.2.1, e.2.2.1⟩
    cases hf : faultB (.tup b.rows) d0 d1 d2 with
    | none =>
      dsimp only [fauD]
      walk_at "wp"
      refine (law_found_ok hz).mono ?_
      rintro d s3 ⟨k3, ho⟩
      have P3 := P2.keep k3
      rcases ho with ⟨n', w', hb', _⟩ | ⟨b', e0, e1, e2, e3, v, hb', pg', hf', _⟩ | ⟨b', e0, e1, e2, e3, r', hb', pg', hf', rfl, hr'⟩
      · rw [hb] at hb'; cases hb'
      · obtain ⟨rfl, rfl, rfl, rfl⟩ := same hb' pg'
        rw [hf] at hf'; cases hf'
      · obtain ⟨rfl, rfl, rfl, rfl⟩ := same hb' pg'
        walk_at "wp"
        refine (same_parts ok_parts (fun d hd => ?_) (by simp) hr' (k3.get0 hr2)).mono ?_
        · simp only [List.mem_cons, List.not_mem_nil, or_false] at hd
          rcases hd with rfl | rfl | rfl | rfl
          · exact gr
          · exact g0 3
          · exact g1 3
          · exact g2 3
        rintro _ s4 ⟨rfl, k4⟩
        walk_at "wp"
        exact k _ _ _ (P3.keep k4)
    | some v =>
      dsimp only [fauD]
      walk_at "wp"
      refine w_tup (by simp [LIM]) ?_
      walk_at "wp"
      refine (law_found_ok hz).mono ?_
      rintro d s3 ⟨k3, ho⟩
      have P3 := P2.keep k3
      rcases ho with ⟨n', w', hb', _⟩ | ⟨b', e0, e1, e2, e3, v', hb', pg', hf', rfl⟩ | ⟨b', e0, e1, e2, e3, r', hb', pg', hf', rfl, hr'⟩
      · rw [hb] at hb'; cases hb'
      · obtain ⟨rfl, rfl, rfl, rfl⟩ := same hb' pg'
        rw [hf] at hf'
        cases hf'
        walk_at "wp"
        refine (same_tup (.tup 0 _ (fun d hd => ?_) (by simp)) (by omega)).mono ?_
        · simp only [List.mem_cons, List.not_mem_nil, or_false] at hd
          rcases hd with rfl | rfl
          · exact .str _ _ ok_prog
          · exact .str _ _ (fault_ok hf)
        rintro _ s4 ⟨rfl, k4⟩
        walk_at "wp"
        exact k _ _ _ (P3.keep k4)
      · obtain ⟨rfl, rfl, rfl, rfl⟩ := same hb' pg'
        rw [hf] at hf'; cases hf'
theorem cut_ok (P : Pot s p q ns) {z : Str} (hz : Zk z) (k : ∀ t z x6 x7, Pot t p q ns → K.nx [x0, some (.ref p), x2, x3, x4, some (.str z), x6, x7, none] t) :
    Owp K (sCut [x0, some (.ref p), x2, x3, x4, some (.str z), x6, x7, none] s) := by
  have hl := hz.len
  unfold sCut
  walk_at "wp"
  refine (law_draw P (by omega) (by omega)).mono ?_
  rintro _ s1 ⟨c, rfl, hc, P1, k1⟩
  by_cases h0 : c = 0
  · subst h0
    walk_at "wp"
    refine w_lenS (by simp only [LIM]; omega) ?_
    walk_at "wp"
    refine (law_draw P1 (by omega) (by omega)).mono ?_
    rintro _ s2 ⟨c, rfl, hc, P2, k2⟩
    walk_at "wp"
    refine w_slS (by simp only [LIM]; omega) ?_
    walk_at "wp"
    exact chk_ok P2 ⟨cutS_ok hz.ok, Nat.le_trans cutS_len hl⟩ fun t a b P => k _ _ _ _ P
  · have e : ((c : Int) == 0) = false := by rw [beq_eq_false_iff_ne]; omega
    walk_at "wp"
    exact chk_ok P1 hz fun t a b P => k _ _ _ _ P
theorem turn_ok (P : Pot s p q ns) (k : ∀ t x3 x4 x5 x6 x7, Pot t p q ns → K.nx [x0, some (.ref p), x2, x3, x4, x5, x6, x7, none] t) :
    Owp K (sTurn [x0, some (.ref p), x2, x3, x4, x5, x6, x7, none] s) := by
  unfold sTurn
  walk_at "wp"
  refine wo_lst (by simp [LIM]) fun m s1 hm hmn k1 => ?_
  walk_at "wp"
  refine (law_spec (P.keep k1) hm (P.live hmn)).mono ?_
  rintro _ s2 ⟨g, C, l, hg, rfl, hL, hLn, P2, k2⟩
  walk_at "wp"
  refine (law_lines_ok hg hL).mono ?_
  rintro _ s3 ⟨r, rfl, hr, hrn, k3⟩
  have P3 := P2.keep k3
  have hrp := P2.live hrn
  walk_at "wp"
  refine (law_draw P3 (by omega) (by omega)).mono ?_
  rintro _ s4 ⟨c, rfl, hc, P4, k4⟩
  have hr4 : LsAt s4 r 9 80 := by
    obtain ⟨ls, h1, h2⟩ := hr
    exact ⟨ls, k4.get (by simpa using hrp) h1, h2⟩
  walk_at "wp"
  refine owp_forS (fun j e t => ∃ r x4, e = [x0, some (.ref p), x2, some (.ref r), x4, x5, x6, x7, none] ∧ LsAt t r (9 + j) (bnd j) ∧ r ≠ p ∧ Pot t p q ns) ?_ ?_ ⟨r, _, rfl, hr4, hrp, P4⟩
  · rintro j d e t hd ⟨r, y4, rfl, hLs, hrp, Pt⟩
    obtain ⟨hj, rfl⟩ := rng_get hd
    refine ⟨okB_none, _, rfl, ?_⟩
    dsimp only [List.set]
    have hj3 : j = 0 ∨ j = 1 ∨ j = 2 := by omega
    walk_at "wp"
    refine (law_bent_text_ok Pt hLs hrp (by omega) (by rcases hj3 with rfl | rfl | rfl <;> decide)).mono ?_
    rintro _ u ⟨r', rfl, hLs', hrn', Pu, ku⟩
    walk_at "wp"
    exact ⟨r', _, rfl, hLs', Pt.live hrn', Pu⟩
  · rintro e t ⟨r, y4, rfl, ⟨ls, hls, hln, hall⟩, hrp, Pt⟩
    rw [rng_len] at hln hall
    have hc3 : c = 0 ∨ c = 1 ∨ c = 2 ∨ c = 3 := by omega
    have hb : bnd (c : Int).toNat ≤ 780 := by rcases hc3 with rfl | rfl | rfl | rfl <;> decide
    have hln : ls.length ≤ 12 := by omega
    refine ⟨okB_none, ?_⟩
    walk_at "wp"
    refine wp_lc ?_
    walk_at "wp"
    refine ⟨feed, fun s hs => okB_some (hs.get0 hls), by show (ls.map D.str).length ≤ LIM; rw [List.length_map]; simp only [LIM]; omega, ?_, ?_⟩
    · intro d hd u hu
      obtain ⟨x, hx, rfl⟩ := List.mem_map.mp (show d ∈ ls.map D.str from hd)
      have hxl := (hall x hx).2
      have e1 : (Str.ofString "\n").length = 1 := by decide +kernel
      refine ⟨_, rfl, ?_⟩
      dsimp only [wipeD, List.set]
      walk_at "wp"
      refine w_addS (by rw [e1]; simp only [LIM]; omega) ?_
      exact ⟨rfl, Chg.refl⟩
    intro L t2 hL hLn k2
    have hL : t2[L]? = some (.lst ((ls.map (· ++ Str.ofString "\n")).map D.str)) := by rw [hL]; exact congrArg (fun z => some (Cell.lst z)) (feed_map ls)
    have e0 : (Str.ofString "").length = 0 := by decide +kernel
    have e1 : (Str.ofString "\n").length = 1 := by decide +kernel
    have hsum : ((ls.map (· ++ Str.ofString "\n")).map (·.length)).sum ≤ 9372 := by
      refine Nat.le_trans (sum_le (k := 781) fun y hy => ?_) (by rw [List.length_map]; omega)
      obtain ⟨x, hx, rfl⟩ := List.mem_map.mp hy
      rw [Str.length_append, e1]
      have := (hall x hx).2
      omega
    walk_at "wp"
    refine w_join hL (strsOf_map _) (by rw [e0]; simp only [LIM]; omega) ?_
    walk_at "wp"
    refine cut_ok (Pt.keep k2) ⟨join_ok ok_empty fun y hy => ?_, ?_⟩ fun u a b c P => k _ _ _ _ _ _ P
    · obtain ⟨x, hx, rfl⟩ := List.mem_map.mp hy
      exact app_ok (hall x hx).1 (by decide +kernel)
    · refine Nat.le_trans (jlen _ _) ?_
      rw [e0]
      omega
end
def absS : D → Option D
  | .int i => some (.int (if i < 0 then -i else i))
  | _ => none
theorem abs_map (ns : List Int) : (ns.map D.int).filterMap absS = (ns.map fun i => if i < 0 then -i else i).map D.int := by
  induction ns with
  | nil => rfl
  | cons x l ih =>
    rw [List.map_cons, List.filterMap_cons]
    show D.int (if x < 0 then -x else x) :: List.filterMap absS (l.map D.int) = _
    rw [ih]
    rfl
theorem cut63 {ns : List Int} (h : ns.length ≤ 63) : LF.cutD (ns.map D.int) none (some 63) = ns.map D.int := by
  rw [show (some (63 : Int)) = some ((63 : Nat) : Int) from rfl, cutD_take, List.take_of_length_le (by rw [List.length_map]; exact h)]
theorem law_pot_ok {ns : List Int} (h : ns.length ≤ 63) {st : Sto} {X : XP} : Wp X (fun d s => ∃ p q ms, d = .ref p ∧ Pot s p q ms ∧ Chg [] st s) (f__law_pot [.scr ns] st) := by
  walk_at "fn"
  unfold b__law_pot
  walk_at "wp"
  refine wp_lc ?_
  walk_at "wp"
  refine wo_new fun L s1 hL hLn k1 => ?_
  have hL' : s1[L]? = some (.lst (ns.map D.int)) := by
    rw [hL, show (List.map (fun n => D.int n) ns) = ns.map D.int from rfl, cut63 h]
  walk_at "wp"
  refine ⟨absS, fun s hs => okB_some (hs.get0 hL'), by simp [LIM]; omega, ?_, ?_⟩
  · intro d hd s0 hs0
    obtain ⟨x, hx, rfl⟩ := List.mem_map.mp (show d ∈ ns.map D.int from hd)
    refine ⟨_, rfl, ?_⟩
    dsimp only [wipeD, List.set]
    walk_at "wp"
    exact ⟨rfl, Chg.refl⟩
  intro q s2 hq hqn k2
  walk_at "wp"
  refine wo_lst (by simp [LIM]) fun p s3 hp hpn k3 => ?_
  walk_at "wp"
  refine ⟨p, q, ns.map fun i => if i < 0 then -i else i, rfl, ⟨⟨0, 20011, 0, hp, by decide, by decide, by decide, by decide⟩, by rw [← abs_map]; exact k3.get0 hq, (fun e => by rw [e, hpn] at hq; cases hq), by simpa using h, ?_⟩, (k1.trans k2).trans k3⟩
  intro n hn
  obtain ⟨x, hx, rfl⟩ := List.mem_map.mp hn
  split <;> omega
theorem law_true (ns : List Int) (h : ns.length ≤ 63) : ∃ st, f_law [.scr ns] [] = .ok (.bl true) st := by
  suffices hs : Wp (fun _ _ _ => False) (fun x _ => x = .bl true) (f_law [.scr ns] []) by
    obtain ⟨x, s, e, rfl⟩ := hs.to
    exact ⟨s, e⟩
  walk_at "fn"
  rw [b_law_eq]
  walk_at "wp"
  refine (law_pot_ok h).mono ?_
  rintro _ s1 ⟨p, q, ms, rfl, P1, k1⟩
  walk_at "wp"
  refine owp_forS (fun i e t => ∃ (x2 x3 x4 x5 x6 x7 : Option D), e = [some (.scr ns), some (.ref p), x2, x3, x4, x5, x6, x7, none] ∧ Pot t p q ms) ?_ ?_ ⟨none, none, none, none, none, none, rfl, P1⟩
  · rintro i x e t hx ⟨x2, x3, x4, x5, x6, x7, rfl, Pt⟩
    obtain ⟨hi, rfl⟩ := rng_get hx
    refine ⟨okB_none, _, rfl, ?_⟩
    dsimp only [List.set]
    exact turn_ok Pt fun t2 a b c d e Pt2 => ⟨_, _, _, _, _, _, rfl, Pt2⟩
  · rintro e t ⟨x2, x3, x4, x5, x6, x7, rfl, Pt⟩
    refine ⟨okB_none, ?_⟩
    have fin : ∀ {d : D} {k : Kd} {u : Sto}, kind d u = some k → ansTy "str" k = some false → Wp (fun _ _ _ => False) (fun x s => Wp (fun _ _ _ => False) (fun y s' => Wo (fun d _ => d = D.bl true) (opEq x y s')) (eBlt opTup [eC (.str (Str.ofString "text")), eC (.int 0), eC (.str (Str.ofString "text"))] [some (.scr ns), some (.ref p), x2, x3, x4, x5, x6, x7, none] s)) (f__law_found [d] u) := fun hk hb => by
      refine (law_found_no hk hb).mono ?_
      rintro _ _ ⟨rfl, rfl⟩
      walk_at "wp"
      refine w_tup (by simp [LIM]) ?_
      refine w_eq (eqD_pl (n := 1) (.tup 0 _ (fun d hd => ?_) (by simp)) (by omega)) rfl
      simp only [List.mem_cons, List.not_mem_nil, or_false] at hd
      rcases hd with rfl | rfl | rfl
      · exact .str _ _ ok_text
      · exact .int _ _
      · exact .str _ _ ok_text
    walk_at "wp"
    refine w_tup (by simp [LIM]) ?_
    walk_at "wp"
    refine wo_lst (by simp [LIM]) fun A t1 hA hAn j1 => ?_
    walk_at "wp"
    refine r_newD fun e2 t2 he hen j2 => ?_
    walk_at "wp"
    refine wo_lst (by simp [LIM]) fun B t3 hB hBn j3 => ?_
    walk_at "wp"
    refine (law_pick (((Pt.keep j1).keep j2).keep j3) hB (by simp) (by simp) (((Pt.keep j1).keep j2).live hBn)).mono ?_
    rintro d t4 ⟨hd, P4, j4⟩
    have hA4 := j4.get (by simpa using (Pt.live hAn)) (j3.get0 (j2.get0 hA))
    have he4 := j4.get (by simpa using ((Pt.keep j1).live hen)) (j3.get0 he)
    simp only [List.mem_cons, List.not_mem_nil, or_false] at hd
    rcases hd with rfl | rfl | rfl | rfl | rfl | rfl
    · walk_at "wp"
      exact fin (k := .non) rfl rfl
    · walk_at "wp"
      exact fin (k := .int) rfl rfl
    · walk_at "wp"
      exact fin (k := .tup) rfl rfl
    · walk_at "wp"
      exact fin (k := .lst) (by simp only [kind, hA4]) rfl
    · walk_at "wp"
      exact fin (k := .bl) rfl rfl
    · walk_at "wp"
      exact fin (k := .dct) (by simp only [kind, he4]) rfl
end K03
open LF
open PySem PySem.W PyProof.Rows in
set_option maxRecDepth 100000 in
set_option maxHeartbeats 0 in
theorem PySem.Challenge.cw_lampfolk_k03_first_wrong_lines_holds : PySem.Challenge.rw_lampfolk_k03_first_wrong_lines.Holds := by
  w_on; o_law; k_head; (case hw => w_witness2)
  k_fill
  refine L2.walk_of (l := PySem.Challenge.rw_lampfolk_k03_first_wrong_lines) (n := 63) (k := 10) (x := "script") (CX := fun w => L2.CX PySem.Challenge.rw_lampfolk_k03_first_wrong_lines.prog w) (sp := fun w => K03.spLaw _) rfl (by decide) rfl ⟨rfl, by decide, by decide⟩ (fun w h Y => PySem.W.kIn_of Y) ?F (fun w H a ns hl hO hS => ⟨a, ns, rfl, hl, hO, hS, fun _ => rfl⟩) ?E
  case E =>
    intro w H s e s' z
    obtain ⟨_, _, _, _, _, _, _, _, _, _, _, _, z⟩ := z
    exact z.elim
  case F =>
    intro w mg fa h KX G hmg
    obtain ⟨T, e1, e2⟩ : ∃ T : K03.Tx ⟨_, _, _, _⟩ mg w PySem.Challenge.rw_lampfolk_k03_first_wrong_lines.prog, T.a_law = fa ∧ (∀ (s : Shared) (u : Value), BindsTo s T.d_law ⟨[u], []⟩ [("script", u)]) := by
      refine' K03.all_mk (P := PySem.Challenge.rw_lampfolk_k03_first_wrong_lines.prog) KX G hmg ?n_LampError ?x_LampError ?fi_LampError ?sup_top ?sup_mg ?sup_opq ?n_BadProgram ?x_BadProgram ?sa_BadProgram ?eb_BadProgram ?ty_BadProgram ?kc_BadProgram ?ni_BadProgram ?ti_BadProgram ?li_BadProgram ?ci_BadProgram ?cl_BadProgram ?co_BadProgram ?fi_BadProgram ?sc_BadProgram ?sv_BadProgram ?xn_BadProgram_what ?n_BadText ?x_BadText ?sa_BadText ?eb_BadText ?ty_BadText ?kc_BadText ?ni_BadText ?ti_BadText ?li_BadText ?ci_BadText ?cl_BadText ?co_BadText ?fi_BadText ?sc_BadText ?sv_BadText ?xn_BadText_line ?xn_BadText_what ?isc_BadProgram ?sub_BadProgram_BadProgram ?sub_BadText_BadProgram ?isc_BadText ?sub_BadProgram_BadText ?sub_BadText_BadText ?ga_BadProgram ?gg_BadProgram ?hd_BadProgram ?ga_BadText ?gg_BadText ?hd_BadText ?n_Program ?pg_Program ?hd_Program ?po_Program ?sa_Program ?mk_Program ?kc_Program ?n_LineReader ?pg_LineReader ?hd_LineReader ?po_LineReader ?sa_LineReader ?mk_LineReader ?kc_LineReader ?na_first_Program ?na_lamp_Program ?na_last_LineReader ?na_leader_Program ?na_read_rows_LineReader ?na_steps_Program ?n_is_number ?l_is_number ?c_is_number ?k_is_number ?n_is_within ?l_is_within ?c_is_within ?k_is_within ?n_is_word ?l_is_word ?c_is_word ?k_is_word ?n_is_step ?l_is_step ?c_is_step ?k_is_step ?n_are_steps ?l_are_steps ?c_are_steps ?k_are_steps ?n_number_in ?l_number_in ?c_number_in ?k_number_in ?n_is_saying_word ?l_is_saying_word ?c_is_saying_word ?k_is_saying_word ?n_saying_in ?l_saying_in ?c_saying_in ?k_saying_in ?n_LineReader_init ?i_LineReader_init ?l_LineReader_init ?c_LineReader_init ?k_LineReader_init ?n_LineReader_takes_row ?i_LineReader_takes_row ?l_LineReader_takes_row ?c_LineReader_takes_row ?k_LineReader_takes_row ?n_LineReader_takes ?i_LineReader_takes ?l_LineReader_takes ?c_LineReader_takes ?k_LineReader_takes ?n_Program_init ?i_Program_init ?l_Program_init ?c_Program_init ?k_Program_init ?n_read_program ?l_read_program ?c_read_program ?k_read_program ?n__law_pot ?l__law_pot ?c__law_pot ?k__law_pot ?n__law_draw ?l__law_draw ?c__law_draw ?k__law_draw ?n__law_pick ?l__law_pick ?c__law_pick ?k__law_pick ?n__law_same ?l__law_same ?c__law_same ?k__law_same ?n__law_within ?l__law_within ?c__law_within ?k__law_within ?n__law_saying ?l__law_saying ?c__law_saying ?k__law_saying ?n__law_spec ?l__law_spec ?c__law_spec ?k__law_spec ?n__law_is_word ?l__law_is_word ?c__law_is_word ?k__law_is_word ?n__law_fault ?l__law_fault ?c__law_fault ?k__law_fault ?n__law_lines ?l__law_lines ?c__law_lines ?k__law_lines ?n__law_number ?l__law_number ?c__law_number ?k__law_number ?n__law_taken ?l__law_taken ?c__law_taken ?k__law_taken ?n__law_reader ?l__law_reader ?c__law_reader ?k__law_reader ?n__law_bent_line ?l__law_bent_line ?c__law_bent_line ?k__law_bent_line ?n__law_bent_text ?l__law_bent_text ?c__law_bent_text ?k__law_bent_text ?n__law_found ?l__law_found ?c__law_found ?k__law_found ?n_law ?l_law ?c_law ?k_law ?z_abs ?z_all ?z_bool ?z_enumerate ?z_int ?z_isinstance ?z_len ?z_list ?z_range ?z_str ?z_tuple ?kc_MOST_SAID ?kc_ALL ?kc_MOST_STATES ?kc_MOST_COLOURS ?kc_DIGITS ?kc_MOST_DIGITS ?kc_HEADS ?kl_HEADS ?kc_OPEN ?kl_OPEN ?kk_OPEN ?ks_OPEN ?kg_OPEN_first ?kg_OPEN_leader ?kg_OPEN_lamp
      (case n_LampError => k_is)
      (case x_LampError => k_is)
      (case fi_LampError => k_is)
      (case sup_top => rfl)
      (case sup_mg => k_is)
      (case sup_opq => k_is)
      (case n_BadProgram => k_is)
      (case x_BadProgram => k_is)
      (case sa_BadProgram => k_is)
      (case eb_BadProgram => k_is)
      (case ty_BadProgram => k_is)
      (case kc_BadProgram => k_is)
      (case ni_BadProgram => k_is)
      (case ti_BadProgram => k_is)
      (case li_BadProgram => k_is)
      (case ci_BadProgram => k_is)
      (case cl_BadProgram => k_is)
      (case co_BadProgram => k_is)
      (case fi_BadProgram => rfl)
      (case sc_BadProgram => k_is)
      (case sv_BadProgram => k_is)
      (case xn_BadProgram_what => k_is)
      (case n_BadText => k_is)
      (case x_BadText => k_is)
      (case sa_BadText => k_is)
      (case eb_BadText => k_is)
      (case ty_BadText => k_is)
      (case kc_BadText => k_is)
      (case ni_BadText => k_is)
      (case ti_BadText => k_is)
      (case li_BadText => k_is)
      (case ci_BadText => k_is)
      (case cl_BadText => k_is)
      (case co_BadText => k_is)
      (case fi_BadText => rfl)
      (case sc_BadText => k_is)
      (case sv_BadText => k_is)
      (case xn_BadText_line => k_is)
      (case xn_BadText_what => k_is)
      (case isc_BadProgram => k_is)
      (case sub_BadProgram_BadProgram => k_is)
      (case sub_BadText_BadProgram => k_is)
      (case isc_BadText => k_is)
      (case sub_BadProgram_BadText => k_is)
      (case sub_BadText_BadText => k_is)
      (case ga_BadProgram => k_is)
      (case gg_BadProgram => k_is)
      (case hd_BadProgram => k_is)
      (case ga_BadText => k_is)
      (case gg_BadText => k_is)
      (case hd_BadText => k_is)
      (case n_Program => k_is)
      (case pg_Program => k_is)
      (case hd_Program => k_is)
      (case po_Program => k_is)
      (case sa_Program => k_is)
      (case mk_Program => k_is)
      (case kc_Program => k_is)
      (case n_LineReader => k_is)
      (case pg_LineReader => k_is)
      (case hd_LineReader => k_is)
      (case po_LineReader => k_is)
      (case sa_LineReader => k_is)
      (case mk_LineReader => k_is)
      (case kc_LineReader => k_is)
      (case na_first_Program => unfold L2.NoAttr; k_is)
      (case na_lamp_Program => unfold L2.NoAttr; k_is)
      (case na_last_LineReader => unfold L2.NoAttr; k_is)
      (case na_leader_Program => unfold L2.NoAttr; k_is)
      (case na_read_rows_LineReader => unfold L2.NoAttr; k_is)
      (case na_steps_Program => unfold L2.NoAttr; k_is)
      (case n_is_number => k_is)
      (case l_is_number => k_is)
      (case c_is_number => k_is)
      (case k_is_number => k_is)
      (case n_is_within => k_is)
      (case l_is_within => k_is)
      (case c_is_within => k_is)
      (case k_is_within => k_is)
      (case n_is_word => k_is)
      (case l_is_word => k_is)
      (case c_is_word => k_is)
      (case k_is_word => k_is)
      (case n_is_step => k_is)
      (case l_is_step => k_is)
      (case c_is_step => k_is)
      (case k_is_step => k_is)
      (case n_are_steps => k_is)
      (case l_are_steps => k_is)
      (case c_are_steps => k_is)
      (case k_are_steps => k_is)
      (case n_number_in => k_is)
      (case l_number_in => k_is)
      (case c_number_in => k_is)
      (case k_number_in => k_is)
      (case n_is_saying_word => k_is)
      (case l_is_saying_word => k_is)
      (case c_is_saying_word => k_is)
      (case k_is_saying_word => k_is)
      (case n_saying_in => k_is)
      (case l_saying_in => k_is)
      (case c_saying_in => k_is)
      (case k_saying_in => k_is)
      (case n_LineReader_init => k_is)
      (case i_LineReader_init => k_is)
      (case l_LineReader_init => k_is)
      (case c_LineReader_init => k_is)
      (case k_LineReader_init => k_is)
      (case n_LineReader_takes_row => k_is)
      (case i_LineReader_takes_row => k_is)
      (case l_LineReader_takes_row => k_is)
      (case c_LineReader_takes_row => k_is)
      (case k_LineReader_takes_row => k_is)
      (case n_LineReader_takes => k_is)
      (case i_LineReader_takes => k_is)
      (case l_LineReader_takes => k_is)
      (case c_LineReader_takes => k_is)
      (case k_LineReader_takes => k_is)
      (case n_Program_init => k_is)
      (case i_Program_init => k_is)
      (case l_Program_init => k_is)
      (case c_Program_init => k_is)
      (case k_Program_init => k_is)
      (case n_read_program => k_is)
      (case l_read_program => k_is)
      (case c_read_program => k_is)
      (case k_read_program => k_is)
      (case n__law_pot => k_is)
      (case l__law_pot => k_is)
      (case c__law_pot => k_is)
      (case k__law_pot => k_is)
      (case n__law_draw => k_is)
      (case l__law_draw => k_is)
      (case c__law_draw => k_is)
      (case k__law_draw => k_is)
      (case n__law_pick => k_is)
      (case l__law_pick => k_is)
      (case c__law_pick => k_is)
      (case k__law_pick => k_is)
      (case n__law_same => k_is)
      (case l__law_same => k_is)
      (case c__law_same => k_is)
      (case k__law_same => k_is)
      (case n__law_within => k_is)
      (case l__law_within => k_is)
      (case c__law_within => k_is)
      (case k__law_within => k_is)
      (case n__law_saying => k_is)
      (case l__law_saying => k_is)
      (case c__law_saying => k_is)
      (case k__law_saying => k_is)
      (case n__law_spec => k_is)
      (case l__law_spec => k_is)
      (case c__law_spec => k_is)
      (case k__law_spec => k_is)
      (case n__law_is_word => k_is)
      (case l__law_is_word => k_is)
      (case c__law_is_word => k_is)
      (case k__law_is_word => k_is)
      (case n__law_fault => k_is)
      (case l__law_fault => k_is)
      (case c__law_fault => k_is)
      (case k__law_fault => k_is)
      (case n__law_lines => k_is)
      (case l__law_lines => k_is)
      (case c__law_lines => k_is)
      (case k__law_lines => k_is)
      (case n__law_number => k_is)
      (case l__law_number => k_is)
      (case c__law_number => k_is)
      (case k__law_number => k_is)
      (case n__law_taken => k_is)
      (case l__law_taken => k_is)
      (case c__law_taken => k_is)
      (case k__law_taken => k_is)
      (case n__law_reader => k_is)
      (case l__law_reader => k_is)
      (case c__law_reader => k_is)
      (case k__law_reader => k_is)
      (case n__law_bent_line => k_is)
      (case l__law_bent_line => k_is)
      (case c__law_bent_line => k_is)
      (case k__law_bent_line => k_is)
      (case n__law_bent_text => k_is)
      (case l__law_bent_text => k_is)
      (case c__law_bent_text => k_is)
      (case k__law_bent_text => k_is)
      (case n__law_found => k_is)
      (case l__law_found => k_is)
      (case c__law_found => k_is)
      (case k__law_found => k_is)
      (case n_law => k_is)
      (case l_law => k_is)
      (case c_law => k_is)
      (case k_law => k_is)
      (case z_abs => k_is)
      (case z_all => k_is)
      (case z_bool => k_is)
      (case z_enumerate => k_is)
      (case z_int => k_is)
      (case z_isinstance => k_is)
      (case z_len => k_is)
      (case z_list => k_is)
      (case z_range => k_is)
      (case z_str => k_is)
      (case z_tuple => k_is)
      (case kc_MOST_SAID => k_is)
      (case kc_ALL => k_is)
      (case kc_MOST_STATES => k_is)
      (case kc_MOST_COLOURS => k_is)
      (case kc_DIGITS => k_is)
      (case kc_MOST_DIGITS => k_is)
      (case kc_HEADS => k_is)
      (case kl_HEADS => k_is)
      (case kc_OPEN => k_is)
      (case kl_OPEN => k_is)
      (case kk_OPEN => exact ⟨⟨_, _, rfl, rfl⟩, ⟨_, _, rfl, rfl⟩, True.intro⟩)
      (case ks_OPEN => rfl)
      (case kg_OPEN_first => k_is)
      (case kg_OPEN_leader => k_is)
      (case kg_OPEN_lamp => k_is)
    subst e1
    exact ⟨T.d_law, e2, fun base _ _ => K03.end_ok (K03.ok_law T) K03.law_true⟩
