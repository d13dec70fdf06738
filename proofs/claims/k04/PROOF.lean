import PyProof.Rows.All
import Wide.All
import OpenK.AllK
import Wide.FinOn
import HandS.ForMost
import HandS.ForExc
import HandS.CallSlots
import HandS.TryMany
import HandS.Flow
import HandS.RaiseMore
import HandS.Lambda
import HandS.IsInst
import HandS.TupAny
import HandS.StrMore
import HandS.Text
import HandS.FStr
import HandS.Deep
import HandS.ExcOwn
import HandS.WordsExc
import HandS.NoneIn
import HandS.Iter
import HandS.Comp
import HandS.Dict
import KE.KExcSuper
import HandS.ExcInit
import HandS.ExcField
import HandS.TupMul
import PyProof.Rows.IntBool
import PyProof.StrOps2
import PyProof.NeKinds
import PyProof.CallStr
import HandS.EndTab
import KE.KNestM
import HandS.Star
import HandS.Conv
import KE.GoesMore
import PyProof.Rows.Walk
import PySem.Challenge.RW_lampfolk_k04_whole_visits_and_sayings
set_option Elab.async false
set_option linter.all false
set_option maxRecDepth 100000
set_option maxHeartbeats 4000000
/-! The layer: values as trees, a store of cells, programs as functions on both. -/
namespace LF
open PySem PySem.Spec PyProof.Rows L2

/-! ### values, cells, results -/
inductive D where
  | non | bl (b : Bool) | int (i : Int) | str (x : Str) | tup (ds : List D) | ref (i : Nat) | glo (n : Nat) | ty (n : String) | scr (ns : List Int) | xc
inductive Cell where
  | lst (ds : List D)
  | ins (c : Nat) (fs : List (String × D))
  | dct
abbrev Sto := List Cell
abbrev Sl := List (Option D)
inductive Res (α : Type) where
  | ok (a : α) (s : Sto)
  | exn (c : Nat) (fs : List (String × D)) (s : Sto)
  | bad
def Res.bind {α β : Type} : Res α → (α → Sto → Res β) → Res β
  | .ok a s, f => f a s
  | .exn c fs s, _ => .exn c fs s
  | .bad, _ => .bad
abbrev M (α : Type) := Sto → Res α
abbrev E := Sl → M D

/-- what stands at which address: the written part, the addresses of the module's own things -/
structure Gx where
  K : PySem.W.Frag
  tb : Nat → Addr
  /-- the exception at hand: its address, its dict, its fields -/
  xi : Option (Addr × Addr × List (String × D))
  /-- tables of code objects -/
  T : List (Addr × Str)

/-- a list that is only read -/
def SqS (K : PySem.W.Frag) (H : Hp) (a : Addr) (xs : List V) : Prop :=
  (∃ o, H a = some (.frz o (.lst xs))) ∨
    ∃ (o : Obj) (its : Array Value) (n : Nat), K.lookup a = some o ∧ o.cls = .type "list" ∧ o.dict = none ∧ o.data = .seq its n ∧ its.size ≤ sizeLine ∧ Vals xs its.toList
theorem SqS.l {K : PySem.W.Frag} {H : Hp} {a : Addr} {xs : List V} (h : SqS K H a xs) : SqL K H a xs := by
  rcases h with ⟨o, h⟩ | h
  · exact .inl (.inr ⟨o, h⟩)
  · exact .inr h

/-- a tuple: tracked, or an object of the written part -/
def SqU (K : PySem.W.Frag) (H : Hp) (a : Addr) (xs : List V) : Prop :=
  H a = some (.tup xs) ∨ ∃ (o : Obj) (its : Array Value) (n : Nat), K.lookup a = some o ∧ o.cls = .type "tuple" ∧ o.data = .seq its n ∧ its.size ≤ sizeLine ∧ Vals xs its.toList
theorem SqU.t {K : PySem.W.Frag} {H : Hp} {a : Addr} {xs : List V} (h : SqU K H a xs) : SqT K H a xs := by
  rcases h with h | h
  · exact .inl (.inl h)
  · exact .inr h
section
variable (G : Gx)
mutual
def RV (ms : List Addr) (H : Hp) : D → V → Prop
  | .non, v => v = .non
  | .bl b, v => v = .bl b
  | .int i, v => v = .int i
  | .str x, v => v = .str x
  | .tup ds, v => ∃ a vs, v = .ref a ∧ SqU G.K H a vs ∧ RVs ms H ds vs
  | .ref i, v => ∃ a, v = .ref a ∧ ms[i]? = some a
  | .glo n, v => v = .ref (G.tb n)
  | .ty n, v => v = .ty n
  | .scr ns, v => ∃ a, v = .ref a ∧ SqS G.K H a (ns.map V.int)
  | .xc, v => ∃ a d fs, G.xi = some (a, d, fs) ∧ v = .ref a
def RVs (ms : List Addr) (H : Hp) : List D → List V → Prop
  | [], vs => vs = []
  | d :: ds, vs => ∃ v r, vs = v :: r ∧ RV ms H d v ∧ RVs ms H ds r
end
/-- fields -/
def RF (ms : List Addr) (H : Hp) : List (String × D) → List (Str × V) → Prop
  | [], gs => gs = []
  | p :: fs, gs => ∃ v r, gs = (Str.ofString p.1, v) :: r ∧ RV G ms H p.2 v ∧ RF ms H fs r
/-- slots -/
def RE (ms : List Addr) (H : Hp) : Sl → L2.St → Prop
  | [], σ => σ = []
  | none :: e, σ => ∃ o r, σ = o :: r ∧ RE ms H e r
  | some d :: e, σ => ∃ v r, σ = some v :: r ∧ RV G ms H d v ∧ RE ms H e r
/-- the addresses grow, what never changes stays -/
structure Gr (ms : List Addr) (H : Hp) (ms' : List Addr) (H' : Hp) : Prop where
  pre : ∃ t, ms' = ms ++ t
  tup : ∀ a xs, H a = some (.tup xs) → H' a = some (.tup xs)
  frz : ∀ a o u, H a = some (.frz o u) → H' a = some (.frz o u)
variable {G}
variable {ms ms' ms1 ms2 : List Addr} {H H' H1 H2 : Hp}
theorem Gr.refl : Gr ms H ms H := ⟨⟨[], by simp⟩, fun _ _ h => h, fun _ _ _ h => h⟩
theorem Gr.trans (a : Gr ms H ms1 H1) (b : Gr ms1 H1 ms2 H2) : Gr ms H ms2 H2 := by
  obtain ⟨t, rfl⟩ := a.pre
  obtain ⟨u, rfl⟩ := b.pre
  exact ⟨⟨t ++ u, by simp⟩, fun c xs h => b.tup c xs (a.tup c xs h), fun c o u h => b.frz c o u (a.frz c o u h)⟩
theorem Gr.sqT {K : PySem.W.Frag} {a : Addr} {xs : List V} (g : Gr ms H ms' H') (h : SqU K H a xs) : SqU K H' a xs := by
  rcases h with h | h
  · exact .inl (g.tup _ _ h)
  · exact .inr h
theorem Gr.sqS {K : PySem.W.Frag} {a : Addr} {xs : List V} (g : Gr ms H ms' H') (h : SqS K H a xs) : SqS K H' a xs := by
  rcases h with ⟨o, h⟩ | h
  · exact .inl ⟨o, g.frz _ _ _ h⟩
  · exact .inr h
theorem Gr.at (g : Gr ms H ms' H') {i : Nat} {a : Addr} (h : ms[i]? = some a) : ms'[i]? = some a := by
  obtain ⟨t, rfl⟩ := g.pre
  obtain ⟨h1, h2⟩ := List.getElem?_eq_some_iff.mp h
  rw [List.getElem?_append_left h1]
  exact h
mutual
theorem RV.gr (g : Gr ms H ms' H') : ∀ (d : D) (v : V), RV G ms H d v → RV G ms' H' d v
  | .non, _, h => h
  | .bl _, _, h => h
  | .int _, _, h => h
  | .str _, _, h => h
  | .tup ds, _, h => by
    simp only [RV] at h ⊢
    obtain ⟨a, vs, e, h1, h2⟩ := h
    exact ⟨a, vs, e, g.sqT h1, RVs.gr g ds vs h2⟩
  | .ref _, _, h => by
    simp only [RV] at h ⊢
    obtain ⟨a, e, h1⟩ := h
    exact ⟨a, e, g.at h1⟩
  | .glo _, _, h => h
  | .ty _, _, h => h
  | .scr _, _, h => by
    simp only [RV] at h ⊢
    obtain ⟨a, e, h1⟩ := h
    exact ⟨a, e, g.sqS h1⟩
  | .xc, _, h => by
    simp only [RV] at h ⊢
    exact h
theorem RVs.gr (g : Gr ms H ms' H') : ∀ (ds : List D) (vs : List V), RVs G ms H ds vs → RVs G ms' H' ds vs
  | [], _, h => h
  | d :: ds, _, h => by
    simp only [RVs] at h ⊢
    obtain ⟨v, r, e, h1, h2⟩ := h
    exact ⟨v, r, e, RV.gr g d v h1, RVs.gr g ds r h2⟩
end
theorem RF.gr (g : Gr ms H ms' H') : ∀ {fs : List (String × D)} {gs : List (Str × V)}, RF G ms H fs gs → RF G ms' H' fs gs
  | [], _, h => h
  | p :: fs, _, h => by
    obtain ⟨v, r, e, h1, h2⟩ := h
    exact ⟨v, r, e, RV.gr g _ _ h1, RF.gr g h2⟩
theorem RE.gr (g : Gr ms H ms' H') : ∀ {e : Sl} {σ : L2.St}, RE G ms H e σ → RE G ms' H' e σ
  | [], _, h => h
  | none :: e, _, h => by
    obtain ⟨o, r, e, h1⟩ := h
    exact ⟨o, r, e, RE.gr g h1⟩
  | some d :: e, _, h => by
    obtain ⟨v, r, e, h1, h2⟩ := h
    exact ⟨v, r, e, RV.gr g _ _ h1, RE.gr g h2⟩
theorem RVs.length : ∀ {ds : List D} {vs : List V}, RVs G ms H ds vs → vs.length = ds.length
  | [], _, h => by
    simp only [RVs] at h
    rw [h]
    rfl
  | d :: ds, _, h => by
    simp only [RVs] at h
    obtain ⟨v, r, e, _, h2⟩ := h
    rw [e, List.length_cons, List.length_cons, RVs.length h2]
theorem RVs.at : ∀ {ds : List D} {vs : List V} {i : Nat} {d : D}, RVs G ms H ds vs → ds[i]? = some d → ∃ v, vs[i]? = some v ∧ RV G ms H d v
  | [], _, _, _, _, e => by simp at e
  | d :: ds, _, 0, _, h, e => by
    simp only [RVs] at h
    obtain ⟨v, r, rfl, h1, _⟩ := h
    obtain rfl : d = _ := Option.some.inj e
    exact ⟨v, rfl, h1⟩
  | d :: ds, _, i + 1, _, h, e => by
    simp only [RVs] at h
    obtain ⟨v, r, rfl, _, h2⟩ := h
    obtain ⟨u, h3, h4⟩ := RVs.at (i := i) h2 (by simpa using e)
    exact ⟨u, by simpa using h3, h4⟩
theorem RVs.back : ∀ {ds : List D} {vs : List V} {i : Nat} {v : V}, RVs G ms H ds vs → vs[i]? = some v → ∃ d, ds[i]? = some d ∧ RV G ms H d v := fun {ds vs i v} h e => by
  have hl := h.length
  obtain ⟨h1, h2⟩ := List.getElem?_eq_some_iff.mp e
  obtain ⟨u, h3, h4⟩ := h.at (i := i) (d := ds[i]) (by simp [← hl, h1])
  rw [e] at h3
  cases h3
  exact ⟨_, by simp [← hl, h1], h4⟩
theorem RVs.app : ∀ {ds es : List D} {vs us : List V}, RVs G ms H ds vs → RVs G ms H es us → RVs G ms H (ds ++ es) (vs ++ us)
  | [], _, _, _, h, k => by
    simp only [RVs] at h
    rw [h]
    exact k
  | d :: ds, _, _, _, h, k => by
    simp only [RVs, List.cons_append] at h ⊢
    obtain ⟨v, r, rfl, h1, h2⟩ := h
    exact ⟨v, r ++ _, rfl, h1, RVs.app h2 k⟩
theorem RVs.one {d : D} {v : V} (h : RV G ms H d v) : RVs G ms H [d] [v] := by
  simp only [RVs]
  exact ⟨v, [], rfl, h, rfl⟩
theorem RVs.take : ∀ {ds : List D} {vs : List V} (n : Nat), RVs G ms H ds vs → RVs G ms H (ds.take n) (vs.take n)
  | _, _, 0, _ => by simp [RVs]
  | [], _, n + 1, h => by
    simp only [RVs] at h
    rw [h]
    simp [RVs]
  | d :: ds, _, n + 1, h => by
    simp only [RVs, List.take_succ_cons] at h ⊢
    obtain ⟨v, r, rfl, h1, h2⟩ := h
    exact ⟨v, r.take n, rfl, h1, RVs.take n h2⟩
theorem RVs.drop : ∀ {ds : List D} {vs : List V} (n : Nat), RVs G ms H ds vs → RVs G ms H (ds.drop n) (vs.drop n)
  | _, _, 0, h => h
  | [], _, n + 1, h => by
    simp only [RVs] at h
    rw [h]
    simp [RVs]
  | d :: ds, _, n + 1, h => by
    simp only [RVs, List.drop_succ_cons] at h ⊢
    obtain ⟨v, r, rfl, h1, h2⟩ := h
    exact RVs.drop n h2
theorem RVs.set : ∀ {ds : List D} {vs : List V} {d : D} {v : V} (n : Nat), RVs G ms H ds vs → RV G ms H d v → RVs G ms H (ds.set n d) (vs.set n v)
  | [], _, _, _, _, h, _ => by
    simp only [RVs] at h
    rw [h]
    simp [RVs]
  | d :: ds, _, _, _, 0, h, k => by
    simp only [RVs] at h
    obtain ⟨v, r, rfl, h1, h2⟩ := h
    simp only [List.set_cons_zero, RVs]
    exact ⟨_, r, rfl, k, h2⟩
  | d :: ds, _, _, _, n + 1, h, k => by
    simp only [RVs] at h
    obtain ⟨v, r, rfl, h1, h2⟩ := h
    simp only [List.set_cons_succ, RVs]
    exact ⟨v, _, rfl, h1, RVs.set n h2 k⟩
theorem RVs.rep {d : D} {v : V} (h : RV G ms H d v) : ∀ n, RVs G ms H (List.replicate n d) (List.replicate n v)
  | 0 => by simp [RVs]
  | n + 1 => by
    simp only [List.replicate_succ, RVs]
    exact ⟨v, _, rfl, h, RVs.rep h n⟩
theorem RVs.ints : ∀ ns : List Int, RVs G ms H (ns.map D.int) (ns.map V.int)
  | [] => by simp [RVs]
  | n :: ns => by
    simp only [List.map_cons, RVs]
    exact ⟨_, _, rfl, by simp only [RV], RVs.ints ns⟩
theorem RE.len : ∀ {e : Sl} {σ : L2.St}, RE G ms H e σ → σ.length = e.length
  | [], _, h => by
    rw [show _ = _ from h]
    rfl
  | none :: e, _, h => by
    obtain ⟨o, r, rfl, h1⟩ := h
    simp [h1.len]
  | some d :: e, _, h => by
    obtain ⟨v, r, rfl, _, h1⟩ := h
    simp [h1.len]
theorem RE.at : ∀ {e : Sl} {σ : L2.St} {i : Nat} {d : D}, RE G ms H e σ → e[i]? = some (some d) → ∃ v, σ[i]? = some (some v) ∧ RV G ms H d v
  | [], _, _, _, _, e => by simp at e
  | none :: _, _, 0, _, _, e => by simp at e
  | some d :: _, _, 0, _, h, e => by
    obtain ⟨v, r, rfl, h1, _⟩ := h
    simp at e
    subst e
    exact ⟨v, rfl, h1⟩
  | none :: e, _, i + 1, _, h, q => by
    obtain ⟨o, r, rfl, h1⟩ := h
    obtain ⟨v, h3, h4⟩ := h1.at (i := i) (by simpa using q)
    exact ⟨v, by simpa using h3, h4⟩
  | some d :: e, _, i + 1, _, h, q => by
    obtain ⟨v, r, rfl, _, h1⟩ := h
    obtain ⟨v, h3, h4⟩ := h1.at (i := i) (by simpa using q)
    exact ⟨v, by simpa using h3, h4⟩
theorem RE.set {d : D} {v : V} (k : RV G ms H d v) : ∀ {e : Sl} {σ : L2.St} (i : Nat), RE G ms H e σ → RE G ms H (e.set i (some d)) (σ.set i (some v))
  | [], _, _, h => by
    rw [show _ = _ from h]
    exact rfl
  | none :: e, _, 0, h => by
    obtain ⟨o, r, rfl, h1⟩ := h
    exact ⟨v, r, rfl, k, h1⟩
  | some _ :: e, _, 0, h => by
    obtain ⟨_, r, rfl, _, h1⟩ := h
    exact ⟨v, r, rfl, k, h1⟩
  | none :: e, _, i + 1, h => by
    obtain ⟨o, r, rfl, h1⟩ := h
    exact ⟨_, _, rfl, RE.set k i h1⟩
  | some _ :: e, _, i + 1, h => by
    obtain ⟨u, r, rfl, h0, h1⟩ := h
    exact ⟨u, _, rfl, h0, RE.set k i h1⟩
theorem RE.unset : ∀ {e : Sl} {σ : L2.St} (i : Nat), RE G ms H e σ → RE G ms H (e.set i none) (σ.set i none)
  | [], _, _, h => by
    rw [show _ = _ from h]
    exact rfl
  | none :: e, _, 0, h => by
    obtain ⟨o, r, rfl, h1⟩ := h
    exact ⟨_, r, rfl, h1⟩
  | some _ :: e, _, 0, h => by
    obtain ⟨_, r, rfl, _, h1⟩ := h
    exact ⟨_, r, rfl, h1⟩
  | none :: e, _, i + 1, h => by
    obtain ⟨o, r, rfl, h1⟩ := h
    exact ⟨_, _, rfl, RE.unset i h1⟩
  | some _ :: e, _, i + 1, h => by
    obtain ⟨u, r, rfl, h0, h1⟩ := h
    exact ⟨u, _, rfl, h0, RE.unset i h1⟩
theorem RE.start : ∀ {ds : List D} {vs : List V} (n : Nat), RVs G ms H ds vs → RE G ms H (ds.map some ++ List.replicate n none) (vs.map some ++ List.replicate n none)
  | [], _, n, h => by
    simp only [RVs] at h
    rw [h]
    show RE G ms H (List.replicate n none) (List.replicate n none)
    induction n with
    | zero => exact rfl
    | succ n ih =>
      rw [List.replicate_succ, List.replicate_succ]
      exact ⟨_, _, rfl, ih⟩
  | d :: ds, _, n, h => by
    simp only [RVs] at h
    obtain ⟨v, r, rfl, h1, h2⟩ := h
    exact ⟨v, _, rfl, h1, RE.start n h2⟩

/-! ### the store -/
def CellOk (G : Gx) (ms : List Addr) (H : Hp) (a : Addr) : Cell → Prop
  | .lst ds => ∃ vs, H a = some (.lst vs) ∧ RVs G ms H ds vs
  | .ins c fs => ∃ dx gs, H a = some (.ins (G.tb c) dx gs) ∧ RF G ms H fs gs
  | .dct => H a = some (.dK [])
/-- an object that a cell never is -/
def NoCell (o : HO) : Prop := (∃ xs, o = .tup xs) ∨ (∃ ob u, o = .frz ob u) ∨ (∃ x, o = .own x) ∨ (∃ fs, o = .xd fs) ∨ (∃ ps, o = .tbl ps) ∨ ∃ f, o = .ext f
/-- all but the cells stay -/
def Keeps (H H' : Hp) : Prop := ∀ b o, H b = some o → NoCell o → H' b = some o
theorem Keeps.tabs {T : List (Addr × Str)} {H H' : Hp} (k : Keeps H H') (t : LamX.Tabs T H) : LamX.Tabs T H' := fun p hp => by
  obtain ⟨ps, h1, h2, h3⟩ := t p hp
  refine ⟨ps, k _ _ h1 (.inr (.inr (.inr (.inr (.inl ⟨_, rfl⟩))))), h2, fun pos cv hc => ?_⟩
  obtain ⟨c, e1, e2⟩ := h3 pos cv hc
  exact ⟨c, e1, k _ _ e2 (.inr (.inr (.inr (.inr (.inr ⟨_, rfl⟩)))))⟩
theorem Keeps.new {H : Hp} {p : Addr} {o : HO} (hp : H p = none) : Keeps H (upd H p o) := fun b u e _ => by
  rw [upd_ne (ne_of_none e hp)]
  exact e
structure SRel (G : Gx) (ms : List Addr) (st : Sto) (H : Hp) : Prop where
  len : ms.length = st.length
  nd : ms.Nodup
  cell : ∀ (i : Nat) a c, ms[i]? = some a → st[i]? = some c → CellOk G ms H a c
  xd : ∀ a d fs, G.xi = some (a, d, fs) → ∃ gs, H d = some (.xd gs) ∧ RF G ms H fs gs
  tabs : LamX.Tabs G.T H
theorem CellOk.has {a : Addr} {c : Cell} (h : CellOk G ms H a c) : ∃ o, H a = some o ∧ (∀ xs, o ≠ .tup xs) ∧ (∀ ob u, o ≠ .frz ob u) ∧ (∀ x, o ≠ .own x) ∧ ¬ NoCell o := by
  have nc : ∀ o : HO, (∀ xs, o ≠ .tup xs) → (∀ ob u, o ≠ .frz ob u) → (∀ x, o ≠ .own x) → (∀ x, o ≠ .xd x) → (∀ x, o ≠ .tbl x) → (∀ x, o ≠ .ext x) → ¬ NoCell o := fun o h1 h2 h3 h4 h5 h6 q => by
    rcases q with ⟨x, e⟩ | ⟨x, y, e⟩ | ⟨x, e⟩ | ⟨x, e⟩ | ⟨x, e⟩ | ⟨x, e⟩
    · exact h1 x e
    · exact h2 x y e
    · exact h3 x e
    · exact h4 x e
    · exact h5 x e
    · exact h6 x e
  cases c with
  | lst ds =>
    obtain ⟨vs, h, _⟩ := h
    exact ⟨_, h, (fun _ z => HO.noConfusion z), (fun _ _ z => HO.noConfusion z), (fun _ z => HO.noConfusion z), nc _ (fun _ z => HO.noConfusion z) (fun _ _ z => HO.noConfusion z) (fun _ z => HO.noConfusion z) (fun _ z => HO.noConfusion z) (fun _ z => HO.noConfusion z) (fun _ z => HO.noConfusion z)⟩
  | ins c fs =>
    obtain ⟨dx, gs, h, _⟩ := h
    exact ⟨_, h, (fun _ z => HO.noConfusion z), (fun _ _ z => HO.noConfusion z), (fun _ z => HO.noConfusion z), nc _ (fun _ z => HO.noConfusion z) (fun _ _ z => HO.noConfusion z) (fun _ z => HO.noConfusion z) (fun _ z => HO.noConfusion z) (fun _ z => HO.noConfusion z) (fun _ z => HO.noConfusion z)⟩
  | dct => exact ⟨_, h, (fun _ z => HO.noConfusion z), (fun _ _ z => HO.noConfusion z), (fun _ z => HO.noConfusion z), nc _ (fun _ z => HO.noConfusion z) (fun _ _ z => HO.noConfusion z) (fun _ z => HO.noConfusion z) (fun _ z => HO.noConfusion z) (fun _ z => HO.noConfusion z) (fun _ z => HO.noConfusion z)⟩
theorem SRel.has {st : Sto} (S : SRel G ms st H) {i : Nat} {a : Addr} (h : ms[i]? = some a) : ∃ c, st[i]? = some c ∧ CellOk G ms H a c := by
  obtain ⟨h1, h2⟩ := List.getElem?_eq_some_iff.mp h
  have h3 : i < st.length := by rw [← S.len]; exact h1
  exact ⟨st[i], by simp [h3], S.cell i a _ h (by simp [h3])⟩
theorem SRel.fresh {st : Sto} (S : SRel G ms st H) {p : Addr} (hp : H p = none) : p ∉ ms := fun hm => by
  obtain ⟨i, hi, e⟩ := List.getElem_of_mem hm
  obtain ⟨c, _, hc⟩ := S.has (i := i) (a := p) (by simp [hi, e])
  obtain ⟨o, ho, _⟩ := hc.has
  rw [hp] at ho
  cases ho
theorem Gr.new {p : Addr} {o : HO} (hp : H p = none) (t : List Addr) : Gr ms H (ms ++ t) (upd H p o) :=
  ⟨⟨t, rfl⟩, fun a xs h => by rw [upd_ne (ne_of_none h hp)]; exact h, fun a ob u h => by rw [upd_ne (ne_of_none h hp)]; exact h⟩
theorem Gr.new0 {p : Addr} {o : HO} (hp : H p = none) : Gr ms H ms (upd H p o) := by
  have h := Gr.new (ms := ms) (o := o) hp []
  rw [List.append_nil] at h
  exact h
theorem CellOk.gr {a : Addr} {c : Cell} (g : Gr ms H ms' H') (k : H' a = H a) (h : CellOk G ms H a c) : CellOk G ms' H' a c := by
  cases c with
  | lst ds =>
    obtain ⟨vs, h1, h2⟩ := h
    exact ⟨vs, by rw [k]; exact h1, RVs.gr g _ _ h2⟩
  | ins c fs =>
    obtain ⟨dx, gs, h1, h2⟩ := h
    exact ⟨dx, gs, by rw [k]; exact h1, RF.gr g h2⟩
  | dct => exact k.trans h
theorem Keeps.cell {a : Addr} {c : Cell} {o : HO} (h : CellOk G ms H a c) : Keeps H (upd H a o) := fun b u e n => by
  obtain ⟨w, hw, _, _, _, nc⟩ := h.has
  rw [upd_ne (fun z => by rw [z, hw] at e; cases e; exact nc n)]
  exact e
/-- the exception at hand stays -/
theorem Keeps.xd {ms ms' : List Addr} {H H' : Hp} (k : Keeps H H') (g : Gr ms H ms' H') (h : ∀ a d fs, G.xi = some (a, d, fs) → ∃ gs, H d = some (.xd gs) ∧ RF G ms H fs gs) : ∀ a d fs, G.xi = some (a, d, fs) → ∃ gs, H' d = some (.xd gs) ∧ RF G ms' H' fs gs := fun a d fs e => by
  obtain ⟨gs, h1, h2⟩ := h a d fs e
  exact ⟨gs, k _ _ h1 (.inr (.inr (.inr (.inl ⟨_, rfl⟩)))), h2.gr g⟩
/-- an object that is no cell is laid -/
theorem SRel.lay {st : Sto} (S : SRel G ms st H) {p : Addr} {o : HO} (hp : H p = none) : SRel G ms st (upd H p o) :=
  ⟨S.len, S.nd, fun i a c h1 h2 => (S.cell i a c h1 h2).gr (Gr.new0 hp) (upd_ne fun e => S.fresh hp (e ▸ List.mem_of_getElem? h1)), (Keeps.new hp).xd (Gr.new0 hp) S.xd, (Keeps.new hp).tabs S.tabs⟩
/-- a new cell -/
theorem SRel.new {st : Sto} (S : SRel G ms st H) {p : Addr} {o : HO} {c : Cell} (hp : H p = none) (hc : CellOk G (ms ++ [p]) (upd H p o) p c) : SRel G (ms ++ [p]) (st ++ [c]) (upd H p o) := by
  refine ⟨by simp [S.len], ?_, fun i a d h1 h2 => ?_, (Keeps.new hp).xd (Gr.new hp [p]) S.xd, (Keeps.new hp).tabs S.tabs⟩
  · rw [List.nodup_append]
    refine ⟨S.nd, by simp, fun a ha b hb e => ?_⟩
    have hb' : b = p := by simpa using hb
    exact S.fresh hp (hb' ▸ e ▸ ha)
  · by_cases hi : i < ms.length
    · rw [List.getElem?_append_left hi] at h1
      rw [List.getElem?_append_left (by rw [← S.len]; exact hi)] at h2
      exact (S.cell i a d h1 h2).gr (Gr.new hp [p]) (upd_ne fun e => S.fresh hp (e ▸ List.mem_of_getElem? h1))
    · have hi' : i = ms.length := by
        have := (List.getElem?_eq_some_iff.mp h1).1
        simp at this
        omega
      subst hi'
      rw [List.getElem?_append_right (Nat.le_refl _)] at h1
      rw [S.len, List.getElem?_append_right (Nat.le_refl _)] at h2
      simp at h1 h2
      subst h1 h2
      exact hc
theorem Gr.cell {a : Addr} {c : Cell} {o : HO} (h : CellOk G ms H a c) : Gr ms H ms (upd H a o) := by
  obtain ⟨u, hu, n1, n2, _⟩ := h.has
  refine ⟨⟨[], by simp⟩, fun b xs e => ?_, fun b ob w e => ?_⟩
  · rw [upd_ne (fun z => by rw [z, hu] at e; exact n1 xs (Option.some.inj e))]
    exact e
  · rw [upd_ne (fun z => by rw [z, hu] at e; exact n2 ob w (Option.some.inj e))]
    exact e
/-- a cell is written -/
theorem SRel.put {st : Sto} (S : SRel G ms st H) {i : Nat} {a : Addr} {o : HO} {c : Cell} (hi : ms[i]? = some a) (hc : CellOk G ms (upd H a o) a c) : SRel G ms (st.set i c) (upd H a o) := by
  obtain ⟨c0, h0, k0⟩ := S.has hi
  refine ⟨by simp [S.len], S.nd, fun j b d h1 h2 => ?_, (Keeps.cell k0).xd (Gr.cell k0) S.xd, (Keeps.cell k0).tabs S.tabs⟩
  by_cases hj : i = j
  · subst hj
    rw [hi] at h1
    cases h1
    have hl := (List.getElem?_eq_some_iff.mp h0).1
    rw [List.getElem?_set_self hl] at h2
    cases h2
    exact hc
  · rw [List.getElem?_set_ne hj] at h2
    refine (S.cell j b d h1 h2).gr (Gr.cell k0) (upd_ne fun e => ?_)
    subst e
    exact hj (nd_ix S.nd hi h1)

/-! ### what a result promises -/
/-- an exception's own dict -/
def XRel (G : Gx) (ms : List Addr) (H : Hp) (fs : List (String × D)) (od : Option Addr) : Prop :=
  (fs = [] ∧ od = none) ∨ ∃ d gs, fs ≠ [] ∧ od = some d ∧ H d = some (.xd gs) ∧ RF G ms H fs gs
def Okk {α β : Type} (R : List Addr → Hp → α → β → Prop) (G : Gx) (W : Value → Option Addr → Hp → Prop) (Q : β → Hp → Prop) (ms : List Addr) (H : Hp) : Res α → Prop
  | .ok a st => ∀ b ms' H', Gr ms H ms' H' → SRel G ms' st H' → R ms' H' a b → Q b H'
  | .exn c fs st => ∀ od ms' H', Gr ms H ms' H' → SRel G ms' st H' → XRel G ms' H' fs od → W (.ref (G.tb c)) od H'
  | .bad => False
theorem Okk.gr {α β : Type} {R : List Addr → Hp → α → β → Prop} {W : Value → Option Addr → Hp → Prop} {Q : β → Hp → Prop} {r : Res α} (g : Gr ms H ms' H') (h : Okk R G W Q ms H r) : Okk R G W Q ms' H' r := by
  cases r with
  | ok a st => exact fun b m2 H2 g2 => h b m2 H2 (g.trans g2)
  | exn c fs st => exact fun od m2 H2 g2 => h od m2 H2 (g.trans g2)
  | bad => exact h
theorem Okk.bind {α β α' β' : Type} {R : List Addr → Hp → α → β → Prop} {R' : List Addr → Hp → α' → β' → Prop} {W : Value → Option Addr → Hp → Prop} {Q : β' → Hp → Prop} {Q1 : β → Hp → Prop} {r : Res α} {f : α → Sto → Res α'}
    (h : Okk R' G W Q ms H (r.bind f)) (k : ∀ a s b m1 H1, Gr ms H m1 H1 → SRel G m1 s H1 → R m1 H1 a b → Okk R' G W Q m1 H1 (f a s) → Q1 b H1) : Okk R G W Q1 ms H r := by
  cases r with
  | ok a s => exact fun b m1 H1 g S r => k a s b m1 H1 g S r (Okk.gr g h)
  | exn c fs s => exact h
  | bad => exact h
abbrev RB : List Addr → Hp → Bool → Bool → Prop := fun _ _ a b => b = a

/-! ### readings -/
def tX {α β : Type} (R : List Addr → Hp → α → β → Prop) (G : Gx) (W : WX) (f : Sl → M α) : L2.St → Hp → (β → Hp → Prop) → Prop := fun σ H Q => ∃ ms st env, SRel G ms st H ∧ RE G ms H env σ ∧ Okk R G (fun c d H => W c d σ H) Q ms H (f env st)
abbrev tE (G : Gx) (W : WX) (f : E) : TE := tX (RV G) G W f
abbrev tA (G : Gx) (W : WX) (f : Sl → M (List D)) : TA := tX (RVs G) G W f
abbrev tT (G : Gx) (W : WX) (f : Sl → M Bool) : TT := tX RB G W f
theorem PE_weak {X : Cx} {e : Expr} {t t' : TE} (h : PE X e t) (k : ∀ σ H Q, t' σ H Q → t σ H Q) : PE X e t' := ⟨fun pins s σ H Q I q => h.run pins s σ H Q I (k σ H Q q)⟩
theorem PT_weak {X : Cx} {e : Expr} {t t' : TT} (h : PT X e t) (k : ∀ σ H Q, t' σ H Q → t σ H Q) : PT X e t' := ⟨fun pins s σ H Q I q => h.run pins s σ H Q I (k σ H Q q)⟩
theorem PW_weak {X : Cx} {e : Expr} {t t' : TT} (h : PW X e t) (k : ∀ σ H Q, t' σ H Q → t σ H Q) : PW X e t' := ⟨fun wh pins s σ H Q I q => h.run wh pins s σ H Q I (k σ H Q q)⟩
theorem PA_weak {X : Cx} {es : List Expr} {t t' : TA} (h : PA X es t) (k : ∀ σ H Q, t' σ H Q → t σ H Q) : PA X es t' := ⟨fun pos pins s σ H Q I q => h.run pos pins s σ H Q I (k σ H Q q)⟩
theorem PS_weak {X : Cx} {e : Stmt} {t t' : TS} (h : PS X e t) (k : ∀ D σ H, t' D σ H → t D σ H) : PS X e t' := ⟨fun pins s σ H D I q => h.run pins s σ H D I (k D σ H q)⟩
theorem PSs_weak {X : Cx} {e : List Stmt} {t t' : TS} (h : PSs X e t) (k : ∀ D σ H, t' D σ H → t D σ H) : PSs X e t' := ⟨fun pins s σ H D I q => h.run pins s σ H D I (k D σ H q)⟩

end
end LF

set_option Elab.async false
set_option linter.all false
set_option maxRecDepth 100000
set_option maxHeartbeats 4000000
/-! The layer: expressions. -/
namespace LF
open PySem PySem.Spec PyProof.Rows L2
section
variable {G : Gx} {W : WX} {X : Cx} {σ : L2.St} {H : Hp}

/-! ### sequencing -/
theorem tX_bind {α β α' β' : Type} {R : List Addr → Hp → α → β → Prop} {R' : List Addr → Hp → α' → β' → Prop} {fa : Sl → M α} {g : Sl → α → M α'} {Q : β' → Hp → Prop}
    (h : tX R' G W (fun env st => (fa env st).bind (g env)) σ H Q) :
    tX R G W fa σ H fun v H1 => ∃ ms st env x, SRel G ms st H1 ∧ RE G ms H1 env σ ∧ R ms H1 x v ∧ Okk R' G (fun c d H => W c d σ H) Q ms H1 (g env x st) := by
  obtain ⟨ms, st, env, S, r, k⟩ := h
  exact ⟨ms, st, env, S, r, Okk.bind k fun x s v m1 H1 g1 S1 r1 k1 => ⟨m1, s, env, x, S1, r.gr g1, r1, k1⟩⟩
theorem tX_bin {α β : Type} {R' : List Addr → Hp → α → β → Prop} {fa fb : E} {g : D → D → M α} {Q : β → Hp → Prop}
    (h : tX R' G W (fun env st => (fa env st).bind fun x s => (fb env s).bind (g x)) σ H Q) :
    tE G W fa σ H fun v H1 => tE G W fb σ H1 fun u H2 => ∃ ms st x y, SRel G ms st H2 ∧ RV G ms H2 x v ∧ RV G ms H2 y u ∧ Okk R' G (fun c d H => W c d σ H) Q ms H2 (g x y st) := by
  obtain ⟨ms, st, env, S, r, k⟩ := h
  exact ⟨ms, st, env, S, r, Okk.bind k fun x s v m1 H1 g1 S1 r1 k1 => ⟨m1, s, env, S1, r.gr g1, Okk.bind k1 fun y s2 u m2 H2 g2 S2 r2 k2 => ⟨m2, s2, x, y, S2, RV.gr g2 _ _ r1, r2, k2⟩⟩⟩
/-- a test, then one of two -/
theorem tX_if {α β : Type} {R' : List Addr → Hp → α → β → Prop} {c : Sl → M Bool} {fa fb : Sl → M α} {Q : β → Hp → Prop}
    (h : tX R' G W (fun env st => (c env st).bind fun b s => if b = true then fa env s else fb env s) σ H Q) :
    tT G W c σ H fun b H1 => if b = true then tX R' G W fa σ H1 Q else tX R' G W fb σ H1 Q := by
  obtain ⟨ms, st, env, S, r, k⟩ := h
  refine ⟨ms, st, env, S, r, Okk.bind k fun b s b' m1 H1 g1 S1 r1 k1 => ?_⟩
  cases r1
  cases b with
  | true => exact ⟨m1, s, env, S1, r.gr g1, by simpa using k1⟩
  | false => exact ⟨m1, s, env, S1, r.gr g1, by simpa using k1⟩

/-! ### operations that raise nothing -/
abbrev O (α : Type) := Sto → Option (α × Sto)
def ofO {α : Type} : Option (α × Sto) → Res α
  | some (a, s) => .ok a s
  | none => .bad
def OkO {α β : Type} (R : List Addr → Hp → α → β → Prop) (G : Gx) (Q : β → Hp → Prop) (ms : List Addr) (H : Hp) : Option (α × Sto) → Prop
  | some (a, st) => ∀ b ms' H', Gr ms H ms' H' → SRel G ms' st H' → R ms' H' a b → Q b H'
  | none => False
theorem Okk.ofO {α β : Type} {R : List Addr → Hp → α → β → Prop} {W : Value → Option Addr → Hp → Prop} {Q : β → Hp → Prop} {ms : List Addr} {o : Option (α × Sto)} (h : Okk R G W Q ms H (ofO o)) : OkO R G Q ms H o := by
  cases o with
  | some p => exact h
  | none => exact h
/-- a new list -/
def newL (ds : List D) : O D := fun st => some (.ref st.length, st ++ [.lst ds])
theorem OkO.newL {Q : VK} {ms : List Addr} {st : Sto} {ds : List D} {vs : List V} (S : SRel G ms st H) (r : RVs G ms H ds vs) (h : OkO (RV G) G Q ms H (newL ds st)) : ∀ p, H p = none → Q (.ref p) (upd H p (.lst vs)) := fun p hp => by
  refine h (.ref p) (ms ++ [p]) _ (Gr.new hp [p]) (S.new hp ⟨vs, upd_same, RVs.gr (Gr.new hp [p]) _ _ r⟩) ?_
  simp only [RV]
  exact ⟨p, rfl, by rw [List.getElem?_append_right (by rw [S.len]; exact Nat.le_refl _), S.len]; simp⟩
theorem OkO.val {Q : VK} {ms : List Addr} {st : Sto} {d : D} {v : V} (S : SRel G ms st H) (r : RV G ms H d v) (h : OkO (RV G) G Q ms H (some (d, st))) : Q v H := h v ms H Gr.refl S r
theorem OkO.tup {Q : VK} {ms : List Addr} {st : Sto} {ds : List D} {vs : List V} (S : SRel G ms st H) (r : RVs G ms H ds vs) (h : OkO (RV G) G Q ms H (some (.tup ds, st))) : ∀ p, H p = none → Q (.ref p) (upd H p (.tup vs)) := fun p hp => by
  refine h (.ref p) ms _ (Gr.new0 hp) (S.lay hp) ?_
  simp only [RV]
  exact ⟨p, vs, rfl, .inl upd_same, RVs.gr (Gr.new0 hp) _ _ r⟩

def rO (G : Gx) (op : D → D → O D) : R2 := fun v u H Q => ∃ ms st x y, SRel G ms st H ∧ RV G ms H x v ∧ RV G ms H y u ∧ OkO (RV G) G Q ms H (op x y st)
def rU1 (G : Gx) (op : D → O D) : V → Hp → VK → Prop := fun v H Q => ∃ ms st x, SRel G ms st H ∧ RV G ms H x v ∧ OkO (RV G) G Q ms H (op x st)
def rN (G : Gx) (op : List D → O D) : List V → Hp → VK → Prop := fun vs H Q => ∃ ms st ds, SRel G ms st H ∧ RVs G ms H ds vs ∧ OkO (RV G) G Q ms H (op ds st)
def rM (G : Gx) (op : D → List D → O D) : V → List V → Hp → VK → Prop := fun v vs H Q => ∃ ms st x ds, SRel G ms st H ∧ RV G ms H x v ∧ RVs G ms H ds vs ∧ OkO (RV G) G Q ms H (op x ds st)
theorem OpR_imp {f : Value → Value → Sem Value} {r r' : R2} (h : OpR X f r) (k : ∀ x y H Q, r' x y H Q → r x y H Q) : OpR X f r' := fun pins s σ H x y v u Q I rx ry q => h pins s σ H x y v u Q I rx ry (k x y H Q q)
theorem UnR_imp {f : Value → Sem Value} {r r' : V → Hp → VK → Prop} (h : UnR X f r) (k : ∀ x H Q, r' x H Q → r x H Q) : UnR X f r' := fun pins s σ H x v Q I rx q => h pins s σ H x v Q I rx (k x H Q q)
theorem CallR_imp {f : Value} {r r' : List V → Hp → VK → Prop} (h : CallR X f r) (k : ∀ xs H Q, r' xs H Q → r xs H Q) : CallR X f r' := fun pins s σ H xs us Q I rx q => h pins s σ H xs us Q I rx (k xs H Q q)
theorem CallR_or {f : Value} {r r' : List V → Hp → VK → Prop} (h : CallR X f r) (h' : CallR X f r') : CallR X f (fun xs H Q => r xs H Q ∨ r' xs H Q) := fun pins s σ H xs us Q I rx q => by
  rcases q with q | q
  · exact h pins s σ H xs us Q I rx q
  · exact h' pins s σ H xs us Q I rx q
theorem IxR_imp {r r' : R2} (h : IxR X r) (k : ∀ x y H Q, r' x y H Q → r x y H Q) : IxR X r' := fun va sl pins s σ H x y v u Q I rx ry q => h va sl pins s σ H x y v u Q I rx ry (k x y H Q q)
theorem MtR_imp {id : String} {r r' : V → List V → Hp → VK → Prop} (h : MtR X id r) (k : ∀ x xs H Q, r' x xs H Q → r x xs H Q) : MtR X id r' := fun pins s σ H x xs v us Q I rx rv q => h pins s σ H x xs v us Q I rx rv (k x xs H Q q)
theorem SlR_imp {r r' : V → Option Int → Option Int → Hp → VK → Prop} (h : SlR X r) (k : ∀ x lo hi H Q, r' x lo hi H Q → r x lo hi H Q) : SlR X r' := fun pins s σ H x v vl vu lo hi sl Q I rx hs pl pu q => h pins s σ H x v vl vu lo hi sl Q I rx hs pl pu (k x lo hi H Q q)

/-! ### expressions -/
def eVar (i : Nat) : E := fun env st => match env[i]? with
  | some (some d) => .ok d st
  | _ => .bad
def eC (d : D) : E := fun _ st => .ok d st
def eBin (op : D → D → O D) (a b : E) : E := fun env st => (a env st).bind fun x s => (b env s).bind fun y s' => ofO (op x y s')
def eUn (op : D → O D) (a : E) : E := fun env st => (a env st).bind fun x s => ofO (op x s)
def eArgs : List E → Sl → M (List D)
  | [] => fun _ st => .ok [] st
  | a :: as => fun env st => (a env st).bind fun x s => (eArgs as env s).bind fun xs s' => .ok (x :: xs) s'
def eBlt (op : List D → O D) (as : List E) : E := fun env st => (eArgs as env st).bind fun xs s => ofO (op xs s)
def eIf (c : Sl → M Bool) (a b : E) : E := fun env st => (c env st).bind fun k s => if k = true then a env s else b env s
def LIM : Nat := 16000000
theorem LIM_le {n : Nat} (h : n ≤ LIM) : n ≤ sizeLine := Nat.le_trans h (by decide)
theorem LIM_lt {n : Nat} (h : n < LIM) : n < sizeLine := Nat.lt_of_lt_of_le h (by decide)
def opTup (ds : List D) : O D := fun st => if ds.length ≤ LIM then some (.tup ds, st) else none
def opLst (ds : List D) : O D := fun st => if ds.length ≤ LIM then newL ds st else none

theorem e_var {e : Expr} {i : Nat} (h : PE X e (tVar i)) : PE X e (tE G W (eVar i)) := PE_weak h fun σ H Q ⟨ms, st, env, S, r, k⟩ => by
  unfold eVar at k
  cases hi : env[i]? with
  | none => rw [hi] at k; exact k.elim
  | some o =>
    cases o with
    | none => rw [hi] at k; exact k.elim
    | some d =>
      rw [hi] at k
      obtain ⟨v, h1, h2⟩ := r.at hi
      exact ⟨v, h1, k v ms H Gr.refl S h2⟩
theorem e_c {e : Expr} {d : D} {v : V} (h : PE X e (tC v)) (r : ∀ ms H, RV G ms H d v) : PE X e (tE G W (eC d)) := PE_weak h fun σ H Q ⟨ms, st, env, S, _, k⟩ => k v ms H Gr.refl S (r ms H)
theorem e_int {i j pos} : PE X (.Constant (.int i) j pos) (tE G W (eC (.int i))) := e_c pe_int fun _ _ => by simp only [RV]
theorem e_bl {b j pos} : PE X (.Constant (.bool b) j pos) (tE G W (eC (.bl b))) := e_c pe_bl fun _ _ => by simp only [RV]
theorem e_non {j pos} : PE X (.Constant .none j pos) (tE G W (eC .non)) := e_c pe_non fun _ _ => by simp only [RV]
theorem e_str {x j pos} : PE X (.Constant (.str x) j pos) (tE G W (eC (.str x))) := e_c pe_str fun _ _ => by simp only [RV]
theorem e_glob {x : Str} {v : V} {d : D} {u : Value} {pos : Pos} (hg : Gl X x) (hm : X.mg x = some u) (r : RelV v u) (rd : ∀ ms H, RV G ms H d v) (hd : (x == ("__debug__" : Str)) = false := by decide) : PE X (.Name x pos) (tE G W (eC d)) :=
  e_c (pe_glob hg hm r hd) rd
theorem tX_mono {α β : Type} {R : List Addr → Hp → α → β → Prop} {f : Sl → M α} {Q Q' : β → Hp → Prop} (h : tX R G W f σ H Q) (k : ∀ b H1, Q b H1 → Q' b H1) : tX R G W f σ H Q' := by
  obtain ⟨ms, st, env, S, r, q⟩ := h
  refine ⟨ms, st, env, S, r, ?_⟩
  cases e : f env st with
  | ok x s =>
    rw [e] at q
    exact fun v m1 H1 g1 S1 r1 => k v H1 (q v m1 H1 g1 S1 r1)
  | exn c fs s =>
    rw [e] at q
    exact q
  | bad =>
    rw [e] at q
    exact q
theorem bin_tOp {f : D → D → O D} {fa fb : E} {Q : VK} (h : tE G W (eBin f fa fb) σ H Q) : tOp (rO G f) (tE G W fa) (tE G W fb) σ H Q :=
  tX_mono (tX_bin h) fun v H1 h1 => tX_mono h1 fun u H2 ⟨ms, st, x, y, S, r1, r2, k⟩ => ⟨ms, st, x, y, S, r1, r2, k.ofO⟩
theorem un_tUn {f : D → O D} {fa : E} {Q : VK} (h : tE G W (eUn f fa) σ H Q) : tUn (rU1 G f) (tE G W fa) σ H Q :=
  tX_mono (tX_bind h) fun v H1 ⟨ms, st, env, x, S, _, r1, k⟩ => ⟨ms, st, x, S, r1, k.ofO⟩
theorem e_bin {a b : Expr} {pos : Pos} {op : Operator} {f : D → D → O D} {fa fb : E} (ho : OpR X (binaryOp op) (rO G f)) (ha : PE X a (tE G W fa)) (hb : PE X b (tE G W fb)) : PE X (.BinOp a op b pos) (tE G W (eBin f fa fb)) :=
  PE_weak (pe_op ho ha hb) fun _ _ _ h => bin_tOp h
theorem e_un {a : Expr} {pos : Pos} {op : UnaryOp} {f : D → O D} {fa : E} (ho : UnR X (unaryOp op) (rU1 G f)) (ha : PE X a (tE G W fa)) : PE X (.UnaryOp op a pos) (tE G W (eUn f fa)) :=
  PE_weak (pe_un ho ha) fun _ _ _ h => un_tUn h
theorem e_cmp {a b : Expr} {pos : Pos} {op : CmpOp} {f : D → D → O D} {fa fb : E} (ho : OpR X (compareOp op) (rO G f)) (ha : PE X a (tE G W fa)) (hb : PE X b (tE G W fb)) (hm : behindInMarks op b = false) : PE X (.Compare a [op] [b] pos) (tE G W (eBin f fa fb)) :=
  PE_weak (pe_cmpR ho ha hb hm) fun _ _ _ h => bin_tOp h

/-! ### tests -/
abbrev T := Sl → M Bool
def asB (a : E) : T := fun env st => (a env st).bind fun x s => match x with
  | .bl k => .ok k s
  | _ => .bad
theorem asB_tTest {fa : E} {Q : Bool → Hp → Prop} (h : tT G W (asB fa) σ H Q) : tE G W fa σ H fun x H' => ∃ k, x = .bl k ∧ Q k H' :=
  tX_mono (tX_bind h) fun v H1 ⟨ms, st, env, x, S, _, r1, k⟩ => by
    cases x with
    | bl b =>
      simp only [RV] at r1
      exact ⟨b, r1, k b ms H1 Gr.refl S rfl⟩
    | _ => exact k.elim
theorem tE_tTest {t : TE} {fa : E} (k : ∀ σ H Q, tE G W fa σ H Q → t σ H Q) {Q : Bool → Hp → Prop} (h : tT G W (asB fa) σ H Q) : tTest t σ H Q := k _ _ _ (asB_tTest h)
theorem t_cmp {a b : Expr} {pos : Pos} {op : CmpOp} {f : D → D → O D} {fa fb : E} (ho : OpR X (compareOp op) (rO G f)) (ha : PE X a (tE G W fa)) (hb : PE X b (tE G W fb)) (hm : behindInMarks op b = false) : PT X (.Compare a [op] [b] pos) (tT G W (asB (eBin f fa fb))) :=
  PT_weak (pt_cmpR ho ha hb hm) fun _ _ _ h => tE_tTest (fun _ _ _ h => bin_tOp h) h
def eChain (f g : D → D → O D) (a b c : E) : E := fun env st => (a env st).bind fun x s => (b env s).bind fun y s => (ofO (f x y s)).bind fun z s => match z with
  | .bl true => (c env s).bind fun w s => ofO (g y w s)
  | .bl false => .ok (.bl false) s
  | _ => .bad
theorem chain_tChain {f g : D → D → O D} {fa fb fc : E} {Q : VK} (h : tE G W (eChain f g fa fb fc) σ H Q) : tChain (rO G f) (rO G g) (tE G W fa) (tE G W fb) (tE G W fc) σ H Q := by
  obtain ⟨ms, st, env, S, r, k⟩ := h
  refine ⟨ms, st, env, S, r, Okk.bind k fun x s v m1 H1 g1 S1 r1 k1 => ⟨m1, s, env, S1, r.gr g1, Okk.bind k1 fun y s2 u m2 H2 g2 S2 r2 k2 => ⟨m2, s2, x, y, S2, RV.gr g2 _ _ r1, r2, ?_⟩⟩⟩
  refine Okk.ofO (W := fun c d H => W c d σ H) (Okk.bind k2 fun z s3 z' m3 H3 g3 S3 r3 k3 => ?_)
  cases z with
  | bl b =>
    simp only [RV] at r3
    refine ⟨b, r3, ?_⟩
    cases b with
    | true =>
      rw [if_pos rfl]
      exact ⟨m3, s3, env, S3, (r.gr g1).gr (g2.trans g3), Okk.bind k3 fun w s4 w' m4 H4 g4 S4 r4 k4 => ⟨m4, s4, y, w, S4, RV.gr (g3.trans g4) _ _ r2, r4, k4.ofO⟩⟩
    | false =>
      rw [if_neg Bool.false_ne_true]
      exact k3 (.bl false) m3 H3 Gr.refl S3 (by simp only [RV])
  | _ => exact k3.elim
theorem e_chain {a b c : Expr} {pos : Pos} {op op' : CmpOp} {f g : D → D → O D} {fa fb fc : E} (ho : OpR X (compareOp op) (rO G f)) (ho' : OpR X (compareOp op') (rO G g)) (ha : PE X a (tE G W fa)) (hb : PE X b (tE G W fb)) (hc : PE X c (tE G W fc))
    (hm : lastMarks [op, op'] [b, c] = false := by with_unfolding_all rfl) : PE X (.Compare a [op, op'] [b, c] pos) (tE G W (eChain f g fa fb fc)) :=
  PE_weak (pe_chain ho ho' ha hb hc hm) fun _ _ _ h => chain_tChain h
theorem t_chain {a b c : Expr} {pos : Pos} {op op' : CmpOp} {f g : D → D → O D} {fa fb fc : E} (ho : OpR X (compareOp op) (rO G f)) (ho' : OpR X (compareOp op') (rO G g)) (ha : PE X a (tE G W fa)) (hb : PE X b (tE G W fb)) (hc : PE X c (tE G W fc))
    (hm : lastMarks [op, op'] [b, c] = false := by with_unfolding_all rfl) : PT X (.Compare a [op, op'] [b, c] pos) (tT G W (asB (eChain f g fa fb fc))) :=
  PT_weak (pt_chain ho ho' ha hb hc hm) fun _ _ _ h => tE_tTest (fun _ _ _ h => chain_tChain h) h
/-- a value's truth -/
def tru : D → Sto → Option Bool
  | .non, _ => some false
  | .bl b, _ => some b
  | .int i, _ => some (i != 0)
  | .str x, _ => if x.length ≤ LIM then some ((x.length : Int) != 0) else none
  | .tup ds, _ => some (!ds.isEmpty)
  | .ref i, st => match st[i]? with
    | some (.lst ds) => some (!ds.isEmpty)
    | _ => none
  | _, _ => none
theorem RVs.empty {ms : List Addr} {ds : List D} {vs : List V} (h : RVs G ms H ds vs) : (!vs.isEmpty) = !ds.isEmpty := by
  cases ds with
  | nil =>
    simp only [RVs] at h
    subst h
    rfl
  | cons d ds =>
    simp only [RVs] at h
    obtain ⟨v, r, rfl, _⟩ := h
    rfl
theorem SRel.lst {ms : List Addr} {st : Sto} (S : SRel G ms st H) {i : Nat} {ds : List D} (h : st[i]? = some (.lst ds)) : ∃ a vs, ms[i]? = some a ∧ H a = some (.lst vs) ∧ RVs G ms H ds vs := by
  have hl : i < ms.length := by
    rw [S.len]
    exact (List.getElem?_eq_some_iff.mp h).1
  obtain ⟨vs, h1, h2⟩ := S.cell i ms[i] _ (by simp [hl]) h
  exact ⟨ms[i], vs, by simp [hl], h1, h2⟩
theorem SRel.ref {ms : List Addr} {st : Sto} (S : SRel G ms st H) {i : Nat} {ds : List D} {v : V} (h : st[i]? = some (.lst ds)) (r : RV G ms H (.ref i) v) : ∃ a vs, v = .ref a ∧ ms[i]? = some a ∧ H a = some (.lst vs) ∧ RVs G ms H ds vs := by
  simp only [RV] at r
  obtain ⟨a, rfl, ha⟩ := r
  obtain ⟨b, vs, hb, h1, h2⟩ := S.lst h
  rw [ha] at hb
  cases hb
  exact ⟨a, vs, rfl, ha, h1, h2⟩
theorem tru_ok {ms : List Addr} {st : Sto} (S : SRel G ms st H) {d : D} {v : V} {k : Bool} (r : RV G ms H d v) (h : tru d st = some k) : TruV G.K v H k := by
  cases d with
  | non => simp only [RV] at r; simp only [tru] at h; cases h; subst r; exact rfl
  | bl b => simp only [RV] at r; simp only [tru] at h; cases h; subst r; exact rfl
  | int i => simp only [RV] at r; simp only [tru] at h; cases h; subst r; exact rfl
  | str x =>
    simp only [RV] at r
    simp only [tru] at h
    split at h
    · cases h
      subst r
      rename_i hx
      exact ⟨LIM_le hx, rfl⟩
    · cases h
  | tup ds =>
    simp only [RV] at r
    obtain ⟨a, vs, rfl, h1, h2⟩ := r
    simp only [tru] at h
    cases h
    exact .inr (.inl ⟨vs, h1.t, h2.empty.symm⟩)
  | ref i =>
    simp only [tru] at h
    split at h
    · rename_i ds e
      cases h
      obtain ⟨a, vs, rfl, _, h1, h2⟩ := S.ref e r
      exact .inl ⟨vs, SqL.of h1, h2.empty.symm⟩
    · cases h
  | glo n => cases h
  | ty n => cases h
  | scr ns => cases h
  | xc => cases h
def tTru (a : E) : T := fun env st => (a env st).bind fun x s => match tru x s with
  | some k => .ok k s
  | none => .bad
theorem t_truth {a : Expr} {fa : E} (hK : X.K = G.K) (ha : PE X a (tE G W fa)) (he : ∀ whole, isTrue a X.env whole = (do let v ← whole; standAt a.pos; holding [v] (truthy v)) := by intro _; rfl) : PT X a (tT G W (tTru fa)) :=
  PT_weak (pt_truth ha he) fun σ H Q h => tX_mono (tX_bind h) fun v H1 ⟨ms, st, env, x, S, _, r1, k⟩ => by
    cases e : tru x st with
    | none => rw [e] at k; exact k.elim
    | some b =>
      rw [e] at k
      exact ⟨b, by rw [hK]; exact tru_ok S r1 e, k b ms H1 Gr.refl S rfl⟩
def tAnd' (a b : T) : T := fun env st => (a env st).bind fun k s => if k = true then b env s else .ok false s
def tOr' (a b : T) : T := fun env st => (a env st).bind fun k s => if k = true then .ok true s else b env s
def tNot' (a : T) : T := fun env st => (a env st).bind fun k s => .ok (!k) s
theorem w_one_and {a : Expr} {pos : Pos} {ta : T} (ha : PT X a (tT G W ta)) : PW X (.BoolOp .And [a] pos) (tT G W ta) := pw_and1 ha
theorem w_one_or {a : Expr} {pos : Pos} {ta : T} (ha : PT X a (tT G W ta)) : PW X (.BoolOp .Or [a] pos) (tT G W ta) := pw_or1 ha
theorem w_and {a b : Expr} {rest : List Expr} {pos : Pos} {ta tb : T} (ha : PT X a (tT G W ta)) (hb : PW X (.BoolOp .And (b :: rest) pos) (tT G W tb)) : PW X (.BoolOp .And (a :: b :: rest) pos) (tT G W (tAnd' ta tb)) :=
  PW_weak (pw_and ha hb) fun σ H Q h => tX_mono (tX_bind h) fun b H1 ⟨ms, st, env, x, S, r, r1, k⟩ => by
    cases r1
    cases b with
    | true => exact ⟨ms, st, env, S, r, by simpa using k⟩
    | false => exact (show Okk RB G _ Q ms H1 (.ok false st) by simpa using k) false ms H1 Gr.refl S rfl
theorem w_or {a b : Expr} {rest : List Expr} {pos : Pos} {ta tb : T} (ha : PT X a (tT G W ta)) (hb : PW X (.BoolOp .Or (b :: rest) pos) (tT G W tb)) : PW X (.BoolOp .Or (a :: b :: rest) pos) (tT G W (tOr' ta tb)) :=
  PW_weak (pw_or ha hb) fun σ H Q h => tX_mono (tX_bind h) fun b H1 ⟨ms, st, env, x, S, r, r1, k⟩ => by
    cases r1
    cases b with
    | true => exact (show Okk RB G _ Q ms H1 (.ok true st) by simpa using k) true ms H1 Gr.refl S rfl
    | false => exact ⟨ms, st, env, S, r, by simpa using k⟩
theorem t_not {a : Expr} {pos : Pos} {ta : T} (ha : PT X a (tT G W ta)) : PT X (.UnaryOp .Not a pos) (tT G W (tNot' ta)) :=
  PT_weak (pt_not ha) fun σ H Q h => tX_mono (tX_bind h) fun b H1 ⟨ms, st, env, x, S, r, r1, k⟩ => by
    cases r1
    exact k (!b) ms H1 Gr.refl S rfl
/-- and, or, not as values -/
def eAnd (a b : E) : E := fun env st => (a env st).bind fun x s => match tru x s with
  | some true => b env s
  | some false => .ok x s
  | none => .bad
def eOr (a b : E) : E := fun env st => (a env st).bind fun x s => match tru x s with
  | some true => .ok x s
  | some false => b env s
  | none => .bad
def eNot (a : E) : E := fun env st => (a env st).bind fun x s => match tru x s with
  | some k => .ok (.bl (!k)) s
  | none => .bad
theorem e_one {op} {a : Expr} {pos : Pos} {fa : E} (ha : PE X a (tE G W fa)) : PE X (.BoolOp op [a] pos) (tE G W fa) := pe_one ha
theorem e_and {a b : Expr} {rest : List Expr} {pos : Pos} {fa fb : E} (hK : X.K = G.K) (ha : PE X a (tE G W fa)) (hb : PE X (.BoolOp .And (b :: rest) pos) (tE G W fb)) : PE X (.BoolOp .And (a :: b :: rest) pos) (tE G W (eAnd fa fb)) :=
  PE_weak (pe_andT ha hb) fun σ H Q h => tX_mono (tX_bind h) fun v H1 ⟨ms, st, env, x, S, r, r1, k⟩ => by
    cases e : tru x st with
    | none => rw [e] at k; exact k.elim
    | some b =>
      rw [e] at k
      refine ⟨b, by rw [hK]; exact tru_ok S r1 e, ?_⟩
      cases b with
      | true => exact ⟨ms, st, env, S, r, k⟩
      | false => exact k v ms H1 Gr.refl S r1
theorem e_or {a b : Expr} {rest : List Expr} {pos : Pos} {fa fb : E} (hK : X.K = G.K) (ha : PE X a (tE G W fa)) (hb : PE X (.BoolOp .Or (b :: rest) pos) (tE G W fb)) : PE X (.BoolOp .Or (a :: b :: rest) pos) (tE G W (eOr fa fb)) :=
  PE_weak (pe_orT ha hb) fun σ H Q h => tX_mono (tX_bind h) fun v H1 ⟨ms, st, env, x, S, r, r1, k⟩ => by
    cases e : tru x st with
    | none => rw [e] at k; exact k.elim
    | some b =>
      rw [e] at k
      refine ⟨b, by rw [hK]; exact tru_ok S r1 e, ?_⟩
      cases b with
      | true => exact k v ms H1 Gr.refl S r1
      | false => exact ⟨ms, st, env, S, r, k⟩
theorem e_not {a : Expr} {pos : Pos} {fa : E} (hK : X.K = G.K) (ha : PE X a (tE G W fa)) : PE X (.UnaryOp .Not a pos) (tE G W (eNot fa)) :=
  PE_weak (pe_notT ha) fun σ H Q h => tX_mono (tX_bind h) fun v H1 ⟨ms, st, env, x, S, r, r1, k⟩ => by
    cases e : tru x st with
    | none => rw [e] at k; exact k.elim
    | some b =>
      rw [e] at k
      exact ⟨b, by rw [hK]; exact tru_ok S r1 e, k (.bl (!b)) ms H1 Gr.refl S (by simp only [RV])⟩
theorem e_if {c a b : Expr} {pos : Pos} {tc : T} {fa fb : E} (hc : PT X c (tT G W tc)) (ha : PE X a (tE G W fa)) (hb : PE X b (tE G W fb)) : PE X (.IfExp c a b pos) (tE G W (eIf tc fa fb)) :=
  PE_weak (pe_ifExp hc ha hb) fun σ H Q h => tX_mono (tX_if h) fun b H1 h1 => by
    cases b with
    | true => exact h1
    | false => exact h1

/-! ### arguments, displays, calls of what is built in -/
theorem a_nil : PA X [] (tA G W (eArgs [])) := PA_weak pa_nil fun σ H Q ⟨ms, st, env, S, _, k⟩ => k [] ms H Gr.refl S (by simp only [RVs])
theorem a_cons {e : Expr} {es : List Expr} {fa : E} {fs : List E} (ha : PE X e (tE G W fa)) (hr : PA X es (tA G W (eArgs fs))) (hs : starEach (e :: es) X.env = (false, eval e X.env) :: starEach es X.env := by rfl) : PA X (e :: es) (tA G W (eArgs (fa :: fs))) :=
  PA_weak (pa_cons ha hr hs) fun σ H Q h => by
    obtain ⟨ms, st, env, S, r, k⟩ := h
    exact ⟨ms, st, env, S, r, Okk.bind k fun x s v m1 H1 g1 S1 r1 k1 => ⟨m1, s, env, S1, r.gr g1, Okk.bind k1 fun xs s2 vs m2 H2 g2 S2 r2 k2 =>
      k2 (v :: vs) m2 H2 Gr.refl S2 (by simp only [RVs]; exact ⟨v, vs, rfl, RV.gr g2 _ _ r1, r2⟩)⟩⟩
theorem e_tup {es : List Expr} {x1} {pos : Pos} {fs : List E} (h : PA X es (tA G W (eArgs fs))) : PE X (.Tuple es x1 pos) (tE G W (eBlt opTup fs)) :=
  PE_weak (pe_tup h) fun σ H Q h => tX_mono (tX_bind h) fun vs H1 ⟨ms, st, env, ds, S, r, r1, k⟩ => by
    have k := k.ofO
    unfold opTup at k
    split at k
    · rename_i hl
      exact ⟨by rw [r1.length]; exact LIM_le hl, OkO.tup S r1 k⟩
    · exact k.elim
theorem e_lst {es : List Expr} {pos : Pos} {fs : List E} (h : PA X es (tA G W (eArgs fs))) : PE X (.List es pos) (tE G W (eBlt opLst fs)) :=
  PE_weak (pe_lst h) fun σ H Q h => tX_mono (tX_bind h) fun vs H1 ⟨ms, st, env, ds, S, r, r1, k⟩ => by
    have k := k.ofO
    unfold opLst at k
    split at k
    · rename_i hl
      exact ⟨by rw [r1.length]; exact LIM_le hl, OkO.newL S r1 k⟩
    · exact k.elim
theorem blt_tCB {op : List D → O D} {fs : List E} {Q : VK} (h : tE G W (eBlt op fs) σ H Q) : tCB (rN G op) (tA G W (eArgs fs)) σ H Q :=
  tX_mono (tX_bind h) fun vs H1 ⟨ms, st, env, ds, S, r, r1, k⟩ => ⟨ms, st, ds, S, r1, k.ofO⟩
theorem e_blt {x : Str} {e : Expr} {es : List Expr} {p pos : Pos} {id : String} {op : List D → O D} {fs : List E} (hc : CallR X (.builtin id) (rN G op)) (hg : Gl X x) (hm : X.mg x = none) (hv : bootBuiltins x = some (.builtin id)) (ha : PA X (e :: es) (tA G W (eArgs fs)))
    (hn : x ≠ "__name__" := by decide) (hdb : (x == ("__debug__" : Str)) = false := by decide) (he : starEach (e :: es) X.env = (false, eval e X.env) :: starEach es X.env := by rfl) (hpl : (backTo pos (starEach es X.env)).any (·.1) = false := by rfl) :
    PE X (.Call (.Name x p) (e :: es) [] pos) (tE G W (eBlt op fs)) :=
  PE_weak (pe_callB hc hg hm hv ha hn hdb he hpl) fun _ _ _ h => blt_tCB h
theorem e_bty {x : Str} {e : Expr} {es : List Expr} {p pos : Pos} {id : String} {op : List D → O D} {fs : List E} (hc : CallR X (.type id) (rN G op)) (hg : Gl X x) (hm : X.mg x = none) (hv : bootBuiltins x = some (.type id)) (ha : PA X (e :: es) (tA G W (eArgs fs)))
    (hn : x ≠ "__name__" := by decide) (hdb : (x == ("__debug__" : Str)) = false := by decide) (he : starEach (e :: es) X.env = (false, eval e X.env) :: starEach es X.env := by rfl) (hpl : (backTo pos (starEach es X.env)).any (·.1) = false := by rfl) :
    PE X (.Call (.Name x p) (e :: es) [] pos) (tE G W (eBlt op fs)) :=
  PE_weak (pe_callTy hc hg hm hv ha hn hdb he hpl) fun _ _ _ h => blt_tCB h
/-- o[i] -/
theorem e_ix {a b : Expr} {pos : Pos} {f : D → D → O D} {fa fb : E} (ho : IxR X (rO G f)) (ha : PE X a (tE G W fa)) (hb : PE X b (tE G W fb)) (hs : PlainIx b := by exact fun _ _ => rfl) : PE X (.Subscript a b pos) (tE G W (eBin f fa fb)) :=
  PE_weak (pe_ix ho ha hb hs) fun _ _ _ h => bin_tOp h
end
end LF

set_option Elab.async false
set_option linter.all false
set_option maxRecDepth 100000
set_option maxHeartbeats 4000000
/-! The layer: operations. -/
namespace LF
open PySem PySem.Spec PyProof.Rows L2
section
variable {G : Gx} {W : WX} {X : Cx} {σ : L2.St} {H : Hp}
/-! ### ints, texts, tuples, lists: + - * // % ** -/
def opAdd : D → D → O D
  | .int i, .int j => fun st => some (.int (i + j), st)
  | .str x, .str y => fun st => if x.length + y.length ≤ LIM then some (.str (x ++ y), st) else none
  | .tup a, .tup b => fun st => if a.length + b.length ≤ LIM then some (.tup (a ++ b), st) else none
  | .ref i, .ref j => fun st => match st[i]?, st[j]? with
    | some (.lst a), some (.lst b) => if a.length + b.length ≤ LIM then newL (a ++ b) st else none
    | _, _ => none
  | _, _ => fun _ => none
def opSub : D → D → O D
  | .int i, .int j => fun st => some (.int (i - j), st)
  | _, _ => fun _ => none
def opMul : D → D → O D
  | .int i, .int j => fun st => if (-(2 ^ 64) < i ∧ i < 2 ^ 64) ∨ (-(2 ^ 64) < j ∧ j < 2 ^ 64) then some (.int (i * j), st) else none
  | .ref i, .int k => fun st => match st[i]? with
    | some (.lst a) => if a.length * k.toNat ≤ LIM ∧ -(2 ^ 63) ≤ k ∧ k < 2 ^ 63 then newL (List.replicate k.toNat a).flatten st else none
    | _ => none
  | _, _ => fun _ => none
def opDiv : D → D → O D
  | .int i, .int j => fun st => if 0 < j ∧ j < 1073741824 then some (.int (i / j), st) else none
  | _, _ => fun _ => none
def opMod : D → D → O D
  | .int i, .int j => fun st => if 0 < j then some (.int (i % j), st) else none
  | _, _ => fun _ => none
def opPow : D → D → O D
  | .int i, .int j => fun st => if 0 ≤ j ∧ j ≤ 1000000 ∧ i.natAbs < 2 ^ 64 then some (.int (i ^ j.toNat), st) else none
  | _, _ => fun _ => none
def opNeg : D → O D
  | .int i => fun st => some (.int (-i), st)
  | _ => fun _ => none
theorem OkO.int {Q : VK} {ms : List Addr} {st : Sto} {i : Int} (S : SRel G ms st H) (h : OkO (RV G) G Q ms H (some (.int i, st))) : Q (.int i) H := OkO.val S (by simp only [RV]) h
theorem OkO.bl {Q : VK} {ms : List Addr} {st : Sto} {i : Bool} (S : SRel G ms st H) (h : OkO (RV G) G Q ms H (some (.bl i, st))) : Q (.bl i) H := OkO.val S (by simp only [RV]) h
theorem OkO.str {Q : VK} {ms : List Addr} {st : Sto} {i : Str} (S : SRel G ms st H) (h : OkO (RV G) G Q ms H (some (.str i, st))) : Q (.str i) H := OkO.val S (by simp only [RV]) h
theorem o_add (hK : X.K = G.K) : OpR X (binaryOp .Add) (rO G opAdd) := OpR_imp (op_add.or (op_add_str.or (op_catA.or op_cat))) fun v u H Q ⟨ms, st, x, y, S, rx, ry, k⟩ => by
  unfold opAdd at k
  split at k
  · simp only [RV] at rx ry
    subst rx ry
    exact .inl ⟨_, _, rfl, rfl, OkO.int S k⟩
  · simp only [RV] at rx ry
    subst rx ry
    split at k
    · rename_i hl
      exact .inr (.inl ⟨_, _, rfl, rfl, LIM_le hl, OkO.str S k⟩)
    · exact k.elim
  · rename_i a b
    have rx0 := rx
    have ry0 := ry
    simp only [RV] at rx ry
    obtain ⟨p, vs, rfl, h1, h2⟩ := rx
    obtain ⟨q, us, rfl, h3, h4⟩ := ry
    split at k
    · rename_i hl
      refine .inr (.inr (.inl ⟨p, q, vs, us, rfl, rfl, by rw [hK]; exact h1.t, by rw [hK]; exact h3.t, by rw [h2.length, h4.length]; exact LIM_le hl, fun e => ?_, fun _ e => ?_, fun _ _ => OkO.tup S (h2.app h4) k⟩))
      · have hl0 := h2.length
        rw [e] at hl0
        have e2 : a = [] := List.eq_nil_of_length_eq_zero hl0.symm
        subst e2
        exact OkO.val S ry0 k
      · have hl0 := h4.length
        rw [e] at hl0
        have e2 : b = [] := List.eq_nil_of_length_eq_zero hl0.symm
        subst e2
        rw [List.append_nil] at k
        exact OkO.val S rx0 k
    · exact k.elim
  · split at k
    · rename_i a b e1 e2
      obtain ⟨p, vs, rfl, _, h1, h2⟩ := S.ref e1 rx
      obtain ⟨q, us, rfl, _, h3, h4⟩ := S.ref e2 ry
      split at k
      · rename_i hl
        exact .inr (.inr (.inr ⟨p, q, vs, us, rfl, rfl, h1, h3, by rw [h2.length, h4.length]; exact LIM_le hl, OkO.newL S (h2.app h4) k⟩))
      · exact k.elim
    · exact k.elim
  · exact k.elim
theorem o_sub : OpR X (binaryOp .Sub) (rO G opSub) := OpR_imp op_sub fun v u H Q ⟨ms, st, x, y, S, rx, ry, k⟩ => by
  unfold opSub at k
  split at k
  · simp only [RV] at rx ry
    subst rx ry
    exact ⟨_, _, rfl, rfl, OkO.int S k⟩
  · exact k.elim
theorem RVs.repf {ms : List Addr} {ds : List D} {vs : List V} (h : RVs G ms H ds vs) : ∀ n, RVs G ms H (List.replicate n ds).flatten (List.replicate n vs).flatten
  | 0 => by simp [RVs]
  | n + 1 => by
    simp only [List.replicate_succ, List.flatten_cons]
    exact h.app (RVs.repf h n)
theorem o_mul : OpR X (binaryOp .Mult) (rO G opMul) := OpR_imp (op_mul.or op_rep) fun v u H Q ⟨ms, st, x, y, S, rx, ry, k⟩ => by
  unfold opMul at k
  split at k
  · simp only [RV] at rx ry
    subst rx ry
    split at k
    · rename_i hc
      exact .inl ⟨_, _, rfl, rfl, hc, OkO.int S k⟩
    · exact k.elim
  · simp only [RV] at ry
    subst ry
    split at k
    · rename_i a e1
      obtain ⟨p, vs, rfl, _, h1, h2⟩ := S.ref e1 rx
      split at k
      · rename_i hl
        exact .inr ⟨p, _, vs, rfl, rfl, h1, hl.2.1, hl.2.2, by rw [h2.length]; exact LIM_le hl.1, OkO.newL S (h2.repf _) k⟩
      · exact k.elim
    · exact k.elim
  · exact k.elim
theorem o_div : OpR X (binaryOp .FloorDiv) (rO G opDiv) := OpR_imp op_fdiv fun v u H Q ⟨ms, st, x, y, S, rx, ry, k⟩ => by
  unfold opDiv at k
  split at k
  · simp only [RV] at rx ry
    subst rx ry
    split at k
    · rename_i hc
      exact ⟨_, _, rfl, rfl, hc, OkO.int S k⟩
    · exact k.elim
  · exact k.elim
theorem o_mod : OpR X (binaryOp .Mod) (rO G opMod) := OpR_imp op_mod fun v u H Q ⟨ms, st, x, y, S, rx, ry, k⟩ => by
  unfold opMod at k
  split at k
  · simp only [RV] at rx ry
    subst rx ry
    split at k
    · rename_i hc
      exact ⟨_, _, rfl, rfl, hc, OkO.int S k⟩
    · exact k.elim
  · exact k.elim
theorem o_pow : OpR X (binaryOp .Pow) (rO G opPow) := OpR_imp op_pow fun v u H Q ⟨ms, st, x, y, S, rx, ry, k⟩ => by
  unfold opPow at k
  split at k
  · simp only [RV] at rx ry
    subst rx ry
    split at k
    · rename_i hc
      exact ⟨_, _, rfl, rfl, hc, OkO.int S k⟩
    · exact k.elim
  · exact k.elim
theorem o_neg : UnR X (unaryOp .USub) (rU1 G opNeg) := UnR_imp un_neg fun v H Q ⟨ms, st, x, S, rx, k⟩ => by
  unfold opNeg at k
  split at k
  · simp only [RV] at rx
    subst rx
    exact ⟨_, rfl, OkO.int S k⟩
  · exact k.elim
/-! ### comparisons -/
def opCmp (f : Int → Int → Bool) : D → D → O D
  | .int i, .int j => fun st => some (.bl (f i j), st)
  | _, _ => fun _ => none
theorem o_cmp {op : CmpOp} {f : Int → Int → Bool} (h : OpR X (compareOp op) (rI0 fun i j => .bl (f i j))) : OpR X (compareOp op) (rO G (opCmp f)) := OpR_imp h fun v u H Q ⟨ms, st, x, y, S, rx, ry, k⟩ => by
  unfold opCmp at k
  split at k
  · simp only [RV] at rx ry
    subst rx ry
    exact ⟨_, _, rfl, rfl, OkO.bl S k⟩
  · exact k.elim
abbrev opLt := opCmp fun i j => decide (i < j)
abbrev opLe := opCmp fun i j => decide (i ≤ j)
abbrev opGt := opCmp fun i j => decide (j < i)
abbrev opGe := opCmp fun i j => decide (j ≤ i)
theorem o_lt : OpR X (compareOp .Lt) (rO G opLt) := o_cmp op_lt
theorem o_le : OpR X (compareOp .LtE) (rO G opLe) := o_cmp op_le
theorem o_gt : OpR X (compareOp .Gt) (rO G opGt) := o_cmp op_gt
theorem o_ge : OpR X (compareOp .GtE) (rO G opGe) := o_cmp op_ge
def isNon : D → Bool
  | .non => true
  | _ => false
theorem isNon_ok {ms : List Addr} {d : D} {v : V} (r : RV G ms H d v) : decide (v = V.non) = isNon d := by
  cases d with
  | non => simp only [RV] at r; subst r; rfl
  | bl _ => simp only [RV] at r; subst r; rfl
  | int _ => simp only [RV] at r; subst r; rfl
  | str _ => simp only [RV] at r; subst r; rfl
  | tup _ => simp only [RV] at r; obtain ⟨a, vs, rfl, _⟩ := r; rfl
  | ref _ => simp only [RV] at r; obtain ⟨a, rfl, _⟩ := r; rfl
  | glo _ => simp only [RV] at r; subst r; rfl
  | ty _ => simp only [RV] at r; subst r; rfl
  | scr _ => simp only [RV] at r; obtain ⟨a, rfl, _⟩ := r; rfl
  | xc => simp only [RV] at r; obtain ⟨a, _, _, _, rfl⟩ := r; rfl
def opIs : D → D → O D
  | x, .non => fun st => some (.bl (isNon x), st)
  | _, _ => fun _ => none
def opIsNot : D → D → O D
  | x, .non => fun st => some (.bl (!isNon x), st)
  | _, _ => fun _ => none
theorem o_is : OpR X (compareOp .Is) (rO G opIs) := OpR_imp op_isN fun v u H Q ⟨ms, st, x, y, S, rx, ry, k⟩ => by
  unfold opIs at k
  split at k
  · simp only [RV] at ry
    subst ry
    exact ⟨rfl, by rw [isNon_ok rx]; exact OkO.bl S k⟩
  · exact k.elim
theorem o_isnot : OpR X (compareOp .IsNot) (rO G opIsNot) := OpR_imp op_notN fun v u H Q ⟨ms, st, x, y, S, rx, ry, k⟩ => by
  unfold opIsNot at k
  split at k
  · simp only [RV] at ry
    subst ry
    exact ⟨rfl, by rw [isNon_ok rx]; exact OkO.bl S k⟩
  · exact k.elim
/-! ### data -/
def mapO {α β : Type} (f : α → Option β) : List α → Option (List β)
  | [] => some []
  | x :: xs => match f x, mapO f xs with
    | some y, some ys => some (y :: ys)
    | _, _ => none
/-- what a value is as data, its lists read in the store -/
def deep (st : Sto) : Nat → D → Option PyData
  | 0 => fun d => match d with
    | .non => some .none
    | .bl b => some (.bool b)
    | .int i => some (.int i)
    | .str x => some (.str x)
    | _ => none
  | n + 1 => fun d => match d with
    | .non => some .none
    | .bl b => some (.bool b)
    | .int i => some (.int i)
    | .str x => some (.str x)
    | .tup ds => (mapO (deep st n) ds).map .tuple
    | .ref i => match st[i]? with
      | some (.lst ds) => (mapO (deep st n) ds).map .list
      | _ => none
    | _ => none
theorem dpAll {ms : List Addr} {f : D → Option PyData} (h : ∀ d v p, RV G ms H d v → f d = some p → Dp G.K H v p) : ∀ (ds : List D) (vs : List V) (ps : List PyData), RVs G ms H ds vs → mapO f ds = some ps → DpAll G.K H vs ps
  | [], vs, ps, r, e => by
    simp only [RVs] at r
    simp only [mapO] at e
    cases e
    subst r
    exact .nil
  | d :: ds, vs, ps, r, e => by
    simp only [RVs] at r
    obtain ⟨v, r', rfl, r1, r2⟩ := r
    simp only [mapO] at e
    split at e
    · rename_i p qs e1 e2
      cases e
      exact .cons (h d v p r1 e1) (dpAll h ds r' qs r2 e2)
    · cases e
theorem dp_of {ms : List Addr} {st : Sto} (S : SRel G ms st H) : ∀ (n : Nat) (d : D) (v : V) (p : PyData), RV G ms H d v → deep st n d = some p → Dp G.K H v p := by
  intro n
  induction n with
  | zero =>
    intro d v p r e
    cases d <;> simp only [deep] at e <;> simp only [RV] at r <;> (first | (cases e; done) | skip) <;> cases e <;> subst r
    · exact .non
    · exact .bl _
    · exact .int _
    · exact .str _
  | succ n ih =>
    intro d v p r e
    cases d with
    | non => simp only [deep] at e; simp only [RV] at r; cases e; subst r; exact .non
    | bl _ => simp only [deep] at e; simp only [RV] at r; cases e; subst r; exact .bl _
    | int _ => simp only [deep] at e; simp only [RV] at r; cases e; subst r; exact .int _
    | str _ => simp only [deep] at e; simp only [RV] at r; cases e; subst r; exact .str _
    | tup ds =>
      simp only [deep] at e
      simp only [RV] at r
      obtain ⟨a, vs, rfl, h1, h2⟩ := r
      cases e1 : mapO (deep st n) ds with
      | none => rw [e1] at e; cases e
      | some ps =>
        rw [e1] at e
        cases e
        exact .tup h1.t (dpAll ih ds vs ps h2 e1)
    | ref i =>
      simp only [deep] at e
      split at e
      · rename_i ds e0
        obtain ⟨a, vs, rfl, _, h1, h2⟩ := S.ref e0 r
        cases e1 : mapO (deep st n) ds with
        | none => rw [e1] at e; cases e
        | some ps =>
          rw [e1] at e
          cases e
          exact .lst (SqL.of h1) (dpAll ih ds vs ps h2 e1)
      · cases e
    | glo _ => simp only [deep] at e; cases e
    | ty _ => simp only [deep] at e; cases e
    | scr _ => simp only [deep] at e; cases e
    | xc => simp only [deep] at e; cases e
/-- x == y of data -/
def eqD (st : Sto) (x y : D) : Option Bool := match deep st 66 x, deep st 66 y with
  | some p, some q => if SeqAt.shaped p = true ∧ SeqAt.shaped q = true then some (PyData.eqv p q) else none
  | _, _ => none
def opEq (x y : D) : O D := fun st => match eqD st x y with
  | some b => some (.bl b, st)
  | none => none
def opNe (x y : D) : O D := fun st => match eqD st x y with
  | some b => some (.bl (!b), st)
  | none => none
theorem eqD_ok {ms : List Addr} {st : Sto} (S : SRel G ms st H) {x y : D} {v u : V} {b : Bool} (rx : RV G ms H x v) (ry : RV G ms H y u) (h : eqD st x y = some b) : ∃ d e, Dp G.K H v d ∧ Dp G.K H u e ∧ SeqAt.shaped d = true ∧ SeqAt.shaped e = true ∧ PyData.eqv d e = b := by
  unfold eqD at h
  split at h
  · rename_i p q e1 e2
    split at h
    · rename_i hs
      cases h
      exact ⟨p, q, dp_of S _ _ _ _ rx e1, dp_of S _ _ _ _ ry e2, hs.1, hs.2, rfl⟩
    · cases h
  · cases h
theorem o_eq (hK : X.K = G.K) (hu : X.A.units + 64 < cLine) : OpR X (compareOp .Eq) (rO G opEq) := OpR_imp (op_eqD hu) fun v u H Q ⟨ms, st, x, y, S, rx, ry, k⟩ => by
  unfold opEq at k
  split at k
  · rename_i b e
    obtain ⟨d, d', h1, h2, h3, h4, rfl⟩ := eqD_ok S rx ry e
    exact ⟨d, d', by rw [hK]; exact h1, by rw [hK]; exact h2, h3, h4, OkO.bl S k⟩
  · exact k.elim
theorem o_ne (hK : X.K = G.K) (hu : X.A.units + 64 < cLine) : OpR X (compareOp .NotEq) (rO G opNe) := OpR_imp (op_neD hu) fun v u H Q ⟨ms, st, x, y, S, rx, ry, k⟩ => by
  unfold opNe at k
  split at k
  · rename_i b e
    obtain ⟨d, d', h1, h2, h3, h4, rfl⟩ := eqD_ok S rx ry e
    exact ⟨d, d', by rw [hK]; exact h1, by rw [hK]; exact h2, h3, h4, OkO.bl S k⟩
  · exact k.elim

/-! ### in, of flat things -/
def flatD : D → Bool
  | .non => true
  | .bl _ => true
  | .int _ => true
  | .str _ => true
  | _ => false
def eqF : D → D → Bool
  | .non, .non => true
  | .bl a, .bl b => a == b
  | .bl a, .int b => (if a then 1 else 0) == b
  | .int a, .bl b => a == (if b then 1 else 0)
  | .int a, .int b => a == b
  | .str a, .str b => a == b
  | _, _ => false
theorem flat_ok {ms : List Addr} {d : D} {v : V} (r : RV G ms H d v) (h : flatD d = true) : flatV v = true ∧ ∀ e u, RV G ms H e u → flatD e = true → eqV u v = eqF e d := by
  cases d <;> simp only [flatD] at h <;> (first | (cases h; done) | skip) <;> simp only [RV] at r <;> subst r <;> refine ⟨rfl, fun e u re he => ?_⟩ <;> cases e <;> simp only [flatD] at he <;> (first | (cases he; done) | skip) <;> simp only [RV] at re <;> subst re <;> rfl
/-- the items of a tuple or a list -/
def seqOf : D → Sto → Option (List D)
  | .tup ds, _ => some ds
  | .ref i, st => match st[i]? with
    | some (.lst ds) => some ds
    | _ => none
  | .scr ns, _ => some (ns.map D.int)
  | _, _ => none
theorem seq_ok {ms : List Addr} {st : Sto} (S : SRel G ms st H) {d : D} {v : V} {ds : List D} (r : RV G ms H d v) (h : seqOf d st = some ds) : ∃ p vs, v = .ref p ∧ (SqL G.K H p vs ∨ SqT G.K H p vs) ∧ RVs G ms H ds vs := by
  cases d with
  | tup es =>
    simp only [seqOf] at h
    cases h
    simp only [RV] at r
    obtain ⟨a, vs, rfl, h1, h2⟩ := r
    exact ⟨a, vs, rfl, .inr h1.t, h2⟩
  | ref i =>
    simp only [seqOf] at h
    split at h
    · rename_i es e
      cases h
      obtain ⟨a, vs, rfl, _, h1, h2⟩ := S.ref e r
      exact ⟨a, vs, rfl, .inl (SqL.of h1), h2⟩
    · cases h
  | scr ns =>
    simp only [seqOf] at h
    cases h
    simp only [RV] at r
    obtain ⟨a, rfl, h1⟩ := r
    exact ⟨a, _, rfl, .inl h1.l, RVs.ints ns⟩
  | non => cases h
  | bl _ => cases h
  | int _ => cases h
  | str _ => cases h
  | glo _ => cases h
  | ty _ => cases h
  | xc => cases h
def inF (x : D) (ds : List D) : Bool := ds.any fun y => eqF y x
theorem inF_ok {ms : List Addr} {x : D} {v : V} (r : RV G ms H x v) (hx : flatD x = true) : ∀ {ds : List D} {vs : List V}, RVs G ms H ds vs → ds.all flatD = true → vs.all flatV = true ∧ inV v vs = inF x ds
  | [], vs, h, _ => by
    simp only [RVs] at h
    subst h
    exact ⟨rfl, rfl⟩
  | d :: ds, vs, h, ha => by
    simp only [RVs] at h
    obtain ⟨u, r', rfl, r1, r2⟩ := h
    simp only [List.all_cons, Bool.and_eq_true] at ha
    obtain ⟨i1, i2⟩ := inF_ok r hx r2 ha.2
    refine ⟨by simp only [List.all_cons, Bool.and_eq_true]; exact ⟨(flat_ok r1 ha.1).1, i1⟩, ?_⟩
    unfold inV inF at i2 ⊢
    rw [List.any_cons, List.any_cons, i2, (flat_ok r hx).2 d u r1 ha.1]
def opIn (neg : Bool) (x y : D) : O D := fun st => match seqOf y st with
  | some ds => if flatD x = true ∧ ds.all flatD = true then some (.bl (if neg then !inF x ds else inF x ds), st) else none
  | none => none
theorem rIn_of (hK : X.K = G.K) {neg : Bool} {v u : V} {Q : VK} (h : rO G (opIn neg) v u H Q) : rIn X.K neg v u H Q := by
  obtain ⟨ms, st, x, y, S, rx, ry, k⟩ := h
  unfold opIn at k
  split at k
  · rename_i ds e
    split at k
    · rename_i hf
      obtain ⟨p, vs, rfl, h1, h2⟩ := seq_ok S ry e
      obtain ⟨i1, i2⟩ := inF_ok rx hf.1 h2 hf.2
      exact ⟨p, vs, rfl, by rw [hK]; exact h1, (flat_ok rx hf.1).1, i1, by rw [i2]; exact OkO.bl S k⟩
    · exact k.elim
  · exact k.elim
theorem o_in (hK : X.K = G.K) : OpR X (compareOp .In) (rO G (opIn false)) := OpR_imp op_in_seq fun v u H Q h => rIn_of hK h
theorem o_notin (hK : X.K = G.K) : OpR X (compareOp .NotIn) (rO G (opIn true)) := OpR_imp op_notIn_seq fun v u H Q h => rIn_of hK h

/-! ### subscripts -/
def opIx (x y : D) : O D := fun st => match x, y with
  | .str z, .int i => match atI z.cps.toList i with
    | some c => if z.length ≤ LIM then some (.str ⟨#[c]⟩, st) else none
    | none => none
  | x, .int i => match seqOf x st with
    | some ds => match atI ds i with
      | some d => some (d, st)
      | none => none
    | none => none
  | _, _ => none
theorem atI_ok {ms : List Addr} {ds : List D} {vs : List V} {i : Int} {d : D} (r : RVs G ms H ds vs) (h : atI ds i = some d) : ∃ v, atI vs i = some v ∧ RV G ms H d v := by
  unfold atI at h ⊢
  rw [r.length]
  cases e : ixN ds.length i with
  | none => rw [e] at h; cases h
  | some j =>
    rw [e] at h
    exact r.at h
theorem o_ix (hK : X.K = G.K) : IxR X (rO G opIx) := IxR_imp ix_seq fun v u H Q ⟨ms, st, x, y, S, rx, ry, k⟩ => by
  unfold opIx at k
  split at k
  · simp only [RV] at rx ry
    subst rx ry
    split at k
    · rename_i c e
      split at k
      · rename_i hl
        exact .inr (.inr ⟨_, _, _, rfl, rfl, LIM_le hl, e, OkO.str S k⟩)
      · exact k.elim
    · exact k.elim
  · simp only [RV] at ry
    subst ry
    split at k
    · rename_i ds e
      split at k
      · rename_i d e2
        obtain ⟨p, vs, rfl, h1, h2⟩ := seq_ok S rx e
        obtain ⟨w, h3, h4⟩ := atI_ok h2 e2
        rcases h1 with h1 | h1
        · exact .inl ⟨p, vs, _, w, rfl, rfl, by rw [hK]; exact h1, h3, OkO.val S h4 k⟩
        · exact .inr (.inl ⟨p, vs, _, w, rfl, rfl, by rw [hK]; exact h1, h3, OkO.val S h4 k⟩)
      · exact k.elim
    · exact k.elim
  · exact k.elim
/-- x[lo:hi] -/
def cutD {α : Type} (xs : List α) (lo hi : Option Int) : List α := (xs.drop (HT.sIx xs.length 0 lo)).take (HT.sIx xs.length xs.length hi - HT.sIx xs.length 0 lo)
theorem cut_ok {ms : List Addr} {ds : List D} {vs : List V} (lo hi : Option Int) (r : RVs G ms H ds vs) : RVs G ms H (cutD ds lo hi) (cutV vs lo hi) := by
  unfold cutD cutV
  rw [r.length]
  exact (r.drop _).take _
def opSl (lo hi : Option Int) (x : D) : O D := fun st => match x with
  | .str z => if z.length ≤ LIM then some (.str (cutS z lo hi), st) else none
  | .tup ds => some (.tup (cutD ds lo hi), st)
  | x => match seqOf x st with
    | some ds => newL (cutD ds lo hi) st
    | none => none
def rS (G : Gx) (op : Option Int → Option Int → D → O D) : V → Option Int → Option Int → Hp → VK → Prop := fun v lo hi H Q => ∃ ms st x, SRel G ms st H ∧ RV G ms H x v ∧ OkO (RV G) G Q ms H (op lo hi x st)
theorem cut_whole {α : Type} {xs : List α} {lo hi : Option Int} (h : HT.sIx xs.length 0 lo = 0 ∧ HT.sIx xs.length xs.length hi = xs.length) : cutD xs lo hi = xs := by
  unfold cutD
  rw [h.1, h.2]
  simp
theorem s_sl (hK : X.K = G.K) : SlR X (rS G opSl) := SlR_imp (sl_str.or (sl_tupA.or sl_list)) fun v lo hi H Q ⟨ms, st, x, S, rx, k⟩ => by
  unfold opSl at k
  split at k
  · simp only [RV] at rx
    subst rx
    split at k
    · rename_i hl
      exact .inl ⟨_, rfl, LIM_le hl, OkO.str S k⟩
    · exact k.elim
  · rename_i ds
    have rx0 := rx
    simp only [RV] at rx
    obtain ⟨a, vs, rfl, h1, h2⟩ := rx
    refine .inr (.inl ⟨a, vs, rfl, by rw [hK]; exact h1.t, fun e => ?_, fun _ => OkO.tup S (cut_ok lo hi h2) k⟩)
    rw [h2.length] at e
    rw [cut_whole e] at k
    exact OkO.val S rx0 k
  · split at k
    · rename_i x _ _ hn _ ds e
      cases x with
      | tup es => exact (hn es rfl).elim
      | ref i =>
        simp only [seqOf] at e
        split at e
        · rename_i es e1
          cases e
          obtain ⟨a, vs, rfl, _, h1, h2⟩ := S.ref e1 rx
          exact .inr (.inr ⟨a, vs, rfl, SqL.of h1, OkO.newL S (cut_ok lo hi h2) k⟩)
        · cases e
      | scr ns =>
        simp only [seqOf] at e
        cases e
        simp only [RV] at rx
        obtain ⟨a, rfl, h1⟩ := rx
        exact .inr (.inr ⟨a, _, rfl, by rw [hK]; exact h1.l, OkO.newL S (cut_ok lo hi (RVs.ints ns)) k⟩)
      | non => cases e
      | bl _ => cases e
      | int _ => cases e
      | str _ => cases e
      | glo _ => cases e
      | ty _ => cases e
      | xc => cases e
    · exact k.elim
abbrev RP : List Addr → Hp → Option Int → Option Int → Prop := fun _ _ a b => b = a
def ePart : Option E → Sl → M (Option Int)
  | none => fun _ st => .ok none st
  | some f => fun env st => (f env st).bind fun x s => match x with
    | .int i => .ok (some i) s
    | _ => .bad
theorem p_none : PO X none (tX RP G W (ePart none)) := ⟨fun pins s σ H Q I h => po_none.run pins s σ H Q I (by
  obtain ⟨ms, st, env, S, _, k⟩ := h
  exact k none ms H Gr.refl S rfl)⟩
theorem p_some {e : Expr} {f : E} (h : PE X e (tE G W f)) : PO X (some e) (tX RP G W (ePart (some f))) := ⟨fun pins s σ H Q I q => (po_some h).run pins s σ H Q I (tX_mono (tX_bind q) fun v H1 ⟨ms, st, env, x, S, _, r1, k⟩ => by
  cases x with
  | int i =>
    simp only [RV] at r1
    exact ⟨i, r1, k (some i) ms H1 Gr.refl S rfl⟩
  | _ => exact k.elim)⟩
def eSl (a : E) (lo hi : Option E) : E := fun env st => (a env st).bind fun x s => (ePart lo env s).bind fun l s => (ePart hi env s).bind fun h s => ofO (opSl l h x s)
theorem e_sl {a : Expr} {lo hi : Option Expr} {p2 pos : Pos} {fa : E} {fl fh : Option E} (hK : X.K = G.K) (ha : PE X a (tE G W fa)) (hl : PO X lo (tX RP G W (ePart fl))) (hh : PO X hi (tX RP G W (ePart fh))) :
    PE X (.Subscript a (.Slice lo hi none p2) pos) (tE G W (eSl fa fl fh)) := PE_weak (pe_slice (s_sl (G := G) hK) ha hl hh) fun σ H Q h => by
  obtain ⟨ms, st, env, S, r, k⟩ := h
  exact ⟨ms, st, env, S, r, Okk.bind k fun x s v m1 H1 g1 S1 r1 k1 => ⟨m1, s, env, S1, r.gr g1, Okk.bind k1 fun l s2 l' m2 H2 g2 S2 r2 k2 => ⟨m2, s2, env, S2, r.gr (g1.trans g2), Okk.bind k2 fun h s3 h' m3 H3 g3 S3 r3 k3 => by
    cases r2
    cases r3
    exact ⟨m3, s3, x, S3, RV.gr (g2.trans g3) _ _ r1, k3.ofO⟩⟩⟩⟩

/-! ### built-in functions -/
def lenOf : D → Sto → Option Nat
  | .str x, _ => if x.length ≤ LIM then some x.length else none
  | x, st => (seqOf x st).map List.length
def opLen : List D → O D
  | [x] => fun st => match lenOf x st with
    | some n => some (.int n, st)
    | none => none
  | _ => fun _ => none
theorem RVs.one' {ms : List Addr} {d : D} {vs : List V} (h : RVs G ms H [d] vs) : ∃ v, vs = [v] ∧ RV G ms H d v := by
  simp only [RVs] at h
  obtain ⟨v, r, rfl, h1, rfl⟩ := h
  exact ⟨v, rfl, h1⟩
theorem RVs.two' {ms : List Addr} {d e : D} {vs : List V} (h : RVs G ms H [d, e] vs) : ∃ v u, vs = [v, u] ∧ RV G ms H d v ∧ RV G ms H e u := by
  simp only [RVs] at h
  obtain ⟨v, r, rfl, h1, u, r2, rfl, h2, rfl⟩ := h
  exact ⟨v, u, rfl, h1, h2⟩
theorem c_len (hK : X.K = G.K) : CallR X (.builtin "len") (rN G opLen) := CallR_imp call_len fun vs H Q ⟨ms, st, ds, S, r, k⟩ => by
  unfold opLen at k
  split at k
  · rename_i x
    obtain ⟨v, rfl, rv⟩ := r.one'
    split at k
    · rename_i n e
      refine ⟨v, n, rfl, ?_, OkO.int S k⟩
      unfold lenOf at e
      split at e
      · simp only [RV] at rv
        subst rv
        split at e
        · rename_i hl
          cases e
          exact ⟨LIM_le hl, rfl⟩
        · cases e
      · cases e1 : seqOf x st with
        | none => rw [e1] at e; cases e
        | some ds =>
          rw [e1] at e
          cases e
          obtain ⟨p, us, rfl, h1, h2⟩ := seq_ok S rv e1
          rcases h1 with h1 | h1
          · exact .inl ⟨us, by rw [hK]; exact h1, h2.length.symm⟩
          · exact .inr ⟨us, by rw [hK]; exact h1, h2.length.symm⟩
    · exact k.elim
  · exact k.elim
def opAbs : List D → O D
  | [.int i] => fun st => some (.int (if i < 0 then -i else i), st)
  | _ => fun _ => none
theorem c_abs : CallR X (.builtin "abs") (rN G opAbs) := CallR_imp call_abs fun vs H Q ⟨ms, st, ds, S, r, k⟩ => by
  unfold opAbs at k
  split at k
  · obtain ⟨v, rfl, rv⟩ := r.one'
    simp only [RV] at rv
    subst rv
    exact ⟨_, rfl, OkO.int S k⟩
  · exact k.elim
/-- int(x): of an int, a bool, a text -/
def opInt : List D → O D
  | [.int i] => fun st => some (.int i, st)
  | [.bl b] => fun st => some (.int (if b then 1 else 0), st)
  | [.str x] => fun st => match PySem.intText? x with
    | some n => if x.length ≤ 640 then some (.int n, st) else none
    | none => none
  | _ => fun _ => none
theorem c_int : CallR X (.type "int") (rN G opInt) := CallR_imp (CallR_or call_int1 call_int_str) fun vs H Q ⟨ms, st, ds, S, r, k⟩ => by
  unfold opInt at k
  split at k
  · obtain ⟨v, rfl, rv⟩ := r.one'
    simp only [RV] at rv
    subst rv
    exact .inl (.inl ⟨_, rfl, OkO.int S k⟩)
  · obtain ⟨v, rfl, rv⟩ := r.one'
    simp only [RV] at rv
    subst rv
    exact .inl (.inr ⟨_, rfl, OkO.int S k⟩)
  · obtain ⟨v, rfl, rv⟩ := r.one'
    simp only [RV] at rv
    subst rv
    split at k
    · rename_i n e
      split at k
      · rename_i hl
        exact .inr ⟨_, n, rfl, e, hl, OkO.int S k⟩
      · exact k.elim
    · exact k.elim
  · exact k.elim
/-- list(x), tuple(x) of a sequence -/
def opList : List D → O D
  | [x] => fun st => match seqOf x st with
    | some ds => newL ds st
    | none => none
  | _ => fun _ => none
def opTuple : List D → O D
  | [x] => fun st => match seqOf x st with
    | some ds => some (.tup ds, st)
    | none => none
  | _ => fun _ => none
theorem c_list (hK : X.K = G.K) : CallR X (.type "list") (rN G opList) := CallR_imp call_list_of fun vs H Q ⟨ms, st, ds, S, r, k⟩ => by
  unfold opList at k
  split at k
  · obtain ⟨v, rfl, rv⟩ := r.one'
    split at k
    · rename_i ds e
      obtain ⟨p, us, rfl, h1, h2⟩ := seq_ok S rv e
      exact ⟨p, us, rfl, by rw [hK]; exact h1, OkO.newL S h2 k⟩
    · exact k.elim
  · exact k.elim
theorem c_tuple (hK : X.K = G.K) : CallR X (.type "tuple") (rN G opTuple) := CallR_imp call_tuple_of fun vs H Q ⟨ms, st, ds, S, r, k⟩ => by
  unfold opTuple at k
  split at k
  · rename_i x
    obtain ⟨v, rfl, rv⟩ := r.one'
    split at k
    · rename_i ds e
      obtain ⟨p, us, rfl, h1, h2⟩ := seq_ok S rv e
      cases x with
      | tup es =>
        simp only [seqOf] at e
        cases e
        have rv0 := rv
        simp only [RV] at rv
        obtain ⟨a, ws, e2, h3, h4⟩ := rv
        cases e2
        exact ⟨p, ws, rfl, .inr ⟨by rw [hK]; exact h3.t, OkO.val S rv0 k⟩⟩
      | ref i =>
        simp only [seqOf] at e
        split at e
        · rename_i es e1
          cases e
          obtain ⟨a, ws, e2, _, h3, h4⟩ := S.ref e1 rv
          cases e2
          exact ⟨p, ws, rfl, .inl ⟨SqL.of h3, OkO.tup S h4 k⟩⟩
        · cases e
      | scr ns =>
        simp only [seqOf] at e
        cases e
        simp only [RV] at rv
        obtain ⟨a, e2, h3⟩ := rv
        cases e2
        exact ⟨p, _, rfl, .inl ⟨by rw [hK]; exact h3.l, OkO.tup S (RVs.ints ns) k⟩⟩
      | non => cases e
      | bl _ => cases e
      | int _ => cases e
      | str _ => cases e
      | glo _ => cases e
      | ty _ => cases e
      | xc => cases e
    · exact k.elim
  · exact k.elim
/-- all([..]), any([..]) of bools -/
def bools : List D → Option (List Bool)
  | [] => some []
  | .bl b :: ds => (bools ds).map (b :: ·)
  | _ => none
theorem bools_ok {ms : List Addr} : ∀ {ds : List D} {vs : List V} {bs : List Bool}, RVs G ms H ds vs → bools ds = some bs → vs = bs.map V.bl
  | [], vs, bs, r, e => by
    simp only [RVs] at r
    simp only [bools] at e
    cases e
    exact r
  | d :: ds, vs, bs, r, e => by
    simp only [RVs] at r
    obtain ⟨v, r', rfl, h1, h2⟩ := r
    cases d with
    | bl b =>
      simp only [RV] at h1
      simp only [bools] at e
      cases e1 : bools ds with
      | none => rw [e1] at e; cases e
      | some cs =>
        rw [e1] at e
        cases e
        rw [h1, bools_ok h2 e1]
        rfl
    | _ => simp only [bools] at e; cases e
def opAll : List D → O D
  | [.ref i] => fun st => match st[i]? with
    | some (.lst ds) => match bools ds with
      | some bs => some (.bl (bs.all id), st)
      | none => none
    | _ => none
  | _ => fun _ => none
def opAny : List D → O D
  | [.ref i] => fun st => match st[i]? with
    | some (.lst ds) => match bools ds with
      | some bs => some (.bl (bs.any id), st)
      | none => none
    | _ => none
  | _ => fun _ => none
theorem c_all (hc : X.calm = true) : CallR X (.builtin "all") (rN G opAll) := CallR_imp (cr_all hc) fun vs H Q ⟨ms, st, ds, S, r, k⟩ => by
  unfold opAll at k
  split at k
  · obtain ⟨v, rfl, rv⟩ := r.one'
    split at k
    · rename_i ds e
      split at k
      · rename_i bs e2
        obtain ⟨a, ws, rfl, _, h3, h4⟩ := S.ref e rv
        exact ⟨a, bs, rfl, SqL.of (by rw [h3, bools_ok h4 e2]), OkO.bl S k⟩
      · exact k.elim
    · exact k.elim
  · exact k.elim
theorem c_any (hc : X.calm = true) : CallR X (.builtin "any") (rN G opAny) := CallR_imp (cr_any hc) fun vs H Q ⟨ms, st, ds, S, r, k⟩ => by
  unfold opAny at k
  split at k
  · obtain ⟨v, rfl, rv⟩ := r.one'
    split at k
    · rename_i ds e
      split at k
      · rename_i bs e2
        obtain ⟨a, ws, rfl, _, h3, h4⟩ := S.ref e rv
        exact ⟨a, bs, rfl, SqL.of (by rw [h3, bools_ok h4 e2]), OkO.bl S k⟩
      · exact k.elim
    · exact k.elim
  · exact k.elim
/-- str(x) of an int, a text -/
def opStr : List D → O D
  | [.int i] => fun st => if i.natAbs.log2 < 1920 then some (.str (toString i), st) else none
  | [.str x] => fun st => some (.str x, st)
  | _ => fun _ => none
theorem c_str : CallR X (.type "str") (rN G opStr) := by
  intro pins s σ H xs us Q I rr hh
  obtain ⟨ms, st, ds, S, r, k⟩ := hh
  unfold opStr at k
  split at k
  · obtain ⟨v, rfl, rv⟩ := r.one'
    simp only [RV] at rv
    subst rv
    split at k
    · rename_i hl
      exact call_str_int pins s σ H _ us Q I rr ⟨_, rfl, hl, OkO.str S k⟩
    · exact k.elim
  · obtain ⟨v, rfl, rv⟩ := r.one'
    simp only [RV] at rv
    subst rv
    exact SkE.call_str_str pins s σ H _ us Q I rr ⟨_, rfl, OkO.str S k⟩
  · exact k.elim
end
end LF

set_option Elab.async false
set_option linter.all false
set_option maxRecDepth 100000
set_option maxHeartbeats 4000000
/-! The layer: methods, kinds, f-strings, fields, calls. -/
namespace LF
open PySem PySem.Spec PyProof.Rows L2
section
variable {G : Gx} {W : WX} {X : Cx} {σ : L2.St} {H : Hp}
/-! ### methods of built-in types -/
def tyOk (T : String) : D → Sto → Bool
  | .str _, _ => T == "str"
  | .ref i, st => T == "list" && match st[i]? with
    | some (.lst _) => true
    | _ => false
  | _, _ => false
theorem ty_ok {ms : List Addr} {st : Sto} (S : SRel G ms st H) {T : String} {x : D} {v : V} (r : RV G ms H x v) (h : tyOk T x st = true) : tyV G.K T v H := by
  cases x with
  | str _ =>
    simp only [RV] at r
    subst r
    simp only [tyOk, beq_iff_eq] at h
    exact h
  | ref i =>
    simp only [tyOk, Bool.and_eq_true, beq_iff_eq] at h
    obtain ⟨h1, h2⟩ := h
    split at h2
    · rename_i ds e
      obtain ⟨a, vs, rfl, _, h3, _⟩ := S.ref e r
      exact .inl ⟨h1, vs, SqL.of h3⟩
    · cases h2
  | non => cases h
  | bl _ => cases h
  | int _ => cases h
  | tup _ => cases h
  | glo _ => cases h
  | ty _ => cases h
  | scr _ => cases h
  | xc => cases h
def eMt (T : String) (op : D → List D → O D) (a : E) (as : List E) : E := fun env st => (a env st).bind fun x s => if tyOk T x s = true then (eArgs as env s).bind fun xs s' => ofO (op x xs s') else .bad
theorem e_mt {o e : Expr} {es : List Expr} {name : Str} {apos cpos : Pos} {T id : String} {op : D → List D → O D} {fo : E} {fs : List E} (hK : X.K = G.K) (pa : PlainAttrs T) (slot : Slot T name id) (hty : typeOf (.builtin id) = pure (.type "method_descriptor")) (hm : MtR X id (rM G op))
    (ho : PE X o (tE G W fo)) (ha : PA X (e :: es) (tA G W (eArgs fs)))
    (hbase : attributeBase o name X.env (eval o X.env) = eval o X.env := by rfl)
    (hfew : ((backTo cpos (starEach (e :: es) X.env)).all (fun x => !x.1) && (backToKw cpos (keywordEach [] X.env)).all (fun x => x.1.isSome)
      && decide ((e :: es).length + ([] : List Keyword).length + (if ([] : List Keyword).isEmpty then 0 else 1) < 30)) = true := by rfl)
    (hline : (apos.endLine == cpos.line) = true := by rfl) (hs : starEach (e :: es) X.env = (false, eval e X.env) :: starEach es X.env := by rfl) (hplain : (backTo cpos (starEach es X.env)).any (·.1) = false := by rfl) :
    PE X (.Call (.Attribute o name apos) (e :: es) [] cpos) (tE G W (eMt T op fo fs)) :=
  PE_weak (pe_bm pa slot hty hm ho ha hbase hfew hline hs hplain) fun σ H Q h => tX_mono (tX_bind h) fun v H1 ⟨ms, st, env, x, S, r, r1, k⟩ => by
    split at k
    · rename_i ht
      refine ⟨by rw [hK]; exact ty_ok S r1 ht, ms, st, env, S, r, Okk.bind k fun xs s vs m1 H2 g1 S1 r2 k1 => ⟨m1, s, x, xs, S1, RV.gr g1 _ _ r1, r2, k1.ofO⟩⟩
    · exact k.elim
theorem e_mt0 {o : Expr} {name : Str} {apos cpos : Pos} {T id : String} {op : D → List D → O D} {fo : E} (hK : X.K = G.K) (pa : PlainAttrs T) (slot : Slot T name id) (hty : typeOf (.builtin id) = pure (.type "method_descriptor")) (hm : MtR X id (rM G op)) (ho : PE X o (tE G W fo))
    (hbase : attributeBase o name X.env (eval o X.env) = eval o X.env := by rfl) (hline : (apos.endLine == cpos.line) = true := by rfl) : PE X (.Call (.Attribute o name apos) [] [] cpos) (tE G W (eMt T op fo [])) :=
  PE_weak (pe_bm0 pa slot hty hm ho hbase hline) fun σ H Q h => tX_mono (tX_bind h) fun v H1 ⟨ms, st, env, x, S, r, r1, k⟩ => by
    split at k
    · rename_i ht
      have k : Okk (RV G) G (fun c d H => W c d σ H) Q ms H1 (ofO (op x [] st)) := k
      exact ⟨by rw [hK]; exact ty_ok S r1 ht, ms, st, x, [], S, r1, by simp only [RVs], k.ofO⟩
    · exact k.elim
/-! lists -/
def opAppend (x : D) (xs : List D) : O D := fun st => match x, xs with
  | .ref i, [y] => match st[i]? with
    | some (.lst ds) => if ds.length < LIM then some (.non, st.set i (.lst (ds ++ [y]))) else none
    | _ => none
  | _, _ => none
theorem OkO.put {Q : VK} {ms : List Addr} {st : Sto} {i : Nat} {a : Addr} {ds : List D} {vs : List V} {d : D} {v : V} (S : SRel G ms st H) (hi : ms[i]? = some a) (r : RVs G ms H ds vs) (rd : RV G ms H d v) (h : OkO (RV G) G Q ms H (some (d, st.set i (.lst ds)))) : Q v (upd H a (.lst vs)) := by
  obtain ⟨c, _, hc⟩ := S.has hi
  have g : Gr ms H ms (upd H a (.lst vs)) := Gr.cell hc
  exact h v ms _ g (S.put hi ⟨vs, upd_same, RVs.gr g _ _ r⟩) (RV.gr g _ _ rd)
theorem m_append : MtR X "list.append" (rM G opAppend) := MtR_imp mt_append fun v vs H Q ⟨ms, st, x, ds, S, rx, rs, k⟩ => by
  unfold opAppend at k
  split at k
  · obtain ⟨u, rfl, ru⟩ := rs.one'
    split at k
    · rename_i es e
      obtain ⟨a, ws, rfl, ha, h1, h2⟩ := S.ref e rx
      split at k
      · rename_i hl
        exact ⟨a, ws, u, rfl, rfl, h1, by rw [h2.length]; exact LIM_lt hl, OkO.put S ha (h2.app (.one ru)) (by simp only [RV]) k⟩
      · exact k.elim
    · exact k.elim
  · exact k.elim
def opExtend (x : D) (xs : List D) : O D := fun st => match x, xs with
  | .ref i, [.ref j] => match st[i]?, st[j]? with
    | some (.lst ds), some (.lst es) => if ds.length + es.length ≤ LIM then some (.non, st.set i (.lst (ds ++ es))) else none
    | _, _ => none
  | _, _ => none
theorem m_extend : MtR X "list.extend" (rM G opExtend) := MtR_imp mt_extend fun v vs H Q ⟨ms, st, x, ds, S, rx, rs, k⟩ => by
  unfold opExtend at k
  split at k
  · obtain ⟨u, rfl, ru⟩ := rs.one'
    split at k
    · rename_i es fs e1 e2
      obtain ⟨a, ws, rfl, ha, h1, h2⟩ := S.ref e1 rx
      obtain ⟨b, us, rfl, _, h3, h4⟩ := S.ref e2 ru
      split at k
      · rename_i hl
        exact ⟨a, b, ws, us, rfl, rfl, h1, h3, by rw [h2.length, h4.length]; exact LIM_le hl, OkO.put S ha (h2.app h4) (by simp only [RV]) k⟩
      · exact k.elim
    · exact k.elim
  · exact k.elim
def opPop (x : D) (xs : List D) : O D := fun st => match x, xs with
  | .ref i, [] => match st[i]? with
    | some (.lst ds) => match ds[ds.length - 1]? with
      | some d => some (d, st.set i (.lst ds.dropLast))
      | none => none
    | _ => none
  | _, _ => none
theorem RVs.dropLast {ms : List Addr} {ds : List D} {vs : List V} (h : RVs G ms H ds vs) : RVs G ms H ds.dropLast vs.dropLast := by
  rw [List.dropLast_eq_take, List.dropLast_eq_take, h.length]
  exact h.take _
theorem m_pop : MtR X "list.pop" (rM G opPop) := MtR_imp mt_pop fun v vs H Q ⟨ms, st, x, ds, S, rx, rs, k⟩ => by
  unfold opPop at k
  split at k
  · simp only [RVs] at rs
    subst rs
    split at k
    · rename_i es e
      obtain ⟨a, ws, rfl, ha, h1, h2⟩ := S.ref e rx
      split at k
      · rename_i d e2
        obtain ⟨y, h3, h4⟩ := h2.at e2
        exact ⟨a, ws, y, rfl, rfl, h1, by rw [h2.length]; exact h3, OkO.put S ha h2.dropLast h4 k⟩
      · exact k.elim
    · exact k.elim
  · exact k.elim
/-! texts -/
def strsOf : List D → Option (List Str)
  | [] => some []
  | .str x :: ds => (strsOf ds).map (x :: ·)
  | _ => none
theorem strs_ok {ms : List Addr} : ∀ {ds : List D} {vs : List V} {bs : List Str}, RVs G ms H ds vs → strsOf ds = some bs → vs = bs.map V.str
  | [], vs, bs, r, e => by
    simp only [RVs] at r
    simp only [strsOf] at e
    cases e
    exact r
  | d :: ds, vs, bs, r, e => by
    simp only [RVs] at r
    obtain ⟨v, r', rfl, h1, h2⟩ := r
    cases d with
    | str b =>
      simp only [RV] at h1
      simp only [strsOf] at e
      cases e1 : strsOf ds with
      | none => rw [e1] at e; cases e
      | some cs =>
        rw [e1] at e
        cases e
        rw [h1, strs_ok h2 e1]
        rfl
    | _ => simp only [strsOf] at e; cases e
def opJoin (x : D) (xs : List D) : O D := fun st => match x, xs with
  | .str a, [y] => match seqOf y st with
    | some ds => match strsOf ds with
      | some ys => if (ys.map (·.length)).sum + ys.length * a.length ≤ LIM then some (.str (Txt.join a ys), st) else none
      | none => none
    | none => none
  | _, _ => none
theorem m_join (hK : X.K = G.K) : MtR X "str.join" (rM G opJoin) := MtR_imp mt_join fun v vs H Q ⟨ms, st, x, ds, S, rx, rs, k⟩ => by
  unfold opJoin at k
  split at k
  · simp only [RV] at rx
    subst rx
    obtain ⟨u, rfl, ru⟩ := rs.one'
    split at k
    · rename_i es e
      split at k
      · rename_i ys e2
        split at k
        · rename_i hl
          obtain ⟨p, us, rfl, h1, h2⟩ := seq_ok S ru e
          have h3 := strs_ok h2 e2
          subst h3
          exact ⟨_, p, ys, rfl, rfl, by rw [hK]; exact h1, Nat.le_trans hl (by decide), OkO.str S k⟩
        · exact k.elim
      · exact k.elim
    · exact k.elim
  · exact k.elim
def opSplit (x : D) (xs : List D) : O D := fun st => match x, xs with
  | .str a, [.str b] => if (b.length == 0) = false ∧ a.length + 2 ≤ LIM then newL ((Txt.split a b).map D.str) st else none
  | _, _ => none
theorem RVs.strs {ms : List Addr} : ∀ ys : List Str, RVs G ms H (ys.map D.str) (ys.map V.str)
  | [] => by simp [RVs]
  | y :: ys => by
    simp only [List.map_cons, RVs]
    exact ⟨_, _, rfl, by simp only [RV], RVs.strs ys⟩
theorem m_split : MtR X "str.split" (rM G opSplit) := MtR_imp mt_split fun v vs H Q ⟨ms, st, x, ds, S, rx, rs, k⟩ => by
  unfold opSplit at k
  split at k
  · simp only [RV] at rx
    subst rx
    obtain ⟨u, rfl, ru⟩ := rs.one'
    simp only [RV] at ru
    subst ru
    split at k
    · rename_i hl
      exact ⟨_, _, rfl, rfl, hl.1, LIM_le hl.2, OkO.newL S (RVs.strs _) k⟩
    · exact k.elim
  · exact k.elim
def opStrip (x : D) (xs : List D) : O D := fun st => match x, xs with
  | .str a, [.str b] => if a.length ≤ LIM then some (.str (Txt.stripChars a b), st) else none
  | _, _ => none
theorem m_strip : MtR X "str.strip" (rM G opStrip) := MtR_imp mt_stripChars fun v vs H Q ⟨ms, st, x, ds, S, rx, rs, k⟩ => by
  unfold opStrip at k
  split at k
  · simp only [RV] at rx
    subst rx
    obtain ⟨u, rfl, ru⟩ := rs.one'
    simp only [RV] at ru
    subst ru
    split at k
    · rename_i hl
      exact ⟨_, _, rfl, rfl, LIM_le hl, OkO.str S k⟩
    · exact k.elim
  · exact k.elim

/-! ### kinds, isinstance -/
inductive Kd where
  | non | bl | int | str | tup | lst | ins (c : Nat) | dct
def kind : D → Sto → Option Kd
  | .non, _ => some .non
  | .bl _, _ => some .bl
  | .int _, _ => some .int
  | .str _, _ => some .str
  | .tup _, _ => some .tup
  | .ref i, st => match st[i]? with
    | some (.lst _) => some .lst
    | some (.ins c _) => some (.ins c)
    | some .dct => some .dct
    | none => none
  | .scr _, _ => some .lst
  | _, _ => none
/-- what the written part must say of a class whose instances are asked -/
structure InsOk (K : PySem.W.Frag) (C : Addr) : Prop where
  cl : Cls K C
  ha : PySem.W.findIn K (.ref C) "__class__" = some (some (.builtin "object.__class__"))
  hn : PySem.W.specialIn K (.builtin "object.__class__") "__get__" = some (some (.builtin "getset_descriptor.__get__"))
  htk : PySem.W.takesIn K (.builtin "object.__class__") = some true
  hm : PySem.W.mroIn K C (.type "object") = some true
/-- a kind's type -/
def KdT (G : Gx) : Kd → Value → Prop
  | .non, t => t = .type "NoneType"
  | .bl, t => t = .type "bool"
  | .int, t => t = .type "int"
  | .str, t => t = .type "str"
  | .tup, t => t = .type "tuple"
  | .lst, t => t = .type "list"
  | .ins c, t => InsOk G.K (G.tb c) ∧ t = .ref (G.tb c)
  | .dct, t => t = .type "dict"
theorem SRel.ins {ms : List Addr} {st : Sto} (S : SRel G ms st H) {i : Nat} {c : Nat} {fs : List (String × D)} {v : V} (h : st[i]? = some (.ins c fs)) (r : RV G ms H (.ref i) v) : ∃ a dx gs, v = .ref a ∧ ms[i]? = some a ∧ H a = some (.ins (G.tb c) dx gs) ∧ RF G ms H fs gs := by
  simp only [RV] at r
  obtain ⟨a, rfl, ha⟩ := r
  obtain ⟨d, h1, h2⟩ := S.has ha
  rw [h] at h1
  cases h1
  obtain ⟨dx, gs, h3, h4⟩ := h2
  exact ⟨a, dx, gs, rfl, ha, h3, h4⟩
theorem kd_ok {ms : List Addr} {st : Sto} (S : SRel G ms st H) {x : D} {v : V} {k : Kd} {t : Value} (r : RV G ms H x v) (h : kind x st = some k) (ht : KdT G k t) : TyX G.K H v t := by
  cases x with
  | non => simp only [kind] at h; cases h; simp only [RV] at r; subst r; cases ht; exact .base .non
  | bl _ => simp only [kind] at h; cases h; simp only [RV] at r; subst r; cases ht; exact .base (.bl _)
  | int _ => simp only [kind] at h; cases h; simp only [RV] at r; subst r; cases ht; exact .base (.int _)
  | str _ => simp only [kind] at h; cases h; simp only [RV] at r; subst r; cases ht; exact .base (.str _)
  | tup ds =>
    simp only [kind] at h
    cases h
    simp only [RV] at r
    obtain ⟨a, vs, rfl, h1, _⟩ := r
    cases ht
    rcases h1 with h1 | ⟨o, its, n, h2, h3, _⟩
    · exact .base (.tup h1)
    · exact .kTuple h2 h3
  | ref i =>
    simp only [kind] at h
    split at h
    · rename_i ds e
      cases h
      obtain ⟨a, vs, rfl, _, h1, _⟩ := S.ref e r
      cases ht
      exact .base (.lst h1)
    · rename_i c fs e
      cases h
      obtain ⟨a, dx, gs, rfl, _, h1, _⟩ := S.ins e r
      obtain ⟨q, rfl⟩ := ht
      exact .base (.ins h1 q.cl q.ha q.hn q.htk q.hm)
    · rename_i e
      cases h
      simp only [RV] at r
      obtain ⟨a, rfl, ha⟩ := r
      obtain ⟨d, h1, h2⟩ := S.has ha
      rw [e] at h1
      cases h1
      cases ht
      exact .base (.dK h2)
    · cases h
  | scr ns =>
    simp only [kind] at h
    cases h
    simp only [RV] at r
    obtain ⟨a, rfl, h1⟩ := r
    cases ht
    rcases h1 with ⟨o, h1⟩ | ⟨o, its, n, h2, h3, _⟩
    · exact .base (.frz h1)
    · exact .kList h2 h3
  | glo _ => cases h
  | ty _ => cases h
  | xc => cases h
/-- isinstance(x, T): T one class; ans: what is known of the kinds -/
inductive TC where
  | ty (n : String) | glo (n : Nat)
def TC.d : TC → D
  | .ty n => .ty n
  | .glo n => .glo n
def TC.val (G : Gx) : TC → Value
  | .ty n => .type n
  | .glo n => .ref (G.tb n)
def isTC : TC → D → Bool
  | .ty n, .ty m => n == m
  | .glo n, .glo m => n == m
  | _, _ => false
theorem isTC_eq {t : TC} {d : D} (h : isTC t d = true) : d = t.d := by
  cases t <;> cases d <;> simp only [isTC, beq_iff_eq] at h <;> (first | (cases h; done) | (subst h; rfl))
def opIsi (t : TC) (ans : Kd → Option Bool) : List D → O D
  | [x, c] => fun st => if isTC t c = true then match kind x st with
      | some k => match ans k with
        | some b => some (.bl b, st)
        | none => none
      | none => none
    else none
  | _ => fun _ => none
theorem c_isi (hK : X.K = G.K) {t : TC} {ans : Kd → Option Bool} (h : ∀ k b, ans k = some b → ∃ u, KdT G k u ∧ PySem.W.kitOne G.K u (t.val G) = some b) : CallR X (.builtin "isinstance") (rN G (opIsi t ans)) := CallR_imp call_isi fun vs H Q ⟨ms, st, ds, S, r, k⟩ => by
  unfold opIsi at k
  split at k
  · obtain ⟨v, u, rfl, rv, ru⟩ := r.two'
    split at k
    · rename_i ht
      split at k
      · rename_i kd e
        split at k
        · rename_i b e2
          obtain ⟨w, h1, h2⟩ := h kd b e2
          refine ⟨v, u, w, t.val G, b, rfl, ?_, by rw [hK]; exact kd_ok S rv e h1, by rw [hK]; exact h2, OkO.bl S k⟩
          rw [isTC_eq ht] at ru
          cases t with
          | ty n =>
            simp only [TC.d, RV] at ru
            subst ru
            exact .ty n
          | glo n =>
            simp only [TC.d, RV] at ru
            subst ru
            exact .own _
        · exact k.elim
      · exact k.elim
    · exact k.elim
  · exact k.elim
/-- the usual answers -/
def ansTy (n : String) : Kd → Option Bool
  | .non => some (n == "NoneType" || n == "object")
  | .bl => some (n == "bool" || n == "int" || n == "object")
  | .int => some (n == "int" || n == "object")
  | .str => some (n == "str" || n == "object")
  | .tup => some (n == "tuple" || n == "object")
  | .lst => some (n == "list" || n == "object")
  | .dct => some (n == "dict" || n == "object")
  | .ins _ => none
theorem isi_ty (hK : X.K = G.K) {n : String} (h : n = "int" ∨ n = "bool" ∨ n = "str" ∨ n = "tuple" ∨ n = "list") : CallR X (.builtin "isinstance") (rN G (opIsi (.ty n) (ansTy n))) := c_isi hK fun k b e => by
  cases k with
  | ins c => cases e
  | non => simp only [ansTy] at e; cases e; exact ⟨_, rfl, by rcases h with rfl | rfl | rfl | rfl | rfl <;> exact kit_ty (by decide +kernel)⟩
  | bl => simp only [ansTy] at e; cases e; exact ⟨_, rfl, by rcases h with rfl | rfl | rfl | rfl | rfl <;> exact kit_ty (by decide +kernel)⟩
  | int => simp only [ansTy] at e; cases e; exact ⟨_, rfl, by rcases h with rfl | rfl | rfl | rfl | rfl <;> exact kit_ty (by decide +kernel)⟩
  | str => simp only [ansTy] at e; cases e; exact ⟨_, rfl, by rcases h with rfl | rfl | rfl | rfl | rfl <;> exact kit_ty (by decide +kernel)⟩
  | tup => simp only [ansTy] at e; cases e; exact ⟨_, rfl, by rcases h with rfl | rfl | rfl | rfl | rfl <;> exact kit_ty (by decide +kernel)⟩
  | lst => simp only [ansTy] at e; cases e; exact ⟨_, rfl, by rcases h with rfl | rfl | rfl | rfl | rfl <;> exact kit_ty (by decide +kernel)⟩
  | dct => simp only [ansTy] at e; cases e; exact ⟨_, rfl, by rcases h with rfl | rfl | rfl | rfl | rfl <;> exact kit_ty (by decide +kernel)⟩
/-- a built-in type's name as a value -/
theorem e_ty {x : Str} {n : String} {pos : Pos} (hg : Gl X x) (hm : X.mg x = none) (hv : bootBuiltins x = some (.type n)) (hn : x ≠ "__name__" := by decide) (hd : (x == ("__debug__" : Str)) = false := by decide) : PE X (.Name x pos) (tE G W (eC (.ty n))) :=
  e_c (pe_bltn (v := .ty n) hg hm hv rfl hn hd) fun _ _ => by simp only [RV]

/-! ### f-strings -/
def eFmt (a : E) : E := fun env st => (a env st).bind fun x s => match x with
  | .str y => if y.length ≤ LIM then .ok (.str y) s else .bad
  | .int i => if i.natAbs.log2 < 1920 then .ok (.str (toString i)) s else .bad
  | _ => .bad
theorem e_fmt {e : Expr} {fe : E} {pos : Pos} (he : PE X e (tE G W fe)) : PE X (.FormattedValue e (-1) none pos) (tE G W (eFmt fe)) :=
  PE_weak (pe_fmt he) fun σ H Q h => tX_mono (tX_bind h) fun v H1 ⟨ms, st, env, x, S, r, r1, k⟩ => by
    cases x with
    | str y =>
      simp only [RV] at r1
      simp only at k
      split at k
      · rename_i hl
        exact .inl ⟨y, r1, LIM_le hl, k (.str y) ms H1 Gr.refl S (by simp only [RV])⟩
      · exact k.elim
    | int i =>
      simp only [RV] at r1
      simp only at k
      split at k
      · rename_i hl
        exact .inr ⟨i, r1, hl, k _ ms H1 Gr.refl S (by simp only [RV])⟩
      · exact k.elim
    | _ => exact k.elim
def eJoin : List E → Str → E
  | [], acc => fun _ st => .ok (.str acc) st
  | a :: as, acc => fun env st => (a env st).bind fun x s => match x with
    | .str y => if (acc ++ y).length ≤ LIM then eJoin as (acc ++ y) env s else .bad
    | _ => .bad
theorem join_tJs : ∀ (fs : List E) (acc : Str) (H : Hp) (Q : VK), tE G W (eJoin fs acc) σ H Q → tJs (fs.map (tE G W)) acc σ H fun out H1 => Q (.str out) H1
  | [], acc, H, Q, ⟨ms, st, env, S, r, k⟩ => k (.str acc) ms H Gr.refl S (by simp only [RV])
  | f :: fs, acc, H, Q, h => tX_mono (tX_bind h) fun v H1 ⟨ms, st, env, x, S, r, r1, k⟩ => by
    cases x with
    | str y =>
      simp only [RV] at r1
      simp only at k
      split at k
      · rename_i hl
        exact ⟨y, r1, LIM_le hl, join_tJs fs _ H1 Q ⟨ms, st, env, S, r, k⟩⟩
      · exact k.elim
    | _ => exact k.elim
theorem e_joined {v1 v2 : Expr} {rest : List Expr} {fs : List E} {pos : Pos} (h : PJ X (v1 :: v2 :: rest) (fs.map (tE G W))) : PE X (.JoinedStr (v1 :: v2 :: rest) pos) (tE G W (eJoin fs Str.empty)) :=
  PE_weak (pe_joined h) fun σ H Q q => join_tJs fs _ H Q q

/-! ### fields -/
theorem ofString_inj {a b : String} (h : Str.ofString a = Str.ofString b) : a = b := by
  unfold Str.ofString at h
  rw [cpsOfBytes_string, cpsOfBytes_string] at h
  have h1 : a.toList.map Char.toNat = b.toList.map Char.toNat := by simpa using h
  have h2 : a.toList = b.toList := by
    have inj : ∀ (l m : List Char), l.map Char.toNat = m.map Char.toNat → l = m := by
      intro l
      induction l with
      | nil => intro m e; cases m with
        | nil => rfl
        | cons _ _ => simp at e
      | cons c l ih =>
        intro m e
        cases m with
        | nil => simp at e
        | cons d m =>
          simp only [List.map_cons, List.cons.injEq] at e
          rw [ih m e.2]
          have : c = d := Char.ext (UInt32.toNat_inj.mp e.1)
          rw [this]
    exact inj _ _ h1
  exact String.toList_inj.mp h2
theorem RF.look {ms : List Addr} {f : String} {d : D} : ∀ {fs : List (String × D)} {gs : List (Str × V)}, RF G ms H fs gs → fs.lookup f = some d → ∃ v, gs.lookup (Str.ofString f) = some v ∧ RV G ms H d v
  | [], _, _, e => by cases e
  | p :: fs, _, ⟨v, r, rfl, h1, h2⟩, e => by
    obtain ⟨g, x⟩ := p
    by_cases hg : f = g
    · subst hg
      simp only [List.lookup, beq_self_eq_true] at e ⊢
      cases e
      exact ⟨v, rfl, h1⟩
    · have h3 : (f == g) = false := by simpa using hg
      have h4 : (Str.ofString f == Str.ofString g) = false := beq_eq_false_iff_ne.mpr fun z => hg (ofString_inj z)
      simp only [List.lookup, h3] at e
      simp only [List.lookup, h4]
      exact RF.look h2 e
theorem RF.lookN {ms : List Addr} {f : String} : ∀ {fs : List (String × D)} {gs : List (Str × V)}, RF G ms H fs gs → fs.lookup f = none → gs.lookup (Str.ofString f) = none
  | [], _, h, _ => by
    rw [show _ = _ from h]
    rfl
  | p :: fs, _, ⟨v, r, rfl, h1, h2⟩, e => by
    obtain ⟨g, x⟩ := p
    by_cases hg : f = g
    · subst hg
      simp only [List.lookup, beq_self_eq_true] at e
      cases e
    · have h3 : (f == g) = false := by simpa using hg
      have h4 : (Str.ofString f == Str.ofString g) = false := beq_eq_false_iff_ne.mpr fun z => hg (ofString_inj z)
      simp only [List.lookup, h3] at e
      simp only [List.lookup, h4]
      exact RF.lookN h2 e
def putD (f : String) (d : D) : List (String × D) → List (String × D)
  | [] => [(f, d)]
  | (g, x) :: r => if g = f then (g, d) :: r else (g, x) :: putD f d r
theorem RF.put {ms : List Addr} {f : String} {d : D} {v : V} (k : RV G ms H d v) : ∀ {fs : List (String × D)} {gs : List (Str × V)}, RF G ms H fs gs → RF G ms H (putD f d fs) (putF (Str.ofString f) v gs)
  | [], _, h => by
    rw [show _ = _ from h]
    exact ⟨v, [], rfl, k, rfl⟩
  | p :: fs, _, ⟨u, r, rfl, h1, h2⟩ => by
    obtain ⟨g, x⟩ := p
    by_cases hg : g = f
    · subst hg
      simp only [putD, putF, if_true]
      exact ⟨v, r, rfl, k, h2⟩
    · have h3 : ¬ Str.ofString g = Str.ofString f := fun z => hg (ofString_inj z)
      simp only [putD, putF, if_neg hg, if_neg h3]
      exact ⟨u, _, rfl, h1, RF.put k h2⟩
theorem RF.len {ms : List Addr} : ∀ {fs : List (String × D)} {gs : List (Str × V)}, RF G ms H fs gs → gs.length = fs.length
  | [], _, h => by
    rw [show _ = _ from h]
    rfl
  | p :: fs, _, ⟨u, r, rfl, h1, h2⟩ => by rw [List.length_cons, List.length_cons, RF.len h2]
/-- the field f of an instance of a class in P -/
def opFld (P : Nat → Bool) (f : String) (x : D) : O D := fun st => match x with
  | .ref i => match st[i]? with
    | some (.ins c fs) => if P c = true then match fs.lookup f with
        | some d => some (d, st)
        | none => none
      else none
    | _ => none
  | _ => none
theorem e_fld {e : Expr} {f : String} {fs : Str} {pos : Pos} {P : Nat → Bool} {fe : E} (hK : X.K = G.K) (hP : ∀ c, P c = true → Cls G.K (G.tb c) ∧ NoAttr G.K (G.tb c) fs) (hf : fs = Str.ofString f) (he : PE X e (tE G W fe)) (hb : attributeBase e fs X.env (eval e X.env) = eval e X.env := by rfl) :
    PE X (.Attribute e fs pos) (tE G W (eUn (opFld P f) fe)) := PE_weak (pe_fld he hb) fun σ H Q h => tX_mono (tX_bind h) fun v H1 ⟨ms, st, env, x, S, r, r1, k⟩ => by
  have k := k.ofO
  unfold opFld at k
  split at k
  · split at k
    · rename_i c gs e
      split at k
      · rename_i hc
        split at k
        · rename_i d e2
          obtain ⟨a, dx, hs, rfl, _, h1, h2⟩ := S.ins e r1
          obtain ⟨w, h3, h4⟩ := h2.look e2
          obtain ⟨p1, p2⟩ := hP c hc
          exact ⟨a, _, dx, hs, w, rfl, h1, by rw [hK]; exact p1, by rw [hK]; exact p2, by rw [hf]; exact h3, OkO.val S h4 k⟩
        · exact k.elim
      · exact k.elim
    · exact k.elim
  · exact k.elim

/-! ### calls of defs -/
abbrev F := List D → M D
def spF (G : Gx) (g : F) : Sp := fun vs H Q E => ∃ ms st ds, SRel G ms st H ∧ RVs G ms H ds vs ∧ Okk (RV G) G (fun c d H => E c d H) Q ms H (g ds st)
def eCall (g : F) (as : List E) : E := fun env st => (eArgs as env st).bind g
theorem call_tCall {g : F} {fs : List E} {Q : VK} (h : tE G W (eCall g fs) σ H Q) : tCallS (spF G g) (WE W) (tA G W (eArgs fs)) σ H Q :=
  tX_mono (tX_bind (R := RVs G) h) fun vs H1 ⟨ms, st, env, ds, S, r, r1, k⟩ => ⟨ms, st, ds, S, r1, k⟩
theorem e_call {k j : Nat} {f : Addr} {fd : FuncData} {ps : List Str} {x : Str} {p pos : Pos} {e : Expr} {es : List Expr} {g : F} {fs : List E} (T : FnOk X.prog X.w X.K X.mg X.base (L2.CX X.prog X.w) j f fd ps (spF G g)) (hr : Room k X.A) (hm : X.mg x = some (.ref f)) (hk : PySem.W.keepIn X.K (.ref f) = true)
    (hb : Binds X.K fd ps []) (tk : Takes X W) (ha : PA X (e :: es) (tA G W (eArgs fs))) (hj : j ≤ k := by decide) (hg : Gl X x := by rfl) (hdb : (x == ("__debug__" : Str)) = false := by decide)
    (he : starEach (e :: es) X.env = (false, eval e X.env) :: starEach es X.env := by rfl) (hpl : (backTo pos (starEach es X.env)).any (·.1) = false := by rfl) :
    PE X (.Call (.Name x p) (e :: es) [] pos) (tE G W (eCall g fs)) :=
  PE_weak (pe_callS (E := WE W) T (hr.mono hj) hg hm hk hb (fun σ => passAt tk σ) ha hdb he hpl) fun _ _ _ h => call_tCall h
/-- o.m(..) -/
def eMeth (c : Nat) (m : String) (g : F) (a : E) (as : List E) : E := fun env st => (a env st).bind fun x s => match x with
  | .ref i => match s[i]? with
    | some (.ins c' fs) => if c' = c ∧ fs.lookup m = none then (eArgs as env s).bind fun xs s' => g (.ref i :: xs) s' else .bad
    | _ => .bad
  | _ => .bad
def tMethS (C : Addr) (m : Str) (sp : Sp) (E : L2.St → XK) (ta : TE) (t : TA) : TE := fun σ H Q => ta σ H fun x H1 => ∃ a dx fs, x = .ref a ∧ H1 a = some (.ins C dx fs) ∧ fs.lookup m = none ∧ t σ H1 fun vs H2 => sp (x :: vs) H2 Q (E σ)
theorem pe_methS {k : Nat} {f C : Addr} {fd : FuncData} {ps : List Str} {sp : Sp} {E : L2.St → XK} {m : Str} {pos apos : Pos} {e o : Expr} {es : List Expr} {ta : TE} {t : TA} {pl : Sem Bool} (he : PE X o ta) (c : Cls X.K C) (hm : Meth X.K C m f) (F : FnOk X.prog X.w X.K X.mg X.base (L2.CX X.prog X.w) k f fd ps sp) (hr : Room k X.A)
    (hb : Binds X.K fd ps []) (hx : ∀ σ, PassesAt (L2.CX X.prog X.w) X σ (E σ)) (ha : PA X (e :: es) t)
    (hst : starEach (e :: es) X.env = (false, eval e X.env) :: starEach es X.env := by rfl) (hpl : (backTo pos (starEach es X.env)).any (·.1) = false := by rfl)
    (ht : eval (.Call (.Attribute o m apos) (e :: es) [] pos) X.env = (do
      let ov ← eval o X.env
      standAt apos.atName
      let (f, first) ← holding [ov] (getMethod ov m pl)
      callWith pos f first (backTo pos (starEach (e :: es) X.env)) (backToKw pos (keywordEach [] X.env))) := by rfl) :
    PE X (.Call (.Attribute o m apos) (e :: es) [] pos) (tMethS C m sp E ta t) := by
  refine ⟨fun pins s σ H Q I h => ?_⟩
  refine PySem.W.methodCall_KW (pl := pl) (thn (he.run pins s σ H _ I h) fun u s1 ⟨x, H1, I1, rx, a, dx, fs, ex, ea, l, q⟩ => ?_) ht
  subst ex
  obtain rfl : u = Value.ref a := rx
  refine getmeth_ok I1 ea c hm l ?_
  refine PySem.W.callWith_K (first := [.ref a]) (h₀ := X.base) I.ok.mod.kin hm.kp (thn (ha.run pos pins s1 σ H1 _ I1 q) fun us s2 ⟨vs, H2, I2, r, q2⟩ => ⟨I2.kIn, ?_⟩) hst hpl
  exact run_fnS (us := .ref a :: us) (vs := .ref a :: vs) F hr hb (hx σ) I2 (.cons rfl r) q2
theorem pe_methS0 {k : Nat} {f C : Addr} {fd : FuncData} {ps : List Str} {sp : Sp} {E : L2.St → XK} {m : Str} {pos apos : Pos} {o : Expr} {ta : TE} {pl : Sem Bool} (he : PE X o ta) (c : Cls X.K C) (hm : Meth X.K C m f) (F : FnOk X.prog X.w X.K X.mg X.base (L2.CX X.prog X.w) k f fd ps sp) (hr : Room k X.A)
    (hb : Binds X.K fd ps []) (hx : ∀ σ, PassesAt (L2.CX X.prog X.w) X σ (E σ))
    (ht : eval (.Call (.Attribute o m apos) [] [] pos) X.env = (do
      let ov ← eval o X.env
      standAt apos.atName
      let (f, first) ← holding [ov] (getMethod ov m pl)
      callWith pos f first (backTo pos (starEach [] X.env)) (backToKw pos (keywordEach [] X.env))) := by rfl) :
    PE X (.Call (.Attribute o m apos) [] [] pos) (tMethS C m sp E ta tNil) := by
  refine ⟨fun pins s σ H Q I h => ?_⟩
  refine PySem.W.methodCall_KW (pl := pl) (thn (he.run pins s σ H _ I h) fun u s1 ⟨x, H1, I1, rx, a, dx, fs, ex, ea, l, q⟩ => ?_) ht
  subst ex
  obtain rfl : u = Value.ref a := rx
  refine getmeth_ok I1 ea c hm l ?_
  exact PySem.W.callWith_K0 (first := [.ref a]) I1.kIn hm.kp (run_fnS (us := [.ref a]) (vs := [.ref a]) F hr hb (hx σ) I1 (.cons rfl .nil) q)
theorem meth_tMeth {c : Nat} {m : String} {g : F} {fa : E} {fs : List E} {Q : VK} (h : tE G W (eMeth c m g fa fs) σ H Q) : tMethS (G.tb c) (Str.ofString m) (spF G g) (WE W) (tE G W fa) (tA G W (eArgs fs)) σ H Q :=
  tX_mono (tX_bind h) fun v H1 ⟨ms, st, env, x, S, r, r1, k⟩ => by
    split at k
    · split at k
      · rename_i c' fs' e
        split at k
        · rename_i hc
          obtain ⟨rfl, hl⟩ := hc
          have r1' := r1
          obtain ⟨a, dx, gs, rfl, _, h1, h2⟩ := S.ins e r1
          exact ⟨a, dx, gs, rfl, h1, h2.lookN hl, ms, st, env, S, r, Okk.bind k fun xs s vs m1 H2 g1 S1 r2 k1 => ⟨m1, s, _, S1, by
            simp only [RVs]
            exact ⟨.ref a, vs, rfl, RV.gr g1 _ _ r1', r2⟩, k1⟩⟩
        · exact k.elim
      · exact k.elim
    · exact k.elim
theorem e_meth {k j : Nat} {f : Addr} {fd : FuncData} {ps : List Str} {c : Nat} {m : String} {mS : Str} {pos apos : Pos} {e o : Expr} {es : List Expr} {g : F} {fa : E} {fs : List E} {pl : Sem Bool} (hmS : mS = Str.ofString m) (he : PE X o (tE G W fa)) (hc : Cls X.K (G.tb c)) (hm : Meth X.K (G.tb c) mS f)
    (T : FnOk X.prog X.w X.K X.mg X.base (L2.CX X.prog X.w) j f fd ps (spF G g)) (hr : Room k X.A) (hb : Binds X.K fd ps []) (tk : Takes X W) (ha : PA X (e :: es) (tA G W (eArgs fs))) (hj : j ≤ k := by decide)
    (hst : starEach (e :: es) X.env = (false, eval e X.env) :: starEach es X.env := by rfl) (hpl : (backTo pos (starEach es X.env)).any (·.1) = false := by rfl)
    (ht : eval (.Call (.Attribute o mS apos) (e :: es) [] pos) X.env = (do
      let ov ← eval o X.env
      standAt apos.atName
      let (f, first) ← holding [ov] (getMethod ov mS pl)
      callWith pos f first (backTo pos (starEach (e :: es) X.env)) (backToKw pos (keywordEach [] X.env))) := by rfl) :
    PE X (.Call (.Attribute o mS apos) (e :: es) [] pos) (tE G W (eMeth c m g fa fs)) := PE_weak (pe_methS (E := WE W) he hc hm T (hr.mono hj) hb (fun σ => passAt tk σ) ha hst hpl ht) fun σ H Q h => by
  rw [hmS]
  exact meth_tMeth h
/-- C(..) -/
def eMake (c : Nat) (g : F) (as : List E) : E := fun env st => (eArgs as env st).bind fun xs s => (g (.ref s.length :: xs) (s ++ [.ins c []])).bind fun r s' => match r with
  | .non => .ok (.ref s.length) s'
  | _ => .bad
def tMakeS (C : Addr) (sp : Sp) (E : L2.St → XK) (t : TA) : TE := fun σ H Q => t σ H fun vs H1 => ∀ x dx, H1 x = none → H1 dx = none → dx ≠ x → sp (.ref x :: vs) (upd (upd H1 dx (.own x)) x (.ins C dx [])) (fun v H2 => v = .non ∧ Q (.ref x) H2) (E σ)
theorem run_makeS {k : Nat} {f C : Addr} {fd : FuncData} {ps : List Str} {sp : Sp} {E : XK} {pins : List (Addr × Obj)} {s : Shared} {Q : VK} {us : List Value} {vs : List V} (M : Mk X.K C f) (F : FnOk X.prog X.w X.K X.mg X.base (L2.CX X.prog X.w) k f fd ps sp) (hr : Room (k + 1) X.A) (hb : Binds X.K fd ps [])
    (hx : PassesAt (L2.CX X.prog X.w) X σ E) (I : Inv X pins σ H s) (r : Vals vs us)
    (h : ∀ x dx, H x = none → H dx = none → dx ≠ x → sp (.ref x :: vs) (upd (upd H dx (.own x)) x (.ins C dx [])) (fun v H2 => v = .non ∧ Q (.ref x) H2) E) :
    wpAny (model X.prog X.w) X.A (PySem.call (.ref C) us) (EP X pins σ Q) X.xe s := by
  have hq := h (s.heap.objs.size + 1) s.heap.objs.size (I.hok.fresh (Nat.le_succ _)) (I.hok.fresh (Nat.le_refl _)) (Nat.ne_of_lt (Nat.lt_succ_self _))
  have I2 := Inv.made (C := C) I
  have r2 : Vals (V.ref (s.heap.objs.size + 1) :: vs) (Value.ref (s.heap.objs.size + 1) :: us) := .cons rfl r
  have hl : (Value.ref (s.heap.objs.size + 1) :: us ++ []).length = ps.length := by
    have e := r2.length
    rw [F.len _ _ _ _ hq] at e
    rw [List.append_nil]
    exact e.symm
  have hb2 := hb _ (Value.ref (s.heap.objs.size + 1) :: us) I2.kIn hl
  rw [List.append_nil] at hb2
  refine wpAny_call (make_map (f := f) I.kIn M.makes M.init (beq_iff_eq.mp M.fn) (codeAny_mono (F.run _ X.stack _ _ ⟨Value.ref (s.heap.objs.size + 1) :: us, []⟩ (Value.ref (s.heap.objs.size + 1) :: us) _ _ E (hr.make C us [])
    (I2.env0.make C us []) hb2 r2 hq) fun r s' hq' => ?_))
  cases r with
  | error e => exact hx pins _ _ e s' I2 hq'
  | ok fl =>
    cases fl with
    | ret u =>
      obtain ⟨v, H', I3, rv, ev, q3⟩ := I2.after hq'
      subst ev
      exact ⟨rv, ⟨V.ref (s.heap.objs.size + 1), H', I3, rfl, q3⟩⟩
    | next => exact False.elim hq'
    | brk => exact False.elim hq'
    | cont => exact False.elim hq'
theorem pe_makeS {k : Nat} {f C : Addr} {fd : FuncData} {ps : List Str} {sp : Sp} {E : L2.St → XK} {x : Str} {p pos : Pos} {e : Expr} {es : List Expr} {t : TA} (M : Mk X.K C f) (F : FnOk X.prog X.w X.K X.mg X.base (L2.CX X.prog X.w) k f fd ps sp) (hr : Room (k + 1) X.A) (hg : Gl X x) (hm : X.mg x = some (.ref C)) (hb : Binds X.K fd ps [])
    (hx : ∀ σ, PassesAt (L2.CX X.prog X.w) X σ (E σ)) (ha : PA X (e :: es) t) (hdb : (x == ("__debug__" : Str)) = false := by decide) (he : starEach (e :: es) X.env = (false, eval e X.env) :: starEach es X.env := by rfl) (hpl : (backTo pos (starEach es X.env)).any (·.1) = false := by rfl) :
    PE X (.Call (.Name x p) (e :: es) [] pos) (tMakeS C sp E t) := by
  refine ⟨fun pins s σ H Q I h => ?_⟩
  refine wpAny_Call_Name_kw (ld_glob I hg hm ?_ hdb)
  refine PySem.W.callWith_K (h₀ := X.base) I.ok.mod.kin M.kp (thn (ha.run pos pins s σ H _ I h) fun us s1 ⟨vs, H1, I1, r, q⟩ => ⟨I1.kIn, ?_⟩) he hpl
  exact run_makeS M F hr hb (hx σ) I1 r q
theorem pe_makeS0 {k : Nat} {f C : Addr} {fd : FuncData} {ps : List Str} {sp : Sp} {E : L2.St → XK} {x : Str} {p pos : Pos} (M : Mk X.K C f) (F : FnOk X.prog X.w X.K X.mg X.base (L2.CX X.prog X.w) k f fd ps sp) (hr : Room (k + 1) X.A) (hg : Gl X x) (hm : X.mg x = some (.ref C)) (hb : Binds X.K fd ps [])
    (hx : ∀ σ, PassesAt (L2.CX X.prog X.w) X σ (E σ)) (hdb : (x == ("__debug__" : Str)) = false := by decide) : PE X (.Call (.Name x p) [] [] pos) (tMakeS C sp E tNil) := by
  refine ⟨fun pins s σ H Q I h => ?_⟩
  refine wpAny_Call_Name_kw (ld_glob I hg hm ?_ hdb)
  exact PySem.W.callWith_K0 I.kIn M.kp (run_makeS (us := []) M F hr hb (hx σ) I .nil h)
theorem make_fin {c : Nat} {g : F} {ms : List Addr} {st : Sto} {env : Sl} {ds : List D} {vs : List V} {Q : VK} (S : SRel G ms st H) (r1 : RVs G ms H ds vs)
    (k : Okk (RV G) G (fun c d H => W c d σ H) Q ms H ((g (.ref st.length :: ds) (st ++ [.ins c []])).bind fun r s' => match r with
      | .non => .ok (.ref st.length) s'
      | _ => .bad)) : ∀ x dx, H x = none → H dx = none → dx ≠ x → spF G g (.ref x :: vs) (upd (upd H dx (.own x)) x (.ins (G.tb c) dx [])) (fun v H2 => v = .non ∧ Q (.ref x) H2) (WE W σ) := fun x dx hx hdx ne => by
  have hx1 : upd H dx (.own x) x = none := by
    rw [upd_ne (Ne.symm ne)]
    exact hx
  have g1 : Gr ms H ms (upd H dx (.own x)) := Gr.new0 hdx
  have g2 : Gr ms (upd H dx (.own x)) (ms ++ [x]) (upd (upd H dx (.own x)) x (.ins (G.tb c) dx [])) := Gr.new hx1 [x]
  have S2 : SRel G (ms ++ [x]) (st ++ [.ins c []]) (upd (upd H dx (.own x)) x (.ins (G.tb c) dx [])) := (S.lay hdx).new hx1 ⟨dx, [], upd_same, rfl⟩
  have rx : RV G (ms ++ [x]) (upd (upd H dx (.own x)) x (.ins (G.tb c) dx [])) (.ref st.length) (.ref x) := by
    simp only [RV]
    exact ⟨x, rfl, by rw [← S.len]; simp⟩
  refine ⟨ms ++ [x], st ++ [.ins c []], .ref st.length :: ds, S2, ?_, ?_⟩
  · simp only [RVs]
    exact ⟨_, vs, rfl, rx, RVs.gr (g1.trans g2) _ _ r1⟩
  · refine Okk.bind (Okk.gr (g1.trans g2) k) fun r s b m1 H1 g3 S3 r3 k3 => ?_
    cases r with
    | non =>
      simp only [RV] at r3
      exact ⟨r3, k3 (.ref x) m1 H1 Gr.refl S3 (RV.gr g3 _ _ rx)⟩
    | _ => exact k3.elim
theorem e_make {k j : Nat} {f : Addr} {fd : FuncData} {ps : List Str} {c : Nat} {x : Str} {p pos : Pos} {e : Expr} {es : List Expr} {g : F} {fs : List E} (M : Mk X.K (G.tb c) f) (T : FnOk X.prog X.w X.K X.mg X.base (L2.CX X.prog X.w) j f fd ps (spF G g)) (hr : Room k X.A) (hm : X.mg x = some (.ref (G.tb c)))
    (hb : Binds X.K fd ps []) (tk : Takes X W) (ha : PA X (e :: es) (tA G W (eArgs fs))) (hj : j + 1 ≤ k := by decide) (hg : Gl X x := by rfl) (hdb : (x == ("__debug__" : Str)) = false := by decide)
    (he : starEach (e :: es) X.env = (false, eval e X.env) :: starEach es X.env := by rfl) (hpl : (backTo pos (starEach es X.env)).any (·.1) = false := by rfl) :
    PE X (.Call (.Name x p) (e :: es) [] pos) (tE G W (eMake c g fs)) :=
  PE_weak (pe_makeS (E := WE W) M T (hr.mono hj) hg hm hb (fun σ => passAt tk σ) ha hdb he hpl) fun σ H Q h =>
    tX_mono (tX_bind (R := RVs G) h) fun vs H1 ⟨ms, st, env, ds, S, r, r1, k⟩ => make_fin (env := env) S r1 k
theorem e_make0 {k j : Nat} {f : Addr} {fd : FuncData} {ps : List Str} {c : Nat} {x : Str} {p pos : Pos} {g : F} (M : Mk X.K (G.tb c) f) (T : FnOk X.prog X.w X.K X.mg X.base (L2.CX X.prog X.w) j f fd ps (spF G g)) (hr : Room k X.A) (hm : X.mg x = some (.ref (G.tb c)))
    (hb : Binds X.K fd ps []) (tk : Takes X W) (hj : j + 1 ≤ k := by decide) (hg : Gl X x := by rfl) (hdb : (x == ("__debug__" : Str)) = false := by decide) :
    PE X (.Call (.Name x p) [] [] pos) (tE G W (eMake c g [])) :=
  PE_weak (pe_makeS0 (E := WE W) M T (hr.mono hj) hg hm hb (fun σ => passAt tk σ) hdb) fun σ H Q ⟨ms, st, env, S, r, k⟩ => make_fin (env := env) S (by simp only [RVs]) k
end
end LF

set_option Elab.async false
set_option linter.all false
set_option maxRecDepth 100000
set_option maxHeartbeats 4000000
/-! The layer: statements, loops, comprehensions, defs. -/
namespace LF
open PySem PySem.Spec PyProof.Rows L2
inductive Out where
  | nx (e : Sl) (s : Sto) | rt (d : D) (s : Sto) | bk (e : Sl) (s : Sto) | ct (e : Sl) (s : Sto)
  | exn (c : Nat) (fs : List (String × D)) (e : Sl) (s : Sto)
  | bad
abbrev Sm := Sl → Sto → Out
def Res.out {α : Type} (env : Sl) : Res α → (α → Sto → Out) → Out
  | .ok a s, k => k a s
  | .exn c fs s, _ => .exn c fs env s
  | .bad, _ => .bad
section
variable {G : Gx} {W : WX} {X : Cx} {σ : L2.St} {H : Hp}
def OutOk (G : Gx) (W : WX) (K : Ends) (ms : List Addr) (H : Hp) : Out → Prop
  | .nx e st => ∀ σ' ms' H', Gr ms H ms' H' → SRel G ms' st H' → RE G ms' H' e σ' → K.nx σ' H'
  | .bk e st => ∀ σ' ms' H', Gr ms H ms' H' → SRel G ms' st H' → RE G ms' H' e σ' → K.bk σ' H'
  | .ct e st => ∀ σ' ms' H', Gr ms H ms' H' → SRel G ms' st H' → RE G ms' H' e σ' → K.ct σ' H'
  | .rt d st => ∀ v ms' H', Gr ms H ms' H' → SRel G ms' st H' → RV G ms' H' d v → K.rt v H'
  | .exn c fs e st => ∀ od σ' ms' H', Gr ms H ms' H' → SRel G ms' st H' → RE G ms' H' e σ' → XRel G ms' H' fs od → W (.ref (G.tb c)) od σ' H'
  | .bad => False
def tS (G : Gx) (W : WX) (f : Sm) : TS := fun K σ H => ∃ ms st env, SRel G ms st H ∧ RE G ms H env σ ∧ OutOk G W K ms H (f env st)
theorem OutOk.gr {K : Ends} {ms ms' : List Addr} {H' : Hp} {o : Out} (g : Gr ms H ms' H') (h : OutOk G W K ms H o) : OutOk G W K ms' H' o := by
  cases o with
  | nx e st => exact fun σ' m2 H2 g2 => h σ' m2 H2 (g.trans g2)
  | bk e st => exact fun σ' m2 H2 g2 => h σ' m2 H2 (g.trans g2)
  | ct e st => exact fun σ' m2 H2 g2 => h σ' m2 H2 (g.trans g2)
  | rt d st => exact fun v m2 H2 g2 => h v m2 H2 (g.trans g2)
  | exn c fs e st => exact fun od σ' m2 H2 g2 => h od σ' m2 H2 (g.trans g2)
  | bad => exact h
/-- the exceptions of an expression within a statement: the slots are those at hand -/
theorem tX_out {α β : Type} {R : List Addr → Hp → α → β → Prop} {fa : Sl → M α} {k : Sl → α → Sto → Out} {K : Ends} (h : tS G W (fun env st => (fa env st).out env (k env)) K σ H) :
    tX R G W fa σ H fun b H1 => ∃ ms st env a, SRel G ms st H1 ∧ RE G ms H1 env σ ∧ R ms H1 a b ∧ OutOk G W K ms H1 (k env a st) := by
  obtain ⟨ms, st, env, S, r, q⟩ := h
  have q : OutOk G W K ms H ((fa env st).out env (k env)) := q
  refine ⟨ms, st, env, S, r, ?_⟩
  cases e : fa env st with
  | ok a s =>
    rw [e] at q
    exact fun b m1 H1 g1 S1 r1 => ⟨m1, s, env, a, S1, r.gr g1, r1, OutOk.gr g1 q⟩
  | exn c fs s =>
    rw [e] at q
    exact fun od m1 H1 g1 S1 x1 => q od σ m1 H1 g1 S1 (r.gr g1) x1
  | bad =>
    rw [e] at q
    exact q

/-! ### blocks and small statements -/
def sSeq (a b : Sm) : Sm := fun env st => match a env st with
  | .nx e s => b e s
  | r => r
def sSkip : Sm := fun env st => .nx env st
def sBreak : Sm := fun env st => .bk env st
def sCont : Sm := fun env st => .ct env st
def sRet (a : E) : Sm := fun env st => (a env st).out env fun d s => .rt d s
def sExpr (a : E) : Sm := fun env st => (a env st).out env fun _ s => .nx env s
def sIf (c : T) (a b : Sm) : Sm := fun env st => (c env st).out env fun k s => if k = true then a env s else b env s
theorem OutOk.seq {K : Ends} {ms : List Addr} {o : Out} {b : Sm} (h : OutOk G W K ms H (match o with
  | .nx e s => b e s
  | r => r)) : OutOk G W { K with nx := tS G W b K } ms H o := by
  cases o with
  | nx e s => exact fun σ' m1 H1 g1 S1 r1 => ⟨m1, s, e, S1, r1, OutOk.gr g1 h⟩
  | bk e st => exact h
  | ct e st => exact h
  | rt d st => exact h
  | exn c fs e st => exact h
  | bad => exact h
theorem ss_nil : PSs X [] (tS G W sSkip) := PSs_weak pss_nil fun K σ H ⟨ms, st, env, S, r, k⟩ => k σ ms H Gr.refl S r
theorem ss_cons {st : Stmt} {rest : List Stmt} {a b : Sm} (h1 : PS X st (tS G W a)) (h2 : PSs X rest (tS G W b)) : PSs X (st :: rest) (tS G W (sSeq a b)) :=
  PSs_weak (pss_cons h1 h2) fun K σ H ⟨ms, st, env, S, r, k⟩ => ⟨ms, st, env, S, r, OutOk.seq k⟩
theorem ss_one {st : Stmt} {a : Sm} (h1 : PS X st (tS G W a)) : PSs X [st] (tS G W a) := pss_one h1
theorem s_pass {pos} : PS X (.Pass pos) (tS G W sSkip) := PS_weak ps_pass fun K σ H ⟨ms, st, env, S, r, k⟩ => k σ ms H Gr.refl S r
theorem s_break {pos} : PS X (.Break pos) (tS G W sBreak) := PS_weak ps_break fun K σ H ⟨ms, st, env, S, r, k⟩ => k σ ms H Gr.refl S r
theorem s_cont {pos} : PS X (.Continue pos) (tS G W sCont) := PS_weak ps_continue fun K σ H ⟨ms, st, env, S, r, k⟩ => k σ ms H Gr.refl S r
theorem s_ret {e : Expr} {pos : Pos} {fe : E} (he : PE X e (tE G W fe)) : PS X (.Return (some e) pos) (tS G W (sRet fe)) :=
  PS_weak (ps_ret he) fun K σ H h => tX_mono (tX_out (k := fun _ d s => .rt d s) h) fun v H1 ⟨ms, st, env, d, S, _, r1, k⟩ => k v ms H1 Gr.refl S r1
theorem s_retN {pos : Pos} : PS X (.Return none pos) (tS G W (sRet (eC .non))) :=
  PS_weak ps_retN fun K σ H ⟨ms, st, env, S, r, k⟩ => k .non ms H Gr.refl S (by simp only [RV])
theorem s_expr {e : Expr} {pos : Pos} {fe : E} (he : PE X e (tE G W fe)) (hs : swapsWith e none pos.line X.env = pure false := by rfl) : PS X (.Expr e pos) (tS G W (sExpr fe)) :=
  PS_weak (ps_expr he hs) fun K σ H h => tX_mono (tX_out (k := fun env _ s => .nx env s) h) fun v H1 ⟨ms, st, env, d, S, r, r1, k⟩ => k σ ms H1 Gr.refl S r
theorem s_if {c : Expr} {p q : List Stmt} {pos : Pos} {tc : T} {a b : Sm} (hc : PT X c (tT G W tc)) (ha : PSs X p (tS G W a)) (hb : PSs X q (tS G W b)) : PS X (.If c p q pos) (tS G W (sIf tc a b)) :=
  PS_weak (ps_if hc ha hb) fun K σ H h => tX_mono (tX_out (k := fun env k s => if k = true then a env s else b env s) h) fun v H1 ⟨ms, st, env, d, S, r, r1, k⟩ => by
    cases r1
    cases v with
    | true => exact ⟨ms, st, env, S, r, by simpa using k⟩
    | false => exact ⟨ms, st, env, S, r, by simpa using k⟩
theorem s_never {st : Stmt} : PS X st (tS G W fun _ _ => .bad) := PS_weak ps_never fun K σ H ⟨ms, st, env, S, r, k⟩ => k

/-! ### targets -/
inductive Tg where
  | name (i : Nat) | tup (ts : List Tg)
def gSeq (K : PySem.W.Frag) (n : Nat) (t : TGs) : TG := fun v σ H Q => ∃ a xs, v = .ref a ∧ (SqT K H a xs ∨ SqL K H a xs) ∧ xs.length = n ∧ t xs σ H Q
mutual
def Tg.tg (K : PySem.W.Frag) : Tg → TG
  | .name i => gName i
  | .tup ts => gSeq K ts.length (Tg.tgs K ts)
def Tg.tgs (K : PySem.W.Frag) : List Tg → TGs
  | [] => gNil
  | t :: ts => gCons (Tg.tg K t) (Tg.tgs K ts)
end
mutual
def Tg.sem (st : Sto) : Tg → D → Sl → Option Sl
  | .name i, d, env => some (env.set i (some d))
  | .tup ts, d, env => match seqOf d st with
    | some ds => if ds.length = ts.length then Tg.sems st ts ds env else none
    | none => none
def Tg.sems (st : Sto) : List Tg → List D → Sl → Option Sl
  | [], [], env => some env
  | t :: ts, d :: ds, env => match Tg.sem st t d env with
    | some e => Tg.sems st ts ds e
    | none => none
  | _, _, _ => none
end
mutual
def Tg.names : Tg → List Nat
  | .name i => [i]
  | .tup ts => Tg.namess ts
def Tg.namess : List Tg → List Nat
  | [] => []
  | t :: ts => Tg.names t ++ Tg.namess ts
end
theorem wipe_set {σ : L2.St} {i : Nat} {o : Option V} : ∀ {vs : List Nat}, i ∈ vs → wipe (σ.set i o) vs = wipe σ vs
  | [], h => by simp at h
  | v :: vs, h => by
    unfold wipe
    by_cases hv : i ∈ vs
    · rw [wipe_set hv]
    · have e : i = v := by
        rcases List.mem_cons.mp h with h | h
        · exact h
        · exact (hv h).elim
      subst e
      have out : ∀ (l : List Nat) (τ : L2.St), i ∉ l → wipe (τ.set i o) l = (wipe τ l).set i o := by
        intro l
        induction l with
        | nil => intro τ _; rfl
        | cons w l ih =>
          intro τ hw
          simp only [List.mem_cons, not_or] at hw
          unfold wipe
          rw [ih τ hw.2, List.set_comm _ _ hw.1]
      rw [out vs σ hv, List.set_set]
mutual
theorem Tg.ok {ms : List Addr} {st : Sto} (S : SRel G ms st H) : ∀ (t : Tg) (d : D) (env env' : Sl) (v : V) (σ : L2.St), Tg.sem st t d env = some env' → RV G ms H d v → RE G ms H env σ →
    ∃ σ', RE G ms H env' σ' ∧ (∀ Q : L2.St → Hp → Prop, Q σ' H → Tg.tg G.K t v σ H Q) ∧ ∀ vs : List Nat, (∀ i ∈ Tg.names t, i ∈ vs) → wipe σ' vs = wipe σ vs
  | .name i, d, env, env', v, σ, h, r, re => by
    simp only [Tg.sem] at h
    cases h
    refine ⟨_, RE.set r i re, fun Q q => ?_, fun vs hv => wipe_set (hv i (by simp [Tg.names]))⟩
    simp only [Tg.tg]
    exact q
  | .tup ts, d, env, env', v, σ, h, r, re => by
    simp only [Tg.sem] at h
    split at h
    · rename_i ds e
      split at h
      · rename_i hl
        obtain ⟨p, us, rfl, h1, h2⟩ := seq_ok S r e
        obtain ⟨σ', a, b, c⟩ := Tg.oks S ts ds env env' us σ h h2 re
        refine ⟨σ', a, fun Q q => ?_, fun vs hv => c vs (by simpa [Tg.names] using hv)⟩
        simp only [Tg.tg]
        exact ⟨p, us, rfl, h1.symm, by rw [h2.length]; exact hl, b Q q⟩
      · cases h
    · cases h
theorem Tg.oks {ms : List Addr} {st : Sto} (S : SRel G ms st H) : ∀ (ts : List Tg) (ds : List D) (env env' : Sl) (vs : List V) (σ : L2.St), Tg.sems st ts ds env = some env' → RVs G ms H ds vs → RE G ms H env σ →
    ∃ σ', RE G ms H env' σ' ∧ (∀ Q : L2.St → Hp → Prop, Q σ' H → Tg.tgs G.K ts vs σ H Q) ∧ ∀ ws : List Nat, (∀ i ∈ Tg.namess ts, i ∈ ws) → wipe σ' ws = wipe σ ws
  | [], [], env, env', vs, σ, h, r, re => by
    simp only [Tg.sems] at h
    cases h
    simp only [RVs] at r
    subst r
    refine ⟨σ, re, fun Q q => ?_, fun _ _ => rfl⟩
    simp only [Tg.tgs]
    exact ⟨rfl, q⟩
  | t :: ts, d :: ds, env, env', vs, σ, h, r, re => by
    simp only [Tg.sems] at h
    split at h
    · rename_i e he
      simp only [RVs] at r
      obtain ⟨v, r', rfl, r1, r2⟩ := r
      obtain ⟨σ1, a1, b1, c1⟩ := Tg.ok S t d env e v σ he r1 re
      obtain ⟨σ2, a2, b2, c2⟩ := Tg.oks S ts ds e env' r' σ1 h r2 a1
      refine ⟨σ2, a2, fun Q q => ?_, fun ws hv => ?_⟩
      · simp only [Tg.tgs]
        exact ⟨v, r', rfl, b1 _ (b2 Q q)⟩
      · simp only [Tg.namess, List.mem_append] at hv
        rw [c2 ws fun i hi => hv i (.inr hi), c1 ws fun i hi => hv i (.inl hi)]
    · cases h
  | [], _ :: _, _, _, _, _, h, _, _ => by simp only [Tg.sems] at h; cases h
  | _ :: _, [], _, _, _, _, h, _, _ => by simp only [Tg.sems] at h; cases h
end
theorem g_name {i : Nat} {x : Str} {pos : Pos} (hN : X.N.Nodup) (hi : X.N[i]? = some x := by rfl) (hx : Loc X.env.scope x := by first | exact Or.inl rfl | exact Or.inr rfl) (hf : X.fn x = true ∨ X.env.scope.names.lookup x = some .local := by first | exact .inl rfl | exact .inr rfl) : PG X (.Name x pos) (Tg.tg G.K (.name i)) := by
  have h := pg_name (pos := pos) hN hi hx hf
  have e : Tg.tg G.K (.name i) = gName i := by simp only [Tg.tg]
  rw [e]
  exact h
theorem gs_nil : PGs X [] (Tg.tgs G.K []) := by
  have e : Tg.tgs G.K [] = gNil := by simp only [Tg.tgs]
  rw [e]
  exact pgs_nil
theorem gs_cons {e : Expr} {es : List Expr} {t : Tg} {ts : List Tg} (h1 : PG X e (Tg.tg G.K t)) (h2 : PGs X es (Tg.tgs G.K ts))
    (hs : (assignEach (e :: es) X.env).map (·.2) = assign e X.env :: (assignEach es X.env).map (·.2) := by rfl) : PGs X (e :: es) (Tg.tgs G.K (t :: ts)) := by
  have q : Tg.tgs G.K (t :: ts) = gCons (Tg.tg G.K t) (Tg.tgs G.K ts) := by simp only [Tg.tgs]
  rw [q]
  exact pgs_cons h1 h2 hs
theorem g_tup {es : List Expr} {k : Nat} {pos : Pos} {ts : List Tg} (hK : X.K = G.K) (hc : X.calm = true) (h : PGs X es (Tg.tgs G.K ts))
    (hn : (assignEach es X.env).length = ts.length := by rfl) (hst : (assignEach es X.env).findIdx? (·.1) = none := by rfl) : PG X (.Tuple es k pos) (Tg.tg G.K (.tup ts)) := by
  have h1 := pg_tup (k := k) (pos := pos) hc h hn hst
  have h2 := pg_unl (k := k) (pos := pos) hc h hn hst
  have e : Tg.tg G.K (.tup ts) = gSeq G.K ts.length (Tg.tgs G.K ts) := by simp only [Tg.tg]
  rw [e]
  refine ⟨fun pins s σ H v u Q I r hw => ?_⟩
  obtain ⟨a, xs, e1, hq, hl, hw⟩ := hw
  rcases hq with hq | hq
  · exact h1.run pins s σ H v u Q I r ⟨a, xs, e1, by rw [hK]; exact hq, hl, hw⟩
  · exact h2.run pins s σ H v u Q I r ⟨a, xs, e1, by rw [hK]; exact hq, hl, hw⟩
/-- target = value -/
def sAsg (t : Tg) (a : E) : Sm := fun env st => (a env st).out env fun d s => match Tg.sem s t d env with
  | some e => .nx e s
  | none => .bad
theorem asg_fin {K : Ends} {t : Tg} {fe : E} (h : tS G W (sAsg t fe) K σ H) : tE G W fe σ H fun v H1 => Tg.tg G.K t v σ H1 K.nx :=
  tX_mono (tX_out (k := fun env d s => match Tg.sem s t d env with
  | some e => .nx e s
  | none => .bad) h) fun v H1 ⟨ms, st, env, d, S, r, r1, k⟩ => by
    split at k
    · rename_i e he
      obtain ⟨σ', a, b, _⟩ := Tg.ok S t d env e v σ he r1 r
      exact b _ (k σ' ms H1 Gr.refl S a)
    · exact k.elim
theorem s_asg {tg e : Expr} {pos : Pos} {t : Tg} {fe : E} (he : PE X e (tE G W fe)) (hg : PG X tg (Tg.tg G.K t)) (hs : swapsWithSole [tg] e pos.line X.env = pure false := by rfl) (hw : swappedStores [tg] e X.env = pure none := by rfl)
    (h1 : (assignEach [tg] X.env).map (·.2) = [assign tg X.env] := by rfl) : PS X (.Assign [tg] e pos) (tS G W (sAsg t fe)) :=
  PS_weak (ps_asg he hg hs hw h1) fun K σ H h => asg_fin h
theorem s_set {i : Nat} {x : Str} {e : Expr} {fe : E} {pos pos' : Pos} (hN : X.N.Nodup) (he : PE X e (tE G W fe)) (hi : X.N[i]? = some x := by rfl) (hx : Loc X.env.scope x := by first | exact Or.inl rfl | exact Or.inr rfl) (hs : swapsWith e (some (.Name x pos')) pos.line X.env = pure false := by rfl)
    (hf : X.fn x = true ∨ X.env.scope.names.lookup x = some .local := by first | exact .inl rfl | exact .inr rfl) : PS X (.Assign [.Name x pos'] e pos) (tS G W (sAsg (.name i) fe)) :=
  PS_weak (ps_set hN hi hx he hs hf) fun K σ H h => by
    have q := asg_fin h
    simp only [Tg.tg] at q
    exact q
/-- x, y = a, b: two local names -/
def sPar (i j : Nat) (a b : E) : Sm := fun env st => (eArgs [a, b] env st).out env fun ds s => match ds with
  | [x, y] => .nx ((env.set i (some x)).set j (some y)) s
  | _ => .bad
theorem s_par {i j : Nat} {x y : Str} {a b : Expr} {fa fb : E} {px py pt : Pos} {kt k2 pt2} {pos : Pos} (hc : X.calm = true) (hN : X.N.Nodup) (ha : PA X [a, b] (tA G W (eArgs [fa, fb]))) (hi : X.N[i]? = some x := by rfl) (hj : X.N[j]? = some y := by rfl) (hij : i ≠ j := by decide)
    (hx : X.env.scope.names.lookup x = some .local := by rfl) (hy : X.env.scope.names.lookup y = some .local := by rfl)
    (hw : swappedStores [.Tuple [.Name x px, .Name y py] kt pt] (.Tuple [a, b] k2 pt2) X.env = pure (some [x, y]) := by rfl)
    (hs : swapsWithSole [.Tuple [.Name x px, .Name y py] kt pt] (.Tuple [a, b] k2 pt2) pos.line X.env = pure false := by rfl) :
    PS X (.Assign [.Tuple [.Name x px, .Name y py] kt pt] (.Tuple [a, b] k2 pt2) pos) (tS G W (sPar i j fa fb)) :=
  PS_weak (ps_par hc hN hi hj hij hx hy ha hw hs) fun K σ H h => tX_mono (tX_out (R := RVs G) (k := fun env ds s => match ds with
  | [x, y] => .nx ((env.set i (some x)).set j (some y)) s
  | _ => .bad) h) fun vs H1 ⟨ms, st, env, ds, S, r, r1, k⟩ => by
    split at k
    · obtain ⟨v, u, rfl, rv, ru⟩ := r1.two'
      exact ⟨v, u, rfl, k _ ms H1 Gr.refl S (RE.set ru j (RE.set rv i r))⟩
    · exact k.elim
/-- o[i] = e, o a list -/
def opSet (o i d : D) : O Unit := fun st => match o, i with
  | .ref r, .int z => match st[r]? with
    | some (.lst ds) => match ixN ds.length z with
      | some j => some ((), st.set r (.lst (ds.set j d)))
      | none => none
    | _ => none
  | _, _ => none
def sSetIx (o i e : E) : Sm := fun env st => (e env st).out env fun d s => (o env s).out env fun x s => (i env s).out env fun y s => match opSet x y d s with
  | some (_, s) => .nx env s
  | none => .bad
theorem s_setIx {o i e : Expr} {fo fi fe : E} {pos p2 : Pos} (he : PE X e (tE G W fe)) (ho : PE X o (tE G W fo)) (hi : PE X i (tE G W fi))
    (ha : ∀ v, assign (.Subscript o i p2) X.env v = (do
      let ov ← holding [v] (eval o X.env)
      let iv ← holding [v, ov] (eval i X.env)
      standAt p2
      holding [v, ov, iv] (setItem ov iv v)
      release [v, ov, iv] []) := by intro _; rfl) (hs : swapsWithSole [.Subscript o i p2] e pos.line X.env = pure false := by rfl) (hw : swappedStores [.Subscript o i p2] e X.env = pure none := by rfl)
    (h1 : (assignEach [.Subscript o i p2] X.env).map (·.2) = [assign (.Subscript o i p2) X.env] := by rfl) : PS X (.Assign [.Subscript o i p2] e pos) (tS G W (sSetIx fo fi fe)) :=
  PS_weak (ps_asg he (pg_sub ho hi set_list ha) hs hw h1) fun K σ H h => by
    refine tX_mono (tX_out (k := fun env d s => (fo env s).out env fun x s => (fi env s).out env fun y s => match opSet x y d s with
      | some (_, s) => .nx env s
      | none => .bad) h) fun v H1 ⟨ms, st, env, d, S, r, r1, k⟩ => ?_
    have q : tE G W fo σ H1 fun x H2 => ∃ ms st env d x', SRel G ms st H2 ∧ RE G ms H2 env σ ∧ RV G ms H2 d v ∧ RV G ms H2 x' x ∧ OutOk G W K ms H2 ((fi env st).out env fun y s => match opSet x' y d s with
        | some (_, s) => .nx env s
        | none => .bad) := by
      refine ⟨ms, st, env, S, r, ?_⟩
      cases e1 : fo env st with
      | ok x s =>
        rw [e1] at k
        exact fun b m1 H2 g1 S1 r2 => ⟨m1, s, env, d, x, S1, r.gr g1, RV.gr g1 _ _ r1, r2, OutOk.gr g1 k⟩
      | exn c fs s =>
        rw [e1] at k
        exact fun od m1 H2 g1 S1 x1 => k od σ m1 H2 g1 S1 (r.gr g1) x1
      | bad =>
        rw [e1] at k
        exact k
    refine tX_mono q fun x H2 ⟨ms, st, env, d, x', S, r, r1, r2, k⟩ => ?_
    have q : tE G W fi σ H2 fun y H3 => ∃ ms st env d x' y', SRel G ms st H3 ∧ RE G ms H3 env σ ∧ RV G ms H3 d v ∧ RV G ms H3 x' x ∧ RV G ms H3 y' y ∧ OutOk G W K ms H3 (match opSet x' y' d st with
        | some (_, s) => .nx env s
        | none => .bad) := by
      refine ⟨ms, st, env, S, r, ?_⟩
      cases e1 : fi env st with
      | ok y s =>
        rw [e1] at k
        exact fun b m1 H3 g1 S1 r3 => ⟨m1, s, env, d, x', y, S1, r.gr g1, RV.gr g1 _ _ r1, RV.gr g1 _ _ r2, r3, OutOk.gr g1 k⟩
      | exn c fs s =>
        rw [e1] at k
        exact fun od m1 H2 g1 S1 x1 => k od σ m1 H2 g1 S1 (r.gr g1) x1
      | bad =>
        rw [e1] at k
        exact k
    refine tX_mono q fun y H3 ⟨ms, st, env, d, x', y', S, r, r1, r2, r3, k⟩ => ?_
    split at k
    · rename_i s e
      unfold opSet at e
      split at e
      · simp only [RV] at r3
        subst r3
        split at e
        · rename_i ds e2
          obtain ⟨a, vs, rfl, ha, h1, h2⟩ := S.ref e2 r2
          split at e
          · rename_i j e3
            cases e
            obtain ⟨c, _, hc⟩ := S.has ha
            have g : Gr ms H3 ms (upd H3 a (.lst (vs.set j v))) := Gr.cell hc
            exact ⟨a, vs, _, j, rfl, rfl, h1, by rw [h2.length]; exact e3, k σ ms _ g (S.put ha ⟨_, upd_same, RVs.gr g _ _ (h2.set j r1)⟩) (r.gr g)⟩
          · cases e
        · cases e
      · cases e
    · exact k.elim
/-- o.f = e -/
def opSetF (P : Nat → Bool) (f : String) (o d : D) : O Unit := fun st => match o with
  | .ref r => match st[r]? with
    | some (.ins c fs) => if P c = true ∧ fs.length < 1000 then some ((), st.set r (.ins c (putD f d fs))) else none
    | _ => none
  | _ => none
def sSetF (P : Nat → Bool) (f : String) (o e : E) : Sm := fun env st => (e env st).out env fun d s => (o env s).out env fun x s => match opSetF P f x d s with
  | some (_, s) => .nx env s
  | none => .bad
theorem s_setF {o e : Expr} {fo fe : E} {P : Nat → Bool} {f : String} {fS : Str} {pos p2 : Pos} (hK : X.K = G.K) (hP : ∀ c, P c = true → Cls G.K (G.tb c) ∧ NoAttr G.K (G.tb c) fS) (hf : fS = Str.ofString f) (he : PE X e (tE G W fe)) (ho : PE X o (tE G W fo))
    (hs : swapsWith e (some (.Attribute o fS p2)) pos.line X.env = pure false := by rfl) : PS X (.Assign [.Attribute o fS p2] e pos) (tS G W (sSetF P f fo fe)) :=
  PS_weak (ps_fld ho he hs) fun K σ H h => by
    refine tX_mono (tX_out (k := fun env d s => (fo env s).out env fun x s => match opSetF P f x d s with
      | some (_, s) => .nx env s
      | none => .bad) h) fun v H1 ⟨ms, st, env, d, S, r, r1, k⟩ => ?_
    have q : tE G W fo σ H1 fun x H2 => ∃ ms st env d x', SRel G ms st H2 ∧ RE G ms H2 env σ ∧ RV G ms H2 d v ∧ RV G ms H2 x' x ∧ OutOk G W K ms H2 (match opSetF P f x' d st with
        | some (_, s) => .nx env s
        | none => .bad) := by
      refine ⟨ms, st, env, S, r, ?_⟩
      cases e1 : fo env st with
      | ok x s =>
        rw [e1] at k
        exact fun b m1 H2 g1 S1 r2 => ⟨m1, s, env, d, x, S1, r.gr g1, RV.gr g1 _ _ r1, r2, OutOk.gr g1 k⟩
      | exn c fs s =>
        rw [e1] at k
        exact fun od m1 H2 g1 S1 x1 => k od σ m1 H2 g1 S1 (r.gr g1) x1
      | bad =>
        rw [e1] at k
        exact k
    refine tX_mono q fun x H2 ⟨ms, st, env, d, x', S, r, r1, r2, k⟩ => ?_
    split at k
    · rename_i s e
      unfold opSetF at e
      split at e
      · split at e
        · rename_i c gs e2
          obtain ⟨a, dx, hs, rfl, ha, h1, h2⟩ := S.ins e2 r2
          split at e
          · rename_i hc
            cases e
            obtain ⟨c', _, hc'⟩ := S.has ha
            have g : Gr ms H2 ms (upd H2 a (.ins (G.tb c) dx (putF (Str.ofString f) v hs))) := Gr.cell hc'
            obtain ⟨p1, p2⟩ := hP c hc.1
            refine ⟨a, _, dx, hs, rfl, h1, by rw [hK]; exact p1, by rw [hK]; exact p2, by rw [h2.len]; exact hc.2, ?_⟩
            rw [hf]
            exact k σ ms _ g (S.put ha ⟨dx, _, upd_same, RF.gr g (h2.put r1)⟩) (r.gr g)
          · cases e
        · cases e
      · cases e
    · exact k.elim
/-- x += e, ints -/
def sAugI (f : Int → Int → Int) (i : Nat) (e : E) : Sm := fun env st => match env[i]? with
  | some (some (.int a)) => (e env st).out env fun d s => match d with
    | .int b => .nx (env.set i (some (.int (f a b)))) s
    | _ => .bad
  | _ => .bad
theorem s_augI {f : Int → Int → Int} {i : Nat} {x : Str} {e : Expr} {fe : E} {op : Operator} {pos pos' : Pos} (ho : PIp X op (ipI f)) (hN : X.N.Nodup) (he : PE X e (tE G W fe)) (hi : X.N[i]? = some x := by rfl) (hx : Loc X.env.scope x := by first | exact Or.inl rfl | exact Or.inr rfl)
    (hf : X.fn x = true ∨ X.env.scope.names.lookup x = some .local := by first | exact .inl rfl | exact .inr rfl) : PS X (.AugAssign (.Name x pos') op e pos) (tS G W (sAugI f i fe)) :=
  PS_weak (ps_aug hN hi hx he ho hf) fun K σ H ⟨ms, st, env, S, r, k⟩ => by
    unfold sAugI at k
    split at k
    · rename_i a ea
      obtain ⟨v, h1, h2⟩ := r.at ea
      simp only [RV] at h2
      subst h2
      have q : tS G W (fun env st => (fe env st).out env fun d s => match d with
        | .int b => .nx (env.set i (some (.int (f a b)))) s
        | _ => .bad) K σ H := ⟨ms, st, env, S, r, k⟩
      refine ⟨_, h1, tX_mono (tX_out (k := fun env d s => match d with
        | .int b => .nx (env.set i (some (.int (f a b)))) s
        | _ => .bad) q) fun v H1 ⟨ms, st, env, d, S, r, r1, k⟩ => ?_⟩
      split at k
      · simp only [RV] at r1
        subst r1
        exact ⟨_, _, rfl, rfl, k _ ms H1 Gr.refl S (RE.set (by simp only [RV]) i r)⟩
      · exact k.elim
    · exact k.elim
end
end LF

set_option Elab.async false
set_option linter.all false
set_option maxRecDepth 100000
set_option maxHeartbeats 4000000
/-! The layer: loops, comprehensions, defs. -/
namespace LF
open PySem PySem.Spec PyProof.Rows L2
section
variable {G : Gx} {W : WX} {X : Cx} {σ : L2.St} {H : Hp}
/-! ### what is walked: the items, and the list that must stay as it is -/
structure Its where
  items : List D
  chk : Option (Nat × List D)
def Its.okB (t : Its) (st : Sto) : Prop := ∀ i ds, t.chk = some (i, ds) → st[i]? = some (.lst ds)
def RIt (G : Gx) (ms : List Addr) (H : Hp) (p : Its) (J : It) : Prop := ∀ (i : Nat) ms' H' st', Gr ms H ms' H' → SRel G ms' st' H' → p.okB st' →
  (i < p.items.length → J.go i H' ∧ ∀ x H2, J.yld i H' x H2 → ∃ d, p.items[i]? = some d ∧ Gr ms' H' ms' H2 ∧ SRel G ms' st' H2 ∧ RV G ms' H2 d x) ∧ (p.items.length ≤ i → J.stop i H')
abbrev tI (G : Gx) (W : WX) (f : Sl → M Its) : TI := tX (RIt G) G W f
theorem PI_weak {tg e : Expr} {t t' : TI} (h : PI X tg e t) (k : ∀ σ H R, t' σ H R → t σ H R) : PI X tg e t' := ⟨fun pins s σ H R I q => h.run pins s σ H R I (k σ H R q)⟩
/-- a list or a tuple -/
def iSeq (K : PySem.W.Frag) (tl : TE) : TI := fun σ H R => tl σ H fun x H1 => ∃ a, x = .ref a ∧ (((∃ xs, SqL K H1 a xs) ∧ R (Itl K a) H1) ∨ ((∃ xs, SqT K H1 a xs) ∧ R (Itt K a) H1))
theorem pi_seq {tg l : Expr} {tl : TE} (hl : PE X l tl) : PI X tg l (iSeq X.K tl) := by
  refine ⟨fun pins s σ H R I h => ?_⟩
  refine thn (hl.run pins s σ H _ I h) fun v s1 ⟨x, H1, I1, r1, q1⟩ => ?_
  obtain ⟨a, e, q⟩ := q1
  subst e
  cases r1
  rcases q with ⟨⟨xs, hq⟩, q⟩ | ⟨⟨xs, hq⟩, q⟩
  · obtain ⟨its, rv, p, hz⟩ := I1.list hq
    refine wpAny_pyIter_list p.isList ?_
    refine ⟨s1.heap.objs.size, [s1.heap.objs.size], _, _, H1, rfl, I1.kept (t' := s1.toks) fun b o e => Heap.get?_push_of_some _ e, turn_list a _, ⟨_, Heap.get?_push_size _ rfl, rfl, rfl⟩, fun b hb => ?_, q⟩
    have e : b = s1.heap.objs.size := by simpa using hb
    subst e
    exact I1.fpOk (Nat.le_refl _) (I1.hok.fresh (Nat.le_refl _))
  · obtain ⟨its, rv, p, hz⟩ := I1.tuple hq
    refine wpAny_pyIter_tuple (show s1.heap.IsTuple a its.toArray from p) ?_
    refine ⟨s1.heap.objs.size, [s1.heap.objs.size], _, _, H1, rfl, I1.kept (t' := s1.toks) fun b o e => Heap.get?_push_of_some _ e, turn_tuple a _, ⟨_, Heap.get?_push_size _ rfl, rfl, rfl⟩, fun b hb => ?_, q⟩
    have e : b = s1.heap.objs.size := by simpa using hb
    subst e
    exact I1.fpOk (Nat.le_refl _) (I1.hok.fresh (Nat.le_refl _))
def iterOf (d : D) (s : Sto) : Option Its := match d with
  | .tup ds => some ⟨ds, none⟩
  | .ref i => match s[i]? with
    | some (.lst ds) => some ⟨ds, some (i, ds)⟩
    | _ => none
  | .scr ns => some ⟨ns.map D.int, none⟩
  | _ => none
def iS (a : E) : Sl → M Its := fun env st => (a env st).bind fun d s => match iterOf d s with
  | some t => .ok t s
  | none => .bad
theorem Gr.sqT' {ms ms' : List Addr} {H' : Hp} {K : PySem.W.Frag} {a : Addr} {xs : List V} (g : Gr ms H ms' H') (h : SqU K H a xs) : SqT K H' a xs := (g.sqT h).t
theorem it_list {K : PySem.W.Frag} {H : Hp} {a : Addr} {vs : List V} {i : Nat} (h : SqL K H a vs) : (i < vs.length → (Itl K a).go i H ∧ ∀ x H2, (Itl K a).yld i H x H2 → H2 = H ∧ vs[i]? = some x) ∧ (vs.length ≤ i → (Itl K a).stop i H) :=
  ⟨fun hi => ⟨⟨vs, vs[i], h, by simp [hi]⟩, fun x H2 y => ⟨y.1, y.2 vs h⟩⟩, fun hi => ⟨vs, h, hi⟩⟩
theorem it_tup {K : PySem.W.Frag} {H : Hp} {a : Addr} {vs : List V} {i : Nat} (h : SqT K H a vs) : (i < vs.length → (Itt K a).go i H ∧ ∀ x H2, (Itt K a).yld i H x H2 → H2 = H ∧ vs[i]? = some x) ∧ (vs.length ≤ i → (Itt K a).stop i H) :=
  ⟨fun hi => ⟨⟨vs, vs[i], h, by simp [hi]⟩, fun x H2 y => ⟨y.1, y.2 vs h⟩⟩, fun hi => ⟨vs, h, hi⟩⟩
theorem RIt.of_seq {ms : List Addr} {p : Its} {J : It} (h : ∀ (i : Nat) ms' H' st', Gr ms H ms' H' → SRel G ms' st' H' → p.okB st' → ∃ vs, RVs G ms' H' p.items vs ∧ ((i < vs.length → J.go i H' ∧ ∀ x H2, J.yld i H' x H2 → H2 = H' ∧ vs[i]? = some x) ∧ (vs.length ≤ i → J.stop i H'))) : RIt G ms H p J := fun i ms' H' st' g S ok => by
  obtain ⟨vs, r, h1, h2⟩ := h i ms' H' st' g S ok
  refine ⟨fun hi => ?_, fun hi => h2 (by rw [r.length]; exact hi)⟩
  obtain ⟨h3, h4⟩ := h1 (by rw [r.length]; exact hi)
  refine ⟨h3, fun x H2 y => ?_⟩
  obtain ⟨rfl, e⟩ := h4 x H2 y
  obtain ⟨d, e2, r2⟩ := r.back e
  exact ⟨d, e2, Gr.refl, S, r2⟩
theorem i_seq {tg e : Expr} {fe : E} (hK : X.K = G.K) (he : PE X e (tE G W fe)) : PI X tg e (tI G W (iS fe)) := PI_weak (pi_seq he) fun σ H R h => tX_mono (tX_bind h) fun v H1 ⟨ms, st, env, d, S, r, r1, k⟩ => by
  rw [hK]
  cases d with
  | tup ds =>
    have r0 := r1
    simp only [RV] at r1
    obtain ⟨a, vs, rfl, h1, h2⟩ := r1
    refine ⟨a, rfl, .inr ⟨⟨vs, h1.t⟩, k _ ms H1 Gr.refl S (RIt.of_seq fun i ms' H' st' g S' ok => ⟨vs, RVs.gr g _ _ h2, it_tup (g.sqT' h1)⟩)⟩⟩
  | ref i =>
    simp only [iterOf] at k
    split at k
    · rename_i t e
      split at e
      · rename_i ds e1
        cases e
        obtain ⟨a, vs, rfl, ha, h1, h2⟩ := S.ref e1 r1
        refine ⟨a, rfl, .inl ⟨⟨vs, SqL.of h1⟩, k _ ms H1 Gr.refl S (RIt.of_seq fun j ms' H' st' g S' ok => ?_)⟩⟩
        obtain ⟨b, us, hb, h3, h4⟩ := S'.lst (ok i ds rfl)
        rw [g.at ha] at hb
        cases hb
        exact ⟨us, h4, it_list (SqL.of h3)⟩
      · cases e
    · exact k.elim
  | scr ns =>
    simp only [RV] at r1
    obtain ⟨a, rfl, h1⟩ := r1
    refine ⟨a, rfl, .inl ⟨⟨_, h1.l⟩, k _ ms H1 Gr.refl S (RIt.of_seq fun i ms' H' st' g S' ok => ⟨_, RVs.ints ns, it_list (g.sqS h1).l⟩)⟩⟩
  | non => exact k.elim
  | bl _ => exact k.elim
  | int _ => exact k.elim
  | str _ => exact k.elim
  | glo _ => exact k.elim
  | ty _ => exact k.elim
  | xc => exact k.elim
/-- range -/
def rngI (lo : Int) (n : Nat) : List D := (List.range n).map fun i : Nat => D.int (lo + (i : Int))
theorem RIt.rng {ms : List Addr} {lo : Int} {n : Nat} : RIt G ms H ⟨rngI lo n, none⟩ (Itr lo n) := fun i ms' H' st' g S ok => by
  have hl : (rngI lo n).length = n := by simp [rngI]
  refine ⟨fun hi => ?_, fun hi => ?_⟩
  · have hi' : i < n := by rw [← hl]; exact hi
    refine ⟨hi', fun x H2 y => ?_⟩
    obtain ⟨rfl, rfl⟩ := y
    exact ⟨.int (lo + i), by simp [rngI, hi'], Gr.refl, S, by simp only [RV]⟩
  · show n ≤ i
    rw [← hl]
    exact hi
def iR1 (a : E) : Sl → M Its := fun env st => (eArgs [a] env st).bind fun ds s => match ds with
  | [.int j] => if -(2 ^ 62) ≤ j ∧ j < 2 ^ 62 then .ok ⟨rngI 0 j.toNat, none⟩ s else .bad
  | _ => .bad
def iR2 (a b : E) : Sl → M Its := fun env st => (eArgs [a, b] env st).bind fun ds s => match ds with
  | [.int i, .int j] => if -(2 ^ 62) ≤ i ∧ i < 2 ^ 62 ∧ -(2 ^ 62) ≤ j ∧ j < 2 ^ 62 then .ok ⟨rngI i (j - i).toNat, none⟩ s else .bad
  | _ => .bad
theorem i_range1 {tg a : Expr} {p pos : Pos} {fa : E} (hm : X.mg "range" = none) (ha : PA X [a] (tA G W (eArgs [fa]))) (hg : Gl X "range" := by rfl) (hs : starEach [a] X.env = [(false, eval a X.env)] := by rfl) : PI X tg (.Call (.Name "range" p) [a] [] pos) (tI G W (iR1 fa)) :=
  PI_weak (pi_range1 hg hm ha hs) fun σ H R h => tX_mono (tX_bind h) fun vs H1 ⟨ms, st, env, ds, S, r, r1, k⟩ => by
    split at k
    · obtain ⟨v, rfl, rv⟩ := r1.one'
      simp only [RV] at rv
      subst rv
      split at k
      · rename_i hj
        exact ⟨_, rfl, hj.1, hj.2, k _ ms H1 Gr.refl S RIt.rng⟩
      · exact k.elim
    · exact k.elim
theorem i_range2 {tg a b : Expr} {p pos : Pos} {fa fb : E} (hm : X.mg "range" = none) (ha : PA X [a, b] (tA G W (eArgs [fa, fb]))) (hg : Gl X "range" := by rfl) (hs : starEach [a, b] X.env = [(false, eval a X.env), (false, eval b X.env)] := by rfl) (hs2 : starEach [b] X.env = [(false, eval b X.env)] := by rfl) : PI X tg (.Call (.Name "range" p) [a, b] [] pos) (tI G W (iR2 fa fb)) :=
  PI_weak (pi_range2 hg hm ha hs hs2) fun σ H R h => tX_mono (tX_bind h) fun vs H1 ⟨ms, st, env, ds, S, r, r1, k⟩ => by
    split at k
    · obtain ⟨v, u, rfl, rv, ru⟩ := r1.two'
      simp only [RV] at rv ru
      subst rv ru
      split at k
      · rename_i hj
        exact ⟨_, _, rfl, hj, k _ ms H1 Gr.refl S RIt.rng⟩
      · exact k.elim
    · exact k.elim
def rngC (lo c : Int) (n : Nat) : List D := (List.range n).map fun i : Nat => D.int (lo + (i : Int) * c)
theorem RIt.rngc {ms : List Addr} {lo c : Int} {n : Nat} : RIt G ms H ⟨rngC lo c n, none⟩ (Itc lo c n) := fun i ms' H' st' g S ok => by
  have hl : (rngC lo c n).length = n := by simp [rngC]
  refine ⟨fun hi => ?_, fun hi => ?_⟩
  · have hi' : i < n := by rw [← hl]; exact hi
    refine ⟨hi', fun x H2 y => ?_⟩
    obtain ⟨rfl, rfl⟩ := y
    exact ⟨.int (lo + i * c), by simp [rngC, hi'], Gr.refl, S, by simp only [RV]⟩
  · show n ≤ i
    rw [← hl]
    exact hi
open Classical in
noncomputable def iR3 (a b c : E) : Sl → M Its := fun env st => (eArgs [a, b, c] env st).bind fun ds s => match ds with
  | [.int i, .int j, .int c] => if h : ∃ n, RgC i j c n then .ok ⟨rngC i c h.choose, none⟩ s else .bad
  | _ => .bad
theorem i_range3 {tg a b c : Expr} {p pos : Pos} {fa fb fc : E} (hm : X.mg "range" = none) (ha : PA X [a, b, c] (tA G W (eArgs [fa, fb, fc]))) (hg : Gl X "range" := by rfl) (hs : starEach [a, b, c] X.env = (false, eval a X.env) :: starEach [b, c] X.env := by rfl) (hpl : (backTo pos (starEach [b, c] X.env)).any (·.1) = false := by rfl) : PI X tg (.Call (.Name "range" p) [a, b, c] [] pos) (tI G W (iR3 fa fb fc)) :=
  PI_weak (pi_range3 hg hm ha hs hpl) fun σ H R h => tX_mono (tX_bind h) fun vs H1 ⟨ms, st, env, ds, S, r, r1, k⟩ => by
    split at k
    · simp only [RVs] at r1
      obtain ⟨v, _, rfl, rv, u, _, rfl, ru, w, _, rfl, rw', rfl⟩ := r1
      simp only [RV] at rv ru rw'
      subst rv ru rw'
      split at k
      · rename_i hj
        exact ⟨_, _, _, _, rfl, hj.choose_spec, k _ ms H1 Gr.refl S RIt.rngc⟩
      · exact k.elim
    · exact k.elim
/-- enumerate(xs) of a list -/
def enumI (ds : List D) : List D := ds.zipIdx.map fun p => .tup [.int (p.2 : Int), p.1]
def iEn (a : E) : Sl → M Its := fun env st => (eArgs [a] env st).bind fun ds s => match ds with
  | [.ref i] => match s[i]? with
    | some (.lst ds) => .ok ⟨enumI ds, some (i, ds)⟩ s
    | _ => .bad
  | _ => .bad
theorem i_enum {e : Expr} {p pos tpos : Pos} {elts : List Expr} {kk : Nat} {fe : E} (hK : X.K = G.K) (hm : X.mg "enumerate" = none) (ha : PA X [e] (tA G W (eArgs [fe]))) (hg : Gl X "enumerate" := by rfl) (hs : starEach [e] X.env = [(false, eval e X.env)] := by rfl) :
    PI X (.Tuple elts kk tpos) (.Call (.Name "enumerate" p) [e] [] pos) (tI G W (iEn fe)) :=
  PI_weak (pi_enum hg hm ha hs) fun σ H R h => tX_mono (tX_bind h) fun vs H1 ⟨ms, st, env, ds, S, r, r1, k⟩ => by
    rw [hK]
    split at k
    · rename_i i
      obtain ⟨v, rfl, rv⟩ := r1.one'
      split at k
      · rename_i ds e1
        obtain ⟨a, vs, rfl, ha, h1, h2⟩ := S.ref e1 rv
        refine ⟨a, vs, rfl, SqL.of h1, k _ ms H1 Gr.refl S fun j ms' H' st' g S' ok => ?_⟩
        obtain ⟨b, us, hb, h3, h4⟩ := S'.lst (ok i ds rfl)
        rw [g.at ha] at hb
        cases hb
        have hl : (enumI ds).length = ds.length := by simp [enumI]
        have hul := h4.length
        refine ⟨fun hj => ?_, fun hj => ⟨us, SqL.of h3, by
          have hj : (enumI ds).length ≤ j := hj
          omega⟩⟩
        have hj : j < (enumI ds).length := hj
        have hj' : j < us.length := by omega
        refine ⟨⟨us, us[j], SqL.of h3, by simp [hj']⟩, fun x H2 y => ?_⟩
        obtain ⟨T, w, rfl, hT, rfl, hw⟩ := y
        have e5 := hw us (SqL.of h3)
        obtain ⟨d, e6, r6⟩ := h4.back e5
        refine ⟨.tup [.int (j : Int), d], by simp [enumI, e6], Gr.new0 hT, S'.lay hT, ?_⟩
        simp only [RV]
        refine ⟨T, _, rfl, .inl upd_same, ?_⟩
        simp only [RVs]
        exact ⟨_, _, rfl, by simp only [RV], _, _, rfl, RV.gr (Gr.new0 hT) _ _ r6, rfl⟩
      · exact k.elim
    · exact k.elim

/-! ### for -/
open Classical in
noncomputable def forS (p : Its) (t : Tg) (body : Sm) : List D → Sm
  | [] => fun env st => if p.okB st then .nx env st else .bad
  | d :: ds => fun env st => if p.okB st then match Tg.sem st t d env with
      | some e => match body e st with
        | .nx e s => forS p t body ds e s
        | .ct e s => forS p t body ds e s
        | .bk e s => .nx e s
        | r => r
      | none => .bad
    else .bad
noncomputable def sFor (it : Sl → M Its) (t : Tg) (body : Sm) : Sm := fun env st => (it env st).out env fun p s => forS p t body p.items env s
theorem s_for {iter tgt : Expr} {body : List Stmt} {it : Sl → M Its} {t : Tg} {fb : Sm} {pos : Pos} (hc : X.calm = true) (hp : PassesOwn (model X.prog X.w) X.A X.env X.xe) (hi : PI X tgt iter (tI G W it)) (hg : PG X tgt (Tg.tg G.K t)) (hb : PSs X body (tS G W fb))
    (hs : ∀ x, foldedSetIterable iter X.env x = pure x := by intro _; rfl) : PS X (.For tgt iter body [] pos) (tS G W (sFor it t fb)) :=
  PS_weak (ps_for hp hc hi hg hb hs) fun K σ H h => tX_mono (tX_out (k := fun env p s => forS p t fb p.items env s) h) fun J H1 ⟨ms, st, env, p, S, r, r1, k⟩ => by
    refine ⟨fun i m σ' H' => ∃ ms' st' env', Gr ms H1 ms' H' ∧ SRel G ms' st' H' ∧ RE G ms' H' env' σ' ∧ i ≤ p.items.length ∧ m = p.items.length - i ∧ OutOk G W K ms' H' (forS p t fb (p.items.drop i) env' st'),
      ⟨p.items.length, ms, st, env, Gr.refl, S, r, Nat.zero_le _, rfl, k⟩, ?_⟩
    rintro i m σ' H' ⟨ms', st', env', g', S', r', hi, rfl, k'⟩
    by_cases hlt : i < p.items.length
    · rw [List.drop_eq_getElem_cons hlt] at k'
      simp only [forS] at k'
      split at k'
      · rename_i ok
        obtain ⟨h1, h2⟩ := (r1 i ms' H' st' g' S' ok).1 hlt
        refine .inr ⟨h1, fun σ2 H2 => ∃ ms2 st2 env2, Gr ms H1 ms2 H2 ∧ SRel G ms2 st2 H2 ∧ RE G ms2 H2 env2 σ2 ∧ OutOk G W K ms2 H2 (forS p t fb (p.items.drop (i + 1)) env2 st2), fun σ2 H2 ⟨ms2, st2, env2, g2, S2, r2, k2⟩ =>
          ⟨p.items.length - (i + 1), by omega, ms2, st2, env2, g2, S2, r2, hlt, rfl, k2⟩, fun x H2 y => ?_⟩
        obtain ⟨d, e1, g2, S2, rx⟩ := h2 x H2 y
        have ed : p.items[i] = d := by
          rw [List.getElem?_eq_getElem hlt] at e1
          exact Option.some.inj e1
        rw [ed] at k'
        split at k'
        · rename_i e he
          obtain ⟨σ2, a, b, _⟩ := Tg.ok S2 t d env' e x σ' he rx (r'.gr g2)
          refine b _ ⟨ms', st', e, S2, a, ?_⟩
          have k' := OutOk.gr g2 k'
          cases e4 : fb e st' with
          | nx e5 s5 =>
            rw [e4] at k'
            exact fun σ5 m5 H5 g5 S5 r5 => ⟨m5, s5, e5, (g'.trans g2).trans g5, S5, r5, OutOk.gr g5 k'⟩
          | ct e5 s5 =>
            rw [e4] at k'
            exact fun σ5 m5 H5 g5 S5 r5 => ⟨m5, s5, e5, (g'.trans g2).trans g5, S5, r5, OutOk.gr g5 k'⟩
          | bk e5 s5 =>
            rw [e4] at k'
            exact k'
          | rt d5 s5 =>
            rw [e4] at k'
            exact k'
          | exn c fs e5 s5 =>
            rw [e4] at k'
            exact k'
          | bad =>
            rw [e4] at k'
            exact k'
        · exact k'.elim
      · exact k'.elim
    · have hn : p.items.drop i = [] := List.drop_eq_nil_of_le (Nat.le_of_not_lt hlt)
      rw [hn] at k'
      simp only [forS] at k'
      split at k'
      · rename_i ok
        exact .inl ⟨(r1 i ms' H' st' g' S' ok).2 (Nat.le_of_not_lt hlt), k' σ' ms' H' Gr.refl S' r'⟩
      · exact k'.elim

/-! ### while -/
def whileN (c : T) (body : Sm) : Nat → Sm
  | 0 => fun _ _ => .bad
  | n + 1 => fun env st => (c env st).out env fun k s => if k = true then match body env s with
      | .nx e s => whileN c body n e s
      | .ct e s => whileN c body n e s
      | .bk e s => .nx e s
      | r => r
    else .nx env s
open Classical in
noncomputable def sWhile (c : T) (body : Sm) : Sm := fun env st => if h : ∃ n, whileN c body n env st ≠ .bad then whileN c body h.choose env st else .bad
theorem s_while {c : Expr} {body : List Stmt} {tc : T} {fb : Sm} {pos : Pos} (hp : PassesOwn (model X.prog X.w) X.A X.env X.xe) (hc : PT X c (tT G W tc)) (hb : PSs X body (tS G W fb)) : PS X (.While c body [] pos) (tS G W (sWhile tc fb)) :=
  PS_weak (ps_while hp hc hb) fun K σ H ⟨ms, st, env, S, r, k⟩ => by
    unfold sWhile at k
    split at k
    · rename_i hn
      refine ⟨fun m σ' H' => ∃ ms' st' env', SRel G ms' st' H' ∧ RE G ms' H' env' σ' ∧ OutOk G W K ms' H' (whileN tc fb m env' st'), ⟨_, ms, st, env, S, r, k⟩, ?_⟩
      rintro m σ' H' ⟨ms', st', env', S', r', k'⟩
      cases m with
      | zero => exact k'.elim
      | succ m =>
        have q : tS G W (fun env st => (tc env st).out env fun k s => if k = true then match fb env s with
            | .nx e s => whileN tc fb m e s
            | .ct e s => whileN tc fb m e s
            | .bk e s => .nx e s
            | r => r
          else .nx env s) K σ' H' := ⟨ms', st', env', S', r', k'⟩
        refine tX_mono (tX_out (k := fun env k s => if k = true then match fb env s with
            | .nx e s => whileN tc fb m e s
            | .ct e s => whileN tc fb m e s
            | .bk e s => .nx e s
            | r => r
          else .nx env s) q) fun b H1 ⟨ms, st, env, b', S, r, r1, k⟩ => ?_
        cases r1
        cases b with
        | true =>
          rw [if_pos rfl]
          have k : OutOk G W K ms H1 (match fb env st with
            | .nx e s => whileN tc fb m e s
            | .ct e s => whileN tc fb m e s
            | .bk e s => .nx e s
            | r => r) := by simpa using k
          refine ⟨fun σ2 H2 => ∃ ms2 st2 env2, SRel G ms2 st2 H2 ∧ RE G ms2 H2 env2 σ2 ∧ OutOk G W K ms2 H2 (whileN tc fb m env2 st2), fun σ2 H2 ⟨ms2, st2, env2, S2, r2, k2⟩ => ⟨m, Nat.lt_succ_self _, ms2, st2, env2, S2, r2, k2⟩, ms, st, env, S, r, ?_⟩
          cases e4 : fb env st with
          | nx e5 s5 =>
            rw [e4] at k
            exact fun σ5 m5 H5 g5 S5 r5 => ⟨m5, s5, e5, S5, r5, OutOk.gr g5 k⟩
          | ct e5 s5 =>
            rw [e4] at k
            exact fun σ5 m5 H5 g5 S5 r5 => ⟨m5, s5, e5, S5, r5, OutOk.gr g5 k⟩
          | bk e5 s5 =>
            rw [e4] at k
            exact k
          | rt d5 s5 =>
            rw [e4] at k
            exact k
          | exn c fs e5 s5 =>
            rw [e4] at k
            exact k
          | bad =>
            rw [e4] at k
            exact k
        | false =>
          rw [if_neg Bool.false_ne_true]
          have k : OutOk G W K ms H1 (.nx env st) := by simpa using k
          exact k _ ms H1 Gr.refl S r
    · exact k.elim

/-! ### list comprehensions -/
def wipeD (e : Sl) : List Nat → Sl
  | [] => e
  | v :: vs => (wipeD e vs).set v none
theorem RE.wipe {ms : List Addr} {e : Sl} {σ : L2.St} (r : RE G ms H e σ) : ∀ vs : List Nat, RE G ms H (wipeD e vs) (L2.wipe σ vs)
  | [] => r
  | v :: vs => by
    unfold wipeD L2.wipe
    exact RE.unset v (RE.wipe r vs)
open Classical in
noncomputable def lcS (p : Its) (vs : List Nat) (t : Tg) (c : T) (e : E) (L : Nat) (env : Sl) : List D → Sto → Option Sto
  | [] => fun st => if p.okB st then some st else none
  | d :: ds => fun st => if p.okB st then match Tg.sem st t d (wipeD env vs) with
      | some e1 => match c e1 st with
        | .ok true s => match e e1 s with
          | .ok y s => match s[L]? with
            | some (.lst acc) => if acc.length < LIM then lcS p vs t c e L env ds (s.set L (.lst (acc ++ [y]))) else none
            | _ => none
          | _ => none
        | .ok false s => lcS p vs t c e L env ds s
        | _ => none
      | none => none
    else none
noncomputable def eLc (vs : List Nat) (it : Sl → M Its) (t : Tg) (c : T) (e : E) : E := fun env st => (it env st).bind fun p s => match lcS p vs t c e s.length env p.items (s ++ [.lst []]) with
  | some s' => .ok (.ref s.length) s'
  | none => .bad
abbrev W0 : WX := fun _ _ _ _ => False
theorem lc_tLc {vs : List Nat} {it : Sl → M Its} {t : Tg} {tc : T} {fe : E} {Q : VK} (hv : ∀ i ∈ Tg.names t, i ∈ vs) (h : tE G W (eLc vs it t tc fe) σ H Q) : tLc (tI G W it) (Tg.tg G.K t) (tT G W0 tc) (tE G W0 fe) vs σ H Q :=
  tX_mono (tX_bind h) fun J H1 ⟨ms, st, env, p, S, r, r1, k⟩ => by
    intro Dl hD
    split at k
    · rename_i sf ef
      have g0 : Gr ms H1 (ms ++ [Dl]) (upd H1 Dl (.lst [])) := Gr.new hD [Dl]
      refine ⟨fun i m H' => ∃ ms' st', Gr (ms ++ [Dl]) (upd H1 Dl (.lst [])) ms' H' ∧ SRel G ms' st' H' ∧ i ≤ p.items.length ∧ m = p.items.length - i ∧ lcS p vs t tc fe st.length env (p.items.drop i) st' = some sf,
        ⟨p.items.length, ms ++ [Dl], st ++ [.lst []], Gr.refl, S.new (c := .lst []) hD ⟨[], upd_same, by simp only [RVs]⟩, Nat.zero_le _, rfl, by rw [List.drop_zero]; exact ef⟩, ?_⟩
      rintro i m H' ⟨ms', st', g', S', hi, rfl, k'⟩
      have hL : ms'[st.length]? = some Dl := g'.at (by rw [← S.len]; simp)
      by_cases hlt : i < p.items.length
      · rw [List.drop_eq_getElem_cons hlt] at k'
        simp only [lcS] at k'
        split at k'
        · rename_i ok
          obtain ⟨h1, h2⟩ := (r1 i ms' H' st' (g0.trans g') S' ok).1 hlt
          refine .inr ⟨h1, fun H2 => ∃ ms2 st2, Gr (ms ++ [Dl]) (upd H1 Dl (.lst [])) ms2 H2 ∧ SRel G ms2 st2 H2 ∧ lcS p vs t tc fe st.length env (p.items.drop (i + 1)) st2 = some sf, fun H2 ⟨ms2, st2, g2, S2, k2⟩ =>
            ⟨p.items.length - (i + 1), by omega, ms2, st2, g2, S2, hlt, rfl, k2⟩, fun x H2 y => ?_⟩
          obtain ⟨d, e1, g2, S2, rx⟩ := h2 x H2 y
          have ed : p.items[i] = d := by
            rw [List.getElem?_eq_getElem hlt] at e1
            exact Option.some.inj e1
          rw [ed] at k'
          split at k'
          · rename_i e he
            have rw1 := (r.gr ((g0.trans g').trans g2)).wipe vs
            obtain ⟨σ2, a, b, cw⟩ := Tg.ok S2 t d _ e x _ he rx rw1
            refine b _ ⟨?_, ms', st', e, S2, a, ?_⟩
            · rw [cw vs hv]
              have ww : ∀ (l : List Nat) (τ : L2.St), L2.wipe (L2.wipe τ l) l = L2.wipe τ l := by
                intro l
                induction l with
                | nil => intro τ; rfl
                | cons w l ih =>
                  intro τ
                  show (L2.wipe ((L2.wipe τ l).set w none) l).set w none = (L2.wipe τ l).set w none
                  by_cases hw : w ∈ l
                  · rw [wipe_set hw, ih]
                  · have out : ∀ (m : List Nat) (τ : L2.St), w ∉ m → L2.wipe (τ.set w none) m = (L2.wipe τ m).set w none := by
                      intro m
                      induction m with
                      | nil => intro τ _; rfl
                      | cons u m ihm =>
                        intro τ hu
                        simp only [List.mem_cons, not_or] at hu
                        unfold L2.wipe
                        rw [ihm τ hu.2, List.set_comm _ _ hu.1]
                    rw [out l _ hw, List.set_set, ih]
              exact ww vs σ
            · cases e4 : tc e st' with
              | ok b4 s4 =>
                rw [e4] at k'
                intro b5 m5 H5 g5 S5 r5
                cases r5
                cases b4 with
                | true =>
                  rw [if_pos rfl]
                  refine ⟨m5, s4, e, S5, a.gr g5, ?_⟩
                  simp only at k'
                  cases e6 : fe e s4 with
                  | ok y6 s6 =>
                    rw [e6] at k'
                    intro v6 m6 H6 g6 S6 r6
                    simp only at k'
                    split at k'
                    · rename_i acc ea
                      split at k'
                      · rename_i hl
                        have hLL : m6[st.length]? = some Dl := ((g2.trans g5).trans g6).at hL
                        obtain ⟨b7, us, hb7, h7, h8⟩ := S6.lst ea
                        rw [hLL] at hb7
                        cases hb7
                        obtain ⟨c9, _, hc9⟩ := S6.has hLL
                        have g9 : Gr m6 H6 m6 (upd H6 Dl (.lst (us ++ [v6]))) := Gr.cell hc9
                        exact ⟨us, h7, by rw [h8.length]; exact LIM_lt hl, m6, _, (((g'.trans g2).trans g5).trans g6).trans g9, S6.put (c := .lst (acc ++ [y6])) hLL ⟨_, upd_same, RVs.gr g9 _ _ (h8.app (.one r6))⟩, k'⟩
                      · cases k'
                    · cases k'
                  | exn c fs s => rw [e6] at k'; cases k'
                  | bad => rw [e6] at k'; cases k'
                | false =>
                  rw [if_neg Bool.false_ne_true]
                  exact ⟨m5, s4, (g'.trans g2).trans g5, S5, k'⟩
              | exn c fs s => rw [e4] at k'; cases k'
              | bad => rw [e4] at k'; cases k'
          · cases k'
        · cases k'
      · have hn : p.items.drop i = [] := List.drop_eq_nil_of_le (Nat.le_of_not_lt hlt)
        rw [hn] at k'
        simp only [lcS] at k'
        split at k'
        · rename_i ok
          cases k'
          refine .inl ⟨(r1 i ms' H' sf (g0.trans g') S' ok).2 (Nat.le_of_not_lt hlt), k (.ref Dl) ms' H' (g0.trans g') S' ?_⟩
          simp only [RV]
          exact ⟨Dl, rfl, hL⟩
        · cases k'
    · exact k.elim
def tYes' : T := fun _ st => .ok true st
theorem ts_nil : PTs X [] (tT G W tYes') := ⟨fun pins s σ H Q I ⟨ms, st, env, S, _, k⟩ => pts_nil.run pins s σ H Q I (k true ms H Gr.refl S rfl)⟩
theorem ts_one {c : Expr} {tc : T} (h : PT X c (tT G W tc)) : PTs X [c] (tT G W tc) := pts_one h
theorem e_lc {elt tg iter : Expr} {ifs : List Expr} {scope : Scope} {own : List (Str × Nat)} {pos : Pos} {it : Sl → M Its} {t : Tg} {tc : T} {fe : E} (hc : X.calm = true) (hN : X.N.Nodup) (hi : PI X tg iter (tI G W it)) (ok : BlkOk X.N X.env.scope scope own)
    (hg : ∀ (s : Shared) (H : Hp) (C : Addr) (cl : List (Str × Addr)) (fp : List Addr), PG (X.blk s H scope (compEnvC scope cl C X.env) fp) tg (Tg.tg G.K t)) (ht : ∀ (s : Shared) (H : Hp) (C : Addr) (cl : List (Str × Addr)) (fp : List Addr), PTs (X.blk s H scope (compEnvC scope cl C X.env) fp) ifs (tT G W0 tc))
    (he : ∀ (s : Shared) (H : Hp) (C : Addr) (cl : List (Str × Addr)) (fp : List Addr), PE (X.blk s H scope (compEnvC scope cl C X.env) fp) elt (tE G W0 fe)) (hv : ∀ i ∈ Tg.names t, i ∈ own.map (·.2) := by decide) (hs : ∀ x, foldedSetIterable iter X.env x = pure x := by intro _; rfl) :
    PE X (.ListComp elt [⟨tg, iter, ifs, 0⟩] scope pos) (tE G W (eLc (own.map (·.2)) it t tc fe)) :=
  PE_weak (pe_lc hc hN hi ok hg ht he hs) fun σ H Q h => lc_tLc hv h
theorem s_setLc {i : Nat} {y : Str} {py : Pos} {elt tg iter : Expr} {ifs : List Expr} {scope : Scope} {own : List (Str × Nat)} {pos spos : Pos} {it : Sl → M Its} {t : Tg} {tc : T} {fe : E} (hc : X.calm = true) (hN : X.N.Nodup) (hi : PI X tg iter (tI G W it)) (ok : BlkOk X.N X.env.scope scope own)
    (hsw : swapsWith (.ListComp elt [⟨tg, iter, ifs, 0⟩] scope pos) (some (.Name y py)) spos.line X.env = pure true)
    (hg : ∀ (s : Shared) (H : Hp) (C : Addr) (cl : List (Str × Addr)) (fp : List Addr), PG (X.blk s H scope (compEnvC scope cl C X.env) fp) tg (Tg.tg G.K t)) (ht : ∀ (s : Shared) (H : Hp) (C : Addr) (cl : List (Str × Addr)) (fp : List Addr), PTs (X.blk s H scope (compEnvC scope cl C X.env) fp) ifs (tT G W0 tc))
    (he : ∀ (s : Shared) (H : Hp) (C : Addr) (cl : List (Str × Addr)) (fp : List Addr), PE (X.blk s H scope (compEnvC scope cl C X.env) fp) elt (tE G W0 fe)) (hv : ∀ i ∈ Tg.names t, i ∈ own.map (·.2) := by decide) (hy : X.N[i]? = some y := by rfl) (hyl : X.env.scope.names.lookup y = some .local := by rfl) (hs : ∀ x, foldedSetIterable iter X.env x = pure x := by intro _; rfl) :
    PS X (.Assign [.Name y py] (.ListComp elt [⟨tg, iter, ifs, 0⟩] scope pos) spos) (tS G W (sAsg (.name i) (eLc (own.map (·.2)) it t tc fe))) :=
  PS_weak (ps_setLc hc hN hy hyl hsw hi ok hg ht he hs) fun K σ H h => by
    have q := asg_fin h
    simp only [Tg.tg] at q
    exact lc_tLc hv q

/-! ### defs -/
def Out.fin : Out → Res D
  | .nx _ s => .ok .non s
  | .rt d s => .ok d s
  | .exn c fs _ s => .exn c fs s
  | _ => .bad
def fnS (n m : Nat) (body : Sm) : F := fun ds st => if ds.length = n then (body (ds.map some ++ List.replicate (m - n) none) st).fin else .bad
theorem fn_ok {P : Program} {w : World} {mg : Str → Option Value} {base : Heap} {x qual : Str} {st : Stmt} {f : Addr} {fd : FuncData} {N ps : List Str} {k : Nat} {body : Sm} (T : Fun G.K x qual st f fd) (S : FnScope N ps (defScope st))
    (hb : ∀ (cdv : Value) (A : Around) (outer : List Env) (s : Shared) (H : Hp) (E : XK), Room k (A.deeper (envOfC qual (defScope st) s.heap.objs.size f cdv)) →
      PSs (cxOf (L2.CX P w) P w G.K mg base N qual (defScope st) f cdv A outer s H E) (defBody st) (tS G (fun cls d _ H => E cls d H) body)) : FnOk P w G.K mg base (L2.CX P w) (k + 1) f fd ps (spF G (fnS ps.length N.length body)) := by
  have hlen : ∀ vs H Q E, spF G (fnS ps.length N.length body) vs H Q E → vs.length = ps.length := by
    rintro vs H Q E ⟨ms, st, ds, S1, r, q⟩
    unfold fnS at q
    split at q
    · rename_i hl
      rw [r.length, hl]
    · exact q.elim
  refine T.okX S hlen fun cdv A outer s H vs Q E hr h => ⟨_, hb cdv A outer s H E hr, ?_⟩
  have hl := hlen vs H Q E h
  obtain ⟨ms, st1, ds, S1, r, q⟩ := h
  have hl2 : ds.length = ps.length := by rw [← r.length]; exact hl
  unfold fnS at q
  rw [if_pos hl2] at q
  refine ⟨ms, st1, ds.map some ++ List.replicate (N.length - ps.length) none, S1, ?_, ?_⟩
  · unfold L2.start
    rw [hl]
    exact RE.start _ r
  · cases e : body (ds.map some ++ List.replicate (N.length - ps.length) none) st1 with
    | nx e1 s1 =>
      rw [e] at q
      exact fun σ' m1 H1 g1 S1 _ => q .non m1 H1 g1 S1 (by simp only [RV])
    | rt d s1 =>
      rw [e] at q
      exact q
    | exn c fs e1 s1 =>
      rw [e] at q
      exact fun od σ' m1 H1 g1 S1 _ x1 => q od m1 H1 g1 S1 x1
    | bk e1 s1 => rw [e] at q; exact q.elim
    | ct e1 s1 => rw [e] at q; exact q.elim
    | bad => rw [e] at q; exact q.elim
end
end LF

set_option Elab.async false
set_option linter.all false
set_option maxRecDepth 100000
set_option maxHeartbeats 4000000
/-! The layer: == and != by an own __eq__. -/
namespace LF
open PySem PySem.Spec PyProof.Rows L2
section
open PySem.W Builtin
variable {prog : Program} {w : World} {A : Around} {E : Value → Shared → Prop} {s : Shared} {K : PySem.W.Frag} {x C f : Addr} {ox : Obj} {od : Option Obj} {b tb : Value}
theorem objNe_own {Q : Fin → Shared → Prop} (hu : A.units < cLine) (X : K.In s.heap) (I : PySem.W.InstAt s.heap x ox C od) (hs : PySem.W.findIn K (.ref C) "__eq__" = some (some (.ref f))) (hf : PySem.W.isFn K (.ref f) = true)
    (h : wpAny (model prog w) A (call (.ref f) [.ref x, b]) (fun v s' => ∃ k, v = .bool k ∧ Q (.done (.ret (.bool (!k)))) s') E s) : wpAny (model prog w) A (Builtin.«object.__ne__» ⟨[.ref x, b], []⟩) Q E s := by
  unfold Builtin.«object.__ne__»
  repeat (first
    | with_reducible refine wpAny_cRoomFor hu ?_
    | (refine wpAny_bind (m := callSpecialIfBound? (.ref x) (Str.ofString "__eq__") [b])
        (PySem.W.ifBound_K X I hs hf (wpAny_mono h (fun r s' hr => by
          obtain ⟨k, rfl, hq⟩ := hr
          repeat (first | exact hq | exact wpAny_pure hq | exact wpAny_truthy_bool hq | (refine wpAny_bind (m := truthy (.bool _)) (wpAny_truthy_bool ?_)) | wp_step)) fun _ _ e => e)))
    | wp_step)
theorem ifBound_ne {Q : Option Value → Shared → Prop} (X : K.In s.heap) (I : PySem.W.InstAt s.heap x ox C od) (hs : PySem.W.findIn K (.ref C) "__ne__" = some (some (.builtin "object.__ne__")))
    (h : wpAny (model prog w) A (call (.builtin "object.__ne__") (.ref x :: [b])) (fun v => Q (some v)) E s) : wpAny (model prog w) A (callSpecialIfBound? (.ref x) "__ne__" [b]) Q E s := by
  simp only [callSpecialIfBound?, bindSpecialIfBound?]
  refine wpAny_holding (wpAny_bind (wpAny_bind (wpAny_bind (I.type.here ((PySem.W.looks_findIn X hs).here ?_)))))
  refine wpAny_bind (wpAny_askSetting (wpAny_ite ?_))
  have fin : wpAny (model prog w) A (call (.builtin "object.__ne__") ([.ref x] ++ [b]) >>= fun v => pure (some v)) Q E s := wpAny_bind (wpAny_mono h (fun v s' h' => wpAny_pure h') fun _ _ h' => h')
  simp only [F.cmp_object.ne.bind]
  split
  · exact wpAny_bind (wpAny_pure (wpAny_pure fin))
  · exact wpAny_tryCatch (wpAny_bind (wpAny_pure (wpAny_pure fin)))
theorem tryNe_own {Q : Option Value → Shared → Prop} (hu : A.units + 1 < cLine) (X : K.In s.heap) (I : PySem.W.InstAt s.heap x ox C od) (hn : PySem.W.findIn K (.ref C) "__ne__" = some (some (.builtin "object.__ne__"))) (hs : PySem.W.findIn K (.ref C) "__eq__" = some (some (.ref f)))
    (hf : PySem.W.isFn K (.ref f) = true) (hm : PySem.W.mroIn K C (.type "object") = some true)
    (h : wpAny (model prog w) A.in1 (call (.ref f) [.ref x, b]) (fun v s' => ∃ k, v = .bool k ∧ Q (some (.bool (!k))) s') E s) : wpAny (model prog w) A (tryCompare (.ref x) "__ne__" b) Q E s := by
  simp only [tryCompare]
  have sub : PySem.W.Looks (model prog w) s.heap (isInstance (.ref x) (.type "object")) true := I.type.andThen (PySem.W.looks_mroIn X hm)
  refine wpAny_bind (ifBound_ne X I hn (wpAny_call (codeAny_call_builtin F.cmp_object.ne.plain F.cmpEntry_ne
    (@PySem.W.check_slot (model prog w) _ _ s "object.__ne__" "object" "__ne__" (.ref x) [b] [] _ F.cmpKind_ne F.cmpSplit_ne sub (F.cmpArgs_ne _ _)
      (objNe_own (A := A.in1) hu X I hs hf (wpAny_mono h (fun v s' hv => ?_) fun _ _ e => e))))))
  obtain ⟨k, rfl, hq⟩ := hv
  first | exact ⟨k, rfl, wpAny_pure hq⟩ | exact ⟨k, rfl, wpAny_pure (wpAny_pure hq)⟩ | exact ⟨k, rfl, hq⟩
theorem ne_own {Q : Value → Shared → Prop} (hu : A.units + 1 < cLine) (X : K.In s.heap) (I : PySem.W.InstAt s.heap x ox C od) (hb : PySem.W.Looks (model prog w) s.heap (typeOf b) tb) (hnf : PySem.W.notFirst K C tb = true)
    (hn : PySem.W.findIn K (.ref C) "__ne__" = some (some (.builtin "object.__ne__"))) (hs : PySem.W.findIn K (.ref C) "__eq__" = some (some (.ref f))) (hf : PySem.W.isFn K (.ref f) = true) (hm : PySem.W.mroIn K C (.type "object") = some true)
    (h : wpAny (model prog w) A.in1 (call (.ref f) [.ref x, b]) (fun v s' => ∃ k, v = .bool k ∧ Q (.bool (!k)) s') E s) : wpAny (model prog w) A (richCompare .NotEq (.ref x) b) Q E s := by
  have one : wpAny (model prog w) A (tryCompare (.ref x) "__ne__" b) (fun r s' => ∃ v, r = some v ∧ Q v s') E s :=
    tryNe_own hu X I hn hs hf hm (wpAny_mono h (fun v s' ⟨k, e, q⟩ => ⟨k, e, _, rfl, q⟩) fun _ _ e => e)
  unfold richCompare
  simp only [oneThing_ref]
  refine wpAny_holding (wpAny_bind (wpAny_cRoomFor (Nat.lt_of_succ_lt hu) ?_))
  rw [cmpInfo_NotEq]
  dsimp only
  refine wpAny_bind (I.type.here (wpAny_bind (hb.here ?_)))
  split
  · rename_i q
    have e : PySem.W.subIn K tb (.ref C) = some false := by
      rcases Bool.or_eq_true_iff.mp hnf with e | e
      · rw [beq_iff_eq.mp e] at q; simp at q
      · exact beq_iff_eq.mp e
    refine wpAny_bind ((PySem.W.looks_subIn X e).here ?_)
    simp only [Bool.false_eq_true, if_false]
    refine wpAny_bind (wpAny_mono one (fun r s' z => ?_) fun _ _ e => e)
    obtain ⟨v, rfl, hq⟩ := z
    exact wpAny_pure hq
  · refine wpAny_bind (wpAny_pure ?_)
    simp only [Bool.false_eq_true, if_false]
    refine wpAny_bind (wpAny_mono one (fun r s' z => ?_) fun _ _ e => e)
    obtain ⟨v, rfl, hq⟩ := z
    exact wpAny_pure hq
end
section
variable {G : Gx} {W : WX} {X : Cx} {σ : L2.St} {H : Hp}
/-- what is known of a class with an own __eq__, and of the def -/
structure OwnEq (X : Cx) (G : Gx) (c : Nat) (g : F) (k : Nat) : Prop where
  ex : ∃ (f : Addr) (fd : FuncData) (ps : List Str), FnOk X.prog X.w X.K X.mg X.base (L2.CX X.prog X.w) k f fd ps (spF G g) ∧ Binds X.K fd ps [] ∧ PySem.W.findIn X.K (.ref (G.tb c)) "__eq__" = some (some (.ref f)) ∧ PySem.W.isFn X.K (.ref f) = true
  ne : PySem.W.findIn X.K (.ref (G.tb c)) "__ne__" = some (some (.builtin "object.__ne__"))
  mro : PySem.W.mroIn X.K (G.tb c) (.type "object") = some true
/-- x == y, x an instance of the class c, g the own __eq__ -/
def rOwn (G : Gx) (neg : Bool) (c : Nat) (g : F) (ok : Kd → Bool) : R2 := fun v u H Q => ∃ ms st x y i fs k, SRel G ms st H ∧ RV G ms H x v ∧ RV G ms H y u ∧ x = .ref i ∧ st[i]? = some (.ins c fs) ∧ kind y st = some k ∧ ok k = true ∧
  Okk (RV G) G (fun _ _ _ => False) (fun z H' => ∃ b, z = .bl b ∧ Q (.bl (if neg then !b else b)) H') ms H (g [x, y] st)
theorem run_own {k : Nat} {g : F} {pins : List (Addr × Obj)} {s : Shared} {A : Around} {a : Addr} {v2 : V} {u : Value} {Q : VK} {f : Addr} {fd : FuncData} {ps : List Str} (T : FnOk X.prog X.w X.K X.mg X.base (L2.CX X.prog X.w) k f fd ps (spF G g)) (hb : Binds X.K fd ps []) (hr : Room k A) (hfr : A.frames = X.A.frames)
    (I : Inv X pins σ H s) (ru : RelV v2 u) (h : spF G g [.ref a, v2] H Q (fun _ _ _ => False)) : wpAny (model X.prog X.w) A (PySem.call (.ref f) [.ref a, u]) (EP X pins σ Q) X.xe s := by
  have e0 : Env0 X.prog X.w X.K X.mg X.base A X.stack s H := by
    have e := I.env0
    exact ⟨by rw [hfr]; exact e.frames, e.mod, e.bs, e.bsz, e.funs, e.frf, e.hok, e.bare⟩
  have hl := T.len _ _ _ _ h
  have r2 : Vals [V.ref a, v2] [Value.ref a, u] := .cons rfl (.cons ru .nil)
  refine wpAny_call (codeAny_mono (T.run A X.stack s H ⟨[.ref a, u], []⟩ [.ref a, u] [.ref a, v2] _ _ hr e0 (by
    have := hb s [.ref a, u] I.kIn (by simpa using hl)
    simpa using this) r2 h) fun r s' hq => ?_)
  cases r with
  | error e => exact passL pins σ H s e s' I hq
  | ok fl =>
    cases fl with
    | ret w => exact I.after hq
    | next => exact False.elim hq
    | brk => exact False.elim hq
    | cont => exact False.elim hq
theorem own_pre {c : Nat} {g : F} {ok : Kd → Bool} {neg : Bool} {v u : V} {Q : VK} (hK : X.K = G.K) (hok : ∀ k, ok k = true → ∃ t, KdT G k t ∧ PySem.W.notFirst G.K (G.tb c) t = true) {pins : List (Addr × Obj)} {s : Shared} {uv : Value} (I : Inv X pins σ H s) (ru : RelV u uv)
    (h : rOwn G neg c g ok v u H Q) : ∃ (a : Addr) (ox : Obj) (od : Option Obj) (tb : Value), v = .ref a ∧ PySem.W.InstAt s.heap a ox (G.tb c) od ∧ PySem.W.Looks (model X.prog X.w) s.heap (typeOf uv) tb ∧ PySem.W.notFirst X.K (G.tb c) tb = true ∧
      spF G g [.ref a, u] H (fun z H' => ∃ b, z = .bl b ∧ Q (.bl (if neg then !b else b)) H') (fun _ _ _ => False) := by
  obtain ⟨ms, st, x, y, i, fs, k, S, rx, ry, rfl, ei, ek, ho, q⟩ := h
  have rx0 := rx
  obtain ⟨a, dx, gs, rfl, _, h1, _⟩ := S.ins ei rx
  obtain ⟨mA, J, _⟩ := ins_get I.hok h1
  obtain ⟨od, J, _⟩ := J.look
  obtain ⟨t, ht, hn⟩ := hok k ho
  obtain ⟨P, Z, p, _⟩ := kit_of I ru (by rw [hK]; exact kd_ok S ry ek ht)
  exact ⟨a, _, _, t, rfl, J, Z.ty _ _ I.kIn p, by rw [hK]; exact hn, ms, st, [.ref i, y], S, by
    simp only [RVs]
    exact ⟨_, _, rfl, rx0, _, _, rfl, ry, rfl⟩, q⟩
theorem op_own {k c : Nat} {g : F} {ok : Kd → Bool} (hK : X.K = G.K) (T : OwnEq X G c g k) (hr : Room k X.A) (hok : ∀ k, ok k = true → ∃ t, KdT G k t ∧ PySem.W.notFirst G.K (G.tb c) t = true) : OpR X (compareOp .Eq) (rOwn G false c g ok) := by
  intro pins s σ H v u vv uv Q I rv ru h
  obtain ⟨a, ox, od, tb, rfl, J, L, hn, sp⟩ := own_pre hK hok I ru h
  cases rv
  obtain ⟨f, fd, ps, FO, hb, hs, hf⟩ := T.ex
  obtain ⟨m, hF⟩ := I.fr
  show wpAny (model X.prog X.w) X.A (richCompare .Eq (.ref a) uv) (EP X pins σ Q) X.xe s
  refine PySem.W.cmp_K (op := .Eq) hr.units0 hF I.ok.mod.kin J L hn hs hf ?_
  refine wpAny_mono (run_own FO hb hr rfl I ru sp) (fun w s' ⟨z, H', I', rz, b, ez, q⟩ => ?_) fun _ _ e => e
  subst ez
  cases rz
  exact ⟨.bl b, H', I', rfl, q⟩
theorem op_ownN {k c : Nat} {g : F} {ok : Kd → Bool} (hK : X.K = G.K) (T : OwnEq X G c g k) (hr : Room (k + 1) X.A) (hok : ∀ k, ok k = true → ∃ t, KdT G k t ∧ PySem.W.notFirst G.K (G.tb c) t = true) : OpR X (compareOp .NotEq) (rOwn G true c g ok) := by
  intro pins s σ H v u vv uv Q I rv ru h
  obtain ⟨a, ox, od, tb, rfl, J, L, hn, sp⟩ := own_pre hK hok I ru h
  cases rv
  obtain ⟨f, fd, ps, FO, hb, hs, hf⟩ := T.ex
  show wpAny (model X.prog X.w) X.A (richCompare .NotEq (.ref a) uv) (EP X pins σ Q) X.xe s
  have hu := hr.units
  refine ne_own (by omega) I.kIn J L hn T.ne hs hf T.mro ?_
  refine wpAny_mono (run_own (A := X.A.in1) FO hb hr.in1 rfl I ru sp) (fun w s' ⟨z, H', I', rz, b, ez, q⟩ => ?_) fun _ _ e => e
  subst ez
  cases rz
  exact ⟨b, rfl, .bl (!b), H', I', rfl, q⟩
/-- x == y where x may be an instance of the class c with an own __eq__ g -/
def eEqX (neg : Bool) (c : Nat) (g : F) (ok : Kd → Bool) (a b : E) : E := fun env st => (a env st).bind fun x s => (b env s).bind fun y s => match x with
  | .ref i => match s[i]? with
    | some (.ins c' _) => if c' = c then match kind y s with
        | some k => if ok k = true then match g [x, y] s with
            | .ok (.bl r) s => .ok (.bl (if neg then !r else r)) s
            | _ => .bad
          else .bad
        | none => .bad
      else .bad
    | _ => ofO (if neg then opNe x y s else opEq x y s)
  | _ => ofO (if neg then opNe x y s else opEq x y s)
theorem eqx_r {neg : Bool} {c : Nat} {g : F} {ok : Kd → Bool} {fa fb : E} {Q : VK} {r : R2} (hd : ∀ v u H Q, rO G (if neg then opNe else opEq) v u H Q → r v u H Q) (ho : ∀ v u H Q, rOwn G neg c g ok v u H Q → r v u H Q) (h : tE G W (eEqX neg c g ok fa fb) σ H Q) : tOp r (tE G W fa) (tE G W fb) σ H Q := by
  refine tX_mono (tX_bin h) fun v H1 h1 => tX_mono h1 fun u H2 ⟨ms, st, x, y, S, r1, r2, k⟩ => ?_
  have data : Okk (RV G) G (fun c d H => W c d σ H) Q ms H2 (ofO (if neg then opNe x y st else opEq x y st)) → r v u H2 Q := fun k => hd _ _ _ _ ⟨ms, st, x, y, S, r1, r2, by
    cases neg with
    | true => exact k.ofO
    | false => exact k.ofO⟩
  split at k
  · rename_i i
    split at k
    · rename_i c' fs e
      split at k
      · rename_i hc
        subst hc
        split at k
        · rename_i kd ek
          split at k
          · rename_i hk
            refine ho _ _ _ _ ⟨ms, st, .ref i, y, i, fs, kd, S, r1, r2, rfl, e, ek, hk, ?_⟩
            split at k
            · rename_i b s' eg
              rw [eg]
              exact fun z m1 H1 g1 S1 rz => by
                simp only [RV] at rz
                exact ⟨b, rz, k _ m1 H1 g1 S1 (by simp only [RV])⟩
            · exact k.elim
          · exact k.elim
        · exact k.elim
      · exact k.elim
    · exact data k
  · exact data k
theorem o_eqX {k c : Nat} {g : F} {ok : Kd → Bool} (hK : X.K = G.K) (T : OwnEq X G c g k) (hr : Room k X.A) (hok : ∀ k, ok k = true → ∃ t, KdT G k t ∧ PySem.W.notFirst G.K (G.tb c) t = true) : OpR X (compareOp .Eq) (fun v u H Q => rO G opEq v u H Q ∨ rOwn G false c g ok v u H Q) :=
  (o_eq hK hr.units).or (op_own hK T hr hok)
theorem o_neX {k c : Nat} {g : F} {ok : Kd → Bool} (hK : X.K = G.K) (T : OwnEq X G c g k) (hr : Room (k + 1) X.A) (hok : ∀ k, ok k = true → ∃ t, KdT G k t ∧ PySem.W.notFirst G.K (G.tb c) t = true) : OpR X (compareOp .NotEq) (fun v u H Q => rO G opNe v u H Q ∨ rOwn G true c g ok v u H Q) :=
  (o_ne hK hr.units).or (op_ownN hK T hr hok)
theorem e_eqX {k j c : Nat} {g : F} {ok : Kd → Bool} {a b : Expr} {pos : Pos} {fa fb : E} (hK : X.K = G.K) (T : OwnEq X G c g j) (hr : Room k X.A) (hok : ∀ k, ok k = true → ∃ t, KdT G k t ∧ PySem.W.notFirst G.K (G.tb c) t = true) (ha : PE X a (tE G W fa)) (hb : PE X b (tE G W fb)) (hj : j ≤ k := by decide) : PE X (.Compare a [.Eq] [b] pos) (tE G W (eEqX false c g ok fa fb)) :=
  PE_weak (pe_cmpR (o_eqX hK T (hr.mono hj) hok) ha hb (nomark _)) fun σ H Q h => eqx_r (neg := false) (fun _ _ _ _ q => .inl q) (fun _ _ _ _ q => .inr q) h
theorem e_neX {k j c : Nat} {g : F} {ok : Kd → Bool} {a b : Expr} {pos : Pos} {fa fb : E} (hK : X.K = G.K) (T : OwnEq X G c g j) (hr : Room k X.A) (hok : ∀ k, ok k = true → ∃ t, KdT G k t ∧ PySem.W.notFirst G.K (G.tb c) t = true) (ha : PE X a (tE G W fa)) (hb : PE X b (tE G W fb)) (hj : j + 1 ≤ k := by decide) : PE X (.Compare a [.NotEq] [b] pos) (tE G W (eEqX true c g ok fa fb)) :=
  PE_weak (pe_cmpR (o_neX hK T (hr.mono hj) hok) ha hb (nomark _)) fun σ H Q h => eqx_r (neg := true) (fun _ _ _ _ q => .inl q) (fun _ _ _ _ q => .inr q) h
theorem t_eqX {k j c : Nat} {g : F} {ok : Kd → Bool} {a b : Expr} {pos : Pos} {fa fb : E} (hK : X.K = G.K) (T : OwnEq X G c g j) (hr : Room k X.A) (hok : ∀ k, ok k = true → ∃ t, KdT G k t ∧ PySem.W.notFirst G.K (G.tb c) t = true) (ha : PE X a (tE G W fa)) (hb : PE X b (tE G W fb)) (hj : j ≤ k := by decide) : PT X (.Compare a [.Eq] [b] pos) (tT G W (asB (eEqX false c g ok fa fb))) :=
  PT_weak (pt_cmpR (o_eqX hK T (hr.mono hj) hok) ha hb (nomark _)) fun σ H Q h => tE_tTest (fun _ _ _ h => eqx_r (neg := false) (fun _ _ _ _ q => .inl q) (fun _ _ _ _ q => .inr q) h) h
theorem t_neX {k j c : Nat} {g : F} {ok : Kd → Bool} {a b : Expr} {pos : Pos} {fa fb : E} (hK : X.K = G.K) (T : OwnEq X G c g j) (hr : Room k X.A) (hok : ∀ k, ok k = true → ∃ t, KdT G k t ∧ PySem.W.notFirst G.K (G.tb c) t = true) (ha : PE X a (tE G W fa)) (hb : PE X b (tE G W fb)) (hj : j + 1 ≤ k := by decide) : PT X (.Compare a [.NotEq] [b] pos) (tT G W (asB (eEqX true c g ok fa fb))) :=
  PT_weak (pt_cmpR (o_neX hK T (hr.mono hj) hok) ha hb (nomark _)) fun σ H Q h => tE_tTest (fun _ _ _ h => eqx_r (neg := true) (fun _ _ _ _ q => .inl q) (fun _ _ _ _ q => .inr q) h) h
end
end LF

set_option Elab.async false
set_option linter.all false
set_option maxRecDepth 100000
set_option maxHeartbeats 4000000
/-! The layer: a dict of the module, asked. -/
namespace LF
open PySem PySem.Spec PyProof.Rows L2
section
variable {G : Gx} {W : WX} {X : Cx} {σ : L2.St} {H : Hp}
theorem e_kget {x : Str} {a : Addr} {es : Array DictEntry} {n : Nat} {p apos cpos : Pos} {e : Expr} {fe : E} {op : D → O D} (hg : Gl X x) (hm : X.mg x = some (.ref a)) (hl : X.K.lookup a = some ⟨.type "dict", none, .dict es n, #[]⟩) (hk : PySem.W.KeysLit X.w.params es.toList) (hs : (a == sysModules) = false)
    (he : PE X e (tE G W fe)) (m : M1 X (.Name x p) "get" apos e cpos) (hop : ∀ (y : D) (st : Sto) (d : D × Sto), op y st = some d → ∃ k, y = .str k ∧ ∃ r, PySem.W.nsIn X.K a k = some r ∧ ∃ v, RelV v (r.getD .none) ∧ (∀ ms H, RV G ms H d.1 v) ∧ d.2 = st)
    (hdb : (x == ("__debug__" : Str)) = false := by decide) :
    PE X (.Call (.Attribute (.Name x p) "get" apos) [e] [] cpos) (tE G W (eUn op fe)) := by
  refine ⟨fun pins s σ H Q I h => ?_⟩
  refine wpAny_Call_method m.base m.few m.line PySem.F.plainAttrs_dict PySem.F.slot_dict_get PySem.F.type_dict_get (ld_glob I hg hm ?_ hdb)
  have ha : s.heap.get? a = some ⟨.type "dict", none, .dict es n, #[]⟩ := I.kIn a _ hl
  refine ⟨⟨_, ha, rfl⟩, fun b e => by cases e; exact ⟨_, ha, rfl⟩, ?_⟩
  rw [m.trees]
  refine Calls.callWith_builtin rfl (Calls.evalArgs_plain (Calls.spliced_cons (thn (he.run pins s σ H _ I (tX_bind h)) fun iv s2 ⟨y, H2, I2, ry, ms, st, env, d, S, r, r1, k⟩ => Calls.spliced_nil ?_)))
  have k : Okk (RV G) G (fun c d H => W c d σ H) Q ms H2 (ofO (op d st)) := k
  cases eo : op d st with
  | none => rw [eo] at k; exact k.elim
  | some d2 =>
    obtain ⟨z, rfl, r, hr, v, rv, rvd, e2⟩ := hop d st d2 eo
    obtain ⟨d1, s1⟩ := d2
    simp only at e2 rvd
    subst e2
    simp only [RV] at r1
    subst r1
    obtain ⟨t, rfl⟩ := ry
    have ha2 : s2.heap.get? a = some ⟨.type "dict", none, .dict es n, #[]⟩ := I2.kIn a _ hl
    have hm2 := PySem.W.mapOf_K (prog := X.prog) (w := X.w) I2.kIn hl hk
    refine call_meetsIn PySem.F.slot_dict_get ⟨_, ha2, rfl⟩ PySem.F.entry_dict_get (PySem.F.args_dict_get_2 _ _) (meets_dict_get (strKind X.prog X.w) a (strKind_is X.prog X.w z t) hs) ⟨_, hm2, ?_⟩
    rw [eo] at k
    have q := k v ms H2 Gr.refl S (rvd ms H2)
    show EP X pins σ Q _ _
    rw [PySem.W.find_K hl hr]
    exact ⟨v, H2, I2.tok _, rv, q⟩
end
end LF

set_option Elab.async false
set_option linter.all false
set_option maxRecDepth 100000
set_option maxHeartbeats 4000000
/-! exceptions whose __init__ says super().__init__(..) -/
namespace LF
open PySem PySem.Spec PyProof.Rows L2
section
open PySem.W PySem.Calls
variable {prog : Program} {w : World} {A : Around} {E : Value → Shared → Prop} {h : Heap} {g : Array GenState} {d : Drawn} {t : Nat} {os : OsState}
variable {nm q : Str} {C N : Addr} {bs bm : List Value} {hdct : Bool} {sn : List Str} {sub : List Value} {ab : Bool} {col : Option Bool} {dd : Option Addr} {k0 k1 k2 k3 k5 : Option Value}
/-- ValueError's __init__, bound to the object, called -/
theorem call_mwVE {u e t0 : Addr} {rest : List Value} {Q : Value → Shared → Prop}
    (hC : h.get? C = some (excClassObj nm q C N bs bm hdct sn sub ab col dd k0 k1 k2 k3 k5 "ValueError.__new__")) (he : h.get? e = some (HandSPX.excO C t0)) (hu : h.get? u = some (kxs_mw "ValueError.__init__" e)) (hrest : rest.length ≤ sizeLine)
    (hq : ∀ h' t1, (∀ b o, b ≠ e → h.get? b = some o → h'.get? b = some o) → h'.get? e = some (HandSPX.excO C t1) → Q .none ⟨h', g, d, t, os⟩) :
    wpAny (model prog w) A (call (.ref u) rest) Q E ⟨h, g, d, t, os⟩ := by
  refine wpAny_call (codeAny_of_tree ?_)
  show wpAny _ A.in1 (callAny (.ref u) ⟨rest, []⟩) _ _ _
  simp only [callAny]
  refine wpAny_bind (wpAny_load hu ?_)
  simp only [kxs_mw, show (Value.type "method-wrapper" == Value.type "method" || Value.type "method-wrapper" == Value.type "builtin_function_or_method" || Value.type "method-wrapper" == Value.type "method-wrapper") = true by decide, if_true]
  refine KFB.if_so (by decide) ?_
  refine wpAny_bind (check_bound_init F.excBase_ValueError.toExcCallFacts hC he rfl ?_)
  refine wpAny_bind (wpAny_pure (wpAny_pure ?_))
  refine ⟨plainId_quiet F.excBase_ValueError.init.plain _, codeAny_builtin F.excBase_ValueError.initEntry ?_⟩
  rw [Around.under_plainId F.excBase_ValueError.init.plain _]
  wp_walk
  refine hq _ h.objs.size (fun b o hb ho => ?_) ?_
  · rw [Heap.get?_update_other _ _ (Ne.symm hb)]
    exact Heap.get?_push_of_some _ ho
  · rw [Heap.get?_update_self _ (Heap.get?_push_of_some _ he) rfl]
    rfl
end
section
open PySem.W PySem.Calls
variable {X : Cx} {pins : List (Addr × Obj)} {σ : L2.St} {H : Hp} {s : Shared}
/-- what the frame of such an __init__ has -/
structure SupF (X : Cx) (C a cc f : Addr) (i : Nat) (sn : Str) : Prop where
  ks : X.env.kindOf "super" = some .globalImplicit
  kc : X.env.kindOf "__class__" = some .free
  cell : X.env.cells.lookup ("__class__" : Str) = some cc
  cellK : ∃ c d sl, X.K.lookup cc = some ⟨c, d, .cell (some (.ref C)), sl⟩
  fn : X.env.func = some f
  fnK : ∃ (o : Obj) (fd : FuncData) (ar : Arg), X.K.lookup f = some o ∧ o.data = .func fd ∧ (fd.params.posonlyargs ++ fd.params.args).head? = some ar ∧ ar.arg = sn
  kl : X.env.kindOf sn = some .local
  at_i : X.N[i]? = some sn
  code : ∃ (cda : Addr) (o : Obj) (vs : Array Value) (file : Str) (tf : Tok), X.env.code = .ref cda ∧ X.K.lookup cda = some o ∧ o.data = .fields vs ∧ vs[2]? = some (.str file tf) ∧ ((X.prog.main.file : Str) == file) = true
  top : (X.prog.main.scope.names.lookup ("super" : Str)).isSome = false
  mg : X.mg "super" = none
  boot : bootBuiltins "super" = some (.type "super")
  along : ∃ cd, clsIn X.K C = some cd ∧ alongIn X.K "__init__" ((cd.mro.dropWhile (· != .ref C)).drop 1) = some (some (.builtin "ValueError.__init__"))
  subC : mroIn X.K C (.ref C) = some true
  subV : subIn X.K (.ref C) (.type "ValueError") = some true
  opq : nsIn X.K cStatics "thirdparty.any" = some none
theorem at_super {C a cc f : Addr} {i : Nat} {sn : Str} {body : List Stmt} {e0 : Expr} {rest : List Expr} {ta : TA} {p0 p1 p2 p3 p4 : Pos} {Q : Flow → Shared → Prop} {pl : Sem Bool} (S : SupF X C a cc f i sn) (T : OexC X.K C) (I : Inv X pins σ H s) (e : H a = some (exo a C none)) (hσ : σ[i]? = some (some (.ref a)))
    (ha : PA X (e0 :: rest) ta) (hq : ta σ H fun vs H1 => vs.length ≤ 1000 ∧ H1 = H) (h : ∀ s', Inv X pins σ H s' → Q .next s')
    (he : eval (.Call (.Attribute (.Call (.Name "super" p0) [] [] p1) "__init__" p2) (e0 :: rest) [] p3) X.env = (do
      let ov ← attributeBase (.Call (.Name "super" p0) [] [] p1) "__init__" X.env (eval (.Call (.Name "super" p0) [] [] p1) X.env)
      standAt p2.atName
      let (f, first) ← holding [ov] (getMethod ov "__init__" pl)
      callWith p3 f first (backTo p3 (starEach (e0 :: rest) X.env)) []) := by rfl)
    (hs : swapsWith (.Call (.Attribute (.Call (.Name "super" p0) [] [] p1) "__init__" p2) (e0 :: rest) [] p3) none p4.line X.env = pure false := by rfl)
    (hse : starEach (e0 :: rest) X.env = (false, eval e0 X.env) :: starEach rest X.env := by rfl) (hpl : (backTo p3 (starEach rest X.env)).any (·.1) = false := by rfl) :
    _root_.PySem.wpAt (model X.prog X.w) X.A (.func body X.env) (exec (.Expr (.Call (.Attribute (.Call (.Name "super" p0) [] [] p1) "__init__" p2) (e0 :: rest) [] p3) p4) X.env) Q X.xe s := by
  obtain ⟨of, fd, ar, hf, hfd, hp, har⟩ := S.fnK
  obtain ⟨cda, oc, vs, file, tf, hco, hcc, hoc, hvs, hfile⟩ := S.code
  refine ks_wpAt_Expr_any (ks_wpAt_MethodCall (ks_wpAt_super_base S.ks S.kc (by decide) S.fn (I.kIn _ _ hf) hfd hp hco (I.kIn _ _ hcc) hoc hvs hfile S.top ?_) he) I.quiet hs
  obtain ⟨mb, b1, b2⟩ := I.mod.blt
  refine ks_loadName_global I.ok.kind S.ks (loadGlobal_builtin (by rw [I.ok.glob]; exact I.mod.glob.keeps I.bk) S.mg (by rw [I.ok.blt]; exact b1.keeps I.bk) ((b2 "super" (by decide)).trans S.boot) ⟨rfl, ?_⟩)
  obtain ⟨c1, d1, sl1, hcell⟩ := S.cellK
  refine wpAny_loadName_free I.ok.kind S.kc S.cell ⟨_, I.kIn _ _ hcell, rfl⟩ ?_
  obtain ⟨m, hn, hl⟩ := I.loc
  obtain ⟨u, ru, lk⟩ := hl i sn (.ref a) S.at_i hσ (.inl S.kl)
  obtain rfl : u = Value.ref a := ru
  have hv : m sn = some (Value.ref a) := by
    rcases lk with ⟨_, k⟩ | ⟨k, _⟩
    · exact k
    · rcases k with k | k <;> rw [S.kl] at k <;> cases k
  rw [har]
  refine wpAny_loadName_local I.ok.kind S.kl hn hv ?_
  obtain ⟨cd, hcd, hal⟩ := S.along
  obtain ⟨oD, hD1, hD2⟩ : ∃ oD, s.heap.get? C = some oD ∧ oD.data = .cls cd := by
    unfold clsIn at hcd
    split at hcd
    · rename_i c d cd' sl ho
      cases hcd
      exact ⟨_, I.kIn _ _ ho, rfl⟩
    · cases hcd
  obtain ⟨t1, hx⟩ := exo_at I.hok e
  refine ks_wpAny_isType_cls hD1 hD2 ⟨rfl, ?_⟩
  have hxC : a ≠ C := fun z => by
    rw [z, hD1] at hx
    cases hx
    cases hD2
  obtain ⟨hh, g, d, t, os⟩ := s
  refine ks_wpAny_call_super hD1 hD2 hx rfl (fun c z => by cases z) (looks_mroIn I.kIn S.subC) fun h1 e1 k1 => ?_
  have I1 : L2.Inv X pins σ H ⟨h1, g, d, t, os⟩ := I.kept (t' := t) k1
  have hx1 := k1 _ _ hx
  have ia : InstAt h1 a _ C none := ⟨hx1, rfl, rfl, trivial⟩
  have hI : Looks (model X.prog X.w) h1 (isInstance (.ref a) (.type "ValueError")) true := ia.type.andThen (looks_subIn I1.kIn S.subV)
  refine kxs_getMethod kxs_ValueError e1 (looks_opaque I1.kIn S.opq) (l₀ := cd.mro) (fun A Q E s k q => wpAny_bind ((looks_clsIn I1.kIn hcd) A _ E s k (wpAny_pure q))) rfl I1.kIn hal hI hxC rfl ?_
  have I2 : L2.Inv X pins σ H ⟨h1.push (kxs_mw "ValueError.__init__" a), g, d, t + 1, os⟩ := I1.kept (t' := t + 1) fun b o z => Heap.get?_push_of_some _ z
  have hmw : (h1.push (kxs_mw "ValueError.__init__" a)).get? h1.objs.size = some (kxs_mw "ValueError.__init__" a) := Heap.get?_push_at rfl rfl
  dsimp only
  have hun : H h1.objs.size = none := I1.hok.fresh (Nat.le_refl _)
  have hul : h1.objs.size ≠ X.env.locals := fun z => absurd I1.lt (by rw [← z]; exact Nat.lt_irrefl _)
  have huf : h1.objs.size ∉ X.fs := I1.nofs (Nat.le_refl _)
  have I3 : L2.Inv X ([(h1.objs.size, kxs_mw "ValueError.__init__" a)] ++ pins) σ H ⟨h1.push (kxs_mw "ValueError.__init__" a), g, d, t + 1, os⟩ := I2.pins_of fun p hp => by
    rcases List.mem_append.mp hp with hp | hp
    · rw [List.mem_singleton.mp hp]
      exact ⟨hmw, hun, hul, huf, fun v z => by cases z⟩
    · exact I2.pin p (List.mem_append_right _ hp)
  rw [hse]
  refine kxs_callWith (i := "ValueError.__init__") (x := a) (by show (false || (backTo p3 (starEach rest X.env)).any (·.1)) = false; rw [hpl]; rfl) ?_
  have run := ha.run p3 ([(h1.objs.size, kxs_mw "ValueError.__init__" a)] ++ pins) _ σ H _ I3 hq
  rw [hse] at run
  refine evalArgs_plain (thn run fun us s3 hh3 => ?_)
  obtain ⟨vs3, H1, J, r1, hlen, eH⟩ := hh3
  subst eH
  have pin := (J.pin (h1.objs.size, kxs_mw "ValueError.__init__" a) (List.mem_append_right _ (by simp))).1
  refine ⟨pin, ?_⟩
  obtain ⟨nm, q, N, bs, bm, sn', sub, ab, col, dd, k0, k1', k2, k3, k5, hC, hbm⟩ := T.cls
  obtain ⟨t3, hx3⟩ := exo_at J.hok e
  have hus : us.length ≤ sizeLine := by
    rw [← Paired.length r1, sizeLine_eq]
    omega
  obtain ⟨h3, g3, d3, tk3, os3⟩ := s3
  refine call_mwVE (J.kIn _ _ hC) hx3 pin hus fun h' t2 k hx' => ?_
  have J2 := J.write (t' := tk3) (x := a) (e := a) (o := exo a C none) (by rw [e]; exact True.intro) (.inl rfl) k ⟨_, hx'⟩ (exo_ok hx')
  have eu : upd H1 a (exo a C none) = H1 := by
    funext b
    by_cases hb : b = a
    · rw [hb, upd_same, e]
    · rw [upd_ne hb]
  rw [eu] at J2
  exact h _ (J2.pins_of fun p hp => J2.pin p (List.mem_append_right _ (List.mem_append_right _ hp)))
end
end LF

set_option Elab.async false
set_option linter.all false
set_option maxRecDepth 100000
set_option maxHeartbeats 4000000
/-! exceptions: the __init__ that says super().__init__(..), and C(..) in a raise -/
namespace LF
open PySem PySem.Spec PyProof.Rows L2
section
open PySem.W PySem.Calls
variable {P : Program} {w : World} {K : PySem.W.Frag} {mg : Str → Option Value} {base : Heap}
/-- super().__init__() -/
theorem at_super0 {X : Cx} {pins : List (Addr × Obj)} {σ : L2.St} {H : Hp} {s : Shared} {C a cc f : Addr} {i : Nat} {sn : Str} {body : List Stmt} {p0 p1 p2 p3 p4 : Pos} {Q : Flow → Shared → Prop} {pl : Sem Bool} (S : SupF X C a cc f i sn) (T : OexC X.K C) (I : Inv X pins σ H s) (e : H a = some (exo a C none)) (hσ : σ[i]? = some (some (.ref a)))
    (h : ∀ s', Inv X pins σ H s' → Q .next s')
    (he : eval (.Call (.Attribute (.Call (.Name "super" p0) [] [] p1) "__init__" p2) [] [] p3) X.env = (do
      let ov ← attributeBase (.Call (.Name "super" p0) [] [] p1) "__init__" X.env (eval (.Call (.Name "super" p0) [] [] p1) X.env)
      standAt p2.atName
      let (f, first) ← holding [ov] (getMethod ov "__init__" pl)
      callWith p3 f first (backTo p3 (starEach [] X.env)) []) := by rfl)
    (hs : swapsWith (.Call (.Attribute (.Call (.Name "super" p0) [] [] p1) "__init__" p2) [] [] p3) none p4.line X.env = pure false := by rfl) :
    _root_.PySem.wpAt (model X.prog X.w) X.A (.func body X.env) (exec (.Expr (.Call (.Attribute (.Call (.Name "super" p0) [] [] p1) "__init__" p2) [] [] p3) p4) X.env) Q X.xe s := by
  obtain ⟨of, fd, ar, hf, hfd, hp, har⟩ := S.fnK
  obtain ⟨cda, oc, vs, file, tf, hco, hcc, hoc, hvs, hfile⟩ := S.code
  refine ks_wpAt_Expr_any (ks_wpAt_MethodCall (ks_wpAt_super_base S.ks S.kc (by decide) S.fn (I.kIn _ _ hf) hfd hp hco (I.kIn _ _ hcc) hoc hvs hfile S.top ?_) he) I.quiet hs
  obtain ⟨mb, b1, b2⟩ := I.mod.blt
  refine ks_loadName_global I.ok.kind S.ks (loadGlobal_builtin (by rw [I.ok.glob]; exact I.mod.glob.keeps I.bk) S.mg (by rw [I.ok.blt]; exact b1.keeps I.bk) ((b2 "super" (by decide)).trans S.boot) ⟨rfl, ?_⟩)
  obtain ⟨c1, d1, sl1, hcell⟩ := S.cellK
  refine wpAny_loadName_free I.ok.kind S.kc S.cell ⟨_, I.kIn _ _ hcell, rfl⟩ ?_
  obtain ⟨m, hn, hl⟩ := I.loc
  obtain ⟨u, ru, lk⟩ := hl i sn (.ref a) S.at_i hσ (.inl S.kl)
  obtain rfl : u = Value.ref a := ru
  have hv : m sn = some (Value.ref a) := by
    rcases lk with ⟨_, k⟩ | ⟨k, _⟩
    · exact k
    · rcases k with k | k <;> rw [S.kl] at k <;> cases k
  rw [har]
  refine wpAny_loadName_local I.ok.kind S.kl hn hv ?_
  obtain ⟨cd, hcd, hal⟩ := S.along
  obtain ⟨oD, hD1, hD2⟩ : ∃ oD, s.heap.get? C = some oD ∧ oD.data = .cls cd := by
    unfold clsIn at hcd
    split at hcd
    · rename_i c d cd' sl ho
      cases hcd
      exact ⟨_, I.kIn _ _ ho, rfl⟩
    · cases hcd
  obtain ⟨t1, hx⟩ := exo_at I.hok e
  refine ks_wpAny_isType_cls hD1 hD2 ⟨rfl, ?_⟩
  have hxC : a ≠ C := fun z => by
    rw [z, hD1] at hx
    cases hx
    cases hD2
  obtain ⟨hh, g, d, t, os⟩ := s
  refine ks_wpAny_call_super hD1 hD2 hx rfl (fun c z => by cases z) (looks_mroIn I.kIn S.subC) fun h1 e1 k1 => ?_
  have I1 : L2.Inv X pins σ H ⟨h1, g, d, t, os⟩ := I.kept (t' := t) k1
  have hx1 := k1 _ _ hx
  have ia : InstAt h1 a _ C none := ⟨hx1, rfl, rfl, trivial⟩
  have hI : Looks (model X.prog X.w) h1 (isInstance (.ref a) (.type "ValueError")) true := ia.type.andThen (looks_subIn I1.kIn S.subV)
  refine kxs_getMethod kxs_ValueError e1 (looks_opaque I1.kIn S.opq) (l₀ := cd.mro) (fun A Q E s k q => wpAny_bind ((looks_clsIn I1.kIn hcd) A _ E s k (wpAny_pure q))) rfl I1.kIn hal hI hxC rfl ?_
  have hmw : (h1.push (kxs_mw "ValueError.__init__" a)).get? h1.objs.size = some (kxs_mw "ValueError.__init__" a) := Heap.get?_push_at rfl rfl
  have I2 : L2.Inv X pins σ H ⟨h1.push (kxs_mw "ValueError.__init__" a), g, d, t + 1, os⟩ := I1.kept (t' := t + 1) fun b o z => Heap.get?_push_of_some _ z
  dsimp only
  refine kxs_callWith (i := "ValueError.__init__") (x := a) rfl (evalArgs_empty ⟨hmw, ?_⟩)
  obtain ⟨nm, q, N, bs, bm, sn', sub, ab, col, dd, k0, k1', k2, k3, k5, hC, hbm⟩ := T.cls
  obtain ⟨t3, hx3⟩ := exo_at I2.hok e
  refine call_mwVE (I2.kIn _ _ hC) hx3 hmw (by rw [sizeLine_eq]; decide) fun h' t2 k hx' => ?_
  have J2 := I2.write (t' := t + 1) (x := a) (e := a) (o := exo a C none) (by rw [e]; exact True.intro) (.inl rfl) k ⟨_, hx'⟩ (exo_ok hx')
  have eu : upd H a (exo a C none) = H := by
    funext b
    by_cases hb : b = a
    · rw [hb, upd_same, e]
    · rw [upd_ne hb]
  rw [eu] at J2
  exact h _ J2

/-- names of such an __init__ -/
structure ExS (N ps : List Str) (sc : Scope) : Prop where
  kind : sc.kind = .function
  co : sc.isCoroutine = false
  gen : sc.isGenerator = false
  nd : N.Nodup
  pre : N = ps
  par : ∀ x ∈ ps, sc.names.lookup x = some .local
  nocell : ∀ y ∈ sc.names, y.2 ≠ .cell
  free : ∀ y ∈ sc.names, y.2 = .free → y.1 = ("__class__" : Str)
/-- what is known of its class -/
structure SupC (P : Program) (K : PySem.W.Frag) (mg : Str → Option Value) (C cc f : Addr) (cdv : Value) (sc : Scope) (sn : Str) (fd : FuncData) : Prop where
  ks : sc.names.lookup ("super" : Str) = some .globalImplicit
  kc : sc.names.lookup ("__class__" : Str) = some .free
  kl : sc.names.lookup sn = some .local
  cellK : ∃ c d sl, K.lookup cc = some ⟨c, d, .cell (some (.ref C)), sl⟩
  fnK : ∃ (o : Obj) (ar : Arg), K.lookup f = some o ∧ o.data = .func fd ∧ (fd.params.posonlyargs ++ fd.params.args).head? = some ar ∧ ar.arg = sn
  code : ∃ (cda : Addr) (o : Obj) (vs : Array Value) (file : Str) (tf : Tok), cdv = .ref cda ∧ K.lookup cda = some o ∧ o.data = .fields vs ∧ vs[2]? = some (.str file tf) ∧ ((P.main.file : Str) == file) = true
  top : (P.main.scope.names.lookup ("super" : Str)).isSome = false
  mg : mg "super" = none
  along : ∃ cd, clsIn K C = some cd ∧ alongIn K "__init__" ((cd.mro.dropWhile (· != .ref C)).drop 1) = some (some (.builtin "ValueError.__init__"))
  subC : mroIn K C (.ref C) = some true
  subV : subIn K (.ref C) (.type "ValueError") = some true
  opq : nsIn K cStatics "thirdparty.any" = some none
/-- the context of its body -/
def exCx (P : Program) (w : World) (K : PySem.W.Frag) (mg : Str → Option Value) (base : Heap) (N : List Str) (qual : Str) (scope : Scope) (f : Addr) (cdv : Value) (cc : Addr) (A : Around) (outer : List Env) (s : Shared) (H : Hp) (E : XK) : Cx where
  prog := P
  w := w
  K := K
  mg := mg
  base := base
  A := A.deeper (ksEnv qual scope s.heap.objs.size f cdv cc)
  N := N
  s_0 := s
  H_0 := H
  env := ksEnv qual scope s.heap.objs.size f cdv cc
  outer := outer
  stack := ksEnv qual scope s.heap.objs.size f cdv cc :: outer
  ex := []
  calm := true
  fn := fun _ => false
  pn := []
  xe := fun e s' => wpAny (model P w) (A.deeper (ksEnv qual scope s.heap.objs.size f cdv cc)) (leaving (ksEnv qual scope s.heap.objs.size f cdv cc) e) (fun _ s'' => L2.CX P w outer H s E e s'') (fun e' s'' => L2.CX P w outer H s E e' s'') s'
theorem look_mem {x : Str} {u : Value} : ∀ {l : List (Str × Value)}, (l.map (·.1)).Nodup → (x, u) ∈ l → l.lookup x = some u
  | [], _, h => by simp at h
  | (y, v) :: l, nd, h => by
    rw [List.map_cons, List.nodup_cons] at nd
    rcases List.mem_cons.mp h with e | h
    · cases e
      simp [List.lookup]
    · have ne : x ≠ y := fun z => nd.1 (by rw [← z]; exact List.mem_map.mpr ⟨_, h, rfl⟩)
      have nb : (x == y) = false := by simpa using ne
      simp only [List.lookup, nb]
      exact look_mem nd.2 h
theorem _root_.List.Nodup.reverse' {α : Type} : ∀ {l : List α}, l.Nodup → l.reverse.Nodup
  | [], _ => by simp
  | a :: l, h => by
    rw [List.nodup_cons] at h
    rw [List.reverse_cons, List.nodup_append]
    refine ⟨h.2.reverse', by simp, fun x hx y hy e => ?_⟩
    rw [List.mem_singleton] at hy
    exact h.1 (by rw [← hy, ← e]; exact List.mem_reverse.mp hx)
theorem zip_at : ∀ {ps : List Str} {us : List Value} {i : Nat} {x : Str} {u : Value}, ps[i]? = some x → us[i]? = some u → (x, u) ∈ ps.zip us
  | [], _, _, _, _, h, _ => by simp at h
  | _ :: _, [], _, _, _, _, h => by simp at h
  | p :: ps, v :: us, 0, x, u, h1, h2 => by
    simp at h1 h2
    subst h1 h2
    simp
  | p :: ps, v :: us, i + 1, x, u, h1, h2 => by
    simp only [List.zip_cons_cons, List.mem_cons]
    exact .inr (zip_at (i := i) (by simpa using h1) (by simpa using h2))
theorem zip_fst : ∀ {ps : List Str} {us : List Value}, us.length = ps.length → (ps.zip us).map (·.1) = ps
  | [], _, _ => by simp
  | _ :: _, [], h => by simp at h
  | p :: ps, v :: us, h => by
    simp only [List.zip_cons_cons, List.map_cons]
    rw [zip_fst (by simpa using h)]
theorem ex_start {N ps : List Str} {qual : Str} {scope : Scope} {f cc : Addr} {cdv : Value} {A : Around} {outer : List Env} {s : Shared} {H : Hp} {E : XK} {us : List Value} {vs : List V} {h1 : Heap} {tk : Nat}
    (S : ExS N ps scope) (hd : A.handled = none) (e0 : Env0 P w K mg base A outer s H) (hl : vs.length = ps.length) (r : Vals vs us) (hcell : ∃ c d v sl, K.lookup cc = some ⟨c, d, .cell v, sl⟩)
    (hns : h1.Ns s.heap.objs.size fun x => (ps.zip us).reverse.lookup x) (kp : ∀ b o, s.heap.get? b = some o → h1.get? b = some o) :
    Inv (exCx P w K mg base N qual scope f cdv cc A outer s H E) [] (L2.start N vs) H { s with heap := h1, toks := tk } := by
  have noA : ∀ b : Addr, b ∉ (exCx P w K mg base N qual scope f cdv cc A outer s H E).ex := fun b z => absurd (show b ∈ ([] : List Addr) from z) (by simp)
  have cells : (exCx P w K mg base N qual scope f cdv cc A outer s H E).env.cells = [(("__class__" : Str), cc)] := rfl
  obtain ⟨c0, d0, v0, sl0, hc⟩ := hcell
  have hb := e0.bs cc _ (e0.mod.kin _ _ hc)
  have one : ∀ y c, (exCx P w K mg base N qual scope f cdv cc A outer s H E).env.cells.lookup y = some c → y = ("__class__" : Str) ∧ c = cc := fun y c e => by
    rw [cells] at e
    by_cases hy : y = ("__class__" : Str)
    · subst hy
      simp [List.lookup] at e
      exact ⟨rfl, e.symm⟩
    · have nb : (y == ("__class__" : Str)) = false := by simpa using hy
      simp only [List.lookup, nb] at e
      cases e
  refine ⟨⟨e0.mod, S.kind, rfl, rfl, Nat.le_refl _, fun y z c e1 e2 => (one y c e1).1.trans (one z c e2).1.symm, fun y hy => ?_, fun y c z _ => absurd (show false = true from z) Bool.false_ne_true, fun _ => hd, Around.frames_deeper e0.frames, .inr ⟨rfl, rfl⟩, fun b z => absurd z (noA b), e0.bs, e0.bsz,
      fun b _ _ => noA b, fun b z => absurd z (noA b), e0.funs, e0.frf⟩,
    rfl, e0.bare, Un.kept kp, ⟨_, hns, fun i y v e1 e2 e3 => ?_⟩, fun y c e => ?_, e0.hok.fresh (Nat.le_refl _), fun y c e => ?_, fun p hp => absurd (show p ∈ ([] : List (Addr × Obj)) from hp) (by simp), e0.hok.kept kp, ?_⟩
  · have hy : scope.names.lookup y = some .cell ∨ scope.names.lookup y = some .free := hy
    rcases hy with hy | hy
    · exact absurd rfl (S.nocell _ (PySem.mem_of_lookup hy))
    · have ey := S.free _ (PySem.mem_of_lookup hy) rfl
      dsimp only at ey
      subst ey
      exact ⟨cc, by rw [cells]; simp [List.lookup]⟩
  · have e3 : Vis scope y := e3
    have hN : N = ps := S.pre
    have hi : i < ps.length := by
      rw [← hN]
      exact (List.getElem?_eq_some_iff.mp (show N[i]? = some y from e1)).1
    have ha : vs[i]? = some v := by
      unfold L2.start at e2
      rw [List.getElem?_append_left (by simpa [hl] using hi), List.getElem?_map] at e2
      cases e : vs[i]? with
      | none => rw [e] at e2; cases e2
      | some b => rw [e] at e2; cases e2; rfl
    obtain ⟨u, hu, rv⟩ := r.get ha
    have hp : ps[i]? = some y := by rw [← hN]; exact e1
    refine ⟨u, rv, .inl ⟨S.par y (List.mem_of_getElem? hp), ?_⟩⟩
    have hul : us.length = ps.length := by rw [← hl]; exact (Paired.length r).symm
    refine look_mem ?_ (List.mem_reverse.mpr (zip_at hp hu))
    rw [List.map_reverse, zip_fst hul, ← hN]
    exact S.nd.reverse'
  · obtain ⟨_, e2⟩ := one y c e
    subst e2
    exact ⟨v0, _, kp _ _ hb.1, rfl⟩
  · obtain ⟨_, e2⟩ := one y c e
    subst e2
    exact hb.2
  · unfold L2.start
    show _ = N.length
    rw [List.length_append, List.length_map, List.length_replicate, S.pre]
    omega
theorem SupC.at {C a cc f : Addr} {cdv : Value} {scope : Scope} {sn : Str} {fd : FuncData} {N : List Str} {qual : Str} {A : Around} {outer : List Env} {s : Shared} {H : Hp} {E : XK} (T : SupC P K mg C cc f cdv scope sn fd) (h0 : N[0]? = some sn) :
    SupF (exCx P w K mg base N qual scope f cdv cc A outer s H E) C a cc f 0 sn := by
  obtain ⟨o, ar, e1, e2, e3, e4⟩ := T.fnK
  exact ⟨T.ks, T.kc, by simp [exCx, List.lookup], T.cellK, rfl, ⟨o, fd, ar, e1, e2, e3, e4⟩, T.kl, h0, T.code, T.top, T.mg, PyProof.Rows.Boot.«super», T.along, T.subC, T.subV, T.opq⟩
/-- the __init__, its first row being super's -/
theorem ex_fn {k : Nat} {f cc C : Addr} {name qual : Str} {params : Arguments} {body : List Stmt} {st : Stmt} {rest : List Stmt} {scope : Scope} {dV kV doc pm cdv ct oc : Value} {an od : Option Addr} {osl : Array (Option Value)} {N ps : List Str} {sn : Str} {sp : Sp}
    (lk : K.lookup f = some ⟨oc, od, .func (ksFn name qual params body scope dV kV doc pm an cdv ct cc), osl⟩) (hcd : codeIn K cdv qual = true) (S : ExS N ps scope) (T : SupC P K mg C cc f cdv scope sn (ksFn name qual params body scope dV kV doc pm an cdv ct cc)) (h0 : N[0]? = some sn)
    (hbd : body = st :: rest) (len : ∀ vs H Q E, sp vs H Q E → vs.length = ps.length)
    (hbody : ∀ (A : Around) (outer : List Env) (s : Shared) (H : Hp) (vs : List V) (Q : VK) (E : XK), sp vs H Q E → ∃ a t, H a = some (exo a C none) ∧ vs[0]? = some (.ref a) ∧
      (∀ (s1 : Shared) (Q' : Flow → Shared → Prop), Inv (exCx P w K mg base N qual scope f cdv cc A outer s H E) [] (L2.start N vs) H s1 → (∀ s', Inv (exCx P w K mg base N qual scope f cdv cc A outer s H E) [] (L2.start N vs) H s' → Q' .next s') →
        _root_.PySem.wpAt (model P w) (A.deeper (ksEnv qual scope s.heap.objs.size f cdv cc)) (.func body (ksEnv qual scope s.heap.objs.size f cdv cc)) (exec st (ksEnv qual scope s.heap.objs.size f cdv cc)) Q' (exCx P w K mg base N qual scope f cdv cc A outer s H E).xe s1) ∧
      PSs (exCx P w K mg base N qual scope f cdv cc A outer s H E) rest t ∧ t { nx := fun _ H' => Q .non H', rt := Q } (L2.start N vs) H) :
    FnOk P w K mg base (L2.CX P w) (k + 1) f (ksFn name qual params body scope dV kV doc pm an cdv ct cc) ps sp := by
  refine ⟨len, fun A outer s H args us vs Q E hr e0 hb r hsp => ?_⟩
  have hl := len _ _ _ _ hsp
  have KX : K.In s.heap := e0.mod.kin.keeps fun b o e => (e0.bs b o e).1
  have hul : us.length = ps.length := by rw [← hl]; exact (Paired.length r).symm
  refine ks_codeAny_call_defAt (fd := ksFn name qual params body scope dV kV doc pm an cdv ct cc) (body := body) hr.depth (KX _ _ lk) rfl (e0.mod.nolimit.keeps fun b o e => (e0.bs b o e).1) (codeRec_of KX hcd) rfl hb S.nocell (fun y hy => ?_) (fun h1 hns kp => ?_) S.co S.gen S.kind
  · obtain ⟨n, v⟩ := y
    exact S.par _ (List.of_mem_zip hy).1
  obtain ⟨a, t, ea, ev, first, ht, hq⟩ := hbody A outer s H vs Q E hsp
  obtain ⟨c0, d0, sl0, hc⟩ := T.cellK
  have I := ex_start (qual := qual) (f := f) (cdv := cdv) (E := E) (tk := s.toks + (ps.zip us).length) S hr.hd e0 hl r ⟨c0, d0, _, sl0, hc⟩ hns kp
  have fin : ∀ {σ' : L2.St} {H' : Hp} {v : V} {u : Value} {s' : Shared}, Inv (exCx P w K mg base N qual scope f cdv cc A outer s H E) [] σ' H' s' → RelV v u → Q v H' → CE outer P w H s Q u s' :=
    fun {σ' H' v u s'} J rv q => ⟨v, H', J.os, J.bare, J.base, J.hok, rv, q⟩
  subst hbd
  refine ks_wpAt_execs_cons (first _ _ I fun s' J => ?_)
  refine wpAt_of_wpAny (wpAny_mono (ht.run [] s' (L2.start N vs) H _ J hq) (fun fl s2 hs => ?_) fun e s2 hs => hs)
  cases fl with
  | ret u =>
    obtain ⟨v, σ', H', J, rv, q⟩ := hs
    exact fin J rv q
  | next =>
    obtain ⟨σ', H', J, q⟩ := hs
    exact fin (v := V.non) (u := Value.none) J rfl q
  | brk =>
    obtain ⟨_, _, _, q⟩ := hs
    exact False.elim q
  | cont =>
    obtain ⟨_, _, _, q⟩ := hs
    exact False.elim q
end
end LF

set_option Elab.async false
set_option linter.all false
set_option maxRecDepth 100000
set_option maxHeartbeats 4000000
/-! raise -/
namespace LF
open PySem PySem.Spec PyProof.Rows L2
/-! ### what such an __init__ promises -/
def spX0 (C : Addr) : Sp := fun vs H Q _ => ∃ a, vs = [.ref a] ∧ H a = some (exo a C none) ∧ Q .non H
def spX1 (C : Addr) (f : Str) : Sp := fun vs H Q _ => ∃ a v, vs = [.ref a, v] ∧ H a = some (exo a C none) ∧ ∀ dx, H dx = none → dx ≠ a → Q .non (upd (upd H dx (exd dx [(f, v)])) a (exo a C (some dx)))
def spX2 (C : Addr) (f g : Str) : Sp := fun vs H Q _ => ∃ a v u, vs = [.ref a, v, u] ∧ H a = some (exo a C none) ∧ ∀ dx, H dx = none → dx ≠ a → Q .non (upd (upd (upd H dx (exd dx [(f, v)])) a (exo a C (some dx))) dx (exd dx [(g, u), (f, v)]))
section
open PySem.W PySem.Calls
variable {P : Program} {w : World} {K : PySem.W.Frag} {mg : Str → Option Value} {base : Heap}
variable {f cc C : Addr} {name qual : Str} {params : Arguments} {body : List Stmt} {scope : Scope} {dV kV doc pm cdv ct oc : Value} {an od : Option Addr} {osl : Array (Option Value)}
theorem ex_fn0 {p0 p1 p2 p3 p4 : Pos} (lk : K.lookup f = some ⟨oc, od, .func (ksFn name qual params body scope dV kV doc pm an cdv ct cc), osl⟩) (hcd : codeIn K cdv qual = true) (S : ExS ["self"] ["self"] scope) (O : OexC K C)
    (T : SupC P K mg C cc f cdv scope "self" (ksFn name qual params body scope dV kV doc pm an cdv ct cc)) (hbd : body = [.Expr (.Call (.Attribute (.Call (.Name "super" p0) [] [] p1) "__init__" p2) [] [] p3) p4]) (hev : ∀ L : Addr, ∃ pl : Sem Bool, eval (.Call (.Attribute (.Call (.Name "super" p0) [] [] p1) "__init__" p2) [] [] p3) (ksEnv qual scope L f cdv cc) = (do
      let ov ← attributeBase (.Call (.Name "super" p0) [] [] p1) "__init__" (ksEnv qual scope L f cdv cc) (eval (.Call (.Name "super" p0) [] [] p1) (ksEnv qual scope L f cdv cc))
      standAt p2.atName
      let (g0, first) ← holding [ov] (getMethod ov "__init__" pl)
      callWith p3 g0 first (backTo p3 (starEach [] (ksEnv qual scope L f cdv cc))) [])) :
    FnOk P w K mg base (L2.CX P w) 1 f (ksFn name qual params body scope dV kV doc pm an cdv ct cc) ["self"] (spX0 C) := by
  refine ex_fn (k := 0) (C := C) (sn := "self") (N := ["self"]) lk hcd S T rfl hbd (fun vs H Q E h => ?_) fun A outer s H vs Q E h => ?_
  · obtain ⟨a, rfl, _⟩ := h
    rfl
  · obtain ⟨a, rfl, ea, q⟩ := h
    obtain ⟨pl, hpl⟩ := hev s.heap.objs.size
    exact ⟨a, _, ea, rfl, fun s1 Q' I hk => at_super0 (T.at rfl) O I ea rfl hk hpl, pss_nil, q⟩
theorem ex_fn1 {x fl : Str} {p0 p1 p2 p3 p4 q0 s0 s1 s2 s3 : Pos} (lk : K.lookup f = some ⟨oc, od, .func (ksFn name qual params body scope dV kV doc pm an cdv ct cc), osl⟩) (hcd : codeIn K cdv qual = true) (S : ExS ["self", x] ["self", x] scope) (O : OexC K C)
    (T : SupC P K mg C cc f cdv scope "self" (ksFn name qual params body scope dV kV doc pm an cdv ct cc)) (hno : PySem.W.findIn K (.ref C) fl = some none)
    (hbd : body = [.Expr (.Call (.Attribute (.Call (.Name "super" p0) [] [] p1) "__init__" p2) [.Name x q0] [] p3) p4, .Assign [.Attribute (.Name "self" s0) fl s1] (.Name x s2) s3])
    (hev : ∀ L : Addr, ∃ pl : Sem Bool, eval (.Call (.Attribute (.Call (.Name "super" p0) [] [] p1) "__init__" p2) [.Name x q0] [] p3) (ksEnv qual scope L f cdv cc) = (do
      let ov ← attributeBase (.Call (.Name "super" p0) [] [] p1) "__init__" (ksEnv qual scope L f cdv cc) (eval (.Call (.Name "super" p0) [] [] p1) (ksEnv qual scope L f cdv cc))
      standAt p2.atName
      let (g0, first) ← holding [ov] (getMethod ov "__init__" pl)
      callWith p3 g0 first (backTo p3 (starEach [.Name x q0] (ksEnv qual scope L f cdv cc))) []))
    (hd : (x == ("__debug__" : Str)) = false := by decide) (hcd' : (x == ("__classdict__" : Str)) = false := by decide) :
    FnOk P w K mg base (L2.CX P w) 1 f (ksFn name qual params body scope dV kV doc pm an cdv ct cc) ["self", x] (spX1 C fl) := by
  have hv : Vis scope x := .inl (S.par x (by simp))
  have hself : Vis scope "self" := .inl (S.par "self" (by simp))
  refine ex_fn (k := 0) (C := C) (sn := "self") (N := ["self", x]) lk hcd S T rfl hbd (fun vs H Q E h => ?_) fun A outer s H vs Q E h => ?_
  · obtain ⟨a, v, rfl, _⟩ := h
    rfl
  · obtain ⟨a, v, rfl, ea, q⟩ := h
    obtain ⟨pl, hpl⟩ := hev s.heap.objs.size
    refine ⟨a, tOst K fl (tVar 0) (tVar 1), ea, rfl, fun s1 Q' I hk => at_super (T.at rfl) O I ea rfl (pa_cons (pe_var (i := 1) rfl hv hd hcd') pa_nil) ⟨v, rfl, ?_⟩ hk hpl, pss_one (ps_ost (pe_var (i := 0) rfl hself) (pe_var (i := 1) rfl hv hd hcd')), ?_⟩
    · exact ⟨by simp, rfl⟩
    · exact ⟨v, rfl, .ref a, rfl, a, C, rfl, O, hno, .inl ⟨ea, fun dx h1 h2 => q dx h1 h2⟩⟩
theorem ex_fn2 {x y fl gl : Str} {p0 p1 p2 p3 p4 q0 q1 s0 s1 s2 s3 r0 r1 r2 r3 : Pos} (lk : K.lookup f = some ⟨oc, od, .func (ksFn name qual params body scope dV kV doc pm an cdv ct cc), osl⟩) (hcd : codeIn K cdv qual = true) (S : ExS ["self", x, y] ["self", x, y] scope) (O : OexC K C)
    (T : SupC P K mg C cc f cdv scope "self" (ksFn name qual params body scope dV kV doc pm an cdv ct cc)) (hno : PySem.W.findIn K (.ref C) fl = some none) (hno2 : PySem.W.findIn K (.ref C) gl = some none)
    (hbd : body = [.Expr (.Call (.Attribute (.Call (.Name "super" p0) [] [] p1) "__init__" p2) [.Name x q0, .Name y q1] [] p3) p4, .Assign [.Attribute (.Name "self" s0) fl s1] (.Name x s2) s3, .Assign [.Attribute (.Name "self" r0) gl r1] (.Name y r2) r3])
    (hev : ∀ L : Addr, ∃ pl : Sem Bool, eval (.Call (.Attribute (.Call (.Name "super" p0) [] [] p1) "__init__" p2) [.Name x q0, .Name y q1] [] p3) (ksEnv qual scope L f cdv cc) = (do
      let ov ← attributeBase (.Call (.Name "super" p0) [] [] p1) "__init__" (ksEnv qual scope L f cdv cc) (eval (.Call (.Name "super" p0) [] [] p1) (ksEnv qual scope L f cdv cc))
      standAt p2.atName
      let (g0, first) ← holding [ov] (getMethod ov "__init__" pl)
      callWith p3 g0 first (backTo p3 (starEach [.Name x q0, .Name y q1] (ksEnv qual scope L f cdv cc))) []))
    (hd : (x == ("__debug__" : Str)) = false := by decide) (hcd' : (x == ("__classdict__" : Str)) = false := by decide) (hd2 : (y == ("__debug__" : Str)) = false := by decide) (hcd2 : (y == ("__classdict__" : Str)) = false := by decide) :
    FnOk P w K mg base (L2.CX P w) 1 f (ksFn name qual params body scope dV kV doc pm an cdv ct cc) ["self", x, y] (spX2 C fl gl) := by
  have hv : Vis scope x := .inl (S.par x (by simp))
  have hv2 : Vis scope y := .inl (S.par y (by simp))
  have hself : Vis scope "self" := .inl (S.par "self" (by simp))
  refine ex_fn (k := 0) (C := C) (sn := "self") (N := ["self", x, y]) lk hcd S T rfl hbd (fun vs H Q E h => ?_) fun A outer s H vs Q E h => ?_
  · obtain ⟨a, v, u, rfl, _⟩ := h
    rfl
  · obtain ⟨a, v, u, rfl, ea, q⟩ := h
    obtain ⟨pl, hpl⟩ := hev s.heap.objs.size
    refine ⟨a, _, ea, rfl, fun s1 Q' I hk => at_super (T.at rfl) O I ea rfl (pa_cons (pe_var (i := 1) rfl hv hd hcd') (pa_cons (pe_var (i := 2) rfl hv2 hd2 hcd2) pa_nil)) ⟨v, rfl, u, rfl, ?_⟩ hk hpl,
      pss_cons (ps_ost (pe_var (i := 0) rfl hself) (pe_var (i := 1) rfl hv hd hcd')) (pss_one (ps_ost (pe_var (i := 0) rfl hself) (pe_var (i := 2) rfl hv2 hd2 hcd2))), ?_⟩
    · exact ⟨by simp, rfl⟩
    · refine ⟨v, rfl, .ref a, rfl, a, C, rfl, O, hno, .inl ⟨ea, fun dx h1 h2 => ?_⟩⟩
      exact ⟨u, rfl, .ref a, rfl, a, C, rfl, O, hno2, .inr ⟨dx, _, upd_same, by rw [upd_ne h2, upd_same], by simp, q dx h1 h2⟩⟩
end
/-! ### C(..) in a raise -/
section
variable {X : Cx} {x : Str} {p pos : Pos}
theorem del_upd {H : Hp} {a : Addr} {o : HO} (h : H a = none) : L2.del (upd H a o) a = H := by
  funext b
  by_cases hb : b = a
  · rw [hb, del_same, h]
  · rw [del_ne hb, upd_ne hb]
theorem pmk_none {C fI : Addr} {k : Nat} {fd : FuncData} (T : OexC X.K C) (iC : PySem.W.findIn X.K (.ref C) "__init__" = some (some (.ref fI))) (tI : PySem.W.typeIn X.K (.ref fI) = some (.type "function"))
    (F1 : FnOk X.prog X.w X.K X.mg X.base (L2.CX X.prog X.w) k fI fd ["self"] (spX0 C)) (hr : Room (k + 1) X.A) (hb : Binds X.K fd ["self"] []) (hg : Gl X x) (hm : X.mg x = some (.ref C))
    (hdb : (x == ("__debug__" : Str)) = false := by decide) : PMk X (.Call (.Name x p) [] [] pos) (fun _ H Q => Q (.ref C) none H) := by
  intro pins s σ H Q I q
  obtain ⟨nm, qn, N, bs, bm, sn, sub, ab, col, dd, k0, k1, k2, k3, k5, hC, hbm⟩ := T.cls
  refine wpAny_Call_Name_kw (ld_glob I hg hm ?_ hdb)
  refine PySem.W.callWith_K0 I.kIn T.kC ?_
  show wpAny _ _ (call (.ref C) []) _ _ _
  obtain ⟨hp, g, dr, tk, os⟩ := s
  have hsz : hp.objs.size ≤ hp.objs.size + 1 := Nat.le_succ _
  have hn : H (hp.objs.size + 1) = none := I.hok.fresh hsz
  have kk : ∀ b o, hp.get? b = some o → ((hp.push (PySem.W.kdv_tup [])).push (PySem.HandSPX.excO C hp.objs.size)).get? b = some o := fun b o e => Heap.get?_push_of_some _ (Heap.get?_push_of_some _ e)
  have hget : ((hp.push (PySem.W.kdv_tup [])).push (PySem.HandSPX.excO C hp.objs.size)).get? (hp.objs.size + 1) = some (PySem.HandSPX.excO C hp.objs.size) := by heap_get
  have I2 : Inv X pins σ (upd H (hp.objs.size + 1) (exo (hp.objs.size + 1) C none)) ⟨(hp.push (PySem.W.kdv_tup [])).push (PySem.HandSPX.excO C hp.objs.size), g, dr, tk, os⟩ :=
    I.laid (t' := tk) (a := hp.objs.size + 1) (o := exo (hp.objs.size + 1) C none) (h' := (hp.push (PySem.W.kdv_tup [])).push (PySem.HandSPX.excO C hp.objs.size)) kk hsz (exo_ok hget)
  refine wpAny_call (PySem.HandSPX.call_own F.excBase_ValueError (fun Y => PySem.HandSPX.refsVE_contains Y bm hbm) (I.kIn _ _ hC) (PySem.W.looks_findIn I.kIn iC) (fun self => PySem.W.bind_fn I.kIn self tI) (by rw [sizeLine_eq]; decide)
    (codeAny_mono (F1.run _ X.stack _ _ ⟨[Value.ref (hp.objs.size + 1)], []⟩ [Value.ref (hp.objs.size + 1)] [V.ref (hp.objs.size + 1)] (fun v H2 => v = .non ∧ H2 = upd H (hp.objs.size + 1) (exo (hp.objs.size + 1) C none)) (fun _ _ _ => False) (hr.make C [] []) (I2.env0.make C [] [])
      (by
        have := hb _ [Value.ref (hp.objs.size + 1)] I2.kIn rfl
        simpa using this) (.cons rfl .nil) ⟨_, rfl, upd_same, rfl, rfl⟩) fun r s' hq' => ?_))
  cases r with
  | error er => exact passL pins σ _ _ er s' I2 hq'
  | ok fl =>
    cases fl with
    | ret u =>
      obtain ⟨v, H2, os2, bare2, un, hok2, rv, ev, eH⟩ := hq'
      subst ev eH
      refine ⟨rv, ?_⟩
      obtain ⟨h2, g2, d2, t2, os'⟩ := s'
      obtain ⟨t0, hoe⟩ := exo_at hok2 upd_same
      obtain ⟨GG, g1', g2'⟩ := L2.restrict h2 fun b => decide (b ≠ hp.objs.size + 1)
      have gk : ∀ b, b ≠ hp.objs.size + 1 → GG.get? b = h2.get? b := fun b hb => g1' b (decide_eq_true hb)
      have ge : GG.get? (hp.objs.size + 1) = none := g2' _ (by simp)
      have far : ∀ {b : Addr} {o : Obj}, hp.get? b = some o → b ≠ hp.objs.size + 1 := fun {b o} z => Nat.ne_of_lt (Nat.lt_of_lt_of_le (Heap.lt_size z) hsz)
      have un0 : ∀ {b : Addr} {o : Obj}, hp.get? b = some o → H b = none → upd H (hp.objs.size + 1) (exo (hp.objs.size + 1) C none) b = none := fun {b o} z n => by rw [upd_ne (far z)]; exact n
      have U : Un (frs X.stack) [] H H hp GG := {
        keep := fun b o z n hf hx => (gk b (far z)).trans (un.keep b o (kk b o z) (un0 z n) hf hx)
        slot := fun b o z n hf hx => by
          rw [gk b (far z)]
          exact un.slot b o (kk b o z) (un0 z n) hf hx
        free := fun b o z n hx => n
        there := fun b o z hx => by
          rw [gk b (far z)]
          exact un.there b o (kk b o z) hx
        tups := fun b xs z => z
        frzs := fun b o v z => z
        tbls := fun b ps z => ⟨#[], by rw [z]; simp⟩ }
      have hok3 : HOk X.prog X.w H GG := fun b o z => by
        have nb : b ≠ hp.objs.size + 1 := fun e => by
          rw [e, hn] at z
          cases z
        have z2 : upd H (hp.objs.size + 1) (exo (hp.objs.size + 1) C none) b = some o := by
          rw [upd_ne nb]
          exact z
        have noa : ∀ {c y : Addr}, upd H (hp.objs.size + 1) (exo (hp.objs.size + 1) C none) c = some (.own y) → c ≠ hp.objs.size + 1 := fun {c y} hc e => by
          rw [e, upd_same] at hc
          exact exo_own (Option.some.inj hc)
        exact (hok2 b o z2).stay (fun c v hc y => by
            have hca : c ≠ hp.objs.size + 1 := by
              rcases hc with hc | hc
              · rw [hc]
                exact nb
              · exact noa hc
            exact (gk c hca).trans y)
          (fun c hc => by
            rw [upd_ne (noa hc)] at hc
            exact hc) (fun c xs hc => by
            rw [upd_ne (fun e => by
              rw [e, upd_same] at hc
              exact exo_tup (Option.some.inj hc))] at hc
            exact hc)
      have J : Inv X pins σ H ⟨GG, g2, d2, t2, os'⟩ := I.call' (ch := []) os2 U hok3 bare2 (fun b z => absurd z (by simp))
      refine ⟨_, _, _, ⟨GG, g2, d2, t2, os'⟩, H, .ref C, none, rfl, J, fun b o z => ?_, ge, hoe, ⟨rfl, rfl⟩, rfl, rfl, hn, rfl, bare2, raises_own T.exC T.tyC, q⟩
      by_cases hb : b = hp.objs.size + 1
      · rw [hb, ge] at z
        cases z
      · exact (gk b hb).symm.trans z
    | next => exact False.elim hq'
    | brk => exact False.elim hq'
    | cont => exact False.elim hq'
theorem upd_del1 {H : Hp} {a d : Addr} {o o' u : HO} (ha : H a = none) (hd : d ≠ a) : upd (L2.del (upd (upd H d o) a o') a) d u = upd H d u := by
  funext b
  by_cases hb : b = d
  · rw [hb, upd_same, upd_same]
  · rw [upd_ne hb, upd_ne hb]
    by_cases hc : b = a
    · rw [hc, del_same, ha]
    · rw [del_ne hc, upd_ne hc, upd_ne hb]
theorem upd_del2 {H : Hp} {a d : Addr} {o o' o'' u : HO} (ha : H a = none) (hd : d ≠ a) : upd (L2.del (upd (upd (upd H d o) a o') d o'') a) d u = upd H d u := by
  funext b
  by_cases hb : b = d
  · rw [hb, upd_same, upd_same]
  · rw [upd_ne hb, upd_ne hb]
    by_cases hc : b = a
    · rw [hc, del_same, ha]
    · rw [del_ne hc, upd_ne hb, upd_ne hc, upd_ne hb]
variable {G : Gx} {W : WX}
/-- what a raise of a class wants -/
structure ExC (X : Cx) (C : Addr) (ps : List Str) (sp : Sp) : Prop where
  oc : OexC X.K C
  ex : ∃ (fI : Addr) (fd : FuncData), PySem.W.findIn X.K (.ref C) "__init__" = some (some (.ref fI)) ∧ PySem.W.typeIn X.K (.ref fI) = some (.type "function") ∧ FnOk X.prog X.w X.K X.mg X.base (L2.CX X.prog X.w) 1 fI fd ps sp ∧ Binds X.K fd ps []
def sRaise0 (c : Nat) : Sm := fun env st => .exn c [] env st
def sRaise1 (c : Nat) (f : String) (a : E) : Sm := fun env st => (a env st).out env fun d s => .exn c [(f, d)] env s
def sRaise2 (c : Nat) (f g : String) (a b : E) : Sm := fun env st => (a env st).out env fun x s => (b env s).out env fun y s => .exn c [(g, y), (f, x)] env s
theorem s_raise0 {k : Nat} {c : Nat} {rp : Pos} (T : ExC X (G.tb c) ["self"] (spX0 (G.tb c))) (hc : X.calm = true) (tk : Takes X W) (hr : Room k X.A) (hm : X.mg x = some (.ref (G.tb c))) (hj : 2 ≤ k := by decide) (hg : Gl X x := by rfl) (hdb : (x == ("__debug__" : Str)) = false := by decide) :
    PS X (.Raise (some (.Call (.Name x p) [] [] pos)) none rp) (tS G W (sRaise0 c)) := by
  obtain ⟨fI, fd, h1, h2, h3, h4⟩ := T.ex
  exact PS_weak (ps_raise hc tk (pmk_none T.oc h1 h2 h3 (hr.mono hj) h4 hg hm hdb)) fun K σ H ⟨ms, st, env, S, r, q⟩ => q none σ ms H Gr.refl S r (.inl ⟨rfl, rfl⟩)
theorem Gr.xd {ms : List Addr} {H : Hp} {d : Addr} {gs : List (Str × V)} (h : H d = none) : Gr ms H ms (upd H d (.xd gs)) := Gr.new0 h
theorem s_raise1 {k : Nat} {c : Nat} {f : String} {fs ep : Str} {rp : Pos} {e : Expr} {fe : E} (hfs : fs = Str.ofString f) (T : ExC X (G.tb c) ["self", ep] (spX1 (G.tb c) fs)) (hc : X.calm = true) (tk : Takes X W) (hr : Room k X.A) (hm : X.mg x = some (.ref (G.tb c)))
    (ha : PA X [e] (tA G W (eArgs [fe]))) (hj : 2 ≤ k := by decide) (hg : Gl X x := by rfl) (hdb : (x == ("__debug__" : Str)) = false := by decide)
    (he : starEach [e] X.env = (false, eval e X.env) :: starEach [] X.env := by rfl) (hpl : (backTo pos (starEach [] X.env)).any (·.1) = false := by rfl) :
    PS X (.Raise (some (.Call (.Name x p) [e] [] pos)) none rp) (tS G W (sRaise1 c f fe)) := by
  obtain ⟨fI, fd, h1, h2, h3, h4⟩ := T.ex
  refine PS_weak (ps_raise hc tk (pmk_oex (CX := L2.CX X.prog X.w) (ds := []) (dvs := []) T.oc h1 h2 h3 (hr.mono hj) h4 .nil passL hg hm ha hdb he hpl)) fun K σ H h => ?_
  have q : tS G W (fun env st => (eArgs [fe] env st).out env fun ds s => match ds with | [d] => .exn c [(f, d)] env s | _ => .bad) K σ H := by
    obtain ⟨ms, st, env, S, r, q⟩ := h
    refine ⟨ms, st, env, S, r, ?_⟩
    have : (eArgs [fe] env st).out env (fun ds s => match ds with | [d] => .exn c [(f, d)] env s | _ => .bad) = sRaise1 c f fe env st := by
      unfold sRaise1 eArgs eArgs
      cases fe env st <;> rfl
    rw [← this] at q
    exact q
  refine tX_mono (tX_out (R := RVs G) (k := fun env ds s => match ds with | [d] => .exn c [(f, d)] env s | _ => .bad) q) fun vs H1 ⟨ms, st, env, ds, S, r, r1, k1⟩ => ?_
  split at k1
  · obtain ⟨v, rfl, rv⟩ := r1.one'
    refine ⟨by simp, fun a ha => ?_⟩
    refine ⟨a, v, rfl, upd_same, fun dx h5 h6 => ⟨rfl, dx, [(fs, v)], upd_same, by rw [upd_ne h6, upd_same], ?_, ?_⟩⟩
    · rw [upd_ne h6] at h5
      exact h5
    · rw [upd_ne h6] at h5
      have e3 : upd (L2.del (upd (upd (upd H1 a (exo a (G.tb c) none)) dx (exd dx [(fs, v)])) a (exo a (G.tb c) (some dx))) a) dx (.xd [(fs, v)]) = upd H1 dx (.xd [(fs, v)]) := by
        funext b
        by_cases hb : b = dx
        · rw [hb, upd_same, upd_same]
        · rw [upd_ne hb, upd_ne hb]
          by_cases hc : b = a
          · rw [hc, del_same, ha]
          · rw [del_ne hc, upd_ne hc, upd_ne hb, upd_ne hc]
      rw [e3]
      have g := Gr.new0 (ms := ms) (o := .xd [(fs, v)]) h5
      exact k1 (some dx) σ ms _ g (S.lay h5) (r.gr g) (.inr ⟨dx, _, by simp, rfl, upd_same, by
        refine ⟨v, [], by rw [hfs], RV.gr g _ _ rv, rfl⟩⟩)
  · exact k1.elim
theorem s_raise2 {k : Nat} {c : Nat} {f g : String} {fs gs e1p e2p : Str} {rp : Pos} {e e2 : Expr} {fe fe2 : E} (hfs : fs = Str.ofString f) (hgs : gs = Str.ofString g) (T : ExC X (G.tb c) ["self", e1p, e2p] (spX2 (G.tb c) fs gs)) (hc : X.calm = true) (tk : Takes X W) (hr : Room k X.A) (hm : X.mg x = some (.ref (G.tb c)))
    (ha : PA X [e, e2] (tA G W (eArgs [fe, fe2]))) (hj : 2 ≤ k := by decide) (hg : Gl X x := by rfl) (hdb : (x == ("__debug__" : Str)) = false := by decide)
    (he : starEach [e, e2] X.env = (false, eval e X.env) :: starEach [e2] X.env := by rfl) (hpl : (backTo pos (starEach [e2] X.env)).any (·.1) = false := by rfl) :
    PS X (.Raise (some (.Call (.Name x p) [e, e2] [] pos)) none rp) (tS G W (sRaise2 c f g fe fe2)) := by
  obtain ⟨fI, fd, h1, h2, h3, h4⟩ := T.ex
  refine PS_weak (ps_raise hc tk (pmk_oex (CX := L2.CX X.prog X.w) (ds := []) (dvs := []) T.oc h1 h2 h3 (hr.mono hj) h4 .nil passL hg hm ha hdb he hpl)) fun K σ H h => ?_
  have q : tS G W (fun env st => (eArgs [fe, fe2] env st).out env fun ds s => match ds with | [x, y] => .exn c [(g, y), (f, x)] env s | _ => .bad) K σ H := by
    obtain ⟨ms, st, env, S, r, q⟩ := h
    refine ⟨ms, st, env, S, r, ?_⟩
    have : (eArgs [fe, fe2] env st).out env (fun ds s => match ds with | [x, y] => .exn c [(g, y), (f, x)] env s | _ => .bad) = sRaise2 c f g fe fe2 env st := by
      unfold sRaise2 eArgs eArgs eArgs
      cases e1 : fe env st with
      | ok a s =>
        simp only [Res.bind, Res.out]
        cases fe2 env s <;> rfl
      | _ => rfl
    rw [← this] at q
    exact q
  refine tX_mono (tX_out (R := RVs G) (k := fun env ds s => match ds with | [x, y] => .exn c [(g, y), (f, x)] env s | _ => .bad) q) fun vs H1 ⟨ms, st, env, ds, S, r, r1, k1⟩ => ?_
  split at k1
  · obtain ⟨v, u, rfl, rv, ru⟩ := r1.two'
    refine ⟨by simp, fun a ha => ?_⟩
    refine ⟨a, v, u, rfl, upd_same, fun dx h5 h6 => ⟨rfl, dx, [(gs, u), (fs, v)], by rw [upd_ne (Ne.symm h6), upd_same], upd_same, ?_, ?_⟩⟩
    · rw [upd_ne h6] at h5
      exact h5
    · rw [upd_ne h6] at h5
      have e3 : upd (L2.del (upd (upd (upd (upd H1 a (exo a (G.tb c) none)) dx (exd dx [(fs, v)])) a (exo a (G.tb c) (some dx))) dx (exd dx [(gs, u), (fs, v)])) a) dx (.xd [(gs, u), (fs, v)]) = upd H1 dx (.xd [(gs, u), (fs, v)]) := by
        funext b
        by_cases hb : b = dx
        · rw [hb, upd_same, upd_same]
        · rw [upd_ne hb, upd_ne hb]
          by_cases hc : b = a
          · rw [hc, del_same, ha]
          · rw [del_ne hc, upd_ne hb, upd_ne hc, upd_ne hb, upd_ne hc]
      rw [e3]
      have g' := Gr.new0 (ms := ms) (o := .xd [(gs, u), (fs, v)]) h5
      exact k1 (some dx) σ ms _ g' (S.lay h5) (r.gr g') (.inr ⟨dx, _, by simp, rfl, upd_same, by
        refine ⟨u, _, by rw [hgs], RV.gr g' _ _ ru, v, [], by rw [hfs], RV.gr g' _ _ rv, rfl⟩⟩)
  · exact k1.elim
end
end LF

set_option Elab.async false
set_option linter.all false
set_option maxRecDepth 100000
set_option maxHeartbeats 4000000
/-! try: several except clauses, some with a name; each suite returns -/
namespace LF
open PySem PySem.Spec PyProof.Rows L2
section
variable {X : Cx}
abbrev Cls3 := Value × Option Nat × (Addr → Value → Option Addr → TS)
def offs (i : Nat) (D : Ends) : Ends := { nx := fun τ H' => D.nx (τ.set i none) H', rt := D.rt, bk := fun τ H' => D.bk (τ.set i none) H', ct := fun τ H' => D.ct (τ.set i none) H' }
/-- what the clauses want of an exception of the body -/
def wMix (K : PySem.W.Frag) (Wout : WX) (D : Ends) : List Cls3 → WX
  | [] => Wout
  | (c, none, ts) :: r => fun cls d σ H => ∃ b, PySem.W.exmOne K cls c = some b ∧ (b = true → ∀ a, H a = none → ts a cls d D σ H) ∧ (b = false → wMix K Wout D r cls d σ H)
  | (c, some i, ts) :: r => fun cls d σ H => ∃ b, PySem.W.exmOne K cls c = some b ∧ (b = true → ∀ a, H a = none → ts a cls d (offs i D) (σ.set i (some (.ref a))) H) ∧ (b = false → wMix K Wout D r cls d σ H)
inductive Mix (X : Cx) : List ExceptHandler → List Cls3 → Prop
  | nil : Mix X [] []
  | only {x : Str} {c : Value} {ts : Addr → Value → Option Addr → TS} {b0 : Stmt} {suite : List Stmt} {np hp : Pos} {hds : List ExceptHandler} {l : List Cls3} (hc : Names X x c)
      (hsu : ∀ (a : Addr) (oe : Obj) (cls : Value) (d : Option Addr) (pn : List (Addr × Obj)), Zc cls d oe → (∃ vs, oe.data = .fields vs) → PSs (X.suite a ((a, oe) :: pn)) (b0 :: suite) (ts a cls d)) (r : Mix X hds l) :
      Mix X (.ExceptHandler (some (.Name x np)) none (b0 :: suite) hp :: hds) ((c, none, ts) :: l)
  | named {x n : Str} {i : Nat} {c : Value} {ts : Addr → Value → Option Addr → TS} {b0 : Stmt} {suite : List Stmt} {np hp : Pos} {hds : List ExceptHandler} {l : List Cls3} (hN : X.N.Nodup) (hi : X.N[i]? = some n) (hln : X.env.kindOf n = some .local) (hc : Names X x c)
      (hsu : ∀ (a : Addr) (oe : Obj) (cls : Value) (d : Option Addr) (pn : List (Addr × Obj)), Zc cls d oe → (∃ vs, oe.data = .fields vs) → PSs (X.suite a ((a, oe) :: pn)) (b0 :: suite) (ts a cls d)) (r : Mix X hds l) :
      Mix X (.ExceptHandler (some (.Name x np)) (some n) (b0 :: suite) hp :: hds) ((c, some i, ts) :: l)
theorem ps_try_mix {body : List Stmt} {hd1 : ExceptHandler} {hds : List ExceptHandler} {l : List Cls3} {pos : Pos} {tb : WX → TS} {Wout : WX} (hs : X.stack = X.env :: X.outer) (hf : X.env.frame = some X.env.locals) (tk : Takes X Wout)
    (hb : ∀ (W : WX) (pn : List (Addr × Obj)) (xe : Value → Shared → Prop), Takes (X.tr pn xe) W → PassesOwn (model X.prog X.w) X.A X.env xe → PSs (X.tr pn xe) body (tb W))
    (hh : Mix X (hd1 :: hds) l) : PS X (.Try body (hd1 :: hds) [] [] pos) (fun D σ H => tb (wMix X.K Wout D l) D σ H) := by
  refine ⟨fun pins s σ H D I h => ?_⟩
  have ok := I.ok
  have hfr : X.A.frames = some (X.env :: X.outer) := by rw [ok.frames, hs]
  refine wpAny_Try_except (wpAny_mono ((hb (wMix X.K Wout D l) (X.pn ++ pins) (fun e s₁ => wpAny (model X.prog X.w) X.A (noteFrame e X.env) (fun _ s₂ => wpAny (model X.prog X.w) X.A (setFlight e none) (fun _ s₃ =>
    wpAny (model X.prog X.w) X.A (handleBy e X.env (hd1 :: hds)) (SP X pins D) X.xe s₃) X.xe s₂) X.xe s₁) (fun u s' air => ?_) PassesOwn.looking).run [] s σ H D (I.toTry _) h) (fun fl s1 hsp => ?_) (fun e s1 he => he))
  · obtain ⟨a, B, sI, pins', τ, H', cls, d, rfl, J', nb, up, sky, na, os, ag, want⟩ := air
    have J : Inv X pins τ H' sI := J'.ofTry ok
    have sky2 : Sky B (X.env :: X.outer) a (Zc cls d) X.env.locals s'.heap := by rw [← hs]; exact sky
    show wpAny (model X.prog X.w) X.A (noteFrame (.ref a) X.env) _ _ _
    refine Sky.land Zc.steady hfr hf sky2 fun g fl up3 => ?_
    have JG : Inv X pins τ H' { s' with heap := g } := J.landed nb fl.1 (up.trans up3) os ag
    obtain ⟨oe, ve, he, hz, hdt⟩ := fl.there
    have noFrame : a ∉ frs (X.env :: X.outer) := fun hm => by
      obtain ⟨_, o', e', hnf⟩ := fl.2.2.1.mem hm
      rw [he] at e'
      cases e'
      exact hnf _ hdt
    have nL : a ≠ X.env.locals := fun z => noFrame (List.mem_filterMap.mpr ⟨X.env, List.mem_cons_self, by rw [hf, z]⟩)
    have nF : a ∉ X.fs := fun hm => by
      obtain ⟨e, h1, h2⟩ := List.mem_filterMap.mp hm
      exact noFrame (List.mem_filterMap.mpr ⟨e, List.mem_cons_of_mem _ h1, h2⟩)
    have SG := JG.suite he hdt na nL nF
    have LT : PySem.W.Looks (model X.prog X.w) g (typeOf (.ref a)) cls := fun A Q E s k q => wpAny_typeOf_ref (k _ _ he) (by rw [hz.1]; exact q)
    have test : ∀ {x : Str} {c : Value} {np : Pos} {Q : Value → Shared → Prop} {E : Value → Shared → Prop}, Names X x c → Q c { s' with heap := g } → wpAny (model X.prog X.w) (X.A.mark (some (.ref a))) (eval (.Name x np) X.env) Q E { s' with heap := g } := fun {x c np Q E} hc q => by
      obtain ⟨hg, hdbg, hm | ⟨hm, hv, hnn⟩⟩ := hc
      · exact ld_glob (X := X.suite a ((a, oe) :: (X.pn ++ pins))) SG hg hm q hdbg
      · exact ld_blt (X := X.suite a ((a, oe) :: (X.pn ++ pins))) SG hg hm hv q hnn hdbg
    have again : ∀ {M : Heap → Prop}, (∀ g', HandSPX.FlyingZ B (X.env :: X.outer) a (Zc cls d) g' → g.UpToSlots g' → M g') → ∀ g', HandSPX.FlyingZ B (X.env :: X.outer) a (Zc cls d) g' → g.UpToSlots g' → M g' := fun h => h
    have go : ∀ {hs' : List ExceptHandler} {l' : List Cls3}, Mix X hs' l' → wMix X.K Wout D l' cls d τ H' → wpAny (model X.prog X.w) X.A (handleBy (.ref a) X.env hs') (SP X pins D) X.xe { s' with heap := g } := by
      intro hs' l' hk
      induction hk with
      | nil =>
        intro want
        refine wpAny_handleBy_nil ?_
        obtain ⟨k1, k2, k3, oe2, vs2, T2, oT, ts', he2, hz2, hd2, h12, hr⟩ := id fl
        unfold PySem.passOn
        refine wpAny_bind (wpAny_field he2 hd2 h12 ?_)
        rw [if_neg (show ¬ ((Value.ref T2 == Value.none) = true) from by simp)]
        have out : wpAny (model X.prog X.w) X.A (setFlight (.ref a) X.env.frame) (fun _ s4 => wpAny (model X.prog X.w) X.A (throw (.ref a) : Sem Flow) (SP X pins D) X.xe s4) X.xe { s' with heap := g } := by
          rw [hf]
          exact HandSPX.setFlight_upZ fl fun g4 held up4 => wpAny_throw (tk _ _ ⟨a, B, sI, pins, τ, H', cls, d, rfl, J, nb, (up.trans up3).trans up4, .inr (.inr (by rw [hs]; exact held)), na, os, ag, want⟩)
        first
          | exact wpAny_bind (wpAny_pure (wpAny_bind out))
          | exact wpAny_bind out
      | @only x c ts b0 suite np hp hds2 l2 hc hsu r ih =>
        intro want
        obtain ⟨b, hb1, hyes, hno⟩ := want
        have LM := PySem.W.exm_one (M := model X.prog X.w) JG.kIn LT hb1
        refine wpAny_handleBy_cons (codeAny_handlers_test (test hc (LM.here ?_))) (by intro q; cases q)
        cases b with
        | true =>
          refine codeAny_handlers_suite (HandSPX.lands_againZ fl fun g4 fl4 up4 => ?_)
          have J4 : Inv X pins τ H' { s' with heap := g4 } := J.landed nb fl4.1 ((up.trans up3).trans up4) os ag
          obtain ⟨oe4, vs4, he4, hz4, hd4⟩ := fl4.there
          refine wpAny_mono ((hsu a oe4 cls d (X.pn ++ pins) hz4 ⟨_, hd4⟩).run [] _ _ H' _ (J4.suite he4 hd4 na nL nF) (hyes rfl a na)) (fun f s6 hsp => ?_) (fun _ _ z => False.elim z)
          cases f with
          | ret u =>
            obtain ⟨v6, τ6, H6, S6, r6, q6⟩ := hsp
            exact ⟨_, _, _, S6.unsuite ok, r6, q6⟩
          | next =>
            obtain ⟨τ6, H6, S6, q6⟩ := hsp
            exact ⟨_, _, S6.unsuite ok, q6⟩
          | brk =>
            obtain ⟨τ6, H6, S6, q6⟩ := hsp
            exact ⟨_, _, S6.unsuite ok, q6⟩
          | cont =>
            obtain ⟨τ6, H6, S6, q6⟩ := hsp
            exact ⟨_, _, S6.unsuite ok, q6⟩
        | false =>
          show wpAny _ X.A (handleBy (.ref a) X.env hds2) _ _ _
          exact ih (hno rfl)
      | @named x n i c ts b0 suite np hp hds2 l2 hN hi hln hc hsu r ih =>
        intro want
        obtain ⟨b, hb1, hyes, hno⟩ := want
        have LM := PySem.W.exm_one (M := model X.prog X.w) JG.kIn LT hb1
        refine wpAny_handleBy_cons (codeAny_handlers_test (test hc (LM.here ?_))) (by intro q; cases q)
        cases b with
        | true =>
          refine codeAny_handlers_suite_as (HandSPX.lands_againZ fl fun g4 fl4 up4 => ?_)
          have J4 : Inv X pins τ H' { s' with heap := g4 } := J.landed nb fl4.1 ((up.trans up3).trans up4) os ag
          obtain ⟨oe4, vs4, he4, hz4, hd4⟩ := fl4.there
          refine store_ok (X := X.suite a ((a, oe4) :: (X.pn ++ pins))) (v := .ref a) (J4.suite he4 hd4 na nL nF) hN hi (.inl hln) rfl (fun s5 S5 => ?_) (.inr hln)
          refine wpAny_mono ((hsu a oe4 cls d (X.pn ++ pins) hz4 ⟨_, hd4⟩).run [] s5 _ H' _ S5 (hyes rfl a na)) (fun f s6 hsp => ?_) (fun _ _ z => False.elim z)
          have done : ∀ {τ6 : L2.St} {H6 : Hp} {Q : Shared → Prop}, Inv (X.suite a ((a, oe4) :: (X.pn ++ pins))) [] τ6 H6 s6 → (∀ s7, Inv X pins (τ6.set i none) H6 s7 → Q s7) →
              wpAny (model X.prog X.w) X.A (do bindName X.env n .none; unbindBehindTheSuite X.env n hp) (fun _ s7 => Q s7) X.xe s6 := fun {τ6 H6 Q} S6 hq => gone_ok (S6.unsuite ok) hN hi hln hq
          cases f with
          | ret u =>
            obtain ⟨v6, τ6, H6, S6, r6, q6⟩ := hsp
            exact done S6 fun s7 J7 => ⟨_, _, _, J7, r6, q6⟩
          | next =>
            obtain ⟨τ6, H6, S6, q6⟩ := hsp
            exact done S6 fun s7 J7 => ⟨_, _, J7, q6⟩
          | brk =>
            obtain ⟨τ6, H6, S6, q6⟩ := hsp
            exact done S6 fun s7 J7 => ⟨_, _, J7, q6⟩
          | cont =>
            obtain ⟨τ6, H6, S6, q6⟩ := hsp
            exact done S6 fun s7 J7 => ⟨_, _, J7, q6⟩
        | false =>
          show wpAny _ X.A (handleBy (.ref a) X.env hds2) _ _ _
          exact ih (hno rfl)
    exact go hh want
  · cases fl with
    | ret u =>
      obtain ⟨v, τ, H', J', r, q⟩ := hsp
      exact ⟨v, τ, H', J'.ofTry ok, r, q⟩
    | next =>
      obtain ⟨τ, H', J', q⟩ := hsp
      exact wpAny_execs_nil ⟨τ, H', J'.ofTry ok, q⟩
    | brk =>
      obtain ⟨τ, H', J', q⟩ := hsp
      exact ⟨τ, H', J'.ofTry ok, q⟩
    | cont =>
      obtain ⟨τ, H', J', q⟩ := hsp
      exact ⟨τ, H', J'.ofTry ok, q⟩
end

/-! ### with the exception at hand -/
/-- the same place, an exception at hand -/
abbrev Gx.wx (G : Gx) (a d : Addr) (fs : List (String × D)) : Gx := { G with xi := some (a, d, fs) }
section
variable {G : Gx} {ms : List Addr} {H : Hp} {a0 d0 : Addr} {fs0 : List (String × D)}
mutual
theorem RV.wx (h0 : G.xi = none) : ∀ (d : D) (v : V), RV G ms H d v → RV (G.wx a0 d0 fs0) ms H d v
  | .non, _, h => h
  | .bl _, _, h => h
  | .int _, _, h => h
  | .str _, _, h => h
  | .tup ds, _, h => by
    simp only [RV] at h ⊢
    obtain ⟨a, vs, e, h1, h2⟩ := h
    exact ⟨a, vs, e, h1, RVs.wx h0 ds vs h2⟩
  | .ref _, _, h => h
  | .glo _, _, h => h
  | .ty _, _, h => h
  | .scr _, _, h => h
  | .xc, _, h => by
    simp only [RV] at h
    obtain ⟨a, d, fs, e, _⟩ := h
    rw [h0] at e
    cases e
theorem RVs.wx (h0 : G.xi = none) : ∀ (ds : List D) (vs : List V), RVs G ms H ds vs → RVs (G.wx a0 d0 fs0) ms H ds vs
  | [], _, h => h
  | d :: ds, _, h => by
    simp only [RVs] at h ⊢
    obtain ⟨v, r, e, h1, h2⟩ := h
    exact ⟨v, r, e, RV.wx h0 d v h1, RVs.wx h0 ds r h2⟩
end
theorem RF.wx (h0 : G.xi = none) : ∀ {fs : List (String × D)} {gs : List (Str × V)}, RF G ms H fs gs → RF (G.wx a0 d0 fs0) ms H fs gs
  | [], _, h => h
  | p :: fs, _, h => by
    obtain ⟨v, r, e, h1, h2⟩ := h
    exact ⟨v, r, e, RV.wx h0 _ _ h1, RF.wx h0 h2⟩
theorem RE.wx (h0 : G.xi = none) : ∀ {e : Sl} {σ : L2.St}, RE G ms H e σ → RE (G.wx a0 d0 fs0) ms H e σ
  | [], _, h => h
  | none :: e, _, h => by
    obtain ⟨o, r, e, h1⟩ := h
    exact ⟨o, r, e, RE.wx h0 h1⟩
  | some d :: e, _, h => by
    obtain ⟨v, r, e, h1, h2⟩ := h
    exact ⟨v, r, e, RV.wx h0 _ _ h1, RE.wx h0 h2⟩
theorem CellOk.wx (h0 : G.xi = none) {a : Addr} {c : Cell} (h : CellOk G ms H a c) : CellOk (G.wx a0 d0 fs0) ms H a c := by
  cases c with
  | lst ds =>
    obtain ⟨vs, h1, h2⟩ := h
    exact ⟨vs, h1, RVs.wx h0 _ _ h2⟩
  | ins c fs =>
    obtain ⟨dx, gs, h1, h2⟩ := h
    exact ⟨dx, gs, h1, RF.wx h0 h2⟩
  | dct => exact h
theorem SRel.wx (h0 : G.xi = none) {st : Sto} (S : SRel G ms st H) {gs : List (Str × V)} (h1 : H d0 = some (.xd gs)) (h2 : RF G ms H fs0 gs) : SRel (G.wx a0 d0 fs0) ms st H :=
  ⟨S.len, S.nd, fun i a c e1 e2 => (S.cell i a c e1 e2).wx h0, fun a d fs e => (by cases e; exact ⟨gs, h1, h2.wx h0⟩), S.tabs⟩
/-- no exception in it -/
def noX : Nat → D → Bool
  | _, .non => true
  | _, .bl _ => true
  | _, .int _ => true
  | _, .str _ => true
  | n + 1, .tup ds => ds.all (noX n)
  | _, _ => false
theorem noXs {f : D → Bool} (hf : ∀ d v, f d = true → RV (G.wx a0 d0 fs0) ms H d v → RV G ms H d v) : ∀ {ds : List D} {vs : List V}, ds.all f = true → RVs (G.wx a0 d0 fs0) ms H ds vs → RVs G ms H ds vs
  | [], _, _, h => h
  | d :: ds, _, e, h => by
    simp only [RVs] at h ⊢
    obtain ⟨v, r, rfl, h1, h2⟩ := h
    simp only [List.all_cons, Bool.and_eq_true] at e
    exact ⟨v, r, rfl, hf _ _ e.1 h1, noXs hf e.2 h2⟩
theorem noX_ok : ∀ (n : Nat) (d : D) (v : V), noX n d = true → RV (G.wx a0 d0 fs0) ms H d v → RV G ms H d v
  | _, .non, _, _, h => h
  | _, .bl _, _, _, h => h
  | _, .int _, _, _, h => h
  | _, .str _, _, _, h => h
  | 0, .tup ds, _, e, _ => by simp [noX] at e
  | n + 1, .tup ds, v, e, h => by
    simp only [RV] at h ⊢
    obtain ⟨a, vs, e1, h1, h2⟩ := h
    exact ⟨a, vs, e1, h1, noXs (fun d v k r => noX_ok n d v k r) (by simpa [noX] using e) h2⟩
  | 0, .ref _, _, e, _ => by simp [noX] at e
  | 0, .glo _, _, e, _ => by simp [noX] at e
  | 0, .ty _, _, e, _ => by simp [noX] at e
  | 0, .scr _, _, e, _ => by simp [noX] at e
  | 0, .xc, _, e, _ => by simp [noX] at e
  | n + 1, .ref _, _, e, _ => by simp [noX] at e
  | n + 1, .glo _, _, e, _ => by simp [noX] at e
  | n + 1, .ty _, _, e, _ => by simp [noX] at e
  | n + 1, .scr _, _, e, _ => by simp [noX] at e
  | n + 1, .xc, _, e, _ => by simp [noX] at e
mutual
theorem RV.unwx (h0 : G.xi = none) {ms' : List Addr} {H' : Hp} : ∀ (d : D) (v v' : V), RV G ms H d v → RV (G.wx a0 d0 fs0) ms' H' d v' → RV G ms' H' d v'
  | .non, _, _, _, h => h
  | .bl _, _, _, _, h => h
  | .int _, _, _, _, h => h
  | .str _, _, _, _, h => h
  | .tup ds, _, _, k, h => by
    simp only [RV] at h k ⊢
    obtain ⟨a, vs, e, h1, h2⟩ := h
    obtain ⟨_, us, _, _, k2⟩ := k
    exact ⟨a, vs, e, h1, RVs.unwx h0 ds us vs k2 h2⟩
  | .ref _, _, _, _, h => h
  | .glo _, _, _, _, h => h
  | .ty _, _, _, _, h => h
  | .scr _, _, _, _, h => h
  | .xc, _, _, k, _ => by
    simp only [RV] at k
    obtain ⟨a, d, fs, e, _⟩ := k
    rw [h0] at e
    cases e
theorem RVs.unwx (h0 : G.xi = none) {ms' : List Addr} {H' : Hp} : ∀ (ds : List D) (vs vs' : List V), RVs G ms H ds vs → RVs (G.wx a0 d0 fs0) ms' H' ds vs' → RVs G ms' H' ds vs'
  | [], _, _, _, h => h
  | d :: ds, _, _, k, h => by
    simp only [RVs] at h k ⊢
    obtain ⟨v, r, e, h1, h2⟩ := h
    obtain ⟨u, q, _, k1, k2⟩ := k
    exact ⟨v, r, e, RV.unwx h0 d u v k1 h1, RVs.unwx h0 ds q r k2 h2⟩
end
theorem RF.unwx (h0 : G.xi = none) {ms' : List Addr} {H' : Hp} : ∀ {fs : List (String × D)} {gs gs' : List (Str × V)}, RF G ms H fs gs → RF (G.wx a0 d0 fs0) ms' H' fs gs' → RF G ms' H' fs gs'
  | [], _, _, _, h => h
  | p :: fs, _, _, k, h => by
    obtain ⟨v, r, e, h1, h2⟩ := h
    obtain ⟨u, q, _, k1, k2⟩ := k
    exact ⟨v, r, e, RV.unwx h0 _ _ _ k1 h1, RF.unwx h0 k2 h2⟩
theorem CellOk.unwx (h0 : G.xi = none) {ms' : List Addr} {H' : Hp} {a a' : Addr} {c : Cell} (k : CellOk G ms H a c) (h : CellOk (G.wx a0 d0 fs0) ms' H' a' c) : CellOk G ms' H' a' c := by
  cases c with
  | lst ds =>
    obtain ⟨vs, h1, h2⟩ := h
    obtain ⟨us, _, k2⟩ := k
    exact ⟨vs, h1, RVs.unwx h0 _ _ _ k2 h2⟩
  | ins c fs =>
    obtain ⟨dx, gs, h1, h2⟩ := h
    obtain ⟨_, us, _, k2⟩ := k
    exact ⟨dx, gs, h1, RF.unwx h0 k2 h2⟩
  | dct => exact h
/-- back, where the store is the same -/
theorem SRel.unwx (h0 : G.xi = none) {ms' : List Addr} {H' : Hp} {st : Sto} (S : SRel G ms st H) (g : Gr ms H ms' H') (S' : SRel (G.wx a0 d0 fs0) ms' st H') : SRel G ms' st H' := by
  obtain ⟨t, et⟩ := g.pre
  have e : ms' = ms := by
    have h1 := S.len
    have h2 := S'.len
    rw [et, List.length_append] at h2
    have : t = [] := List.eq_nil_of_length_eq_zero (by omega)
    rw [et, this, List.append_nil]
  subst e
  exact ⟨S'.len, S'.nd, fun i a c e1 e2 => (S.cell i a c e1 e2).unwx h0 (S'.cell i a c e1 e2), fun a d fs z => (by rw [h0] at z; cases z), S'.tabs⟩
end

/-! ### the reading -/
/-- an except clause: its class, those it surely is not, the name's slot, what is returned (of the exception's fields) -/
structure Hx where
  c : Nat
  no : List Nat
  i : Option Nat
  f : List (String × D) → E
open Classical in
noncomputable def Hx.run (h : Hx) (fs : List (String × D)) (env : Sl) (st : Sto) : Out := match h.i with
  | none => match h.f [] env st with
    | .ok d s => .rt d s
    | _ => .bad
  | some i => if fs = [] then .bad else match h.f fs (env.set i (some .xc)) st with
    | .ok d s => if noX 8 d = true ∧ s = st then .rt d s else .bad
    | _ => .bad
open Classical in
noncomputable def hGo (c : Nat) (fs : List (String × D)) (env : Sl) (st : Sto) : List Hx → Out
  | [] => .exn c fs env st
  | h :: hs => if c = h.c then h.run fs env st else if c ∈ h.no then hGo c fs env st hs else .bad
noncomputable def sTry (b : Sm) (hs : List Hx) : Sm := fun env st => match b env st with
  | .exn c fs e s => hGo c fs e s hs
  | r => r
def eXf (fs : List (String × D)) (f : String) (a : E) : E := fun env st => (a env st).bind fun x s => match x with
  | .xc => match fs.lookup f with
    | some d => .ok d s
    | none => .bad
  | _ => .bad
section
variable {G : Gx} {W : WX} {X : Cx} {σ : L2.St} {H : Hp}
theorem RF.get {ms : List Addr} : ∀ {fs : List (String × D)} {gs : List (Str × V)} {f : String} {d : D}, RF G ms H fs gs → fs.lookup f = some d → ∃ v, gs.lookup (Str.ofString f) = some v ∧ RV G ms H d v := fun h e => h.look e
/-- e.f in the suite of 'except C as e' -/
theorem e_xf {a d0 : Addr} {fs0 : List (String × D)} {oe : Obj} {c : Nat} {pn : List (Addr × Obj)} {e : Expr} {fe : E} {pos : Pos} {n : Str} {f : String} (hn : n = Str.ofString f) (T : XfC X.K (G.tb c)) (hno : PySem.W.findIn X.K (.ref (G.tb c)) n = some none)
    (hz : Zc (.ref (G.tb c)) (some d0) oe) (hf : ∃ vs, oe.data = .fields vs) (he : PE (X.suite a ((a, oe) :: pn)) e (tE (G.wx a d0 fs0) W fe)) (hb : attributeBase e n X.env (eval e X.env) = eval e X.env := by rfl) :
    PE (X.suite a ((a, oe) :: pn)) (.Attribute e n pos) (tE (G.wx a d0 fs0) W (eXf fs0 f fe)) := PE_weak (pe_xf T hno hz hf he hb) fun σ H Q h => tX_mono (tX_bind h) fun v H1 ⟨ms, st, env, x, S, r, r1, k⟩ => by
  split at k
  · split at k
    · rename_i d ed
      simp only [RV] at r1
      obtain ⟨a1, d1, fs1, e1, rfl⟩ := r1
      cases e1
      obtain ⟨gs, h1, h2⟩ := S.xd _ _ _ rfl
      obtain ⟨w, h3, h4⟩ := h2.look ed
      exact ⟨rfl, rfl, _, gs, w, rfl, h1, by rw [hn]; exact h3, k w ms H1 Gr.refl S h4⟩
    · exact k.elim
  · exact k.elim
inductive HxOk (X : Cx) (G : Gx) : List ExceptHandler → List Hx → Prop
  | nil : HxOk X G [] []
  | only {x : Str} {c : Nat} {no : List Nat} {e : Expr} {f : E} {np rp hp : Pos} {hds : List ExceptHandler} {l : List Hx} (hc : Names X x (.ref (G.tb c))) (h1 : PySem.W.exmOne X.K (.ref (G.tb c)) (.ref (G.tb c)) = some true) (h2 : ∀ c' ∈ no, PySem.W.exmOne X.K (.ref (G.tb c')) (.ref (G.tb c)) = some false)
      (he : ∀ (a : Addr) (oe : Obj) (pn : List (Addr × Obj)), PE (X.suite a ((a, oe) :: pn)) e (tE G W0 f)) (r : HxOk X G hds l) : HxOk X G (.ExceptHandler (some (.Name x np)) none [.Return (some e) rp] hp :: hds) (⟨c, no, none, fun _ => f⟩ :: l)
  | named {x n : Str} {i : Nat} {c : Nat} {no : List Nat} {e : Expr} {f : List (String × D) → E} {np rp hp : Pos} {hds : List ExceptHandler} {l : List Hx} (hN : X.N.Nodup) (hi : X.N[i]? = some n) (hln : X.env.kindOf n = some .local) (hc : Names X x (.ref (G.tb c)))
      (h1 : PySem.W.exmOne X.K (.ref (G.tb c)) (.ref (G.tb c)) = some true) (h2 : ∀ c' ∈ no, PySem.W.exmOne X.K (.ref (G.tb c')) (.ref (G.tb c)) = some false)
      (he : ∀ (a d : Addr) (fs : List (String × D)) (oe : Obj) (pn : List (Addr × Obj)), Zc (.ref (G.tb c)) (some d) oe → (∃ vs, oe.data = .fields vs) → PE (X.suite a ((a, oe) :: pn)) e (tE (G.wx a d fs) W0 (f fs))) (r : HxOk X G hds l) :
      HxOk X G (.ExceptHandler (some (.Name x np)) (some n) [.Return (some e) rp] hp :: hds) (⟨c, no, some i, f⟩ :: l)
/-- the suite's reading -/
def Hx.ts (G : Gx) (h : Hx) : Addr → Value → Option Addr → TS := fun a cls d D σ H => match h.i with
  | none => tS G W0 (sRet (h.f [])) D σ H
  | some _ => cls = .ref (G.tb h.c) ∧ ∃ d0 fs, d = some d0 ∧ tS (G.wx a d0 fs) W0 (sRet (h.f fs)) D σ H
theorem mix_of {hds : List ExceptHandler} {l : List Hx} (h : HxOk X G hds l) : Mix X hds (l.map fun h => (Value.ref (G.tb h.c), h.i, h.ts G)) := by
  induction h with
  | nil => exact .nil
  | @only x c no e f np rp hp hds l hc h1 h2 he r ih =>
    refine .only hc (fun a oe cls d pn _ _ => ?_) ih
    exact ss_one (s_ret (he a oe pn))
  | @named x n i c no e f np rp hp hds l hN hi hln hc h1 h2 he r ih =>
    refine .named hN hi hln hc (fun a oe cls d pn hz hf => ⟨fun pins s σ H D I q => ?_⟩) ih
    obtain ⟨rfl, d0, fs, rfl, q⟩ := q
    exact (ss_one (s_ret (pos := rp) (he a d0 fs oe pn hz hf))).run pins s σ H D I q
theorem try_go (h0 : G.xi = none) {K : Ends} {hds : List ExceptHandler} {l : List Hx} (h : HxOk X G hds l) {c : Nat} {fs : List (String × D)} {e : Sl} {st : Sto} {ms : List Addr} {H : Hp} (hk : OutOk G W K ms H (hGo c fs e st l)) :
    ∀ od σ' ms' H', Gr ms H ms' H' → SRel G ms' st H' → RE G ms' H' e σ' → XRel G ms' H' fs od → wMix X.K W K (l.map fun h => (Value.ref (G.tb h.c), h.i, h.ts G)) (.ref (G.tb c)) od σ' H' := by
  induction h with
  | nil => exact hk
  | @only x c1 no ex f np rp hp hds l hc h1 h2 he r ih =>
    intro od σ' ms' H' g S re xr
    unfold hGo at hk
    split at hk
    · rename_i hcc
      subst hcc
      refine ⟨true, h1, fun _ a _ => ⟨ms', st, e, S, re, ?_⟩, fun z => by cases z⟩
      unfold Hx.run at hk
      dsimp only at hk
      dsimp only [sRet]
      cases er : f e st with
      | ok d s =>
        rw [er] at hk
        exact OutOk.gr g hk
      | exn c2 f2 s => rw [er] at hk; exact hk.elim
      | bad => rw [er] at hk; exact hk.elim
    · split at hk
      · rename_i hmem
        exact ⟨false, h2 c hmem, (fun z => by cases z), fun _ => ih hk od σ' ms' H' g S re xr⟩
      · exact hk.elim
  | @named x n i c1 no ex f np rp hp hds l hN hi hln hc h1 h2 he r ih =>
    intro od σ' ms' H' g S re xr
    unfold hGo at hk
    split at hk
    · rename_i hcc
      subst hcc
      refine ⟨true, h1, fun _ a na => ⟨rfl, ?_⟩, fun z => by cases z⟩
      unfold Hx.run at hk
      dsimp only at hk
      split at hk
      · exact hk.elim
      rename_i hfs
      rcases xr with ⟨z, _⟩ | ⟨d0, gs, _, rfl, hd, rf⟩
      · exact (hfs z).elim
      refine ⟨d0, fs, rfl, ms', st, e.set i (some .xc), S.wx h0 hd rf, ?_, ?_⟩
      · refine RE.set ?_ i (re.wx h0)
        simp only [RV]
        exact ⟨a, d0, fs, rfl, rfl⟩
      · dsimp only [sRet]
        cases er : f fs (e.set i (some .xc)) st with
        | ok d s =>
          rw [er] at hk
          dsimp only at hk
          split at hk
          · rename_i hn
            obtain ⟨hn, rfl⟩ := hn
            intro v m1 H1 g1 S1 r1
            exact hk v m1 H1 (g.trans g1) (S.unwx h0 g1 S1) (noX_ok 8 d v hn r1)
          · exact hk.elim
        | exn c2 f2 s => rw [er] at hk; exact hk.elim
        | bad => rw [er] at hk; exact hk.elim
    · split at hk
      · rename_i hmem
        exact ⟨false, h2 c hmem, (fun z => by cases z), fun _ => ih hk od σ' ms' H' g S re xr⟩
      · exact hk.elim
theorem s_try (h0 : G.xi = none) {body : List Stmt} {hd1 : ExceptHandler} {hds : List ExceptHandler} {l : List Hx} {pos : Pos} {fb : Sm} (tk : Takes X W)
    (hb : ∀ (W : WX) (pn : List (Addr × Obj)) (xe : Value → Shared → Prop), Takes (X.tr pn xe) W → PassesOwn (model X.prog X.w) X.A X.env xe → PSs (X.tr pn xe) body (tS G W fb)) (hh : HxOk X G (hd1 :: hds) l)
    (hs : X.stack = X.env :: X.outer := by rfl) (hf : X.env.frame = some X.env.locals := by rfl) : PS X (.Try body (hd1 :: hds) [] [] pos) (tS G W (sTry fb l)) :=
  PS_weak (ps_try_mix hs hf tk hb (mix_of hh)) fun K σ H ⟨ms, st, env, S, r, q⟩ => by
    refine ⟨ms, st, env, S, r, ?_⟩
    unfold sTry at q
    cases e1 : fb env st with
    | nx e s => rw [e1] at q; exact q
    | rt d s => rw [e1] at q; exact q
    | bk e s => rw [e1] at q; exact q
    | ct e s => rw [e1] at q; exact q
    | bad => rw [e1] at q; exact q.elim
    | exn c fs e s =>
      rw [e1] at q
      exact try_go h0 hh q
end
end LF

set_option Elab.async false
set_option linter.all false
set_option maxRecDepth 100000
set_option maxHeartbeats 4000000
/-! an exception class, from what the written part tells -/
namespace LF
open PySem PySem.Spec PyProof.Rows L2
open PySem.W
/-- C(..) may be raised -/
structure Exc0 (P : Program) (w : World) (K : PySem.W.Frag) (mg : Str → Option Value) (C : Addr) (ps : List Str) (sp : Sp) : Prop where
  oc : OexC K C
  ex : ∃ (fI : Addr) (fd : FuncData), PySem.W.findIn K (.ref C) "__init__" = some (some (.ref fI)) ∧ PySem.W.typeIn K (.ref fI) = some (.type "function") ∧ (∀ base : Heap, FnOk P w K mg base (L2.CX P w) 1 fI fd ps sp) ∧ Binds K fd ps []
theorem Exc0.at {P : Program} {w : World} {K : PySem.W.Frag} {mg : Str → Option Value} {C : Addr} {ps : List Str} {sp : Sp} (T : Exc0 P w K mg C ps sp) {X : Cx} (h1 : X.prog = P := by rfl) (h2 : X.w = w := by rfl) (h3 : X.K = K := by rfl) (h4 : X.mg = mg := by rfl) : ExC X C ps sp := by
  subst h1 h2 h3 h4
  obtain ⟨fI, fd, a, b, c, d⟩ := T.ex
  exact ⟨T.oc, fI, fd, a, b, c X.base, d⟩
abbrev lamTail (L : Addr) : List Value := [.ref L, .type "ValueError", .type "Exception", .type "BaseException", .type "object"]
abbrev veRest : List Value := [.type "ValueError", .type "Exception", .type "BaseException", .type "object"]
section
variable {P : Program} {w : World} {K : PySem.W.Frag} {mg : Str → Option Value} {C L cc f ca : Addr}
variable {nm q nmL qL : Str} {N NL : Addr} {bs bsL : List Value} {sn snL : List Str} {sub subL : List Value} {ab abL : Bool} {col colL : Option Bool} {dd ddL : Option Addr} {k0 k1 k2 k3 k5 l0 l1 l2 l3 l5 : Option Value}
theorem oexC_of (hC : K.lookup C = some (excClassObj nm q C N bs (lamTail L) true sn sub ab col dd k0 k1 k2 k3 k5 "ValueError.__new__")) (sa : findIn K (.ref C) "__setattr__" = some (some (.builtin "object.__setattr__")))
    (exC : subIn K (.ref C) (.type "BaseException") = some true) (tyC : typeIn K (.ref C) = some (.type "type")) (kC : keepIn K (.ref C) = true) : OexC K C := ⟨⟨_, _, _, _, _, _, _, _, _, _, _, _, _, _, _, hC, by
      simp [lamTail, HandSPX.refsVE]⟩, sa, exC, tyC, kC⟩
theorem exm_of {c' c : Addr} {b : Bool} (h1 : subIn K (.ref c) (.type "BaseException") = some true) (h2 : isClsIn K c = true) (h3 : typeIn K (.ref c) = some (.type "type")) (h4 : subIn K (.ref c') (.ref c) = some b) : exmOne K (.ref c') (.ref c) = some b := by
  have e1 : (subIn K (.ref c) (.type "BaseException") == some true) = true := by rw [h1] <;> rfl
  have h2' : (clsIn K c).isSome = true := h2
  unfold exmOne kitCls
  rw [if_pos e1]
  dsimp only
  rw [if_pos (by rw [h2', h3] <;> rfl)]
  exact h4
variable {scope : Scope} {fd : FuncData} {oc ocd : Value} {od odd : Option Addr} {osl csl : Array (Option Value)} {v0 v1 : Value} {vr : List Value} {fi : Str} {tf : Tok} {x0 : Value} {x1 : Option Addr} {x2 : Array (Option Value)}
theorem supC_of (hC : K.lookup C = some (excClassObj nm q C N bs (lamTail L) true sn sub ab col dd k0 k1 k2 k3 k5 "ValueError.__new__")) (hL : K.lookup L = some (excClassObj nmL qL L NL bsL veRest true snL subL abL colL ddL l0 l1 l2 l3 l5 "ValueError.__new__"))
    (fL : findIn K (.ref L) "__init__" = some (some (.builtin "ValueError.__init__"))) (ks : scope.names.lookup ("super" : Str) = some .globalImplicit) (kc : scope.names.lookup ("__class__" : Str) = some .free) (kl : scope.names.lookup ("self" : Str) = some .local)
    (hcc : K.lookup cc = some ⟨x0, x1, .cell (some (.ref C)), x2⟩) (hf : K.lookup f = some ⟨oc, od, .func fd, osl⟩) (hp : ∃ ar : Arg, (fd.params.posonlyargs ++ fd.params.args).head? = some ar ∧ ar.arg = ("self" : Str))
    (hcd : K.lookup ca = some ⟨ocd, odd, .fields ⟨v0 :: v1 :: .str fi tf :: vr⟩, csl⟩) (hfi : ((P.main.file : Str) == fi) = true) (top : (P.main.scope.names.lookup ("super" : Str)).isSome = false) (hmg : mg "super" = none)
    (subC : mroIn K C (.ref C) = some true) (subV : subIn K (.ref C) (.type "ValueError") = some true) (opq : nsIn K cStatics "thirdparty.any" = some none) : SupC P K mg C cc f (.ref ca) scope "self" fd := by
  obtain ⟨ar, hp1, hp2⟩ := hp
  refine ⟨ks, kc, kl, ⟨_, _, _, hcc⟩, ⟨_, ar, hf, rfl, hp1, hp2⟩, ⟨ca, _, _, fi, tf, rfl, hcd, rfl, rfl, hfi⟩, top, hmg, ?_, subC, subV, opq⟩
  refine ⟨{ name := nm, bases := bs, mro := .ref C :: lamTail L, ns := N, qualname := q, hasDict := true, slotNames := sn, subclasses := sub, abstract := ab, collection := col, hasDel := false }, ?_, ?_⟩
  · unfold clsIn
    rw [hC]
  · have e : ((Value.ref C :: lamTail L).dropWhile (· != .ref C)).drop 1 = lamTail L := by simp [List.dropWhile]
    show alongIn K "__init__" (((Value.ref C :: lamTail L).dropWhile (· != .ref C)).drop 1) = _
    rw [e]
    unfold findIn at fL
    dsimp only at fL
    rw [hL] at fL
    exact fL
end
end LF

set_option Elab.async false
set_option linter.all false
set_option maxRecDepth 100000
set_option maxHeartbeats 4000000
/-! further operations -/
namespace LF
open PySem PySem.Spec PyProof.Rows L2
section
variable {G : Gx} {W : WX} {X : Cx} {σ : L2.St} {H : Hp}
/-! ### a list asked whether it is as long as another, then empty -/
def opEqE (neg : Bool) (x y : D) : O D := fun st => match x, y with
  | .ref i, .ref j => match st[i]?, st[j]? with
    | some (.lst a), some (.lst b) => if a.length ≠ b.length then some (.bl neg, st) else if a = [] then some (.bl (!neg), st) else none
    | _, _ => none
  | _, _ => none
theorem o_eqE (hu : X.A.units + 64 < cLine) : OpR X (compareOp .Eq) (rO G (opEqE false)) := by
  intro pins s σ H v u vv uv Q I rv ru h
  obtain ⟨ms, st, x, y, S, rx, ry, k⟩ := h
  unfold opEqE at k
  split at k
  · split at k
    · rename_i a b e1 e2
      obtain ⟨p, vs, rfl, _, h1, h2⟩ := S.ref e1 rx
      obtain ⟨q, us, rfl, _, h3, h4⟩ := S.ref e2 ry
      cases rv
      cases ru
      obtain ⟨its, r1, pl1, z1⟩ := I.list (SqL.of h1)
      obtain ⟨jts, r2, pl2, z2⟩ := I.list (SqL.of h3)
      have l1 : its.length = a.length := by rw [← h2.length, r1.length]
      have l2 : jts.length = b.length := by rw [← h4.length, r2.length]
      show wpAny (model X.prog X.w) X.A (richCompare .Eq (.ref p) (.ref q)) (EP X pins σ Q) X.xe s
      split at k
      · rename_i hne
        exact SeqAt.RcAt.lists_lengths pl1.isList pl2.isList (by simp only [List.size_toArray, l1, l2]; simpa using hne) (by omega) X.prog X.w X.xe _ ⟨.bl false, H, I, rfl, OkO.bl S k⟩
      · split at k
        · rename_i hle hae
          subst hae
          have e3 : its = [] := List.eq_nil_of_length_eq_zero l1
          have e4 : jts = [] := List.eq_nil_of_length_eq_zero (by rw [l2]; simp at hle; exact hle.symm)
          subst e3 e4
          exact SeqAt.RcAt.lists (e := fun _ => true) pl1.isList pl2.isList rfl (by omega) (fun j h1 _ => absurd h1 (by simp)) X.prog X.w X.xe _ ⟨.bl true, H, I, rfl, OkO.bl S k⟩
        · exact k.elim
    · exact k.elim
  · exact k.elim
theorem o_neE (hu : X.A.units + 64 < cLine) : OpR X (compareOp .NotEq) (rO G (opEqE true)) := by
  intro pins s σ H v u vv uv Q I rv ru h
  obtain ⟨ms, st, x, y, S, rx, ry, k⟩ := h
  unfold opEqE at k
  split at k
  · split at k
    · rename_i a b e1 e2
      obtain ⟨p, vs, rfl, _, h1, h2⟩ := S.ref e1 rx
      obtain ⟨q, us, rfl, _, h3, h4⟩ := S.ref e2 ry
      cases rv
      cases ru
      obtain ⟨its, r1, pl1, z1⟩ := I.list (SqL.of h1)
      obtain ⟨jts, r2, pl2, z2⟩ := I.list (SqL.of h3)
      have l1 : its.length = a.length := by rw [← h2.length, r1.length]
      have l2 : jts.length = b.length := by rw [← h4.length, r2.length]
      show wpAny (model X.prog X.w) X.A (richCompare .NotEq (.ref p) (.ref q)) (EP X pins σ Q) X.xe s
      split at k
      · rename_i hne
        exact SeqAt.RcNeAt.lists_lengths pl1.isList pl2.isList (by simp only [List.size_toArray, l1, l2]; simpa using hne) (by omega) X.prog X.w X.xe _ ⟨.bl true, H, I, rfl, OkO.bl S k⟩
      · split at k
        · rename_i hle hae
          subst hae
          have e3 : its = [] := List.eq_nil_of_length_eq_zero l1
          have e4 : jts = [] := List.eq_nil_of_length_eq_zero (by rw [l2]; simp at hle; exact hle.symm)
          subst e3 e4
          exact SeqAt.RcNeAt.lists (e := fun _ => true) pl1.isList pl2.isList rfl (by omega) (fun j h1 _ => absurd h1 (by simp)) X.prog X.w X.xe _ ⟨.bl false, H, I, rfl, OkO.bl S k⟩
        · exact k.elim
    · exact k.elim
  · exact k.elim
/-! ### bools among ints -/
def b2 (b : Bool) : Int := if b = true then 1 else 0
def opAddB : D → D → O D
  | .bl b, .int j => fun st => some (.int (b2 b + j), st)
  | x, y => opAdd x y
def opSubB : D → D → O D
  | .bl b, .int j => fun st => some (.int (b2 b - j), st)
  | x, y => opSub x y
theorem op_add_bi : OpR X (binaryOp .Add) (fun x y H Q => ∃ b j, x = .bl b ∧ y = .int j ∧ Q (.int (b2 b + j)) H) := by
  intro pins s σ H x y v u Q I rx ry h
  obtain ⟨b, j, rfl, rfl, q⟩ := h
  cases rx
  obtain ⟨t, rfl⟩ := ry
  exact PySem.IntBool.add_bool_int ⟨.int (b2 b + j), H, I.tok _, ⟨_, rfl⟩, q⟩
theorem op_sub_bi : OpR X (binaryOp .Sub) (fun x y H Q => ∃ b j, x = .bl b ∧ y = .int j ∧ Q (.int (b2 b - j)) H) := by
  intro pins s σ H x y v u Q I rx ry h
  obtain ⟨b, j, rfl, rfl, q⟩ := h
  cases rx
  obtain ⟨t, rfl⟩ := ry
  exact PySem.IntBool.sub_bool_int ⟨.int (b2 b - j), H, I.tok _, ⟨_, rfl⟩, q⟩
theorem o_addB (hK : X.K = G.K) : OpR X (binaryOp .Add) (rO G opAddB) := OpR_imp (op_add_bi.or (o_add hK)) fun v u H Q ⟨ms, st, x, y, S, rx, ry, k⟩ => by
  unfold opAddB at k
  split at k
  · simp only [RV] at rx ry
    subst rx ry
    exact .inl ⟨_, _, rfl, rfl, OkO.int S k⟩
  · exact .inr ⟨ms, st, x, y, S, rx, ry, k⟩
theorem o_subB : OpR X (binaryOp .Sub) (rO G opSubB) := OpR_imp (op_sub_bi.or o_sub) fun v u H Q ⟨ms, st, x, y, S, rx, ry, k⟩ => by
  unfold opSubB at k
  split at k
  · simp only [RV] at rx ry
    subst rx ry
    exact .inl ⟨_, _, rfl, rfl, OkO.int S k⟩
  · exact .inr ⟨ms, st, x, y, S, rx, ry, k⟩
/-! ### tuple * int, text * int -/
def opMulX : D → D → O D
  | .tup a, .int k => fun st => if a ≠ [] ∧ 2 ≤ k ∧ k ≤ 1000 ∧ a.length ≤ 1000 then some (.tup (List.replicate k.toNat a).flatten, st) else none
  | .str x, .int k => fun st => if 1 ≤ k ∧ k ≤ 1000 ∧ 1 ≤ x.length ∧ x.length ≤ 1000 then some (.str (if k = 1 then x else ⟨(List.replicate k.toNat x.cps).foldl (· ++ ·) #[]⟩), st) else none
  | x, y => opMul x y
theorem len_foldl : ∀ (n : Nat) (a b : Array Nat), ((List.replicate n a).foldl (· ++ ·) b).size = b.size + n * a.size
  | 0, a, b => by simp
  | n + 1, a, b => by
    rw [List.replicate_succ, List.foldl_cons, len_foldl n a (b ++ a), Array.size_append, Nat.succ_mul]
    omega
theorem op_mul_str : OpR X (binaryOp .Mult) (fun x y H Q => ∃ z k, x = .str z ∧ y = .int k ∧ (1 ≤ k ∧ k ≤ 1000 ∧ 1 ≤ z.length ∧ z.length ≤ 1000) ∧ Q (.str (if k = 1 then z else ⟨(List.replicate k.toNat z.cps).foldl (· ++ ·) #[]⟩)) H) := by
  intro pins s σ H x y v u Q I rx ry h
  obtain ⟨z, k, rfl, rfl, ⟨h1, h2, h3, h4⟩, q⟩ := h
  obtain ⟨t, rfl⟩ := rx
  obtain ⟨t2, rfl⟩ := ry
  refine P.mul_str (by rw [decide_eq_false (by omega), decide_eq_false (by omega)]; rfl) (fun _ _ => ?_) (fun _ _ => ?_) ?_
  · have a1 : (z.length : Int) ≤ (2 ^ 63 - 1) / k := by
      rw [Int.le_ediv_iff_mul_le (by omega)]
      have a2 : (z.length : Int) * k ≤ 1000 * k := Int.mul_le_mul_of_nonneg_right (by omega) (by omega)
      omega
    omega
  · have a1 : z.length * k.toNat ≤ 1000 * 1000 := Nat.mul_le_mul h4 (by omega)
    show decide _ = false
    rw [sizeLine_eq]
    exact decide_eq_false (by omega)
  · rw [if_neg (by omega)]
    by_cases hk : k = 1
    · subst hk
      rw [if_pos (by simp)]
      rw [if_pos rfl] at q
      exact ⟨.str z, H, I, ⟨_, rfl⟩, q⟩
    · rw [if_neg (by simp; omega)]
      rw [if_neg hk] at q
      refine ⟨?_, .str _, H, I.tok _, ⟨_, rfl⟩, q⟩
      show ((List.replicate k.toNat z.cps).foldl (· ++ ·) #[]).size ≤ _
      rw [len_foldl]
      have a1 : k.toNat * z.cps.size ≤ 1000 * 1000 := Nat.mul_le_mul (by omega) h4
      rw [sizeLine_eq]
      simp
      omega
theorem o_mulX (hK : X.K = G.K) : OpR X (binaryOp .Mult) (rO G opMulX) := OpR_imp (op_repT.or (op_mul_str.or o_mul)) fun v u H Q ⟨ms, st, x, y, S, rx, ry, k⟩ => by
  unfold opMulX at k
  split at k
  · simp only [RV] at rx ry
    obtain ⟨p, vs, rfl, h1, h2⟩ := rx
    subst ry
    split at k
    · rename_i hc
      obtain ⟨c1, c2, c3, c4⟩ := hc
      refine .inl ⟨p, _, vs, rfl, rfl, by rw [hK]; exact h1.t, fun e => c1 ?_, c2, c3, by rw [h2.length]; exact c4, OkO.tup S (h2.repf _) k⟩
      have := h2.length
      rw [e] at this
      exact List.eq_nil_of_length_eq_zero this.symm
    · exact k.elim
  · simp only [RV] at rx ry
    subst rx ry
    split at k
    · rename_i hc
      exact .inr (.inl ⟨_, _, rfl, rfl, hc, OkO.str S k⟩)
    · exact k.elim
  · exact .inr (.inr ⟨ms, st, x, y, S, rx, ry, k⟩)
/-! ### repr, str -/
def opRepr : List D → O D
  | [.int i] => fun st => if i.natAbs.log2 < 1920 then some (.str (toString i), st) else none
  | [.bl b] => fun st => some (.str (if b then "True" else "False"), st)
  | [.non] => fun st => some (.str "None", st)
  | _ => fun _ => none
theorem call_reprB : CallR X (.builtin "repr") (fun xs H Q => (∃ b, xs = [.bl b] ∧ Q (.str (if b then "True" else "False")) H) ∨ (xs = [.non] ∧ Q (.str "None") H)) := by
  intro pins s σ H xs us Q I r h
  rcases h with ⟨b, rfl, q⟩ | ⟨rfl, q⟩
  · obtain ⟨u, rfl, r1⟩ := vals1 r
    cases r1
    exact PySem.P.repr_of_bool ⟨.str _, H, I.tok _, ⟨_, rfl⟩, q⟩
  · obtain ⟨u, rfl, r1⟩ := vals1 r
    cases r1
    exact PySem.P.repr_of_none ⟨.str _, H, I.tok _, ⟨_, rfl⟩, q⟩
theorem c_repr : CallR X (.builtin "repr") (rN G opRepr) := CallR_imp (CallR.or SkE.call_repr_int call_reprB) fun vs H Q ⟨ms, st, ds, S, rs, k⟩ => by
  unfold opRepr at k
  split at k
  · obtain ⟨v, rfl, rv⟩ := rs.one'
    simp only [RV] at rv
    subst rv
    split at k
    · rename_i hc
      exact .inl ⟨_, rfl, hc, OkO.str S k⟩
    · exact k.elim
  · obtain ⟨v, rfl, rv⟩ := rs.one'
    simp only [RV] at rv
    subst rv
    exact .inr (.inl ⟨_, rfl, OkO.str S k⟩)
  · obtain ⟨v, rfl, rv⟩ := rs.one'
    simp only [RV] at rv
    subst rv
    exact .inr (.inr ⟨rfl, OkO.str S k⟩)
  · exact k.elim
theorem _root_.PySem.P.str_of_bool' {prog : Program} {w : World} {A : Around} {E : Value → Shared → Prop} {s : Shared} {b : Bool} {Q : Value → Shared → Prop} (h : Q (.str (if b then "True" else "False") s.toks) { s with toks := s.toks + 1 }) : wpAny (model prog w) A (call (.type "str") [.bool b]) Q E s :=
  callType_new F.called_str (by decide) (F.typeCall_str_1 _) (F.newCall_str_1 _) (fun obj => F.args_object_init_2 obj _) F.entry_str_new
    (meets_str_new (S := fun _ R s => R (.ok (.ret (.str (if b then "True" else "False") s.toks))) { s with toks := s.toks + 1 }) fun _ _ _ _ s hq =>
      wpAny_strOf_gives rfl (PySem.typeIs_bool s b) F.slot_bool_str F.slot_bool_repr F.entry_bool_repr (F.args_bool_repr_1 _) (gives_bool_repr b) hq (hsz := by cases b <;> decide)) ⟨typeIs_str _ _ _, h⟩
def opStrB : List D → O D
  | [.bl b] => fun st => some (.str (if b then "True" else "False"), st)
  | ds => opStr ds
theorem call_strB : CallR X (.type "str") (fun xs H Q => ∃ b, xs = [.bl b] ∧ Q (.str (if b then "True" else "False")) H) := by
  intro pins s σ H xs us Q I r h
  obtain ⟨b, rfl, q⟩ := h
  obtain ⟨u, rfl, r1⟩ := vals1 r
  cases r1
  exact PySem.P.str_of_bool' ⟨.str _, H, I.tok _, ⟨_, rfl⟩, q⟩
theorem c_strB : CallR X (.type "str") (rN G opStrB) := CallR_imp (CallR.or call_strB c_str) fun vs H Q ⟨ms, st, ds, S, rs, k⟩ => by
  unfold opStrB at k
  split at k
  · obtain ⟨v, rfl, rv⟩ := rs.one'
    simp only [RV] at rv
    subst rv
    exact .inl ⟨_, rfl, OkO.str S k⟩
  · exact .inr ⟨ms, st, ds, S, rs, k⟩
/-! ### {} -/
def eNewD : E := fun _ st => .ok (.ref st.length) (st ++ [.dct])
theorem e_newD {pos : Pos} : PE X (.Dict [] [] pos) (tE G W eNewD) := PE_weak pe_dnewK fun σ H Q ⟨ms, st, env, S, _, k⟩ p hp => by
  refine k (.ref p) (ms ++ [p]) _ (Gr.new hp [p]) (S.new hp (show CellOk G _ _ p .dct from upd_same)) ?_
  simp only [RV]
  exact ⟨p, rfl, by rw [List.getElem?_append_right (by rw [S.len]; exact Nat.le_refl _), S.len]; simp⟩
/-! ### isinstance(x, (list, tuple)) -/
def ansLT : Kd → Option Bool
  | .tup => some true
  | .lst => some true
  | .ins _ => none
  | _ => some false
def opIsiLT : List D → O D
  | [x, .tup [.ty a, .ty b]] => fun st => if a = "list" ∧ b = "tuple" then match kind x st with
      | some k => match ansLT k with
        | some r => some (.bl r, st)
        | none => none
      | none => none
    else none
  | _ => fun _ => none
theorem kitLT {K : PySem.W.Frag} {G : Gx} {k : Kd} {r : Bool} (h : ansLT k = some r) : ∃ t, KdT G k t ∧ PySem.W.kitAny K t [.type "list", .type "tuple"] = some r := by
  have no : ∀ t : String, kitB t "list" = some false → kitB t "tuple" = some false → PySem.W.kitAny K (.type t) [.type "list", .type "tuple"] = some false := fun t h1 h2 =>
    kitAny_cons (kit_ty h1) (fun _ => kitAny_cons (kit_ty h2) (fun _ => rfl) (fun z => by cases z)) (fun z => by cases z)
  cases k with
  | ins c => cases h
  | non => cases h; exact ⟨_, rfl, no _ (by decide +kernel) (by decide +kernel)⟩
  | bl => cases h; exact ⟨_, rfl, no _ (by decide +kernel) (by decide +kernel)⟩
  | int => cases h; exact ⟨_, rfl, no _ (by decide +kernel) (by decide +kernel)⟩
  | str => cases h; exact ⟨_, rfl, no _ (by decide +kernel) (by decide +kernel)⟩
  | dct => cases h; exact ⟨_, rfl, no _ (by decide +kernel) (by decide +kernel)⟩
  | tup => cases h; exact ⟨_, rfl, kitAny_cons (b := false) (kit_ty (by decide +kernel)) (fun _ => kitAny_cons (b := true) (kit_ty (by decide +kernel)) (fun z => by cases z) (fun _ => rfl)) (fun z => by cases z)⟩
  | lst => cases h; exact ⟨_, rfl, kitAny_cons (b := true) (kit_ty (by decide +kernel)) (fun z => by cases z) (fun _ => rfl)⟩
theorem isi_lt (hK : X.K = G.K) : CallR X (.builtin "isinstance") (rN G opIsiLT) := CallR_imp (CallR.or call_isiT call_isiK) fun vs H Q ⟨ms, st, ds, S, r, k⟩ => by
  unfold opIsiLT at k
  split at k
  · obtain ⟨v, u, rfl, rv, ru⟩ := r.two'
    split at k
    · rename_i hab
      obtain ⟨rfl, rfl⟩ := hab
      split at k
      · rename_i kd e
        split at k
        · rename_i b e2
          obtain ⟨t, h1, h2⟩ := kitLT (K := X.K) (G := G) e2
          simp only [RV] at ru
          obtain ⟨p, us, rfl, hu, ru⟩ := ru
          obtain ⟨u1, u2, rfl, r1, r2⟩ := ru.two'
          simp only [RV] at r1 r2
          subst r1 r2
          rcases hu with hu | ⟨o, its, n, hk, hc, hd, hz, hv⟩
          · exact .inl ⟨v, p, _, t, _, b, rfl, hu, .cons (.ty _) (.cons (.ty _) .nil), by rw [hK]; exact kd_ok S rv e h1, h2, OkO.bl S k⟩
          · obtain ⟨oc, od, dt, sl⟩ := o
            simp only at hc hd
            subst hc hd
            have e5 : its = (its.toList).toArray := by simp
            have e6 := ClsV.all (.cons (.ty _) (.cons (.ty _) .nil)) hv
            refine .inr ⟨v, p, od, [.type "list", .type "tuple"], n, sl, t, b, rfl, ?_, by rw [hK]; exact kd_ok S rv e h1, h2, OkO.bl S k⟩
            rw [hK, hk, ← e6]
        · exact k.elim
      · exact k.elim
    · exact k.elim
  · exact k.elim
/-! ### o.m() -/
theorem e_meth0 {k j : Nat} {f : Addr} {fd : FuncData} {ps : List Str} {c : Nat} {m : String} {mS : Str} {pos apos : Pos} {o : Expr} {g : F} {fa : E} {pl : Sem Bool} (hmS : mS = Str.ofString m) (he : PE X o (tE G W fa)) (hc : Cls X.K (G.tb c)) (hm : Meth X.K (G.tb c) mS f)
    (T : FnOk X.prog X.w X.K X.mg X.base (L2.CX X.prog X.w) j f fd ps (spF G g)) (hr : Room k X.A) (hb : Binds X.K fd ps []) (tk : Takes X W) (hj : j ≤ k := by decide)
    (ht : eval (.Call (.Attribute o mS apos) [] [] pos) X.env = (do
      let ov ← eval o X.env
      standAt apos.atName
      let (f, first) ← holding [ov] (getMethod ov mS pl)
      callWith pos f first (backTo pos (starEach [] X.env)) (backToKw pos (keywordEach [] X.env))) := by rfl) :
    PE X (.Call (.Attribute o mS apos) [] [] pos) (tE G W (eMeth c m g fa [])) := PE_weak (pe_methS0 (E := WE W) he hc hm T (hr.mono hj) hb (fun σ => passAt tk σ) ht) fun σ H Q h => by
  rw [hmS]
  refine tX_mono (tX_bind h) fun v H1 ⟨ms, st, env, x, S, r, r1, k⟩ => ?_
  split at k
  · split at k
    · rename_i c' fs' e
      split at k
      · rename_i hc
        obtain ⟨rfl, hl⟩ := hc
        have r1' := r1
        obtain ⟨a, dx, gs, rfl, _, h1, h2⟩ := S.ins e r1
        exact ⟨a, dx, gs, rfl, h1, h2.lookN hl, ms, st, _, S, RVs.one r1', k⟩
      · exact k.elim
    · exact k.elim
  · exact k.elim
end
end LF

set_option Elab.async false
set_option linter.all false
set_option maxRecDepth 100000
set_option maxHeartbeats 4000000
/-! a lambda without parameters, handed to a def that tries it -/
namespace LF
open PySem PySem.Spec PyProof.Rows L2
section
variable {G : Gx} {ms : List Addr} {H H1 : Hp} {st : Sto}
theorem ext_gr (e : LamX.ExtN H H1) : Gr ms H ms H1 := ⟨⟨[], by simp⟩, fun a xs h => e _ _ h (fun ps z => by cases z), fun a o u h => e _ _ h (fun ps z => by cases z)⟩
theorem ext_cell {a : Addr} {c : Cell} (e : LamX.ExtN H H1) (h : CellOk G ms H a c) : H1 a = H a := by
  obtain ⟨o, ho, _, _, _, nc⟩ := h.has
  rw [ho]
  exact e _ _ ho fun ps z => nc (.inr (.inr (.inr (.inr (.inl ⟨ps, z⟩)))))
theorem SRel.extN (S : SRel G ms st H) (e : LamX.ExtN H H1) (t : LamX.Tabs G.T H1) : SRel G ms st H1 :=
  ⟨S.len, S.nd, fun i a c h1 h2 => (S.cell i a c h1 h2).gr (ext_gr e) (ext_cell e (S.cell i a c h1 h2)), fun a d fs z => by
    obtain ⟨gs, h1, h2⟩ := S.xd a d fs z
    exact ⟨gs, e _ _ h1 (fun ps z => by cases z), h2.gr (ext_gr e)⟩, t⟩
theorem re_none : ∀ {σ : L2.St}, RE G ms H (List.replicate σ.length none) σ
  | [] => rfl
  | o :: σ => ⟨o, σ, rfl, re_none⟩
end
theorem PE_up {X : Cx} {e : Expr} {t : TE} (h : PE X e t) : PE X e (fun σ H Q => ∃ Q1 : VK, t σ H Q1 ∧ ∀ v H', Q1 v H' → Q v H') := ⟨fun pins s σ H Q I ⟨Q1, q, k⟩ => wpAny_mono (h.run pins s σ H Q1 I q) (fun u s' z => by
  obtain ⟨v, H', I', r, q⟩ := z
  exact ⟨v, H', I', r, k v H' q⟩) fun _ _ e => e⟩
theorem takes_len {X : Cx} {W : WX} (tk : Takes X W) : Takes X (fun cls d σ H => σ.length = X.N.length → W cls d σ H) := fun u s' x => by
  obtain ⟨a, B, sI, pins, σ, H, cls, d, e, J, nb, up, sky, na, os, ag, w⟩ := x
  exact tk u s' ⟨a, B, sI, pins, σ, H, cls, d, e, J, nb, up, sky, na, os, ag, w J.len⟩
/-- what the def makes of the call's end: n names, what is told in slot i -/
noncomputable def foundR (n i : Nat) (hs : List Hx) (fr : E) (r : Res D) : Res D := match r with
  | .ok d s => match fr ((List.replicate n none).set i (some d)) s with
    | .ok x s' => .ok x s'
    | _ => .bad
  | .exn c fs s => match hGo c fs (List.replicate n none) s hs with
    | .rt d s' => .ok d s'
    | _ => .bad
  | .bad => .bad
noncomputable def eFound (n i : Nat) (hs : List Hx) (fr : E) (th : E) : E := fun env st => foundR n i hs fr (th env st)
abbrev F0 : Value → Option Addr → Hp → Prop := fun _ _ _ => False
def TTf (G : Gx) (n i : Nat) (hs : List Hx) (fr : E) : (XK → Hp → VK → Prop) → Hp → VK → Prop := fun tl H Q =>
  tl (fun cls od H' => ∃ c fs st ms, cls = .ref (G.tb c) ∧ SRel G ms st H' ∧ XRel G ms H' fs od ∧ Okk (RV G) G F0 Q ms H' (foundR n i hs fr (.exn c fs st)))
    H (fun v H' => ∃ ms st d, SRel G ms st H' ∧ RV G ms H' d v ∧ Okk (RV G) G F0 Q ms H' (foundR n i hs fr (.ok d st)))
section
variable {G : Gx} {W : WX} {X : Cx} {σ : L2.St} {H : Hp}
theorem found_gives (h0 : G.xi = none) {Ng : List Str} {x a told q : Str} {sg : Scope} {g : Addr} {cdg : Value} {i : Nat} {hd1 : ExceptHandler} {hds : List ExceptHandler} {l : List Hx} {fr : E} {ret : Expr} {p1 p2 p3 p4 p5 p6 : Pos}
    (hN : Ng.Nodup) (hi : Ng[i]? = some told) (hloc : sg.names.lookup told = some .local) (hst : ∀ f : Addr, (L2.start Ng [V.ref f])[0]? = some (some (V.ref f))) (hln : ∀ f : Addr, (L2.start Ng [V.ref f]).length = Ng.length)
    (hsw : ∀ env : Env, swapsWith (.Call (.Name a p1) [] [] p2) (some (.Name told p5)) p3.line env = pure false)
    (hh : ∀ (s : Shared) (H : Hp), HxOk (cxOf C8.CX0 X.prog X.w X.K X.mg X.base Ng x sg g cdg X.A X.stack s H C8.E0).nox G (hd1 :: hds) l)
    (hr : ∀ (s : Shared) (H : Hp), PE (cxOf C8.CX0 X.prog X.w X.K X.mg X.base Ng x sg g cdg X.A X.stack s H C8.E0).nox ret (tE G W0 fr)) :
    LamX.GivesTo X Ng x sg g cdg [.Try [.Assign [.Name told p5] (.Call (.Name a p1) [] [] p2) p3] (hd1 :: hds) [] [] p4, .Return (some ret) p6] a q (TTf G Ng.length i l fr) := by
  intro f c' s H Q tl act hc h
  let D0 : Ends := { nx := fun _ H' => Q .non H', rt := Q }
  have body : ∀ (W : WX) (pn : List (Addr × Obj)) (xe : Value → Shared → Prop), Takes ((cxOf C8.CX0 X.prog X.w X.K X.mg X.base Ng x sg g cdg X.A X.stack s H C8.E0).nox.tr pn xe) W →
      PassesOwn (model X.prog X.w) (cxOf C8.CX0 X.prog X.w X.K X.mg X.base Ng x sg g cdg X.A X.stack s H C8.E0).nox.A (cxOf C8.CX0 X.prog X.w X.K X.mg X.base Ng x sg g cdg X.A X.stack s H C8.E0).nox.env xe →
      PSs ((cxOf C8.CX0 X.prog X.w X.K X.mg X.base Ng x sg g cdg X.A X.stack s H C8.E0).nox.tr pn xe) [.Assign [.Name told p5] (.Call (.Name a p1) [] [] p2) p3]
        (fun D σ H => ∃ (Ech : XK) (Q1 : VK), (∀ cls d σ' H', Ech cls d H' → σ'.length = Ng.length → W cls d σ' H') ∧ σ[0]? = some (some (.ref f)) ∧ H c' = some (LamX.CodeO c' q) ∧ tl Ech H Q1 ∧ ∀ v H', Q1 v H' → D.nx (σ.set i (some v)) H') := by
    intro W pn xe tk _
    refine ⟨fun pins s' σ H' D I h' => ?_⟩
    obtain ⟨Ech, Q1, hW, h1, h2, h3, h4⟩ := h'
    have hp := act (fun cls d σ' H' => σ'.length = Ng.length → W cls d σ' H') pn xe Ech p1 p2 (takes_len tk) hW
    exact (pss_one (ps_set (i := i) (pos := p3) hN hi (.inl hloc) (PE_up hp) (hsw _) (.inr hloc))).run pins s' σ H' D I ⟨Q1, ⟨h1, h2, h3⟩, h4⟩
  refine ⟨_, pss_cons (ps_try_mix (X := (cxOf C8.CX0 X.prog X.w X.K X.mg X.base Ng x sg g cdg X.A X.stack s H C8.E0).nox) (Wout := W0) rfl rfl LamX.takes0 body (mix_of (hh s H))) (pss_one (ps_ret (hr s H))), ?_⟩
  refine ⟨fun cls od H' => ∃ c fs st ms, cls = .ref (G.tb c) ∧ SRel G ms st H' ∧ XRel G ms H' fs od ∧ Okk (RV G) G F0 Q ms H' (foundR Ng.length i l fr (.exn c fs st)), _, ?_, hst f, hc, h, ?_⟩
  · intro cls od σ' H' hE hl
    obtain ⟨c, fs, st, ms, rfl, S, xr, k⟩ := hE
    refine try_go (W := W0) (ms := ms) (H := H') h0 (hh s H) (e := List.replicate Ng.length none) (st := st) ?_ od σ' ms H' Gr.refl S (by rw [← hl]; exact re_none) xr
    unfold foundR at k
    dsimp only at k
    cases e : hGo c fs (List.replicate Ng.length none) st l with
    | rt d s' =>
      rw [e] at k
      exact fun v m2 H2 g2 S2 r2 => k v m2 H2 g2 S2 r2
    | nx e2 s2 => rw [e] at k; exact k.elim
    | bk e2 s2 => rw [e] at k; exact k.elim
    | ct e2 s2 => rw [e] at k; exact k.elim
    | exn c2 f2 e2 s2 => rw [e] at k; exact k.elim
    | bad => rw [e] at k; exact k.elim
  · rintro v H' ⟨ms, st, d, S, rv, k⟩
    refine ⟨ms, st, (List.replicate Ng.length none).set i (some d), S, RE.set rv i (by rw [← hln f]; exact re_none), ?_⟩
    unfold foundR at k
    dsimp only at k
    cases e : fr ((List.replicate Ng.length none).set i (some d)) st with
    | ok y s' =>
      rw [e] at k
      exact k
    | exn c2 f2 s2 => rw [e] at k; exact k.elim
    | bad => rw [e] at k; exact k.elim
/-- x(lambda: body), x the def that tries it -/
theorem e_found {x a : Str} {g c P : Addr} {k n i : Nat} {st : Stmt} {Ng : List Str} {params : Arguments} {body : Expr} {scope : Scope} {p lpos pos : Pos} {l : List Hx} {fr fe : E} {fg : FuncData} {told : Str} {hd1 : ExceptHandler} {hds : List ExceptHandler} {ret : Expr} {p1 p2 p3 p4 p5 p6 : Pos}
    (h0 : G.xi = none) (Fg : Fun X.K x x st g fg) (hg : Gl X x) (hm : X.mg x = some (.ref g)) (hb : Binds X.K fg [a] []) (Sg : FnScope Ng [a] (defScope st))
    (hbd : defBody st = [.Try [.Assign [.Name told p5] (.Call (.Name a p1) [] [] p2) p3] (hd1 :: hds) [] [] p4, .Return (some ret) p6])
    (hi : Ng[i]? = some told) (hloc : (defScope st).names.lookup told = some .local) (hva : Vis (defScope st) a) (hNg : Ng[0]? = some a)
    (hsw : ∀ env : Env, swapsWith (.Call (.Name a p1) [] [] p2) (some (.Name told p5)) p3.line env = pure false)
    (hh : ∀ (cdg : Value) (s : Shared) (H : Hp), HxOk (cxOf C8.CX0 X.prog X.w X.K X.mg X.base Ng x (defScope st) g cdg X.A X.stack s H C8.E0).nox G (hd1 :: hds) l)
    (hrt : ∀ (cdg : Value) (s : Shared) (H : Hp), PE (cxOf C8.CX0 X.prog X.w X.K X.mg X.base Ng x (defScope st) g cdg X.A X.stack s H C8.E0).nox ret (tE G W0 fr))
    (hn : n = Ng.length) (TB : LamX.TabB X.base X.mg c P) (hcode : X.env.code = .ref c) (hT : G.T = [(P, X.env.qual ++ "<lambda>")]) (hr : Room (k + 2) X.A) (L : LamX.LamS X.env.scope scope) (hdef : defaultsOf params X.env = ([], []))
    (hbind : ∀ (q : Str) (cl : List (Str × Addr)) (pm cv ctv : Value), bindArgs (PySem.W.kla_fn "<lambda>" q params body scope cl pm cv ctv) ⟨[], []⟩ = pure [])
    (hbody : ∀ (A : Around) (outer : List Env) (s : Shared) (H : Hp) (E : XK) (f c' : Addr), Room k (A.deeper (LamX.lamEnv X scope s.heap.objs.size f c')) → PE (LamX.lamCx X A outer s H E scope f c') body (tE G (fun c d _ H => E c d H) fe))
    (hst : ∀ f : Addr, (L2.start Ng [V.ref f])[0]? = some (some (V.ref f)) := by intro _; rfl) (hln : ∀ f : Addr, (L2.start Ng [V.ref f]).length = Ng.length := by intro _; rfl)
    (hdb : (x == ("__debug__" : Str)) = false := by decide) (hd : (a == ("__debug__" : Str)) = false := by decide) (hcd : (a == ("__classdict__" : Str)) = false := by decide) :
    PE X (.Call (.Name x p) [.Lambda params body scope lpos] [] pos) (tE G W (eFound n i l fr fe)) := by
  obtain ⟨oc, od, kV, doc, pm, an, cdv, ct, osl, rfl, lk, hcg⟩ := Fg.ex
  rw [hbd] at lk hb
  subst hn
  have hm1 : (P, X.env.qual ++ "<lambda>") ∈ G.T := by rw [hT]; exact List.mem_singleton.mpr rfl
  refine PE_weak (LamX.pe_lamcall (T := G.T) (TT := TTf G Ng.length i l fr) (t := fun E => tE G (fun c d _ H => E c d H) fe) (dV := .none) hg hm Fg.kp lk hcg hb Sg hNg hva (found_gives h0 Sg.nd hi hloc hst hln hsw (hh cdv) (hrt cdv)) TB hcode hm1
    (fun q hq _ => by rw [hT] at hq; rw [List.mem_singleton.mp hq]) hr L hdef hbind hbody hdb hd hcd) fun σ H Q q => ?_
  obtain ⟨ms, st, env, S, re, q⟩ := q
  refine ⟨S.tabs, fun H1 eN t1 => ?_⟩
  have S1 := S.extN eN t1
  have g1 := ext_gr (ms := ms) eN
  refine ⟨ms, st, env, S1, re.gr g1, ?_⟩
  unfold eFound at q
  have q1 := Okk.gr g1 q
  cases e : fe env st with
  | ok d s =>
    rw [e] at q1
    intro v m2 H2 g2 S2 r2
    refine ⟨m2, s, d, S2, r2, ?_⟩
    have q2 := Okk.gr g2 q1
    revert q2
    cases ef : foundR Ng.length i l fr (.ok d s) with
    | ok y t => exact fun z => z
    | exn c2 f2 t2 =>
      exfalso
      unfold foundR at ef
      dsimp only at ef
      split at ef <;> cases ef
    | bad => exact fun z => z.elim
  | exn c2 fs s =>
    rw [e] at q1
    intro od m2 H2 g2 S2 xr
    refine ⟨c2, fs, s, m2, rfl, S2, xr, ?_⟩
    have q2 := Okk.gr g2 q1
    revert q2
    cases ef : foundR Ng.length i l fr (.exn c2 fs s) with
    | ok y t => exact fun z => z
    | exn c3 f3 t3 =>
      exfalso
      unfold foundR at ef
      dsimp only at ef
      split at ef <;> cases ef
    | bad => exact fun z => z.elim
  | bad =>
    rw [e] at q1
    exact q1.elim
end
end LF

set_option Elab.async false
set_option linter.all false
set_option maxRecDepth 100000
set_option maxHeartbeats 4000000
/-! stars in displays, list(range), tuple * int, two places set, a def whose code object is known, the end -/
namespace LF
open PySem PySem.Spec PyProof.Rows L2
section
variable {G : Gx} {W : WX} {X : Cx} {σ : L2.St} {H : Hp}
/-! ### stars -/
def eArgsX : List (Bool × E) → Sl → M (List D)
  | [], _ => fun st => .ok [] st
  | (false, a) :: as, env => fun st => (a env st).bind fun x s => (eArgsX as env s).bind fun xs s => .ok (x :: xs) s
  | (true, a) :: as, env => fun st => (a env st).bind fun x s => match seqOf x s with
    | some ds => (eArgsX as env s).bind fun xs s => .ok (ds ++ xs) s
    | none => .bad
def eBltX (op : List D → O D) (as : List (Bool × E)) : E := fun env st => (eArgsX as env st).bind fun xs s => ofO (op xs s)
theorem x_nil : PA X [] (tA G W (eArgsX [])) := PA_weak pa_nil fun σ H Q ⟨ms, st, env, S, _, k⟩ => k [] ms H Gr.refl S (by simp only [RVs])
theorem x_cons {e : Expr} {es : List Expr} {fa : E} {fs : List (Bool × E)} (ha : PE X e (tE G W fa)) (hr : PA X es (tA G W (eArgsX fs))) (hs : starEach (e :: es) X.env = (false, eval e X.env) :: starEach es X.env := by rfl) : PA X (e :: es) (tA G W (eArgsX ((false, fa) :: fs))) :=
  PA_weak (pa_cons ha hr hs) fun σ H Q h => by
    obtain ⟨ms, st, env, S, r, k⟩ := h
    exact ⟨ms, st, env, S, r, Okk.bind k fun x s v m1 H1 g1 S1 r1 k1 => ⟨m1, s, env, S1, r.gr g1, Okk.bind k1 fun xs s2 vs m2 H2 g2 S2 r2 k2 =>
      k2 (v :: vs) m2 H2 Gr.refl S2 (by simp only [RVs]; exact ⟨v, vs, rfl, RV.gr g2 _ _ r1, r2⟩)⟩⟩
theorem x_star {e : Expr} {es : List Expr} {p : Pos} {fa : E} {fs : List (Bool × E)} (hK : X.K = G.K) (ha : PE X e (tE G W fa)) (hr : PA X es (tA G W (eArgsX fs))) (hs : starEach (.Starred e p :: es) X.env = (true, eval e X.env) :: starEach es X.env := by rfl) : PA X (.Starred e p :: es) (tA G W (eArgsX ((true, fa) :: fs))) :=
  PA_weak (StX.pa_star ha hr hs) fun σ H Q h => by
    obtain ⟨ms, st, env, S, r, k⟩ := h
    refine ⟨ms, st, env, S, r, Okk.bind k fun x s v m1 H1 g1 S1 r1 k1 => ?_⟩
    cases e1 : seqOf x s with
    | none => rw [e1] at k1; exact k1.elim
    | some ds =>
      rw [e1] at k1
      obtain ⟨a, vs, rfl, h1, h2⟩ := seq_ok S1 r1 e1
      exact ⟨a, vs, rfl, by rw [hK]; exact h1.symm, m1, s, env, S1, r.gr g1, Okk.bind k1 fun xs s2 us m2 H2 g2 S2 r2 k2 => k2 (vs ++ us) m2 H2 Gr.refl S2 ((RVs.gr g2 _ _ h2).app r2)⟩
theorem e_tupX {es : List Expr} {x1} {pos : Pos} {fs : List (Bool × E)} (h : PA X es (tA G W (eArgsX fs))) : PE X (.Tuple es x1 pos) (tE G W (eBltX opTup fs)) :=
  PE_weak (pe_tup h) fun σ H Q h => tX_mono (tX_bind h) fun vs H1 ⟨ms, st, env, ds, S, r, r1, k⟩ => by
    have k := k.ofO
    unfold opTup at k
    split at k
    · rename_i hl
      exact ⟨by rw [r1.length]; exact LIM_le hl, OkO.tup S r1 k⟩
    · exact k.elim
/-! ### list(range(n)) -/
def eLRg (a : E) : E := fun env st => (a env st).bind fun x s => match x with
  | .int j => if 0 ≤ j ∧ j ≤ 1000000 then ofO (newL (rngI 0 j.toNat) s) else .bad
  | _ => .bad
theorem rvs_rng {ms : List Addr} {n : Nat} : RVs G ms H (rngI 0 n) (rgV 0 (n : Int)) := by
  have key : ∀ l : List Nat, RVs G ms H (l.map fun i : Nat => D.int (0 + (i : Int))) (l.map fun i => V.int (0 + (i : Nat))) := by
    intro l
    induction l with
    | nil => simp [RVs]
    | cons x l ih =>
      simp only [List.map_cons, RVs]
      exact ⟨_, _, rfl, by simp only [RV], ih⟩
  unfold rngI rgV
  rw [show ((n : Int) - 0).toNat = n by omega]
  exact key _
theorem e_lrg {p p2 pos pos2 : Pos} {a : Expr} {fa : E} (hc : X.calm = true) (hg : Gl X "list") (hm : X.mg "list" = none) (hg2 : Gl X "range") (hm2 : X.mg "range" = none) (ha : PE X a (tE G W fa)) (na : starEach [a] X.env = (false, eval a X.env) :: starEach [] X.env := by rfl)
    (nb : starEach [.Call (.Name "range" p2) [a] [] pos2] X.env = (false, eval (.Call (.Name "range" p2) [a] [] pos2) X.env) :: starEach [] X.env := by rfl) : PE X (.Call (.Name "list" p) [.Call (.Name "range" p2) [a] [] pos2] [] pos) (tE G W (eLRg fa)) :=
  PE_weak (pe_listRg hc hg hm (prg_1 hg2 hm2 ha na) nb) fun σ H Q h => tX_mono (tX_bind h) fun v H1 ⟨ms, st, env, x, S, r, r1, k⟩ => by
    split at k
    · rename_i j
      split at k
      · rename_i hj
        simp only [RV] at r1
        subst r1
        obtain ⟨n, rfl⟩ : ∃ n : Nat, j = n := ⟨j.toNat, by omega⟩
        refine ⟨_, rfl, RgOk.of_le (by omega) (by omega) (by omega) (by omega), OkO.newL S ?_ k.ofO⟩
        rw [show ((n : Int)).toNat = n by omega]
        exact rvs_rng
      · exact k.elim
    · exact k.elim
/-! ### tuple * 1, tuple * 0 -/
theorem tuple_mul1 (l : Addr) (items : Array Value) (n : Nat) (dd : Option Addr) (sl : Array (Option Value)) (u : Tok) :
    Meets (Builtin.«tuple.__mul__» ⟨[.ref l, .int 1 u], []⟩) (fun _ R s => s.heap.get? l = some { cls := .type "tuple", dict := dd, data := .seq items n, slots := sl } ∧ R (.ok (.ret (.ref l))) s) :=
  .of_wp fun prog w A R s h => by
    obtain ⟨hp, g, d, tk, os⟩ := s
    obtain ⟨hl, h⟩ := h
    have f1 := AutoSeq1.idx_int
    wp_walk using wpAny_loadPart' hl
    repeat (first
      | (refine wpAny_ite_false (by decide) ?_; wp_walk using wpAny_loadPart' hl)
      | (refine wpAny_ite_true (by simp) ?_; wp_walk using wpAny_loadPart' hl))
    exact ⟨_, rfl, h⟩
theorem tuple_mul0 (l : Addr) (items : Array Value) (n : Nat) (dd : Option Addr) (sl : Array (Option Value)) (u : Tok) (c1 : items.isEmpty = false) :
    Meets (Builtin.«tuple.__mul__» ⟨[.ref l, .int 0 u], []⟩) (fun _ R s => s.heap.get? l = some { cls := .type "tuple", dict := dd, data := .seq items n, slots := sl } ∧
      R (.ok (.ret (Value.ref s.heap.objs.size))) { s with heap := s.heap.push { cls := Value.type "tuple", data := Data.seq #[] }, toks := s.toks }) :=
  .of_wp fun prog w A R s h => by
    obtain ⟨hp, g, d, tk, os⟩ := s
    obtain ⟨hl, h⟩ := h
    have f1 := AutoSeq1.idx_int
    wp_walk using wpAny_loadPart' hl
    repeat (first
      | (refine wpAny_ite_false (by decide) ?_; wp_walk using wpAny_loadPart' hl)
      | (refine wpAny_ite_false (by rw [c1]; decide) ?_; wp_walk using wpAny_loadPart' hl)
      | (refine wpAny_ite_true (by simp) ?_; wp_walk using wpAny_loadPart' hl))
    exact ⟨_, rfl, h⟩
theorem op_rep01 : OpR X (binaryOp .Mult) (fun x y H Q => (∃ l xs, x = .ref l ∧ y = .int 1 ∧ SqT X.K H l xs ∧ Q (.ref l) H) ∨ ∃ l xs, x = .ref l ∧ y = .int 0 ∧ SqT X.K H l xs ∧ xs ≠ [] ∧ ∀ p, H p = none → Q (.ref p) (upd H p (.tup []))) := by
  intro pins s σ H x y v u Q I rx ry h
  rcases h with ⟨l, xs, rfl, rfl, hT, q⟩ | ⟨l, xs, rfl, rfl, hT, hne, q⟩
  · cases rx
    obtain ⟨t, rfl⟩ := ry
    obtain ⟨its, r, ⟨⟨cls, dd, data, sl⟩, ho, hc, n, hd⟩, hs⟩ := I.tuple hT
    simp only at hc hd
    subst hc hd
    exact wpAny_binaryOp_repeat_ref (T := "tuple") (U := "int") (by decide) ⟨_, ho, rfl⟩ (fun s' => typeIs_int s' 1 t) noFill_tuple_mul F.fills_int_mul F.slot_int_rmul repeat_tuple F.slot_int_index.lookup
      (call_meets F.slot_int_rmul (typeIs_int s 1 t) F.entry_int_rmul (F.args_int_rmul_2 _ _) (int_rmul_tuple 1 t l its.toArray n dd sl)
        ⟨ho, rfl, ⟨_, ho, rfl⟩, call_meets F.slot_tuple_mul ⟨_, ho, rfl⟩ F.entry_tuple_mul (F.args_tuple_mul_2 _ _) (tuple_mul1 l its.toArray n dd sl t) ⟨ho, ⟨.ref l, H, I, rfl, q⟩⟩⟩)
  · cases rx
    obtain ⟨t, rfl⟩ := ry
    obtain ⟨its, r, ⟨⟨cls, dd, data, sl⟩, ho, hc, n, hd⟩, hs⟩ := I.tuple hT
    simp only at hc hd
    subst hc hd
    have hi : its.toArray.isEmpty = false := by
      cases its with
      | nil =>
        cases r
        exact absurd rfl hne
      | cons a b => rfl
    refine wpAny_binaryOp_repeat_ref (T := "tuple") (U := "int") (by decide) ⟨_, ho, rfl⟩ (fun s' => typeIs_int s' 0 t) noFill_tuple_mul F.fills_int_mul F.slot_int_rmul repeat_tuple F.slot_int_index.lookup
      (call_meets F.slot_int_rmul (typeIs_int s 0 t) F.entry_int_rmul (F.args_int_rmul_2 _ _) (int_rmul_tuple 0 t l its.toArray n dd sl)
        ⟨ho, rfl, ⟨_, ho, rfl⟩, call_meets F.slot_tuple_mul ⟨_, ho, rfl⟩ F.entry_tuple_mul (F.args_tuple_mul_2 _ _) (tuple_mul0 l its.toArray n dd sl t hi) ⟨ho, ?_⟩⟩)
    refine ⟨.ref s.heap.objs.size, _, I.laid (t' := s.toks) (o := .tup []) (fun b ob q => Heap.get?_push_of_some _ q) (Nat.le_refl _) ?_, rfl, q _ (I.hok.fresh (Nat.le_refl _))⟩
    exact ⟨Nat.zero_le _, [], .nil, IsTup.new _ _⟩
/-- tuple * any small number -/
def opMulY : D → D → O D
  | .tup a, .int k => fun st => if a ≠ [] ∧ 0 ≤ k ∧ k ≤ 1000 ∧ a.length ≤ 1000 then some (.tup (List.replicate k.toNat a).flatten, st) else none
  | x, y => opMulX x y
theorem o_mulY (hK : X.K = G.K) : OpR X (binaryOp .Mult) (rO G opMulY) := OpR_imp (op_rep01.or (o_mulX hK)) fun v u H Q ⟨ms, st, x, y, S, rx, ry, k⟩ => by
  unfold opMulY at k
  split at k
  · rename_i a j
    split at k
    · rename_i hc
      obtain ⟨c1, c2, c3, c4⟩ := hc
      by_cases h2 : 2 ≤ j
      · refine .inr ⟨ms, st, .tup a, .int j, S, rx, ry, ?_⟩
        simp only [opMulX]
        rw [if_pos ⟨c1, h2, c3, c4⟩]
        exact k
      · have rx0 := rx
        simp only [RV] at rx ry
        obtain ⟨p, vs, rfl, h1, h3⟩ := rx
        subst ry
        by_cases hj : j = 1
        · subst hj
          refine .inl (.inl ⟨p, vs, rfl, rfl, by rw [hK]; exact h1.t, ?_⟩)
          have e : (List.replicate (1 : Int).toNat a).flatten = a := by simp
          rw [e] at k
          exact OkO.val S rx0 k
        · obtain rfl : j = 0 := by omega
          have r0 : RVs G ms H ([] : List D) ([] : List V) := by simp [RVs]
          have e0 : (List.replicate (0 : Int).toNat a).flatten = [] := by simp
          rw [e0] at k
          refine .inl (.inr ⟨p, vs, rfl, rfl, by rw [hK]; exact h1.t, fun e => c1 ?_, OkO.tup S r0 k⟩)
          have := h3.length
          rw [e] at this
          exact List.eq_nil_of_length_eq_zero this.symm
    · exact k.elim
  · exact .inr ⟨ms, st, x, y, S, rx, ry, k⟩
/-! ### a[i], b[j] = x, y -/
def sSetV2 (o1 i1 o2 i2 : Nat) (a b : E) : Sm := fun env st => (eArgs [a, b] env st).out env fun ds s => match ds with
  | [x, y] => match env[o1]?, env[i1]?, env[o2]?, env[i2]? with
    | some (some p), some (some i), some (some q), some (some j) => match opSet p i x s with
      | some (_, s1) => match opSet q j y s1 with
        | some (_, s2) => .nx env s2
        | none => .bad
      | none => .bad
    | _, _, _, _ => .bad
  | _ => .bad
theorem set_step {ms : List Addr} {st : Sto} {p i x : D} {vp vi vx : V} {s1 : Sto} (S : SRel G ms st H) (rp : RV G ms H p vp) (ri : RV G ms H i vi) (rx : RV G ms H x vx) (h : opSet p i x st = some ((), s1)) {Q : Hp → Prop} (k : ∀ H', Gr ms H ms H' → SRel G ms s1 H' → Q H') : rSetL vp vi vx H Q := by
  unfold opSet at h
  split at h
  · simp only [RV] at ri
    subst ri
    split at h
    · rename_i ds e2
      obtain ⟨a, vs, rfl, ha, h1, h2⟩ := S.ref e2 rp
      split at h
      · rename_i j e3
        cases h
        obtain ⟨c, _, hc⟩ := S.has ha
        have g : Gr ms H ms (upd H a (.lst (vs.set j vx))) := Gr.cell hc
        exact ⟨a, vs, _, j, rfl, rfl, h1, by rw [h2.length]; exact e3, k _ g (S.put ha ⟨_, upd_same, RVs.gr g _ _ (h2.set j rx)⟩)⟩
      · cases h
    · cases h
  · cases h
theorem s_setV2 {n1 m1 n2 m2 : Str} {o1 i1 o2 i2 : Nat} {a b : Expr} {fa fb : E} {q1 q2 q3 q4 q5 q6 pt pos : Pos} {kt k2 pt2} (hc : X.calm = true) (ha : PA X [a, b] (tA G W (eArgs [fa, fb])))
    (h1 : X.N[o1]? = some n1 := by rfl) (h2 : X.N[i1]? = some m1 := by rfl) (h3 : X.N[o2]? = some n2 := by rfl) (h4 : X.N[i2]? = some m2 := by rfl) (v1 : Vis X.env.scope n1) (v2 : Vis X.env.scope m1) (v3 : Vis X.env.scope n2) (v4 : Vis X.env.scope m2)
    (d1 : (n1 == ("__debug__" : Str)) = false := by decide) (e1 : (n1 == ("__classdict__" : Str)) = false := by decide) (d2 : (m1 == ("__debug__" : Str)) = false := by decide) (e2 : (m1 == ("__classdict__" : Str)) = false := by decide)
    (d3 : (n2 == ("__debug__" : Str)) = false := by decide) (e3 : (n2 == ("__classdict__" : Str)) = false := by decide) (d4 : (m2 == ("__debug__" : Str)) = false := by decide) (e4 : (m2 == ("__classdict__" : Str)) = false := by decide)
    (hn : (assignEach [.Subscript (.Name n1 q1) (.Name m1 q2) q3, .Subscript (.Name n2 q4) (.Name m2 q5) q6] X.env).length = 2 := by rfl) (hst : (assignEach [.Subscript (.Name n1 q1) (.Name m1 q2) q3, .Subscript (.Name n2 q4) (.Name m2 q5) q6] X.env).findIdx? (·.1) = none := by rfl)
    (ha1 : ∀ v, assign (.Subscript (.Name n1 q1) (.Name m1 q2) q3) X.env v = (do
      let ov ← holding [v] (eval (.Name n1 q1) X.env)
      let iv ← holding [v, ov] (eval (.Name m1 q2) X.env)
      standAt q3
      holding [v, ov, iv] (setItem ov iv v)
      release [v, ov, iv] []) := by intro _; rfl)
    (ha2 : ∀ v, assign (.Subscript (.Name n2 q4) (.Name m2 q5) q6) X.env v = (do
      let ov ← holding [v] (eval (.Name n2 q4) X.env)
      let iv ← holding [v, ov] (eval (.Name m2 q5) X.env)
      standAt q6
      holding [v, ov, iv] (setItem ov iv v)
      release [v, ov, iv] []) := by intro _; rfl)
    (hs1 : (assignEach [.Subscript (.Name n1 q1) (.Name m1 q2) q3, .Subscript (.Name n2 q4) (.Name m2 q5) q6] X.env).map (·.2) = assign (.Subscript (.Name n1 q1) (.Name m1 q2) q3) X.env :: (assignEach [.Subscript (.Name n2 q4) (.Name m2 q5) q6] X.env).map (·.2) := by rfl)
    (hs2 : (assignEach [.Subscript (.Name n2 q4) (.Name m2 q5) q6] X.env).map (·.2) = assign (.Subscript (.Name n2 q4) (.Name m2 q5) q6) X.env :: (assignEach [] X.env).map (·.2) := by rfl)
    (hs : swapsWithSole [.Tuple [.Subscript (.Name n1 q1) (.Name m1 q2) q3, .Subscript (.Name n2 q4) (.Name m2 q5) q6] kt pt] (.Tuple [a, b] k2 pt2) pos.line X.env = pure false := by rfl)
    (hw : swappedStores [.Tuple [.Subscript (.Name n1 q1) (.Name m1 q2) q3, .Subscript (.Name n2 q4) (.Name m2 q5) q6] kt pt] (.Tuple [a, b] k2 pt2) X.env = pure none := by rfl)
    (h0 : (assignEach [.Tuple [.Subscript (.Name n1 q1) (.Name m1 q2) q3, .Subscript (.Name n2 q4) (.Name m2 q5) q6] kt pt] X.env).map (·.2) = [assign (.Tuple [.Subscript (.Name n1 q1) (.Name m1 q2) q3, .Subscript (.Name n2 q4) (.Name m2 q5) q6] kt pt) X.env] := by rfl) :
    PS X (.Assign [.Tuple [.Subscript (.Name n1 q1) (.Name m1 q2) q3, .Subscript (.Name n2 q4) (.Name m2 q5) q6] kt pt] (.Tuple [a, b] k2 pt2) pos) (tS G W (sSetV2 o1 i1 o2 i2 fa fb)) :=
  PS_weak (ps_asg (pe_tup ha) (pg_tup hc (pgs_cons (pg_sub (pe_var h1 v1 d1 e1) (pe_var h2 v2 d2 e2) set_list ha1) (pgs_cons (pg_sub (pe_var h3 v3 d3 e3) (pe_var h4 v4 d4 e4) set_list ha2) pgs_nil hs2) hs1) hn hst) hs hw h0) fun K σ H h => by
    refine tX_mono (tX_out (R := RVs G) (k := fun env ds s => match ds with
      | [x, y] => match env[o1]?, env[i1]?, env[o2]?, env[i2]? with
        | some (some p), some (some i), some (some q), some (some j) => match opSet p i x s with
          | some (_, s1) => match opSet q j y s1 with
            | some (_, s2) => .nx env s2
            | none => .bad
          | none => .bad
        | _, _, _, _ => .bad
      | _ => .bad) h) fun vs H1 ⟨ms, st, env, ds, S, r, r1, k⟩ => ?_
    split at k
    · rename_i x y
      split at k
      · rename_i p i q j ep ei eq ej
        split at k
        · rename_i s1 es1
          split at k
          · rename_i s2 es2
            obtain ⟨vx, vy, rfl, rvx, rvy⟩ := r1.two'
            refine ⟨by show 2 ≤ sizeLine; decide, fun t ht => ?_⟩
            have g0 : Gr ms H1 ms (upd H1 t (.tup [vx, vy])) := Gr.new0 ht
            have S0 := S.lay (o := .tup [vx, vy]) ht
            obtain ⟨w1, a1, b1⟩ := r.at ep
            obtain ⟨w2, a2, b2⟩ := r.at ei
            obtain ⟨w3, a3, b3⟩ := r.at eq
            obtain ⟨w4, a4, b4⟩ := r.at ej
            refine ⟨t, [vx, vy], rfl, .inl (.inl upd_same), rfl, vx, [vy], rfl, w1, a1, w2, a2, ?_⟩
            refine set_step S0 (RV.gr g0 _ _ b1) (RV.gr g0 _ _ b2) (RV.gr g0 _ _ rvx) es1 fun H2 g1 S1 => ?_
            have g01 := g0.trans g1
            refine ⟨vy, [], rfl, w3, a3, w4, a4, ?_⟩
            refine set_step S1 (RV.gr g01 _ _ b3) (RV.gr g01 _ _ b4) (RV.gr g01 _ _ rvy) es2 fun H3 g2 S2 => ?_
            exact ⟨rfl, k σ ms H3 (g01.trans g2) S2 (r.gr (g01.trans g2))⟩
          · exact k.elim
        · exact k.elim
      · exact k.elim
    · exact k.elim
/-! ### a def whose code object is known -/
theorem fn_okC {P : Program} {w : World} {mg : Str → Option Value} {base : Heap} {x qual : Str} {st : Stmt} {f c : Addr} {oc kV doc pm ct : Value} {od an : Option Addr} {osl : Array (Option Value)} {N ps : List Str} {k : Nat} {body : Sm}
    (lk : G.K.lookup f = some ⟨oc, od, .func (PySem.W.fnOf x qual (defArgs st) (defBody st) (defScope st) .none kV doc pm an (.ref c) ct), osl⟩) (hcd : PySem.W.codeIn G.K (.ref c) qual = true) (S : FnScope N ps (defScope st))
    (hb : ∀ (A : Around) (outer : List Env) (s : Shared) (H : Hp) (E : XK), Room k (A.deeper (envOfC qual (defScope st) s.heap.objs.size f (.ref c))) →
      PSs (cxOf (L2.CX P w) P w G.K mg base N qual (defScope st) f (.ref c) A outer s H E) (defBody st) (tS G (fun cls d _ H => E cls d H) body)) :
    FnOk P w G.K mg base (L2.CX P w) (k + 1) f (PySem.W.fnOf x qual (defArgs st) (defBody st) (defScope st) .none kV doc pm an (.ref c) ct) ps (spF G (fnS ps.length N.length body)) := by
  have hlen : ∀ vs H Q E, spF G (fnS ps.length N.length body) vs H Q E → vs.length = ps.length := by
    rintro vs H Q E ⟨ms, st, ds, S1, r, q⟩
    unfold fnS at q
    split at q
    · rename_i hl
      rw [r.length, hl]
    · exact q.elim
  refine L2.fn_of lk hcd S hlen fun A outer s H vs Q E hr h => ⟨_, hb A outer s H E hr, ?_⟩
  have hl := hlen vs H Q E h
  obtain ⟨ms, st1, ds, S1, r, q⟩ := h
  have hl2 : ds.length = ps.length := by rw [← r.length]; exact hl
  unfold fnS at q
  rw [if_pos hl2] at q
  refine ⟨ms, st1, ds.map some ++ List.replicate (N.length - ps.length) none, S1, ?_, ?_⟩
  · unfold L2.start
    rw [hl]
    exact RE.start _ r
  · cases e : body (ds.map some ++ List.replicate (N.length - ps.length) none) st1 with
    | nx e1 s1 =>
      rw [e] at q
      exact fun σ' m1 H1 g1 S1 _ => q .non m1 H1 g1 S1 (by simp only [RV])
    | rt d s1 =>
      rw [e] at q
      exact q
    | exn c fs e1 s1 =>
      rw [e] at q
      exact fun od σ' m1 H1 g1 S1 _ x1 => q od m1 H1 g1 S1 x1
    | bk e1 s1 => rw [e] at q; exact q.elim
    | ct e1 s1 => rw [e] at q; exact q.elim
    | bad => rw [e] at q; exact q.elim
end
/-! ### the end, with a table -/
def spLawT (K : PySem.W.Frag) (c : Addr) : Sp := fun vs H Q _ => ∃ (a : Addr) (ns : List Int), vs = [.ref a] ∧ ns.length ≤ 63 ∧ H c = some (.tbl #[]) ∧ SqL K H a (ns.map V.int) ∧ ∀ H', Q (.bl true) H'
theorem end_okT {K : PySem.W.Frag} {tb : Nat → Addr} {P : Program} {w : World} {mg : Str → Option Value} {base : Heap} {k : Nat} {f c : Addr} {q : Str} {fd : FuncData} {g : F} (h : FnOk P w K mg base (L2.CX P w) k f fd ["script"] (spF ⟨K, tb, none, [(c, q)]⟩ g))
    (hg : ∀ ns : List Int, ns.length ≤ 63 → ∀ d st, ((d = .scr ns ∧ st = []) ∨ (d = .ref 0 ∧ st = [.lst (ns.map D.int)])) → ∃ s, g [d] st = .ok (.bl true) s) : FnOk P w K mg base (L2.CX P w) k f fd ["script"] (spLawT K c) := h.imp fun vs H Q E qq => by
  obtain ⟨a, ns, rfl, hl, hT, hS, qq⟩ := qq
  have tabs : LamX.Tabs [(c, q)] H := fun p hp => by
    rw [List.mem_singleton.mp hp]
    exact LamX.TabS.nil hT
  have fin : ∀ (ms : List Addr) (d : D) (st : Sto), ((d = .scr ns ∧ st = []) ∨ (d = .ref 0 ∧ st = [.lst (ns.map D.int)])) → SRel ⟨K, tb, none, [(c, q)]⟩ ms st H → RV ⟨K, tb, none, [(c, q)]⟩ ms H d (.ref a) → spF ⟨K, tb, none, [(c, q)]⟩ g [.ref a] H Q E := fun ms d st hd S r => by
    obtain ⟨s, e⟩ := hg ns hl d st hd
    refine ⟨ms, st, [d], S, RVs.one r, ?_⟩
    rw [e]
    intro v m1 H1 _ _ r
    simp only [RV] at r
    subst r
    exact qq H1
  rcases hS with (hS | ⟨o, hS⟩) | hS
  · refine fin [a] (.ref 0) _ (.inr ⟨rfl, rfl⟩) ⟨rfl, by simp, fun i b cl h1 h2 => ?_, (fun a d fs z => by cases z), tabs⟩ ?_
    · cases i with
      | zero =>
        simp at h1 h2
        subst h1 h2
        exact ⟨_, hS, RVs.ints ns⟩
      | succ i => simp at h1
    · simp only [RV]
      exact ⟨a, rfl, rfl⟩
  · refine fin [] (.scr ns) [] (.inl ⟨rfl, rfl⟩) ⟨rfl, List.nodup_nil, (fun i a c h _ => by simp at h), (fun a d fs z => by cases z), tabs⟩ ?_
    simp only [RV]
    exact ⟨a, rfl, .inl ⟨o, hS⟩⟩
  · refine fin [] (.scr ns) [] (.inl ⟨rfl, rfl⟩) ⟨rfl, List.nodup_nil, (fun i a c h _ => by simp at h), (fun a d fs z => by cases z), tabs⟩ ?_
    simp only [RV]
    exact ⟨a, rfl, .inr hS⟩
end LF

set_option Elab.async false
set_option linter.all false
set_option maxRecDepth 100000
set_option maxHeartbeats 4000000
/-! a call of a variable that holds one of two defs -/
namespace LF
open PySem PySem.Spec PyProof.Rows L2
section
variable {G : Gx} {W : WX} {X : Cx} {σ : L2.St} {H : Hp}
theorem pe_callLS {CX : CXT} {k i : Nat} {f : Addr} {fd : FuncData} {ps : List Str} {sp : Sp} {E : L2.St → XK} {x : Str} {p pos : Pos} {e : Expr} {es : List Expr} {t : TA} (F : FnOk X.prog X.w X.K X.mg X.base CX k f fd ps sp) (hr : Room k X.A) (hN : X.N[i]? = some x) (hv : Vis X.env.scope x) (hk : PySem.W.keepIn X.K (.ref f) = true) (hb : Binds X.K fd ps []) (hx : ∀ σ, PassesAt CX X σ (E σ))
    (ha : PA X (e :: es) t) (hdb : (x == ("__debug__" : Str)) = false := by decide) (hcd : (x == ("__classdict__" : Str)) = false := by decide) (he : starEach (e :: es) X.env = (false, eval e X.env) :: starEach es X.env := by rfl) (hpl : (backTo pos (starEach es X.env)).any (·.1) = false := by rfl) :
    PE X (.Call (.Name x p) (e :: es) [] pos) (fun σ H Q => σ[i]? = some (some (.ref f)) ∧ tCallS sp E t σ H Q) := by
  refine ⟨fun pins s σ H Q I h => ?_⟩
  obtain ⟨hs, ht⟩ := h
  refine wpAny_Call_Name_kw (thn ((pe_var (pos := p) hN hv hdb hcd).run pins s σ H (fun v H1 => v = .ref f ∧ H1 = H) I ⟨.ref f, hs, rfl, rfl⟩) fun u s1 ⟨v, H1, I1, r1, q1⟩ => ?_)
  obtain ⟨rfl, rfl⟩ := q1
  cases r1
  refine PySem.W.callWith_K (h₀ := X.base) I.ok.mod.kin hk (thn (ha.run pos pins s1 σ _ _ I1 ht) fun us s2 ⟨vs, H2, I2, r, q⟩ => ⟨I2.kIn, ?_⟩) he hpl
  exact run_fnS F hr hb (hx σ) I2 r q
theorem PE_or {e : Expr} {t1 t2 : TE} (h1 : PE X e t1) (h2 : PE X e t2) : PE X e (fun σ H Q => t1 σ H Q ∨ t2 σ H Q) :=
  ⟨fun pins s σ H Q I h => h.elim (h1.run pins s σ H Q I) (h2.run pins s σ H Q I)⟩
def eCallV (i n1 n2 : Nat) (g1 g2 : F) (as : List E) : E := fun env st => match env[i]? with
  | some (some (.glo n)) => if n = n1 then eCall g1 as env st else if n = n2 then eCall g2 as env st else .bad
  | _ => .bad
theorem e_callV {k j1 j2 i n1 n2 : Nat} {f1 f2 : Addr} {fd1 fd2 : FuncData} {ps1 ps2 : List Str} {x : Str} {p pos : Pos} {e : Expr} {es : List Expr} {g1 g2 : F} {fs : List E} (T1 : FnOk X.prog X.w X.K X.mg X.base (L2.CX X.prog X.w) j1 f1 fd1 ps1 (spF G g1)) (T2 : FnOk X.prog X.w X.K X.mg X.base (L2.CX X.prog X.w) j2 f2 fd2 ps2 (spF G g2)) (hr : Room k X.A)
    (e1 : G.tb n1 = f1) (e2 : G.tb n2 = f2) (hN : X.N[i]? = some x) (hv : Vis X.env.scope x) (k1 : PySem.W.keepIn X.K (.ref f1) = true) (k2 : PySem.W.keepIn X.K (.ref f2) = true) (b1 : Binds X.K fd1 ps1 []) (b2 : Binds X.K fd2 ps2 []) (tk : Takes X W) (ha : PA X (e :: es) (tA G W (eArgs fs)))
    (h1 : j1 ≤ k := by decide) (h2 : j2 ≤ k := by decide) (hdb : (x == ("__debug__" : Str)) = false := by decide) (hcd : (x == ("__classdict__" : Str)) = false := by decide)
    (he : starEach (e :: es) X.env = (false, eval e X.env) :: starEach es X.env := by rfl) (hpl : (backTo pos (starEach es X.env)).any (·.1) = false := by rfl) :
    PE X (.Call (.Name x p) (e :: es) [] pos) (tE G W (eCallV i n1 n2 g1 g2 fs)) :=
  PE_weak (PE_or (pe_callLS (i := i) (E := WE W) T1 (hr.mono h1) hN hv k1 b1 (fun σ => passAt tk σ) ha hdb hcd he hpl) (pe_callLS (i := i) (E := WE W) T2 (hr.mono h2) hN hv k2 b2 (fun σ => passAt tk σ) ha hdb hcd he hpl)) fun σ H Q h => by
    obtain ⟨ms, st, env, S, r, q⟩ := h
    unfold eCallV at q
    split at q
    · rename_i n en
      obtain ⟨w, a, b⟩ := r.at en
      simp only [RV] at b
      split at q
      · rename_i hn
        rw [hn, e1] at b
        subst b
        exact .inl ⟨a, call_tCall ⟨ms, st, env, S, r, q⟩⟩
      · split at q
        · rename_i hn
          rw [hn, e2] at b
          subst b
          exact .inr ⟨a, call_tCall ⟨ms, st, env, S, r, q⟩⟩
        · exact q.elim
    · exact q.elim
end
end LF

set_option Elab.async false
set_option linter.all false
set_option maxRecDepth 100000
set_option maxHeartbeats 4000000
/-! enumerate of a tuple -/
namespace LF
open PySem PySem.Spec PyProof.Rows L2
open AutoSeq1 (wpAny_loadPart')
theorem meets_enumT (l : Addr) (items : Array Value) (n : Nat) (dct : Option Addr) (sl : Array (Option Value)) :
    Meets (Builtin.«enumerate.__new__» ⟨[.type "enumerate", .ref l], []⟩) (fun _ R s => s.heap.get? l = some { cls := .type "tuple", dict := dct, data := .seq items n, slots := sl } ∧
      R (.ok (.ret (.ref (s.heap.push { cls := .type "tuple_iterator", data := .fields #[.ref l, .int 0 0] }).objs.size)))
        { s with heap := (s.heap.push { cls := .type "tuple_iterator", data := .fields #[.ref l, .int 0 0] }).push { cls := .type "enumerate", data := .fields #[.none, .bool false, .ref s.heap.objs.size, rawInt 0, .none, .none] } }) :=
  .of_wp fun prog w A R s h => by
    obtain ⟨hp, g, d, tk, os⟩ := s; obtain ⟨hl, h⟩ := h
    have hsub := sub_enumerate
    have hL : Heap.IsTuple (Shared.heap ⟨hp, g, d, tk, os⟩) l items := ⟨_, hl, rfl, n, rfl⟩
    wp_walk using wpAny_loadPart' hl
    refine wpAny_stack_any fun st => wpAny_pure ?_
    split
    · rename_i c _ _ _ _ _
      cases (c == Value.type "enumerate")
      · wp_walk using wpAny_loadPart' hl, wpAny_pyIter_tuple hL
        exact ⟨_, rfl, h⟩
      · wp_walk using wpAny_loadPart' hl, wpAny_pyIter_tuple hL
        exact ⟨_, rfl, h⟩
    · wp_walk using wpAny_loadPart' hl, wpAny_pyIter_tuple hL
      exact ⟨_, rfl, h⟩
theorem call_enumT {prog : Program} {w : World} {A : Around} {E : Value → Shared → Prop} {s : Shared} {l : Addr} {items : Array Value} {Q : Value → Shared → Prop} (hL : s.heap.IsTuple l items)
    (h : ∀ h', IsEnum h' (s.heap.objs.size + 1) s.heap.objs.size 0 .none → h'.IsTupleIter s.heap.objs.size l 0 → h'.objs.size = s.heap.objs.size + 2 →
      (∀ b o, s.heap.get? b = some o → h'.get? b = some o) → Q (.ref (s.heap.objs.size + 1)) { s with heap := h' }) :
    wpAny (model prog w) A (call (.type "enumerate") [.ref l]) Q E s := by
  obtain ⟨⟨c, dct, dt, sl⟩, hl, hc, n, hd⟩ := hL
  replace hc : c = .type "tuple" := hc
  replace hd : dt = .seq items n := hd
  subst hc hd
  refine callType_new F.called_enumerate (by decide) (F.typeCall_enumerate_1 _) (F.newCall_enumerate_1 _) (fun obj => F.args_object_init_2 obj _) F.entry_enumerate_new
    (meets_enumT l items n dct sl) ⟨hl, ?_⟩
  have hz : (s.heap.push { cls := .type "tuple_iterator", data := .fields #[.ref l, .int 0 0] }).objs.size = s.heap.objs.size + 1 := Heap.size_push ..
  show _ ∧ _
  rw [hz]
  have he : IsEnum ((s.heap.push { cls := .type "tuple_iterator", data := .fields #[.ref l, .int 0 0] }).push
      { cls := .type "enumerate", data := .fields #[.none, .bool false, .ref s.heap.objs.size, rawInt 0, .none, .none] }) (s.heap.objs.size + 1) s.heap.objs.size 0 .none := by
    have := Heap.get?_push_size (s.heap.push { cls := .type "tuple_iterator", data := .fields #[.ref l, .int 0 0] })
      (o := { cls := .type "enumerate", data := .fields #[.none, .bool false, .ref s.heap.objs.size, rawInt 0, .none, .none] }) rfl
    rw [hz] at this; exact this
  refine ⟨⟨_, he, rfl⟩, h _ he ⟨_, Heap.get?_push_of_some _ (Heap.get?_push_size _ rfl), rfl, rfl⟩ (by rw [Heap.size_push, hz]) fun b o x => Heap.get?_push_of_some _ (Heap.get?_push_of_some _ x)⟩
/-- the tuple at a, each item in a new pair -/
def IteT (K : PySem.W.Frag) (a : Addr) : It :=
  ⟨fun i H => ∃ (xs : List V) (x : V), SqT K H a xs ∧ xs[i]? = some x, fun i H v H' => ∃ T x, v = .ref T ∧ H T = none ∧ H' = upd H T (.tup [.int (i : Nat), x]) ∧ ∀ xs, SqT K H a xs → xs[i]? = some x, fun i H => ∃ xs : List V, SqT K H a xs ∧ xs.length ≤ i⟩
theorem turn_enumT {P : Program} {w : World} {K : PySem.W.Frag} {elts : List Expr} {kk : Nat} {tpos : Pos} (a e it : Addr) :
    Turn P w K (.Tuple elts kk tpos) (IteT K a) [e, it] e (fun i h => (∃ old, IsEnum h e it ((i : Nat) : Int) old) ∧ h.IsTupleIter it a i ∧ e ≠ it) where
  mem := by simp
  obj := fun i h st b hb => by
    obtain ⟨⟨old, he⟩, ⟨o, ho, hc, hd⟩, _⟩ := st
    have e' : b = e ∨ b = it := by simpa using hb
    rcases e' with z | z
    · rw [z]; exact ⟨_, he, fun v q => nomatch q⟩
    · rw [z]; exact ⟨o, ho, fun v q => by rw [hd] at q; cases q⟩
  keep := fun i h h' st k => let ⟨⟨old, he⟩, hi, hne⟩ := st; ⟨⟨old, k e (by simp) _ he⟩, hi.at fun o q => k it (by simp) o q, hne⟩
  item := by
    intro X hP hw hK hc i pins s σ H E I hf st hg
    subst hP hw hK
    obtain ⟨⟨old, he⟩, hit, hne⟩ := st
    obtain ⟨xs, x, hq, hx⟩ := hg
    obtain ⟨its, rv, p, hz⟩ := I.tuple hq
    obtain ⟨u, hu, ru⟩ := rv.get hx
    have hel : e < s.heap.objs.size := Heap.lt_size he
    have hil : it < s.heap.objs.size := by obtain ⟨_, q, _⟩ := hit; exact Heap.lt_size q
    have hT : s.heap.IsTuple a its.toArray := p
    have hai : a ≠ it := fun z => by
      obtain ⟨o, ho, hc1, _⟩ := hT
      obtain ⟨o2, ho2, hc2, _⟩ := hit
      rw [z, ho2] at ho
      cases ho
      rw [hc2] at hc1
      exact absurd hc1 (by simp)
    have hae : e ∉ [it, a] := fun z => by
      simp only [List.mem_cons, List.not_mem_nil, or_false] at z
      rcases z with z | z
      · exact hne z
      · obtain ⟨o, ho, hc1, _⟩ := hT
        rw [← z, he] at ho
        cases ho
        exact absurd hc1 (by simp)
    refine wpAny_pyNext_enum_itemD (Draws.tuple (A := X.A.in1) (I.ok.hd hc) it a hai its.toArray) he ⟨hit, hT⟩ (i := i) (by have := (List.getElem?_eq_some_iff.mp hu).1; simpa using this) hne hae fun u' h' tk hu' ho hit' hT' hsz hk => ?_
    have eu : u' = u := by
      have hu' : its.toArray[i]? = some u' := hu'
      rw [List.getElem?_toArray, hu] at hu'
      exact (Option.some.inj hu').symm
    subst eu
    refine ⟨_, rfl, wpAny_letOwnedTupleGo_enum (s := { s with heap := h', toks := tk + 1 }) ho fun h'' he' sb => ?_⟩
    have hT2 : h''.get? s.heap.objs.size = some { cls := .type "tuple", data := .seq #[.int i tk, u'] } := (sb.2 _ (Nat.ne_of_gt hel)).trans hT'
    have new : ObjOk X.prog X.w (upd H s.heap.objs.size (.tup [.int (i : Nat), x])) h'' s.heap.objs.size (.tup [.int (i : Nat), x]) :=
      ⟨by show 2 ≤ sizeLine; decide, [.int i tk, u'], .cons ⟨_, rfl⟩ (.cons ru .nil), ⟨_, hT2, rfl, _, rfl⟩⟩
    have I1 : Inv X pins σ (upd H s.heap.objs.size (.tup [.int (i : Nat), x])) { s with heap := h'', toks := tk + 1 } :=
      I.turnedNew (ch := [e, it]) (fun b ob hb q => (sb.2 b (fun z => hb (by simp [z]))).trans (hk b ob (fun z => hb (by simp [z])) (fun z => hb (by simp [z])) q)) hf (Nat.le_refl _) new
    refine ⟨.ref s.heap.objs.size, _, I1, rfl, ⟨_, x, rfl, I.hok.fresh (Nat.le_refl _), rfl, fun ys hy => by rw [I.tuple_inj hy hq]; exact hx⟩, ⟨⟨u', ?_⟩, hit'.1.at fun o q => (sb.2 it (Ne.symm hne)).trans q, hne⟩, fun b hb => ?_⟩
    · have e1 : ((i + 1 : Nat) : Int) = (i : Int) + 1 := by omega
      rw [e1]; exact he'
    · have hb' : b < s.heap.objs.size := by
        have e' : b = e ∨ b = it := by simpa using hb
        rcases e' with z | z
        · rw [z]; exact hel
        · rw [z]; exact hil
      rw [upd_ne (Nat.ne_of_lt hb')]
      exact (hf b hb).1
  done := by
    intro X hP hw hK hc i pins s σ H E I hf st hg
    subst hP hw hK
    obtain ⟨⟨old, he⟩, hit, hne⟩ := st
    obtain ⟨xs, hq, hx⟩ := hg
    obtain ⟨its, rv, p, hz⟩ := I.tuple hq
    obtain ⟨f0, f1, f2, f3, f4, f5⟩ := hf it (by simp)
    have hl := rv.length
    have hT : s.heap.IsTuple a its.toArray := p
    have hTy : s.TypeIs (.ref e) "enumerate" := ⟨_, he, rfl⟩
    unfold pyNext
    refine wpAny_bind (wpAny_attempt (wpAny_callSpecial?_slot (name := Str.ofString "__next__") hTy F.slot_enumerate_next
      (wpAny_call_entry F.slot_enumerate_next hTy F.entry_enumerate_next ?_ (F.args_enumerate_next_1 _))))
    show wpAny _ _ (field (.ref e) 2 >>= _) _ _ _
    refine wpAny_bind (wpAny_field he rfl (x := .ref it) rfl ?_)
    refine wpAny_bind (wpAny_nextOf_tuple_end (I.ok.hd hc) hit hT (by simp; omega) fun h' x he' hx' => ?_)
    obtain ⟨o, ho, hc'⟩ := hx'
    refine wpAny_bind (wpAny_isInstance (T := "StopIteration") (b := true) ⟨o, ho, hc'⟩ isSubtype_stop ?_)
    exact wpAny_pure ⟨rfl, I.turned (t' := s.toks) (fun b o hb q => he' b o hb q) f0 f1 f3 f4 f5⟩
  self := fun A i s Q E st h => let ⟨⟨_, he⟩, _⟩ := st; wpAny_pyIter_enum he h
def iEnumLT (K : PySem.W.Frag) (ta : TA) : TI := fun σ H R => ta σ H fun vs H1 => ∃ a, vs = [.ref a] ∧ (((∃ xs, SqL K H1 a xs) ∧ R (Ite K a) H1) ∨ ((∃ xs, SqT K H1 a xs) ∧ R (IteT K a) H1))
theorem pi_enumLT {X : Cx} {e : Expr} {ta : TA} {p pos tpos : Pos} {elts : List Expr} {kk : Nat} (hg : Gl X "enumerate") (hm : X.mg "enumerate" = none) (ha : PA X [e] ta) (hs : starEach [e] X.env = [(false, eval e X.env)] := by rfl) :
    PI X (.Tuple elts kk tpos) (.Call (.Name "enumerate" p) [e] [] pos) (iEnumLT X.K ta) := by
  refine ⟨fun pins s σ H R I h => ?_⟩
  refine Call_ (ld_blt I hg hm boot_enumerate (PyProof.Rows.callWith_type1 (thn (ha.run pos pins s σ H _ I h) fun us s1 ⟨vs, H1, I1, r1, q1⟩ => ?_) hs rfl))
  obtain ⟨a, ex, q⟩ := q1
  subst ex
  cases r1 with
  | cons r rr =>
    cases rr
    cases r
    have fin : ∀ b, b ∈ [s1.heap.objs.size + 1, s1.heap.objs.size] → s1.heap.objs.size ≤ b := fun b hb => by
      have e' : b = s1.heap.objs.size + 1 ∨ b = s1.heap.objs.size := by simpa using hb
      rcases e' with z | z
      · rw [z]; exact Nat.le_add_right _ _
      · rw [z]; exact Nat.le_refl _
    rcases q with ⟨⟨xs, hq⟩, q⟩ | ⟨⟨xs, hq⟩, q⟩
    · obtain ⟨its, rv, p', hz⟩ := I1.list hq
      refine call_enumerate_list p'.isList fun h' he hit hsz hk => wpAny_pyIter_enum he ?_
      have I2 : Inv X pins σ H1 { s1 with heap := h' } := I1.kept (t' := s1.toks) hk
      exact ⟨s1.heap.objs.size + 1, [s1.heap.objs.size + 1, s1.heap.objs.size], _, _, H1, rfl, I2, turn_enum a (s1.heap.objs.size + 1) s1.heap.objs.size, ⟨⟨.none, he⟩, hit, Nat.succ_ne_self _⟩, fun b hb => I1.fpOk (fin b hb) (I1.hok.fresh (fin b hb)), q⟩
    · obtain ⟨its, rv, p', hz⟩ := I1.tuple hq
      refine call_enumT p' fun h' he hit hsz hk => wpAny_pyIter_enum he ?_
      have I2 : Inv X pins σ H1 { s1 with heap := h' } := I1.kept (t' := s1.toks) hk
      exact ⟨s1.heap.objs.size + 1, [s1.heap.objs.size + 1, s1.heap.objs.size], _, _, H1, rfl, I2, turn_enumT a (s1.heap.objs.size + 1) s1.heap.objs.size, ⟨⟨.none, he⟩, hit, Nat.succ_ne_self _⟩, fun b hb => I1.fpOk (fin b hb) (I1.hok.fresh (fin b hb)), q⟩
section
variable {G : Gx} {W : WX} {X : Cx} {σ : L2.St} {H : Hp}
/-- enumerate of a list or a tuple -/
def iEnX (a : E) : Sl → M Its := fun env st => (eArgs [a] env st).bind fun ds s => match ds with
  | [.ref i] => match s[i]? with
    | some (.lst ds) => .ok ⟨enumI ds, some (i, ds)⟩ s
    | _ => .bad
  | [.tup ds] => .ok ⟨enumI ds, none⟩ s
  | _ => .bad
theorem enum_len' {ds : List D} : (enumI ds).length = ds.length := by simp [enumI]
theorem i_enumX {e : Expr} {p pos tpos : Pos} {elts : List Expr} {kk : Nat} {fe : E} (hK : X.K = G.K) (hm : X.mg "enumerate" = none) (ha : PA X [e] (tA G W (eArgs [fe]))) (hg : Gl X "enumerate" := by rfl) (hs : starEach [e] X.env = [(false, eval e X.env)] := by rfl) :
    PI X (.Tuple elts kk tpos) (.Call (.Name "enumerate" p) [e] [] pos) (tI G W (iEnX fe)) :=
  PI_weak (pi_enumLT hg hm ha hs) fun σ H R h => tX_mono (tX_bind h) fun vs H1 ⟨ms, st, env, ds, S, r, r1, k⟩ => by
    rw [hK]
    split at k
    · rename_i i
      obtain ⟨v, rfl, rv⟩ := r1.one'
      split at k
      · rename_i ds e1
        obtain ⟨a, vs, rfl, ha, h1, h2⟩ := S.ref e1 rv
        refine ⟨a, rfl, .inl ⟨⟨vs, SqL.of h1⟩, k _ ms H1 Gr.refl S fun j ms' H' st' g S' ok => ?_⟩⟩
        obtain ⟨b, us, hb, h3, h4⟩ := S'.lst (ok i ds rfl)
        rw [g.at ha] at hb
        cases hb
        have hl : (enumI ds).length = ds.length := enum_len'
        have hul := h4.length
        refine ⟨fun hj => ?_, fun hj => ⟨us, SqL.of h3, by
          have hj : (enumI ds).length ≤ j := hj
          omega⟩⟩
        have hj : j < (enumI ds).length := hj
        have hj' : j < us.length := by omega
        refine ⟨⟨us, us[j], SqL.of h3, by simp [hj']⟩, fun x H2 y => ?_⟩
        obtain ⟨T, w, rfl, hT, rfl, hw⟩ := y
        have e5 := hw us (SqL.of h3)
        obtain ⟨d, e6, r6⟩ := h4.back e5
        refine ⟨.tup [.int (j : Int), d], by simp [enumI, e6], Gr.new0 hT, S'.lay hT, ?_⟩
        simp only [RV]
        refine ⟨T, _, rfl, .inl upd_same, ?_⟩
        simp only [RVs]
        exact ⟨_, _, rfl, by simp only [RV], _, _, rfl, RV.gr (Gr.new0 hT) _ _ r6, rfl⟩
      · exact k.elim
    · rename_i ds
      obtain ⟨v, rfl, rv⟩ := r1.one'
      simp only [RV] at rv
      obtain ⟨a, us, rfl, h1, h2⟩ := rv
      refine ⟨a, rfl, .inr ⟨⟨us, h1.t⟩, k _ ms H1 Gr.refl S fun j ms' H' st' g S' ok => ?_⟩⟩
      have h3 := g.sqT' h1
      have h4 := RVs.gr g _ _ h2
      have hl : (enumI ds).length = ds.length := enum_len'
      have hul := h4.length
      refine ⟨fun hj => ?_, fun hj => ⟨us, h3, by
        have hj : (enumI ds).length ≤ j := hj
        omega⟩⟩
      have hj : j < (enumI ds).length := hj
      have hj' : j < us.length := by omega
      refine ⟨⟨us, us[j], h3, by simp [hj']⟩, fun x H2 y => ?_⟩
      obtain ⟨T, w, rfl, hT, rfl, hw⟩ := y
      have e5 := hw us h3
      obtain ⟨d, e6, r6⟩ := h4.back e5
      refine ⟨.tup [.int (j : Int), d], by simp [enumI, e6], Gr.new0 hT, S'.lay hT, ?_⟩
      simp only [RV]
      refine ⟨T, _, rfl, .inl upd_same, ?_⟩
      simp only [RVs]
      exact ⟨_, _, rfl, by simp only [RV], _, _, rfl, RV.gr (Gr.new0 hT) _ _ r6, rfl⟩
    · exact k.elim
end
end LF

set_option Elab.async false
set_option linter.all false
namespace LF
open PySem PySem.Spec PyProof.Rows L2
/-! ### promises of results, in plain Lean -/
abbrev XP := Nat → List (String × D) → Sto → Prop
def WpD {α : Type} (X : XP) (Q : α → Sto → Prop) : Res α → Prop
  | .ok a s => Q a s
  | .exn c fs s => X c fs s
  | .bad => False
/-- shut: a unifier that looks into it walks the whole def -/
structure Wp {α : Type} (X : XP) (Q : α → Sto → Prop) (r : Res α) : Prop where
  out : WpD X Q r
def WoD {α : Type} (Q : α → Sto → Prop) : Option (α × Sto) → Prop
  | some (a, s) => Q a s
  | none => False
structure Wo {α : Type} (Q : α → Sto → Prop) (r : Option (α × Sto)) : Prop where
  out : WoD Q r
structure Ks where
  nx : Sl → Sto → Prop
  rt : D → Sto → Prop
  bk : Sl → Sto → Prop
  ct : Sl → Sto → Prop
  ex : Nat → List (String × D) → Sl → Sto → Prop
def OwpD (K : Ks) : Out → Prop
  | .nx e s => K.nx e s
  | .rt d s => K.rt d s
  | .bk e s => K.bk e s
  | .ct e s => K.ct e s
  | .exn c fs e s => K.ex c fs e s
  | .bad => False
structure Owp (K : Ks) (r : Out) : Prop where
  out : OwpD K r
/-- behind a first statement -/
def Ks.seq (K : Ks) (b : Sm) : Ks := ⟨fun e s => Owp K (b e s), K.rt, K.bk, K.ct, K.ex⟩
/-- in a loop -/
def Ks.loop (K : Ks) (I : Sl → Sto → Prop) : Ks := ⟨I, K.rt, K.nx, I, K.ex⟩
/-- of a def -/
def Ks.fn (X : XP) (Q : D → Sto → Prop) : Ks := ⟨fun _ s => Q .non s, Q, fun _ _ => False, fun _ _ => False, fun c fs _ s => X c fs s⟩
section
variable {α β : Type} {X X' : XP} {Q Q' : α → Sto → Prop} {env : Sl} {st : Sto} {K : Ks}
theorem wp_ok {a : α} {s : Sto} : Wp X Q (.ok a s) = Q a s := propext ⟨fun h => h.out, fun h => ⟨h⟩⟩
theorem wp_exn {c : Nat} {fs : List (String × D)} {s : Sto} : Wp X Q (.exn c fs s) = X c fs s := propext ⟨fun h => h.out, fun h => ⟨h⟩⟩
theorem wp_bad : Wp X Q .bad = False := propext ⟨fun h => h.out, fun h => ⟨h⟩⟩
theorem wo_some {a : α} {s : Sto} : Wo Q (some (a, s)) = Q a s := propext ⟨fun h => h.out, fun h => ⟨h⟩⟩
theorem wo_none : Wo Q none = False := propext ⟨fun h => h.out, fun h => ⟨h⟩⟩
theorem wp_ofO {o : Option (α × Sto)} : Wp X Q (ofO o) = Wo Q o := by
  cases o with
  | none => exact wp_bad.trans wo_none.symm
  | some p => exact wp_ok.trans wo_some.symm
theorem wp_bind {r : Res α} {f : α → Sto → Res β} {Q : β → Sto → Prop} : Wp X Q (r.bind f) = Wp X (fun a s => Wp X Q (f a s)) r := by
  cases r with
  | ok a s => rw [wp_ok]; rfl
  | exn c fs s => rw [wp_exn]; exact wp_exn
  | bad => rw [wp_bad]; exact wp_bad
theorem Wp.imp {r : Res α} (h : Wp X Q r) (hq : ∀ a s, Q a s → Q' a s) (hx : ∀ c fs s, X c fs s → X' c fs s) : Wp X' Q' r := by
  refine ⟨?_⟩
  have h := h.out
  cases r with
  | ok a s => exact hq _ _ h
  | exn c fs s => exact hx _ _ _ h
  | bad => exact h
theorem Wp.mono {r : Res α} (h : Wp (fun _ _ _ => False) Q r) (hq : ∀ a s, Q a s → Q' a s) : Wp X Q' r := h.imp hq fun _ _ _ z => z.elim
theorem Wp.to {r : Res α} (h : Wp (fun _ _ _ => False) Q r) : ∃ a s, r = .ok a s ∧ Q a s := by
  have h := h.out
  cases r with
  | ok a s => exact ⟨a, s, rfl, h⟩
  | exn c fs s => exact h.elim
  | bad => exact h.elim
theorem Wo.mono {o : Option (α × Sto)} (h : Wo Q o) (hq : ∀ a s, Q a s → Q' a s) : Wo Q' o := by
  refine ⟨?_⟩
  have h := h.out
  rcases o with _ | ⟨a, s⟩
  · exact h
  · exact hq _ _ h
theorem wp_ext {Q Q' : α → Sto → Prop} {r : Res α} (h : ∀ a s, Q a s = Q' a s) : Wp X Q r = Wp X Q' r := by
  cases r
  · rw [wp_ok, wp_ok]; exact h _ _
  · rw [wp_exn, wp_exn]
  · rw [wp_bad, wp_bad]
theorem wo_ext {Q Q' : α → Sto → Prop} {r : Option (α × Sto)} (h : ∀ a s, Q a s = Q' a s) : Wo Q r = Wo Q' r := by
  rcases r with _ | ⟨_, _⟩
  · rw [wo_none, wo_none]
  · rw [wo_some, wo_some]; exact h _ _
/-! expressions -/
theorem wp_c {d : D} {Q : D → Sto → Prop} : Wp X Q (eC d env st) = Q d st := wp_ok
theorem wp_var {i : Nat} {Q : D → Sto → Prop} : Wp X Q (eVar i env st) = Wp X Q (match env[i]? with | some (some d) => .ok d st | _ => .bad) := by
  unfold eVar
  congr 1
theorem eVar_of {i : Nat} {d : D} (h : env[i]? = some (some d)) : eVar i env st = .ok d st := by simp [eVar, h]
theorem wp_bin {op : D → D → O D} {a b : E} {Q : D → Sto → Prop} : Wp X Q (eBin op a b env st) = Wp X (fun x s => Wp X (fun y s' => Wo Q (op x y s')) (b env s)) (a env st) := by unfold eBin; rw [wp_bind]; exact wp_ext fun x s => by rw [wp_bind]; exact wp_ext fun y s => wp_ofO
theorem wp_un {op : D → O D} {a : E} {Q : D → Sto → Prop} : Wp X Q (eUn op a env st) = Wp X (fun x s => Wo Q (op x s)) (a env st) := by unfold eUn; rw [wp_bind]; exact wp_ext fun x s => wp_ofO
theorem wp_nil {Q : List D → Sto → Prop} : Wp X Q (eArgs [] env st) = Q [] st := wp_ok
theorem wp_cons {a : E} {as : List E} {Q : List D → Sto → Prop} : Wp X Q (eArgs (a :: as) env st) = Wp X (fun x s => Wp X (fun xs s' => Q (x :: xs) s') (eArgs as env s)) (a env st) := by rw [eArgs, wp_bind]; exact wp_ext fun x s => by rw [wp_bind]; exact wp_ext fun xs s' => wp_ok
theorem wp_blt {op : List D → O D} {as : List E} {Q : D → Sto → Prop} : Wp X Q (eBlt op as env st) = Wp X (fun xs s => Wo Q (op xs s)) (eArgs as env st) := by unfold eBlt; rw [wp_bind]; exact wp_ext fun x s => wp_ofO
theorem wp_if {c : T} {a b : E} {Q : D → Sto → Prop} : Wp X Q (eIf c a b env st) = Wp X (fun k s => Wp X Q (if k = true then a env s else b env s)) (c env st) := by rw [eIf, wp_bind]
theorem wp_asB {a : E} {Q : Bool → Sto → Prop} : Wp X Q (asB a env st) = Wp X (fun x s => Wp X Q (match x with | .bl k => .ok k s | _ => .bad)) (a env st) := by simp only [asB, wp_bind] <;> rfl
theorem wp_tTru {a : E} {Q : Bool → Sto → Prop} : Wp X Q (tTru a env st) = Wp X (fun x s => Wp X Q (match tru x s with | some k => .ok k s | none => .bad)) (a env st) := by simp only [tTru, wp_bind] <;> rfl
theorem wp_tAnd {a b : T} {Q : Bool → Sto → Prop} : Wp X Q (tAnd' a b env st) = Wp X (fun k s => Wp X Q (if k = true then b env s else .ok false s)) (a env st) := by simp only [tAnd', wp_bind] <;> rfl
theorem wp_tOr {a b : T} {Q : Bool → Sto → Prop} : Wp X Q (tOr' a b env st) = Wp X (fun k s => Wp X Q (if k = true then .ok true s else b env s)) (a env st) := by simp only [tOr', wp_bind] <;> rfl
theorem wp_tNot {a : T} {Q : Bool → Sto → Prop} : Wp X Q (tNot' a env st) = Wp X (fun k s => Q (!k) s) (a env st) := by unfold tNot'; rw [wp_bind]; exact wp_ext fun k s => wp_ok
theorem wp_tYes {Q : Bool → Sto → Prop} : Wp X Q (tYes' env st) = Q true st := wp_ok
theorem wp_eAnd {a b : E} {Q : D → Sto → Prop} : Wp X Q (eAnd a b env st) = Wp X (fun x s => Wp X Q (match tru x s with | some true => b env s | some false => .ok x s | none => .bad)) (a env st) := by simp only [eAnd, wp_bind] <;> rfl
theorem wp_eOr {a b : E} {Q : D → Sto → Prop} : Wp X Q (eOr a b env st) = Wp X (fun x s => Wp X Q (match tru x s with | some true => .ok x s | some false => b env s | none => .bad)) (a env st) := by simp only [eOr, wp_bind] <;> rfl
theorem wp_eNot {a : E} {Q : D → Sto → Prop} : Wp X Q (eNot a env st) = Wp X (fun x s => Wp X Q (match tru x s with | some k => .ok (.bl (!k)) s | none => .bad)) (a env st) := by simp only [eNot, wp_bind] <;> rfl
theorem wp_chain {f g : D → D → O D} {a b c : E} {Q : D → Sto → Prop} : Wp X Q (eChain f g a b c env st) = Wp X (fun x s => Wp X (fun y s => Wo (fun z s => Wp X Q (match z with
  | .bl true => (c env s).bind fun w s => ofO (g y w s)
  | .bl false => .ok (.bl false) s
  | _ => .bad)) (f x y s)) (b env s)) (a env st) := by unfold eChain; rw [wp_bind]; exact wp_ext fun x s => by rw [wp_bind]; exact wp_ext fun y s => by rw [wp_bind, wp_ofO] <;> rfl
theorem wp_call {g : F} {as : List E} {Q : D → Sto → Prop} : Wp X Q (eCall g as env st) = Wp X (fun xs s => Wp X Q (g xs s)) (eArgs as env st) := by rw [eCall, wp_bind]
theorem wp_mt {T : String} {op : D → List D → O D} {a : E} {as : List E} {Q : D → Sto → Prop} : Wp X Q (eMt T op a as env st) = Wp X (fun x s => Wp X Q (if tyOk T x s = true then (eArgs as env s).bind fun xs s' => ofO (op x xs s') else .bad)) (a env st) := by simp only [eMt, wp_bind] <;> rfl
theorem wp_meth {c : Nat} {m : String} {g : F} {a : E} {as : List E} {Q : D → Sto → Prop} : Wp X Q (eMeth c m g a as env st) = Wp X (fun x s => Wp X Q (match x with
  | .ref i => match s[i]? with
    | some (.ins c' fs) => if c' = c ∧ fs.lookup m = none then (eArgs as env s).bind fun xs s' => g (.ref i :: xs) s' else .bad
    | _ => .bad
  | _ => .bad)) (a env st) := by simp only [eMeth, wp_bind] <;> rfl
theorem wp_make {c : Nat} {g : F} {as : List E} {Q : D → Sto → Prop} : Wp X Q (eMake c g as env st) = Wp X (fun xs s => Wp X (fun r s' => Wp X Q (match r with
  | .non => .ok (.ref s.length) s'
  | _ => .bad)) (g (.ref s.length :: xs) (s ++ [.ins c []]))) (eArgs as env st) := by unfold eMake; rw [wp_bind]; exact wp_ext fun x s => by rw [wp_bind] <;> rfl
theorem wp_fmt {a : E} {Q : D → Sto → Prop} : Wp X Q (eFmt a env st) = Wp X (fun x s => Wp X Q (match x with
  | .str y => if y.length ≤ LIM then .ok (.str y) s else .bad
  | .int i => if i.natAbs.log2 < 1920 then .ok (.str (toString i)) s else .bad
  | _ => .bad)) (a env st) := by simp only [eFmt, wp_bind] <;> rfl
theorem wp_joinN {acc : Str} {Q : D → Sto → Prop} : Wp X Q (eJoin [] acc env st) = Q (.str acc) st := wp_ok
theorem wp_joinC {a : E} {as : List E} {acc : Str} {Q : D → Sto → Prop} : Wp X Q (eJoin (a :: as) acc env st) = Wp X (fun x s => Wp X Q (match x with
  | .str y => if (acc ++ y).length ≤ LIM then eJoin as (acc ++ y) env s else .bad
  | _ => .bad)) (a env st) := by simp only [eJoin, wp_bind] <;> rfl
theorem wp_partN {Q : Option Int → Sto → Prop} : Wp X Q (ePart none env st) = Q none st := wp_ok
theorem wp_partS {f : E} {Q : Option Int → Sto → Prop} : Wp X Q (ePart (some f) env st) = Wp X (fun x s => Wp X Q (match x with | .int i => .ok (some i) s | _ => .bad)) (f env st) := by simp only [ePart, wp_bind] <;> rfl
theorem wp_sl {a : E} {lo hi : Option E} {Q : D → Sto → Prop} : Wp X Q (eSl a lo hi env st) = Wp X (fun x s => Wp X (fun l s => Wp X (fun h s => Wo Q (opSl l h x s)) (ePart hi env s)) (ePart lo env s)) (a env st) := by unfold eSl; rw [wp_bind]; exact wp_ext fun x s => by rw [wp_bind]; exact wp_ext fun l s => by rw [wp_bind]; exact wp_ext fun h s => wp_ofO
theorem wp_iS {a : E} {Q : Its → Sto → Prop} : Wp X Q (iS a env st) = Wp X (fun d s => Wp X Q (match iterOf d s with | some t => .ok t s | none => .bad)) (a env st) := by simp only [iS, wp_bind] <;> rfl
theorem wp_iR1 {a : E} {Q : Its → Sto → Prop} : Wp X Q (iR1 a env st) = Wp X (fun ds s => Wp X Q (match ds with
  | [.int j] => if -(2 ^ 62) ≤ j ∧ j < 2 ^ 62 then .ok ⟨rngI 0 j.toNat, none⟩ s else .bad
  | _ => .bad)) (eArgs [a] env st) := by simp only [iR1, wp_bind] <;> rfl
theorem wp_iR2 {a b : E} {Q : Its → Sto → Prop} : Wp X Q (iR2 a b env st) = Wp X (fun ds s => Wp X Q (match ds with
  | [.int i, .int j] => if -(2 ^ 62) ≤ i ∧ i < 2 ^ 62 ∧ -(2 ^ 62) ≤ j ∧ j < 2 ^ 62 then .ok ⟨rngI i (j - i).toNat, none⟩ s else .bad
  | _ => .bad)) (eArgs [a, b] env st) := by simp only [iR2, wp_bind] <;> rfl
theorem wp_iEn {a : E} {Q : Its → Sto → Prop} : Wp X Q (iEn a env st) = Wp X (fun ds s => Wp X Q (match ds with
  | [.ref i] => match s[i]? with
    | some (.lst ds) => .ok ⟨enumI ds, some (i, ds)⟩ s
    | _ => .bad
  | _ => .bad)) (eArgs [a] env st) := by simp only [iEn, wp_bind] <;> rfl
/-! statements -/
theorem owp_nx {e : Sl} {s : Sto} : Owp K (.nx e s) = K.nx e s := propext ⟨fun h => h.out, fun h => ⟨h⟩⟩
theorem owp_rt {d : D} {s : Sto} : Owp K (.rt d s) = K.rt d s := propext ⟨fun h => h.out, fun h => ⟨h⟩⟩
theorem owp_bk {e : Sl} {s : Sto} : Owp K (.bk e s) = K.bk e s := propext ⟨fun h => h.out, fun h => ⟨h⟩⟩
theorem owp_ct {e : Sl} {s : Sto} : Owp K (.ct e s) = K.ct e s := propext ⟨fun h => h.out, fun h => ⟨h⟩⟩
theorem owp_exn {c : Nat} {fs : List (String × D)} {e : Sl} {s : Sto} : Owp K (.exn c fs e s) = K.ex c fs e s := propext ⟨fun h => h.out, fun h => ⟨h⟩⟩
theorem owp_bad : Owp K .bad = False := propext ⟨fun h => h.out, fun h => ⟨h⟩⟩
theorem owp_out {r : Res α} {k : α → Sto → Out} : Owp K (r.out env k) = Wp (fun c fs s => K.ex c fs env s) (fun a s => Owp K (k a s)) r := by
  cases r with
  | ok a s => rw [wp_ok]; rfl
  | exn c fs s => rw [wp_exn]; exact owp_exn
  | bad => rw [wp_bad]; exact owp_bad
theorem owp_seq {a b : Sm} : Owp K (sSeq a b env st) = Owp (K.seq b) (a env st) := by
  unfold sSeq
  cases a env st with
  | nx e s => rw [owp_nx]; rfl
  | rt d s => rw [owp_rt]; exact (owp_rt (K := K.seq b)).symm
  | bk e s => rw [owp_bk]; exact (owp_bk (K := K.seq b)).symm
  | ct e s => rw [owp_ct]; exact (owp_ct (K := K.seq b)).symm
  | exn c fs e s => rw [owp_exn]; exact (owp_exn (K := K.seq b)).symm
  | bad => rw [owp_bad]; exact (owp_bad (K := K.seq b)).symm
theorem owp_skip : Owp K (sSkip env st) = K.nx env st := owp_nx
theorem owp_brk : Owp K (sBreak env st) = K.bk env st := owp_bk
theorem owp_cnt : Owp K (sCont env st) = K.ct env st := owp_ct
theorem owp_ret {a : E} : Owp K (sRet a env st) = Wp (fun c fs s => K.ex c fs env s) (fun d s => K.rt d s) (a env st) := by unfold sRet; rw [owp_out]; exact wp_ext fun d s => owp_rt
theorem owp_expr {a : E} : Owp K (sExpr a env st) = Wp (fun c fs s => K.ex c fs env s) (fun d s => K.nx env s) (a env st) := by unfold sExpr; rw [owp_out]; exact wp_ext fun d s => owp_nx
theorem owp_if {c : T} {a b : Sm} : Owp K (sIf c a b env st) = Wp (fun c fs s => K.ex c fs env s) (fun k s => Owp K (if k = true then a env s else b env s)) (c env st) := by unfold sIf; rw [owp_out]
theorem owp_asg {i : Nat} {a : E} : Owp K (sAsg (.name i) a env st) = Wp (fun c fs s => K.ex c fs env s) (fun d s => K.nx (env.set i (some d)) s) (a env st) := by unfold sAsg; rw [owp_out]; exact wp_ext fun d s => owp_nx
theorem owp_asgT {ts : List Tg} {a : E} : Owp K (sAsg (.tup ts) a env st) = Wp (fun c fs s => K.ex c fs env s) (fun d s => match Tg.sem s (.tup ts) d env with | some e => K.nx e s | none => False) (a env st) := by
  unfold sAsg
  rw [owp_out]
  exact wp_ext fun d s => by
    cases Tg.sem s (.tup ts) d env with
    | none => exact owp_bad
    | some e => exact owp_nx
theorem owp_par {i j : Nat} {a b : E} : Owp K (sPar i j a b env st) = Wp (fun c fs s => K.ex c fs env s) (fun x s => Wp (fun c fs s => K.ex c fs env s) (fun y s => K.nx ((env.set i (some x)).set j (some y)) s) (b env s)) (a env st) := by
  unfold sPar
  rw [owp_out, wp_cons]
  exact wp_ext fun x s => by
    rw [wp_cons]
    exact wp_ext fun y s => by rw [wp_nil]; exact owp_nx
theorem owp_setIx {o i e : E} : Owp K (sSetIx o i e env st) = Wp (fun c fs s => K.ex c fs env s) (fun d s => Wp (fun c fs s => K.ex c fs env s) (fun x s => Wp (fun c fs s => K.ex c fs env s) (fun y s => Wo (fun _ s => K.nx env s) (opSet x y d s)) (i env s)) (o env s)) (e env st) := by
  unfold sSetIx
  rw [owp_out]
  exact wp_ext fun d s => by
    rw [owp_out]
    exact wp_ext fun x s => by
      rw [owp_out]
      exact wp_ext fun y s => by
        rcases opSet x y d s with _ | ⟨_, _⟩
        · exact owp_bad.trans wo_none.symm
        · exact owp_nx.trans (wo_some (Q := fun _ s => K.nx env s)).symm
theorem owp_setF {P : Nat → Bool} {f : String} {o e : E} : Owp K (sSetF P f o e env st) = Wp (fun c fs s => K.ex c fs env s) (fun d s => Wp (fun c fs s => K.ex c fs env s) (fun x s => Wo (fun _ s => K.nx env s) (opSetF P f x d s)) (o env s)) (e env st) := by
  unfold sSetF
  rw [owp_out]
  exact wp_ext fun d s => by
    rw [owp_out]
    exact wp_ext fun x s => by
      rcases opSetF P f x d s with _ | ⟨_, _⟩
      · exact owp_bad.trans wo_none.symm
      · exact owp_nx.trans (wo_some (Q := fun _ s => K.nx env s)).symm
/-! the same as rules -/
theorem r_wp_ok {a : α} {s : Sto} (h : Q a s) : Wp X Q (.ok a s) := Eq.mpr wp_ok h
theorem r_wp_exn {c : Nat} {fs : List (String × D)} {s : Sto} (h : X c fs s) : Wp X Q (.exn c fs s) := Eq.mpr wp_exn h
theorem r_wo_some {a : α} {s : Sto} (h : Q a s) : Wo Q (some (a, s)) := Eq.mpr wo_some h
theorem r_wp_ofO {o : Option (α × Sto)} (h : Wo Q o) : Wp X Q (ofO o) := Eq.mpr wp_ofO h
theorem r_wp_bind {r : Res α} {f : α → Sto → Res β} {Q : β → Sto → Prop} (h : Wp X (fun a s => Wp X Q (f a s)) r) : Wp X Q (r.bind f) := Eq.mpr wp_bind h
theorem r_wp_c {d : D} {Q : D → Sto → Prop} (h : Q d st) : Wp X Q (eC d env st) := Eq.mpr wp_c h
theorem r_wp_bin {op : D → D → O D} {a b : E} {Q : D → Sto → Prop} (h : Wp X (fun x s => Wp X (fun y s' => Wo Q (op x y s')) (b env s)) (a env st)) : Wp X Q (eBin op a b env st) := Eq.mpr wp_bin h
theorem r_wp_un {op : D → O D} {a : E} {Q : D → Sto → Prop} (h : Wp X (fun x s => Wo Q (op x s)) (a env st)) : Wp X Q (eUn op a env st) := Eq.mpr wp_un h
theorem r_wp_nil {Q : List D → Sto → Prop} (h : Q [] st) : Wp X Q (eArgs [] env st) := Eq.mpr wp_nil h
theorem r_wp_cons {a : E} {as : List E} {Q : List D → Sto → Prop} (h : Wp X (fun x s => Wp X (fun xs s' => Q (x :: xs) s') (eArgs as env s)) (a env st)) : Wp X Q (eArgs (a :: as) env st) := Eq.mpr wp_cons h
theorem r_wp_blt {op : List D → O D} {as : List E} {Q : D → Sto → Prop} (h : Wp X (fun xs s => Wo Q (op xs s)) (eArgs as env st)) : Wp X Q (eBlt op as env st) := Eq.mpr wp_blt h
theorem r_wp_if {c : T} {a b : E} {Q : D → Sto → Prop} (h : Wp X (fun k s => Wp X Q (if k = true then a env s else b env s)) (c env st)) : Wp X Q (eIf c a b env st) := Eq.mpr wp_if h
theorem r_wp_asB {a : E} {Q : Bool → Sto → Prop} (h : Wp X (fun x s => Wp X Q (match x with | .bl k => .ok k s | _ => .bad)) (a env st)) : Wp X Q (asB a env st) := Eq.mpr wp_asB h
theorem r_wp_tTru {a : E} {Q : Bool → Sto → Prop} (h : Wp X (fun x s => Wp X Q (match tru x s with | some k => .ok k s | none => .bad)) (a env st)) : Wp X Q (tTru a env st) := Eq.mpr wp_tTru h
theorem r_wp_tAnd {a b : T} {Q : Bool → Sto → Prop} (h : Wp X (fun k s => Wp X Q (if k = true then b env s else .ok false s)) (a env st)) : Wp X Q (tAnd' a b env st) := Eq.mpr wp_tAnd h
theorem r_wp_tOr {a b : T} {Q : Bool → Sto → Prop} (h : Wp X (fun k s => Wp X Q (if k = true then .ok true s else b env s)) (a env st)) : Wp X Q (tOr' a b env st) := Eq.mpr wp_tOr h
theorem r_wp_tNot {a : T} {Q : Bool → Sto → Prop} (h : Wp X (fun k s => Q (!k) s) (a env st)) : Wp X Q (tNot' a env st) := Eq.mpr wp_tNot h
theorem r_wp_tYes {Q : Bool → Sto → Prop} (h : Q true st) : Wp X Q (tYes' env st) := Eq.mpr wp_tYes h
theorem r_wp_eAnd {a b : E} {Q : D → Sto → Prop} (h : Wp X (fun x s => Wp X Q (match tru x s with | some true => b env s | some false => .ok x s | none => .bad)) (a env st)) : Wp X Q (eAnd a b env st) := Eq.mpr wp_eAnd h
theorem r_wp_eOr {a b : E} {Q : D → Sto → Prop} (h : Wp X (fun x s => Wp X Q (match tru x s with | some true => .ok x s | some false => b env s | none => .bad)) (a env st)) : Wp X Q (eOr a b env st) := Eq.mpr wp_eOr h
theorem r_wp_eNot {a : E} {Q : D → Sto → Prop} (h : Wp X (fun x s => Wp X Q (match tru x s with | some k => .ok (.bl (!k)) s | none => .bad)) (a env st)) : Wp X Q (eNot a env st) := Eq.mpr wp_eNot h
theorem r_wp_chain {f g : D → D → O D} {a b c : E} {Q : D → Sto → Prop} (h : Wp X (fun x s => Wp X (fun y s => Wo (fun z s => Wp X Q (match z with
  | .bl true => (c env s).bind fun w s => ofO (g y w s)
  | .bl false => .ok (.bl false) s
  | _ => .bad)) (f x y s)) (b env s)) (a env st)) : Wp X Q (eChain f g a b c env st) := Eq.mpr wp_chain h
theorem r_wp_call {g : F} {as : List E} {Q : D → Sto → Prop} (h : Wp X (fun xs s => Wp X Q (g xs s)) (eArgs as env st)) : Wp X Q (eCall g as env st) := Eq.mpr wp_call h
theorem r_wp_mt {T : String} {op : D → List D → O D} {a : E} {as : List E} {Q : D → Sto → Prop} (h : Wp X (fun x s => Wp X Q (if tyOk T x s = true then (eArgs as env s).bind fun xs s' => ofO (op x xs s') else .bad)) (a env st)) : Wp X Q (eMt T op a as env st) := Eq.mpr wp_mt h
theorem r_wp_meth {c : Nat} {m : String} {g : F} {a : E} {as : List E} {Q : D → Sto → Prop} (h : Wp X (fun x s => Wp X Q (match x with
  | .ref i => match s[i]? with
    | some (.ins c' fs) => if c' = c ∧ fs.lookup m = none then (eArgs as env s).bind fun xs s' => g (.ref i :: xs) s' else .bad
    | _ => .bad
  | _ => .bad)) (a env st)) : Wp X Q (eMeth c m g a as env st) := Eq.mpr wp_meth h
theorem r_wp_make {c : Nat} {g : F} {as : List E} {Q : D → Sto → Prop} (h : Wp X (fun xs s => Wp X (fun r s' => Wp X Q (match r with
  | .non => .ok (.ref s.length) s'
  | _ => .bad)) (g (.ref s.length :: xs) (s ++ [.ins c []]))) (eArgs as env st)) : Wp X Q (eMake c g as env st) := Eq.mpr wp_make h
theorem r_wp_fmt {a : E} {Q : D → Sto → Prop} (h : Wp X (fun x s => Wp X Q (match x with
  | .str y => if y.length ≤ LIM then .ok (.str y) s else .bad
  | .int i => if i.natAbs.log2 < 1920 then .ok (.str (toString i)) s else .bad
  | _ => .bad)) (a env st)) : Wp X Q (eFmt a env st) := Eq.mpr wp_fmt h
theorem r_wp_joinN {acc : Str} {Q : D → Sto → Prop} (h : Q (.str acc) st) : Wp X Q (eJoin [] acc env st) := Eq.mpr wp_joinN h
theorem r_wp_joinC {a : E} {as : List E} {acc : Str} {Q : D → Sto → Prop} (h : Wp X (fun x s => Wp X Q (match x with
  | .str y => if (acc ++ y).length ≤ LIM then eJoin as (acc ++ y) env s else .bad
  | _ => .bad)) (a env st)) : Wp X Q (eJoin (a :: as) acc env st) := Eq.mpr wp_joinC h
theorem r_wp_partN {Q : Option Int → Sto → Prop} (h : Q none st) : Wp X Q (ePart none env st) := Eq.mpr wp_partN h
theorem r_wp_partS {f : E} {Q : Option Int → Sto → Prop} (h : Wp X (fun x s => Wp X Q (match x with | .int i => .ok (some i) s | _ => .bad)) (f env st)) : Wp X Q (ePart (some f) env st) := Eq.mpr wp_partS h
theorem r_wp_sl {a : E} {lo hi : Option E} {Q : D → Sto → Prop} (h : Wp X (fun x s => Wp X (fun l s => Wp X (fun h s => Wo Q (opSl l h x s)) (ePart hi env s)) (ePart lo env s)) (a env st)) : Wp X Q (eSl a lo hi env st) := Eq.mpr wp_sl h
theorem r_wp_iS {a : E} {Q : Its → Sto → Prop} (h : Wp X (fun d s => Wp X Q (match iterOf d s with | some t => .ok t s | none => .bad)) (a env st)) : Wp X Q (iS a env st) := Eq.mpr wp_iS h
theorem r_wp_iR1 {a : E} {Q : Its → Sto → Prop} (h : Wp X (fun ds s => Wp X Q (match ds with
  | [.int j] => if -(2 ^ 62) ≤ j ∧ j < 2 ^ 62 then .ok ⟨rngI 0 j.toNat, none⟩ s else .bad
  | _ => .bad)) (eArgs [a] env st)) : Wp X Q (iR1 a env st) := Eq.mpr wp_iR1 h
theorem r_wp_iR2 {a b : E} {Q : Its → Sto → Prop} (h : Wp X (fun ds s => Wp X Q (match ds with
  | [.int i, .int j] => if -(2 ^ 62) ≤ i ∧ i < 2 ^ 62 ∧ -(2 ^ 62) ≤ j ∧ j < 2 ^ 62 then .ok ⟨rngI i (j - i).toNat, none⟩ s else .bad
  | _ => .bad)) (eArgs [a, b] env st)) : Wp X Q (iR2 a b env st) := Eq.mpr wp_iR2 h
theorem r_wp_iEn {a : E} {Q : Its → Sto → Prop} (h : Wp X (fun ds s => Wp X Q (match ds with
  | [.ref i] => match s[i]? with
    | some (.lst ds) => .ok ⟨enumI ds, some (i, ds)⟩ s
    | _ => .bad
  | _ => .bad)) (eArgs [a] env st)) : Wp X Q (iEn a env st) := Eq.mpr wp_iEn h
theorem r_owp_nx {e : Sl} {s : Sto} (h : K.nx e s) : Owp K (.nx e s) := Eq.mpr owp_nx h
theorem r_owp_rt {d : D} {s : Sto} (h : K.rt d s) : Owp K (.rt d s) := Eq.mpr owp_rt h
theorem r_owp_out {r : Res α} {k : α → Sto → Out} (h : Wp (fun c fs s => K.ex c fs env s) (fun a s => Owp K (k a s)) r) : Owp K (r.out env k) := Eq.mpr owp_out h
theorem r_owp_seq {a b : Sm} (h : Owp (K.seq b) (a env st)) : Owp K (sSeq a b env st) := Eq.mpr owp_seq h
theorem r_owp_skip (h : K.nx env st) : Owp K (sSkip env st) := Eq.mpr owp_skip h
theorem r_owp_brk (h : K.bk env st) : Owp K (sBreak env st) := Eq.mpr owp_brk h
theorem r_owp_cnt (h : K.ct env st) : Owp K (sCont env st) := Eq.mpr owp_cnt h
theorem r_owp_ret {a : E} (h : Wp (fun c fs s => K.ex c fs env s) (fun d s => K.rt d s) (a env st)) : Owp K (sRet a env st) := Eq.mpr owp_ret h
theorem r_owp_expr {a : E} (h : Wp (fun c fs s => K.ex c fs env s) (fun d s => K.nx env s) (a env st)) : Owp K (sExpr a env st) := Eq.mpr owp_expr h
theorem r_owp_if {c : T} {a b : Sm} (h : Wp (fun c fs s => K.ex c fs env s) (fun k s => Owp K (if k = true then a env s else b env s)) (c env st)) : Owp K (sIf c a b env st) := Eq.mpr owp_if h
theorem r_owp_asg {i : Nat} {a : E} (h : Wp (fun c fs s => K.ex c fs env s) (fun d s => K.nx (env.set i (some d)) s) (a env st)) : Owp K (sAsg (.name i) a env st) := Eq.mpr owp_asg h
theorem r_owp_asgT {ts : List Tg} {a : E} (h : Wp (fun c fs s => K.ex c fs env s) (fun d s => match Tg.sem s (.tup ts) d env with | some e => K.nx e s | none => False) (a env st)) : Owp K (sAsg (.tup ts) a env st) := Eq.mpr owp_asgT h
theorem r_owp_par {i j : Nat} {a b : E} (h : Wp (fun c fs s => K.ex c fs env s) (fun x s => Wp (fun c fs s => K.ex c fs env s) (fun y s => K.nx ((env.set i (some x)).set j (some y)) s) (b env s)) (a env st)) : Owp K (sPar i j a b env st) := Eq.mpr owp_par h
theorem r_owp_setIx {o i e : E} (h : Wp (fun c fs s => K.ex c fs env s) (fun d s => Wp (fun c fs s => K.ex c fs env s) (fun x s => Wp (fun c fs s => K.ex c fs env s) (fun y s => Wo (fun _ s => K.nx env s) (opSet x y d s)) (i env s)) (o env s)) (e env st)) : Owp K (sSetIx o i e env st) := Eq.mpr owp_setIx h
theorem r_owp_setF {P : Nat → Bool} {f : String} {o e : E} (h : Wp (fun c fs s => K.ex c fs env s) (fun d s => Wp (fun c fs s => K.ex c fs env s) (fun x s => Wo (fun _ s => K.nx env s) (opSetF P f x d s)) (o env s)) (e env st)) : Owp K (sSetF P f o e env st) := Eq.mpr owp_setF h
theorem r_seq_nx {b : Sm} {e : Sl} {s : Sto} (h : Owp K (b e s)) : (K.seq b).nx e s := h
theorem r_seq_rt {b : Sm} {d : D} {s : Sto} (h : K.rt d s) : (K.seq b).rt d s := h
theorem r_seq_bk {b : Sm} {e : Sl} {s : Sto} (h : K.bk e s) : (K.seq b).bk e s := h
theorem r_seq_ct {b : Sm} {e : Sl} {s : Sto} (h : K.ct e s) : (K.seq b).ct e s := h
theorem r_seq_ex {b : Sm} {c : Nat} {fs : List (String × D)} {e : Sl} {s : Sto} (h : K.ex c fs e s) : (K.seq b).ex c fs e s := h
theorem r_loop_nx {I : Sl → Sto → Prop} {e : Sl} {s : Sto} (h : I e s) : (K.loop I).nx e s := h
theorem r_loop_rt {I : Sl → Sto → Prop} {d : D} {s : Sto} (h : K.rt d s) : (K.loop I).rt d s := h
theorem r_loop_bk {I : Sl → Sto → Prop} {e : Sl} {s : Sto} (h : K.nx e s) : (K.loop I).bk e s := h
theorem r_loop_ct {I : Sl → Sto → Prop} {e : Sl} {s : Sto} (h : I e s) : (K.loop I).ct e s := h
theorem r_loop_ex {I : Sl → Sto → Prop} {c : Nat} {fs : List (String × D)} {e : Sl} {s : Sto} (h : K.ex c fs e s) : (K.loop I).ex c fs e s := h
theorem r_fn_nx {Q : D → Sto → Prop} {e : Sl} {s : Sto} (h : Q .non s) : (Ks.fn X Q).nx e s := h
theorem r_fn_rt {Q : D → Sto → Prop} {d : D} {s : Sto} (h : Q d s) : (Ks.fn X Q).rt d s := h
theorem r_fn_ex {Q : D → Sto → Prop} {c : Nat} {fs : List (String × D)} {e : Sl} {s : Sto} (h : X c fs s) : (Ks.fn X Q).ex c fs e s := h
theorem r_var {i : Nat} {d : D} {Q : D → Sto → Prop} (h : env[i]? = some (some d)) (k : Q d st) : Wp X Q (eVar i env st) := by
  rw [eVar_of h]; exact r_wp_ok k
theorem r_wp_iteT {c : Prop} [Decidable c] {a b : Res α} (hc : c) (h : Wp X Q a) : Wp X Q (if c then a else b) := by rw [if_pos hc]; exact h
theorem r_wp_iteF {c : Prop} [Decidable c] {a b : Res α} (hc : ¬ c) (h : Wp X Q b) : Wp X Q (if c then a else b) := by rw [if_neg hc]; exact h
theorem r_owp_iteT {c : Prop} [Decidable c] {a b : Out} (hc : c) (h : Owp K a) : Owp K (if c then a else b) := by rw [if_pos hc]; exact h
theorem r_owp_iteF {c : Prop} [Decidable c] {a b : Out} (hc : ¬ c) (h : Owp K b) : Owp K (if c then a else b) := by rw [if_neg hc]; exact h
theorem r_wp_ite {c : Prop} [Decidable c] {a b : Res α} (h : c → Wp X Q a) (k : ¬ c → Wp X Q b) : Wp X Q (if c then a else b) := by split <;> rename_i z <;> first | exact h z | exact k z
theorem r_owp_ite {c : Prop} [Decidable c] {a b : Out} (h : c → Owp K a) (k : ¬ c → Owp K b) : Owp K (if c then a else b) := by split <;> rename_i z <;> first | exact h z | exact k z
theorem r_decT {p : Prop} [Decidable p] (h : p) : decide p = true := decide_eq_true h
theorem r_decF {p : Prop} [Decidable p] (h : ¬ p) : ¬ decide p = true := fun z => h (of_decide_eq_true z)
theorem r_notT {b : Bool} (h : ¬ b = true) : (!b) = true := by simpa using h
theorem r_notF {b : Bool} (h : b = true) : ¬ (!b) = true := by simpa using h
theorem r_wo_of {o : Option (α × Sto)} {a : α} {s : Sto} (h : o = some (a, s)) (k : Q a s) : Wo Q o := by rw [h]; exact r_wo_some k
theorem wp_fn {n m : Nat} {body : Sm} {ds : List D} {Q : D → Sto → Prop} (h : ds.length = n) (k : Owp (Ks.fn X Q) (body (ds.map some ++ List.replicate (m - n) none) st)) : Wp X Q (fnS n m body ds st) := by
  unfold fnS
  rw [if_pos h]
  revert k
  cases body (ds.map some ++ List.replicate (m - n) none) st <;> exact fun k => ⟨k.out⟩
end
/-! rules that look at a value -/
theorem q_eqX {neg : Bool} {c : Nat} {g : F} {ok : Kd → Bool} {a b : E} {X : XP} {env : Sl} {st : Sto} {Q : D → Sto → Prop} (h : Wp X (fun x s => Wp X (fun y s => ∃ i fs k, x = .ref i ∧ s[i]? = some (.ins c fs) ∧ kind y s = some k ∧ ok k = true ∧ Wp (fun _ _ _ => False) (fun z s => ∃ r : Bool, z = .bl r ∧ Q (.bl (if neg then !r else r)) s) (g [x, y] s)) (b env s)) (a env st)) : Wp X Q (eEqX neg c g ok a b env st) := by
  unfold eEqX
  rw [wp_bind]
  refine h.imp ?_ fun _ _ _ z => z
  intro x s h
  rw [wp_bind]
  refine h.imp ?_ fun _ _ _ z => z
  intro y s h
  obtain ⟨i, fs, k, rfl, hi, hk, ho, h⟩ := h
  obtain ⟨z, s2, e, r, rfl, h⟩ := h.to
  simp only [hi, hk, ho, e, if_pos]
  exact ⟨h⟩
theorem RgC.same {i j c : Int} {n m : Nat} (h : RgC i j c n) (k : RgC i j c m) : n = m := by
  have := h.2.2.2.symm.trans k.2.2.2
  omega
theorem Wp.w {α : Type} {X : XP} {Q Q' : α → Sto → Prop} {r : Res α} (h : Wp X Q r) (hq : ∀ a s, Q a s → Q' a s) : Wp X Q' r := h.imp hq fun _ _ _ z => z
theorem r_p_iteT {A0 B0 c : Prop} [Decidable c] (hc : c) (h : A0) : if c then A0 else B0 := by rw [if_pos hc]; exact h
theorem r_p_iteF {A0 B0 c : Prop} [Decidable c] (hc : ¬ c) (h : B0) : if c then A0 else B0 := by rw [if_neg hc]; exact h
theorem atI0 {α : Type} {x : α} {xs : List α} : atI (x :: xs) 0 = some x := by
  unfold atI ixN
  rw [if_pos (by omega), if_pos (by simp)]
  rfl
theorem atIn {α : Type} {xs : List α} {n : Nat} {x : α} (h : xs[n]? = some x) : atI xs (n : Int) = some x := by
  have hn := (List.getElem?_eq_some_iff.mp h).1
  unfold atI ixN
  rw [if_pos (by omega), if_pos (by omega)]
  simpa using h
/-- a side condition, then the rest -/
def Both (a b : Prop) : Prop := a ∧ b
theorem r_both {a b : Prop} (h : a) (k : b) : Both a b := ⟨h, k⟩
def onB (x : D) (A B : Prop) : Prop := ∃ k : Bool, x = .bl k ∧ (k = true → A) ∧ (k = false → B)
def onTru (x : D) (s : Sto) (A B : Prop) : Prop := ∃ k : Bool, tru x s = some k ∧ (k = true → A) ∧ (k = false → B)
def onBl (x : D) (P : Bool → Prop) : Prop := ∃ k : Bool, x = .bl k ∧ P k
def onInt (x : D) (P : Int → Prop) : Prop := ∃ k : Int, x = .int k ∧ P k
def onStr (x : D) (P : Str → Prop) : Prop := ∃ k : Str, x = .str k ∧ P k
def onNon (x : D) (P : Prop) : Prop := x = .non ∧ P
def onFmt (x : D) (P : Str → Prop) : Prop := (∃ y, x = .str y ∧ y.length ≤ LIM ∧ P y) ∨ ∃ i : Int, x = .int i ∧ i.natAbs.log2 < 1920 ∧ P (toString i)
def onIter (x : D) (s : Sto) (P : Its → Prop) : Prop := ∃ t, iterOf x s = some t ∧ P t
def onObj (x : D) (s : Sto) (c : Nat) (m : String) (P : Nat → Prop) : Prop := ∃ i fs, x = .ref i ∧ s[i]? = some (.ins c fs) ∧ fs.lookup m = none ∧ P i
section
variable {X : XP} {env : Sl} {st s : Sto} {K : Ks} {A B : Prop}
theorem r_bT {k : Bool} (hk : k = true) (h : A) : onB (.bl k) A B := ⟨k, rfl, fun _ => h, fun z => by rw [hk] at z; cases z⟩
theorem r_bF {k : Bool} (hk : ¬ k = true) (h : B) : onB (.bl k) A B := ⟨k, rfl, fun z => (hk z).elim, fun _ => h⟩
theorem r_bSplit {k : Bool} (h1 : k = true → A) (h2 : ¬ k = true → B) : onB (.bl k) A B := ⟨k, rfl, h1, fun z => h2 (by rw [z]; exact Bool.false_ne_true)⟩
theorem r_tT {k : Bool} (hk : k = true) (h : A) : onTru (.bl k) s A B := ⟨k, rfl, fun _ => h, fun z => by rw [hk] at z; cases z⟩
theorem r_tF {k : Bool} (hk : ¬ k = true) (h : B) : onTru (.bl k) s A B := ⟨k, rfl, fun z => (hk z).elim, fun _ => h⟩
theorem r_tSplit {k : Bool} (h1 : k = true → A) (h2 : ¬ k = true → B) : onTru (.bl k) s A B := ⟨k, rfl, h1, fun z => h2 (by rw [z]; exact Bool.false_ne_true)⟩
theorem r_tOf {x : D} {k : Bool} (e : tru x s = some k) (h1 : k = true → A) (h2 : ¬ k = true → B) : onTru x s A B := ⟨k, e, h1, fun z => h2 (by rw [z]; exact Bool.false_ne_true)⟩
theorem r_onBl {P : Bool → Prop} {k : Bool} (h : P k) : onBl (.bl k) P := ⟨k, rfl, h⟩
theorem r_onInt {P : Int → Prop} {k : Int} (h : P k) : onInt (.int k) P := ⟨k, rfl, h⟩
theorem r_onStr {P : Str → Prop} {k : Str} (h : P k) : onStr (.str k) P := ⟨k, rfl, h⟩
theorem r_onNon {P : Prop} (h : P) : onNon .non P := ⟨rfl, h⟩
theorem r_fmtS {P : Str → Prop} {y : Str} (hl : y.length ≤ LIM) (h : P y) : onFmt (.str y) P := .inl ⟨y, rfl, hl, h⟩
theorem r_fmtI {P : Str → Prop} {i : Int} (hl : i.natAbs.log2 < 1920) (h : P (toString i)) : onFmt (.int i) P := .inr ⟨i, rfl, hl, h⟩
theorem r_itT {P : Its → Prop} {ds : List D} (h : P ⟨ds, none⟩) : onIter (.tup ds) s P := ⟨_, rfl, h⟩
theorem r_itS {P : Its → Prop} {ns : List Int} (h : P ⟨ns.map D.int, none⟩) : onIter (.scr ns) s P := ⟨_, rfl, h⟩
theorem r_itL {P : Its → Prop} {r : Nat} {ds : List D} (hr : s[r]? = some (.lst ds)) (h : P ⟨ds, some (r, ds)⟩) : onIter (.ref r) s P := ⟨_, by simp [iterOf, hr], h⟩
theorem r_onObj {P : Nat → Prop} {i c : Nat} {m : String} {fs : List (String × D)} (hr : s[i]? = some (.ins c fs)) (hm : fs.lookup m = none) (h : P i) : onObj (.ref i) s c m P := ⟨i, fs, rfl, hr, hm, h⟩
theorem q_asB {a : E} {Q : Bool → Sto → Prop} (h : Wp X (fun x s => onBl x (fun k => Q k s)) (a env st)) : Wp X Q (asB a env st) := by
  rw [wp_asB]
  exact h.w fun x s ⟨k, e, h⟩ => by subst e; exact r_wp_ok h
theorem q_tTru {a : E} {Q : Bool → Sto → Prop} (h : Wp X (fun x s => onTru x s (Q true s) (Q false s)) (a env st)) : Wp X Q (tTru a env st) := by
  rw [wp_tTru]
  refine h.w fun x s ⟨k, e, h1, h2⟩ => ?_
  rw [e]
  cases k with
  | true => exact r_wp_ok (h1 rfl)
  | false => exact r_wp_ok (h2 rfl)
theorem q_eAnd {a b : E} {Q : D → Sto → Prop} (h : Wp X (fun x s => onTru x s (Wp X Q (b env s)) (Q x s)) (a env st)) : Wp X Q (eAnd a b env st) := by
  rw [wp_eAnd]
  refine h.w fun x s ⟨k, e, h1, h2⟩ => ?_
  rw [e]
  cases k with
  | true => exact h1 rfl
  | false => exact r_wp_ok (h2 rfl)
theorem q_eOr {a b : E} {Q : D → Sto → Prop} (h : Wp X (fun x s => onTru x s (Q x s) (Wp X Q (b env s))) (a env st)) : Wp X Q (eOr a b env st) := by
  rw [wp_eOr]
  refine h.w fun x s ⟨k, e, h1, h2⟩ => ?_
  rw [e]
  cases k with
  | true => exact r_wp_ok (h1 rfl)
  | false => exact h2 rfl
theorem q_eNot {a : E} {Q : D → Sto → Prop} (h : Wp X (fun x s => onTru x s (Q (.bl false) s) (Q (.bl true) s)) (a env st)) : Wp X Q (eNot a env st) := by
  rw [wp_eNot]
  refine h.w fun x s ⟨k, e, h1, h2⟩ => ?_
  rw [e]
  cases k with
  | true => exact r_wp_ok (h1 rfl)
  | false => exact r_wp_ok (h2 rfl)
theorem q_chain {f g : D → D → O D} {a b c : E} {Q : D → Sto → Prop} (h : Wp X (fun x s => Wp X (fun y s => Wo (fun z s => onB z (Wp X (fun w s => Wo Q (g y w s)) (c env s)) (Q (.bl false) s)) (f x y s)) (b env s)) (a env st)) : Wp X Q (eChain f g a b c env st) := by
  rw [wp_chain]
  refine h.w fun x s h => h.w fun y s h => h.mono fun z s ⟨k, e, h1, h2⟩ => ?_
  subst e
  cases k with
  | true =>
    show Wp X Q ((c env s).bind fun w s => ofO (g y w s))
    rw [wp_bind]
    exact (h1 rfl).w fun w s h => r_wp_ofO h
  | false => exact r_wp_ok (h2 rfl)
theorem q_meth {c : Nat} {m : String} {g : F} {a : E} {as : List E} {Q : D → Sto → Prop} (h : Wp X (fun x s => onObj x s c m fun i => Wp X (fun xs s' => Wp X Q (g (.ref i :: xs) s')) (eArgs as env s)) (a env st)) : Wp X Q (eMeth c m g a as env st) := by
  rw [wp_meth]
  refine h.w fun x s ⟨i, fs, e, hi, hm, h⟩ => ?_
  subst e
  simp only [hi]
  rw [if_pos ⟨trivial, hm⟩, wp_bind]
  exact h
theorem q_make {c : Nat} {g : F} {as : List E} {Q : D → Sto → Prop} (h : Wp X (fun xs s => Wp X (fun r s' => onNon r (Q (.ref s.length) s')) (g (.ref s.length :: xs) (s ++ [.ins c []]))) (eArgs as env st)) : Wp X Q (eMake c g as env st) := by
  rw [wp_make]
  exact h.w fun xs s h => h.w fun r s' ⟨e, h⟩ => by subst e; exact r_wp_ok h
theorem q_fmt {a : E} {Q : D → Sto → Prop} (h : Wp X (fun x s => onFmt x fun y => Q (.str y) s) (a env st)) : Wp X Q (eFmt a env st) := by
  rw [wp_fmt]
  refine h.w fun x s h => ?_
  rcases h with ⟨y, rfl, hl, h⟩ | ⟨i, rfl, hl, h⟩
  · simp only [if_pos hl]; exact r_wp_ok h
  · simp only [if_pos hl]; exact r_wp_ok h
theorem q_join {a : E} {as : List E} {acc : Str} {Q : D → Sto → Prop} (h : Wp X (fun x s => onStr x fun y => Both ((acc ++ y).length ≤ LIM) (Wp X Q (eJoin as (acc ++ y) env s))) (a env st)) : Wp X Q (eJoin (a :: as) acc env st) := by
  rw [wp_joinC]
  refine h.w fun x s ⟨y, e, hl, h⟩ => ?_
  subst e
  simp only [if_pos hl]; exact h
theorem q_part {f : E} {Q : Option Int → Sto → Prop} (h : Wp X (fun x s => onInt x fun i => Q (some i) s) (f env st)) : Wp X Q (ePart (some f) env st) := by
  rw [wp_partS]
  exact h.w fun x s ⟨y, e, h⟩ => by subst e; exact r_wp_ok h
theorem q_iS {a : E} {Q : Its → Sto → Prop} (h : Wp X (fun x s => onIter x s fun t => Q t s) (a env st)) : Wp X Q (iS a env st) := by
  rw [wp_iS]
  exact h.w fun x s ⟨y, e, h⟩ => by rw [e]; exact r_wp_ok h
theorem q_iR1 {a : E} {Q : Its → Sto → Prop} (h : Wp X (fun x s => onInt x fun j => Both (-(2 ^ 62) ≤ j ∧ j < 2 ^ 62) (Q ⟨rngI 0 j.toNat, none⟩ s)) (a env st)) : Wp X Q (iR1 a env st) := by
  rw [wp_iR1, wp_cons]
  refine h.w fun x s ⟨y, e, hl, h⟩ => ?_
  subst e
  rw [wp_nil]
  simp only [if_pos hl]; exact r_wp_ok h
theorem q_iR2 {a b : E} {Q : Its → Sto → Prop} (h : Wp X (fun x s => Wp X (fun y s => onInt x fun i => onInt y fun j => Both (-(2 ^ 62) ≤ i ∧ i < 2 ^ 62 ∧ -(2 ^ 62) ≤ j ∧ j < 2 ^ 62) (Q ⟨rngI i (j - i).toNat, none⟩ s)) (b env s)) (a env st)) : Wp X Q (iR2 a b env st) := by
  rw [wp_iR2, wp_cons]
  refine h.w fun x s h => ?_
  rw [wp_cons]
  refine h.w fun y s h8 => ?_
  obtain ⟨i, e, j, e2, hl, h9⟩ := h8
  subst e e2
  rw [wp_nil]
  simp only [if_pos hl]; exact r_wp_ok h9
theorem q_iR3 {a b c : E} {Q : Its → Sto → Prop} {n : Nat} {i j k : Int} (h : Wp X (fun x s => Wp X (fun y s => Wp X (fun z s => x = .int i ∧ y = .int j ∧ z = .int k ∧ RgC i j k n ∧ Q ⟨rngC i k n, none⟩ s) (c env s)) (b env s)) (a env st)) : Wp X Q (iR3 a b c env st) := by
  unfold iR3
  rw [wp_bind, wp_cons]
  refine h.w fun x s h => ?_
  rw [wp_cons]
  refine h.w fun y s h => ?_
  rw [wp_cons]
  refine h.w fun z s h => ?_
  obtain ⟨rfl, rfl, rfl, hr, h⟩ := h
  rw [wp_nil]
  have he : ∃ n, RgC i j k n := ⟨n, hr⟩
  simp only [dif_pos he]
  rw [RgC.same he.choose_spec hr]
  exact r_wp_ok h
def onLst (x : D) (s : Sto) (P : Nat → List D → Prop) : Prop := ∃ r ds, x = .ref r ∧ s[r]? = some (.lst ds) ∧ P r ds
theorem r_onLst {P : Nat → List D → Prop} {r : Nat} {ds : List D} (hr : s[r]? = some (.lst ds)) (h : P r ds) : onLst (.ref r) s P := ⟨r, ds, rfl, hr, h⟩
theorem q_iEn {a : E} {Q : Its → Sto → Prop} (h : Wp X (fun x s => onLst x s fun r ds => Q ⟨enumI ds, some (r, ds)⟩ s) (a env st)) : Wp X Q (iEn a env st) := by
  rw [wp_iEn, wp_cons]
  refine h.w fun x s h => ?_
  obtain ⟨r, ds, rfl, hr, h⟩ := h
  rw [wp_nil]
  simp only [hr]
  exact r_wp_ok h
end
/-! ### what of the store stays -/
/-- all cells but those of P are as they were -/
def Chg (P : List Nat) (st st' : Sto) : Prop := ∀ i c, i ∉ P → st[i]? = some c → st'[i]? = some c
theorem Chg.refl {P : List Nat} {st : Sto} : Chg P st st := fun _ _ _ h => h
theorem Chg.trans {P : List Nat} {a b c : Sto} (h : Chg P a b) (k : Chg P b c) : Chg P a c := fun i x hi e => k i x hi (h i x hi e)
theorem Chg.wide {P P' : List Nat} {a b : Sto} (h : Chg P a b) (k : ∀ i ∈ P, i ∈ P') : Chg P' a b := fun i x hi e => h i x (fun z => hi (k i z)) e
theorem Chg.up {P : List Nat} {a b : Sto} (h : Chg [] a b) : Chg P a b := h.wide (by simp)
theorem Chg.get {P : List Nat} {a b : Sto} (h : Chg P a b) {i : Nat} {c : Cell} (hi : i ∉ P) (e : a[i]? = some c) : b[i]? = some c := h i c hi e
theorem Chg.get0 {a b : Sto} (h : Chg [] a b) {i : Nat} {c : Cell} (e : a[i]? = some c) : b[i]? = some c := h i c (by simp) e
/-- a place that stood nowhere before -/
theorem Chg.new {P : List Nat} {a b c : Sto} {r : Nat} (h : Chg P a b) (hr : a[r]? = none) (k : Chg (r :: P) b c) : Chg P a c := fun i x hi e => k i x (fun z => by
  rcases List.mem_cons.mp z with z | z
  · subst z; rw [hr] at e; cases e
  · exact hi z) (h i x hi e)
theorem Chg.app {P : List Nat} {st t : Sto} : Chg P st (st ++ t) := fun i c _ e => by
  rw [List.getElem?_append_left (List.getElem?_eq_some_iff.mp e).1]; exact e
theorem Chg.set {P : List Nat} {st : Sto} {i : Nat} {c : Cell} (hi : i ∈ P) : Chg P st (st.set i c) := fun j x hj e => by
  rw [List.getElem?_set]
  split
  · rename_i h; subst h; exact (hj hi).elim
  · exact e
section
variable {X : XP} {Q : D → Sto → Prop} {env : Sl} {st : Sto} {K : Ks}
/-- a new list -/
theorem wo_new {ds : List D} (h : ∀ r s, s[r]? = some (.lst ds) → st[r]? = none → Chg [] st s → Q (.ref r) s) : Wo Q (newL ds st) := r_wo_some (h _ _ (by simp) (by simp) Chg.app)
theorem wo_lst {ds : List D} (hl : ds.length ≤ LIM) (h : ∀ r s, s[r]? = some (.lst ds) → st[r]? = none → Chg [] st s → Q (.ref r) s) : Wo Q (opLst ds st) := by
  unfold opLst
  rw [if_pos hl]
  exact wo_new h
theorem set_get {st : Sto} {i : Nat} {c c' : Cell} (h : st[i]? = some c') : (st.set i c)[i]? = some c := by
  rw [List.getElem?_set_self (List.getElem?_eq_some_iff.mp h).1]
theorem wo_append {i : Nat} {ds : List D} {y : D} (hi : st[i]? = some (.lst ds)) (hl : ds.length < LIM) (h : ∀ s, s[i]? = some (.lst (ds ++ [y])) → Chg [i] st s → Q .non s) : Wo Q (opAppend (.ref i) [y] st) := by
  simp only [opAppend, hi, if_pos hl]
  exact r_wo_some (h _ (set_get hi) (Chg.set (by simp)))
theorem wo_extend {i j : Nat} {ds es : List D} (hi : st[i]? = some (.lst ds)) (hj : st[j]? = some (.lst es)) (hl : ds.length + es.length ≤ LIM) (h : ∀ s, s[i]? = some (.lst (ds ++ es)) → Chg [i] st s → Q .non s) : Wo Q (opExtend (.ref i) [.ref j] st) := by
  simp only [opExtend, hi, hj, if_pos hl]
  exact r_wo_some (h _ (set_get hi) (Chg.set (by simp)))
theorem wo_setIx {Q : Unit → Sto → Prop} {r : Nat} {ds : List D} {z : Int} {j : Nat} {d : D} (hi : st[r]? = some (.lst ds)) (hj : ixN ds.length z = some j) (h : ∀ s, s[r]? = some (.lst (ds.set j d)) → Chg [r] st s → Q () s) : Wo Q (opSet (.ref r) (.int z) d st) := by
  simp only [opSet, hi, hj]
  exact r_wo_some (h _ (set_get hi) (Chg.set (by simp)))
theorem wo_setF {Q : Unit → Sto → Prop} {P : Nat → Bool} {f : String} {r c : Nat} {fs : List (String × D)} {d : D} (hi : st[r]? = some (.ins c fs)) (hP : P c = true) (hl : fs.length < 1000) (h : ∀ s, s[r]? = some (.ins c (putD f d fs)) → Chg [r] st s → Q () s) : Wo Q (opSetF P f (.ref r) d st) := by
  simp only [opSetF, hi, if_pos (And.intro hP hl)]
  exact r_wo_some (h _ (set_get hi) (Chg.set (by simp)))
theorem wo_addL {i j : Nat} {a b : List D} (hi : st[i]? = some (.lst a)) (hj : st[j]? = some (.lst b)) (hl : a.length + b.length ≤ LIM) (h : ∀ r s, s[r]? = some (.lst (a ++ b)) → st[r]? = none → Chg [] st s → Q (.ref r) s) : Wo Q (opAdd (.ref i) (.ref j) st) := by
  simp only [opAdd, hi, hj, if_pos hl]
  exact wo_new h
theorem tyOk_list {r : Nat} {ds : List D} {s : Sto} (h : s[r]? = some (.lst ds)) : tyOk "list" (.ref r) s = true := by simp [tyOk, h]
theorem tyOk_str {x : Str} {s : Sto} : tyOk "str" (.str x) s = true := rfl
/-! operations -/
theorem w_addI {i j : Int} (h : Q (.int (i + j)) st) : Wo Q (opAdd (.int i) (.int j) st) := r_wo_of rfl h
theorem w_addS {x y : Str} (hl : x.length + y.length ≤ LIM) (h : Q (.str (x ++ y)) st) : Wo Q (opAdd (.str x) (.str y) st) := by simp only [opAdd, if_pos hl]; exact r_wo_some h
theorem w_sub {i j : Int} (h : Q (.int (i - j)) st) : Wo Q (opSub (.int i) (.int j) st) := r_wo_of rfl h
theorem w_mul {i j : Int} (hl : (-(2 ^ 64) < i ∧ i < 2 ^ 64) ∨ (-(2 ^ 64) < j ∧ j < 2 ^ 64)) (h : Q (.int (i * j)) st) : Wo Q (opMul (.int i) (.int j) st) := by simp only [opMul, if_pos hl]; exact r_wo_some h
theorem w_div {i j : Int} (h0 : 0 < j) (h1 : j < 1073741824) (h : Q (.int (i / j)) st) : Wo Q (opDiv (.int i) (.int j) st) := by simp only [opDiv, if_pos (And.intro h0 h1)]; exact r_wo_some h
theorem w_mod {i j : Int} (h0 : 0 < j) (h : Q (.int (i % j)) st) : Wo Q (opMod (.int i) (.int j) st) := by simp only [opMod, if_pos h0]; exact r_wo_some h
theorem w_pow {i j : Int} (h0 : 0 ≤ j ∧ j ≤ 1000000 ∧ i.natAbs < 2 ^ 64) (h : Q (.int (i ^ j.toNat)) st) : Wo Q (opPow (.int i) (.int j) st) := by simp only [opPow, if_pos h0]; exact r_wo_some h
theorem w_neg {i : Int} (h : Q (.int (-i)) st) : Wo Q (opNeg (.int i) st) := r_wo_of rfl h
theorem w_lt {i j : Int} (h : Q (.bl (decide (i < j))) st) : Wo Q (opCmp (fun i j => decide (i < j)) (.int i) (.int j) st) := r_wo_of rfl h
theorem w_le {i j : Int} (h : Q (.bl (decide (i ≤ j))) st) : Wo Q (opCmp (fun i j => decide (i ≤ j)) (.int i) (.int j) st) := r_wo_of rfl h
theorem w_gt {i j : Int} (h : Q (.bl (decide (j < i))) st) : Wo Q (opCmp (fun i j => decide (j < i)) (.int i) (.int j) st) := r_wo_of rfl h
theorem w_ge {i j : Int} (h : Q (.bl (decide (j ≤ i))) st) : Wo Q (opCmp (fun i j => decide (j ≤ i)) (.int i) (.int j) st) := r_wo_of rfl h
theorem w_is {x : D} (h : Q (.bl (isNon x)) st) : Wo Q (opIs x .non st) := r_wo_of rfl h
theorem w_isNot {x : D} (h : Q (.bl (!isNon x)) st) : Wo Q (opIsNot x .non st) := r_wo_of rfl h
theorem w_ixT {ds : List D} {i : Int} {d : D} (hi : atI ds i = some d) (h : Q d st) : Wo Q (opIx (.tup ds) (.int i) st) := by simp only [opIx, seqOf, hi]; exact r_wo_some h
theorem w_ixL {r : Nat} {ds : List D} {i : Int} {d : D} (hr : st[r]? = some (.lst ds)) (hi : atI ds i = some d) (h : Q d st) : Wo Q (opIx (.ref r) (.int i) st) := by simp only [opIx, seqOf, hr, hi]; exact r_wo_some h
theorem w_ixS {x : Str} {i : Int} {c : Nat} (hi : atI x.cps.toList i = some c) (hl : x.length ≤ LIM) (h : Q (.str ⟨#[c]⟩) st) : Wo Q (opIx (.str x) (.int i) st) := by simp only [opIx, hi, if_pos hl]; exact r_wo_some h
theorem w_lenT {ds : List D} (h : Q (.int ds.length) st) : Wo Q (opLen [.tup ds] st) := r_wo_of rfl h
theorem w_lenL {r : Nat} {ds : List D} (hr : st[r]? = some (.lst ds)) (h : Q (.int ds.length) st) : Wo Q (opLen [.ref r] st) := by simp only [opLen, lenOf, seqOf, hr, Option.map_some]; exact r_wo_some h
theorem w_lenS {x : Str} (hl : x.length ≤ LIM) (h : Q (.int x.length) st) : Wo Q (opLen [.str x] st) := by simp only [opLen, lenOf, if_pos hl]; exact r_wo_some h
theorem w_intI {i : Int} (h : Q (.int i) st) : Wo Q (opInt [.int i] st) := r_wo_of rfl h
theorem w_abs {i : Int} (h : Q (.int (if i < 0 then -i else i)) st) : Wo Q (opAbs [.int i] st) := r_wo_of rfl h
theorem w_str {i : Int} (hl : i.natAbs.log2 < 1920) (h : Q (.str (toString i)) st) : Wo Q (opStr [.int i] st) := by simp only [opStr, if_pos hl]; exact r_wo_some h
theorem w_strS {x : Str} (h : Q (.str x) st) : Wo Q (opStr [.str x] st) := r_wo_of rfl h
theorem w_fld {P : Nat → Bool} {f : String} {r c : Nat} {fs : List (String × D)} {d : D} (hr : st[r]? = some (.ins c fs)) (hP : P c = true) (hf : fs.lookup f = some d) (h : Q d st) : Wo Q (opFld P f (.ref r) st) := by simp only [opFld, hr, if_pos hP, hf]; exact r_wo_some h
theorem w_isiR {t : TC} {ans : Kd → Option Bool} {r : Nat} {c : D} {ds : List D} {b : Bool} (hr : st[r]? = some (.lst ds)) (ht : isTC t c = true) (hb : ans .lst = some b) (h : Q (.bl b) st) : Wo Q (opIsi t ans [.ref r, c] st) := by simp only [opIsi, if_pos ht, kind, hr, hb]; exact r_wo_some h
theorem w_isiC {t : TC} {ans : Kd → Option Bool} {r k : Nat} {c : D} {fs : List (String × D)} {b : Bool} (hr : st[r]? = some (.ins k fs)) (ht : isTC t c = true) (hb : ans (.ins k) = some b) (h : Q (.bl b) st) : Wo Q (opIsi t ans [.ref r, c] st) := by simp only [opIsi, if_pos ht, kind, hr, hb]; exact r_wo_some h
theorem w_isi {t : TC} {ans : Kd → Option Bool} {x c : D} {b : Bool} (hb : opIsi t ans [x, c] [] = some (.bl b, [])) (hx : ∀ r, x ≠ .ref r) (h : Q (.bl b) st) : Wo Q (opIsi t ans [x, c] st) := by
  have e : kind x st = kind x [] := by cases x <;> first | rfl | exact (hx _ rfl).elim
  have e2 : opIsi t ans [x, c] st = some (.bl b, st) := by
    unfold opIsi at hb ⊢
    simp only [e] at hb ⊢
    split at hb
    · rename_i ht
      rw [if_pos ht]
      split at hb
      · split at hb
        · cases hb; rfl
        · cases hb
      · cases hb
    · cases hb
  rw [e2]; exact r_wo_some h
theorem w_isiRT {t : TC} {ans : Kd → Option Bool} {r : Nat} {c : D} {ds : List D} {b : Bool} (hr : st[r]? = some (.lst ds)) (ht : isTC t c = true) (hb : ans .lst = some b) (e : b = true) (h : Q (.bl true) st) : Wo Q (opIsi t ans [.ref r, c] st) := w_isiR hr ht hb (by rw [e]; exact h)
theorem w_isiCT {t : TC} {ans : Kd → Option Bool} {r k : Nat} {c : D} {fs : List (String × D)} {b : Bool} (hr : st[r]? = some (.ins k fs)) (ht : isTC t c = true) (hb : ans (.ins k) = some b) (e : b = true) (h : Q (.bl true) st) : Wo Q (opIsi t ans [.ref r, c] st) := w_isiC hr ht hb (by rw [e]; exact h)
theorem w_isiT {t : TC} {ans : Kd → Option Bool} {x c : D} {b : Bool} (hb : opIsi t ans [x, c] [] = some (.bl b, [])) (e : b = true) (hx : ∀ r, x ≠ .ref r) (h : Q (.bl true) st) : Wo Q (opIsi t ans [x, c] st) := w_isi hb hx (by rw [e]; exact h)
theorem w_isiRF {t : TC} {ans : Kd → Option Bool} {r : Nat} {c : D} {ds : List D} {b : Bool} (hr : st[r]? = some (.lst ds)) (ht : isTC t c = true) (hb : ans .lst = some b) (e : b = false) (h : Q (.bl false) st) : Wo Q (opIsi t ans [.ref r, c] st) := w_isiR hr ht hb (by rw [e]; exact h)
theorem w_isiCF {t : TC} {ans : Kd → Option Bool} {r k : Nat} {c : D} {fs : List (String × D)} {b : Bool} (hr : st[r]? = some (.ins k fs)) (ht : isTC t c = true) (hb : ans (.ins k) = some b) (e : b = false) (h : Q (.bl false) st) : Wo Q (opIsi t ans [.ref r, c] st) := w_isiC hr ht hb (by rw [e]; exact h)
theorem w_isiF {t : TC} {ans : Kd → Option Bool} {x c : D} {b : Bool} (hb : opIsi t ans [x, c] [] = some (.bl b, [])) (e : b = false) (hx : ∀ r, x ≠ .ref r) (h : Q (.bl false) st) : Wo Q (opIsi t ans [x, c] st) := w_isi hb hx (by rw [e]; exact h)
theorem w_tup {ds : List D} (hl : ds.length ≤ LIM) (h : Q (.tup ds) st) : Wo Q (opTup ds st) := by simp only [opTup, if_pos hl]; exact r_wo_some h
theorem w_tupleL {r : Nat} {ds : List D} (hr : st[r]? = some (.lst ds)) (h : Q (.tup ds) st) : Wo Q (opTuple [.ref r] st) := by simp only [opTuple, seqOf, hr]; exact r_wo_some h
theorem w_join {a : Str} {r : Nat} {ds : List D} {ys : List Str} (hr : st[r]? = some (.lst ds)) (hs : strsOf ds = some ys) (hl : (ys.map (·.length)).sum + ys.length * a.length ≤ LIM) (h : Q (.str (Txt.join a ys)) st) : Wo Q (opJoin (.str a) [.ref r] st) := by simp only [opJoin, seqOf, hr, hs, if_pos hl]; exact r_wo_some h
theorem w_split {a b : Str} (hb : (b.length == 0) = false) (hl : a.length + 2 ≤ LIM) (h : ∀ r s, s[r]? = some (.lst ((Txt.split a b).map D.str)) → st[r]? = none → Chg [] st s → Q (.ref r) s) : Wo Q (opSplit (.str a) [.str b] st) := by
  simp only [opSplit, if_pos (And.intro hb hl)]
  exact wo_new h
theorem w_strip {a b : Str} (hl : a.length ≤ LIM) (h : Q (.str (Txt.stripChars a b)) st) : Wo Q (opStrip (.str a) [.str b] st) := by simp only [opStrip, if_pos hl]; exact r_wo_some h
theorem w_eq {x y : D} {b : Bool} (he : eqD st x y = some b) (h : Q (.bl b) st) : Wo Q (opEq x y st) := by simp only [opEq, he]; exact r_wo_some h
theorem w_ne {x y : D} {b : Bool} (he : eqD st x y = some b) (h : Q (.bl (!b)) st) : Wo Q (opNe x y st) := by simp only [opNe, he]; exact r_wo_some h
theorem eqD_int {i j : Int} : eqD st (.int i) (.int j) = some (i == j) := by
  simp [eqD, deep, SeqAt.shaped, PyData.eqv, PyData.canLay0, PyData.depth]
theorem w_eqI {i j : Int} (h : Q (.bl (i == j)) st) : Wo Q (opEq (.int i) (.int j) st) := w_eq eqD_int h
theorem w_neI {i j : Int} (h : Q (.bl (!(i == j))) st) : Wo Q (opNe (.int i) (.int j) st) := w_ne eqD_int h
theorem eqD_str {x y : Str} (hx : PyData.strOk x = true) (hy : PyData.strOk y = true) : eqD st (.str x) (.str y) = some (x == y) := by
  simp [eqD, deep, SeqAt.shaped, PyData.eqv, PyData.canLay0, PyData.depth, hx, hy]
theorem w_eqS {x y : Str} (hx : PyData.strOk x = true) (hy : PyData.strOk y = true) (h : Q (.bl (x == y)) st) : Wo Q (opEq (.str x) (.str y) st) := w_eq (eqD_str hx hy) h
theorem w_neS {x y : Str} (hx : PyData.strOk x = true) (hy : PyData.strOk y = true) (h : Q (.bl (!(x == y))) st) : Wo Q (opNe (.str x) (.str y) st) := w_ne (eqD_str hx hy) h
theorem eqD_bl {i j : Bool} : eqD st (.bl i) (.bl j) = some (i == j) := by
  simp [eqD, deep, SeqAt.shaped, PyData.eqv, PyData.canLay0, PyData.depth]
theorem w_eqB {x y : Bool} (h : Q (.bl (x == y)) st) : Wo Q (opEq (.bl x) (.bl y) st) := w_eq eqD_bl h
theorem w_neB {x y : Bool} (h : Q (.bl (!(x == y))) st) : Wo Q (opNe (.bl x) (.bl y) st) := w_ne eqD_bl h
theorem w_in {neg : Bool} {x : Str} {ds : List D} (h0 : ds.all flatD = true) (h : Q (.bl (if neg then !inF (.str x) ds else inF (.str x) ds)) st) : Wo Q (opIn neg (.str x) (.tup ds) st) := by
  simp only [opIn, seqOf]
  rw [if_pos ⟨rfl, h0⟩]
  exact r_wo_some h
theorem w_inL {neg : Bool} {r : Nat} {x : Str} {ds : List D} (hr : st[r]? = some (.lst ds)) (h0 : ds.all flatD = true) (h : Q (.bl (if neg then !inF (.str x) ds else inF (.str x) ds)) st) : Wo Q (opIn neg (.str x) (.ref r) st) := by
  simp only [opIn, seqOf, hr]
  rw [if_pos ⟨rfl, h0⟩]
  exact r_wo_some h
theorem w_slL {lo hi : Option Int} {r : Nat} {ds : List D} (hr : st[r]? = some (.lst ds)) (h : ∀ q s, s[q]? = some (.lst (cutD ds lo hi)) → st[q]? = none → Chg [] st s → Q (.ref q) s) : Wo Q (opSl lo hi (.ref r) st) := by
  simp only [opSl, seqOf, hr]
  exact wo_new h
theorem w_intS {x : Str} {n : Int} (hn : PySem.intText? x = some n) (hl : x.length ≤ 640) (h : Q (.int n) st) : Wo Q (opInt [.str x] st) := by
  simp only [opInt, hn, if_pos hl]
  exact r_wo_some h
/-! loops -/
theorem owp_forS {p : Its} {t : Tg} {body : Sm} {ds : List D} (I : Nat → Sl → Sto → Prop)
    (step : ∀ i d e s, ds[i]? = some d → I i e s → p.okB s ∧ ∃ e', Tg.sem s t d e = some e' ∧ Owp (K.loop (I (i + 1))) (body e' s))
    (hend : ∀ e s, I ds.length e s → p.okB s ∧ K.nx e s) : ∀ {env st}, I 0 env st → Owp K (forS p t body ds env st) := by
  intro env st h0
  have key : ∀ (k : Nat) (l : List D) (e : Sl) (s : Sto), l = ds.drop k → k ≤ ds.length → I k e s → Owp K (forS p t body l e s) := by
    intro k l
    induction l generalizing k with
    | nil =>
      intro e s hl hk hI
      have : k = ds.length := by
        have := congrArg List.length hl
        simp at this
        omega
      subst this
      obtain ⟨h1, h2⟩ := hend e s hI
      unfold forS
      rw [if_pos h1]
      exact ⟨h2⟩
    | cons d l ih =>
      intro e s hl hk hI
      have hd : ds[k]? = some d := by
        have := congrArg (fun l => l[0]?) hl
        simp at this
        exact this.symm
      have hkl : k < ds.length := (List.getElem?_eq_some_iff.mp hd).1
      have hl' : l = ds.drop (k + 1) := by
        have := congrArg List.tail hl
        simpa using this
      obtain ⟨h1, e', h2, h3⟩ := step k d e s hd hI
      unfold forS
      rw [if_pos h1, h2]
      simp only
      revert h3
      cases body e' s with
      | nx e2 s2 => exact fun h3 => ih (k + 1) e2 s2 hl' hkl h3.out
      | ct e2 s2 => exact fun h3 => ih (k + 1) e2 s2 hl' hkl h3.out
      | bk e2 s2 => exact fun h3 => ⟨h3.out⟩
      | rt d2 s2 => exact fun h3 => ⟨h3.out⟩
      | exn c fs e2 s2 => exact fun h3 => ⟨h3.out⟩
      | bad => exact fun h3 => ⟨h3.out⟩
  exact key 0 ds env st (by simp) (Nat.zero_le _) h0
theorem owp_for {it : Sl → M Its} {t : Tg} {body : Sm} : Owp K (sFor it t body env st) = Wp (fun c fs s => K.ex c fs env s) (fun p s => Owp K (forS p t body p.items env s)) (it env st) := by unfold sFor; rw [owp_out]
theorem r_owp_for {it : Sl → M Its} {t : Tg} {body : Sm} (h : Wp (fun c fs s => K.ex c fs env s) (fun p s => Owp K (forS p t body p.items env s)) (it env st)) : Owp K (sFor it t body env st) := Eq.mpr owp_for h
theorem okB_none {ds : List D} {s : Sto} : Its.okB ⟨ds, none⟩ s := fun _ _ h => by cases h
theorem okB_some {ds es : List D} {i : Nat} {s : Sto} (h : s[i]? = some (.lst es)) : Its.okB ⟨ds, some (i, es)⟩ s := fun _ _ z => by cases z; exact h
/-- a comprehension: what each item gives -/
theorem wp_lcS {p : Its} {vs : List Nat} {t : Tg} {c : T} {e : E} {L : Nat} {env : Sl} {st0 : Sto} (sel : D → Option D) (hp : ∀ s, Chg [] st0 s → p.okB s) (hL : st0[L]? = none) : ∀ (ds : List D) (acc : List D) (s : Sto), acc.length + ds.length ≤ LIM → s[L]? = some (.lst acc) → Chg [] st0 s →
    (∀ d ∈ ds, ∀ s ds', s[L]? = some (.lst ds') → Chg [] st0 s → ∃ e1, Tg.sem s t d (wipeD env vs) = some e1 ∧ Wp (fun _ _ _ => False) (fun k s1 => if k = true then Wp (fun _ _ _ => False) (fun y s2 => sel d = some y ∧ Chg [] s s2) (e e1 s1) else sel d = none ∧ Chg [] s s1) (c e1 s)) →
    ∃ s', lcS p vs t c e L env ds s = some s' ∧ s'[L]? = some (.lst (acc ++ ds.filterMap sel)) ∧ Chg [] st0 s'
  | [], acc, s, _, hs, h, _ => ⟨s, by unfold lcS; rw [if_pos (hp s h)], by simpa using hs, h⟩
  | d :: ds, acc, s, hl, hs, h, H => by
    obtain ⟨e1, he1, hw⟩ := H d (by simp) s acc hs h
    obtain ⟨k, s1, hc, hw⟩ := hw.to
    have H' := fun d hd => H d (List.mem_cons_of_mem _ hd)
    unfold lcS
    rw [if_pos (hp s h), he1]
    simp only [hc]
    cases k with
    | true =>
      rw [if_pos rfl] at hw
      obtain ⟨y, s2, he, hy, hch⟩ := hw.to
      have h2 := hch.get0 hs
      simp only [List.length_cons] at hl
      simp only [he, h2]
      rw [if_pos (by omega)]
      obtain ⟨s', r1, r2, r3⟩ := wp_lcS (p := p) (vs := vs) (t := t) (c := c) (e := e) (env := env) sel hp hL ds (acc ++ [y]) (s2.set L (.lst (acc ++ [y]))) (by simp; omega) (set_get h2) (Chg.new (h.trans hch) hL (Chg.set (by simp))) H'
      exact ⟨s', r1, by rw [r2]; simp [hy], r3⟩
    | false =>
      simp only [Bool.false_eq_true, if_false] at hw
      obtain ⟨hy, hch⟩ := hw
      simp only [List.length_cons] at hl
      obtain ⟨s', r1, r2, r3⟩ := wp_lcS (p := p) (vs := vs) (t := t) (c := c) (e := e) (env := env) sel hp hL ds acc s1 (by omega) (hch.get0 hs) (h.trans hch) H'
      exact ⟨s', r1, by rw [r2]; simp [hy], r3⟩
theorem wp_lc {vs : List Nat} {it : Sl → M Its} {t : Tg} {c : T} {e : E} (h : Wp X (fun p s0 => ∃ sel : D → Option D, (∀ s, Chg [] s0 s → p.okB s) ∧ p.items.length ≤ LIM ∧
    (∀ d ∈ p.items, ∀ s, Chg [] s0 s → ∃ e1, Tg.sem s t d (wipeD env vs) = some e1 ∧ Wp (fun _ _ _ => False) (fun k s1 => if k = true then Wp (fun _ _ _ => False) (fun y s2 => sel d = some y ∧ Chg [] s s2) (e e1 s1) else sel d = none ∧ Chg [] s s1) (c e1 s)) ∧
    ∀ r s, s[r]? = some (.lst (p.items.filterMap sel)) → s0[r]? = none → Chg [] s0 s → Q (.ref r) s) (it env st)) : Wp X Q (eLc vs it t c e env st) := by
  unfold eLc
  rw [wp_bind]
  refine h.imp ?_ fun _ _ _ z => z
  rintro p s0 ⟨sel, hp, hl, H, k⟩
  obtain ⟨s', r1, r2, r3⟩ := wp_lcS (p := p) (vs := vs) (t := t) (c := c) (e := e) (env := env) (L := s0.length) (st0 := s0) sel hp (by simp) p.items [] (s0 ++ [.lst []]) (by simpa using hl) (by simp) Chg.app (fun d hd s ds' _ hs => H d hd s hs)
  rw [r1]
  exact r_wp_ok (k _ _ (by simpa using r2) (by simp) r3)
end
end LF

set_option Elab.async false
set_option linter.all false
namespace LF
open PySem PySem.Spec PyProof.Rows L2
section
variable {α : Type} {X : XP} {Q : D → Sto → Prop} {env : Sl} {st s : Sto} {K : Ks}
/-! ### raise, try -/
theorem r_raise0 {c : Nat} (h : K.ex c [] env st) : Owp K (sRaise0 c env st) := Eq.mpr owp_exn h
theorem r_raise1 {c : Nat} {f : String} {a : E} (h : Wp (fun c fs s => K.ex c fs env s) (fun d s => K.ex c [(f, d)] env s) (a env st)) : Owp K (sRaise1 c f a env st) := by
  unfold sRaise1
  rw [owp_out]
  exact h.w fun d s h => Eq.mpr owp_exn h
theorem r_raise2 {c : Nat} {f g : String} {a b : E} (h : Wp (fun c fs s => K.ex c fs env s) (fun x s => Wp (fun c fs s => K.ex c fs env s) (fun y s => K.ex c [(g, y), (f, x)] env s) (b env s)) (a env st)) : Owp K (sRaise2 c f g a b env st) := by
  unfold sRaise2
  rw [owp_out]
  refine h.w fun d s h => ?_
  rw [owp_out]
  exact h.w fun d s h => Eq.mpr owp_exn h
def Ks.try (K : Ks) (hs : List Hx) : Ks := ⟨K.nx, K.rt, K.bk, K.ct, fun c fs e s => Owp K (hGo c fs e s hs)⟩
theorem r_try {b : Sm} {hs : List Hx} (h : Owp (K.try hs) (b env st)) : Owp K (sTry b hs env st) := by
  unfold sTry
  revert h
  cases b env st with
  | exn c fs e s => exact fun h => h.out
  | nx e s => exact fun h => ⟨h.out⟩
  | rt d s => exact fun h => ⟨h.out⟩
  | bk e s => exact fun h => ⟨h.out⟩
  | ct e s => exact fun h => ⟨h.out⟩
  | bad => exact fun h => ⟨h.out⟩
theorem r_try_nx {hs : List Hx} {e : Sl} {s : Sto} (h : K.nx e s) : (K.try hs).nx e s := h
theorem r_try_rt {hs : List Hx} {d : D} {s : Sto} (h : K.rt d s) : (K.try hs).rt d s := h
theorem r_try_ex {hs : List Hx} {c : Nat} {fs : List (String × D)} {e : Sl} {s : Sto} (h : Owp K (hGo c fs e s hs)) : (K.try hs).ex c fs e s := h
theorem r_hgo_no {c : Nat} {fs : List (String × D)} {h : Hx} {hs : List Hx} (hc : c ≠ h.c) (hm : c ∈ h.no) (k : Owp K (hGo c fs env st hs)) : Owp K (hGo c fs env st (h :: hs)) := by
  unfold hGo
  rw [if_neg hc, if_pos hm]
  exact k
theorem r_hgo_only {c : Nat} {fs : List (String × D)} {no : List Nat} {f : List (String × D) → E} {hs : List Hx} (h : Wp (fun _ _ _ => False) (fun d s => K.rt d s) (f [] env st)) : Owp K (hGo c fs env st (⟨c, no, none, f⟩ :: hs)) := by
  unfold hGo Hx.run
  rw [if_pos rfl]
  obtain ⟨d, s, e, q⟩ := h.to
  simp only [e]
  exact r_owp_rt q
theorem r_hgo_named {c i : Nat} {fs : List (String × D)} {no : List Nat} {f : List (String × D) → E} {hs : List Hx} (hf : fs ≠ []) (h : Wp (fun _ _ _ => False) (fun d s => noX 8 d = true ∧ s = st ∧ K.rt d s) (f fs (env.set i (some .xc)) st)) : Owp K (hGo c fs env st (⟨c, no, some i, f⟩ :: hs)) := by
  unfold hGo Hx.run
  rw [if_pos rfl]
  obtain ⟨d, s, e, q1, q2, q⟩ := h.to
  simp only [e]
  rw [if_neg hf, if_pos ⟨q1, q2⟩]
  exact r_owp_rt q
theorem q_xf {fs : List (String × D)} {f : String} {a : E} {d : D} (hd : fs.lookup f = some d) (h : Wp X (fun x s => x = .xc ∧ Q d s) (a env st)) : Wp X Q (eXf fs f a env st) := by
  unfold eXf
  rw [wp_bind]
  refine h.w fun x s h => ?_
  obtain ⟨rfl, h⟩ := h
  simp only [hd]
  exact r_wp_ok h
/-! ### values -/
theorem r_newD (h : ∀ r s, s[r]? = some .dct → st[r]? = none → Chg [] st s → Q (.ref r) s) : Wp X Q (eNewD env st) := r_wp_ok (h _ _ (by simp) (by simp) Chg.app)
theorem w_isiK {t : TC} {ans : Kd → Option Bool} {x c : D} {k : Kd} {b : Bool} (hk : kind x st = some k) (ht : isTC t c = true) (hb : ans k = some b) (h : Q (.bl b) st) : Wo Q (opIsi t ans [x, c] st) := by
  simp only [opIsi, if_pos ht, hk, hb]; exact r_wo_some h
theorem w_isiDF {t : TC} {ans : Kd → Option Bool} {r : Nat} {c : D} {b : Bool} (hr : st[r]? = some .dct) (ht : isTC t c = true) (hb : ans .dct = some b) (e : b = false) (h : Q (.bl false) st) : Wo Q (opIsi t ans [.ref r, c] st) := w_isiK (k := .dct) (by simp only [kind, hr]) ht hb (by rw [e]; exact h)
theorem w_isiLT {x : D} {k : Kd} {b : Bool} (hk : kind x st = some k) (hb : ansLT k = some b) (h : Q (.bl b) st) : Wo Q (opIsiLT [x, .tup [.ty "list", .ty "tuple"]] st) := by
  simp only [opIsiLT, hk, hb]
  rw [if_pos ⟨trivial, trivial⟩]
  exact r_wo_some h
theorem w_neE {i j : Nat} {a b : List D} (hi : st[i]? = some (.lst a)) (hj : st[j]? = some (.lst b)) (hab : a.length ≠ b.length ∨ a = []) (h : Q (.bl (decide (a.length ≠ b.length))) st) : Wo Q (opEqE true (.ref i) (.ref j) st) := by
  simp only [opEqE, hi, hj]
  by_cases hl : a.length ≠ b.length
  · rw [if_pos hl]
    rw [decide_eq_true hl] at h
    exact r_wo_some h
  · rw [if_neg hl]
    rw [decide_eq_false hl] at h
    rw [if_pos (hab.resolve_left hl)]
    exact r_wo_some h
theorem w_eqE {i j : Nat} {a b : List D} (hi : st[i]? = some (.lst a)) (hj : st[j]? = some (.lst b)) (hab : a.length ≠ b.length ∨ a = []) (h : Q (.bl (decide (a.length = b.length))) st) : Wo Q (opEqE false (.ref i) (.ref j) st) := by
  simp only [opEqE, hi, hj]
  by_cases hl : a.length ≠ b.length
  · rw [if_pos hl]
    rw [decide_eq_false hl] at h
    exact r_wo_some h
  · rw [if_neg hl]
    rw [decide_eq_true (by omega)] at h
    rw [if_pos (hab.resolve_left hl)]
    exact r_wo_some h
theorem w_addBI {i j : Int} (h : Q (.int (i + j)) st) : Wo Q (opAddB (.int i) (.int j) st) := r_wo_of rfl h
theorem w_addBB {i : Bool} {j : Int} (h : Q (.int (b2 i + j)) st) : Wo Q (opAddB (.bl i) (.int j) st) := r_wo_of rfl h
theorem w_subBI {i j : Int} (h : Q (.int (i - j)) st) : Wo Q (opSubB (.int i) (.int j) st) := r_wo_of rfl h
theorem w_subBB {i : Bool} {j : Int} (h : Q (.int (b2 i - j)) st) : Wo Q (opSubB (.bl i) (.int j) st) := r_wo_of rfl h
theorem w_addT {x y : List D} (hl : x.length + y.length ≤ LIM) (h : Q (.tup (x ++ y)) st) : Wo Q (opAdd (.tup x) (.tup y) st) := by simp only [opAdd, if_pos hl]; exact r_wo_some h
theorem w_slT {lo hi : Option Int} {ds : List D} (h : Q (.tup (cutD ds lo hi)) st) : Wo Q (opSl lo hi (.tup ds) st) := r_wo_of rfl h
theorem w_slS {lo hi : Option Int} {z : Str} (hl : z.length ≤ LIM) (h : Q (.str (cutS z lo hi)) st) : Wo Q (opSl lo hi (.str z) st) := by simp only [opSl, if_pos hl]; exact r_wo_some h
theorem w_listT {ds : List D} (h : ∀ r s, s[r]? = some (.lst ds) → st[r]? = none → Chg [] st s → Q (.ref r) s) : Wo Q (opList [.tup ds] st) := by
  simp only [opList, seqOf]
  exact wo_new h
theorem w_listL {r : Nat} {ds : List D} (hr : st[r]? = some (.lst ds)) (h : ∀ r s, s[r]? = some (.lst ds) → st[r]? = none → Chg [] st s → Q (.ref r) s) : Wo Q (opList [.ref r] st) := by
  simp only [opList, seqOf, hr]
  exact wo_new h
theorem w_strBI {i : Int} (hl : i.natAbs.log2 < 1920) (h : Q (.str (toString i)) st) : Wo Q (opStrB [.int i] st) := by simp only [opStrB, opStr, if_pos hl]; exact r_wo_some h
theorem w_strBB {b : Bool} (h : Q (.str (if b then "True" else "False")) st) : Wo Q (opStrB [.bl b] st) := r_wo_of rfl h
theorem w_strBS {x : Str} (h : Q (.str x) st) : Wo Q (opStrB [.str x] st) := r_wo_of rfl h
theorem w_mulXI {i j : Int} (hl : (-(2 ^ 64) < i ∧ i < 2 ^ 64) ∨ (-(2 ^ 64) < j ∧ j < 2 ^ 64)) (h : Q (.int (i * j)) st) : Wo Q (opMulX (.int i) (.int j) st) := by simp only [opMulX, opMul, if_pos hl]; exact r_wo_some h
theorem w_mulXT {a : List D} {k : Int} (hc : a ≠ [] ∧ 2 ≤ k ∧ k ≤ 1000 ∧ a.length ≤ 1000) (h : Q (.tup (List.replicate k.toNat a).flatten) st) : Wo Q (opMulX (.tup a) (.int k) st) := by simp only [opMulX, if_pos hc]; exact r_wo_some h
theorem w_mulXS {x : Str} {k : Int} (hc : 1 ≤ k ∧ k ≤ 1000 ∧ 1 ≤ x.length ∧ x.length ≤ 1000) (h : Q (.str (if k = 1 then x else ⟨(List.replicate k.toNat x.cps).foldl (· ++ ·) #[]⟩)) st) : Wo Q (opMulX (.str x) (.int k) st) := by simp only [opMulX, if_pos hc]; exact r_wo_some h
theorem w_mulXL {r : Nat} {a : List D} {k : Int} (hr : st[r]? = some (.lst a)) (hc : a.length * k.toNat ≤ LIM ∧ -(2 ^ 63) ≤ k ∧ k < 2 ^ 63) (h : ∀ q s, s[q]? = some (.lst (List.replicate k.toNat a).flatten) → st[q]? = none → Chg [] st s → Q (.ref q) s) : Wo Q (opMulX (.ref r) (.int k) st) := by
  simp only [opMulX, opMul, hr, if_pos hc]
  exact wo_new h
/-- x == y, x no instance -/
theorem q_eqXD {neg : Bool} {c : Nat} {g : F} {ok : Kd → Bool} {a b : E} (h : Wp X (fun x s => Wp X (fun y s => (∀ i k fs, x = .ref i → s[i]? ≠ some (.ins k fs)) ∧ Wo Q ((if neg then opNe else opEq) x y s)) (b env s)) (a env st)) : Wp X Q (eEqX neg c g ok a b env st) := by
  unfold eEqX
  rw [wp_bind]
  refine h.w fun x s h => ?_
  rw [wp_bind]
  refine h.w fun y s h => ?_
  obtain ⟨hx, h⟩ := h
  have done : Wp X Q (ofO (if neg then opNe x y s else opEq x y s)) := r_wp_ofO (by cases neg <;> exact h)
  cases x with
  | ref i =>
    simp only
    split
    · rename_i k fs e
      exact (hx i k fs rfl e).elim
    · exact done
  | _ => exact done
end
end LF

set_option Elab.async false
set_option linter.all false
/-! rules for stars, lambdas handed to a def, list(range), two places set -/
namespace LF
open PySem PySem.Spec PyProof.Rows L2
section
variable {α : Type} {X : XP} {Q : D → Sto → Prop} {env : Sl} {st s : Sto} {K : Ks}
theorem w_mulYI {i j : Int} (hl : (-(2 ^ 64) < i ∧ i < 2 ^ 64) ∨ (-(2 ^ 64) < j ∧ j < 2 ^ 64)) (h : Q (.int (i * j)) st) : Wo Q (opMulY (.int i) (.int j) st) := w_mulXI hl h
theorem w_mulYT {a : List D} {k : Int} (hc : a ≠ [] ∧ 0 ≤ k ∧ k ≤ 1000 ∧ a.length ≤ 1000) (h : Q (.tup (List.replicate k.toNat a).flatten) st) : Wo Q (opMulY (.tup a) (.int k) st) := by simp only [opMulY, if_pos hc]; exact r_wo_some h
theorem w_mulYL {r : Nat} {a : List D} {k : Int} (hr : st[r]? = some (.lst a)) (hc : a.length * k.toNat ≤ LIM ∧ -(2 ^ 63) ≤ k ∧ k < 2 ^ 63) (h : ∀ q s, s[q]? = some (.lst (List.replicate k.toNat a).flatten) → st[q]? = none → Chg [] st s → Q (.ref q) s) : Wo Q (opMulY (.ref r) (.int k) st) := w_mulXL hr hc h
theorem r_bltX {op : List D → O D} {as : List (Bool × E)} (h : Wp X (fun xs s => Wo Q (op xs s)) (eArgsX as env st)) : Wp X Q (eBltX op as env st) := by
  unfold eBltX
  rw [wp_bind]
  exact h.w fun xs s h => r_wp_ofO h
theorem r_xnil {Q : List D → Sto → Prop} (h : Q [] st) : Wp X Q (eArgsX [] env st) := r_wp_ok h
theorem r_xcons {a : E} {as : List (Bool × E)} {Q : List D → Sto → Prop} (h : Wp X (fun x s => Wp X (fun xs s' => Q (x :: xs) s') (eArgsX as env s)) (a env st)) : Wp X Q (eArgsX ((false, a) :: as) env st) := by
  rw [eArgsX, wp_bind]
  refine h.w fun x s h => ?_
  rw [wp_bind]
  exact h.w fun xs s h => r_wp_ok h
def onSeq (x : D) (s : Sto) (P : List D → Prop) : Prop := ∃ ds, seqOf x s = some ds ∧ P ds
theorem r_onSeqT {ds : List D} {P : List D → Prop} (h : P ds) : onSeq (.tup ds) s P := ⟨ds, rfl, h⟩
theorem r_onSeqL {r : Nat} {ds : List D} {P : List D → Prop} (hr : s[r]? = some (.lst ds)) (h : P ds) : onSeq (.ref r) s P := ⟨ds, by simp [seqOf, hr], h⟩
theorem r_xstar {a : E} {as : List (Bool × E)} {Q : List D → Sto → Prop} (h : Wp X (fun x s => onSeq x s fun ds => Wp X (fun xs s' => Q (ds ++ xs) s') (eArgsX as env s)) (a env st)) : Wp X Q (eArgsX ((true, a) :: as) env st) := by
  rw [eArgsX, wp_bind]
  refine h.w fun x s h => ?_
  obtain ⟨ds, e, h⟩ := h
  simp only [e]
  rw [wp_bind]
  exact h.w fun xs s h => r_wp_ok h
theorem q_lrg {a : E} (h : Wp X (fun x s => ∃ n : Nat, x = .int n ∧ n ≤ 1000000 ∧ ∀ r s', s'[r]? = some (.lst (rngI 0 n)) → s[r]? = none → Chg [] s s' → Q (.ref r) s') (a env st)) : Wp X Q (eLRg a env st) := by
  unfold eLRg
  rw [wp_bind]
  refine h.w fun x s h => ?_
  obtain ⟨n, rfl, hn, h⟩ := h
  simp only
  rw [if_pos (by omega)]
  exact r_wp_ofO (wo_new h)
theorem r_setV2 {o1 i1 o2 i2 : Nat} {a b : E} (h : Wp (fun c fs s => K.ex c fs env s) (fun x s => Wp (fun c fs s => K.ex c fs env s) (fun y s => ∃ p i q j : D, env[o1]? = some (some p) ∧ env[i1]? = some (some i) ∧ env[o2]? = some (some q) ∧ env[i2]? = some (some j) ∧
    Wo (fun _ s => Wo (fun _ s => K.nx env s) (opSet q j y s)) (opSet p i x s)) (b env s)) (a env st)) : Owp K (sSetV2 o1 i1 o2 i2 a b env st) := by
  unfold sSetV2
  rw [owp_out, wp_cons]
  refine h.w fun x s h => ?_
  rw [wp_cons]
  refine h.w fun y s h => ?_
  obtain ⟨p, i, q, j, e1, e2, e3, e4, h⟩ := h
  rw [wp_nil]
  simp only [e1, e2, e3, e4]
  have h := h.out
  cases h1 : opSet p i x s with
  | none => rw [h1] at h; exact h.elim
  | some r =>
    obtain ⟨u, s1⟩ := r
    rw [h1] at h
    have h := h.out
    dsimp only
    cases h2 : opSet q j y s1 with
    | none => rw [h2] at h; exact h.elim
    | some r =>
      obtain ⟨u, s2⟩ := r
      rw [h2] at h
      exact ⟨h⟩
theorem r_asgT {ts : List Tg} {a : E} (h : Wp (fun c fs s => K.ex c fs env s) (fun d s => ∃ e, Tg.sem s (.tup ts) d env = some e ∧ K.nx e s) (a env st)) : Owp K (sAsg (.tup ts) a env st) := r_owp_asgT (h.w fun d s h => by
  obtain ⟨e, h1, h2⟩ := h
  simp only [h1]
  exact h2)
/-- only an answer counts -/
def Ks.ans (Q : D → Sto → Prop) : Ks := ⟨fun _ _ => False, Q, fun _ _ => False, fun _ _ => False, fun _ _ _ _ => False⟩
theorem r_ans_rt {d : D} (h : Q d s) : (Ks.ans Q).rt d s := h
theorem q_found {n i : Nat} {hs : List Hx} {fr th : E} (h : Wp (fun c fs s => Owp (Ks.ans Q) (hGo c fs (List.replicate n none) s hs)) (fun d s => Wp (fun _ _ _ => False) Q (fr ((List.replicate n none).set i (some d)) s)) (th env st)) : Wp X Q (eFound n i hs fr th env st) := by
  unfold eFound
  have h := h.out
  cases e : th env st with
  | ok d s =>
    rw [e] at h
    obtain ⟨x, s', e2, q⟩ := Wp.to h
    simp only [foundR, e2]
    exact ⟨q⟩
  | exn c fs s =>
    rw [e] at h
    have h := h.out
    revert h
    simp only [foundR]
    cases hGo c fs (List.replicate n none) s hs with
    | rt d s' => exact fun h => ⟨h⟩
    | nx e s => exact fun h => h.elim
    | bk e s => exact fun h => h.elim
    | ct e s => exact fun h => h.elim
    | exn c fs e s => exact fun h => h.elim
    | bad => exact fun h => h.elim
  | bad =>
    rw [e] at h
    exact h.elim
end
end LF

set_option Elab.async false
set_option linter.all false
/-! rules for enumerate of both kinds, a variable that holds a def -/
namespace LF
open PySem PySem.Spec PyProof.Rows L2
section
variable {X : XP} {Q : D → Sto → Prop} {env : Sl} {st s : Sto}
def onEn (x : D) (s : Sto) (P : Its → Prop) : Prop := (∃ r ds, x = .ref r ∧ s[r]? = some (.lst ds) ∧ P ⟨enumI ds, some (r, ds)⟩) ∨ ∃ ds, x = .tup ds ∧ P ⟨enumI ds, none⟩
theorem r_onEnL {r : Nat} {ds : List D} {P : Its → Prop} (hr : s[r]? = some (.lst ds)) (h : P ⟨enumI ds, some (r, ds)⟩) : onEn (.ref r) s P := .inl ⟨r, ds, rfl, hr, h⟩
theorem r_onEnT {ds : List D} {P : Its → Prop} (h : P ⟨enumI ds, none⟩) : onEn (.tup ds) s P := .inr ⟨ds, rfl, h⟩
theorem q_iEnX {a : E} {Q : Its → Sto → Prop} (h : Wp X (fun x s => onEn x s fun p => Q p s) (a env st)) : Wp X Q (iEnX a env st) := by
  unfold iEnX
  rw [wp_bind, wp_cons]
  refine h.w fun x s h => ?_
  rw [wp_nil]
  rcases h with ⟨r, ds, rfl, hr, h⟩ | ⟨ds, rfl, h⟩
  · simp only [hr]
    exact r_wp_ok h
  · exact r_wp_ok h
theorem r_callV1 {i n1 n2 : Nat} {g1 g2 : F} {as : List E} (e : env[i]? = some (some (.glo n1))) (h : Wp X Q (eCall g1 as env st)) : Wp X Q (eCallV i n1 n2 g1 g2 as env st) := by
  simp only [eCallV, e]
  rw [if_pos trivial]
  exact h
theorem r_callV2 {i n1 n2 : Nat} {g1 g2 : F} {as : List E} (e : env[i]? = some (some (.glo n2))) (hn : n2 ≠ n1) (h : Wp X Q (eCall g2 as env st)) : Wp X Q (eCallV i n1 n2 g1 g2 as env st) := by
  simp only [eCallV, e]
  rw [if_neg hn, if_pos trivial]
  exact h
theorem lcS_inv {p : Its} {vs : List Nat} {t : Tg} {e : E} {L : Nat} {env : Sl} (I : Sto → Prop) (Gd : D → Prop) (hp : ∀ s, I s → p.okB s) (hset : ∀ s acc y, I s → s[L]? = some (.lst acc) → I (s.set L (.lst (acc ++ [y])))) :
    ∀ (ds : List D) (acc : List D) (s : Sto), acc.length + ds.length ≤ LIM → s[L]? = some (.lst acc) → I s → (∀ y ∈ acc, Gd y) →
    (∀ d ∈ ds, ∀ s acc, I s → s[L]? = some (.lst acc) → ∃ e1, Tg.sem s t d (wipeD env vs) = some e1 ∧ Wp (fun _ _ _ => False) (fun y s2 => Gd y ∧ I s2 ∧ s2[L]? = s[L]?) (e e1 s)) →
    ∃ s' ys, lcS p vs t tYes' e L env ds s = some s' ∧ s'[L]? = some (.lst ys) ∧ ys.length = acc.length + ds.length ∧ (∀ y ∈ ys, Gd y) ∧ I s'
  | [], acc, s, _, hs, hI, hG, _ => ⟨s, acc, by unfold lcS; rw [if_pos (hp s hI)], hs, by simp, hG, hI⟩
  | d :: ds, acc, s, hl, hs, hI, hG, H => by
    obtain ⟨e1, he1, hw⟩ := H d (by simp) s acc hI hs
    obtain ⟨y, s2, he, hy, hI2, hL2⟩ := hw.to
    rw [hs] at hL2
    unfold lcS
    rw [if_pos (hp s hI), he1]
    have ht : tYes' e1 s = .ok true s := rfl
    simp only [ht, he, hL2]
    simp only [List.length_cons] at hl
    rw [if_pos (by omega)]
    obtain ⟨s', ys, r1, r2, r3, r4, r5⟩ := lcS_inv (p := p) (vs := vs) (t := t) (e := e) (L := L) (env := env) I Gd hp hset ds (acc ++ [y]) (s2.set L (.lst (acc ++ [y]))) (by simp; omega) (set_get hL2) (hset s2 acc y hI2 hL2) (fun z hz => by
      rcases List.mem_append.mp hz with hz | hz
      · exact hG z hz
      · rw [List.mem_singleton.mp hz]; exact hy) fun d hd => H d (List.mem_cons_of_mem _ hd)
    exact ⟨s', ys, r1, r2, by rw [r3]; simp; omega, r4, r5⟩
/-- a comprehension whose items change the store -/
theorem wp_lcI {vs : List Nat} {it : Sl → M Its} {t : Tg} {e : E} (h : Wp X (fun p s0 => ∃ (I : Sto → Prop) (Gd : D → Prop), p.items.length ≤ LIM ∧ (∀ s, I s → p.okB s) ∧ I (s0 ++ [.lst []]) ∧ (∀ s acc y, I s → s[s0.length]? = some (.lst acc) → I (s.set s0.length (.lst (acc ++ [y])))) ∧
    (∀ d ∈ p.items, ∀ s acc, I s → s[s0.length]? = some (.lst acc) → ∃ e1, Tg.sem s t d (wipeD env vs) = some e1 ∧ Wp (fun _ _ _ => False) (fun y s2 => Gd y ∧ I s2 ∧ s2[s0.length]? = s[s0.length]?) (e e1 s)) ∧
    ∀ s ys, ys.length = p.items.length → (∀ y ∈ ys, Gd y) → I s → s[s0.length]? = some (.lst ys) → Q (.ref s0.length) s) (it env st)) : Wp X Q (eLc vs it t tYes' e env st) := by
  unfold eLc
  rw [wp_bind]
  refine h.imp ?_ fun _ _ _ z => z
  rintro p s0 ⟨I, Gd, hl, hp, hI, hset, H, k⟩
  obtain ⟨s', ys, r1, r2, r3, r4, r5⟩ := lcS_inv (p := p) (vs := vs) (t := t) (e := e) (env := env) (L := s0.length) I Gd hp hset p.items [] (s0 ++ [.lst []]) (by simpa using hl) (by simp) hI (by simp) H
  rw [r1]
  exact r_wp_ok (k _ ys (by simpa using r3) r4 r5 r2)
end
end LF

set_option Elab.async false
set_option linter.all false
set_option maxRecDepth 100000
set_option maxHeartbeats 4000000
namespace K04
open PySem PySem.Spec PyProof.Rows L2 LF
def topS (i : Nat) : Stmt := PySem.Challenge.pw_lampfolk_k04_whole_visits_and_sayings.main.body.getD i (.Pass ⟨0, 0, 0, 0⟩)
abbrev N_is_number : List Str := ["value"]
theorem sc_is_number : FnScope N_is_number ["value"] (defScope (topS 11)) := ⟨rfl, rfl, rfl, by decide +kernel, rfl, by decide +kernel, by decide +kernel⟩
abbrev N_is_within : List Str := ["value", "least", "most"]
theorem sc_is_within : FnScope N_is_within ["value", "least", "most"] (defScope (topS 12)) := ⟨rfl, rfl, rfl, by decide +kernel, rfl, by decide +kernel, by decide +kernel⟩
abbrev N_is_listed : List Str := ["value"]
theorem sc_is_listed : FnScope N_is_listed ["value"] (defScope (topS 13)) := ⟨rfl, rfl, rfl, by decide +kernel, rfl, by decide +kernel, by decide +kernel⟩
abbrev N_is_word : List Str := ["value"]
theorem sc_is_word : FnScope N_is_word ["value"] (defScope (topS 14)) := ⟨rfl, rfl, rfl, by decide +kernel, rfl, by decide +kernel, by decide +kernel⟩
abbrev N_replaced : List Str := ["row", "at", "value"]
theorem sc_replaced : FnScope N_replaced ["row", "at", "value"] (defScope (topS 15)) := ⟨rfl, rfl, rfl, by decide +kernel, rfl, by decide +kernel, by decide +kernel⟩
abbrev N_is_step : List Str := ["value", "states", "colours"]
theorem sc_is_step : FnScope N_is_step ["value", "states", "colours"] (defScope (topS 19)) := ⟨rfl, rfl, rfl, by decide +kernel, rfl, by decide +kernel, by decide +kernel⟩
abbrev N_are_steps : List Str := ["value", "row", "step"]
theorem sc_are_steps : FnScope N_are_steps ["value"] (defScope (topS 20)) := ⟨rfl, rfl, rfl, by decide +kernel, rfl, by decide +kernel, by decide +kernel⟩
abbrev N_all_colours : List Str := ["program"]
theorem sc_all_colours : FnScope N_all_colours ["program"] (defScope (topS 22)) := ⟨rfl, rfl, rfl, by decide +kernel, rfl, by decide +kernel, by decide +kernel⟩
abbrev N_first_colours : List Str := ["program"]
theorem sc_first_colours : FnScope N_first_colours ["program"] (defScope (topS 23)) := ⟨rfl, rfl, rfl, by decide +kernel, rfl, by decide +kernel, by decide +kernel⟩
abbrev N_check_many : List Str := ["program", "many"]
theorem sc_check_many : FnScope N_check_many ["program", "many"] (defScope (topS 27)) := ⟨rfl, rfl, rfl, by decide +kernel, rfl, by decide +kernel, by decide +kernel⟩
abbrev N_is_first_colour : List Str := ["program", "value"]
theorem sc_is_first_colour : FnScope N_is_first_colour ["program", "value"] (defScope (topS 28)) := ⟨rfl, rfl, rfl, by decide +kernel, rfl, by decide +kernel, by decide +kernel⟩
abbrev N_check_start : List Str := ["program", "many", "colour"]
theorem sc_check_start : FnScope N_check_start ["program", "many", "colour"] (defScope (topS 29)) := ⟨rfl, rfl, rfl, by decide +kernel, rfl, by decide +kernel, by decide +kernel⟩
abbrev N_begun : List Str := ["program", "many", "colour", "states"]
theorem sc_begun : FnScope N_begun ["program", "many", "colour"] (defScope (topS 30)) := ⟨rfl, rfl, rfl, by decide +kernel, rfl, by decide +kernel, by decide +kernel⟩
abbrev N_beginning : List Str := ["program", "many", "colour"]
theorem sc_beginning : FnScope N_beginning ["program", "many", "colour"] (defScope (topS 31)) := ⟨rfl, rfl, rfl, by decide +kernel, rfl, by decide +kernel, by decide +kernel⟩
abbrev N_is_standing : List Str := ["program", "value", "states", "been", "flag", "state"]
theorem sc_is_standing : FnScope N_is_standing ["program", "value"] (defScope (topS 32)) := ⟨rfl, rfl, rfl, by decide +kernel, rfl, by decide +kernel, by decide +kernel⟩
abbrev N_check_visit : List Str := ["program", "standing", "visit"]
theorem sc_check_visit : FnScope N_check_visit ["program", "standing", "visit"] (defScope (topS 33)) := ⟨rfl, rfl, rfl, by decide +kernel, rfl, by decide +kernel, by decide +kernel⟩
abbrev N_step_of : List Str := ["program", "standing", "visit"]
theorem sc_step_of : FnScope N_step_of ["program", "standing", "visit"] (defScope (topS 34)) := ⟨rfl, rfl, rfl, by decide +kernel, rfl, by decide +kernel, by decide +kernel⟩
abbrev N_behind : List Str := ["program", "standing", "visit", "state", "colour"]
theorem sc_behind : FnScope N_behind ["program", "standing", "visit"] (defScope (topS 35)) := ⟨rfl, rfl, rfl, by decide +kernel, rfl, by decide +kernel, by decide +kernel⟩
abbrev N_visited : List Str := ["program", "standing", "visit"]
theorem sc_visited : FnScope N_visited ["program", "standing", "visit"] (defScope (topS 36)) := ⟨rfl, rfl, rfl, by decide +kernel, rfl, by decide +kernel, by decide +kernel⟩
abbrev N_saying : List Str := ["program", "standing", "visit"]
theorem sc_saying : FnScope N_saying ["program", "standing", "visit"] (defScope (topS 37)) := ⟨rfl, rfl, rfl, by decide +kernel, rfl, by decide +kernel, by decide +kernel⟩
abbrev N_is_lie : List Str := ["word", "been", "many", "flag"]
theorem sc_is_lie : FnScope N_is_lie ["word", "been"] (defScope (topS 38)) := ⟨rfl, rfl, rfl, by decide +kernel, rfl, by decide +kernel, by decide +kernel⟩
abbrev N_check_order : List Str := ["standing", "order", "at", "visit"]
theorem sc_check_order : FnScope N_check_order ["standing", "order"] (defScope (topS 39)) := ⟨rfl, rfl, rfl, by decide +kernel, rfl, by decide +kernel, by decide +kernel⟩
abbrev N_told_along : List Str := ["program", "standing", "order", "found", "visit", "word"]
theorem sc_told_along : FnScope N_told_along ["program", "standing", "order"] (defScope (topS 40)) := ⟨rfl, rfl, rfl, by decide +kernel, rfl, by decide +kernel, by decide +kernel⟩
abbrev N_started : List Str := ["program", "many", "colour", "order", "standing"]
theorem sc_started : FnScope N_started ["program", "many", "colour", "order"] (defScope (topS 41)) := ⟨rfl, rfl, rfl, by decide +kernel, rfl, by decide +kernel, by decide +kernel⟩
abbrev N_said : List Str := ["program", "many", "colour", "order", "standing", "word", "wrong"]
theorem sc_said : FnScope N_said ["program", "many", "colour", "order"] (defScope (topS 42)) := ⟨rfl, rfl, rfl, by decide +kernel, rfl, by decide +kernel, by decide +kernel⟩
abbrev N_lies : List Str := ["program", "many", "colour", "order", "standing", "at", "row"]
theorem sc_lies : FnScope N_lies ["program", "many", "colour", "order"] (defScope (topS 43)) := ⟨rfl, rfl, rfl, by decide +kernel, rfl, by decide +kernel, by decide +kernel⟩
abbrev N__law_pot : List Str := ["script", "cell"]
theorem sc__law_pot : FnScope N__law_pot ["script"] (defScope (topS 45)) := ⟨rfl, rfl, rfl, by decide +kernel, rfl, by decide +kernel, by decide +kernel⟩
abbrev N__law_draw : List Str := ["pot", "many", "found", "cell"]
theorem sc__law_draw : FnScope N__law_draw ["pot", "many"] (defScope (topS 46)) := ⟨rfl, rfl, rfl, by decide +kernel, rfl, by decide +kernel, by decide +kernel⟩
abbrev N__law_pick : List Str := ["pot", "row"]
theorem sc__law_pick : FnScope N__law_pick ["pot", "row"] (defScope (topS 47)) := ⟨rfl, rfl, rfl, by decide +kernel, rfl, by decide +kernel, by decide +kernel⟩
abbrev N__law_same : List Str := ["found", "due", "k"]
theorem sc__law_same : FnScope N__law_same ["found", "due"] (defScope (topS 48)) := ⟨rfl, rfl, rfl, by decide +kernel, rfl, by decide +kernel, by decide +kernel⟩
abbrev N__law_odd : List Str := ["pot", "thing", "some"]
theorem sc__law_odd : FnScope N__law_odd ["pot", "thing"] (defScope (topS 49)) := ⟨rfl, rfl, rfl, by decide +kernel, rfl, by decide +kernel, by decide +kernel⟩
abbrev N__law_bent : List Str := ["pot", "thing", "left", "at", "part"]
theorem sc__law_bent : FnScope N__law_bent ["pot", "thing", "left"] (defScope (topS 50)) := ⟨rfl, rfl, rfl, by decide +kernel, rfl, by decide +kernel, by decide +kernel⟩
abbrev N__law_within : List Str := ["thing", "low", "high"]
theorem sc__law_within : FnScope N__law_within ["thing", "low", "high"] (defScope (topS 51)) := ⟨rfl, rfl, rfl, by decide +kernel, rfl, by decide +kernel, by decide +kernel⟩
abbrev N__law_saying : List Str := ["pot"]
theorem sc__law_saying : FnScope N__law_saying ["pot"] (defScope (topS 52)) := ⟨rfl, rfl, rfl, by decide +kernel, rfl, by decide +kernel, by decide +kernel⟩
abbrev N__law_spec : List Str := ["pot", "most", "states", "colours", "rows", "state", "row", "colour", "leader"]
theorem sc__law_spec : FnScope N__law_spec ["pot", "most"] (defScope (topS 53)) := ⟨rfl, rfl, rfl, by decide +kernel, rfl, by decide +kernel, by decide +kernel⟩
abbrev N_Program_init : List Str := ["self", "steps", "first", "leader", "lamp"]
theorem sc_Program_init : FnScope N_Program_init ["self", "steps", "first", "leader", "lamp"] (defScope (inClass (topS 21) 0)) := ⟨rfl, rfl, rfl, by decide +kernel, rfl, by decide +kernel, by decide +kernel⟩
abbrev N__law_made : List Str := ["spec"]
theorem sc__law_made : FnScope N__law_made ["spec"] (defScope (topS 54)) := ⟨rfl, rfl, rfl, by decide +kernel, rfl, by decide +kernel, by decide +kernel⟩
abbrev N__law_colours : List Str := ["spec"]
theorem sc__law_colours : FnScope N__law_colours ["spec"] (defScope (topS 55)) := ⟨rfl, rfl, rfl, by decide +kernel, rfl, by decide +kernel, by decide +kernel⟩
abbrev N__law_begun : List Str := ["spec", "many", "colour", "states"]
theorem sc__law_begun : FnScope N__law_begun ["spec", "many", "colour"] (defScope (topS 56)) := ⟨rfl, rfl, rfl, by decide +kernel, rfl, by decide +kernel, by decide +kernel⟩
abbrev N__law_step : List Str := ["spec", "standing", "index", "state", "colour", "word", "states", "been"]
theorem sc__law_step : FnScope N__law_step ["spec", "standing", "index"] (defScope (topS 57)) := ⟨rfl, rfl, rfl, by decide +kernel, rfl, by decide +kernel, by decide +kernel⟩
abbrev N__law_is_lie : List Str := ["word", "been", "many", "one"]
theorem sc__law_is_lie : FnScope N__law_is_lie ["word", "been"] (defScope (topS 58)) := ⟨rfl, rfl, rfl, by decide +kernel, rfl, by decide +kernel, by decide +kernel⟩
abbrev N__law_told : List Str := ["spec", "standing", "order", "words", "wrong", "at", "index", "word"]
theorem sc__law_told : FnScope N__law_told ["spec", "standing", "order"] (defScope (topS 59)) := ⟨rfl, rfl, rfl, by decide +kernel, rfl, by decide +kernel, by decide +kernel⟩
abbrev N__law_many : List Str := ["pot", "spec", "most"]
theorem sc__law_many : FnScope N__law_many ["pot", "spec", "most"] (defScope (topS 60)) := ⟨rfl, rfl, rfl, by decide +kernel, rfl, by decide +kernel, by decide +kernel⟩
abbrev N__law_is_standing : List Str := ["spec", "thing", "one"]
theorem sc__law_is_standing : FnScope N__law_is_standing ["spec", "thing"] (defScope (topS 61)) := ⟨rfl, rfl, rfl, by decide +kernel, rfl, by decide +kernel, by decide +kernel⟩
abbrev N__law_found : List Str := ["work", "told", "e"]
theorem sc__law_found : FnScope N__law_found ["work"] (defScope (topS 62)) := ⟨rfl, rfl, rfl, by decide +kernel, rfl, by decide +kernel, by decide +kernel⟩
abbrev N_law : List Str := ["script", "pot", "turn", "spec", "made", "many", "colour", "first", "order", "words", "wrong", "last", "word", "later", "odd", "due", "bad", "shade", "work", "thing", "visit", "k"]
theorem sc_law : FnScope N_law ["script"] (defScope (topS 63)) := ⟨rfl, rfl, rfl, by decide +kernel, rfl, by decide +kernel, by decide +kernel⟩
abbrev c_MOST_SAID : D := .int 4
abbrev c_ALL : D := .str (Str.ofString "all")
abbrev c_MOST_STATES : D := .int 5
abbrev c_MOST_COLOURS : D := .int 4
abbrev c_MOST_FOLK : D := .int 6
abbrev c_MOST_VISITS : D := .int 2000
def fld_first (c : Nat) : Bool := c == 8
def fld_lamp (c : Nat) : Bool := c == 8
def fld_leader (c : Nat) : Bool := c == 8
def fld_steps (c : Nat) : Bool := c == 8
def no_BadNumber : List Nat := [2, 4, 5, 6, 7]
def no_NoColour : List Nat := [2, 3, 5, 6, 7]
def no_NoOrder : List Nat := [2, 3, 4, 5, 6]
def no_NoStanding : List Nat := [2, 3, 4, 6, 7]
def no_NoVisit : List Nat := [2, 3, 4, 5, 7]
noncomputable def b_is_number : Sm := sRet (eAnd (eBlt (opIsi (.ty "int") (ansTy "int")) [eVar 0, eC (.ty "int")]) (eNot (eBlt (opIsi (.ty "bool") (ansTy "bool")) [eVar 0, eC (.ty "bool")])))
noncomputable def f_is_number : F := fnS 1 1 b_is_number
noncomputable def b_is_within : Sm := sRet (eAnd (eCall (f_is_number) [eVar 0]) (eChain opLe opLe (eVar 1) (eVar 0) (eVar 2)))
noncomputable def f_is_within : F := fnS 3 3 b_is_within
noncomputable def b_is_listed : Sm := sRet (eBlt opIsiLT [eVar 0, eBlt opTup [eC (.ty "list"), eC (.ty "tuple")]])
noncomputable def f_is_listed : F := fnS 1 1 b_is_listed
noncomputable def b_is_word : Sm := sRet (eOr (eCall (f_is_within) [eVar 0, eC (.int 1), eC c_MOST_SAID]) (eAnd (eBlt (opIsi (.ty "str") (ansTy "str")) [eVar 0, eC (.ty "str")]) (eBin opEq (eVar 0) (eC c_ALL))))
noncomputable def f_is_word : F := fnS 1 1 b_is_word
noncomputable def b_replaced : Sm := sRet (eBltX opTup [(true, eSl (eVar 0) none (some (eVar 1))), (false, eVar 2), (true, eSl (eVar 0) (some (eBin opAdd (eVar 1) (eC (.int 1)))) none)])
noncomputable def f_replaced : F := fnS 3 3 b_replaced
noncomputable def b_is_step : Sm := sSeq (sIf (tOr' (tNot' (tTru (eBlt (opIsi (.ty "tuple") (ansTy "tuple")) [eVar 0, eC (.ty "tuple")]))) (asB (eBin opNe (eBlt opLen [eVar 0]) (eC (.int 3))))) (sRet (eC (.bl false))) (sSkip)) (sSeq (sIf (tOr' (tNot' (tTru (eCall (f_is_within) [eBin opIx (eVar 0) (eC (.int 0)), eC (.int 0), eBin opSub (eVar 1) (eC (.int 1))]))) (tNot' (tTru (eCall (f_is_within) [eBin opIx (eVar 0) (eC (.int 1)), eC (.int 0), eBin opSub (eVar 2) (eC (.int 1))])))) (sRet (eC (.bl false))) (sSkip)) (sRet (eOr (eBin opIs (eBin opIx (eVar 0) (eC (.int 2))) (eC .non)) (eCall (f_is_word) [eBin opIx (eVar 0) (eC (.int 2))]))))
noncomputable def f_is_step : F := fnS 3 3 b_is_step
noncomputable def b_are_steps : Sm := sSeq (sIf (tOr' (tNot' (tTru (eBlt (opIsi (.ty "tuple") (ansTy "tuple")) [eVar 0, eC (.ty "tuple")]))) (tNot' (asB (eChain opLe opLe (eC (.int 1)) (eBlt opLen [eVar 0]) (eC c_MOST_STATES))))) (sRet (eC (.bl false))) (sSkip)) (sSeq (sIf (tNot' (tTru (eBlt opAll [eLc [1] (iS (eVar 0)) (.name 1) (tYes') (eAnd (eBlt (opIsi (.ty "tuple") (ansTy "tuple")) [eVar 1, eC (.ty "tuple")]) (eChain opLe opLe (eC (.int 1)) (eBlt opLen [eVar 1]) (eC c_MOST_COLOURS)))]))) (sRet (eC (.bl false))) (sSkip)) (sSeq (sFor (iS (eVar 0)) (.name 1) (sIf (tOr' (asB (eBin opNe (eBlt opLen [eVar 1]) (eBlt opLen [eBin opIx (eVar 0) (eC (.int 0))]))) (tNot' (tTru (eBlt opAll [eLc [2] (iS (eVar 1)) (.name 2) (tYes') (eCall (f_is_step) [eVar 2, eBlt opLen [eVar 0], eBlt opLen [eVar 1]])])))) (sRet (eC (.bl false))) (sSkip))) (sRet (eC (.bl true)))))
noncomputable def f_are_steps : F := fnS 1 3 b_are_steps
noncomputable def b_all_colours : Sm := sRet (eLRg (eBlt opLen [eBin opIx (eUn (opFld fld_steps "steps") (eVar 0)) (eC (.int 0))]))
noncomputable def f_all_colours : F := fnS 1 1 b_all_colours
noncomputable def b_first_colours : Sm := sRet (eIf (asB (eBin opIs (eUn (opFld fld_lamp "lamp") (eVar 0)) (eC .non))) (eCall (f_all_colours) [eVar 0]) (eBlt opLst [eUn (opFld fld_lamp "lamp") (eVar 0)]))
noncomputable def f_first_colours : F := fnS 1 1 b_first_colours
noncomputable def b_check_many : Sm := sIf (tNot' (tTru (eCall (f_is_within) [eVar 1, eIf (asB (eBin opIsNot (eUn (opFld fld_leader "leader") (eVar 0)) (eC .non))) (eC (.int 0)) (eC (.int 1)), eC c_MOST_FOLK]))) (sRaise1 3 "value" (eVar 1)) (sSkip)
noncomputable def f_check_many : F := fnS 2 2 b_check_many
noncomputable def b_is_first_colour : Sm := sRet (eAnd (eCall (f_is_within) [eVar 1, eC (.int 0), eBin opSub (eBlt opLen [eBin opIx (eUn (opFld fld_steps "steps") (eVar 0)) (eC (.int 0))]) (eC (.int 1))]) (eBin (opIn false) (eVar 1) (eCall (f_first_colours) [eVar 0])))
noncomputable def f_is_first_colour : F := fnS 2 2 b_is_first_colour
noncomputable def b_check_start : Sm := sSeq (sExpr (eCall (f_check_many) [eVar 0, eVar 1])) (sIf (tNot' (tTru (eCall (f_is_first_colour) [eVar 0, eVar 2]))) (sRaise0 4) (sSkip))
noncomputable def f_check_start : F := fnS 3 3 b_check_start
noncomputable def b_begun : Sm := sSeq (sAsg (.name 3) (eBin opMulY (eBlt opTup [eUn (opFld fld_first "first") (eVar 0)]) (eVar 1))) (sSeq (sIf (asB (eBin opIsNot (eUn (opFld fld_leader "leader") (eVar 0)) (eC .non))) (sAsg (.name 3) (eBltX opTup [(true, eVar 3), (false, eUn (opFld fld_leader "leader") (eVar 0))])) (sSkip)) (sRet (eBlt opTup [eVar 2, eVar 3, eBin opMulY (eBlt opTup [eC (.bl false)]) (eBlt opLen [eVar 3])])))
noncomputable def f_begun : F := fnS 3 4 b_begun
noncomputable def b_beginning : Sm := sSeq (sExpr (eCall (f_check_start) [eVar 0, eVar 1, eVar 2])) (sRet (eCall (f_begun) [eVar 0, eVar 1, eVar 2]))
noncomputable def f_beginning : F := fnS 3 3 b_beginning
noncomputable def b_is_standing : Sm := sSeq (sIf (tOr' (tNot' (tTru (eBlt (opIsi (.ty "tuple") (ansTy "tuple")) [eVar 1, eC (.ty "tuple")]))) (tOr' (asB (eBin opNe (eBlt opLen [eVar 1]) (eC (.int 3)))) (tNot' (tTru (eCall (f_is_within) [eBin opIx (eVar 1) (eC (.int 0)), eC (.int 0), eBin opSub (eBlt opLen [eBin opIx (eUn (opFld fld_steps "steps") (eVar 0)) (eC (.int 0))]) (eC (.int 1))]))))) (sRet (eC (.bl false))) (sSkip)) (sSeq (sAsg (.tup [.name 2, .name 3]) (eSl (eVar 1) (some (eC (.int 1))) none)) (sSeq (sIf (tOr' (tNot' (tTru (eBlt (opIsi (.ty "tuple") (ansTy "tuple")) [eVar 2, eC (.ty "tuple")]))) (tOr' (tNot' (tTru (eBlt (opIsi (.ty "tuple") (ansTy "tuple")) [eVar 3, eC (.ty "tuple")]))) (asB (eBin opNe (eBlt opLen [eVar 2]) (eBlt opLen [eVar 3]))))) (sRet (eC (.bl false))) (sSkip)) (sSeq (sIf (tOr' (tNot' (asB (eChain opLe opLe (eC (.int 1)) (eBlt opLen [eVar 2]) (eBin opAdd (eC c_MOST_FOLK) (eC (.int 1)))))) (tNot' (tTru (eBlt opAll [eLc [4] (iS (eVar 3)) (.name 4) (tYes') (eBlt (opIsi (.ty "bool") (ansTy "bool")) [eVar 4, eC (.ty "bool")])])))) (sRet (eC (.bl false))) (sSkip)) (sRet (eBlt opAll [eLc [5] (iS (eVar 2)) (.name 5) (tYes') (eCall (f_is_within) [eVar 5, eC (.int 0), eBin opSub (eBlt opLen [eUn (opFld fld_steps "steps") (eVar 0)]) (eC (.int 1))])])))))
noncomputable def f_is_standing : F := fnS 2 6 b_is_standing
noncomputable def b_check_visit : Sm := sSeq (sIf (tNot' (tTru (eCall (f_is_standing) [eVar 0, eVar 1]))) (sRaise0 5) (sSkip)) (sIf (tNot' (tTru (eCall (f_is_within) [eVar 2, eC (.int 0), eBin opSub (eBlt opLen [eBin opIx (eVar 1) (eC (.int 1))]) (eC (.int 1))]))) (sRaise0 6) (sSkip))
noncomputable def f_check_visit : F := fnS 3 3 b_check_visit
noncomputable def b_step_of : Sm := sRet (eBin opIx (eBin opIx (eUn (opFld fld_steps "steps") (eVar 0)) (eBin opIx (eBin opIx (eVar 1) (eC (.int 1))) (eVar 2))) (eBin opIx (eVar 1) (eC (.int 0))))
noncomputable def f_step_of : F := fnS 3 3 b_step_of
noncomputable def b_behind : Sm := sSeq (sAsg (.tup [.name 3, .name 4]) (eSl (eCall (f_step_of) [eVar 0, eVar 1, eVar 2]) none (some (eC (.int 2))))) (sRet (eBlt opTup [eVar 4, eCall (f_replaced) [eBin opIx (eVar 1) (eC (.int 1)), eVar 2, eVar 3], eCall (f_replaced) [eBin opIx (eVar 1) (eC (.int 2)), eVar 2, eC (.bl true)]]))
noncomputable def f_behind : F := fnS 3 5 b_behind
noncomputable def b_visited : Sm := sSeq (sExpr (eCall (f_check_visit) [eVar 0, eVar 1, eVar 2])) (sRet (eCall (f_behind) [eVar 0, eVar 1, eVar 2]))
noncomputable def f_visited : F := fnS 3 3 b_visited
noncomputable def b_saying : Sm := sSeq (sExpr (eCall (f_check_visit) [eVar 0, eVar 1, eVar 2])) (sRet (eBin opIx (eCall (f_step_of) [eVar 0, eVar 1, eVar 2]) (eC (.int 2))))
noncomputable def f_saying : F := fnS 3 3 b_saying
noncomputable def b_is_lie : Sm := sSeq (sIf (asB (eBin opIs (eVar 0) (eC .non))) (sRet (eC (.bl false))) (sSkip)) (sSeq (sAsg (.name 2) (eBlt opLen [eLc [3] (iS (eVar 1)) (.name 3) (tTru (eVar 3)) (eVar 3)])) (sRet (eIf (asB (eBin opEq (eVar 0) (eC c_ALL))) (eBin opLt (eVar 2) (eBlt opLen [eVar 1])) (eBin opLt (eVar 2) (eVar 0)))))
noncomputable def f_is_lie : F := fnS 2 4 b_is_lie
noncomputable def b_check_order : Sm := sSeq (sIf (tOr' (tNot' (tTru (eCall (f_is_listed) [eVar 1]))) (asB (eBin opGt (eBlt opLen [eVar 1]) (eC c_MOST_VISITS)))) (sRaise1 7 "at" (eUn opNeg (eC (.int 1)))) (sSkip)) (sFor (iEnX (eVar 1)) (.tup [.name 2, .name 3]) (sIf (tNot' (tTru (eCall (f_is_within) [eVar 3, eC (.int 0), eBin opSub (eBlt opLen [eBin opIx (eVar 0) (eC (.int 1))]) (eC (.int 1))]))) (sRaise1 7 "at" (eVar 2)) (sSkip)))
noncomputable def f_check_order : F := fnS 2 4 b_check_order
noncomputable def b_told_along : Sm := sSeq (sAsg (.name 3) (eBlt opLst [])) (sSeq (sFor (iS (eVar 2)) (.name 4) (sSeq (sAsg (.name 5) (eBin opIx (eCall (f_step_of) [eVar 0, eVar 1, eVar 4]) (eC (.int 2)))) (sSeq (sAsg (.name 1) (eCall (f_behind) [eVar 0, eVar 1, eVar 4])) (sExpr (eMt "list" opAppend (eVar 3) [eBlt opTup [eVar 5, eCall (f_is_lie) [eVar 5, eBin opIx (eVar 1) (eC (.int 2))]]]))))) (sRet (eBlt opTup [eVar 3, eVar 1])))
noncomputable def f_told_along : F := fnS 3 6 b_told_along
noncomputable def b_started : Sm := sSeq (sExpr (eCall (f_check_start) [eVar 0, eVar 1, eVar 2])) (sSeq (sAsg (.name 4) (eCall (f_begun) [eVar 0, eVar 1, eVar 2])) (sSeq (sExpr (eCall (f_check_order) [eVar 4, eVar 3])) (sRet (eVar 4))))
noncomputable def f_started : F := fnS 4 5 b_started
noncomputable def b_said : Sm := sSeq (sAsg (.name 4) (eCall (f_started) [eVar 0, eVar 1, eVar 2, eVar 3])) (sRet (eBlt opTuple [eLc [5, 6] (iS (eBin opIx (eCall (f_told_along) [eVar 0, eVar 4, eVar 3]) (eC (.int 0)))) (.tup [.name 5, .name 6]) (tYes') (eVar 5)]))
noncomputable def f_said : F := fnS 4 7 b_said
noncomputable def b_lies : Sm := sSeq (sAsg (.name 4) (eCall (f_started) [eVar 0, eVar 1, eVar 2, eVar 3])) (sRet (eBlt opTuple [eLc [5, 6] (iEnX (eBin opIx (eCall (f_told_along) [eVar 0, eVar 4, eVar 3]) (eC (.int 0)))) (.tup [.name 5, .name 6]) (tTru (eBin opIx (eVar 6) (eC (.int 1)))) (eVar 5)]))
noncomputable def f_lies : F := fnS 4 7 b_lies
noncomputable def b__law_pot : Sm := sRet (eBlt opLst [eLc [1] (iS (eSl (eVar 0) none (some (eC (.int 63))))) (.name 1) (tYes') (eBlt opAbs [eVar 1]), eC (.int 0), eC (.int 20011), eC (.int 0)])
noncomputable def f__law_pot : F := fnS 1 2 b__law_pot
noncomputable def b__law_draw : Sm := sSeq (sIf (asB (eBin opLt (eVar 1) (eC (.int 2)))) (sRet (eC (.int 0))) (sSkip)) (sSeq (sIf (asB (eBin opGt (eBin opIx (eVar 0) (eC (.int 3))) (eC (.int 0)))) (sSeq (sAsg (.name 2) (eBin opMod (eBlt opInt [eBin opIx (eVar 0) (eC (.int 3))]) (eVar 1))) (sSeq (sSetIx (eVar 0) (eC (.int 3)) (eBin opDiv (eBin opIx (eVar 0) (eC (.int 3))) (eVar 1))) (sRet (eVar 2)))) (sSkip)) (sSeq (sAsg (.name 3) (eC (.int 0))) (sSeq (sIf (asB (eBin opLt (eBin opIx (eVar 0) (eC (.int 1))) (eBlt opLen [eBin opIx (eVar 0) (eC (.int 0))]))) (sSeq (sAsg (.name 3) (eBin opIx (eBin opIx (eVar 0) (eC (.int 0))) (eBin opIx (eVar 0) (eC (.int 1))))) (sSeq (sSetIx (eVar 0) (eC (.int 1)) (eBin opAdd (eBin opIx (eVar 0) (eC (.int 1))) (eC (.int 1)))) (sIf (asB (eBin opGe (eVar 3) (eBin opPow (eC (.int 10)) (eC (.int 18))))) (sSeq (sSetIx (eVar 0) (eC (.int 3)) (eBin opDiv (eVar 3) (eVar 1))) (sRet (eBin opMod (eBlt opInt [eVar 3]) (eVar 1)))) (sSkip)))) (sSkip)) (sSeq (sSetIx (eVar 0) (eC (.int 2)) (eBin opMod (eBlt opInt [eBin opAdd (eBin opAdd (eBin opMulY (eBin opIx (eVar 0) (eC (.int 2))) (eC (.int 48271))) (eVar 3)) (eC (.int 12345))]) (eC (.int 2147483647)))) (sRet (eBin opMod (eBlt opInt [eBin opAdd (eBin opDiv (eBin opMulY (eBin opIx (eVar 0) (eC (.int 2))) (eBin opIx (eVar 0) (eC (.int 2)))) (eC (.int 64))) (eBin opDiv (eBin opIx (eVar 0) (eC (.int 2))) (eC (.int 7)))]) (eVar 1)))))))
noncomputable def f__law_draw : F := fnS 2 4 b__law_draw
noncomputable def b__law_pick : Sm := sRet (eBin opIx (eVar 1) (eCall (f__law_draw) [eVar 0, eBlt opLen [eVar 1]]))
noncomputable def f__law_pick : F := fnS 2 2 b__law_pick
noncomputable def b__law_same (rec : F) : Sm := sSeq (sIf (tOr' (tTru (eBlt (opIsi (.ty "tuple") (ansTy "tuple")) [eVar 1, eC (.ty "tuple")])) (tTru (eBlt (opIsi (.ty "list") (ansTy "list")) [eVar 1, eC (.ty "list")]))) (sSeq (sIf (tOr' (asB (eBin opNe (eBlt (opIsi (.ty "tuple") (ansTy "tuple")) [eVar 1, eC (.ty "tuple")]) (eBlt (opIsi (.ty "tuple") (ansTy "tuple")) [eVar 0, eC (.ty "tuple")]))) (asB (eBin opNe (eBlt (opIsi (.ty "list") (ansTy "list")) [eVar 1, eC (.ty "list")]) (eBlt (opIsi (.ty "list") (ansTy "list")) [eVar 0, eC (.ty "list")])))) (sRet (eC (.bl false))) (sSkip)) (sSeq (sIf (asB (eBin opNe (eBlt opLen [eVar 0]) (eBlt opLen [eVar 1]))) (sRet (eC (.bl false))) (sSkip)) (sRet (eBin (opEqE false) (eLc [2] (iR1 (eBlt opLen [eVar 1])) (.name 2) (tNot' (tTru (eCall rec [eBin opIx (eVar 0) (eVar 2), eBin opIx (eVar 1) (eVar 2)]))) (eVar 2)) (eBlt opLst []))))) (sSkip)) (sSeq (sIf (asB (eBin opIs (eVar 1) (eC .non))) (sRet (eBin opIs (eVar 0) (eC .non))) (sSkip)) (sSeq (sIf (tTru (eBlt (opIsi (.ty "str") (ansTy "str")) [eVar 1, eC (.ty "str")])) (sRet (eAnd (eBlt (opIsi (.ty "str") (ansTy "str")) [eVar 0, eC (.ty "str")]) (eBin opEq (eVar 0) (eVar 1)))) (sSkip)) (sRet (eAnd (eBlt (opIsi (.ty "int") (ansTy "int")) [eVar 0, eC (.ty "int")]) (eAnd (eBin opEq (eBlt (opIsi (.ty "bool") (ansTy "bool")) [eVar 0, eC (.ty "bool")]) (eBlt (opIsi (.ty "bool") (ansTy "bool")) [eVar 1, eC (.ty "bool")])) (eBin opEq (eVar 0) (eVar 1)))))))
noncomputable def f__law_same : Nat → F
  | 0 => fun _ _ => .bad
  | k + 1 => fnS 2 3 (b__law_same (f__law_same k))
noncomputable def b__law_odd : Sm := sSeq (sIf (tTru (eBlt (opIsi (.ty "int") (ansTy "int")) [eVar 1, eC (.ty "int")])) (sRet (eCall (f__law_pick) [eVar 0, eBlt opLst [eBin opAddB (eVar 1) (eC (.int 1)), eBin opSubB (eVar 1) (eC (.int 1)), eC (.int 10), eUn opNeg (eC (.int 10)), eC (.int 100), eC (.bl true), eC .non, eBlt opStrB [eVar 1], eBlt opTup [eVar 1]]])) (sSkip)) (sSeq (sIf (tTru (eBlt (opIsi (.ty "str") (ansTy "str")) [eVar 1, eC (.ty "str")])) (sSeq (sAsg (.name 2) (eBlt opLst [eBin opAdd (eVar 1) (eC (.str (Str.ofString "a"))), eSl (eVar 1) (some (eC (.int 1))) none, eC (.str (Str.ofString "")), eC (.str (Str.ofString "A")), eC (.str (Str.ofString "all")), eC (.str (Str.ofString "end")), eC (.int 0), eC .non, eBlt opTup [eVar 1], eBlt opLst [eVar 1], eC (.str (Str.ofString "-"))])) (sRet (eCall (f__law_pick) [eVar 0, eVar 2]))) (sSkip)) (sSeq (sIf (tTru (eBlt (opIsi (.ty "tuple") (ansTy "tuple")) [eVar 1, eC (.ty "tuple")])) (sSeq (sAsg (.name 2) (eBlt opLst [eBin opAdd (eVar 1) (eSl (eVar 1) (some (eUn opNeg (eC (.int 1)))) none), eSl (eVar 1) (some (eC (.int 1))) none, eBlt opList [eVar 1], eBlt opTup [], eC .non, eC (.int 3), eC (.str (Str.ofString "x")), eBlt opTup [eVar 1], eSl (eVar 1) none (some (eUn opNeg (eC (.int 1)))), eBin opAdd (eVar 1) (eBlt opTup [eC (.int 1)])])) (sRet (eCall (f__law_pick) [eVar 0, eVar 2]))) (sSkip)) (sRet (eCall (f__law_pick) [eVar 0, eBlt opLst [eC .non, eC (.int 0), eC (.str (Str.ofString "ab")), eNewD, eC (.bl true)]]))))
noncomputable def f__law_odd : F := fnS 2 3 b__law_odd
noncomputable def b__law_bent (rec : F) : Sm := sSeq (sIf (tAnd' (tTru (eBlt opIsiLT [eVar 1, eBlt opTup [eC (.ty "list"), eC (.ty "tuple")]])) (tAnd' (asB (eBin opGt (eBlt opLen [eVar 1]) (eC (.int 0)))) (tAnd' (asB (eBin opGt (eVar 2) (eC (.int 0)))) (asB (eBin opGt (eCall (f__law_draw) [eVar 0, eC (.int 5)]) (eC (.int 0))))))) (sSeq (sAsg (.name 3) (eCall (f__law_draw) [eVar 0, eBlt opLen [eVar 1]])) (sSeq (sAsg (.name 4) (eCall rec [eVar 0, eBin opIx (eVar 1) (eVar 3), eBin opSub (eVar 2) (eC (.int 1))])) (sSeq (sIf (tTru (eBlt (opIsi (.ty "list") (ansTy "list")) [eVar 1, eC (.ty "list")])) (sRet (eBin opAdd (eBin opAdd (eSl (eVar 1) none (some (eVar 3))) (eBlt opLst [eVar 4])) (eSl (eVar 1) (some (eBin opAdd (eVar 3) (eC (.int 1)))) none))) (sSkip)) (sRet (eBin opAdd (eBin opAdd (eSl (eVar 1) none (some (eVar 3))) (eBlt opTup [eVar 4])) (eSl (eVar 1) (some (eBin opAdd (eVar 3) (eC (.int 1)))) none)))))) (sSkip)) (sRet (eCall (f__law_odd) [eVar 0, eVar 1]))
noncomputable def f__law_bent : Nat → F
  | 0 => fun _ _ => .bad
  | k + 1 => fnS 3 5 (b__law_bent (f__law_bent k))
noncomputable def b__law_within : Sm := sRet (eAnd (eBlt (opIsi (.ty "int") (ansTy "int")) [eVar 0, eC (.ty "int")]) (eAnd (eNot (eBlt (opIsi (.ty "bool") (ansTy "bool")) [eVar 0, eC (.ty "bool")])) (eChain opLe opLe (eVar 1) (eVar 0) (eVar 2))))
noncomputable def f__law_within : F := fnS 3 3 b__law_within
noncomputable def b__law_saying : Sm := sRet (eCall (f__law_pick) [eVar 0, eBlt opLst [eC .non, eC .non, eC .non, eC .non, eC (.int 1), eC (.int 2), eC (.int 3), eC (.int 4), eC (.str (Str.ofString "all"))]])
noncomputable def f__law_saying : F := fnS 1 1 b__law_saying
noncomputable def b__law_spec : Sm := sSeq (sPar 2 3 (eBin opAdd (eC (.int 1)) (eCall (f__law_draw) [eVar 0, eBin opIx (eVar 1) (eC (.int 0))])) (eBin opAdd (eC (.int 1)) (eCall (f__law_draw) [eVar 0, eBin opIx (eVar 1) (eC (.int 1))]))) (sSeq (sAsg (.name 4) (eBlt opLst [])) (sSeq (sFor (iR1 (eVar 2)) (.name 5) (sSeq (sAsg (.name 6) (eBlt opLst [])) (sSeq (sFor (iR1 (eVar 3)) (.name 7) (sExpr (eMt "list" opAppend (eVar 6) [eBlt opTup [eCall (f__law_draw) [eVar 0, eVar 2], eCall (f__law_draw) [eVar 0, eVar 3], eCall (f__law_saying) [eVar 0]]]))) (sExpr (eMt "list" opAppend (eVar 4) [eBlt opTuple [eVar 6]]))))) (sSeq (sAsg (.name 8) (eCall (f__law_pick) [eVar 0, eBlt opLst [eC .non, eC .non, eCall (f__law_draw) [eVar 0, eVar 2]]])) (sRet (eBlt opLst [eBlt opTuple [eVar 4], eCall (f__law_draw) [eVar 0, eVar 2], eVar 8, eCall (f__law_pick) [eVar 0, eBlt opLst [eC .non, eCall (f__law_draw) [eVar 0, eVar 3], eCall (f__law_draw) [eVar 0, eVar 3]]]])))))
noncomputable def f__law_spec : F := fnS 2 9 b__law_spec
noncomputable def b_Program_init : Sm := sSeq (sIf (tNot' (tTru (eCall (f_are_steps) [eVar 1]))) (sRaise1 2 "what" (eC (.str (Str.ofString "steps")))) (sSkip)) (sSeq (sIf (tNot' (tTru (eCall (f_is_within) [eVar 2, eC (.int 0), eBin opSub (eBlt opLen [eVar 1]) (eC (.int 1))]))) (sRaise1 2 "what" (eC (.str (Str.ofString "first")))) (sSkip)) (sSeq (sIf (tAnd' (asB (eBin opIsNot (eVar 3) (eC .non))) (tNot' (tTru (eCall (f_is_within) [eVar 3, eC (.int 0), eBin opSub (eBlt opLen [eVar 1]) (eC (.int 1))])))) (sRaise1 2 "what" (eC (.str (Str.ofString "leader")))) (sSkip)) (sSeq (sIf (tAnd' (asB (eBin opIsNot (eVar 4) (eC .non))) (tNot' (tTru (eCall (f_is_within) [eVar 4, eC (.int 0), eBin opSub (eBlt opLen [eBin opIx (eVar 1) (eC (.int 0))]) (eC (.int 1))])))) (sRaise1 2 "what" (eC (.str (Str.ofString "lamp")))) (sSkip)) (sSeq (sSetF fld_steps "steps" (eVar 0) (eVar 1)) (sSeq (sSetF fld_first "first" (eVar 0) (eVar 2)) (sSeq (sSetF fld_leader "leader" (eVar 0) (eVar 3)) (sSetF fld_lamp "lamp" (eVar 0) (eVar 4))))))))
noncomputable def f_Program_init : F := fnS 5 5 b_Program_init
noncomputable def b__law_made : Sm := sRet (eMake 8 f_Program_init [eBin opIx (eVar 0) (eC (.int 0)), eBin opIx (eVar 0) (eC (.int 1)), eBin opIx (eVar 0) (eC (.int 2)), eBin opIx (eVar 0) (eC (.int 3))])
noncomputable def f__law_made : F := fnS 1 1 b__law_made
noncomputable def b__law_colours : Sm := sRet (eIf (asB (eBin opIs (eBin opIx (eVar 0) (eC (.int 3))) (eC .non))) (eLRg (eBlt opLen [eBin opIx (eBin opIx (eVar 0) (eC (.int 0))) (eC (.int 0))])) (eBlt opLst [eBin opIx (eVar 0) (eC (.int 3))]))
noncomputable def f__law_colours : F := fnS 1 1 b__law_colours
noncomputable def b__law_begun : Sm := sSeq (sAsg (.name 3) (eBin opAdd (eBin opMulY (eBlt opTup [eBin opIx (eVar 0) (eC (.int 1))]) (eVar 1)) (eIf (asB (eBin opIs (eBin opIx (eVar 0) (eC (.int 2))) (eC .non))) (eBlt opTup []) (eBlt opTup [eBin opIx (eVar 0) (eC (.int 2))])))) (sRet (eBlt opTup [eVar 2, eVar 3, eBin opMulY (eBlt opTup [eC (.bl false)]) (eBlt opLen [eVar 3])]))
noncomputable def f__law_begun : F := fnS 3 4 b__law_begun
noncomputable def b__law_step : Sm := sSeq (sAsg (.tup [.name 3, .name 4, .name 5]) (eBin opIx (eBin opIx (eBin opIx (eVar 0) (eC (.int 0))) (eBin opIx (eBin opIx (eVar 1) (eC (.int 1))) (eVar 2))) (eBin opIx (eVar 1) (eC (.int 0))))) (sSeq (sPar 6 7 (eBlt opList [eBin opIx (eVar 1) (eC (.int 1))]) (eBlt opList [eBin opIx (eVar 1) (eC (.int 2))])) (sSeq (sSetV2 6 2 7 2 (eVar 3) (eC (.bl true))) (sRet (eBlt opTup [eVar 5, eBlt opTup [eVar 4, eBlt opTuple [eVar 6], eBlt opTuple [eVar 7]]]))))
noncomputable def f__law_step : F := fnS 3 8 b__law_step
noncomputable def b__law_is_lie : Sm := sSeq (sAsg (.name 2) (eBlt opLen [eLc [3] (iS (eVar 1)) (.name 3) (tTru (eVar 3)) (eVar 3)])) (sRet (eIf (asB (eBin opIs (eVar 0) (eC .non))) (eC (.bl false)) (eIf (asB (eBin opEq (eVar 0) (eC (.str (Str.ofString "all"))))) (eBin opLt (eVar 2) (eBlt opLen [eVar 1])) (eBin opLt (eVar 2) (eVar 0)))))
noncomputable def f__law_is_lie : F := fnS 2 4 b__law_is_lie
noncomputable def b__law_told : Sm := sSeq (sPar 3 4 (eBlt opLst []) (eBlt opLst [])) (sSeq (sFor (iEnX (eVar 2)) (.tup [.name 5, .name 6]) (sSeq (sAsg (.tup [.name 7, .name 1]) (eCall (f__law_step) [eVar 0, eVar 1, eVar 6])) (sSeq (sExpr (eMt "list" opAppend (eVar 3) [eVar 7])) (sAsg (.name 4) (eBin opAdd (eVar 4) (eIf (tTru (eCall (f__law_is_lie) [eVar 7, eBin opIx (eVar 1) (eC (.int 2))])) (eBlt opLst [eVar 5]) (eBlt opLst []))))))) (sRet (eBlt opTup [eVar 3, eVar 4, eVar 1])))
noncomputable def f__law_told : F := fnS 3 8 b__law_told
noncomputable def b__law_many : Sm := sRet (eIf (asB (eBin opIsNot (eBin opIx (eVar 1) (eC (.int 2))) (eC .non))) (eCall (f__law_draw) [eVar 0, eBin opAdd (eVar 2) (eC (.int 1))]) (eBin opAdd (eC (.int 1)) (eCall (f__law_draw) [eVar 0, eVar 2])))
noncomputable def f__law_many : F := fnS 3 3 b__law_many
noncomputable def b__law_is_standing : Sm := sSeq (sIf (tOr' (tNot' (tTru (eBlt (opIsi (.ty "tuple") (ansTy "tuple")) [eVar 1, eC (.ty "tuple")]))) (tOr' (asB (eBin opNe (eBlt opLen [eVar 1]) (eC (.int 3)))) (tNot' (tTru (eCall (f__law_within) [eBin opIx (eVar 1) (eC (.int 0)), eC (.int 0), eBin opSub (eBlt opLen [eBin opIx (eBin opIx (eVar 0) (eC (.int 0))) (eC (.int 0))]) (eC (.int 1))]))))) (sRet (eC (.bl false))) (sSkip)) (sSeq (sIf (tOr' (tNot' (tTru (eBlt (opIsi (.ty "tuple") (ansTy "tuple")) [eBin opIx (eVar 1) (eC (.int 1)), eC (.ty "tuple")]))) (tOr' (tNot' (tTru (eBlt (opIsi (.ty "tuple") (ansTy "tuple")) [eBin opIx (eVar 1) (eC (.int 2)), eC (.ty "tuple")]))) (tOr' (asB (eBin opNe (eBlt opLen [eBin opIx (eVar 1) (eC (.int 1))]) (eBlt opLen [eBin opIx (eVar 1) (eC (.int 2))]))) (tNot' (asB (eChain opLe opLe (eC (.int 1)) (eBlt opLen [eBin opIx (eVar 1) (eC (.int 1))]) (eC (.int 7)))))))) (sRet (eC (.bl false))) (sSkip)) (sSeq (sIf (asB (eBin (opEqE true) (eLc [2] (iS (eBin opIx (eVar 1) (eC (.int 2)))) (.name 2) (tNot' (tTru (eBlt (opIsi (.ty "bool") (ansTy "bool")) [eVar 2, eC (.ty "bool")]))) (eVar 2)) (eBlt opLst []))) (sRet (eC (.bl false))) (sSkip)) (sRet (eBin (opEqE false) (eLc [2] (iS (eBin opIx (eVar 1) (eC (.int 1)))) (.name 2) (tNot' (tTru (eCall (f__law_within) [eVar 2, eC (.int 0), eBin opSub (eBlt opLen [eBin opIx (eVar 0) (eC (.int 0))]) (eC (.int 1))]))) (eVar 2)) (eBlt opLst [])))))
noncomputable def f__law_is_standing : F := fnS 2 3 b__law_is_standing
noncomputable def hs_law_found : List Hx := [⟨3, no_BadNumber, some 2, fun fs => eBlt opTup [eC (.str (Str.ofString "number")), eBlt opRepr [eXf fs "value" (eVar 2)]]⟩, ⟨4, no_NoColour, none, fun _ => eC (.str (Str.ofString "colour"))⟩, ⟨7, no_NoOrder, some 2, fun fs => eBlt opTup [eC (.str (Str.ofString "order")), eXf fs "at" (eVar 2)]⟩, ⟨5, no_NoStanding, none, fun _ => eC (.str (Str.ofString "standing"))⟩, ⟨6, no_NoVisit, none, fun _ => eC (.str (Str.ofString "visit"))⟩]
noncomputable def fr_law_found : E := eBlt opTup [eC (.str (Str.ofString "told")), eVar 1]
abbrev n_law_found : Nat := 3
abbrev i_law_found : Nat := 1
noncomputable def b_law : Sm := sSeq (sAsg (.name 1) (eCall (f__law_pot) [eVar 0])) (sSeq (sFor (iR1 (eC (.int 4))) (.name 2) (sSeq (sAsg (.name 3) (eCall (f__law_spec) [eVar 1, eBlt opLst [eC (.int 5), eC (.int 4)]])) (sSeq (sAsg (.tup [.name 4, .name 5]) (eBlt opTup [eCall (f__law_made) [eVar 3], eCall (f__law_many) [eVar 1, eVar 3, eIf (asB (eBin opIsNot (eBin opIx (eVar 3) (eC (.int 2))) (eC .non))) (eC (.int 6)) (eC (.int 5))]])) (sSeq (sAsg (.name 6) (eCall (f__law_pick) [eVar 1, eCall (f__law_colours) [eVar 3]])) (sSeq (sAsg (.name 7) (eCall (f__law_begun) [eVar 3, eVar 5, eVar 6])) (sSeq (sAsg (.name 8) (eLc [21] (iR1 (eCall (f__law_draw) [eVar 1, eC (.int 31)])) (.name 21) (tYes') (eCall (f__law_draw) [eVar 1, eBlt opLen [eBin opIx (eVar 7) (eC (.int 1))]]))) (sSeq (sAsg (.tup [.name 9, .name 10, .name 11]) (eCall (f__law_told) [eVar 3, eVar 7, eVar 8])) (sSeq (sIf (tOr' (tNot' (tTru (eCall (f__law_same 7) [eCall (f_beginning) [eVar 4, eVar 5, eVar 6], eVar 7]))) (tNot' (tTru (eCall (f__law_same 7) [eCall (f_said) [eVar 4, eVar 5, eVar 6, eVar 8], eBlt opTuple [eVar 9]])))) (sRet (eC (.bl false))) (sSkip)) (sSeq (sIf (tNot' (tTru (eCall (f__law_same 7) [eCall (f_lies) [eVar 4, eVar 5, eVar 6, eBlt opTuple [eVar 8]], eBlt opTuple [eVar 10]]))) (sRet (eC (.bl false))) (sSkip)) (sSeq (sIf (asB (eBin (opEqE true) (eVar 8) (eBlt opLst []))) (sSeq (sAsg (.tup [.name 12, .name 13]) (eCall (f__law_step) [eVar 3, eVar 11, eBin opIx (eVar 8) (eC (.int 0))])) (sIf (tNot' (tTru (eCall (f__law_same 7) [eBlt opLst [eCall (f_visited) [eVar 4, eVar 11, eBin opIx (eVar 8) (eC (.int 0))], eCall (f_saying) [eVar 4, eVar 11, eBin opIx (eVar 8) (eC (.int 0))]], eBlt opLst [eVar 13, eVar 12]]))) (sRet (eC (.bl false))) (sSkip))) (sSkip)) (sSeq (sAsg (.name 14) (eCall (f__law_pick) [eVar 1, eBlt opLst [eBin opAdd (eVar 8) (eBlt opLst [eCall (f__law_pick) [eVar 1, eBlt opLst [eC .non, eC (.bl true), eUn opNeg (eC (.int 1)), eC (.int 7), eC (.str (Str.ofString "0"))]]]), eC .non, eC (.int 3), eNewD, eBin opMulY (eBlt opLst [eC (.int 0)]) (eC (.int 2001)), eVar 8]])) (sSeq (sAsg (.name 15) (eIf (tOr' (tNot' (tTru (eBlt (opIsi (.ty "list") (ansTy "list")) [eVar 14, eC (.ty "list")]))) (asB (eBin opGt (eBlt opLen [eVar 14]) (eC (.int 2000))))) (eBlt opTup [eC (.str (Str.ofString "order")), eUn opNeg (eC (.int 1))]) (eIf (asB (eBin opGt (eBlt opLen [eVar 14]) (eBlt opLen [eVar 8]))) (eBlt opTup [eC (.str (Str.ofString "order")), eBlt opLen [eVar 8]]) (eBlt opTup [eC (.str (Str.ofString "told")), eBlt opTuple [eVar 9]])))) (sSeq (sIf (tNot' (tTru (eCall (f__law_same 7) [eFound n_law_found i_law_found hs_law_found fr_law_found (eCall (f_said) [eVar 4, eVar 5, eVar 6, eVar 14]), eVar 15]))) (sRet (eC (.bl false))) (sSkip)) (sSeq (sIf (tAnd' (asB (eBin opEq (eBin opIx (eVar 15) (eC (.int 0))) (eC (.str (Str.ofString "order"))))) (asB (eBin opNe (eFound n_law_found i_law_found hs_law_found fr_law_found (eCall (f_lies) [eVar 4, eVar 5, eVar 6, eVar 14])) (eVar 15)))) (sRet (eC (.bl false))) (sSkip)) (sSeq (sAsg (.name 16) (eCall (f__law_pick) [eVar 1, eBin opAdd (eBlt opLst [eUn opNeg (eC (.int 1)), eC (.int 7), eC .non, eC (.bl true)]) (eIf (asB (eBin opIs (eBin opIx (eVar 3) (eC (.int 2))) (eC .non))) (eBlt opLst [eC (.int 0)]) (eBlt opLst []))])) (sSeq (sAsg (.name 17) (eCall (f__law_pick) [eVar 1, eBin opAdd (eBlt opLst [eC .non, eC (.bl true), eUn opNeg (eC (.int 1)), eBlt opLen [eBin opIx (eBin opIx (eVar 3) (eC (.int 0))) (eC (.int 0))]]) (eLc [21] (iR1 (eBlt opLen [eBin opIx (eBin opIx (eVar 3) (eC (.int 0))) (eC (.int 0))])) (.name 21) (asB (eBin (opIn true) (eVar 21) (eCall (f__law_colours) [eVar 3]))) (eVar 21))])) (sSeq (sFor (iS (eBlt opTup [eC (.glo 20), eC (.glo 21)])) (.name 18) (sSeq (sIf (asB (eBin opNe (eFound n_law_found i_law_found hs_law_found fr_law_found (eCallV 18 20 21 f_said f_lies [eVar 4, eVar 16, eVar 17, eC .non])) (eBlt opTup [eC (.str (Str.ofString "number")), eBlt opRepr [eVar 16]]))) (sRet (eC (.bl false))) (sSkip)) (sIf (asB (eBin opNe (eFound n_law_found i_law_found hs_law_found fr_law_found (eCallV 18 20 21 f_said f_lies [eVar 4, eVar 5, eVar 17, eC .non])) (eC (.str (Str.ofString "colour"))))) (sRet (eC (.bl false))) (sSkip)))) (sSeq (sIf (tOr' (asB (eBin opNe (eFound n_law_found i_law_found hs_law_found fr_law_found (eCall (f_beginning) [eVar 4, eVar 16, eVar 17])) (eBlt opTup [eC (.str (Str.ofString "number")), eBlt opRepr [eVar 16]]))) (asB (eBin opNe (eFound n_law_found i_law_found hs_law_found fr_law_found (eCall (f_beginning) [eVar 4, eVar 5, eVar 17])) (eC (.str (Str.ofString "colour")))))) (sRet (eC (.bl false))) (sSkip)) (sSeq (sAsg (.name 19) (eCall (f__law_pick) [eVar 1, eBlt opLst [eVar 11, eCall (f__law_bent 5) [eVar 1, eVar 11, eC (.int 3)], eC .non, eBlt opList [eVar 11], eBlt opTup [eC (.int 0), eBlt opTup [], eBlt opTup []], eBlt opTup [eBin opIx (eVar 11) (eC (.int 0)), eBin opMulY (eBin opIx (eVar 11) (eC (.int 1))) (eC (.int 8)), eBin opMulY (eBin opIx (eVar 11) (eC (.int 2))) (eC (.int 8))]]])) (sSeq (sAsg (.name 20) (eCall (f__law_pick) [eVar 1, eBlt opLst [eC (.int 0), eBin opSub (eBlt opLen [eBin opIx (eVar 7) (eC (.int 1))]) (eC (.int 1)), eBlt opLen [eBin opIx (eVar 7) (eC (.int 1))], eUn opNeg (eC (.int 1)), eC .non, eC (.bl true)]])) (sSeq (sAsg (.name 15) (eC (.str (Str.ofString "standing")))) (sSeq (sIf (tTru (eCall (f__law_is_standing) [eVar 3, eVar 19])) (sSeq (sAsg (.name 15) (eC (.str (Str.ofString "visit")))) (sIf (tTru (eCall (f__law_within) [eVar 20, eC (.int 0), eBin opSub (eBlt opLen [eBin opIx (eVar 19) (eC (.int 1))]) (eC (.int 1))])) (sAsg (.name 15) (eBlt opTup [eC (.str (Str.ofString "told")), eBin opIx (eCall (f__law_step) [eVar 3, eVar 19, eVar 20]) (eC (.int 1))])) (sSkip))) (sSkip)) (sSeq (sIf (tNot' (tTru (eCall (f__law_same 7) [eFound n_law_found i_law_found hs_law_found fr_law_found (eCall (f_visited) [eVar 4, eVar 19, eVar 20]), eVar 15]))) (sRet (eC (.bl false))) (sSkip)) (sIf (tAnd' (tTru (eBlt (opIsi (.ty "str") (ansTy "str")) [eVar 15, eC (.ty "str")])) (asB (eBin opNe (eFound n_law_found i_law_found hs_law_found fr_law_found (eCall (f_saying) [eVar 4, eVar 19, eVar 20])) (eVar 15)))) (sRet (eC (.bl false))) (sSkip))))))))))))))))))))))))) (sRet (eC (.bl true))))
noncomputable def f_law : F := fnS 1 22 b_law
/-! ### what the top leaves -/
structure Tx (G : Gx) (mg : Str → Option Value) (w : World) (P : Program) where
  xi0 : G.xi = none
  a_is_number : Addr
  d_is_number : FuncData
  F_is_number : Fun G.K "is_number" "is_number" (topS 11) a_is_number d_is_number
  B_is_number : Binds G.K d_is_number ["value"] []
  m_is_number : mg "is_number" = some (.ref a_is_number)
  a_is_within : Addr
  d_is_within : FuncData
  F_is_within : Fun G.K "is_within" "is_within" (topS 12) a_is_within d_is_within
  B_is_within : Binds G.K d_is_within ["value", "least", "most"] []
  m_is_within : mg "is_within" = some (.ref a_is_within)
  a_is_listed : Addr
  d_is_listed : FuncData
  F_is_listed : Fun G.K "is_listed" "is_listed" (topS 13) a_is_listed d_is_listed
  B_is_listed : Binds G.K d_is_listed ["value"] []
  m_is_listed : mg "is_listed" = some (.ref a_is_listed)
  a_is_word : Addr
  d_is_word : FuncData
  F_is_word : Fun G.K "is_word" "is_word" (topS 14) a_is_word d_is_word
  B_is_word : Binds G.K d_is_word ["value"] []
  m_is_word : mg "is_word" = some (.ref a_is_word)
  a_replaced : Addr
  d_replaced : FuncData
  F_replaced : Fun G.K "replaced" "replaced" (topS 15) a_replaced d_replaced
  B_replaced : Binds G.K d_replaced ["row", "at", "value"] []
  m_replaced : mg "replaced" = some (.ref a_replaced)
  a_is_step : Addr
  d_is_step : FuncData
  F_is_step : Fun G.K "is_step" "is_step" (topS 19) a_is_step d_is_step
  B_is_step : Binds G.K d_is_step ["value", "states", "colours"] []
  m_is_step : mg "is_step" = some (.ref a_is_step)
  a_are_steps : Addr
  d_are_steps : FuncData
  F_are_steps : Fun G.K "are_steps" "are_steps" (topS 20) a_are_steps d_are_steps
  B_are_steps : Binds G.K d_are_steps ["value"] []
  m_are_steps : mg "are_steps" = some (.ref a_are_steps)
  a_all_colours : Addr
  d_all_colours : FuncData
  F_all_colours : Fun G.K "all_colours" "all_colours" (topS 22) a_all_colours d_all_colours
  B_all_colours : Binds G.K d_all_colours ["program"] []
  m_all_colours : mg "all_colours" = some (.ref a_all_colours)
  a_first_colours : Addr
  d_first_colours : FuncData
  F_first_colours : Fun G.K "first_colours" "first_colours" (topS 23) a_first_colours d_first_colours
  B_first_colours : Binds G.K d_first_colours ["program"] []
  m_first_colours : mg "first_colours" = some (.ref a_first_colours)
  a_check_many : Addr
  d_check_many : FuncData
  F_check_many : Fun G.K "check_many" "check_many" (topS 27) a_check_many d_check_many
  B_check_many : Binds G.K d_check_many ["program", "many"] []
  m_check_many : mg "check_many" = some (.ref a_check_many)
  a_is_first_colour : Addr
  d_is_first_colour : FuncData
  F_is_first_colour : Fun G.K "is_first_colour" "is_first_colour" (topS 28) a_is_first_colour d_is_first_colour
  B_is_first_colour : Binds G.K d_is_first_colour ["program", "value"] []
  m_is_first_colour : mg "is_first_colour" = some (.ref a_is_first_colour)
  a_check_start : Addr
  d_check_start : FuncData
  F_check_start : Fun G.K "check_start" "check_start" (topS 29) a_check_start d_check_start
  B_check_start : Binds G.K d_check_start ["program", "many", "colour"] []
  m_check_start : mg "check_start" = some (.ref a_check_start)
  a_begun : Addr
  d_begun : FuncData
  F_begun : Fun G.K "begun" "begun" (topS 30) a_begun d_begun
  B_begun : Binds G.K d_begun ["program", "many", "colour"] []
  m_begun : mg "begun" = some (.ref a_begun)
  a_beginning : Addr
  d_beginning : FuncData
  F_beginning : Fun G.K "beginning" "beginning" (topS 31) a_beginning d_beginning
  B_beginning : Binds G.K d_beginning ["program", "many", "colour"] []
  m_beginning : mg "beginning" = some (.ref a_beginning)
  a_is_standing : Addr
  d_is_standing : FuncData
  F_is_standing : Fun G.K "is_standing" "is_standing" (topS 32) a_is_standing d_is_standing
  B_is_standing : Binds G.K d_is_standing ["program", "value"] []
  m_is_standing : mg "is_standing" = some (.ref a_is_standing)
  a_check_visit : Addr
  d_check_visit : FuncData
  F_check_visit : Fun G.K "check_visit" "check_visit" (topS 33) a_check_visit d_check_visit
  B_check_visit : Binds G.K d_check_visit ["program", "standing", "visit"] []
  m_check_visit : mg "check_visit" = some (.ref a_check_visit)
  a_step_of : Addr
  d_step_of : FuncData
  F_step_of : Fun G.K "step_of" "step_of" (topS 34) a_step_of d_step_of
  B_step_of : Binds G.K d_step_of ["program", "standing", "visit"] []
  m_step_of : mg "step_of" = some (.ref a_step_of)
  a_behind : Addr
  d_behind : FuncData
  F_behind : Fun G.K "behind" "behind" (topS 35) a_behind d_behind
  B_behind : Binds G.K d_behind ["program", "standing", "visit"] []
  m_behind : mg "behind" = some (.ref a_behind)
  a_visited : Addr
  d_visited : FuncData
  F_visited : Fun G.K "visited" "visited" (topS 36) a_visited d_visited
  B_visited : Binds G.K d_visited ["program", "standing", "visit"] []
  m_visited : mg "visited" = some (.ref a_visited)
  a_saying : Addr
  d_saying : FuncData
  F_saying : Fun G.K "saying" "saying" (topS 37) a_saying d_saying
  B_saying : Binds G.K d_saying ["program", "standing", "visit"] []
  m_saying : mg "saying" = some (.ref a_saying)
  a_is_lie : Addr
  d_is_lie : FuncData
  F_is_lie : Fun G.K "is_lie" "is_lie" (topS 38) a_is_lie d_is_lie
  B_is_lie : Binds G.K d_is_lie ["word", "been"] []
  m_is_lie : mg "is_lie" = some (.ref a_is_lie)
  a_check_order : Addr
  d_check_order : FuncData
  F_check_order : Fun G.K "check_order" "check_order" (topS 39) a_check_order d_check_order
  B_check_order : Binds G.K d_check_order ["standing", "order"] []
  m_check_order : mg "check_order" = some (.ref a_check_order)
  a_told_along : Addr
  d_told_along : FuncData
  F_told_along : Fun G.K "told_along" "told_along" (topS 40) a_told_along d_told_along
  B_told_along : Binds G.K d_told_along ["program", "standing", "order"] []
  m_told_along : mg "told_along" = some (.ref a_told_along)
  a_started : Addr
  d_started : FuncData
  F_started : Fun G.K "started" "started" (topS 41) a_started d_started
  B_started : Binds G.K d_started ["program", "many", "colour", "order"] []
  m_started : mg "started" = some (.ref a_started)
  a_said : Addr
  d_said : FuncData
  F_said : Fun G.K "said" "said" (topS 42) a_said d_said
  B_said : Binds G.K d_said ["program", "many", "colour", "order"] []
  m_said : mg "said" = some (.ref a_said)
  mv_said : mg "said" = some (.ref (G.tb 20))
  tb_said : G.tb 20 = a_said
  a_lies : Addr
  d_lies : FuncData
  F_lies : Fun G.K "lies" "lies" (topS 43) a_lies d_lies
  B_lies : Binds G.K d_lies ["program", "many", "colour", "order"] []
  m_lies : mg "lies" = some (.ref a_lies)
  mv_lies : mg "lies" = some (.ref (G.tb 21))
  tb_lies : G.tb 21 = a_lies
  a__law_pot : Addr
  d__law_pot : FuncData
  F__law_pot : Fun G.K "_law_pot" "_law_pot" (topS 45) a__law_pot d__law_pot
  B__law_pot : Binds G.K d__law_pot ["script"] []
  m__law_pot : mg "_law_pot" = some (.ref a__law_pot)
  a__law_draw : Addr
  d__law_draw : FuncData
  F__law_draw : Fun G.K "_law_draw" "_law_draw" (topS 46) a__law_draw d__law_draw
  B__law_draw : Binds G.K d__law_draw ["pot", "many"] []
  m__law_draw : mg "_law_draw" = some (.ref a__law_draw)
  a__law_pick : Addr
  d__law_pick : FuncData
  F__law_pick : Fun G.K "_law_pick" "_law_pick" (topS 47) a__law_pick d__law_pick
  B__law_pick : Binds G.K d__law_pick ["pot", "row"] []
  m__law_pick : mg "_law_pick" = some (.ref a__law_pick)
  a__law_same : Addr
  d__law_same : FuncData
  F__law_same : Fun G.K "_law_same" "_law_same" (topS 48) a__law_same d__law_same
  B__law_same : Binds G.K d__law_same ["found", "due"] []
  m__law_same : mg "_law_same" = some (.ref a__law_same)
  a__law_odd : Addr
  d__law_odd : FuncData
  F__law_odd : Fun G.K "_law_odd" "_law_odd" (topS 49) a__law_odd d__law_odd
  B__law_odd : Binds G.K d__law_odd ["pot", "thing"] []
  m__law_odd : mg "_law_odd" = some (.ref a__law_odd)
  a__law_bent : Addr
  d__law_bent : FuncData
  F__law_bent : Fun G.K "_law_bent" "_law_bent" (topS 50) a__law_bent d__law_bent
  B__law_bent : Binds G.K d__law_bent ["pot", "thing", "left"] []
  m__law_bent : mg "_law_bent" = some (.ref a__law_bent)
  a__law_within : Addr
  d__law_within : FuncData
  F__law_within : Fun G.K "_law_within" "_law_within" (topS 51) a__law_within d__law_within
  B__law_within : Binds G.K d__law_within ["thing", "low", "high"] []
  m__law_within : mg "_law_within" = some (.ref a__law_within)
  a__law_saying : Addr
  d__law_saying : FuncData
  F__law_saying : Fun G.K "_law_saying" "_law_saying" (topS 52) a__law_saying d__law_saying
  B__law_saying : Binds G.K d__law_saying ["pot"] []
  m__law_saying : mg "_law_saying" = some (.ref a__law_saying)
  a__law_spec : Addr
  d__law_spec : FuncData
  F__law_spec : Fun G.K "_law_spec" "_law_spec" (topS 53) a__law_spec d__law_spec
  B__law_spec : Binds G.K d__law_spec ["pot", "most"] []
  m__law_spec : mg "_law_spec" = some (.ref a__law_spec)
  a_Program_init : Addr
  d_Program_init : FuncData
  F_Program_init : Fun G.K "__init__" "Program.__init__" (inClass (topS 21) 0) a_Program_init d_Program_init
  B_Program_init : Binds G.K d_Program_init ["self", "steps", "first", "leader", "lamp"] []
  mk_Program : Mk G.K (G.tb 8) a_Program_init
  a__law_made : Addr
  d__law_made : FuncData
  F__law_made : Fun G.K "_law_made" "_law_made" (topS 54) a__law_made d__law_made
  B__law_made : Binds G.K d__law_made ["spec"] []
  m__law_made : mg "_law_made" = some (.ref a__law_made)
  a__law_colours : Addr
  d__law_colours : FuncData
  F__law_colours : Fun G.K "_law_colours" "_law_colours" (topS 55) a__law_colours d__law_colours
  B__law_colours : Binds G.K d__law_colours ["spec"] []
  m__law_colours : mg "_law_colours" = some (.ref a__law_colours)
  a__law_begun : Addr
  d__law_begun : FuncData
  F__law_begun : Fun G.K "_law_begun" "_law_begun" (topS 56) a__law_begun d__law_begun
  B__law_begun : Binds G.K d__law_begun ["spec", "many", "colour"] []
  m__law_begun : mg "_law_begun" = some (.ref a__law_begun)
  a__law_step : Addr
  d__law_step : FuncData
  F__law_step : Fun G.K "_law_step" "_law_step" (topS 57) a__law_step d__law_step
  B__law_step : Binds G.K d__law_step ["spec", "standing", "index"] []
  m__law_step : mg "_law_step" = some (.ref a__law_step)
  a__law_is_lie : Addr
  d__law_is_lie : FuncData
  F__law_is_lie : Fun G.K "_law_is_lie" "_law_is_lie" (topS 58) a__law_is_lie d__law_is_lie
  B__law_is_lie : Binds G.K d__law_is_lie ["word", "been"] []
  m__law_is_lie : mg "_law_is_lie" = some (.ref a__law_is_lie)
  a__law_told : Addr
  d__law_told : FuncData
  F__law_told : Fun G.K "_law_told" "_law_told" (topS 59) a__law_told d__law_told
  B__law_told : Binds G.K d__law_told ["spec", "standing", "order"] []
  m__law_told : mg "_law_told" = some (.ref a__law_told)
  a__law_many : Addr
  d__law_many : FuncData
  F__law_many : Fun G.K "_law_many" "_law_many" (topS 60) a__law_many d__law_many
  B__law_many : Binds G.K d__law_many ["pot", "spec", "most"] []
  m__law_many : mg "_law_many" = some (.ref a__law_many)
  a__law_is_standing : Addr
  d__law_is_standing : FuncData
  F__law_is_standing : Fun G.K "_law_is_standing" "_law_is_standing" (topS 61) a__law_is_standing d__law_is_standing
  B__law_is_standing : Binds G.K d__law_is_standing ["spec", "thing"] []
  m__law_is_standing : mg "_law_is_standing" = some (.ref a__law_is_standing)
  a__law_found : Addr
  d__law_found : FuncData
  F__law_found : Fun G.K "_law_found" "_law_found" (topS 62) a__law_found d__law_found
  B__law_found : Binds G.K d__law_found ["work"] []
  m__law_found : mg "_law_found" = some (.ref a__law_found)
  a_law : Addr
  d_law : FuncData
  F_law : Fun G.K "law" "law" (topS 63) a_law d_law
  B_law : Binds G.K d_law ["script"] []
  m_law : mg "law" = some (.ref a_law)
  c_law : Addr
  p_law : Addr
  lk_law : ∃ (oc : Value) (od : Option Addr) (kV doc pm : Value) (an : Option Addr) (ct : Value) (osl : Array (Option Value)), G.K.lookup a_law = some ⟨oc, od, .func (PySem.W.fnOf "law" "law" (defArgs (topS 63)) (defBody (topS 63)) (defScope (topS 63)) .none kV doc pm an (.ref c_law) ct), osl⟩ ∧ d_law = PySem.W.fnOf "law" "law" (defArgs (topS 63)) (defBody (topS 63)) (defScope (topS 63)) .none kV doc pm an (.ref c_law) ct
  cin_law : PySem.W.codeIn G.K (.ref c_law) "law" = true
  GT : G.T = [(p_law, ("law" : Str) ++ ".<locals>." ++ "<lambda>")]
  m_Program : mg "Program" = some (.ref (G.tb 8))
  cls_Program : Cls G.K (G.tb 8)
  m_BadProgram : mg "BadProgram" = some (.ref (G.tb 2))
  ex_BadProgram : Exc0 P w G.K mg (G.tb 2) ["self", "what"] (spX1 (G.tb 2) "what")
  m_BadNumber : mg "BadNumber" = some (.ref (G.tb 3))
  ex_BadNumber : Exc0 P w G.K mg (G.tb 3) ["self", "value"] (spX1 (G.tb 3) "value")
  m_NoColour : mg "NoColour" = some (.ref (G.tb 4))
  ex_NoColour : Exc0 P w G.K mg (G.tb 4) ["self"] (spX0 (G.tb 4))
  m_NoStanding : mg "NoStanding" = some (.ref (G.tb 5))
  ex_NoStanding : Exc0 P w G.K mg (G.tb 5) ["self"] (spX0 (G.tb 5))
  m_NoVisit : mg "NoVisit" = some (.ref (G.tb 6))
  ex_NoVisit : Exc0 P w G.K mg (G.tb 6) ["self"] (spX0 (G.tb 6))
  m_NoOrder : mg "NoOrder" = some (.ref (G.tb 7))
  ex_NoOrder : Exc0 P w G.K mg (G.tb 7) ["self", "at"] (spX1 (G.tb 7) "at")
  exm_BadNumber : PySem.W.exmOne G.K (.ref (G.tb 3)) (.ref (G.tb 3)) = some true
  exn_BadNumber : ∀ c' ∈ no_BadNumber, PySem.W.exmOne G.K (.ref (G.tb c')) (.ref (G.tb 3)) = some false
  exm_NoColour : PySem.W.exmOne G.K (.ref (G.tb 4)) (.ref (G.tb 4)) = some true
  exn_NoColour : ∀ c' ∈ no_NoColour, PySem.W.exmOne G.K (.ref (G.tb c')) (.ref (G.tb 4)) = some false
  exm_NoOrder : PySem.W.exmOne G.K (.ref (G.tb 7)) (.ref (G.tb 7)) = some true
  exn_NoOrder : ∀ c' ∈ no_NoOrder, PySem.W.exmOne G.K (.ref (G.tb c')) (.ref (G.tb 7)) = some false
  exm_NoStanding : PySem.W.exmOne G.K (.ref (G.tb 5)) (.ref (G.tb 5)) = some true
  exn_NoStanding : ∀ c' ∈ no_NoStanding, PySem.W.exmOne G.K (.ref (G.tb c')) (.ref (G.tb 5)) = some false
  exm_NoVisit : PySem.W.exmOne G.K (.ref (G.tb 6)) (.ref (G.tb 6)) = some true
  exn_NoVisit : ∀ c' ∈ no_NoVisit, PySem.W.exmOne G.K (.ref (G.tb c')) (.ref (G.tb 6)) = some false
  xn_BadNumber_value : PySem.W.findIn G.K (.ref (G.tb 3)) "value" = some none
  xn_NoOrder_at : PySem.W.findIn G.K (.ref (G.tb 7)) "at" = some none
  xf_BadNumber : XfC G.K (G.tb 3)
  xf_NoOrder : XfC G.K (G.tb 7)
  na_first_Program : NoAttr G.K (G.tb 8) "first"
  na_lamp_Program : NoAttr G.K (G.tb 8) "lamp"
  na_leader_Program : NoAttr G.K (G.tb 8) "leader"
  na_steps_Program : NoAttr G.K (G.tb 8) "steps"
  z_abs : mg "abs" = none
  z_all : mg "all" = none
  z_bool : mg "bool" = none
  z_enumerate : mg "enumerate" = none
  z_int : mg "int" = none
  z_isinstance : mg "isinstance" = none
  z_len : mg "len" = none
  z_list : mg "list" = none
  z_range : mg "range" = none
  z_repr : mg "repr" = none
  z_str : mg "str" = none
  z_tuple : mg "tuple" = none
  t_MOST_SAID : Tok
  k_MOST_SAID : mg "MOST_SAID" = some (.int 4 t_MOST_SAID)
  t_ALL : Tok
  k_ALL : mg "ALL" = some (.str (Str.ofString "all") t_ALL)
  t_MOST_STATES : Tok
  k_MOST_STATES : mg "MOST_STATES" = some (.int 5 t_MOST_STATES)
  t_MOST_COLOURS : Tok
  k_MOST_COLOURS : mg "MOST_COLOURS" = some (.int 4 t_MOST_COLOURS)
  t_MOST_FOLK : Tok
  k_MOST_FOLK : mg "MOST_FOLK" = some (.int 6 t_MOST_FOLK)
  t_MOST_VISITS : Tok
  k_MOST_VISITS : mg "MOST_VISITS" = some (.int 2000 t_MOST_VISITS)
variable {G : Gx} {mg : Str → Option Value} {P : Program} {w : World} {base : Heap}
theorem Tx.fld_first (T : Tx G mg w P) : ∀ c, fld_first c = true → Cls G.K (G.tb c) ∧ NoAttr G.K (G.tb c) "first" := fun c h => by
  simp only [K04.fld_first, Bool.or_eq_true, beq_iff_eq] at h
  subst h
  exact ⟨T.cls_Program, T.na_first_Program⟩
theorem Tx.fld_lamp (T : Tx G mg w P) : ∀ c, fld_lamp c = true → Cls G.K (G.tb c) ∧ NoAttr G.K (G.tb c) "lamp" := fun c h => by
  simp only [K04.fld_lamp, Bool.or_eq_true, beq_iff_eq] at h
  subst h
  exact ⟨T.cls_Program, T.na_lamp_Program⟩
theorem Tx.fld_leader (T : Tx G mg w P) : ∀ c, fld_leader c = true → Cls G.K (G.tb c) ∧ NoAttr G.K (G.tb c) "leader" := fun c h => by
  simp only [K04.fld_leader, Bool.or_eq_true, beq_iff_eq] at h
  subst h
  exact ⟨T.cls_Program, T.na_leader_Program⟩
theorem Tx.fld_steps (T : Tx G mg w P) : ∀ c, fld_steps c = true → Cls G.K (G.tb c) ∧ NoAttr G.K (G.tb c) "steps" := fun c h => by
  simp only [K04.fld_steps, Bool.or_eq_true, beq_iff_eq] at h
  subst h
  exact ⟨T.cls_Program, T.na_steps_Program⟩
theorem Tx.c_MOST_SAID_e (T : Tx G mg w P) {W : WX} {X : Cx} {pos : Pos} (hg : Gl X "MOST_SAID") (hm : X.mg = mg := by rfl) : PE X (.Name "MOST_SAID" pos) (tE G W (eC c_MOST_SAID)) := e_glob hg (by rw [hm]; exact T.k_MOST_SAID) (v := .int 4) ⟨_, rfl⟩ fun _ _ => by simp only [RV]
theorem Tx.c_ALL_e (T : Tx G mg w P) {W : WX} {X : Cx} {pos : Pos} (hg : Gl X "ALL") (hm : X.mg = mg := by rfl) : PE X (.Name "ALL" pos) (tE G W (eC c_ALL)) := e_glob hg (by rw [hm]; exact T.k_ALL) (v := .str (Str.ofString "all")) ⟨_, rfl⟩ fun _ _ => by simp only [RV]
theorem Tx.c_MOST_STATES_e (T : Tx G mg w P) {W : WX} {X : Cx} {pos : Pos} (hg : Gl X "MOST_STATES") (hm : X.mg = mg := by rfl) : PE X (.Name "MOST_STATES" pos) (tE G W (eC c_MOST_STATES)) := e_glob hg (by rw [hm]; exact T.k_MOST_STATES) (v := .int 5) ⟨_, rfl⟩ fun _ _ => by simp only [RV]
theorem Tx.c_MOST_COLOURS_e (T : Tx G mg w P) {W : WX} {X : Cx} {pos : Pos} (hg : Gl X "MOST_COLOURS") (hm : X.mg = mg := by rfl) : PE X (.Name "MOST_COLOURS" pos) (tE G W (eC c_MOST_COLOURS)) := e_glob hg (by rw [hm]; exact T.k_MOST_COLOURS) (v := .int 4) ⟨_, rfl⟩ fun _ _ => by simp only [RV]
theorem Tx.c_MOST_FOLK_e (T : Tx G mg w P) {W : WX} {X : Cx} {pos : Pos} (hg : Gl X "MOST_FOLK") (hm : X.mg = mg := by rfl) : PE X (.Name "MOST_FOLK" pos) (tE G W (eC c_MOST_FOLK)) := e_glob hg (by rw [hm]; exact T.k_MOST_FOLK) (v := .int 6) ⟨_, rfl⟩ fun _ _ => by simp only [RV]
theorem Tx.c_MOST_VISITS_e (T : Tx G mg w P) {W : WX} {X : Cx} {pos : Pos} (hg : Gl X "MOST_VISITS") (hm : X.mg = mg := by rfl) : PE X (.Name "MOST_VISITS" pos) (tE G W (eC c_MOST_VISITS)) := e_glob hg (by rw [hm]; exact T.k_MOST_VISITS) (v := .int 2000) ⟨_, rfl⟩ fun _ _ => by simp only [RV]
theorem ok_is_number (T : Tx G mg w P) : FnOk P w G.K mg base (L2.CX P w) 1 T.a_is_number T.d_is_number ["value"] (spF G f_is_number) :=
  fn_ok (k := 0) T.F_is_number sc_is_number fun cdv A outer s H E hr =>
    have tk := takes_of (X := cxOf (L2.CX P w) P w G.K mg base N_is_number "is_number" (defScope (topS 11)) T.a_is_number cdv A outer s H E) rfl rfl rfl rfl
    (ss_one (s_ret (e_and rfl (e_blt (isi_ty rfl (.inl rfl)) (by rfl) T.z_isinstance (by decide +kernel) (a_cons (e_var (pv 0)) (a_cons (e_ty (by rfl) T.z_int (by decide +kernel)) a_nil))) (e_one (e_not rfl (e_blt (isi_ty rfl (.inr (.inl rfl))) (by rfl) T.z_isinstance (by decide +kernel) (a_cons (e_var (pv 0)) (a_cons (e_ty (by rfl) T.z_bool (by decide +kernel)) a_nil))))))))
theorem ok_is_within (T : Tx G mg w P) : FnOk P w G.K mg base (L2.CX P w) 2 T.a_is_within T.d_is_within ["value", "least", "most"] (spF G f_is_within) :=
  fn_ok (k := 1) T.F_is_within sc_is_within fun cdv A outer s H E hr =>
    have tk := takes_of (X := cxOf (L2.CX P w) P w G.K mg base N_is_within "is_within" (defScope (topS 12)) T.a_is_within cdv A outer s H E) rfl rfl rfl rfl
    (ss_one (s_ret (e_and rfl (e_call (ok_is_number T) hr T.m_is_number T.F_is_number.kp T.B_is_number tk (a_cons (e_var (pv 0)) a_nil) ) (e_one (e_chain o_le o_le (e_var (pv 1)) (e_var (pv 0)) (e_var (pv 2)))))))
theorem ok_is_listed (T : Tx G mg w P) : FnOk P w G.K mg base (L2.CX P w) 1 T.a_is_listed T.d_is_listed ["value"] (spF G f_is_listed) :=
  fn_ok (k := 0) T.F_is_listed sc_is_listed fun cdv A outer s H E hr =>
    have tk := takes_of (X := cxOf (L2.CX P w) P w G.K mg base N_is_listed "is_listed" (defScope (topS 13)) T.a_is_listed cdv A outer s H E) rfl rfl rfl rfl
    (ss_one (s_ret (e_blt (isi_lt rfl) (by rfl) T.z_isinstance (by decide +kernel) (a_cons (e_var (pv 0)) (a_cons (e_tup (a_cons (e_ty (by rfl) T.z_list (by decide +kernel)) (a_cons (e_ty (by rfl) T.z_tuple (by decide +kernel)) a_nil))) a_nil)))))
theorem ok_is_word (T : Tx G mg w P) : FnOk P w G.K mg base (L2.CX P w) 3 T.a_is_word T.d_is_word ["value"] (spF G f_is_word) :=
  fn_ok (k := 2) T.F_is_word sc_is_word fun cdv A outer s H E hr =>
    have tk := takes_of (X := cxOf (L2.CX P w) P w G.K mg base N_is_word "is_word" (defScope (topS 14)) T.a_is_word cdv A outer s H E) rfl rfl rfl rfl
    (ss_one (s_ret (e_or rfl (e_call (ok_is_within T) hr T.m_is_within T.F_is_within.kp T.B_is_within tk (a_cons (e_var (pv 0)) (a_cons e_int (a_cons (T.c_MOST_SAID_e (by rfl)) a_nil))) ) (e_one (e_and rfl (e_blt (isi_ty rfl (.inr (.inr (.inl rfl)))) (by rfl) T.z_isinstance (by decide +kernel) (a_cons (e_var (pv 0)) (a_cons (e_ty (by rfl) T.z_str (by decide +kernel)) a_nil))) (e_one (e_cmp (o_eq rfl hr.units) (e_var (pv 0)) (T.c_ALL_e (by rfl)) (nomark _))))))))
theorem ok_replaced (T : Tx G mg w P) : FnOk P w G.K mg base (L2.CX P w) 1 T.a_replaced T.d_replaced ["row", "at", "value"] (spF G f_replaced) :=
  fn_ok (k := 0) T.F_replaced sc_replaced fun cdv A outer s H E hr =>
    have tk := takes_of (X := cxOf (L2.CX P w) P w G.K mg base N_replaced "replaced" (defScope (topS 15)) T.a_replaced cdv A outer s H E) rfl rfl rfl rfl
    (ss_one (s_ret (e_tupX (x_star rfl (e_sl rfl (e_var (pv 0)) p_none (p_some (e_var (pv 1)))) (x_cons (e_var (pv 2)) (x_star rfl (e_sl rfl (e_var (pv 0)) (p_some (e_bin (o_add rfl) (e_var (pv 1)) e_int)) p_none) x_nil))))))
theorem ok_is_step (T : Tx G mg w P) : FnOk P w G.K mg base (L2.CX P w) 4 T.a_is_step T.d_is_step ["value", "states", "colours"] (spF G f_is_step) :=
  fn_ok (k := 3) T.F_is_step sc_is_step fun cdv A outer s H E hr =>
    have tk := takes_of (X := cxOf (L2.CX P w) P w G.K mg base N_is_step "is_step" (defScope (topS 19)) T.a_is_step cdv A outer s H E) rfl rfl rfl rfl
    (ss_cons (s_if (PW.pt (w_or (t_not (t_truth rfl (e_blt (isi_ty rfl (.inr (.inr (.inr (.inl rfl))))) (by rfl) T.z_isinstance (by decide +kernel) (a_cons (e_var (pv 0)) (a_cons (e_ty (by rfl) T.z_tuple (by decide +kernel)) a_nil))))) (w_one_or (t_cmp (o_ne rfl hr.units) (e_blt (c_len rfl) (by rfl) T.z_len (by decide +kernel) (a_cons (e_var (pv 0)) a_nil)) e_int (nomark _))))) (ss_one (s_ret e_bl)) ss_nil)
    (ss_cons (s_if (PW.pt (w_or (t_not (t_truth rfl (e_call (ok_is_within T) hr T.m_is_within T.F_is_within.kp T.B_is_within tk (a_cons (e_ix (o_ix rfl) (e_var (pv 0)) e_int) (a_cons e_int (a_cons (e_bin o_sub (e_var (pv 1)) e_int) a_nil))) ))) (w_one_or (t_not (t_truth rfl (e_call (ok_is_within T) hr T.m_is_within T.F_is_within.kp T.B_is_within tk (a_cons (e_ix (o_ix rfl) (e_var (pv 0)) e_int) (a_cons e_int (a_cons (e_bin o_sub (e_var (pv 2)) e_int) a_nil))) )))))) (ss_one (s_ret e_bl)) ss_nil)
    (ss_one (s_ret (e_or rfl (e_cmp o_is (e_ix (o_ix rfl) (e_var (pv 0)) e_int) e_non (nomark _)) (e_one (e_call (ok_is_word T) hr T.m_is_word T.F_is_word.kp T.B_is_word tk (a_cons (e_ix (o_ix rfl) (e_var (pv 0)) e_int) a_nil) )))))))
theorem ok_are_steps (T : Tx G mg w P) : FnOk P w G.K mg base (L2.CX P w) 5 T.a_are_steps T.d_are_steps ["value"] (spF G f_are_steps) :=
  fn_ok (k := 4) T.F_are_steps sc_are_steps fun cdv A outer s H E hr =>
    have tk := takes_of (X := cxOf (L2.CX P w) P w G.K mg base N_are_steps "are_steps" (defScope (topS 20)) T.a_are_steps cdv A outer s H E) rfl rfl rfl rfl
    (ss_cons (s_if (PW.pt (w_or (t_not (t_truth rfl (e_blt (isi_ty rfl (.inr (.inr (.inr (.inl rfl))))) (by rfl) T.z_isinstance (by decide +kernel) (a_cons (e_var (pv 0)) (a_cons (e_ty (by rfl) T.z_tuple (by decide +kernel)) a_nil))))) (w_one_or (t_not (t_chain o_le o_le e_int (e_blt (c_len rfl) (by rfl) T.z_len (by decide +kernel) (a_cons (e_var (pv 0)) a_nil)) (T.c_MOST_STATES_e (by rfl))))))) (ss_one (s_ret e_bl)) ss_nil)
    (ss_cons (s_if (t_not (t_truth rfl (e_blt (c_all rfl) (by rfl) T.z_all (by decide +kernel) (a_cons (e_lc (own := [("row", 1)]) rfl sc_are_steps.nd (i_seq rfl (e_var (pv 0))) (blkOk_by (N := N_are_steps) (sc := defScope (topS 20)) (by decide +kernel)) (fun _ _ _ _ _ => (g_name sc_are_steps.nd)) (fun _ _ _ _ _ => ts_nil) (fun _ _ _ _ _ => (e_and rfl (e_blt (isi_ty rfl (.inr (.inr (.inr (.inl rfl))))) (by rfl) T.z_isinstance (by decide +kernel) (a_cons (e_var (pv 1)) (a_cons (e_ty (by rfl) T.z_tuple (by decide +kernel)) a_nil))) (e_one (e_chain o_le o_le e_int (e_blt (c_len rfl) (by rfl) T.z_len (by decide +kernel) (a_cons (e_var (pv 1)) a_nil)) (T.c_MOST_COLOURS_e (by rfl))))))) a_nil)))) (ss_one (s_ret e_bl)) ss_nil)
    (ss_cons (s_for rfl (passes_of rfl) (i_seq rfl (e_var (pv 0))) (g_name sc_are_steps.nd)
    (ss_one (s_if (PW.pt (w_or (t_cmp (o_ne rfl hr.units) (e_blt (c_len rfl) (by rfl) T.z_len (by decide +kernel) (a_cons (e_var (pv 1)) a_nil)) (e_blt (c_len rfl) (by rfl) T.z_len (by decide +kernel) (a_cons (e_ix (o_ix rfl) (e_var (pv 0)) e_int) a_nil)) (nomark _)) (w_one_or (t_not (t_truth rfl (e_blt (c_all rfl) (by rfl) T.z_all (by decide +kernel) (a_cons (e_lc (own := [("step", 2)]) rfl sc_are_steps.nd (i_seq rfl (e_var (pv 1))) (blkOk_by (N := N_are_steps) (sc := defScope (topS 20)) (by decide +kernel)) (fun _ _ _ _ _ => (g_name sc_are_steps.nd)) (fun _ _ _ _ _ => ts_nil) (fun _ _ _ _ _ => (e_call (ok_is_step T) hr T.m_is_step T.F_is_step.kp T.B_is_step takes0 (a_cons (e_var (pv 2)) (a_cons (e_blt (c_len rfl) (by rfl) T.z_len (by decide +kernel) (a_cons (e_var (pv 0)) a_nil)) (a_cons (e_blt (c_len rfl) (by rfl) T.z_len (by decide +kernel) (a_cons (e_var (pv 1)) a_nil)) a_nil))) ))) a_nil))))))) (ss_one (s_ret e_bl)) ss_nil)))
    (ss_one (s_ret e_bl)))))
theorem ok_all_colours (T : Tx G mg w P) : FnOk P w G.K mg base (L2.CX P w) 1 T.a_all_colours T.d_all_colours ["program"] (spF G f_all_colours) :=
  fn_ok (k := 0) T.F_all_colours sc_all_colours fun cdv A outer s H E hr =>
    have tk := takes_of (X := cxOf (L2.CX P w) P w G.K mg base N_all_colours "all_colours" (defScope (topS 22)) T.a_all_colours cdv A outer s H E) rfl rfl rfl rfl
    (ss_one (s_ret (e_lrg rfl (by rfl) T.z_list (by rfl) T.z_range (e_blt (c_len rfl) (by rfl) T.z_len (by decide +kernel) (a_cons (e_ix (o_ix rfl) (e_fld rfl T.fld_steps rfl (e_var (pv 0))) e_int) a_nil)))))
theorem ok_first_colours (T : Tx G mg w P) : FnOk P w G.K mg base (L2.CX P w) 2 T.a_first_colours T.d_first_colours ["program"] (spF G f_first_colours) :=
  fn_ok (k := 1) T.F_first_colours sc_first_colours fun cdv A outer s H E hr =>
    have tk := takes_of (X := cxOf (L2.CX P w) P w G.K mg base N_first_colours "first_colours" (defScope (topS 23)) T.a_first_colours cdv A outer s H E) rfl rfl rfl rfl
    (ss_one (s_ret (e_if (t_cmp o_is (e_fld rfl T.fld_lamp rfl (e_var (pv 0))) e_non (nomark _)) (e_call (ok_all_colours T) hr T.m_all_colours T.F_all_colours.kp T.B_all_colours tk (a_cons (e_var (pv 0)) a_nil) ) (e_lst (a_cons (e_fld rfl T.fld_lamp rfl (e_var (pv 0))) a_nil)))))
theorem ok_check_many (T : Tx G mg w P) : FnOk P w G.K mg base (L2.CX P w) 3 T.a_check_many T.d_check_many ["program", "many"] (spF G f_check_many) :=
  fn_ok (k := 2) T.F_check_many sc_check_many fun cdv A outer s H E hr =>
    have tk := takes_of (X := cxOf (L2.CX P w) P w G.K mg base N_check_many "check_many" (defScope (topS 27)) T.a_check_many cdv A outer s H E) rfl rfl rfl rfl
    (ss_one (s_if (t_not (t_truth rfl (e_call (ok_is_within T) hr T.m_is_within T.F_is_within.kp T.B_is_within tk (a_cons (e_var (pv 1)) (a_cons (e_if (t_cmp o_isnot (e_fld rfl T.fld_leader rfl (e_var (pv 0))) e_non (nomark _)) e_int e_int) (a_cons (T.c_MOST_FOLK_e (by rfl)) a_nil))) ))) (ss_one (s_raise1 rfl T.ex_BadNumber.at rfl tk hr T.m_BadNumber (a_cons (e_var (pv 1)) a_nil))) ss_nil))
theorem ok_is_first_colour (T : Tx G mg w P) : FnOk P w G.K mg base (L2.CX P w) 3 T.a_is_first_colour T.d_is_first_colour ["program", "value"] (spF G f_is_first_colour) :=
  fn_ok (k := 2) T.F_is_first_colour sc_is_first_colour fun cdv A outer s H E hr =>
    have tk := takes_of (X := cxOf (L2.CX P w) P w G.K mg base N_is_first_colour "is_first_colour" (defScope (topS 28)) T.a_is_first_colour cdv A outer s H E) rfl rfl rfl rfl
    (ss_one (s_ret (e_and rfl (e_call (ok_is_within T) hr T.m_is_within T.F_is_within.kp T.B_is_within tk (a_cons (e_var (pv 1)) (a_cons e_int (a_cons (e_bin o_sub (e_blt (c_len rfl) (by rfl) T.z_len (by decide +kernel) (a_cons (e_ix (o_ix rfl) (e_fld rfl T.fld_steps rfl (e_var (pv 0))) e_int) a_nil)) e_int) a_nil))) ) (e_one (e_cmp (o_in rfl) (e_var (pv 1)) (e_call (ok_first_colours T) hr T.m_first_colours T.F_first_colours.kp T.B_first_colours tk (a_cons (e_var (pv 0)) a_nil) ) (by rfl))))))
theorem ok_check_start (T : Tx G mg w P) : FnOk P w G.K mg base (L2.CX P w) 4 T.a_check_start T.d_check_start ["program", "many", "colour"] (spF G f_check_start) :=
  fn_ok (k := 3) T.F_check_start sc_check_start fun cdv A outer s H E hr =>
    have tk := takes_of (X := cxOf (L2.CX P w) P w G.K mg base N_check_start "check_start" (defScope (topS 29)) T.a_check_start cdv A outer s H E) rfl rfl rfl rfl
    (ss_cons (s_expr (e_call (ok_check_many T) hr T.m_check_many T.F_check_many.kp T.B_check_many tk (a_cons (e_var (pv 0)) (a_cons (e_var (pv 1)) a_nil)) ))
    (ss_one (s_if (t_not (t_truth rfl (e_call (ok_is_first_colour T) hr T.m_is_first_colour T.F_is_first_colour.kp T.B_is_first_colour tk (a_cons (e_var (pv 0)) (a_cons (e_var (pv 2)) a_nil)) ))) (ss_one (s_raise0 T.ex_NoColour.at rfl tk hr T.m_NoColour)) ss_nil)))
theorem ok_begun (T : Tx G mg w P) : FnOk P w G.K mg base (L2.CX P w) 1 T.a_begun T.d_begun ["program", "many", "colour"] (spF G f_begun) :=
  fn_ok (k := 0) T.F_begun sc_begun fun cdv A outer s H E hr =>
    have tk := takes_of (X := cxOf (L2.CX P w) P w G.K mg base N_begun "begun" (defScope (topS 30)) T.a_begun cdv A outer s H E) rfl rfl rfl rfl
    (ss_cons (s_set sc_begun.nd (e_bin (o_mulY rfl) (e_tup (a_cons (e_fld rfl T.fld_first rfl (e_var (pv 0))) a_nil)) (e_var (pv 1))))
    (ss_cons (s_if (t_cmp o_isnot (e_fld rfl T.fld_leader rfl (e_var (pv 0))) e_non (nomark _)) (ss_one (s_set sc_begun.nd (e_tupX (x_star rfl (e_var (pv 3)) (x_cons (e_fld rfl T.fld_leader rfl (e_var (pv 0))) x_nil))))) ss_nil)
    (ss_one (s_ret (e_tup (a_cons (e_var (pv 2)) (a_cons (e_var (pv 3)) (a_cons (e_bin (o_mulY rfl) (e_tup (a_cons e_bl a_nil)) (e_blt (c_len rfl) (by rfl) T.z_len (by decide +kernel) (a_cons (e_var (pv 3)) a_nil))) a_nil))))))))
theorem ok_beginning (T : Tx G mg w P) : FnOk P w G.K mg base (L2.CX P w) 5 T.a_beginning T.d_beginning ["program", "many", "colour"] (spF G f_beginning) :=
  fn_ok (k := 4) T.F_beginning sc_beginning fun cdv A outer s H E hr =>
    have tk := takes_of (X := cxOf (L2.CX P w) P w G.K mg base N_beginning "beginning" (defScope (topS 31)) T.a_beginning cdv A outer s H E) rfl rfl rfl rfl
    (ss_cons (s_expr (e_call (ok_check_start T) hr T.m_check_start T.F_check_start.kp T.B_check_start tk (a_cons (e_var (pv 0)) (a_cons (e_var (pv 1)) (a_cons (e_var (pv 2)) a_nil))) ))
    (ss_one (s_ret (e_call (ok_begun T) hr T.m_begun T.F_begun.kp T.B_begun tk (a_cons (e_var (pv 0)) (a_cons (e_var (pv 1)) (a_cons (e_var (pv 2)) a_nil))) ))))
theorem ok_is_standing (T : Tx G mg w P) : FnOk P w G.K mg base (L2.CX P w) 3 T.a_is_standing T.d_is_standing ["program", "value"] (spF G f_is_standing) :=
  fn_ok (k := 2) T.F_is_standing sc_is_standing fun cdv A outer s H E hr =>
    have tk := takes_of (X := cxOf (L2.CX P w) P w G.K mg base N_is_standing "is_standing" (defScope (topS 32)) T.a_is_standing cdv A outer s H E) rfl rfl rfl rfl
    (ss_cons (s_if (PW.pt (w_or (t_not (t_truth rfl (e_blt (isi_ty rfl (.inr (.inr (.inr (.inl rfl))))) (by rfl) T.z_isinstance (by decide +kernel) (a_cons (e_var (pv 1)) (a_cons (e_ty (by rfl) T.z_tuple (by decide +kernel)) a_nil))))) (w_or (t_cmp (o_ne rfl hr.units) (e_blt (c_len rfl) (by rfl) T.z_len (by decide +kernel) (a_cons (e_var (pv 1)) a_nil)) e_int (nomark _)) (w_one_or (t_not (t_truth rfl (e_call (ok_is_within T) hr T.m_is_within T.F_is_within.kp T.B_is_within tk (a_cons (e_ix (o_ix rfl) (e_var (pv 1)) e_int) (a_cons e_int (a_cons (e_bin o_sub (e_blt (c_len rfl) (by rfl) T.z_len (by decide +kernel) (a_cons (e_ix (o_ix rfl) (e_fld rfl T.fld_steps rfl (e_var (pv 0))) e_int) a_nil)) e_int) a_nil))) ))))))) (ss_one (s_ret e_bl)) ss_nil)
    (ss_cons (s_asg (e_sl rfl (e_var (pv 1)) (p_some e_int) p_none) (g_tup rfl rfl (gs_cons (g_name sc_is_standing.nd) (gs_cons (g_name sc_is_standing.nd) gs_nil))))
    (ss_cons (s_if (PW.pt (w_or (t_not (t_truth rfl (e_blt (isi_ty rfl (.inr (.inr (.inr (.inl rfl))))) (by rfl) T.z_isinstance (by decide +kernel) (a_cons (e_var (pv 2)) (a_cons (e_ty (by rfl) T.z_tuple (by decide +kernel)) a_nil))))) (w_or (t_not (t_truth rfl (e_blt (isi_ty rfl (.inr (.inr (.inr (.inl rfl))))) (by rfl) T.z_isinstance (by decide +kernel) (a_cons (e_var (pv 3)) (a_cons (e_ty (by rfl) T.z_tuple (by decide +kernel)) a_nil))))) (w_one_or (t_cmp (o_ne rfl hr.units) (e_blt (c_len rfl) (by rfl) T.z_len (by decide +kernel) (a_cons (e_var (pv 2)) a_nil)) (e_blt (c_len rfl) (by rfl) T.z_len (by decide +kernel) (a_cons (e_var (pv 3)) a_nil)) (nomark _)))))) (ss_one (s_ret e_bl)) ss_nil)
    (ss_cons (s_if (PW.pt (w_or (t_not (t_chain o_le o_le e_int (e_blt (c_len rfl) (by rfl) T.z_len (by decide +kernel) (a_cons (e_var (pv 2)) a_nil)) (e_bin (o_add rfl) (T.c_MOST_FOLK_e (by rfl)) e_int))) (w_one_or (t_not (t_truth rfl (e_blt (c_all rfl) (by rfl) T.z_all (by decide +kernel) (a_cons (e_lc (own := [("flag", 4)]) rfl sc_is_standing.nd (i_seq rfl (e_var (pv 3))) (blkOk_by (N := N_is_standing) (sc := defScope (topS 32)) (by decide +kernel)) (fun _ _ _ _ _ => (g_name sc_is_standing.nd)) (fun _ _ _ _ _ => ts_nil) (fun _ _ _ _ _ => (e_blt (isi_ty rfl (.inr (.inl rfl))) (by rfl) T.z_isinstance (by decide +kernel) (a_cons (e_var (pv 4)) (a_cons (e_ty (by rfl) T.z_bool (by decide +kernel)) a_nil))))) a_nil))))))) (ss_one (s_ret e_bl)) ss_nil)
    (ss_one (s_ret (e_blt (c_all rfl) (by rfl) T.z_all (by decide +kernel) (a_cons (e_lc (own := [("state", 5)]) rfl sc_is_standing.nd (i_seq rfl (e_var (pv 2))) (blkOk_by (N := N_is_standing) (sc := defScope (topS 32)) (by decide +kernel)) (fun _ _ _ _ _ => (g_name sc_is_standing.nd)) (fun _ _ _ _ _ => ts_nil) (fun _ _ _ _ _ => (e_call (ok_is_within T) hr T.m_is_within T.F_is_within.kp T.B_is_within takes0 (a_cons (e_var (pv 5)) (a_cons e_int (a_cons (e_bin o_sub (e_blt (c_len rfl) (by rfl) T.z_len (by decide +kernel) (a_cons (e_fld rfl T.fld_steps rfl (e_var (pv 0))) a_nil)) e_int) a_nil))) ))) a_nil))))))))
theorem ok_check_visit (T : Tx G mg w P) : FnOk P w G.K mg base (L2.CX P w) 4 T.a_check_visit T.d_check_visit ["program", "standing", "visit"] (spF G f_check_visit) :=
  fn_ok (k := 3) T.F_check_visit sc_check_visit fun cdv A outer s H E hr =>
    have tk := takes_of (X := cxOf (L2.CX P w) P w G.K mg base N_check_visit "check_visit" (defScope (topS 33)) T.a_check_visit cdv A outer s H E) rfl rfl rfl rfl
    (ss_cons (s_if (t_not (t_truth rfl (e_call (ok_is_standing T) hr T.m_is_standing T.F_is_standing.kp T.B_is_standing tk (a_cons (e_var (pv 0)) (a_cons (e_var (pv 1)) a_nil)) ))) (ss_one (s_raise0 T.ex_NoStanding.at rfl tk hr T.m_NoStanding)) ss_nil)
    (ss_one (s_if (t_not (t_truth rfl (e_call (ok_is_within T) hr T.m_is_within T.F_is_within.kp T.B_is_within tk (a_cons (e_var (pv 2)) (a_cons e_int (a_cons (e_bin o_sub (e_blt (c_len rfl) (by rfl) T.z_len (by decide +kernel) (a_cons (e_ix (o_ix rfl) (e_var (pv 1)) e_int) a_nil)) e_int) a_nil))) ))) (ss_one (s_raise0 T.ex_NoVisit.at rfl tk hr T.m_NoVisit)) ss_nil)))
theorem ok_step_of (T : Tx G mg w P) : FnOk P w G.K mg base (L2.CX P w) 1 T.a_step_of T.d_step_of ["program", "standing", "visit"] (spF G f_step_of) :=
  fn_ok (k := 0) T.F_step_of sc_step_of fun cdv A outer s H E hr =>
    have tk := takes_of (X := cxOf (L2.CX P w) P w G.K mg base N_step_of "step_of" (defScope (topS 34)) T.a_step_of cdv A outer s H E) rfl rfl rfl rfl
    (ss_one (s_ret (e_ix (o_ix rfl) (e_ix (o_ix rfl) (e_fld rfl T.fld_steps rfl (e_var (pv 0))) (e_ix (o_ix rfl) (e_ix (o_ix rfl) (e_var (pv 1)) e_int) (e_var (pv 2)))) (e_ix (o_ix rfl) (e_var (pv 1)) e_int))))
theorem ok_behind (T : Tx G mg w P) : FnOk P w G.K mg base (L2.CX P w) 2 T.a_behind T.d_behind ["program", "standing", "visit"] (spF G f_behind) :=
  fn_ok (k := 1) T.F_behind sc_behind fun cdv A outer s H E hr =>
    have tk := takes_of (X := cxOf (L2.CX P w) P w G.K mg base N_behind "behind" (defScope (topS 35)) T.a_behind cdv A outer s H E) rfl rfl rfl rfl
    (ss_cons (s_asg (e_sl rfl (e_call (ok_step_of T) hr T.m_step_of T.F_step_of.kp T.B_step_of tk (a_cons (e_var (pv 0)) (a_cons (e_var (pv 1)) (a_cons (e_var (pv 2)) a_nil))) ) p_none (p_some e_int)) (g_tup rfl rfl (gs_cons (g_name sc_behind.nd) (gs_cons (g_name sc_behind.nd) gs_nil))))
    (ss_one (s_ret (e_tup (a_cons (e_var (pv 4)) (a_cons (e_call (ok_replaced T) hr T.m_replaced T.F_replaced.kp T.B_replaced tk (a_cons (e_ix (o_ix rfl) (e_var (pv 1)) e_int) (a_cons (e_var (pv 2)) (a_cons (e_var (pv 3)) a_nil))) ) (a_cons (e_call (ok_replaced T) hr T.m_replaced T.F_replaced.kp T.B_replaced tk (a_cons (e_ix (o_ix rfl) (e_var (pv 1)) e_int) (a_cons (e_var (pv 2)) (a_cons e_bl a_nil))) ) a_nil)))))))
theorem ok_visited (T : Tx G mg w P) : FnOk P w G.K mg base (L2.CX P w) 5 T.a_visited T.d_visited ["program", "standing", "visit"] (spF G f_visited) :=
  fn_ok (k := 4) T.F_visited sc_visited fun cdv A outer s H E hr =>
    have tk := takes_of (X := cxOf (L2.CX P w) P w G.K mg base N_visited "visited" (defScope (topS 36)) T.a_visited cdv A outer s H E) rfl rfl rfl rfl
    (ss_cons (s_expr (e_call (ok_check_visit T) hr T.m_check_visit T.F_check_visit.kp T.B_check_visit tk (a_cons (e_var (pv 0)) (a_cons (e_var (pv 1)) (a_cons (e_var (pv 2)) a_nil))) ))
    (ss_one (s_ret (e_call (ok_behind T) hr T.m_behind T.F_behind.kp T.B_behind tk (a_cons (e_var (pv 0)) (a_cons (e_var (pv 1)) (a_cons (e_var (pv 2)) a_nil))) ))))
theorem ok_saying (T : Tx G mg w P) : FnOk P w G.K mg base (L2.CX P w) 5 T.a_saying T.d_saying ["program", "standing", "visit"] (spF G f_saying) :=
  fn_ok (k := 4) T.F_saying sc_saying fun cdv A outer s H E hr =>
    have tk := takes_of (X := cxOf (L2.CX P w) P w G.K mg base N_saying "saying" (defScope (topS 37)) T.a_saying cdv A outer s H E) rfl rfl rfl rfl
    (ss_cons (s_expr (e_call (ok_check_visit T) hr T.m_check_visit T.F_check_visit.kp T.B_check_visit tk (a_cons (e_var (pv 0)) (a_cons (e_var (pv 1)) (a_cons (e_var (pv 2)) a_nil))) ))
    (ss_one (s_ret (e_ix (o_ix rfl) (e_call (ok_step_of T) hr T.m_step_of T.F_step_of.kp T.B_step_of tk (a_cons (e_var (pv 0)) (a_cons (e_var (pv 1)) (a_cons (e_var (pv 2)) a_nil))) ) e_int))))
theorem ok_is_lie (T : Tx G mg w P) : FnOk P w G.K mg base (L2.CX P w) 1 T.a_is_lie T.d_is_lie ["word", "been"] (spF G f_is_lie) :=
  fn_ok (k := 0) T.F_is_lie sc_is_lie fun cdv A outer s H E hr =>
    have tk := takes_of (X := cxOf (L2.CX P w) P w G.K mg base N_is_lie "is_lie" (defScope (topS 38)) T.a_is_lie cdv A outer s H E) rfl rfl rfl rfl
    (ss_cons (s_if (t_cmp o_is (e_var (pv 0)) e_non (nomark _)) (ss_one (s_ret e_bl)) ss_nil)
    (ss_cons (s_set sc_is_lie.nd (e_blt (c_len rfl) (by rfl) T.z_len (by decide +kernel) (a_cons (e_lc (own := [("flag", 3)]) rfl sc_is_lie.nd (i_seq rfl (e_var (pv 1))) (blkOk_by (N := N_is_lie) (sc := defScope (topS 38)) (by decide +kernel)) (fun _ _ _ _ _ => (g_name sc_is_lie.nd)) (fun _ _ _ _ _ => (ts_one (t_truth rfl (e_var (pv 3))))) (fun _ _ _ _ _ => (e_var (pv 3)))) a_nil)))
    (ss_one (s_ret (e_if (t_cmp (o_eq rfl hr.units) (e_var (pv 0)) (T.c_ALL_e (by rfl)) (nomark _)) (e_cmp o_lt (e_var (pv 2)) (e_blt (c_len rfl) (by rfl) T.z_len (by decide +kernel) (a_cons (e_var (pv 1)) a_nil)) (nomark _)) (e_cmp o_lt (e_var (pv 2)) (e_var (pv 0)) (nomark _)))))))
theorem ok_check_order (T : Tx G mg w P) : FnOk P w G.K mg base (L2.CX P w) 3 T.a_check_order T.d_check_order ["standing", "order"] (spF G f_check_order) :=
  fn_ok (k := 2) T.F_check_order sc_check_order fun cdv A outer s H E hr =>
    have tk := takes_of (X := cxOf (L2.CX P w) P w G.K mg base N_check_order "check_order" (defScope (topS 39)) T.a_check_order cdv A outer s H E) rfl rfl rfl rfl
    (ss_cons (s_if (PW.pt (w_or (t_not (t_truth rfl (e_call (ok_is_listed T) hr T.m_is_listed T.F_is_listed.kp T.B_is_listed tk (a_cons (e_var (pv 1)) a_nil) ))) (w_one_or (t_cmp o_gt (e_blt (c_len rfl) (by rfl) T.z_len (by decide +kernel) (a_cons (e_var (pv 1)) a_nil)) (T.c_MOST_VISITS_e (by rfl)) (nomark _))))) (ss_one (s_raise1 rfl T.ex_NoOrder.at rfl tk hr T.m_NoOrder (a_cons (e_un o_neg e_int) a_nil))) ss_nil)
    (ss_one (s_for rfl (passes_of rfl) (i_enumX rfl T.z_enumerate (a_cons (e_var (pv 1)) a_nil)) (g_tup rfl rfl (gs_cons (g_name sc_check_order.nd) (gs_cons (g_name sc_check_order.nd) gs_nil)))
    (ss_one (s_if (t_not (t_truth rfl (e_call (ok_is_within T) hr T.m_is_within T.F_is_within.kp T.B_is_within tk (a_cons (e_var (pv 3)) (a_cons e_int (a_cons (e_bin o_sub (e_blt (c_len rfl) (by rfl) T.z_len (by decide +kernel) (a_cons (e_ix (o_ix rfl) (e_var (pv 0)) e_int) a_nil)) e_int) a_nil))) ))) (ss_one (s_raise1 rfl T.ex_NoOrder.at rfl tk hr T.m_NoOrder (a_cons (e_var (pv 2)) a_nil))) ss_nil)))))
theorem ok_told_along (T : Tx G mg w P) : FnOk P w G.K mg base (L2.CX P w) 3 T.a_told_along T.d_told_along ["program", "standing", "order"] (spF G f_told_along) :=
  fn_ok (k := 2) T.F_told_along sc_told_along fun cdv A outer s H E hr =>
    have tk := takes_of (X := cxOf (L2.CX P w) P w G.K mg base N_told_along "told_along" (defScope (topS 40)) T.a_told_along cdv A outer s H E) rfl rfl rfl rfl
    (ss_cons (s_set sc_told_along.nd (e_lst a_nil))
    (ss_cons (s_for rfl (passes_of rfl) (i_seq rfl (e_var (pv 2))) (g_name sc_told_along.nd)
    (ss_cons (s_set sc_told_along.nd (e_ix (o_ix rfl) (e_call (ok_step_of T) hr T.m_step_of T.F_step_of.kp T.B_step_of tk (a_cons (e_var (pv 0)) (a_cons (e_var (pv 1)) (a_cons (e_var (pv 4)) a_nil))) ) e_int))
    (ss_cons (s_set sc_told_along.nd (e_call (ok_behind T) hr T.m_behind T.F_behind.kp T.B_behind tk (a_cons (e_var (pv 0)) (a_cons (e_var (pv 1)) (a_cons (e_var (pv 4)) a_nil))) ))
    (ss_one (s_expr (e_mt rfl PySem.F.plainAttrs_list PySem.F.slot_list_append PySem.F.type_list_append m_append (e_var (pv 3)) (a_cons (e_tup (a_cons (e_var (pv 5)) (a_cons (e_call (ok_is_lie T) hr T.m_is_lie T.F_is_lie.kp T.B_is_lie tk (a_cons (e_var (pv 5)) (a_cons (e_ix (o_ix rfl) (e_var (pv 1)) e_int) a_nil)) ) a_nil))) a_nil)))))))
    (ss_one (s_ret (e_tup (a_cons (e_var (pv 3)) (a_cons (e_var (pv 1)) a_nil)))))))
theorem ok_started (T : Tx G mg w P) : FnOk P w G.K mg base (L2.CX P w) 5 T.a_started T.d_started ["program", "many", "colour", "order"] (spF G f_started) :=
  fn_ok (k := 4) T.F_started sc_started fun cdv A outer s H E hr =>
    have tk := takes_of (X := cxOf (L2.CX P w) P w G.K mg base N_started "started" (defScope (topS 41)) T.a_started cdv A outer s H E) rfl rfl rfl rfl
    (ss_cons (s_expr (e_call (ok_check_start T) hr T.m_check_start T.F_check_start.kp T.B_check_start tk (a_cons (e_var (pv 0)) (a_cons (e_var (pv 1)) (a_cons (e_var (pv 2)) a_nil))) ))
    (ss_cons (s_set sc_started.nd (e_call (ok_begun T) hr T.m_begun T.F_begun.kp T.B_begun tk (a_cons (e_var (pv 0)) (a_cons (e_var (pv 1)) (a_cons (e_var (pv 2)) a_nil))) ))
    (ss_cons (s_expr (e_call (ok_check_order T) hr T.m_check_order T.F_check_order.kp T.B_check_order tk (a_cons (e_var (pv 4)) (a_cons (e_var (pv 3)) a_nil)) ))
    (ss_one (s_ret (e_var (pv 4)))))))
theorem ok_said (T : Tx G mg w P) : FnOk P w G.K mg base (L2.CX P w) 6 T.a_said T.d_said ["program", "many", "colour", "order"] (spF G f_said) :=
  fn_ok (k := 5) T.F_said sc_said fun cdv A outer s H E hr =>
    have tk := takes_of (X := cxOf (L2.CX P w) P w G.K mg base N_said "said" (defScope (topS 42)) T.a_said cdv A outer s H E) rfl rfl rfl rfl
    (ss_cons (s_set sc_said.nd (e_call (ok_started T) hr T.m_started T.F_started.kp T.B_started tk (a_cons (e_var (pv 0)) (a_cons (e_var (pv 1)) (a_cons (e_var (pv 2)) (a_cons (e_var (pv 3)) a_nil)))) ))
    (ss_one (s_ret (e_bty (c_tuple rfl) (by rfl) T.z_tuple (by decide +kernel) (a_cons (e_lc (own := [("word", 5), ("wrong", 6)]) rfl sc_said.nd (i_seq rfl (e_ix (o_ix rfl) (e_call (ok_told_along T) hr T.m_told_along T.F_told_along.kp T.B_told_along tk (a_cons (e_var (pv 0)) (a_cons (e_var (pv 4)) (a_cons (e_var (pv 3)) a_nil))) ) e_int)) (blkOk_by (N := N_said) (sc := defScope (topS 42)) (by decide +kernel)) (fun _ _ _ _ _ => (g_tup rfl rfl (gs_cons (g_name sc_said.nd) (gs_cons (g_name sc_said.nd) gs_nil)))) (fun _ _ _ _ _ => ts_nil) (fun _ _ _ _ _ => (e_var (pv 5)))) a_nil)))))
theorem ok_lies (T : Tx G mg w P) : FnOk P w G.K mg base (L2.CX P w) 6 T.a_lies T.d_lies ["program", "many", "colour", "order"] (spF G f_lies) :=
  fn_ok (k := 5) T.F_lies sc_lies fun cdv A outer s H E hr =>
    have tk := takes_of (X := cxOf (L2.CX P w) P w G.K mg base N_lies "lies" (defScope (topS 43)) T.a_lies cdv A outer s H E) rfl rfl rfl rfl
    (ss_cons (s_set sc_lies.nd (e_call (ok_started T) hr T.m_started T.F_started.kp T.B_started tk (a_cons (e_var (pv 0)) (a_cons (e_var (pv 1)) (a_cons (e_var (pv 2)) (a_cons (e_var (pv 3)) a_nil)))) ))
    (ss_one (s_ret (e_bty (c_tuple rfl) (by rfl) T.z_tuple (by decide +kernel) (a_cons (e_lc (own := [("at", 5), ("row", 6)]) rfl sc_lies.nd (i_enumX rfl T.z_enumerate (a_cons (e_ix (o_ix rfl) (e_call (ok_told_along T) hr T.m_told_along T.F_told_along.kp T.B_told_along tk (a_cons (e_var (pv 0)) (a_cons (e_var (pv 4)) (a_cons (e_var (pv 3)) a_nil))) ) e_int) a_nil)) (blkOk_by (N := N_lies) (sc := defScope (topS 43)) (by decide +kernel)) (fun _ _ _ _ _ => (g_tup rfl rfl (gs_cons (g_name sc_lies.nd) (gs_cons (g_name sc_lies.nd) gs_nil)))) (fun _ _ _ _ _ => (ts_one (t_truth rfl (e_ix (o_ix rfl) (e_var (pv 6)) e_int)))) (fun _ _ _ _ _ => (e_var (pv 5)))) a_nil)))))
theorem ok__law_pot (T : Tx G mg w P) : FnOk P w G.K mg base (L2.CX P w) 1 T.a__law_pot T.d__law_pot ["script"] (spF G f__law_pot) :=
  fn_ok (k := 0) T.F__law_pot sc__law_pot fun cdv A outer s H E hr =>
    have tk := takes_of (X := cxOf (L2.CX P w) P w G.K mg base N__law_pot "_law_pot" (defScope (topS 45)) T.a__law_pot cdv A outer s H E) rfl rfl rfl rfl
    (ss_one (s_ret (e_lst (a_cons (e_lc (own := [("cell", 1)]) rfl sc__law_pot.nd (i_seq rfl (e_sl rfl (e_var (pv 0)) p_none (p_some e_int))) (blkOk_by (N := N__law_pot) (sc := defScope (topS 45)) (by decide +kernel)) (fun _ _ _ _ _ => (g_name sc__law_pot.nd)) (fun _ _ _ _ _ => ts_nil) (fun _ _ _ _ _ => (e_blt c_abs (by rfl) T.z_abs (by decide +kernel) (a_cons (e_var (pv 1)) a_nil)))) (a_cons e_int (a_cons e_int (a_cons e_int a_nil)))))))
theorem ok__law_draw (T : Tx G mg w P) : FnOk P w G.K mg base (L2.CX P w) 1 T.a__law_draw T.d__law_draw ["pot", "many"] (spF G f__law_draw) :=
  fn_ok (k := 0) T.F__law_draw sc__law_draw fun cdv A outer s H E hr =>
    have tk := takes_of (X := cxOf (L2.CX P w) P w G.K mg base N__law_draw "_law_draw" (defScope (topS 46)) T.a__law_draw cdv A outer s H E) rfl rfl rfl rfl
    (ss_cons (s_if (t_cmp o_lt (e_var (pv 1)) e_int (nomark _)) (ss_one (s_ret e_int)) ss_nil)
    (ss_cons (s_if (t_cmp o_gt (e_ix (o_ix rfl) (e_var (pv 0)) e_int) e_int (nomark _)) (ss_cons (s_set sc__law_draw.nd (e_bin o_mod (e_bty c_int (by rfl) T.z_int (by decide +kernel) (a_cons (e_ix (o_ix rfl) (e_var (pv 0)) e_int) a_nil)) (e_var (pv 1))))
    (ss_cons (s_setIx (e_bin o_div (e_ix (o_ix rfl) (e_var (pv 0)) e_int) (e_var (pv 1))) (e_var (pv 0)) e_int)
    (ss_one (s_ret (e_var (pv 2)))))) ss_nil)
    (ss_cons (s_set sc__law_draw.nd e_int)
    (ss_cons (s_if (t_cmp o_lt (e_ix (o_ix rfl) (e_var (pv 0)) e_int) (e_blt (c_len rfl) (by rfl) T.z_len (by decide +kernel) (a_cons (e_ix (o_ix rfl) (e_var (pv 0)) e_int) a_nil)) (nomark _)) (ss_cons (s_set sc__law_draw.nd (e_ix (o_ix rfl) (e_ix (o_ix rfl) (e_var (pv 0)) e_int) (e_ix (o_ix rfl) (e_var (pv 0)) e_int)))
    (ss_cons (s_setIx (e_bin (o_add rfl) (e_ix (o_ix rfl) (e_var (pv 0)) e_int) e_int) (e_var (pv 0)) e_int)
    (ss_one (s_if (t_cmp o_ge (e_var (pv 3)) (e_bin o_pow e_int e_int) (nomark _)) (ss_cons (s_setIx (e_bin o_div (e_var (pv 3)) (e_var (pv 1))) (e_var (pv 0)) e_int)
    (ss_one (s_ret (e_bin o_mod (e_bty c_int (by rfl) T.z_int (by decide +kernel) (a_cons (e_var (pv 3)) a_nil)) (e_var (pv 1)))))) ss_nil)))) ss_nil)
    (ss_cons (s_setIx (e_bin o_mod (e_bty c_int (by rfl) T.z_int (by decide +kernel) (a_cons (e_bin (o_add rfl) (e_bin (o_add rfl) (e_bin (o_mulY rfl) (e_ix (o_ix rfl) (e_var (pv 0)) e_int) e_int) (e_var (pv 3))) e_int) a_nil)) e_int) (e_var (pv 0)) e_int)
    (ss_one (s_ret (e_bin o_mod (e_bty c_int (by rfl) T.z_int (by decide +kernel) (a_cons (e_bin (o_add rfl) (e_bin o_div (e_bin (o_mulY rfl) (e_ix (o_ix rfl) (e_var (pv 0)) e_int) (e_ix (o_ix rfl) (e_var (pv 0)) e_int)) e_int) (e_bin o_div (e_ix (o_ix rfl) (e_var (pv 0)) e_int) e_int)) a_nil)) (e_var (pv 1))))))))))
theorem ok__law_pick (T : Tx G mg w P) : FnOk P w G.K mg base (L2.CX P w) 2 T.a__law_pick T.d__law_pick ["pot", "row"] (spF G f__law_pick) :=
  fn_ok (k := 1) T.F__law_pick sc__law_pick fun cdv A outer s H E hr =>
    have tk := takes_of (X := cxOf (L2.CX P w) P w G.K mg base N__law_pick "_law_pick" (defScope (topS 47)) T.a__law_pick cdv A outer s H E) rfl rfl rfl rfl
    (ss_one (s_ret (e_ix (o_ix rfl) (e_var (pv 1)) (e_call (ok__law_draw T) hr T.m__law_draw T.F__law_draw.kp T.B__law_draw tk (a_cons (e_var (pv 0)) (a_cons (e_blt (c_len rfl) (by rfl) T.z_len (by decide +kernel) (a_cons (e_var (pv 1)) a_nil)) a_nil)) ))))
theorem ok__law_same (T : Tx G mg w P) : ∀ n, FnOk P w G.K mg base (L2.CX P w) (1 + n) T.a__law_same T.d__law_same ["found", "due"] (spF G (f__law_same n)) := by
  intro n
  induction n with
  | zero => exact ⟨fun _ _ _ _ ⟨_, _, _, _, _, q⟩ => q.elim, fun _ _ _ _ _ _ _ _ _ _ _ _ _ ⟨_, _, _, _, _, q⟩ => q.elim⟩
  | succ n ih =>
    have hrec : 1 + n ≤ 1 + n := Nat.le_refl _
    refine fn_ok (k := 1 + n) T.F__law_same sc__law_same fun cdv A outer s H E hr => ?_
    have tk := takes_of (X := cxOf (L2.CX P w) P w G.K mg base N__law_same "_law_same" (defScope (topS 48)) T.a__law_same cdv A outer s H E) rfl rfl rfl rfl
    exact
    (ss_cons (s_if (PW.pt (w_or (t_truth rfl (e_blt (isi_ty rfl (.inr (.inr (.inr (.inl rfl))))) (by rfl) T.z_isinstance (by decide +kernel) (a_cons (e_var (pv 1)) (a_cons (e_ty (by rfl) T.z_tuple (by decide +kernel)) a_nil)))) (w_one_or (t_truth rfl (e_blt (isi_ty rfl (.inr (.inr (.inr (.inr (rfl)))))) (by rfl) T.z_isinstance (by decide +kernel) (a_cons (e_var (pv 1)) (a_cons (e_ty (by rfl) T.z_list (by decide +kernel)) a_nil))))))) (ss_cons (s_if (PW.pt (w_or (t_cmp (o_ne rfl hr.units) (e_blt (isi_ty rfl (.inr (.inr (.inr (.inl rfl))))) (by rfl) T.z_isinstance (by decide +kernel) (a_cons (e_var (pv 1)) (a_cons (e_ty (by rfl) T.z_tuple (by decide +kernel)) a_nil))) (e_blt (isi_ty rfl (.inr (.inr (.inr (.inl rfl))))) (by rfl) T.z_isinstance (by decide +kernel) (a_cons (e_var (pv 0)) (a_cons (e_ty (by rfl) T.z_tuple (by decide +kernel)) a_nil))) (nomark _)) (w_one_or (t_cmp (o_ne rfl hr.units) (e_blt (isi_ty rfl (.inr (.inr (.inr (.inr (rfl)))))) (by rfl) T.z_isinstance (by decide +kernel) (a_cons (e_var (pv 1)) (a_cons (e_ty (by rfl) T.z_list (by decide +kernel)) a_nil))) (e_blt (isi_ty rfl (.inr (.inr (.inr (.inr (rfl)))))) (by rfl) T.z_isinstance (by decide +kernel) (a_cons (e_var (pv 0)) (a_cons (e_ty (by rfl) T.z_list (by decide +kernel)) a_nil))) (nomark _))))) (ss_one (s_ret e_bl)) ss_nil)
    (ss_cons (s_if (t_cmp (o_ne rfl hr.units) (e_blt (c_len rfl) (by rfl) T.z_len (by decide +kernel) (a_cons (e_var (pv 0)) a_nil)) (e_blt (c_len rfl) (by rfl) T.z_len (by decide +kernel) (a_cons (e_var (pv 1)) a_nil)) (nomark _)) (ss_one (s_ret e_bl)) ss_nil)
    (ss_one (s_ret (e_cmp (o_eqE hr.units) (e_lc (own := [("k", 2)]) rfl sc__law_same.nd (i_range1 T.z_range (a_cons (e_blt (c_len rfl) (by rfl) T.z_len (by decide +kernel) (a_cons (e_var (pv 1)) a_nil)) a_nil)) (blkOk_by (N := N__law_same) (sc := defScope (topS 48)) (by decide +kernel)) (fun _ _ _ _ _ => (g_name sc__law_same.nd)) (fun _ _ _ _ _ => (ts_one (t_not (t_truth rfl (e_call ih hr T.m__law_same T.F__law_same.kp T.B__law_same takes0 (a_cons (e_ix (o_ix rfl) (e_var (pv 0)) (e_var (pv 2))) (a_cons (e_ix (o_ix rfl) (e_var (pv 1)) (e_var (pv 2))) a_nil)) hrec))))) (fun _ _ _ _ _ => (e_var (pv 2)))) (e_lst a_nil) (nomark _)))))) ss_nil)
    (ss_cons (s_if (t_cmp o_is (e_var (pv 1)) e_non (nomark _)) (ss_one (s_ret (e_cmp o_is (e_var (pv 0)) e_non (nomark _)))) ss_nil)
    (ss_cons (s_if (t_truth rfl (e_blt (isi_ty rfl (.inr (.inr (.inl rfl)))) (by rfl) T.z_isinstance (by decide +kernel) (a_cons (e_var (pv 1)) (a_cons (e_ty (by rfl) T.z_str (by decide +kernel)) a_nil)))) (ss_one (s_ret (e_and rfl (e_blt (isi_ty rfl (.inr (.inr (.inl rfl)))) (by rfl) T.z_isinstance (by decide +kernel) (a_cons (e_var (pv 0)) (a_cons (e_ty (by rfl) T.z_str (by decide +kernel)) a_nil))) (e_one (e_cmp (o_eq rfl hr.units) (e_var (pv 0)) (e_var (pv 1)) (nomark _)))))) ss_nil)
    (ss_one (s_ret (e_and rfl (e_blt (isi_ty rfl (.inl rfl)) (by rfl) T.z_isinstance (by decide +kernel) (a_cons (e_var (pv 0)) (a_cons (e_ty (by rfl) T.z_int (by decide +kernel)) a_nil))) (e_and rfl (e_cmp (o_eq rfl hr.units) (e_blt (isi_ty rfl (.inr (.inl rfl))) (by rfl) T.z_isinstance (by decide +kernel) (a_cons (e_var (pv 0)) (a_cons (e_ty (by rfl) T.z_bool (by decide +kernel)) a_nil))) (e_blt (isi_ty rfl (.inr (.inl rfl))) (by rfl) T.z_isinstance (by decide +kernel) (a_cons (e_var (pv 1)) (a_cons (e_ty (by rfl) T.z_bool (by decide +kernel)) a_nil))) (nomark _)) (e_one (e_cmp (o_eq rfl hr.units) (e_var (pv 0)) (e_var (pv 1)) (nomark _))))))))))
theorem ok__law_odd (T : Tx G mg w P) : FnOk P w G.K mg base (L2.CX P w) 3 T.a__law_odd T.d__law_odd ["pot", "thing"] (spF G f__law_odd) :=
  fn_ok (k := 2) T.F__law_odd sc__law_odd fun cdv A outer s H E hr =>
    have tk := takes_of (X := cxOf (L2.CX P w) P w G.K mg base N__law_odd "_law_odd" (defScope (topS 49)) T.a__law_odd cdv A outer s H E) rfl rfl rfl rfl
    (ss_cons (s_if (t_truth rfl (e_blt (isi_ty rfl (.inl rfl)) (by rfl) T.z_isinstance (by decide +kernel) (a_cons (e_var (pv 1)) (a_cons (e_ty (by rfl) T.z_int (by decide +kernel)) a_nil)))) (ss_one (s_ret (e_call (ok__law_pick T) hr T.m__law_pick T.F__law_pick.kp T.B__law_pick tk (a_cons (e_var (pv 0)) (a_cons (e_lst (a_cons (e_bin (o_addB rfl) (e_var (pv 1)) e_int) (a_cons (e_bin o_subB (e_var (pv 1)) e_int) (a_cons e_int (a_cons (e_un o_neg e_int) (a_cons e_int (a_cons e_bl (a_cons e_non (a_cons (e_bty c_strB (by rfl) T.z_str (by decide +kernel) (a_cons (e_var (pv 1)) a_nil)) (a_cons (e_tup (a_cons (e_var (pv 1)) a_nil)) a_nil)))))))))) a_nil)) ))) ss_nil)
    (ss_cons (s_if (t_truth rfl (e_blt (isi_ty rfl (.inr (.inr (.inl rfl)))) (by rfl) T.z_isinstance (by decide +kernel) (a_cons (e_var (pv 1)) (a_cons (e_ty (by rfl) T.z_str (by decide +kernel)) a_nil)))) (ss_cons (s_set sc__law_odd.nd (e_lst (a_cons (e_bin (o_add rfl) (e_var (pv 1)) e_str) (a_cons (e_sl rfl (e_var (pv 1)) (p_some e_int) p_none) (a_cons e_str (a_cons e_str (a_cons e_str (a_cons e_str (a_cons e_int (a_cons e_non (a_cons (e_tup (a_cons (e_var (pv 1)) a_nil)) (a_cons (e_lst (a_cons (e_var (pv 1)) a_nil)) (a_cons e_str a_nil)))))))))))))
    (ss_one (s_ret (e_call (ok__law_pick T) hr T.m__law_pick T.F__law_pick.kp T.B__law_pick tk (a_cons (e_var (pv 0)) (a_cons (e_var (pv 2)) a_nil)) )))) ss_nil)
    (ss_cons (s_if (t_truth rfl (e_blt (isi_ty rfl (.inr (.inr (.inr (.inl rfl))))) (by rfl) T.z_isinstance (by decide +kernel) (a_cons (e_var (pv 1)) (a_cons (e_ty (by rfl) T.z_tuple (by decide +kernel)) a_nil)))) (ss_cons (s_set sc__law_odd.nd (e_lst (a_cons (e_bin (o_add rfl) (e_var (pv 1)) (e_sl rfl (e_var (pv 1)) (p_some (e_un o_neg e_int)) p_none)) (a_cons (e_sl rfl (e_var (pv 1)) (p_some e_int) p_none) (a_cons (e_bty (c_list rfl) (by rfl) T.z_list (by decide +kernel) (a_cons (e_var (pv 1)) a_nil)) (a_cons (e_tup a_nil) (a_cons e_non (a_cons e_int (a_cons e_str (a_cons (e_tup (a_cons (e_var (pv 1)) a_nil)) (a_cons (e_sl rfl (e_var (pv 1)) p_none (p_some (e_un o_neg e_int))) (a_cons (e_bin (o_add rfl) (e_var (pv 1)) (e_tup (a_cons e_int a_nil))) a_nil))))))))))))
    (ss_one (s_ret (e_call (ok__law_pick T) hr T.m__law_pick T.F__law_pick.kp T.B__law_pick tk (a_cons (e_var (pv 0)) (a_cons (e_var (pv 2)) a_nil)) )))) ss_nil)
    (ss_one (s_ret (e_call (ok__law_pick T) hr T.m__law_pick T.F__law_pick.kp T.B__law_pick tk (a_cons (e_var (pv 0)) (a_cons (e_lst (a_cons e_non (a_cons e_int (a_cons e_str (a_cons e_newD (a_cons e_bl a_nil)))))) a_nil)) ))))))
theorem ok__law_bent (T : Tx G mg w P) : ∀ n, FnOk P w G.K mg base (L2.CX P w) (4 + n) T.a__law_bent T.d__law_bent ["pot", "thing", "left"] (spF G (f__law_bent n)) := by
  intro n
  induction n with
  | zero => exact ⟨fun _ _ _ _ ⟨_, _, _, _, _, q⟩ => q.elim, fun _ _ _ _ _ _ _ _ _ _ _ _ _ ⟨_, _, _, _, _, q⟩ => q.elim⟩
  | succ n ih =>
    have hrec : 4 + n ≤ 4 + n := Nat.le_refl _
    refine fn_ok (k := 4 + n) T.F__law_bent sc__law_bent fun cdv A outer s H E hr => ?_
    have tk := takes_of (X := cxOf (L2.CX P w) P w G.K mg base N__law_bent "_law_bent" (defScope (topS 50)) T.a__law_bent cdv A outer s H E) rfl rfl rfl rfl
    exact
    (ss_cons (s_if (PW.pt (w_and (t_truth rfl (e_blt (isi_lt rfl) (by rfl) T.z_isinstance (by decide +kernel) (a_cons (e_var (pv 1)) (a_cons (e_tup (a_cons (e_ty (by rfl) T.z_list (by decide +kernel)) (a_cons (e_ty (by rfl) T.z_tuple (by decide +kernel)) a_nil))) a_nil)))) (w_and (t_cmp o_gt (e_blt (c_len rfl) (by rfl) T.z_len (by decide +kernel) (a_cons (e_var (pv 1)) a_nil)) e_int (nomark _)) (w_and (t_cmp o_gt (e_var (pv 2)) e_int (nomark _)) (w_one_and (t_cmp o_gt (e_call (ok__law_draw T) hr T.m__law_draw T.F__law_draw.kp T.B__law_draw tk (a_cons (e_var (pv 0)) (a_cons e_int a_nil)) (by omega)) e_int (nomark _))))))) (ss_cons (s_set sc__law_bent.nd (e_call (ok__law_draw T) hr T.m__law_draw T.F__law_draw.kp T.B__law_draw tk (a_cons (e_var (pv 0)) (a_cons (e_blt (c_len rfl) (by rfl) T.z_len (by decide +kernel) (a_cons (e_var (pv 1)) a_nil)) a_nil)) (by omega)))
    (ss_cons (s_set sc__law_bent.nd (e_call ih hr T.m__law_bent T.F__law_bent.kp T.B__law_bent tk (a_cons (e_var (pv 0)) (a_cons (e_ix (o_ix rfl) (e_var (pv 1)) (e_var (pv 3))) (a_cons (e_bin o_sub (e_var (pv 2)) e_int) a_nil))) hrec))
    (ss_cons (s_if (t_truth rfl (e_blt (isi_ty rfl (.inr (.inr (.inr (.inr (rfl)))))) (by rfl) T.z_isinstance (by decide +kernel) (a_cons (e_var (pv 1)) (a_cons (e_ty (by rfl) T.z_list (by decide +kernel)) a_nil)))) (ss_one (s_ret (e_bin (o_add rfl) (e_bin (o_add rfl) (e_sl rfl (e_var (pv 1)) p_none (p_some (e_var (pv 3)))) (e_lst (a_cons (e_var (pv 4)) a_nil))) (e_sl rfl (e_var (pv 1)) (p_some (e_bin (o_add rfl) (e_var (pv 3)) e_int)) p_none)))) ss_nil)
    (ss_one (s_ret (e_bin (o_add rfl) (e_bin (o_add rfl) (e_sl rfl (e_var (pv 1)) p_none (p_some (e_var (pv 3)))) (e_tup (a_cons (e_var (pv 4)) a_nil))) (e_sl rfl (e_var (pv 1)) (p_some (e_bin (o_add rfl) (e_var (pv 3)) e_int)) p_none))))))) ss_nil)
    (ss_one (s_ret (e_call (ok__law_odd T) hr T.m__law_odd T.F__law_odd.kp T.B__law_odd tk (a_cons (e_var (pv 0)) (a_cons (e_var (pv 1)) a_nil)) (by omega)))))
theorem ok__law_within (T : Tx G mg w P) : FnOk P w G.K mg base (L2.CX P w) 1 T.a__law_within T.d__law_within ["thing", "low", "high"] (spF G f__law_within) :=
  fn_ok (k := 0) T.F__law_within sc__law_within fun cdv A outer s H E hr =>
    have tk := takes_of (X := cxOf (L2.CX P w) P w G.K mg base N__law_within "_law_within" (defScope (topS 51)) T.a__law_within cdv A outer s H E) rfl rfl rfl rfl
    (ss_one (s_ret (e_and rfl (e_blt (isi_ty rfl (.inl rfl)) (by rfl) T.z_isinstance (by decide +kernel) (a_cons (e_var (pv 0)) (a_cons (e_ty (by rfl) T.z_int (by decide +kernel)) a_nil))) (e_and rfl (e_not rfl (e_blt (isi_ty rfl (.inr (.inl rfl))) (by rfl) T.z_isinstance (by decide +kernel) (a_cons (e_var (pv 0)) (a_cons (e_ty (by rfl) T.z_bool (by decide +kernel)) a_nil)))) (e_one (e_chain o_le o_le (e_var (pv 1)) (e_var (pv 0)) (e_var (pv 2))))))))
theorem ok__law_saying (T : Tx G mg w P) : FnOk P w G.K mg base (L2.CX P w) 3 T.a__law_saying T.d__law_saying ["pot"] (spF G f__law_saying) :=
  fn_ok (k := 2) T.F__law_saying sc__law_saying fun cdv A outer s H E hr =>
    have tk := takes_of (X := cxOf (L2.CX P w) P w G.K mg base N__law_saying "_law_saying" (defScope (topS 52)) T.a__law_saying cdv A outer s H E) rfl rfl rfl rfl
    (ss_one (s_ret (e_call (ok__law_pick T) hr T.m__law_pick T.F__law_pick.kp T.B__law_pick tk (a_cons (e_var (pv 0)) (a_cons (e_lst (a_cons e_non (a_cons e_non (a_cons e_non (a_cons e_non (a_cons e_int (a_cons e_int (a_cons e_int (a_cons e_int (a_cons e_str a_nil)))))))))) a_nil)) )))
theorem ok__law_spec (T : Tx G mg w P) : FnOk P w G.K mg base (L2.CX P w) 4 T.a__law_spec T.d__law_spec ["pot", "most"] (spF G f__law_spec) :=
  fn_ok (k := 3) T.F__law_spec sc__law_spec fun cdv A outer s H E hr =>
    have tk := takes_of (X := cxOf (L2.CX P w) P w G.K mg base N__law_spec "_law_spec" (defScope (topS 53)) T.a__law_spec cdv A outer s H E) rfl rfl rfl rfl
    (ss_cons (s_par rfl sc__law_spec.nd (a_cons (e_bin (o_add rfl) e_int (e_call (ok__law_draw T) hr T.m__law_draw T.F__law_draw.kp T.B__law_draw tk (a_cons (e_var (pv 0)) (a_cons (e_ix (o_ix rfl) (e_var (pv 1)) e_int) a_nil)) )) (a_cons (e_bin (o_add rfl) e_int (e_call (ok__law_draw T) hr T.m__law_draw T.F__law_draw.kp T.B__law_draw tk (a_cons (e_var (pv 0)) (a_cons (e_ix (o_ix rfl) (e_var (pv 1)) e_int) a_nil)) )) a_nil)))
    (ss_cons (s_set sc__law_spec.nd (e_lst a_nil))
    (ss_cons (s_for rfl (passes_of rfl) (i_range1 T.z_range (a_cons (e_var (pv 2)) a_nil)) (g_name sc__law_spec.nd)
    (ss_cons (s_set sc__law_spec.nd (e_lst a_nil))
    (ss_cons (s_for rfl (passes_of rfl) (i_range1 T.z_range (a_cons (e_var (pv 3)) a_nil)) (g_name sc__law_spec.nd)
    (ss_one (s_expr (e_mt rfl PySem.F.plainAttrs_list PySem.F.slot_list_append PySem.F.type_list_append m_append (e_var (pv 6)) (a_cons (e_tup (a_cons (e_call (ok__law_draw T) hr T.m__law_draw T.F__law_draw.kp T.B__law_draw tk (a_cons (e_var (pv 0)) (a_cons (e_var (pv 2)) a_nil)) ) (a_cons (e_call (ok__law_draw T) hr T.m__law_draw T.F__law_draw.kp T.B__law_draw tk (a_cons (e_var (pv 0)) (a_cons (e_var (pv 3)) a_nil)) ) (a_cons (e_call (ok__law_saying T) hr T.m__law_saying T.F__law_saying.kp T.B__law_saying tk (a_cons (e_var (pv 0)) a_nil) ) a_nil)))) a_nil)))))
    (ss_one (s_expr (e_mt rfl PySem.F.plainAttrs_list PySem.F.slot_list_append PySem.F.type_list_append m_append (e_var (pv 4)) (a_cons (e_bty (c_tuple rfl) (by rfl) T.z_tuple (by decide +kernel) (a_cons (e_var (pv 6)) a_nil)) a_nil)))))))
    (ss_cons (s_set sc__law_spec.nd (e_call (ok__law_pick T) hr T.m__law_pick T.F__law_pick.kp T.B__law_pick tk (a_cons (e_var (pv 0)) (a_cons (e_lst (a_cons e_non (a_cons e_non (a_cons (e_call (ok__law_draw T) hr T.m__law_draw T.F__law_draw.kp T.B__law_draw tk (a_cons (e_var (pv 0)) (a_cons (e_var (pv 2)) a_nil)) ) a_nil)))) a_nil)) ))
    (ss_one (s_ret (e_lst (a_cons (e_bty (c_tuple rfl) (by rfl) T.z_tuple (by decide +kernel) (a_cons (e_var (pv 4)) a_nil)) (a_cons (e_call (ok__law_draw T) hr T.m__law_draw T.F__law_draw.kp T.B__law_draw tk (a_cons (e_var (pv 0)) (a_cons (e_var (pv 2)) a_nil)) ) (a_cons (e_var (pv 8)) (a_cons (e_call (ok__law_pick T) hr T.m__law_pick T.F__law_pick.kp T.B__law_pick tk (a_cons (e_var (pv 0)) (a_cons (e_lst (a_cons e_non (a_cons (e_call (ok__law_draw T) hr T.m__law_draw T.F__law_draw.kp T.B__law_draw tk (a_cons (e_var (pv 0)) (a_cons (e_var (pv 3)) a_nil)) ) (a_cons (e_call (ok__law_draw T) hr T.m__law_draw T.F__law_draw.kp T.B__law_draw tk (a_cons (e_var (pv 0)) (a_cons (e_var (pv 3)) a_nil)) ) a_nil)))) a_nil)) ) a_nil)))))))))))
theorem ok_Program_init (T : Tx G mg w P) : FnOk P w G.K mg base (L2.CX P w) 6 T.a_Program_init T.d_Program_init ["self", "steps", "first", "leader", "lamp"] (spF G f_Program_init) :=
  fn_ok (k := 5) T.F_Program_init sc_Program_init fun cdv A outer s H E hr =>
    have tk := takes_of (X := cxOf (L2.CX P w) P w G.K mg base N_Program_init "Program.__init__" (defScope (inClass (topS 21) 0)) T.a_Program_init cdv A outer s H E) rfl rfl rfl rfl
    (ss_cons (s_if (t_not (t_truth rfl (e_call (ok_are_steps T) hr T.m_are_steps T.F_are_steps.kp T.B_are_steps tk (a_cons (e_var (pv 1)) a_nil) ))) (ss_one (s_raise1 rfl T.ex_BadProgram.at rfl tk hr T.m_BadProgram (a_cons e_str a_nil))) ss_nil)
    (ss_cons (s_if (t_not (t_truth rfl (e_call (ok_is_within T) hr T.m_is_within T.F_is_within.kp T.B_is_within tk (a_cons (e_var (pv 2)) (a_cons e_int (a_cons (e_bin o_sub (e_blt (c_len rfl) (by rfl) T.z_len (by decide +kernel) (a_cons (e_var (pv 1)) a_nil)) e_int) a_nil))) ))) (ss_one (s_raise1 rfl T.ex_BadProgram.at rfl tk hr T.m_BadProgram (a_cons e_str a_nil))) ss_nil)
    (ss_cons (s_if (PW.pt (w_and (t_cmp o_isnot (e_var (pv 3)) e_non (nomark _)) (w_one_and (t_not (t_truth rfl (e_call (ok_is_within T) hr T.m_is_within T.F_is_within.kp T.B_is_within tk (a_cons (e_var (pv 3)) (a_cons e_int (a_cons (e_bin o_sub (e_blt (c_len rfl) (by rfl) T.z_len (by decide +kernel) (a_cons (e_var (pv 1)) a_nil)) e_int) a_nil))) )))))) (ss_one (s_raise1 rfl T.ex_BadProgram.at rfl tk hr T.m_BadProgram (a_cons e_str a_nil))) ss_nil)
    (ss_cons (s_if (PW.pt (w_and (t_cmp o_isnot (e_var (pv 4)) e_non (nomark _)) (w_one_and (t_not (t_truth rfl (e_call (ok_is_within T) hr T.m_is_within T.F_is_within.kp T.B_is_within tk (a_cons (e_var (pv 4)) (a_cons e_int (a_cons (e_bin o_sub (e_blt (c_len rfl) (by rfl) T.z_len (by decide +kernel) (a_cons (e_ix (o_ix rfl) (e_var (pv 1)) e_int) a_nil)) e_int) a_nil))) )))))) (ss_one (s_raise1 rfl T.ex_BadProgram.at rfl tk hr T.m_BadProgram (a_cons e_str a_nil))) ss_nil)
    (ss_cons (s_setF rfl T.fld_steps rfl (e_var (pv 1)) (e_var (pv 0)))
    (ss_cons (s_setF rfl T.fld_first rfl (e_var (pv 2)) (e_var (pv 0)))
    (ss_cons (s_setF rfl T.fld_leader rfl (e_var (pv 3)) (e_var (pv 0)))
    (ss_one (s_setF rfl T.fld_lamp rfl (e_var (pv 4)) (e_var (pv 0)))))))))))
theorem ok__law_made (T : Tx G mg w P) : FnOk P w G.K mg base (L2.CX P w) 8 T.a__law_made T.d__law_made ["spec"] (spF G f__law_made) :=
  fn_ok (k := 7) T.F__law_made sc__law_made fun cdv A outer s H E hr =>
    have tk := takes_of (X := cxOf (L2.CX P w) P w G.K mg base N__law_made "_law_made" (defScope (topS 54)) T.a__law_made cdv A outer s H E) rfl rfl rfl rfl
    (ss_one (s_ret (e_make T.mk_Program (ok_Program_init T) hr T.m_Program T.B_Program_init tk (a_cons (e_ix (o_ix rfl) (e_var (pv 0)) e_int) (a_cons (e_ix (o_ix rfl) (e_var (pv 0)) e_int) (a_cons (e_ix (o_ix rfl) (e_var (pv 0)) e_int) (a_cons (e_ix (o_ix rfl) (e_var (pv 0)) e_int) a_nil)))) )))
theorem ok__law_colours (T : Tx G mg w P) : FnOk P w G.K mg base (L2.CX P w) 1 T.a__law_colours T.d__law_colours ["spec"] (spF G f__law_colours) :=
  fn_ok (k := 0) T.F__law_colours sc__law_colours fun cdv A outer s H E hr =>
    have tk := takes_of (X := cxOf (L2.CX P w) P w G.K mg base N__law_colours "_law_colours" (defScope (topS 55)) T.a__law_colours cdv A outer s H E) rfl rfl rfl rfl
    (ss_one (s_ret (e_if (t_cmp o_is (e_ix (o_ix rfl) (e_var (pv 0)) e_int) e_non (nomark _)) (e_lrg rfl (by rfl) T.z_list (by rfl) T.z_range (e_blt (c_len rfl) (by rfl) T.z_len (by decide +kernel) (a_cons (e_ix (o_ix rfl) (e_ix (o_ix rfl) (e_var (pv 0)) e_int) e_int) a_nil))) (e_lst (a_cons (e_ix (o_ix rfl) (e_var (pv 0)) e_int) a_nil)))))
theorem ok__law_begun (T : Tx G mg w P) : FnOk P w G.K mg base (L2.CX P w) 1 T.a__law_begun T.d__law_begun ["spec", "many", "colour"] (spF G f__law_begun) :=
  fn_ok (k := 0) T.F__law_begun sc__law_begun fun cdv A outer s H E hr =>
    have tk := takes_of (X := cxOf (L2.CX P w) P w G.K mg base N__law_begun "_law_begun" (defScope (topS 56)) T.a__law_begun cdv A outer s H E) rfl rfl rfl rfl
    (ss_cons (s_set sc__law_begun.nd (e_bin (o_add rfl) (e_bin (o_mulY rfl) (e_tup (a_cons (e_ix (o_ix rfl) (e_var (pv 0)) e_int) a_nil)) (e_var (pv 1))) (e_if (t_cmp o_is (e_ix (o_ix rfl) (e_var (pv 0)) e_int) e_non (nomark _)) (e_tup a_nil) (e_tup (a_cons (e_ix (o_ix rfl) (e_var (pv 0)) e_int) a_nil)))))
    (ss_one (s_ret (e_tup (a_cons (e_var (pv 2)) (a_cons (e_var (pv 3)) (a_cons (e_bin (o_mulY rfl) (e_tup (a_cons e_bl a_nil)) (e_blt (c_len rfl) (by rfl) T.z_len (by decide +kernel) (a_cons (e_var (pv 3)) a_nil))) a_nil)))))))
theorem ok__law_step (T : Tx G mg w P) : FnOk P w G.K mg base (L2.CX P w) 1 T.a__law_step T.d__law_step ["spec", "standing", "index"] (spF G f__law_step) :=
  fn_ok (k := 0) T.F__law_step sc__law_step fun cdv A outer s H E hr =>
    have tk := takes_of (X := cxOf (L2.CX P w) P w G.K mg base N__law_step "_law_step" (defScope (topS 57)) T.a__law_step cdv A outer s H E) rfl rfl rfl rfl
    (ss_cons (s_asg (e_ix (o_ix rfl) (e_ix (o_ix rfl) (e_ix (o_ix rfl) (e_var (pv 0)) e_int) (e_ix (o_ix rfl) (e_ix (o_ix rfl) (e_var (pv 1)) e_int) (e_var (pv 2)))) (e_ix (o_ix rfl) (e_var (pv 1)) e_int)) (g_tup rfl rfl (gs_cons (g_name sc__law_step.nd) (gs_cons (g_name sc__law_step.nd) (gs_cons (g_name sc__law_step.nd) gs_nil)))))
    (ss_cons (s_par rfl sc__law_step.nd (a_cons (e_bty (c_list rfl) (by rfl) T.z_list (by decide +kernel) (a_cons (e_ix (o_ix rfl) (e_var (pv 1)) e_int) a_nil)) (a_cons (e_bty (c_list rfl) (by rfl) T.z_list (by decide +kernel) (a_cons (e_ix (o_ix rfl) (e_var (pv 1)) e_int) a_nil)) a_nil)))
    (ss_cons (s_setV2 rfl (a_cons (e_var (pv 3)) (a_cons e_bl a_nil)) (by rfl) (by rfl) (by rfl) (by rfl) (by first | exact .inl rfl | exact .inr (.inl rfl)) (by first | exact .inl rfl | exact .inr (.inl rfl)) (by first | exact .inl rfl | exact .inr (.inl rfl)) (by first | exact .inl rfl | exact .inr (.inl rfl)))
    (ss_one (s_ret (e_tup (a_cons (e_var (pv 5)) (a_cons (e_tup (a_cons (e_var (pv 4)) (a_cons (e_bty (c_tuple rfl) (by rfl) T.z_tuple (by decide +kernel) (a_cons (e_var (pv 6)) a_nil)) (a_cons (e_bty (c_tuple rfl) (by rfl) T.z_tuple (by decide +kernel) (a_cons (e_var (pv 7)) a_nil)) a_nil)))) a_nil))))))))
theorem ok__law_is_lie (T : Tx G mg w P) : FnOk P w G.K mg base (L2.CX P w) 1 T.a__law_is_lie T.d__law_is_lie ["word", "been"] (spF G f__law_is_lie) :=
  fn_ok (k := 0) T.F__law_is_lie sc__law_is_lie fun cdv A outer s H E hr =>
    have tk := takes_of (X := cxOf (L2.CX P w) P w G.K mg base N__law_is_lie "_law_is_lie" (defScope (topS 58)) T.a__law_is_lie cdv A outer s H E) rfl rfl rfl rfl
    (ss_cons (s_set sc__law_is_lie.nd (e_blt (c_len rfl) (by rfl) T.z_len (by decide +kernel) (a_cons (e_lc (own := [("one", 3)]) rfl sc__law_is_lie.nd (i_seq rfl (e_var (pv 1))) (blkOk_by (N := N__law_is_lie) (sc := defScope (topS 58)) (by decide +kernel)) (fun _ _ _ _ _ => (g_name sc__law_is_lie.nd)) (fun _ _ _ _ _ => (ts_one (t_truth rfl (e_var (pv 3))))) (fun _ _ _ _ _ => (e_var (pv 3)))) a_nil)))
    (ss_one (s_ret (e_if (t_cmp o_is (e_var (pv 0)) e_non (nomark _)) e_bl (e_if (t_cmp (o_eq rfl hr.units) (e_var (pv 0)) e_str (nomark _)) (e_cmp o_lt (e_var (pv 2)) (e_blt (c_len rfl) (by rfl) T.z_len (by decide +kernel) (a_cons (e_var (pv 1)) a_nil)) (nomark _)) (e_cmp o_lt (e_var (pv 2)) (e_var (pv 0)) (nomark _)))))))
theorem ok__law_told (T : Tx G mg w P) : FnOk P w G.K mg base (L2.CX P w) 2 T.a__law_told T.d__law_told ["spec", "standing", "order"] (spF G f__law_told) :=
  fn_ok (k := 1) T.F__law_told sc__law_told fun cdv A outer s H E hr =>
    have tk := takes_of (X := cxOf (L2.CX P w) P w G.K mg base N__law_told "_law_told" (defScope (topS 59)) T.a__law_told cdv A outer s H E) rfl rfl rfl rfl
    (ss_cons (s_par rfl sc__law_told.nd (a_cons (e_lst a_nil) (a_cons (e_lst a_nil) a_nil)))
    (ss_cons (s_for rfl (passes_of rfl) (i_enumX rfl T.z_enumerate (a_cons (e_var (pv 2)) a_nil)) (g_tup rfl rfl (gs_cons (g_name sc__law_told.nd) (gs_cons (g_name sc__law_told.nd) gs_nil)))
    (ss_cons (s_asg (e_call (ok__law_step T) hr T.m__law_step T.F__law_step.kp T.B__law_step tk (a_cons (e_var (pv 0)) (a_cons (e_var (pv 1)) (a_cons (e_var (pv 6)) a_nil))) ) (g_tup rfl rfl (gs_cons (g_name sc__law_told.nd) (gs_cons (g_name sc__law_told.nd) gs_nil))))
    (ss_cons (s_expr (e_mt rfl PySem.F.plainAttrs_list PySem.F.slot_list_append PySem.F.type_list_append m_append (e_var (pv 3)) (a_cons (e_var (pv 7)) a_nil)))
    (ss_one (s_set sc__law_told.nd (e_bin (o_add rfl) (e_var (pv 4)) (e_if (t_truth rfl (e_call (ok__law_is_lie T) hr T.m__law_is_lie T.F__law_is_lie.kp T.B__law_is_lie tk (a_cons (e_var (pv 7)) (a_cons (e_ix (o_ix rfl) (e_var (pv 1)) e_int) a_nil)) )) (e_lst (a_cons (e_var (pv 5)) a_nil)) (e_lst a_nil))))))))
    (ss_one (s_ret (e_tup (a_cons (e_var (pv 3)) (a_cons (e_var (pv 4)) (a_cons (e_var (pv 1)) a_nil))))))))
theorem ok__law_many (T : Tx G mg w P) : FnOk P w G.K mg base (L2.CX P w) 2 T.a__law_many T.d__law_many ["pot", "spec", "most"] (spF G f__law_many) :=
  fn_ok (k := 1) T.F__law_many sc__law_many fun cdv A outer s H E hr =>
    have tk := takes_of (X := cxOf (L2.CX P w) P w G.K mg base N__law_many "_law_many" (defScope (topS 60)) T.a__law_many cdv A outer s H E) rfl rfl rfl rfl
    (ss_one (s_ret (e_if (t_cmp o_isnot (e_ix (o_ix rfl) (e_var (pv 1)) e_int) e_non (nomark _)) (e_call (ok__law_draw T) hr T.m__law_draw T.F__law_draw.kp T.B__law_draw tk (a_cons (e_var (pv 0)) (a_cons (e_bin (o_add rfl) (e_var (pv 2)) e_int) a_nil)) ) (e_bin (o_add rfl) e_int (e_call (ok__law_draw T) hr T.m__law_draw T.F__law_draw.kp T.B__law_draw tk (a_cons (e_var (pv 0)) (a_cons (e_var (pv 2)) a_nil)) )))))
theorem ok__law_is_standing (T : Tx G mg w P) : FnOk P w G.K mg base (L2.CX P w) 2 T.a__law_is_standing T.d__law_is_standing ["spec", "thing"] (spF G f__law_is_standing) :=
  fn_ok (k := 1) T.F__law_is_standing sc__law_is_standing fun cdv A outer s H E hr =>
    have tk := takes_of (X := cxOf (L2.CX P w) P w G.K mg base N__law_is_standing "_law_is_standing" (defScope (topS 61)) T.a__law_is_standing cdv A outer s H E) rfl rfl rfl rfl
    (ss_cons (s_if (PW.pt (w_or (t_not (t_truth rfl (e_blt (isi_ty rfl (.inr (.inr (.inr (.inl rfl))))) (by rfl) T.z_isinstance (by decide +kernel) (a_cons (e_var (pv 1)) (a_cons (e_ty (by rfl) T.z_tuple (by decide +kernel)) a_nil))))) (w_or (t_cmp (o_ne rfl hr.units) (e_blt (c_len rfl) (by rfl) T.z_len (by decide +kernel) (a_cons (e_var (pv 1)) a_nil)) e_int (nomark _)) (w_one_or (t_not (t_truth rfl (e_call (ok__law_within T) hr T.m__law_within T.F__law_within.kp T.B__law_within tk (a_cons (e_ix (o_ix rfl) (e_var (pv 1)) e_int) (a_cons e_int (a_cons (e_bin o_sub (e_blt (c_len rfl) (by rfl) T.z_len (by decide +kernel) (a_cons (e_ix (o_ix rfl) (e_ix (o_ix rfl) (e_var (pv 0)) e_int) e_int) a_nil)) e_int) a_nil))) ))))))) (ss_one (s_ret e_bl)) ss_nil)
    (ss_cons (s_if (PW.pt (w_or (t_not (t_truth rfl (e_blt (isi_ty rfl (.inr (.inr (.inr (.inl rfl))))) (by rfl) T.z_isinstance (by decide +kernel) (a_cons (e_ix (o_ix rfl) (e_var (pv 1)) e_int) (a_cons (e_ty (by rfl) T.z_tuple (by decide +kernel)) a_nil))))) (w_or (t_not (t_truth rfl (e_blt (isi_ty rfl (.inr (.inr (.inr (.inl rfl))))) (by rfl) T.z_isinstance (by decide +kernel) (a_cons (e_ix (o_ix rfl) (e_var (pv 1)) e_int) (a_cons (e_ty (by rfl) T.z_tuple (by decide +kernel)) a_nil))))) (w_or (t_cmp (o_ne rfl hr.units) (e_blt (c_len rfl) (by rfl) T.z_len (by decide +kernel) (a_cons (e_ix (o_ix rfl) (e_var (pv 1)) e_int) a_nil)) (e_blt (c_len rfl) (by rfl) T.z_len (by decide +kernel) (a_cons (e_ix (o_ix rfl) (e_var (pv 1)) e_int) a_nil)) (nomark _)) (w_one_or (t_not (t_chain o_le o_le e_int (e_blt (c_len rfl) (by rfl) T.z_len (by decide +kernel) (a_cons (e_ix (o_ix rfl) (e_var (pv 1)) e_int) a_nil)) e_int))))))) (ss_one (s_ret e_bl)) ss_nil)
    (ss_cons (s_if (t_cmp (o_neE hr.units) (e_lc (own := [("one", 2)]) rfl sc__law_is_standing.nd (i_seq rfl (e_ix (o_ix rfl) (e_var (pv 1)) e_int)) (blkOk_by (N := N__law_is_standing) (sc := defScope (topS 61)) (by decide +kernel)) (fun _ _ _ _ _ => (g_name sc__law_is_standing.nd)) (fun _ _ _ _ _ => (ts_one (t_not (t_truth rfl (e_blt (isi_ty rfl (.inr (.inl rfl))) (by rfl) T.z_isinstance (by decide +kernel) (a_cons (e_var (pv 2)) (a_cons (e_ty (by rfl) T.z_bool (by decide +kernel)) a_nil))))))) (fun _ _ _ _ _ => (e_var (pv 2)))) (e_lst a_nil) (nomark _)) (ss_one (s_ret e_bl)) ss_nil)
    (ss_one (s_ret (e_cmp (o_eqE hr.units) (e_lc (own := [("one", 2)]) rfl sc__law_is_standing.nd (i_seq rfl (e_ix (o_ix rfl) (e_var (pv 1)) e_int)) (blkOk_by (N := N__law_is_standing) (sc := defScope (topS 61)) (by decide +kernel)) (fun _ _ _ _ _ => (g_name sc__law_is_standing.nd)) (fun _ _ _ _ _ => (ts_one (t_not (t_truth rfl (e_call (ok__law_within T) hr T.m__law_within T.F__law_within.kp T.B__law_within takes0 (a_cons (e_var (pv 2)) (a_cons e_int (a_cons (e_bin o_sub (e_blt (c_len rfl) (by rfl) T.z_len (by decide +kernel) (a_cons (e_ix (o_ix rfl) (e_var (pv 0)) e_int) a_nil)) e_int) a_nil))) ))))) (fun _ _ _ _ _ => (e_var (pv 2)))) (e_lst a_nil) (nomark _)))))))
def hdsOf : List Stmt → List ExceptHandler
  | .Try _ hs _ _ _ :: _ => hs
  | _ => []
def retOf : List Stmt → Expr
  | [_, .Return (some e) _] => e
  | _ => .Constant .none 0 ⟨0, 0, 0, 0⟩
theorem hx_law_found (T : Tx G mg w P) {base : Heap} (cdg : Value) (A : Around) (outer : List Env) (s : Shared) (H : Hp) : HxOk (cxOf C8.CX0 P w G.K mg base N__law_found "_law_found" (defScope (topS 62)) T.a__law_found cdg A outer s H C8.E0).nox G (hdsOf (defBody (topS 62))) hs_law_found :=
  (.named sc__law_found.nd (i := 2) (by rfl) (by rfl) ⟨by rfl, by decide, .inl T.m_BadNumber⟩ T.exm_BadNumber T.exn_BadNumber (fun a d fs oe pn hz hf => (e_tup (a_cons e_str (a_cons (e_blt c_repr (by rfl) T.z_repr (by decide +kernel) (a_cons (e_xf rfl T.xf_BadNumber T.xn_BadNumber_value hz hf (e_var (pv 2))) a_nil)) a_nil)))) (.only ⟨by rfl, by decide, .inl T.m_NoColour⟩ T.exm_NoColour T.exn_NoColour (fun a oe pn => e_str) (.named sc__law_found.nd (i := 2) (by rfl) (by rfl) ⟨by rfl, by decide, .inl T.m_NoOrder⟩ T.exm_NoOrder T.exn_NoOrder (fun a d fs oe pn hz hf => (e_tup (a_cons e_str (a_cons (e_xf rfl T.xf_NoOrder T.xn_NoOrder_at hz hf (e_var (pv 2))) a_nil)))) (.only ⟨by rfl, by decide, .inl T.m_NoStanding⟩ T.exm_NoStanding T.exn_NoStanding (fun a oe pn => e_str) (.only ⟨by rfl, by decide, .inl T.m_NoVisit⟩ T.exm_NoVisit T.exn_NoVisit (fun a oe pn => e_str) .nil)))))
theorem rt_law_found (T : Tx G mg w P) {base : Heap} (cdg : Value) (A : Around) (outer : List Env) (s : Shared) (H : Hp) : PE (cxOf C8.CX0 P w G.K mg base N__law_found "_law_found" (defScope (topS 62)) T.a__law_found cdg A outer s H C8.E0).nox (retOf (defBody (topS 62))) (tE G W0 fr_law_found) :=
  (e_tup (a_cons e_str (a_cons (e_var (pv 1)) a_nil)))
theorem found_law_found (T : Tx G mg w P) {W : WX} {X : Cx} {c p0 : Addr} {k : Nat} {params : Arguments} {body : Expr} {scope : Scope} {p lpos pos : Pos} {fe : E} (TB : LamX.TabB X.base X.mg c p0) (hT : G.T = [(p0, X.env.qual ++ "<lambda>")]) (hr : Room (k + 2) X.A)
    (hbody : ∀ (A : Around) (outer : List Env) (s : Shared) (H : Hp) (E : XK) (f c' : Addr), Room k (A.deeper (LamX.lamEnv X scope s.heap.objs.size f c')) → PE (LamX.lamCx X A outer s H E scope f c') body (tE G (fun c d _ H => E c d H) fe))
    (hg : Gl X "_law_found" := by rfl) (hcode : X.env.code = .ref c := by rfl) (L : LamX.LamS X.env.scope scope := by exact LamX.lamS_by (by decide +kernel)) (hdef : defaultsOf params X.env = ([], []) := by rfl)
    (hbind : ∀ (q : Str) (cl : List (Str × Addr)) (pm cv ctv : Value), bindArgs (PySem.W.kla_fn "<lambda>" q params body scope cl pm cv ctv) ⟨[], []⟩ = pure [] := by intro _ _ _ _ _; rfl)
    (h1 : X.prog = P := by rfl) (h2 : X.w = w := by rfl) (h3 : X.K = G.K := by rfl) (h4 : X.mg = mg := by rfl) : PE X (.Call (.Name "_law_found" p) [.Lambda params body scope lpos] [] pos) (tE G W (eFound n_law_found i_law_found hs_law_found fr_law_found fe)) := by
  subst h1 h2 h4
  have hK := h3
  refine e_found (st := (topS 62)) T.xi0 (by rw [hK]; exact T.F__law_found) hg T.m__law_found (by rw [hK]; exact T.B__law_found) sc__law_found rfl (by rfl) (by rfl) (.inl rfl) (by rfl) (fun _ => rfl) (fun cdg s H => ?_) (fun cdg s H => ?_) rfl TB hcode hT hr L hdef hbind hbody
  · rw [hK]; exact hx_law_found T cdg _ _ s H
  · rw [hK]; exact rt_law_found T cdg _ _ s H
theorem ok_law (T : Tx G mg w P) (TB : LamX.TabB base mg T.c_law T.p_law) : FnOk P w G.K mg base (L2.CX P w) 12 T.a_law T.d_law ["script"] (spF G f_law) := by
  obtain ⟨oc, od, kV, doc, pm, an, ct, osl, lk, hd⟩ := T.lk_law
  rw [hd]
  exact fn_okC (k := 11) lk T.cin_law sc_law fun A outer s H E hr =>
    have tk := takes_of (X := cxOf (L2.CX P w) P w G.K mg base N_law "law" (defScope (topS 63)) T.a_law (.ref T.c_law) A outer s H E) rfl rfl rfl rfl
    (ss_cons (s_set sc_law.nd (e_call (ok__law_pot T) hr T.m__law_pot T.F__law_pot.kp T.B__law_pot tk (a_cons (e_var (pv 0)) a_nil) ))
    (ss_cons (s_for rfl (passes_of rfl) (i_range1 T.z_range (a_cons e_int a_nil)) (g_name sc_law.nd)
    (ss_cons (s_set sc_law.nd (e_call (ok__law_spec T) hr T.m__law_spec T.F__law_spec.kp T.B__law_spec tk (a_cons (e_var (pv 1)) (a_cons (e_lst (a_cons e_int (a_cons e_int a_nil))) a_nil)) ))
    (ss_cons (s_asg (e_tup (a_cons (e_call (ok__law_made T) hr T.m__law_made T.F__law_made.kp T.B__law_made tk (a_cons (e_var (pv 3)) a_nil) ) (a_cons (e_call (ok__law_many T) hr T.m__law_many T.F__law_many.kp T.B__law_many tk (a_cons (e_var (pv 1)) (a_cons (e_var (pv 3)) (a_cons (e_if (t_cmp o_isnot (e_ix (o_ix rfl) (e_var (pv 3)) e_int) e_non (nomark _)) e_int e_int) a_nil))) ) a_nil))) (g_tup rfl rfl (gs_cons (g_name sc_law.nd) (gs_cons (g_name sc_law.nd) gs_nil))))
    (ss_cons (s_set sc_law.nd (e_call (ok__law_pick T) hr T.m__law_pick T.F__law_pick.kp T.B__law_pick tk (a_cons (e_var (pv 1)) (a_cons (e_call (ok__law_colours T) hr T.m__law_colours T.F__law_colours.kp T.B__law_colours tk (a_cons (e_var (pv 3)) a_nil) ) a_nil)) ))
    (ss_cons (s_set sc_law.nd (e_call (ok__law_begun T) hr T.m__law_begun T.F__law_begun.kp T.B__law_begun tk (a_cons (e_var (pv 3)) (a_cons (e_var (pv 5)) (a_cons (e_var (pv 6)) a_nil))) ))
    (ss_cons (s_setLc (own := [("k", 21)]) rfl sc_law.nd (i_range1 T.z_range (a_cons (e_call (ok__law_draw T) hr T.m__law_draw T.F__law_draw.kp T.B__law_draw tk (a_cons (e_var (pv 1)) (a_cons e_int a_nil)) ) a_nil)) (blkOk_by (N := N_law) (sc := defScope (topS 63)) (by decide +kernel)) (sw_true rfl rfl rfl (by decide +kernel)) (fun _ _ _ _ _ => (g_name sc_law.nd)) (fun _ _ _ _ _ => ts_nil) (fun _ _ _ _ _ => (e_call (ok__law_draw T) hr T.m__law_draw T.F__law_draw.kp T.B__law_draw takes0 (a_cons (e_var (pv 1)) (a_cons (e_blt (c_len rfl) (by rfl) T.z_len (by decide +kernel) (a_cons (e_ix (o_ix rfl) (e_var (pv 7)) e_int) a_nil)) a_nil)) )))
    (ss_cons (s_asg (e_call (ok__law_told T) hr T.m__law_told T.F__law_told.kp T.B__law_told tk (a_cons (e_var (pv 3)) (a_cons (e_var (pv 7)) (a_cons (e_var (pv 8)) a_nil))) ) (g_tup rfl rfl (gs_cons (g_name sc_law.nd) (gs_cons (g_name sc_law.nd) (gs_cons (g_name sc_law.nd) gs_nil)))))
    (ss_cons (s_if (PW.pt (w_or (t_not (t_truth rfl (e_call (ok__law_same T 7) hr T.m__law_same T.F__law_same.kp T.B__law_same tk (a_cons (e_call (ok_beginning T) hr T.m_beginning T.F_beginning.kp T.B_beginning tk (a_cons (e_var (pv 4)) (a_cons (e_var (pv 5)) (a_cons (e_var (pv 6)) a_nil))) ) (a_cons (e_var (pv 7)) a_nil)) ))) (w_one_or (t_not (t_truth rfl (e_call (ok__law_same T 7) hr T.m__law_same T.F__law_same.kp T.B__law_same tk (a_cons (e_call (ok_said T) hr T.m_said T.F_said.kp T.B_said tk (a_cons (e_var (pv 4)) (a_cons (e_var (pv 5)) (a_cons (e_var (pv 6)) (a_cons (e_var (pv 8)) a_nil)))) ) (a_cons (e_bty (c_tuple rfl) (by rfl) T.z_tuple (by decide +kernel) (a_cons (e_var (pv 9)) a_nil)) a_nil)) )))))) (ss_one (s_ret e_bl)) ss_nil)
    (ss_cons (s_if (t_not (t_truth rfl (e_call (ok__law_same T 7) hr T.m__law_same T.F__law_same.kp T.B__law_same tk (a_cons (e_call (ok_lies T) hr T.m_lies T.F_lies.kp T.B_lies tk (a_cons (e_var (pv 4)) (a_cons (e_var (pv 5)) (a_cons (e_var (pv 6)) (a_cons (e_bty (c_tuple rfl) (by rfl) T.z_tuple (by decide +kernel) (a_cons (e_var (pv 8)) a_nil)) a_nil)))) ) (a_cons (e_bty (c_tuple rfl) (by rfl) T.z_tuple (by decide +kernel) (a_cons (e_var (pv 10)) a_nil)) a_nil)) ))) (ss_one (s_ret e_bl)) ss_nil)
    (ss_cons (s_if (t_cmp (o_neE hr.units) (e_var (pv 8)) (e_lst a_nil) (nomark _)) (ss_cons (s_asg (e_call (ok__law_step T) hr T.m__law_step T.F__law_step.kp T.B__law_step tk (a_cons (e_var (pv 3)) (a_cons (e_var (pv 11)) (a_cons (e_ix (o_ix rfl) (e_var (pv 8)) e_int) a_nil))) ) (g_tup rfl rfl (gs_cons (g_name sc_law.nd) (gs_cons (g_name sc_law.nd) gs_nil))))
    (ss_one (s_if (t_not (t_truth rfl (e_call (ok__law_same T 7) hr T.m__law_same T.F__law_same.kp T.B__law_same tk (a_cons (e_lst (a_cons (e_call (ok_visited T) hr T.m_visited T.F_visited.kp T.B_visited tk (a_cons (e_var (pv 4)) (a_cons (e_var (pv 11)) (a_cons (e_ix (o_ix rfl) (e_var (pv 8)) e_int) a_nil))) ) (a_cons (e_call (ok_saying T) hr T.m_saying T.F_saying.kp T.B_saying tk (a_cons (e_var (pv 4)) (a_cons (e_var (pv 11)) (a_cons (e_ix (o_ix rfl) (e_var (pv 8)) e_int) a_nil))) ) a_nil))) (a_cons (e_lst (a_cons (e_var (pv 13)) (a_cons (e_var (pv 12)) a_nil))) a_nil)) ))) (ss_one (s_ret e_bl)) ss_nil))) ss_nil)
    (ss_cons (s_set sc_law.nd (e_call (ok__law_pick T) hr T.m__law_pick T.F__law_pick.kp T.B__law_pick tk (a_cons (e_var (pv 1)) (a_cons (e_lst (a_cons (e_bin (o_add rfl) (e_var (pv 8)) (e_lst (a_cons (e_call (ok__law_pick T) hr T.m__law_pick T.F__law_pick.kp T.B__law_pick tk (a_cons (e_var (pv 1)) (a_cons (e_lst (a_cons e_non (a_cons e_bl (a_cons (e_un o_neg e_int) (a_cons e_int (a_cons e_str a_nil)))))) a_nil)) ) a_nil))) (a_cons e_non (a_cons e_int (a_cons e_newD (a_cons (e_bin (o_mulY rfl) (e_lst (a_cons e_int a_nil)) e_int) (a_cons (e_var (pv 8)) a_nil))))))) a_nil)) ))
    (ss_cons (s_set sc_law.nd (e_if (PW.pt (w_or (t_not (t_truth rfl (e_blt (isi_ty rfl (.inr (.inr (.inr (.inr (rfl)))))) (by rfl) T.z_isinstance (by decide +kernel) (a_cons (e_var (pv 14)) (a_cons (e_ty (by rfl) T.z_list (by decide +kernel)) a_nil))))) (w_one_or (t_cmp o_gt (e_blt (c_len rfl) (by rfl) T.z_len (by decide +kernel) (a_cons (e_var (pv 14)) a_nil)) e_int (nomark _))))) (e_tup (a_cons e_str (a_cons (e_un o_neg e_int) a_nil))) (e_if (t_cmp o_gt (e_blt (c_len rfl) (by rfl) T.z_len (by decide +kernel) (a_cons (e_var (pv 14)) a_nil)) (e_blt (c_len rfl) (by rfl) T.z_len (by decide +kernel) (a_cons (e_var (pv 8)) a_nil)) (nomark _)) (e_tup (a_cons e_str (a_cons (e_blt (c_len rfl) (by rfl) T.z_len (by decide +kernel) (a_cons (e_var (pv 8)) a_nil)) a_nil))) (e_tup (a_cons e_str (a_cons (e_bty (c_tuple rfl) (by rfl) T.z_tuple (by decide +kernel) (a_cons (e_var (pv 9)) a_nil)) a_nil))))))
    (ss_cons (s_if (t_not (t_truth rfl (e_call (ok__law_same T 7) hr T.m__law_same T.F__law_same.kp T.B__law_same tk (a_cons (found_law_found T TB T.GT hr (fun A outer s H E f c' hr => (e_call (ok_said T) hr T.m_said T.F_said.kp T.B_said (takes_of rfl rfl rfl rfl) (a_cons (e_var (pv 4)) (a_cons (e_var (pv 5)) (a_cons (e_var (pv 6)) (a_cons (e_var (pv 14)) a_nil)))) )) (L := LamX.lamS_by (show LamX.lamSB (defScope (topS 63)) _ = true by decide +kernel))) (a_cons (e_var (pv 15)) a_nil)) ))) (ss_one (s_ret e_bl)) ss_nil)
    (ss_cons (s_if (PW.pt (w_and (t_cmp (o_eq rfl hr.units) (e_ix (o_ix rfl) (e_var (pv 15)) e_int) e_str (nomark _)) (w_one_and (t_cmp (o_ne rfl hr.units) (found_law_found T TB T.GT hr (fun A outer s H E f c' hr => (e_call (ok_lies T) hr T.m_lies T.F_lies.kp T.B_lies (takes_of rfl rfl rfl rfl) (a_cons (e_var (pv 4)) (a_cons (e_var (pv 5)) (a_cons (e_var (pv 6)) (a_cons (e_var (pv 14)) a_nil)))) )) (L := LamX.lamS_by (show LamX.lamSB (defScope (topS 63)) _ = true by decide +kernel))) (e_var (pv 15)) (nomark _))))) (ss_one (s_ret e_bl)) ss_nil)
    (ss_cons (s_set sc_law.nd (e_call (ok__law_pick T) hr T.m__law_pick T.F__law_pick.kp T.B__law_pick tk (a_cons (e_var (pv 1)) (a_cons (e_bin (o_add rfl) (e_lst (a_cons (e_un o_neg e_int) (a_cons e_int (a_cons e_non (a_cons e_bl a_nil))))) (e_if (t_cmp o_is (e_ix (o_ix rfl) (e_var (pv 3)) e_int) e_non (nomark _)) (e_lst (a_cons e_int a_nil)) (e_lst a_nil))) a_nil)) ))
    (ss_cons (s_set sc_law.nd (e_call (ok__law_pick T) hr T.m__law_pick T.F__law_pick.kp T.B__law_pick tk (a_cons (e_var (pv 1)) (a_cons (e_bin (o_add rfl) (e_lst (a_cons e_non (a_cons e_bl (a_cons (e_un o_neg e_int) (a_cons (e_blt (c_len rfl) (by rfl) T.z_len (by decide +kernel) (a_cons (e_ix (o_ix rfl) (e_ix (o_ix rfl) (e_var (pv 3)) e_int) e_int) a_nil)) a_nil))))) (e_lc (own := [("k", 21)]) rfl sc_law.nd (i_range1 T.z_range (a_cons (e_blt (c_len rfl) (by rfl) T.z_len (by decide +kernel) (a_cons (e_ix (o_ix rfl) (e_ix (o_ix rfl) (e_var (pv 3)) e_int) e_int) a_nil)) a_nil)) (blkOk_by (N := N_law) (sc := defScope (topS 63)) (by decide +kernel)) (fun _ _ _ _ _ => (g_name sc_law.nd)) (fun _ _ _ _ _ => (ts_one (t_cmp (o_notin rfl) (e_var (pv 21)) (e_call (ok__law_colours T) hr T.m__law_colours T.F__law_colours.kp T.B__law_colours takes0 (a_cons (e_var (pv 3)) a_nil) ) (by rfl)))) (fun _ _ _ _ _ => (e_var (pv 21))))) a_nil)) ))
    (ss_cons (s_for rfl (passes_of rfl) (i_seq rfl (e_tup (a_cons (e_glob (v := .ref (G.tb 20)) (by rfl) T.mv_said rfl fun _ _ => by simp only [RV]) (a_cons (e_glob (v := .ref (G.tb 21)) (by rfl) T.mv_lies rfl fun _ _ => by simp only [RV]) a_nil)))) (g_name sc_law.nd)
    (ss_cons (s_if (t_cmp (o_ne rfl hr.units) (found_law_found T TB T.GT hr (fun A outer s H E f c' hr => (e_callV (ok_said T) (ok_lies T) hr T.tb_said T.tb_lies (by rfl) (by first | exact .inl rfl | exact .inr (.inl rfl) | exact .inr (.inr rfl)) T.F_said.kp T.F_lies.kp T.B_said T.B_lies (takes_of rfl rfl rfl rfl) (a_cons (e_var (pv 4)) (a_cons (e_var (pv 16)) (a_cons (e_var (pv 17)) (a_cons e_non a_nil)))))) (L := LamX.lamS_by (show LamX.lamSB (defScope (topS 63)) _ = true by decide +kernel))) (e_tup (a_cons e_str (a_cons (e_blt c_repr (by rfl) T.z_repr (by decide +kernel) (a_cons (e_var (pv 16)) a_nil)) a_nil))) (nomark _)) (ss_one (s_ret e_bl)) ss_nil)
    (ss_one (s_if (t_cmp (o_ne rfl hr.units) (found_law_found T TB T.GT hr (fun A outer s H E f c' hr => (e_callV (ok_said T) (ok_lies T) hr T.tb_said T.tb_lies (by rfl) (by first | exact .inl rfl | exact .inr (.inl rfl) | exact .inr (.inr rfl)) T.F_said.kp T.F_lies.kp T.B_said T.B_lies (takes_of rfl rfl rfl rfl) (a_cons (e_var (pv 4)) (a_cons (e_var (pv 5)) (a_cons (e_var (pv 17)) (a_cons e_non a_nil)))))) (L := LamX.lamS_by (show LamX.lamSB (defScope (topS 63)) _ = true by decide +kernel))) e_str (nomark _)) (ss_one (s_ret e_bl)) ss_nil))))
    (ss_cons (s_if (PW.pt (w_or (t_cmp (o_ne rfl hr.units) (found_law_found T TB T.GT hr (fun A outer s H E f c' hr => (e_call (ok_beginning T) hr T.m_beginning T.F_beginning.kp T.B_beginning (takes_of rfl rfl rfl rfl) (a_cons (e_var (pv 4)) (a_cons (e_var (pv 16)) (a_cons (e_var (pv 17)) a_nil))) )) (L := LamX.lamS_by (show LamX.lamSB (defScope (topS 63)) _ = true by decide +kernel))) (e_tup (a_cons e_str (a_cons (e_blt c_repr (by rfl) T.z_repr (by decide +kernel) (a_cons (e_var (pv 16)) a_nil)) a_nil))) (nomark _)) (w_one_or (t_cmp (o_ne rfl hr.units) (found_law_found T TB T.GT hr (fun A outer s H E f c' hr => (e_call (ok_beginning T) hr T.m_beginning T.F_beginning.kp T.B_beginning (takes_of rfl rfl rfl rfl) (a_cons (e_var (pv 4)) (a_cons (e_var (pv 5)) (a_cons (e_var (pv 17)) a_nil))) )) (L := LamX.lamS_by (show LamX.lamSB (defScope (topS 63)) _ = true by decide +kernel))) e_str (nomark _))))) (ss_one (s_ret e_bl)) ss_nil)
    (ss_cons (s_set sc_law.nd (e_call (ok__law_pick T) hr T.m__law_pick T.F__law_pick.kp T.B__law_pick tk (a_cons (e_var (pv 1)) (a_cons (e_lst (a_cons (e_var (pv 11)) (a_cons (e_call (ok__law_bent T 5) hr T.m__law_bent T.F__law_bent.kp T.B__law_bent tk (a_cons (e_var (pv 1)) (a_cons (e_var (pv 11)) (a_cons e_int a_nil))) ) (a_cons e_non (a_cons (e_bty (c_list rfl) (by rfl) T.z_list (by decide +kernel) (a_cons (e_var (pv 11)) a_nil)) (a_cons (e_tup (a_cons e_int (a_cons (e_tup a_nil) (a_cons (e_tup a_nil) a_nil)))) (a_cons (e_tup (a_cons (e_ix (o_ix rfl) (e_var (pv 11)) e_int) (a_cons (e_bin (o_mulY rfl) (e_ix (o_ix rfl) (e_var (pv 11)) e_int) e_int) (a_cons (e_bin (o_mulY rfl) (e_ix (o_ix rfl) (e_var (pv 11)) e_int) e_int) a_nil)))) a_nil))))))) a_nil)) ))
    (ss_cons (s_set sc_law.nd (e_call (ok__law_pick T) hr T.m__law_pick T.F__law_pick.kp T.B__law_pick tk (a_cons (e_var (pv 1)) (a_cons (e_lst (a_cons e_int (a_cons (e_bin o_sub (e_blt (c_len rfl) (by rfl) T.z_len (by decide +kernel) (a_cons (e_ix (o_ix rfl) (e_var (pv 7)) e_int) a_nil)) e_int) (a_cons (e_blt (c_len rfl) (by rfl) T.z_len (by decide +kernel) (a_cons (e_ix (o_ix rfl) (e_var (pv 7)) e_int) a_nil)) (a_cons (e_un o_neg e_int) (a_cons e_non (a_cons e_bl a_nil))))))) a_nil)) ))
    (ss_cons (s_set sc_law.nd e_str)
    (ss_cons (s_if (t_truth rfl (e_call (ok__law_is_standing T) hr T.m__law_is_standing T.F__law_is_standing.kp T.B__law_is_standing tk (a_cons (e_var (pv 3)) (a_cons (e_var (pv 19)) a_nil)) )) (ss_cons (s_set sc_law.nd e_str)
    (ss_one (s_if (t_truth rfl (e_call (ok__law_within T) hr T.m__law_within T.F__law_within.kp T.B__law_within tk (a_cons (e_var (pv 20)) (a_cons e_int (a_cons (e_bin o_sub (e_blt (c_len rfl) (by rfl) T.z_len (by decide +kernel) (a_cons (e_ix (o_ix rfl) (e_var (pv 19)) e_int) a_nil)) e_int) a_nil))) )) (ss_one (s_set sc_law.nd (e_tup (a_cons e_str (a_cons (e_ix (o_ix rfl) (e_call (ok__law_step T) hr T.m__law_step T.F__law_step.kp T.B__law_step tk (a_cons (e_var (pv 3)) (a_cons (e_var (pv 19)) (a_cons (e_var (pv 20)) a_nil))) ) e_int) a_nil))))) ss_nil))) ss_nil)
    (ss_cons (s_if (t_not (t_truth rfl (e_call (ok__law_same T 7) hr T.m__law_same T.F__law_same.kp T.B__law_same tk (a_cons (found_law_found T TB T.GT hr (fun A outer s H E f c' hr => (e_call (ok_visited T) hr T.m_visited T.F_visited.kp T.B_visited (takes_of rfl rfl rfl rfl) (a_cons (e_var (pv 4)) (a_cons (e_var (pv 19)) (a_cons (e_var (pv 20)) a_nil))) )) (L := LamX.lamS_by (show LamX.lamSB (defScope (topS 63)) _ = true by decide +kernel))) (a_cons (e_var (pv 15)) a_nil)) ))) (ss_one (s_ret e_bl)) ss_nil)
    (ss_one (s_if (PW.pt (w_and (t_truth rfl (e_blt (isi_ty rfl (.inr (.inr (.inl rfl)))) (by rfl) T.z_isinstance (by decide +kernel) (a_cons (e_var (pv 15)) (a_cons (e_ty (by rfl) T.z_str (by decide +kernel)) a_nil)))) (w_one_and (t_cmp (o_ne rfl hr.units) (found_law_found T TB T.GT hr (fun A outer s H E f c' hr => (e_call (ok_saying T) hr T.m_saying T.F_saying.kp T.B_saying (takes_of rfl rfl rfl rfl) (a_cons (e_var (pv 4)) (a_cons (e_var (pv 19)) (a_cons (e_var (pv 20)) a_nil))) )) (L := LamX.lamS_by (show LamX.lamSB (defScope (topS 63)) _ = true by decide +kernel))) (e_var (pv 15)) (nomark _))))) (ss_one (s_ret e_bl)) ss_nil)))))))))))))))))))))))))
    (ss_one (s_ret e_bl))))
end K04

set_option Elab.async false
set_option linter.all false
set_option maxRecDepth 100000
set_option maxHeartbeats 4000000
namespace K04
open PySem PySem.Spec PyProof.Rows L2 LF
def tbF (C_Program C_BadProgram C_BadNumber C_NoColour C_NoStanding C_NoVisit C_NoOrder A_said A_lies : Addr) : Nat → Addr := fun n => if n = 8 then C_Program else if n = 2 then C_BadProgram else if n = 3 then C_BadNumber else if n = 4 then C_NoColour else if n = 5 then C_NoStanding else if n = 6 then C_NoVisit else if n = 7 then C_NoOrder else if n = 20 then A_said else if n = 21 then A_lies else 0
theorem sub_kit {K : PySem.W.Frag} {t : Value} {C : Addr} {b : Bool} (h1 : PySem.W.isClsIn K C = true) (h2 : PySem.W.typeIn K (.ref C) = some (.type "type")) (h3 : PySem.W.subIn K t (.ref C) = some b) (h4 : (t == .ref C) = false) : PySem.W.kitOne K t (.ref C) = some b := by
  unfold PySem.W.kitOne PySem.W.kitCls
  rw [h4, if_neg (by decide)]
  simp only [PySem.W.isClsIn] at h1
  simp only [h1, h2]
  simpa using h3
theorem all_mk {P : Program} {w : World} {K : PySem.W.Frag} {h : Heap} {mg : Str → Option Value} {fa : Addr} {C_LampError N_LampError : Addr} {nm_LampError q_LampError : Str} {bs_LampError : List Value} {sn_LampError : List Str} {sub_LampError : List Value} {ab_LampError : Bool} {col_LampError : Option Bool} {dd_LampError : Option Addr} {k0_LampError k1_LampError k2_LampError k3_LampError k5_LampError : Option Value} {C_BadProgram N_BadProgram A_BadProgram cc_BadProgram ca_BadProgram : Addr} {nm_BadProgram q_BadProgram fi_BadProgram : Str} {bs_BadProgram : List Value} {sn_BadProgram : List Str} {sub_BadProgram : List Value} {ab_BadProgram : Bool} {col_BadProgram : Option Bool} {dd_BadProgram od_BadProgram an_BadProgram x1_BadProgram cod_BadProgram : Option Addr} {k0_BadProgram k1_BadProgram k2_BadProgram k3_BadProgram k5_BadProgram : Option Value} {oc_BadProgram kV_BadProgram dc_BadProgram pm_BadProgram ct_BadProgram x0_BadProgram coc_BadProgram v0_BadProgram v1_BadProgram : Value} {sl_BadProgram x2_BadProgram csl_BadProgram : Array (Option Value)} {tf_BadProgram : Tok} {vr_BadProgram : List Value} {C_BadNumber N_BadNumber A_BadNumber cc_BadNumber ca_BadNumber : Addr} {nm_BadNumber q_BadNumber fi_BadNumber : Str} {bs_BadNumber : List Value} {sn_BadNumber : List Str} {sub_BadNumber : List Value} {ab_BadNumber : Bool} {col_BadNumber : Option Bool} {dd_BadNumber od_BadNumber an_BadNumber x1_BadNumber cod_BadNumber : Option Addr} {k0_BadNumber k1_BadNumber k2_BadNumber k3_BadNumber k5_BadNumber : Option Value} {oc_BadNumber kV_BadNumber dc_BadNumber pm_BadNumber ct_BadNumber x0_BadNumber coc_BadNumber v0_BadNumber v1_BadNumber : Value} {sl_BadNumber x2_BadNumber csl_BadNumber : Array (Option Value)} {tf_BadNumber : Tok} {vr_BadNumber : List Value} {C_NoColour N_NoColour A_NoColour cc_NoColour ca_NoColour : Addr} {nm_NoColour q_NoColour fi_NoColour : Str} {bs_NoColour : List Value} {sn_NoColour : List Str} {sub_NoColour : List Value} {ab_NoColour : Bool} {col_NoColour : Option Bool} {dd_NoColour od_NoColour an_NoColour x1_NoColour cod_NoColour : Option Addr} {k0_NoColour k1_NoColour k2_NoColour k3_NoColour k5_NoColour : Option Value} {oc_NoColour kV_NoColour dc_NoColour pm_NoColour ct_NoColour x0_NoColour coc_NoColour v0_NoColour v1_NoColour : Value} {sl_NoColour x2_NoColour csl_NoColour : Array (Option Value)} {tf_NoColour : Tok} {vr_NoColour : List Value} {C_NoStanding N_NoStanding A_NoStanding cc_NoStanding ca_NoStanding : Addr} {nm_NoStanding q_NoStanding fi_NoStanding : Str} {bs_NoStanding : List Value} {sn_NoStanding : List Str} {sub_NoStanding : List Value} {ab_NoStanding : Bool} {col_NoStanding : Option Bool} {dd_NoStanding od_NoStanding an_NoStanding x1_NoStanding cod_NoStanding : Option Addr} {k0_NoStanding k1_NoStanding k2_NoStanding k3_NoStanding k5_NoStanding : Option Value} {oc_NoStanding kV_NoStanding dc_NoStanding pm_NoStanding ct_NoStanding x0_NoStanding coc_NoStanding v0_NoStanding v1_NoStanding : Value} {sl_NoStanding x2_NoStanding csl_NoStanding : Array (Option Value)} {tf_NoStanding : Tok} {vr_NoStanding : List Value} {C_NoVisit N_NoVisit A_NoVisit cc_NoVisit ca_NoVisit : Addr} {nm_NoVisit q_NoVisit fi_NoVisit : Str} {bs_NoVisit : List Value} {sn_NoVisit : List Str} {sub_NoVisit : List Value} {ab_NoVisit : Bool} {col_NoVisit : Option Bool} {dd_NoVisit od_NoVisit an_NoVisit x1_NoVisit cod_NoVisit : Option Addr} {k0_NoVisit k1_NoVisit k2_NoVisit k3_NoVisit k5_NoVisit : Option Value} {oc_NoVisit kV_NoVisit dc_NoVisit pm_NoVisit ct_NoVisit x0_NoVisit coc_NoVisit v0_NoVisit v1_NoVisit : Value} {sl_NoVisit x2_NoVisit csl_NoVisit : Array (Option Value)} {tf_NoVisit : Tok} {vr_NoVisit : List Value} {C_NoOrder N_NoOrder A_NoOrder cc_NoOrder ca_NoOrder : Addr} {nm_NoOrder q_NoOrder fi_NoOrder : Str} {bs_NoOrder : List Value} {sn_NoOrder : List Str} {sub_NoOrder : List Value} {ab_NoOrder : Bool} {col_NoOrder : Option Bool} {dd_NoOrder od_NoOrder an_NoOrder x1_NoOrder cod_NoOrder : Option Addr} {k0_NoOrder k1_NoOrder k2_NoOrder k3_NoOrder k5_NoOrder : Option Value} {oc_NoOrder kV_NoOrder dc_NoOrder pm_NoOrder ct_NoOrder x0_NoOrder coc_NoOrder v0_NoOrder v1_NoOrder : Value} {sl_NoOrder x2_NoOrder csl_NoOrder : Array (Option Value)} {tf_NoOrder : Tok} {vr_NoOrder : List Value} {C_Program : Addr} {A_is_number : Addr} {od_is_number an_is_number : Option Addr} {sl_is_number : Array (Option Value)} {oc_is_number kV_is_number dc_is_number pm_is_number cd_is_number ct_is_number : Value} {A_is_within : Addr} {od_is_within an_is_within : Option Addr} {sl_is_within : Array (Option Value)} {oc_is_within kV_is_within dc_is_within pm_is_within cd_is_within ct_is_within : Value} {A_is_listed : Addr} {od_is_listed an_is_listed : Option Addr} {sl_is_listed : Array (Option Value)} {oc_is_listed kV_is_listed dc_is_listed pm_is_listed cd_is_listed ct_is_listed : Value} {A_is_word : Addr} {od_is_word an_is_word : Option Addr} {sl_is_word : Array (Option Value)} {oc_is_word kV_is_word dc_is_word pm_is_word cd_is_word ct_is_word : Value} {A_replaced : Addr} {od_replaced an_replaced : Option Addr} {sl_replaced : Array (Option Value)} {oc_replaced kV_replaced dc_replaced pm_replaced cd_replaced ct_replaced : Value} {A_is_step : Addr} {od_is_step an_is_step : Option Addr} {sl_is_step : Array (Option Value)} {oc_is_step kV_is_step dc_is_step pm_is_step cd_is_step ct_is_step : Value} {A_are_steps : Addr} {od_are_steps an_are_steps : Option Addr} {sl_are_steps : Array (Option Value)} {oc_are_steps kV_are_steps dc_are_steps pm_are_steps cd_are_steps ct_are_steps : Value} {A_all_colours : Addr} {od_all_colours an_all_colours : Option Addr} {sl_all_colours : Array (Option Value)} {oc_all_colours kV_all_colours dc_all_colours pm_all_colours cd_all_colours ct_all_colours : Value} {A_first_colours : Addr} {od_first_colours an_first_colours : Option Addr} {sl_first_colours : Array (Option Value)} {oc_first_colours kV_first_colours dc_first_colours pm_first_colours cd_first_colours ct_first_colours : Value} {A_check_many : Addr} {od_check_many an_check_many : Option Addr} {sl_check_many : Array (Option Value)} {oc_check_many kV_check_many dc_check_many pm_check_many cd_check_many ct_check_many : Value} {A_is_first_colour : Addr} {od_is_first_colour an_is_first_colour : Option Addr} {sl_is_first_colour : Array (Option Value)} {oc_is_first_colour kV_is_first_colour dc_is_first_colour pm_is_first_colour cd_is_first_colour ct_is_first_colour : Value} {A_check_start : Addr} {od_check_start an_check_start : Option Addr} {sl_check_start : Array (Option Value)} {oc_check_start kV_check_start dc_check_start pm_check_start cd_check_start ct_check_start : Value} {A_begun : Addr} {od_begun an_begun : Option Addr} {sl_begun : Array (Option Value)} {oc_begun kV_begun dc_begun pm_begun cd_begun ct_begun : Value} {A_beginning : Addr} {od_beginning an_beginning : Option Addr} {sl_beginning : Array (Option Value)} {oc_beginning kV_beginning dc_beginning pm_beginning cd_beginning ct_beginning : Value} {A_is_standing : Addr} {od_is_standing an_is_standing : Option Addr} {sl_is_standing : Array (Option Value)} {oc_is_standing kV_is_standing dc_is_standing pm_is_standing cd_is_standing ct_is_standing : Value} {A_check_visit : Addr} {od_check_visit an_check_visit : Option Addr} {sl_check_visit : Array (Option Value)} {oc_check_visit kV_check_visit dc_check_visit pm_check_visit cd_check_visit ct_check_visit : Value} {A_step_of : Addr} {od_step_of an_step_of : Option Addr} {sl_step_of : Array (Option Value)} {oc_step_of kV_step_of dc_step_of pm_step_of cd_step_of ct_step_of : Value} {A_behind : Addr} {od_behind an_behind : Option Addr} {sl_behind : Array (Option Value)} {oc_behind kV_behind dc_behind pm_behind cd_behind ct_behind : Value} {A_visited : Addr} {od_visited an_visited : Option Addr} {sl_visited : Array (Option Value)} {oc_visited kV_visited dc_visited pm_visited cd_visited ct_visited : Value} {A_saying : Addr} {od_saying an_saying : Option Addr} {sl_saying : Array (Option Value)} {oc_saying kV_saying dc_saying pm_saying cd_saying ct_saying : Value} {A_is_lie : Addr} {od_is_lie an_is_lie : Option Addr} {sl_is_lie : Array (Option Value)} {oc_is_lie kV_is_lie dc_is_lie pm_is_lie cd_is_lie ct_is_lie : Value} {A_check_order : Addr} {od_check_order an_check_order : Option Addr} {sl_check_order : Array (Option Value)} {oc_check_order kV_check_order dc_check_order pm_check_order cd_check_order ct_check_order : Value} {A_told_along : Addr} {od_told_along an_told_along : Option Addr} {sl_told_along : Array (Option Value)} {oc_told_along kV_told_along dc_told_along pm_told_along cd_told_along ct_told_along : Value} {A_started : Addr} {od_started an_started : Option Addr} {sl_started : Array (Option Value)} {oc_started kV_started dc_started pm_started cd_started ct_started : Value} {A_said : Addr} {od_said an_said : Option Addr} {sl_said : Array (Option Value)} {oc_said kV_said dc_said pm_said cd_said ct_said : Value} {A_lies : Addr} {od_lies an_lies : Option Addr} {sl_lies : Array (Option Value)} {oc_lies kV_lies dc_lies pm_lies cd_lies ct_lies : Value} {A__law_pot : Addr} {od__law_pot an__law_pot : Option Addr} {sl__law_pot : Array (Option Value)} {oc__law_pot kV__law_pot dc__law_pot pm__law_pot cd__law_pot ct__law_pot : Value} {A__law_draw : Addr} {od__law_draw an__law_draw : Option Addr} {sl__law_draw : Array (Option Value)} {oc__law_draw kV__law_draw dc__law_draw pm__law_draw cd__law_draw ct__law_draw : Value} {A__law_pick : Addr} {od__law_pick an__law_pick : Option Addr} {sl__law_pick : Array (Option Value)} {oc__law_pick kV__law_pick dc__law_pick pm__law_pick cd__law_pick ct__law_pick : Value} {A__law_same : Addr} {od__law_same an__law_same : Option Addr} {sl__law_same : Array (Option Value)} {oc__law_same kV__law_same dc__law_same pm__law_same cd__law_same ct__law_same : Value} {A__law_odd : Addr} {od__law_odd an__law_odd : Option Addr} {sl__law_odd : Array (Option Value)} {oc__law_odd kV__law_odd dc__law_odd pm__law_odd cd__law_odd ct__law_odd : Value} {A__law_bent : Addr} {od__law_bent an__law_bent : Option Addr} {sl__law_bent : Array (Option Value)} {oc__law_bent kV__law_bent dc__law_bent pm__law_bent cd__law_bent ct__law_bent : Value} {A__law_within : Addr} {od__law_within an__law_within : Option Addr} {sl__law_within : Array (Option Value)} {oc__law_within kV__law_within dc__law_within pm__law_within cd__law_within ct__law_within : Value} {A__law_saying : Addr} {od__law_saying an__law_saying : Option Addr} {sl__law_saying : Array (Option Value)} {oc__law_saying kV__law_saying dc__law_saying pm__law_saying cd__law_saying ct__law_saying : Value} {A__law_spec : Addr} {od__law_spec an__law_spec : Option Addr} {sl__law_spec : Array (Option Value)} {oc__law_spec kV__law_spec dc__law_spec pm__law_spec cd__law_spec ct__law_spec : Value} {A_Program_init : Addr} {od_Program_init an_Program_init : Option Addr} {sl_Program_init : Array (Option Value)} {oc_Program_init kV_Program_init dc_Program_init pm_Program_init cd_Program_init ct_Program_init : Value} {A__law_made : Addr} {od__law_made an__law_made : Option Addr} {sl__law_made : Array (Option Value)} {oc__law_made kV__law_made dc__law_made pm__law_made cd__law_made ct__law_made : Value} {A__law_colours : Addr} {od__law_colours an__law_colours : Option Addr} {sl__law_colours : Array (Option Value)} {oc__law_colours kV__law_colours dc__law_colours pm__law_colours cd__law_colours ct__law_colours : Value} {A__law_begun : Addr} {od__law_begun an__law_begun : Option Addr} {sl__law_begun : Array (Option Value)} {oc__law_begun kV__law_begun dc__law_begun pm__law_begun cd__law_begun ct__law_begun : Value} {A__law_step : Addr} {od__law_step an__law_step : Option Addr} {sl__law_step : Array (Option Value)} {oc__law_step kV__law_step dc__law_step pm__law_step cd__law_step ct__law_step : Value} {A__law_is_lie : Addr} {od__law_is_lie an__law_is_lie : Option Addr} {sl__law_is_lie : Array (Option Value)} {oc__law_is_lie kV__law_is_lie dc__law_is_lie pm__law_is_lie cd__law_is_lie ct__law_is_lie : Value} {A__law_told : Addr} {od__law_told an__law_told : Option Addr} {sl__law_told : Array (Option Value)} {oc__law_told kV__law_told dc__law_told pm__law_told cd__law_told ct__law_told : Value} {A__law_many : Addr} {od__law_many an__law_many : Option Addr} {sl__law_many : Array (Option Value)} {oc__law_many kV__law_many dc__law_many pm__law_many cd__law_many ct__law_many : Value} {A__law_is_standing : Addr} {od__law_is_standing an__law_is_standing : Option Addr} {sl__law_is_standing : Array (Option Value)} {oc__law_is_standing kV__law_is_standing dc__law_is_standing pm__law_is_standing cd__law_is_standing ct__law_is_standing : Value} {A__law_found : Addr} {od__law_found an__law_found : Option Addr} {sl__law_found : Array (Option Value)} {oc__law_found kV__law_found dc__law_found pm__law_found cd__law_found ct__law_found : Value} {A_law : Addr} {od_law an_law : Option Addr} {sl_law : Array (Option Value)} {oc_law kV_law dc_law pm_law ct_law : Value} {ca_law pt_law : Addr} {coc_law u0_law u1_law u2_law u3_law u4_law u5_law u6_law u7_law u8_law u9_law u10_law : Value} {cod_law : Option Addr} {ur_law : List Value} {csl_law : Array (Option Value)} {tk_MOST_SAID : Tok} {tk_ALL : Tok} {tk_MOST_STATES : Tok} {tk_MOST_COLOURS : Tok} {tk_MOST_FOLK : Tok} {tk_MOST_VISITS : Tok} (X : K.In h) (G : h.Ns mainGlobals mg) (hfa : mg "law" = some (.ref fa))
    (n_LampError : PySem.W.nsIn K mainGlobals "LampError" = some (some (.ref C_LampError)))
    (x_LampError : K.lookup C_LampError = some (excClassObj nm_LampError q_LampError C_LampError N_LampError bs_LampError veRest true sn_LampError sub_LampError ab_LampError col_LampError dd_LampError k0_LampError k1_LampError k2_LampError k3_LampError k5_LampError "ValueError.__new__"))
    (fi_LampError : PySem.W.findIn K (.ref C_LampError) "__init__" = some (some (.builtin "ValueError.__init__")))
    (sup_top : (P.main.scope.names.lookup ("super" : Str)).isSome = false)
    (sup_mg : PySem.W.nsIn K mainGlobals "super" = some none)
    (sup_opq : PySem.W.nsIn K cStatics "thirdparty.any" = some none)
    (n_BadProgram : PySem.W.nsIn K mainGlobals "BadProgram" = some (some (.ref C_BadProgram)))
    (x_BadProgram : K.lookup C_BadProgram = some (excClassObj nm_BadProgram q_BadProgram C_BadProgram N_BadProgram bs_BadProgram (lamTail C_LampError) true sn_BadProgram sub_BadProgram ab_BadProgram col_BadProgram dd_BadProgram k0_BadProgram k1_BadProgram k2_BadProgram k3_BadProgram k5_BadProgram "ValueError.__new__"))
    (sa_BadProgram : PySem.W.findIn K (.ref C_BadProgram) "__setattr__" = some (some (.builtin "object.__setattr__")))
    (eb_BadProgram : PySem.W.subIn K (.ref C_BadProgram) (.type "BaseException") = some true)
    (ty_BadProgram : PySem.W.typeIn K (.ref C_BadProgram) = some (.type "type"))
    (kc_BadProgram : PySem.W.keepIn K (.ref C_BadProgram) = true)
    (ni_BadProgram : PySem.W.findIn K (.ref C_BadProgram) "__init__" = some (some (.ref A_BadProgram)))
    (ti_BadProgram : PySem.W.typeIn K (.ref A_BadProgram) = some (.type "function"))
    (li_BadProgram : K.lookup A_BadProgram = some ⟨oc_BadProgram, od_BadProgram, .func (PySem.W.ksFn "__init__" "BadProgram.__init__" (defArgs (inClass (topS 2) 0)) (defBody (inClass (topS 2) 0)) (defScope (inClass (topS 2) 0)) .none kV_BadProgram dc_BadProgram pm_BadProgram an_BadProgram (.ref ca_BadProgram) ct_BadProgram cc_BadProgram), sl_BadProgram⟩)
    (ci_BadProgram : PySem.W.codeIn K (.ref ca_BadProgram) "BadProgram.__init__" = true)
    (cl_BadProgram : K.lookup cc_BadProgram = some ⟨x0_BadProgram, x1_BadProgram, .cell (some (.ref C_BadProgram)), x2_BadProgram⟩)
    (co_BadProgram : K.lookup ca_BadProgram = some ⟨coc_BadProgram, cod_BadProgram, .fields ⟨v0_BadProgram :: v1_BadProgram :: .str fi_BadProgram tf_BadProgram :: vr_BadProgram⟩, csl_BadProgram⟩)
    (fi_BadProgram : ((P.main.file : Str) == fi_BadProgram) = true)
    (sc_BadProgram : PySem.W.mroIn K C_BadProgram (.ref C_BadProgram) = some true)
    (sv_BadProgram : PySem.W.subIn K (.ref C_BadProgram) (.type "ValueError") = some true)
    (xn_BadProgram_what : PySem.W.findIn K (.ref C_BadProgram) "what" = some none)
    (n_BadNumber : PySem.W.nsIn K mainGlobals "BadNumber" = some (some (.ref C_BadNumber)))
    (x_BadNumber : K.lookup C_BadNumber = some (excClassObj nm_BadNumber q_BadNumber C_BadNumber N_BadNumber bs_BadNumber (lamTail C_LampError) true sn_BadNumber sub_BadNumber ab_BadNumber col_BadNumber dd_BadNumber k0_BadNumber k1_BadNumber k2_BadNumber k3_BadNumber k5_BadNumber "ValueError.__new__"))
    (sa_BadNumber : PySem.W.findIn K (.ref C_BadNumber) "__setattr__" = some (some (.builtin "object.__setattr__")))
    (eb_BadNumber : PySem.W.subIn K (.ref C_BadNumber) (.type "BaseException") = some true)
    (ty_BadNumber : PySem.W.typeIn K (.ref C_BadNumber) = some (.type "type"))
    (kc_BadNumber : PySem.W.keepIn K (.ref C_BadNumber) = true)
    (ni_BadNumber : PySem.W.findIn K (.ref C_BadNumber) "__init__" = some (some (.ref A_BadNumber)))
    (ti_BadNumber : PySem.W.typeIn K (.ref A_BadNumber) = some (.type "function"))
    (li_BadNumber : K.lookup A_BadNumber = some ⟨oc_BadNumber, od_BadNumber, .func (PySem.W.ksFn "__init__" "BadNumber.__init__" (defArgs (inClass (topS 3) 0)) (defBody (inClass (topS 3) 0)) (defScope (inClass (topS 3) 0)) .none kV_BadNumber dc_BadNumber pm_BadNumber an_BadNumber (.ref ca_BadNumber) ct_BadNumber cc_BadNumber), sl_BadNumber⟩)
    (ci_BadNumber : PySem.W.codeIn K (.ref ca_BadNumber) "BadNumber.__init__" = true)
    (cl_BadNumber : K.lookup cc_BadNumber = some ⟨x0_BadNumber, x1_BadNumber, .cell (some (.ref C_BadNumber)), x2_BadNumber⟩)
    (co_BadNumber : K.lookup ca_BadNumber = some ⟨coc_BadNumber, cod_BadNumber, .fields ⟨v0_BadNumber :: v1_BadNumber :: .str fi_BadNumber tf_BadNumber :: vr_BadNumber⟩, csl_BadNumber⟩)
    (fi_BadNumber : ((P.main.file : Str) == fi_BadNumber) = true)
    (sc_BadNumber : PySem.W.mroIn K C_BadNumber (.ref C_BadNumber) = some true)
    (sv_BadNumber : PySem.W.subIn K (.ref C_BadNumber) (.type "ValueError") = some true)
    (xn_BadNumber_value : PySem.W.findIn K (.ref C_BadNumber) "value" = some none)
    (n_NoColour : PySem.W.nsIn K mainGlobals "NoColour" = some (some (.ref C_NoColour)))
    (x_NoColour : K.lookup C_NoColour = some (excClassObj nm_NoColour q_NoColour C_NoColour N_NoColour bs_NoColour (lamTail C_LampError) true sn_NoColour sub_NoColour ab_NoColour col_NoColour dd_NoColour k0_NoColour k1_NoColour k2_NoColour k3_NoColour k5_NoColour "ValueError.__new__"))
    (sa_NoColour : PySem.W.findIn K (.ref C_NoColour) "__setattr__" = some (some (.builtin "object.__setattr__")))
    (eb_NoColour : PySem.W.subIn K (.ref C_NoColour) (.type "BaseException") = some true)
    (ty_NoColour : PySem.W.typeIn K (.ref C_NoColour) = some (.type "type"))
    (kc_NoColour : PySem.W.keepIn K (.ref C_NoColour) = true)
    (ni_NoColour : PySem.W.findIn K (.ref C_NoColour) "__init__" = some (some (.ref A_NoColour)))
    (ti_NoColour : PySem.W.typeIn K (.ref A_NoColour) = some (.type "function"))
    (li_NoColour : K.lookup A_NoColour = some ⟨oc_NoColour, od_NoColour, .func (PySem.W.ksFn "__init__" "NoColour.__init__" (defArgs (inClass (topS 4) 0)) (defBody (inClass (topS 4) 0)) (defScope (inClass (topS 4) 0)) .none kV_NoColour dc_NoColour pm_NoColour an_NoColour (.ref ca_NoColour) ct_NoColour cc_NoColour), sl_NoColour⟩)
    (ci_NoColour : PySem.W.codeIn K (.ref ca_NoColour) "NoColour.__init__" = true)
    (cl_NoColour : K.lookup cc_NoColour = some ⟨x0_NoColour, x1_NoColour, .cell (some (.ref C_NoColour)), x2_NoColour⟩)
    (co_NoColour : K.lookup ca_NoColour = some ⟨coc_NoColour, cod_NoColour, .fields ⟨v0_NoColour :: v1_NoColour :: .str fi_NoColour tf_NoColour :: vr_NoColour⟩, csl_NoColour⟩)
    (fi_NoColour : ((P.main.file : Str) == fi_NoColour) = true)
    (sc_NoColour : PySem.W.mroIn K C_NoColour (.ref C_NoColour) = some true)
    (sv_NoColour : PySem.W.subIn K (.ref C_NoColour) (.type "ValueError") = some true)
    (n_NoStanding : PySem.W.nsIn K mainGlobals "NoStanding" = some (some (.ref C_NoStanding)))
    (x_NoStanding : K.lookup C_NoStanding = some (excClassObj nm_NoStanding q_NoStanding C_NoStanding N_NoStanding bs_NoStanding (lamTail C_LampError) true sn_NoStanding sub_NoStanding ab_NoStanding col_NoStanding dd_NoStanding k0_NoStanding k1_NoStanding k2_NoStanding k3_NoStanding k5_NoStanding "ValueError.__new__"))
    (sa_NoStanding : PySem.W.findIn K (.ref C_NoStanding) "__setattr__" = some (some (.builtin "object.__setattr__")))
    (eb_NoStanding : PySem.W.subIn K (.ref C_NoStanding) (.type "BaseException") = some true)
    (ty_NoStanding : PySem.W.typeIn K (.ref C_NoStanding) = some (.type "type"))
    (kc_NoStanding : PySem.W.keepIn K (.ref C_NoStanding) = true)
    (ni_NoStanding : PySem.W.findIn K (.ref C_NoStanding) "__init__" = some (some (.ref A_NoStanding)))
    (ti_NoStanding : PySem.W.typeIn K (.ref A_NoStanding) = some (.type "function"))
    (li_NoStanding : K.lookup A_NoStanding = some ⟨oc_NoStanding, od_NoStanding, .func (PySem.W.ksFn "__init__" "NoStanding.__init__" (defArgs (inClass (topS 5) 0)) (defBody (inClass (topS 5) 0)) (defScope (inClass (topS 5) 0)) .none kV_NoStanding dc_NoStanding pm_NoStanding an_NoStanding (.ref ca_NoStanding) ct_NoStanding cc_NoStanding), sl_NoStanding⟩)
    (ci_NoStanding : PySem.W.codeIn K (.ref ca_NoStanding) "NoStanding.__init__" = true)
    (cl_NoStanding : K.lookup cc_NoStanding = some ⟨x0_NoStanding, x1_NoStanding, .cell (some (.ref C_NoStanding)), x2_NoStanding⟩)
    (co_NoStanding : K.lookup ca_NoStanding = some ⟨coc_NoStanding, cod_NoStanding, .fields ⟨v0_NoStanding :: v1_NoStanding :: .str fi_NoStanding tf_NoStanding :: vr_NoStanding⟩, csl_NoStanding⟩)
    (fi_NoStanding : ((P.main.file : Str) == fi_NoStanding) = true)
    (sc_NoStanding : PySem.W.mroIn K C_NoStanding (.ref C_NoStanding) = some true)
    (sv_NoStanding : PySem.W.subIn K (.ref C_NoStanding) (.type "ValueError") = some true)
    (n_NoVisit : PySem.W.nsIn K mainGlobals "NoVisit" = some (some (.ref C_NoVisit)))
    (x_NoVisit : K.lookup C_NoVisit = some (excClassObj nm_NoVisit q_NoVisit C_NoVisit N_NoVisit bs_NoVisit (lamTail C_LampError) true sn_NoVisit sub_NoVisit ab_NoVisit col_NoVisit dd_NoVisit k0_NoVisit k1_NoVisit k2_NoVisit k3_NoVisit k5_NoVisit "ValueError.__new__"))
    (sa_NoVisit : PySem.W.findIn K (.ref C_NoVisit) "__setattr__" = some (some (.builtin "object.__setattr__")))
    (eb_NoVisit : PySem.W.subIn K (.ref C_NoVisit) (.type "BaseException") = some true)
    (ty_NoVisit : PySem.W.typeIn K (.ref C_NoVisit) = some (.type "type"))
    (kc_NoVisit : PySem.W.keepIn K (.ref C_NoVisit) = true)
    (ni_NoVisit : PySem.W.findIn K (.ref C_NoVisit) "__init__" = some (some (.ref A_NoVisit)))
    (ti_NoVisit : PySem.W.typeIn K (.ref A_NoVisit) = some (.type "function"))
    (li_NoVisit : K.lookup A_NoVisit = some ⟨oc_NoVisit, od_NoVisit, .func (PySem.W.ksFn "__init__" "NoVisit.__init__" (defArgs (inClass (topS 6) 0)) (defBody (inClass (topS 6) 0)) (defScope (inClass (topS 6) 0)) .none kV_NoVisit dc_NoVisit pm_NoVisit an_NoVisit (.ref ca_NoVisit) ct_NoVisit cc_NoVisit), sl_NoVisit⟩)
    (ci_NoVisit : PySem.W.codeIn K (.ref ca_NoVisit) "NoVisit.__init__" = true)
    (cl_NoVisit : K.lookup cc_NoVisit = some ⟨x0_NoVisit, x1_NoVisit, .cell (some (.ref C_NoVisit)), x2_NoVisit⟩)
    (co_NoVisit : K.lookup ca_NoVisit = some ⟨coc_NoVisit, cod_NoVisit, .fields ⟨v0_NoVisit :: v1_NoVisit :: .str fi_NoVisit tf_NoVisit :: vr_NoVisit⟩, csl_NoVisit⟩)
    (fi_NoVisit : ((P.main.file : Str) == fi_NoVisit) = true)
    (sc_NoVisit : PySem.W.mroIn K C_NoVisit (.ref C_NoVisit) = some true)
    (sv_NoVisit : PySem.W.subIn K (.ref C_NoVisit) (.type "ValueError") = some true)
    (n_NoOrder : PySem.W.nsIn K mainGlobals "NoOrder" = some (some (.ref C_NoOrder)))
    (x_NoOrder : K.lookup C_NoOrder = some (excClassObj nm_NoOrder q_NoOrder C_NoOrder N_NoOrder bs_NoOrder (lamTail C_LampError) true sn_NoOrder sub_NoOrder ab_NoOrder col_NoOrder dd_NoOrder k0_NoOrder k1_NoOrder k2_NoOrder k3_NoOrder k5_NoOrder "ValueError.__new__"))
    (sa_NoOrder : PySem.W.findIn K (.ref C_NoOrder) "__setattr__" = some (some (.builtin "object.__setattr__")))
    (eb_NoOrder : PySem.W.subIn K (.ref C_NoOrder) (.type "BaseException") = some true)
    (ty_NoOrder : PySem.W.typeIn K (.ref C_NoOrder) = some (.type "type"))
    (kc_NoOrder : PySem.W.keepIn K (.ref C_NoOrder) = true)
    (ni_NoOrder : PySem.W.findIn K (.ref C_NoOrder) "__init__" = some (some (.ref A_NoOrder)))
    (ti_NoOrder : PySem.W.typeIn K (.ref A_NoOrder) = some (.type "function"))
    (li_NoOrder : K.lookup A_NoOrder = some ⟨oc_NoOrder, od_NoOrder, .func (PySem.W.ksFn "__init__" "NoOrder.__init__" (defArgs (inClass (topS 7) 0)) (defBody (inClass (topS 7) 0)) (defScope (inClass (topS 7) 0)) .none kV_NoOrder dc_NoOrder pm_NoOrder an_NoOrder (.ref ca_NoOrder) ct_NoOrder cc_NoOrder), sl_NoOrder⟩)
    (ci_NoOrder : PySem.W.codeIn K (.ref ca_NoOrder) "NoOrder.__init__" = true)
    (cl_NoOrder : K.lookup cc_NoOrder = some ⟨x0_NoOrder, x1_NoOrder, .cell (some (.ref C_NoOrder)), x2_NoOrder⟩)
    (co_NoOrder : K.lookup ca_NoOrder = some ⟨coc_NoOrder, cod_NoOrder, .fields ⟨v0_NoOrder :: v1_NoOrder :: .str fi_NoOrder tf_NoOrder :: vr_NoOrder⟩, csl_NoOrder⟩)
    (fi_NoOrder : ((P.main.file : Str) == fi_NoOrder) = true)
    (sc_NoOrder : PySem.W.mroIn K C_NoOrder (.ref C_NoOrder) = some true)
    (sv_NoOrder : PySem.W.subIn K (.ref C_NoOrder) (.type "ValueError") = some true)
    (xn_NoOrder_at : PySem.W.findIn K (.ref C_NoOrder) "at" = some none)
    (isc_BadNumber : PySem.W.isClsIn K C_BadNumber = true)
    (sub_BadProgram_BadNumber : PySem.W.subIn K (.ref C_BadProgram) (.ref C_BadNumber) = some false)
    (sub_BadNumber_BadNumber : PySem.W.subIn K (.ref C_BadNumber) (.ref C_BadNumber) = some true)
    (sub_NoColour_BadNumber : PySem.W.subIn K (.ref C_NoColour) (.ref C_BadNumber) = some false)
    (sub_NoStanding_BadNumber : PySem.W.subIn K (.ref C_NoStanding) (.ref C_BadNumber) = some false)
    (sub_NoVisit_BadNumber : PySem.W.subIn K (.ref C_NoVisit) (.ref C_BadNumber) = some false)
    (sub_NoOrder_BadNumber : PySem.W.subIn K (.ref C_NoOrder) (.ref C_BadNumber) = some false)
    (isc_NoColour : PySem.W.isClsIn K C_NoColour = true)
    (sub_BadProgram_NoColour : PySem.W.subIn K (.ref C_BadProgram) (.ref C_NoColour) = some false)
    (sub_BadNumber_NoColour : PySem.W.subIn K (.ref C_BadNumber) (.ref C_NoColour) = some false)
    (sub_NoColour_NoColour : PySem.W.subIn K (.ref C_NoColour) (.ref C_NoColour) = some true)
    (sub_NoStanding_NoColour : PySem.W.subIn K (.ref C_NoStanding) (.ref C_NoColour) = some false)
    (sub_NoVisit_NoColour : PySem.W.subIn K (.ref C_NoVisit) (.ref C_NoColour) = some false)
    (sub_NoOrder_NoColour : PySem.W.subIn K (.ref C_NoOrder) (.ref C_NoColour) = some false)
    (isc_NoOrder : PySem.W.isClsIn K C_NoOrder = true)
    (sub_BadProgram_NoOrder : PySem.W.subIn K (.ref C_BadProgram) (.ref C_NoOrder) = some false)
    (sub_BadNumber_NoOrder : PySem.W.subIn K (.ref C_BadNumber) (.ref C_NoOrder) = some false)
    (sub_NoColour_NoOrder : PySem.W.subIn K (.ref C_NoColour) (.ref C_NoOrder) = some false)
    (sub_NoStanding_NoOrder : PySem.W.subIn K (.ref C_NoStanding) (.ref C_NoOrder) = some false)
    (sub_NoVisit_NoOrder : PySem.W.subIn K (.ref C_NoVisit) (.ref C_NoOrder) = some false)
    (sub_NoOrder_NoOrder : PySem.W.subIn K (.ref C_NoOrder) (.ref C_NoOrder) = some true)
    (isc_NoStanding : PySem.W.isClsIn K C_NoStanding = true)
    (sub_BadProgram_NoStanding : PySem.W.subIn K (.ref C_BadProgram) (.ref C_NoStanding) = some false)
    (sub_BadNumber_NoStanding : PySem.W.subIn K (.ref C_BadNumber) (.ref C_NoStanding) = some false)
    (sub_NoColour_NoStanding : PySem.W.subIn K (.ref C_NoColour) (.ref C_NoStanding) = some false)
    (sub_NoStanding_NoStanding : PySem.W.subIn K (.ref C_NoStanding) (.ref C_NoStanding) = some true)
    (sub_NoVisit_NoStanding : PySem.W.subIn K (.ref C_NoVisit) (.ref C_NoStanding) = some false)
    (sub_NoOrder_NoStanding : PySem.W.subIn K (.ref C_NoOrder) (.ref C_NoStanding) = some false)
    (isc_NoVisit : PySem.W.isClsIn K C_NoVisit = true)
    (sub_BadProgram_NoVisit : PySem.W.subIn K (.ref C_BadProgram) (.ref C_NoVisit) = some false)
    (sub_BadNumber_NoVisit : PySem.W.subIn K (.ref C_BadNumber) (.ref C_NoVisit) = some false)
    (sub_NoColour_NoVisit : PySem.W.subIn K (.ref C_NoColour) (.ref C_NoVisit) = some false)
    (sub_NoStanding_NoVisit : PySem.W.subIn K (.ref C_NoStanding) (.ref C_NoVisit) = some false)
    (sub_NoVisit_NoVisit : PySem.W.subIn K (.ref C_NoVisit) (.ref C_NoVisit) = some true)
    (sub_NoOrder_NoVisit : PySem.W.subIn K (.ref C_NoOrder) (.ref C_NoVisit) = some false)
    (ga_BadNumber : PySem.W.findIn K (.ref C_BadNumber) "__getattribute__" = some (some (.builtin "BaseException.__getattribute__")))
    (gg_BadNumber : PySem.W.findIn K (.ref C_BadNumber) "__getattr__" = some none)
    (hd_BadNumber : PySem.W.hasDictIn K C_BadNumber = true)
    (ga_NoOrder : PySem.W.findIn K (.ref C_NoOrder) "__getattribute__" = some (some (.builtin "BaseException.__getattribute__")))
    (gg_NoOrder : PySem.W.findIn K (.ref C_NoOrder) "__getattr__" = some none)
    (hd_NoOrder : PySem.W.hasDictIn K C_NoOrder = true)
    (n_Program : PySem.W.nsIn K mainGlobals "Program" = some (some (.ref C_Program)))
    (pg_Program : PySem.W.plainGet K C_Program Str.empty = true)
    (hd_Program : PySem.W.hasDictIn K C_Program = true)
    (po_Program : PySem.W.plainOver K C_Program = true)
    (sa_Program : PySem.W.findIn K (.ref C_Program) "__setattr__" = some (some (.builtin "object.__setattr__")))
    (mk_Program : PySem.W.makesIn K C_Program = true)
    (kc_Program : PySem.W.keepIn K (.ref C_Program) = true)
    (na_first_Program : NoAttr K C_Program "first")
    (na_lamp_Program : NoAttr K C_Program "lamp")
    (na_leader_Program : NoAttr K C_Program "leader")
    (na_steps_Program : NoAttr K C_Program "steps")
    (n_is_number : PySem.W.nsIn K mainGlobals "is_number" = some (some (.ref A_is_number)))
    (l_is_number : K.lookup A_is_number = some ⟨oc_is_number, od_is_number, .func (PySem.W.fnOf "is_number" "is_number" (defArgs (topS 11)) (defBody (topS 11)) (defScope (topS 11)) .none kV_is_number dc_is_number pm_is_number an_is_number cd_is_number ct_is_number), sl_is_number⟩)
    (c_is_number : PySem.W.codeIn K cd_is_number "is_number" = true)
    (k_is_number : PySem.W.keepIn K (.ref A_is_number) = true)
    (n_is_within : PySem.W.nsIn K mainGlobals "is_within" = some (some (.ref A_is_within)))
    (l_is_within : K.lookup A_is_within = some ⟨oc_is_within, od_is_within, .func (PySem.W.fnOf "is_within" "is_within" (defArgs (topS 12)) (defBody (topS 12)) (defScope (topS 12)) .none kV_is_within dc_is_within pm_is_within an_is_within cd_is_within ct_is_within), sl_is_within⟩)
    (c_is_within : PySem.W.codeIn K cd_is_within "is_within" = true)
    (k_is_within : PySem.W.keepIn K (.ref A_is_within) = true)
    (n_is_listed : PySem.W.nsIn K mainGlobals "is_listed" = some (some (.ref A_is_listed)))
    (l_is_listed : K.lookup A_is_listed = some ⟨oc_is_listed, od_is_listed, .func (PySem.W.fnOf "is_listed" "is_listed" (defArgs (topS 13)) (defBody (topS 13)) (defScope (topS 13)) .none kV_is_listed dc_is_listed pm_is_listed an_is_listed cd_is_listed ct_is_listed), sl_is_listed⟩)
    (c_is_listed : PySem.W.codeIn K cd_is_listed "is_listed" = true)
    (k_is_listed : PySem.W.keepIn K (.ref A_is_listed) = true)
    (n_is_word : PySem.W.nsIn K mainGlobals "is_word" = some (some (.ref A_is_word)))
    (l_is_word : K.lookup A_is_word = some ⟨oc_is_word, od_is_word, .func (PySem.W.fnOf "is_word" "is_word" (defArgs (topS 14)) (defBody (topS 14)) (defScope (topS 14)) .none kV_is_word dc_is_word pm_is_word an_is_word cd_is_word ct_is_word), sl_is_word⟩)
    (c_is_word : PySem.W.codeIn K cd_is_word "is_word" = true)
    (k_is_word : PySem.W.keepIn K (.ref A_is_word) = true)
    (n_replaced : PySem.W.nsIn K mainGlobals "replaced" = some (some (.ref A_replaced)))
    (l_replaced : K.lookup A_replaced = some ⟨oc_replaced, od_replaced, .func (PySem.W.fnOf "replaced" "replaced" (defArgs (topS 15)) (defBody (topS 15)) (defScope (topS 15)) .none kV_replaced dc_replaced pm_replaced an_replaced cd_replaced ct_replaced), sl_replaced⟩)
    (c_replaced : PySem.W.codeIn K cd_replaced "replaced" = true)
    (k_replaced : PySem.W.keepIn K (.ref A_replaced) = true)
    (n_is_step : PySem.W.nsIn K mainGlobals "is_step" = some (some (.ref A_is_step)))
    (l_is_step : K.lookup A_is_step = some ⟨oc_is_step, od_is_step, .func (PySem.W.fnOf "is_step" "is_step" (defArgs (topS 19)) (defBody (topS 19)) (defScope (topS 19)) .none kV_is_step dc_is_step pm_is_step an_is_step cd_is_step ct_is_step), sl_is_step⟩)
    (c_is_step : PySem.W.codeIn K cd_is_step "is_step" = true)
    (k_is_step : PySem.W.keepIn K (.ref A_is_step) = true)
    (n_are_steps : PySem.W.nsIn K mainGlobals "are_steps" = some (some (.ref A_are_steps)))
    (l_are_steps : K.lookup A_are_steps = some ⟨oc_are_steps, od_are_steps, .func (PySem.W.fnOf "are_steps" "are_steps" (defArgs (topS 20)) (defBody (topS 20)) (defScope (topS 20)) .none kV_are_steps dc_are_steps pm_are_steps an_are_steps cd_are_steps ct_are_steps), sl_are_steps⟩)
    (c_are_steps : PySem.W.codeIn K cd_are_steps "are_steps" = true)
    (k_are_steps : PySem.W.keepIn K (.ref A_are_steps) = true)
    (n_all_colours : PySem.W.nsIn K mainGlobals "all_colours" = some (some (.ref A_all_colours)))
    (l_all_colours : K.lookup A_all_colours = some ⟨oc_all_colours, od_all_colours, .func (PySem.W.fnOf "all_colours" "all_colours" (defArgs (topS 22)) (defBody (topS 22)) (defScope (topS 22)) .none kV_all_colours dc_all_colours pm_all_colours an_all_colours cd_all_colours ct_all_colours), sl_all_colours⟩)
    (c_all_colours : PySem.W.codeIn K cd_all_colours "all_colours" = true)
    (k_all_colours : PySem.W.keepIn K (.ref A_all_colours) = true)
    (n_first_colours : PySem.W.nsIn K mainGlobals "first_colours" = some (some (.ref A_first_colours)))
    (l_first_colours : K.lookup A_first_colours = some ⟨oc_first_colours, od_first_colours, .func (PySem.W.fnOf "first_colours" "first_colours" (defArgs (topS 23)) (defBody (topS 23)) (defScope (topS 23)) .none kV_first_colours dc_first_colours pm_first_colours an_first_colours cd_first_colours ct_first_colours), sl_first_colours⟩)
    (c_first_colours : PySem.W.codeIn K cd_first_colours "first_colours" = true)
    (k_first_colours : PySem.W.keepIn K (.ref A_first_colours) = true)
    (n_check_many : PySem.W.nsIn K mainGlobals "check_many" = some (some (.ref A_check_many)))
    (l_check_many : K.lookup A_check_many = some ⟨oc_check_many, od_check_many, .func (PySem.W.fnOf "check_many" "check_many" (defArgs (topS 27)) (defBody (topS 27)) (defScope (topS 27)) .none kV_check_many dc_check_many pm_check_many an_check_many cd_check_many ct_check_many), sl_check_many⟩)
    (c_check_many : PySem.W.codeIn K cd_check_many "check_many" = true)
    (k_check_many : PySem.W.keepIn K (.ref A_check_many) = true)
    (n_is_first_colour : PySem.W.nsIn K mainGlobals "is_first_colour" = some (some (.ref A_is_first_colour)))
    (l_is_first_colour : K.lookup A_is_first_colour = some ⟨oc_is_first_colour, od_is_first_colour, .func (PySem.W.fnOf "is_first_colour" "is_first_colour" (defArgs (topS 28)) (defBody (topS 28)) (defScope (topS 28)) .none kV_is_first_colour dc_is_first_colour pm_is_first_colour an_is_first_colour cd_is_first_colour ct_is_first_colour), sl_is_first_colour⟩)
    (c_is_first_colour : PySem.W.codeIn K cd_is_first_colour "is_first_colour" = true)
    (k_is_first_colour : PySem.W.keepIn K (.ref A_is_first_colour) = true)
    (n_check_start : PySem.W.nsIn K mainGlobals "check_start" = some (some (.ref A_check_start)))
    (l_check_start : K.lookup A_check_start = some ⟨oc_check_start, od_check_start, .func (PySem.W.fnOf "check_start" "check_start" (defArgs (topS 29)) (defBody (topS 29)) (defScope (topS 29)) .none kV_check_start dc_check_start pm_check_start an_check_start cd_check_start ct_check_start), sl_check_start⟩)
    (c_check_start : PySem.W.codeIn K cd_check_start "check_start" = true)
    (k_check_start : PySem.W.keepIn K (.ref A_check_start) = true)
    (n_begun : PySem.W.nsIn K mainGlobals "begun" = some (some (.ref A_begun)))
    (l_begun : K.lookup A_begun = some ⟨oc_begun, od_begun, .func (PySem.W.fnOf "begun" "begun" (defArgs (topS 30)) (defBody (topS 30)) (defScope (topS 30)) .none kV_begun dc_begun pm_begun an_begun cd_begun ct_begun), sl_begun⟩)
    (c_begun : PySem.W.codeIn K cd_begun "begun" = true)
    (k_begun : PySem.W.keepIn K (.ref A_begun) = true)
    (n_beginning : PySem.W.nsIn K mainGlobals "beginning" = some (some (.ref A_beginning)))
    (l_beginning : K.lookup A_beginning = some ⟨oc_beginning, od_beginning, .func (PySem.W.fnOf "beginning" "beginning" (defArgs (topS 31)) (defBody (topS 31)) (defScope (topS 31)) .none kV_beginning dc_beginning pm_beginning an_beginning cd_beginning ct_beginning), sl_beginning⟩)
    (c_beginning : PySem.W.codeIn K cd_beginning "beginning" = true)
    (k_beginning : PySem.W.keepIn K (.ref A_beginning) = true)
    (n_is_standing : PySem.W.nsIn K mainGlobals "is_standing" = some (some (.ref A_is_standing)))
    (l_is_standing : K.lookup A_is_standing = some ⟨oc_is_standing, od_is_standing, .func (PySem.W.fnOf "is_standing" "is_standing" (defArgs (topS 32)) (defBody (topS 32)) (defScope (topS 32)) .none kV_is_standing dc_is_standing pm_is_standing an_is_standing cd_is_standing ct_is_standing), sl_is_standing⟩)
    (c_is_standing : PySem.W.codeIn K cd_is_standing "is_standing" = true)
    (k_is_standing : PySem.W.keepIn K (.ref A_is_standing) = true)
    (n_check_visit : PySem.W.nsIn K mainGlobals "check_visit" = some (some (.ref A_check_visit)))
    (l_check_visit : K.lookup A_check_visit = some ⟨oc_check_visit, od_check_visit, .func (PySem.W.fnOf "check_visit" "check_visit" (defArgs (topS 33)) (defBody (topS 33)) (defScope (topS 33)) .none kV_check_visit dc_check_visit pm_check_visit an_check_visit cd_check_visit ct_check_visit), sl_check_visit⟩)
    (c_check_visit : PySem.W.codeIn K cd_check_visit "check_visit" = true)
    (k_check_visit : PySem.W.keepIn K (.ref A_check_visit) = true)
    (n_step_of : PySem.W.nsIn K mainGlobals "step_of" = some (some (.ref A_step_of)))
    (l_step_of : K.lookup A_step_of = some ⟨oc_step_of, od_step_of, .func (PySem.W.fnOf "step_of" "step_of" (defArgs (topS 34)) (defBody (topS 34)) (defScope (topS 34)) .none kV_step_of dc_step_of pm_step_of an_step_of cd_step_of ct_step_of), sl_step_of⟩)
    (c_step_of : PySem.W.codeIn K cd_step_of "step_of" = true)
    (k_step_of : PySem.W.keepIn K (.ref A_step_of) = true)
    (n_behind : PySem.W.nsIn K mainGlobals "behind" = some (some (.ref A_behind)))
    (l_behind : K.lookup A_behind = some ⟨oc_behind, od_behind, .func (PySem.W.fnOf "behind" "behind" (defArgs (topS 35)) (defBody (topS 35)) (defScope (topS 35)) .none kV_behind dc_behind pm_behind an_behind cd_behind ct_behind), sl_behind⟩)
    (c_behind : PySem.W.codeIn K cd_behind "behind" = true)
    (k_behind : PySem.W.keepIn K (.ref A_behind) = true)
    (n_visited : PySem.W.nsIn K mainGlobals "visited" = some (some (.ref A_visited)))
    (l_visited : K.lookup A_visited = some ⟨oc_visited, od_visited, .func (PySem.W.fnOf "visited" "visited" (defArgs (topS 36)) (defBody (topS 36)) (defScope (topS 36)) .none kV_visited dc_visited pm_visited an_visited cd_visited ct_visited), sl_visited⟩)
    (c_visited : PySem.W.codeIn K cd_visited "visited" = true)
    (k_visited : PySem.W.keepIn K (.ref A_visited) = true)
    (n_saying : PySem.W.nsIn K mainGlobals "saying" = some (some (.ref A_saying)))
    (l_saying : K.lookup A_saying = some ⟨oc_saying, od_saying, .func (PySem.W.fnOf "saying" "saying" (defArgs (topS 37)) (defBody (topS 37)) (defScope (topS 37)) .none kV_saying dc_saying pm_saying an_saying cd_saying ct_saying), sl_saying⟩)
    (c_saying : PySem.W.codeIn K cd_saying "saying" = true)
    (k_saying : PySem.W.keepIn K (.ref A_saying) = true)
    (n_is_lie : PySem.W.nsIn K mainGlobals "is_lie" = some (some (.ref A_is_lie)))
    (l_is_lie : K.lookup A_is_lie = some ⟨oc_is_lie, od_is_lie, .func (PySem.W.fnOf "is_lie" "is_lie" (defArgs (topS 38)) (defBody (topS 38)) (defScope (topS 38)) .none kV_is_lie dc_is_lie pm_is_lie an_is_lie cd_is_lie ct_is_lie), sl_is_lie⟩)
    (c_is_lie : PySem.W.codeIn K cd_is_lie "is_lie" = true)
    (k_is_lie : PySem.W.keepIn K (.ref A_is_lie) = true)
    (n_check_order : PySem.W.nsIn K mainGlobals "check_order" = some (some (.ref A_check_order)))
    (l_check_order : K.lookup A_check_order = some ⟨oc_check_order, od_check_order, .func (PySem.W.fnOf "check_order" "check_order" (defArgs (topS 39)) (defBody (topS 39)) (defScope (topS 39)) .none kV_check_order dc_check_order pm_check_order an_check_order cd_check_order ct_check_order), sl_check_order⟩)
    (c_check_order : PySem.W.codeIn K cd_check_order "check_order" = true)
    (k_check_order : PySem.W.keepIn K (.ref A_check_order) = true)
    (n_told_along : PySem.W.nsIn K mainGlobals "told_along" = some (some (.ref A_told_along)))
    (l_told_along : K.lookup A_told_along = some ⟨oc_told_along, od_told_along, .func (PySem.W.fnOf "told_along" "told_along" (defArgs (topS 40)) (defBody (topS 40)) (defScope (topS 40)) .none kV_told_along dc_told_along pm_told_along an_told_along cd_told_along ct_told_along), sl_told_along⟩)
    (c_told_along : PySem.W.codeIn K cd_told_along "told_along" = true)
    (k_told_along : PySem.W.keepIn K (.ref A_told_along) = true)
    (n_started : PySem.W.nsIn K mainGlobals "started" = some (some (.ref A_started)))
    (l_started : K.lookup A_started = some ⟨oc_started, od_started, .func (PySem.W.fnOf "started" "started" (defArgs (topS 41)) (defBody (topS 41)) (defScope (topS 41)) .none kV_started dc_started pm_started an_started cd_started ct_started), sl_started⟩)
    (c_started : PySem.W.codeIn K cd_started "started" = true)
    (k_started : PySem.W.keepIn K (.ref A_started) = true)
    (n_said : PySem.W.nsIn K mainGlobals "said" = some (some (.ref A_said)))
    (l_said : K.lookup A_said = some ⟨oc_said, od_said, .func (PySem.W.fnOf "said" "said" (defArgs (topS 42)) (defBody (topS 42)) (defScope (topS 42)) .none kV_said dc_said pm_said an_said cd_said ct_said), sl_said⟩)
    (c_said : PySem.W.codeIn K cd_said "said" = true)
    (k_said : PySem.W.keepIn K (.ref A_said) = true)
    (n_lies : PySem.W.nsIn K mainGlobals "lies" = some (some (.ref A_lies)))
    (l_lies : K.lookup A_lies = some ⟨oc_lies, od_lies, .func (PySem.W.fnOf "lies" "lies" (defArgs (topS 43)) (defBody (topS 43)) (defScope (topS 43)) .none kV_lies dc_lies pm_lies an_lies cd_lies ct_lies), sl_lies⟩)
    (c_lies : PySem.W.codeIn K cd_lies "lies" = true)
    (k_lies : PySem.W.keepIn K (.ref A_lies) = true)
    (n__law_pot : PySem.W.nsIn K mainGlobals "_law_pot" = some (some (.ref A__law_pot)))
    (l__law_pot : K.lookup A__law_pot = some ⟨oc__law_pot, od__law_pot, .func (PySem.W.fnOf "_law_pot" "_law_pot" (defArgs (topS 45)) (defBody (topS 45)) (defScope (topS 45)) .none kV__law_pot dc__law_pot pm__law_pot an__law_pot cd__law_pot ct__law_pot), sl__law_pot⟩)
    (c__law_pot : PySem.W.codeIn K cd__law_pot "_law_pot" = true)
    (k__law_pot : PySem.W.keepIn K (.ref A__law_pot) = true)
    (n__law_draw : PySem.W.nsIn K mainGlobals "_law_draw" = some (some (.ref A__law_draw)))
    (l__law_draw : K.lookup A__law_draw = some ⟨oc__law_draw, od__law_draw, .func (PySem.W.fnOf "_law_draw" "_law_draw" (defArgs (topS 46)) (defBody (topS 46)) (defScope (topS 46)) .none kV__law_draw dc__law_draw pm__law_draw an__law_draw cd__law_draw ct__law_draw), sl__law_draw⟩)
    (c__law_draw : PySem.W.codeIn K cd__law_draw "_law_draw" = true)
    (k__law_draw : PySem.W.keepIn K (.ref A__law_draw) = true)
    (n__law_pick : PySem.W.nsIn K mainGlobals "_law_pick" = some (some (.ref A__law_pick)))
    (l__law_pick : K.lookup A__law_pick = some ⟨oc__law_pick, od__law_pick, .func (PySem.W.fnOf "_law_pick" "_law_pick" (defArgs (topS 47)) (defBody (topS 47)) (defScope (topS 47)) .none kV__law_pick dc__law_pick pm__law_pick an__law_pick cd__law_pick ct__law_pick), sl__law_pick⟩)
    (c__law_pick : PySem.W.codeIn K cd__law_pick "_law_pick" = true)
    (k__law_pick : PySem.W.keepIn K (.ref A__law_pick) = true)
    (n__law_same : PySem.W.nsIn K mainGlobals "_law_same" = some (some (.ref A__law_same)))
    (l__law_same : K.lookup A__law_same = some ⟨oc__law_same, od__law_same, .func (PySem.W.fnOf "_law_same" "_law_same" (defArgs (topS 48)) (defBody (topS 48)) (defScope (topS 48)) .none kV__law_same dc__law_same pm__law_same an__law_same cd__law_same ct__law_same), sl__law_same⟩)
    (c__law_same : PySem.W.codeIn K cd__law_same "_law_same" = true)
    (k__law_same : PySem.W.keepIn K (.ref A__law_same) = true)
    (n__law_odd : PySem.W.nsIn K mainGlobals "_law_odd" = some (some (.ref A__law_odd)))
    (l__law_odd : K.lookup A__law_odd = some ⟨oc__law_odd, od__law_odd, .func (PySem.W.fnOf "_law_odd" "_law_odd" (defArgs (topS 49)) (defBody (topS 49)) (defScope (topS 49)) .none kV__law_odd dc__law_odd pm__law_odd an__law_odd cd__law_odd ct__law_odd), sl__law_odd⟩)
    (c__law_odd : PySem.W.codeIn K cd__law_odd "_law_odd" = true)
    (k__law_odd : PySem.W.keepIn K (.ref A__law_odd) = true)
    (n__law_bent : PySem.W.nsIn K mainGlobals "_law_bent" = some (some (.ref A__law_bent)))
    (l__law_bent : K.lookup A__law_bent = some ⟨oc__law_bent, od__law_bent, .func (PySem.W.fnOf "_law_bent" "_law_bent" (defArgs (topS 50)) (defBody (topS 50)) (defScope (topS 50)) .none kV__law_bent dc__law_bent pm__law_bent an__law_bent cd__law_bent ct__law_bent), sl__law_bent⟩)
    (c__law_bent : PySem.W.codeIn K cd__law_bent "_law_bent" = true)
    (k__law_bent : PySem.W.keepIn K (.ref A__law_bent) = true)
    (n__law_within : PySem.W.nsIn K mainGlobals "_law_within" = some (some (.ref A__law_within)))
    (l__law_within : K.lookup A__law_within = some ⟨oc__law_within, od__law_within, .func (PySem.W.fnOf "_law_within" "_law_within" (defArgs (topS 51)) (defBody (topS 51)) (defScope (topS 51)) .none kV__law_within dc__law_within pm__law_within an__law_within cd__law_within ct__law_within), sl__law_within⟩)
    (c__law_within : PySem.W.codeIn K cd__law_within "_law_within" = true)
    (k__law_within : PySem.W.keepIn K (.ref A__law_within) = true)
    (n__law_saying : PySem.W.nsIn K mainGlobals "_law_saying" = some (some (.ref A__law_saying)))
    (l__law_saying : K.lookup A__law_saying = some ⟨oc__law_saying, od__law_saying, .func (PySem.W.fnOf "_law_saying" "_law_saying" (defArgs (topS 52)) (defBody (topS 52)) (defScope (topS 52)) .none kV__law_saying dc__law_saying pm__law_saying an__law_saying cd__law_saying ct__law_saying), sl__law_saying⟩)
    (c__law_saying : PySem.W.codeIn K cd__law_saying "_law_saying" = true)
    (k__law_saying : PySem.W.keepIn K (.ref A__law_saying) = true)
    (n__law_spec : PySem.W.nsIn K mainGlobals "_law_spec" = some (some (.ref A__law_spec)))
    (l__law_spec : K.lookup A__law_spec = some ⟨oc__law_spec, od__law_spec, .func (PySem.W.fnOf "_law_spec" "_law_spec" (defArgs (topS 53)) (defBody (topS 53)) (defScope (topS 53)) .none kV__law_spec dc__law_spec pm__law_spec an__law_spec cd__law_spec ct__law_spec), sl__law_spec⟩)
    (c__law_spec : PySem.W.codeIn K cd__law_spec "_law_spec" = true)
    (k__law_spec : PySem.W.keepIn K (.ref A__law_spec) = true)
    (n_Program_init : PySem.W.findIn K (.ref C_Program) "__init__" = some (some (.ref A_Program_init)))
    (i_Program_init : PySem.W.isFn K (.ref A_Program_init) = true)
    (l_Program_init : K.lookup A_Program_init = some ⟨oc_Program_init, od_Program_init, .func (PySem.W.fnOf "__init__" "Program.__init__" (defArgs (inClass (topS 21) 0)) (defBody (inClass (topS 21) 0)) (defScope (inClass (topS 21) 0)) .none kV_Program_init dc_Program_init pm_Program_init an_Program_init cd_Program_init ct_Program_init), sl_Program_init⟩)
    (c_Program_init : PySem.W.codeIn K cd_Program_init "Program.__init__" = true)
    (k_Program_init : PySem.W.keepIn K (.ref A_Program_init) = true)
    (n__law_made : PySem.W.nsIn K mainGlobals "_law_made" = some (some (.ref A__law_made)))
    (l__law_made : K.lookup A__law_made = some ⟨oc__law_made, od__law_made, .func (PySem.W.fnOf "_law_made" "_law_made" (defArgs (topS 54)) (defBody (topS 54)) (defScope (topS 54)) .none kV__law_made dc__law_made pm__law_made an__law_made cd__law_made ct__law_made), sl__law_made⟩)
    (c__law_made : PySem.W.codeIn K cd__law_made "_law_made" = true)
    (k__law_made : PySem.W.keepIn K (.ref A__law_made) = true)
    (n__law_colours : PySem.W.nsIn K mainGlobals "_law_colours" = some (some (.ref A__law_colours)))
    (l__law_colours : K.lookup A__law_colours = some ⟨oc__law_colours, od__law_colours, .func (PySem.W.fnOf "_law_colours" "_law_colours" (defArgs (topS 55)) (defBody (topS 55)) (defScope (topS 55)) .none kV__law_colours dc__law_colours pm__law_colours an__law_colours cd__law_colours ct__law_colours), sl__law_colours⟩)
    (c__law_colours : PySem.W.codeIn K cd__law_colours "_law_colours" = true)
    (k__law_colours : PySem.W.keepIn K (.ref A__law_colours) = true)
    (n__law_begun : PySem.W.nsIn K mainGlobals "_law_begun" = some (some (.ref A__law_begun)))
    (l__law_begun : K.lookup A__law_begun = some ⟨oc__law_begun, od__law_begun, .func (PySem.W.fnOf "_law_begun" "_law_begun" (defArgs (topS 56)) (defBody (topS 56)) (defScope (topS 56)) .none kV__law_begun dc__law_begun pm__law_begun an__law_begun cd__law_begun ct__law_begun), sl__law_begun⟩)
    (c__law_begun : PySem.W.codeIn K cd__law_begun "_law_begun" = true)
    (k__law_begun : PySem.W.keepIn K (.ref A__law_begun) = true)
    (n__law_step : PySem.W.nsIn K mainGlobals "_law_step" = some (some (.ref A__law_step)))
    (l__law_step : K.lookup A__law_step = some ⟨oc__law_step, od__law_step, .func (PySem.W.fnOf "_law_step" "_law_step" (defArgs (topS 57)) (defBody (topS 57)) (defScope (topS 57)) .none kV__law_step dc__law_step pm__law_step an__law_step cd__law_step ct__law_step), sl__law_step⟩)
    (c__law_step : PySem.W.codeIn K cd__law_step "_law_step" = true)
    (k__law_step : PySem.W.keepIn K (.ref A__law_step) = true)
    (n__law_is_lie : PySem.W.nsIn K mainGlobals "_law_is_lie" = some (some (.ref A__law_is_lie)))
    (l__law_is_lie : K.lookup A__law_is_lie = some ⟨oc__law_is_lie, od__law_is_lie, .func (PySem.W.fnOf "_law_is_lie" "_law_is_lie" (defArgs (topS 58)) (defBody (topS 58)) (defScope (topS 58)) .none kV__law_is_lie dc__law_is_lie pm__law_is_lie an__law_is_lie cd__law_is_lie ct__law_is_lie), sl__law_is_lie⟩)
    (c__law_is_lie : PySem.W.codeIn K cd__law_is_lie "_law_is_lie" = true)
    (k__law_is_lie : PySem.W.keepIn K (.ref A__law_is_lie) = true)
    (n__law_told : PySem.W.nsIn K mainGlobals "_law_told" = some (some (.ref A__law_told)))
    (l__law_told : K.lookup A__law_told = some ⟨oc__law_told, od__law_told, .func (PySem.W.fnOf "_law_told" "_law_told" (defArgs (topS 59)) (defBody (topS 59)) (defScope (topS 59)) .none kV__law_told dc__law_told pm__law_told an__law_told cd__law_told ct__law_told), sl__law_told⟩)
    (c__law_told : PySem.W.codeIn K cd__law_told "_law_told" = true)
    (k__law_told : PySem.W.keepIn K (.ref A__law_told) = true)
    (n__law_many : PySem.W.nsIn K mainGlobals "_law_many" = some (some (.ref A__law_many)))
    (l__law_many : K.lookup A__law_many = some ⟨oc__law_many, od__law_many, .func (PySem.W.fnOf "_law_many" "_law_many" (defArgs (topS 60)) (defBody (topS 60)) (defScope (topS 60)) .none kV__law_many dc__law_many pm__law_many an__law_many cd__law_many ct__law_many), sl__law_many⟩)
    (c__law_many : PySem.W.codeIn K cd__law_many "_law_many" = true)
    (k__law_many : PySem.W.keepIn K (.ref A__law_many) = true)
    (n__law_is_standing : PySem.W.nsIn K mainGlobals "_law_is_standing" = some (some (.ref A__law_is_standing)))
    (l__law_is_standing : K.lookup A__law_is_standing = some ⟨oc__law_is_standing, od__law_is_standing, .func (PySem.W.fnOf "_law_is_standing" "_law_is_standing" (defArgs (topS 61)) (defBody (topS 61)) (defScope (topS 61)) .none kV__law_is_standing dc__law_is_standing pm__law_is_standing an__law_is_standing cd__law_is_standing ct__law_is_standing), sl__law_is_standing⟩)
    (c__law_is_standing : PySem.W.codeIn K cd__law_is_standing "_law_is_standing" = true)
    (k__law_is_standing : PySem.W.keepIn K (.ref A__law_is_standing) = true)
    (n__law_found : PySem.W.nsIn K mainGlobals "_law_found" = some (some (.ref A__law_found)))
    (l__law_found : K.lookup A__law_found = some ⟨oc__law_found, od__law_found, .func (PySem.W.fnOf "_law_found" "_law_found" (defArgs (topS 62)) (defBody (topS 62)) (defScope (topS 62)) .none kV__law_found dc__law_found pm__law_found an__law_found cd__law_found ct__law_found), sl__law_found⟩)
    (c__law_found : PySem.W.codeIn K cd__law_found "_law_found" = true)
    (k__law_found : PySem.W.keepIn K (.ref A__law_found) = true)
    (n_law : PySem.W.nsIn K mainGlobals "law" = some (some (.ref A_law)))
    (l_law : K.lookup A_law = some ⟨oc_law, od_law, .func (PySem.W.fnOf "law" "law" (defArgs (topS 63)) (defBody (topS 63)) (defScope (topS 63)) .none kV_law dc_law pm_law an_law (.ref ca_law) ct_law), sl_law⟩)
    (c_law : PySem.W.codeIn K (.ref ca_law) "law" = true)
    (co_law : K.lookup ca_law = some ⟨coc_law, cod_law, .fields ⟨u0_law :: u1_law :: u2_law :: u3_law :: u4_law :: u5_law :: u6_law :: u7_law :: u8_law :: u9_law :: u10_law :: .ref pt_law :: ur_law⟩, csl_law⟩)
    (ch_law : PySem.W.codeHdIn K ca_law pt_law = true)
    (np_law : K.lookup pt_law = none)
    (k_law : PySem.W.keepIn K (.ref A_law) = true)
    (z_abs : PySem.W.nsIn K mainGlobals "abs" = some none)
    (z_all : PySem.W.nsIn K mainGlobals "all" = some none)
    (z_bool : PySem.W.nsIn K mainGlobals "bool" = some none)
    (z_enumerate : PySem.W.nsIn K mainGlobals "enumerate" = some none)
    (z_int : PySem.W.nsIn K mainGlobals "int" = some none)
    (z_isinstance : PySem.W.nsIn K mainGlobals "isinstance" = some none)
    (z_len : PySem.W.nsIn K mainGlobals "len" = some none)
    (z_list : PySem.W.nsIn K mainGlobals "list" = some none)
    (z_range : PySem.W.nsIn K mainGlobals "range" = some none)
    (z_repr : PySem.W.nsIn K mainGlobals "repr" = some none)
    (z_str : PySem.W.nsIn K mainGlobals "str" = some none)
    (z_tuple : PySem.W.nsIn K mainGlobals "tuple" = some none)
    (kc_MOST_SAID : PySem.W.nsIn K mainGlobals "MOST_SAID" = some (some (.int 4 tk_MOST_SAID)))
    (kc_ALL : PySem.W.nsIn K mainGlobals "ALL" = some (some (.str (Str.ofString "all") tk_ALL)))
    (kc_MOST_STATES : PySem.W.nsIn K mainGlobals "MOST_STATES" = some (some (.int 5 tk_MOST_STATES)))
    (kc_MOST_COLOURS : PySem.W.nsIn K mainGlobals "MOST_COLOURS" = some (some (.int 4 tk_MOST_COLOURS)))
    (kc_MOST_FOLK : PySem.W.nsIn K mainGlobals "MOST_FOLK" = some (some (.int 6 tk_MOST_FOLK)))
    (kc_MOST_VISITS : PySem.W.nsIn K mainGlobals "MOST_VISITS" = some (some (.int 2000 tk_MOST_VISITS)))
    : ∃ T : Tx ⟨K, (tbF C_Program C_BadProgram C_BadNumber C_NoColour C_NoStanding C_NoVisit C_NoOrder A_said A_lies), none, [(pt_law, ("law" : Str) ++ ".<locals>." ++ "<lambda>")]⟩ mg w P, T.a_law = fa ∧ (∀ (s : Shared) (u : Value), BindsTo s T.d_law ⟨[u], []⟩ [("script", u)]) ∧ T.c_law = ca_law ∧ T.p_law = pt_law ∧ PySem.W.codeHdIn K ca_law pt_law = true ∧ K.lookup pt_law = none := by
  have e := hfa.symm.trans (PySem.W.mg_of X G n_law)
  cases e
  have oe_BadProgram := oexC_of x_BadProgram sa_BadProgram eb_BadProgram ty_BadProgram kc_BadProgram
  have se_BadProgram : PySem.W.nsIn K mainGlobals "super" = some none := sup_mg
  have sp_BadProgram := supC_of (P := P) (mg := mg) (scope := defScope (inClass (topS 2) 0)) x_BadProgram x_LampError fi_LampError rfl rfl rfl cl_BadProgram li_BadProgram ⟨_, rfl, rfl⟩ co_BadProgram fi_BadProgram sup_top (PySem.W.mg_none_of X G sup_mg) sc_BadProgram sv_BadProgram sup_opq
  have ef_BadProgram : ∀ base : Heap, FnOk P w K mg base (L2.CX P w) 1 A_BadProgram _ ["self", "what"] (spX1 C_BadProgram "what") := fun base => ex_fn1 li_BadProgram ci_BadProgram ⟨rfl, rfl, rfl, by decide +kernel, rfl, by decide +kernel, by decide +kernel, by decide +kernel⟩ oe_BadProgram sp_BadProgram xn_BadProgram_what rfl (fun _ => ⟨_, rfl⟩)
  have eb2_BadProgram : Exc0 P w K mg C_BadProgram ["self", "what"] (spX1 C_BadProgram "what") := ⟨oe_BadProgram, A_BadProgram, _, ni_BadProgram, ti_BadProgram, ef_BadProgram, fun s us _ hl => match us, hl with | [_, _], _ => .of_eq rfl⟩
  have oe_BadNumber := oexC_of x_BadNumber sa_BadNumber eb_BadNumber ty_BadNumber kc_BadNumber
  have se_BadNumber : PySem.W.nsIn K mainGlobals "super" = some none := sup_mg
  have sp_BadNumber := supC_of (P := P) (mg := mg) (scope := defScope (inClass (topS 3) 0)) x_BadNumber x_LampError fi_LampError rfl rfl rfl cl_BadNumber li_BadNumber ⟨_, rfl, rfl⟩ co_BadNumber fi_BadNumber sup_top (PySem.W.mg_none_of X G sup_mg) sc_BadNumber sv_BadNumber sup_opq
  have ef_BadNumber : ∀ base : Heap, FnOk P w K mg base (L2.CX P w) 1 A_BadNumber _ ["self", "value"] (spX1 C_BadNumber "value") := fun base => ex_fn1 li_BadNumber ci_BadNumber ⟨rfl, rfl, rfl, by decide +kernel, rfl, by decide +kernel, by decide +kernel, by decide +kernel⟩ oe_BadNumber sp_BadNumber xn_BadNumber_value rfl (fun _ => ⟨_, rfl⟩)
  have eb2_BadNumber : Exc0 P w K mg C_BadNumber ["self", "value"] (spX1 C_BadNumber "value") := ⟨oe_BadNumber, A_BadNumber, _, ni_BadNumber, ti_BadNumber, ef_BadNumber, fun s us _ hl => match us, hl with | [_, _], _ => .of_eq rfl⟩
  have oe_NoColour := oexC_of x_NoColour sa_NoColour eb_NoColour ty_NoColour kc_NoColour
  have se_NoColour : PySem.W.nsIn K mainGlobals "super" = some none := sup_mg
  have sp_NoColour := supC_of (P := P) (mg := mg) (scope := defScope (inClass (topS 4) 0)) x_NoColour x_LampError fi_LampError rfl rfl rfl cl_NoColour li_NoColour ⟨_, rfl, rfl⟩ co_NoColour fi_NoColour sup_top (PySem.W.mg_none_of X G sup_mg) sc_NoColour sv_NoColour sup_opq
  have ef_NoColour : ∀ base : Heap, FnOk P w K mg base (L2.CX P w) 1 A_NoColour _ ["self"] (spX0 C_NoColour) := fun base => ex_fn0 li_NoColour ci_NoColour ⟨rfl, rfl, rfl, by decide +kernel, rfl, by decide +kernel, by decide +kernel, by decide +kernel⟩ oe_NoColour sp_NoColour rfl (fun _ => ⟨_, rfl⟩)
  have eb2_NoColour : Exc0 P w K mg C_NoColour ["self"] (spX0 C_NoColour) := ⟨oe_NoColour, A_NoColour, _, ni_NoColour, ti_NoColour, ef_NoColour, fun s us _ hl => match us, hl with | [_], _ => .of_eq rfl⟩
  have oe_NoStanding := oexC_of x_NoStanding sa_NoStanding eb_NoStanding ty_NoStanding kc_NoStanding
  have se_NoStanding : PySem.W.nsIn K mainGlobals "super" = some none := sup_mg
  have sp_NoStanding := supC_of (P := P) (mg := mg) (scope := defScope (inClass (topS 5) 0)) x_NoStanding x_LampError fi_LampError rfl rfl rfl cl_NoStanding li_NoStanding ⟨_, rfl, rfl⟩ co_NoStanding fi_NoStanding sup_top (PySem.W.mg_none_of X G sup_mg) sc_NoStanding sv_NoStanding sup_opq
  have ef_NoStanding : ∀ base : Heap, FnOk P w K mg base (L2.CX P w) 1 A_NoStanding _ ["self"] (spX0 C_NoStanding) := fun base => ex_fn0 li_NoStanding ci_NoStanding ⟨rfl, rfl, rfl, by decide +kernel, rfl, by decide +kernel, by decide +kernel, by decide +kernel⟩ oe_NoStanding sp_NoStanding rfl (fun _ => ⟨_, rfl⟩)
  have eb2_NoStanding : Exc0 P w K mg C_NoStanding ["self"] (spX0 C_NoStanding) := ⟨oe_NoStanding, A_NoStanding, _, ni_NoStanding, ti_NoStanding, ef_NoStanding, fun s us _ hl => match us, hl with | [_], _ => .of_eq rfl⟩
  have oe_NoVisit := oexC_of x_NoVisit sa_NoVisit eb_NoVisit ty_NoVisit kc_NoVisit
  have se_NoVisit : PySem.W.nsIn K mainGlobals "super" = some none := sup_mg
  have sp_NoVisit := supC_of (P := P) (mg := mg) (scope := defScope (inClass (topS 6) 0)) x_NoVisit x_LampError fi_LampError rfl rfl rfl cl_NoVisit li_NoVisit ⟨_, rfl, rfl⟩ co_NoVisit fi_NoVisit sup_top (PySem.W.mg_none_of X G sup_mg) sc_NoVisit sv_NoVisit sup_opq
  have ef_NoVisit : ∀ base : Heap, FnOk P w K mg base (L2.CX P w) 1 A_NoVisit _ ["self"] (spX0 C_NoVisit) := fun base => ex_fn0 li_NoVisit ci_NoVisit ⟨rfl, rfl, rfl, by decide +kernel, rfl, by decide +kernel, by decide +kernel, by decide +kernel⟩ oe_NoVisit sp_NoVisit rfl (fun _ => ⟨_, rfl⟩)
  have eb2_NoVisit : Exc0 P w K mg C_NoVisit ["self"] (spX0 C_NoVisit) := ⟨oe_NoVisit, A_NoVisit, _, ni_NoVisit, ti_NoVisit, ef_NoVisit, fun s us _ hl => match us, hl with | [_], _ => .of_eq rfl⟩
  have oe_NoOrder := oexC_of x_NoOrder sa_NoOrder eb_NoOrder ty_NoOrder kc_NoOrder
  have se_NoOrder : PySem.W.nsIn K mainGlobals "super" = some none := sup_mg
  have sp_NoOrder := supC_of (P := P) (mg := mg) (scope := defScope (inClass (topS 7) 0)) x_NoOrder x_LampError fi_LampError rfl rfl rfl cl_NoOrder li_NoOrder ⟨_, rfl, rfl⟩ co_NoOrder fi_NoOrder sup_top (PySem.W.mg_none_of X G sup_mg) sc_NoOrder sv_NoOrder sup_opq
  have ef_NoOrder : ∀ base : Heap, FnOk P w K mg base (L2.CX P w) 1 A_NoOrder _ ["self", "at"] (spX1 C_NoOrder "at") := fun base => ex_fn1 li_NoOrder ci_NoOrder ⟨rfl, rfl, rfl, by decide +kernel, rfl, by decide +kernel, by decide +kernel, by decide +kernel⟩ oe_NoOrder sp_NoOrder xn_NoOrder_at rfl (fun _ => ⟨_, rfl⟩)
  have eb2_NoOrder : Exc0 P w K mg C_NoOrder ["self", "at"] (spX1 C_NoOrder "at") := ⟨oe_NoOrder, A_NoOrder, _, ni_NoOrder, ti_NoOrder, ef_NoOrder, fun s us _ hl => match us, hl with | [_, _], _ => .of_eq rfl⟩
  have F_is_number := fun_mk (st := (topS 11)) l_is_number c_is_number k_is_number
  have B_is_number := F_is_number.binds (ps := ["value"]) fun _ _ _ _ _ _ us hl => match us, hl with | [_], _ => rfl
  have F_is_within := fun_mk (st := (topS 12)) l_is_within c_is_within k_is_within
  have B_is_within := F_is_within.binds (ps := ["value", "least", "most"]) fun _ _ _ _ _ _ us hl => match us, hl with | [_, _, _], _ => rfl
  have F_is_listed := fun_mk (st := (topS 13)) l_is_listed c_is_listed k_is_listed
  have B_is_listed := F_is_listed.binds (ps := ["value"]) fun _ _ _ _ _ _ us hl => match us, hl with | [_], _ => rfl
  have F_is_word := fun_mk (st := (topS 14)) l_is_word c_is_word k_is_word
  have B_is_word := F_is_word.binds (ps := ["value"]) fun _ _ _ _ _ _ us hl => match us, hl with | [_], _ => rfl
  have F_replaced := fun_mk (st := (topS 15)) l_replaced c_replaced k_replaced
  have B_replaced := F_replaced.binds (ps := ["row", "at", "value"]) fun _ _ _ _ _ _ us hl => match us, hl with | [_, _, _], _ => rfl
  have F_is_step := fun_mk (st := (topS 19)) l_is_step c_is_step k_is_step
  have B_is_step := F_is_step.binds (ps := ["value", "states", "colours"]) fun _ _ _ _ _ _ us hl => match us, hl with | [_, _, _], _ => rfl
  have F_are_steps := fun_mk (st := (topS 20)) l_are_steps c_are_steps k_are_steps
  have B_are_steps := F_are_steps.binds (ps := ["value"]) fun _ _ _ _ _ _ us hl => match us, hl with | [_], _ => rfl
  have F_all_colours := fun_mk (st := (topS 22)) l_all_colours c_all_colours k_all_colours
  have B_all_colours := F_all_colours.binds (ps := ["program"]) fun _ _ _ _ _ _ us hl => match us, hl with | [_], _ => rfl
  have F_first_colours := fun_mk (st := (topS 23)) l_first_colours c_first_colours k_first_colours
  have B_first_colours := F_first_colours.binds (ps := ["program"]) fun _ _ _ _ _ _ us hl => match us, hl with | [_], _ => rfl
  have F_check_many := fun_mk (st := (topS 27)) l_check_many c_check_many k_check_many
  have B_check_many := F_check_many.binds (ps := ["program", "many"]) fun _ _ _ _ _ _ us hl => match us, hl with | [_, _], _ => rfl
  have F_is_first_colour := fun_mk (st := (topS 28)) l_is_first_colour c_is_first_colour k_is_first_colour
  have B_is_first_colour := F_is_first_colour.binds (ps := ["program", "value"]) fun _ _ _ _ _ _ us hl => match us, hl with | [_, _], _ => rfl
  have F_check_start := fun_mk (st := (topS 29)) l_check_start c_check_start k_check_start
  have B_check_start := F_check_start.binds (ps := ["program", "many", "colour"]) fun _ _ _ _ _ _ us hl => match us, hl with | [_, _, _], _ => rfl
  have F_begun := fun_mk (st := (topS 30)) l_begun c_begun k_begun
  have B_begun := F_begun.binds (ps := ["program", "many", "colour"]) fun _ _ _ _ _ _ us hl => match us, hl with | [_, _, _], _ => rfl
  have F_beginning := fun_mk (st := (topS 31)) l_beginning c_beginning k_beginning
  have B_beginning := F_beginning.binds (ps := ["program", "many", "colour"]) fun _ _ _ _ _ _ us hl => match us, hl with | [_, _, _], _ => rfl
  have F_is_standing := fun_mk (st := (topS 32)) l_is_standing c_is_standing k_is_standing
  have B_is_standing := F_is_standing.binds (ps := ["program", "value"]) fun _ _ _ _ _ _ us hl => match us, hl with | [_, _], _ => rfl
  have F_check_visit := fun_mk (st := (topS 33)) l_check_visit c_check_visit k_check_visit
  have B_check_visit := F_check_visit.binds (ps := ["program", "standing", "visit"]) fun _ _ _ _ _ _ us hl => match us, hl with | [_, _, _], _ => rfl
  have F_step_of := fun_mk (st := (topS 34)) l_step_of c_step_of k_step_of
  have B_step_of := F_step_of.binds (ps := ["program", "standing", "visit"]) fun _ _ _ _ _ _ us hl => match us, hl with | [_, _, _], _ => rfl
  have F_behind := fun_mk (st := (topS 35)) l_behind c_behind k_behind
  have B_behind := F_behind.binds (ps := ["program", "standing", "visit"]) fun _ _ _ _ _ _ us hl => match us, hl with | [_, _, _], _ => rfl
  have F_visited := fun_mk (st := (topS 36)) l_visited c_visited k_visited
  have B_visited := F_visited.binds (ps := ["program", "standing", "visit"]) fun _ _ _ _ _ _ us hl => match us, hl with | [_, _, _], _ => rfl
  have F_saying := fun_mk (st := (topS 37)) l_saying c_saying k_saying
  have B_saying := F_saying.binds (ps := ["program", "standing", "visit"]) fun _ _ _ _ _ _ us hl => match us, hl with | [_, _, _], _ => rfl
  have F_is_lie := fun_mk (st := (topS 38)) l_is_lie c_is_lie k_is_lie
  have B_is_lie := F_is_lie.binds (ps := ["word", "been"]) fun _ _ _ _ _ _ us hl => match us, hl with | [_, _], _ => rfl
  have F_check_order := fun_mk (st := (topS 39)) l_check_order c_check_order k_check_order
  have B_check_order := F_check_order.binds (ps := ["standing", "order"]) fun _ _ _ _ _ _ us hl => match us, hl with | [_, _], _ => rfl
  have F_told_along := fun_mk (st := (topS 40)) l_told_along c_told_along k_told_along
  have B_told_along := F_told_along.binds (ps := ["program", "standing", "order"]) fun _ _ _ _ _ _ us hl => match us, hl with | [_, _, _], _ => rfl
  have F_started := fun_mk (st := (topS 41)) l_started c_started k_started
  have B_started := F_started.binds (ps := ["program", "many", "colour", "order"]) fun _ _ _ _ _ _ us hl => match us, hl with | [_, _, _, _], _ => rfl
  have F_said := fun_mk (st := (topS 42)) l_said c_said k_said
  have B_said := F_said.binds (ps := ["program", "many", "colour", "order"]) fun _ _ _ _ _ _ us hl => match us, hl with | [_, _, _, _], _ => rfl
  have F_lies := fun_mk (st := (topS 43)) l_lies c_lies k_lies
  have B_lies := F_lies.binds (ps := ["program", "many", "colour", "order"]) fun _ _ _ _ _ _ us hl => match us, hl with | [_, _, _, _], _ => rfl
  have F__law_pot := fun_mk (st := (topS 45)) l__law_pot c__law_pot k__law_pot
  have B__law_pot := F__law_pot.binds (ps := ["script"]) fun _ _ _ _ _ _ us hl => match us, hl with | [_], _ => rfl
  have F__law_draw := fun_mk (st := (topS 46)) l__law_draw c__law_draw k__law_draw
  have B__law_draw := F__law_draw.binds (ps := ["pot", "many"]) fun _ _ _ _ _ _ us hl => match us, hl with | [_, _], _ => rfl
  have F__law_pick := fun_mk (st := (topS 47)) l__law_pick c__law_pick k__law_pick
  have B__law_pick := F__law_pick.binds (ps := ["pot", "row"]) fun _ _ _ _ _ _ us hl => match us, hl with | [_, _], _ => rfl
  have F__law_same := fun_mk (st := (topS 48)) l__law_same c__law_same k__law_same
  have B__law_same := F__law_same.binds (ps := ["found", "due"]) fun _ _ _ _ _ _ us hl => match us, hl with | [_, _], _ => rfl
  have F__law_odd := fun_mk (st := (topS 49)) l__law_odd c__law_odd k__law_odd
  have B__law_odd := F__law_odd.binds (ps := ["pot", "thing"]) fun _ _ _ _ _ _ us hl => match us, hl with | [_, _], _ => rfl
  have F__law_bent := fun_mk (st := (topS 50)) l__law_bent c__law_bent k__law_bent
  have B__law_bent := F__law_bent.binds (ps := ["pot", "thing", "left"]) fun _ _ _ _ _ _ us hl => match us, hl with | [_, _, _], _ => rfl
  have F__law_within := fun_mk (st := (topS 51)) l__law_within c__law_within k__law_within
  have B__law_within := F__law_within.binds (ps := ["thing", "low", "high"]) fun _ _ _ _ _ _ us hl => match us, hl with | [_, _, _], _ => rfl
  have F__law_saying := fun_mk (st := (topS 52)) l__law_saying c__law_saying k__law_saying
  have B__law_saying := F__law_saying.binds (ps := ["pot"]) fun _ _ _ _ _ _ us hl => match us, hl with | [_], _ => rfl
  have F__law_spec := fun_mk (st := (topS 53)) l__law_spec c__law_spec k__law_spec
  have B__law_spec := F__law_spec.binds (ps := ["pot", "most"]) fun _ _ _ _ _ _ us hl => match us, hl with | [_, _], _ => rfl
  have F_Program_init := fun_mk (st := (inClass (topS 21) 0)) l_Program_init c_Program_init k_Program_init
  have B_Program_init := F_Program_init.binds (ps := ["self", "steps", "first", "leader", "lamp"]) fun _ _ _ _ _ _ us hl => match us, hl with | [_, _, _, _, _], _ => rfl
  have F__law_made := fun_mk (st := (topS 54)) l__law_made c__law_made k__law_made
  have B__law_made := F__law_made.binds (ps := ["spec"]) fun _ _ _ _ _ _ us hl => match us, hl with | [_], _ => rfl
  have F__law_colours := fun_mk (st := (topS 55)) l__law_colours c__law_colours k__law_colours
  have B__law_colours := F__law_colours.binds (ps := ["spec"]) fun _ _ _ _ _ _ us hl => match us, hl with | [_], _ => rfl
  have F__law_begun := fun_mk (st := (topS 56)) l__law_begun c__law_begun k__law_begun
  have B__law_begun := F__law_begun.binds (ps := ["spec", "many", "colour"]) fun _ _ _ _ _ _ us hl => match us, hl with | [_, _, _], _ => rfl
  have F__law_step := fun_mk (st := (topS 57)) l__law_step c__law_step k__law_step
  have B__law_step := F__law_step.binds (ps := ["spec", "standing", "index"]) fun _ _ _ _ _ _ us hl => match us, hl with | [_, _, _], _ => rfl
  have F__law_is_lie := fun_mk (st := (topS 58)) l__law_is_lie c__law_is_lie k__law_is_lie
  have B__law_is_lie := F__law_is_lie.binds (ps := ["word", "been"]) fun _ _ _ _ _ _ us hl => match us, hl with | [_, _], _ => rfl
  have F__law_told := fun_mk (st := (topS 59)) l__law_told c__law_told k__law_told
  have B__law_told := F__law_told.binds (ps := ["spec", "standing", "order"]) fun _ _ _ _ _ _ us hl => match us, hl with | [_, _, _], _ => rfl
  have F__law_many := fun_mk (st := (topS 60)) l__law_many c__law_many k__law_many
  have B__law_many := F__law_many.binds (ps := ["pot", "spec", "most"]) fun _ _ _ _ _ _ us hl => match us, hl with | [_, _, _], _ => rfl
  have F__law_is_standing := fun_mk (st := (topS 61)) l__law_is_standing c__law_is_standing k__law_is_standing
  have B__law_is_standing := F__law_is_standing.binds (ps := ["spec", "thing"]) fun _ _ _ _ _ _ us hl => match us, hl with | [_, _], _ => rfl
  have F__law_found := fun_mk (st := (topS 62)) l__law_found c__law_found k__law_found
  have B__law_found := F__law_found.binds (ps := ["work"]) fun _ _ _ _ _ _ us hl => match us, hl with | [_], _ => rfl
  have F_law := fun_mk (st := (topS 63)) l_law c_law k_law
  have B_law := F_law.binds (ps := ["script"]) fun _ _ _ _ _ _ us hl => match us, hl with | [_], _ => rfl
  exact ⟨{
      xi0 := rfl,
      m_BadProgram := PySem.W.mg_of X G n_BadProgram,
      ex_BadProgram := eb2_BadProgram,
      m_BadNumber := PySem.W.mg_of X G n_BadNumber,
      ex_BadNumber := eb2_BadNumber,
      m_NoColour := PySem.W.mg_of X G n_NoColour,
      ex_NoColour := eb2_NoColour,
      m_NoStanding := PySem.W.mg_of X G n_NoStanding,
      ex_NoStanding := eb2_NoStanding,
      m_NoVisit := PySem.W.mg_of X G n_NoVisit,
      ex_NoVisit := eb2_NoVisit,
      m_NoOrder := PySem.W.mg_of X G n_NoOrder,
      ex_NoOrder := eb2_NoOrder,
      exm_BadNumber := exm_of eb_BadNumber isc_BadNumber ty_BadNumber sub_BadNumber_BadNumber,
      exn_BadNumber := fun c' h => by
        simp only [no_BadNumber, List.mem_cons, List.not_mem_nil, or_false] at h
        rcases h with rfl | rfl | rfl | rfl | rfl
        · exact exm_of eb_BadNumber isc_BadNumber ty_BadNumber sub_BadProgram_BadNumber
        · exact exm_of eb_BadNumber isc_BadNumber ty_BadNumber sub_NoColour_BadNumber
        · exact exm_of eb_BadNumber isc_BadNumber ty_BadNumber sub_NoStanding_BadNumber
        · exact exm_of eb_BadNumber isc_BadNumber ty_BadNumber sub_NoVisit_BadNumber
        · exact exm_of eb_BadNumber isc_BadNumber ty_BadNumber sub_NoOrder_BadNumber,
      exm_NoColour := exm_of eb_NoColour isc_NoColour ty_NoColour sub_NoColour_NoColour,
      exn_NoColour := fun c' h => by
        simp only [no_NoColour, List.mem_cons, List.not_mem_nil, or_false] at h
        rcases h with rfl | rfl | rfl | rfl | rfl
        · exact exm_of eb_NoColour isc_NoColour ty_NoColour sub_BadProgram_NoColour
        · exact exm_of eb_NoColour isc_NoColour ty_NoColour sub_BadNumber_NoColour
        · exact exm_of eb_NoColour isc_NoColour ty_NoColour sub_NoStanding_NoColour
        · exact exm_of eb_NoColour isc_NoColour ty_NoColour sub_NoVisit_NoColour
        · exact exm_of eb_NoColour isc_NoColour ty_NoColour sub_NoOrder_NoColour,
      exm_NoOrder := exm_of eb_NoOrder isc_NoOrder ty_NoOrder sub_NoOrder_NoOrder,
      exn_NoOrder := fun c' h => by
        simp only [no_NoOrder, List.mem_cons, List.not_mem_nil, or_false] at h
        rcases h with rfl | rfl | rfl | rfl | rfl
        · exact exm_of eb_NoOrder isc_NoOrder ty_NoOrder sub_BadProgram_NoOrder
        · exact exm_of eb_NoOrder isc_NoOrder ty_NoOrder sub_BadNumber_NoOrder
        · exact exm_of eb_NoOrder isc_NoOrder ty_NoOrder sub_NoColour_NoOrder
        · exact exm_of eb_NoOrder isc_NoOrder ty_NoOrder sub_NoStanding_NoOrder
        · exact exm_of eb_NoOrder isc_NoOrder ty_NoOrder sub_NoVisit_NoOrder,
      exm_NoStanding := exm_of eb_NoStanding isc_NoStanding ty_NoStanding sub_NoStanding_NoStanding,
      exn_NoStanding := fun c' h => by
        simp only [no_NoStanding, List.mem_cons, List.not_mem_nil, or_false] at h
        rcases h with rfl | rfl | rfl | rfl | rfl
        · exact exm_of eb_NoStanding isc_NoStanding ty_NoStanding sub_BadProgram_NoStanding
        · exact exm_of eb_NoStanding isc_NoStanding ty_NoStanding sub_BadNumber_NoStanding
        · exact exm_of eb_NoStanding isc_NoStanding ty_NoStanding sub_NoColour_NoStanding
        · exact exm_of eb_NoStanding isc_NoStanding ty_NoStanding sub_NoVisit_NoStanding
        · exact exm_of eb_NoStanding isc_NoStanding ty_NoStanding sub_NoOrder_NoStanding,
      exm_NoVisit := exm_of eb_NoVisit isc_NoVisit ty_NoVisit sub_NoVisit_NoVisit,
      exn_NoVisit := fun c' h => by
        simp only [no_NoVisit, List.mem_cons, List.not_mem_nil, or_false] at h
        rcases h with rfl | rfl | rfl | rfl | rfl
        · exact exm_of eb_NoVisit isc_NoVisit ty_NoVisit sub_BadProgram_NoVisit
        · exact exm_of eb_NoVisit isc_NoVisit ty_NoVisit sub_BadNumber_NoVisit
        · exact exm_of eb_NoVisit isc_NoVisit ty_NoVisit sub_NoColour_NoVisit
        · exact exm_of eb_NoVisit isc_NoVisit ty_NoVisit sub_NoStanding_NoVisit
        · exact exm_of eb_NoVisit isc_NoVisit ty_NoVisit sub_NoOrder_NoVisit,
      xn_BadNumber_value := xn_BadNumber_value,
      xn_NoOrder_at := xn_NoOrder_at,
      xf_BadNumber := ⟨ga_BadNumber, gg_BadNumber, eb_BadNumber, hd_BadNumber⟩,
      xf_NoOrder := ⟨ga_NoOrder, gg_NoOrder, eb_NoOrder, hd_NoOrder⟩,
      a_is_number := A_is_number,
      d_is_number := _,
      F_is_number := F_is_number,
      B_is_number := B_is_number,
      m_is_number := PySem.W.mg_of X G n_is_number,
      a_is_within := A_is_within,
      d_is_within := _,
      F_is_within := F_is_within,
      B_is_within := B_is_within,
      m_is_within := PySem.W.mg_of X G n_is_within,
      a_is_listed := A_is_listed,
      d_is_listed := _,
      F_is_listed := F_is_listed,
      B_is_listed := B_is_listed,
      m_is_listed := PySem.W.mg_of X G n_is_listed,
      a_is_word := A_is_word,
      d_is_word := _,
      F_is_word := F_is_word,
      B_is_word := B_is_word,
      m_is_word := PySem.W.mg_of X G n_is_word,
      a_replaced := A_replaced,
      d_replaced := _,
      F_replaced := F_replaced,
      B_replaced := B_replaced,
      m_replaced := PySem.W.mg_of X G n_replaced,
      a_is_step := A_is_step,
      d_is_step := _,
      F_is_step := F_is_step,
      B_is_step := B_is_step,
      m_is_step := PySem.W.mg_of X G n_is_step,
      a_are_steps := A_are_steps,
      d_are_steps := _,
      F_are_steps := F_are_steps,
      B_are_steps := B_are_steps,
      m_are_steps := PySem.W.mg_of X G n_are_steps,
      a_all_colours := A_all_colours,
      d_all_colours := _,
      F_all_colours := F_all_colours,
      B_all_colours := B_all_colours,
      m_all_colours := PySem.W.mg_of X G n_all_colours,
      a_first_colours := A_first_colours,
      d_first_colours := _,
      F_first_colours := F_first_colours,
      B_first_colours := B_first_colours,
      m_first_colours := PySem.W.mg_of X G n_first_colours,
      a_check_many := A_check_many,
      d_check_many := _,
      F_check_many := F_check_many,
      B_check_many := B_check_many,
      m_check_many := PySem.W.mg_of X G n_check_many,
      a_is_first_colour := A_is_first_colour,
      d_is_first_colour := _,
      F_is_first_colour := F_is_first_colour,
      B_is_first_colour := B_is_first_colour,
      m_is_first_colour := PySem.W.mg_of X G n_is_first_colour,
      a_check_start := A_check_start,
      d_check_start := _,
      F_check_start := F_check_start,
      B_check_start := B_check_start,
      m_check_start := PySem.W.mg_of X G n_check_start,
      a_begun := A_begun,
      d_begun := _,
      F_begun := F_begun,
      B_begun := B_begun,
      m_begun := PySem.W.mg_of X G n_begun,
      a_beginning := A_beginning,
      d_beginning := _,
      F_beginning := F_beginning,
      B_beginning := B_beginning,
      m_beginning := PySem.W.mg_of X G n_beginning,
      a_is_standing := A_is_standing,
      d_is_standing := _,
      F_is_standing := F_is_standing,
      B_is_standing := B_is_standing,
      m_is_standing := PySem.W.mg_of X G n_is_standing,
      a_check_visit := A_check_visit,
      d_check_visit := _,
      F_check_visit := F_check_visit,
      B_check_visit := B_check_visit,
      m_check_visit := PySem.W.mg_of X G n_check_visit,
      a_step_of := A_step_of,
      d_step_of := _,
      F_step_of := F_step_of,
      B_step_of := B_step_of,
      m_step_of := PySem.W.mg_of X G n_step_of,
      a_behind := A_behind,
      d_behind := _,
      F_behind := F_behind,
      B_behind := B_behind,
      m_behind := PySem.W.mg_of X G n_behind,
      a_visited := A_visited,
      d_visited := _,
      F_visited := F_visited,
      B_visited := B_visited,
      m_visited := PySem.W.mg_of X G n_visited,
      a_saying := A_saying,
      d_saying := _,
      F_saying := F_saying,
      B_saying := B_saying,
      m_saying := PySem.W.mg_of X G n_saying,
      a_is_lie := A_is_lie,
      d_is_lie := _,
      F_is_lie := F_is_lie,
      B_is_lie := B_is_lie,
      m_is_lie := PySem.W.mg_of X G n_is_lie,
      a_check_order := A_check_order,
      d_check_order := _,
      F_check_order := F_check_order,
      B_check_order := B_check_order,
      m_check_order := PySem.W.mg_of X G n_check_order,
      a_told_along := A_told_along,
      d_told_along := _,
      F_told_along := F_told_along,
      B_told_along := B_told_along,
      m_told_along := PySem.W.mg_of X G n_told_along,
      a_started := A_started,
      d_started := _,
      F_started := F_started,
      B_started := B_started,
      m_started := PySem.W.mg_of X G n_started,
      a_said := A_said,
      d_said := _,
      F_said := F_said,
      B_said := B_said,
      mv_said := PySem.W.mg_of X G n_said,
      tb_said := rfl,
      m_said := PySem.W.mg_of X G n_said,
      a_lies := A_lies,
      d_lies := _,
      F_lies := F_lies,
      B_lies := B_lies,
      mv_lies := PySem.W.mg_of X G n_lies,
      tb_lies := rfl,
      m_lies := PySem.W.mg_of X G n_lies,
      a__law_pot := A__law_pot,
      d__law_pot := _,
      F__law_pot := F__law_pot,
      B__law_pot := B__law_pot,
      m__law_pot := PySem.W.mg_of X G n__law_pot,
      a__law_draw := A__law_draw,
      d__law_draw := _,
      F__law_draw := F__law_draw,
      B__law_draw := B__law_draw,
      m__law_draw := PySem.W.mg_of X G n__law_draw,
      a__law_pick := A__law_pick,
      d__law_pick := _,
      F__law_pick := F__law_pick,
      B__law_pick := B__law_pick,
      m__law_pick := PySem.W.mg_of X G n__law_pick,
      a__law_same := A__law_same,
      d__law_same := _,
      F__law_same := F__law_same,
      B__law_same := B__law_same,
      m__law_same := PySem.W.mg_of X G n__law_same,
      a__law_odd := A__law_odd,
      d__law_odd := _,
      F__law_odd := F__law_odd,
      B__law_odd := B__law_odd,
      m__law_odd := PySem.W.mg_of X G n__law_odd,
      a__law_bent := A__law_bent,
      d__law_bent := _,
      F__law_bent := F__law_bent,
      B__law_bent := B__law_bent,
      m__law_bent := PySem.W.mg_of X G n__law_bent,
      a__law_within := A__law_within,
      d__law_within := _,
      F__law_within := F__law_within,
      B__law_within := B__law_within,
      m__law_within := PySem.W.mg_of X G n__law_within,
      a__law_saying := A__law_saying,
      d__law_saying := _,
      F__law_saying := F__law_saying,
      B__law_saying := B__law_saying,
      m__law_saying := PySem.W.mg_of X G n__law_saying,
      a__law_spec := A__law_spec,
      d__law_spec := _,
      F__law_spec := F__law_spec,
      B__law_spec := B__law_spec,
      m__law_spec := PySem.W.mg_of X G n__law_spec,
      a_Program_init := A_Program_init,
      d_Program_init := _,
      F_Program_init := F_Program_init,
      B_Program_init := B_Program_init,
      mk_Program := ⟨mk_Program, n_Program_init, i_Program_init, kc_Program⟩,
      a__law_made := A__law_made,
      d__law_made := _,
      F__law_made := F__law_made,
      B__law_made := B__law_made,
      m__law_made := PySem.W.mg_of X G n__law_made,
      a__law_colours := A__law_colours,
      d__law_colours := _,
      F__law_colours := F__law_colours,
      B__law_colours := B__law_colours,
      m__law_colours := PySem.W.mg_of X G n__law_colours,
      a__law_begun := A__law_begun,
      d__law_begun := _,
      F__law_begun := F__law_begun,
      B__law_begun := B__law_begun,
      m__law_begun := PySem.W.mg_of X G n__law_begun,
      a__law_step := A__law_step,
      d__law_step := _,
      F__law_step := F__law_step,
      B__law_step := B__law_step,
      m__law_step := PySem.W.mg_of X G n__law_step,
      a__law_is_lie := A__law_is_lie,
      d__law_is_lie := _,
      F__law_is_lie := F__law_is_lie,
      B__law_is_lie := B__law_is_lie,
      m__law_is_lie := PySem.W.mg_of X G n__law_is_lie,
      a__law_told := A__law_told,
      d__law_told := _,
      F__law_told := F__law_told,
      B__law_told := B__law_told,
      m__law_told := PySem.W.mg_of X G n__law_told,
      a__law_many := A__law_many,
      d__law_many := _,
      F__law_many := F__law_many,
      B__law_many := B__law_many,
      m__law_many := PySem.W.mg_of X G n__law_many,
      a__law_is_standing := A__law_is_standing,
      d__law_is_standing := _,
      F__law_is_standing := F__law_is_standing,
      B__law_is_standing := B__law_is_standing,
      m__law_is_standing := PySem.W.mg_of X G n__law_is_standing,
      a__law_found := A__law_found,
      d__law_found := _,
      F__law_found := F__law_found,
      B__law_found := B__law_found,
      m__law_found := PySem.W.mg_of X G n__law_found,
      a_law := fa,
      d_law := _,
      F_law := F_law,
      B_law := B_law,
      c_law := ca_law,
      p_law := pt_law,
      lk_law := ⟨_, _, _, _, _, _, _, _, l_law, rfl⟩,
      cin_law := c_law,
      GT := rfl,
      m_law := PySem.W.mg_of X G n_law,
      m_Program := PySem.W.mg_of X G n_Program,
      cls_Program := ⟨pg_Program, hd_Program, po_Program, sa_Program⟩,
      na_first_Program := na_first_Program,
      na_lamp_Program := na_lamp_Program,
      na_leader_Program := na_leader_Program,
      na_steps_Program := na_steps_Program,
      z_abs := PySem.W.mg_none_of X G z_abs,
      z_all := PySem.W.mg_none_of X G z_all,
      z_bool := PySem.W.mg_none_of X G z_bool,
      z_enumerate := PySem.W.mg_none_of X G z_enumerate,
      z_int := PySem.W.mg_none_of X G z_int,
      z_isinstance := PySem.W.mg_none_of X G z_isinstance,
      z_len := PySem.W.mg_none_of X G z_len,
      z_list := PySem.W.mg_none_of X G z_list,
      z_range := PySem.W.mg_none_of X G z_range,
      z_repr := PySem.W.mg_none_of X G z_repr,
      z_str := PySem.W.mg_none_of X G z_str,
      z_tuple := PySem.W.mg_none_of X G z_tuple,
      t_MOST_SAID := tk_MOST_SAID,
      k_MOST_SAID := PySem.W.mg_of X G kc_MOST_SAID,
      t_ALL := tk_ALL,
      k_ALL := PySem.W.mg_of X G kc_ALL,
      t_MOST_STATES := tk_MOST_STATES,
      k_MOST_STATES := PySem.W.mg_of X G kc_MOST_STATES,
      t_MOST_COLOURS := tk_MOST_COLOURS,
      k_MOST_COLOURS := PySem.W.mg_of X G kc_MOST_COLOURS,
      t_MOST_FOLK := tk_MOST_FOLK,
      k_MOST_FOLK := PySem.W.mg_of X G kc_MOST_FOLK,
      t_MOST_VISITS := tk_MOST_VISITS,
      k_MOST_VISITS := PySem.W.mg_of X G kc_MOST_VISITS }, rfl, fun s v => .of_eq rfl, rfl, rfl, ch_law, np_law⟩
def spLaw (K : PySem.W.Frag) : Sp := fun vs H Q _ => ∃ (a : Addr) (ns : List Int), vs = [.ref a] ∧ ns.length ≤ 63 ∧ Only H ∧ SqL K H a (ns.map V.int) ∧ ∀ H', Q (.bl true) H'
theorem end_ok {K : PySem.W.Frag} {tb : Nat → Addr} {P : Program} {w : World} {mg : Str → Option Value} {base : Heap} {k : Nat} {f : Addr} {fd : FuncData} {g : F} (h : FnOk P w K mg base (L2.CX P w) k f fd ["script"] (spF ⟨K, tb, none, []⟩ g))
    (hg : ∀ ns : List Int, ns.length ≤ 63 → ∃ st, g [.scr ns] [] = .ok (.bl true) st) : FnOk P w K mg base (L2.CX P w) k f fd ["script"] (spLaw K) := h.imp fun vs H Q E q => by
  obtain ⟨a, ns, rfl, hl, hO, hS, q⟩ := q
  obtain ⟨st, e⟩ := hg ns hl
  refine ⟨[], [], [.scr ns], ⟨rfl, List.nodup_nil, (fun i a c h _ => by simp at h), (fun a d fs z => by cases z), fun p hp => absurd hp (by simp)⟩, ?_, ?_⟩
  · simp only [RVs, RV]
    refine ⟨_, _, rfl, ⟨a, rfl, ?_⟩, rfl⟩
    rcases hS with (hS | ⟨o, hS⟩) | hS
    · rcases hO a with z | ⟨o, xs, z⟩
      · rw [z] at hS; cases hS
      · rw [z] at hS; cases hS
    · exact .inl ⟨o, hS⟩
    · exact .inr hS
  · rw [e]
    intro v m1 H1 _ _ r
    simp only [RV] at r
    subst r
    exact q H1
end K04

namespace K04
open PySem PySem.Spec PyProof.Rows L2 LF
local macro_rules | `(tactic| walk_at "wp") => `(tactic| repeat walk_at "w1")
local macro_rules | `(tactic| walk_at "fld") => `(tactic| repeat walk_at "f1")
local macro_rules
  | `(tactic| walk_at "w1") => `(tactic| with_reducible refine r_owp_iteF (by first | decide | assumption | (exact r_decF (by assumption)) | (exact r_decF (by omega)) | (exact r_notF (by assumption)) | (exact r_notF (r_decT (by assumption))) | (exact r_notF (r_decT (by omega))) | omega | (exact r_notF (by with_unfolding_all rfl)) | (simp [LF.isNon]; done) | (simp; omega)) ?_)
  | `(tactic| walk_at "f1") => `(tactic| with_reducible refine r_owp_iteF (by first | decide | assumption | (exact r_decF (by assumption)) | (exact r_decF (by omega)) | (exact r_notF (by assumption)) | (exact r_notF (r_decT (by assumption))) | (exact r_notF (r_decT (by omega))) | omega | (exact r_notF (by with_unfolding_all rfl)) | (simp [LF.isNon]; done) | (simp; omega)) ?_)
local macro_rules
  | `(tactic| walk_at "w1") => `(tactic| with_reducible refine r_owp_iteT (by first | decide | assumption | (exact tyOk_list (by assumption)) | (exact tyOk_str) | (exact r_decT (by assumption)) | (exact r_decT (by omega)) | (exact r_notT (by assumption)) | (exact r_notT (r_decF (by assumption))) | (exact r_notT (r_decF (by omega))) | omega | (with_unfolding_all rfl) | (simp [LF.isNon]; done) | (simp; omega)) ?_)
  | `(tactic| walk_at "f1") => `(tactic| with_reducible refine r_owp_iteT (by first | decide | assumption | (exact tyOk_list (by assumption)) | (exact tyOk_str) | (exact r_decT (by assumption)) | (exact r_decT (by omega)) | (exact r_notT (by assumption)) | (exact r_notT (r_decF (by assumption))) | (exact r_notT (r_decF (by omega))) | omega | (with_unfolding_all rfl) | (simp [LF.isNon]; done) | (simp; omega)) ?_)
local macro_rules
  | `(tactic| walk_at "w1") => `(tactic| with_reducible refine r_wp_iteF (by first | decide | assumption | (exact r_decF (by assumption)) | (exact r_decF (by omega)) | (exact r_notF (by assumption)) | (exact r_notF (r_decT (by assumption))) | (exact r_notF (r_decT (by omega))) | omega | (exact r_notF (by with_unfolding_all rfl)) | (simp [LF.isNon]; done) | (simp; omega)) ?_)
  | `(tactic| walk_at "f1") => `(tactic| with_reducible refine r_wp_iteF (by first | decide | assumption | (exact r_decF (by assumption)) | (exact r_decF (by omega)) | (exact r_notF (by assumption)) | (exact r_notF (r_decT (by assumption))) | (exact r_notF (r_decT (by omega))) | omega | (exact r_notF (by with_unfolding_all rfl)) | (simp [LF.isNon]; done) | (simp; omega)) ?_)
local macro_rules
  | `(tactic| walk_at "w1") => `(tactic| with_reducible refine r_wp_iteT (by first | decide | assumption | (exact tyOk_list (by assumption)) | (exact tyOk_str) | (exact r_decT (by assumption)) | (exact r_decT (by omega)) | (exact r_notT (by assumption)) | (exact r_notT (r_decF (by assumption))) | (exact r_notT (r_decF (by omega))) | omega | (with_unfolding_all rfl) | (simp [LF.isNon]; done) | (simp; omega)) ?_)
  | `(tactic| walk_at "f1") => `(tactic| with_reducible refine r_wp_iteT (by first | decide | assumption | (exact tyOk_list (by assumption)) | (exact tyOk_str) | (exact r_decT (by assumption)) | (exact r_decT (by omega)) | (exact r_notT (by assumption)) | (exact r_notT (r_decF (by assumption))) | (exact r_notT (r_decF (by omega))) | omega | (with_unfolding_all rfl) | (simp [LF.isNon]; done) | (simp; omega)) ?_)
local macro_rules
  | `(tactic| walk_at "w1") => `(tactic| with_reducible refine r_p_iteF (by first | decide | assumption | (exact r_decF (by assumption)) | (exact r_decF (by omega)) | (exact r_notF (by assumption)) | (exact r_notF (r_decT (by assumption))) | (exact r_notF (r_decT (by omega))) | omega | (exact r_notF (by with_unfolding_all rfl)) | (simp [LF.isNon]; done) | (simp; omega)) ?_)
  | `(tactic| walk_at "f1") => `(tactic| with_reducible refine r_p_iteF (by first | decide | assumption | (exact r_decF (by assumption)) | (exact r_decF (by omega)) | (exact r_notF (by assumption)) | (exact r_notF (r_decT (by assumption))) | (exact r_notF (r_decT (by omega))) | omega | (exact r_notF (by with_unfolding_all rfl)) | (simp [LF.isNon]; done) | (simp; omega)) ?_)
local macro_rules
  | `(tactic| walk_at "w1") => `(tactic| with_reducible refine r_p_iteT (by first | decide | assumption | (exact tyOk_list (by assumption)) | (exact tyOk_str) | (exact r_decT (by assumption)) | (exact r_decT (by omega)) | (exact r_notT (by assumption)) | (exact r_notT (r_decF (by assumption))) | (exact r_notT (r_decF (by omega))) | omega | (with_unfolding_all rfl) | (simp [LF.isNon]; done) | (simp; omega)) ?_)
  | `(tactic| walk_at "f1") => `(tactic| with_reducible refine r_p_iteT (by first | decide | assumption | (exact tyOk_list (by assumption)) | (exact tyOk_str) | (exact r_decT (by assumption)) | (exact r_decT (by omega)) | (exact r_notT (by assumption)) | (exact r_notT (r_decF (by assumption))) | (exact r_notT (r_decF (by omega))) | omega | (with_unfolding_all rfl) | (simp [LF.isNon]; done) | (simp; omega)) ?_)
local macro_rules
  | `(tactic| walk_at "w1") => `(tactic| with_reducible refine r_bF (by first | decide | assumption | (exact r_decF (by assumption)) | (exact r_decF (by omega)) | (exact r_notF (by assumption)) | (exact r_notF (r_decT (by assumption))) | (exact r_notF (r_decT (by omega))) | omega | (exact r_notF (by with_unfolding_all rfl)) | (simp [LF.isNon]; done) | (simp; omega)) ?_)
  | `(tactic| walk_at "f1") => `(tactic| with_reducible refine r_bF (by first | decide | assumption | (exact r_decF (by assumption)) | (exact r_decF (by omega)) | (exact r_notF (by assumption)) | (exact r_notF (r_decT (by assumption))) | (exact r_notF (r_decT (by omega))) | omega | (exact r_notF (by with_unfolding_all rfl)) | (simp [LF.isNon]; done) | (simp; omega)) ?_)
local macro_rules
  | `(tactic| walk_at "w1") => `(tactic| with_reducible refine r_bT (by first | decide | assumption | (exact tyOk_list (by assumption)) | (exact tyOk_str) | (exact r_decT (by assumption)) | (exact r_decT (by omega)) | (exact r_notT (by assumption)) | (exact r_notT (r_decF (by assumption))) | (exact r_notT (r_decF (by omega))) | omega | (with_unfolding_all rfl) | (simp [LF.isNon]; done) | (simp; omega)) ?_)
  | `(tactic| walk_at "f1") => `(tactic| with_reducible refine r_bT (by first | decide | assumption | (exact tyOk_list (by assumption)) | (exact tyOk_str) | (exact r_decT (by assumption)) | (exact r_decT (by omega)) | (exact r_notT (by assumption)) | (exact r_notT (r_decF (by assumption))) | (exact r_notT (r_decF (by omega))) | omega | (with_unfolding_all rfl) | (simp [LF.isNon]; done) | (simp; omega)) ?_)
local macro_rules
  | `(tactic| walk_at "w1") => `(tactic| with_reducible refine r_tF (by first | decide | assumption | (exact r_decF (by assumption)) | (exact r_decF (by omega)) | (exact r_notF (by assumption)) | (exact r_notF (r_decT (by assumption))) | (exact r_notF (r_decT (by omega))) | omega | (exact r_notF (by with_unfolding_all rfl)) | (simp [LF.isNon]; done) | (simp; omega)) ?_)
  | `(tactic| walk_at "f1") => `(tactic| with_reducible refine r_tF (by first | decide | assumption | (exact r_decF (by assumption)) | (exact r_decF (by omega)) | (exact r_notF (by assumption)) | (exact r_notF (r_decT (by assumption))) | (exact r_notF (r_decT (by omega))) | omega | (exact r_notF (by with_unfolding_all rfl)) | (simp [LF.isNon]; done) | (simp; omega)) ?_)
local macro_rules
  | `(tactic| walk_at "w1") => `(tactic| with_reducible refine r_tT (by first | decide | assumption | (exact tyOk_list (by assumption)) | (exact tyOk_str) | (exact r_decT (by assumption)) | (exact r_decT (by omega)) | (exact r_notT (by assumption)) | (exact r_notT (r_decF (by assumption))) | (exact r_notT (r_decF (by omega))) | omega | (with_unfolding_all rfl) | (simp [LF.isNon]; done) | (simp; omega)) ?_)
  | `(tactic| walk_at "f1") => `(tactic| with_reducible refine r_tT (by first | decide | assumption | (exact tyOk_list (by assumption)) | (exact tyOk_str) | (exact r_decT (by assumption)) | (exact r_decT (by omega)) | (exact r_notT (by assumption)) | (exact r_notT (r_decF (by assumption))) | (exact r_notT (r_decF (by omega))) | omega | (with_unfolding_all rfl) | (simp [LF.isNon]; done) | (simp; omega)) ?_)
local macro_rules
  | `(tactic| walk_at "w1") => `(tactic| with_reducible refine r_onObj (by assumption) (by with_unfolding_all rfl) ?_)
  | `(tactic| walk_at "f1") => `(tactic| with_reducible refine r_onObj (by assumption) (by with_unfolding_all rfl) ?_)
local macro_rules
  | `(tactic| walk_at "w1") => `(tactic| with_reducible refine r_itL (by assumption) ?_)
  | `(tactic| walk_at "f1") => `(tactic| with_reducible refine r_itL (by assumption) ?_)
local macro_rules
  | `(tactic| walk_at "w1") => `(tactic| with_reducible refine r_onEnL (by assumption) ?_)
  | `(tactic| walk_at "f1") => `(tactic| with_reducible refine r_onEnL (by assumption) ?_)
local macro_rules
  | `(tactic| walk_at "w1") => `(tactic| with_reducible refine r_onLst (by assumption) ?_)
  | `(tactic| walk_at "f1") => `(tactic| with_reducible refine r_onLst (by assumption) ?_)
local macro_rules
  | `(tactic| walk_at "w1") => `(tactic| with_reducible refine r_both (by omega) ?_)
  | `(tactic| walk_at "f1") => `(tactic| with_reducible refine r_both (by omega) ?_)
local macro_rules
  | `(tactic| walk_at "w1") => `(tactic| with_reducible refine w_isiDF (by assumption) (by with_unfolding_all rfl) (by with_unfolding_all rfl) (by decide +kernel) ?_)
  | `(tactic| walk_at "f1") => `(tactic| with_reducible refine w_isiDF (by assumption) (by with_unfolding_all rfl) (by with_unfolding_all rfl) (by decide +kernel) ?_)
local macro_rules
  | `(tactic| walk_at "w1") => `(tactic| with_reducible refine w_isiCF (by assumption) (by with_unfolding_all rfl) (by with_unfolding_all rfl) (by decide +kernel) ?_)
  | `(tactic| walk_at "f1") => `(tactic| with_reducible refine w_isiCF (by assumption) (by with_unfolding_all rfl) (by with_unfolding_all rfl) (by decide +kernel) ?_)
local macro_rules
  | `(tactic| walk_at "w1") => `(tactic| with_reducible refine w_isiRF (by assumption) (by with_unfolding_all rfl) (by with_unfolding_all rfl) (by decide +kernel) ?_)
  | `(tactic| walk_at "f1") => `(tactic| with_reducible refine w_isiRF (by assumption) (by with_unfolding_all rfl) (by with_unfolding_all rfl) (by decide +kernel) ?_)
local macro_rules
  | `(tactic| walk_at "w1") => `(tactic| with_reducible refine w_isiF (by with_unfolding_all rfl) (by decide +kernel) (by with_unfolding_all (intro r h; cases h)) ?_)
  | `(tactic| walk_at "f1") => `(tactic| with_reducible refine w_isiF (by with_unfolding_all rfl) (by decide +kernel) (by with_unfolding_all (intro r h; cases h)) ?_)
local macro_rules
  | `(tactic| walk_at "w1") => `(tactic| with_reducible refine w_isiCT (by assumption) (by with_unfolding_all rfl) (by with_unfolding_all rfl) (by decide +kernel) ?_)
  | `(tactic| walk_at "f1") => `(tactic| with_reducible refine w_isiCT (by assumption) (by with_unfolding_all rfl) (by with_unfolding_all rfl) (by decide +kernel) ?_)
local macro_rules
  | `(tactic| walk_at "w1") => `(tactic| with_reducible refine w_isiRT (by assumption) (by with_unfolding_all rfl) (by with_unfolding_all rfl) (by decide +kernel) ?_)
  | `(tactic| walk_at "f1") => `(tactic| with_reducible refine w_isiRT (by assumption) (by with_unfolding_all rfl) (by with_unfolding_all rfl) (by decide +kernel) ?_)
local macro_rules
  | `(tactic| walk_at "w1") => `(tactic| with_reducible refine w_isiT (by with_unfolding_all rfl) (by decide +kernel) (by with_unfolding_all (intro r h; cases h)) ?_)
  | `(tactic| walk_at "f1") => `(tactic| with_reducible refine w_isiT (by with_unfolding_all rfl) (by decide +kernel) (by with_unfolding_all (intro r h; cases h)) ?_)
local macro_rules
  | `(tactic| walk_at "w1") => `(tactic| with_reducible refine w_mulYI (by omega) ?_)
  | `(tactic| walk_at "f1") => `(tactic| with_reducible refine w_mulYI (by omega) ?_)
local macro_rules
  | `(tactic| walk_at "w1") => `(tactic| with_reducible refine w_mulXI (by omega) ?_)
  | `(tactic| walk_at "f1") => `(tactic| with_reducible refine w_mulXI (by omega) ?_)
local macro_rules
  | `(tactic| walk_at "w1") => `(tactic| with_reducible refine w_mul (by omega) ?_)
  | `(tactic| walk_at "f1") => `(tactic| with_reducible refine w_mul (by omega) ?_)
local macro_rules
  | `(tactic| walk_at "w1") => `(tactic| with_reducible refine w_div (by omega) (by omega) ?_)
  | `(tactic| walk_at "f1") => `(tactic| with_reducible refine w_div (by omega) (by omega) ?_)
local macro_rules
  | `(tactic| walk_at "w1") => `(tactic| with_reducible refine w_mod (by omega) ?_)
  | `(tactic| walk_at "f1") => `(tactic| with_reducible refine w_mod (by omega) ?_)
local macro_rules
  | `(tactic| walk_at "w1") => `(tactic| with_reducible refine w_tupleL (by assumption) ?_)
  | `(tactic| walk_at "f1") => `(tactic| with_reducible refine w_tupleL (by assumption) ?_)
local macro_rules
  | `(tactic| walk_at "w1") => `(tactic| with_reducible refine w_fld (by assumption) (by with_unfolding_all rfl) (by with_unfolding_all rfl) ?_)
  | `(tactic| walk_at "f1") => `(tactic| with_reducible refine w_fld (by assumption) (by with_unfolding_all rfl) (by with_unfolding_all rfl) ?_)
local macro_rules
  | `(tactic| walk_at "w1") => `(tactic| with_reducible refine w_lenL (by assumption) ?_)
  | `(tactic| walk_at "f1") => `(tactic| with_reducible refine w_lenL (by assumption) ?_)
local macro_rules
  | `(tactic| walk_at "w1") => `(tactic| with_reducible refine w_ixT (by with_unfolding_all rfl) ?_)
  | `(tactic| walk_at "f1") => `(tactic| with_reducible refine w_ixT (by with_unfolding_all rfl) ?_)
local macro_rules
  | `(tactic| walk_at "w1") => `(tactic| with_reducible refine w_ixL (by assumption) (by with_unfolding_all rfl) ?_)
  | `(tactic| walk_at "f1") => `(tactic| with_reducible refine w_ixL (by assumption) (by with_unfolding_all rfl) ?_)
local macro_rules
  | `(tactic| walk_at "w1") => `(tactic| with_reducible refine r_var (by with_unfolding_all rfl) ?_)
  | `(tactic| walk_at "f1") => `(tactic| with_reducible refine r_var (by with_unfolding_all rfl) ?_)
local macro_rules
  | `(tactic| walk_at "w1") => `(tactic| ((with_reducible refine r_owp_par ?_); (try dsimp only [List.set])))
  | `(tactic| walk_at "f1") => `(tactic| ((with_reducible refine r_owp_par ?_); (try dsimp only [List.set])))
local macro_rules
  | `(tactic| walk_at "w1") => `(tactic| ((with_reducible refine r_owp_asg ?_); (try dsimp only [List.set])))
  | `(tactic| walk_at "f1") => `(tactic| ((with_reducible refine r_owp_asg ?_); (try dsimp only [List.set])))
local macro_rules
  | `(tactic| walk_at "w1") => `(tactic| with_reducible refine r_onEnT ?_)
  | `(tactic| walk_at "f1") => `(tactic| with_reducible refine r_onEnT ?_)
local macro_rules
  | `(tactic| walk_at "w1") => `(tactic| with_reducible refine q_iEnX ?_)
  | `(tactic| walk_at "f1") => `(tactic| with_reducible refine q_iEnX ?_)
local macro_rules
  | `(tactic| walk_at "w1") => `(tactic| with_reducible refine r_asgT ?_)
  | `(tactic| walk_at "f1") => `(tactic| with_reducible refine r_asgT ?_)
local macro_rules
  | `(tactic| walk_at "w1") => `(tactic| with_reducible refine r_onSeqT ?_)
  | `(tactic| walk_at "f1") => `(tactic| with_reducible refine r_onSeqT ?_)
local macro_rules
  | `(tactic| walk_at "w1") => `(tactic| with_reducible refine r_xstar ?_)
  | `(tactic| walk_at "f1") => `(tactic| with_reducible refine r_xstar ?_)
local macro_rules
  | `(tactic| walk_at "w1") => `(tactic| with_reducible refine r_xcons ?_)
  | `(tactic| walk_at "f1") => `(tactic| with_reducible refine r_xcons ?_)
local macro_rules
  | `(tactic| walk_at "w1") => `(tactic| with_reducible refine r_xnil ?_)
  | `(tactic| walk_at "f1") => `(tactic| with_reducible refine r_xnil ?_)
local macro_rules
  | `(tactic| walk_at "w1") => `(tactic| with_reducible refine r_bltX ?_)
  | `(tactic| walk_at "f1") => `(tactic| with_reducible refine r_bltX ?_)
local macro_rules
  | `(tactic| walk_at "w1") => `(tactic| with_reducible refine w_subBB ?_)
  | `(tactic| walk_at "f1") => `(tactic| with_reducible refine w_subBB ?_)
local macro_rules
  | `(tactic| walk_at "w1") => `(tactic| with_reducible refine w_subBI ?_)
  | `(tactic| walk_at "f1") => `(tactic| with_reducible refine w_subBI ?_)
local macro_rules
  | `(tactic| walk_at "w1") => `(tactic| with_reducible refine w_addBB ?_)
  | `(tactic| walk_at "f1") => `(tactic| with_reducible refine w_addBB ?_)
local macro_rules
  | `(tactic| walk_at "w1") => `(tactic| with_reducible refine w_addBI ?_)
  | `(tactic| walk_at "f1") => `(tactic| with_reducible refine w_addBI ?_)
local macro_rules
  | `(tactic| walk_at "w1") => `(tactic| with_reducible refine w_strBS ?_)
  | `(tactic| walk_at "f1") => `(tactic| with_reducible refine w_strBS ?_)
local macro_rules
  | `(tactic| walk_at "w1") => `(tactic| with_reducible refine w_slT ?_)
  | `(tactic| walk_at "f1") => `(tactic| with_reducible refine w_slT ?_)
local macro_rules
  | `(tactic| walk_at "w1") => `(tactic| with_reducible refine r_try_ex ?_)
  | `(tactic| walk_at "f1") => `(tactic| with_reducible refine r_try_ex ?_)
local macro_rules
  | `(tactic| walk_at "w1") => `(tactic| with_reducible refine r_try_rt ?_)
  | `(tactic| walk_at "f1") => `(tactic| with_reducible refine r_try_rt ?_)
local macro_rules
  | `(tactic| walk_at "w1") => `(tactic| with_reducible refine r_try_nx ?_)
  | `(tactic| walk_at "f1") => `(tactic| with_reducible refine r_try_nx ?_)
local macro_rules
  | `(tactic| walk_at "w1") => `(tactic| with_reducible refine r_try ?_)
  | `(tactic| walk_at "f1") => `(tactic| with_reducible refine r_try ?_)
local macro_rules
  | `(tactic| walk_at "w1") => `(tactic| with_reducible refine r_raise2 ?_)
  | `(tactic| walk_at "f1") => `(tactic| with_reducible refine r_raise2 ?_)
local macro_rules
  | `(tactic| walk_at "w1") => `(tactic| with_reducible refine r_raise1 ?_)
  | `(tactic| walk_at "f1") => `(tactic| with_reducible refine r_raise1 ?_)
local macro_rules
  | `(tactic| walk_at "w1") => `(tactic| with_reducible refine r_raise0 ?_)
  | `(tactic| walk_at "f1") => `(tactic| with_reducible refine r_raise0 ?_)
local macro_rules
  | `(tactic| walk_at "w1") => `(tactic| with_reducible refine w_neg ?_)
  | `(tactic| walk_at "f1") => `(tactic| with_reducible refine w_neg ?_)
local macro_rules
  | `(tactic| walk_at "w1") => `(tactic| with_reducible refine w_neB ?_)
  | `(tactic| walk_at "f1") => `(tactic| with_reducible refine w_neB ?_)
local macro_rules
  | `(tactic| walk_at "w1") => `(tactic| with_reducible refine w_eqB ?_)
  | `(tactic| walk_at "f1") => `(tactic| with_reducible refine w_eqB ?_)
local macro_rules
  | `(tactic| walk_at "w1") => `(tactic| with_reducible refine w_neI ?_)
  | `(tactic| walk_at "f1") => `(tactic| with_reducible refine w_neI ?_)
local macro_rules
  | `(tactic| walk_at "w1") => `(tactic| with_reducible refine w_eqI ?_)
  | `(tactic| walk_at "f1") => `(tactic| with_reducible refine w_eqI ?_)
local macro_rules
  | `(tactic| walk_at "w1") => `(tactic| with_reducible refine w_abs ?_)
  | `(tactic| walk_at "f1") => `(tactic| with_reducible refine w_abs ?_)
local macro_rules
  | `(tactic| walk_at "w1") => `(tactic| with_reducible refine w_strS ?_)
  | `(tactic| walk_at "f1") => `(tactic| with_reducible refine w_strS ?_)
local macro_rules
  | `(tactic| walk_at "w1") => `(tactic| with_reducible refine w_intI ?_)
  | `(tactic| walk_at "f1") => `(tactic| with_reducible refine w_intI ?_)
local macro_rules
  | `(tactic| walk_at "w1") => `(tactic| with_reducible refine w_lenT ?_)
  | `(tactic| walk_at "f1") => `(tactic| with_reducible refine w_lenT ?_)
local macro_rules
  | `(tactic| walk_at "w1") => `(tactic| with_reducible refine w_isNot ?_)
  | `(tactic| walk_at "f1") => `(tactic| with_reducible refine w_isNot ?_)
local macro_rules
  | `(tactic| walk_at "w1") => `(tactic| with_reducible refine w_is ?_)
  | `(tactic| walk_at "f1") => `(tactic| with_reducible refine w_is ?_)
local macro_rules
  | `(tactic| walk_at "w1") => `(tactic| with_reducible refine w_ge ?_)
  | `(tactic| walk_at "f1") => `(tactic| with_reducible refine w_ge ?_)
local macro_rules
  | `(tactic| walk_at "w1") => `(tactic| with_reducible refine w_gt ?_)
  | `(tactic| walk_at "f1") => `(tactic| with_reducible refine w_gt ?_)
local macro_rules
  | `(tactic| walk_at "w1") => `(tactic| with_reducible refine w_le ?_)
  | `(tactic| walk_at "f1") => `(tactic| with_reducible refine w_le ?_)
local macro_rules
  | `(tactic| walk_at "w1") => `(tactic| with_reducible refine w_lt ?_)
  | `(tactic| walk_at "f1") => `(tactic| with_reducible refine w_lt ?_)
local macro_rules
  | `(tactic| walk_at "w1") => `(tactic| with_reducible refine w_sub ?_)
  | `(tactic| walk_at "f1") => `(tactic| with_reducible refine w_sub ?_)
local macro_rules
  | `(tactic| walk_at "w1") => `(tactic| with_reducible refine w_addI ?_)
  | `(tactic| walk_at "f1") => `(tactic| with_reducible refine w_addI ?_)
local macro_rules
  | `(tactic| walk_at "w1") => `(tactic| with_reducible refine r_wo_some ?_)
  | `(tactic| walk_at "f1") => `(tactic| with_reducible refine r_wo_some ?_)
local macro_rules
  | `(tactic| walk_at "w1") => `(tactic| with_reducible refine r_wp_ok ?_)
  | `(tactic| walk_at "f1") => `(tactic| with_reducible refine r_wp_ok ?_)
local macro_rules
  | `(tactic| walk_at "w1") => `(tactic| with_reducible refine r_wp_ofO ?_)
  | `(tactic| walk_at "f1") => `(tactic| with_reducible refine r_wp_ofO ?_)
local macro_rules
  | `(tactic| walk_at "w1") => `(tactic| with_reducible refine r_wp_bind ?_)
  | `(tactic| walk_at "f1") => `(tactic| with_reducible refine r_wp_bind ?_)
local macro_rules
  | `(tactic| walk_at "w1") => `(tactic| with_reducible refine r_itS ?_)
  | `(tactic| walk_at "f1") => `(tactic| with_reducible refine r_itS ?_)
local macro_rules
  | `(tactic| walk_at "w1") => `(tactic| with_reducible refine r_itT ?_)
  | `(tactic| walk_at "f1") => `(tactic| with_reducible refine r_itT ?_)
local macro_rules
  | `(tactic| walk_at "w1") => `(tactic| with_reducible refine r_onNon ?_)
  | `(tactic| walk_at "f1") => `(tactic| with_reducible refine r_onNon ?_)
local macro_rules
  | `(tactic| walk_at "w1") => `(tactic| with_reducible refine r_onStr ?_)
  | `(tactic| walk_at "f1") => `(tactic| with_reducible refine r_onStr ?_)
local macro_rules
  | `(tactic| walk_at "w1") => `(tactic| with_reducible refine r_onInt ?_)
  | `(tactic| walk_at "f1") => `(tactic| with_reducible refine r_onInt ?_)
local macro_rules
  | `(tactic| walk_at "w1") => `(tactic| with_reducible refine r_onBl ?_)
  | `(tactic| walk_at "f1") => `(tactic| with_reducible refine r_onBl ?_)
local macro_rules
  | `(tactic| walk_at "w1") => `(tactic| with_reducible refine q_iEn ?_)
  | `(tactic| walk_at "f1") => `(tactic| with_reducible refine q_iEn ?_)
local macro_rules
  | `(tactic| walk_at "w1") => `(tactic| with_reducible refine q_iR2 ?_)
  | `(tactic| walk_at "f1") => `(tactic| with_reducible refine q_iR2 ?_)
local macro_rules
  | `(tactic| walk_at "w1") => `(tactic| with_reducible refine q_iR1 ?_)
  | `(tactic| walk_at "f1") => `(tactic| with_reducible refine q_iR1 ?_)
local macro_rules
  | `(tactic| walk_at "w1") => `(tactic| with_reducible refine q_iS ?_)
  | `(tactic| walk_at "f1") => `(tactic| with_reducible refine q_iS ?_)
local macro_rules
  | `(tactic| walk_at "w1") => `(tactic| with_reducible refine r_wp_sl ?_)
  | `(tactic| walk_at "f1") => `(tactic| with_reducible refine r_wp_sl ?_)
local macro_rules
  | `(tactic| walk_at "w1") => `(tactic| with_reducible refine q_part ?_)
  | `(tactic| walk_at "f1") => `(tactic| with_reducible refine q_part ?_)
local macro_rules
  | `(tactic| walk_at "w1") => `(tactic| with_reducible refine r_wp_partN ?_)
  | `(tactic| walk_at "f1") => `(tactic| with_reducible refine r_wp_partN ?_)
local macro_rules
  | `(tactic| walk_at "w1") => `(tactic| with_reducible refine q_join ?_)
  | `(tactic| walk_at "f1") => `(tactic| with_reducible refine q_join ?_)
local macro_rules
  | `(tactic| walk_at "w1") => `(tactic| with_reducible refine r_wp_joinN ?_)
  | `(tactic| walk_at "f1") => `(tactic| with_reducible refine r_wp_joinN ?_)
local macro_rules
  | `(tactic| walk_at "w1") => `(tactic| with_reducible refine q_fmt ?_)
  | `(tactic| walk_at "f1") => `(tactic| with_reducible refine q_fmt ?_)
local macro_rules
  | `(tactic| walk_at "w1") => `(tactic| with_reducible refine q_make ?_)
  | `(tactic| walk_at "f1") => `(tactic| with_reducible refine q_make ?_)
local macro_rules
  | `(tactic| walk_at "w1") => `(tactic| with_reducible refine q_meth ?_)
  | `(tactic| walk_at "f1") => `(tactic| with_reducible refine q_meth ?_)
local macro_rules
  | `(tactic| walk_at "w1") => `(tactic| with_reducible refine r_wp_mt ?_)
  | `(tactic| walk_at "f1") => `(tactic| with_reducible refine r_wp_mt ?_)
local macro_rules
  | `(tactic| walk_at "w1") => `(tactic| with_reducible refine r_wp_call ?_)
  | `(tactic| walk_at "f1") => `(tactic| with_reducible refine r_wp_call ?_)
local macro_rules
  | `(tactic| walk_at "w1") => `(tactic| with_reducible refine q_chain ?_)
  | `(tactic| walk_at "f1") => `(tactic| with_reducible refine q_chain ?_)
local macro_rules
  | `(tactic| walk_at "w1") => `(tactic| with_reducible refine q_eNot ?_)
  | `(tactic| walk_at "f1") => `(tactic| with_reducible refine q_eNot ?_)
local macro_rules
  | `(tactic| walk_at "w1") => `(tactic| with_reducible refine q_eOr ?_)
  | `(tactic| walk_at "f1") => `(tactic| with_reducible refine q_eOr ?_)
local macro_rules
  | `(tactic| walk_at "w1") => `(tactic| with_reducible refine q_eAnd ?_)
  | `(tactic| walk_at "f1") => `(tactic| with_reducible refine q_eAnd ?_)
local macro_rules
  | `(tactic| walk_at "w1") => `(tactic| with_reducible refine r_wp_tYes ?_)
  | `(tactic| walk_at "f1") => `(tactic| with_reducible refine r_wp_tYes ?_)
local macro_rules
  | `(tactic| walk_at "w1") => `(tactic| with_reducible refine r_wp_tNot ?_)
  | `(tactic| walk_at "f1") => `(tactic| with_reducible refine r_wp_tNot ?_)
local macro_rules
  | `(tactic| walk_at "w1") => `(tactic| with_reducible refine r_wp_tOr ?_)
  | `(tactic| walk_at "f1") => `(tactic| with_reducible refine r_wp_tOr ?_)
local macro_rules
  | `(tactic| walk_at "w1") => `(tactic| with_reducible refine r_wp_tAnd ?_)
  | `(tactic| walk_at "f1") => `(tactic| with_reducible refine r_wp_tAnd ?_)
local macro_rules
  | `(tactic| walk_at "w1") => `(tactic| with_reducible refine q_tTru ?_)
  | `(tactic| walk_at "f1") => `(tactic| with_reducible refine q_tTru ?_)
local macro_rules
  | `(tactic| walk_at "w1") => `(tactic| with_reducible refine q_asB ?_)
  | `(tactic| walk_at "f1") => `(tactic| with_reducible refine q_asB ?_)
local macro_rules
  | `(tactic| walk_at "w1") => `(tactic| with_reducible refine r_wp_if ?_)
  | `(tactic| walk_at "f1") => `(tactic| with_reducible refine r_wp_if ?_)
local macro_rules
  | `(tactic| walk_at "w1") => `(tactic| with_reducible refine r_wp_c ?_)
  | `(tactic| walk_at "f1") => `(tactic| with_reducible refine r_wp_c ?_)
local macro_rules
  | `(tactic| walk_at "w1") => `(tactic| with_reducible refine r_wp_nil ?_)
  | `(tactic| walk_at "f1") => `(tactic| with_reducible refine r_wp_nil ?_)
local macro_rules
  | `(tactic| walk_at "w1") => `(tactic| with_reducible refine r_wp_cons ?_)
  | `(tactic| walk_at "f1") => `(tactic| with_reducible refine r_wp_cons ?_)
local macro_rules
  | `(tactic| walk_at "w1") => `(tactic| with_reducible refine r_wp_blt ?_)
  | `(tactic| walk_at "f1") => `(tactic| with_reducible refine r_wp_blt ?_)
local macro_rules
  | `(tactic| walk_at "w1") => `(tactic| with_reducible refine r_wp_un ?_)
  | `(tactic| walk_at "f1") => `(tactic| with_reducible refine r_wp_un ?_)
local macro_rules
  | `(tactic| walk_at "w1") => `(tactic| with_reducible refine r_wp_bin ?_)
  | `(tactic| walk_at "f1") => `(tactic| with_reducible refine r_wp_bin ?_)
local macro_rules
  | `(tactic| walk_at "w1") => `(tactic| with_reducible refine r_owp_out ?_)
  | `(tactic| walk_at "f1") => `(tactic| with_reducible refine r_owp_out ?_)
local macro_rules
  | `(tactic| walk_at "w1") => `(tactic| with_reducible refine r_owp_rt ?_)
  | `(tactic| walk_at "f1") => `(tactic| with_reducible refine r_owp_rt ?_)
local macro_rules
  | `(tactic| walk_at "w1") => `(tactic| with_reducible refine r_owp_nx ?_)
  | `(tactic| walk_at "f1") => `(tactic| with_reducible refine r_owp_nx ?_)
local macro_rules
  | `(tactic| walk_at "w1") => `(tactic| with_reducible refine r_owp_for ?_)
  | `(tactic| walk_at "f1") => `(tactic| with_reducible refine r_owp_for ?_)
local macro_rules
  | `(tactic| walk_at "w1") => `(tactic| with_reducible refine r_owp_setF ?_)
  | `(tactic| walk_at "f1") => `(tactic| with_reducible refine r_owp_setF ?_)
local macro_rules
  | `(tactic| walk_at "w1") => `(tactic| with_reducible refine r_owp_setIx ?_)
  | `(tactic| walk_at "f1") => `(tactic| with_reducible refine r_owp_setIx ?_)
local macro_rules
  | `(tactic| walk_at "w1") => `(tactic| with_reducible refine r_owp_cnt ?_)
  | `(tactic| walk_at "f1") => `(tactic| with_reducible refine r_owp_cnt ?_)
local macro_rules
  | `(tactic| walk_at "w1") => `(tactic| with_reducible refine r_owp_brk ?_)
  | `(tactic| walk_at "f1") => `(tactic| with_reducible refine r_owp_brk ?_)
local macro_rules
  | `(tactic| walk_at "w1") => `(tactic| with_reducible refine r_owp_skip ?_)
  | `(tactic| walk_at "f1") => `(tactic| with_reducible refine r_owp_skip ?_)
local macro_rules
  | `(tactic| walk_at "w1") => `(tactic| with_reducible refine r_owp_expr ?_)
  | `(tactic| walk_at "f1") => `(tactic| with_reducible refine r_owp_expr ?_)
local macro_rules
  | `(tactic| walk_at "w1") => `(tactic| with_reducible refine r_owp_ret ?_)
  | `(tactic| walk_at "f1") => `(tactic| with_reducible refine r_owp_ret ?_)
local macro_rules
  | `(tactic| walk_at "w1") => `(tactic| with_reducible refine r_owp_if ?_)
  | `(tactic| walk_at "f1") => `(tactic| with_reducible refine r_owp_if ?_)
local macro_rules
  | `(tactic| walk_at "w1") => `(tactic| with_reducible refine r_owp_seq ?_)
local macro_rules
  | `(tactic| walk_at "w1") => `(tactic| with_reducible refine r_fn_ex ?_)
  | `(tactic| walk_at "f1") => `(tactic| with_reducible refine r_fn_ex ?_)
local macro_rules
  | `(tactic| walk_at "w1") => `(tactic| with_reducible refine r_fn_rt ?_)
  | `(tactic| walk_at "f1") => `(tactic| with_reducible refine r_fn_rt ?_)
local macro_rules
  | `(tactic| walk_at "w1") => `(tactic| with_reducible refine r_fn_nx ?_)
  | `(tactic| walk_at "f1") => `(tactic| with_reducible refine r_fn_nx ?_)
local macro_rules
  | `(tactic| walk_at "w1") => `(tactic| with_reducible refine r_loop_ex ?_)
  | `(tactic| walk_at "f1") => `(tactic| with_reducible refine r_loop_ex ?_)
local macro_rules
  | `(tactic| walk_at "w1") => `(tactic| with_reducible refine r_loop_ct ?_)
  | `(tactic| walk_at "f1") => `(tactic| with_reducible refine r_loop_ct ?_)
local macro_rules
  | `(tactic| walk_at "w1") => `(tactic| with_reducible refine r_loop_bk ?_)
  | `(tactic| walk_at "f1") => `(tactic| with_reducible refine r_loop_bk ?_)
local macro_rules
  | `(tactic| walk_at "w1") => `(tactic| with_reducible refine r_loop_rt ?_)
  | `(tactic| walk_at "f1") => `(tactic| with_reducible refine r_loop_rt ?_)
local macro_rules
  | `(tactic| walk_at "w1") => `(tactic| with_reducible refine r_loop_nx ?_)
  | `(tactic| walk_at "f1") => `(tactic| with_reducible refine r_loop_nx ?_)
local macro_rules
  | `(tactic| walk_at "w1") => `(tactic| with_reducible refine r_seq_ex ?_)
  | `(tactic| walk_at "f1") => `(tactic| with_reducible refine r_seq_ex ?_)
local macro_rules
  | `(tactic| walk_at "w1") => `(tactic| with_reducible refine r_seq_ct ?_)
  | `(tactic| walk_at "f1") => `(tactic| with_reducible refine r_seq_ct ?_)
local macro_rules
  | `(tactic| walk_at "w1") => `(tactic| with_reducible refine r_seq_bk ?_)
  | `(tactic| walk_at "f1") => `(tactic| with_reducible refine r_seq_bk ?_)
local macro_rules
  | `(tactic| walk_at "w1") => `(tactic| with_reducible refine r_seq_rt ?_)
  | `(tactic| walk_at "f1") => `(tactic| with_reducible refine r_seq_rt ?_)
local macro_rules
  | `(tactic| walk_at "w1") => `(tactic| with_reducible refine r_seq_nx ?_)
local macro_rules | `(tactic| walk_at "fn") => `(tactic| (refine wp_fn rfl ?_; dsimp only [List.map_cons, List.map_nil, List.cons_append, List.nil_append, List.replicate, List.map, Nat.reduceSub]))

/-! ### the pot -/
structure Pot (st : Sto) (p : Nat) (q : Nat) (ns : List Int) : Prop where
  ex : ∃ a b c : Int, st[p]? = some (.lst [.ref q, .int a, .int b, .int c]) ∧ 0 ≤ a ∧ 0 ≤ b ∧ b < 2147483647 ∧ 0 ≤ c
  at_q : st[q]? = some (.lst (ns.map D.int))
  ne : q ≠ p
  le : ns.length ≤ 63
  nn : ∀ n ∈ ns, 0 ≤ n
theorem Pot.of {st s : Sto} {p q : Nat} {ns : List Int} (P : Pot st p q ns) {a b c : Int} (h : s[p]? = some (.lst [.ref q, .int a, .int b, .int c])) (k : Chg [p] st s) (ha : 0 ≤ a) (hb : 0 ≤ b) (hb2 : b < 2147483647) (hc : 0 ≤ c) : Pot s p q ns :=
  ⟨⟨a, b, c, h, ha, hb, hb2, hc⟩, k.get (by simpa using P.ne) P.at_q, P.ne, P.le, P.nn⟩
theorem Pot.keep {st s : Sto} {p q : Nat} {ns : List Int} (P : Pot st p q ns) (k : Chg [] st s) : Pot s p q ns := by
  obtain ⟨⟨a, b, c, hp, ha, hb, hb2, hc⟩, hq, hne, hle, hnn⟩ := P
  exact ⟨⟨a, b, c, k.get0 hp, ha, hb, hb2, hc⟩, k.get0 hq, hne, hle, hnn⟩
theorem atI_map {ns : List Int} {a : Int} (h0 : 0 ≤ a) (h1 : a < ns.length) : ∃ x ∈ ns, atI (ns.map D.int) a = some (.int x) := by
  have h2 : a.toNat < ns.length := by omega
  refine ⟨ns[a.toNat], List.getElem_mem h2, ?_⟩
  unfold atI ixN
  rw [if_pos h0, if_pos (by simpa using h1)]
  simp [h2]
theorem law_draw {st : Sto} {p q : Nat} {ns : List Int} {m : Int} (P : Pot st p q ns) (h0 : 1 ≤ m) (h1 : m < 1000) {X : XP} :
    Wp X (fun d s => ∃ r : Nat, d = .int r ∧ (r : Int) < m ∧ Pot s p q ns ∧ Chg [p] st s) (f__law_draw [.ref p, .int m] st) := by
  have P0 := P
  obtain ⟨⟨a, b, c, hp, ha, hb, hb2, hc⟩, hq, hne, hle, hnn⟩ := P
  have hmod : ∀ x : Int, ∃ r : Nat, x % m = r ∧ (r : Int) < m := fun x => ⟨(x % m).toNat, by have := Int.emod_nonneg x (show m ≠ 0 by omega); omega, by have := Int.emod_lt_of_pos x (show 0 < m by omega); have := Int.emod_nonneg x (show m ≠ 0 by omega); omega⟩
  have hm0 : 0 < m := by omega
  have hm1 : m < 1073741824 := by omega
  walk_at "fn"
  unfold b__law_draw
  by_cases c1 : m < 2
  · walk_at "wp"
    exact ⟨0, rfl, by omega, P0, Chg.refl⟩
  by_cases c2 : 0 < c
  · walk_at "wp"
    refine wo_setIx hp (by rfl) fun s hs k => ?_
    walk_at "wp"
    obtain ⟨r, e, hr⟩ := hmod c
    exact ⟨r, by rw [e], hr, P0.of hs k ha hb hb2 (Int.ediv_nonneg hc (by omega)), k⟩
  by_cases c3 : a < (ns.map D.int).length
  · obtain ⟨x, hx, ex⟩ := atI_map (ns := ns) ha (by simpa using c3)
    have hx0 := hnn x hx
    walk_at "wp"
    refine w_ixL hq ex ?_
    walk_at "wp"
    refine wo_setIx hp (by rfl) fun s2 hs2 k => ?_
    walk_at "wp"
    refine w_pow ⟨by decide, by decide, by decide⟩ ?_
    walk_at "wp"
    refine r_owp_ite (fun c4 => ?_) (fun c4 => ?_)
    · walk_at "wp"
      refine wo_setIx hs2 (by rfl) fun s3 hs3 k3 => ?_
      walk_at "wp"
      obtain ⟨r, e, hr⟩ := hmod x
      exact ⟨r, by rw [e], hr, P0.of hs3 (k.trans k3) (by omega) hb hb2 (Int.ediv_nonneg hx0 (by omega)), k.trans k3⟩
    · walk_at "wp"
      refine wo_setIx hs2 (by rfl) fun s9 hs9 k9 => ?_
      walk_at "wp"
      obtain ⟨r, e, hr⟩ := hmod ((b * 48271 + x + 12345) % 2147483647 * ((b * 48271 + x + 12345) % 2147483647) / 64 + (b * 48271 + x + 12345) % 2147483647 / 7)
      exact ⟨r, by rw [e], hr, P0.of hs9 (k.trans k9) (by omega) (by omega) (by omega) hc, (k.trans k9)⟩
  · walk_at "wp"
    refine wo_setIx hp (by rfl) fun s9 hs9 k9 => ?_
    walk_at "wp"
    obtain ⟨r, e, hr⟩ := hmod ((b * 48271 + 0 + 12345) % 2147483647 * ((b * 48271 + 0 + 12345) % 2147483647) / 64 + (b * 48271 + 0 + 12345) % 2147483647 / 7)
    exact ⟨r, by rw [e], hr, P0.of hs9 k9 (by omega) (by omega) (by omega) hc, k9⟩
/-! ### what is drawn -/
inductive Say where
  | no | num (n : Nat) | all
def Say.d : Say → D
  | .no => .non
  | .num n => .int n
  | .all => .str (Str.ofString "all")
def Say.ok : Say → Prop
  | .num n => 1 ≤ n ∧ n ≤ 4
  | _ => True
abbrev Stp := Nat × Nat × Say
def stpD (s : Stp) : D := .tup [.int s.1, .int s.2.1, s.2.2.d]
def rowD (r : List Stp) : D := .tup (r.map stpD)
def stepsD (rs : List (List Stp)) : D := .tup (rs.map rowD)
def optD : Option Nat → D
  | none => .non
  | some n => .int n
structure Prg where
  rows : List (List Stp)
  first : Nat
  leader : Option Nat
  lamp : Option Nat
structure Prg.Ok (g : Prg) (C : Nat) : Prop where
  n1 : 1 ≤ g.rows.length
  n5 : g.rows.length ≤ 5
  c1 : 1 ≤ C
  c4 : C ≤ 4
  row : ∀ r ∈ g.rows, r.length = C
  stp : ∀ r ∈ g.rows, ∀ s ∈ r, s.1 < g.rows.length ∧ s.2.1 < C ∧ s.2.2.ok
  first : g.first < g.rows.length
  leader : ∀ n, g.leader = some n → n < g.rows.length
  lamp : ∀ n, g.lamp = some n → n < C
theorem law_pick {st : Sto} {p q l : Nat} {ns : List Int} {ds : List D} (P : Pot st p q ns) (hl : st[l]? = some (.lst ds)) (h1 : 1 ≤ ds.length) (h2 : ds.length < 1000) (hlp : l ≠ p) {X : XP} :
    Wp X (fun d s => d ∈ ds ∧ Pot s p q ns ∧ Chg [p] st s) (f__law_pick [.ref p, .ref l] st) := by
  walk_at "fn"
  unfold b__law_pick
  walk_at "wp"
  refine (law_draw P (by omega) (by omega)).mono ?_
  rintro _ s ⟨r, rfl, hr, P1, k⟩
  have hl1 := k.get (by simpa using hlp) hl
  walk_at "wp"
  have hr2 : r < ds.length := by omega
  refine w_ixL (d := ds[r]) hl1 ?_ ?_
  · unfold atI ixN
    rw [if_pos (by omega), if_pos (by omega)]
    simp
  · exact ⟨List.getElem_mem hr2, P1, k⟩
theorem law_saying {st : Sto} {p q : Nat} {ns : List Int} (P : Pot st p q ns) {X : XP} :
    Wp X (fun d s => ∃ y : Say, y.ok ∧ d = y.d ∧ Pot s p q ns ∧ Chg [p] st s) (f__law_saying [.ref p] st) := by
  have hp := P.ex
  obtain ⟨a, b, c, hp, _⟩ := hp
  walk_at "fn"
  unfold b__law_saying
  walk_at "wp"
  refine wo_lst (by simp [LIM]) fun r s hr hn k => ?_
  walk_at "wp"
  refine (law_pick (P.keep k) hr (by decide) (by decide) (fun e => by subst e; rw [hp] at hn; cases hn)).mono ?_
  rintro d s1 ⟨hd, P1, k1⟩
  walk_at "wp"
  simp only [List.mem_cons, List.not_mem_nil, or_false] at hd
  have kk : Chg [p] st s1 := k.up.trans k1
  rcases hd with rfl | rfl | rfl | rfl | rfl | rfl | rfl | rfl | rfl
  · exact ⟨.no, trivial, rfl, P1, kk⟩
  · exact ⟨.no, trivial, rfl, P1, kk⟩
  · exact ⟨.no, trivial, rfl, P1, kk⟩
  · exact ⟨.no, trivial, rfl, P1, kk⟩
  · exact ⟨.num 1, by simp [Say.ok], rfl, P1, kk⟩
  · exact ⟨.num 2, by simp [Say.ok], rfl, P1, kk⟩
  · exact ⟨.num 3, by simp [Say.ok], rfl, P1, kk⟩
  · exact ⟨.num 4, by simp [Say.ok], rfl, P1, kk⟩
  · exact ⟨.all, trivial, rfl, P1, kk⟩
theorem rng_get {n i : Nat} {d : D} (h : (rngI 0 n)[i]? = some d) : i < n ∧ d = .int i := by
  unfold rngI at h
  rw [List.getElem?_map] at h
  by_cases hi : i < n
  · rw [List.getElem?_range hi] at h
    simp at h
    exact ⟨hi, h.symm⟩
  · rw [List.getElem?_eq_none (by simpa using hi)] at h
    cases h
theorem rng_len {n : Nat} {lo : Int} : (rngI lo n).length = n := by simp [rngI]
theorem law_spec {st : Sto} {p q m : Nat} {ns : List Int} (P : Pot st p q ns) (hm : st[m]? = some (.lst [.int 5, .int 4])) (hmp : m ≠ p) {X : XP} :
    Wp X (fun d s => ∃ (g : Prg) (C r : Nat), g.Ok C ∧ d = .ref r ∧ s[r]? = some (.lst [stepsD g.rows, .int g.first, optD g.leader, optD g.lamp]) ∧ st[r]? = none ∧ Pot s p q ns ∧ Chg [p] st s) (f__law_spec [.ref p, .ref m] st) := by
  have hp : ∃ c, st[p]? = some c := by obtain ⟨a, b, c, hp, _⟩ := P.ex; exact ⟨_, hp⟩
  walk_at "fn"
  unfold b__law_spec
  walk_at "wp"
  refine (law_draw P (by omega) (by omega)).mono ?_
  rintro _ s1 ⟨a, rfl, ha, P1, k1⟩
  have hm1 := k1.get (by simpa using hmp) hm
  walk_at "wp"
  refine (law_draw P1 (by omega) (by omega)).mono ?_

  rintro _ s2 ⟨b, rfl, hb, P2, k2⟩
  walk_at "wp"
  refine wo_lst (by simp [LIM]) fun R s3 hR hRn k3 => ?_
  walk_at "wp"
  refine owp_forS (fun i e s => ∃ (rows : List (List Stp)) (x5 x6 x7 : Option D), rows.length = i ∧ (∀ r ∈ rows, r.length = 1 + b ∧ ∀ z ∈ r, z.1 < 1 + a ∧ z.2.1 < 1 + b ∧ z.2.2.ok) ∧ e = [some (.ref p), some (.ref m), some (.int (1 + a)), some (.int (1 + b)), some (.ref R), x5, x6, x7, none] ∧ s[R]? = some (.lst (rows.map rowD)) ∧ Pot s p q ns ∧ Chg [p] st s) ?_ ?_ ⟨[], none, none, none, rfl, by simp, rfl, hR, P2.keep k3, (k1.trans k2).trans k3.up⟩
  · rintro i d e s hd ⟨rows, x5, x6, x7, hl, hrows, rfl, hRs, Ps, ks⟩
    obtain ⟨hi, rfl⟩ := rng_get hd
    refine ⟨okB_none, _, rfl, ?_⟩
    dsimp only [List.set]
    walk_at "wp"
    refine wo_lst (by simp [LIM]) fun Q t1 hQ hQn j1 => ?_
    walk_at "wp"
    refine owp_forS (fun j e s' => ∃ (row : List Stp) (y7 : Option D), row.length = j ∧ (∀ z ∈ row, z.1 < 1 + a ∧ z.2.1 < 1 + b ∧ z.2.2.ok) ∧ e = [some (.ref p), some (.ref m), some (.int (1 + a)), some (.int (1 + b)), some (.ref R), some (.int i), some (.ref Q), y7, none] ∧ s'[Q]? = some (.lst (row.map stpD)) ∧ s'[R]? = some (.lst (rows.map rowD)) ∧ Pot s' p q ns ∧ Chg [p] s s') ?_ ?_ ⟨[], x7, rfl, by simp, rfl, hQ, j1.get0 hRs, Ps.keep j1, j1.up⟩
    · rintro j d e s' hd2 ⟨row, y7, hrl, hrow, rfl, hQ', hR', P', k'⟩
      obtain ⟨hj, rfl⟩ := rng_get hd2
      have hQp : Q ≠ p := fun z => by obtain ⟨_, _, _, hpp, _⟩ := Ps.ex; subst z; rw [hpp] at hQn; cases hQn
      have hRp : R ≠ p := fun z => by obtain ⟨_, _, _, hpp, _⟩ := P2.ex; subst z; rw [hpp] at hRn; cases hRn
      have hRQ : R ≠ Q := fun z => by subst z; rw [hRs] at hQn; cases hQn
      refine ⟨okB_none, _, rfl, ?_⟩
      dsimp only [List.set]
      walk_at "wp"
      refine (law_draw P' (by omega) (by omega)).mono ?_
      rintro _ v1 ⟨c1, rfl, hc1, Q1, l1⟩
      walk_at "wp"
      refine (law_draw Q1 (by omega) (by omega)).mono ?_
      rintro _ v2 ⟨c2, rfl, hc2, Q2, l2⟩
      walk_at "wp"
      refine (law_saying Q2).mono ?_
      rintro _ v3 ⟨y, hy, rfl, Q3, l3⟩
      walk_at "wp"
      refine w_tup (by simp [LIM]) ?_
      walk_at "wp"
      have hl3 := (l1.trans l2).trans l3
      refine wo_append (hl3.get (by simpa using hQp) hQ') (by simp [LIM]; omega) fun v4 hv4 l4 => ?_
      walk_at "wp"
      have hall := k'.trans hl3
      exact ⟨row ++ [(c1, c2, y)], some (.int j), by simp [hrl], by
        intro z hz
        rcases List.mem_append.mp hz with hz | hz
        · exact hrow z hz
        · rw [List.mem_singleton.mp hz]
          exact ⟨by show c1 < _; omega, by show c2 < _; omega, hy⟩, rfl, by simpa [stpD] using hv4, l4.get (by simpa using hRQ) (hl3.get (by simpa using hRp) hR'), by
          obtain ⟨⟨x1, x2, x3, hp1, r1, r2, r3, r4⟩, hq1, n1, n2, n3⟩ := Q3
          exact ⟨⟨x1, x2, x3, l4.get (by simpa using fun z => hQp z.symm) hp1, r1, r2, r3, r4⟩, l4.get (by simp; intro z; subst z; rw [Ps.at_q] at hQn; cases hQn) hq1, n1, n2, n3⟩, hall.new hQn (l4.wide (by simp))⟩
    · rintro e s' ⟨row, y7, hrl, hrow, rfl, hQ', hR', P', k'⟩
      rw [rng_len] at hrl
      refine ⟨okB_none, ?_⟩
      walk_at "wp"
      have hRn0 : st[R]? = none := by
        rcases h : st[R]? with _ | c
        · rfl
        · by_cases z : R = p
          · subst z; obtain ⟨_, _, _, hpp, _⟩ := P2.ex; rw [hpp] at hRn; cases hRn
          · rw [(k1.trans k2).get (by simpa using z) h] at hRn; cases hRn
      have hRp : R ≠ p := fun z => by obtain ⟨_, _, _, hpp, _⟩ := P2.ex; subst z; rw [hpp] at hRn; cases hRn
      refine wo_append hR' (by simp [LIM, hl]; omega) fun v4 hv4 l4 => ?_
      walk_at "wp"
      exact ⟨rows ++ [row], some (.int i), some (.ref Q), y7, by simp [hl], by
        intro r hr
        rcases List.mem_append.mp hr with hr | hr
        · exact hrows r hr
        · rw [List.mem_singleton.mp hr]
          exact ⟨by omega, hrow⟩, rfl, by simpa [rowD] using hv4, by
          obtain ⟨⟨x1, x2, x3, hp1, r1, r2, r3, r4⟩, hq1, n1, n2, n3⟩ := P'
          exact ⟨⟨x1, x2, x3, l4.get (by simpa using fun z => hRp z.symm) hp1, r1, r2, r3, r4⟩, l4.get (by simp; intro z; subst z; rw [P2.at_q] at hRn; cases hRn) hq1, n1, n2, n3⟩, (ks.trans k').new hRn0 (l4.wide (by simp))⟩
  · rintro e s ⟨rows, x5, x6, x7, hl, hrows, rfl, hRs, Ps, ks⟩
    rw [rng_len] at hl
    refine ⟨okB_none, ?_⟩
    have hRp : R ≠ p := fun z => by obtain ⟨_, _, _, hpp, _⟩ := P2.ex; subst z; rw [hpp] at hRn; cases hRn
    walk_at "wp"
    refine (law_draw Ps (by omega) (by omega)).mono ?_
    rintro _ v1 ⟨c1, rfl, hc1, Q1, l1⟩
    walk_at "wp"
    refine wo_lst (by simp [LIM]) fun L1 v2 hL1 hL1n l2 => ?_
    walk_at "wp"
    refine (law_pick (Q1.keep l2) hL1 (by simp) (by simp) (fun z => by obtain ⟨_, _, _, hpp, _⟩ := Q1.ex; subst z; rw [hpp] at hL1n; cases hL1n)).mono ?_
    rintro ld v3 ⟨hld, Q3, l3⟩
    have hR3 := ((l1.trans l2.up).trans l3).get (by simpa using hRp) hRs
    walk_at "wp"
    refine (law_draw Q3 (by omega) (by omega)).mono ?_
    rintro _ v4 ⟨c4, rfl, hc4, Q4, l4⟩
    walk_at "wp"
    refine (law_draw Q4 (by omega) (by omega)).mono ?_
    rintro _ v5 ⟨c5, rfl, hc5, Q5, l5⟩
    walk_at "wp"
    refine (law_draw Q5 (by omega) (by omega)).mono ?_
    rintro _ v6 ⟨c6, rfl, hc6, Q6, l6⟩
    walk_at "wp"
    refine wo_lst (by simp [LIM]) fun L2 v7 hL2 hL2n l7 => ?_
    walk_at "wp"
    refine (law_pick (Q6.keep l7) hL2 (by simp) (by simp) (fun z => by obtain ⟨_, _, _, hpp, _⟩ := Q6.ex; subst z; rw [hpp] at hL2n; cases hL2n)).mono ?_
    rintro lm v8 ⟨hlm, Q8, l8⟩
    walk_at "wp"
    refine wo_lst (by simp [LIM]) fun L v9 hL hLn l9 => ?_
    walk_at "wp"
    have hall : Chg [p] st v8 := (((((((ks.trans l1).trans l2.up).trans l3).trans l4).trans l5).trans l6).trans l7.up).trans l8
    obtain ⟨ldo, hldo, hldb⟩ : ∃ o : Option Nat, ld = optD o ∧ ∀ n, o = some n → n < 1 + a := by
      simp only [List.mem_cons, List.not_mem_nil, or_false] at hld
      rcases hld with rfl | rfl | rfl
      · exact ⟨none, rfl, by simp⟩
      · exact ⟨none, rfl, by simp⟩
      · exact ⟨some c1, rfl, by rintro n ⟨⟩; omega⟩
    obtain ⟨lmo, hlmo, hlmb⟩ : ∃ o : Option Nat, lm = optD o ∧ ∀ n, o = some n → n < 1 + b := by
      simp only [List.mem_cons, List.not_mem_nil, or_false] at hlm
      rcases hlm with rfl | rfl | rfl
      · exact ⟨none, rfl, by simp⟩
      · exact ⟨some c5, rfl, by rintro n ⟨⟩; omega⟩
      · exact ⟨some c6, rfl, by rintro n ⟨⟩; omega⟩
    subst hldo hlmo
    have hla : rows.length = 1 + a := by omega
    refine ⟨⟨rows, c4, ldo, lmo⟩, 1 + b, L, ⟨by simp [hla], by simp [hla]; omega, by omega, by omega, fun r hr => (hrows r hr).1, fun r hr z hz => by simpa [hla] using (hrows r hr).2 z hz, by show c4 < rows.length; omega, by simpa [hla] using hldb, hlmb⟩, rfl, hL, ?_, Q8.keep l9, hall.trans l9.up⟩
    rcases h : st[L]? with _ | c
    · rfl
    · by_cases z : L = p
      · subst z; obtain ⟨_, _, _, hpp, _⟩ := Q8.ex; rw [hpp] at hLn; cases hLn
      · rw [hall.get (by simpa using z) h] at hLn; cases hLn
/-! ### values of any kind -/
inductive Wd (st : Sto) (A : List Nat) (B : Nat) : Nat → D → Prop where
  | non (n : Nat) : Wd st A B n .non
  | bl (n : Nat) (b : Bool) : Wd st A B n (.bl b)
  | int (n : Nat) (i : Int) (h : i.natAbs ≤ B) : Wd st A B n (.int i)
  | str (n : Nat) (x : Str) (h : PyData.strOk x = true) (hl : x.length ≤ B) : Wd st A B n (.str x)
  | tup (n : Nat) (ds : List D) (h : ∀ d ∈ ds, Wd st A B n d) (hl : ds.length ≤ B) : Wd st A B (n + 1) (.tup ds)
  | lst (n r : Nat) (ds : List D) (hr : st[r]? = some (.lst ds)) (ha : r ∉ A) (h : ∀ d ∈ ds, Wd st A B n d) (hl : ds.length ≤ B) : Wd st A B (n + 1) (.ref r)
  | dct (n r : Nat) (hr : st[r]? = some .dct) (ha : r ∉ A) : Wd st A B n (.ref r)
theorem Wd.keep {st s : Sto} {A : List Nat} {B n : Nat} {d : D} (h : Wd st A B n d) (k : Chg A st s) : Wd s A B n d := by
  induction h with
  | non n => exact .non n
  | bl n b => exact .bl n b
  | int n i h => exact .int n i h
  | str n x h hl => exact .str n x h hl
  | tup n ds h hl ih => exact .tup n ds ih hl
  | lst n r ds hr ha h hl ih => exact .lst n r ds (k.get ha hr) ha ih hl
  | dct n r hr ha => exact .dct n r (k.get ha hr) ha
theorem Wd.up {st : Sto} {A : List Nat} {B B' n : Nat} {d : D} (h : Wd st A B n d) (hB : B ≤ B') : ∀ {n' : Nat}, n ≤ n' → Wd st A B' n' d := by
  induction h with
  | non n => intro n' _; exact .non n'
  | bl n b => intro n' _; exact .bl n' b
  | int n i h => intro n' _; exact .int n' i (by omega)
  | str n x h hl => intro n' _; exact .str n' x h (by omega)
  | tup n ds h hl ih =>
    intro n' hn
    obtain ⟨m, rfl⟩ : ∃ m, n' = m + 1 := ⟨n' - 1, by omega⟩
    exact .tup m ds (fun d hd => ih d hd (by omega)) (by omega)
  | lst n r ds hr ha h hl ih =>
    intro n' hn
    obtain ⟨m, rfl⟩ : ∃ m, n' = m + 1 := ⟨n' - 1, by omega⟩
    exact .lst m r ds hr ha (fun d hd => ih d hd (by omega)) (by omega)
  | dct n r hr ha => intro n' _; exact .dct n' r hr ha
/-- one more place is avoided -/
theorem Wd.more {st : Sto} {A : List Nat} {B n b : Nat} {d : D} (h : Wd st A B n d) (hb : st[b]? = none) : Wd st (b :: A) B n d := by
  induction h with
  | non n => exact .non n
  | bl n b => exact .bl n b
  | int n i h => exact .int n i h
  | str n x h hl => exact .str n x h hl
  | tup n ds h hl ih => exact .tup n ds ih hl
  | lst n r ds hr ha h hl ih => exact .lst n r ds hr (by simp only [List.mem_cons, not_or]; exact ⟨fun e => (by rw [e, hb] at hr; cases hr), ha⟩) ih hl
  | dct n r hr ha => exact .dct n r hr (by simp only [List.mem_cons, not_or]; exact ⟨fun e => (by rw [e, hb] at hr; cases hr), ha⟩)
/-- its outermost form -/
inductive Kz (st : Sto) : D → Prop where
  | non : Kz st .non
  | bl (b : Bool) : Kz st (.bl b)
  | int (i : Int) : Kz st (.int i)
  | str (x : Str) (h : PyData.strOk x = true) : Kz st (.str x)
  | tup (ds : List D) : Kz st (.tup ds)
  | lst (r : Nat) (ds : List D) (hr : st[r]? = some (.lst ds)) : Kz st (.ref r)
  | dct (r : Nat) (hr : st[r]? = some .dct) : Kz st (.ref r)
theorem Kz.keep {st s : Sto} {d : D} (h : Kz st d) (k : Chg [] st s) : Kz s d := by
  cases h with
  | non => exact .non
  | bl b => exact .bl b
  | int i => exact .int i
  | str x h => exact .str x h
  | tup ds => exact .tup ds
  | lst r ds hr => exact .lst r ds (k.get0 hr)
  | dct r hr => exact .dct r (k.get0 hr)
theorem Wd.kz {st : Sto} {A : List Nat} {B n : Nat} {d : D} (h : Wd st A B n d) : Kz st d := by
  cases h with
  | non n => exact .non
  | bl n b => exact .bl b
  | int n i h => exact .int i
  | str n x h hl => exact .str x h
  | tup n ds h hl => exact .tup ds
  | lst n r ds hr ha h hl => exact .lst r ds hr
  | dct n r hr ha => exact .dct r hr
/-- its outermost forms, n deep -/
inductive Kn (st : Sto) : Nat → D → Prop where
  | flat (n : Nat) (d : D) (h : Kz st d) (ht : ∀ ds, d ≠ .tup ds) : Kn st n d
  | tup0 (ds : List D) : Kn st 0 (.tup ds)
  | tup (n : Nat) (ds : List D) (h : ∀ d ∈ ds, Kn st n d) : Kn st (n + 1) (.tup ds)
theorem Kn.kz {st : Sto} {n : Nat} {d : D} (h : Kn st n d) : Kz st d := by
  cases h with
  | flat n d h ht => exact h
  | tup0 ds => exact .tup ds
  | tup n ds h => exact .tup ds
theorem Kn.sub {st : Sto} {n : Nat} {ds : List D} (h : Kn st (n + 1) (.tup ds)) : ∀ d ∈ ds, Kn st n d := by
  cases h with
  | flat _ _ h ht => exact (ht ds rfl).elim
  | tup n ds h => exact h
theorem Kn.keep {st s : Sto} {n : Nat} {d : D} (h : Kn st n d) (k : Chg [] st s) : Kn s n d := by
  induction h with
  | flat n d h ht => exact .flat n d (h.keep k) ht
  | tup0 ds => exact .tup0 ds
  | tup n ds h ih => exact .tup n ds ih
theorem Wd.kn {st : Sto} {A : List Nat} {B n : Nat} {d : D} (h : Wd st A B n d) : ∀ m : Nat, Kn st m d := by
  induction h with
  | non n => intro m; exact .flat m _ .non (by simp)
  | bl n b => intro m; exact .flat m _ (.bl b) (by simp)
  | int n i h => intro m; exact .flat m _ (.int i) (by simp)
  | str n x h hl => intro m; exact .flat m _ (.str x h) (by simp)
  | tup n ds h hl ih =>
    intro m
    cases m with
    | zero => exact .tup0 ds
    | succ m => exact .tup m ds fun d hd => ih d hd m
  | lst n r ds hr ha h hl ih => intro m; exact .flat m _ (.lst r ds hr) (by simp)
  | dct n r hr ha => intro m; exact .flat m _ (.dct r hr) (by simp)
/-! ### the judge -/
def isIntD : D → Bool
  | .int _ => true
  | _ => false
def withinB (lo hi : Int) : D → Bool
  | .int i => decide (lo ≤ i) && decide (i ≤ hi)
  | _ => false
def wordB : D → Bool
  | .int i => decide (1 ≤ i) && decide (i ≤ 4)
  | .str x => x == Str.ofString "all"
  | _ => false
def stepB (S C : Int) : D → Bool
  | .tup [a, b, c] => withinB 0 (S - 1) a && (withinB 0 (C - 1) b && (LF.isNon c || wordB c))
  | _ => false
def lenB : D → Bool
  | .tup ds => decide (1 ≤ ds.length) && decide (ds.length ≤ 4)
  | _ => false
def tlen : D → Nat
  | .tup ds => ds.length
  | _ => 0
def rowB (S n : Nat) : D → Bool
  | .tup ds => decide (ds.length = n) && ds.all (stepB S ds.length)
  | _ => false
def stepsB : D → Bool
  | .tup (r :: rs) => decide (rs.length + 1 ≤ 5) && ((r :: rs).all lenB && (r :: rs).all (rowB (rs.length + 1) (tlen r)))
  | _ => false
def nrows : D → Nat
  | .tup rs => rs.length
  | _ => 0
def ncols : D → Nat
  | .tup (r :: _) => tlen r
  | _ => 0
def faultB (a b c d : D) : Option String :=
  if stepsB a = false then some "steps"
  else if withinB 0 (nrows a - 1 : Int) b = false then some "first"
  else if (LF.isNon c || withinB 0 (nrows a - 1 : Int) c) = false then some "leader"
  else if (LF.isNon d || withinB 0 (ncols a - 1 : Int) d) = false then some "lamp"
  else none
theorem is_number_gen {d : D} {st : Sto} (h : Kz st d) {X : XP} : Wp X (fun x s => x = .bl (isIntD d) ∧ s = st) (f_is_number [d] st) := by
  cases h <;> (walk_at "fn"; unfold b_is_number; walk_at "wp"; exact ⟨rfl, rfl⟩)
theorem is_within_gen {d : D} {a b : Int} {st : Sto} (h : Kz st d) {X : XP} : Wp X (fun x s => x = .bl (withinB a b d) ∧ s = st) (f_is_within [d, .int a, .int b] st) := by
  have h0 := h
  walk_at "fn"
  unfold b_is_within
  walk_at "wp"
  refine (is_number_gen h).mono ?_
  rintro _ _ ⟨rfl, rfl⟩
  cases h with
  | int i =>
    simp only [isIntD]
    walk_at "wp"
    refine r_bSplit (fun h => ?_) (fun h => ?_)
    · walk_at "wp"
      exact ⟨by simp [withinB, h], rfl⟩
    · walk_at "wp"
      exact ⟨by simp [withinB, h], rfl⟩
  | _ =>
    simp only [isIntD]
    walk_at "wp"
    exact ⟨rfl, rfl⟩
theorem all_ok : PyData.strOk (Str.ofString "all") = true := by decide +kernel
theorem is_word_gen {d : D} {st : Sto} (h : Kz st d) {X : XP} : Wp X (fun x s => x = .bl (wordB d) ∧ s = st) (f_is_word [d] st) := by
  walk_at "fn"
  unfold b_is_word
  walk_at "wp"
  refine (is_within_gen h).mono ?_
  rintro _ _ ⟨rfl, rfl⟩
  cases h with
  | int i =>
    refine r_tSplit (fun h => ?_) (fun h => ?_)
    · walk_at "wp"
      exact ⟨by simp only [withinB] at h ⊢; simp only [wordB, h], rfl⟩
    · walk_at "wp"
      exact ⟨by simp only [withinB] at h; simp only [wordB, Bool.eq_false_iff.mpr h], rfl⟩
  | str x hx =>
    simp only [withinB]
    walk_at "wp"
    refine w_eqS hx all_ok ?_
    walk_at "wp"
    exact ⟨rfl, rfl⟩
  | _ =>
    simp only [withinB]
    walk_at "wp"
    exact ⟨rfl, rfl⟩
theorem is_step_gen {d : D} {S C : Int} {st : Sto} (h : Kn st 1 d) {X : XP} : Wp X (fun x s => x = .bl (stepB S C d) ∧ s = st) (f_is_step [d, .int S, .int C] st) := by
  have hs : ∀ ds, d = .tup ds → ∀ z ∈ ds, Kz st z := fun ds e z hz => by subst e; exact (h.sub z hz).kz
  have hk := h.kz
  clear h
  cases hk with
  | tup ds =>
    have hs := hs ds rfl
    by_cases hl : ds.length = 3
    · obtain ⟨a, b, c, rfl⟩ : ∃ a b c, ds = [a, b, c] := by
        match ds, hl with
        | [a, b, c], _ => exact ⟨a, b, c, rfl⟩
      have ha := hs a (by simp)
      have hb := hs b (by simp)
      have hc := hs c (by simp)
      walk_at "fn"
      unfold b_is_step
      walk_at "wp"
      refine (is_within_gen ha).mono ?_
      rintro _ _ ⟨rfl, rfl⟩
      by_cases h1 : withinB 0 (S - 1) a = true
      · walk_at "wp"
        refine (is_within_gen hb).mono ?_
        rintro _ _ ⟨rfl, rfl⟩
        by_cases h2 : withinB 0 (C - 1) b = true
        · walk_at "wp"
          by_cases h3 : LF.isNon c = true
          · walk_at "wp"
            exact ⟨by simp [stepB, h1, h2, h3], rfl⟩
          · walk_at "wp"
            refine (is_word_gen hc).mono ?_
            rintro _ _ ⟨rfl, rfl⟩
            walk_at "wp"
            exact ⟨by simp [stepB, h1, h2, h3], rfl⟩
        · walk_at "wp"
          exact ⟨by simp [stepB, h1, h2], rfl⟩
      · walk_at "wp"
        exact ⟨by simp [stepB, h1], rfl⟩
    · have hl2 : ((ds.length : Int) == 3) = false := by simp; omega
      walk_at "fn"
      unfold b_is_step
      walk_at "wp"
      exact ⟨by
        match ds, hl with
        | [], _ => rfl
        | [_], _ => rfl
        | [_, _], _ => rfl
        | [_, _, _], hl => simp at hl
        | _ :: _ :: _ :: _ :: _, _ => rfl, rfl⟩
  | _ => walk_at "fn"; unfold b_is_step; walk_at "wp"; exact ⟨rfl, rfl⟩
/-- a comprehension of answers -/
theorem all_gen {r : Nat} {p : D → Bool} {ds : List D} {st : Sto} {Q : D → Sto → Prop} (hr : st[r]? = some (.lst (ds.filterMap fun d => some (.bl (p d))))) (h : Q (.bl (ds.all p)) st) : Wo Q (opAll [.ref r] st) := by
  have e : ∀ l : List D, bools (l.filterMap fun d => some (.bl (p d))) = some (l.map p) := by
    intro l
    induction l with
    | nil => rfl
    | cons d l ih =>
      show (bools (l.filterMap fun d => some (.bl (p d)))).map (p d :: ·) = _
      rw [ih]; rfl
  simp only [opAll, hr, e]
  refine r_wo_some ?_
  rw [show (List.map p ds).all id = ds.all p by rw [List.all_map]; rfl]
  exact h
/-! ### steps, judged by the program -/
theorem are_steps_gen {d : D} {st : Sto} (h : Kn st 3 d) {X : XP} : Wp X (fun x s => x = .bl (stepsB d) ∧ Chg [] st s) (f_are_steps [d] st) := by
  have hs : ∀ ds, d = .tup ds → ∀ z ∈ ds, Kn st 2 z := fun ds e z hz => by subst e; exact h.sub z hz
  have hk := h.kz
  clear h
  cases hk with
  | tup ds =>
    have hs := hs ds rfl
    cases ds with
    | nil =>
      walk_at "fn"
      unfold b_are_steps
      walk_at "wp"
      exact ⟨rfl, Chg.refl⟩
    | cons r rs =>
      by_cases h5 : rs.length + 1 ≤ 5
      · have h5a : ((r :: rs).length : Int) ≤ 5 := by simp; omega
        have h5b : (1 : Int) ≤ ((r :: rs).length : Int) := by simp; omega
        walk_at "fn"
        unfold b_are_steps
        walk_at "wp"
        refine wp_lc ?_
        walk_at "wp"
        refine ⟨fun z => some (.bl (lenB z)), fun _ _ => okB_none, by show (r :: rs).length ≤ LIM; simp only [List.length_cons, LIM]; omega, ?_, ?_⟩
        · intro z hz s hks
          have hzk := (hs z hz).kz.keep hks
          refine ⟨_, rfl, ?_⟩
          dsimp only [wipeD, List.set]
          walk_at "wp"
          cases hzk with
          | tup zs =>
            walk_at "wp"
            refine r_bSplit (fun h => ?_) (fun h => ?_)
            · walk_at "wp"
              refine ⟨?_, Chg.refl⟩
              have h := of_decide_eq_true h
              simp only [lenB]
              rw [show decide (1 ≤ zs.length) = true by simp; omega, Bool.true_and]
              congr 2
              simp
              omega
            · walk_at "wp"
              refine ⟨?_, Chg.refl⟩
              simp only [lenB]
              rw [show decide (1 ≤ zs.length) = false from decide_eq_false (by have h := of_decide_eq_false (Bool.eq_false_iff.mpr h); omega), Bool.false_and]
          | _ =>
            walk_at "wp"
            exact ⟨rfl, Chg.refl⟩
        intro L s1 hL hLn k1
        walk_at "wp"
        refine all_gen hL ?_
        by_cases hlen : (r :: rs).all lenB = true
        · walk_at "wp"
          refine owp_forS (fun i e s => ∃ x1 x2, e = [some (.tup (r :: rs)), x1, x2] ∧ Chg [] st s ∧ ∀ j z, j < i → (r :: rs)[j]? = some z → rowB (rs.length + 1) (tlen r) z = true) ?_ ?_ ⟨_, _, rfl, k1, fun j z hj => absurd hj (by omega)⟩
          · rintro i z e s hz ⟨x1, x2, rfl, ks, hrows⟩
            have hzm := List.mem_of_getElem? hz
            have hzk := (hs z hzm).keep ks
            have hzl := List.all_eq_true.mp hlen z hzm
            have hrl := List.all_eq_true.mp hlen r (by simp)
            obtain ⟨zs, rfl⟩ : ∃ zs, z = .tup zs := by
              cases z <;> simp only [lenB] at hzl <;> first | exact ⟨_, rfl⟩ | cases hzl
            obtain ⟨qs, rfl⟩ : ∃ qs, r = .tup qs := by
              cases r <;> simp only [lenB] at hrl <;> first | exact ⟨_, rfl⟩ | cases hrl
            have hstop : ∀ s', Chg [] st s' → rowB (rs.length + 1) qs.length (.tup zs) = false → ((D.bl false = .bl (stepsB (.tup (.tup qs :: rs)))) ∧ Chg [] st s') := fun s' ks' hf => ⟨by
              have : (D.tup qs :: rs).all (rowB (rs.length + 1) (tlen (.tup qs))) = false := List.all_eq_false.mpr ⟨_, hzm, by simp [tlen, hf]⟩
              simp only [stepsB, this, Bool.and_false], ks'⟩
            refine ⟨okB_none, _, rfl, ?_⟩
            dsimp only [List.set]
            walk_at "wp"
            refine w_ixT atI0 ?_
            walk_at "wp"
            by_cases hzq : zs.length = qs.length
            · have hzq2 : ((zs.length : Int) == qs.length) = true := by simp; omega
              walk_at "wp"
              refine wp_lc ?_
              walk_at "wp"
              refine ⟨fun y => some (.bl (stepB (rs.length + 1 : Nat) zs.length y)), fun _ _ => okB_none, by simp [lenB] at hzl; simp [LIM]; omega, ?_, ?_⟩
              · intro y hy s2 hs2
                have hyk := (hzk.sub y hy).keep hs2
                refine ⟨_, rfl, ?_⟩
                dsimp only [wipeD, List.set]
                walk_at "wp"
                refine (is_step_gen hyk).mono ?_
                rintro _ _ ⟨rfl, rfl⟩
                exact ⟨rfl, Chg.refl⟩
              intro L2 s2 hL2 hL2n k2
              walk_at "wp"
              refine all_gen hL2 ?_
              by_cases hall : zs.all (stepB (rs.length + 1 : Nat) zs.length) = true
              · walk_at "wp"
                refine ⟨_, _, rfl, ks.trans k2, fun j y hj hy => ?_⟩
                by_cases hji : j = i
                · subst hji
                  rw [hz] at hy
                  cases hy
                  simp only [rowB, tlen, hzq, decide_true, Bool.true_and]
                  rw [← hzq]
                  exact hall
                · exact hrows j y (by omega) hy
              · walk_at "wp"
                exact hstop _ (ks.trans k2) (by simp only [rowB, Bool.eq_false_iff.mpr hall, Bool.and_false])
            · have hzq2 : ((zs.length : Int) == qs.length) = false := by simp; omega
              walk_at "wp"
              exact hstop _ ks (by simp only [rowB, decide_eq_false hzq, Bool.false_and])
          · rintro e s ⟨x1, x2, rfl, ks, hrows⟩
            refine ⟨okB_none, ?_⟩
            walk_at "wp"
            refine ⟨?_, ks⟩
            have : (r :: rs).all (rowB (rs.length + 1) (tlen r)) = true := List.all_eq_true.mpr fun z hz => by
              obtain ⟨j, hj⟩ := List.getElem?_of_mem hz
              exact hrows j z (List.getElem?_eq_some_iff.mp hj).1 hj
            simp [stepsB, hlen, this, h5]
        · walk_at "wp"
          exact ⟨by simp [stepsB, hlen], k1⟩
      · have h5a : ¬ ((r :: rs).length : Int) ≤ 5 := by simp; omega
        have h5b : (1 : Int) ≤ ((r :: rs).length : Int) := by simp; omega
        walk_at "fn"
        unfold b_are_steps
        walk_at "wp"
        exact ⟨by simp [stepsB, h5], Chg.refl⟩
  | _ => walk_at "fn"; unfold b_are_steps; walk_at "wp"; exact ⟨rfl, Chg.refl⟩
/-! ### the object, of any values -/
theorem stepsB_form {d : D} (h : stepsB d = true) : ∃ qs rs, d = .tup (.tup qs :: rs) ∧ rs.length + 1 ≤ 5 ∧ 1 ≤ qs.length ∧ qs.length ≤ 4 := by
  unfold stepsB at h
  split at h
  · rename_i r rs
    simp only [Bool.and_eq_true, decide_eq_true_eq] at h
    obtain ⟨h1, h2, h3⟩ := h
    have h2 := List.all_eq_true.mp h2 r (by simp)
    cases r with
    | tup qs =>
      simp only [lenB, Bool.and_eq_true, decide_eq_true_eq] at h2
      exact ⟨qs, rs, rfl, h1, h2.1, h2.2⟩
    | _ => simp [lenB] at h2
  · cases h
def prgFd (a b c d : D) : List (String × D) := [("steps", a), ("first", b), ("leader", c), ("lamp", d)]
/-- what is wrong is told as BadProgram -/
def XBad (st : Sto) (w : Option String) : XP := fun c fs s => c = 2 ∧ Chg [] st s ∧ ∃ v, w = some v ∧ fs = [("what", .str (Str.ofString v))]
def sFields : Sm := sSeq (sSetF fld_steps "steps" (eVar 0) (eVar 1)) (sSeq (sSetF fld_first "first" (eVar 0) (eVar 2)) (sSeq (sSetF fld_leader "leader" (eVar 0) (eVar 3)) (sSetF fld_lamp "lamp" (eVar 0) (eVar 4))))
noncomputable def sLamp : Sm := sIf (tAnd' (asB (eBin opIsNot (eVar 4) (eC .non))) (tNot' (tTru (eCall f_is_within [eVar 4, eC (.int 0), eBin opSub (eBlt opLen [eBin opIx (eVar 1) (eC (.int 0))]) (eC (.int 1))])))) (sRaise1 2 "what" (eC (.str (Str.ofString "lamp")))) sSkip
theorem Program_init_gen {a b c d : D} {o : Nat} {st : Sto} (ho : st[o]? = some (.ins 8 [])) (ha : Kn st 3 a) (hb : Kz st b) (hc : Kz st c) (hd : Kz st d) :
    Wp (XBad st (faultB a b c d)) (fun x s => x = .non ∧ faultB a b c d = none ∧ s[o]? = some (.ins 8 (prgFd a b c d)) ∧ Chg [o] st s) (f_Program_init [.ref o, a, b, c, d] st) := by
  walk_at "fn"
  unfold b_Program_init
  refine r_owp_seq ?_
  refine r_owp_if ?_
  walk_at "fld"
  refine (are_steps_gen ha).mono ?_
  rintro _ s1 ⟨rfl, k1⟩
  by_cases h1 : stepsB a = true
  rotate_left
  · walk_at "fld"
    exact ⟨rfl, k1, "steps", by simp [faultB, h1], rfl⟩
  obtain ⟨qs, rs, rfl, hrs, hq1, hq4⟩ := stepsB_form h1
  have e1 : ((D.tup qs :: rs).length : Int) - 1 = (nrows (.tup (.tup qs :: rs)) - 1 : Int) := rfl
  walk_at "fld"
  refine r_owp_seq ?_
  refine r_owp_if ?_
  walk_at "fld"
  refine (is_within_gen (hb.keep k1)).mono ?_
  rintro _ _ ⟨rfl, rfl⟩
  rw [e1]
  by_cases h2 : withinB 0 (nrows (.tup (.tup qs :: rs)) - 1 : Int) b = true
  rotate_left
  · walk_at "fld"
    exact ⟨rfl, k1, "first", by simp [faultB, h1, h2], rfl⟩
  walk_at "fld"
  have last : ∀ (hcd : (LF.isNon c || withinB 0 (nrows (.tup (.tup qs :: rs)) - 1 : Int) c) = true) (s : Sto), Chg [] st s → Owp (Ks.fn (XBad st (faultB (.tup (.tup qs :: rs)) b c d)) fun x s => x = .non ∧ faultB (.tup (.tup qs :: rs)) b c d = none ∧ s[o]? = some (.ins 8 (prgFd (.tup (.tup qs :: rs)) b c d)) ∧ Chg [o] st s)
      ((sSeq sLamp sFields) [some (.ref o), some (.tup (.tup qs :: rs)), some b, some c, some d] s) := by
    intro hcd s ks
    have tail : ∀ (hdd : (LF.isNon d || withinB 0 (ncols (.tup (.tup qs :: rs)) - 1 : Int) d) = true), Owp (Ks.fn (XBad st (faultB (.tup (.tup qs :: rs)) b c d)) fun x s => x = .non ∧ faultB (.tup (.tup qs :: rs)) b c d = none ∧ s[o]? = some (.ins 8 (prgFd (.tup (.tup qs :: rs)) b c d)) ∧ Chg [o] st s)
        (sFields [some (.ref o), some (.tup (.tup qs :: rs)), some b, some c, some d] s) := by
      intro hdd
      unfold sFields
      walk_at "wp"
      refine wo_setF (ks.get0 ho) (by decide) (by simp) fun v1 hv1 l1 => ?_
      walk_at "wp"
      refine wo_setF hv1 (by decide) (by simp [putD]) fun v2 hv2 l2 => ?_
      walk_at "wp"
      refine wo_setF hv2 (by decide) (by simp [putD]) fun v3 hv3 l3 => ?_
      walk_at "wp"
      refine wo_setF hv3 (by decide) (by simp [putD]) fun v4 hv4 l4 => ?_
      walk_at "wp"
      exact ⟨rfl, by simp only [faultB, h1, h2, hcd, hdd]; rfl, by simpa [putD, prgFd] using hv4, (((ks.up.trans l1).trans l2).trans l3).trans l4⟩
    refine r_owp_seq ?_
    unfold sLamp
    refine r_owp_if ?_
    by_cases hn : LF.isNon d = true
    · walk_at "fld"
      exact tail (by simp [hn])
    · walk_at "fld"
      refine w_ixT atI0 ?_
      walk_at "fld"
      refine (is_within_gen (hd.keep ks)).mono ?_
      rintro _ _ ⟨rfl, rfl⟩
      rw [show ((qs.length : Int) - 1) = (ncols (.tup (.tup qs :: rs)) - 1 : Int) from rfl]
      by_cases h4 : withinB 0 (ncols (.tup (.tup qs :: rs)) - 1 : Int) d = true
      · walk_at "fld"
        exact tail (by simp [h4])
      · walk_at "fld"
        exact ⟨rfl, ks, "lamp", by simp only [faultB, h1, h2, hcd, hn, h4]; rfl, rfl⟩
  refine r_owp_seq ?_
  refine r_owp_if ?_
  by_cases hn : LF.isNon c = true
  · walk_at "fld"
    exact last (by simp [hn]) _ k1
  · walk_at "fld"
    refine (is_within_gen (hc.keep k1)).mono ?_
    rintro _ _ ⟨rfl, rfl⟩
    rw [e1]
    by_cases h3 : withinB 0 (nrows (.tup (.tup qs :: rs)) - 1 : Int) c = true
    · walk_at "fld"
      exact last (by simp [h3]) _ k1
    · walk_at "fld"
      exact ⟨rfl, k1, "leader", by simp only [faultB, h1, h2, hn, h3]; rfl, rfl⟩
/-! ### equality of data -/
theorem lenB_tlen {z : D} (h : lenB z = true) : ∃ qs, z = .tup qs ∧ 1 ≤ qs.length ∧ qs.length ≤ 4 := by
  cases z with
  | tup qs =>
    simp only [lenB, Bool.and_eq_true, decide_eq_true_eq] at h
    exact ⟨qs, rfl, h.1, h.2⟩
  | _ => simp [lenB] at h
inductive Pl : Nat → D → Prop where
  | non (n : Nat) : Pl n .non
  | bl (n : Nat) (b : Bool) : Pl n (.bl b)
  | int (n : Nat) (i : Int) : Pl n (.int i)
  | str (n : Nat) (x : Str) (h : PyData.strOk x = true) : Pl n (.str x)
  | tup (n : Nat) (ds : List D) (h : ∀ d ∈ ds, Pl n d) (hl : ds.length ≤ 1000) : Pl (n + 1) (.tup ds)
theorem Pl.up {n : Nat} {d : D} (h : Pl n d) : Pl (n + 1) d := by
  induction h with
  | non n => exact .non _
  | bl n b => exact .bl _ b
  | int n i => exact .int _ i
  | str n x h => exact .str _ x h
  | tup n ds h hl ih => exact .tup _ ds ih hl
theorem deep_pl {n : Nat} {d : D} (h : Pl n d) : ∃ p, (∀ (st : Sto) (k : Nat), deep st (n + k) d = some p) ∧ p.canLay0 = true ∧ p.depth ≤ n := by
  induction h with
  | non n => exact ⟨.none, fun st k => by cases n + k <;> rfl, rfl, by simp [PyData.depth]⟩
  | bl n b => exact ⟨.bool b, fun st k => by cases n + k <;> rfl, rfl, by simp [PyData.depth]⟩
  | int n i => exact ⟨.int i, fun st k => by cases n + k <;> rfl, rfl, by simp [PyData.depth]⟩
  | str n x h => exact ⟨.str x, fun st k => by cases n + k <;> rfl, h, by simp [PyData.depth]⟩
  | tup n ds h hl ih =>
    have key : ∃ ps, (∀ (st : Sto) (k : Nat), mapO (deep st (n + k)) ds = some ps) ∧ PyData.canLayAll0 ps = true ∧ PyData.depthAll ps ≤ n := by
      clear h hl
      induction ds with
      | nil => exact ⟨[], fun st k => rfl, rfl, by simp [PyData.depthAll]⟩
      | cons d ds ihd =>
        obtain ⟨p, p1, p2, p3⟩ := ih d (by simp)
        obtain ⟨ps, q1, q2, q3⟩ := ihd fun z hz => ih z (by simp [hz])
        refine ⟨p :: ps, fun st k => by simp [mapO, p1 st k, q1 st k], by simp [PyData.canLayAll0, p2, q2], ?_⟩
        simp only [PyData.depthAll]
        omega
    obtain ⟨ps, q1, q2, q3⟩ := key
    refine ⟨.tuple ps, fun st k => ?_, q2, by simp only [PyData.depth]; omega⟩
    rw [show n + 1 + k = (n + k) + 1 by omega]
    show (mapO (deep st (n + k)) ds).map PyData.tuple = _
    rw [q1 st k]
    rfl
theorem eqD_pl {st : Sto} {n : Nat} {d : D} (h : Pl n d) (hn : n ≤ 60) : eqD st d d = some true := by
  obtain ⟨p, p1, p2, p3⟩ := deep_pl h
  have e := p1 st (66 - n)
  rw [show n + (66 - n) = 66 by omega] at e
  have sh : SeqAt.shaped p = true := by simp only [SeqAt.shaped, p2, Bool.true_and, decide_eq_true_eq]; omega
  simp only [eqD, e]
  rw [if_pos ⟨sh, sh⟩, SeqAt.eqv_refl p p2]
theorem eqD_nil {st : Sto} {a b : Nat} (ha : st[a]? = some (.lst [])) (hb : st[b]? = some (.lst [])) : eqD st (.ref a) (.ref b) = some true := by
  have e1 : deep st 66 (.ref a) = some (.list []) := by simp [deep, ha, mapO]
  have e2 : deep st 66 (.ref b) = some (.list []) := by simp [deep, hb, mapO]
  simp only [eqD, e1, e2]
  rfl
theorem none_all (ds : List D) : ds.filterMap (fun _ => (none : Option D)) = [] := by
  induction ds with
  | nil => rfl
  | cons d ds ih => simpa using ih
theorem same_flat {n k : Nat} {d : D} (h : Pl n d) (hf : ∀ ds, d ≠ .tup ds) {st : Sto} {X : XP} : Wp X (fun x s => x = .bl true ∧ Chg [] st s) (f__law_same (k + 1) [d, d] st) := by
  cases h with
  | non n =>
    unfold f__law_same
    walk_at "fn"
    unfold b__law_same
    walk_at "wp"
    exact ⟨rfl, Chg.refl⟩
  | bl n b =>
    unfold f__law_same
    walk_at "fn"
    unfold b__law_same
    walk_at "wp"
    exact ⟨by simp, Chg.refl⟩
  | int n i =>
    unfold f__law_same
    walk_at "fn"
    unfold b__law_same
    walk_at "wp"
    exact ⟨by simp, Chg.refl⟩
  | str n x h =>
    unfold f__law_same
    walk_at "fn"
    unfold b__law_same
    walk_at "wp"
    refine w_eqS h h ?_
    walk_at "wp"
    exact ⟨by simp, Chg.refl⟩
  | tup n ds h hl => exact (hf ds rfl).elim
theorem same_tup : ∀ {n : Nat} {d : D}, Pl n d → ∀ {k : Nat}, n ≤ k → ∀ {st : Sto} {X : XP}, Wp X (fun x s => x = .bl true ∧ Chg [] st s) (f__law_same (k + 1) [d, d] st) := by
  intro n d h
  induction h with
  | non n => intro k hk st X; exact same_flat (.non n) (by simp)
  | bl n b => intro k hk st X; exact same_flat (.bl n b) (by simp)
  | int n i => intro k hk st X; exact same_flat (.int n i) (by simp)
  | str n x h => intro k hk st X; exact same_flat (.str n x h) (by simp)
  | tup n ds h hl ih =>
    intro k hk st X
    obtain ⟨k, rfl⟩ : ∃ j, k = j + 1 := ⟨k - 1, by omega⟩
    unfold f__law_same
    walk_at "fn"
    unfold b__law_same
    walk_at "wp"
    refine wp_lc ?_
    walk_at "wp"
    refine ⟨fun _ => none, fun _ _ => okB_none, by rw [rng_len]; simp only [LIM]; omega, ?_, ?_⟩
    · intro d hd s hs
      obtain ⟨i, hi⟩ := List.getElem?_of_mem hd
      obtain ⟨hi, rfl⟩ := rng_get hi
      have hi2 : i < ds.length := by omega
      refine ⟨_, rfl, ?_⟩
      dsimp only [wipeD, List.set]
      walk_at "wp"
      refine w_ixT (atIn (List.getElem?_eq_getElem hi2)) ?_
      walk_at "wp"
      refine w_ixT (atIn (List.getElem?_eq_getElem hi2)) ?_
      walk_at "wp"
      refine (ih _ (List.getElem_mem hi2) (by omega)).mono ?_
      rintro _ s2 ⟨rfl, k2⟩
      walk_at "wp"
      exact ⟨rfl, k2⟩
    · intro L s hL hLn k1
      rw [none_all] at hL
      walk_at "wp"
      refine wo_lst (by simp [LIM]) fun L2 s2 hL2 hL2n k2 => ?_
      walk_at "wp"
      refine w_eqE (k2.get0 hL) hL2 (.inr rfl) ?_
      walk_at "wp"
      exact ⟨rfl, k1.trans k2⟩
theorem same_lst {n k a b : Nat} {ds : List D} (h : ∀ d ∈ ds, Pl n d) (hl : ds.length ≤ 1000) (hk : n ≤ k) {st : Sto} (ha : st[a]? = some (.lst ds)) (hb : st[b]? = some (.lst ds)) {X : XP} : Wp X (fun x s => x = .bl true ∧ Chg [] st s) (f__law_same (k + 1 + 1) [.ref a, .ref b] st) := by
  unfold f__law_same
  walk_at "fn"
  unfold b__law_same
  walk_at "wp"
  refine wp_lc ?_
  walk_at "wp"
  refine ⟨fun _ => none, fun _ _ => okB_none, by rw [rng_len]; simp only [LIM]; omega, ?_, ?_⟩
  · intro d hd s hs
    obtain ⟨i, hi⟩ := List.getElem?_of_mem hd
    obtain ⟨hi, rfl⟩ := rng_get hi
    have hi2 : i < ds.length := by omega
    refine ⟨_, rfl, ?_⟩
    dsimp only [wipeD, List.set]
    walk_at "wp"
    refine w_ixL (hs.get0 ha) (atIn (List.getElem?_eq_getElem hi2)) ?_
    walk_at "wp"
    refine w_ixL (hs.get0 hb) (atIn (List.getElem?_eq_getElem hi2)) ?_
    walk_at "wp"
    refine (same_tup (h _ (List.getElem_mem hi2)) (by omega)).mono ?_
    rintro _ s2 ⟨rfl, k2⟩
    walk_at "wp"
    exact ⟨rfl, k2⟩
  · intro L s hL hLn k1
    rw [none_all] at hL
    walk_at "wp"
    refine wo_lst (by simp [LIM]) fun L2 s2 hL2 hL2n k2 => ?_
    walk_at "wp"
    refine w_eqE (k2.get0 hL) hL2 (.inr rfl) ?_
    walk_at "wp"
    exact ⟨rfl, k1.trans k2⟩
theorem pl_say {y : Say} (n : Nat) : Pl n y.d := by
  cases y with
  | no => exact .non _
  | num k => exact .int _ _
  | all => exact .str _ _ all_ok
theorem pl_steps {g : Prg} {C : Nat} (hg : g.Ok C) : Pl 3 (stepsD g.rows) := by
  refine .tup 2 _ (fun d hd => ?_) (by have := hg.n5; simp; omega)
  obtain ⟨r, hr, rfl⟩ := List.mem_map.mp hd
  refine .tup 1 _ (fun d hd => ?_) (by have := hg.row r hr; have := hg.c4; simp; omega)
  obtain ⟨z, hz, rfl⟩ := List.mem_map.mp hd
  refine .tup 0 _ (fun d hd => ?_) (by simp)
  simp only [List.mem_cons, List.not_mem_nil, or_false] at hd
  rcases hd with rfl | rfl | rfl
  · exact .int _ _
  · exact .int _ _
  · exact pl_say _
theorem pl_opt {o : Option Nat} (n : Nat) : Pl n (optD o) := by
  cases o with
  | none => exact .non _
  | some k => exact .int _ _
/-! ### what a valid part is -/
theorem pl_within {lo hi : Int} {d : D} (h : withinB lo hi d = true) (n : Nat) : Pl n d := by
  cases d with
  | int i => exact .int _ _
  | _ => simp [withinB] at h
theorem pl_word {d : D} (h : wordB d = true) (n : Nat) : Pl n d := by
  cases d with
  | int i => exact .int _ _
  | str x =>
    have : x = Str.ofString "all" := by simpa [wordB] using h
    subst this
    exact .str _ _ all_ok
  | _ => simp [wordB] at h
theorem pl_non {d : D} (h : LF.isNon d = true) (n : Nat) : Pl n d := by
  cases d with
  | non => exact .non _
  | _ => simp [LF.isNon] at h
theorem pl_or {d : D} {b : Bool} (h : (LF.isNon d || b) = true) (hb : b = true → ∀ n, Pl n d) (n : Nat) : Pl n d := by
  rcases Bool.or_eq_true_iff.mp h with h | h
  · exact pl_non h n
  · exact hb h n
theorem pl_step {S C : Int} {d : D} (h : stepB S C d = true) : Pl 1 d := by
  unfold stepB at h
  split at h
  · rename_i a b c
    simp only [Bool.and_eq_true] at h
    refine .tup 0 _ (fun d hd => ?_) (by simp)
    simp only [List.mem_cons, List.not_mem_nil, or_false] at hd
    rcases hd with rfl | rfl | rfl
    · exact pl_within h.1 0
    · exact pl_within h.2.1 0
    · exact pl_or h.2.2 (fun k n => pl_word k n) 0
  · cases h
theorem pl_stepsB {d : D} (h : stepsB d = true) : Pl 3 d := by
  obtain ⟨qs, rs, rfl, h5, hq1, hq4⟩ := stepsB_form h
  simp only [stepsB, Bool.and_eq_true] at h
  refine .tup 2 _ (fun z hz => ?_) (by simp; omega)
  obtain ⟨zs, rfl, z1, z4⟩ := lenB_tlen (List.all_eq_true.mp h.2.1 z hz)
  have hr := List.all_eq_true.mp h.2.2 _ hz
  simp only [rowB, Bool.and_eq_true] at hr
  exact .tup 1 _ (fun y hy => pl_step (List.all_eq_true.mp hr.2 y hy)) (by omega)
theorem fault_none {a b c d : D} (h : faultB a b c d = none) : stepsB a = true ∧ withinB 0 (nrows a - 1 : Int) b = true ∧ (LF.isNon c || withinB 0 (nrows a - 1 : Int) c) = true ∧ (LF.isNon d || withinB 0 (ncols a - 1 : Int) d) = true := by
  unfold faultB at h
  split at h
  · cases h
  · split at h
    · cases h
    · split at h
      · cases h
      · split at h
        · cases h
        · rename_i h1 h2 h3 h4
          exact ⟨by simpa using h1, by simpa using h2, eq_true_of_ne_false h3, eq_true_of_ne_false h4⟩
theorem fault_pl {a b c d : D} (h : faultB a b c d = none) : Pl 3 a ∧ Pl 3 b ∧ Pl 3 c ∧ Pl 3 d := by
  obtain ⟨h1, h2, h3, h4⟩ := fault_none h
  exact ⟨pl_stepsB h1, pl_within h2 3, pl_or h3 (fun k n => pl_within k n) 3, pl_or h4 (fun k n => pl_within k n) 3⟩
theorem fault_ok {a b c d : D} {w : String} (h : faultB a b c d = some w) : PyData.strOk (Str.ofString w) = true := by
  unfold faultB at h
  split at h
  · cases h; decide +kernel
  · split at h
    · cases h; decide +kernel
    · split at h
      · cases h; decide +kernel
      · split at h
        · cases h; decide +kernel
        · cases h
theorem rowD_ok {g : Prg} {C : Nat} (hg : g.Ok C) {r : List Stp} (hr : r ∈ g.rows) : rowB g.rows.length C (rowD r) = true := by
  have hl := hg.row r hr
  show (decide ((r.map stpD).length = C) && (r.map stpD).all (stepB g.rows.length (r.map stpD).length)) = true
  rw [decide_eq_true (by simpa using hl), Bool.true_and]
  refine List.all_eq_true.mpr fun z hz => ?_
  obtain ⟨x, hx, rfl⟩ := List.mem_map.mp hz
  obtain ⟨h1, h2, h3⟩ := hg.stp r hr x hx
  obtain ⟨i, j, y⟩ := x
  simp only at h1 h2 h3
  have hw : (LF.isNon y.d || wordB y.d) = true := by
    cases y with
    | no => rfl
    | num n => simp only [Say.ok] at h3; simp [Say.d, wordB]; omega
    | all => simp [Say.d, wordB]
  simp only [stepB, stpD, withinB, hw, Bool.and_true, Bool.and_eq_true, decide_eq_true_eq, List.length_map, hl]
  omega
theorem prg_fault {g : Prg} {C : Nat} (hg : g.Ok C) : faultB (stepsD g.rows) (.int g.first) (optD g.leader) (optD g.lamp) = none := by
  have n1 := hg.n1
  have n5 := hg.n5
  have c1 := hg.c1
  have c4 := hg.c4
  have hf := hg.first
  have hrow : ∀ r ∈ g.rows, rowB g.rows.length C (rowD r) = true := fun r hr => rowD_ok hg hr
  have hlen : ∀ r ∈ g.rows, lenB (rowD r) = true := fun r hr => by
    have := hg.row r hr
    show (decide (1 ≤ (r.map stpD).length) && decide ((r.map stpD).length ≤ 4)) = true
    rw [decide_eq_true (by simp; omega), decide_eq_true (by simp; omega)]
    rfl
  obtain ⟨r0, rs, e, e0⟩ : ∃ r0 rs, g.rows = r0 :: rs ∧ r0.length = C := by
    rcases h : g.rows with _ | ⟨r0, rs⟩
    · rw [h] at n1; simp at n1
    · exact ⟨r0, rs, rfl, hg.row r0 (by rw [h]; simp)⟩
  have hS : stepsB (stepsD g.rows) = true := by
    rw [e] at hrow hlen n5 ⊢
    show (decide ((rs.map rowD).length + 1 ≤ 5) && ((rowD r0 :: rs.map rowD).all lenB && (rowD r0 :: rs.map rowD).all (rowB ((rs.map rowD).length + 1) (tlen (rowD r0))))) = true
    rw [decide_eq_true (by simpa using n5), Bool.true_and, Bool.and_eq_true]
    refine ⟨List.all_eq_true.mpr fun z hz => ?_, List.all_eq_true.mpr fun z hz => ?_⟩
    · obtain ⟨r, hr, rfl⟩ := List.mem_map.mp (show z ∈ (r0 :: rs).map rowD from hz)
      exact hlen r hr
    · obtain ⟨r, hr, rfl⟩ := List.mem_map.mp (show z ∈ (r0 :: rs).map rowD from hz)
      have := hrow r hr
      rw [show tlen (rowD r0) = C by simp [rowD, tlen, e0], List.length_map]
      exact this
  have hn : nrows (stepsD g.rows) = g.rows.length := by simp [stepsD, nrows]
  have hc : ncols (stepsD g.rows) = C := by rw [e]; simp [stepsD, ncols, rowD, tlen, e0]
  have h1 : withinB 0 (nrows (stepsD g.rows) - 1 : Int) (.int g.first) = true := by rw [hn]; simp [withinB]; omega
  have h2 : (LF.isNon (optD g.leader) || withinB 0 (nrows (stepsD g.rows) - 1 : Int) (optD g.leader)) = true := by
    rw [hn]
    cases h : g.leader with
    | none => rfl
    | some n => have := hg.leader n h; simp [optD, withinB]; omega
  have h3 : (LF.isNon (optD g.lamp) || withinB 0 (ncols (stepsD g.rows) - 1 : Int) (optD g.lamp)) = true := by
    rw [hc]
    cases h : g.lamp with
    | none => rfl
    | some n => have := hg.lamp n h; simp [optD, withinB]; omega
  simp only [faultB, hS, h1, h2, h3, Bool.true_eq_false, if_false]
/-! ### equality of two -/
structure Pv (d : D) (p : PyData) : Prop where
  deep : ∀ (st : Sto) (k : Nat), deep st (3 + k) d = some p
  lay : p.canLay0 = true
  dep : p.depth ≤ 3
theorem pv_of {d : D} (h : Pl 3 d) : ∃ p, Pv d p := by
  obtain ⟨p, h1, h2, h3⟩ := deep_pl h
  exact ⟨p, h1, h2, h3⟩
theorem eqD_pv {st : Sto} {x y : D} {p q : PyData} (h : Pv x p) (k : Pv y q) : eqD st x y = some (PyData.eqv p q) := by
  have e1 := h.deep st 63
  have e2 := k.deep st 63
  have h3 := h.dep
  have k3 := k.dep
  have s1 : SeqAt.shaped p = true := by simp only [SeqAt.shaped, h.lay, Bool.true_and, decide_eq_true_eq]; omega
  have s2 : SeqAt.shaped q = true := by simp only [SeqAt.shaped, k.lay, Bool.true_and, decide_eq_true_eq]; omega
  simp only [eqD, e1, e2]
  rw [if_pos ⟨s1, s2⟩]
theorem eqD_four {st : Sto} {l m : Nat} {a b c d a' b' c' d' : D} {p1 p2 p3 p4 q1 q2 q3 q4 : PyData} (hl : st[l]? = some (.lst [a, b, c, d])) (hm : st[m]? = some (.lst [a', b', c', d']))
    (h1 : Pv a p1) (h2 : Pv b p2) (h3 : Pv c p3) (h4 : Pv d p4) (k1 : Pv a' q1) (k2 : Pv b' q2) (k3 : Pv c' q3) (k4 : Pv d' q4) :
    eqD st (.ref l) (.ref m) = some (PyData.eqv p1 q1 && (PyData.eqv p2 q2 && (PyData.eqv p3 q3 && (PyData.eqv p4 q4 && true)))) := by
  have e1 : deep st 66 (.ref l) = some (.list [p1, p2, p3, p4]) := by
    have d1 : LF.deep st 65 a = some p1 := h1.deep st 62
    have d2 : LF.deep st 65 b = some p2 := h2.deep st 62
    have d3 : LF.deep st 65 c = some p3 := h3.deep st 62
    have d4 : LF.deep st 65 d = some p4 := h4.deep st 62
    rw [show LF.deep st 66 (.ref l) = (match st[l]? with | some (.lst ds) => (mapO (LF.deep st 65) ds).map .list | _ => none) from rfl, hl]
    simp only [mapO, d1, d2, d3, d4, Option.map_some]
  have e2 : deep st 66 (.ref m) = some (.list [q1, q2, q3, q4]) := by
    have d1 : LF.deep st 65 a' = some q1 := k1.deep st 62
    have d2 : LF.deep st 65 b' = some q2 := k2.deep st 62
    have d3 : LF.deep st 65 c' = some q3 := k3.deep st 62
    have d4 : LF.deep st 65 d' = some q4 := k4.deep st 62
    rw [show LF.deep st 66 (.ref m) = (match st[m]? with | some (.lst ds) => (mapO (LF.deep st 65) ds).map .list | _ => none) from rfl, hm]
    simp only [mapO, d1, d2, d3, d4, Option.map_some]
  have sh : ∀ {p1 p2 p3 p4 : PyData}, p1.canLay0 = true → p2.canLay0 = true → p3.canLay0 = true → p4.canLay0 = true → p1.depth ≤ 3 → p2.depth ≤ 3 → p3.depth ≤ 3 → p4.depth ≤ 3 → SeqAt.shaped (.list [p1, p2, p3, p4]) = true := by
    intro p1 p2 p3 p4 a b c d e f g h
    have hd : (PyData.list [p1, p2, p3, p4]).depth ≤ 64 := by
      simp only [PyData.depth, PyData.depthAll]
      omega
    have hc : (PyData.list [p1, p2, p3, p4]).canLay0 = true := by simp only [PyData.canLay0, PyData.canLayAll0, a, b, c, d, Bool.and_self]
    unfold SeqAt.shaped
    rw [hc, decide_eq_true hd]
    rfl
  simp only [eqD, e1, e2]
  rw [if_pos ⟨sh h1.lay h2.lay h3.lay h4.lay h1.dep h2.dep h3.dep h4.dep, sh k1.lay k2.lay k3.lay k4.lay k1.dep k2.dep k3.dep k4.dep⟩]
  simp only [PyData.eqv, PyData.eqvAll]
theorem same_bl {b : Bool} {k : Nat} {st : Sto} {X : XP} : Wp X (fun x s => x = .bl true ∧ Chg [] st s) (f__law_same (k + 1) [.bl b, .bl b] st) := by
  unfold f__law_same
  walk_at "fn"
  unfold b__law_same
  walk_at "wp"
  exact ⟨by simp, Chg.refl⟩
theorem law_made_gen {a b c d : D} {r : Nat} {st : Sto} (hr : st[r]? = some (.lst [a, b, c, d])) (hf : faultB a b c d = none) (ha : Kn st 3 a) (hb : Kz st b) (hc : Kz st c) (hd : Kz st d) {X : XP} :
    Wp X (fun x s => ∃ o, x = .ref o ∧ s[o]? = some (.ins 8 (prgFd a b c d)) ∧ Chg [] st s) (f__law_made [.ref r] st) := by
  walk_at "fn"
  unfold b__law_made
  walk_at "wp"
  refine (Program_init_gen (o := st.length) (by simp) (ha.keep Chg.app) (hb.keep Chg.app) (hc.keep Chg.app) (hd.keep Chg.app)).imp ?_ ?_
  · rintro _ s ⟨rfl, _, ho, k⟩
    walk_at "wp"
    exact ⟨_, rfl, ho, (Chg.app).new (by simp) k⟩
  · rintro _ _ s ⟨_, _, v, hv, _⟩
    rw [hf] at hv
    cases hv
theorem law_within_gen {d : D} {a b : Int} {st : Sto} (h : Kz st d) {X : XP} : Wp X (fun x s => x = .bl (withinB a b d) ∧ s = st) (f__law_within [d, .int a, .int b] st) := by
  walk_at "fn"
  unfold b__law_within
  cases h with
  | int i =>
    walk_at "wp"
    refine r_bSplit (fun h => ?_) (fun h => ?_)
    · walk_at "wp"
      exact ⟨by simp [withinB, h], rfl⟩
    · walk_at "wp"
      exact ⟨by simp [withinB, h], rfl⟩
  | _ =>
    walk_at "wp"
    exact ⟨rfl, rfl⟩
theorem pl_kz {st : Sto} {n : Nat} {d : D} (h : Pl n d) : Kz st d := by
  cases h with
  | non n => exact .non
  | bl n b => exact .bl b
  | int n i => exact .int i
  | str n x h => exact .str x h
  | tup n ds h hl => exact .tup ds
theorem pl_kn {st : Sto} {n : Nat} {d : D} (h : Pl n d) : ∀ m : Nat, Kn st m d := by
  induction h with
  | non n => intro m; exact .flat m _ .non (by simp)
  | bl n b => intro m; exact .flat m _ (.bl b) (by simp)
  | int n i => intro m; exact .flat m _ (.int i) (by simp)
  | str n x h => intro m; exact .flat m _ (.str x h) (by simp)
  | tup n ds h hl ih =>
    intro m
    cases m with
    | zero => exact .tup0 ds
    | succ m => exact .tup m ds fun d hd => ih d hd m
theorem prg_pl {g : Prg} {C : Nat} (hg : g.Ok C) : Pl 3 (stepsD g.rows) ∧ Pl 3 (.int g.first) ∧ Pl 3 (optD g.leader) ∧ Pl 3 (optD g.lamp) := ⟨pl_steps hg, .int _ _, pl_opt 3, pl_opt 3⟩
/-! ### standings -/
def natD (n : Nat) : D := .int n
structure Std where
  col : Nat
  sts : List Nat
  bn : List Bool
def Std.d (s : Std) : D := .tup [.int s.col, .tup (s.sts.map natD), .tup (s.bn.map D.bl)]
structure Std.Ok (s : Std) (g : Prg) (C n : Nat) : Prop where
  col : s.col < C
  sts : ∀ x ∈ s.sts, x < g.rows.length
  ln : s.sts.length = n
  lb : s.bn.length = n
def beg (g : Prg) (many col : Nat) : Std := ⟨col, List.replicate many g.first ++ g.leader.toList, List.replicate (many + g.leader.toList.length) false⟩
def stp (g : Prg) (s : Std) (i : Nat) : Stp := (g.rows.getD (s.sts.getD i 0) []).getD s.col (0, 0, .no)
def nxt (g : Prg) (s : Std) (i : Nat) : Std := ⟨(stp g s i).2.1, s.sts.set i (stp g s i).1, s.bn.set i true⟩
def tld (g : Prg) (s : Std) (o : List Nat) : Std := o.foldl (nxt g) s
theorem beg_ok {g : Prg} {C many col : Nat} (hg : g.Ok C) (hc : col < C) : (beg g many col).Ok g C (many + g.leader.toList.length) := by
  refine ⟨hc, fun x hx => ?_, by simp [beg], by simp [beg]⟩
  rcases List.mem_append.mp hx with h | h
  · rw [(List.mem_replicate.mp h).2]
    exact hg.first
  · exact hg.leader x (by simpa using h)
theorem lead_len (g : Prg) : g.leader.toList.length ≤ 1 := by cases g.leader <;> simp
/-- the step that a visit takes -/
structure StpAt (g : Prg) (C : Nat) (s : Std) (i : Nat) (r : List Stp) : Prop where
  row : g.rows[s.sts.getD i 0]? = some r
  mem : r ∈ g.rows
  cell : r[s.col]? = some (stp g s i)
  ok : (stp g s i).1 < g.rows.length ∧ (stp g s i).2.1 < C ∧ (stp g s i).2.2.ok
  st : s.sts[i]? = some (s.sts.getD i 0)
theorem stp_at {g : Prg} {C n i : Nat} {s : Std} (hg : g.Ok C) (hs : s.Ok g C n) (hi : i < n) : ∃ r, StpAt g C s i r := by
  have hl := hs.ln
  have h1 : s.sts[i]? = some (s.sts.getD i 0) := by
    rw [List.getElem?_eq_getElem (by omega), List.getD_eq_getElem?_getD, List.getElem?_eq_getElem (by omega)]
    rfl
  have h2 : s.sts.getD i 0 < g.rows.length := hs.sts _ (List.mem_of_getElem? h1)
  obtain ⟨r, h3⟩ : ∃ r, g.rows[s.sts.getD i 0]? = some r := ⟨_, List.getElem?_eq_getElem h2⟩
  have hm := List.mem_of_getElem? h3
  have hr := hg.row _ hm
  have hc := hs.col
  have h4 : r[s.col]? = some (stp g s i) := by
    have e : stp g s i = r.getD s.col (0, 0, .no) := by
      unfold stp
      rw [List.getD_eq_getElem?_getD (l := g.rows), h3]
      rfl
    rw [e, List.getD_eq_getElem?_getD, List.getElem?_eq_getElem (by omega)]
    rfl
  exact ⟨_, h3, hm, h4, hg.stp _ hm _ (List.mem_of_getElem? h4), h1⟩
theorem nxt_ok {g : Prg} {C n i : Nat} {s : Std} (hg : g.Ok C) (hs : s.Ok g C n) (hi : i < n) : (nxt g s i).Ok g C n := by
  obtain ⟨r, h⟩ := stp_at hg hs hi
  refine ⟨h.ok.2.1, fun x hx => ?_, by simp [nxt, hs.ln], by simp [nxt, hs.lb]⟩
  rcases List.mem_or_eq_of_mem_set hx with z | z
  · exact hs.sts x z
  · rw [z]; exact h.ok.1
theorem tld_ok {g : Prg} {C n : Nat} (hg : g.Ok C) : ∀ {o : List Nat} {s : Std}, s.Ok g C n → (∀ i ∈ o, i < n) → (tld g s o).Ok g C n
  | [], _, hs, _ => hs
  | i :: o, _, hs, h => tld_ok hg (o := o) (nxt_ok hg hs (h i (by simp))) fun j hj => h j (by simp [hj])
theorem tld_app {g : Prg} {s : Std} {o : List Nat} {i : Nat} : tld g s (o ++ [i]) = nxt g (tld g s o) i := by simp [tld]
theorem std_pl {s : Std} (h1 : s.sts.length ≤ 1000) (h2 : s.bn.length ≤ 1000) : Pl 2 s.d := by
  refine .tup 1 _ (fun d hd => ?_) (by simp)
  simp only [List.mem_cons, List.not_mem_nil, or_false] at hd
  rcases hd with rfl | rfl | rfl
  · exact .int _ _
  · exact .tup 0 _ (fun d hd => by obtain ⟨x, _, rfl⟩ := List.mem_map.mp hd; exact .int _ _) (by simpa using h1)
  · exact .tup 0 _ (fun d hd => by obtain ⟨x, _, rfl⟩ := List.mem_map.mp hd; exact .bl _ _) (by simpa using h2)
/-- the spec's list -/
def SpecAt (s : Sto) (g : Prg) (l : Nat) : Prop := s[l]? = some (.lst [.tup (g.rows.map rowD), .int g.first, optD g.leader, optD g.lamp])
theorem SpecAt.keep {s t : Sto} {g : Prg} {l : Nat} (h : SpecAt s g l) (k : Chg [] s t) : SpecAt t g l := k.get0 h
theorem none_back {a b : Sto} {r : Nat} (k : Chg [] a b) (h : b[r]? = none) : a[r]? = none := by
  rcases e : a[r]? with _ | c
  · rfl
  · rw [k.get0 e] at h; cases h
theorem flat_one {α : Type} {n : Nat} {x : α} : (List.replicate n [x]).flatten = List.replicate n x := by
  induction n with
  | zero => rfl
  | succ n ih => rw [List.replicate_succ, List.flatten_cons, ih]; rfl
theorem rng_nat {n : Nat} : rngI 0 n = (List.range n).map natD := by
  unfold rngI natD
  exact List.map_congr_left fun i _ => by simp
/-- the colours at first -/
def cols (g : Prg) (C : Nat) : List Nat := match g.lamp with
  | none => List.range C
  | some z => [z]
theorem law_colours_ok {st : Sto} {g : Prg} {C l : Nat} (hg : g.Ok C) (hl : SpecAt st g l) {X : XP} :
    Wp X (fun x s => ∃ (r : Nat) (cs : List Nat), x = .ref r ∧ s[r]? = some (.lst (cs.map natD)) ∧ cs = cols g C ∧ 1 ≤ cs.length ∧ cs.length ≤ 4 ∧ (∀ c ∈ cs, c < C ∧ ∀ z, g.lamp = some z → z = c) ∧ st[r]? = none ∧ Chg [] st s) (f__law_colours [.ref l] st) := by
  have n1 := hg.n1
  have c1 := hg.c1
  have c4 := hg.c4
  unfold SpecAt at hl
  walk_at "fn"
  unfold b__law_colours
  cases e : g.lamp with
  | none =>
    rw [e] at hl
    simp only [optD] at hl
    walk_at "wp"
    refine q_lrg ?_
    walk_at "wp"
    obtain ⟨r0, h0⟩ : ∃ r0, g.rows[0]? = some r0 := ⟨_, List.getElem?_eq_getElem (by omega)⟩
    have hr := hg.row r0 (List.mem_of_getElem? h0)
    refine w_ixT (d := rowD r0) (atIn (n := 0) (by simp [h0])) ?_
    unfold rowD
    walk_at "wp"
    refine ⟨C, by simp [hr], by omega, fun r s' h1 h2 h3 => ?_⟩
    walk_at "wp"
    exact ⟨r, List.range C, rfl, by rw [h1, rng_nat], by simp [cols, e], by simpa using c1, by simpa using c4, fun c hc => ⟨by simpa using hc, by simp⟩, h2, h3⟩
  | some z =>
    have hz := hg.lamp z e
    rw [e] at hl
    simp only [optD] at hl
    walk_at "wp"
    refine wo_lst (by simp [LIM]) fun r s h1 h2 h3 => ?_
    walk_at "wp"
    exact ⟨r, [z], rfl, h1, by simp [cols, e], by simp, by simp, fun c hc => by rw [List.mem_singleton.mp hc]; exact ⟨hz, fun y hy => by cases hy; rfl⟩, h2, h3⟩
theorem law_many_ok {st : Sto} {p q l m : Nat} {ns : List Int} {g : Prg} (P : Pot st p q ns) (hl : SpecAt st g l) (hm : m + g.leader.toList.length ≤ 7) (hm1 : 1 ≤ m) {X : XP} :
    Wp X (fun x s => ∃ k : Nat, x = .int k ∧ k ≤ m ∧ 1 ≤ k + g.leader.toList.length ∧ Pot s p q ns ∧ Chg [p] st s) (f__law_many [.ref p, .ref l, .int m] st) := by
  unfold SpecAt at hl
  walk_at "fn"
  unfold b__law_many
  cases e : g.leader with
  | none =>
    rw [e] at hl
    simp only [optD] at hl
    walk_at "wp"
    refine (law_draw P (by omega) (by omega)).mono ?_
    rintro _ s ⟨r, rfl, hr, P1, k⟩
    walk_at "wp"
    exact ⟨1 + r, by simp, by omega, by simp, P1, k⟩
  | some z =>
    rw [e] at hl
    simp only [optD] at hl
    walk_at "wp"
    refine (law_draw P (by omega) (by omega)).mono ?_
    rintro _ s ⟨r, rfl, hr, P1, k⟩
    walk_at "wp"
    exact ⟨r, rfl, by omega, by simp, P1, k⟩
theorem law_begun_ok {st : Sto} {g : Prg} {many col l : Nat} (hl : SpecAt st g l) (hm : many ≤ 6) (h1 : 1 ≤ many + g.leader.toList.length) {X : XP} :
    Wp X (fun x s => x = (beg g many col).d ∧ s = st) (f__law_begun [.ref l, .int many, .int col] st) := by
  unfold SpecAt at hl
  have hll := lead_len g
  walk_at "fn"
  unfold b__law_begun
  walk_at "wp"
  refine w_tup (by simp [LIM]) ?_
  walk_at "wp"
  refine w_mulYT ⟨by simp, by omega, by omega, by simp⟩ ?_
  rw [flat_one]
  have fin : ∀ (ds : List D), ds = g.leader.toList.map natD → (D.tup [.int col, .tup (List.replicate (many : Int).toNat (D.int g.first) ++ ds), .tup (List.replicate ((List.replicate (many : Int).toNat (D.int g.first) ++ ds).length : Int).toNat (D.bl false))]) = (beg g many col).d := by
    intro ds hd
    subst hd
    simp [beg, Std.d, natD]
    omega
  cases e : g.leader with
  | none =>
    rw [e] at hl fin
    simp only [optD] at hl
    walk_at "wp"
    refine w_tup (by simp [LIM]) ?_
    walk_at "wp"
    refine w_addT (by simp [LIM]; omega) ?_
    walk_at "wp"
    refine w_tup (by simp [LIM]) ?_
    walk_at "wp"
    refine w_mulYT ⟨by simp, by omega, by simp; omega, by simp⟩ ?_
    rw [flat_one]
    walk_at "wp"
    refine w_tup (by simp [LIM]) ?_
    walk_at "wp"
    exact ⟨fin [] rfl, rfl⟩
  | some z =>
    rw [e] at hl fin
    simp only [optD] at hl
    walk_at "wp"
    refine w_tup (by simp [LIM]) ?_
    walk_at "wp"
    refine w_addT (by simp [LIM]; omega) ?_
    walk_at "wp"
    refine w_tup (by simp [LIM]) ?_
    walk_at "wp"
    refine w_mulYT ⟨by simp, by omega, by simp; omega, by simp⟩ ?_
    rw [flat_one]
    walk_at "wp"
    refine w_tup (by simp [LIM]) ?_
    walk_at "wp"
    exact ⟨fin [.int z] rfl, rfl⟩
theorem law_step_ok {st : Sto} {g : Prg} {C n l i : Nat} {s : Std} (hg : g.Ok C) (hl : SpecAt st g l) (hs : s.Ok g C n) (hi : i < n) (hn : n ≤ 100) {X : XP} :
    Wp X (fun x t => x = .tup [(stp g s i).2.2.d, (nxt g s i).d] ∧ Chg [] st t) (f__law_step [.ref l, s.d, .int i] st) := by
  obtain ⟨r, h⟩ := stp_at hg hs hi
  have hln := hs.ln
  have hlb := hs.lb
  unfold SpecAt at hl
  unfold Std.d
  walk_at "fn"
  unfold b__law_step
  walk_at "wp"
  refine w_ixT (d := natD (s.sts.getD i 0)) (atIn (by rw [List.getElem?_map, h.st]; rfl)) ?_
  unfold natD
  walk_at "wp"
  refine w_ixT (d := rowD r) (atIn (by rw [List.getElem?_map, h.row]; rfl)) ?_
  unfold rowD
  walk_at "wp"
  refine w_ixT (d := stpD (stp g s i)) (atIn (by rw [List.getElem?_map, h.cell]; rfl)) ?_
  unfold stpD
  refine ⟨_, rfl, ?_⟩
  dsimp only [List.set]
  walk_at "wp"
  refine w_listT fun L1 t1 hL1 hL1n k1 => ?_
  walk_at "wp"
  refine w_listT fun L2 t2 hL2 hL2n k2 => ?_
  walk_at "wp"
  have hL1' := k2.get0 hL1
  have hne : L1 ≠ L2 := fun z => by subst z; rw [hL1] at hL2n; cases hL2n
  refine r_setV2 ?_
  walk_at "wp"
  refine ⟨_, _, _, _, rfl, rfl, rfl, rfl, ?_⟩
  refine wo_setIx hL1' (j := i) (by unfold ixN; rw [if_pos (by omega), if_pos (by simp; omega)]; simp) fun t3 hL3 k3 => ?_
  refine wo_setIx (k3.get (by simpa using fun z => hne z.symm) hL2) (j := i) (by unfold ixN; rw [if_pos (by omega), if_pos (by simp; omega)]; simp) fun t4 hL4 k4 => ?_
  have hL3' := k4.get (by simpa using hne) hL3
  walk_at "wp"
  refine w_tup (by simp [LIM]) ?_
  walk_at "wp"
  refine w_tup (by simp [LIM]) ?_
  walk_at "wp"
  refine ⟨?_, ((k1.trans k2).new hL1n k3).new (none_back k1 hL2n) k4⟩
  simp [nxt, Std.d, natD]
/-! ### what was told, by the law -/
theorem enum_get {ds : List D} {i : Nat} {d : D} (h : (enumI ds)[i]? = some d) : ∃ x, ds[i]? = some x ∧ d = .tup [.int (i : Int), x] := by
  unfold enumI at h
  rw [List.getElem?_map, List.getElem?_zipIdx] at h
  rcases hx : ds[i]? with _ | x
  · rw [hx] at h; cases h
  · rw [hx] at h
    simp at h
    exact ⟨x, rfl, h.symm⟩
theorem enum_len {ds : List D} : (enumI ds).length = ds.length := by simp [enumI]
theorem eqD_is {st : Sto} {n : Int} {x : Str} (h : PyData.strOk x = true) : eqD st (.int n) (.str x) = some false := by
  simp [eqD, deep, SeqAt.shaped, PyData.eqv, PyData.canLay0, PyData.depth, h]
def trueD : D → Option D
  | .bl true => some (.bl true)
  | _ => none
def cnt (bn : List Bool) : Nat := (bn.filter id).length
def lieB (y : Say) (bn : List Bool) : Bool := match y with
  | .no => false
  | .all => decide (cnt bn < bn.length)
  | .num n => decide (cnt bn < n)
theorem true_cnt (bn : List Bool) : ((bn.map D.bl).filterMap trueD).length = cnt bn := by
  unfold cnt
  induction bn with
  | nil => rfl
  | cons b l ih => cases b <;> simpa [trueD, List.filterMap_cons] using ih
theorem law_is_lie_ok {st : Sto} {y : Say} {bn : List Bool} (hb : bn.length ≤ 100) {X : XP} : Wp X (fun x s => x = .bl (lieB y bn) ∧ Chg [] st s) (f__law_is_lie [y.d, .tup (bn.map D.bl)] st) := by
  walk_at "fn"
  unfold b__law_is_lie
  walk_at "wp"
  refine wp_lc ?_
  walk_at "wp"
  refine ⟨trueD, fun _ _ => okB_none, by simp [LIM]; omega, ?_, ?_⟩
  · intro d hd s hs
    obtain ⟨b, _, rfl⟩ := List.mem_map.mp hd
    refine ⟨_, rfl, ?_⟩
    dsimp only [wipeD, List.set]
    cases b
    · walk_at "wp"
      exact ⟨rfl, Chg.refl⟩
    · walk_at "wp"
      exact ⟨rfl, Chg.refl⟩
  intro L s1 hL hLn k1
  walk_at "wp"
  rw [true_cnt]
  cases y with
  | no =>
    unfold Say.d
    walk_at "wp"
    exact ⟨rfl, k1⟩
  | num n =>
    unfold Say.d
    walk_at "wp"
    refine w_eq (eqD_is all_ok) ?_
    walk_at "wp"
    exact ⟨by simp [lieB], k1⟩
  | all =>
    unfold Say.d
    walk_at "wp"
    refine w_eqS all_ok all_ok ?_
    rw [show ((Str.ofString "all") == (Str.ofString "all")) = true by simp]
    walk_at "wp"
    exact ⟨by simp [lieB], k1⟩
theorem is_lie_ok {st : Sto} {y : Say} {bn : List Bool} (hb : bn.length ≤ 100) {X : XP} : Wp X (fun x s => x = .bl (lieB y bn) ∧ Chg [] st s) (f_is_lie [y.d, .tup (bn.map D.bl)] st) := by
  walk_at "fn"
  unfold b_is_lie
  have cs : ∀ y : Say, y ≠ .no → LF.isNon y.d = false := fun y hy => by cases y <;> first | exact (hy rfl).elim | rfl
  by_cases hy : y = .no
  · subst hy
    unfold Say.d
    walk_at "wp"
    exact ⟨rfl, Chg.refl⟩
  have hy2 := cs y hy
  walk_at "wp"
  refine wp_lc ?_
  walk_at "wp"
  refine ⟨trueD, fun _ _ => okB_none, by simp [LIM]; omega, ?_, ?_⟩
  · intro d hd s hs
    obtain ⟨b, _, rfl⟩ := List.mem_map.mp hd
    refine ⟨_, rfl, ?_⟩
    dsimp only [wipeD, List.set]
    cases b
    · walk_at "wp"
      exact ⟨rfl, Chg.refl⟩
    · walk_at "wp"
      exact ⟨rfl, Chg.refl⟩
  intro L s1 hL hLn k1
  walk_at "wp"
  rw [true_cnt]
  cases y with
  | no => exact (hy rfl).elim
  | num n =>
    unfold Say.d
    walk_at "wp"
    refine w_eq (eqD_is all_ok) ?_
    walk_at "wp"
    exact ⟨by simp [lieB], k1⟩
  | all =>
    unfold Say.d
    walk_at "wp"
    refine w_eqS all_ok all_ok ?_
    rw [show ((Str.ofString "all") == (Str.ofString "all")) = true by simp]
    walk_at "wp"
    exact ⟨by simp [lieB], k1⟩
/-! what is said at each visit of an order, whether it is a lie -/
def sayK (g : Prg) (s : Std) (o : List Nat) (k : Nat) : Say := (stp g (tld g s (o.take k)) (o.getD k 0)).2.2
def lieK (g : Prg) (s : Std) (o : List Nat) (k : Nat) : Bool := lieB (sayK g s o k) (tld g s (o.take (k + 1))).bn
def wordsD (g : Prg) (s : Std) (o : List Nat) (k : Nat) : List D := (List.range k).map fun j => (sayK g s o j).d
def wrongD (g : Prg) (s : Std) (o : List Nat) (k : Nat) : List D := ((List.range k).filter (lieK g s o)).map natD
section
variable {g : Prg} {s : Std} {o : List Nat} {k j : Nat}
theorem words_succ : wordsD g s o (k + 1) = wordsD g s o k ++ [(sayK g s o k).d] := by
  unfold wordsD
  rw [List.range_succ, List.map_append]
  rfl
theorem wrong_succ : wrongD g s o (k + 1) = wrongD g s o k ++ (if lieK g s o k then [natD k] else []) := by
  unfold wrongD
  rw [List.range_succ, List.filter_append, List.map_append]
  congr 1
  cases h : lieK g s o k <;> simp [List.filter_cons, h]
theorem wrong_len : (wrongD g s o k).length ≤ k := by
  unfold wrongD
  rw [List.length_map]
  exact Nat.le_trans (List.length_filter_le _ _) (by simp)
theorem words_len : (wordsD g s o k).length = k := by simp [wordsD]
theorem tld_succ (hj : o[k]? = some j) : tld g s (o.take (k + 1)) = nxt g (tld g s (o.take k)) j := by
  rw [show o.take (k + 1) = o.take k ++ [j] by rw [List.take_add_one, hj]; rfl, tld_app]
theorem sayK_at (hj : o[k]? = some j) : (stp g (tld g s (o.take k)) j).2.2 = sayK g s o k := by
  unfold sayK
  rw [List.getD_eq_getElem?_getD, hj]
  rfl
end
theorem law_told_ok {st : Sto} {g : Prg} {C n l r : Nat} {s : Std} {o : List Nat} (hg : g.Ok C) (hl : SpecAt st g l) (hs : s.Ok g C n) (hn : n ≤ 100) (ho : ∀ i ∈ o, i < n) (hol : o.length ≤ 100) (hr : st[r]? = some (.lst (o.map natD))) {X : XP} :
    Wp X (fun x t => (∃ a b, x = .tup [.ref a, .ref b, (tld g s o).d] ∧ t[a]? = some (.lst (wordsD g s o o.length)) ∧ t[b]? = some (.lst (wrongD g s o o.length)) ∧ st[a]? = none ∧ st[b]? = none) ∧ Chg [] st t) (f__law_told [.ref l, s.d, .ref r] st) := by
  walk_at "fn"
  unfold b__law_told
  walk_at "wp"
  refine wo_lst (by simp [LIM]) fun W s1 hW hWn k1 => ?_
  walk_at "wp"
  refine wo_lst (by simp [LIM]) fun R s2 hR hRn k2 => ?_
  walk_at "wp"
  have hr2 := k2.get0 (k1.get0 hr)
  refine r_onEnL hr2 ?_
  have hne : R ≠ W := fun z => by subst z; rw [hW] at hRn; cases hRn
  refine owp_forS (fun i e t => ∃ (R' : Nat) (x5 x6 x7 : Option D), e = [some (.ref l), some (tld g s (o.take i)).d, some (.ref r), some (.ref W), some (.ref R'), x5, x6, x7] ∧ t[W]? = some (.lst (wordsD g s o i)) ∧ t[R']? = some (.lst (wrongD g s o i)) ∧ R' ≠ W ∧ st[R']? = none ∧ Chg [] st t) ?_ ?_
    ⟨R, none, none, none, rfl, k2.get0 hW, hR, hne, none_back k1 hRn, k1.trans k2⟩
  · rintro i d e t hd ⟨R', x5, x6, x7, rfl, hWt, hRt, hRW, hRn', kt⟩
    obtain ⟨x, hx, rfl⟩ := enum_get hd
    rw [List.getElem?_map] at hx
    obtain ⟨j, hj, rfl⟩ := Option.map_eq_some_iff.mp hx
    have hi : i < o.length := (List.getElem?_eq_some_iff.mp hj).1
    have hjn : j < n := ho j (List.mem_of_getElem? hj)
    have hto : (tld g s (o.take i)).Ok g C n := tld_ok hg hs fun z hz => ho z (List.mem_of_mem_take hz)
    refine ⟨okB_some (kt.get0 hr), _, rfl, ?_⟩
    dsimp only [List.set]
    unfold natD
    walk_at "wp"
    refine (law_step_ok hg (hl.keep kt) hto hjn hn).mono ?_
    rintro _ t1 ⟨rfl, l1⟩
    refine ⟨_, rfl, ?_⟩
    dsimp only [List.set]
    have hW1 := l1.get0 hWt
    walk_at "wp"
    refine wo_append hW1 (by rw [words_len]; simp only [LIM]; omega) fun t2 hW2 l2 => ?_
    have hR2 := l2.get (by simpa using hRW) (l1.get0 hRt)
    have hWn0 : st[W]? = none := hWn
    have c2 : Chg [] st t2 := (kt.trans l1).new hWn0 l2
    have hno := nxt_ok hg hto hjn
    have hbl : (nxt g (tld g s (o.take i)) j).bn.length ≤ 100 := by rw [hno.lb]; exact hn
    have enx := tld_succ (g := g) (s := s) hj
    have esy := sayK_at (g := g) (s := s) hj
    rw [esy, ← words_succ] at hW2
    walk_at "wp"
    unfold Std.d
    walk_at "wp"
    refine (law_is_lie_ok hbl).mono ?_
    rintro _ t3 ⟨rfl, l3⟩
    have elk : lieB (stp g (tld g s (o.take i)) j).2.2 (nxt g (tld g s (o.take i)) j).bn = lieK g s o i := by
      unfold lieK
      rw [esy, enx]
    rw [elk]
    have hws := wrong_succ (g := g) (s := s) (o := o) (k := i)
    have hwl := wrong_len (g := g) (s := s) (o := o) (k := i)
    cases hb : lieK g s o i
    · rw [hb] at hws
      walk_at "wp"
      refine wo_lst (by simp [LIM]) fun E t4 hE hEn l4 => ?_
      refine wo_addL (l4.get0 (l3.get0 hR2)) hE (by simp only [LIM, List.length_nil]; omega) fun R2 t5 hR5 hR5n l5 => ?_
      walk_at "wp"
      have hW5 := l5.get0 (l4.get0 (l3.get0 hW2))
      exact ⟨R2, _, _, _, by rw [enx], hW5, by rw [hws]; exact hR5, (fun z => by subst z; rw [l4.get0 (l3.get0 hW2)] at hR5n; cases hR5n), none_back ((c2.trans l3).trans l4) hR5n, ((c2.trans l3).trans l4).trans l5⟩
    · rw [hb] at hws
      walk_at "wp"
      refine wo_lst (by simp [LIM]) fun E t4 hE hEn l4 => ?_
      refine wo_addL (l4.get0 (l3.get0 hR2)) hE (by simp only [LIM, List.length_singleton]; omega) fun R2 t5 hR5 hR5n l5 => ?_
      walk_at "wp"
      have hW5 := l5.get0 (l4.get0 (l3.get0 hW2))
      exact ⟨R2, _, _, _, by rw [enx], hW5, by rw [hws]; exact hR5, (fun z => by subst z; rw [l4.get0 (l3.get0 hW2)] at hR5n; cases hR5n), none_back ((c2.trans l3).trans l4) hR5n, ((c2.trans l3).trans l4).trans l5⟩
  · rintro e t ⟨R', x5, x6, x7, rfl, hWt, hRt, hRW, hRn', kt⟩
    refine ⟨okB_some (kt.get0 hr), ?_⟩
    walk_at "wp"
    refine w_tup (by simp [LIM]) ?_
    walk_at "wp"
    have e1 : (enumI (o.map natD)).length = o.length := by rw [enum_len, List.length_map]
    have e2 : ({ items := enumI (o.map natD), chk := some (r, o.map natD) } : Its).items.length = o.length := e1
    rw [e2] at hWt hRt
    refine ⟨⟨W, R', ?_, hWt, hRt, hWn, hRn'⟩, kt⟩
    show D.tup [.ref W, .ref R', (tld g s (o.take (enumI (o.map natD)).length)).d] = _
    rw [e1, List.take_length]
/-! ### by the program -/
theorem cut_take {ds : List D} {a : Nat} (h : a ≤ ds.length) : LF.cutD ds none (some (a : Int)) = ds.take a := by
  unfold LF.cutD
  rw [HT.sIx_nat, HT.sIx_none, Nat.min_eq_left h]
  simp
theorem cut_drop {ds : List D} {a : Nat} (h : a ≤ ds.length) : LF.cutD ds (some (a : Int)) none = ds.drop a := by
  unfold LF.cutD
  rw [HT.sIx_nat, HT.sIx_none, Nat.min_eq_left h, ← List.length_drop, List.take_length]
theorem set_parts {ds : List D} {a : Nat} {x : D} (h : a < ds.length) : ds.take a ++ x :: (ds.drop (a + 1) ++ []) = ds.set a x := by
  rw [List.set_eq_take_append_cons_drop, if_pos h]
  simp
theorem replaced_ok {st : Sto} {ds : List D} {i : Nat} {x : D} (hi : i < ds.length) (hl : ds.length ≤ 1000) {X : XP} : Wp X (fun y s => y = .tup (ds.set i x) ∧ s = st) (f_replaced [.tup ds, .int i, x] st) := by
  walk_at "fn"
  unfold b_replaced
  walk_at "wp"
  rw [show ((i : Int) + 1) = ((i + 1 : Nat) : Int) by omega, cut_take (by omega), cut_drop (by omega)]
  refine w_tup (by rw [set_parts hi]; simp only [List.length_set, LIM]; omega) ?_
  rw [set_parts hi]
  walk_at "wp"
  exact ⟨rfl, rfl⟩
/-- the program's object -/
def PrgAt (s : Sto) (g : Prg) (o : Nat) : Prop := s[o]? = some (.ins 8 (prgFd (.tup (g.rows.map rowD)) (.int g.first) (optD g.leader) (optD g.lamp)))
theorem PrgAt.keep {s t : Sto} {g : Prg} {o : Nat} (h : PrgAt s g o) (k : Chg [] s t) : PrgAt t g o := k.get0 h
theorem step_of_ok {st : Sto} {g : Prg} {C n o i : Nat} {s : Std} (hg : g.Ok C) (ho : PrgAt st g o) (hs : s.Ok g C n) (hi : i < n) {X : XP} :
    Wp X (fun x t => x = stpD (stp g s i) ∧ t = st) (f_step_of [.ref o, s.d, .int i] st) := by
  obtain ⟨r, h⟩ := stp_at hg hs hi
  unfold PrgAt prgFd at ho
  unfold Std.d
  walk_at "fn"
  unfold b_step_of
  walk_at "wp"
  refine w_ixT (d := natD (s.sts.getD i 0)) (atIn (by rw [List.getElem?_map, h.st]; rfl)) ?_
  unfold natD
  walk_at "wp"
  refine w_ixT (d := rowD r) (atIn (by rw [List.getElem?_map, h.row]; rfl)) ?_
  unfold rowD
  walk_at "wp"
  refine w_ixT (d := stpD (stp g s i)) (atIn (by rw [List.getElem?_map, h.cell]; rfl)) ?_
  walk_at "wp"
  exact ⟨rfl, rfl⟩
theorem behind_ok {st : Sto} {g : Prg} {C n o i : Nat} {s : Std} (hg : g.Ok C) (ho : PrgAt st g o) (hs : s.Ok g C n) (hi : i < n) (hn : n ≤ 100) {X : XP} :
    Wp X (fun x t => x = (nxt g s i).d ∧ t = st) (f_behind [.ref o, s.d, .int i] st) := by
  have hln := hs.ln
  have hlb := hs.lb
  walk_at "fn"
  unfold b_behind
  walk_at "wp"
  refine (step_of_ok hg ho hs hi).mono ?_
  rintro _ _ ⟨rfl, rfl⟩
  unfold stpD
  walk_at "wp"
  refine ⟨_, rfl, ?_⟩
  dsimp only [List.set]
  unfold Std.d
  walk_at "wp"
  refine (replaced_ok (by simp; omega) (by simp; omega)).mono ?_
  rintro _ _ ⟨rfl, rfl⟩
  walk_at "wp"
  refine (replaced_ok (by simp; omega) (by simp; omega)).mono ?_
  rintro _ _ ⟨rfl, rfl⟩
  walk_at "wp"
  refine w_tup (by simp [LIM]) ?_
  walk_at "wp"
  exact ⟨by simp [nxt, natD], rfl⟩
/-- what the program tells along -/
def foundD (g : Prg) (s : Std) (o : List Nat) (k : Nat) : List D := (List.range k).map fun j => .tup [(sayK g s o j).d, .bl (lieK g s o j)]
theorem found_len {g : Prg} {s : Std} {o : List Nat} {k : Nat} : (foundD g s o k).length = k := by simp [foundD]
theorem found_succ {g : Prg} {s : Std} {o : List Nat} {k : Nat} : foundD g s o (k + 1) = foundD g s o k ++ [.tup [(sayK g s o k).d, .bl (lieK g s o k)]] := by
  unfold foundD
  rw [List.range_succ, List.map_append]
  rfl
theorem told_along_ok {st : Sto} {g : Prg} {C n o' : Nat} {od : D} {s : Std} {o : List Nat} (hg : g.Ok C) (hl : PrgAt st g o') (hs : s.Ok g C n) (hn : n ≤ 100) (ho : ∀ i ∈ o, i < n) (hol : o.length ≤ 100)
    (hi : (od = .tup (o.map natD)) ∨ ∃ r, od = .ref r ∧ st[r]? = some (.lst (o.map natD))) {X : XP} :
    Wp X (fun x t => (∃ a, x = .tup [.ref a, (tld g s o).d] ∧ t[a]? = some (.lst (foundD g s o o.length))) ∧ Chg [] st t) (f_told_along [.ref o', s.d, od] st) := by
  walk_at "fn"
  unfold b_told_along
  walk_at "wp"
  refine wo_lst (by simp [LIM]) fun W s1 hW hWn k1 => ?_
  have main : ∀ chk : Option (Nat × List D), (∀ t, Chg [] st t → Its.okB ⟨o.map natD, chk⟩ t) → Owp ((Ks.fn X fun x t => (∃ a, x = .tup [.ref a, (tld g s o).d] ∧ t[a]? = some (.lst (foundD g s o o.length))) ∧ Chg [] st t).seq (sRet (eBlt opTup [eVar 3, eVar 1])))
      (forS ⟨o.map natD, chk⟩ (.name 4) (sSeq (sAsg (.name 5) (eBin opIx (eCall (f_step_of) [eVar 0, eVar 1, eVar 4]) (eC (.int 2)))) (sSeq (sAsg (.name 1) (eCall (f_behind) [eVar 0, eVar 1, eVar 4])) (sExpr (eMt "list" opAppend (eVar 3) [eBlt opTup [eVar 5, eCall (f_is_lie) [eVar 5, eBin opIx (eVar 1) (eC (.int 2))]]])))) (o.map natD) [some (.ref o'), some s.d, some od, some (.ref W), none, none] s1) := by
    intro chk hok
    refine owp_forS (fun i e t => ∃ (x4 x5 : Option D), e = [some (.ref o'), some (tld g s (o.take i)).d, some od, some (.ref W), x4, x5] ∧ t[W]? = some (.lst (foundD g s o i)) ∧ Chg [] st t) ?_ ?_ ⟨none, none, rfl, hW, k1⟩
    · rintro i d e t hd ⟨x4, x5, rfl, hWt, kt⟩
      rw [List.getElem?_map] at hd
      obtain ⟨j, hj, rfl⟩ := Option.map_eq_some_iff.mp hd
      have hi : i < o.length := (List.getElem?_eq_some_iff.mp hj).1
      have hjn : j < n := ho j (List.mem_of_getElem? hj)
      have hto : (tld g s (o.take i)).Ok g C n := tld_ok hg hs fun z hz => ho z (List.mem_of_mem_take hz)
      refine ⟨hok t kt, _, rfl, ?_⟩
      dsimp only [List.set]
      unfold natD
      walk_at "wp"
      refine (step_of_ok hg (hl.keep kt) hto hjn).mono ?_
      rintro _ t ⟨rfl, rfl⟩
      unfold stpD
      walk_at "wp"
      refine (behind_ok hg (hl.keep kt) hto hjn hn).mono ?_
      rintro _ t ⟨rfl, rfl⟩
      have hno := nxt_ok hg hto hjn
      have hbl : (nxt g (tld g s (o.take i)) j).bn.length ≤ 100 := by rw [hno.lb]; exact hn
      have enx := tld_succ (g := g) (s := s) hj
      have esy := sayK_at (g := g) (s := s) hj
      rw [esy]
      walk_at "wp"
      unfold Std.d
      walk_at "wp"
      refine (is_lie_ok hbl).mono ?_
      rintro _ t3 ⟨rfl, l3⟩
      have elk : lieB (sayK g s o i) (nxt g (tld g s (o.take i)) j).bn = lieK g s o i := by
        unfold lieK
        rw [enx]
      rw [elk]
      walk_at "wp"
      refine w_tup (by simp [LIM]) ?_
      walk_at "wp"
      refine wo_append (l3.get0 hWt) (by rw [found_len]; simp only [LIM]; omega) fun t4 hW4 l4 => ?_
      walk_at "wp"
      refine ⟨_, _, by rw [enx], by rw [found_succ]; exact hW4, (kt.trans l3).new hWn l4⟩
    · rintro e t ⟨x4, x5, rfl, hWt, kt⟩
      refine ⟨hok t kt, ?_⟩
      walk_at "wp"
      refine w_tup (by simp [LIM]) ?_
      walk_at "wp"
      rw [List.length_map] at hWt
      refine ⟨⟨W, ?_, hWt⟩, kt⟩
      rw [List.length_map, List.take_length]
  rcases hi with rfl | ⟨r, rfl, hr⟩
  · walk_at "wp"
    exact main none fun _ _ => okB_none
  · have hr1 := k1.get0 hr
    walk_at "wp"
    exact main _ fun t kt => okB_some (kt.get0 hr)
/-! ### a walk's start -/
def low (g : Prg) : Int := if g.leader.isSome then 0 else 1
theorem w_inX {Q : D → Sto → Prop} {st : Sto} {neg : Bool} {r : Nat} {x : D} {ds : List D} (hr : st[r]? = some (.lst ds)) (hx : flatD x = true) (h0 : ds.all flatD = true) (h : Q (.bl (if neg then !inF x ds else inF x ds)) st) : Wo Q (opIn neg x (.ref r) st) := by
  simp only [opIn, seqOf, hr]
  rw [if_pos ⟨hx, h0⟩]
  exact r_wo_some h
theorem check_many_gen {st : Sto} {g : Prg} {o : Nat} {d : D} (ho : PrgAt st g o) (hd : Kz st d) :
    Wp (fun c fs s => c = 3 ∧ fs = [("value", d)] ∧ s = st ∧ withinB (low g) 6 d = false) (fun x s => x = .non ∧ s = st ∧ withinB (low g) 6 d = true) (f_check_many [.ref o, d] st) := by
  unfold PrgAt prgFd at ho
  walk_at "fn"
  unfold b_check_many
  cases e : g.leader with
  | none =>
    rw [e] at ho
    have el : low g = 1 := by simp [low, e]
    rw [el]
    simp only [optD] at ho
    walk_at "wp"
    refine (is_within_gen hd).mono ?_
    rintro _ _ ⟨rfl, rfl⟩
    by_cases hw : withinB 1 6 d = true
    · walk_at "wp"
      exact ⟨rfl, rfl, hw⟩
    · walk_at "wp"
      exact ⟨rfl, rfl, rfl, Bool.eq_false_iff.mpr hw⟩
  | some z =>
    rw [e] at ho
    have el : low g = 0 := by simp [low, e]
    rw [el]
    simp only [optD] at ho
    walk_at "wp"
    refine (is_within_gen hd).mono ?_
    rintro _ _ ⟨rfl, rfl⟩
    by_cases hw : withinB 0 6 d = true
    · walk_at "wp"
      exact ⟨rfl, rfl, hw⟩
    · walk_at "wp"
      exact ⟨rfl, rfl, rfl, Bool.eq_false_iff.mpr hw⟩
theorem first_colours_ok {st : Sto} {g : Prg} {C o : Nat} (hg : g.Ok C) (ho : PrgAt st g o) {X : XP} :
    Wp X (fun x s => ∃ (r : Nat), x = .ref r ∧ s[r]? = some (.lst ((cols g C).map natD)) ∧ Chg [] st s) (f_first_colours [.ref o] st) := by
  have n1 := hg.n1
  have c4 := hg.c4
  obtain ⟨r0, h0⟩ : ∃ r0, g.rows[0]? = some r0 := ⟨_, List.getElem?_eq_getElem (by omega)⟩
  have hr := hg.row r0 (List.mem_of_getElem? h0)
  unfold PrgAt prgFd at ho
  walk_at "fn"
  unfold b_first_colours
  cases e : g.lamp with
  | none =>
    rw [e] at ho
    simp only [optD] at ho
    walk_at "wp"
    unfold f_all_colours
    walk_at "fn"
    unfold b_all_colours
    walk_at "wp"
    refine q_lrg ?_
    walk_at "wp"
    refine w_ixT (d := rowD r0) (atIn (n := 0) (by simp [h0])) ?_
    unfold rowD
    walk_at "wp"
    refine ⟨C, by simp [hr], by omega, fun r s' h1 h2 h3 => ?_⟩
    walk_at "wp"
    exact ⟨r, rfl, by rw [h1, rng_nat]; simp [cols, e], h3⟩
  | some z =>
    rw [e] at ho
    simp only [optD] at ho
    walk_at "wp"
    refine wo_lst (by simp [LIM]) fun r s h1 h2 h3 => ?_
    walk_at "wp"
    exact ⟨r, rfl, by rw [h1]; simp [cols, e, natD], h3⟩
theorem is_first_colour_ok {st : Sto} {g : Prg} {C o col : Nat} (hg : g.Ok C) (ho : PrgAt st g o) (hc : col < C) (hl : ∀ z, g.lamp = some z → z = col) {X : XP} :
    Wp X (fun x s => x = .bl true ∧ Chg [] st s) (f_is_first_colour [.ref o, .int col] st) := by
  have n1 := hg.n1
  obtain ⟨r0, h0⟩ : ∃ r0, g.rows[0]? = some r0 := ⟨_, List.getElem?_eq_getElem (by omega)⟩
  have hr := hg.row r0 (List.mem_of_getElem? h0)
  have ho1 := ho
  unfold PrgAt prgFd at ho
  walk_at "fn"
  unfold b_is_first_colour
  walk_at "wp"
  refine w_ixT (d := rowD r0) (atIn (n := 0) (by simp [h0])) ?_
  unfold rowD
  walk_at "wp"
  refine (is_within_gen (.int _)).mono ?_
  rintro _ _ ⟨rfl, rfl⟩
  rw [show withinB 0 (((r0.map stpD).length : Int) - 1) (.int col) = true by simp only [withinB, List.length_map, hr, Bool.and_eq_true, decide_eq_true_eq]; omega]
  walk_at "wp"
  refine (first_colours_ok hg ho1).mono ?_
  rintro _ s ⟨r, rfl, h1, k⟩
  refine w_inX h1 rfl (by simp [natD, flatD]) ?_
  walk_at "wp"
  refine ⟨?_, k⟩
  have hm : col ∈ cols g C := by
    unfold cols
    cases e : g.lamp with
    | none => simpa using hc
    | some z => simp [hl z e]
  congr 1
  exact List.any_eq_true.mpr ⟨natD col, List.mem_map.mpr ⟨col, hm, rfl⟩, by simp [natD, eqF]⟩
/-- what is no colour at first -/
def BadCol (g : Prg) (C : Nat) (d : D) : Prop := withinB 0 (C - 1 : Int) d = false ∨ ∃ k z : Nat, d = natD k ∧ k < C ∧ g.lamp = some z ∧ z ≠ k
theorem is_first_colour_bad {st : Sto} {g : Prg} {C o : Nat} {d : D} (hg : g.Ok C) (ho : PrgAt st g o) (hd : Kz st d) (hw : BadCol g C d) {X : XP} :
    Wp X (fun x s => x = .bl false ∧ Chg [] st s) (f_is_first_colour [.ref o, d] st) := by
  have n1 := hg.n1
  obtain ⟨r0, h0⟩ : ∃ r0, g.rows[0]? = some r0 := ⟨_, List.getElem?_eq_getElem (by omega)⟩
  have hr := hg.row r0 (List.mem_of_getElem? h0)
  have ho1 := ho
  unfold PrgAt prgFd at ho
  walk_at "fn"
  unfold b_is_first_colour
  walk_at "wp"
  refine w_ixT (d := rowD r0) (atIn (n := 0) (by simp [h0])) ?_
  unfold rowD
  walk_at "wp"
  refine (is_within_gen hd).mono ?_
  rintro _ _ ⟨rfl, rfl⟩
  rw [List.length_map, hr]
  rcases hw with hw | ⟨k, z, rfl, hk, hz, hne⟩
  · rw [hw]
    walk_at "wp"
    exact ⟨rfl, Chg.refl⟩
  · rw [show withinB 0 ((C : Int) - 1) (natD k) = true by simp only [natD, withinB, Bool.and_eq_true, decide_eq_true_eq]; omega]
    walk_at "wp"
    refine (first_colours_ok hg ho1).mono ?_
    rintro _ s ⟨r, rfl, h1, kk⟩
    refine w_inX h1 rfl (by simp [natD, flatD]) ?_
    walk_at "wp"
    refine ⟨?_, kk⟩
    congr 1
    simp only [cols, hz, List.map_cons, List.map_nil, inF, List.any_cons, List.any_nil, natD, eqF, Bool.or_false]
    simp
    omega
/-- what a start may be -/
structure Start (g : Prg) (C many col : Nat) : Prop where
  le : many ≤ 6
  low : low g ≤ many
  cc : col < C
  lamp : ∀ z, g.lamp = some z → z = col
theorem low_one {g : Prg} {many : Nat} (h : low g ≤ many) : 1 ≤ many + g.leader.toList.length := by
  unfold low at h
  cases e : g.leader with
  | none => rw [e] at h; simp at h; simp; omega
  | some z => simp
theorem low_of {g : Prg} {many : Nat} (h : 1 ≤ many + g.leader.toList.length) : low g ≤ many := by
  unfold low
  cases e : g.leader with
  | none => rw [e] at h; simp at h; simp; omega
  | some z => simp
theorem check_start_ok {st : Sto} {g : Prg} {C o many col : Nat} (hg : g.Ok C) (ho : PrgAt st g o) (hs : Start g C many col) {X : XP} :
    Wp X (fun x s => x = .non ∧ Chg [] st s) (f_check_start [.ref o, .int many, .int col] st) := by
  have hlow := hs.low
  have hle := hs.le
  walk_at "fn"
  unfold b_check_start
  walk_at "wp"
  have hw : withinB (low g) 6 (.int many) = true := by
    simp only [withinB, Bool.and_eq_true, decide_eq_true_eq]
    omega
  refine (check_many_gen ho (.int _)).imp ?_ ?_
  · rintro _ _ ⟨rfl, rfl, _⟩
    walk_at "wp"
    refine (is_first_colour_ok hg ho hs.cc hs.lamp).mono ?_
    rintro _ s ⟨rfl, k⟩
    walk_at "wp"
    exact ⟨rfl, k⟩
  · rintro _ _ _ ⟨_, _, _, h⟩
    rw [hw] at h
    cases h
theorem check_start_many {st : Sto} {g : Prg} {o : Nat} {d e : D} (ho : PrgAt st g o) (hd : Kz st d) (hw : withinB (low g) 6 d = false) :
    Wp (fun c fs s => c = 3 ∧ fs = [("value", d)] ∧ s = st) (fun _ _ => False) (f_check_start [.ref o, d, e] st) := by
  walk_at "fn"
  unfold b_check_start
  walk_at "wp"
  refine (check_many_gen ho hd).imp ?_ ?_
  · rintro _ _ ⟨rfl, rfl, h⟩
    rw [hw] at h
    cases h
  · rintro _ _ _ ⟨rfl, rfl, rfl, _⟩
    exact ⟨rfl, rfl, rfl⟩
theorem check_start_col {st : Sto} {g : Prg} {C o many : Nat} {d : D} (hg : g.Ok C) (ho : PrgAt st g o) (hm : many ≤ 6) (hlow : low g ≤ many) (hd : Kz st d) (hw : BadCol g C d) :
    Wp (fun c fs s => c = 4 ∧ fs = [] ∧ Chg [] st s) (fun _ _ => False) (f_check_start [.ref o, .int many, d] st) := by
  walk_at "fn"
  unfold b_check_start
  walk_at "wp"
  have hw2 : withinB (low g) 6 (.int many) = true := by
    simp only [withinB, Bool.and_eq_true, decide_eq_true_eq]
    omega
  refine (check_many_gen ho (.int _)).imp ?_ ?_
  · rintro _ _ ⟨rfl, rfl, _⟩
    walk_at "wp"
    refine (is_first_colour_bad hg ho hd hw).mono ?_
    rintro _ _ ⟨rfl, kk⟩
    walk_at "wp"
    exact ⟨rfl, rfl, kk⟩
  · rintro _ _ _ ⟨_, _, _, h⟩
    rw [hw2] at h
    cases h
theorem begun_ok {st : Sto} {g : Prg} {o many col : Nat} (ho : PrgAt st g o) (hm : many ≤ 6) (hlow : low g ≤ many) {X : XP} :
    Wp X (fun x s => x = (beg g many col).d ∧ s = st) (f_begun [.ref o, .int many, .int col] st) := by
  have h1 := low_one hlow
  have hll := lead_len g
  unfold PrgAt prgFd at ho
  walk_at "fn"
  unfold b_begun
  walk_at "wp"
  refine w_tup (by simp [LIM]) ?_
  walk_at "wp"
  refine w_mulYT ⟨by simp, by omega, by omega, by simp⟩ ?_
  rw [flat_one]
  cases e : g.leader with
  | none =>
    rw [e] at ho h1
    simp only [optD] at ho
    walk_at "wp"
    refine w_tup (by simp [LIM]) ?_
    walk_at "wp"
    refine w_mulYT ⟨by simp, by omega, by simp; omega, by simp⟩ ?_
    rw [flat_one]
    walk_at "wp"
    refine w_tup (by simp [LIM]) ?_
    walk_at "wp"
    exact ⟨by simp [beg, Std.d, natD, e], rfl⟩
  | some z =>
    rw [e] at ho h1
    simp only [optD] at ho
    walk_at "wp"
    refine w_tup (by simp [LIM]; omega) ?_
    walk_at "wp"
    refine w_tup (by simp [LIM]) ?_
    walk_at "wp"
    refine w_mulYT ⟨by simp, by omega, by simp; omega, by simp⟩ ?_
    rw [flat_one]
    walk_at "wp"
    refine w_tup (by simp [LIM]) ?_
    walk_at "wp"
    exact ⟨by simp [beg, Std.d, natD, e], rfl⟩
theorem beginning_ok {st : Sto} {g : Prg} {C o many col : Nat} (hg : g.Ok C) (ho : PrgAt st g o) (hs : Start g C many col) {X : XP} :
    Wp X (fun x s => x = (beg g many col).d ∧ Chg [] st s) (f_beginning [.ref o, .int many, .int col] st) := by
  walk_at "fn"
  unfold b_beginning
  walk_at "wp"
  refine (check_start_ok hg ho hs).mono ?_
  rintro _ s1 ⟨rfl, k1⟩
  walk_at "wp"
  refine (begun_ok (ho.keep k1) hs.le hs.low).mono ?_
  rintro _ _ ⟨rfl, rfl⟩
  walk_at "wp"
  exact ⟨rfl, k1⟩
theorem beginning_many {st : Sto} {g : Prg} {o : Nat} {d e : D} (ho : PrgAt st g o) (hd : Kz st d) (hw : withinB (low g) 6 d = false) :
    Wp (fun c fs s => c = 3 ∧ fs = [("value", d)] ∧ s = st) (fun _ _ => False) (f_beginning [.ref o, d, e] st) := by
  walk_at "fn"
  unfold b_beginning
  walk_at "wp"
  refine (check_start_many ho hd hw).imp ?_ ?_
  · rintro _ _ h
    exact h.elim
  · rintro _ _ _ h
    exact h
theorem beginning_col {st : Sto} {g : Prg} {C o many : Nat} {d : D} (hg : g.Ok C) (ho : PrgAt st g o) (hm : many ≤ 6) (hlow : low g ≤ many) (hd : Kz st d) (hw : BadCol g C d) :
    Wp (fun c fs s => c = 4 ∧ fs = [] ∧ Chg [] st s) (fun _ _ => False) (f_beginning [.ref o, .int many, d] st) := by
  walk_at "fn"
  unfold b_beginning
  walk_at "wp"
  refine (check_start_col hg ho hm hlow hd hw).imp ?_ ?_
  · rintro _ _ h
    exact h.elim
  · rintro _ _ _ h
    exact h
/-! ### things bent -/
theorem cut_mem {ds : List D} {lo hi : Option Int} {d : D} (h : d ∈ LF.cutD ds lo hi) : d ∈ ds := List.mem_of_mem_drop (List.mem_of_mem_take h)
theorem cut_len {ds : List D} {lo hi : Option Int} : (LF.cutD ds lo hi).length ≤ ds.length := by
  unfold LF.cutD
  rw [List.length_take, List.length_drop]
  omega
theorem cutS_len {x : Str} {lo hi : Option Int} : (cutS x lo hi).length ≤ x.length := by
  unfold cutS
  show (List.toArray _).size ≤ x.cps.size
  rw [List.size_toArray, List.length_take, List.length_drop, Array.length_toList]
  omega
theorem cutS_ok {x : Str} {lo hi : Option Int} (h : PyData.strOk x = true) : PyData.strOk (cutS x lo hi) = true := by
  simp only [PyData.strOk, Array.all_eq_true'] at h ⊢
  intro c hc
  unfold cutS at hc
  have hc : c ∈ (x.cps.toList.drop (HT.sIx x.length 0 lo)).take (HT.sIx x.length x.length hi - HT.sIx x.length 0 lo) := by simpa using hc
  exact h c (Array.mem_toList_iff.mp (List.mem_of_mem_drop (List.mem_of_mem_take hc)))
theorem app_ok {x y : Str} (h : PyData.strOk x = true) (k : PyData.strOk y = true) : PyData.strOk (x ++ y) = true := by
  simp only [PyData.strOk, Array.all_eq_true'] at h k ⊢
  intro c hc
  rw [Str.cps_append] at hc
  rcases Array.mem_append.mp hc with hc | hc
  · exact h c hc
  · exact k c hc
theorem app_len {x y : Str} : (x ++ y).length = x.length + y.length := by
  show (x ++ y).cps.size = x.cps.size + y.cps.size
  rw [Str.cps_append, Array.size_append]
theorem num_all : ∀ k : Fin 241, (PyData.strOk (Str.ofString (toString ((k : Int) - 120))) && decide ((Str.ofString (toString ((k : Int) - 120))).length ≤ 10)) = true := by decide +kernel
theorem num_str {i : Int} (h : i.natAbs ≤ 120) : PyData.strOk (Str.ofString (toString i)) = true ∧ (Str.ofString (toString i)).length ≤ 10 := by
  have := num_all ⟨(i + 120).toNat, by omega⟩
  rw [show (((⟨(i + 120).toNat, by omega⟩ : Fin 241) : Int) - 120) = i by simp; omega] at this
  simpa using this
def Liv (A : List Nat) (st : Sto) : Prop := ∀ a ∈ A, st[a]? ≠ none
theorem Liv.keep {A : List Nat} {st s : Sto} (h : Liv A st) (k : Chg [] st s) : Liv A s := fun a ha e => by
  cases hc : st[a]? with
  | none => exact h a ha hc
  | some c => rw [k.get0 hc] at e; cases e
theorem Liv.pot {A : List Nat} {st s : Sto} {p q : Nat} {ns : List Int} (h : Liv A st) (k : Chg [p] st s) (P : Pot s p q ns) : Liv A s := fun a ha e => by
  by_cases hp : a = p
  · obtain ⟨_, _, _, hp2, _⟩ := P.ex
    rw [hp, hp2] at e
    cases e
  · cases hc : st[a]? with
    | none => exact h a ha hc
    | some c => rw [k.get (by simpa using hp) hc] at e; cases e
theorem Liv.out {A : List Nat} {st : Sto} {r : Nat} (h : Liv A st) (hr : st[r]? = none) : r ∉ A := fun ha => h r ha hr
theorem Pot.live {st : Sto} {p q : Nat} {ns : List Int} (P : Pot st p q ns) {l : Nat} (h : st[l]? = none) : l ≠ p := fun e => by
  obtain ⟨_, _, _, hp, _⟩ := P.ex
  rw [e, hp] at h
  cases h
theorem law_odd_ok {A : List Nat} {st : Sto} {p q n B : Nat} {ns : List Int} {d : D} (P : Pot st p q ns) (hpA : p ∈ A) (hA : Liv A st) (h : Wd st A B n d) (hB : 100 ≤ B) (hB2 : B ≤ 110) {X : XP} :
    Wp X (fun x s => Wd s A (B + 1) (n + 1) x ∧ Pot s p q ns ∧ Chg [p] st s) (f__law_odd [.ref p, d] st) := by
  have h0 := h
  have up : ∀ {s : Sto} {x : D} {m : Nat}, Wd s A B m x → m ≤ n + 1 → Wd s A (B + 1) (n + 1) x := fun w hm => w.up (Nat.le_succ _) hm
  have tup1 : ∀ {s : Sto}, Wd s A B n d → Wd s A (B + 1) (n + 1) (.tup [d]) := fun w => .tup n _ (fun z hz => by
    rw [List.mem_singleton.mp hz]
    exact w.up (Nat.le_succ _) (Nat.le_refl _)) (by simp)
  have keepA : ∀ {s t : Sto}, Chg [p] s t → Chg A s t := fun k => k.wide (by simpa using hpA)
  have nums : ∀ i : Int, i.natAbs ≤ B → PyData.strOk (Str.ofString (toString i)) = true ∧ (Str.ofString (toString i)).length ≤ B + 1 := fun i hi => by
    obtain ⟨a, b⟩ := num_str (i := i) (by omega)
    exact ⟨a, by omega⟩
  have fin : ∀ {l : Nat} {ds : List D} {s : Sto}, s[l]? = some (.lst ds) → Pot s p q ns → l ≠ p → Chg [] st s → 1 ≤ ds.length → ds.length < 1000 → (∀ x ∈ ds, ∀ t, Chg [p] s t → Wd t A (B + 1) (n + 1) x) →
      Wp X (fun x s => Wd s A (B + 1) (n + 1) x ∧ Pot s p q ns ∧ Chg [p] st s) (f__law_pick [.ref p, .ref l] s) := fun {l ds s} hl Ps hlp ks h1 h2 hx =>
    (law_pick Ps hl h1 h2 hlp).mono fun x t ⟨hd, Pt, kt⟩ => ⟨hx x hd t kt, Pt, ks.up.trans kt⟩
  have other : ∀ {s : Sto}, s = st → Owp (Ks.fn X fun x s => Wd s A (B + 1) (n + 1) x ∧ Pot s p q ns ∧ Chg [p] st s) (sRet (eCall (f__law_pick) [eVar 0, eBlt opLst [eC .non, eC (.int 0), eC (.str (Str.ofString "ab")), eNewD, eC (.bl true)]]) [some (.ref p), some d, none] s) := by
    rintro s rfl
    walk_at "wp"
    refine r_newD fun r s1 hr hrn k1 => ?_
    walk_at "wp"
    refine wo_lst (by simp [LIM]) fun l s2 hl hln k2 => ?_
    walk_at "wp"
    refine fin hl (P.keep (k1.trans k2)) ((P.keep k1).live hln) (k1.trans k2) (by simp) (by simp) fun x hx t kt => ?_
    simp only [List.mem_cons, List.not_mem_nil, or_false] at hx
    rcases hx with rfl | rfl | rfl | rfl | rfl
    · exact .non _
    · exact .int _ _ (by simp)
    · exact .str _ _ (by decide +kernel) (by have : (Str.ofString "ab").length = 2 := by decide +kernel
                                             omega)
    · exact .dct _ _ ((keepA kt).get (hA.out hrn) (k2.get0 hr)) (hA.out hrn)
    · exact .bl _ _
  have skip3 : (∀ s, s = st → Wp X (fun b t => b = false ∧ t = st) (tTru (eBlt (opIsi (.ty "int") (ansTy "int")) [eVar 1, eC (.ty "int")]) [some (.ref p), some d, none] s)) → (∀ s, s = st → Wp X (fun b t => b = false ∧ t = st) (tTru (eBlt (opIsi (.ty "str") (ansTy "str")) [eVar 1, eC (.ty "str")]) [some (.ref p), some d, none] s)) →
      (∀ s, s = st → Wp X (fun b t => b = false ∧ t = st) (tTru (eBlt (opIsi (.ty "tuple") (ansTy "tuple")) [eVar 1, eC (.ty "tuple")]) [some (.ref p), some d, none] s)) → Wp X (fun x s => Wd s A (B + 1) (n + 1) x ∧ Pot s p q ns ∧ Chg [p] st s) (f__law_odd [.ref p, d] st) := by
    intro h1 h2 h3
    walk_at "fn"
    unfold b__law_odd
    refine r_owp_seq (r_owp_if ((h1 _ rfl).w ?_))
    rintro _ t ⟨rfl, rfl⟩
    refine r_owp_iteF Bool.false_ne_true (r_owp_skip (r_seq_nx (r_owp_seq (r_owp_if ((h2 _ rfl).w ?_)))))
    rintro _ t ⟨rfl, rfl⟩
    refine r_owp_iteF Bool.false_ne_true (r_owp_skip (r_seq_nx (r_owp_seq (r_owp_if ((h3 _ rfl).w ?_)))))
    rintro _ t ⟨rfl, rfl⟩
    exact r_owp_iteF Bool.false_ne_true (r_owp_skip (r_seq_nx (other rfl)))
  cases h with
  | non m => exact skip3 (fun s e => by subst e; walk_at "wp"; exact ⟨rfl, rfl⟩) (fun s e => by subst e; walk_at "wp"; exact ⟨rfl, rfl⟩) (fun s e => by subst e; walk_at "wp"; exact ⟨rfl, rfl⟩)
  | lst m r ds hr ha hd hl => exact skip3 (fun s e => by subst e; walk_at "wp"; exact ⟨rfl, rfl⟩) (fun s e => by subst e; walk_at "wp"; exact ⟨rfl, rfl⟩) (fun s e => by subst e; walk_at "wp"; exact ⟨rfl, rfl⟩)
  | dct m r hr ha => exact skip3 (fun s e => by subst e; walk_at "wp"; exact ⟨rfl, rfl⟩) (fun s e => by subst e; walk_at "wp"; exact ⟨rfl, rfl⟩) (fun s e => by subst e; walk_at "wp"; exact ⟨rfl, rfl⟩)
  | bl m b =>
    walk_at "fn"
    unfold b__law_odd
    walk_at "wp"
    refine w_strBB ?_
    walk_at "wp"
    refine w_tup (by simp [LIM]) ?_
    walk_at "wp"
    refine wo_lst (by simp [LIM]) fun l s2 hl hln k2 => ?_
    walk_at "wp"
    refine fin hl (P.keep k2) (P.live hln) k2 (by simp) (by simp) fun x hx t kt => ?_
    have hd := (h0.keep k2.up).keep (keepA kt)
    simp only [List.mem_cons, List.not_mem_nil, or_false] at hx
    have hb0 : 0 ≤ b2 b ∧ b2 b ≤ 1 := by cases b <;> simp [b2]
    rcases hx with rfl | rfl | rfl | rfl | rfl | rfl | rfl | rfl | rfl
    · exact .int _ _ (by omega)
    · exact .int _ _ (by omega)
    · exact .int _ _ (by simp; omega)
    · exact .int _ _ (by simp; omega)
    · exact .int _ _ (by simp; omega)
    · exact .bl _ _
    · exact .non _
    · cases b
      · exact .str _ _ (by decide +kernel) (by have : (Str.ofString "False").length = 5 := by decide +kernel
                                               simp only [Bool.false_eq_true, if_false]
                                               omega)
      · exact .str _ _ (by decide +kernel) (by have : (Str.ofString "True").length = 4 := by decide +kernel
                                               simp only [if_true]
                                               omega)
    · exact tup1 hd
  | int m i hi =>
    walk_at "fn"
    unfold b__law_odd
    walk_at "wp"
    refine w_strBI (Nat.lt_of_le_of_lt (Nat.log2_le_self _) (by omega)) ?_
    walk_at "wp"
    refine w_tup (by simp [LIM]) ?_
    walk_at "wp"
    refine wo_lst (by simp [LIM]) fun l s2 hl hln k2 => ?_
    walk_at "wp"
    refine fin hl (P.keep k2) (P.live hln) k2 (by simp) (by simp) fun x hx t kt => ?_
    have hd := (h0.keep k2.up).keep (keepA kt)
    simp only [List.mem_cons, List.not_mem_nil, or_false] at hx
    rcases hx with rfl | rfl | rfl | rfl | rfl | rfl | rfl | rfl | rfl
    · exact .int _ _ (by omega)
    · exact .int _ _ (by omega)
    · exact .int _ _ (by simp; omega)
    · exact .int _ _ (by simp; omega)
    · exact .int _ _ (by simp; omega)
    · exact .bl _ _
    · exact .non _
    · exact .str _ _ (nums i hi).1 (nums i hi).2
    · exact tup1 hd
  | str m x hx hl0 =>
    walk_at "fn"
    unfold b__law_odd
    walk_at "wp"
    have ea : (Str.ofString "a").length = 1 := by decide +kernel
    refine w_addS (by simp only [LIM]; omega) ?_
    walk_at "wp"
    refine w_slS (by simp only [LIM]; omega) ?_
    walk_at "wp"
    refine w_tup (by simp [LIM]) ?_
    walk_at "wp"
    refine wo_lst (by simp [LIM]) fun r s1 hr hrn k1 => ?_
    walk_at "wp"
    refine wo_lst (by simp [LIM]) fun l s2 hl hln k2 => ?_
    walk_at "wp"
    refine fin hl (P.keep (k1.trans k2)) ((P.keep k1).live hln) (k1.trans k2) (by simp) (by simp) fun y hy t kt => ?_
    have hd := (h0.keep (k1.trans k2).up).keep (keepA kt)
    simp only [List.mem_cons, List.not_mem_nil, or_false] at hy
    have lens : ∀ w : String, decide ((Str.ofString w).length ≤ 5) = true → (Str.ofString w).length ≤ B + 1 := fun w hw => by
      have := of_decide_eq_true hw
      omega
    rcases hy with rfl | rfl | rfl | rfl | rfl | rfl | rfl | rfl | rfl | rfl | rfl
    · exact .str _ _ (app_ok hx (by decide +kernel)) (by rw [app_len]; omega)
    · exact .str _ _ (cutS_ok hx) (by have := cutS_len (x := x) (lo := some 1) (hi := none); omega)
    · exact .str _ _ (by decide +kernel) (lens _ (by decide +kernel))
    · exact .str _ _ (by decide +kernel) (lens _ (by decide +kernel))
    · exact .str _ _ (by decide +kernel) (lens _ (by decide +kernel))
    · exact .str _ _ (by decide +kernel) (lens _ (by decide +kernel))
    · exact .int _ _ (by simp)
    · exact .non _
    · exact tup1 hd
    · refine .lst n r _ ((keepA kt).get (hA.out hrn) (k2.get0 hr)) (hA.out hrn) (fun z hz => ?_) (by simp)
      rw [List.mem_singleton.mp hz]
      exact hd.up (Nat.le_succ _) (Nat.le_refl _)
    · exact .str _ _ (by decide +kernel) (lens _ (by decide +kernel))
  | tup m ds hds hl0 =>
    have sub : ∀ {t : Sto}, Chg A st t → ∀ z ∈ ds, Wd t A (B + 1) m z := fun k z hz => ((hds z hz).keep k).up (Nat.le_succ _) (Nat.le_refl _)
    have hcl : (LF.cutD ds (some (-1)) none).length ≤ 1 := by
      unfold LF.cutD
      rw [List.length_take]
      rw [show HT.sIx ds.length 0 (some (-1)) = ((-1 : Int) + ds.length).toNat from rfl, HT.sIx_none]
      omega
    walk_at "fn"
    unfold b__law_odd
    walk_at "wp"
    refine w_addT (by simp only [LIM]; omega) ?_
    walk_at "wp"
    refine w_listT fun r s1 hr hrn k1 => ?_
    walk_at "wp"
    refine w_tup (by simp [LIM]) ?_
    walk_at "wp"
    refine w_tup (by simp [LIM]) ?_
    walk_at "wp"
    refine w_tup (by simp [LIM]) ?_
    walk_at "wp"
    refine w_addT (by simp only [LIM, List.length_singleton]; omega) ?_
    walk_at "wp"
    refine wo_lst (by simp [LIM]) fun l s2 hl hln k2 => ?_
    walk_at "wp"
    refine fin hl (P.keep (k1.trans k2)) ((P.keep k1).live hln) (k1.trans k2) (by simp) (by simp) fun y hy t kt => ?_
    have kk : Chg A st t := (k1.trans k2).up.trans (keepA kt)
    have hd := h0.keep kk
    have ss := sub kk
    have mk : ∀ es : List D, (∀ z ∈ es, Wd t A (B + 1) m z) → es.length ≤ B + 1 → Wd t A (B + 1) (m + 1 + 1) (.tup es) := fun es h1 h2 => (Wd.tup m es h1 h2).up (Nat.le_refl _) (by omega)
    simp only [List.mem_cons, List.not_mem_nil, or_false] at hy
    rcases hy with rfl | rfl | rfl | rfl | rfl | rfl | rfl | rfl | rfl | rfl
    · refine mk _ (fun z hz => ?_) (by rw [List.length_append]; omega)
      rcases List.mem_append.mp hz with hz | hz
      · exact ss z hz
      · exact ss z (cut_mem hz)
    · exact mk _ (fun z hz => ss z (cut_mem hz)) (by have := cut_len (ds := ds) (lo := some 1) (hi := none); omega)
    · exact (Wd.lst m r ds ((keepA kt).get (hA.out hrn) (k2.get0 hr)) (hA.out hrn) ss (by omega)).up (Nat.le_refl _) (by omega)
    · exact mk _ (fun z hz => by simp at hz) (by simp)
    · exact .non _
    · exact .int _ _ (by simp; omega)
    · exact .str _ _ (by decide +kernel) (by have : (Str.ofString "x").length = 1 := by decide +kernel
                                             omega)
    · exact tup1 hd
    · exact mk _ (fun z hz => ss z (cut_mem hz)) (by have := cut_len (ds := ds) (lo := none) (hi := some (-1)); omega)
    · refine mk _ (fun z hz => ?_) (by simp; omega)
      rcases List.mem_append.mp hz with hz | hz
      · exact ss z hz
      · rw [List.mem_singleton.mp hz]
        exact .int _ _ (by simp)
theorem set_parts' {ds : List D} {a : Nat} {x : D} (h : a < ds.length) : ds.take a ++ [x] ++ ds.drop (a + 1) = ds.set a x := by
  rw [List.set_eq_take_append_cons_drop, if_pos h]
  simp
theorem Wd.sub {st : Sto} {A : List Nat} {B n : Nat} {ds : List D} (h : Wd st A B n (.tup ds)) : ∃ m, n = m + 1 ∧ (∀ d ∈ ds, Wd st A B m d) ∧ ds.length ≤ B := by
  cases h with
  | tup m ds h hl => exact ⟨m, rfl, h, hl⟩
theorem law_bent_ok {A : List Nat} {p q B : Nat} {ns : List Int} (hpA : p ∈ A) (hB : 100 ≤ B) (hB2 : B ≤ 110) : ∀ (k left : Nat), left ≤ k → ∀ {st : Sto} {n : Nat} {d : D}, Pot st p q ns → Liv A st → Wd st A B n d → ∀ {X : XP},
    Wp X (fun x s => Wd s A (B + 1) (n + 1) x ∧ Pot s p q ns ∧ Chg [p] st s) (f__law_bent (k + 1) [.ref p, d, .int left] st) := by
  intro k
  induction k with
  | zero =>
    intro left hk st n d P hA h X
    obtain rfl : left = 0 := by omega
    have h0 := h
    unfold f__law_bent
    walk_at "fn"
    unfold b__law_bent
    refine r_owp_seq (r_owp_if ?_)
    have fin : Owp ((Ks.fn X fun x s => Wd s A (B + 1) (n + 1) x ∧ Pot s p q ns ∧ Chg [p] st s)) (sRet (eCall (f__law_odd) [eVar 0, eVar 1]) [some (.ref p), some d, some (.int ((0 : Nat) : Int)), none, none] st) := by
      walk_at "wp"
      exact law_odd_ok P hpA hA h hB hB2
    have empty : ∀ {ds : List D}, ((ds.length : Int) ≤ 0 → ds = []) := fun {ds} e => List.eq_nil_of_length_eq_zero (by omega)
    cases h with
    | tup m ds hds hl =>
      walk_at "fld"
      refine w_tup (by simp [LIM]) ?_
      walk_at "fld"
      refine w_isiLT (k := .tup) rfl rfl ?_
      by_cases hl0 : (0 : Int) < (ds.length : Int)
      · walk_at "fld"
        exact fin
      · walk_at "fld"
        exact fin
    | lst m r ds hr ha hds hl =>
      walk_at "fld"
      refine w_tup (by simp [LIM]) ?_
      walk_at "fld"
      refine w_isiLT (k := .lst) (by simp only [kind, hr]) rfl ?_
      by_cases hl0 : (0 : Int) < (ds.length : Int)
      · walk_at "fld"
        exact fin
      · walk_at "fld"
        exact fin
    | dct m r hr ha =>
      walk_at "fld"
      refine w_tup (by simp [LIM]) ?_
      walk_at "fld"
      refine w_isiLT (k := .dct) (by simp only [kind, hr]) rfl ?_
      walk_at "fld"
      exact fin
    | non m =>
      walk_at "fld"
      refine w_tup (by simp [LIM]) ?_
      walk_at "fld"
      refine w_isiLT (k := .non) rfl rfl ?_
      walk_at "fld"
      exact fin
    | bl m b =>
      walk_at "fld"
      refine w_tup (by simp [LIM]) ?_
      walk_at "fld"
      refine w_isiLT (k := .bl) rfl rfl ?_
      walk_at "fld"
      exact fin
    | int m i hi =>
      walk_at "fld"
      refine w_tup (by simp [LIM]) ?_
      walk_at "fld"
      refine w_isiLT (k := .int) rfl rfl ?_
      walk_at "fld"
      exact fin
    | str m x hx hl =>
      walk_at "fld"
      refine w_tup (by simp [LIM]) ?_
      walk_at "fld"
      refine w_isiLT (k := .str) rfl rfl ?_
      walk_at "fld"
      exact fin
  | succ k ih =>
    intro left hk st n d P hA h X
    have h0 := h
    have keepA : ∀ {s t : Sto}, Chg [p] s t → Chg A s t := fun k => k.wide (by simpa using hpA)
    unfold f__law_bent
    walk_at "fn"
    unfold b__law_bent
    refine r_owp_seq (r_owp_if ?_)
    have fin : ∀ {s : Sto}, Pot s p q ns → Chg [p] st s → Owp ((Ks.fn X fun x s => Wd s A (B + 1) (n + 1) x ∧ Pot s p q ns ∧ Chg [p] st s)) (sRet (eCall (f__law_odd) [eVar 0, eVar 1]) [some (.ref p), some d, some (.int (left : Int)), none, none] s) := by
      intro s Ps ks
      walk_at "wp"
      refine (law_odd_ok Ps hpA (hA.pot ks Ps) (h0.keep (keepA ks)) hB hB2).mono ?_
      rintro x t ⟨w, Pt, kt⟩
      exact ⟨w, Pt, ks.trans kt⟩
    cases h with
    | tup m ds hds hl =>
      walk_at "fld"
      refine w_tup (by simp [LIM]) ?_
      walk_at "fld"
      refine w_isiLT (k := .tup) rfl rfl ?_
      by_cases hl0 : (0 : Int) < (ds.length : Int)
      rotate_left
      · walk_at "fld"
        exact fin P Chg.refl
      by_cases hleft : (0 : Int) < (left : Int)
      rotate_left
      · walk_at "fld"
        exact fin P Chg.refl
      walk_at "fld"
      refine (law_draw P (by omega) (by omega)).mono ?_
      rintro _ s1 ⟨c, rfl, hc, P1, k1⟩
      by_cases hc0 : (0 : Int) < (c : Int)
      rotate_left
      · walk_at "fld"
        exact fin P1 k1
      walk_at "wp"
      refine (law_draw P1 (by omega) (by omega)).mono ?_
      rintro _ s2 ⟨a, rfl, ha, P2, k2⟩
      have k12 := k1.trans k2
      have hal : a < ds.length := by omega
      walk_at "wp"
      refine w_ixT (atIn (List.getElem?_eq_getElem hal)) ?_
      walk_at "wp"
      rw [show ((left : Int) - 1) = ((left - 1 : Nat) : Int) by omega]
      refine (ih (left - 1) (by omega) P2 (hA.pot k12 P2) ((hds _ (List.getElem_mem hal)).keep (keepA k12))).mono ?_
      rintro x s3 ⟨wx, P3, k3⟩
      have k13 := k12.trans k3
      walk_at "wp"
      rw [cut_take (by omega : a ≤ ds.length)]
      refine w_tup (by simp [LIM]) ?_
      refine w_addT (by rw [List.length_take]; simp only [List.length_singleton, LIM]; omega) ?_
      walk_at "wp"
      rw [show ((a : Int) + 1) = ((a + 1 : Nat) : Int) by omega, cut_drop (by omega : a + 1 ≤ ds.length)]
      refine w_addT (by rw [List.length_append, List.length_take, List.length_drop]; simp only [List.length_singleton, LIM]; omega) ?_
      rw [set_parts' hal]
      refine ⟨.tup (m + 1) _ (fun z hz => ?_) (by rw [List.length_set]; omega), P3, k13⟩
      rcases List.mem_or_eq_of_mem_set hz with hz | rfl
      · exact ((hds z hz).keep (keepA k13)).up (Nat.le_succ _) (Nat.le_succ _)
      · exact wx
    | lst m r ds hr har hds hl =>
      walk_at "fld"
      refine w_tup (by simp [LIM]) ?_
      walk_at "fld"
      refine w_isiLT (k := .lst) (by simp only [kind, hr]) rfl ?_
      by_cases hl0 : (0 : Int) < (ds.length : Int)
      rotate_left
      · walk_at "fld"
        exact fin P Chg.refl
      by_cases hleft : (0 : Int) < (left : Int)
      rotate_left
      · walk_at "fld"
        exact fin P Chg.refl
      walk_at "fld"
      refine (law_draw P (by omega) (by omega)).mono ?_
      rintro _ s1 ⟨c, rfl, hc, P1, k1⟩
      by_cases hc0 : (0 : Int) < (c : Int)
      rotate_left
      · walk_at "fld"
        exact fin P1 k1
      have hrp : r ≠ p := fun e => har (by rw [e]; exact hpA)
      have hr1 := k1.get (by simpa using hrp) hr
      walk_at "wp"
      refine (law_draw P1 (by omega) (by omega)).mono ?_
      rintro _ s2 ⟨a, rfl, ha, P2, k2⟩
      have k12 := k1.trans k2
      have hr2 := k12.get (by simpa using hrp) hr
      have hal : a < ds.length := by omega
      walk_at "wp"
      refine w_ixL hr2 (atIn (List.getElem?_eq_getElem hal)) ?_
      walk_at "wp"
      rw [show ((left : Int) - 1) = ((left - 1 : Nat) : Int) by omega]
      refine (ih (left - 1) (by omega) P2 (hA.pot k12 P2) ((hds _ (List.getElem_mem hal)).keep (keepA k12))).mono ?_
      rintro x s3 ⟨wx, P3, k3⟩
      have k13 := k12.trans k3
      have hr3 := k13.get (by simpa using hrp) hr
      walk_at "wp"
      refine w_slL hr3 fun u1 s4 hu1 hu1n k4 => ?_
      rw [cut_take (by omega : a ≤ ds.length)] at hu1
      walk_at "wp"
      refine wo_lst (by simp [LIM]) fun u2 s5 hu2 hu2n k5 => ?_
      refine wo_addL (k5.get0 hu1) hu2 (by rw [List.length_take]; simp only [List.length_singleton, LIM]; omega) fun u3 s6 hu3 hu3n k6 => ?_
      have k46 := k4.trans (k5.trans k6)
      walk_at "wp"
      refine w_slL (k46.get0 hr3) fun u4 s7 hu4 hu4n k7 => ?_
      rw [show ((a : Int) + 1) = ((a + 1 : Nat) : Int) by omega, cut_drop (by omega : a + 1 ≤ ds.length)] at hu4
      refine wo_addL (k7.get0 hu3) hu4 (by rw [List.length_append, List.length_take, List.length_drop]; simp only [List.length_singleton, LIM]; omega) fun u5 s8 hu5 hu5n k8 => ?_
      rw [set_parts' hal] at hu5
      have k48 := k46.trans (k7.trans k8)
      have kall := k13.trans k48.up
      refine ⟨.lst (m + 1) u5 _ hu5 (((hA.pot k13 P3).keep (k46.trans k7)).out hu5n) (fun z hz => ?_) (by rw [List.length_set]; omega), P3.keep k48, kall⟩
      rcases List.mem_or_eq_of_mem_set hz with hz | rfl
      · exact ((hds z hz).keep (keepA kall)).up (Nat.le_succ _) (Nat.le_succ _)
      · exact wx.keep k48.up
    | dct m r hr ha =>
      walk_at "fld"
      refine w_tup (by simp [LIM]) ?_
      walk_at "fld"
      refine w_isiLT (k := .dct) (by simp only [kind, hr]) rfl ?_
      walk_at "fld"
      exact fin P Chg.refl
    | non m =>
      walk_at "fld"
      refine w_tup (by simp [LIM]) ?_
      walk_at "fld"
      refine w_isiLT (k := .non) rfl rfl ?_
      walk_at "fld"
      exact fin P Chg.refl
    | bl m b =>
      walk_at "fld"
      refine w_tup (by simp [LIM]) ?_
      walk_at "fld"
      refine w_isiLT (k := .bl) rfl rfl ?_
      walk_at "fld"
      exact fin P Chg.refl
    | int m i hi =>
      walk_at "fld"
      refine w_tup (by simp [LIM]) ?_
      walk_at "fld"
      refine w_isiLT (k := .int) rfl rfl ?_
      walk_at "fld"
      exact fin P Chg.refl
    | str m x hx hl =>
      walk_at "fld"
      refine w_tup (by simp [LIM]) ?_
      walk_at "fld"
      refine w_isiLT (k := .str) rfl rfl ?_
      walk_at "fld"
      exact fin P Chg.refl
/-! ### what a standing is -/
def isBlD : D → Bool
  | .bl _ => true
  | _ => false
def standB (S C : Int) : D → Bool
  | .tup [a, .tup ss, .tup bs] => withinB 0 (C - 1) a && (decide (ss.length = bs.length) && ((decide (1 ≤ ss.length) && decide (ss.length ≤ 7)) && (bs.all isBlD && ss.all (withinB 0 (S - 1)))))
  | _ => false
theorem sel_nil {p : D → Bool} {ds : List D} : ds.filterMap (fun z => if p z = true then (none : Option D) else some z) = [] ↔ ds.all p = true := by
  induction ds with
  | nil => simp
  | cons d ds ih =>
    rw [List.filterMap_cons, List.all_cons]
    by_cases h : p d = true
    · simp only [h, if_true, Bool.true_and]
      exact ih
    · simp [h]
theorem three_of {ds : List D} (hl : ds.length = 3) : ∃ a b c, ds = [a, b, c] := by
  match ds, hl with
  | [a, b, c], _ => exact ⟨a, b, c, rfl⟩
theorem stand_len {S C : Int} {ds : List D} (hl : ds.length ≠ 3) : standB S C (.tup ds) = false := by
  match ds, hl with
  | [], _ => simp [standB]
  | [_], _ => simp [standB]
  | [_, _], _ => simp [standB]
  | [_, _, _], hl => simp at hl
  | _ :: _ :: _ :: _ :: _, _ => simp [standB]
def isTupD : D → Bool
  | .tup _ => true
  | _ => false
theorem isTupD_form {d : D} (h : isTupD d = true) : ∃ ds, d = .tup ds := by
  cases d with
  | tup ds => exact ⟨ds, rfl⟩
  | _ => simp [isTupD] at h
theorem isi_tup {st : Sto} {d : D} {Q : D → Sto → Prop} (h : Kz st d) (q : Q (.bl (isTupD d)) st) : Wo Q (opIsi (.ty "tuple") (ansTy "tuple") [d, .ty "tuple"] st) := by
  cases h with
  | non => exact w_isiK (k := .non) rfl rfl rfl q
  | bl b => exact w_isiK (k := .bl) rfl rfl rfl q
  | int i => exact w_isiK (k := .int) rfl rfl rfl q
  | str x h => exact w_isiK (k := .str) rfl rfl rfl q
  | tup ds => exact w_isiK (k := .tup) rfl rfl rfl q
  | lst r ds hr => exact w_isiK (k := .lst) (by simp only [kind, hr]) rfl rfl q
  | dct r hr => exact w_isiK (k := .dct) (by simp only [kind, hr]) rfl rfl q
theorem stand_not {S C : Int} {d : D} (h : ¬ isTupD d = true) : standB S C d = false := by
  cases d with
  | tup ds => exact (h rfl).elim
  | _ => rfl
theorem stand_not1 {S C : Int} {a b c : D} (h : ¬ isTupD b = true) : standB S C (.tup [a, b, c]) = false := by
  cases b with
  | tup ds => exact (h rfl).elim
  | _ => simp [standB]
theorem stand_not2 {S C : Int} {a b c : D} (h : ¬ isTupD c = true) : standB S C (.tup [a, b, c]) = false := by
  cases c with
  | tup ds => exact (h rfl).elim
  | _ => cases b <;> simp [standB]
theorem is_standing_gen {st : Sto} {g : Prg} {C o : Nat} {d : D} (hg : g.Ok C) (ho : PrgAt st g o) (h : Kn st 2 d) {X : XP} :
    Wp X (fun x s => x = .bl (standB g.rows.length C d) ∧ Chg [] st s) (f_is_standing [.ref o, d] st) := by
  have hs : ∀ ds, d = .tup ds → ∀ z ∈ ds, Kn st 1 z := fun ds e z hz => by subst e; exact h.sub z hz
  have hk := h.kz
  clear h
  have n1 := hg.n1
  obtain ⟨r0, h0⟩ : ∃ r0, g.rows[0]? = some r0 := ⟨_, List.getElem?_eq_getElem (by omega)⟩
  have hr := hg.row r0 (List.mem_of_getElem? h0)
  unfold PrgAt prgFd at ho
  walk_at "fn"
  unfold b_is_standing
  walk_at "wp"
  refine isi_tup hk ?_
  by_cases ht : isTupD d = true
  rotate_left
  · rw [Bool.eq_false_iff.mpr ht]
    walk_at "wp"
    exact ⟨by rw [stand_not ht], Chg.refl⟩
  obtain ⟨ds, rfl⟩ := isTupD_form ht
  have hs := hs ds rfl
  rw [ht]
  by_cases hl : ds.length = 3
  rotate_left
  · have hl2 : ((ds.length : Int) == 3) = false := by simp; omega
    walk_at "wp"
    exact ⟨by rw [stand_len hl], Chg.refl⟩
  obtain ⟨a, b, c, rfl⟩ := three_of hl
  have ha := hs a (by simp)
  have hb := hs b (by simp)
  have hc := hs c (by simp)
  clear ht hk hl hs
  walk_at "wp"
  refine w_ixT (d := rowD r0) (atIn (n := 0) (by simp [h0])) ?_
  unfold rowD
  walk_at "wp"
  refine (is_within_gen ha.kz).mono ?_
  rintro _ st ⟨rfl, rfl⟩
  rw [List.length_map, hr]
  by_cases h1 : withinB 0 ((C : Int) - 1) a = true
  rotate_left
  · walk_at "wp"
    exact ⟨by cases b <;> cases c <;> simp [standB, h1], Chg.refl⟩
  walk_at "wp"
  refine ⟨_, rfl, ?_⟩
  dsimp only [List.set]
  walk_at "wp"
  refine isi_tup hb.kz ?_
  by_cases htb : isTupD b = true
  rotate_left
  · rw [Bool.eq_false_iff.mpr htb]
    walk_at "wp"
    exact ⟨by rw [stand_not1 htb], Chg.refl⟩
  obtain ⟨ss, rfl⟩ := isTupD_form htb
  rw [htb]
  clear htb
  walk_at "wp"
  refine isi_tup hc.kz ?_
  by_cases htc : isTupD c = true
  rotate_left
  · rw [Bool.eq_false_iff.mpr htc]
    walk_at "wp"
    exact ⟨by rw [stand_not2 htc], Chg.refl⟩
  obtain ⟨bs, rfl⟩ := isTupD_form htc
  rw [htc]
  clear htc
  by_cases hln : ss.length = bs.length
  rotate_left
  · have hln2 : ((ss.length : Int) == bs.length) = false := by simp; omega
    walk_at "wp"
    exact ⟨by simp [standB, hln], Chg.refl⟩
  have hln2 : ((ss.length : Int) == bs.length) = true := by simp; omega
  by_cases h0' : 1 ≤ ss.length
  rotate_left
  · walk_at "wp"
    exact ⟨by simp only [standB, decide_eq_false h0', Bool.false_and, Bool.and_false], Chg.refl⟩
  by_cases h7 : ss.length ≤ 7
  rotate_left
  · walk_at "wp"
    exact ⟨by simp only [standB, decide_eq_false h7, Bool.false_and, Bool.and_false], Chg.refl⟩
  have h7a : (1 : Int) ≤ ss.length := by omega
  have h7b : (ss.length : Int) ≤ 6 + 1 := by omega
  walk_at "wp"
  refine wp_lc ?_
  walk_at "wp"
  refine ⟨fun z => some (.bl (isBlD z)), fun _ _ => okB_none, by simp only [LIM]; omega, ?_, ?_⟩
  · intro z hz s hks
    have hzk := (hc.sub z hz).kz.keep hks
    refine ⟨_, rfl, ?_⟩
    dsimp only [wipeD, List.set]
    cases hzk <;> (walk_at "wp"; exact ⟨rfl, Chg.refl⟩)
  intro L s1 hL hLn k1
  walk_at "wp"
  refine all_gen hL ?_
  by_cases hall : bs.all isBlD = true
  rotate_left
  · walk_at "wp"
    exact ⟨by simp [standB, hall], k1⟩
  have ho1 := k1.get0 ho
  walk_at "wp"
  refine wp_lc ?_
  walk_at "wp"
  refine ⟨fun z => some (.bl (withinB 0 ((g.rows.length : Int) - 1) z)), fun _ _ => okB_none, by simp only [LIM]; omega, ?_, ?_⟩
  · intro z hz s hks
    have hzk := (hb.sub z hz).kz.keep (k1.trans hks)
    have ho2 := hks.get0 ho1
    refine ⟨_, rfl, ?_⟩
    dsimp only [wipeD, List.set]
    walk_at "wp"
    refine (is_within_gen hzk).mono ?_
    rintro _ _ ⟨rfl, rfl⟩
    rw [List.length_map]
    exact ⟨rfl, Chg.refl⟩
  intro L2 s2 hL2 hLn2 k2
  walk_at "wp"
  refine all_gen hL2 ?_
  walk_at "wp"
  exact ⟨by simp [standB, h1, hln, h0', h7, hall]; omega, k1.trans k2⟩
theorem law_is_standing_gen {st : Sto} {g : Prg} {C l : Nat} {d : D} (hg : g.Ok C) (ho : SpecAt st g l) (h : Kn st 2 d) {X : XP} :
    Wp X (fun x s => x = .bl (standB g.rows.length C d) ∧ Chg [] st s) (f__law_is_standing [.ref l, d] st) := by
  have hs : ∀ ds, d = .tup ds → ∀ z ∈ ds, Kn st 1 z := fun ds e z hz => by subst e; exact h.sub z hz
  have hk := h.kz
  clear h
  have n1 := hg.n1
  obtain ⟨r0, h0⟩ : ∃ r0, g.rows[0]? = some r0 := ⟨_, List.getElem?_eq_getElem (by omega)⟩
  have hr := hg.row r0 (List.mem_of_getElem? h0)
  unfold SpecAt at ho
  walk_at "fn"
  unfold b__law_is_standing
  walk_at "wp"
  refine isi_tup hk ?_
  by_cases ht : isTupD d = true
  rotate_left
  · rw [Bool.eq_false_iff.mpr ht]
    walk_at "wp"
    exact ⟨by rw [stand_not ht], Chg.refl⟩
  obtain ⟨ds, rfl⟩ := isTupD_form ht
  have hs := hs ds rfl
  rw [ht]
  by_cases hl : ds.length = 3
  rotate_left
  · have hl2 : ((ds.length : Int) == 3) = false := by simp; omega
    walk_at "wp"
    exact ⟨by rw [stand_len hl], Chg.refl⟩
  obtain ⟨a, b, c, rfl⟩ := three_of hl
  have ha := hs a (by simp)
  have hb := hs b (by simp)
  have hc := hs c (by simp)
  clear ht hk hl hs
  walk_at "wp"
  refine w_ixT (d := rowD r0) (atIn (n := 0) (by simp [h0])) ?_
  unfold rowD
  walk_at "wp"
  refine (law_within_gen ha.kz).mono ?_
  rintro _ st ⟨rfl, rfl⟩
  rw [List.length_map, hr]
  by_cases h1 : withinB 0 ((C : Int) - 1) a = true
  rotate_left
  · walk_at "wp"
    exact ⟨by cases b <;> cases c <;> simp [standB, h1], Chg.refl⟩
  walk_at "wp"
  refine isi_tup hb.kz ?_
  by_cases htb : isTupD b = true
  rotate_left
  · rw [Bool.eq_false_iff.mpr htb]
    walk_at "wp"
    exact ⟨by rw [stand_not1 htb], Chg.refl⟩
  obtain ⟨ss, rfl⟩ := isTupD_form htb
  rw [htb]
  clear htb
  walk_at "wp"
  refine isi_tup hc.kz ?_
  by_cases htc : isTupD c = true
  rotate_left
  · rw [Bool.eq_false_iff.mpr htc]
    walk_at "wp"
    exact ⟨by rw [stand_not2 htc], Chg.refl⟩
  obtain ⟨bs, rfl⟩ := isTupD_form htc
  rw [htc]
  clear htc
  by_cases hln : ss.length = bs.length
  rotate_left
  · have hln2 : ((ss.length : Int) == bs.length) = false := by simp; omega
    walk_at "wp"
    exact ⟨by simp [standB, hln], Chg.refl⟩
  have hln2 : ((ss.length : Int) == bs.length) = true := by simp; omega
  by_cases h0' : 1 ≤ ss.length
  rotate_left
  · walk_at "wp"
    exact ⟨by simp only [standB, decide_eq_false h0', Bool.false_and, Bool.and_false], Chg.refl⟩
  by_cases h7 : ss.length ≤ 7
  rotate_left
  · walk_at "wp"
    exact ⟨by simp only [standB, decide_eq_false h7, Bool.false_and, Bool.and_false], Chg.refl⟩
  have h7a : (1 : Int) ≤ ss.length := by omega
  have h7b : (ss.length : Int) ≤ 7 := by omega
  walk_at "wp"
  refine wp_lc ?_
  walk_at "wp"
  refine ⟨fun z => if isBlD z = true then none else some z, fun _ _ => okB_none, by simp only [LIM]; omega, ?_, ?_⟩
  · intro z hz s hks
    have hzk := (hc.sub z hz).kz.keep hks
    refine ⟨_, rfl, ?_⟩
    dsimp only [wipeD, List.set]
    cases hzk <;> (walk_at "wp"; exact ⟨rfl, Chg.refl⟩)
  intro L s1 hL hLn k1
  walk_at "wp"
  refine wo_lst (by simp [LIM]) fun E s2 hE hEn k2 => ?_
  walk_at "wp"
  by_cases hall : bs.all isBlD = true
  rotate_left
  · have hne : bs.filterMap (fun z => if isBlD z = true then (none : Option D) else some z) ≠ [] := fun z => hall (sel_nil.mp z)
    have hlen : (bs.filterMap (fun z => if isBlD z = true then (none : Option D) else some z)).length ≠ ([] : List D).length := fun z => hne (List.eq_nil_of_length_eq_zero z)
    refine w_neE (k2.get0 hL) hE (.inl hlen) ?_
    rw [decide_eq_true hlen]
    walk_at "wp"
    exact ⟨by simp [standB, hall], k1.trans k2⟩
  have hnil := sel_nil.mpr hall
  refine w_neE (k2.get0 hL) hE (.inr hnil) ?_
  rw [hnil]
  have k12 := k1.trans k2
  have ho1 := k12.get0 ho
  walk_at "wp"
  refine wp_lc ?_
  walk_at "wp"
  refine ⟨fun z => if withinB 0 ((g.rows.length : Int) - 1) z = true then none else some z, fun _ _ => okB_none, by simp only [LIM]; omega, ?_, ?_⟩
  · intro z hz s hks
    have hzk := (hb.sub z hz).kz.keep (k12.trans hks)
    have ho2 := hks.get0 ho1
    refine ⟨_, rfl, ?_⟩
    dsimp only [wipeD, List.set]
    walk_at "wp"
    refine (law_within_gen hzk).mono ?_
    rintro _ _ ⟨rfl, rfl⟩
    rw [List.length_map]
    cases hw : withinB 0 ((g.rows.length : Int) - 1) z
    · walk_at "wp"
      exact ⟨rfl, Chg.refl⟩
    · walk_at "wp"
      exact ⟨rfl, Chg.refl⟩
  intro L2 s3 hL2 hLn2 k3
  walk_at "wp"
  refine wo_lst (by simp [LIM]) fun E2 s4 hE2 hEn2 k4 => ?_
  walk_at "wp"
  have hfin : ∀ b : Bool, b = ss.all (withinB 0 ((g.rows.length : Int) - 1)) → D.bl b = .bl (standB g.rows.length C (.tup [a, .tup ss, .tup bs])) := fun b hb => by
    subst hb
    simp [standB, h1, hln, h0', h7, hall]
    omega
  by_cases hw : ss.all (withinB 0 ((g.rows.length : Int) - 1)) = true
  · have hnil2 := sel_nil.mpr hw
    refine w_eqE (k4.get0 hL2) hE2 (.inr hnil2) ?_
    walk_at "wp"
    exact ⟨hfin _ (by rw [hnil2, hw]; rfl), (k12.trans k3).trans k4⟩
  · have hlen : (ss.filterMap (fun z => if withinB 0 ((g.rows.length : Int) - 1) z = true then (none : Option D) else some z)).length ≠ ([] : List D).length := fun z => hw (sel_nil.mp (List.eq_nil_of_length_eq_zero z))
    refine w_eqE (k4.get0 hL2) hE2 (.inl hlen) ?_
    walk_at "wp"
    exact ⟨hfin _ (by rw [decide_eq_false hlen, Bool.eq_false_iff.mpr hw]), (k12.trans k3).trans k4⟩
theorem bls_of {bs : List D} (h : bs.all isBlD = true) : ∃ l : List Bool, bs = l.map D.bl := by
  induction bs with
  | nil => exact ⟨[], rfl⟩
  | cons b bs ih =>
    simp only [List.all_cons, Bool.and_eq_true] at h
    obtain ⟨l, rfl⟩ := ih h.2
    cases b with
    | bl b => exact ⟨b :: l, rfl⟩
    | _ => simp [isBlD] at h
theorem nats_of {S : Nat} {ss : List D} (h : ss.all (withinB 0 ((S : Int) - 1)) = true) : ∃ l : List Nat, ss = l.map natD ∧ ∀ x ∈ l, x < S := by
  induction ss with
  | nil => exact ⟨[], rfl, by simp⟩
  | cons b bs ih =>
    simp only [List.all_cons, Bool.and_eq_true] at h
    obtain ⟨l, rfl, hl⟩ := ih h.2
    cases b with
    | int i =>
      have h1 := h.1
      simp only [withinB, Bool.and_eq_true, decide_eq_true_eq] at h1
      refine ⟨i.toNat :: l, ?_, fun x hx => ?_⟩
      · show D.int i :: l.map natD = D.int (i.toNat : Int) :: l.map natD
        rw [Int.toNat_of_nonneg h1.1]
      · rcases List.mem_cons.mp hx with rfl | hx
        · omega
        · exact hl x hx
    | _ => simp [withinB] at h
/-- a standing is one -/
theorem stand_form {g : Prg} {C : Nat} {d : D} (h : standB g.rows.length C d = true) : ∃ (s : Std) (n : Nat), d = s.d ∧ s.Ok g C n ∧ 1 ≤ n ∧ n ≤ 7 := by
  unfold standB at h
  split at h
  · rename_i a ss bs
    simp only [Bool.and_eq_true, decide_eq_true_eq] at h
    obtain ⟨h1, h2, ⟨h3, h4⟩, h5, h6⟩ := h
    obtain ⟨l, rfl⟩ := bls_of h5
    obtain ⟨m, rfl, hm⟩ := nats_of h6
    cases a with
    | int i =>
      simp only [withinB, Bool.and_eq_true, decide_eq_true_eq] at h1
      refine ⟨⟨i.toNat, m, l⟩, m.length, ?_, ⟨by show i.toNat < C; omega, hm, rfl, by simpa using h2.symm⟩, by simpa using h3, by simpa using h4⟩
      simp only [Std.d]
      rw [Int.toNat_of_nonneg h1.1]
    | _ => simp [withinB] at h1
  · cases h
/-! ### one visit -/
theorem stand_std {g : Prg} {C n : Nat} {s : Std} (hs : s.Ok g C n) (n1 : 1 ≤ n) (n7 : n ≤ 7) : standB g.rows.length C s.d = true := by
  have h1 := hs.ln
  have h2 := hs.lb
  have h3 := hs.col
  have h4 : (s.bn.map D.bl).all isBlD = true := List.all_eq_true.mpr fun z hz => by obtain ⟨b, _, rfl⟩ := List.mem_map.mp hz; rfl
  have h5 : (s.sts.map natD).all (withinB 0 ((g.rows.length : Int) - 1)) = true := List.all_eq_true.mpr fun z hz => by
    obtain ⟨b, hb, rfl⟩ := List.mem_map.mp hz
    have := hs.sts b hb
    simp only [natD, withinB, Bool.and_eq_true, decide_eq_true_eq]
    omega
  have h6 : withinB 0 ((C : Int) - 1) (.int s.col) = true := by
    simp only [withinB, Bool.and_eq_true, decide_eq_true_eq]
    omega
  simp only [Std.d, standB, h4, h5, h6, List.length_map, h1, h2, decide_true, Bool.true_and, Bool.and_true, Bool.and_eq_true, decide_eq_true_eq]
  exact ⟨n1, n7⟩
theorem std_kn {st : Sto} {g : Prg} {C n : Nat} {s : Std} (hs : s.Ok g C n) (n7 : n ≤ 7) : Kn st 2 s.d := pl_kn (std_pl (by rw [hs.ln]; omega) (by rw [hs.lb]; omega)) 2
section
variable {st : Sto} {g : Prg} {C n o : Nat}
theorem check_visit_none {d v : D} (hg : g.Ok C) (ho : PrgAt st g o) (h : Kn st 2 d) (hb : standB g.rows.length C d = false) :
    Wp (fun c fs t => c = 5 ∧ fs = [] ∧ Chg [] st t) (fun _ _ => False) (f_check_visit [.ref o, d, v] st) := by
  walk_at "fn"
  unfold b_check_visit
  walk_at "wp"
  refine (is_standing_gen hg ho h).mono ?_
  rintro _ s1 ⟨rfl, k1⟩
  rw [hb]
  walk_at "wp"
  exact ⟨rfl, rfl, k1⟩
theorem check_visit_bad {s : Std} {v : D} (hg : g.Ok C) (ho : PrgAt st g o) (hs : s.Ok g C n) (n1 : 1 ≤ n) (n7 : n ≤ 7) (hv : Kz st v) (hw : withinB 0 ((n : Int) - 1) v = false) :
    Wp (fun c fs t => c = 6 ∧ fs = [] ∧ Chg [] st t) (fun _ _ => False) (f_check_visit [.ref o, s.d, v] st) := by
  walk_at "fn"
  unfold b_check_visit
  walk_at "wp"
  refine (is_standing_gen hg ho (std_kn hs n7)).mono ?_
  rintro _ s1 ⟨rfl, k1⟩
  rw [stand_std hs n1 n7]
  walk_at "wp"
  refine w_ixT (d := .tup (s.sts.map natD)) (by rfl) ?_
  walk_at "wp"
  refine (is_within_gen (hv.keep k1)).mono ?_
  rintro _ _ ⟨rfl, rfl⟩
  rw [List.length_map, hs.ln, hw]
  walk_at "wp"
  exact ⟨rfl, rfl, k1⟩
theorem check_visit_ok {s : Std} {i : Nat} (hg : g.Ok C) (ho : PrgAt st g o) (hs : s.Ok g C n) (n1 : 1 ≤ n) (n7 : n ≤ 7) (hi : i < n) {X : XP} :
    Wp X (fun x t => x = .non ∧ Chg [] st t) (f_check_visit [.ref o, s.d, .int i] st) := by
  walk_at "fn"
  unfold b_check_visit
  walk_at "wp"
  refine (is_standing_gen hg ho (std_kn hs n7)).mono ?_
  rintro _ s1 ⟨rfl, k1⟩
  rw [stand_std hs n1 n7]
  walk_at "wp"
  refine w_ixT (d := .tup (s.sts.map natD)) (by rfl) ?_
  walk_at "wp"
  refine (is_within_gen (.int _)).mono ?_
  rintro _ _ ⟨rfl, rfl⟩
  rw [List.length_map, hs.ln, show withinB 0 ((n : Int) - 1) (.int i) = true by simp only [withinB, Bool.and_eq_true, decide_eq_true_eq]; omega]
  walk_at "wp"
  exact ⟨rfl, k1⟩
theorem visited_ok {s : Std} {i : Nat} (hg : g.Ok C) (ho : PrgAt st g o) (hs : s.Ok g C n) (n1 : 1 ≤ n) (n7 : n ≤ 7) (hi : i < n) {X : XP} :
    Wp X (fun x t => x = (nxt g s i).d ∧ Chg [] st t) (f_visited [.ref o, s.d, .int i] st) := by
  walk_at "fn"
  unfold b_visited
  walk_at "wp"
  refine (check_visit_ok hg ho hs n1 n7 hi).mono ?_
  rintro _ s1 ⟨rfl, k1⟩
  walk_at "wp"
  refine (behind_ok hg (ho.keep k1) hs hi (by omega)).mono ?_
  rintro _ _ ⟨rfl, rfl⟩
  walk_at "wp"
  exact ⟨rfl, k1⟩
theorem saying_ok {s : Std} {i : Nat} (hg : g.Ok C) (ho : PrgAt st g o) (hs : s.Ok g C n) (n1 : 1 ≤ n) (n7 : n ≤ 7) (hi : i < n) {X : XP} :
    Wp X (fun x t => x = (stp g s i).2.2.d ∧ Chg [] st t) (f_saying [.ref o, s.d, .int i] st) := by
  walk_at "fn"
  unfold b_saying
  walk_at "wp"
  refine (check_visit_ok hg ho hs n1 n7 hi).mono ?_
  rintro _ s1 ⟨rfl, k1⟩
  walk_at "wp"
  refine (step_of_ok hg (ho.keep k1) hs hi).mono ?_
  rintro _ _ ⟨rfl, rfl⟩
  unfold stpD
  walk_at "wp"
  exact ⟨rfl, k1⟩
/-- what is refused by check_visit is refused by both -/
theorem both_bad {d v : D} {c0 : Nat} (h : Wp (fun c fs t => c = c0 ∧ fs = [] ∧ Chg [] st t) (fun _ _ => False) (f_check_visit [.ref o, d, v] st)) :
    Wp (fun c fs t => c = c0 ∧ fs = [] ∧ Chg [] st t) (fun _ _ => False) (f_visited [.ref o, d, v] st) ∧ Wp (fun c fs t => c = c0 ∧ fs = [] ∧ Chg [] st t) (fun _ _ => False) (f_saying [.ref o, d, v] st) := by
  constructor
  · walk_at "fn"
    unfold b_visited
    walk_at "wp"
    exact h.imp (fun _ _ z => z.elim) fun _ _ _ z => z
  · walk_at "fn"
    unfold b_saying
    walk_at "wp"
    exact h.imp (fun _ _ z => z.elim) fun _ _ _ z => z
/-! ### orders -/
def IsOrd (st : Sto) (od : D) (o : List Nat) : Prop := od = .tup (o.map natD) ∨ ∃ r, od = .ref r ∧ st[r]? = some (.lst (o.map natD))
theorem IsOrd.keep {t : Sto} {od : D} {o : List Nat} (h : IsOrd st od o) (k : Chg [] st t) : IsOrd t od o := by
  rcases h with h | ⟨r, h, hr⟩
  · exact .inl h
  · exact .inr ⟨r, h, k.get0 hr⟩
theorem check_order_ok {s : Std} {od : D} {ord : List Nat} (hs : s.Ok g C n) (hord : ∀ i ∈ ord, i < n) (hl : ord.length ≤ 100) (h : IsOrd st od ord) {X : XP} :
    Wp X (fun x t => x = .non ∧ t = st) (f_check_order [s.d, od] st) := by
  have main : ∀ chk : Option (Nat × List D), Its.okB ⟨enumI (ord.map natD), chk⟩ st → Owp (Ks.fn X fun x t => x = .non ∧ t = st) (forS ⟨enumI (ord.map natD), chk⟩ (.tup [.name 2, .name 3]) (sIf (tNot' (tTru (eCall (f_is_within) [eVar 3, eC (.int 0), eBin opSub (eBlt opLen [eBin opIx (eVar 0) (eC (.int 1))]) (eC (.int 1))]))) (sRaise1 7 "at" (eVar 2)) (sSkip)) (enumI (ord.map natD)) [some s.d, some od, none, none] st) := by
    intro chk hok
    refine owp_forS (fun i e t => ∃ (x2 x3 : Option D), e = [some s.d, some od, x2, x3] ∧ t = st) ?_ ?_ ⟨none, none, rfl, rfl⟩
    · rintro i d e t hd ⟨x2, x3, rfl, rfl⟩
      obtain ⟨x, hx, rfl⟩ := enum_get hd
      rw [List.getElem?_map] at hx
      obtain ⟨j, hj, rfl⟩ := Option.map_eq_some_iff.mp hx
      have hjn := hord j (List.mem_of_getElem? hj)
      refine ⟨hok, _, rfl, ?_⟩
      dsimp only [List.set]
      walk_at "wp"
      refine w_ixT (d := .tup (s.sts.map natD)) (by rfl) ?_
      walk_at "wp"
      refine (is_within_gen (.int _)).mono ?_
      rintro _ _ ⟨rfl, rfl⟩
      rw [List.length_map, hs.ln, show withinB 0 ((n : Int) - 1) (.int j) = true by simp only [withinB, Bool.and_eq_true, decide_eq_true_eq]; omega]
      walk_at "wp"
      exact ⟨_, _, rfl, rfl⟩
    · rintro e t ⟨x2, x3, rfl, rfl⟩
      refine ⟨hok, ?_⟩
      walk_at "wp"
      exact ⟨rfl, rfl⟩
  walk_at "fn"
  unfold b_check_order
  have hl2 : (((ord.map natD).length : Int) > 2000) = False := by simp; omega
  rcases h with rfl | ⟨r, rfl, hr⟩
  · walk_at "wp"
    unfold f_is_listed
    walk_at "fn"
    unfold b_is_listed
    walk_at "wp"
    refine w_tup (by simp [LIM]) ?_
    walk_at "wp"
    refine w_isiLT (k := .tup) rfl rfl ?_
    walk_at "wp"
    exact main none okB_none
  · walk_at "wp"
    unfold f_is_listed
    walk_at "fn"
    unfold b_is_listed
    walk_at "wp"
    refine w_tup (by simp [LIM]) ?_
    walk_at "wp"
    refine w_isiLT (k := .lst) (by simp only [kind, hr]) rfl ?_
    walk_at "wp"
    exact main _ (okB_some hr)
end
/-! ### orders refused, what is said along -/
section
variable {st : Sto} {g : Prg} {C n o : Nat}
theorem check_order_bad {s : Std} {r : Nat} {b : D} {ord : List Nat} (hs : s.Ok g C n) (hord : ∀ i ∈ ord, i < n) (hl : ord.length ≤ 100) (hr : st[r]? = some (.lst (ord.map natD ++ [b]))) (hb : Kz st b) (hw : withinB 0 ((n : Int) - 1) b = false) :
    Wp (fun c fs t => c = 7 ∧ fs = [("at", .int ord.length)] ∧ t = st) (fun _ _ => False) (f_check_order [s.d, .ref r] st) := by
  walk_at "fn"
  unfold b_check_order
  walk_at "wp"
  unfold f_is_listed
  walk_at "fn"
  unfold b_is_listed
  walk_at "wp"
  refine w_tup (by simp [LIM]) ?_
  walk_at "wp"
  refine w_isiLT (k := .lst) (by simp only [kind, hr]) rfl ?_
  walk_at "wp"
  refine owp_forS (fun i e t => ∃ (x2 x3 : Option D), i ≤ ord.length ∧ e = [some s.d, some (.ref r), x2, x3] ∧ t = st) ?_ ?_ ⟨none, none, by omega, rfl, rfl⟩
  · rintro i d e t hd ⟨x2, x3, hi, rfl, rfl⟩
    obtain ⟨x, hx, rfl⟩ := enum_get hd
    refine ⟨okB_some hr, _, rfl, ?_⟩
    dsimp only [List.set]
    by_cases hlt : i < ord.length
    · rw [List.getElem?_append_left (by rw [List.length_map]; exact hlt), List.getElem?_map] at hx
      obtain ⟨j, hj, rfl⟩ := Option.map_eq_some_iff.mp hx
      have hjn := hord j (List.mem_of_getElem? hj)
      walk_at "wp"
      refine w_ixT (d := .tup (s.sts.map natD)) (by rfl) ?_
      walk_at "wp"
      refine (is_within_gen (.int _)).mono ?_
      rintro _ _ ⟨rfl, rfl⟩
      rw [List.length_map, hs.ln, show withinB 0 ((n : Int) - 1) (.int j) = true by simp only [withinB, Bool.and_eq_true, decide_eq_true_eq]; omega]
      walk_at "wp"
      exact ⟨_, _, by omega, rfl, rfl⟩
    · obtain rfl : i = ord.length := by omega
      rw [List.getElem?_append_right (by rw [List.length_map]; exact Nat.le_refl _), List.length_map, Nat.sub_self] at hx
      cases hx
      walk_at "wp"
      refine w_ixT (d := .tup (s.sts.map natD)) (by rfl) ?_
      walk_at "wp"
      refine (is_within_gen hb).mono ?_
      rintro _ st ⟨rfl, rfl⟩
      rw [List.length_map, hs.ln, hw]
      walk_at "wp"
      exact ⟨rfl, rfl, rfl⟩
  · rintro e t ⟨x2, x3, hi, rfl, rfl⟩
    have e2 : ({ items := enumI (ord.map natD ++ [b]), chk := some (r, ord.map natD ++ [b]) } : Its).items.length = ord.length + 1 := by
      show (enumI (ord.map natD ++ [b])).length = _
      rw [enum_len, List.length_append, List.length_map]
      rfl
    rw [e2] at hi
    omega
theorem check_order_non {s : Std} {d : D} {k : Kd} (hk : kind d st = some k) (hb : ansLT k = some false) :
    Wp (fun c fs t => c = 7 ∧ fs = [("at", .int (-1))] ∧ t = st) (fun _ _ => False) (f_check_order [s.d, d] st) := by
  walk_at "fn"
  unfold b_check_order
  walk_at "wp"
  unfold f_is_listed
  walk_at "fn"
  unfold b_is_listed
  walk_at "wp"
  refine w_tup (by simp [LIM]) ?_
  walk_at "wp"
  refine w_isiLT hk hb ?_
  walk_at "wp"
  exact ⟨rfl, rfl, rfl⟩
theorem check_order_long {s : Std} {r : Nat} {ds : List D} (hr : st[r]? = some (.lst ds)) (hl : 2000 < ds.length) :
    Wp (fun c fs t => c = 7 ∧ fs = [("at", .int (-1))] ∧ t = st) (fun _ _ => False) (f_check_order [s.d, .ref r] st) := by
  walk_at "fn"
  unfold b_check_order
  walk_at "wp"
  unfold f_is_listed
  walk_at "fn"
  unfold b_is_listed
  walk_at "wp"
  refine w_tup (by simp [LIM]) ?_
  walk_at "wp"
  refine w_isiLT (k := .lst) (by simp only [kind, hr]) rfl ?_
  walk_at "wp"
  exact ⟨rfl, rfl, rfl⟩
/-! started -/
theorem started_ok {many col : Nat} {od : D} {ord : List Nat} (hg : g.Ok C) (ho : PrgAt st g o) (hs : Start g C many col) (hf : (beg g many col).Ok g C n) (hord : ∀ i ∈ ord, i < n) (hl : ord.length ≤ 100) (h : IsOrd st od ord) {X : XP} :
    Wp X (fun x t => x = (beg g many col).d ∧ Chg [] st t) (f_started [.ref o, .int many, .int col, od] st) := by
  walk_at "fn"
  unfold b_started
  walk_at "wp"
  refine (check_start_ok hg ho hs).mono ?_
  rintro _ s1 ⟨rfl, k1⟩
  walk_at "wp"
  refine (begun_ok (ho.keep k1) hs.le hs.low).mono ?_
  rintro _ s1 ⟨rfl, rfl⟩
  walk_at "wp"
  refine (check_order_ok hf hord hl (h.keep k1)).mono ?_
  rintro _ s1 ⟨rfl, rfl⟩
  walk_at "wp"
  exact ⟨rfl, k1⟩
theorem started_order {many col : Nat} {od : D} {at_ : Int} (hg : g.Ok C) (ho : PrgAt st g o) (hs : Start g C many col)
    (h : ∀ s1, Chg [] st s1 → Wp (fun c fs t => c = 7 ∧ fs = [("at", .int at_)] ∧ t = s1) (fun _ _ => False) (f_check_order [(beg g many col).d, od] s1)) :
    Wp (fun c fs t => c = 7 ∧ fs = [("at", .int at_)] ∧ Chg [] st t) (fun _ _ => False) (f_started [.ref o, .int many, .int col, od] st) := by
  walk_at "fn"
  unfold b_started
  walk_at "wp"
  refine (check_start_ok hg ho hs).mono ?_
  rintro _ s1 ⟨rfl, k1⟩
  walk_at "wp"
  refine (begun_ok (ho.keep k1) hs.le hs.low).mono ?_
  rintro _ s1 ⟨rfl, rfl⟩
  walk_at "wp"
  refine (h s1 k1).imp (fun _ _ z => z.elim) ?_
  rintro _ _ t ⟨rfl, rfl, rfl⟩
  exact ⟨rfl, rfl, k1⟩
theorem started_many {d e od : D} (ho : PrgAt st g o) (hd : Kz st d) (hw : withinB (low g) 6 d = false) :
    Wp (fun c fs s => c = 3 ∧ fs = [("value", d)] ∧ s = st) (fun _ _ => False) (f_started [.ref o, d, e, od] st) := by
  walk_at "fn"
  unfold b_started
  walk_at "wp"
  exact (check_start_many ho hd hw).imp (fun _ _ z => z.elim) fun _ _ _ h => h
theorem started_col {many : Nat} {d od : D} (hg : g.Ok C) (ho : PrgAt st g o) (hm : many ≤ 6) (hlow : low g ≤ many) (hd : Kz st d) (hw : BadCol g C d) :
    Wp (fun c fs s => c = 4 ∧ fs = [] ∧ Chg [] st s) (fun _ _ => False) (f_started [.ref o, .int many, d, od] st) := by
  walk_at "fn"
  unfold b_started
  walk_at "wp"
  exact (check_start_col hg ho hm hlow hd hw).imp (fun _ _ z => z.elim) fun _ _ _ h => h
/-- what started refuses both refuse -/
theorem two_bad {P : Nat → List (String × D) → Sto → Prop} {a b c d : D} (h : Wp P (fun _ _ => False) (f_started [a, b, c, d] st)) :
    Wp P (fun _ _ => False) (f_said [a, b, c, d] st) ∧ Wp P (fun _ _ => False) (f_lies [a, b, c, d] st) := by
  constructor
  · walk_at "fn"
    unfold b_said
    walk_at "wp"
    exact h.imp (fun _ _ z => z.elim) fun _ _ _ z => z
  · walk_at "fn"
    unfold b_lies
    walk_at "wp"
    exact h.imp (fun _ _ z => z.elim) fun _ _ _ z => z
def fstD : D → Option D
  | .tup [x, _] => some x
  | _ => none
def lieD : D → Option D
  | .tup [x, .tup [_, .bl true]] => some x
  | _ => none
theorem fst_found {s : Std} {ord : List Nat} {k : Nat} : (foundD g s ord k).filterMap fstD = wordsD g s ord k := by
  unfold foundD wordsD
  rw [List.filterMap_map]
  rw [show (fstD ∘ fun j => D.tup [(sayK g s ord j).d, .bl (lieK g s ord j)]) = fun j => some (sayK g s ord j).d from rfl]
  exact congrFun List.filterMap_eq_map' _
theorem enum_found {s : Std} {ord : List Nat} {k : Nat} : enumI (foundD g s ord k) = (List.range k).map fun j => .tup [.int (j : Int), .tup [(sayK g s ord j).d, .bl (lieK g s ord j)]] := by
  refine List.ext_getElem? fun i => ?_
  unfold enumI foundD
  rw [List.getElem?_map, List.getElem?_zipIdx, List.getElem?_map, List.getElem?_map]
  by_cases h : i < k
  · rw [List.getElem?_range h]
    simp
  · rw [List.getElem?_eq_none (by simpa using h)]
    rfl
theorem lie_found {s : Std} {ord : List Nat} {k : Nat} : (enumI (foundD g s ord k)).filterMap lieD = wrongD g s ord k := by
  rw [enum_found]
  unfold wrongD
  induction k with
  | zero => rfl
  | succ k ih =>
    rw [List.range_succ, List.map_append, List.filterMap_append, ih, List.filter_append, List.map_append]
    congr 1
    cases h : lieK g s ord k <;> simp [lieD, h, natD, List.filter_cons]
theorem said_ok {many col : Nat} {od : D} {ord : List Nat} (hg : g.Ok C) (ho : PrgAt st g o) (hs : Start g C many col) (hf : (beg g many col).Ok g C n) (hn : n ≤ 100) (hord : ∀ i ∈ ord, i < n) (hl : ord.length ≤ 100) (h : IsOrd st od ord) {X : XP} :
    Wp X (fun x t => x = .tup (wordsD g (beg g many col) ord ord.length) ∧ Chg [] st t) (f_said [.ref o, .int many, .int col, od] st) := by
  walk_at "fn"
  unfold b_said
  walk_at "wp"
  refine (started_ok hg ho hs hf hord hl h).mono ?_
  rintro _ s1 ⟨rfl, k1⟩
  walk_at "wp"
  refine wp_lc ?_
  walk_at "wp"
  refine (told_along_ok hg (ho.keep k1) hf hn hord hl (h.keep k1)).mono ?_
  rintro _ s2 ⟨⟨a, rfl, ha⟩, k2⟩
  walk_at "wp"
  refine ⟨fstD, fun s hs => okB_some (hs.get0 ha), by rw [found_len]; simp only [LIM]; omega, ?_, ?_⟩
  · intro d hd s0 hs0
    obtain ⟨j, _, rfl⟩ := List.mem_map.mp (show d ∈ (List.range ord.length).map _ from hd)
    refine ⟨_, rfl, ?_⟩
    dsimp only [wipeD, List.set]
    walk_at "wp"
    exact ⟨rfl, Chg.refl⟩
  intro L s3 hL hLn k3
  walk_at "wp"
  exact ⟨congrArg D.tup fst_found, (k1.trans k2).trans k3⟩
theorem lies_ok {many col : Nat} {od : D} {ord : List Nat} (hg : g.Ok C) (ho : PrgAt st g o) (hs : Start g C many col) (hf : (beg g many col).Ok g C n) (hn : n ≤ 100) (hord : ∀ i ∈ ord, i < n) (hl : ord.length ≤ 100) (h : IsOrd st od ord) {X : XP} :
    Wp X (fun x t => x = .tup (wrongD g (beg g many col) ord ord.length) ∧ Chg [] st t) (f_lies [.ref o, .int many, .int col, od] st) := by
  walk_at "fn"
  unfold b_lies
  walk_at "wp"
  refine (started_ok hg ho hs hf hord hl h).mono ?_
  rintro _ s1 ⟨rfl, k1⟩
  walk_at "wp"
  refine wp_lc ?_
  walk_at "wp"
  refine (told_along_ok hg (ho.keep k1) hf hn hord hl (h.keep k1)).mono ?_
  rintro _ s2 ⟨⟨a, rfl, ha⟩, k2⟩
  walk_at "wp"
  refine ⟨lieD, fun s hs => okB_some (hs.get0 ha), by show (enumI _).length ≤ LIM; rw [enum_len, found_len]; simp only [LIM]; omega, ?_, ?_⟩
  · intro d hd s0 hs0
    have hd : d ∈ enumI (foundD g (beg g many col) ord ord.length) := hd
    rw [enum_found] at hd
    obtain ⟨j, _, rfl⟩ := List.mem_map.mp hd
    refine ⟨_, rfl, ?_⟩
    dsimp only [wipeD, List.set]
    cases hb : lieK g (beg g many col) ord j
    · walk_at "wp"
      exact ⟨rfl, Chg.refl⟩
    · walk_at "wp"
      exact ⟨rfl, Chg.refl⟩
  intro L s3 hL hLn k3
  walk_at "wp"
  exact ⟨congrArg D.tup lie_found, (k1.trans k2).trans k3⟩
end
/-! ### the law's turn: what is found, what stays -/
noncomputable def sE2 : Sm := sSeq (sAsg (.name 15) (eC (.str (Str.ofString "standing")))) (sSeq (sIf (tTru (eCall (f__law_is_standing) [eVar 3, eVar 19])) (sSeq (sAsg (.name 15) (eC (.str (Str.ofString "visit")))) (sIf (tTru (eCall (f__law_within) [eVar 20, eC (.int 0), eBin opSub (eBlt opLen [eBin opIx (eVar 19) (eC (.int 1))]) (eC (.int 1))])) (sAsg (.name 15) (eBlt opTup [eC (.str (Str.ofString "told")), eBin opIx (eCall (f__law_step) [eVar 3, eVar 19, eVar 20]) (eC (.int 1))])) (sSkip))) (sSkip)) (sSeq (sIf (tNot' (tTru (eCall (f__law_same 7) [eFound n_law_found i_law_found hs_law_found fr_law_found (eCall (f_visited) [eVar 4, eVar 19, eVar 20]), eVar 15]))) (sRet (eC (.bl false))) (sSkip)) (sIf (tAnd' (tTru (eBlt (opIsi (.ty "str") (ansTy "str")) [eVar 15, eC (.ty "str")])) (asB (eBin opNe (eFound n_law_found i_law_found hs_law_found fr_law_found (eCall (f_saying) [eVar 4, eVar 19, eVar 20])) (eVar 15)))) (sRet (eC (.bl false))) (sSkip))))
def Small : D → Prop
  | .int i => i.natAbs ≤ 120
  | .bl _ => True
  | .non => True
  | _ => False
theorem Small.kz {st : Sto} {d : D} (h : Small d) : Kz st d := by
  cases d with
  | int i => exact .int i
  | bl b => exact .bl b
  | non => exact .non
  | _ => exact h.elim
theorem small_repr {d : D} (h : Small d) : ∃ z, PyData.strOk z = true ∧ ∀ s : Sto, opRepr [d] s = some (.str z, s) := by
  cases d with
  | int i =>
    have h : i.natAbs ≤ 120 := h
    refine ⟨_, (num_str h).1, fun s => ?_⟩
    have hl : i.natAbs.log2 < 1920 := Nat.lt_of_le_of_lt (Nat.log2_le_self _) (by omega)
    simp only [opRepr, if_pos hl]
  | bl b => exact ⟨_, by cases b <;> decide +kernel, fun s => rfl⟩
  | non => exact ⟨_, by decide +kernel, fun s => rfl⟩
  | _ => exact h.elim
theorem w_repr {Q : D → Sto → Prop} {st : Sto} {d : D} {z : Str} (h : ∀ s : Sto, opRepr [d] s = some (.str z, s)) (q : Q (.str z) st) : Wo Q (opRepr [d] st) := by rw [h]; exact r_wo_some q
section
variable {X : XP} {Q : D → Sto → Prop} {env : Sl} {st : Sto} {th : E}
theorem found_told (h : Wp (fun _ _ _ => False) (fun d s => Q (.tup [.str (Str.ofString "told"), d]) s) (th env st)) : Wp X Q (eFound n_law_found i_law_found hs_law_found fr_law_found th env st) := by
  refine q_found (h.imp (fun d s q => ?_) fun _ _ _ z => z.elim)
  unfold fr_law_found
  dsimp only [n_law_found, i_law_found, List.replicate, List.set]
  walk_at "wp"
  refine w_tup (by simp [LIM]) ?_
  exact q
theorem found_num {d : D} {z : Str} (hz : ∀ s : Sto, opRepr [d] s = some (.str z, s)) (h : Wp (fun c fs s => c = 3 ∧ fs = [("value", d)] ∧ Q (.tup [.str (Str.ofString "number"), .str z]) s) (fun _ _ => False) (th env st)) : Wp X Q (eFound n_law_found i_law_found hs_law_found fr_law_found th env st) := by
  refine q_found (h.imp (fun _ _ z => z.elim) fun c fs s q => ?_)
  obtain ⟨rfl, rfl, q⟩ := q
  unfold hs_law_found
  dsimp only [n_law_found, List.replicate]
  refine r_hgo_named (by simp) ?_
  dsimp only [List.set]
  walk_at "wp"
  refine q_xf rfl ?_
  walk_at "wp"
  refine ⟨rfl, ?_⟩
  walk_at "wp"
  refine w_repr hz ?_
  walk_at "wp"
  refine w_tup (by simp [LIM]) ?_
  exact ⟨by rfl, rfl, q⟩
theorem found_order {i : Int} (h : Wp (fun c fs s => c = 7 ∧ fs = [("at", .int i)] ∧ Q (.tup [.str (Str.ofString "order"), .int i]) s) (fun _ _ => False) (th env st)) : Wp X Q (eFound n_law_found i_law_found hs_law_found fr_law_found th env st) := by
  refine q_found (h.imp (fun _ _ z => z.elim) fun c fs s q => ?_)
  obtain ⟨rfl, rfl, q⟩ := q
  unfold hs_law_found
  dsimp only [n_law_found, List.replicate]
  refine r_hgo_no (by decide) (by decide) ?_
  refine r_hgo_no (by decide) (by decide) ?_
  refine r_hgo_named (by simp) ?_
  dsimp only [List.set]
  walk_at "wp"
  refine q_xf rfl ?_
  walk_at "wp"
  refine ⟨rfl, ?_⟩
  walk_at "wp"
  refine w_tup (by simp [LIM]) ?_
  exact ⟨by rfl, rfl, q⟩
theorem found_colour (h : Wp (fun c fs s => c = 4 ∧ fs = [] ∧ Q (.str (Str.ofString "colour")) s) (fun _ _ => False) (th env st)) : Wp X Q (eFound n_law_found i_law_found hs_law_found fr_law_found th env st) := by
  refine q_found (h.imp (fun _ _ z => z.elim) fun c fs s q => ?_)
  obtain ⟨rfl, rfl, q⟩ := q
  unfold hs_law_found
  refine r_hgo_no (by decide) (by decide) ?_
  refine r_hgo_only ?_
  walk_at "wp"
  exact q
theorem found_standing (h : Wp (fun c fs s => c = 5 ∧ fs = [] ∧ Q (.str (Str.ofString "standing")) s) (fun _ _ => False) (th env st)) : Wp X Q (eFound n_law_found i_law_found hs_law_found fr_law_found th env st) := by
  refine q_found (h.imp (fun _ _ z => z.elim) fun c fs s q => ?_)
  obtain ⟨rfl, rfl, q⟩ := q
  unfold hs_law_found
  refine r_hgo_no (by decide) (by decide) ?_
  refine r_hgo_no (by decide) (by decide) ?_
  refine r_hgo_no (by decide) (by decide) ?_
  refine r_hgo_only ?_
  walk_at "wp"
  exact q
theorem found_visit (h : Wp (fun c fs s => c = 6 ∧ fs = [] ∧ Q (.str (Str.ofString "visit")) s) (fun _ _ => False) (th env st)) : Wp X Q (eFound n_law_found i_law_found hs_law_found fr_law_found th env st) := by
  refine q_found (h.imp (fun _ _ z => z.elim) fun c fs s q => ?_)
  obtain ⟨rfl, rfl, q⟩ := q
  unfold hs_law_found
  refine r_hgo_no (by decide) (by decide) ?_
  refine r_hgo_no (by decide) (by decide) ?_
  refine r_hgo_no (by decide) (by decide) ?_
  refine r_hgo_no (by decide) (by decide) ?_
  refine r_hgo_only ?_
  walk_at "wp"
  exact q
end
/-! ### what stays -/
theorem Pot.away {s : Sto} {p q : Nat} {ns : List Int} (P : Pot s p q ns) {r : Nat} {c : Cell} (hr : s[r]? = some c) (hc : ∀ ds, c = .lst ds → ds[0]? ≠ some (.ref q)) : r ∉ [p] := by
  intro h
  rw [List.mem_singleton.mp h] at hr
  obtain ⟨_, _, _, hp, _⟩ := P.ex
  rw [hp] at hr
  cases hr
  exact hc _ rfl rfl
theorem Pot.put {s : Sto} {p q L : Nat} {ns : List Int} {c : Cell} (P : Pot s p q ns) (h1 : L ≠ p) (h2 : L ≠ q) : Pot (s.set L c) p q ns := by
  obtain ⟨⟨a, b, d, hp, ha, hb, hb2, hc⟩, hq, hne, hle, hnn⟩ := P
  exact ⟨⟨a, b, d, by rw [List.getElem?_set_ne h1]; exact hp, ha, hb, hb2, hc⟩, by rw [List.getElem?_set_ne h2]; exact hq, hne, hle, hnn⟩
structure T0 (g : Prg) (C n many col : Nat) (f : Std) : Prop where
  hg : g.Ok C
  st : Start g C many col
  ef : f = beg g many col
  en : n = many + g.leader.toList.length
  hf : f.Ok g C n
  n1 : 1 ≤ n
  n7 : n ≤ 7
structure Sx (s : Sto) (p q : Nat) (ns : List Int) (g : Prg) (l o : Nat) : Prop where
  P : Pot s p q ns
  L : SpecAt s g l
  O : PrgAt s g o
theorem Sx.keep {s t : Sto} {p q l o : Nat} {ns : List Int} {g : Prg} (S : Sx s p q ns g l o) (k : Chg [] s t) : Sx t p q ns g l o := ⟨S.P.keep k, S.L.keep k, S.O.keep k⟩
theorem Sx.pot {s t : Sto} {p q l o : Nat} {ns : List Int} {g : Prg} (S : Sx s p q ns g l o) (k : Chg [p] s t) (P : Pot t p q ns) : Sx t p q ns g l o :=
  ⟨P, k.get (S.P.away S.L (by rintro _ ⟨⟩; simp)) S.L, k.get (S.P.away S.O (by rintro _ ⟨⟩)) S.O⟩
theorem row_pot {s t : Sto} {p q r : Nat} {ns : List Int} {ds : List D} (P : Pot s p q ns) (h : s[r]? = some (.lst ds)) (hd : ds[0]? ≠ some (.ref q)) (k : Chg [p] s t) : t[r]? = some (.lst ds) :=
  k.get (P.away h (by rintro _ ⟨⟩; exact hd)) h
theorem nat_head {a : List Nat} {q : Nat} : (a.map natD)[0]? ≠ some (.ref q) := by cases a <;> simp [natD]
theorem word_head {g : Prg} {f : Std} {a : List Nat} {k q : Nat} : (wordsD g f a k)[0]? ≠ some (.ref q) := by
  unfold wordsD
  rw [List.getElem?_map]
  cases (List.range k)[0]? with
  | none => simp
  | some j => cases h : sayK g f a j <;> simp [h, Say.d]
theorem wrong_head {g : Prg} {f : Std} {a : List Nat} {k q : Nat} : (wrongD g f a k)[0]? ≠ some (.ref q) := nat_head
theorem told_ok : PyData.strOk (Str.ofString "told") = true := by decide +kernel
theorem number_ok : PyData.strOk (Str.ofString "number") = true := by decide +kernel
theorem visit_ok : PyData.strOk (Str.ofString "visit") = true := by decide +kernel
theorem colour_ok : PyData.strOk (Str.ofString "colour") = true := by decide +kernel
theorem standing_ok : PyData.strOk (Str.ofString "standing") = true := by decide +kernel
theorem order_ok : PyData.strOk (Str.ofString "order") = true := by decide +kernel
theorem pl_two {z : Str} {d : D} {n : Nat} (hz : PyData.strOk z = true) (hd : Pl n d) : Pl (n + 1) (.tup [.str z, d]) := .tup n _ (fun x hx => by
  simp only [List.mem_cons, List.not_mem_nil, or_false] at hx
  rcases hx with rfl | rfl
  · exact .str _ _ hz
  · exact hd) (by simp)
theorem within_form {lo hi : Int} {d : D} (h : withinB lo hi d = true) : ∃ i : Int, d = .int i ∧ lo ≤ i ∧ i ≤ hi := by
  cases d with
  | int i =>
    simp only [withinB, Bool.and_eq_true, decide_eq_true_eq] at h
    exact ⟨i, rfl, h.1, h.2⟩
  | _ => simp [withinB] at h
/-! ### a standing, a visit -/
section
variable {K : Ks} {s : Sto} {p q : Nat} {ns : List Int} {g : Prg} {C n many col l o : Nat} {f : Std} {x0 x2 x3 x4 x5 x6 x7 x8 x9 x10 x11 x12 x13 x14 x15 x16 x17 x18 x19 x20 : Option D}
theorem E2_ok (W : T0 g C n many col f) (S : Sx s p q ns g l o) {thing visit : D} (ht : Kn s 2 thing) (hv : Kz s visit)
    (k : ∀ t x15, Pot t p q ns → K.nx [x0, some (.ref p), x2, some (.ref l), some (.ref o), x5, x6, x7, x8, x9, x10, x11, x12, x13, x14, x15, x16, x17, x18, some thing, some visit, none] t) :
    Owp K (sE2 [x0, some (.ref p), x2, some (.ref l), some (.ref o), x5, x6, x7, x8, x9, x10, x11, x12, x13, x14, x15, x16, x17, x18, some thing, some visit, none] s) := by
  unfold sE2
  walk_at "wp"
  refine (law_is_standing_gen W.hg S.L ht).mono ?_
  rintro _ s1 ⟨rfl, k1⟩
  have S1 := S.keep k1
  have ht1 := ht.keep k1
  have hv1 := hv.keep k1
  by_cases hb : standB g.rows.length C thing = true
  · obtain ⟨s', n', rfl, hs', n1', n7'⟩ := stand_form hb
    rw [hb]
    walk_at "wp"
    refine w_ixT (d := .tup (s'.sts.map natD)) (by rfl) ?_
    walk_at "wp"
    refine (law_within_gen hv1).mono ?_
    rintro _ s1 ⟨rfl, rfl⟩
    rw [List.length_map, hs'.ln]
    by_cases hw : withinB 0 ((n' : Int) - 1) visit = true
    · obtain ⟨i, rfl, hi0, hi1⟩ := within_form hw
      obtain ⟨j, rfl⟩ : ∃ j : Nat, i = j := ⟨i.toNat, by omega⟩
      rw [hw]
      walk_at "wp"
      refine (law_step_ok W.hg S1.L hs' (by omega) (by omega)).mono ?_
      rintro _ s2 ⟨rfl, k2⟩
      have S2 := S1.keep k2
      walk_at "wp"
      refine w_tup (by simp [LIM]) ?_
      walk_at "wp"
      refine found_told ?_
      walk_at "wp"
      refine (visited_ok W.hg S2.O hs' n1' n7' (by omega)).mono ?_
      rintro _ s3 ⟨rfl, k3⟩
      have S3 := S2.keep k3
      have hn := nxt_ok W.hg hs' (i := j) (by omega)
      walk_at "wp"
      refine (same_tup (pl_two told_ok (std_pl (by rw [hn.ln]; omega) (by rw [hn.lb]; omega))) (by omega)).mono ?_
      rintro _ s4 ⟨rfl, k4⟩
      walk_at "wp"
      exact k _ _ (S3.keep k4).P
    · have hw := Bool.eq_false_iff.mpr hw
      rw [hw]
      walk_at "wp"
      refine found_visit ?_
      walk_at "wp"
      refine (both_bad (check_visit_bad W.hg S1.O hs' n1' n7' hv1 hw)).1.imp (fun _ _ z => z.elim) ?_
      rintro _ _ s2 ⟨rfl, rfl, k2⟩
      refine ⟨rfl, rfl, ?_⟩
      have S2 := S1.keep k2
      walk_at "wp"
      refine (same_flat (.str 0 _ visit_ok) (by simp)).mono ?_
      rintro _ s3 ⟨rfl, k3⟩
      have S3 := S2.keep k3
      walk_at "wp"
      refine found_visit ?_
      walk_at "wp"
      refine (both_bad (check_visit_bad W.hg S3.O hs' n1' n7' ((hv1.keep k2).keep k3) hw)).2.imp (fun _ _ z => z.elim) ?_
      rintro _ _ s4 ⟨rfl, rfl, k4⟩
      refine ⟨rfl, rfl, ?_⟩
      walk_at "wp"
      refine w_ne (eqD_pl (.str 0 _ visit_ok) (by omega)) ?_
      walk_at "wp"
      exact k _ _ (S3.keep k4).P
  · have hb := Bool.eq_false_iff.mpr hb
    rw [hb]
    walk_at "wp"
    refine found_standing ?_
    walk_at "wp"
    refine (both_bad (check_visit_none W.hg S1.O ht1 hb)).1.imp (fun _ _ z => z.elim) ?_
    rintro _ _ s2 ⟨rfl, rfl, k2⟩
    refine ⟨rfl, rfl, ?_⟩
    have S2 := S1.keep k2
    walk_at "wp"
    refine (same_flat (.str 0 _ standing_ok) (by simp)).mono ?_
    rintro _ s3 ⟨rfl, k3⟩
    have S3 := S2.keep k3
    walk_at "wp"
    refine found_standing ?_
    walk_at "wp"
    refine (both_bad (check_visit_none W.hg S3.O ((ht1.keep k2).keep k3) hb)).2.imp (fun _ _ z => z.elim) ?_
    rintro _ _ s4 ⟨rfl, rfl, k4⟩
    refine ⟨rfl, rfl, ?_⟩
    walk_at "wp"
    refine w_ne (eqD_pl (.str 0 _ standing_ok) (by omega)) ?_
    walk_at "wp"
    exact k _ _ (S3.keep k4).P
end
noncomputable def sE : Sm := sSeq (sAsg (.name 19) (eCall (f__law_pick) [eVar 1, eBlt opLst [eVar 11, eCall (f__law_bent 5) [eVar 1, eVar 11, eC (.int 3)], eC .non, eBlt opList [eVar 11], eBlt opTup [eC (.int 0), eBlt opTup [], eBlt opTup []], eBlt opTup [eBin opIx (eVar 11) (eC (.int 0)), eBin opMulY (eBin opIx (eVar 11) (eC (.int 1))) (eC (.int 8)), eBin opMulY (eBin opIx (eVar 11) (eC (.int 2))) (eC (.int 8))]]])) (sSeq (sAsg (.name 20) (eCall (f__law_pick) [eVar 1, eBlt opLst [eC (.int 0), eBin opSub (eBlt opLen [eBin opIx (eVar 7) (eC (.int 1))]) (eC (.int 1)), eBlt opLen [eBin opIx (eVar 7) (eC (.int 1))], eUn opNeg (eC (.int 1)), eC .non, eC (.bl true)]])) sE2)
noncomputable def sWork : Sm := sSeq (sIf (asB (eBin opNe (eFound n_law_found i_law_found hs_law_found fr_law_found (eCallV 18 20 21 f_said f_lies [eVar 4, eVar 16, eVar 17, eC .non])) (eBlt opTup [eC (.str (Str.ofString "number")), eBlt opRepr [eVar 16]]))) (sRet (eC (.bl false))) (sSkip)) (sIf (asB (eBin opNe (eFound n_law_found i_law_found hs_law_found fr_law_found (eCallV 18 20 21 f_said f_lies [eVar 4, eVar 5, eVar 17, eC .non])) (eC (.str (Str.ofString "colour"))))) (sRet (eC (.bl false))) (sSkip))
noncomputable def sD2 : Sm := sSeq (sFor (iS (eBlt opTup [eC (.glo 20), eC (.glo 21)])) (.name 18) sWork) (sSeq (sIf (tOr' (asB (eBin opNe (eFound n_law_found i_law_found hs_law_found fr_law_found (eCall (f_beginning) [eVar 4, eVar 16, eVar 17])) (eBlt opTup [eC (.str (Str.ofString "number")), eBlt opRepr [eVar 16]]))) (asB (eBin opNe (eFound n_law_found i_law_found hs_law_found fr_law_found (eCall (f_beginning) [eVar 4, eVar 5, eVar 17])) (eC (.str (Str.ofString "colour")))))) (sRet (eC (.bl false))) (sSkip)) sE)
noncomputable def eBad : E := eCall (f__law_pick) [eVar 1, eBin opAdd (eBlt opLst [eUn opNeg (eC (.int 1)), eC (.int 7), eC .non, eC (.bl true)]) (eIf (asB (eBin opIs (eBin opIx (eVar 3) (eC (.int 2))) (eC .non))) (eBlt opLst [eC (.int 0)]) (eBlt opLst []))]
noncomputable def eShade : E := eCall (f__law_pick) [eVar 1, eBin opAdd (eBlt opLst [eC .non, eC (.bl true), eUn opNeg (eC (.int 1)), eBlt opLen [eBin opIx (eBin opIx (eVar 3) (eC (.int 0))) (eC (.int 0))]]) (eLc [21] (iR1 (eBlt opLen [eBin opIx (eBin opIx (eVar 3) (eC (.int 0))) (eC (.int 0))])) (.name 21) (asB (eBin (opIn true) (eVar 21) (eCall (f__law_colours) [eVar 3]))) (eVar 21))]
noncomputable def sD : Sm := sSeq (sAsg (.name 16) eBad) (sSeq (sAsg (.name 17) eShade) sD2)
/-! ### a thing, a visit -/
theorem std_wd {st : Sto} {A : List Nat} {s : Std} {g : Prg} {C n : Nat} (hg : g.Ok C) (hs : s.Ok g C n) (n7 : n ≤ 7) : Wd st A 100 1 (.int s.col) ∧ Wd st A 100 1 (.tup (s.sts.map natD)) ∧ Wd st A 100 1 (.tup (s.bn.map D.bl)) := by
  have h1 := hs.col
  have h2 := hg.c4
  have h3 := hg.n5
  refine ⟨.int _ _ (by omega), .tup 0 _ (fun d hd => ?_) (by rw [List.length_map, hs.ln]; omega), .tup 0 _ (fun d hd => ?_) (by rw [List.length_map, hs.lb]; omega)⟩
  · obtain ⟨x, hx, rfl⟩ := List.mem_map.mp hd
    have := hs.sts x hx
    exact .int _ _ (by omega)
  · obtain ⟨x, hx, rfl⟩ := List.mem_map.mp hd
    exact .bl _ _
theorem wd_three {st : Sto} {A : List Nat} {B n : Nat} {a b c : D} (ha : Wd st A B n a) (hb : Wd st A B n b) (hc : Wd st A B n c) : ∀ d ∈ [a, b, c], Wd st A B n d := fun d hd => by
  simp only [List.mem_cons, List.not_mem_nil, or_false] at hd
  rcases hd with rfl | rfl | rfl
  · exact ha
  · exact hb
  · exact hc
theorem wd_rep {st : Sto} {A : List Nat} {B : Nat} {ds : List D} {k : Nat} (h : Wd st A 100 1 (.tup ds)) (hl : ds.length * k ≤ B) (hB : 100 ≤ B) : Wd st A B 1 (.tup (List.replicate k ds).flatten) := by
  cases h with
  | tup m ds h hl2 =>
    refine .tup 0 _ (fun d hd => ?_) (by rw [List.length_flatten, List.map_replicate, List.sum_replicate_nat, Nat.mul_comm]; exact hl)
    obtain ⟨l, hl, hd⟩ := List.mem_flatten.mp hd
    rw [(List.mem_replicate.mp hl).2] at hd
    exact (h d hd).up hB (Nat.le_refl _)
section
variable {K : Ks} {s : Sto} {p q : Nat} {ns : List Int} {g : Prg} {C n many col l o : Nat} {f last : Std} {x0 x2 x3 x4 x5 x6 x8 x9 x10 x11 x12 x13 x14 x15 x16 x17 x18 x19 x20 : Option D}
theorem E_ok (W : T0 g C n many col f) (S : Sx s p q ns g l o) (hl : last.Ok g C n)
    (k : ∀ t x15 x19 x20, Pot t p q ns → K.nx [x0, some (.ref p), x2, some (.ref l), some (.ref o), x5, x6, some f.d, x8, x9, x10, some last.d, x12, x13, x14, x15, x16, x17, x18, x19, x20, none] t) :
    Owp K (sE [x0, some (.ref p), x2, some (.ref l), some (.ref o), x5, x6, some f.d, x8, x9, x10, some last.d, x12, x13, x14, x15, x16, x17, x18, x19, x20, none] s) := by
  have hg := W.hg
  have n1 := W.n1
  have n7 := W.n7
  have hln := hl.ln
  have hlb := hl.lb
  have liv : ∀ {t : Sto}, Pot t p q ns → Liv [p] t := fun P a ha e => by
    obtain ⟨_, _, _, hp, _⟩ := P.ex
    rw [List.mem_singleton.mp ha, hp] at e
    cases e
  unfold sE
  walk_at "wp"
  obtain ⟨w1, w2, w3⟩ := std_wd (st := s) (A := [p]) hg hl n7
  refine (law_bent_ok (A := [p]) (B := 100) (d := last.d) (n := 2) (by simp) (by omega) (by omega) 4 3 (by omega) S.P (liv S.P) (.tup 1 _ (wd_three w1 w2 w3) (by simp))).mono ?_
  rintro bd s1 ⟨wb, P1, k1⟩
  have S1 := S.pot k1 P1
  walk_at "wp"
  refine w_listT fun r s2 hr hrn k2 => ?_
  have S2 := S1.keep k2
  walk_at "wp"
  refine w_tup (by simp [LIM]) ?_
  walk_at "wp"
  refine w_tup (by simp [LIM]) ?_
  walk_at "wp"
  refine w_tup (by simp [LIM]) ?_
  walk_at "wp"
  refine w_ixT (d := .int last.col) (by rfl) ?_
  walk_at "wp"
  refine w_ixT (d := .tup (last.sts.map natD)) (by rfl) ?_
  walk_at "wp"
  refine w_mulYT ⟨fun e => ?_, by omega, by omega, by rw [List.length_map]; omega⟩ ?_
  · have := congrArg List.length e
    rw [List.length_map, List.length_nil] at this
    omega
  walk_at "wp"
  refine w_ixT (d := .tup (last.bn.map D.bl)) (by rfl) ?_
  walk_at "wp"
  refine w_mulYT ⟨fun e => ?_, by omega, by omega, by rw [List.length_map]; omega⟩ ?_
  · have := congrArg List.length e
    rw [List.length_map, List.length_nil] at this
    omega
  walk_at "wp"
  refine w_tup (by simp [LIM]) ?_
  walk_at "wp"
  refine wo_lst (by simp [LIM]) fun L s3 hL hLn k3 => ?_
  have S3 := S2.keep k3
  walk_at "wp"
  refine (law_pick S3.P hL (by simp) (by simp) (S2.P.live hLn)).mono ?_
  rintro thing s4 ⟨hth, P4, k4⟩
  have S4 := S3.pot k4 P4
  have hrp : r ∉ [p] := (liv S1.P).out hrn
  have hr4 := k4.get hrp (k3.get0 hr)
  obtain ⟨w1, w2, w3⟩ := std_wd (st := s4) (A := [p]) hg hl n7
  have hth0 := hth
  have hth : Kn s4 2 thing := by
    have main : Wd s4 [p] 101 3 thing := by
      simp only [List.mem_cons, List.not_mem_nil, or_false] at hth
      rcases hth with rfl | rfl | rfl | rfl | rfl | rfl
      · exact .tup 2 _ (fun d hd => (wd_three w1 w2 w3 d hd).up (by omega) (by omega)) (by simp)
      · exact wb.keep ((k2.trans k3).up.trans k4)
      · exact .non _
      · exact .lst 2 r _ hr4 hrp (fun d hd => (wd_three w1 w2 w3 d hd).up (by omega) (by omega)) (by simp)
      · exact .tup 2 _ (wd_three (.int _ _ (by simp)) (.tup 1 _ (by simp) (by simp)) (.tup 1 _ (by simp) (by simp))) (by simp)
      · exact .tup 2 _ (wd_three (w1.up (by omega) (by omega)) ((wd_rep (k := 8) w2 (B := 101) (by rw [List.length_map]; omega) (by omega)).up (by omega) (by omega)) ((wd_rep (k := 8) w3 (B := 101) (by rw [List.length_map]; omega) (by omega)).up (by omega) (by omega))) (by simp)
    exact main.kn 2
  walk_at "wp"
  refine w_ixT (d := .tup (f.sts.map natD)) (by rfl) ?_
  walk_at "wp"
  refine w_ixT (d := .tup (f.sts.map natD)) (by rfl) ?_
  walk_at "wp"
  refine wo_lst (by simp [LIM]) fun L5 s5 hL5 hL5n k5 => ?_
  have S5 := S4.keep k5
  walk_at "wp"
  refine (law_pick S5.P hL5 (by simp) (by simp) (S4.P.live hL5n)).mono ?_
  rintro visit s6 ⟨hvi, P6, k6⟩
  have S6 := S5.pot k6 P6
  have hv : Kz s6 visit := by
    simp only [List.mem_cons, List.not_mem_nil, or_false] at hvi
    rcases hvi with rfl | rfl | rfl | rfl | rfl | rfl
    · exact .int _
    · exact .int _
    · exact .int _
    · exact .int _
    · exact .non
    · exact .bl _
  have hth6 : Kn s6 2 thing := by
    have main : Wd s6 [p] 101 3 thing := by
      obtain ⟨w1, w2, w3⟩ := std_wd (st := s6) (A := [p]) hg hl n7
      have hr6 := k6.get hrp (k5.get0 hr4)
      simp only [List.mem_cons, List.not_mem_nil, or_false] at hth0
      rcases hth0 with rfl | rfl | rfl | rfl | rfl | rfl
      · exact .tup 2 _ (fun d hd => (wd_three w1 w2 w3 d hd).up (by omega) (by omega)) (by simp)
      · exact wb.keep (((k2.trans k3).up.trans k4).trans (k5.up.trans k6))
      · exact .non _
      · exact .lst 2 r _ hr6 hrp (fun d hd => (wd_three w1 w2 w3 d hd).up (by omega) (by omega)) (by simp)
      · exact .tup 2 _ (wd_three (.int _ _ (by simp)) (.tup 1 _ (by simp) (by simp)) (.tup 1 _ (by simp) (by simp))) (by simp)
      · exact .tup 2 _ (wd_three (w1.up (by omega) (by omega)) ((wd_rep (k := 8) w2 (B := 101) (by rw [List.length_map]; omega) (by omega)).up (by omega) (by omega)) ((wd_rep (k := 8) w3 (B := 101) (by rw [List.length_map]; omega) (by omega)).up (by omega) (by omega))) (by simp)
    exact main.kn 2
  refine r_seq_nx ?_
  exact E2_ok W S6 hth6 hv fun t x15 P => k _ _ _ _ P
/-! ### numbers and colours that are none -/
theorem low_le (g : Prg) : low g ≤ 1 := by unfold low; split <;> omega
theorem low_ge (g : Prg) : 0 ≤ low g := by unfold low; split <;> omega
theorem bad_ok {env : Sl} (S : Sx s p q ns g l o) (e1 : env[1]? = some (some (.ref p))) (e3 : env[3]? = some (some (.ref l))) {X : XP} :
    Wp X (fun x t => Small x ∧ withinB (low g) 6 x = false ∧ Pot t p q ns ∧ Chg [p] s t) (eBad env s) := by
  have hL := S.L
  have hlo := low_le g
  have hlo0 := low_ge g
  unfold SpecAt at hL
  have fin : ∀ {ds : List D} {a : Nat} {t : Sto}, t[a]? = some (.lst ds) → s[a]? = none → Chg [] s t → 1 ≤ ds.length → ds.length < 100 → (∀ x ∈ ds, Small x ∧ withinB (low g) 6 x = false) →
      Wp X (fun x t => Small x ∧ withinB (low g) 6 x = false ∧ Pot t p q ns ∧ Chg [p] s t) (f__law_pick [.ref p, .ref a] t) := fun {ds a t} ha han kt h1 h2 hx => by
    refine (law_pick (S.P.keep kt) ha h1 (by omega) (S.P.live han)).mono ?_
    rintro x u ⟨hm, Pu, ku⟩
    exact ⟨(hx x hm).1, (hx x hm).2, Pu, kt.up.trans ku⟩
  have four : ∀ x ∈ ([.int (-1), .int 7, .non, .bl true] : List D), Small x ∧ withinB (low g) 6 x = false := fun x hx => by
    simp only [List.mem_cons, List.not_mem_nil, or_false] at hx
    rcases hx with rfl | rfl | rfl | rfl
    · exact ⟨by show Int.natAbs _ ≤ 120; omega, by simp [withinB]; omega⟩
    · exact ⟨by show Int.natAbs _ ≤ 120; omega, by simp [withinB]⟩
    · exact ⟨trivial, rfl⟩
    · exact ⟨trivial, rfl⟩
  unfold eBad
  refine r_wp_call (r_wp_cons (r_var e1 ?_))
  walk_at "wp"
  refine wo_lst (by simp [LIM]) fun a s1 ha han k1 => ?_
  refine r_wp_if (q_asB (r_wp_bin (r_wp_bin (r_var e3 ?_))))
  have hL1 := k1.get0 hL
  cases e : g.leader with
  | none =>
    rw [e] at hL1
    simp only [optD] at hL1
    walk_at "wp"
    refine wo_lst (by simp [LIM]) fun b s2 hb hbn k2 => ?_
    refine wo_addL (k2.get0 ha) hb (by simp [LIM]) fun c s3 hc hcn k3 => ?_
    walk_at "wp"
    refine fin hc (none_back k1 (none_back k2 hcn)) (k1.trans (k2.trans k3)) (by simp) (by simp) fun x hx => ?_
    rcases List.mem_append.mp hx with hx | hx
    · exact four x hx
    · rw [List.mem_singleton.mp hx]
      exact ⟨by show Int.natAbs _ ≤ 120; omega, by simp [withinB, low, e]⟩
  | some z =>
    rw [e] at hL1
    simp only [optD] at hL1
    walk_at "wp"
    refine wo_lst (by simp [LIM]) fun b s2 hb hbn k2 => ?_
    refine wo_addL (k2.get0 ha) hb (by simp [LIM]) fun c s3 hc hcn k3 => ?_
    walk_at "wp"
    refine fin hc (none_back k1 (none_back k2 hcn)) (k1.trans (k2.trans k3)) (by simp) (by simp) fun x hx => ?_
    rw [List.append_nil] at hx
    exact four x hx
theorem shade_ok {env : Sl} (hg : g.Ok C) (S : Sx s p q ns g l o) (e1 : env[1]? = some (some (.ref p))) (e3 : env[3]? = some (some (.ref l))) (e21 : 21 < env.length) {X : XP} :
    Wp X (fun x t => Small x ∧ BadCol g C x ∧ Pot t p q ns ∧ Chg [p] s t) (eShade env s) := by
  have hL := S.L
  have n1 := hg.n1
  have c4 := hg.c4
  obtain ⟨r0, h0⟩ : ∃ r0, g.rows[0]? = some r0 := ⟨_, List.getElem?_eq_getElem (by omega)⟩
  have hr := hg.row r0 (List.mem_of_getElem? h0)
  have hL0 := hL
  unfold SpecAt at hL
  unfold eShade
  refine r_wp_call (r_wp_cons (r_var e1 ?_))
  walk_at "wp"
  refine r_var e3 ?_
  walk_at "wp"
  refine w_ixT (d := rowD r0) (atIn (n := 0) (by simp [h0])) ?_
  unfold rowD
  walk_at "wp"
  refine wo_lst (by simp [LIM]) fun a s1 ha han k1 => ?_
  have hL1 := k1.get0 hL
  refine wp_lc ?_
  refine q_iR1 ?_
  walk_at "wp"
  refine r_var e3 ?_
  walk_at "wp"
  refine w_ixT (d := rowD r0) (atIn (n := 0) (by simp [h0])) ?_
  unfold rowD
  walk_at "wp"
  refine r_both ?hb ?_
  case hb => rw [List.length_map]; omega
  rw [List.length_map, hr]
  refine ⟨fun d => if inF d ((cols g C).map natD) = true then none else some d, fun _ _ => okB_none, by rw [rng_len]; simp only [LIM]; omega, ?_, ?_⟩
  · intro d hd t ht
    obtain ⟨i, hi⟩ := List.getElem?_of_mem hd
    obtain ⟨hi, rfl⟩ := rng_get hi
    refine ⟨_, rfl, ?_⟩
    refine q_asB (r_wp_bin (r_var (d := .int i) ?_ ?_))
    · simp only [wipeD]
      rw [List.getElem?_set_self (by rw [List.length_set]; exact e21)]
    refine r_wp_call (r_wp_cons (r_var (d := .ref l) ?_ ?_))
    · simp only [wipeD]
      rw [List.getElem?_set_ne (by omega), List.getElem?_set_ne (by omega)]
      exact e3
    refine r_wp_nil ?_
    refine (law_colours_ok hg (show SpecAt t g l from ht.get0 hL1)).mono ?_
    rintro _ t2 ⟨cl, cs, rfl, hcl, rfl, _, _, _, _, kc⟩
    refine w_inX hcl rfl (by simp [natD, flatD]) ?_
    refine r_onBl ?_
    by_cases hin : inF (.int i) ((cols g C).map natD) = true
    · simp only [hin, Bool.not_true, if_true]
      exact ⟨trivial, kc⟩
    · have hin2 := Bool.eq_false_iff.mpr hin
      simp only [hin2, Bool.not_false, if_true]
      refine r_var (d := .int i) ?_ ⟨by simp, kc⟩
      simp only [wipeD]
      rw [List.getElem?_set_self (by rw [List.length_set]; exact e21)]
  intro b s2 hb hbn k2
  have hlen : ((rngI 0 (C : Int).toNat).filterMap fun d => if inF d ((cols g C).map natD) = true then none else some d).length ≤ 4 := by
    refine Nat.le_trans (List.length_filterMap_le _ _) ?_
    rw [rng_len]
    omega
  refine wo_addL (k2.get0 ha) hb (by simp only [LIM, List.length_cons, List.length_nil]; omega) fun c s3 hc hcn k3 => ?_
  refine r_wp_nil ?_
  have k13 := k1.trans (k2.trans k3)
  refine (law_pick (S.P.keep k13) hc (by simp) (by simp only [List.length_append, List.length_cons, List.length_nil]; omega) (S.P.live (none_back k1 (none_back k2 hcn)))).mono ?_
  rintro x u ⟨hm, Pu, ku⟩
  refine ⟨?_, ?_, Pu, k13.up.trans ku⟩
  · rcases List.mem_append.mp hm with hx | hx
    · simp only [List.mem_cons, List.not_mem_nil, or_false] at hx
      rcases hx with rfl | rfl | rfl | rfl
      · trivial
      · trivial
      · show Int.natAbs _ ≤ 120; omega
      · show Int.natAbs _ ≤ 120
        rw [List.length_map]
        omega
    · obtain ⟨d, hd, e⟩ := List.mem_filterMap.mp hx
      obtain ⟨i, hi⟩ := List.getElem?_of_mem hd
      obtain ⟨hi, rfl⟩ := rng_get hi
      split at e
      · cases e
      · cases e
        show Int.natAbs _ ≤ 120
        omega
  · rcases List.mem_append.mp hm with hx | hx
    · simp only [List.mem_cons, List.not_mem_nil, or_false] at hx
      rcases hx with rfl | rfl | rfl | rfl
      · exact .inl rfl
      · exact .inl rfl
      · exact .inl (by simp [withinB])
      · refine .inl ?_
        rw [List.length_map, hr]
        simp [withinB]
        omega
    · obtain ⟨d, hd, e⟩ := List.mem_filterMap.mp hx
      obtain ⟨i, hi⟩ := List.getElem?_of_mem hd
      obtain ⟨hi, rfl⟩ := rng_get hi
      split at e
      · cases e
      · rename_i hin
        cases e
        refine .inr ?_
        cases hlm : g.lamp with
        | none =>
          refine (hin ?_).elim
          simp only [cols, hlm]
          exact List.any_eq_true.mpr ⟨natD i, List.mem_map.mpr ⟨i, by simp; omega, rfl⟩, by simp [natD, eqF]⟩
        | some z =>
          refine ⟨i, z, rfl, by omega, rfl, fun e => hin ?_⟩
          subst e
          simp [cols, hlm, inF, natD, eqF]
theorem callV_bad {P : XP} {env : Sl} {as : List E} {v1 v2 v3 v4 : D} (hx : env[18]? = some (some (.glo 20)) ∨ env[18]? = some (some (.glo 21))) (hargs : eArgs as env s = .ok [v1, v2, v3, v4] s) (h : Wp P (fun _ _ => False) (f_started [v1, v2, v3, v4] s)) :
    Wp P (fun _ _ => False) (eCallV 18 20 21 f_said f_lies as env s) := by
  rcases hx with hx | hx
  · refine r_callV1 hx ?_
    unfold eCall
    rw [hargs]
    exact (two_bad h).1
  · refine r_callV2 hx (by decide) ?_
    unfold eCall
    rw [hargs]
    exact (two_bad h).2
theorem work_ok (W : T0 g C n many col f) (S : Sx s p q ns g l o) {bad shade x18 : D} (hx : x18 = .glo 20 ∨ x18 = .glo 21) (hb : Small bad ∧ withinB (low g) 6 bad = false) (hsh : Small shade ∧ BadCol g C shade) {x7 x21 : Option D}
    (k : ∀ t, Sx t p q ns g l o → K.nx [x0, some (.ref p), x2, some (.ref l), some (.ref o), some (.int many), x6, x7, x8, x9, x10, x11, x12, x13, x14, x15, some bad, some shade, some x18, x19, x20, x21] t) :
    Owp K (sWork [x0, some (.ref p), x2, some (.ref l), some (.ref o), some (.int many), x6, x7, x8, x9, x10, x11, x12, x13, x14, x15, some bad, some shade, some x18, x19, x20, x21] s) := by
  obtain ⟨z, hz, hzr⟩ := small_repr hb.1
  have hx18 : ∀ {e : Sl}, e[18]? = some (some x18) → e[18]? = some (some (.glo 20)) ∨ e[18]? = some (some (.glo 21)) := fun {e} he => by
    rcases hx with rfl | rfl
    · exact .inl he
    · exact .inr he
  unfold sWork
  walk_at "wp"
  refine found_num hzr ?_
  refine (callV_bad (hx18 rfl) rfl (started_many S.O hb.1.kz hb.2)).imp (fun _ _ z => z.elim) ?_
  rintro _ _ s1 ⟨rfl, rfl, rfl⟩
  refine ⟨rfl, rfl, ?_⟩
  walk_at "wp"
  refine w_repr hzr ?_
  walk_at "wp"
  refine w_tup (by simp [LIM]) ?_
  refine w_ne (eqD_pl (pl_two number_ok (.str 0 _ hz)) (by omega)) ?_
  walk_at "wp"
  refine found_colour ?_
  refine (callV_bad (hx18 rfl) rfl (started_col W.hg S.O W.st.le W.st.low hsh.1.kz hsh.2)).imp (fun _ _ z => z.elim) ?_
  rintro _ _ s2 ⟨rfl, rfl, k2⟩
  refine ⟨rfl, rfl, ?_⟩
  walk_at "wp"
  refine w_ne (eqD_pl (.str 0 _ colour_ok) (by omega)) ?_
  walk_at "wp"
  exact k _ (S.keep k2)
theorem D_ok (W : T0 g C n many col f) (S : Sx s p q ns g l o) (hl : last.Ok g C n)
    (k : ∀ t x15 x16 x17 x18 x19 x20, Pot t p q ns → K.nx [x0, some (.ref p), x2, some (.ref l), some (.ref o), some (.int many), x6, some f.d, x8, x9, x10, some last.d, x12, x13, x14, x15, x16, x17, x18, x19, x20, none] t) :
    Owp K (sD [x0, some (.ref p), x2, some (.ref l), some (.ref o), some (.int many), x6, some f.d, x8, x9, x10, some last.d, x12, x13, x14, x15, x16, x17, x18, x19, x20, none] s) := by
  unfold sD
  walk_at "wp"
  refine (bad_ok S (by rfl) (by rfl)).mono ?_
  rintro bad s1 ⟨hb1, hb2, P1, k1⟩
  have S1 := S.pot k1 P1
  walk_at "wp"
  refine (shade_ok W.hg S1 (by rfl) (by rfl) (by simp)).mono ?_
  rintro shade s2 ⟨hs1, hs2, P2, k2⟩
  have S2 := S1.pot k2 P2
  obtain ⟨z, hz, hzr⟩ := small_repr hb1
  refine r_seq_nx ?_
  unfold sD2
  walk_at "wp"
  refine w_tup (by simp [LIM]) ?_
  walk_at "wp"
  refine owp_forS (fun i e t => ∃ x18, e = [x0, some (.ref p), x2, some (.ref l), some (.ref o), some (.int many), x6, some f.d, x8, x9, x10, some last.d, x12, x13, x14, x15, some bad, some shade, x18, x19, x20, none] ∧ Sx t p q ns g l o) ?_ ?_ ⟨_, rfl, S2⟩
  · rintro i d e t hd ⟨y, rfl, St⟩
    refine ⟨okB_none, _, rfl, ?_⟩
    dsimp only [List.set]
    refine work_ok W St ?_ ⟨hb1, hb2⟩ ⟨hs1, hs2⟩ fun t2 S3 => ⟨_, rfl, S3⟩
    have hm := List.mem_of_getElem? hd
    simpa using hm
  · rintro e t ⟨y, rfl, St⟩
    refine ⟨okB_none, ?_⟩
    walk_at "wp"
    refine found_num hzr ?_
    walk_at "wp"
    refine (beginning_many St.O hb1.kz hb2).imp (fun _ _ z => z.elim) ?_
    rintro _ _ t1 ⟨rfl, rfl, rfl⟩
    refine ⟨rfl, rfl, ?_⟩
    walk_at "wp"
    refine w_repr hzr ?_
    walk_at "wp"
    refine w_tup (by simp [LIM]) ?_
    refine w_ne (eqD_pl (pl_two number_ok (.str 0 _ hz)) (by omega)) ?_
    walk_at "wp"
    refine found_colour ?_
    walk_at "wp"
    refine (beginning_col W.hg St.O W.st.le W.st.low hs1.kz hs2).imp (fun _ _ z => z.elim) ?_
    rintro _ _ t2 ⟨rfl, rfl, k3⟩
    refine ⟨rfl, rfl, ?_⟩
    walk_at "wp"
    refine w_ne (eqD_pl (.str 0 _ colour_ok) (by omega)) ?_
    walk_at "wp"
    exact E_ok W (St.keep k3) hl fun t a b c P => k _ _ _ _ _ _ _ P
end
noncomputable def sC2 : Sm := sSeq (sIf (tNot' (tTru (eCall (f__law_same 7) [eFound n_law_found i_law_found hs_law_found fr_law_found (eCall (f_said) [eVar 4, eVar 5, eVar 6, eVar 14]), eVar 15]))) (sRet (eC (.bl false))) (sSkip)) (sSeq (sIf (tAnd' (asB (eBin opEq (eBin opIx (eVar 15) (eC (.int 0))) (eC (.str (Str.ofString "order"))))) (asB (eBin opNe (eFound n_law_found i_law_found hs_law_found fr_law_found (eCall (f_lies) [eVar 4, eVar 5, eVar 6, eVar 14])) (eVar 15)))) (sRet (eC (.bl false))) (sSkip)) sD)
noncomputable def sC : Sm := sSeq (sAsg (.name 14) (eCall (f__law_pick) [eVar 1, eBlt opLst [eBin opAdd (eVar 8) (eBlt opLst [eCall (f__law_pick) [eVar 1, eBlt opLst [eC .non, eC (.bl true), eUn opNeg (eC (.int 1)), eC (.int 7), eC (.str (Str.ofString "0"))]]]), eC .non, eC (.int 3), eNewD, eBin opMulY (eBlt opLst [eC (.int 0)]) (eC (.int 2001)), eVar 8]])) (sSeq (sAsg (.name 15) (eIf (tOr' (tNot' (tTru (eBlt (opIsi (.ty "list") (ansTy "list")) [eVar 14, eC (.ty "list")]))) (asB (eBin opGt (eBlt opLen [eVar 14]) (eC (.int 2000))))) (eBlt opTup [eC (.str (Str.ofString "order")), eUn opNeg (eC (.int 1))]) (eIf (asB (eBin opGt (eBlt opLen [eVar 14]) (eBlt opLen [eVar 8]))) (eBlt opTup [eC (.str (Str.ofString "order")), eBlt opLen [eVar 8]]) (eBlt opTup [eC (.str (Str.ofString "told")), eBlt opTuple [eVar 9]])))) sC2)
noncomputable def sB : Sm := sSeq (sIf (tOr' (tNot' (tTru (eCall (f__law_same 7) [eCall (f_beginning) [eVar 4, eVar 5, eVar 6], eVar 7]))) (tNot' (tTru (eCall (f__law_same 7) [eCall (f_said) [eVar 4, eVar 5, eVar 6, eVar 8], eBlt opTuple [eVar 9]])))) (sRet (eC (.bl false))) (sSkip)) (sSeq (sIf (tNot' (tTru (eCall (f__law_same 7) [eCall (f_lies) [eVar 4, eVar 5, eVar 6, eBlt opTuple [eVar 8]], eBlt opTuple [eVar 10]]))) (sRet (eC (.bl false))) (sSkip)) (sSeq (sIf (asB (eBin (opEqE true) (eVar 8) (eBlt opLst []))) (sSeq (sAsg (.tup [.name 12, .name 13]) (eCall (f__law_step) [eVar 3, eVar 11, eBin opIx (eVar 8) (eC (.int 0))])) (sIf (tNot' (tTru (eCall (f__law_same 7) [eBlt opLst [eCall (f_visited) [eVar 4, eVar 11, eBin opIx (eVar 8) (eC (.int 0))], eCall (f_saying) [eVar 4, eVar 11, eBin opIx (eVar 8) (eC (.int 0))]], eBlt opLst [eVar 13, eVar 12]]))) (sRet (eC (.bl false))) (sSkip))) (sSkip)) sC))
noncomputable def sT2 : Sm := sSeq (sAsg (.name 6) (eCall (f__law_pick) [eVar 1, eCall (f__law_colours) [eVar 3]])) (sSeq (sAsg (.name 7) (eCall (f__law_begun) [eVar 3, eVar 5, eVar 6])) (sSeq (sAsg (.name 8) (eLc [21] (iR1 (eCall (f__law_draw) [eVar 1, eC (.int 31)])) (.name 21) (tYes') (eCall (f__law_draw) [eVar 1, eBlt opLen [eBin opIx (eVar 7) (eC (.int 1))]]))) (sSeq (sAsg (.tup [.name 9, .name 10, .name 11]) (eCall (f__law_told) [eVar 3, eVar 7, eVar 8])) sB)))
noncomputable def sTurn : Sm := sSeq (sAsg (.name 3) (eCall (f__law_spec) [eVar 1, eBlt opLst [eC (.int 5), eC (.int 4)]])) (sSeq (sAsg (.tup [.name 4, .name 5]) (eBlt opTup [eCall (f__law_made) [eVar 3], eCall (f__law_many) [eVar 1, eVar 3, eIf (asB (eBin opIsNot (eBin opIx (eVar 3) (eC (.int 2))) (eC .non))) (eC (.int 6)) (eC (.int 5))]])) sT2)
theorem b_law_eq : b_law = sSeq (sAsg (.name 1) (eCall (f__law_pot) [eVar 0])) (sSeq (sFor (iR1 (eC (.int 4))) (.name 2) sTurn) (sRet (eC (.bl true)))) := rfl
/-! ### orders that are none -/
theorem pl_nats {a : List Nat} (h : a.length ≤ 1000) : Pl 1 (.tup (a.map natD)) := .tup 0 _ (fun d hd => by obtain ⟨x, _, rfl⟩ := List.mem_map.mp hd; exact .int _ _) (by rw [List.length_map]; exact h)
theorem pl_words {g : Prg} {f : Std} {a : List Nat} {k : Nat} (h : k ≤ 1000) : Pl 1 (.tup (wordsD g f a k)) := .tup 0 _ (fun d hd => by obtain ⟨x, _, rfl⟩ := List.mem_map.mp hd; exact pl_say 0) (by rw [words_len]; exact h)
theorem pl_wrong {g : Prg} {f : Std} {a : List Nat} {k : Nat} (h : k ≤ 1000) : Pl 1 (.tup (wrongD g f a k)) := pl_nats (by
  refine Nat.le_trans (List.length_filter_le _ _) ?_
  rw [List.length_range]
  exact h)
def OrdBad (s : Sto) (g : Prg) (many col : Nat) (odd : D) (i : Int) : Prop := ∀ t, Chg [] s t → Wp (fun c fs u => c = 7 ∧ fs = [("at", .int i)] ∧ u = t) (fun _ _ => False) (f_check_order [(beg g many col).d, odd] t)
theorem OrdBad.keep {s t : Sto} {g : Prg} {many col : Nat} {odd : D} {i : Int} (h : OrdBad s g many col odd i) (k : Chg [] s t) : OrdBad t g many col odd i := fun u ku => h u (k.trans ku)
section
variable {K : Ks} {s : Sto} {p q : Nat} {ns : List Int} {g : Prg} {C n many col l o : Nat} {f last : Std} {x0 x2 x3 x4 x5 x6 x8 x9 x10 x11 x12 x13 x14 x15 x16 x17 x18 x19 x20 : Option D}
theorem C2_bad (W : T0 g C n many col f) (S : Sx s p q ns g l o) (hl : last.Ok g C n) {odd : D} {i : Int} (ho : OrdBad s g many col odd i)
    (k : ∀ t x15 x16 x17 x18 x19 x20, Pot t p q ns → K.nx [x0, some (.ref p), x2, some (.ref l), some (.ref o), some (.int many), some (.int col), some f.d, x8, x9, x10, some last.d, x12, x13, some odd, x15, x16, x17, x18, x19, x20, none] t) :
    Owp K (sC2 [x0, some (.ref p), x2, some (.ref l), some (.ref o), some (.int many), some (.int col), some f.d, x8, x9, x10, some last.d, x12, x13, some odd, some (.tup [.str (Str.ofString "order"), .int i]), x16, x17, x18, x19, x20, none] s) := by
  unfold sC2
  walk_at "wp"
  refine found_order (i := i) ?_
  walk_at "wp"
  refine (two_bad (started_order W.hg S.O W.st ho)).1.imp (fun _ _ z => z.elim) ?_
  rintro _ _ s1 ⟨rfl, rfl, k1⟩
  refine ⟨rfl, rfl, ?_⟩
  walk_at "wp"
  refine (same_tup (pl_two order_ok (.int 0 _)) (by omega)).mono ?_
  rintro _ s2 ⟨rfl, k2⟩
  have k12 := k1.trans k2
  have S2 := S.keep k12
  walk_at "wp"
  refine w_eq (eqD_pl (.str 0 _ order_ok) (by omega)) ?_
  walk_at "wp"
  refine found_order (i := i) ?_
  walk_at "wp"
  refine (two_bad (started_order W.hg S2.O W.st (ho.keep k12))).2.imp (fun _ _ z => z.elim) ?_
  rintro _ _ s3 ⟨rfl, rfl, k3⟩
  refine ⟨rfl, rfl, ?_⟩
  walk_at "wp"
  refine w_ne (eqD_pl (pl_two order_ok (.int 0 _)) (by omega)) ?_
  walk_at "wp"
  exact D_ok W (S2.keep k3) hl fun t a b c d e u P => k _ _ _ _ _ _ _ P
theorem C2_told (W : T0 g C n many col f) (S : Sx s p q ns g l o) (hl : last.Ok g C n) {r : Nat} {ord : List Nat} (hr : s[r]? = some (.lst (ord.map natD))) (hord : ∀ i ∈ ord, i < n) (hol : ord.length ≤ 30)
    (k : ∀ t x15 x16 x17 x18 x19 x20, Pot t p q ns → K.nx [x0, some (.ref p), x2, some (.ref l), some (.ref o), some (.int many), some (.int col), some f.d, x8, x9, x10, some last.d, x12, x13, some (.ref r), x15, x16, x17, x18, x19, x20, none] t) :
    Owp K (sC2 [x0, some (.ref p), x2, some (.ref l), some (.ref o), some (.int many), some (.int col), some f.d, x8, x9, x10, some last.d, x12, x13, some (.ref r), some (.tup [.str (Str.ofString "told"), .tup (wordsD g f ord ord.length)]), x16, x17, x18, x19, x20, none] s) := by
  have hf := W.hf
  have n7 := W.n7
  have ef := W.ef
  subst ef
  unfold sC2
  walk_at "wp"
  refine found_told ?_
  walk_at "wp"
  refine (said_ok W.hg S.O W.st hf (by omega) hord (by omega) (.inr ⟨r, rfl, hr⟩)).mono ?_
  rintro _ s1 ⟨rfl, k1⟩
  walk_at "wp"
  refine (same_tup (pl_two told_ok (pl_words (by omega))) (by omega)).mono ?_
  rintro _ s2 ⟨rfl, k2⟩
  have S2 := S.keep (k1.trans k2)
  walk_at "wp"
  refine w_eqS told_ok order_ok ?_
  rw [show (Str.ofString "told" == Str.ofString "order") = false by decide +kernel]
  walk_at "wp"
  exact D_ok W S2 hl fun t a b c d e u P => k _ _ _ _ _ _ _ P
theorem C_ok (W : T0 g C n many col f) (S : Sx s p q ns g l o) (hl : last.Ok g C n) {r w : Nat} {ord : List Nat} (hr : s[r]? = some (.lst (ord.map natD))) (hw : s[w]? = some (.lst (wordsD g f ord ord.length))) (hord : ∀ i ∈ ord, i < n) (hol : ord.length ≤ 30)
    (k : ∀ t x14 x15 x16 x17 x18 x19 x20, Pot t p q ns → K.nx [x0, some (.ref p), x2, some (.ref l), some (.ref o), some (.int many), some (.int col), some f.d, some (.ref r), some (.ref w), x10, some last.d, x12, x13, x14, x15, x16, x17, x18, x19, x20, none] t) :
    Owp K (sC [x0, some (.ref p), x2, some (.ref l), some (.ref o), some (.int many), some (.int col), some f.d, some (.ref r), some (.ref w), x10, some last.d, x12, x13, x14, x15, x16, x17, x18, x19, x20, none] s) := by
  have hf := W.hf
  have n1 := W.n1
  have n7 := W.n7
  have ef := W.ef
  have ol : ∀ {b : D}, (ord.map natD ++ [b]).length = ord.length + 1 := fun {b} => by rw [List.length_append, List.length_map, List.length_singleton]
  unfold sC
  walk_at "wp"
  refine wo_lst (by simp [LIM]) fun a s1 ha han k1 => ?_
  walk_at "wp"
  refine (law_pick (S.P.keep k1) ha (by simp) (by simp) (S.P.live han)).mono ?_
  rintro b s2 ⟨hb, P2, k2⟩
  have S2 := (S.keep k1).pot k2 P2
  have hr2 := row_pot (S.P.keep k1) (k1.get0 hr) nat_head k2
  have hw2 := row_pot (S.P.keep k1) (k1.get0 hw) word_head k2
  have hbz : (∀ t, Kz t b) ∧ withinB 0 ((n : Int) - 1) b = false ∧ b ≠ .ref q := by
    simp only [List.mem_cons, List.not_mem_nil, or_false] at hb
    rcases hb with rfl | rfl | rfl | rfl | rfl
    · exact ⟨fun t => .non, rfl, by simp⟩
    · exact ⟨fun t => .bl _, rfl, by simp⟩
    · exact ⟨fun t => .int _, by simp [withinB], by simp⟩
    · exact ⟨fun t => .int _, by simp [withinB]; omega, by simp⟩
    · exact ⟨fun t => .str _ (by decide +kernel), rfl, by simp⟩
  obtain ⟨hb1, hb2, hb3⟩ := hbz
  walk_at "wp"
  refine wo_lst (by simp [LIM]) fun a3 s3 ha3 ha3n k3 => ?_
  refine wo_addL (k3.get0 hr2) ha3 (by rw [List.length_map]; simp only [List.length_singleton, LIM]; omega) fun a4 s4 ha4 ha4n k4 => ?_
  walk_at "wp"
  refine r_newD fun e s5 he hen k5 => ?_
  walk_at "wp"
  refine wo_lst (by simp [LIM]) fun a6 s6 ha6 ha6n k6 => ?_
  walk_at "wp"
  refine w_mulYL ha6 ⟨by simp [LIM], by omega, by omega⟩ fun z s7 hz hzn k7 => ?_
  rw [flat_one] at hz
  walk_at "wp"
  refine wo_lst (by simp [LIM]) fun a8 s8 ha8 ha8n k8 => ?_
  have k48 := k5.trans (k6.trans (k7.trans k8))
  have k28 := k3.trans (k4.trans k48)
  have S8 := S2.keep k28
  walk_at "wp"
  refine (law_pick S8.P ha8 (by simp) (by simp) (S2.P.live (none_back k3 (none_back k4 (none_back k5 (none_back k6 (none_back k7 ha8n))))))).mono ?_
  rintro odd s9 ⟨hodd, P9, k9⟩
  have S9 := S8.pot k9 P9
  have hr9 := row_pot S8.P (k28.get0 hr2) nat_head k9
  have hw9 := row_pot S8.P (k28.get0 hw2) word_head k9
  have hm9 := row_pot S8.P (k48.get0 ha4) (by cases ord <;> simp [natD, hb3]) k9
  have hz9 := row_pot S8.P (k8.get0 hz) (by simp) k9
  have he9 : s9[e]? = some .dct := k9.get (S8.P.away ((k6.trans (k7.trans k8)).get0 he) (by rintro _ ⟨⟩)) ((k6.trans (k7.trans k8)).get0 he)
  simp only [List.mem_cons, List.not_mem_nil, or_false] at hodd
  walk_at "wp"
  rcases hodd with rfl | rfl | rfl | rfl | rfl | rfl
  · walk_at "wp"
    have c1 : ¬ ((2000 : Int) < ((ord.map natD ++ [b]).length : Int)) := by rw [ol]; omega
    walk_at "wp"
    have c2 : (((ord.map natD).length : Int) < ((ord.map natD ++ [b]).length : Int)) := by rw [ol, List.length_map]; omega
    walk_at "wp"
    refine w_tup (by simp [LIM]) ?_
    walk_at "wp"
    rw [List.length_map]
    refine C2_bad W S9 hl (fun t ht => ?_) fun t a b c d e u P => k _ _ _ _ _ _ _ _ P
    rw [← ef]
    exact check_order_bad hf hord (by omega) (ht.get0 hm9) (hb1 t) hb2
  · walk_at "wp"
    refine w_tup (by simp [LIM]) ?_
    walk_at "wp"
    exact C2_bad W S9 hl (fun t ht => check_order_non (k := .non) rfl rfl) fun t a b c d e u P => k _ _ _ _ _ _ _ _ P
  · walk_at "wp"
    refine w_tup (by simp [LIM]) ?_
    walk_at "wp"
    exact C2_bad W S9 hl (fun t ht => check_order_non (k := .int) rfl rfl) fun t a b c d e u P => k _ _ _ _ _ _ _ _ P
  · walk_at "wp"
    refine w_tup (by simp [LIM]) ?_
    walk_at "wp"
    refine C2_bad W S9 hl (fun t ht => check_order_non (k := .dct) ?_ rfl) fun t a b c d e u P => k _ _ _ _ _ _ _ _ P
    simp only [kind, ht.get0 he9]
  · walk_at "wp"
    have c1 : (2000 : Int) < ((List.replicate 2001 (D.int 0)).length : Int) := by rw [List.length_replicate]; decide
    walk_at "wp"
    refine w_tup (by simp [LIM]) ?_
    walk_at "wp"
    exact C2_bad W S9 hl (fun t ht => check_order_long (ht.get0 hz9) (by rw [List.length_replicate]; decide)) fun t a b c d e u P => k _ _ _ _ _ _ _ _ P
  · walk_at "wp"
    have c1 : ¬ ((2000 : Int) < ((ord.map natD).length : Int)) := by rw [List.length_map]; omega
    walk_at "wp"
    refine w_tup (by simp [LIM]) ?_
    walk_at "wp"
    exact C2_told W S9 hl hr9 hord hol fun t a b c d e u P => k _ _ _ _ _ _ _ _ P
theorem B_ok (W : T0 g C n many col f) (S : Sx s p q ns g l o) {r w v : Nat} {ord : List Nat} (hr : s[r]? = some (.lst (ord.map natD))) (hw : s[w]? = some (.lst (wordsD g f ord ord.length))) (hv : s[v]? = some (.lst (wrongD g f ord ord.length))) (hord : ∀ i ∈ ord, i < n) (hol : ord.length ≤ 30)
    (k : ∀ t x12 x13 x14 x15 x16 x17 x18 x19 x20, Pot t p q ns → K.nx [x0, some (.ref p), x2, some (.ref l), some (.ref o), some (.int many), some (.int col), some f.d, some (.ref r), some (.ref w), some (.ref v), some (tld g f ord).d, x12, x13, x14, x15, x16, x17, x18, x19, x20, none] t) :
    Owp K (sB [x0, some (.ref p), x2, some (.ref l), some (.ref o), some (.int many), some (.int col), some f.d, some (.ref r), some (.ref w), some (.ref v), some (tld g f ord).d, x12, x13, x14, x15, x16, x17, x18, x19, x20, none] s) := by
  have hf := W.hf
  have n1 := W.n1
  have n7 := W.n7
  have hfl := hf.ln
  have hfb := hf.lb
  have hl := tld_ok W.hg hf hord
  have ef := W.ef
  subst ef
  unfold sB
  walk_at "wp"
  refine (beginning_ok W.hg S.O W.st).mono ?_
  rintro _ s1 ⟨rfl, k1⟩
  walk_at "wp"
  refine (same_tup (std_pl (by omega) (by omega)) (by omega)).mono ?_
  rintro _ s2 ⟨rfl, k2⟩
  have k12 := k1.trans k2
  have S2 := S.keep k12
  walk_at "wp"
  refine (said_ok W.hg S2.O W.st hf (by omega) hord (by omega) (.inr ⟨r, rfl, k12.get0 hr⟩)).mono ?_
  rintro _ s3 ⟨rfl, k3⟩
  have hw3 := k3.get0 (k12.get0 hw)
  walk_at "wp"
  refine (same_tup (pl_words (by omega)) (by omega)).mono ?_
  rintro _ s4 ⟨rfl, k4⟩
  have k14 := k12.trans (k3.trans k4)
  have S4 := S.keep k14
  have hr4 := k14.get0 hr
  walk_at "wp"
  refine (lies_ok W.hg S4.O W.st hf (by omega) hord (by omega) (.inl rfl)).mono ?_
  rintro _ s5 ⟨rfl, k5⟩
  have hv5 := k5.get0 (k14.get0 hv)
  walk_at "wp"
  refine (same_tup (pl_wrong (by omega)) (by omega)).mono ?_
  rintro _ s6 ⟨rfl, k6⟩
  have k16 := k14.trans (k5.trans k6)
  have S6 := S.keep k16
  have hr6 := k16.get0 hr
  walk_at "wp"
  refine wo_lst (by simp [LIM]) fun E s7 hE hEn k7 => ?_
  have S7 := S6.keep k7
  have hr7 := k7.get0 hr6
  have k17 := k16.trans k7
  by_cases hnil : ord = []
  · refine w_neE hr7 hE (.inr (by rw [hnil]; rfl)) ?_
    rw [show decide ((ord.map natD).length ≠ ([] : List D).length) = false by rw [hnil]; rfl]
    walk_at "wp"
    exact C_ok W S7 hl hr7 (k17.get0 hw) hord hol fun t a b c d e u v P => k _ _ _ _ _ _ _ _ _ _ P
  · have hne : (ord.map natD).length ≠ ([] : List D).length := fun e => hnil (List.eq_nil_of_length_eq_zero (by simpa using e))
    refine w_neE hr7 hE (.inl hne) ?_
    rw [decide_eq_true hne]
    obtain ⟨j, rest, rfl⟩ : ∃ j rest, ord = j :: rest := by cases ord with
      | nil => exact (hnil rfl).elim
      | cons j rest => exact ⟨j, rest, rfl⟩
    have hj := hord j (by simp)
    have hat : atI ((j :: rest).map natD) 0 = some (.int j) := atI0
    walk_at "wp"
    refine w_ixL hr7 hat ?_
    walk_at "wp"
    refine (law_step_ok W.hg S7.L hl hj (by omega)).mono ?_
    rintro _ s8 ⟨rfl, k8⟩
    have S8 := S7.keep k8
    refine ⟨_, rfl, ?_⟩
    dsimp only [List.set]
    walk_at "wp"
    refine w_ixL (k8.get0 hr7) hat ?_
    walk_at "wp"
    refine (visited_ok W.hg S8.O hl n1 n7 hj).mono ?_
    rintro _ s9 ⟨rfl, k9⟩
    have S9 := S8.keep k9
    walk_at "wp"
    refine w_ixL (k9.get0 (k8.get0 hr7)) hat ?_
    walk_at "wp"
    refine (saying_ok W.hg S9.O hl n1 n7 hj).mono ?_
    rintro _ s10 ⟨rfl, k10⟩
    walk_at "wp"
    refine wo_lst (by simp [LIM]) fun A s11 hA hAn k11 => ?_
    walk_at "wp"
    refine wo_lst (by simp [LIM]) fun B s12 hB hBn k12' => ?_
    walk_at "wp"
    have hn := nxt_ok W.hg hl hj
    refine (same_lst (n := 2) (k := 5) (fun d hd => ?_) (by simp) (by omega) (k12'.get0 hA) hB).mono ?_
    · simp only [List.mem_cons, List.not_mem_nil, or_false] at hd
      rcases hd with rfl | rfl
      · exact std_pl (by rw [hn.ln]; omega) (by rw [hn.lb]; omega)
      · exact pl_say 2
    rintro _ s13 ⟨rfl, k13⟩
    have kk := k8.trans (k9.trans (k10.trans (k11.trans (k12'.trans k13))))
    walk_at "wp"
    exact C_ok W (S7.keep kk) hl (kk.get0 hr7) (kk.get0 (k17.get0 hw)) hord hol fun t a b c d e u v P => k _ _ _ _ _ _ _ _ _ _ P
theorem nats_below {n : Nat} {ys : List D} (h : ∀ y ∈ ys, ∃ i, i < n ∧ y = natD i) : ∃ ord : List Nat, ys = ord.map natD ∧ ∀ i ∈ ord, i < n := by
  induction ys with
  | nil => exact ⟨[], rfl, by simp⟩
  | cons y ys ih =>
    obtain ⟨ord, rfl, ho⟩ := ih fun z hz => h z (List.mem_cons_of_mem _ hz)
    obtain ⟨i, hi, rfl⟩ := h y (by simp)
    exact ⟨i :: ord, rfl, fun j hj => by
      rcases List.mem_cons.mp hj with rfl | hj
      · exact hi
      · exact ho j hj⟩
theorem T2_ok (hg : g.Ok C) (S : Sx s p q ns g l o) (hm : many ≤ 6) (hm1 : 1 ≤ many + g.leader.toList.length) (hm7 : many + g.leader.toList.length ≤ 7) {x6 x7 x9 x11 : Option D}
    (k : ∀ t x6 x7 x8 x9 x10 x11 x12 x13 x14 x15 x16 x17 x18 x19 x20, Pot t p q ns → K.nx [x0, some (.ref p), x2, some (.ref l), some (.ref o), some (.int many), x6, x7, x8, x9, x10, x11, x12, x13, x14, x15, x16, x17, x18, x19, x20, none] t) :
    Owp K (sT2 [x0, some (.ref p), x2, some (.ref l), some (.ref o), some (.int many), x6, x7, x8, x9, x10, x11, x12, x13, x14, x15, x16, x17, x18, x19, x20, none] s) := by
  unfold sT2
  walk_at "wp"
  refine (law_colours_ok hg S.L).mono ?_
  rintro _ s1 ⟨cl, cs, rfl, hcl, _, hc1, hc4, hcs, hcln, k1⟩
  have S1 := S.keep k1
  walk_at "wp"
  refine (law_pick S1.P hcl (by simpa using hc1) (by simp; omega) (S.P.live hcln)).mono ?_
  rintro cd s2 ⟨hcd, P2, k2⟩
  have S2 := S1.pot k2 P2
  obtain ⟨col, hcm, rfl⟩ := List.mem_map.mp hcd
  obtain ⟨hcC, hlamp⟩ := hcs col hcm
  unfold natD
  walk_at "wp"
  refine (law_begun_ok S2.L (by omega) hm1).mono ?_
  rintro _ s3 ⟨rfl, rfl⟩
  have W : T0 g C (many + g.leader.toList.length) many col (beg g many col) := ⟨hg, ⟨hm, low_of hm1, hcC, hlamp⟩, rfl, rfl, beg_ok hg hcC, hm1, hm7⟩
  have hfl := W.hf.ln
  walk_at "wp"
  refine wp_lcI ?_
  walk_at "wp"
  refine (law_draw S2.P (by omega) (by omega)).mono ?_
  rintro _ s4 ⟨c, rfl, hc, P4, k4⟩
  have S4 := S2.pot k4 P4
  have hp4 : p < s4.length := by obtain ⟨_, _, _, hp, _⟩ := P4.ex; exact (List.getElem?_eq_some_iff.mp hp).1
  have hq4 : q < s4.length := (List.getElem?_eq_some_iff.mp P4.at_q).1
  walk_at "wp"
  refine ⟨fun t => Pot t p q ns ∧ Chg [p] s4 t, fun y => ∃ i, i < many + g.leader.toList.length ∧ y = natD i, ?_, fun _ _ => okB_none, ⟨P4.keep Chg.app, Chg.app⟩, ?_, ?_, ?_⟩
  · show (rngI 0 _).length ≤ LIM
    rw [rng_len]
    simp only [LIM]
    omega
  · rintro t acc y ⟨Pt, kt⟩ ht
    refine ⟨Pt.put (by omega) (by omega), fun i c hi e => ?_⟩
    have hil := (List.getElem?_eq_some_iff.mp e).1
    rw [List.getElem?_set_ne (by omega)]
    exact kt i c hi e
  · rintro d hd t acc ⟨Pt, kt⟩ ht
    obtain ⟨i, hi⟩ := List.getElem?_of_mem hd
    obtain ⟨hi, rfl⟩ := rng_get hi
    refine ⟨_, rfl, ?_⟩
    dsimp only [wipeD, List.set]
    walk_at "wp"
    refine w_ixT (d := .tup ((beg g many col).sts.map natD)) (by rfl) ?_
    walk_at "wp"
    rw [List.length_map, hfl]
    refine (law_draw Pt (by omega) (by omega)).mono ?_
    rintro _ u ⟨j, rfl, hj, Pu, ku⟩
    exact ⟨⟨j, by omega, rfl⟩, ⟨Pu, kt.trans ku⟩, (by
      have hne : s4.length ∉ [p] := by simp; omega
      rw [ht]
      exact ku.get hne ht)⟩
  · rintro t ys hyl hys ⟨Pt, kt⟩ ht
    have S5 := S4.pot kt Pt
    obtain ⟨ord, rfl, hord⟩ := nats_below hys
    have hol : ord.length ≤ 30 := by
      have e : (rngI 0 (c : Int).toNat).length = c := by rw [rng_len]; omega
      have hyl : (ord.map natD).length = (rngI 0 (c : Int).toNat).length := hyl
      rw [List.length_map] at hyl
      omega
    generalize s4.length = r at ht ⊢
    walk_at "wp"
    refine (law_told_ok hg S5.L W.hf (by omega) hord (by omega) ht).mono ?_
    rintro _ u ⟨⟨a, b, rfl, ha, hb, han, hbn⟩, ku⟩
    have S6 := S5.keep ku
    refine ⟨_, rfl, ?_⟩
    dsimp only [List.set]
    refine r_seq_nx ?_
    exact B_ok W S6 (ku.get0 ht) ha hb hord hol fun t a b c d e f g h i P => k _ _ _ _ _ _ _ _ _ _ _ _ _ _ _ _ P
theorem turn_ok (P : Pot s p q ns) {x4 x5 x6 x7 x9 x10 x11 : Option D}
    (k : ∀ t x3 x4 x5 x6 x7 x8 x9 x10 x11 x12 x13 x14 x15 x16 x17 x18 x19 x20, Pot t p q ns → K.nx [x0, some (.ref p), x2, x3, x4, x5, x6, x7, x8, x9, x10, x11, x12, x13, x14, x15, x16, x17, x18, x19, x20, none] t) :
    Owp K (sTurn [x0, some (.ref p), x2, x3, x4, x5, x6, x7, x8, x9, x10, x11, x12, x13, x14, x15, x16, x17, x18, x19, x20, none] s) := by
  unfold sTurn
  walk_at "wp"
  refine wo_lst (by simp [LIM]) fun m s1 hm hmn k1 => ?_
  walk_at "wp"
  refine (law_spec (P.keep k1) hm (P.live hmn)).mono ?_
  rintro _ s3 ⟨g, C, l, hg, rfl, hL, hLn, P3, k3⟩
  obtain ⟨g1, g2, g3, g4⟩ := prg_pl hg
  have hll := lead_len g
  walk_at "wp"
  refine (law_made_gen hL (prg_fault hg) (pl_kn g1 3) (pl_kz g2) (pl_kz g3) (pl_kz g4)).mono ?_
  rintro _ s4 ⟨o, rfl, ho, k4⟩
  have S4 : Sx s4 p q ns g l o := ⟨P3.keep k4, k4.get0 hL, ho⟩
  have hL4 := S4.L
  unfold SpecAt at hL4
  cases e : g.leader with
  | none =>
    rw [e] at hL4 hll
    simp only [optD] at hL4
    walk_at "wp"
    refine (law_many_ok (m := 5) S4.P S4.L (by rw [e]; simp) (by omega)).mono ?_
    rintro _ s5 ⟨many, rfl, hk, hk1, P5, k5⟩
    have S5 := S4.pot k5 P5
    walk_at "wp"
    refine w_tup (by simp [LIM]) ?_
    refine ⟨_, rfl, ?_⟩
    dsimp only [List.set]
    refine r_seq_nx ?_
    exact T2_ok hg S5 (by omega) hk1 (by rw [e]; simp; omega) fun t a b c d e f g h i j k' l m n o P => k _ _ _ _ _ _ _ _ _ _ _ _ _ _ _ _ _ _ _ P
  | some z =>
    rw [e] at hL4 hll
    simp only [optD] at hL4
    walk_at "wp"
    refine (law_many_ok (m := 6) S4.P S4.L (by rw [e]; simp) (by omega)).mono ?_
    rintro _ s5 ⟨many, rfl, hk, hk1, P5, k5⟩
    have S5 := S4.pot k5 P5
    walk_at "wp"
    refine w_tup (by simp [LIM]) ?_
    refine ⟨_, rfl, ?_⟩
    dsimp only [List.set]
    refine r_seq_nx ?_
    exact T2_ok hg S5 (by omega) hk1 (by rw [e]; simp; omega) fun t a b c d e f g h i j k' l m n o P => k _ _ _ _ _ _ _ _ _ _ _ _ _ _ _ _ _ _ _ P
end

def absS : D → Option D
  | .int i => some (.int (if i < 0 then -i else i))
  | _ => none
theorem abs_map (ns : List Int) : (ns.map D.int).filterMap absS = (ns.map fun i => if i < 0 then -i else i).map D.int := by
  induction ns with
  | nil => rfl
  | cons x l ih =>
    rw [List.map_cons, List.filterMap_cons]
    show D.int (if x < 0 then -x else x) :: List.filterMap absS (l.map D.int) = _
    rw [ih]
    rfl
theorem cut63 {ns : List Int} (h : ns.length ≤ 63) : LF.cutD (ns.map D.int) none (some 63) = ns.map D.int := by
  unfold LF.cutD
  rw [show (some (63 : Int)) = some ((63 : Nat) : Int) from rfl, HT.sIx_nat, HT.sIx_none, List.length_map, Nat.min_eq_right h]
  simp
  rw [← List.length_map (f := D.int), List.take_length]
theorem pot_abs {ns : List Int} (h : ns.length ≤ 63) {s s3 : Sto} {p q : Nat} (hp : s3[p]? = some (.lst [.ref q, .int 0, .int 20011, .int 0])) (hq : s[q]? = some (.lst ((ns.map D.int).filterMap absS))) (hpn : s[p]? = none) (k : Chg [] s s3) :
    Pot s3 p q (ns.map fun i => if i < 0 then -i else i) := by
  rw [abs_map] at hq
  refine ⟨⟨0, 20011, 0, hp, by decide, by decide, by decide, by decide⟩, k.get0 hq, (fun e => by rw [e, hpn] at hq; cases hq), by simpa using h, ?_⟩
  intro n hn
  obtain ⟨x, hx, rfl⟩ := List.mem_map.mp hn
  split <;> omega
theorem law_pot_ok {ns : List Int} (h : ns.length ≤ 63) {st : Sto} {X : XP} : Wp X (fun d s => ∃ p q ms, d = .ref p ∧ Pot s p q ms ∧ Chg [] st s) (f__law_pot [.scr ns] st) := by
  walk_at "fn"
  unfold b__law_pot
  walk_at "wp"
  refine wp_lc ?_
  walk_at "wp"
  refine wo_new fun L s1 hL hLn k1 => ?_
  have hL' : s1[L]? = some (.lst (ns.map D.int)) := by
    rw [hL, show (List.map (fun n => D.int n) ns) = ns.map D.int from rfl, cut63 h]
  walk_at "wp"
  refine ⟨absS, fun s hs => okB_some (hs.get0 hL'), by simp [LIM]; omega, ?_, ?_⟩
  · intro d hd s0 hs0
    obtain ⟨x, hx, rfl⟩ := List.mem_map.mp (show d ∈ ns.map D.int from hd)
    refine ⟨_, rfl, ?_⟩
    dsimp only [wipeD, List.set]
    walk_at "wp"
    exact ⟨rfl, Chg.refl⟩
  intro q s2 hq hqn k2
  walk_at "wp"
  refine wo_lst (by simp [LIM]) fun p s3 hp hpn k3 => ?_
  walk_at "wp"
  exact ⟨p, q, _, rfl, pot_abs h hp hq hpn k3, (k1.trans k2).trans k3⟩
theorem law_pot_ref {ns : List Int} (h : ns.length ≤ 63) {st : Sto} {r : Nat} (hr : st[r]? = some (.lst (ns.map D.int))) {X : XP} : Wp X (fun d s => ∃ p q ms, d = .ref p ∧ Pot s p q ms ∧ Chg [] st s) (f__law_pot [.ref r] st) := by
  walk_at "fn"
  unfold b__law_pot
  walk_at "wp"
  refine wp_lc ?_
  walk_at "wp"
  refine w_slL hr fun L s1 hL hLn k1 => ?_
  have hL' : s1[L]? = some (.lst (ns.map D.int)) := by
    rw [hL, cut63 h]
  walk_at "wp"
  refine ⟨absS, fun s hs => okB_some (hs.get0 hL'), by simp [LIM]; omega, ?_, ?_⟩
  · intro d hd s0 hs0
    obtain ⟨x, hx, rfl⟩ := List.mem_map.mp (show d ∈ ns.map D.int from hd)
    refine ⟨_, rfl, ?_⟩
    dsimp only [wipeD, List.set]
    walk_at "wp"
    exact ⟨rfl, Chg.refl⟩
  intro q s2 hq hqn k2
  walk_at "wp"
  refine wo_lst (by simp [LIM]) fun p s3 hp hpn k3 => ?_
  walk_at "wp"
  exact ⟨p, q, _, rfl, pot_abs h hp hq hpn k3, (k1.trans k2).trans k3⟩
theorem law_main {d : D} {st : Sto} (hpot : Wp (fun _ _ _ => False) (fun x s => ∃ p q ms, x = .ref p ∧ Pot s p q ms ∧ Chg [] st s) (f__law_pot [d] st)) : Wp (fun _ _ _ => False) (fun x _ => x = .bl true) (f_law [d] st) := by
  walk_at "fn"
  rw [b_law_eq]
  walk_at "wp"
  refine hpot.mono ?_
  rintro _ s1 ⟨p, q, ns, rfl, P1, k1⟩
  walk_at "wp"
  refine owp_forS (fun i e t => ∃ (x2 x3 x4 x5 x6 x7 x8 x9 x10 x11 x12 x13 x14 x15 x16 x17 x18 x19 x20 : Option D), e = [some d, some (.ref p), x2, x3, x4, x5, x6, x7, x8, x9, x10, x11, x12, x13, x14, x15, x16, x17, x18, x19, x20, none] ∧ Pot t p q ns) ?_ ?_
    ⟨none, none, none, none, none, none, none, none, none, none, none, none, none, none, none, none, none, none, none, rfl, P1⟩
  · rintro i x e t hx ⟨x2, x3, x4, x5, x6, x7, x8, x9, x10, x11, x12, x13, x14, x15, x16, x17, x18, x19, x20, rfl, Pt⟩
    obtain ⟨hi, rfl⟩ := rng_get hx
    refine ⟨okB_none, _, rfl, ?_⟩
    dsimp only [List.set]
    exact turn_ok Pt fun t2 a b c d e f g h i j k l m n o p q r Pt2 => ⟨_, _, _, _, _, _, _, _, _, _, _, _, _, _, _, _, _, _, _, rfl, Pt2⟩
  · rintro e t ⟨x2, x3, x4, x5, x6, x7, x8, x9, x10, x11, x12, x13, x14, x15, x16, x17, x18, x19, x20, rfl, Pt⟩
    refine ⟨okB_none, ?_⟩
    walk_at "wp"
    rfl
theorem law_true : ∀ ns : List Int, ns.length ≤ 63 → ∀ d st, ((d = .scr ns ∧ st = []) ∨ (d = .ref 0 ∧ st = [.lst (ns.map D.int)])) → ∃ s, f_law [d] st = .ok (.bl true) s := by
  rintro ns h d st (⟨rfl, rfl⟩ | ⟨rfl, rfl⟩)
  · obtain ⟨x, s, e, rfl⟩ := (law_main (law_pot_ok h)).to
    exact ⟨s, e⟩
  · obtain ⟨x, s, e, rfl⟩ := (law_main (law_pot_ref (r := 0) (st := [.lst (ns.map D.int)]) h rfl)).to
    exact ⟨s, e⟩
end K04
open LF
open PySem PySem.W PyProof.Rows in
set_option maxRecDepth 100000 in
set_option maxHeartbeats 0 in
theorem PySem.Challenge.cw_lampfolk_k04_whole_visits_and_sayings_holds : PySem.Challenge.rw_lampfolk_k04_whole_visits_and_sayings.Holds := by
  w_on; o_law; k_head; (case hw => w_witness2)
  k_fill
  refine LamX.walk_ofTs (l := PySem.Challenge.rw_lampfolk_k04_whole_visits_and_sayings) (n := 63) (k := 12) (x := "script") (CX := fun w => L2.CX PySem.Challenge.rw_lampfolk_k04_whole_visits_and_sayings.prog w) rfl (by decide) rfl ⟨rfl, by decide, by decide⟩ (fun w h Y => PySem.W.km_in_of Y) ?F ?E
  case E =>
    intro w H s e s' z
    obtain ⟨_, _, _, _, _, _, _, _, _, _, _, _, z⟩ := z
    exact z.elim
  case F =>
    intro w mg fa h Y KX G hmg
    have hT8 := PySem.W.km_tabs_of Y
    obtain ⟨T, e1, e2, e3, e4, ch, np⟩ : ∃ T : K04.Tx ⟨_, _, _, _⟩ mg w PySem.Challenge.rw_lampfolk_k04_whole_visits_and_sayings.prog, T.a_law = fa ∧ (∀ (s : Shared) (u : Value), BindsTo s T.d_law ⟨[u], []⟩ [("script", u)]) ∧ T.c_law = _ ∧ T.p_law = _ ∧ PySem.W.codeHdIn _ _ _ = true ∧ _ = none := by
      refine' K04.all_mk (P := PySem.Challenge.rw_lampfolk_k04_whole_visits_and_sayings.prog) KX G hmg ?n_LampError ?x_LampError ?fi_LampError ?sup_top ?sup_mg ?sup_opq ?n_BadProgram ?x_BadProgram ?sa_BadProgram ?eb_BadProgram ?ty_BadProgram ?kc_BadProgram ?ni_BadProgram ?ti_BadProgram ?li_BadProgram ?ci_BadProgram ?cl_BadProgram ?co_BadProgram ?fi_BadProgram ?sc_BadProgram ?sv_BadProgram ?xn_BadProgram_what ?n_BadNumber ?x_BadNumber ?sa_BadNumber ?eb_BadNumber ?ty_BadNumber ?kc_BadNumber ?ni_BadNumber ?ti_BadNumber ?li_BadNumber ?ci_BadNumber ?cl_BadNumber ?co_BadNumber ?fi_BadNumber ?sc_BadNumber ?sv_BadNumber ?xn_BadNumber_value ?n_NoColour ?x_NoColour ?sa_NoColour ?eb_NoColour ?ty_NoColour ?kc_NoColour ?ni_NoColour ?ti_NoColour ?li_NoColour ?ci_NoColour ?cl_NoColour ?co_NoColour ?fi_NoColour ?sc_NoColour ?sv_NoColour ?n_NoStanding ?x_NoStanding ?sa_NoStanding ?eb_NoStanding ?ty_NoStanding ?kc_NoStanding ?ni_NoStanding ?ti_NoStanding ?li_NoStanding ?ci_NoStanding ?cl_NoStanding ?co_NoStanding ?fi_NoStanding ?sc_NoStanding ?sv_NoStanding ?n_NoVisit ?x_NoVisit ?sa_NoVisit ?eb_NoVisit ?ty_NoVisit ?kc_NoVisit ?ni_NoVisit ?ti_NoVisit ?li_NoVisit ?ci_NoVisit ?cl_NoVisit ?co_NoVisit ?fi_NoVisit ?sc_NoVisit ?sv_NoVisit ?n_NoOrder ?x_NoOrder ?sa_NoOrder ?eb_NoOrder ?ty_NoOrder ?kc_NoOrder ?ni_NoOrder ?ti_NoOrder ?li_NoOrder ?ci_NoOrder ?cl_NoOrder ?co_NoOrder ?fi_NoOrder ?sc_NoOrder ?sv_NoOrder ?xn_NoOrder_at ?isc_BadNumber ?sub_BadProgram_BadNumber ?sub_BadNumber_BadNumber ?sub_NoColour_BadNumber ?sub_NoStanding_BadNumber ?sub_NoVisit_BadNumber ?sub_NoOrder_BadNumber ?isc_NoColour ?sub_BadProgram_NoColour ?sub_BadNumber_NoColour ?sub_NoColour_NoColour ?sub_NoStanding_NoColour ?sub_NoVisit_NoColour ?sub_NoOrder_NoColour ?isc_NoOrder ?sub_BadProgram_NoOrder ?sub_BadNumber_NoOrder ?sub_NoColour_NoOrder ?sub_NoStanding_NoOrder ?sub_NoVisit_NoOrder ?sub_NoOrder_NoOrder ?isc_NoStanding ?sub_BadProgram_NoStanding ?sub_BadNumber_NoStanding ?sub_NoColour_NoStanding ?sub_NoStanding_NoStanding ?sub_NoVisit_NoStanding ?sub_NoOrder_NoStanding ?isc_NoVisit ?sub_BadProgram_NoVisit ?sub_BadNumber_NoVisit ?sub_NoColour_NoVisit ?sub_NoStanding_NoVisit ?sub_NoVisit_NoVisit ?sub_NoOrder_NoVisit ?ga_BadNumber ?gg_BadNumber ?hd_BadNumber ?ga_NoOrder ?gg_NoOrder ?hd_NoOrder ?n_Program ?pg_Program ?hd_Program ?po_Program ?sa_Program ?mk_Program ?kc_Program ?na_first_Program ?na_lamp_Program ?na_leader_Program ?na_steps_Program ?n_is_number ?l_is_number ?c_is_number ?k_is_number ?n_is_within ?l_is_within ?c_is_within ?k_is_within ?n_is_listed ?l_is_listed ?c_is_listed ?k_is_listed ?n_is_word ?l_is_word ?c_is_word ?k_is_word ?n_replaced ?l_replaced ?c_replaced ?k_replaced ?n_is_step ?l_is_step ?c_is_step ?k_is_step ?n_are_steps ?l_are_steps ?c_are_steps ?k_are_steps ?n_all_colours ?l_all_colours ?c_all_colours ?k_all_colours ?n_first_colours ?l_first_colours ?c_first_colours ?k_first_colours ?n_check_many ?l_check_many ?c_check_many ?k_check_many ?n_is_first_colour ?l_is_first_colour ?c_is_first_colour ?k_is_first_colour ?n_check_start ?l_check_start ?c_check_start ?k_check_start ?n_begun ?l_begun ?c_begun ?k_begun ?n_beginning ?l_beginning ?c_beginning ?k_beginning ?n_is_standing ?l_is_standing ?c_is_standing ?k_is_standing ?n_check_visit ?l_check_visit ?c_check_visit ?k_check_visit ?n_step_of ?l_step_of ?c_step_of ?k_step_of ?n_behind ?l_behind ?c_behind ?k_behind ?n_visited ?l_visited ?c_visited ?k_visited ?n_saying ?l_saying ?c_saying ?k_saying ?n_is_lie ?l_is_lie ?c_is_lie ?k_is_lie ?n_check_order ?l_check_order ?c_check_order ?k_check_order ?n_told_along ?l_told_along ?c_told_along ?k_told_along ?n_started ?l_started ?c_started ?k_started ?n_said ?l_said ?c_said ?k_said ?n_lies ?l_lies ?c_lies ?k_lies ?n__law_pot ?l__law_pot ?c__law_pot ?k__law_pot ?n__law_draw ?l__law_draw ?c__law_draw ?k__law_draw ?n__law_pick ?l__law_pick ?c__law_pick ?k__law_pick ?n__law_same ?l__law_same ?c__law_same ?k__law_same ?n__law_odd ?l__law_odd ?c__law_odd ?k__law_odd ?n__law_bent ?l__law_bent ?c__law_bent ?k__law_bent ?n__law_within ?l__law_within ?c__law_within ?k__law_within ?n__law_saying ?l__law_saying ?c__law_saying ?k__law_saying ?n__law_spec ?l__law_spec ?c__law_spec ?k__law_spec ?n_Program_init ?i_Program_init ?l_Program_init ?c_Program_init ?k_Program_init ?n__law_made ?l__law_made ?c__law_made ?k__law_made ?n__law_colours ?l__law_colours ?c__law_colours ?k__law_colours ?n__law_begun ?l__law_begun ?c__law_begun ?k__law_begun ?n__law_step ?l__law_step ?c__law_step ?k__law_step ?n__law_is_lie ?l__law_is_lie ?c__law_is_lie ?k__law_is_lie ?n__law_told ?l__law_told ?c__law_told ?k__law_told ?n__law_many ?l__law_many ?c__law_many ?k__law_many ?n__law_is_standing ?l__law_is_standing ?c__law_is_standing ?k__law_is_standing ?n__law_found ?l__law_found ?c__law_found ?k__law_found ?n_law ?l_law ?c_law ?co_law ?ch_law ?np_law ?k_law ?z_abs ?z_all ?z_bool ?z_enumerate ?z_int ?z_isinstance ?z_len ?z_list ?z_range ?z_repr ?z_str ?z_tuple ?kc_MOST_SAID ?kc_ALL ?kc_MOST_STATES ?kc_MOST_COLOURS ?kc_MOST_FOLK ?kc_MOST_VISITS
      (case n_LampError => k_is)
      (case x_LampError => k_is)
      (case fi_LampError => k_is)
      (case sup_top => rfl)
      (case sup_mg => k_is)
      (case sup_opq => k_is)
      (case n_BadProgram => k_is)
      (case x_BadProgram => k_is)
      (case sa_BadProgram => k_is)
      (case eb_BadProgram => k_is)
      (case ty_BadProgram => k_is)
      (case kc_BadProgram => k_is)
      (case ni_BadProgram => k_is)
      (case ti_BadProgram => k_is)
      (case li_BadProgram => k_is)
      (case ci_BadProgram => k_is)
      (case cl_BadProgram => k_is)
      (case co_BadProgram => k_is)
      (case fi_BadProgram => rfl)
      (case sc_BadProgram => k_is)
      (case sv_BadProgram => k_is)
      (case xn_BadProgram_what => k_is)
      (case n_BadNumber => k_is)
      (case x_BadNumber => k_is)
      (case sa_BadNumber => k_is)
      (case eb_BadNumber => k_is)
      (case ty_BadNumber => k_is)
      (case kc_BadNumber => k_is)
      (case ni_BadNumber => k_is)
      (case ti_BadNumber => k_is)
      (case li_BadNumber => k_is)
      (case ci_BadNumber => k_is)
      (case cl_BadNumber => k_is)
      (case co_BadNumber => k_is)
      (case fi_BadNumber => rfl)
      (case sc_BadNumber => k_is)
      (case sv_BadNumber => k_is)
      (case xn_BadNumber_value => k_is)
      (case n_NoColour => k_is)
      (case x_NoColour => k_is)
      (case sa_NoColour => k_is)
      (case eb_NoColour => k_is)
      (case ty_NoColour => k_is)
      (case kc_NoColour => k_is)
      (case ni_NoColour => k_is)
      (case ti_NoColour => k_is)
      (case li_NoColour => k_is)
      (case ci_NoColour => k_is)
      (case cl_NoColour => k_is)
      (case co_NoColour => k_is)
      (case fi_NoColour => rfl)
      (case sc_NoColour => k_is)
      (case sv_NoColour => k_is)
      (case n_NoStanding => k_is)
      (case x_NoStanding => k_is)
      (case sa_NoStanding => k_is)
      (case eb_NoStanding => k_is)
      (case ty_NoStanding => k_is)
      (case kc_NoStanding => k_is)
      (case ni_NoStanding => k_is)
      (case ti_NoStanding => k_is)
      (case li_NoStanding => k_is)
      (case ci_NoStanding => k_is)
      (case cl_NoStanding => k_is)
      (case co_NoStanding => k_is)
      (case fi_NoStanding => rfl)
      (case sc_NoStanding => k_is)
      (case sv_NoStanding => k_is)
      (case n_NoVisit => k_is)
      (case x_NoVisit => k_is)
      (case sa_NoVisit => k_is)
      (case eb_NoVisit => k_is)
      (case ty_NoVisit => k_is)
      (case kc_NoVisit => k_is)
      (case ni_NoVisit => k_is)
      (case ti_NoVisit => k_is)
      (case li_NoVisit => k_is)
      (case ci_NoVisit => k_is)
      (case cl_NoVisit => k_is)
      (case co_NoVisit => k_is)
      (case fi_NoVisit => rfl)
      (case sc_NoVisit => k_is)
      (case sv_NoVisit => k_is)
      (case n_NoOrder => k_is)
      (case x_NoOrder => k_is)
      (case sa_NoOrder => k_is)
      (case eb_NoOrder => k_is)
      (case ty_NoOrder => k_is)
      (case kc_NoOrder => k_is)
      (case ni_NoOrder => k_is)
      (case ti_NoOrder => k_is)
      (case li_NoOrder => k_is)
      (case ci_NoOrder => k_is)
      (case cl_NoOrder => k_is)
      (case co_NoOrder => k_is)
      (case fi_NoOrder => rfl)
      (case sc_NoOrder => k_is)
      (case sv_NoOrder => k_is)
      (case xn_NoOrder_at => k_is)
      (case isc_BadNumber => k_is)
      (case sub_BadProgram_BadNumber => k_is)
      (case sub_BadNumber_BadNumber => k_is)
      (case sub_NoColour_BadNumber => k_is)
      (case sub_NoStanding_BadNumber => k_is)
      (case sub_NoVisit_BadNumber => k_is)
      (case sub_NoOrder_BadNumber => k_is)
      (case isc_NoColour => k_is)
      (case sub_BadProgram_NoColour => k_is)
      (case sub_BadNumber_NoColour => k_is)
      (case sub_NoColour_NoColour => k_is)
      (case sub_NoStanding_NoColour => k_is)
      (case sub_NoVisit_NoColour => k_is)
      (case sub_NoOrder_NoColour => k_is)
      (case isc_NoOrder => k_is)
      (case sub_BadProgram_NoOrder => k_is)
      (case sub_BadNumber_NoOrder => k_is)
      (case sub_NoColour_NoOrder => k_is)
      (case sub_NoStanding_NoOrder => k_is)
      (case sub_NoVisit_NoOrder => k_is)
      (case sub_NoOrder_NoOrder => k_is)
      (case isc_NoStanding => k_is)
      (case sub_BadProgram_NoStanding => k_is)
      (case sub_BadNumber_NoStanding => k_is)
      (case sub_NoColour_NoStanding => k_is)
      (case sub_NoStanding_NoStanding => k_is)
      (case sub_NoVisit_NoStanding => k_is)
      (case sub_NoOrder_NoStanding => k_is)
      (case isc_NoVisit => k_is)
      (case sub_BadProgram_NoVisit => k_is)
      (case sub_BadNumber_NoVisit => k_is)
      (case sub_NoColour_NoVisit => k_is)
      (case sub_NoStanding_NoVisit => k_is)
      (case sub_NoVisit_NoVisit => k_is)
      (case sub_NoOrder_NoVisit => k_is)
      (case ga_BadNumber => k_is)
      (case gg_BadNumber => k_is)
      (case hd_BadNumber => k_is)
      (case ga_NoOrder => k_is)
      (case gg_NoOrder => k_is)
      (case hd_NoOrder => k_is)
      (case n_Program => k_is)
      (case pg_Program => k_is)
      (case hd_Program => k_is)
      (case po_Program => k_is)
      (case sa_Program => k_is)
      (case mk_Program => k_is)
      (case kc_Program => k_is)
      (case na_first_Program => unfold L2.NoAttr; k_is)
      (case na_lamp_Program => unfold L2.NoAttr; k_is)
      (case na_leader_Program => unfold L2.NoAttr; k_is)
      (case na_steps_Program => unfold L2.NoAttr; k_is)
      (case n_is_number => k_is)
      (case l_is_number => k_is)
      (case c_is_number => k_is)
      (case k_is_number => k_is)
      (case n_is_within => k_is)
      (case l_is_within => k_is)
      (case c_is_within => k_is)
      (case k_is_within => k_is)
      (case n_is_listed => k_is)
      (case l_is_listed => k_is)
      (case c_is_listed => k_is)
      (case k_is_listed => k_is)
      (case n_is_word => k_is)
      (case l_is_word => k_is)
      (case c_is_word => k_is)
      (case k_is_word => k_is)
      (case n_replaced => k_is)
      (case l_replaced => k_is)
      (case c_replaced => k_is)
      (case k_replaced => k_is)
      (case n_is_step => k_is)
      (case l_is_step => k_is)
      (case c_is_step => k_is)
      (case k_is_step => k_is)
      (case n_are_steps => k_is)
      (case l_are_steps => k_is)
      (case c_are_steps => k_is)
      (case k_are_steps => k_is)
      (case n_all_colours => k_is)
      (case l_all_colours => k_is)
      (case c_all_colours => k_is)
      (case k_all_colours => k_is)
      (case n_first_colours => k_is)
      (case l_first_colours => k_is)
      (case c_first_colours => k_is)
      (case k_first_colours => k_is)
      (case n_check_many => k_is)
      (case l_check_many => k_is)
      (case c_check_many => k_is)
      (case k_check_many => k_is)
      (case n_is_first_colour => k_is)
      (case l_is_first_colour => k_is)
      (case c_is_first_colour => k_is)
      (case k_is_first_colour => k_is)
      (case n_check_start => k_is)
      (case l_check_start => k_is)
      (case c_check_start => k_is)
      (case k_check_start => k_is)
      (case n_begun => k_is)
      (case l_begun => k_is)
      (case c_begun => k_is)
      (case k_begun => k_is)
      (case n_beginning => k_is)
      (case l_beginning => k_is)
      (case c_beginning => k_is)
      (case k_beginning => k_is)
      (case n_is_standing => k_is)
      (case l_is_standing => k_is)
      (case c_is_standing => k_is)
      (case k_is_standing => k_is)
      (case n_check_visit => k_is)
      (case l_check_visit => k_is)
      (case c_check_visit => k_is)
      (case k_check_visit => k_is)
      (case n_step_of => k_is)
      (case l_step_of => k_is)
      (case c_step_of => k_is)
      (case k_step_of => k_is)
      (case n_behind => k_is)
      (case l_behind => k_is)
      (case c_behind => k_is)
      (case k_behind => k_is)
      (case n_visited => k_is)
      (case l_visited => k_is)
      (case c_visited => k_is)
      (case k_visited => k_is)
      (case n_saying => k_is)
      (case l_saying => k_is)
      (case c_saying => k_is)
      (case k_saying => k_is)
      (case n_is_lie => k_is)
      (case l_is_lie => k_is)
      (case c_is_lie => k_is)
      (case k_is_lie => k_is)
      (case n_check_order => k_is)
      (case l_check_order => k_is)
      (case c_check_order => k_is)
      (case k_check_order => k_is)
      (case n_told_along => k_is)
      (case l_told_along => k_is)
      (case c_told_along => k_is)
      (case k_told_along => k_is)
      (case n_started => k_is)
      (case l_started => k_is)
      (case c_started => k_is)
      (case k_started => k_is)
      (case n_said => k_is)
      (case l_said => k_is)
      (case c_said => k_is)
      (case k_said => k_is)
      (case n_lies => k_is)
      (case l_lies => k_is)
      (case c_lies => k_is)
      (case k_lies => k_is)
      (case n__law_pot => k_is)
      (case l__law_pot => k_is)
      (case c__law_pot => k_is)
      (case k__law_pot => k_is)
      (case n__law_draw => k_is)
      (case l__law_draw => k_is)
      (case c__law_draw => k_is)
      (case k__law_draw => k_is)
      (case n__law_pick => k_is)
      (case l__law_pick => k_is)
      (case c__law_pick => k_is)
      (case k__law_pick => k_is)
      (case n__law_same => k_is)
      (case l__law_same => k_is)
      (case c__law_same => k_is)
      (case k__law_same => k_is)
      (case n__law_odd => k_is)
      (case l__law_odd => k_is)
      (case c__law_odd => k_is)
      (case k__law_odd => k_is)
      (case n__law_bent => k_is)
      (case l__law_bent => k_is)
      (case c__law_bent => k_is)
      (case k__law_bent => k_is)
      (case n__law_within => k_is)
      (case l__law_within => k_is)
      (case c__law_within => k_is)
      (case k__law_within => k_is)
      (case n__law_saying => k_is)
      (case l__law_saying => k_is)
      (case c__law_saying => k_is)
      (case k__law_saying => k_is)
      (case n__law_spec => k_is)
      (case l__law_spec => k_is)
      (case c__law_spec => k_is)
      (case k__law_spec => k_is)
      (case n_Program_init => k_is)
      (case i_Program_init => k_is)
      (case l_Program_init => k_is)
      (case c_Program_init => k_is)
      (case k_Program_init => k_is)
      (case n__law_made => k_is)
      (case l__law_made => k_is)
      (case c__law_made => k_is)
      (case k__law_made => k_is)
      (case n__law_colours => k_is)
      (case l__law_colours => k_is)
      (case c__law_colours => k_is)
      (case k__law_colours => k_is)
      (case n__law_begun => k_is)
      (case l__law_begun => k_is)
      (case c__law_begun => k_is)
      (case k__law_begun => k_is)
      (case n__law_step => k_is)
      (case l__law_step => k_is)
      (case c__law_step => k_is)
      (case k__law_step => k_is)
      (case n__law_is_lie => k_is)
      (case l__law_is_lie => k_is)
      (case c__law_is_lie => k_is)
      (case k__law_is_lie => k_is)
      (case n__law_told => k_is)
      (case l__law_told => k_is)
      (case c__law_told => k_is)
      (case k__law_told => k_is)
      (case n__law_many => k_is)
      (case l__law_many => k_is)
      (case c__law_many => k_is)
      (case k__law_many => k_is)
      (case n__law_is_standing => k_is)
      (case l__law_is_standing => k_is)
      (case c__law_is_standing => k_is)
      (case k__law_is_standing => k_is)
      (case n__law_found => k_is)
      (case l__law_found => k_is)
      (case c__law_found => k_is)
      (case k__law_found => k_is)
      (case n_law => k_is)
      (case l_law => k_is)
      (case c_law => k_is)
      (case co_law => k_is)
      (case ch_law => kernel_rfl)
      (case np_law => kernel_rfl)
      (case k_law => k_is)
      (case z_abs => k_is)
      (case z_all => k_is)
      (case z_bool => k_is)
      (case z_enumerate => k_is)
      (case z_int => k_is)
      (case z_isinstance => k_is)
      (case z_len => k_is)
      (case z_list => k_is)
      (case z_range => k_is)
      (case z_repr => k_is)
      (case z_str => k_is)
      (case z_tuple => k_is)
      (case kc_MOST_SAID => k_is)
      (case kc_ALL => k_is)
      (case kc_MOST_STATES => k_is)
      (case kc_MOST_COLOURS => k_is)
      (case kc_MOST_FOLK => k_is)
      (case kc_MOST_VISITS => k_is)
    subst e1
    refine ⟨T.d_law, [(T.c_law, T.p_law)], LF.spLawT _ T.p_law, ?_, ?_, ?_, e2, fun H a ns hl _ hT hS => ⟨a, ns, rfl, hl, hT _ (List.mem_singleton.mpr rfl), hS, fun _ => rfl⟩, fun base hK hN hB => ?_⟩
    · intro p hp
      rw [List.mem_singleton.mp hp, e4]
      exact hT8 _ (by k_mem)
    · intro p hp
      rw [List.mem_singleton.mp hp, e4]
      exact np
    · intro p hp
      rw [List.mem_singleton.mp hp, e3, e4]
      exact PySem.W.codeHd_of_K KX ch
    · have e5 : (PySem.Str.ofString "law" ++ ".<locals>." ++ "<lambda>" : Str) = (PySem.Str.ofString "law" ++ ".<locals>." ++ "<lambda>" : Str) := rfl
      have hh := K04.ok_law T (hB _ (List.mem_singleton.mpr rfl))
      rw [e4]
      exact LF.end_okT hh K04.law_true
