import PyProof.Rows.All
import Wide.All
import OpenK.AllK
import Wide.FinOn
import HandS.ForMost
import HandS.ForExc
import HandS.CallSlots
import HandS.TryMany
import HandS.Flow
import HandS.RaiseMore
import HandS.IsInst
import HandS.TupAny
import HandS.StrMore
import HandS.Text
import HandS.FStr
import HandS.Deep
import HandS.ExcOwn
import HandS.WordsExc
import HandS.NoneIn
import HandS.Iter
import HandS.Comp
import HandS.Dict
import PyProof.Rows.Walk
import PySem.Challenge.RW_lampfolk_k02_whole_texts_of_programs
set_option Elab.async false
set_option linter.all false
set_option maxRecDepth 100000
set_option maxHeartbeats 4000000
/-! The layer: values as trees, a store of cells, programs as functions on both. -/
namespace LF
open PySem PySem.Spec PyProof.Rows L2

/-! ### values, cells, results -/
inductive D where
  | non | bl (b : Bool) | int (i : Int) | str (x : Str) | tup (ds : List D) | ref (i : Nat) | glo (n : Nat) | ty (n : String) | scr (ns : List Int)
inductive Cell where
  | lst (ds : List D)
  | ins (c : Nat) (fs : List (String × D))
abbrev Sto := List Cell
abbrev Sl := List (Option D)
inductive Res (α : Type) where
  | ok (a : α) (s : Sto)
  | exn (c : Nat) (fs : List (String × D)) (s : Sto)
  | bad
def Res.bind {α β : Type} : Res α → (α → Sto → Res β) → Res β
  | .ok a s, f => f a s
  | .exn c fs s, _ => .exn c fs s
  | .bad, _ => .bad
abbrev M (α : Type) := Sto → Res α
abbrev E := Sl → M D

/-- what stands at which address: the written part, the addresses of the module's own things -/
structure Gx where
  K : PySem.W.Frag
  tb : Nat → Addr

/-- a list that is only read -/
def SqS (K : PySem.W.Frag) (H : Hp) (a : Addr) (xs : List V) : Prop :=
  (∃ o, H a = some (.frz o (.lst xs))) ∨
    ∃ (o : Obj) (its : Array Value) (n : Nat), K.lookup a = some o ∧ o.cls = .type "list" ∧ o.dict = none ∧ o.data = .seq its n ∧ its.size ≤ sizeLine ∧ Vals xs its.toList
theorem SqS.l {K : PySem.W.Frag} {H : Hp} {a : Addr} {xs : List V} (h : SqS K H a xs) : SqL K H a xs := by
  rcases h with ⟨o, h⟩ | h
  · exact .inl (.inr ⟨o, h⟩)
  · exact .inr h

/-- a tuple: tracked, or an object of the written part -/
def SqU (K : PySem.W.Frag) (H : Hp) (a : Addr) (xs : List V) : Prop :=
  H a = some (.tup xs) ∨ ∃ (o : Obj) (its : Array Value) (n : Nat), K.lookup a = some o ∧ o.cls = .type "tuple" ∧ o.data = .seq its n ∧ its.size ≤ sizeLine ∧ Vals xs its.toList
theorem SqU.t {K : PySem.W.Frag} {H : Hp} {a : Addr} {xs : List V} (h : SqU K H a xs) : SqT K H a xs := by
  rcases h with h | h
  · exact .inl (.inl h)
  · exact .inr h
section
variable (G : Gx)
mutual
def RV (ms : List Addr) (H : Hp) : D → V → Prop
  | .non, v => v = .non
  | .bl b, v => v = .bl b
  | .int i, v => v = .int i
  | .str x, v => v = .str x
  | .tup ds, v => ∃ a vs, v = .ref a ∧ SqU G.K H a vs ∧ RVs ms H ds vs
  | .ref i, v => ∃ a, v = .ref a ∧ ms[i]? = some a
  | .glo n, v => v = .ref (G.tb n)
  | .ty n, v => v = .ty n
  | .scr ns, v => ∃ a, v = .ref a ∧ SqS G.K H a (ns.map V.int)
def RVs (ms : List Addr) (H : Hp) : List D → List V → Prop
  | [], vs => vs = []
  | d :: ds, vs => ∃ v r, vs = v :: r ∧ RV ms H d v ∧ RVs ms H ds r
end
/-- fields -/
def RF (ms : List Addr) (H : Hp) : List (String × D) → List (Str × V) → Prop
  | [], gs => gs = []
  | p :: fs, gs => ∃ v r, gs = (Str.ofString p.1, v) :: r ∧ RV G ms H p.2 v ∧ RF ms H fs r
/-- slots -/
def RE (ms : List Addr) (H : Hp) : Sl → L2.St → Prop
  | [], σ => σ = []
  | none :: e, σ => ∃ r, σ = none :: r ∧ RE ms H e r
  | some d :: e, σ => ∃ v r, σ = some v :: r ∧ RV G ms H d v ∧ RE ms H e r
/-- the addresses grow, what never changes stays -/
structure Gr (ms : List Addr) (H : Hp) (ms' : List Addr) (H' : Hp) : Prop where
  pre : ∃ t, ms' = ms ++ t
  tup : ∀ a xs, H a = some (.tup xs) → H' a = some (.tup xs)
  frz : ∀ a o u, H a = some (.frz o u) → H' a = some (.frz o u)
variable {G}
variable {ms ms' ms1 ms2 : List Addr} {H H' H1 H2 : Hp}
theorem Gr.refl : Gr ms H ms H := ⟨⟨[], by simp⟩, fun _ _ h => h, fun _ _ _ h => h⟩
theorem Gr.trans (a : Gr ms H ms1 H1) (b : Gr ms1 H1 ms2 H2) : Gr ms H ms2 H2 := by
  obtain ⟨t, rfl⟩ := a.pre
  obtain ⟨u, rfl⟩ := b.pre
  exact ⟨⟨t ++ u, by simp⟩, fun c xs h => b.tup c xs (a.tup c xs h), fun c o u h => b.frz c o u (a.frz c o u h)⟩
theorem Gr.sqT {K : PySem.W.Frag} {a : Addr} {xs : List V} (g : Gr ms H ms' H') (h : SqU K H a xs) : SqU K H' a xs := by
  rcases h with h | h
  · exact .inl (g.tup _ _ h)
  · exact .inr h
theorem Gr.sqS {K : PySem.W.Frag} {a : Addr} {xs : List V} (g : Gr ms H ms' H') (h : SqS K H a xs) : SqS K H' a xs := by
  rcases h with ⟨o, h⟩ | h
  · exact .inl ⟨o, g.frz _ _ _ h⟩
  · exact .inr h
theorem Gr.at (g : Gr ms H ms' H') {i : Nat} {a : Addr} (h : ms[i]? = some a) : ms'[i]? = some a := by
  obtain ⟨t, rfl⟩ := g.pre
  obtain ⟨h1, h2⟩ := List.getElem?_eq_some_iff.mp h
  rw [List.getElem?_append_left h1]
  exact h
mutual
theorem RV.gr (g : Gr ms H ms' H') : ∀ (d : D) (v : V), RV G ms H d v → RV G ms' H' d v
  | .non, _, h => h
  | .bl _, _, h => h
  | .int _, _, h => h
  | .str _, _, h => h
  | .tup ds, _, h => by
    simp only [RV] at h ⊢
    obtain ⟨a, vs, e, h1, h2⟩ := h
    exact ⟨a, vs, e, g.sqT h1, RVs.gr g ds vs h2⟩
  | .ref _, _, h => by
    simp only [RV] at h ⊢
    obtain ⟨a, e, h1⟩ := h
    exact ⟨a, e, g.at h1⟩
  | .glo _, _, h => h
  | .ty _, _, h => h
  | .scr _, _, h => by
    simp only [RV] at h ⊢
    obtain ⟨a, e, h1⟩ := h
    exact ⟨a, e, g.sqS h1⟩
theorem RVs.gr (g : Gr ms H ms' H') : ∀ (ds : List D) (vs : List V), RVs G ms H ds vs → RVs G ms' H' ds vs
  | [], _, h => h
  | d :: ds, _, h => by
    simp only [RVs] at h ⊢
    obtain ⟨v, r, e, h1, h2⟩ := h
    exact ⟨v, r, e, RV.gr g d v h1, RVs.gr g ds r h2⟩
end
theorem RF.gr (g : Gr ms H ms' H') : ∀ {fs : List (String × D)} {gs : List (Str × V)}, RF G ms H fs gs → RF G ms' H' fs gs
  | [], _, h => h
  | p :: fs, _, h => by
    obtain ⟨v, r, e, h1, h2⟩ := h
    exact ⟨v, r, e, RV.gr g _ _ h1, RF.gr g h2⟩
theorem RE.gr (g : Gr ms H ms' H') : ∀ {e : Sl} {σ : L2.St}, RE G ms H e σ → RE G ms' H' e σ
  | [], _, h => h
  | none :: e, _, h => by
    obtain ⟨r, e, h1⟩ := h
    exact ⟨r, e, RE.gr g h1⟩
  | some d :: e, _, h => by
    obtain ⟨v, r, e, h1, h2⟩ := h
    exact ⟨v, r, e, RV.gr g _ _ h1, RE.gr g h2⟩
theorem RVs.length : ∀ {ds : List D} {vs : List V}, RVs G ms H ds vs → vs.length = ds.length
  | [], _, h => by
    simp only [RVs] at h
    rw [h]
    rfl
  | d :: ds, _, h => by
    simp only [RVs] at h
    obtain ⟨v, r, e, _, h2⟩ := h
    rw [e, List.length_cons, List.length_cons, RVs.length h2]
theorem RVs.at : ∀ {ds : List D} {vs : List V} {i : Nat} {d : D}, RVs G ms H ds vs → ds[i]? = some d → ∃ v, vs[i]? = some v ∧ RV G ms H d v
  | [], _, _, _, _, e => by simp at e
  | d :: ds, _, 0, _, h, e => by
    simp only [RVs] at h
    obtain ⟨v, r, rfl, h1, _⟩ := h
    obtain rfl : d = _ := Option.some.inj e
    exact ⟨v, rfl, h1⟩
  | d :: ds, _, i + 1, _, h, e => by
    simp only [RVs] at h
    obtain ⟨v, r, rfl, _, h2⟩ := h
    obtain ⟨u, h3, h4⟩ := RVs.at (i := i) h2 (by simpa using e)
    exact ⟨u, by simpa using h3, h4⟩
theorem RVs.back : ∀ {ds : List D} {vs : List V} {i : Nat} {v : V}, RVs G ms H ds vs → vs[i]? = some v → ∃ d, ds[i]? = some d ∧ RV G ms H d v := fun {ds vs i v} h e => by
  have hl := h.length
  obtain ⟨h1, h2⟩ := List.getElem?_eq_some_iff.mp e
  obtain ⟨u, h3, h4⟩ := h.at (i := i) (d := ds[i]) (by simp [← hl, h1])
  rw [e] at h3
  cases h3
  exact ⟨_, by simp [← hl, h1], h4⟩
theorem RVs.app : ∀ {ds es : List D} {vs us : List V}, RVs G ms H ds vs → RVs G ms H es us → RVs G ms H (ds ++ es) (vs ++ us)
  | [], _, _, _, h, k => by
    simp only [RVs] at h
    rw [h]
    exact k
  | d :: ds, _, _, _, h, k => by
    simp only [RVs, List.cons_append] at h ⊢
    obtain ⟨v, r, rfl, h1, h2⟩ := h
    exact ⟨v, r ++ _, rfl, h1, RVs.app h2 k⟩
theorem RVs.one {d : D} {v : V} (h : RV G ms H d v) : RVs G ms H [d] [v] := by
  simp only [RVs]
  exact ⟨v, [], rfl, h, rfl⟩
theorem RVs.take : ∀ {ds : List D} {vs : List V} (n : Nat), RVs G ms H ds vs → RVs G ms H (ds.take n) (vs.take n)
  | _, _, 0, _ => by simp [RVs]
  | [], _, n + 1, h => by
    simp only [RVs] at h
    rw [h]
    simp [RVs]
  | d :: ds, _, n + 1, h => by
    simp only [RVs, List.take_succ_cons] at h ⊢
    obtain ⟨v, r, rfl, h1, h2⟩ := h
    exact ⟨v, r.take n, rfl, h1, RVs.take n h2⟩
theorem RVs.drop : ∀ {ds : List D} {vs : List V} (n : Nat), RVs G ms H ds vs → RVs G ms H (ds.drop n) (vs.drop n)
  | _, _, 0, h => h
  | [], _, n + 1, h => by
    simp only [RVs] at h
    rw [h]
    simp [RVs]
  | d :: ds, _, n + 1, h => by
    simp only [RVs, List.drop_succ_cons] at h ⊢
    obtain ⟨v, r, rfl, h1, h2⟩ := h
    exact RVs.drop n h2
theorem RVs.set : ∀ {ds : List D} {vs : List V} {d : D} {v : V} (n : Nat), RVs G ms H ds vs → RV G ms H d v → RVs G ms H (ds.set n d) (vs.set n v)
  | [], _, _, _, _, h, _ => by
    simp only [RVs] at h
    rw [h]
    simp [RVs]
  | d :: ds, _, _, _, 0, h, k => by
    simp only [RVs] at h
    obtain ⟨v, r, rfl, h1, h2⟩ := h
    simp only [List.set_cons_zero, RVs]
    exact ⟨_, r, rfl, k, h2⟩
  | d :: ds, _, _, _, n + 1, h, k => by
    simp only [RVs] at h
    obtain ⟨v, r, rfl, h1, h2⟩ := h
    simp only [List.set_cons_succ, RVs]
    exact ⟨v, _, rfl, h1, RVs.set n h2 k⟩
theorem RVs.rep {d : D} {v : V} (h : RV G ms H d v) : ∀ n, RVs G ms H (List.replicate n d) (List.replicate n v)
  | 0 => by simp [RVs]
  | n + 1 => by
    simp only [List.replicate_succ, RVs]
    exact ⟨v, _, rfl, h, RVs.rep h n⟩
theorem RVs.ints : ∀ ns : List Int, RVs G ms H (ns.map D.int) (ns.map V.int)
  | [] => by simp [RVs]
  | n :: ns => by
    simp only [List.map_cons, RVs]
    exact ⟨_, _, rfl, by simp only [RV], RVs.ints ns⟩
theorem RE.len : ∀ {e : Sl} {σ : L2.St}, RE G ms H e σ → σ.length = e.length
  | [], _, h => by
    rw [show _ = _ from h]
    rfl
  | none :: e, _, h => by
    obtain ⟨r, rfl, h1⟩ := h
    simp [h1.len]
  | some d :: e, _, h => by
    obtain ⟨v, r, rfl, _, h1⟩ := h
    simp [h1.len]
theorem RE.at : ∀ {e : Sl} {σ : L2.St} {i : Nat} {d : D}, RE G ms H e σ → e[i]? = some (some d) → ∃ v, σ[i]? = some (some v) ∧ RV G ms H d v
  | [], _, _, _, _, e => by simp at e
  | none :: _, _, 0, _, _, e => by simp at e
  | some d :: _, _, 0, _, h, e => by
    obtain ⟨v, r, rfl, h1, _⟩ := h
    simp at e
    subst e
    exact ⟨v, rfl, h1⟩
  | none :: e, _, i + 1, _, h, q => by
    obtain ⟨r, rfl, h1⟩ := h
    obtain ⟨v, h3, h4⟩ := h1.at (i := i) (by simpa using q)
    exact ⟨v, by simpa using h3, h4⟩
  | some d :: e, _, i + 1, _, h, q => by
    obtain ⟨v, r, rfl, _, h1⟩ := h
    obtain ⟨v, h3, h4⟩ := h1.at (i := i) (by simpa using q)
    exact ⟨v, by simpa using h3, h4⟩
theorem RE.set {d : D} {v : V} (k : RV G ms H d v) : ∀ {e : Sl} {σ : L2.St} (i : Nat), RE G ms H e σ → RE G ms H (e.set i (some d)) (σ.set i (some v))
  | [], _, _, h => by
    rw [show _ = _ from h]
    exact rfl
  | none :: e, _, 0, h => by
    obtain ⟨r, rfl, h1⟩ := h
    exact ⟨v, r, rfl, k, h1⟩
  | some _ :: e, _, 0, h => by
    obtain ⟨_, r, rfl, _, h1⟩ := h
    exact ⟨v, r, rfl, k, h1⟩
  | none :: e, _, i + 1, h => by
    obtain ⟨r, rfl, h1⟩ := h
    exact ⟨_, rfl, RE.set k i h1⟩
  | some _ :: e, _, i + 1, h => by
    obtain ⟨u, r, rfl, h0, h1⟩ := h
    exact ⟨u, _, rfl, h0, RE.set k i h1⟩
theorem RE.unset : ∀ {e : Sl} {σ : L2.St} (i : Nat), RE G ms H e σ → RE G ms H (e.set i none) (σ.set i none)
  | [], _, _, h => by
    rw [show _ = _ from h]
    exact rfl
  | none :: e, _, 0, h => by
    obtain ⟨r, rfl, h1⟩ := h
    exact ⟨r, rfl, h1⟩
  | some _ :: e, _, 0, h => by
    obtain ⟨_, r, rfl, _, h1⟩ := h
    exact ⟨r, rfl, h1⟩
  | none :: e, _, i + 1, h => by
    obtain ⟨r, rfl, h1⟩ := h
    exact ⟨_, rfl, RE.unset i h1⟩
  | some _ :: e, _, i + 1, h => by
    obtain ⟨u, r, rfl, h0, h1⟩ := h
    exact ⟨u, _, rfl, h0, RE.unset i h1⟩
theorem RE.start : ∀ {ds : List D} {vs : List V} (n : Nat), RVs G ms H ds vs → RE G ms H (ds.map some ++ List.replicate n none) (vs.map some ++ List.replicate n none)
  | [], _, n, h => by
    simp only [RVs] at h
    rw [h]
    show RE G ms H (List.replicate n none) (List.replicate n none)
    induction n with
    | zero => exact rfl
    | succ n ih =>
      rw [List.replicate_succ, List.replicate_succ]
      exact ⟨_, rfl, ih⟩
  | d :: ds, _, n, h => by
    simp only [RVs] at h
    obtain ⟨v, r, rfl, h1, h2⟩ := h
    exact ⟨v, _, rfl, h1, RE.start n h2⟩

/-! ### the store -/
def CellOk (G : Gx) (ms : List Addr) (H : Hp) (a : Addr) : Cell → Prop
  | .lst ds => ∃ vs, H a = some (.lst vs) ∧ RVs G ms H ds vs
  | .ins c fs => ∃ dx gs, H a = some (.ins (G.tb c) dx gs) ∧ RF G ms H fs gs
structure SRel (G : Gx) (ms : List Addr) (st : Sto) (H : Hp) : Prop where
  len : ms.length = st.length
  nd : ms.Nodup
  cell : ∀ (i : Nat) a c, ms[i]? = some a → st[i]? = some c → CellOk G ms H a c
theorem CellOk.has {a : Addr} {c : Cell} (h : CellOk G ms H a c) : ∃ o, H a = some o ∧ (∀ xs, o ≠ .tup xs) ∧ (∀ ob u, o ≠ .frz ob u) ∧ ∀ x, o ≠ .own x := by
  cases c with
  | lst ds =>
    obtain ⟨vs, h, _⟩ := h
    exact ⟨_, h, (fun _ z => HO.noConfusion z), (fun _ _ z => HO.noConfusion z), (fun _ z => HO.noConfusion z)⟩
  | ins c fs =>
    obtain ⟨dx, gs, h, _⟩ := h
    exact ⟨_, h, (fun _ z => HO.noConfusion z), (fun _ _ z => HO.noConfusion z), (fun _ z => HO.noConfusion z)⟩
theorem SRel.has {st : Sto} (S : SRel G ms st H) {i : Nat} {a : Addr} (h : ms[i]? = some a) : ∃ c, st[i]? = some c ∧ CellOk G ms H a c := by
  obtain ⟨h1, h2⟩ := List.getElem?_eq_some_iff.mp h
  have h3 : i < st.length := by rw [← S.len]; exact h1
  exact ⟨st[i], by simp [h3], S.cell i a _ h (by simp [h3])⟩
theorem SRel.fresh {st : Sto} (S : SRel G ms st H) {p : Addr} (hp : H p = none) : p ∉ ms := fun hm => by
  obtain ⟨i, hi, e⟩ := List.getElem_of_mem hm
  obtain ⟨c, _, hc⟩ := S.has (i := i) (a := p) (by simp [hi, e])
  obtain ⟨o, ho, _⟩ := hc.has
  rw [hp] at ho
  cases ho
theorem Gr.new {p : Addr} {o : HO} (hp : H p = none) (t : List Addr) : Gr ms H (ms ++ t) (upd H p o) :=
  ⟨⟨t, rfl⟩, fun a xs h => by rw [upd_ne (ne_of_none h hp)]; exact h, fun a ob u h => by rw [upd_ne (ne_of_none h hp)]; exact h⟩
theorem Gr.new0 {p : Addr} {o : HO} (hp : H p = none) : Gr ms H ms (upd H p o) := by
  have h := Gr.new (ms := ms) (o := o) hp []
  rw [List.append_nil] at h
  exact h
theorem CellOk.gr {a : Addr} {c : Cell} (g : Gr ms H ms' H') (k : H' a = H a) (h : CellOk G ms H a c) : CellOk G ms' H' a c := by
  cases c with
  | lst ds =>
    obtain ⟨vs, h1, h2⟩ := h
    exact ⟨vs, by rw [k]; exact h1, RVs.gr g _ _ h2⟩
  | ins c fs =>
    obtain ⟨dx, gs, h1, h2⟩ := h
    exact ⟨dx, gs, by rw [k]; exact h1, RF.gr g h2⟩
/-- an object that is no cell is laid -/
theorem SRel.lay {st : Sto} (S : SRel G ms st H) {p : Addr} {o : HO} (hp : H p = none) : SRel G ms st (upd H p o) :=
  ⟨S.len, S.nd, fun i a c h1 h2 => (S.cell i a c h1 h2).gr (Gr.new0 hp) (upd_ne fun e => S.fresh hp (e ▸ List.mem_of_getElem? h1))⟩
/-- a new cell -/
theorem SRel.new {st : Sto} (S : SRel G ms st H) {p : Addr} {o : HO} {c : Cell} (hp : H p = none) (hc : CellOk G (ms ++ [p]) (upd H p o) p c) : SRel G (ms ++ [p]) (st ++ [c]) (upd H p o) := by
  refine ⟨by simp [S.len], ?_, fun i a d h1 h2 => ?_⟩
  · rw [List.nodup_append]
    refine ⟨S.nd, by simp, fun a ha b hb e => ?_⟩
    have hb' : b = p := by simpa using hb
    exact S.fresh hp (hb' ▸ e ▸ ha)
  · by_cases hi : i < ms.length
    · rw [List.getElem?_append_left hi] at h1
      rw [List.getElem?_append_left (by rw [← S.len]; exact hi)] at h2
      exact (S.cell i a d h1 h2).gr (Gr.new hp [p]) (upd_ne fun e => S.fresh hp (e ▸ List.mem_of_getElem? h1))
    · have hi' : i = ms.length := by
        have := (List.getElem?_eq_some_iff.mp h1).1
        simp at this
        omega
      subst hi'
      rw [List.getElem?_append_right (Nat.le_refl _)] at h1
      rw [S.len, List.getElem?_append_right (Nat.le_refl _)] at h2
      simp at h1 h2
      subst h1 h2
      exact hc
theorem Gr.cell {a : Addr} {c : Cell} {o : HO} (h : CellOk G ms H a c) : Gr ms H ms (upd H a o) := by
  obtain ⟨u, hu, n1, n2, _⟩ := h.has
  refine ⟨⟨[], by simp⟩, fun b xs e => ?_, fun b ob w e => ?_⟩
  · rw [upd_ne (fun z => by rw [z, hu] at e; exact n1 xs (Option.some.inj e))]
    exact e
  · rw [upd_ne (fun z => by rw [z, hu] at e; exact n2 ob w (Option.some.inj e))]
    exact e
/-- a cell is written -/
theorem SRel.put {st : Sto} (S : SRel G ms st H) {i : Nat} {a : Addr} {o : HO} {c : Cell} (hi : ms[i]? = some a) (hc : CellOk G ms (upd H a o) a c) : SRel G ms (st.set i c) (upd H a o) := by
  obtain ⟨c0, h0, k0⟩ := S.has hi
  refine ⟨by simp [S.len], S.nd, fun j b d h1 h2 => ?_⟩
  by_cases hj : i = j
  · subst hj
    rw [hi] at h1
    cases h1
    have hl := (List.getElem?_eq_some_iff.mp h0).1
    rw [List.getElem?_set_self hl] at h2
    cases h2
    exact hc
  · rw [List.getElem?_set_ne hj] at h2
    refine (S.cell j b d h1 h2).gr (Gr.cell k0) (upd_ne fun e => ?_)
    subst e
    exact hj (nd_ix S.nd hi h1)

/-! ### what a result promises -/
/-- an exception's own dict -/
def XRel (G : Gx) (ms : List Addr) (H : Hp) (fs : List (String × D)) (od : Option Addr) : Prop :=
  (fs = [] ∧ od = none) ∨ ∃ d gs, fs ≠ [] ∧ od = some d ∧ H d = some (.xd gs) ∧ RF G ms H fs gs
def Okk {α β : Type} (R : List Addr → Hp → α → β → Prop) (G : Gx) (W : Value → Option Addr → Hp → Prop) (Q : β → Hp → Prop) (ms : List Addr) (H : Hp) : Res α → Prop
  | .ok a st => ∀ b ms' H', Gr ms H ms' H' → SRel G ms' st H' → R ms' H' a b → Q b H'
  | .exn c fs st => ∀ od ms' H', Gr ms H ms' H' → SRel G ms' st H' → XRel G ms' H' fs od → W (.ref (G.tb c)) od H'
  | .bad => False
theorem Okk.gr {α β : Type} {R : List Addr → Hp → α → β → Prop} {W : Value → Option Addr → Hp → Prop} {Q : β → Hp → Prop} {r : Res α} (g : Gr ms H ms' H') (h : Okk R G W Q ms H r) : Okk R G W Q ms' H' r := by
  cases r with
  | ok a st => exact fun b m2 H2 g2 => h b m2 H2 (g.trans g2)
  | exn c fs st => exact fun od m2 H2 g2 => h od m2 H2 (g.trans g2)
  | bad => exact h
theorem Okk.bind {α β α' β' : Type} {R : List Addr → Hp → α → β → Prop} {R' : List Addr → Hp → α' → β' → Prop} {W : Value → Option Addr → Hp → Prop} {Q : β' → Hp → Prop} {Q1 : β → Hp → Prop} {r : Res α} {f : α → Sto → Res α'}
    (h : Okk R' G W Q ms H (r.bind f)) (k : ∀ a s b m1 H1, Gr ms H m1 H1 → SRel G m1 s H1 → R m1 H1 a b → Okk R' G W Q m1 H1 (f a s) → Q1 b H1) : Okk R G W Q1 ms H r := by
  cases r with
  | ok a s => exact fun b m1 H1 g S r => k a s b m1 H1 g S r (Okk.gr g h)
  | exn c fs s => exact h
  | bad => exact h
abbrev RB : List Addr → Hp → Bool → Bool → Prop := fun _ _ a b => b = a

/-! ### readings -/
def tX {α β : Type} (R : List Addr → Hp → α → β → Prop) (G : Gx) (W : WX) (f : Sl → M α) : L2.St → Hp → (β → Hp → Prop) → Prop := fun σ H Q => ∃ ms st env, SRel G ms st H ∧ RE G ms H env σ ∧ Okk R G (fun c d H => W c d σ H) Q ms H (f env st)
abbrev tE (G : Gx) (W : WX) (f : E) : TE := tX (RV G) G W f
abbrev tA (G : Gx) (W : WX) (f : Sl → M (List D)) : TA := tX (RVs G) G W f
abbrev tT (G : Gx) (W : WX) (f : Sl → M Bool) : TT := tX RB G W f
theorem PE_weak {X : Cx} {e : Expr} {t t' : TE} (h : PE X e t) (k : ∀ σ H Q, t' σ H Q → t σ H Q) : PE X e t' := ⟨fun pins s σ H Q I q => h.run pins s σ H Q I (k σ H Q q)⟩
theorem PT_weak {X : Cx} {e : Expr} {t t' : TT} (h : PT X e t) (k : ∀ σ H Q, t' σ H Q → t σ H Q) : PT X e t' := ⟨fun pins s σ H Q I q => h.run pins s σ H Q I (k σ H Q q)⟩
theorem PW_weak {X : Cx} {e : Expr} {t t' : TT} (h : PW X e t) (k : ∀ σ H Q, t' σ H Q → t σ H Q) : PW X e t' := ⟨fun wh pins s σ H Q I q => h.run wh pins s σ H Q I (k σ H Q q)⟩
theorem PA_weak {X : Cx} {es : List Expr} {t t' : TA} (h : PA X es t) (k : ∀ σ H Q, t' σ H Q → t σ H Q) : PA X es t' := ⟨fun pos pins s σ H Q I q => h.run pos pins s σ H Q I (k σ H Q q)⟩
theorem PS_weak {X : Cx} {e : Stmt} {t t' : TS} (h : PS X e t) (k : ∀ D σ H, t' D σ H → t D σ H) : PS X e t' := ⟨fun pins s σ H D I q => h.run pins s σ H D I (k D σ H q)⟩
theorem PSs_weak {X : Cx} {e : List Stmt} {t t' : TS} (h : PSs X e t) (k : ∀ D σ H, t' D σ H → t D σ H) : PSs X e t' := ⟨fun pins s σ H D I q => h.run pins s σ H D I (k D σ H q)⟩

end
end LF

set_option Elab.async false
set_option linter.all false
set_option maxRecDepth 100000
set_option maxHeartbeats 4000000
/-! The layer: expressions. -/
namespace LF
open PySem PySem.Spec PyProof.Rows L2
section
variable {G : Gx} {W : WX} {X : Cx} {σ : L2.St} {H : Hp}

/-! ### sequencing -/
theorem tX_bind {α β α' β' : Type} {R : List Addr → Hp → α → β → Prop} {R' : List Addr → Hp → α' → β' → Prop} {fa : Sl → M α} {g : Sl → α → M α'} {Q : β' → Hp → Prop}
    (h : tX R' G W (fun env st => (fa env st).bind (g env)) σ H Q) :
    tX R G W fa σ H fun v H1 => ∃ ms st env x, SRel G ms st H1 ∧ RE G ms H1 env σ ∧ R ms H1 x v ∧ Okk R' G (fun c d H => W c d σ H) Q ms H1 (g env x st) := by
  obtain ⟨ms, st, env, S, r, k⟩ := h
  exact ⟨ms, st, env, S, r, Okk.bind k fun x s v m1 H1 g1 S1 r1 k1 => ⟨m1, s, env, x, S1, r.gr g1, r1, k1⟩⟩
theorem tX_bin {α β : Type} {R' : List Addr → Hp → α → β → Prop} {fa fb : E} {g : D → D → M α} {Q : β → Hp → Prop}
    (h : tX R' G W (fun env st => (fa env st).bind fun x s => (fb env s).bind (g x)) σ H Q) :
    tE G W fa σ H fun v H1 => tE G W fb σ H1 fun u H2 => ∃ ms st x y, SRel G ms st H2 ∧ RV G ms H2 x v ∧ RV G ms H2 y u ∧ Okk R' G (fun c d H => W c d σ H) Q ms H2 (g x y st) := by
  obtain ⟨ms, st, env, S, r, k⟩ := h
  exact ⟨ms, st, env, S, r, Okk.bind k fun x s v m1 H1 g1 S1 r1 k1 => ⟨m1, s, env, S1, r.gr g1, Okk.bind k1 fun y s2 u m2 H2 g2 S2 r2 k2 => ⟨m2, s2, x, y, S2, RV.gr g2 _ _ r1, r2, k2⟩⟩⟩
/-- a test, then one of two -/
theorem tX_if {α β : Type} {R' : List Addr → Hp → α → β → Prop} {c : Sl → M Bool} {fa fb : Sl → M α} {Q : β → Hp → Prop}
    (h : tX R' G W (fun env st => (c env st).bind fun b s => if b = true then fa env s else fb env s) σ H Q) :
    tT G W c σ H fun b H1 => if b = true then tX R' G W fa σ H1 Q else tX R' G W fb σ H1 Q := by
  obtain ⟨ms, st, env, S, r, k⟩ := h
  refine ⟨ms, st, env, S, r, Okk.bind k fun b s b' m1 H1 g1 S1 r1 k1 => ?_⟩
  cases r1
  cases b with
  | true => exact ⟨m1, s, env, S1, r.gr g1, by simpa using k1⟩
  | false => exact ⟨m1, s, env, S1, r.gr g1, by simpa using k1⟩

/-! ### operations that raise nothing -/
abbrev O (α : Type) := Sto → Option (α × Sto)
def ofO {α : Type} : Option (α × Sto) → Res α
  | some (a, s) => .ok a s
  | none => .bad
def OkO {α β : Type} (R : List Addr → Hp → α → β → Prop) (G : Gx) (Q : β → Hp → Prop) (ms : List Addr) (H : Hp) : Option (α × Sto) → Prop
  | some (a, st) => ∀ b ms' H', Gr ms H ms' H' → SRel G ms' st H' → R ms' H' a b → Q b H'
  | none => False
theorem Okk.ofO {α β : Type} {R : List Addr → Hp → α → β → Prop} {W : Value → Option Addr → Hp → Prop} {Q : β → Hp → Prop} {ms : List Addr} {o : Option (α × Sto)} (h : Okk R G W Q ms H (ofO o)) : OkO R G Q ms H o := by
  cases o with
  | some p => exact h
  | none => exact h
/-- a new list -/
def newL (ds : List D) : O D := fun st => some (.ref st.length, st ++ [.lst ds])
theorem OkO.newL {Q : VK} {ms : List Addr} {st : Sto} {ds : List D} {vs : List V} (S : SRel G ms st H) (r : RVs G ms H ds vs) (h : OkO (RV G) G Q ms H (newL ds st)) : ∀ p, H p = none → Q (.ref p) (upd H p (.lst vs)) := fun p hp => by
  refine h (.ref p) (ms ++ [p]) _ (Gr.new hp [p]) (S.new hp ⟨vs, upd_same, RVs.gr (Gr.new hp [p]) _ _ r⟩) ?_
  simp only [RV]
  exact ⟨p, rfl, by rw [List.getElem?_append_right (by rw [S.len]; exact Nat.le_refl _), S.len]; simp⟩
theorem OkO.val {Q : VK} {ms : List Addr} {st : Sto} {d : D} {v : V} (S : SRel G ms st H) (r : RV G ms H d v) (h : OkO (RV G) G Q ms H (some (d, st))) : Q v H := h v ms H Gr.refl S r
theorem OkO.tup {Q : VK} {ms : List Addr} {st : Sto} {ds : List D} {vs : List V} (S : SRel G ms st H) (r : RVs G ms H ds vs) (h : OkO (RV G) G Q ms H (some (.tup ds, st))) : ∀ p, H p = none → Q (.ref p) (upd H p (.tup vs)) := fun p hp => by
  refine h (.ref p) ms _ (Gr.new0 hp) (S.lay hp) ?_
  simp only [RV]
  exact ⟨p, vs, rfl, .inl upd_same, RVs.gr (Gr.new0 hp) _ _ r⟩

def rO (G : Gx) (op : D → D → O D) : R2 := fun v u H Q => ∃ ms st x y, SRel G ms st H ∧ RV G ms H x v ∧ RV G ms H y u ∧ OkO (RV G) G Q ms H (op x y st)
def rU1 (G : Gx) (op : D → O D) : V → Hp → VK → Prop := fun v H Q => ∃ ms st x, SRel G ms st H ∧ RV G ms H x v ∧ OkO (RV G) G Q ms H (op x st)
def rN (G : Gx) (op : List D → O D) : List V → Hp → VK → Prop := fun vs H Q => ∃ ms st ds, SRel G ms st H ∧ RVs G ms H ds vs ∧ OkO (RV G) G Q ms H (op ds st)
def rM (G : Gx) (op : D → List D → O D) : V → List V → Hp → VK → Prop := fun v vs H Q => ∃ ms st x ds, SRel G ms st H ∧ RV G ms H x v ∧ RVs G ms H ds vs ∧ OkO (RV G) G Q ms H (op x ds st)
theorem OpR_imp {f : Value → Value → Sem Value} {r r' : R2} (h : OpR X f r) (k : ∀ x y H Q, r' x y H Q → r x y H Q) : OpR X f r' := fun pins s σ H x y v u Q I rx ry q => h pins s σ H x y v u Q I rx ry (k x y H Q q)
theorem UnR_imp {f : Value → Sem Value} {r r' : V → Hp → VK → Prop} (h : UnR X f r) (k : ∀ x H Q, r' x H Q → r x H Q) : UnR X f r' := fun pins s σ H x v Q I rx q => h pins s σ H x v Q I rx (k x H Q q)
theorem CallR_imp {f : Value} {r r' : List V → Hp → VK → Prop} (h : CallR X f r) (k : ∀ xs H Q, r' xs H Q → r xs H Q) : CallR X f r' := fun pins s σ H xs us Q I rx q => h pins s σ H xs us Q I rx (k xs H Q q)
theorem CallR_or {f : Value} {r r' : List V → Hp → VK → Prop} (h : CallR X f r) (h' : CallR X f r') : CallR X f (fun xs H Q => r xs H Q ∨ r' xs H Q) := fun pins s σ H xs us Q I rx q => by
  rcases q with q | q
  · exact h pins s σ H xs us Q I rx q
  · exact h' pins s σ H xs us Q I rx q
theorem IxR_imp {r r' : R2} (h : IxR X r) (k : ∀ x y H Q, r' x y H Q → r x y H Q) : IxR X r' := fun va sl pins s σ H x y v u Q I rx ry q => h va sl pins s σ H x y v u Q I rx ry (k x y H Q q)
theorem MtR_imp {id : String} {r r' : V → List V → Hp → VK → Prop} (h : MtR X id r) (k : ∀ x xs H Q, r' x xs H Q → r x xs H Q) : MtR X id r' := fun pins s σ H x xs v us Q I rx rv q => h pins s σ H x xs v us Q I rx rv (k x xs H Q q)
theorem SlR_imp {r r' : V → Option Int → Option Int → Hp → VK → Prop} (h : SlR X r) (k : ∀ x lo hi H Q, r' x lo hi H Q → r x lo hi H Q) : SlR X r' := fun pins s σ H x v vl vu lo hi sl Q I rx hs pl pu q => h pins s σ H x v vl vu lo hi sl Q I rx hs pl pu (k x lo hi H Q q)

/-! ### expressions -/
def eVar (i : Nat) : E := fun env st => match env[i]? with
  | some (some d) => .ok d st
  | _ => .bad
def eC (d : D) : E := fun _ st => .ok d st
def eBin (op : D → D → O D) (a b : E) : E := fun env st => (a env st).bind fun x s => (b env s).bind fun y s' => ofO (op x y s')
def eUn (op : D → O D) (a : E) : E := fun env st => (a env st).bind fun x s => ofO (op x s)
def eArgs : List E → Sl → M (List D)
  | [] => fun _ st => .ok [] st
  | a :: as => fun env st => (a env st).bind fun x s => (eArgs as env s).bind fun xs s' => .ok (x :: xs) s'
def eBlt (op : List D → O D) (as : List E) : E := fun env st => (eArgs as env st).bind fun xs s => ofO (op xs s)
def eIf (c : Sl → M Bool) (a b : E) : E := fun env st => (c env st).bind fun k s => if k = true then a env s else b env s
def LIM : Nat := 16000000
theorem LIM_le {n : Nat} (h : n ≤ LIM) : n ≤ sizeLine := Nat.le_trans h (by decide)
theorem LIM_lt {n : Nat} (h : n < LIM) : n < sizeLine := Nat.lt_of_lt_of_le h (by decide)
def opTup (ds : List D) : O D := fun st => if ds.length ≤ LIM then some (.tup ds, st) else none
def opLst (ds : List D) : O D := fun st => if ds.length ≤ LIM then newL ds st else none

theorem e_var {e : Expr} {i : Nat} (h : PE X e (tVar i)) : PE X e (tE G W (eVar i)) := PE_weak h fun σ H Q ⟨ms, st, env, S, r, k⟩ => by
  unfold eVar at k
  cases hi : env[i]? with
  | none => rw [hi] at k; exact k.elim
  | some o =>
    cases o with
    | none => rw [hi] at k; exact k.elim
    | some d =>
      rw [hi] at k
      obtain ⟨v, h1, h2⟩ := r.at hi
      exact ⟨v, h1, k v ms H Gr.refl S h2⟩
theorem e_c {e : Expr} {d : D} {v : V} (h : PE X e (tC v)) (r : ∀ ms H, RV G ms H d v) : PE X e (tE G W (eC d)) := PE_weak h fun σ H Q ⟨ms, st, env, S, _, k⟩ => k v ms H Gr.refl S (r ms H)
theorem e_int {i j pos} : PE X (.Constant (.int i) j pos) (tE G W (eC (.int i))) := e_c pe_int fun _ _ => by simp only [RV]
theorem e_bl {b j pos} : PE X (.Constant (.bool b) j pos) (tE G W (eC (.bl b))) := e_c pe_bl fun _ _ => by simp only [RV]
theorem e_non {j pos} : PE X (.Constant .none j pos) (tE G W (eC .non)) := e_c pe_non fun _ _ => by simp only [RV]
theorem e_str {x j pos} : PE X (.Constant (.str x) j pos) (tE G W (eC (.str x))) := e_c pe_str fun _ _ => by simp only [RV]
theorem e_glob {x : Str} {v : V} {d : D} {u : Value} {pos : Pos} (hg : Gl X x) (hm : X.mg x = some u) (r : RelV v u) (rd : ∀ ms H, RV G ms H d v) (hd : (x == ("__debug__" : Str)) = false := by decide) : PE X (.Name x pos) (tE G W (eC d)) :=
  e_c (pe_glob hg hm r hd) rd
theorem tX_mono {α β : Type} {R : List Addr → Hp → α → β → Prop} {f : Sl → M α} {Q Q' : β → Hp → Prop} (h : tX R G W f σ H Q) (k : ∀ b H1, Q b H1 → Q' b H1) : tX R G W f σ H Q' := by
  obtain ⟨ms, st, env, S, r, q⟩ := h
  refine ⟨ms, st, env, S, r, ?_⟩
  cases e : f env st with
  | ok x s =>
    rw [e] at q
    exact fun v m1 H1 g1 S1 r1 => k v H1 (q v m1 H1 g1 S1 r1)
  | exn c fs s =>
    rw [e] at q
    exact q
  | bad =>
    rw [e] at q
    exact q
theorem bin_tOp {f : D → D → O D} {fa fb : E} {Q : VK} (h : tE G W (eBin f fa fb) σ H Q) : tOp (rO G f) (tE G W fa) (tE G W fb) σ H Q :=
  tX_mono (tX_bin h) fun v H1 h1 => tX_mono h1 fun u H2 ⟨ms, st, x, y, S, r1, r2, k⟩ => ⟨ms, st, x, y, S, r1, r2, k.ofO⟩
theorem un_tUn {f : D → O D} {fa : E} {Q : VK} (h : tE G W (eUn f fa) σ H Q) : tUn (rU1 G f) (tE G W fa) σ H Q :=
  tX_mono (tX_bind h) fun v H1 ⟨ms, st, env, x, S, _, r1, k⟩ => ⟨ms, st, x, S, r1, k.ofO⟩
theorem e_bin {a b : Expr} {pos : Pos} {op : Operator} {f : D → D → O D} {fa fb : E} (ho : OpR X (binaryOp op) (rO G f)) (ha : PE X a (tE G W fa)) (hb : PE X b (tE G W fb)) : PE X (.BinOp a op b pos) (tE G W (eBin f fa fb)) :=
  PE_weak (pe_op ho ha hb) fun _ _ _ h => bin_tOp h
theorem e_un {a : Expr} {pos : Pos} {op : UnaryOp} {f : D → O D} {fa : E} (ho : UnR X (unaryOp op) (rU1 G f)) (ha : PE X a (tE G W fa)) : PE X (.UnaryOp op a pos) (tE G W (eUn f fa)) :=
  PE_weak (pe_un ho ha) fun _ _ _ h => un_tUn h
theorem e_cmp {a b : Expr} {pos : Pos} {op : CmpOp} {f : D → D → O D} {fa fb : E} (ho : OpR X (compareOp op) (rO G f)) (ha : PE X a (tE G W fa)) (hb : PE X b (tE G W fb)) (hm : behindInMarks op b = false) : PE X (.Compare a [op] [b] pos) (tE G W (eBin f fa fb)) :=
  PE_weak (pe_cmpR ho ha hb hm) fun _ _ _ h => bin_tOp h

/-! ### tests -/
abbrev T := Sl → M Bool
def asB (a : E) : T := fun env st => (a env st).bind fun x s => match x with
  | .bl k => .ok k s
  | _ => .bad
theorem asB_tTest {fa : E} {Q : Bool → Hp → Prop} (h : tT G W (asB fa) σ H Q) : tE G W fa σ H fun x H' => ∃ k, x = .bl k ∧ Q k H' :=
  tX_mono (tX_bind h) fun v H1 ⟨ms, st, env, x, S, _, r1, k⟩ => by
    cases x with
    | bl b =>
      simp only [RV] at r1
      exact ⟨b, r1, k b ms H1 Gr.refl S rfl⟩
    | _ => exact k.elim
theorem tE_tTest {t : TE} {fa : E} (k : ∀ σ H Q, tE G W fa σ H Q → t σ H Q) {Q : Bool → Hp → Prop} (h : tT G W (asB fa) σ H Q) : tTest t σ H Q := k _ _ _ (asB_tTest h)
theorem t_cmp {a b : Expr} {pos : Pos} {op : CmpOp} {f : D → D → O D} {fa fb : E} (ho : OpR X (compareOp op) (rO G f)) (ha : PE X a (tE G W fa)) (hb : PE X b (tE G W fb)) (hm : behindInMarks op b = false) : PT X (.Compare a [op] [b] pos) (tT G W (asB (eBin f fa fb))) :=
  PT_weak (pt_cmpR ho ha hb hm) fun _ _ _ h => tE_tTest (fun _ _ _ h => bin_tOp h) h
def eChain (f g : D → D → O D) (a b c : E) : E := fun env st => (a env st).bind fun x s => (b env s).bind fun y s => (ofO (f x y s)).bind fun z s => match z with
  | .bl true => (c env s).bind fun w s => ofO (g y w s)
  | .bl false => .ok (.bl false) s
  | _ => .bad
theorem chain_tChain {f g : D → D → O D} {fa fb fc : E} {Q : VK} (h : tE G W (eChain f g fa fb fc) σ H Q) : tChain (rO G f) (rO G g) (tE G W fa) (tE G W fb) (tE G W fc) σ H Q := by
  obtain ⟨ms, st, env, S, r, k⟩ := h
  refine ⟨ms, st, env, S, r, Okk.bind k fun x s v m1 H1 g1 S1 r1 k1 => ⟨m1, s, env, S1, r.gr g1, Okk.bind k1 fun y s2 u m2 H2 g2 S2 r2 k2 => ⟨m2, s2, x, y, S2, RV.gr g2 _ _ r1, r2, ?_⟩⟩⟩
  refine Okk.ofO (W := fun c d H => W c d σ H) (Okk.bind k2 fun z s3 z' m3 H3 g3 S3 r3 k3 => ?_)
  cases z with
  | bl b =>
    simp only [RV] at r3
    refine ⟨b, r3, ?_⟩
    cases b with
    | true =>
      rw [if_pos rfl]
      exact ⟨m3, s3, env, S3, (r.gr g1).gr (g2.trans g3), Okk.bind k3 fun w s4 w' m4 H4 g4 S4 r4 k4 => ⟨m4, s4, y, w, S4, RV.gr (g3.trans g4) _ _ r2, r4, k4.ofO⟩⟩
    | false =>
      rw [if_neg Bool.false_ne_true]
      exact k3 (.bl false) m3 H3 Gr.refl S3 (by simp only [RV])
  | _ => exact k3.elim
theorem e_chain {a b c : Expr} {pos : Pos} {op op' : CmpOp} {f g : D → D → O D} {fa fb fc : E} (ho : OpR X (compareOp op) (rO G f)) (ho' : OpR X (compareOp op') (rO G g)) (ha : PE X a (tE G W fa)) (hb : PE X b (tE G W fb)) (hc : PE X c (tE G W fc))
    (hm : lastMarks [op, op'] [b, c] = false := by with_unfolding_all rfl) : PE X (.Compare a [op, op'] [b, c] pos) (tE G W (eChain f g fa fb fc)) :=
  PE_weak (pe_chain ho ho' ha hb hc hm) fun _ _ _ h => chain_tChain h
theorem t_chain {a b c : Expr} {pos : Pos} {op op' : CmpOp} {f g : D → D → O D} {fa fb fc : E} (ho : OpR X (compareOp op) (rO G f)) (ho' : OpR X (compareOp op') (rO G g)) (ha : PE X a (tE G W fa)) (hb : PE X b (tE G W fb)) (hc : PE X c (tE G W fc))
    (hm : lastMarks [op, op'] [b, c] = false := by with_unfolding_all rfl) : PT X (.Compare a [op, op'] [b, c] pos) (tT G W (asB (eChain f g fa fb fc))) :=
  PT_weak (pt_chain ho ho' ha hb hc hm) fun _ _ _ h => tE_tTest (fun _ _ _ h => chain_tChain h) h
/-- a value's truth -/
def tru : D → Sto → Option Bool
  | .non, _ => some false
  | .bl b, _ => some b
  | .int i, _ => some (i != 0)
  | .str x, _ => if x.length ≤ LIM then some ((x.length : Int) != 0) else none
  | .tup ds, _ => some (!ds.isEmpty)
  | .ref i, st => match st[i]? with
    | some (.lst ds) => some (!ds.isEmpty)
    | _ => none
  | _, _ => none
theorem RVs.empty {ms : List Addr} {ds : List D} {vs : List V} (h : RVs G ms H ds vs) : (!vs.isEmpty) = !ds.isEmpty := by
  cases ds with
  | nil =>
    simp only [RVs] at h
    subst h
    rfl
  | cons d ds =>
    simp only [RVs] at h
    obtain ⟨v, r, rfl, _⟩ := h
    rfl
theorem SRel.lst {ms : List Addr} {st : Sto} (S : SRel G ms st H) {i : Nat} {ds : List D} (h : st[i]? = some (.lst ds)) : ∃ a vs, ms[i]? = some a ∧ H a = some (.lst vs) ∧ RVs G ms H ds vs := by
  have hl : i < ms.length := by
    rw [S.len]
    exact (List.getElem?_eq_some_iff.mp h).1
  obtain ⟨vs, h1, h2⟩ := S.cell i ms[i] _ (by simp [hl]) h
  exact ⟨ms[i], vs, by simp [hl], h1, h2⟩
theorem SRel.ref {ms : List Addr} {st : Sto} (S : SRel G ms st H) {i : Nat} {ds : List D} {v : V} (h : st[i]? = some (.lst ds)) (r : RV G ms H (.ref i) v) : ∃ a vs, v = .ref a ∧ ms[i]? = some a ∧ H a = some (.lst vs) ∧ RVs G ms H ds vs := by
  simp only [RV] at r
  obtain ⟨a, rfl, ha⟩ := r
  obtain ⟨b, vs, hb, h1, h2⟩ := S.lst h
  rw [ha] at hb
  cases hb
  exact ⟨a, vs, rfl, ha, h1, h2⟩
theorem tru_ok {ms : List Addr} {st : Sto} (S : SRel G ms st H) {d : D} {v : V} {k : Bool} (r : RV G ms H d v) (h : tru d st = some k) : TruV G.K v H k := by
  cases d with
  | non => simp only [RV] at r; simp only [tru] at h; cases h; subst r; exact rfl
  | bl b => simp only [RV] at r; simp only [tru] at h; cases h; subst r; exact rfl
  | int i => simp only [RV] at r; simp only [tru] at h; cases h; subst r; exact rfl
  | str x =>
    simp only [RV] at r
    simp only [tru] at h
    split at h
    · cases h
      subst r
      rename_i hx
      exact ⟨LIM_le hx, rfl⟩
    · cases h
  | tup ds =>
    simp only [RV] at r
    obtain ⟨a, vs, rfl, h1, h2⟩ := r
    simp only [tru] at h
    cases h
    exact .inr (.inl ⟨vs, h1.t, h2.empty.symm⟩)
  | ref i =>
    simp only [tru] at h
    split at h
    · rename_i ds e
      cases h
      obtain ⟨a, vs, rfl, _, h1, h2⟩ := S.ref e r
      exact .inl ⟨vs, SqL.of h1, h2.empty.symm⟩
    · cases h
  | glo n => cases h
  | ty n => cases h
  | scr ns => cases h
def tTru (a : E) : T := fun env st => (a env st).bind fun x s => match tru x s with
  | some k => .ok k s
  | none => .bad
theorem t_truth {a : Expr} {fa : E} (hK : X.K = G.K) (ha : PE X a (tE G W fa)) (he : ∀ whole, isTrue a X.env whole = (do let v ← whole; standAt a.pos; holding [v] (truthy v)) := by intro _; rfl) : PT X a (tT G W (tTru fa)) :=
  PT_weak (pt_truth ha he) fun σ H Q h => tX_mono (tX_bind h) fun v H1 ⟨ms, st, env, x, S, _, r1, k⟩ => by
    cases e : tru x st with
    | none => rw [e] at k; exact k.elim
    | some b =>
      rw [e] at k
      exact ⟨b, by rw [hK]; exact tru_ok S r1 e, k b ms H1 Gr.refl S rfl⟩
def tAnd' (a b : T) : T := fun env st => (a env st).bind fun k s => if k = true then b env s else .ok false s
def tOr' (a b : T) : T := fun env st => (a env st).bind fun k s => if k = true then .ok true s else b env s
def tNot' (a : T) : T := fun env st => (a env st).bind fun k s => .ok (!k) s
theorem w_one_and {a : Expr} {pos : Pos} {ta : T} (ha : PT X a (tT G W ta)) : PW X (.BoolOp .And [a] pos) (tT G W ta) := pw_and1 ha
theorem w_one_or {a : Expr} {pos : Pos} {ta : T} (ha : PT X a (tT G W ta)) : PW X (.BoolOp .Or [a] pos) (tT G W ta) := pw_or1 ha
theorem w_and {a b : Expr} {rest : List Expr} {pos : Pos} {ta tb : T} (ha : PT X a (tT G W ta)) (hb : PW X (.BoolOp .And (b :: rest) pos) (tT G W tb)) : PW X (.BoolOp .And (a :: b :: rest) pos) (tT G W (tAnd' ta tb)) :=
  PW_weak (pw_and ha hb) fun σ H Q h => tX_mono (tX_bind h) fun b H1 ⟨ms, st, env, x, S, r, r1, k⟩ => by
    cases r1
    cases b with
    | true => exact ⟨ms, st, env, S, r, by simpa using k⟩
    | false => exact (show Okk RB G _ Q ms H1 (.ok false st) by simpa using k) false ms H1 Gr.refl S rfl
theorem w_or {a b : Expr} {rest : List Expr} {pos : Pos} {ta tb : T} (ha : PT X a (tT G W ta)) (hb : PW X (.BoolOp .Or (b :: rest) pos) (tT G W tb)) : PW X (.BoolOp .Or (a :: b :: rest) pos) (tT G W (tOr' ta tb)) :=
  PW_weak (pw_or ha hb) fun σ H Q h => tX_mono (tX_bind h) fun b H1 ⟨ms, st, env, x, S, r, r1, k⟩ => by
    cases r1
    cases b with
    | true => exact (show Okk RB G _ Q ms H1 (.ok true st) by simpa using k) true ms H1 Gr.refl S rfl
    | false => exact ⟨ms, st, env, S, r, by simpa using k⟩
theorem t_not {a : Expr} {pos : Pos} {ta : T} (ha : PT X a (tT G W ta)) : PT X (.UnaryOp .Not a pos) (tT G W (tNot' ta)) :=
  PT_weak (pt_not ha) fun σ H Q h => tX_mono (tX_bind h) fun b H1 ⟨ms, st, env, x, S, r, r1, k⟩ => by
    cases r1
    exact k (!b) ms H1 Gr.refl S rfl
/-- and, or, not as values -/
def eAnd (a b : E) : E := fun env st => (a env st).bind fun x s => match tru x s with
  | some true => b env s
  | some false => .ok x s
  | none => .bad
def eOr (a b : E) : E := fun env st => (a env st).bind fun x s => match tru x s with
  | some true => .ok x s
  | some false => b env s
  | none => .bad
def eNot (a : E) : E := fun env st => (a env st).bind fun x s => match tru x s with
  | some k => .ok (.bl (!k)) s
  | none => .bad
theorem e_one {op} {a : Expr} {pos : Pos} {fa : E} (ha : PE X a (tE G W fa)) : PE X (.BoolOp op [a] pos) (tE G W fa) := pe_one ha
theorem e_and {a b : Expr} {rest : List Expr} {pos : Pos} {fa fb : E} (hK : X.K = G.K) (ha : PE X a (tE G W fa)) (hb : PE X (.BoolOp .And (b :: rest) pos) (tE G W fb)) : PE X (.BoolOp .And (a :: b :: rest) pos) (tE G W (eAnd fa fb)) :=
  PE_weak (pe_andT ha hb) fun σ H Q h => tX_mono (tX_bind h) fun v H1 ⟨ms, st, env, x, S, r, r1, k⟩ => by
    cases e : tru x st with
    | none => rw [e] at k; exact k.elim
    | some b =>
      rw [e] at k
      refine ⟨b, by rw [hK]; exact tru_ok S r1 e, ?_⟩
      cases b with
      | true => exact ⟨ms, st, env, S, r, k⟩
      | false => exact k v ms H1 Gr.refl S r1
theorem e_or {a b : Expr} {rest : List Expr} {pos : Pos} {fa fb : E} (hK : X.K = G.K) (ha : PE X a (tE G W fa)) (hb : PE X (.BoolOp .Or (b :: rest) pos) (tE G W fb)) : PE X (.BoolOp .Or (a :: b :: rest) pos) (tE G W (eOr fa fb)) :=
  PE_weak (pe_orT ha hb) fun σ H Q h => tX_mono (tX_bind h) fun v H1 ⟨ms, st, env, x, S, r, r1, k⟩ => by
    cases e : tru x st with
    | none => rw [e] at k; exact k.elim
    | some b =>
      rw [e] at k
      refine ⟨b, by rw [hK]; exact tru_ok S r1 e, ?_⟩
      cases b with
      | true => exact k v ms H1 Gr.refl S r1
      | false => exact ⟨ms, st, env, S, r, k⟩
theorem e_not {a : Expr} {pos : Pos} {fa : E} (hK : X.K = G.K) (ha : PE X a (tE G W fa)) : PE X (.UnaryOp .Not a pos) (tE G W (eNot fa)) :=
  PE_weak (pe_notT ha) fun σ H Q h => tX_mono (tX_bind h) fun v H1 ⟨ms, st, env, x, S, r, r1, k⟩ => by
    cases e : tru x st with
    | none => rw [e] at k; exact k.elim
    | some b =>
      rw [e] at k
      exact ⟨b, by rw [hK]; exact tru_ok S r1 e, k (.bl (!b)) ms H1 Gr.refl S (by simp only [RV])⟩
theorem e_if {c a b : Expr} {pos : Pos} {tc : T} {fa fb : E} (hc : PT X c (tT G W tc)) (ha : PE X a (tE G W fa)) (hb : PE X b (tE G W fb)) : PE X (.IfExp c a b pos) (tE G W (eIf tc fa fb)) :=
  PE_weak (pe_ifExp hc ha hb) fun σ H Q h => tX_mono (tX_if h) fun b H1 h1 => by
    cases b with
    | true => exact h1
    | false => exact h1

/-! ### arguments, displays, calls of what is built in -/
theorem a_nil : PA X [] (tA G W (eArgs [])) := PA_weak pa_nil fun σ H Q ⟨ms, st, env, S, _, k⟩ => k [] ms H Gr.refl S (by simp only [RVs])
theorem a_cons {e : Expr} {es : List Expr} {fa : E} {fs : List E} (ha : PE X e (tE G W fa)) (hr : PA X es (tA G W (eArgs fs))) (hs : starEach (e :: es) X.env = (false, eval e X.env) :: starEach es X.env := by rfl) : PA X (e :: es) (tA G W (eArgs (fa :: fs))) :=
  PA_weak (pa_cons ha hr hs) fun σ H Q h => by
    obtain ⟨ms, st, env, S, r, k⟩ := h
    exact ⟨ms, st, env, S, r, Okk.bind k fun x s v m1 H1 g1 S1 r1 k1 => ⟨m1, s, env, S1, r.gr g1, Okk.bind k1 fun xs s2 vs m2 H2 g2 S2 r2 k2 =>
      k2 (v :: vs) m2 H2 Gr.refl S2 (by simp only [RVs]; exact ⟨v, vs, rfl, RV.gr g2 _ _ r1, r2⟩)⟩⟩
theorem e_tup {es : List Expr} {x1} {pos : Pos} {fs : List E} (h : PA X es (tA G W (eArgs fs))) : PE X (.Tuple es x1 pos) (tE G W (eBlt opTup fs)) :=
  PE_weak (pe_tup h) fun σ H Q h => tX_mono (tX_bind h) fun vs H1 ⟨ms, st, env, ds, S, r, r1, k⟩ => by
    have k := k.ofO
    unfold opTup at k
    split at k
    · rename_i hl
      exact ⟨by rw [r1.length]; exact LIM_le hl, OkO.tup S r1 k⟩
    · exact k.elim
theorem e_lst {es : List Expr} {pos : Pos} {fs : List E} (h : PA X es (tA G W (eArgs fs))) : PE X (.List es pos) (tE G W (eBlt opLst fs)) :=
  PE_weak (pe_lst h) fun σ H Q h => tX_mono (tX_bind h) fun vs H1 ⟨ms, st, env, ds, S, r, r1, k⟩ => by
    have k := k.ofO
    unfold opLst at k
    split at k
    · rename_i hl
      exact ⟨by rw [r1.length]; exact LIM_le hl, OkO.newL S r1 k⟩
    · exact k.elim
theorem blt_tCB {op : List D → O D} {fs : List E} {Q : VK} (h : tE G W (eBlt op fs) σ H Q) : tCB (rN G op) (tA G W (eArgs fs)) σ H Q :=
  tX_mono (tX_bind h) fun vs H1 ⟨ms, st, env, ds, S, r, r1, k⟩ => ⟨ms, st, ds, S, r1, k.ofO⟩
theorem e_blt {x : Str} {e : Expr} {es : List Expr} {p pos : Pos} {id : String} {op : List D → O D} {fs : List E} (hc : CallR X (.builtin id) (rN G op)) (hg : Gl X x) (hm : X.mg x = none) (hv : bootBuiltins x = some (.builtin id)) (ha : PA X (e :: es) (tA G W (eArgs fs)))
    (hn : x ≠ "__name__" := by decide) (hdb : (x == ("__debug__" : Str)) = false := by decide) (he : starEach (e :: es) X.env = (false, eval e X.env) :: starEach es X.env := by rfl) (hpl : (backTo pos (starEach es X.env)).any (·.1) = false := by rfl) :
    PE X (.Call (.Name x p) (e :: es) [] pos) (tE G W (eBlt op fs)) :=
  PE_weak (pe_callB hc hg hm hv ha hn hdb he hpl) fun _ _ _ h => blt_tCB h
theorem e_bty {x : Str} {e : Expr} {es : List Expr} {p pos : Pos} {id : String} {op : List D → O D} {fs : List E} (hc : CallR X (.type id) (rN G op)) (hg : Gl X x) (hm : X.mg x = none) (hv : bootBuiltins x = some (.type id)) (ha : PA X (e :: es) (tA G W (eArgs fs)))
    (hn : x ≠ "__name__" := by decide) (hdb : (x == ("__debug__" : Str)) = false := by decide) (he : starEach (e :: es) X.env = (false, eval e X.env) :: starEach es X.env := by rfl) (hpl : (backTo pos (starEach es X.env)).any (·.1) = false := by rfl) :
    PE X (.Call (.Name x p) (e :: es) [] pos) (tE G W (eBlt op fs)) :=
  PE_weak (pe_callTy hc hg hm hv ha hn hdb he hpl) fun _ _ _ h => blt_tCB h
/-- o[i] -/
theorem e_ix {a b : Expr} {pos : Pos} {f : D → D → O D} {fa fb : E} (ho : IxR X (rO G f)) (ha : PE X a (tE G W fa)) (hb : PE X b (tE G W fb)) (hs : PlainIx b := by exact fun _ _ => rfl) : PE X (.Subscript a b pos) (tE G W (eBin f fa fb)) :=
  PE_weak (pe_ix ho ha hb hs) fun _ _ _ h => bin_tOp h
end
end LF

set_option Elab.async false
set_option linter.all false
set_option maxRecDepth 100000
set_option maxHeartbeats 4000000
/-! The layer: operations. -/
namespace LF
open PySem PySem.Spec PyProof.Rows L2
section
variable {G : Gx} {W : WX} {X : Cx} {σ : L2.St} {H : Hp}
/-! ### ints, texts, tuples, lists: + - * // % ** -/
def opAdd : D → D → O D
  | .int i, .int j => fun st => some (.int (i + j), st)
  | .str x, .str y => fun st => if x.length + y.length ≤ LIM then some (.str (x ++ y), st) else none
  | .tup a, .tup b => fun st => if a.length + b.length ≤ LIM then some (.tup (a ++ b), st) else none
  | .ref i, .ref j => fun st => match st[i]?, st[j]? with
    | some (.lst a), some (.lst b) => if a.length + b.length ≤ LIM then newL (a ++ b) st else none
    | _, _ => none
  | _, _ => fun _ => none
def opSub : D → D → O D
  | .int i, .int j => fun st => some (.int (i - j), st)
  | _, _ => fun _ => none
def opMul : D → D → O D
  | .int i, .int j => fun st => if (-(2 ^ 64) < i ∧ i < 2 ^ 64) ∨ (-(2 ^ 64) < j ∧ j < 2 ^ 64) then some (.int (i * j), st) else none
  | .ref i, .int k => fun st => match st[i]? with
    | some (.lst a) => if a.length * k.toNat ≤ LIM ∧ -(2 ^ 63) ≤ k ∧ k < 2 ^ 63 then newL (List.replicate k.toNat a).flatten st else none
    | _ => none
  | _, _ => fun _ => none
def opDiv : D → D → O D
  | .int i, .int j => fun st => if 0 < j ∧ j < 1073741824 then some (.int (i / j), st) else none
  | _, _ => fun _ => none
def opMod : D → D → O D
  | .int i, .int j => fun st => if 0 < j then some (.int (i % j), st) else none
  | _, _ => fun _ => none
def opPow : D → D → O D
  | .int i, .int j => fun st => if 0 ≤ j ∧ j ≤ 1000000 ∧ i.natAbs < 2 ^ 64 then some (.int (i ^ j.toNat), st) else none
  | _, _ => fun _ => none
def opNeg : D → O D
  | .int i => fun st => some (.int (-i), st)
  | _ => fun _ => none
theorem OkO.int {Q : VK} {ms : List Addr} {st : Sto} {i : Int} (S : SRel G ms st H) (h : OkO (RV G) G Q ms H (some (.int i, st))) : Q (.int i) H := OkO.val S (by simp only [RV]) h
theorem OkO.bl {Q : VK} {ms : List Addr} {st : Sto} {i : Bool} (S : SRel G ms st H) (h : OkO (RV G) G Q ms H (some (.bl i, st))) : Q (.bl i) H := OkO.val S (by simp only [RV]) h
theorem OkO.str {Q : VK} {ms : List Addr} {st : Sto} {i : Str} (S : SRel G ms st H) (h : OkO (RV G) G Q ms H (some (.str i, st))) : Q (.str i) H := OkO.val S (by simp only [RV]) h
theorem o_add (hK : X.K = G.K) : OpR X (binaryOp .Add) (rO G opAdd) := OpR_imp (op_add.or (op_add_str.or (op_catA.or op_cat))) fun v u H Q ⟨ms, st, x, y, S, rx, ry, k⟩ => by
  unfold opAdd at k
  split at k
  · simp only [RV] at rx ry
    subst rx ry
    exact .inl ⟨_, _, rfl, rfl, OkO.int S k⟩
  · simp only [RV] at rx ry
    subst rx ry
    split at k
    · rename_i hl
      exact .inr (.inl ⟨_, _, rfl, rfl, LIM_le hl, OkO.str S k⟩)
    · exact k.elim
  · rename_i a b
    have rx0 := rx
    have ry0 := ry
    simp only [RV] at rx ry
    obtain ⟨p, vs, rfl, h1, h2⟩ := rx
    obtain ⟨q, us, rfl, h3, h4⟩ := ry
    split at k
    · rename_i hl
      refine .inr (.inr (.inl ⟨p, q, vs, us, rfl, rfl, by rw [hK]; exact h1.t, by rw [hK]; exact h3.t, by rw [h2.length, h4.length]; exact LIM_le hl, fun e => ?_, fun _ e => ?_, fun _ _ => OkO.tup S (h2.app h4) k⟩))
      · have hl0 := h2.length
        rw [e] at hl0
        have e2 : a = [] := List.eq_nil_of_length_eq_zero hl0.symm
        subst e2
        exact OkO.val S ry0 k
      · have hl0 := h4.length
        rw [e] at hl0
        have e2 : b = [] := List.eq_nil_of_length_eq_zero hl0.symm
        subst e2
        rw [List.append_nil] at k
        exact OkO.val S rx0 k
    · exact k.elim
  · split at k
    · rename_i a b e1 e2
      obtain ⟨p, vs, rfl, _, h1, h2⟩ := S.ref e1 rx
      obtain ⟨q, us, rfl, _, h3, h4⟩ := S.ref e2 ry
      split at k
      · rename_i hl
        exact .inr (.inr (.inr ⟨p, q, vs, us, rfl, rfl, h1, h3, by rw [h2.length, h4.length]; exact LIM_le hl, OkO.newL S (h2.app h4) k⟩))
      · exact k.elim
    · exact k.elim
  · exact k.elim
theorem o_sub : OpR X (binaryOp .Sub) (rO G opSub) := OpR_imp op_sub fun v u H Q ⟨ms, st, x, y, S, rx, ry, k⟩ => by
  unfold opSub at k
  split at k
  · simp only [RV] at rx ry
    subst rx ry
    exact ⟨_, _, rfl, rfl, OkO.int S k⟩
  · exact k.elim
theorem RVs.repf {ms : List Addr} {ds : List D} {vs : List V} (h : RVs G ms H ds vs) : ∀ n, RVs G ms H (List.replicate n ds).flatten (List.replicate n vs).flatten
  | 0 => by simp [RVs]
  | n + 1 => by
    simp only [List.replicate_succ, List.flatten_cons]
    exact h.app (RVs.repf h n)
theorem o_mul : OpR X (binaryOp .Mult) (rO G opMul) := OpR_imp (op_mul.or op_rep) fun v u H Q ⟨ms, st, x, y, S, rx, ry, k⟩ => by
  unfold opMul at k
  split at k
  · simp only [RV] at rx ry
    subst rx ry
    split at k
    · rename_i hc
      exact .inl ⟨_, _, rfl, rfl, hc, OkO.int S k⟩
    · exact k.elim
  · simp only [RV] at ry
    subst ry
    split at k
    · rename_i a e1
      obtain ⟨p, vs, rfl, _, h1, h2⟩ := S.ref e1 rx
      split at k
      · rename_i hl
        exact .inr ⟨p, _, vs, rfl, rfl, h1, hl.2.1, hl.2.2, by rw [h2.length]; exact LIM_le hl.1, OkO.newL S (h2.repf _) k⟩
      · exact k.elim
    · exact k.elim
  · exact k.elim
theorem o_div : OpR X (binaryOp .FloorDiv) (rO G opDiv) := OpR_imp op_fdiv fun v u H Q ⟨ms, st, x, y, S, rx, ry, k⟩ => by
  unfold opDiv at k
  split at k
  · simp only [RV] at rx ry
    subst rx ry
    split at k
    · rename_i hc
      exact ⟨_, _, rfl, rfl, hc, OkO.int S k⟩
    · exact k.elim
  · exact k.elim
theorem o_mod : OpR X (binaryOp .Mod) (rO G opMod) := OpR_imp op_mod fun v u H Q ⟨ms, st, x, y, S, rx, ry, k⟩ => by
  unfold opMod at k
  split at k
  · simp only [RV] at rx ry
    subst rx ry
    split at k
    · rename_i hc
      exact ⟨_, _, rfl, rfl, hc, OkO.int S k⟩
    · exact k.elim
  · exact k.elim
theorem o_pow : OpR X (binaryOp .Pow) (rO G opPow) := OpR_imp op_pow fun v u H Q ⟨ms, st, x, y, S, rx, ry, k⟩ => by
  unfold opPow at k
  split at k
  · simp only [RV] at rx ry
    subst rx ry
    split at k
    · rename_i hc
      exact ⟨_, _, rfl, rfl, hc, OkO.int S k⟩
    · exact k.elim
  · exact k.elim
theorem o_neg : UnR X (unaryOp .USub) (rU1 G opNeg) := UnR_imp un_neg fun v H Q ⟨ms, st, x, S, rx, k⟩ => by
  unfold opNeg at k
  split at k
  · simp only [RV] at rx
    subst rx
    exact ⟨_, rfl, OkO.int S k⟩
  · exact k.elim
/-! ### comparisons -/
def opCmp (f : Int → Int → Bool) : D → D → O D
  | .int i, .int j => fun st => some (.bl (f i j), st)
  | _, _ => fun _ => none
theorem o_cmp {op : CmpOp} {f : Int → Int → Bool} (h : OpR X (compareOp op) (rI0 fun i j => .bl (f i j))) : OpR X (compareOp op) (rO G (opCmp f)) := OpR_imp h fun v u H Q ⟨ms, st, x, y, S, rx, ry, k⟩ => by
  unfold opCmp at k
  split at k
  · simp only [RV] at rx ry
    subst rx ry
    exact ⟨_, _, rfl, rfl, OkO.bl S k⟩
  · exact k.elim
abbrev opLt := opCmp fun i j => decide (i < j)
abbrev opLe := opCmp fun i j => decide (i ≤ j)
abbrev opGt := opCmp fun i j => decide (j < i)
abbrev opGe := opCmp fun i j => decide (j ≤ i)
theorem o_lt : OpR X (compareOp .Lt) (rO G opLt) := o_cmp op_lt
theorem o_le : OpR X (compareOp .LtE) (rO G opLe) := o_cmp op_le
theorem o_gt : OpR X (compareOp .Gt) (rO G opGt) := o_cmp op_gt
theorem o_ge : OpR X (compareOp .GtE) (rO G opGe) := o_cmp op_ge
def isNon : D → Bool
  | .non => true
  | _ => false
theorem isNon_ok {ms : List Addr} {d : D} {v : V} (r : RV G ms H d v) : decide (v = V.non) = isNon d := by
  cases d with
  | non => simp only [RV] at r; subst r; rfl
  | bl _ => simp only [RV] at r; subst r; rfl
  | int _ => simp only [RV] at r; subst r; rfl
  | str _ => simp only [RV] at r; subst r; rfl
  | tup _ => simp only [RV] at r; obtain ⟨a, vs, rfl, _⟩ := r; rfl
  | ref _ => simp only [RV] at r; obtain ⟨a, rfl, _⟩ := r; rfl
  | glo _ => simp only [RV] at r; subst r; rfl
  | ty _ => simp only [RV] at r; subst r; rfl
  | scr _ => simp only [RV] at r; obtain ⟨a, rfl, _⟩ := r; rfl
def opIs : D → D → O D
  | x, .non => fun st => some (.bl (isNon x), st)
  | _, _ => fun _ => none
def opIsNot : D → D → O D
  | x, .non => fun st => some (.bl (!isNon x), st)
  | _, _ => fun _ => none
theorem o_is : OpR X (compareOp .Is) (rO G opIs) := OpR_imp op_isN fun v u H Q ⟨ms, st, x, y, S, rx, ry, k⟩ => by
  unfold opIs at k
  split at k
  · simp only [RV] at ry
    subst ry
    exact ⟨rfl, by rw [isNon_ok rx]; exact OkO.bl S k⟩
  · exact k.elim
theorem o_isnot : OpR X (compareOp .IsNot) (rO G opIsNot) := OpR_imp op_notN fun v u H Q ⟨ms, st, x, y, S, rx, ry, k⟩ => by
  unfold opIsNot at k
  split at k
  · simp only [RV] at ry
    subst ry
    exact ⟨rfl, by rw [isNon_ok rx]; exact OkO.bl S k⟩
  · exact k.elim
/-! ### data -/
def mapO {α β : Type} (f : α → Option β) : List α → Option (List β)
  | [] => some []
  | x :: xs => match f x, mapO f xs with
    | some y, some ys => some (y :: ys)
    | _, _ => none
/-- what a value is as data, its lists read in the store -/
def deep (st : Sto) : Nat → D → Option PyData
  | 0 => fun d => match d with
    | .non => some .none
    | .bl b => some (.bool b)
    | .int i => some (.int i)
    | .str x => some (.str x)
    | _ => none
  | n + 1 => fun d => match d with
    | .non => some .none
    | .bl b => some (.bool b)
    | .int i => some (.int i)
    | .str x => some (.str x)
    | .tup ds => (mapO (deep st n) ds).map .tuple
    | .ref i => match st[i]? with
      | some (.lst ds) => (mapO (deep st n) ds).map .list
      | _ => none
    | _ => none
theorem dpAll {ms : List Addr} {f : D → Option PyData} (h : ∀ d v p, RV G ms H d v → f d = some p → Dp G.K H v p) : ∀ (ds : List D) (vs : List V) (ps : List PyData), RVs G ms H ds vs → mapO f ds = some ps → DpAll G.K H vs ps
  | [], vs, ps, r, e => by
    simp only [RVs] at r
    simp only [mapO] at e
    cases e
    subst r
    exact .nil
  | d :: ds, vs, ps, r, e => by
    simp only [RVs] at r
    obtain ⟨v, r', rfl, r1, r2⟩ := r
    simp only [mapO] at e
    split at e
    · rename_i p qs e1 e2
      cases e
      exact .cons (h d v p r1 e1) (dpAll h ds r' qs r2 e2)
    · cases e
theorem dp_of {ms : List Addr} {st : Sto} (S : SRel G ms st H) : ∀ (n : Nat) (d : D) (v : V) (p : PyData), RV G ms H d v → deep st n d = some p → Dp G.K H v p := by
  intro n
  induction n with
  | zero =>
    intro d v p r e
    cases d <;> simp only [deep] at e <;> simp only [RV] at r <;> (first | (cases e; done) | skip) <;> cases e <;> subst r
    · exact .non
    · exact .bl _
    · exact .int _
    · exact .str _
  | succ n ih =>
    intro d v p r e
    cases d with
    | non => simp only [deep] at e; simp only [RV] at r; cases e; subst r; exact .non
    | bl _ => simp only [deep] at e; simp only [RV] at r; cases e; subst r; exact .bl _
    | int _ => simp only [deep] at e; simp only [RV] at r; cases e; subst r; exact .int _
    | str _ => simp only [deep] at e; simp only [RV] at r; cases e; subst r; exact .str _
    | tup ds =>
      simp only [deep] at e
      simp only [RV] at r
      obtain ⟨a, vs, rfl, h1, h2⟩ := r
      cases e1 : mapO (deep st n) ds with
      | none => rw [e1] at e; cases e
      | some ps =>
        rw [e1] at e
        cases e
        exact .tup h1.t (dpAll ih ds vs ps h2 e1)
    | ref i =>
      simp only [deep] at e
      split at e
      · rename_i ds e0
        obtain ⟨a, vs, rfl, _, h1, h2⟩ := S.ref e0 r
        cases e1 : mapO (deep st n) ds with
        | none => rw [e1] at e; cases e
        | some ps =>
          rw [e1] at e
          cases e
          exact .lst (SqL.of h1) (dpAll ih ds vs ps h2 e1)
      · cases e
    | glo _ => simp only [deep] at e; cases e
    | ty _ => simp only [deep] at e; cases e
    | scr _ => simp only [deep] at e; cases e
/-- x == y of data -/
def eqD (st : Sto) (x y : D) : Option Bool := match deep st 66 x, deep st 66 y with
  | some p, some q => if SeqAt.shaped p = true ∧ SeqAt.shaped q = true then some (PyData.eqv p q) else none
  | _, _ => none
def opEq (x y : D) : O D := fun st => match eqD st x y with
  | some b => some (.bl b, st)
  | none => none
def opNe (x y : D) : O D := fun st => match eqD st x y with
  | some b => some (.bl (!b), st)
  | none => none
theorem eqD_ok {ms : List Addr} {st : Sto} (S : SRel G ms st H) {x y : D} {v u : V} {b : Bool} (rx : RV G ms H x v) (ry : RV G ms H y u) (h : eqD st x y = some b) : ∃ d e, Dp G.K H v d ∧ Dp G.K H u e ∧ SeqAt.shaped d = true ∧ SeqAt.shaped e = true ∧ PyData.eqv d e = b := by
  unfold eqD at h
  split at h
  · rename_i p q e1 e2
    split at h
    · rename_i hs
      cases h
      exact ⟨p, q, dp_of S _ _ _ _ rx e1, dp_of S _ _ _ _ ry e2, hs.1, hs.2, rfl⟩
    · cases h
  · cases h
theorem o_eq (hK : X.K = G.K) (hu : X.A.units + 64 < cLine) : OpR X (compareOp .Eq) (rO G opEq) := OpR_imp (op_eqD hu) fun v u H Q ⟨ms, st, x, y, S, rx, ry, k⟩ => by
  unfold opEq at k
  split at k
  · rename_i b e
    obtain ⟨d, d', h1, h2, h3, h4, rfl⟩ := eqD_ok S rx ry e
    exact ⟨d, d', by rw [hK]; exact h1, by rw [hK]; exact h2, h3, h4, OkO.bl S k⟩
  · exact k.elim
theorem o_ne (hK : X.K = G.K) (hu : X.A.units + 64 < cLine) : OpR X (compareOp .NotEq) (rO G opNe) := OpR_imp (op_neD hu) fun v u H Q ⟨ms, st, x, y, S, rx, ry, k⟩ => by
  unfold opNe at k
  split at k
  · rename_i b e
    obtain ⟨d, d', h1, h2, h3, h4, rfl⟩ := eqD_ok S rx ry e
    exact ⟨d, d', by rw [hK]; exact h1, by rw [hK]; exact h2, h3, h4, OkO.bl S k⟩
  · exact k.elim

/-! ### in, of flat things -/
def flatD : D → Bool
  | .non => true
  | .bl _ => true
  | .int _ => true
  | .str _ => true
  | _ => false
def eqF : D → D → Bool
  | .non, .non => true
  | .bl a, .bl b => a == b
  | .bl a, .int b => (if a then 1 else 0) == b
  | .int a, .bl b => a == (if b then 1 else 0)
  | .int a, .int b => a == b
  | .str a, .str b => a == b
  | _, _ => false
theorem flat_ok {ms : List Addr} {d : D} {v : V} (r : RV G ms H d v) (h : flatD d = true) : flatV v = true ∧ ∀ e u, RV G ms H e u → flatD e = true → eqV u v = eqF e d := by
  cases d <;> simp only [flatD] at h <;> (first | (cases h; done) | skip) <;> simp only [RV] at r <;> subst r <;> refine ⟨rfl, fun e u re he => ?_⟩ <;> cases e <;> simp only [flatD] at he <;> (first | (cases he; done) | skip) <;> simp only [RV] at re <;> subst re <;> rfl
/-- the items of a tuple or a list -/
def seqOf : D → Sto → Option (List D)
  | .tup ds, _ => some ds
  | .ref i, st => match st[i]? with
    | some (.lst ds) => some ds
    | _ => none
  | .scr ns, _ => some (ns.map D.int)
  | _, _ => none
theorem seq_ok {ms : List Addr} {st : Sto} (S : SRel G ms st H) {d : D} {v : V} {ds : List D} (r : RV G ms H d v) (h : seqOf d st = some ds) : ∃ p vs, v = .ref p ∧ (SqL G.K H p vs ∨ SqT G.K H p vs) ∧ RVs G ms H ds vs := by
  cases d with
  | tup es =>
    simp only [seqOf] at h
    cases h
    simp only [RV] at r
    obtain ⟨a, vs, rfl, h1, h2⟩ := r
    exact ⟨a, vs, rfl, .inr h1.t, h2⟩
  | ref i =>
    simp only [seqOf] at h
    split at h
    · rename_i es e
      cases h
      obtain ⟨a, vs, rfl, _, h1, h2⟩ := S.ref e r
      exact ⟨a, vs, rfl, .inl (SqL.of h1), h2⟩
    · cases h
  | scr ns =>
    simp only [seqOf] at h
    cases h
    simp only [RV] at r
    obtain ⟨a, rfl, h1⟩ := r
    exact ⟨a, _, rfl, .inl h1.l, RVs.ints ns⟩
  | non => cases h
  | bl _ => cases h
  | int _ => cases h
  | str _ => cases h
  | glo _ => cases h
  | ty _ => cases h
def inF (x : D) (ds : List D) : Bool := ds.any fun y => eqF y x
theorem inF_ok {ms : List Addr} {x : D} {v : V} (r : RV G ms H x v) (hx : flatD x = true) : ∀ {ds : List D} {vs : List V}, RVs G ms H ds vs → ds.all flatD = true → vs.all flatV = true ∧ inV v vs = inF x ds
  | [], vs, h, _ => by
    simp only [RVs] at h
    subst h
    exact ⟨rfl, rfl⟩
  | d :: ds, vs, h, ha => by
    simp only [RVs] at h
    obtain ⟨u, r', rfl, r1, r2⟩ := h
    simp only [List.all_cons, Bool.and_eq_true] at ha
    obtain ⟨i1, i2⟩ := inF_ok r hx r2 ha.2
    refine ⟨by simp only [List.all_cons, Bool.and_eq_true]; exact ⟨(flat_ok r1 ha.1).1, i1⟩, ?_⟩
    unfold inV inF at i2 ⊢
    rw [List.any_cons, List.any_cons, i2, (flat_ok r hx).2 d u r1 ha.1]
def opIn (neg : Bool) (x y : D) : O D := fun st => match seqOf y st with
  | some ds => if flatD x = true ∧ ds.all flatD = true then some (.bl (if neg then !inF x ds else inF x ds), st) else none
  | none => none
theorem rIn_of (hK : X.K = G.K) {neg : Bool} {v u : V} {Q : VK} (h : rO G (opIn neg) v u H Q) : rIn X.K neg v u H Q := by
  obtain ⟨ms, st, x, y, S, rx, ry, k⟩ := h
  unfold opIn at k
  split at k
  · rename_i ds e
    split at k
    · rename_i hf
      obtain ⟨p, vs, rfl, h1, h2⟩ := seq_ok S ry e
      obtain ⟨i1, i2⟩ := inF_ok rx hf.1 h2 hf.2
      exact ⟨p, vs, rfl, by rw [hK]; exact h1, (flat_ok rx hf.1).1, i1, by rw [i2]; exact OkO.bl S k⟩
    · exact k.elim
  · exact k.elim
theorem o_in (hK : X.K = G.K) : OpR X (compareOp .In) (rO G (opIn false)) := OpR_imp op_in_seq fun v u H Q h => rIn_of hK h
theorem o_notin (hK : X.K = G.K) : OpR X (compareOp .NotIn) (rO G (opIn true)) := OpR_imp op_notIn_seq fun v u H Q h => rIn_of hK h

/-! ### subscripts -/
def opIx (x y : D) : O D := fun st => match x, y with
  | .str z, .int i => match atI z.cps.toList i with
    | some c => if z.length ≤ LIM then some (.str ⟨#[c]⟩, st) else none
    | none => none
  | x, .int i => match seqOf x st with
    | some ds => match atI ds i with
      | some d => some (d, st)
      | none => none
    | none => none
  | _, _ => none
theorem atI_ok {ms : List Addr} {ds : List D} {vs : List V} {i : Int} {d : D} (r : RVs G ms H ds vs) (h : atI ds i = some d) : ∃ v, atI vs i = some v ∧ RV G ms H d v := by
  unfold atI at h ⊢
  rw [r.length]
  cases e : ixN ds.length i with
  | none => rw [e] at h; cases h
  | some j =>
    rw [e] at h
    exact r.at h
theorem o_ix (hK : X.K = G.K) : IxR X (rO G opIx) := IxR_imp ix_seq fun v u H Q ⟨ms, st, x, y, S, rx, ry, k⟩ => by
  unfold opIx at k
  split at k
  · simp only [RV] at rx ry
    subst rx ry
    split at k
    · rename_i c e
      split at k
      · rename_i hl
        exact .inr (.inr ⟨_, _, _, rfl, rfl, LIM_le hl, e, OkO.str S k⟩)
      · exact k.elim
    · exact k.elim
  · simp only [RV] at ry
    subst ry
    split at k
    · rename_i ds e
      split at k
      · rename_i d e2
        obtain ⟨p, vs, rfl, h1, h2⟩ := seq_ok S rx e
        obtain ⟨w, h3, h4⟩ := atI_ok h2 e2
        rcases h1 with h1 | h1
        · exact .inl ⟨p, vs, _, w, rfl, rfl, by rw [hK]; exact h1, h3, OkO.val S h4 k⟩
        · exact .inr (.inl ⟨p, vs, _, w, rfl, rfl, by rw [hK]; exact h1, h3, OkO.val S h4 k⟩)
      · exact k.elim
    · exact k.elim
  · exact k.elim
/-- x[lo:hi] -/
def cutD {α : Type} (xs : List α) (lo hi : Option Int) : List α := (xs.drop (HT.sIx xs.length 0 lo)).take (HT.sIx xs.length xs.length hi - HT.sIx xs.length 0 lo)
theorem cut_ok {ms : List Addr} {ds : List D} {vs : List V} (lo hi : Option Int) (r : RVs G ms H ds vs) : RVs G ms H (cutD ds lo hi) (cutV vs lo hi) := by
  unfold cutD cutV
  rw [r.length]
  exact (r.drop _).take _
def opSl (lo hi : Option Int) (x : D) : O D := fun st => match x with
  | .str z => if z.length ≤ LIM then some (.str (cutS z lo hi), st) else none
  | .tup ds => some (.tup (cutD ds lo hi), st)
  | x => match seqOf x st with
    | some ds => newL (cutD ds lo hi) st
    | none => none
def rS (G : Gx) (op : Option Int → Option Int → D → O D) : V → Option Int → Option Int → Hp → VK → Prop := fun v lo hi H Q => ∃ ms st x, SRel G ms st H ∧ RV G ms H x v ∧ OkO (RV G) G Q ms H (op lo hi x st)
theorem cut_whole {α : Type} {xs : List α} {lo hi : Option Int} (h : HT.sIx xs.length 0 lo = 0 ∧ HT.sIx xs.length xs.length hi = xs.length) : cutD xs lo hi = xs := by
  unfold cutD
  rw [h.1, h.2]
  simp
theorem s_sl (hK : X.K = G.K) : SlR X (rS G opSl) := SlR_imp (sl_str.or (sl_tupA.or sl_list)) fun v lo hi H Q ⟨ms, st, x, S, rx, k⟩ => by
  unfold opSl at k
  split at k
  · simp only [RV] at rx
    subst rx
    split at k
    · rename_i hl
      exact .inl ⟨_, rfl, LIM_le hl, OkO.str S k⟩
    · exact k.elim
  · rename_i ds
    have rx0 := rx
    simp only [RV] at rx
    obtain ⟨a, vs, rfl, h1, h2⟩ := rx
    refine .inr (.inl ⟨a, vs, rfl, by rw [hK]; exact h1.t, fun e => ?_, fun _ => OkO.tup S (cut_ok lo hi h2) k⟩)
    rw [h2.length] at e
    rw [cut_whole e] at k
    exact OkO.val S rx0 k
  · split at k
    · rename_i x _ _ hn _ ds e
      cases x with
      | tup es => exact (hn es rfl).elim
      | ref i =>
        simp only [seqOf] at e
        split at e
        · rename_i es e1
          cases e
          obtain ⟨a, vs, rfl, _, h1, h2⟩ := S.ref e1 rx
          exact .inr (.inr ⟨a, vs, rfl, SqL.of h1, OkO.newL S (cut_ok lo hi h2) k⟩)
        · cases e
      | scr ns =>
        simp only [seqOf] at e
        cases e
        simp only [RV] at rx
        obtain ⟨a, rfl, h1⟩ := rx
        exact .inr (.inr ⟨a, _, rfl, by rw [hK]; exact h1.l, OkO.newL S (cut_ok lo hi (RVs.ints ns)) k⟩)
      | non => cases e
      | bl _ => cases e
      | int _ => cases e
      | str _ => cases e
      | glo _ => cases e
      | ty _ => cases e
    · exact k.elim
abbrev RP : List Addr → Hp → Option Int → Option Int → Prop := fun _ _ a b => b = a
def ePart : Option E → Sl → M (Option Int)
  | none => fun _ st => .ok none st
  | some f => fun env st => (f env st).bind fun x s => match x with
    | .int i => .ok (some i) s
    | _ => .bad
theorem p_none : PO X none (tX RP G W (ePart none)) := ⟨fun pins s σ H Q I h => po_none.run pins s σ H Q I (by
  obtain ⟨ms, st, env, S, _, k⟩ := h
  exact k none ms H Gr.refl S rfl)⟩
theorem p_some {e : Expr} {f : E} (h : PE X e (tE G W f)) : PO X (some e) (tX RP G W (ePart (some f))) := ⟨fun pins s σ H Q I q => (po_some h).run pins s σ H Q I (tX_mono (tX_bind q) fun v H1 ⟨ms, st, env, x, S, _, r1, k⟩ => by
  cases x with
  | int i =>
    simp only [RV] at r1
    exact ⟨i, r1, k (some i) ms H1 Gr.refl S rfl⟩
  | _ => exact k.elim)⟩
def eSl (a : E) (lo hi : Option E) : E := fun env st => (a env st).bind fun x s => (ePart lo env s).bind fun l s => (ePart hi env s).bind fun h s => ofO (opSl l h x s)
theorem e_sl {a : Expr} {lo hi : Option Expr} {p2 pos : Pos} {fa : E} {fl fh : Option E} (hK : X.K = G.K) (ha : PE X a (tE G W fa)) (hl : PO X lo (tX RP G W (ePart fl))) (hh : PO X hi (tX RP G W (ePart fh))) :
    PE X (.Subscript a (.Slice lo hi none p2) pos) (tE G W (eSl fa fl fh)) := PE_weak (pe_slice (s_sl (G := G) hK) ha hl hh) fun σ H Q h => by
  obtain ⟨ms, st, env, S, r, k⟩ := h
  exact ⟨ms, st, env, S, r, Okk.bind k fun x s v m1 H1 g1 S1 r1 k1 => ⟨m1, s, env, S1, r.gr g1, Okk.bind k1 fun l s2 l' m2 H2 g2 S2 r2 k2 => ⟨m2, s2, env, S2, r.gr (g1.trans g2), Okk.bind k2 fun h s3 h' m3 H3 g3 S3 r3 k3 => by
    cases r2
    cases r3
    exact ⟨m3, s3, x, S3, RV.gr (g2.trans g3) _ _ r1, k3.ofO⟩⟩⟩⟩

/-! ### built-in functions -/
def lenOf : D → Sto → Option Nat
  | .str x, _ => if x.length ≤ LIM then some x.length else none
  | x, st => (seqOf x st).map List.length
def opLen : List D → O D
  | [x] => fun st => match lenOf x st with
    | some n => some (.int n, st)
    | none => none
  | _ => fun _ => none
theorem RVs.one' {ms : List Addr} {d : D} {vs : List V} (h : RVs G ms H [d] vs) : ∃ v, vs = [v] ∧ RV G ms H d v := by
  simp only [RVs] at h
  obtain ⟨v, r, rfl, h1, rfl⟩ := h
  exact ⟨v, rfl, h1⟩
theorem RVs.two' {ms : List Addr} {d e : D} {vs : List V} (h : RVs G ms H [d, e] vs) : ∃ v u, vs = [v, u] ∧ RV G ms H d v ∧ RV G ms H e u := by
  simp only [RVs] at h
  obtain ⟨v, r, rfl, h1, u, r2, rfl, h2, rfl⟩ := h
  exact ⟨v, u, rfl, h1, h2⟩
theorem c_len (hK : X.K = G.K) : CallR X (.builtin "len") (rN G opLen) := CallR_imp call_len fun vs H Q ⟨ms, st, ds, S, r, k⟩ => by
  unfold opLen at k
  split at k
  · rename_i x
    obtain ⟨v, rfl, rv⟩ := r.one'
    split at k
    · rename_i n e
      refine ⟨v, n, rfl, ?_, OkO.int S k⟩
      unfold lenOf at e
      split at e
      · simp only [RV] at rv
        subst rv
        split at e
        · rename_i hl
          cases e
          exact ⟨LIM_le hl, rfl⟩
        · cases e
      · cases e1 : seqOf x st with
        | none => rw [e1] at e; cases e
        | some ds =>
          rw [e1] at e
          cases e
          obtain ⟨p, us, rfl, h1, h2⟩ := seq_ok S rv e1
          rcases h1 with h1 | h1
          · exact .inl ⟨us, by rw [hK]; exact h1, h2.length.symm⟩
          · exact .inr ⟨us, by rw [hK]; exact h1, h2.length.symm⟩
    · exact k.elim
  · exact k.elim
def opAbs : List D → O D
  | [.int i] => fun st => some (.int (if i < 0 then -i else i), st)
  | _ => fun _ => none
theorem c_abs : CallR X (.builtin "abs") (rN G opAbs) := CallR_imp call_abs fun vs H Q ⟨ms, st, ds, S, r, k⟩ => by
  unfold opAbs at k
  split at k
  · obtain ⟨v, rfl, rv⟩ := r.one'
    simp only [RV] at rv
    subst rv
    exact ⟨_, rfl, OkO.int S k⟩
  · exact k.elim
/-- int(x): of an int, a bool, a text -/
def opInt : List D → O D
  | [.int i] => fun st => some (.int i, st)
  | [.bl b] => fun st => some (.int (if b then 1 else 0), st)
  | [.str x] => fun st => match PySem.intText? x with
    | some n => if x.length ≤ 640 then some (.int n, st) else none
    | none => none
  | _ => fun _ => none
theorem c_int : CallR X (.type "int") (rN G opInt) := CallR_imp (CallR_or call_int1 call_int_str) fun vs H Q ⟨ms, st, ds, S, r, k⟩ => by
  unfold opInt at k
  split at k
  · obtain ⟨v, rfl, rv⟩ := r.one'
    simp only [RV] at rv
    subst rv
    exact .inl (.inl ⟨_, rfl, OkO.int S k⟩)
  · obtain ⟨v, rfl, rv⟩ := r.one'
    simp only [RV] at rv
    subst rv
    exact .inl (.inr ⟨_, rfl, OkO.int S k⟩)
  · obtain ⟨v, rfl, rv⟩ := r.one'
    simp only [RV] at rv
    subst rv
    split at k
    · rename_i n e
      split at k
      · rename_i hl
        exact .inr ⟨_, n, rfl, e, hl, OkO.int S k⟩
      · exact k.elim
    · exact k.elim
  · exact k.elim
/-- list(x), tuple(x) of a sequence -/
def opList : List D → O D
  | [x] => fun st => match seqOf x st with
    | some ds => newL ds st
    | none => none
  | _ => fun _ => none
def opTuple : List D → O D
  | [x] => fun st => match seqOf x st with
    | some ds => some (.tup ds, st)
    | none => none
  | _ => fun _ => none
theorem c_list (hK : X.K = G.K) : CallR X (.type "list") (rN G opList) := CallR_imp call_list_of fun vs H Q ⟨ms, st, ds, S, r, k⟩ => by
  unfold opList at k
  split at k
  · obtain ⟨v, rfl, rv⟩ := r.one'
    split at k
    · rename_i ds e
      obtain ⟨p, us, rfl, h1, h2⟩ := seq_ok S rv e
      exact ⟨p, us, rfl, by rw [hK]; exact h1, OkO.newL S h2 k⟩
    · exact k.elim
  · exact k.elim
theorem c_tuple (hK : X.K = G.K) : CallR X (.type "tuple") (rN G opTuple) := CallR_imp call_tuple_of fun vs H Q ⟨ms, st, ds, S, r, k⟩ => by
  unfold opTuple at k
  split at k
  · rename_i x
    obtain ⟨v, rfl, rv⟩ := r.one'
    split at k
    · rename_i ds e
      obtain ⟨p, us, rfl, h1, h2⟩ := seq_ok S rv e
      cases x with
      | tup es =>
        simp only [seqOf] at e
        cases e
        have rv0 := rv
        simp only [RV] at rv
        obtain ⟨a, ws, e2, h3, h4⟩ := rv
        cases e2
        exact ⟨p, ws, rfl, .inr ⟨by rw [hK]; exact h3.t, OkO.val S rv0 k⟩⟩
      | ref i =>
        simp only [seqOf] at e
        split at e
        · rename_i es e1
          cases e
          obtain ⟨a, ws, e2, _, h3, h4⟩ := S.ref e1 rv
          cases e2
          exact ⟨p, ws, rfl, .inl ⟨SqL.of h3, OkO.tup S h4 k⟩⟩
        · cases e
      | scr ns =>
        simp only [seqOf] at e
        cases e
        simp only [RV] at rv
        obtain ⟨a, e2, h3⟩ := rv
        cases e2
        exact ⟨p, _, rfl, .inl ⟨by rw [hK]; exact h3.l, OkO.tup S (RVs.ints ns) k⟩⟩
      | non => cases e
      | bl _ => cases e
      | int _ => cases e
      | str _ => cases e
      | glo _ => cases e
      | ty _ => cases e
    · exact k.elim
  · exact k.elim
/-- all([..]), any([..]) of bools -/
def bools : List D → Option (List Bool)
  | [] => some []
  | .bl b :: ds => (bools ds).map (b :: ·)
  | _ => none
theorem bools_ok {ms : List Addr} : ∀ {ds : List D} {vs : List V} {bs : List Bool}, RVs G ms H ds vs → bools ds = some bs → vs = bs.map V.bl
  | [], vs, bs, r, e => by
    simp only [RVs] at r
    simp only [bools] at e
    cases e
    exact r
  | d :: ds, vs, bs, r, e => by
    simp only [RVs] at r
    obtain ⟨v, r', rfl, h1, h2⟩ := r
    cases d with
    | bl b =>
      simp only [RV] at h1
      simp only [bools] at e
      cases e1 : bools ds with
      | none => rw [e1] at e; cases e
      | some cs =>
        rw [e1] at e
        cases e
        rw [h1, bools_ok h2 e1]
        rfl
    | _ => simp only [bools] at e; cases e
def opAll : List D → O D
  | [.ref i] => fun st => match st[i]? with
    | some (.lst ds) => match bools ds with
      | some bs => some (.bl (bs.all id), st)
      | none => none
    | _ => none
  | _ => fun _ => none
def opAny : List D → O D
  | [.ref i] => fun st => match st[i]? with
    | some (.lst ds) => match bools ds with
      | some bs => some (.bl (bs.any id), st)
      | none => none
    | _ => none
  | _ => fun _ => none
theorem c_all (hc : X.calm = true) : CallR X (.builtin "all") (rN G opAll) := CallR_imp (cr_all hc) fun vs H Q ⟨ms, st, ds, S, r, k⟩ => by
  unfold opAll at k
  split at k
  · obtain ⟨v, rfl, rv⟩ := r.one'
    split at k
    · rename_i ds e
      split at k
      · rename_i bs e2
        obtain ⟨a, ws, rfl, _, h3, h4⟩ := S.ref e rv
        exact ⟨a, bs, rfl, SqL.of (by rw [h3, bools_ok h4 e2]), OkO.bl S k⟩
      · exact k.elim
    · exact k.elim
  · exact k.elim
theorem c_any (hc : X.calm = true) : CallR X (.builtin "any") (rN G opAny) := CallR_imp (cr_any hc) fun vs H Q ⟨ms, st, ds, S, r, k⟩ => by
  unfold opAny at k
  split at k
  · obtain ⟨v, rfl, rv⟩ := r.one'
    split at k
    · rename_i ds e
      split at k
      · rename_i bs e2
        obtain ⟨a, ws, rfl, _, h3, h4⟩ := S.ref e rv
        exact ⟨a, bs, rfl, SqL.of (by rw [h3, bools_ok h4 e2]), OkO.bl S k⟩
      · exact k.elim
    · exact k.elim
  · exact k.elim
/-- str(x) of an int, a text -/
def opStr : List D → O D
  | [.int i] => fun st => if i.natAbs.log2 < 1920 then some (.str (toString i), st) else none
  | [.str x] => fun st => some (.str x, st)
  | _ => fun _ => none
theorem c_str : CallR X (.type "str") (rN G opStr) := by
  intro pins s σ H xs us Q I rr hh
  obtain ⟨ms, st, ds, S, r, k⟩ := hh
  unfold opStr at k
  split at k
  · obtain ⟨v, rfl, rv⟩ := r.one'
    simp only [RV] at rv
    subst rv
    split at k
    · rename_i hl
      exact call_str_int pins s σ H _ us Q I rr ⟨_, rfl, hl, OkO.str S k⟩
    · exact k.elim
  · obtain ⟨v, rfl, rv⟩ := r.one'
    simp only [RV] at rv
    subst rv
    exact SkE.call_str_str pins s σ H _ us Q I rr ⟨_, rfl, OkO.str S k⟩
  · exact k.elim
end
end LF

set_option Elab.async false
set_option linter.all false
set_option maxRecDepth 100000
set_option maxHeartbeats 4000000
/-! The layer: methods, kinds, f-strings, fields, calls. -/
namespace LF
open PySem PySem.Spec PyProof.Rows L2
section
variable {G : Gx} {W : WX} {X : Cx} {σ : L2.St} {H : Hp}
/-! ### methods of built-in types -/
def tyOk (T : String) : D → Sto → Bool
  | .str _, _ => T == "str"
  | .ref i, st => T == "list" && match st[i]? with
    | some (.lst _) => true
    | _ => false
  | _, _ => false
theorem ty_ok {ms : List Addr} {st : Sto} (S : SRel G ms st H) {T : String} {x : D} {v : V} (r : RV G ms H x v) (h : tyOk T x st = true) : tyV G.K T v H := by
  cases x with
  | str _ =>
    simp only [RV] at r
    subst r
    simp only [tyOk, beq_iff_eq] at h
    exact h
  | ref i =>
    simp only [tyOk, Bool.and_eq_true, beq_iff_eq] at h
    obtain ⟨h1, h2⟩ := h
    split at h2
    · rename_i ds e
      obtain ⟨a, vs, rfl, _, h3, _⟩ := S.ref e r
      exact .inl ⟨h1, vs, SqL.of h3⟩
    · cases h2
  | non => cases h
  | bl _ => cases h
  | int _ => cases h
  | tup _ => cases h
  | glo _ => cases h
  | ty _ => cases h
  | scr _ => cases h
def eMt (T : String) (op : D → List D → O D) (a : E) (as : List E) : E := fun env st => (a env st).bind fun x s => if tyOk T x s = true then (eArgs as env s).bind fun xs s' => ofO (op x xs s') else .bad
theorem e_mt {o e : Expr} {es : List Expr} {name : Str} {apos cpos : Pos} {T id : String} {op : D → List D → O D} {fo : E} {fs : List E} (hK : X.K = G.K) (pa : PlainAttrs T) (slot : Slot T name id) (hty : typeOf (.builtin id) = pure (.type "method_descriptor")) (hm : MtR X id (rM G op))
    (ho : PE X o (tE G W fo)) (ha : PA X (e :: es) (tA G W (eArgs fs)))
    (hbase : attributeBase o name X.env (eval o X.env) = eval o X.env := by rfl)
    (hfew : ((backTo cpos (starEach (e :: es) X.env)).all (fun x => !x.1) && (backToKw cpos (keywordEach [] X.env)).all (fun x => x.1.isSome)
      && decide ((e :: es).length + ([] : List Keyword).length + (if ([] : List Keyword).isEmpty then 0 else 1) < 30)) = true := by rfl)
    (hline : (apos.endLine == cpos.line) = true := by rfl) (hs : starEach (e :: es) X.env = (false, eval e X.env) :: starEach es X.env := by rfl) (hplain : (backTo cpos (starEach es X.env)).any (·.1) = false := by rfl) :
    PE X (.Call (.Attribute o name apos) (e :: es) [] cpos) (tE G W (eMt T op fo fs)) :=
  PE_weak (pe_bm pa slot hty hm ho ha hbase hfew hline hs hplain) fun σ H Q h => tX_mono (tX_bind h) fun v H1 ⟨ms, st, env, x, S, r, r1, k⟩ => by
    split at k
    · rename_i ht
      refine ⟨by rw [hK]; exact ty_ok S r1 ht, ms, st, env, S, r, Okk.bind k fun xs s vs m1 H2 g1 S1 r2 k1 => ⟨m1, s, x, xs, S1, RV.gr g1 _ _ r1, r2, k1.ofO⟩⟩
    · exact k.elim
theorem e_mt0 {o : Expr} {name : Str} {apos cpos : Pos} {T id : String} {op : D → List D → O D} {fo : E} (hK : X.K = G.K) (pa : PlainAttrs T) (slot : Slot T name id) (hty : typeOf (.builtin id) = pure (.type "method_descriptor")) (hm : MtR X id (rM G op)) (ho : PE X o (tE G W fo))
    (hbase : attributeBase o name X.env (eval o X.env) = eval o X.env := by rfl) (hline : (apos.endLine == cpos.line) = true := by rfl) : PE X (.Call (.Attribute o name apos) [] [] cpos) (tE G W (eMt T op fo [])) :=
  PE_weak (pe_bm0 pa slot hty hm ho hbase hline) fun σ H Q h => tX_mono (tX_bind h) fun v H1 ⟨ms, st, env, x, S, r, r1, k⟩ => by
    split at k
    · rename_i ht
      have k : Okk (RV G) G (fun c d H => W c d σ H) Q ms H1 (ofO (op x [] st)) := k
      exact ⟨by rw [hK]; exact ty_ok S r1 ht, ms, st, x, [], S, r1, by simp only [RVs], k.ofO⟩
    · exact k.elim
/-! lists -/
def opAppend (x : D) (xs : List D) : O D := fun st => match x, xs with
  | .ref i, [y] => match st[i]? with
    | some (.lst ds) => if ds.length < LIM then some (.non, st.set i (.lst (ds ++ [y]))) else none
    | _ => none
  | _, _ => none
theorem OkO.put {Q : VK} {ms : List Addr} {st : Sto} {i : Nat} {a : Addr} {ds : List D} {vs : List V} {d : D} {v : V} (S : SRel G ms st H) (hi : ms[i]? = some a) (r : RVs G ms H ds vs) (rd : RV G ms H d v) (h : OkO (RV G) G Q ms H (some (d, st.set i (.lst ds)))) : Q v (upd H a (.lst vs)) := by
  obtain ⟨c, _, hc⟩ := S.has hi
  have g : Gr ms H ms (upd H a (.lst vs)) := Gr.cell hc
  exact h v ms _ g (S.put hi ⟨vs, upd_same, RVs.gr g _ _ r⟩) (RV.gr g _ _ rd)
theorem m_append : MtR X "list.append" (rM G opAppend) := MtR_imp mt_append fun v vs H Q ⟨ms, st, x, ds, S, rx, rs, k⟩ => by
  unfold opAppend at k
  split at k
  · obtain ⟨u, rfl, ru⟩ := rs.one'
    split at k
    · rename_i es e
      obtain ⟨a, ws, rfl, ha, h1, h2⟩ := S.ref e rx
      split at k
      · rename_i hl
        exact ⟨a, ws, u, rfl, rfl, h1, by rw [h2.length]; exact LIM_lt hl, OkO.put S ha (h2.app (.one ru)) (by simp only [RV]) k⟩
      · exact k.elim
    · exact k.elim
  · exact k.elim
def opExtend (x : D) (xs : List D) : O D := fun st => match x, xs with
  | .ref i, [.ref j] => match st[i]?, st[j]? with
    | some (.lst ds), some (.lst es) => if ds.length + es.length ≤ LIM then some (.non, st.set i (.lst (ds ++ es))) else none
    | _, _ => none
  | _, _ => none
theorem m_extend : MtR X "list.extend" (rM G opExtend) := MtR_imp mt_extend fun v vs H Q ⟨ms, st, x, ds, S, rx, rs, k⟩ => by
  unfold opExtend at k
  split at k
  · obtain ⟨u, rfl, ru⟩ := rs.one'
    split at k
    · rename_i es fs e1 e2
      obtain ⟨a, ws, rfl, ha, h1, h2⟩ := S.ref e1 rx
      obtain ⟨b, us, rfl, _, h3, h4⟩ := S.ref e2 ru
      split at k
      · rename_i hl
        exact ⟨a, b, ws, us, rfl, rfl, h1, h3, by rw [h2.length, h4.length]; exact LIM_le hl, OkO.put S ha (h2.app h4) (by simp only [RV]) k⟩
      · exact k.elim
    · exact k.elim
  · exact k.elim
def opPop (x : D) (xs : List D) : O D := fun st => match x, xs with
  | .ref i, [] => match st[i]? with
    | some (.lst ds) => match ds[ds.length - 1]? with
      | some d => some (d, st.set i (.lst ds.dropLast))
      | none => none
    | _ => none
  | _, _ => none
theorem RVs.dropLast {ms : List Addr} {ds : List D} {vs : List V} (h : RVs G ms H ds vs) : RVs G ms H ds.dropLast vs.dropLast := by
  rw [List.dropLast_eq_take, List.dropLast_eq_take, h.length]
  exact h.take _
theorem m_pop : MtR X "list.pop" (rM G opPop) := MtR_imp mt_pop fun v vs H Q ⟨ms, st, x, ds, S, rx, rs, k⟩ => by
  unfold opPop at k
  split at k
  · simp only [RVs] at rs
    subst rs
    split at k
    · rename_i es e
      obtain ⟨a, ws, rfl, ha, h1, h2⟩ := S.ref e rx
      split at k
      · rename_i d e2
        obtain ⟨y, h3, h4⟩ := h2.at e2
        exact ⟨a, ws, y, rfl, rfl, h1, by rw [h2.length]; exact h3, OkO.put S ha h2.dropLast h4 k⟩
      · exact k.elim
    · exact k.elim
  · exact k.elim
/-! texts -/
def strsOf : List D → Option (List Str)
  | [] => some []
  | .str x :: ds => (strsOf ds).map (x :: ·)
  | _ => none
theorem strs_ok {ms : List Addr} : ∀ {ds : List D} {vs : List V} {bs : List Str}, RVs G ms H ds vs → strsOf ds = some bs → vs = bs.map V.str
  | [], vs, bs, r, e => by
    simp only [RVs] at r
    simp only [strsOf] at e
    cases e
    exact r
  | d :: ds, vs, bs, r, e => by
    simp only [RVs] at r
    obtain ⟨v, r', rfl, h1, h2⟩ := r
    cases d with
    | str b =>
      simp only [RV] at h1
      simp only [strsOf] at e
      cases e1 : strsOf ds with
      | none => rw [e1] at e; cases e
      | some cs =>
        rw [e1] at e
        cases e
        rw [h1, strs_ok h2 e1]
        rfl
    | _ => simp only [strsOf] at e; cases e
def opJoin (x : D) (xs : List D) : O D := fun st => match x, xs with
  | .str a, [y] => match seqOf y st with
    | some ds => match strsOf ds with
      | some ys => if (ys.map (·.length)).sum + ys.length * a.length ≤ LIM then some (.str (Txt.join a ys), st) else none
      | none => none
    | none => none
  | _, _ => none
theorem m_join (hK : X.K = G.K) : MtR X "str.join" (rM G opJoin) := MtR_imp mt_join fun v vs H Q ⟨ms, st, x, ds, S, rx, rs, k⟩ => by
  unfold opJoin at k
  split at k
  · simp only [RV] at rx
    subst rx
    obtain ⟨u, rfl, ru⟩ := rs.one'
    split at k
    · rename_i es e
      split at k
      · rename_i ys e2
        split at k
        · rename_i hl
          obtain ⟨p, us, rfl, h1, h2⟩ := seq_ok S ru e
          have h3 := strs_ok h2 e2
          subst h3
          exact ⟨_, p, ys, rfl, rfl, by rw [hK]; exact h1, Nat.le_trans hl (by decide), OkO.str S k⟩
        · exact k.elim
      · exact k.elim
    · exact k.elim
  · exact k.elim
def opSplit (x : D) (xs : List D) : O D := fun st => match x, xs with
  | .str a, [.str b] => if (b.length == 0) = false ∧ a.length + 2 ≤ LIM then newL ((Txt.split a b).map D.str) st else none
  | _, _ => none
theorem RVs.strs {ms : List Addr} : ∀ ys : List Str, RVs G ms H (ys.map D.str) (ys.map V.str)
  | [] => by simp [RVs]
  | y :: ys => by
    simp only [List.map_cons, RVs]
    exact ⟨_, _, rfl, by simp only [RV], RVs.strs ys⟩
theorem m_split : MtR X "str.split" (rM G opSplit) := MtR_imp mt_split fun v vs H Q ⟨ms, st, x, ds, S, rx, rs, k⟩ => by
  unfold opSplit at k
  split at k
  · simp only [RV] at rx
    subst rx
    obtain ⟨u, rfl, ru⟩ := rs.one'
    simp only [RV] at ru
    subst ru
    split at k
    · rename_i hl
      exact ⟨_, _, rfl, rfl, hl.1, LIM_le hl.2, OkO.newL S (RVs.strs _) k⟩
    · exact k.elim
  · exact k.elim
def opStrip (x : D) (xs : List D) : O D := fun st => match x, xs with
  | .str a, [.str b] => if a.length ≤ LIM then some (.str (Txt.stripChars a b), st) else none
  | _, _ => none
theorem m_strip : MtR X "str.strip" (rM G opStrip) := MtR_imp mt_stripChars fun v vs H Q ⟨ms, st, x, ds, S, rx, rs, k⟩ => by
  unfold opStrip at k
  split at k
  · simp only [RV] at rx
    subst rx
    obtain ⟨u, rfl, ru⟩ := rs.one'
    simp only [RV] at ru
    subst ru
    split at k
    · rename_i hl
      exact ⟨_, _, rfl, rfl, LIM_le hl, OkO.str S k⟩
    · exact k.elim
  · exact k.elim

/-! ### kinds, isinstance -/
inductive Kd where
  | non | bl | int | str | tup | lst | ins (c : Nat)
def kind : D → Sto → Option Kd
  | .non, _ => some .non
  | .bl _, _ => some .bl
  | .int _, _ => some .int
  | .str _, _ => some .str
  | .tup _, _ => some .tup
  | .ref i, st => match st[i]? with
    | some (.lst _) => some .lst
    | some (.ins c _) => some (.ins c)
    | none => none
  | .scr _, _ => some .lst
  | _, _ => none
/-- what the written part must say of a class whose instances are asked -/
structure InsOk (K : PySem.W.Frag) (C : Addr) : Prop where
  cl : Cls K C
  ha : PySem.W.findIn K (.ref C) "__class__" = some (some (.builtin "object.__class__"))
  hn : PySem.W.specialIn K (.builtin "object.__class__") "__get__" = some (some (.builtin "getset_descriptor.__get__"))
  htk : PySem.W.takesIn K (.builtin "object.__class__") = some true
  hm : PySem.W.mroIn K C (.type "object") = some true
/-- a kind's type -/
def KdT (G : Gx) : Kd → Value → Prop
  | .non, t => t = .type "NoneType"
  | .bl, t => t = .type "bool"
  | .int, t => t = .type "int"
  | .str, t => t = .type "str"
  | .tup, t => t = .type "tuple"
  | .lst, t => t = .type "list"
  | .ins c, t => InsOk G.K (G.tb c) ∧ t = .ref (G.tb c)
theorem SRel.ins {ms : List Addr} {st : Sto} (S : SRel G ms st H) {i : Nat} {c : Nat} {fs : List (String × D)} {v : V} (h : st[i]? = some (.ins c fs)) (r : RV G ms H (.ref i) v) : ∃ a dx gs, v = .ref a ∧ ms[i]? = some a ∧ H a = some (.ins (G.tb c) dx gs) ∧ RF G ms H fs gs := by
  simp only [RV] at r
  obtain ⟨a, rfl, ha⟩ := r
  obtain ⟨d, h1, h2⟩ := S.has ha
  rw [h] at h1
  cases h1
  obtain ⟨dx, gs, h3, h4⟩ := h2
  exact ⟨a, dx, gs, rfl, ha, h3, h4⟩
theorem kd_ok {ms : List Addr} {st : Sto} (S : SRel G ms st H) {x : D} {v : V} {k : Kd} {t : Value} (r : RV G ms H x v) (h : kind x st = some k) (ht : KdT G k t) : TyX G.K H v t := by
  cases x with
  | non => simp only [kind] at h; cases h; simp only [RV] at r; subst r; cases ht; exact .base .non
  | bl _ => simp only [kind] at h; cases h; simp only [RV] at r; subst r; cases ht; exact .base (.bl _)
  | int _ => simp only [kind] at h; cases h; simp only [RV] at r; subst r; cases ht; exact .base (.int _)
  | str _ => simp only [kind] at h; cases h; simp only [RV] at r; subst r; cases ht; exact .base (.str _)
  | tup ds =>
    simp only [kind] at h
    cases h
    simp only [RV] at r
    obtain ⟨a, vs, rfl, h1, _⟩ := r
    cases ht
    rcases h1 with h1 | ⟨o, its, n, h2, h3, _⟩
    · exact .base (.tup h1)
    · exact .kTuple h2 h3
  | ref i =>
    simp only [kind] at h
    split at h
    · rename_i ds e
      cases h
      obtain ⟨a, vs, rfl, _, h1, _⟩ := S.ref e r
      cases ht
      exact .base (.lst h1)
    · rename_i c fs e
      cases h
      obtain ⟨a, dx, gs, rfl, _, h1, _⟩ := S.ins e r
      obtain ⟨q, rfl⟩ := ht
      exact .base (.ins h1 q.cl q.ha q.hn q.htk q.hm)
    · cases h
  | scr ns =>
    simp only [kind] at h
    cases h
    simp only [RV] at r
    obtain ⟨a, rfl, h1⟩ := r
    cases ht
    rcases h1 with ⟨o, h1⟩ | ⟨o, its, n, h2, h3, _⟩
    · exact .base (.frz h1)
    · exact .kList h2 h3
  | glo _ => cases h
  | ty _ => cases h
/-- isinstance(x, T): T one class; ans: what is known of the kinds -/
inductive TC where
  | ty (n : String) | glo (n : Nat)
def TC.d : TC → D
  | .ty n => .ty n
  | .glo n => .glo n
def TC.val (G : Gx) : TC → Value
  | .ty n => .type n
  | .glo n => .ref (G.tb n)
def isTC : TC → D → Bool
  | .ty n, .ty m => n == m
  | .glo n, .glo m => n == m
  | _, _ => false
theorem isTC_eq {t : TC} {d : D} (h : isTC t d = true) : d = t.d := by
  cases t <;> cases d <;> simp only [isTC, beq_iff_eq] at h <;> (first | (cases h; done) | (subst h; rfl))
def opIsi (t : TC) (ans : Kd → Option Bool) : List D → O D
  | [x, c] => fun st => if isTC t c = true then match kind x st with
      | some k => match ans k with
        | some b => some (.bl b, st)
        | none => none
      | none => none
    else none
  | _ => fun _ => none
theorem c_isi (hK : X.K = G.K) {t : TC} {ans : Kd → Option Bool} (h : ∀ k b, ans k = some b → ∃ u, KdT G k u ∧ PySem.W.kitOne G.K u (t.val G) = some b) : CallR X (.builtin "isinstance") (rN G (opIsi t ans)) := CallR_imp call_isi fun vs H Q ⟨ms, st, ds, S, r, k⟩ => by
  unfold opIsi at k
  split at k
  · obtain ⟨v, u, rfl, rv, ru⟩ := r.two'
    split at k
    · rename_i ht
      split at k
      · rename_i kd e
        split at k
        · rename_i b e2
          obtain ⟨w, h1, h2⟩ := h kd b e2
          refine ⟨v, u, w, t.val G, b, rfl, ?_, by rw [hK]; exact kd_ok S rv e h1, by rw [hK]; exact h2, OkO.bl S k⟩
          rw [isTC_eq ht] at ru
          cases t with
          | ty n =>
            simp only [TC.d, RV] at ru
            subst ru
            exact .ty n
          | glo n =>
            simp only [TC.d, RV] at ru
            subst ru
            exact .own _
        · exact k.elim
      · exact k.elim
    · exact k.elim
  · exact k.elim
/-- the usual answers -/
def ansTy (n : String) : Kd → Option Bool
  | .non => some (n == "NoneType" || n == "object")
  | .bl => some (n == "bool" || n == "int" || n == "object")
  | .int => some (n == "int" || n == "object")
  | .str => some (n == "str" || n == "object")
  | .tup => some (n == "tuple" || n == "object")
  | .lst => some (n == "list" || n == "object")
  | .ins _ => none
theorem isi_ty (hK : X.K = G.K) {n : String} (h : n = "int" ∨ n = "bool" ∨ n = "str" ∨ n = "tuple" ∨ n = "list") : CallR X (.builtin "isinstance") (rN G (opIsi (.ty n) (ansTy n))) := c_isi hK fun k b e => by
  cases k with
  | ins c => cases e
  | non => simp only [ansTy] at e; cases e; exact ⟨_, rfl, by rcases h with rfl | rfl | rfl | rfl | rfl <;> exact kit_ty (by decide +kernel)⟩
  | bl => simp only [ansTy] at e; cases e; exact ⟨_, rfl, by rcases h with rfl | rfl | rfl | rfl | rfl <;> exact kit_ty (by decide +kernel)⟩
  | int => simp only [ansTy] at e; cases e; exact ⟨_, rfl, by rcases h with rfl | rfl | rfl | rfl | rfl <;> exact kit_ty (by decide +kernel)⟩
  | str => simp only [ansTy] at e; cases e; exact ⟨_, rfl, by rcases h with rfl | rfl | rfl | rfl | rfl <;> exact kit_ty (by decide +kernel)⟩
  | tup => simp only [ansTy] at e; cases e; exact ⟨_, rfl, by rcases h with rfl | rfl | rfl | rfl | rfl <;> exact kit_ty (by decide +kernel)⟩
  | lst => simp only [ansTy] at e; cases e; exact ⟨_, rfl, by rcases h with rfl | rfl | rfl | rfl | rfl <;> exact kit_ty (by decide +kernel)⟩
/-- a built-in type's name as a value -/
theorem e_ty {x : Str} {n : String} {pos : Pos} (hg : Gl X x) (hm : X.mg x = none) (hv : bootBuiltins x = some (.type n)) (hn : x ≠ "__name__" := by decide) (hd : (x == ("__debug__" : Str)) = false := by decide) : PE X (.Name x pos) (tE G W (eC (.ty n))) :=
  e_c (pe_bltn (v := .ty n) hg hm hv rfl hn hd) fun _ _ => by simp only [RV]

/-! ### f-strings -/
def eFmt (a : E) : E := fun env st => (a env st).bind fun x s => match x with
  | .str y => if y.length ≤ LIM then .ok (.str y) s else .bad
  | .int i => if i.natAbs.log2 < 1920 then .ok (.str (toString i)) s else .bad
  | _ => .bad
theorem e_fmt {e : Expr} {fe : E} {pos : Pos} (he : PE X e (tE G W fe)) : PE X (.FormattedValue e (-1) none pos) (tE G W (eFmt fe)) :=
  PE_weak (pe_fmt he) fun σ H Q h => tX_mono (tX_bind h) fun v H1 ⟨ms, st, env, x, S, r, r1, k⟩ => by
    cases x with
    | str y =>
      simp only [RV] at r1
      simp only at k
      split at k
      · rename_i hl
        exact .inl ⟨y, r1, LIM_le hl, k (.str y) ms H1 Gr.refl S (by simp only [RV])⟩
      · exact k.elim
    | int i =>
      simp only [RV] at r1
      simp only at k
      split at k
      · rename_i hl
        exact .inr ⟨i, r1, hl, k _ ms H1 Gr.refl S (by simp only [RV])⟩
      · exact k.elim
    | _ => exact k.elim
def eJoin : List E → Str → E
  | [], acc => fun _ st => .ok (.str acc) st
  | a :: as, acc => fun env st => (a env st).bind fun x s => match x with
    | .str y => if (acc ++ y).length ≤ LIM then eJoin as (acc ++ y) env s else .bad
    | _ => .bad
theorem join_tJs : ∀ (fs : List E) (acc : Str) (H : Hp) (Q : VK), tE G W (eJoin fs acc) σ H Q → tJs (fs.map (tE G W)) acc σ H fun out H1 => Q (.str out) H1
  | [], acc, H, Q, ⟨ms, st, env, S, r, k⟩ => k (.str acc) ms H Gr.refl S (by simp only [RV])
  | f :: fs, acc, H, Q, h => tX_mono (tX_bind h) fun v H1 ⟨ms, st, env, x, S, r, r1, k⟩ => by
    cases x with
    | str y =>
      simp only [RV] at r1
      simp only at k
      split at k
      · rename_i hl
        exact ⟨y, r1, LIM_le hl, join_tJs fs _ H1 Q ⟨ms, st, env, S, r, k⟩⟩
      · exact k.elim
    | _ => exact k.elim
theorem e_joined {v1 v2 : Expr} {rest : List Expr} {fs : List E} {pos : Pos} (h : PJ X (v1 :: v2 :: rest) (fs.map (tE G W))) : PE X (.JoinedStr (v1 :: v2 :: rest) pos) (tE G W (eJoin fs Str.empty)) :=
  PE_weak (pe_joined h) fun σ H Q q => join_tJs fs _ H Q q

/-! ### fields -/
theorem ofString_inj {a b : String} (h : Str.ofString a = Str.ofString b) : a = b := by
  unfold Str.ofString at h
  rw [cpsOfBytes_string, cpsOfBytes_string] at h
  have h1 : a.toList.map Char.toNat = b.toList.map Char.toNat := by simpa using h
  have h2 : a.toList = b.toList := by
    have inj : ∀ (l m : List Char), l.map Char.toNat = m.map Char.toNat → l = m := by
      intro l
      induction l with
      | nil => intro m e; cases m with
        | nil => rfl
        | cons _ _ => simp at e
      | cons c l ih =>
        intro m e
        cases m with
        | nil => simp at e
        | cons d m =>
          simp only [List.map_cons, List.cons.injEq] at e
          rw [ih m e.2]
          have : c = d := Char.ext (UInt32.toNat_inj.mp e.1)
          rw [this]
    exact inj _ _ h1
  exact String.toList_inj.mp h2
theorem RF.look {ms : List Addr} {f : String} {d : D} : ∀ {fs : List (String × D)} {gs : List (Str × V)}, RF G ms H fs gs → fs.lookup f = some d → ∃ v, gs.lookup (Str.ofString f) = some v ∧ RV G ms H d v
  | [], _, _, e => by cases e
  | p :: fs, _, ⟨v, r, rfl, h1, h2⟩, e => by
    obtain ⟨g, x⟩ := p
    by_cases hg : f = g
    · subst hg
      simp only [List.lookup, beq_self_eq_true] at e ⊢
      cases e
      exact ⟨v, rfl, h1⟩
    · have h3 : (f == g) = false := by simpa using hg
      have h4 : (Str.ofString f == Str.ofString g) = false := beq_eq_false_iff_ne.mpr fun z => hg (ofString_inj z)
      simp only [List.lookup, h3] at e
      simp only [List.lookup, h4]
      exact RF.look h2 e
theorem RF.lookN {ms : List Addr} {f : String} : ∀ {fs : List (String × D)} {gs : List (Str × V)}, RF G ms H fs gs → fs.lookup f = none → gs.lookup (Str.ofString f) = none
  | [], _, h, _ => by
    rw [show _ = _ from h]
    rfl
  | p :: fs, _, ⟨v, r, rfl, h1, h2⟩, e => by
    obtain ⟨g, x⟩ := p
    by_cases hg : f = g
    · subst hg
      simp only [List.lookup, beq_self_eq_true] at e
      cases e
    · have h3 : (f == g) = false := by simpa using hg
      have h4 : (Str.ofString f == Str.ofString g) = false := beq_eq_false_iff_ne.mpr fun z => hg (ofString_inj z)
      simp only [List.lookup, h3] at e
      simp only [List.lookup, h4]
      exact RF.lookN h2 e
def putD (f : String) (d : D) : List (String × D) → List (String × D)
  | [] => [(f, d)]
  | (g, x) :: r => if g = f then (g, d) :: r else (g, x) :: putD f d r
theorem RF.put {ms : List Addr} {f : String} {d : D} {v : V} (k : RV G ms H d v) : ∀ {fs : List (String × D)} {gs : List (Str × V)}, RF G ms H fs gs → RF G ms H (putD f d fs) (putF (Str.ofString f) v gs)
  | [], _, h => by
    rw [show _ = _ from h]
    exact ⟨v, [], rfl, k, rfl⟩
  | p :: fs, _, ⟨u, r, rfl, h1, h2⟩ => by
    obtain ⟨g, x⟩ := p
    by_cases hg : g = f
    · subst hg
      simp only [putD, putF, if_true]
      exact ⟨v, r, rfl, k, h2⟩
    · have h3 : ¬ Str.ofString g = Str.ofString f := fun z => hg (ofString_inj z)
      simp only [putD, putF, if_neg hg, if_neg h3]
      exact ⟨u, _, rfl, h1, RF.put k h2⟩
theorem RF.len {ms : List Addr} : ∀ {fs : List (String × D)} {gs : List (Str × V)}, RF G ms H fs gs → gs.length = fs.length
  | [], _, h => by
    rw [show _ = _ from h]
    rfl
  | p :: fs, _, ⟨u, r, rfl, h1, h2⟩ => by rw [List.length_cons, List.length_cons, RF.len h2]
/-- the field f of an instance of a class in P -/
def opFld (P : Nat → Bool) (f : String) (x : D) : O D := fun st => match x with
  | .ref i => match st[i]? with
    | some (.ins c fs) => if P c = true then match fs.lookup f with
        | some d => some (d, st)
        | none => none
      else none
    | _ => none
  | _ => none
theorem e_fld {e : Expr} {f : String} {fs : Str} {pos : Pos} {P : Nat → Bool} {fe : E} (hK : X.K = G.K) (hP : ∀ c, P c = true → Cls G.K (G.tb c) ∧ NoAttr G.K (G.tb c) fs) (hf : fs = Str.ofString f) (he : PE X e (tE G W fe)) (hb : attributeBase e fs X.env (eval e X.env) = eval e X.env := by rfl) :
    PE X (.Attribute e fs pos) (tE G W (eUn (opFld P f) fe)) := PE_weak (pe_fld he hb) fun σ H Q h => tX_mono (tX_bind h) fun v H1 ⟨ms, st, env, x, S, r, r1, k⟩ => by
  have k := k.ofO
  unfold opFld at k
  split at k
  · split at k
    · rename_i c gs e
      split at k
      · rename_i hc
        split at k
        · rename_i d e2
          obtain ⟨a, dx, hs, rfl, _, h1, h2⟩ := S.ins e r1
          obtain ⟨w, h3, h4⟩ := h2.look e2
          obtain ⟨p1, p2⟩ := hP c hc
          exact ⟨a, _, dx, hs, w, rfl, h1, by rw [hK]; exact p1, by rw [hK]; exact p2, by rw [hf]; exact h3, OkO.val S h4 k⟩
        · exact k.elim
      · exact k.elim
    · exact k.elim
  · exact k.elim

/-! ### calls of defs -/
abbrev F := List D → M D
def spF (G : Gx) (g : F) : Sp := fun vs H Q E => ∃ ms st ds, SRel G ms st H ∧ RVs G ms H ds vs ∧ Okk (RV G) G (fun c d H => E c d H) Q ms H (g ds st)
def eCall (g : F) (as : List E) : E := fun env st => (eArgs as env st).bind g
theorem call_tCall {g : F} {fs : List E} {Q : VK} (h : tE G W (eCall g fs) σ H Q) : tCallS (spF G g) (WE W) (tA G W (eArgs fs)) σ H Q :=
  tX_mono (tX_bind (R := RVs G) h) fun vs H1 ⟨ms, st, env, ds, S, r, r1, k⟩ => ⟨ms, st, ds, S, r1, k⟩
theorem e_call {k j : Nat} {f : Addr} {fd : FuncData} {ps : List Str} {x : Str} {p pos : Pos} {e : Expr} {es : List Expr} {g : F} {fs : List E} (T : FnOk X.prog X.w X.K X.mg X.base (L2.CX X.prog X.w) j f fd ps (spF G g)) (hr : Room k X.A) (hm : X.mg x = some (.ref f)) (hk : PySem.W.keepIn X.K (.ref f) = true)
    (hb : Binds X.K fd ps []) (tk : Takes X W) (ha : PA X (e :: es) (tA G W (eArgs fs))) (hj : j ≤ k := by decide) (hg : Gl X x := by rfl) (hdb : (x == ("__debug__" : Str)) = false := by decide)
    (he : starEach (e :: es) X.env = (false, eval e X.env) :: starEach es X.env := by rfl) (hpl : (backTo pos (starEach es X.env)).any (·.1) = false := by rfl) :
    PE X (.Call (.Name x p) (e :: es) [] pos) (tE G W (eCall g fs)) :=
  PE_weak (pe_callS (E := WE W) T (hr.mono hj) hg hm hk hb (fun σ => passAt tk σ) ha hdb he hpl) fun _ _ _ h => call_tCall h
/-- o.m(..) -/
def eMeth (c : Nat) (m : String) (g : F) (a : E) (as : List E) : E := fun env st => (a env st).bind fun x s => match x with
  | .ref i => match s[i]? with
    | some (.ins c' fs) => if c' = c ∧ fs.lookup m = none then (eArgs as env s).bind fun xs s' => g (.ref i :: xs) s' else .bad
    | _ => .bad
  | _ => .bad
def tMethS (C : Addr) (m : Str) (sp : Sp) (E : L2.St → XK) (ta : TE) (t : TA) : TE := fun σ H Q => ta σ H fun x H1 => ∃ a dx fs, x = .ref a ∧ H1 a = some (.ins C dx fs) ∧ fs.lookup m = none ∧ t σ H1 fun vs H2 => sp (x :: vs) H2 Q (E σ)
theorem pe_methS {k : Nat} {f C : Addr} {fd : FuncData} {ps : List Str} {sp : Sp} {E : L2.St → XK} {m : Str} {pos apos : Pos} {e o : Expr} {es : List Expr} {ta : TE} {t : TA} {pl : Sem Bool} (he : PE X o ta) (c : Cls X.K C) (hm : Meth X.K C m f) (F : FnOk X.prog X.w X.K X.mg X.base (L2.CX X.prog X.w) k f fd ps sp) (hr : Room k X.A)
    (hb : Binds X.K fd ps []) (hx : ∀ σ, PassesAt (L2.CX X.prog X.w) X σ (E σ)) (ha : PA X (e :: es) t)
    (hst : starEach (e :: es) X.env = (false, eval e X.env) :: starEach es X.env := by rfl) (hpl : (backTo pos (starEach es X.env)).any (·.1) = false := by rfl)
    (ht : eval (.Call (.Attribute o m apos) (e :: es) [] pos) X.env = (do
      let ov ← eval o X.env
      standAt apos.atName
      let (f, first) ← holding [ov] (getMethod ov m pl)
      callWith pos f first (backTo pos (starEach (e :: es) X.env)) (backToKw pos (keywordEach [] X.env))) := by rfl) :
    PE X (.Call (.Attribute o m apos) (e :: es) [] pos) (tMethS C m sp E ta t) := by
  refine ⟨fun pins s σ H Q I h => ?_⟩
  refine PySem.W.methodCall_KW (pl := pl) (thn (he.run pins s σ H _ I h) fun u s1 ⟨x, H1, I1, rx, a, dx, fs, ex, ea, l, q⟩ => ?_) ht
  subst ex
  obtain rfl : u = Value.ref a := rx
  refine getmeth_ok I1 ea c hm l ?_
  refine PySem.W.callWith_K (first := [.ref a]) (h₀ := X.base) I.ok.mod.kin hm.kp (thn (ha.run pos pins s1 σ H1 _ I1 q) fun us s2 ⟨vs, H2, I2, r, q2⟩ => ⟨I2.kIn, ?_⟩) hst hpl
  exact run_fnS (us := .ref a :: us) (vs := .ref a :: vs) F hr hb (hx σ) I2 (.cons rfl r) q2
theorem pe_methS0 {k : Nat} {f C : Addr} {fd : FuncData} {ps : List Str} {sp : Sp} {E : L2.St → XK} {m : Str} {pos apos : Pos} {o : Expr} {ta : TE} {pl : Sem Bool} (he : PE X o ta) (c : Cls X.K C) (hm : Meth X.K C m f) (F : FnOk X.prog X.w X.K X.mg X.base (L2.CX X.prog X.w) k f fd ps sp) (hr : Room k X.A)
    (hb : Binds X.K fd ps []) (hx : ∀ σ, PassesAt (L2.CX X.prog X.w) X σ (E σ))
    (ht : eval (.Call (.Attribute o m apos) [] [] pos) X.env = (do
      let ov ← eval o X.env
      standAt apos.atName
      let (f, first) ← holding [ov] (getMethod ov m pl)
      callWith pos f first (backTo pos (starEach [] X.env)) (backToKw pos (keywordEach [] X.env))) := by rfl) :
    PE X (.Call (.Attribute o m apos) [] [] pos) (tMethS C m sp E ta tNil) := by
  refine ⟨fun pins s σ H Q I h => ?_⟩
  refine PySem.W.methodCall_KW (pl := pl) (thn (he.run pins s σ H _ I h) fun u s1 ⟨x, H1, I1, rx, a, dx, fs, ex, ea, l, q⟩ => ?_) ht
  subst ex
  obtain rfl : u = Value.ref a := rx
  refine getmeth_ok I1 ea c hm l ?_
  exact PySem.W.callWith_K0 (first := [.ref a]) I1.kIn hm.kp (run_fnS (us := [.ref a]) (vs := [.ref a]) F hr hb (hx σ) I1 (.cons rfl .nil) q)
theorem meth_tMeth {c : Nat} {m : String} {g : F} {fa : E} {fs : List E} {Q : VK} (h : tE G W (eMeth c m g fa fs) σ H Q) : tMethS (G.tb c) (Str.ofString m) (spF G g) (WE W) (tE G W fa) (tA G W (eArgs fs)) σ H Q :=
  tX_mono (tX_bind h) fun v H1 ⟨ms, st, env, x, S, r, r1, k⟩ => by
    split at k
    · split at k
      · rename_i c' fs' e
        split at k
        · rename_i hc
          obtain ⟨rfl, hl⟩ := hc
          have r1' := r1
          obtain ⟨a, dx, gs, rfl, _, h1, h2⟩ := S.ins e r1
          exact ⟨a, dx, gs, rfl, h1, h2.lookN hl, ms, st, env, S, r, Okk.bind k fun xs s vs m1 H2 g1 S1 r2 k1 => ⟨m1, s, _, S1, by
            simp only [RVs]
            exact ⟨.ref a, vs, rfl, RV.gr g1 _ _ r1', r2⟩, k1⟩⟩
        · exact k.elim
      · exact k.elim
    · exact k.elim
theorem e_meth {k j : Nat} {f : Addr} {fd : FuncData} {ps : List Str} {c : Nat} {m : String} {mS : Str} {pos apos : Pos} {e o : Expr} {es : List Expr} {g : F} {fa : E} {fs : List E} {pl : Sem Bool} (hmS : mS = Str.ofString m) (he : PE X o (tE G W fa)) (hc : Cls X.K (G.tb c)) (hm : Meth X.K (G.tb c) mS f)
    (T : FnOk X.prog X.w X.K X.mg X.base (L2.CX X.prog X.w) j f fd ps (spF G g)) (hr : Room k X.A) (hb : Binds X.K fd ps []) (tk : Takes X W) (ha : PA X (e :: es) (tA G W (eArgs fs))) (hj : j ≤ k := by decide)
    (hst : starEach (e :: es) X.env = (false, eval e X.env) :: starEach es X.env := by rfl) (hpl : (backTo pos (starEach es X.env)).any (·.1) = false := by rfl)
    (ht : eval (.Call (.Attribute o mS apos) (e :: es) [] pos) X.env = (do
      let ov ← eval o X.env
      standAt apos.atName
      let (f, first) ← holding [ov] (getMethod ov mS pl)
      callWith pos f first (backTo pos (starEach (e :: es) X.env)) (backToKw pos (keywordEach [] X.env))) := by rfl) :
    PE X (.Call (.Attribute o mS apos) (e :: es) [] pos) (tE G W (eMeth c m g fa fs)) := PE_weak (pe_methS (E := WE W) he hc hm T (hr.mono hj) hb (fun σ => passAt tk σ) ha hst hpl ht) fun σ H Q h => by
  rw [hmS]
  exact meth_tMeth h
/-- C(..) -/
def eMake (c : Nat) (g : F) (as : List E) : E := fun env st => (eArgs as env st).bind fun xs s => (g (.ref s.length :: xs) (s ++ [.ins c []])).bind fun r s' => match r with
  | .non => .ok (.ref s.length) s'
  | _ => .bad
def tMakeS (C : Addr) (sp : Sp) (E : L2.St → XK) (t : TA) : TE := fun σ H Q => t σ H fun vs H1 => ∀ x dx, H1 x = none → H1 dx = none → dx ≠ x → sp (.ref x :: vs) (upd (upd H1 dx (.own x)) x (.ins C dx [])) (fun v H2 => v = .non ∧ Q (.ref x) H2) (E σ)
theorem run_makeS {k : Nat} {f C : Addr} {fd : FuncData} {ps : List Str} {sp : Sp} {E : XK} {pins : List (Addr × Obj)} {s : Shared} {Q : VK} {us : List Value} {vs : List V} (M : Mk X.K C f) (F : FnOk X.prog X.w X.K X.mg X.base (L2.CX X.prog X.w) k f fd ps sp) (hr : Room (k + 1) X.A) (hb : Binds X.K fd ps [])
    (hx : PassesAt (L2.CX X.prog X.w) X σ E) (I : Inv X pins σ H s) (r : Vals vs us)
    (h : ∀ x dx, H x = none → H dx = none → dx ≠ x → sp (.ref x :: vs) (upd (upd H dx (.own x)) x (.ins C dx [])) (fun v H2 => v = .non ∧ Q (.ref x) H2) E) :
    wpAny (model X.prog X.w) X.A (PySem.call (.ref C) us) (EP X pins σ Q) X.xe s := by
  have hq := h (s.heap.objs.size + 1) s.heap.objs.size (I.hok.fresh (Nat.le_succ _)) (I.hok.fresh (Nat.le_refl _)) (Nat.ne_of_lt (Nat.lt_succ_self _))
  have I2 := Inv.made (C := C) I
  have r2 : Vals (V.ref (s.heap.objs.size + 1) :: vs) (Value.ref (s.heap.objs.size + 1) :: us) := .cons rfl r
  have hl : (Value.ref (s.heap.objs.size + 1) :: us ++ []).length = ps.length := by
    have e := r2.length
    rw [F.len _ _ _ _ hq] at e
    rw [List.append_nil]
    exact e.symm
  have hb2 := hb _ (Value.ref (s.heap.objs.size + 1) :: us) I2.kIn hl
  rw [List.append_nil] at hb2
  refine wpAny_call (make_map (f := f) I.kIn M.makes M.init (beq_iff_eq.mp M.fn) (codeAny_mono (F.run _ X.stack _ _ ⟨Value.ref (s.heap.objs.size + 1) :: us, []⟩ (Value.ref (s.heap.objs.size + 1) :: us) _ _ E (hr.make C us [])
    (I2.env0.make C us []) hb2 r2 hq) fun r s' hq' => ?_))
  cases r with
  | error e => exact hx pins _ _ e s' I2 hq'
  | ok fl =>
    cases fl with
    | ret u =>
      obtain ⟨v, H', I3, rv, ev, q3⟩ := I2.after hq'
      subst ev
      exact ⟨rv, ⟨V.ref (s.heap.objs.size + 1), H', I3, rfl, q3⟩⟩
    | next => exact False.elim hq'
    | brk => exact False.elim hq'
    | cont => exact False.elim hq'
theorem pe_makeS {k : Nat} {f C : Addr} {fd : FuncData} {ps : List Str} {sp : Sp} {E : L2.St → XK} {x : Str} {p pos : Pos} {e : Expr} {es : List Expr} {t : TA} (M : Mk X.K C f) (F : FnOk X.prog X.w X.K X.mg X.base (L2.CX X.prog X.w) k f fd ps sp) (hr : Room (k + 1) X.A) (hg : Gl X x) (hm : X.mg x = some (.ref C)) (hb : Binds X.K fd ps [])
    (hx : ∀ σ, PassesAt (L2.CX X.prog X.w) X σ (E σ)) (ha : PA X (e :: es) t) (hdb : (x == ("__debug__" : Str)) = false := by decide) (he : starEach (e :: es) X.env = (false, eval e X.env) :: starEach es X.env := by rfl) (hpl : (backTo pos (starEach es X.env)).any (·.1) = false := by rfl) :
    PE X (.Call (.Name x p) (e :: es) [] pos) (tMakeS C sp E t) := by
  refine ⟨fun pins s σ H Q I h => ?_⟩
  refine wpAny_Call_Name_kw (ld_glob I hg hm ?_ hdb)
  refine PySem.W.callWith_K (h₀ := X.base) I.ok.mod.kin M.kp (thn (ha.run pos pins s σ H _ I h) fun us s1 ⟨vs, H1, I1, r, q⟩ => ⟨I1.kIn, ?_⟩) he hpl
  exact run_makeS M F hr hb (hx σ) I1 r q
theorem pe_makeS0 {k : Nat} {f C : Addr} {fd : FuncData} {ps : List Str} {sp : Sp} {E : L2.St → XK} {x : Str} {p pos : Pos} (M : Mk X.K C f) (F : FnOk X.prog X.w X.K X.mg X.base (L2.CX X.prog X.w) k f fd ps sp) (hr : Room (k + 1) X.A) (hg : Gl X x) (hm : X.mg x = some (.ref C)) (hb : Binds X.K fd ps [])
    (hx : ∀ σ, PassesAt (L2.CX X.prog X.w) X σ (E σ)) (hdb : (x == ("__debug__" : Str)) = false := by decide) : PE X (.Call (.Name x p) [] [] pos) (tMakeS C sp E tNil) := by
  refine ⟨fun pins s σ H Q I h => ?_⟩
  refine wpAny_Call_Name_kw (ld_glob I hg hm ?_ hdb)
  exact PySem.W.callWith_K0 I.kIn M.kp (run_makeS (us := []) M F hr hb (hx σ) I .nil h)
theorem make_fin {c : Nat} {g : F} {ms : List Addr} {st : Sto} {env : Sl} {ds : List D} {vs : List V} {Q : VK} (S : SRel G ms st H) (r1 : RVs G ms H ds vs)
    (k : Okk (RV G) G (fun c d H => W c d σ H) Q ms H ((g (.ref st.length :: ds) (st ++ [.ins c []])).bind fun r s' => match r with
      | .non => .ok (.ref st.length) s'
      | _ => .bad)) : ∀ x dx, H x = none → H dx = none → dx ≠ x → spF G g (.ref x :: vs) (upd (upd H dx (.own x)) x (.ins (G.tb c) dx [])) (fun v H2 => v = .non ∧ Q (.ref x) H2) (WE W σ) := fun x dx hx hdx ne => by
  have hx1 : upd H dx (.own x) x = none := by
    rw [upd_ne (Ne.symm ne)]
    exact hx
  have g1 : Gr ms H ms (upd H dx (.own x)) := Gr.new0 hdx
  have g2 : Gr ms (upd H dx (.own x)) (ms ++ [x]) (upd (upd H dx (.own x)) x (.ins (G.tb c) dx [])) := Gr.new hx1 [x]
  have S2 : SRel G (ms ++ [x]) (st ++ [.ins c []]) (upd (upd H dx (.own x)) x (.ins (G.tb c) dx [])) := (S.lay hdx).new hx1 ⟨dx, [], upd_same, rfl⟩
  have rx : RV G (ms ++ [x]) (upd (upd H dx (.own x)) x (.ins (G.tb c) dx [])) (.ref st.length) (.ref x) := by
    simp only [RV]
    exact ⟨x, rfl, by rw [← S.len]; simp⟩
  refine ⟨ms ++ [x], st ++ [.ins c []], .ref st.length :: ds, S2, ?_, ?_⟩
  · simp only [RVs]
    exact ⟨_, vs, rfl, rx, RVs.gr (g1.trans g2) _ _ r1⟩
  · refine Okk.bind (Okk.gr (g1.trans g2) k) fun r s b m1 H1 g3 S3 r3 k3 => ?_
    cases r with
    | non =>
      simp only [RV] at r3
      exact ⟨r3, k3 (.ref x) m1 H1 Gr.refl S3 (RV.gr g3 _ _ rx)⟩
    | _ => exact k3.elim
theorem e_make {k j : Nat} {f : Addr} {fd : FuncData} {ps : List Str} {c : Nat} {x : Str} {p pos : Pos} {e : Expr} {es : List Expr} {g : F} {fs : List E} (M : Mk X.K (G.tb c) f) (T : FnOk X.prog X.w X.K X.mg X.base (L2.CX X.prog X.w) j f fd ps (spF G g)) (hr : Room k X.A) (hm : X.mg x = some (.ref (G.tb c)))
    (hb : Binds X.K fd ps []) (tk : Takes X W) (ha : PA X (e :: es) (tA G W (eArgs fs))) (hj : j + 1 ≤ k := by decide) (hg : Gl X x := by rfl) (hdb : (x == ("__debug__" : Str)) = false := by decide)
    (he : starEach (e :: es) X.env = (false, eval e X.env) :: starEach es X.env := by rfl) (hpl : (backTo pos (starEach es X.env)).any (·.1) = false := by rfl) :
    PE X (.Call (.Name x p) (e :: es) [] pos) (tE G W (eMake c g fs)) :=
  PE_weak (pe_makeS (E := WE W) M T (hr.mono hj) hg hm hb (fun σ => passAt tk σ) ha hdb he hpl) fun σ H Q h =>
    tX_mono (tX_bind (R := RVs G) h) fun vs H1 ⟨ms, st, env, ds, S, r, r1, k⟩ => make_fin (env := env) S r1 k
theorem e_make0 {k j : Nat} {f : Addr} {fd : FuncData} {ps : List Str} {c : Nat} {x : Str} {p pos : Pos} {g : F} (M : Mk X.K (G.tb c) f) (T : FnOk X.prog X.w X.K X.mg X.base (L2.CX X.prog X.w) j f fd ps (spF G g)) (hr : Room k X.A) (hm : X.mg x = some (.ref (G.tb c)))
    (hb : Binds X.K fd ps []) (tk : Takes X W) (hj : j + 1 ≤ k := by decide) (hg : Gl X x := by rfl) (hdb : (x == ("__debug__" : Str)) = false := by decide) :
    PE X (.Call (.Name x p) [] [] pos) (tE G W (eMake c g [])) :=
  PE_weak (pe_makeS0 (E := WE W) M T (hr.mono hj) hg hm hb (fun σ => passAt tk σ) hdb) fun σ H Q ⟨ms, st, env, S, r, k⟩ => make_fin (env := env) S (by simp only [RVs]) k
end
end LF

set_option Elab.async false
set_option linter.all false
set_option maxRecDepth 100000
set_option maxHeartbeats 4000000
/-! The layer: statements, loops, comprehensions, defs. -/
namespace LF
open PySem PySem.Spec PyProof.Rows L2
inductive Out where
  | nx (e : Sl) (s : Sto) | rt (d : D) (s : Sto) | bk (e : Sl) (s : Sto) | ct (e : Sl) (s : Sto)
  | exn (c : Nat) (fs : List (String × D)) (e : Sl) (s : Sto)
  | bad
abbrev Sm := Sl → Sto → Out
def Res.out {α : Type} (env : Sl) : Res α → (α → Sto → Out) → Out
  | .ok a s, k => k a s
  | .exn c fs s, _ => .exn c fs env s
  | .bad, _ => .bad
section
variable {G : Gx} {W : WX} {X : Cx} {σ : L2.St} {H : Hp}
def OutOk (G : Gx) (W : WX) (K : Ends) (ms : List Addr) (H : Hp) : Out → Prop
  | .nx e st => ∀ σ' ms' H', Gr ms H ms' H' → SRel G ms' st H' → RE G ms' H' e σ' → K.nx σ' H'
  | .bk e st => ∀ σ' ms' H', Gr ms H ms' H' → SRel G ms' st H' → RE G ms' H' e σ' → K.bk σ' H'
  | .ct e st => ∀ σ' ms' H', Gr ms H ms' H' → SRel G ms' st H' → RE G ms' H' e σ' → K.ct σ' H'
  | .rt d st => ∀ v ms' H', Gr ms H ms' H' → SRel G ms' st H' → RV G ms' H' d v → K.rt v H'
  | .exn c fs e st => ∀ od σ' ms' H', Gr ms H ms' H' → SRel G ms' st H' → RE G ms' H' e σ' → XRel G ms' H' fs od → W (.ref (G.tb c)) od σ' H'
  | .bad => False
def tS (G : Gx) (W : WX) (f : Sm) : TS := fun K σ H => ∃ ms st env, SRel G ms st H ∧ RE G ms H env σ ∧ OutOk G W K ms H (f env st)
theorem OutOk.gr {K : Ends} {ms ms' : List Addr} {H' : Hp} {o : Out} (g : Gr ms H ms' H') (h : OutOk G W K ms H o) : OutOk G W K ms' H' o := by
  cases o with
  | nx e st => exact fun σ' m2 H2 g2 => h σ' m2 H2 (g.trans g2)
  | bk e st => exact fun σ' m2 H2 g2 => h σ' m2 H2 (g.trans g2)
  | ct e st => exact fun σ' m2 H2 g2 => h σ' m2 H2 (g.trans g2)
  | rt d st => exact fun v m2 H2 g2 => h v m2 H2 (g.trans g2)
  | exn c fs e st => exact fun od σ' m2 H2 g2 => h od σ' m2 H2 (g.trans g2)
  | bad => exact h
/-- the exceptions of an expression within a statement: the slots are those at hand -/
theorem tX_out {α β : Type} {R : List Addr → Hp → α → β → Prop} {fa : Sl → M α} {k : Sl → α → Sto → Out} {K : Ends} (h : tS G W (fun env st => (fa env st).out env (k env)) K σ H) :
    tX R G W fa σ H fun b H1 => ∃ ms st env a, SRel G ms st H1 ∧ RE G ms H1 env σ ∧ R ms H1 a b ∧ OutOk G W K ms H1 (k env a st) := by
  obtain ⟨ms, st, env, S, r, q⟩ := h
  have q : OutOk G W K ms H ((fa env st).out env (k env)) := q
  refine ⟨ms, st, env, S, r, ?_⟩
  cases e : fa env st with
  | ok a s =>
    rw [e] at q
    exact fun b m1 H1 g1 S1 r1 => ⟨m1, s, env, a, S1, r.gr g1, r1, OutOk.gr g1 q⟩
  | exn c fs s =>
    rw [e] at q
    exact fun od m1 H1 g1 S1 x1 => q od σ m1 H1 g1 S1 (r.gr g1) x1
  | bad =>
    rw [e] at q
    exact q

/-! ### blocks and small statements -/
def sSeq (a b : Sm) : Sm := fun env st => match a env st with
  | .nx e s => b e s
  | r => r
def sSkip : Sm := fun env st => .nx env st
def sBreak : Sm := fun env st => .bk env st
def sCont : Sm := fun env st => .ct env st
def sRet (a : E) : Sm := fun env st => (a env st).out env fun d s => .rt d s
def sExpr (a : E) : Sm := fun env st => (a env st).out env fun _ s => .nx env s
def sIf (c : T) (a b : Sm) : Sm := fun env st => (c env st).out env fun k s => if k = true then a env s else b env s
theorem OutOk.seq {K : Ends} {ms : List Addr} {o : Out} {b : Sm} (h : OutOk G W K ms H (match o with
  | .nx e s => b e s
  | r => r)) : OutOk G W { K with nx := tS G W b K } ms H o := by
  cases o with
  | nx e s => exact fun σ' m1 H1 g1 S1 r1 => ⟨m1, s, e, S1, r1, OutOk.gr g1 h⟩
  | bk e st => exact h
  | ct e st => exact h
  | rt d st => exact h
  | exn c fs e st => exact h
  | bad => exact h
theorem ss_nil : PSs X [] (tS G W sSkip) := PSs_weak pss_nil fun K σ H ⟨ms, st, env, S, r, k⟩ => k σ ms H Gr.refl S r
theorem ss_cons {st : Stmt} {rest : List Stmt} {a b : Sm} (h1 : PS X st (tS G W a)) (h2 : PSs X rest (tS G W b)) : PSs X (st :: rest) (tS G W (sSeq a b)) :=
  PSs_weak (pss_cons h1 h2) fun K σ H ⟨ms, st, env, S, r, k⟩ => ⟨ms, st, env, S, r, OutOk.seq k⟩
theorem ss_one {st : Stmt} {a : Sm} (h1 : PS X st (tS G W a)) : PSs X [st] (tS G W a) := pss_one h1
theorem s_pass {pos} : PS X (.Pass pos) (tS G W sSkip) := PS_weak ps_pass fun K σ H ⟨ms, st, env, S, r, k⟩ => k σ ms H Gr.refl S r
theorem s_break {pos} : PS X (.Break pos) (tS G W sBreak) := PS_weak ps_break fun K σ H ⟨ms, st, env, S, r, k⟩ => k σ ms H Gr.refl S r
theorem s_cont {pos} : PS X (.Continue pos) (tS G W sCont) := PS_weak ps_continue fun K σ H ⟨ms, st, env, S, r, k⟩ => k σ ms H Gr.refl S r
theorem s_ret {e : Expr} {pos : Pos} {fe : E} (he : PE X e (tE G W fe)) : PS X (.Return (some e) pos) (tS G W (sRet fe)) :=
  PS_weak (ps_ret he) fun K σ H h => tX_mono (tX_out (k := fun _ d s => .rt d s) h) fun v H1 ⟨ms, st, env, d, S, _, r1, k⟩ => k v ms H1 Gr.refl S r1
theorem s_retN {pos : Pos} : PS X (.Return none pos) (tS G W (sRet (eC .non))) :=
  PS_weak ps_retN fun K σ H ⟨ms, st, env, S, r, k⟩ => k .non ms H Gr.refl S (by simp only [RV])
theorem s_expr {e : Expr} {pos : Pos} {fe : E} (he : PE X e (tE G W fe)) (hs : swapsWith e none pos.line X.env = pure false := by rfl) : PS X (.Expr e pos) (tS G W (sExpr fe)) :=
  PS_weak (ps_expr he hs) fun K σ H h => tX_mono (tX_out (k := fun env _ s => .nx env s) h) fun v H1 ⟨ms, st, env, d, S, r, r1, k⟩ => k σ ms H1 Gr.refl S r
theorem s_if {c : Expr} {p q : List Stmt} {pos : Pos} {tc : T} {a b : Sm} (hc : PT X c (tT G W tc)) (ha : PSs X p (tS G W a)) (hb : PSs X q (tS G W b)) : PS X (.If c p q pos) (tS G W (sIf tc a b)) :=
  PS_weak (ps_if hc ha hb) fun K σ H h => tX_mono (tX_out (k := fun env k s => if k = true then a env s else b env s) h) fun v H1 ⟨ms, st, env, d, S, r, r1, k⟩ => by
    cases r1
    cases v with
    | true => exact ⟨ms, st, env, S, r, by simpa using k⟩
    | false => exact ⟨ms, st, env, S, r, by simpa using k⟩
theorem s_never {st : Stmt} : PS X st (tS G W fun _ _ => .bad) := PS_weak ps_never fun K σ H ⟨ms, st, env, S, r, k⟩ => k

/-! ### targets -/
inductive Tg where
  | name (i : Nat) | tup (ts : List Tg)
def gSeq (K : PySem.W.Frag) (n : Nat) (t : TGs) : TG := fun v σ H Q => ∃ a xs, v = .ref a ∧ (SqT K H a xs ∨ SqL K H a xs) ∧ xs.length = n ∧ t xs σ H Q
mutual
def Tg.tg (K : PySem.W.Frag) : Tg → TG
  | .name i => gName i
  | .tup ts => gSeq K ts.length (Tg.tgs K ts)
def Tg.tgs (K : PySem.W.Frag) : List Tg → TGs
  | [] => gNil
  | t :: ts => gCons (Tg.tg K t) (Tg.tgs K ts)
end
mutual
def Tg.sem (st : Sto) : Tg → D → Sl → Option Sl
  | .name i, d, env => some (env.set i (some d))
  | .tup ts, d, env => match seqOf d st with
    | some ds => if ds.length = ts.length then Tg.sems st ts ds env else none
    | none => none
def Tg.sems (st : Sto) : List Tg → List D → Sl → Option Sl
  | [], [], env => some env
  | t :: ts, d :: ds, env => match Tg.sem st t d env with
    | some e => Tg.sems st ts ds e
    | none => none
  | _, _, _ => none
end
mutual
def Tg.names : Tg → List Nat
  | .name i => [i]
  | .tup ts => Tg.namess ts
def Tg.namess : List Tg → List Nat
  | [] => []
  | t :: ts => Tg.names t ++ Tg.namess ts
end
theorem wipe_set {σ : L2.St} {i : Nat} {o : Option V} : ∀ {vs : List Nat}, i ∈ vs → wipe (σ.set i o) vs = wipe σ vs
  | [], h => by simp at h
  | v :: vs, h => by
    unfold wipe
    by_cases hv : i ∈ vs
    · rw [wipe_set hv]
    · have e : i = v := by
        rcases List.mem_cons.mp h with h | h
        · exact h
        · exact (hv h).elim
      subst e
      have out : ∀ (l : List Nat) (τ : L2.St), i ∉ l → wipe (τ.set i o) l = (wipe τ l).set i o := by
        intro l
        induction l with
        | nil => intro τ _; rfl
        | cons w l ih =>
          intro τ hw
          simp only [List.mem_cons, not_or] at hw
          unfold wipe
          rw [ih τ hw.2, List.set_comm _ _ hw.1]
      rw [out vs σ hv, List.set_set]
mutual
theorem Tg.ok {ms : List Addr} {st : Sto} (S : SRel G ms st H) : ∀ (t : Tg) (d : D) (env env' : Sl) (v : V) (σ : L2.St), Tg.sem st t d env = some env' → RV G ms H d v → RE G ms H env σ →
    ∃ σ', RE G ms H env' σ' ∧ (∀ Q : L2.St → Hp → Prop, Q σ' H → Tg.tg G.K t v σ H Q) ∧ ∀ vs : List Nat, (∀ i ∈ Tg.names t, i ∈ vs) → wipe σ' vs = wipe σ vs
  | .name i, d, env, env', v, σ, h, r, re => by
    simp only [Tg.sem] at h
    cases h
    refine ⟨_, RE.set r i re, fun Q q => ?_, fun vs hv => wipe_set (hv i (by simp [Tg.names]))⟩
    simp only [Tg.tg]
    exact q
  | .tup ts, d, env, env', v, σ, h, r, re => by
    simp only [Tg.sem] at h
    split at h
    · rename_i ds e
      split at h
      · rename_i hl
        obtain ⟨p, us, rfl, h1, h2⟩ := seq_ok S r e
        obtain ⟨σ', a, b, c⟩ := Tg.oks S ts ds env env' us σ h h2 re
        refine ⟨σ', a, fun Q q => ?_, fun vs hv => c vs (by simpa [Tg.names] using hv)⟩
        simp only [Tg.tg]
        exact ⟨p, us, rfl, h1.symm, by rw [h2.length]; exact hl, b Q q⟩
      · cases h
    · cases h
theorem Tg.oks {ms : List Addr} {st : Sto} (S : SRel G ms st H) : ∀ (ts : List Tg) (ds : List D) (env env' : Sl) (vs : List V) (σ : L2.St), Tg.sems st ts ds env = some env' → RVs G ms H ds vs → RE G ms H env σ →
    ∃ σ', RE G ms H env' σ' ∧ (∀ Q : L2.St → Hp → Prop, Q σ' H → Tg.tgs G.K ts vs σ H Q) ∧ ∀ ws : List Nat, (∀ i ∈ Tg.namess ts, i ∈ ws) → wipe σ' ws = wipe σ ws
  | [], [], env, env', vs, σ, h, r, re => by
    simp only [Tg.sems] at h
    cases h
    simp only [RVs] at r
    subst r
    refine ⟨σ, re, fun Q q => ?_, fun _ _ => rfl⟩
    simp only [Tg.tgs]
    exact ⟨rfl, q⟩
  | t :: ts, d :: ds, env, env', vs, σ, h, r, re => by
    simp only [Tg.sems] at h
    split at h
    · rename_i e he
      simp only [RVs] at r
      obtain ⟨v, r', rfl, r1, r2⟩ := r
      obtain ⟨σ1, a1, b1, c1⟩ := Tg.ok S t d env e v σ he r1 re
      obtain ⟨σ2, a2, b2, c2⟩ := Tg.oks S ts ds e env' r' σ1 h r2 a1
      refine ⟨σ2, a2, fun Q q => ?_, fun ws hv => ?_⟩
      · simp only [Tg.tgs]
        exact ⟨v, r', rfl, b1 _ (b2 Q q)⟩
      · simp only [Tg.namess, List.mem_append] at hv
        rw [c2 ws fun i hi => hv i (.inr hi), c1 ws fun i hi => hv i (.inl hi)]
    · cases h
  | [], _ :: _, _, _, _, _, h, _, _ => by simp only [Tg.sems] at h; cases h
  | _ :: _, [], _, _, _, _, h, _, _ => by simp only [Tg.sems] at h; cases h
end
theorem g_name {i : Nat} {x : Str} {pos : Pos} (hN : X.N.Nodup) (hi : X.N[i]? = some x := by rfl) (hx : Loc X.env.scope x := by first | exact Or.inl rfl | exact Or.inr rfl) (hf : X.fn x = true ∨ X.env.scope.names.lookup x = some .local := by first | exact .inl rfl | exact .inr rfl) : PG X (.Name x pos) (Tg.tg G.K (.name i)) := by
  have h := pg_name (pos := pos) hN hi hx hf
  have e : Tg.tg G.K (.name i) = gName i := by simp only [Tg.tg]
  rw [e]
  exact h
theorem gs_nil : PGs X [] (Tg.tgs G.K []) := by
  have e : Tg.tgs G.K [] = gNil := by simp only [Tg.tgs]
  rw [e]
  exact pgs_nil
theorem gs_cons {e : Expr} {es : List Expr} {t : Tg} {ts : List Tg} (h1 : PG X e (Tg.tg G.K t)) (h2 : PGs X es (Tg.tgs G.K ts))
    (hs : (assignEach (e :: es) X.env).map (·.2) = assign e X.env :: (assignEach es X.env).map (·.2) := by rfl) : PGs X (e :: es) (Tg.tgs G.K (t :: ts)) := by
  have q : Tg.tgs G.K (t :: ts) = gCons (Tg.tg G.K t) (Tg.tgs G.K ts) := by simp only [Tg.tgs]
  rw [q]
  exact pgs_cons h1 h2 hs
theorem g_tup {es : List Expr} {k : Nat} {pos : Pos} {ts : List Tg} (hK : X.K = G.K) (hc : X.calm = true) (h : PGs X es (Tg.tgs G.K ts))
    (hn : (assignEach es X.env).length = ts.length := by rfl) (hst : (assignEach es X.env).findIdx? (·.1) = none := by rfl) : PG X (.Tuple es k pos) (Tg.tg G.K (.tup ts)) := by
  have h1 := pg_tup (k := k) (pos := pos) hc h hn hst
  have h2 := pg_unl (k := k) (pos := pos) hc h hn hst
  have e : Tg.tg G.K (.tup ts) = gSeq G.K ts.length (Tg.tgs G.K ts) := by simp only [Tg.tg]
  rw [e]
  refine ⟨fun pins s σ H v u Q I r hw => ?_⟩
  obtain ⟨a, xs, e1, hq, hl, hw⟩ := hw
  rcases hq with hq | hq
  · exact h1.run pins s σ H v u Q I r ⟨a, xs, e1, by rw [hK]; exact hq, hl, hw⟩
  · exact h2.run pins s σ H v u Q I r ⟨a, xs, e1, by rw [hK]; exact hq, hl, hw⟩
/-- target = value -/
def sAsg (t : Tg) (a : E) : Sm := fun env st => (a env st).out env fun d s => match Tg.sem s t d env with
  | some e => .nx e s
  | none => .bad
theorem asg_fin {K : Ends} {t : Tg} {fe : E} (h : tS G W (sAsg t fe) K σ H) : tE G W fe σ H fun v H1 => Tg.tg G.K t v σ H1 K.nx :=
  tX_mono (tX_out (k := fun env d s => match Tg.sem s t d env with
  | some e => .nx e s
  | none => .bad) h) fun v H1 ⟨ms, st, env, d, S, r, r1, k⟩ => by
    split at k
    · rename_i e he
      obtain ⟨σ', a, b, _⟩ := Tg.ok S t d env e v σ he r1 r
      exact b _ (k σ' ms H1 Gr.refl S a)
    · exact k.elim
theorem s_asg {tg e : Expr} {pos : Pos} {t : Tg} {fe : E} (he : PE X e (tE G W fe)) (hg : PG X tg (Tg.tg G.K t)) (hs : swapsWithSole [tg] e pos.line X.env = pure false := by rfl) (hw : swappedStores [tg] e X.env = pure none := by rfl)
    (h1 : (assignEach [tg] X.env).map (·.2) = [assign tg X.env] := by rfl) : PS X (.Assign [tg] e pos) (tS G W (sAsg t fe)) :=
  PS_weak (ps_asg he hg hs hw h1) fun K σ H h => asg_fin h
theorem s_set {i : Nat} {x : Str} {e : Expr} {fe : E} {pos pos' : Pos} (hN : X.N.Nodup) (he : PE X e (tE G W fe)) (hi : X.N[i]? = some x := by rfl) (hx : Loc X.env.scope x := by first | exact Or.inl rfl | exact Or.inr rfl) (hs : swapsWith e (some (.Name x pos')) pos.line X.env = pure false := by rfl)
    (hf : X.fn x = true ∨ X.env.scope.names.lookup x = some .local := by first | exact .inl rfl | exact .inr rfl) : PS X (.Assign [.Name x pos'] e pos) (tS G W (sAsg (.name i) fe)) :=
  PS_weak (ps_set hN hi hx he hs hf) fun K σ H h => by
    have q := asg_fin h
    simp only [Tg.tg] at q
    exact q
/-- x, y = a, b: two local names -/
def sPar (i j : Nat) (a b : E) : Sm := fun env st => (eArgs [a, b] env st).out env fun ds s => match ds with
  | [x, y] => .nx ((env.set i (some x)).set j (some y)) s
  | _ => .bad
theorem s_par {i j : Nat} {x y : Str} {a b : Expr} {fa fb : E} {px py pt : Pos} {kt k2 pt2} {pos : Pos} (hc : X.calm = true) (hN : X.N.Nodup) (ha : PA X [a, b] (tA G W (eArgs [fa, fb]))) (hi : X.N[i]? = some x := by rfl) (hj : X.N[j]? = some y := by rfl) (hij : i ≠ j := by decide)
    (hx : X.env.scope.names.lookup x = some .local := by rfl) (hy : X.env.scope.names.lookup y = some .local := by rfl)
    (hw : swappedStores [.Tuple [.Name x px, .Name y py] kt pt] (.Tuple [a, b] k2 pt2) X.env = pure (some [x, y]) := by rfl)
    (hs : swapsWithSole [.Tuple [.Name x px, .Name y py] kt pt] (.Tuple [a, b] k2 pt2) pos.line X.env = pure false := by rfl) :
    PS X (.Assign [.Tuple [.Name x px, .Name y py] kt pt] (.Tuple [a, b] k2 pt2) pos) (tS G W (sPar i j fa fb)) :=
  PS_weak (ps_par hc hN hi hj hij hx hy ha hw hs) fun K σ H h => tX_mono (tX_out (R := RVs G) (k := fun env ds s => match ds with
  | [x, y] => .nx ((env.set i (some x)).set j (some y)) s
  | _ => .bad) h) fun vs H1 ⟨ms, st, env, ds, S, r, r1, k⟩ => by
    split at k
    · obtain ⟨v, u, rfl, rv, ru⟩ := r1.two'
      exact ⟨v, u, rfl, k _ ms H1 Gr.refl S (RE.set ru j (RE.set rv i r))⟩
    · exact k.elim
/-- o[i] = e, o a list -/
def opSet (o i d : D) : O Unit := fun st => match o, i with
  | .ref r, .int z => match st[r]? with
    | some (.lst ds) => match ixN ds.length z with
      | some j => some ((), st.set r (.lst (ds.set j d)))
      | none => none
    | _ => none
  | _, _ => none
def sSetIx (o i e : E) : Sm := fun env st => (e env st).out env fun d s => (o env s).out env fun x s => (i env s).out env fun y s => match opSet x y d s with
  | some (_, s) => .nx env s
  | none => .bad
theorem s_setIx {o i e : Expr} {fo fi fe : E} {pos p2 : Pos} (he : PE X e (tE G W fe)) (ho : PE X o (tE G W fo)) (hi : PE X i (tE G W fi))
    (ha : ∀ v, assign (.Subscript o i p2) X.env v = (do
      let ov ← holding [v] (eval o X.env)
      let iv ← holding [v, ov] (eval i X.env)
      standAt p2
      holding [v, ov, iv] (setItem ov iv v)
      release [v, ov, iv] []) := by intro _; rfl) (hs : swapsWithSole [.Subscript o i p2] e pos.line X.env = pure false := by rfl) (hw : swappedStores [.Subscript o i p2] e X.env = pure none := by rfl)
    (h1 : (assignEach [.Subscript o i p2] X.env).map (·.2) = [assign (.Subscript o i p2) X.env] := by rfl) : PS X (.Assign [.Subscript o i p2] e pos) (tS G W (sSetIx fo fi fe)) :=
  PS_weak (ps_asg he (pg_sub ho hi set_list ha) hs hw h1) fun K σ H h => by
    refine tX_mono (tX_out (k := fun env d s => (fo env s).out env fun x s => (fi env s).out env fun y s => match opSet x y d s with
      | some (_, s) => .nx env s
      | none => .bad) h) fun v H1 ⟨ms, st, env, d, S, r, r1, k⟩ => ?_
    have q : tE G W fo σ H1 fun x H2 => ∃ ms st env d x', SRel G ms st H2 ∧ RE G ms H2 env σ ∧ RV G ms H2 d v ∧ RV G ms H2 x' x ∧ OutOk G W K ms H2 ((fi env st).out env fun y s => match opSet x' y d s with
        | some (_, s) => .nx env s
        | none => .bad) := by
      refine ⟨ms, st, env, S, r, ?_⟩
      cases e1 : fo env st with
      | ok x s =>
        rw [e1] at k
        exact fun b m1 H2 g1 S1 r2 => ⟨m1, s, env, d, x, S1, r.gr g1, RV.gr g1 _ _ r1, r2, OutOk.gr g1 k⟩
      | exn c fs s =>
        rw [e1] at k
        exact fun od m1 H2 g1 S1 x1 => k od σ m1 H2 g1 S1 (r.gr g1) x1
      | bad =>
        rw [e1] at k
        exact k
    refine tX_mono q fun x H2 ⟨ms, st, env, d, x', S, r, r1, r2, k⟩ => ?_
    have q : tE G W fi σ H2 fun y H3 => ∃ ms st env d x' y', SRel G ms st H3 ∧ RE G ms H3 env σ ∧ RV G ms H3 d v ∧ RV G ms H3 x' x ∧ RV G ms H3 y' y ∧ OutOk G W K ms H3 (match opSet x' y' d st with
        | some (_, s) => .nx env s
        | none => .bad) := by
      refine ⟨ms, st, env, S, r, ?_⟩
      cases e1 : fi env st with
      | ok y s =>
        rw [e1] at k
        exact fun b m1 H3 g1 S1 r3 => ⟨m1, s, env, d, x', y, S1, r.gr g1, RV.gr g1 _ _ r1, RV.gr g1 _ _ r2, r3, OutOk.gr g1 k⟩
      | exn c fs s =>
        rw [e1] at k
        exact fun od m1 H2 g1 S1 x1 => k od σ m1 H2 g1 S1 (r.gr g1) x1
      | bad =>
        rw [e1] at k
        exact k
    refine tX_mono q fun y H3 ⟨ms, st, env, d, x', y', S, r, r1, r2, r3, k⟩ => ?_
    split at k
    · rename_i s e
      unfold opSet at e
      split at e
      · simp only [RV] at r3
        subst r3
        split at e
        · rename_i ds e2
          obtain ⟨a, vs, rfl, ha, h1, h2⟩ := S.ref e2 r2
          split at e
          · rename_i j e3
            cases e
            obtain ⟨c, _, hc⟩ := S.has ha
            have g : Gr ms H3 ms (upd H3 a (.lst (vs.set j v))) := Gr.cell hc
            exact ⟨a, vs, _, j, rfl, rfl, h1, by rw [h2.length]; exact e3, k σ ms _ g (S.put ha ⟨_, upd_same, RVs.gr g _ _ (h2.set j r1)⟩) (r.gr g)⟩
          · cases e
        · cases e
      · cases e
    · exact k.elim
/-- o.f = e -/
def opSetF (P : Nat → Bool) (f : String) (o d : D) : O Unit := fun st => match o with
  | .ref r => match st[r]? with
    | some (.ins c fs) => if P c = true ∧ fs.length < 1000 then some ((), st.set r (.ins c (putD f d fs))) else none
    | _ => none
  | _ => none
def sSetF (P : Nat → Bool) (f : String) (o e : E) : Sm := fun env st => (e env st).out env fun d s => (o env s).out env fun x s => match opSetF P f x d s with
  | some (_, s) => .nx env s
  | none => .bad
theorem s_setF {o e : Expr} {fo fe : E} {P : Nat → Bool} {f : String} {fS : Str} {pos p2 : Pos} (hK : X.K = G.K) (hP : ∀ c, P c = true → Cls G.K (G.tb c) ∧ NoAttr G.K (G.tb c) fS) (hf : fS = Str.ofString f) (he : PE X e (tE G W fe)) (ho : PE X o (tE G W fo))
    (hs : swapsWith e (some (.Attribute o fS p2)) pos.line X.env = pure false := by rfl) : PS X (.Assign [.Attribute o fS p2] e pos) (tS G W (sSetF P f fo fe)) :=
  PS_weak (ps_fld ho he hs) fun K σ H h => by
    refine tX_mono (tX_out (k := fun env d s => (fo env s).out env fun x s => match opSetF P f x d s with
      | some (_, s) => .nx env s
      | none => .bad) h) fun v H1 ⟨ms, st, env, d, S, r, r1, k⟩ => ?_
    have q : tE G W fo σ H1 fun x H2 => ∃ ms st env d x', SRel G ms st H2 ∧ RE G ms H2 env σ ∧ RV G ms H2 d v ∧ RV G ms H2 x' x ∧ OutOk G W K ms H2 (match opSetF P f x' d st with
        | some (_, s) => .nx env s
        | none => .bad) := by
      refine ⟨ms, st, env, S, r, ?_⟩
      cases e1 : fo env st with
      | ok x s =>
        rw [e1] at k
        exact fun b m1 H2 g1 S1 r2 => ⟨m1, s, env, d, x, S1, r.gr g1, RV.gr g1 _ _ r1, r2, OutOk.gr g1 k⟩
      | exn c fs s =>
        rw [e1] at k
        exact fun od m1 H2 g1 S1 x1 => k od σ m1 H2 g1 S1 (r.gr g1) x1
      | bad =>
        rw [e1] at k
        exact k
    refine tX_mono q fun x H2 ⟨ms, st, env, d, x', S, r, r1, r2, k⟩ => ?_
    split at k
    · rename_i s e
      unfold opSetF at e
      split at e
      · split at e
        · rename_i c gs e2
          obtain ⟨a, dx, hs, rfl, ha, h1, h2⟩ := S.ins e2 r2
          split at e
          · rename_i hc
            cases e
            obtain ⟨c', _, hc'⟩ := S.has ha
            have g : Gr ms H2 ms (upd H2 a (.ins (G.tb c) dx (putF (Str.ofString f) v hs))) := Gr.cell hc'
            obtain ⟨p1, p2⟩ := hP c hc.1
            refine ⟨a, _, dx, hs, rfl, h1, by rw [hK]; exact p1, by rw [hK]; exact p2, by rw [h2.len]; exact hc.2, ?_⟩
            rw [hf]
            exact k σ ms _ g (S.put ha ⟨dx, _, upd_same, RF.gr g (h2.put r1)⟩) (r.gr g)
          · cases e
        · cases e
      · cases e
    · exact k.elim
/-- x += e, ints -/
def sAugI (f : Int → Int → Int) (i : Nat) (e : E) : Sm := fun env st => match env[i]? with
  | some (some (.int a)) => (e env st).out env fun d s => match d with
    | .int b => .nx (env.set i (some (.int (f a b)))) s
    | _ => .bad
  | _ => .bad
theorem s_augI {f : Int → Int → Int} {i : Nat} {x : Str} {e : Expr} {fe : E} {op : Operator} {pos pos' : Pos} (ho : PIp X op (ipI f)) (hN : X.N.Nodup) (he : PE X e (tE G W fe)) (hi : X.N[i]? = some x := by rfl) (hx : Loc X.env.scope x := by first | exact Or.inl rfl | exact Or.inr rfl)
    (hf : X.fn x = true ∨ X.env.scope.names.lookup x = some .local := by first | exact .inl rfl | exact .inr rfl) : PS X (.AugAssign (.Name x pos') op e pos) (tS G W (sAugI f i fe)) :=
  PS_weak (ps_aug hN hi hx he ho hf) fun K σ H ⟨ms, st, env, S, r, k⟩ => by
    unfold sAugI at k
    split at k
    · rename_i a ea
      obtain ⟨v, h1, h2⟩ := r.at ea
      simp only [RV] at h2
      subst h2
      have q : tS G W (fun env st => (fe env st).out env fun d s => match d with
        | .int b => .nx (env.set i (some (.int (f a b)))) s
        | _ => .bad) K σ H := ⟨ms, st, env, S, r, k⟩
      refine ⟨_, h1, tX_mono (tX_out (k := fun env d s => match d with
        | .int b => .nx (env.set i (some (.int (f a b)))) s
        | _ => .bad) q) fun v H1 ⟨ms, st, env, d, S, r, r1, k⟩ => ?_⟩
      split at k
      · simp only [RV] at r1
        subst r1
        exact ⟨_, _, rfl, rfl, k _ ms H1 Gr.refl S (RE.set (by simp only [RV]) i r)⟩
      · exact k.elim
    · exact k.elim
end
end LF

set_option Elab.async false
set_option linter.all false
set_option maxRecDepth 100000
set_option maxHeartbeats 4000000
/-! The layer: loops, comprehensions, defs. -/
namespace LF
open PySem PySem.Spec PyProof.Rows L2
section
variable {G : Gx} {W : WX} {X : Cx} {σ : L2.St} {H : Hp}
/-! ### what is walked: the items, and the list that must stay as it is -/
structure Its where
  items : List D
  chk : Option (Nat × List D)
def Its.okB (t : Its) (st : Sto) : Prop := ∀ i ds, t.chk = some (i, ds) → st[i]? = some (.lst ds)
def RIt (G : Gx) (ms : List Addr) (H : Hp) (p : Its) (J : It) : Prop := ∀ (i : Nat) ms' H' st', Gr ms H ms' H' → SRel G ms' st' H' → p.okB st' →
  (i < p.items.length → J.go i H' ∧ ∀ x H2, J.yld i H' x H2 → ∃ d, p.items[i]? = some d ∧ Gr ms' H' ms' H2 ∧ SRel G ms' st' H2 ∧ RV G ms' H2 d x) ∧ (p.items.length ≤ i → J.stop i H')
abbrev tI (G : Gx) (W : WX) (f : Sl → M Its) : TI := tX (RIt G) G W f
theorem PI_weak {tg e : Expr} {t t' : TI} (h : PI X tg e t) (k : ∀ σ H R, t' σ H R → t σ H R) : PI X tg e t' := ⟨fun pins s σ H R I q => h.run pins s σ H R I (k σ H R q)⟩
/-- a list or a tuple -/
def iSeq (K : PySem.W.Frag) (tl : TE) : TI := fun σ H R => tl σ H fun x H1 => ∃ a, x = .ref a ∧ (((∃ xs, SqL K H1 a xs) ∧ R (Itl K a) H1) ∨ ((∃ xs, SqT K H1 a xs) ∧ R (Itt K a) H1))
theorem pi_seq {tg l : Expr} {tl : TE} (hl : PE X l tl) : PI X tg l (iSeq X.K tl) := by
  refine ⟨fun pins s σ H R I h => ?_⟩
  refine thn (hl.run pins s σ H _ I h) fun v s1 ⟨x, H1, I1, r1, q1⟩ => ?_
  obtain ⟨a, e, q⟩ := q1
  subst e
  cases r1
  rcases q with ⟨⟨xs, hq⟩, q⟩ | ⟨⟨xs, hq⟩, q⟩
  · obtain ⟨its, rv, p, hz⟩ := I1.list hq
    refine wpAny_pyIter_list p.isList ?_
    refine ⟨s1.heap.objs.size, [s1.heap.objs.size], _, _, H1, rfl, I1.kept (t' := s1.toks) fun b o e => Heap.get?_push_of_some _ e, turn_list a _, ⟨_, Heap.get?_push_size _ rfl, rfl, rfl⟩, fun b hb => ?_, q⟩
    have e : b = s1.heap.objs.size := by simpa using hb
    subst e
    exact I1.fpOk (Nat.le_refl _) (I1.hok.fresh (Nat.le_refl _))
  · obtain ⟨its, rv, p, hz⟩ := I1.tuple hq
    refine wpAny_pyIter_tuple (show s1.heap.IsTuple a its.toArray from p) ?_
    refine ⟨s1.heap.objs.size, [s1.heap.objs.size], _, _, H1, rfl, I1.kept (t' := s1.toks) fun b o e => Heap.get?_push_of_some _ e, turn_tuple a _, ⟨_, Heap.get?_push_size _ rfl, rfl, rfl⟩, fun b hb => ?_, q⟩
    have e : b = s1.heap.objs.size := by simpa using hb
    subst e
    exact I1.fpOk (Nat.le_refl _) (I1.hok.fresh (Nat.le_refl _))
def iterOf (d : D) (s : Sto) : Option Its := match d with
  | .tup ds => some ⟨ds, none⟩
  | .ref i => match s[i]? with
    | some (.lst ds) => some ⟨ds, some (i, ds)⟩
    | _ => none
  | .scr ns => some ⟨ns.map D.int, none⟩
  | _ => none
def iS (a : E) : Sl → M Its := fun env st => (a env st).bind fun d s => match iterOf d s with
  | some t => .ok t s
  | none => .bad
theorem Gr.sqT' {ms ms' : List Addr} {H' : Hp} {K : PySem.W.Frag} {a : Addr} {xs : List V} (g : Gr ms H ms' H') (h : SqU K H a xs) : SqT K H' a xs := (g.sqT h).t
theorem it_list {K : PySem.W.Frag} {H : Hp} {a : Addr} {vs : List V} {i : Nat} (h : SqL K H a vs) : (i < vs.length → (Itl K a).go i H ∧ ∀ x H2, (Itl K a).yld i H x H2 → H2 = H ∧ vs[i]? = some x) ∧ (vs.length ≤ i → (Itl K a).stop i H) :=
  ⟨fun hi => ⟨⟨vs, vs[i], h, by simp [hi]⟩, fun x H2 y => ⟨y.1, y.2 vs h⟩⟩, fun hi => ⟨vs, h, hi⟩⟩
theorem it_tup {K : PySem.W.Frag} {H : Hp} {a : Addr} {vs : List V} {i : Nat} (h : SqT K H a vs) : (i < vs.length → (Itt K a).go i H ∧ ∀ x H2, (Itt K a).yld i H x H2 → H2 = H ∧ vs[i]? = some x) ∧ (vs.length ≤ i → (Itt K a).stop i H) :=
  ⟨fun hi => ⟨⟨vs, vs[i], h, by simp [hi]⟩, fun x H2 y => ⟨y.1, y.2 vs h⟩⟩, fun hi => ⟨vs, h, hi⟩⟩
theorem RIt.of_seq {ms : List Addr} {p : Its} {J : It} (h : ∀ (i : Nat) ms' H' st', Gr ms H ms' H' → SRel G ms' st' H' → p.okB st' → ∃ vs, RVs G ms' H' p.items vs ∧ ((i < vs.length → J.go i H' ∧ ∀ x H2, J.yld i H' x H2 → H2 = H' ∧ vs[i]? = some x) ∧ (vs.length ≤ i → J.stop i H'))) : RIt G ms H p J := fun i ms' H' st' g S ok => by
  obtain ⟨vs, r, h1, h2⟩ := h i ms' H' st' g S ok
  refine ⟨fun hi => ?_, fun hi => h2 (by rw [r.length]; exact hi)⟩
  obtain ⟨h3, h4⟩ := h1 (by rw [r.length]; exact hi)
  refine ⟨h3, fun x H2 y => ?_⟩
  obtain ⟨rfl, e⟩ := h4 x H2 y
  obtain ⟨d, e2, r2⟩ := r.back e
  exact ⟨d, e2, Gr.refl, S, r2⟩
theorem i_seq {tg e : Expr} {fe : E} (hK : X.K = G.K) (he : PE X e (tE G W fe)) : PI X tg e (tI G W (iS fe)) := PI_weak (pi_seq he) fun σ H R h => tX_mono (tX_bind h) fun v H1 ⟨ms, st, env, d, S, r, r1, k⟩ => by
  rw [hK]
  cases d with
  | tup ds =>
    have r0 := r1
    simp only [RV] at r1
    obtain ⟨a, vs, rfl, h1, h2⟩ := r1
    refine ⟨a, rfl, .inr ⟨⟨vs, h1.t⟩, k _ ms H1 Gr.refl S (RIt.of_seq fun i ms' H' st' g S' ok => ⟨vs, RVs.gr g _ _ h2, it_tup (g.sqT' h1)⟩)⟩⟩
  | ref i =>
    simp only [iterOf] at k
    split at k
    · rename_i t e
      split at e
      · rename_i ds e1
        cases e
        obtain ⟨a, vs, rfl, ha, h1, h2⟩ := S.ref e1 r1
        refine ⟨a, rfl, .inl ⟨⟨vs, SqL.of h1⟩, k _ ms H1 Gr.refl S (RIt.of_seq fun j ms' H' st' g S' ok => ?_)⟩⟩
        obtain ⟨b, us, hb, h3, h4⟩ := S'.lst (ok i ds rfl)
        rw [g.at ha] at hb
        cases hb
        exact ⟨us, h4, it_list (SqL.of h3)⟩
      · cases e
    · exact k.elim
  | scr ns =>
    simp only [RV] at r1
    obtain ⟨a, rfl, h1⟩ := r1
    refine ⟨a, rfl, .inl ⟨⟨_, h1.l⟩, k _ ms H1 Gr.refl S (RIt.of_seq fun i ms' H' st' g S' ok => ⟨_, RVs.ints ns, it_list (g.sqS h1).l⟩)⟩⟩
  | non => exact k.elim
  | bl _ => exact k.elim
  | int _ => exact k.elim
  | str _ => exact k.elim
  | glo _ => exact k.elim
  | ty _ => exact k.elim
/-- range -/
def rngI (lo : Int) (n : Nat) : List D := (List.range n).map fun i : Nat => D.int (lo + (i : Int))
theorem RIt.rng {ms : List Addr} {lo : Int} {n : Nat} : RIt G ms H ⟨rngI lo n, none⟩ (Itr lo n) := fun i ms' H' st' g S ok => by
  have hl : (rngI lo n).length = n := by simp [rngI]
  refine ⟨fun hi => ?_, fun hi => ?_⟩
  · have hi' : i < n := by rw [← hl]; exact hi
    refine ⟨hi', fun x H2 y => ?_⟩
    obtain ⟨rfl, rfl⟩ := y
    exact ⟨.int (lo + i), by simp [rngI, hi'], Gr.refl, S, by simp only [RV]⟩
  · show n ≤ i
    rw [← hl]
    exact hi
def iR1 (a : E) : Sl → M Its := fun env st => (eArgs [a] env st).bind fun ds s => match ds with
  | [.int j] => if -(2 ^ 62) ≤ j ∧ j < 2 ^ 62 then .ok ⟨rngI 0 j.toNat, none⟩ s else .bad
  | _ => .bad
def iR2 (a b : E) : Sl → M Its := fun env st => (eArgs [a, b] env st).bind fun ds s => match ds with
  | [.int i, .int j] => if -(2 ^ 62) ≤ i ∧ i < 2 ^ 62 ∧ -(2 ^ 62) ≤ j ∧ j < 2 ^ 62 then .ok ⟨rngI i (j - i).toNat, none⟩ s else .bad
  | _ => .bad
theorem i_range1 {tg a : Expr} {p pos : Pos} {fa : E} (hm : X.mg "range" = none) (ha : PA X [a] (tA G W (eArgs [fa]))) (hg : Gl X "range" := by rfl) (hs : starEach [a] X.env = [(false, eval a X.env)] := by rfl) : PI X tg (.Call (.Name "range" p) [a] [] pos) (tI G W (iR1 fa)) :=
  PI_weak (pi_range1 hg hm ha hs) fun σ H R h => tX_mono (tX_bind h) fun vs H1 ⟨ms, st, env, ds, S, r, r1, k⟩ => by
    split at k
    · obtain ⟨v, rfl, rv⟩ := r1.one'
      simp only [RV] at rv
      subst rv
      split at k
      · rename_i hj
        exact ⟨_, rfl, hj.1, hj.2, k _ ms H1 Gr.refl S RIt.rng⟩
      · exact k.elim
    · exact k.elim
theorem i_range2 {tg a b : Expr} {p pos : Pos} {fa fb : E} (hm : X.mg "range" = none) (ha : PA X [a, b] (tA G W (eArgs [fa, fb]))) (hg : Gl X "range" := by rfl) (hs : starEach [a, b] X.env = [(false, eval a X.env), (false, eval b X.env)] := by rfl) (hs2 : starEach [b] X.env = [(false, eval b X.env)] := by rfl) : PI X tg (.Call (.Name "range" p) [a, b] [] pos) (tI G W (iR2 fa fb)) :=
  PI_weak (pi_range2 hg hm ha hs hs2) fun σ H R h => tX_mono (tX_bind h) fun vs H1 ⟨ms, st, env, ds, S, r, r1, k⟩ => by
    split at k
    · obtain ⟨v, u, rfl, rv, ru⟩ := r1.two'
      simp only [RV] at rv ru
      subst rv ru
      split at k
      · rename_i hj
        exact ⟨_, _, rfl, hj, k _ ms H1 Gr.refl S RIt.rng⟩
      · exact k.elim
    · exact k.elim
def rngC (lo c : Int) (n : Nat) : List D := (List.range n).map fun i : Nat => D.int (lo + (i : Int) * c)
theorem RIt.rngc {ms : List Addr} {lo c : Int} {n : Nat} : RIt G ms H ⟨rngC lo c n, none⟩ (Itc lo c n) := fun i ms' H' st' g S ok => by
  have hl : (rngC lo c n).length = n := by simp [rngC]
  refine ⟨fun hi => ?_, fun hi => ?_⟩
  · have hi' : i < n := by rw [← hl]; exact hi
    refine ⟨hi', fun x H2 y => ?_⟩
    obtain ⟨rfl, rfl⟩ := y
    exact ⟨.int (lo + i * c), by simp [rngC, hi'], Gr.refl, S, by simp only [RV]⟩
  · show n ≤ i
    rw [← hl]
    exact hi
open Classical in
noncomputable def iR3 (a b c : E) : Sl → M Its := fun env st => (eArgs [a, b, c] env st).bind fun ds s => match ds with
  | [.int i, .int j, .int c] => if h : ∃ n, RgC i j c n then .ok ⟨rngC i c h.choose, none⟩ s else .bad
  | _ => .bad
theorem i_range3 {tg a b c : Expr} {p pos : Pos} {fa fb fc : E} (hm : X.mg "range" = none) (ha : PA X [a, b, c] (tA G W (eArgs [fa, fb, fc]))) (hg : Gl X "range" := by rfl) (hs : starEach [a, b, c] X.env = (false, eval a X.env) :: starEach [b, c] X.env := by rfl) (hpl : (backTo pos (starEach [b, c] X.env)).any (·.1) = false := by rfl) : PI X tg (.Call (.Name "range" p) [a, b, c] [] pos) (tI G W (iR3 fa fb fc)) :=
  PI_weak (pi_range3 hg hm ha hs hpl) fun σ H R h => tX_mono (tX_bind h) fun vs H1 ⟨ms, st, env, ds, S, r, r1, k⟩ => by
    split at k
    · simp only [RVs] at r1
      obtain ⟨v, _, rfl, rv, u, _, rfl, ru, w, _, rfl, rw', rfl⟩ := r1
      simp only [RV] at rv ru rw'
      subst rv ru rw'
      split at k
      · rename_i hj
        exact ⟨_, _, _, _, rfl, hj.choose_spec, k _ ms H1 Gr.refl S RIt.rngc⟩
      · exact k.elim
    · exact k.elim
/-- enumerate(xs) of a list -/
def enumI (ds : List D) : List D := ds.zipIdx.map fun p => .tup [.int (p.2 : Int), p.1]
def iEn (a : E) : Sl → M Its := fun env st => (eArgs [a] env st).bind fun ds s => match ds with
  | [.ref i] => match s[i]? with
    | some (.lst ds) => .ok ⟨enumI ds, some (i, ds)⟩ s
    | _ => .bad
  | _ => .bad
theorem i_enum {e : Expr} {p pos tpos : Pos} {elts : List Expr} {kk : Nat} {fe : E} (hK : X.K = G.K) (hm : X.mg "enumerate" = none) (ha : PA X [e] (tA G W (eArgs [fe]))) (hg : Gl X "enumerate" := by rfl) (hs : starEach [e] X.env = [(false, eval e X.env)] := by rfl) :
    PI X (.Tuple elts kk tpos) (.Call (.Name "enumerate" p) [e] [] pos) (tI G W (iEn fe)) :=
  PI_weak (pi_enum hg hm ha hs) fun σ H R h => tX_mono (tX_bind h) fun vs H1 ⟨ms, st, env, ds, S, r, r1, k⟩ => by
    rw [hK]
    split at k
    · rename_i i
      obtain ⟨v, rfl, rv⟩ := r1.one'
      split at k
      · rename_i ds e1
        obtain ⟨a, vs, rfl, ha, h1, h2⟩ := S.ref e1 rv
        refine ⟨a, vs, rfl, SqL.of h1, k _ ms H1 Gr.refl S fun j ms' H' st' g S' ok => ?_⟩
        obtain ⟨b, us, hb, h3, h4⟩ := S'.lst (ok i ds rfl)
        rw [g.at ha] at hb
        cases hb
        have hl : (enumI ds).length = ds.length := by simp [enumI]
        have hul := h4.length
        refine ⟨fun hj => ?_, fun hj => ⟨us, SqL.of h3, by
          have hj : (enumI ds).length ≤ j := hj
          omega⟩⟩
        have hj : j < (enumI ds).length := hj
        have hj' : j < us.length := by omega
        refine ⟨⟨us, us[j], SqL.of h3, by simp [hj']⟩, fun x H2 y => ?_⟩
        obtain ⟨T, w, rfl, hT, rfl, hw⟩ := y
        have e5 := hw us (SqL.of h3)
        obtain ⟨d, e6, r6⟩ := h4.back e5
        refine ⟨.tup [.int (j : Int), d], by simp [enumI, e6], Gr.new0 hT, S'.lay hT, ?_⟩
        simp only [RV]
        refine ⟨T, _, rfl, .inl upd_same, ?_⟩
        simp only [RVs]
        exact ⟨_, _, rfl, by simp only [RV], _, _, rfl, RV.gr (Gr.new0 hT) _ _ r6, rfl⟩
      · exact k.elim
    · exact k.elim

/-! ### for -/
open Classical in
noncomputable def forS (p : Its) (t : Tg) (body : Sm) : List D → Sm
  | [] => fun env st => if p.okB st then .nx env st else .bad
  | d :: ds => fun env st => if p.okB st then match Tg.sem st t d env with
      | some e => match body e st with
        | .nx e s => forS p t body ds e s
        | .ct e s => forS p t body ds e s
        | .bk e s => .nx e s
        | r => r
      | none => .bad
    else .bad
noncomputable def sFor (it : Sl → M Its) (t : Tg) (body : Sm) : Sm := fun env st => (it env st).out env fun p s => forS p t body p.items env s
theorem s_for {iter tgt : Expr} {body : List Stmt} {it : Sl → M Its} {t : Tg} {fb : Sm} {pos : Pos} (hc : X.calm = true) (hp : PassesOwn (model X.prog X.w) X.A X.env X.xe) (hi : PI X tgt iter (tI G W it)) (hg : PG X tgt (Tg.tg G.K t)) (hb : PSs X body (tS G W fb))
    (hs : ∀ x, foldedSetIterable iter X.env x = pure x := by intro _; rfl) : PS X (.For tgt iter body [] pos) (tS G W (sFor it t fb)) :=
  PS_weak (ps_for hp hc hi hg hb hs) fun K σ H h => tX_mono (tX_out (k := fun env p s => forS p t fb p.items env s) h) fun J H1 ⟨ms, st, env, p, S, r, r1, k⟩ => by
    refine ⟨fun i m σ' H' => ∃ ms' st' env', Gr ms H1 ms' H' ∧ SRel G ms' st' H' ∧ RE G ms' H' env' σ' ∧ i ≤ p.items.length ∧ m = p.items.length - i ∧ OutOk G W K ms' H' (forS p t fb (p.items.drop i) env' st'),
      ⟨p.items.length, ms, st, env, Gr.refl, S, r, Nat.zero_le _, rfl, k⟩, ?_⟩
    rintro i m σ' H' ⟨ms', st', env', g', S', r', hi, rfl, k'⟩
    by_cases hlt : i < p.items.length
    · rw [List.drop_eq_getElem_cons hlt] at k'
      simp only [forS] at k'
      split at k'
      · rename_i ok
        obtain ⟨h1, h2⟩ := (r1 i ms' H' st' g' S' ok).1 hlt
        refine .inr ⟨h1, fun σ2 H2 => ∃ ms2 st2 env2, Gr ms H1 ms2 H2 ∧ SRel G ms2 st2 H2 ∧ RE G ms2 H2 env2 σ2 ∧ OutOk G W K ms2 H2 (forS p t fb (p.items.drop (i + 1)) env2 st2), fun σ2 H2 ⟨ms2, st2, env2, g2, S2, r2, k2⟩ =>
          ⟨p.items.length - (i + 1), by omega, ms2, st2, env2, g2, S2, r2, hlt, rfl, k2⟩, fun x H2 y => ?_⟩
        obtain ⟨d, e1, g2, S2, rx⟩ := h2 x H2 y
        have ed : p.items[i] = d := by
          rw [List.getElem?_eq_getElem hlt] at e1
          exact Option.some.inj e1
        rw [ed] at k'
        split at k'
        · rename_i e he
          obtain ⟨σ2, a, b, _⟩ := Tg.ok S2 t d env' e x σ' he rx (r'.gr g2)
          refine b _ ⟨ms', st', e, S2, a, ?_⟩
          have k' := OutOk.gr g2 k'
          cases e4 : fb e st' with
          | nx e5 s5 =>
            rw [e4] at k'
            exact fun σ5 m5 H5 g5 S5 r5 => ⟨m5, s5, e5, (g'.trans g2).trans g5, S5, r5, OutOk.gr g5 k'⟩
          | ct e5 s5 =>
            rw [e4] at k'
            exact fun σ5 m5 H5 g5 S5 r5 => ⟨m5, s5, e5, (g'.trans g2).trans g5, S5, r5, OutOk.gr g5 k'⟩
          | bk e5 s5 =>
            rw [e4] at k'
            exact k'
          | rt d5 s5 =>
            rw [e4] at k'
            exact k'
          | exn c fs e5 s5 =>
            rw [e4] at k'
            exact k'
          | bad =>
            rw [e4] at k'
            exact k'
        · exact k'.elim
      · exact k'.elim
    · have hn : p.items.drop i = [] := List.drop_eq_nil_of_le (Nat.le_of_not_lt hlt)
      rw [hn] at k'
      simp only [forS] at k'
      split at k'
      · rename_i ok
        exact .inl ⟨(r1 i ms' H' st' g' S' ok).2 (Nat.le_of_not_lt hlt), k' σ' ms' H' Gr.refl S' r'⟩
      · exact k'.elim

/-! ### while -/
def whileN (c : T) (body : Sm) : Nat → Sm
  | 0 => fun _ _ => .bad
  | n + 1 => fun env st => (c env st).out env fun k s => if k = true then match body env s with
      | .nx e s => whileN c body n e s
      | .ct e s => whileN c body n e s
      | .bk e s => .nx e s
      | r => r
    else .nx env s
open Classical in
noncomputable def sWhile (c : T) (body : Sm) : Sm := fun env st => if h : ∃ n, whileN c body n env st ≠ .bad then whileN c body h.choose env st else .bad
theorem s_while {c : Expr} {body : List Stmt} {tc : T} {fb : Sm} {pos : Pos} (hp : PassesOwn (model X.prog X.w) X.A X.env X.xe) (hc : PT X c (tT G W tc)) (hb : PSs X body (tS G W fb)) : PS X (.While c body [] pos) (tS G W (sWhile tc fb)) :=
  PS_weak (ps_while hp hc hb) fun K σ H ⟨ms, st, env, S, r, k⟩ => by
    unfold sWhile at k
    split at k
    · rename_i hn
      refine ⟨fun m σ' H' => ∃ ms' st' env', SRel G ms' st' H' ∧ RE G ms' H' env' σ' ∧ OutOk G W K ms' H' (whileN tc fb m env' st'), ⟨_, ms, st, env, S, r, k⟩, ?_⟩
      rintro m σ' H' ⟨ms', st', env', S', r', k'⟩
      cases m with
      | zero => exact k'.elim
      | succ m =>
        have q : tS G W (fun env st => (tc env st).out env fun k s => if k = true then match fb env s with
            | .nx e s => whileN tc fb m e s
            | .ct e s => whileN tc fb m e s
            | .bk e s => .nx e s
            | r => r
          else .nx env s) K σ' H' := ⟨ms', st', env', S', r', k'⟩
        refine tX_mono (tX_out (k := fun env k s => if k = true then match fb env s with
            | .nx e s => whileN tc fb m e s
            | .ct e s => whileN tc fb m e s
            | .bk e s => .nx e s
            | r => r
          else .nx env s) q) fun b H1 ⟨ms, st, env, b', S, r, r1, k⟩ => ?_
        cases r1
        cases b with
        | true =>
          rw [if_pos rfl]
          have k : OutOk G W K ms H1 (match fb env st with
            | .nx e s => whileN tc fb m e s
            | .ct e s => whileN tc fb m e s
            | .bk e s => .nx e s
            | r => r) := by simpa using k
          refine ⟨fun σ2 H2 => ∃ ms2 st2 env2, SRel G ms2 st2 H2 ∧ RE G ms2 H2 env2 σ2 ∧ OutOk G W K ms2 H2 (whileN tc fb m env2 st2), fun σ2 H2 ⟨ms2, st2, env2, S2, r2, k2⟩ => ⟨m, Nat.lt_succ_self _, ms2, st2, env2, S2, r2, k2⟩, ms, st, env, S, r, ?_⟩
          cases e4 : fb env st with
          | nx e5 s5 =>
            rw [e4] at k
            exact fun σ5 m5 H5 g5 S5 r5 => ⟨m5, s5, e5, S5, r5, OutOk.gr g5 k⟩
          | ct e5 s5 =>
            rw [e4] at k
            exact fun σ5 m5 H5 g5 S5 r5 => ⟨m5, s5, e5, S5, r5, OutOk.gr g5 k⟩
          | bk e5 s5 =>
            rw [e4] at k
            exact k
          | rt d5 s5 =>
            rw [e4] at k
            exact k
          | exn c fs e5 s5 =>
            rw [e4] at k
            exact k
          | bad =>
            rw [e4] at k
            exact k
        | false =>
          rw [if_neg Bool.false_ne_true]
          have k : OutOk G W K ms H1 (.nx env st) := by simpa using k
          exact k _ ms H1 Gr.refl S r
    · exact k.elim

/-! ### list comprehensions -/
def wipeD (e : Sl) : List Nat → Sl
  | [] => e
  | v :: vs => (wipeD e vs).set v none
theorem RE.wipe {ms : List Addr} {e : Sl} {σ : L2.St} (r : RE G ms H e σ) : ∀ vs : List Nat, RE G ms H (wipeD e vs) (L2.wipe σ vs)
  | [] => r
  | v :: vs => by
    unfold wipeD L2.wipe
    exact RE.unset v (RE.wipe r vs)
open Classical in
noncomputable def lcS (p : Its) (vs : List Nat) (t : Tg) (c : T) (e : E) (L : Nat) (env : Sl) : List D → Sto → Option Sto
  | [] => fun st => if p.okB st then some st else none
  | d :: ds => fun st => if p.okB st then match Tg.sem st t d (wipeD env vs) with
      | some e1 => match c e1 st with
        | .ok true s => match e e1 s with
          | .ok y s => match s[L]? with
            | some (.lst acc) => if acc.length < LIM then lcS p vs t c e L env ds (s.set L (.lst (acc ++ [y]))) else none
            | _ => none
          | _ => none
        | .ok false s => lcS p vs t c e L env ds s
        | _ => none
      | none => none
    else none
noncomputable def eLc (vs : List Nat) (it : Sl → M Its) (t : Tg) (c : T) (e : E) : E := fun env st => (it env st).bind fun p s => match lcS p vs t c e s.length env p.items (s ++ [.lst []]) with
  | some s' => .ok (.ref s.length) s'
  | none => .bad
abbrev W0 : WX := fun _ _ _ _ => False
theorem lc_tLc {vs : List Nat} {it : Sl → M Its} {t : Tg} {tc : T} {fe : E} {Q : VK} (hv : ∀ i ∈ Tg.names t, i ∈ vs) (h : tE G W (eLc vs it t tc fe) σ H Q) : tLc (tI G W it) (Tg.tg G.K t) (tT G W0 tc) (tE G W0 fe) vs σ H Q :=
  tX_mono (tX_bind h) fun J H1 ⟨ms, st, env, p, S, r, r1, k⟩ => by
    intro Dl hD
    split at k
    · rename_i sf ef
      have g0 : Gr ms H1 (ms ++ [Dl]) (upd H1 Dl (.lst [])) := Gr.new hD [Dl]
      refine ⟨fun i m H' => ∃ ms' st', Gr (ms ++ [Dl]) (upd H1 Dl (.lst [])) ms' H' ∧ SRel G ms' st' H' ∧ i ≤ p.items.length ∧ m = p.items.length - i ∧ lcS p vs t tc fe st.length env (p.items.drop i) st' = some sf,
        ⟨p.items.length, ms ++ [Dl], st ++ [.lst []], Gr.refl, S.new (c := .lst []) hD ⟨[], upd_same, by simp only [RVs]⟩, Nat.zero_le _, rfl, by rw [List.drop_zero]; exact ef⟩, ?_⟩
      rintro i m H' ⟨ms', st', g', S', hi, rfl, k'⟩
      have hL : ms'[st.length]? = some Dl := g'.at (by rw [← S.len]; simp)
      by_cases hlt : i < p.items.length
      · rw [List.drop_eq_getElem_cons hlt] at k'
        simp only [lcS] at k'
        split at k'
        · rename_i ok
          obtain ⟨h1, h2⟩ := (r1 i ms' H' st' (g0.trans g') S' ok).1 hlt
          refine .inr ⟨h1, fun H2 => ∃ ms2 st2, Gr (ms ++ [Dl]) (upd H1 Dl (.lst [])) ms2 H2 ∧ SRel G ms2 st2 H2 ∧ lcS p vs t tc fe st.length env (p.items.drop (i + 1)) st2 = some sf, fun H2 ⟨ms2, st2, g2, S2, k2⟩ =>
            ⟨p.items.length - (i + 1), by omega, ms2, st2, g2, S2, hlt, rfl, k2⟩, fun x H2 y => ?_⟩
          obtain ⟨d, e1, g2, S2, rx⟩ := h2 x H2 y
          have ed : p.items[i] = d := by
            rw [List.getElem?_eq_getElem hlt] at e1
            exact Option.some.inj e1
          rw [ed] at k'
          split at k'
          · rename_i e he
            have rw1 := (r.gr ((g0.trans g').trans g2)).wipe vs
            obtain ⟨σ2, a, b, cw⟩ := Tg.ok S2 t d _ e x _ he rx rw1
            refine b _ ⟨?_, ms', st', e, S2, a, ?_⟩
            · rw [cw vs hv]
              have ww : ∀ (l : List Nat) (τ : L2.St), L2.wipe (L2.wipe τ l) l = L2.wipe τ l := by
                intro l
                induction l with
                | nil => intro τ; rfl
                | cons w l ih =>
                  intro τ
                  show (L2.wipe ((L2.wipe τ l).set w none) l).set w none = (L2.wipe τ l).set w none
                  by_cases hw : w ∈ l
                  · rw [wipe_set hw, ih]
                  · have out : ∀ (m : List Nat) (τ : L2.St), w ∉ m → L2.wipe (τ.set w none) m = (L2.wipe τ m).set w none := by
                      intro m
                      induction m with
                      | nil => intro τ _; rfl
                      | cons u m ihm =>
                        intro τ hu
                        simp only [List.mem_cons, not_or] at hu
                        unfold L2.wipe
                        rw [ihm τ hu.2, List.set_comm _ _ hu.1]
                    rw [out l _ hw, List.set_set, ih]
              exact ww vs σ
            · cases e4 : tc e st' with
              | ok b4 s4 =>
                rw [e4] at k'
                intro b5 m5 H5 g5 S5 r5
                cases r5
                cases b4 with
                | true =>
                  rw [if_pos rfl]
                  refine ⟨m5, s4, e, S5, a.gr g5, ?_⟩
                  simp only at k'
                  cases e6 : fe e s4 with
                  | ok y6 s6 =>
                    rw [e6] at k'
                    intro v6 m6 H6 g6 S6 r6
                    simp only at k'
                    split at k'
                    · rename_i acc ea
                      split at k'
                      · rename_i hl
                        have hLL : m6[st.length]? = some Dl := ((g2.trans g5).trans g6).at hL
                        obtain ⟨b7, us, hb7, h7, h8⟩ := S6.lst ea
                        rw [hLL] at hb7
                        cases hb7
                        obtain ⟨c9, _, hc9⟩ := S6.has hLL
                        have g9 : Gr m6 H6 m6 (upd H6 Dl (.lst (us ++ [v6]))) := Gr.cell hc9
                        exact ⟨us, h7, by rw [h8.length]; exact LIM_lt hl, m6, _, (((g'.trans g2).trans g5).trans g6).trans g9, S6.put (c := .lst (acc ++ [y6])) hLL ⟨_, upd_same, RVs.gr g9 _ _ (h8.app (.one r6))⟩, k'⟩
                      · cases k'
                    · cases k'
                  | exn c fs s => rw [e6] at k'; cases k'
                  | bad => rw [e6] at k'; cases k'
                | false =>
                  rw [if_neg Bool.false_ne_true]
                  exact ⟨m5, s4, (g'.trans g2).trans g5, S5, k'⟩
              | exn c fs s => rw [e4] at k'; cases k'
              | bad => rw [e4] at k'; cases k'
          · cases k'
        · cases k'
      · have hn : p.items.drop i = [] := List.drop_eq_nil_of_le (Nat.le_of_not_lt hlt)
        rw [hn] at k'
        simp only [lcS] at k'
        split at k'
        · rename_i ok
          cases k'
          refine .inl ⟨(r1 i ms' H' sf (g0.trans g') S' ok).2 (Nat.le_of_not_lt hlt), k (.ref Dl) ms' H' (g0.trans g') S' ?_⟩
          simp only [RV]
          exact ⟨Dl, rfl, hL⟩
        · cases k'
    · exact k.elim
def tYes' : T := fun _ st => .ok true st
theorem ts_nil : PTs X [] (tT G W tYes') := ⟨fun pins s σ H Q I ⟨ms, st, env, S, _, k⟩ => pts_nil.run pins s σ H Q I (k true ms H Gr.refl S rfl)⟩
theorem ts_one {c : Expr} {tc : T} (h : PT X c (tT G W tc)) : PTs X [c] (tT G W tc) := pts_one h
theorem e_lc {elt tg iter : Expr} {ifs : List Expr} {scope : Scope} {own : List (Str × Nat)} {pos : Pos} {it : Sl → M Its} {t : Tg} {tc : T} {fe : E} (hc : X.calm = true) (hN : X.N.Nodup) (hi : PI X tg iter (tI G W it)) (ok : BlkOk X.N X.env.scope scope own)
    (hg : ∀ (s : Shared) (H : Hp) (C : Addr) (cl : List (Str × Addr)) (fp : List Addr), PG (X.blk s H scope (compEnvC scope cl C X.env) fp) tg (Tg.tg G.K t)) (ht : ∀ (s : Shared) (H : Hp) (C : Addr) (cl : List (Str × Addr)) (fp : List Addr), PTs (X.blk s H scope (compEnvC scope cl C X.env) fp) ifs (tT G W0 tc))
    (he : ∀ (s : Shared) (H : Hp) (C : Addr) (cl : List (Str × Addr)) (fp : List Addr), PE (X.blk s H scope (compEnvC scope cl C X.env) fp) elt (tE G W0 fe)) (hv : ∀ i ∈ Tg.names t, i ∈ own.map (·.2) := by decide) (hs : ∀ x, foldedSetIterable iter X.env x = pure x := by intro _; rfl) :
    PE X (.ListComp elt [⟨tg, iter, ifs, 0⟩] scope pos) (tE G W (eLc (own.map (·.2)) it t tc fe)) :=
  PE_weak (pe_lc hc hN hi ok hg ht he hs) fun σ H Q h => lc_tLc hv h
theorem s_setLc {i : Nat} {y : Str} {py : Pos} {elt tg iter : Expr} {ifs : List Expr} {scope : Scope} {own : List (Str × Nat)} {pos spos : Pos} {it : Sl → M Its} {t : Tg} {tc : T} {fe : E} (hc : X.calm = true) (hN : X.N.Nodup) (hi : PI X tg iter (tI G W it)) (ok : BlkOk X.N X.env.scope scope own)
    (hsw : swapsWith (.ListComp elt [⟨tg, iter, ifs, 0⟩] scope pos) (some (.Name y py)) spos.line X.env = pure true)
    (hg : ∀ (s : Shared) (H : Hp) (C : Addr) (cl : List (Str × Addr)) (fp : List Addr), PG (X.blk s H scope (compEnvC scope cl C X.env) fp) tg (Tg.tg G.K t)) (ht : ∀ (s : Shared) (H : Hp) (C : Addr) (cl : List (Str × Addr)) (fp : List Addr), PTs (X.blk s H scope (compEnvC scope cl C X.env) fp) ifs (tT G W0 tc))
    (he : ∀ (s : Shared) (H : Hp) (C : Addr) (cl : List (Str × Addr)) (fp : List Addr), PE (X.blk s H scope (compEnvC scope cl C X.env) fp) elt (tE G W0 fe)) (hv : ∀ i ∈ Tg.names t, i ∈ own.map (·.2) := by decide) (hy : X.N[i]? = some y := by rfl) (hyl : X.env.scope.names.lookup y = some .local := by rfl) (hs : ∀ x, foldedSetIterable iter X.env x = pure x := by intro _; rfl) :
    PS X (.Assign [.Name y py] (.ListComp elt [⟨tg, iter, ifs, 0⟩] scope pos) spos) (tS G W (sAsg (.name i) (eLc (own.map (·.2)) it t tc fe))) :=
  PS_weak (ps_setLc hc hN hy hyl hsw hi ok hg ht he hs) fun K σ H h => by
    have q := asg_fin h
    simp only [Tg.tg] at q
    exact lc_tLc hv q

/-! ### defs -/
def Out.fin : Out → Res D
  | .nx _ s => .ok .non s
  | .rt d s => .ok d s
  | .exn c fs _ s => .exn c fs s
  | _ => .bad
def fnS (n m : Nat) (body : Sm) : F := fun ds st => if ds.length = n then (body (ds.map some ++ List.replicate (m - n) none) st).fin else .bad
theorem fn_ok {P : Program} {w : World} {mg : Str → Option Value} {base : Heap} {x qual : Str} {st : Stmt} {f : Addr} {fd : FuncData} {N ps : List Str} {k : Nat} {body : Sm} (T : Fun G.K x qual st f fd) (S : FnScope N ps (defScope st))
    (hb : ∀ (cdv : Value) (A : Around) (outer : List Env) (s : Shared) (H : Hp) (E : XK), Room k (A.deeper (envOfC qual (defScope st) s.heap.objs.size f cdv)) →
      PSs (cxOf (L2.CX P w) P w G.K mg base N qual (defScope st) f cdv A outer s H E) (defBody st) (tS G (fun cls d _ H => E cls d H) body)) : FnOk P w G.K mg base (L2.CX P w) (k + 1) f fd ps (spF G (fnS ps.length N.length body)) := by
  have hlen : ∀ vs H Q E, spF G (fnS ps.length N.length body) vs H Q E → vs.length = ps.length := by
    rintro vs H Q E ⟨ms, st, ds, S1, r, q⟩
    unfold fnS at q
    split at q
    · rename_i hl
      rw [r.length, hl]
    · exact q.elim
  refine T.okX S hlen fun cdv A outer s H vs Q E hr h => ⟨_, hb cdv A outer s H E hr, ?_⟩
  have hl := hlen vs H Q E h
  obtain ⟨ms, st1, ds, S1, r, q⟩ := h
  have hl2 : ds.length = ps.length := by rw [← r.length]; exact hl
  unfold fnS at q
  rw [if_pos hl2] at q
  refine ⟨ms, st1, ds.map some ++ List.replicate (N.length - ps.length) none, S1, ?_, ?_⟩
  · unfold L2.start
    rw [hl]
    exact RE.start _ r
  · cases e : body (ds.map some ++ List.replicate (N.length - ps.length) none) st1 with
    | nx e1 s1 =>
      rw [e] at q
      exact fun σ' m1 H1 g1 S1 _ => q .non m1 H1 g1 S1 (by simp only [RV])
    | rt d s1 =>
      rw [e] at q
      exact q
    | exn c fs e1 s1 =>
      rw [e] at q
      exact fun od σ' m1 H1 g1 S1 _ x1 => q od m1 H1 g1 S1 x1
    | bk e1 s1 => rw [e] at q; exact q.elim
    | ct e1 s1 => rw [e] at q; exact q.elim
    | bad => rw [e] at q; exact q.elim
end
end LF

set_option Elab.async false
set_option linter.all false
set_option maxRecDepth 100000
set_option maxHeartbeats 4000000
/-! The layer: == and != by an own __eq__. -/
namespace LF
open PySem PySem.Spec PyProof.Rows L2
section
open PySem.W Builtin
variable {prog : Program} {w : World} {A : Around} {E : Value → Shared → Prop} {s : Shared} {K : PySem.W.Frag} {x C f : Addr} {ox : Obj} {od : Option Obj} {b tb : Value}
theorem objNe_own {Q : Fin → Shared → Prop} (hu : A.units < cLine) (X : K.In s.heap) (I : PySem.W.InstAt s.heap x ox C od) (hs : PySem.W.findIn K (.ref C) "__eq__" = some (some (.ref f))) (hf : PySem.W.isFn K (.ref f) = true)
    (h : wpAny (model prog w) A (call (.ref f) [.ref x, b]) (fun v s' => ∃ k, v = .bool k ∧ Q (.done (.ret (.bool (!k)))) s') E s) : wpAny (model prog w) A (Builtin.«object.__ne__» ⟨[.ref x, b], []⟩) Q E s := by
  unfold Builtin.«object.__ne__»
  repeat (first
    | with_reducible refine wpAny_cRoomFor hu ?_
    | (refine wpAny_bind (m := callSpecialIfBound? (.ref x) (Str.ofString "__eq__") [b])
        (PySem.W.ifBound_K X I hs hf (wpAny_mono h (fun r s' hr => by
          obtain ⟨k, rfl, hq⟩ := hr
          repeat (first | exact hq | exact wpAny_pure hq | exact wpAny_truthy_bool hq | (refine wpAny_bind (m := truthy (.bool _)) (wpAny_truthy_bool ?_)) | wp_step)) fun _ _ e => e)))
    | wp_step)
theorem ifBound_ne {Q : Option Value → Shared → Prop} (X : K.In s.heap) (I : PySem.W.InstAt s.heap x ox C od) (hs : PySem.W.findIn K (.ref C) "__ne__" = some (some (.builtin "object.__ne__")))
    (h : wpAny (model prog w) A (call (.builtin "object.__ne__") (.ref x :: [b])) (fun v => Q (some v)) E s) : wpAny (model prog w) A (callSpecialIfBound? (.ref x) "__ne__" [b]) Q E s := by
  simp only [callSpecialIfBound?, bindSpecialIfBound?]
  refine wpAny_holding (wpAny_bind (wpAny_bind (wpAny_bind (I.type.here ((PySem.W.looks_findIn X hs).here ?_)))))
  refine wpAny_bind (wpAny_askSetting (wpAny_ite ?_))
  have fin : wpAny (model prog w) A (call (.builtin "object.__ne__") ([.ref x] ++ [b]) >>= fun v => pure (some v)) Q E s := wpAny_bind (wpAny_mono h (fun v s' h' => wpAny_pure h') fun _ _ h' => h')
  simp only [F.cmp_object.ne.bind]
  split
  · exact wpAny_bind (wpAny_pure (wpAny_pure fin))
  · exact wpAny_tryCatch (wpAny_bind (wpAny_pure (wpAny_pure fin)))
theorem tryNe_own {Q : Option Value → Shared → Prop} (hu : A.units + 1 < cLine) (X : K.In s.heap) (I : PySem.W.InstAt s.heap x ox C od) (hn : PySem.W.findIn K (.ref C) "__ne__" = some (some (.builtin "object.__ne__"))) (hs : PySem.W.findIn K (.ref C) "__eq__" = some (some (.ref f)))
    (hf : PySem.W.isFn K (.ref f) = true) (hm : PySem.W.mroIn K C (.type "object") = some true)
    (h : wpAny (model prog w) A.in1 (call (.ref f) [.ref x, b]) (fun v s' => ∃ k, v = .bool k ∧ Q (some (.bool (!k))) s') E s) : wpAny (model prog w) A (tryCompare (.ref x) "__ne__" b) Q E s := by
  simp only [tryCompare]
  have sub : PySem.W.Looks (model prog w) s.heap (isInstance (.ref x) (.type "object")) true := I.type.andThen (PySem.W.looks_mroIn X hm)
  refine wpAny_bind (ifBound_ne X I hn (wpAny_call (codeAny_call_builtin F.cmp_object.ne.plain F.cmpEntry_ne
    (@PySem.W.check_slot (model prog w) _ _ s "object.__ne__" "object" "__ne__" (.ref x) [b] [] _ F.cmpKind_ne F.cmpSplit_ne sub (F.cmpArgs_ne _ _)
      (objNe_own (A := A.in1) hu X I hs hf (wpAny_mono h (fun v s' hv => ?_) fun _ _ e => e))))))
  obtain ⟨k, rfl, hq⟩ := hv
  first | exact ⟨k, rfl, wpAny_pure hq⟩ | exact ⟨k, rfl, wpAny_pure (wpAny_pure hq)⟩ | exact ⟨k, rfl, hq⟩
theorem ne_own {Q : Value → Shared → Prop} (hu : A.units + 1 < cLine) (X : K.In s.heap) (I : PySem.W.InstAt s.heap x ox C od) (hb : PySem.W.Looks (model prog w) s.heap (typeOf b) tb) (hnf : PySem.W.notFirst K C tb = true)
    (hn : PySem.W.findIn K (.ref C) "__ne__" = some (some (.builtin "object.__ne__"))) (hs : PySem.W.findIn K (.ref C) "__eq__" = some (some (.ref f))) (hf : PySem.W.isFn K (.ref f) = true) (hm : PySem.W.mroIn K C (.type "object") = some true)
    (h : wpAny (model prog w) A.in1 (call (.ref f) [.ref x, b]) (fun v s' => ∃ k, v = .bool k ∧ Q (.bool (!k)) s') E s) : wpAny (model prog w) A (richCompare .NotEq (.ref x) b) Q E s := by
  have one : wpAny (model prog w) A (tryCompare (.ref x) "__ne__" b) (fun r s' => ∃ v, r = some v ∧ Q v s') E s :=
    tryNe_own hu X I hn hs hf hm (wpAny_mono h (fun v s' ⟨k, e, q⟩ => ⟨k, e, _, rfl, q⟩) fun _ _ e => e)
  unfold richCompare
  simp only [oneThing_ref]
  refine wpAny_holding (wpAny_bind (wpAny_cRoomFor (Nat.lt_of_succ_lt hu) ?_))
  rw [cmpInfo_NotEq]
  dsimp only
  refine wpAny_bind (I.type.here (wpAny_bind (hb.here ?_)))
  split
  · rename_i q
    have e : PySem.W.subIn K tb (.ref C) = some false := by
      rcases Bool.or_eq_true_iff.mp hnf with e | e
      · rw [beq_iff_eq.mp e] at q; simp at q
      · exact beq_iff_eq.mp e
    refine wpAny_bind ((PySem.W.looks_subIn X e).here ?_)
    simp only [Bool.false_eq_true, if_false]
    refine wpAny_bind (wpAny_mono one (fun r s' z => ?_) fun _ _ e => e)
    obtain ⟨v, rfl, hq⟩ := z
    exact wpAny_pure hq
  · refine wpAny_bind (wpAny_pure ?_)
    simp only [Bool.false_eq_true, if_false]
    refine wpAny_bind (wpAny_mono one (fun r s' z => ?_) fun _ _ e => e)
    obtain ⟨v, rfl, hq⟩ := z
    exact wpAny_pure hq
end
section
variable {G : Gx} {W : WX} {X : Cx} {σ : L2.St} {H : Hp}
/-- what is known of a class with an own __eq__, and of the def -/
structure OwnEq (X : Cx) (G : Gx) (c : Nat) (g : F) (k : Nat) : Prop where
  ex : ∃ (f : Addr) (fd : FuncData) (ps : List Str), FnOk X.prog X.w X.K X.mg X.base (L2.CX X.prog X.w) k f fd ps (spF G g) ∧ Binds X.K fd ps [] ∧ PySem.W.findIn X.K (.ref (G.tb c)) "__eq__" = some (some (.ref f)) ∧ PySem.W.isFn X.K (.ref f) = true
  ne : PySem.W.findIn X.K (.ref (G.tb c)) "__ne__" = some (some (.builtin "object.__ne__"))
  mro : PySem.W.mroIn X.K (G.tb c) (.type "object") = some true
/-- x == y, x an instance of the class c, g the own __eq__ -/
def rOwn (G : Gx) (neg : Bool) (c : Nat) (g : F) (ok : Kd → Bool) : R2 := fun v u H Q => ∃ ms st x y i fs k, SRel G ms st H ∧ RV G ms H x v ∧ RV G ms H y u ∧ x = .ref i ∧ st[i]? = some (.ins c fs) ∧ kind y st = some k ∧ ok k = true ∧
  Okk (RV G) G (fun _ _ _ => False) (fun z H' => ∃ b, z = .bl b ∧ Q (.bl (if neg then !b else b)) H') ms H (g [x, y] st)
theorem run_own {k : Nat} {g : F} {pins : List (Addr × Obj)} {s : Shared} {A : Around} {a : Addr} {v2 : V} {u : Value} {Q : VK} {f : Addr} {fd : FuncData} {ps : List Str} (T : FnOk X.prog X.w X.K X.mg X.base (L2.CX X.prog X.w) k f fd ps (spF G g)) (hb : Binds X.K fd ps []) (hr : Room k A) (hfr : A.frames = X.A.frames)
    (I : Inv X pins σ H s) (ru : RelV v2 u) (h : spF G g [.ref a, v2] H Q (fun _ _ _ => False)) : wpAny (model X.prog X.w) A (PySem.call (.ref f) [.ref a, u]) (EP X pins σ Q) X.xe s := by
  have e0 : Env0 X.prog X.w X.K X.mg X.base A X.stack s H := by
    have e := I.env0
    exact ⟨by rw [hfr]; exact e.frames, e.mod, e.bs, e.bsz, e.funs, e.frf, e.hok, e.bare⟩
  have hl := T.len _ _ _ _ h
  have r2 : Vals [V.ref a, v2] [Value.ref a, u] := .cons rfl (.cons ru .nil)
  refine wpAny_call (codeAny_mono (T.run A X.stack s H ⟨[.ref a, u], []⟩ [.ref a, u] [.ref a, v2] _ _ hr e0 (by
    have := hb s [.ref a, u] I.kIn (by simpa using hl)
    simpa using this) r2 h) fun r s' hq => ?_)
  cases r with
  | error e => exact passL pins σ H s e s' I hq
  | ok fl =>
    cases fl with
    | ret w => exact I.after hq
    | next => exact False.elim hq
    | brk => exact False.elim hq
    | cont => exact False.elim hq
theorem own_pre {c : Nat} {g : F} {ok : Kd → Bool} {neg : Bool} {v u : V} {Q : VK} (hK : X.K = G.K) (hok : ∀ k, ok k = true → ∃ t, KdT G k t ∧ PySem.W.notFirst G.K (G.tb c) t = true) {pins : List (Addr × Obj)} {s : Shared} {uv : Value} (I : Inv X pins σ H s) (ru : RelV u uv)
    (h : rOwn G neg c g ok v u H Q) : ∃ (a : Addr) (ox : Obj) (od : Option Obj) (tb : Value), v = .ref a ∧ PySem.W.InstAt s.heap a ox (G.tb c) od ∧ PySem.W.Looks (model X.prog X.w) s.heap (typeOf uv) tb ∧ PySem.W.notFirst X.K (G.tb c) tb = true ∧
      spF G g [.ref a, u] H (fun z H' => ∃ b, z = .bl b ∧ Q (.bl (if neg then !b else b)) H') (fun _ _ _ => False) := by
  obtain ⟨ms, st, x, y, i, fs, k, S, rx, ry, rfl, ei, ek, ho, q⟩ := h
  have rx0 := rx
  obtain ⟨a, dx, gs, rfl, _, h1, _⟩ := S.ins ei rx
  obtain ⟨mA, J, _⟩ := ins_get I.hok h1
  obtain ⟨od, J, _⟩ := J.look
  obtain ⟨t, ht, hn⟩ := hok k ho
  obtain ⟨P, Z, p, _⟩ := kit_of I ru (by rw [hK]; exact kd_ok S ry ek ht)
  exact ⟨a, _, _, t, rfl, J, Z.ty _ _ I.kIn p, by rw [hK]; exact hn, ms, st, [.ref i, y], S, by
    simp only [RVs]
    exact ⟨_, _, rfl, rx0, _, _, rfl, ry, rfl⟩, q⟩
theorem op_own {k c : Nat} {g : F} {ok : Kd → Bool} (hK : X.K = G.K) (T : OwnEq X G c g k) (hr : Room k X.A) (hok : ∀ k, ok k = true → ∃ t, KdT G k t ∧ PySem.W.notFirst G.K (G.tb c) t = true) : OpR X (compareOp .Eq) (rOwn G false c g ok) := by
  intro pins s σ H v u vv uv Q I rv ru h
  obtain ⟨a, ox, od, tb, rfl, J, L, hn, sp⟩ := own_pre hK hok I ru h
  cases rv
  obtain ⟨f, fd, ps, FO, hb, hs, hf⟩ := T.ex
  obtain ⟨m, hF⟩ := I.fr
  show wpAny (model X.prog X.w) X.A (richCompare .Eq (.ref a) uv) (EP X pins σ Q) X.xe s
  refine PySem.W.cmp_K (op := .Eq) hr.units0 hF I.ok.mod.kin J L hn hs hf ?_
  refine wpAny_mono (run_own FO hb hr rfl I ru sp) (fun w s' ⟨z, H', I', rz, b, ez, q⟩ => ?_) fun _ _ e => e
  subst ez
  cases rz
  exact ⟨.bl b, H', I', rfl, q⟩
theorem op_ownN {k c : Nat} {g : F} {ok : Kd → Bool} (hK : X.K = G.K) (T : OwnEq X G c g k) (hr : Room (k + 1) X.A) (hok : ∀ k, ok k = true → ∃ t, KdT G k t ∧ PySem.W.notFirst G.K (G.tb c) t = true) : OpR X (compareOp .NotEq) (rOwn G true c g ok) := by
  intro pins s σ H v u vv uv Q I rv ru h
  obtain ⟨a, ox, od, tb, rfl, J, L, hn, sp⟩ := own_pre hK hok I ru h
  cases rv
  obtain ⟨f, fd, ps, FO, hb, hs, hf⟩ := T.ex
  show wpAny (model X.prog X.w) X.A (richCompare .NotEq (.ref a) uv) (EP X pins σ Q) X.xe s
  have hu := hr.units
  refine ne_own (by omega) I.kIn J L hn T.ne hs hf T.mro ?_
  refine wpAny_mono (run_own (A := X.A.in1) FO hb hr.in1 rfl I ru sp) (fun w s' ⟨z, H', I', rz, b, ez, q⟩ => ?_) fun _ _ e => e
  subst ez
  cases rz
  exact ⟨b, rfl, .bl (!b), H', I', rfl, q⟩
/-- x == y where x may be an instance of the class c with an own __eq__ g -/
def eEqX (neg : Bool) (c : Nat) (g : F) (ok : Kd → Bool) (a b : E) : E := fun env st => (a env st).bind fun x s => (b env s).bind fun y s => match x with
  | .ref i => match s[i]? with
    | some (.ins c' _) => if c' = c then match kind y s with
        | some k => if ok k = true then match g [x, y] s with
            | .ok (.bl r) s => .ok (.bl (if neg then !r else r)) s
            | _ => .bad
          else .bad
        | none => .bad
      else .bad
    | _ => ofO (if neg then opNe x y s else opEq x y s)
  | _ => ofO (if neg then opNe x y s else opEq x y s)
theorem eqx_r {neg : Bool} {c : Nat} {g : F} {ok : Kd → Bool} {fa fb : E} {Q : VK} {r : R2} (hd : ∀ v u H Q, rO G (if neg then opNe else opEq) v u H Q → r v u H Q) (ho : ∀ v u H Q, rOwn G neg c g ok v u H Q → r v u H Q) (h : tE G W (eEqX neg c g ok fa fb) σ H Q) : tOp r (tE G W fa) (tE G W fb) σ H Q := by
  refine tX_mono (tX_bin h) fun v H1 h1 => tX_mono h1 fun u H2 ⟨ms, st, x, y, S, r1, r2, k⟩ => ?_
  have data : Okk (RV G) G (fun c d H => W c d σ H) Q ms H2 (ofO (if neg then opNe x y st else opEq x y st)) → r v u H2 Q := fun k => hd _ _ _ _ ⟨ms, st, x, y, S, r1, r2, by
    cases neg with
    | true => exact k.ofO
    | false => exact k.ofO⟩
  split at k
  · rename_i i
    split at k
    · rename_i c' fs e
      split at k
      · rename_i hc
        subst hc
        split at k
        · rename_i kd ek
          split at k
          · rename_i hk
            refine ho _ _ _ _ ⟨ms, st, .ref i, y, i, fs, kd, S, r1, r2, rfl, e, ek, hk, ?_⟩
            split at k
            · rename_i b s' eg
              rw [eg]
              exact fun z m1 H1 g1 S1 rz => by
                simp only [RV] at rz
                exact ⟨b, rz, k _ m1 H1 g1 S1 (by simp only [RV])⟩
            · exact k.elim
          · exact k.elim
        · exact k.elim
      · exact k.elim
    · exact data k
  · exact data k
theorem o_eqX {k c : Nat} {g : F} {ok : Kd → Bool} (hK : X.K = G.K) (T : OwnEq X G c g k) (hr : Room k X.A) (hok : ∀ k, ok k = true → ∃ t, KdT G k t ∧ PySem.W.notFirst G.K (G.tb c) t = true) : OpR X (compareOp .Eq) (fun v u H Q => rO G opEq v u H Q ∨ rOwn G false c g ok v u H Q) :=
  (o_eq hK hr.units).or (op_own hK T hr hok)
theorem o_neX {k c : Nat} {g : F} {ok : Kd → Bool} (hK : X.K = G.K) (T : OwnEq X G c g k) (hr : Room (k + 1) X.A) (hok : ∀ k, ok k = true → ∃ t, KdT G k t ∧ PySem.W.notFirst G.K (G.tb c) t = true) : OpR X (compareOp .NotEq) (fun v u H Q => rO G opNe v u H Q ∨ rOwn G true c g ok v u H Q) :=
  (o_ne hK hr.units).or (op_ownN hK T hr hok)
theorem e_eqX {k j c : Nat} {g : F} {ok : Kd → Bool} {a b : Expr} {pos : Pos} {fa fb : E} (hK : X.K = G.K) (T : OwnEq X G c g j) (hr : Room k X.A) (hok : ∀ k, ok k = true → ∃ t, KdT G k t ∧ PySem.W.notFirst G.K (G.tb c) t = true) (ha : PE X a (tE G W fa)) (hb : PE X b (tE G W fb)) (hj : j ≤ k := by decide) : PE X (.Compare a [.Eq] [b] pos) (tE G W (eEqX false c g ok fa fb)) :=
  PE_weak (pe_cmpR (o_eqX hK T (hr.mono hj) hok) ha hb (nomark _)) fun σ H Q h => eqx_r (neg := false) (fun _ _ _ _ q => .inl q) (fun _ _ _ _ q => .inr q) h
theorem e_neX {k j c : Nat} {g : F} {ok : Kd → Bool} {a b : Expr} {pos : Pos} {fa fb : E} (hK : X.K = G.K) (T : OwnEq X G c g j) (hr : Room k X.A) (hok : ∀ k, ok k = true → ∃ t, KdT G k t ∧ PySem.W.notFirst G.K (G.tb c) t = true) (ha : PE X a (tE G W fa)) (hb : PE X b (tE G W fb)) (hj : j + 1 ≤ k := by decide) : PE X (.Compare a [.NotEq] [b] pos) (tE G W (eEqX true c g ok fa fb)) :=
  PE_weak (pe_cmpR (o_neX hK T (hr.mono hj) hok) ha hb (nomark _)) fun σ H Q h => eqx_r (neg := true) (fun _ _ _ _ q => .inl q) (fun _ _ _ _ q => .inr q) h
theorem t_eqX {k j c : Nat} {g : F} {ok : Kd → Bool} {a b : Expr} {pos : Pos} {fa fb : E} (hK : X.K = G.K) (T : OwnEq X G c g j) (hr : Room k X.A) (hok : ∀ k, ok k = true → ∃ t, KdT G k t ∧ PySem.W.notFirst G.K (G.tb c) t = true) (ha : PE X a (tE G W fa)) (hb : PE X b (tE G W fb)) (hj : j ≤ k := by decide) : PT X (.Compare a [.Eq] [b] pos) (tT G W (asB (eEqX false c g ok fa fb))) :=
  PT_weak (pt_cmpR (o_eqX hK T (hr.mono hj) hok) ha hb (nomark _)) fun σ H Q h => tE_tTest (fun _ _ _ h => eqx_r (neg := false) (fun _ _ _ _ q => .inl q) (fun _ _ _ _ q => .inr q) h) h
theorem t_neX {k j c : Nat} {g : F} {ok : Kd → Bool} {a b : Expr} {pos : Pos} {fa fb : E} (hK : X.K = G.K) (T : OwnEq X G c g j) (hr : Room k X.A) (hok : ∀ k, ok k = true → ∃ t, KdT G k t ∧ PySem.W.notFirst G.K (G.tb c) t = true) (ha : PE X a (tE G W fa)) (hb : PE X b (tE G W fb)) (hj : j + 1 ≤ k := by decide) : PT X (.Compare a [.NotEq] [b] pos) (tT G W (asB (eEqX true c g ok fa fb))) :=
  PT_weak (pt_cmpR (o_neX hK T (hr.mono hj) hok) ha hb (nomark _)) fun σ H Q h => tE_tTest (fun _ _ _ h => eqx_r (neg := true) (fun _ _ _ _ q => .inl q) (fun _ _ _ _ q => .inr q) h) h
end
end LF

set_option Elab.async false
set_option linter.all false
set_option maxRecDepth 100000
set_option maxHeartbeats 4000000
/-! The layer: a dict of the module, asked. -/
namespace LF
open PySem PySem.Spec PyProof.Rows L2
section
variable {G : Gx} {W : WX} {X : Cx} {σ : L2.St} {H : Hp}
theorem e_kget {x : Str} {a : Addr} {es : Array DictEntry} {n : Nat} {p apos cpos : Pos} {e : Expr} {fe : E} {op : D → O D} (hg : Gl X x) (hm : X.mg x = some (.ref a)) (hl : X.K.lookup a = some ⟨.type "dict", none, .dict es n, #[]⟩) (hk : PySem.W.KeysLit X.w.params es.toList) (hs : (a == sysModules) = false)
    (he : PE X e (tE G W fe)) (m : M1 X (.Name x p) "get" apos e cpos) (hop : ∀ (y : D) (st : Sto) (d : D × Sto), op y st = some d → ∃ k, y = .str k ∧ ∃ r, PySem.W.nsIn X.K a k = some r ∧ ∃ v, RelV v (r.getD .none) ∧ (∀ ms H, RV G ms H d.1 v) ∧ d.2 = st)
    (hdb : (x == ("__debug__" : Str)) = false := by decide) :
    PE X (.Call (.Attribute (.Name x p) "get" apos) [e] [] cpos) (tE G W (eUn op fe)) := by
  refine ⟨fun pins s σ H Q I h => ?_⟩
  refine wpAny_Call_method m.base m.few m.line PySem.F.plainAttrs_dict PySem.F.slot_dict_get PySem.F.type_dict_get (ld_glob I hg hm ?_ hdb)
  have ha : s.heap.get? a = some ⟨.type "dict", none, .dict es n, #[]⟩ := I.kIn a _ hl
  refine ⟨⟨_, ha, rfl⟩, fun b e => by cases e; exact ⟨_, ha, rfl⟩, ?_⟩
  rw [m.trees]
  refine Calls.callWith_builtin rfl (Calls.evalArgs_plain (Calls.spliced_cons (thn (he.run pins s σ H _ I (tX_bind h)) fun iv s2 ⟨y, H2, I2, ry, ms, st, env, d, S, r, r1, k⟩ => Calls.spliced_nil ?_)))
  have k : Okk (RV G) G (fun c d H => W c d σ H) Q ms H2 (ofO (op d st)) := k
  cases eo : op d st with
  | none => rw [eo] at k; exact k.elim
  | some d2 =>
    obtain ⟨z, rfl, r, hr, v, rv, rvd, e2⟩ := hop d st d2 eo
    obtain ⟨d1, s1⟩ := d2
    simp only at e2 rvd
    subst e2
    simp only [RV] at r1
    subst r1
    obtain ⟨t, rfl⟩ := ry
    have ha2 : s2.heap.get? a = some ⟨.type "dict", none, .dict es n, #[]⟩ := I2.kIn a _ hl
    have hm2 := PySem.W.mapOf_K (prog := X.prog) (w := X.w) I2.kIn hl hk
    refine call_meetsIn PySem.F.slot_dict_get ⟨_, ha2, rfl⟩ PySem.F.entry_dict_get (PySem.F.args_dict_get_2 _ _) (meets_dict_get (strKind X.prog X.w) a (strKind_is X.prog X.w z t) hs) ⟨_, hm2, ?_⟩
    rw [eo] at k
    have q := k v ms H2 Gr.refl S (rvd ms H2)
    show EP X pins σ Q _ _
    rw [PySem.W.find_K hl hr]
    exact ⟨v, H2, I2.tok _, rv, q⟩
end
end LF

set_option Elab.async false
set_option linter.all false
namespace LF
open PySem PySem.Spec PyProof.Rows L2
/-! ### promises of results, in plain Lean -/
abbrev XP := Nat → List (String × D) → Sto → Prop
def WpD {α : Type} (X : XP) (Q : α → Sto → Prop) : Res α → Prop
  | .ok a s => Q a s
  | .exn c fs s => X c fs s
  | .bad => False
/-- shut: a unifier that looks into it walks the whole def -/
structure Wp {α : Type} (X : XP) (Q : α → Sto → Prop) (r : Res α) : Prop where
  out : WpD X Q r
def WoD {α : Type} (Q : α → Sto → Prop) : Option (α × Sto) → Prop
  | some (a, s) => Q a s
  | none => False
structure Wo {α : Type} (Q : α → Sto → Prop) (r : Option (α × Sto)) : Prop where
  out : WoD Q r
structure Ks where
  nx : Sl → Sto → Prop
  rt : D → Sto → Prop
  bk : Sl → Sto → Prop
  ct : Sl → Sto → Prop
  ex : Nat → List (String × D) → Sl → Sto → Prop
def OwpD (K : Ks) : Out → Prop
  | .nx e s => K.nx e s
  | .rt d s => K.rt d s
  | .bk e s => K.bk e s
  | .ct e s => K.ct e s
  | .exn c fs e s => K.ex c fs e s
  | .bad => False
structure Owp (K : Ks) (r : Out) : Prop where
  out : OwpD K r
/-- behind a first statement -/
def Ks.seq (K : Ks) (b : Sm) : Ks := ⟨fun e s => Owp K (b e s), K.rt, K.bk, K.ct, K.ex⟩
/-- in a loop -/
def Ks.loop (K : Ks) (I : Sl → Sto → Prop) : Ks := ⟨I, K.rt, K.nx, I, K.ex⟩
/-- of a def -/
def Ks.fn (X : XP) (Q : D → Sto → Prop) : Ks := ⟨fun _ s => Q .non s, Q, fun _ _ => False, fun _ _ => False, fun c fs _ s => X c fs s⟩
section
variable {α β : Type} {X X' : XP} {Q Q' : α → Sto → Prop} {env : Sl} {st : Sto} {K : Ks}
theorem wp_ok {a : α} {s : Sto} : Wp X Q (.ok a s) = Q a s := propext ⟨fun h => h.out, fun h => ⟨h⟩⟩
theorem wp_exn {c : Nat} {fs : List (String × D)} {s : Sto} : Wp X Q (.exn c fs s) = X c fs s := propext ⟨fun h => h.out, fun h => ⟨h⟩⟩
theorem wp_bad : Wp X Q .bad = False := propext ⟨fun h => h.out, fun h => ⟨h⟩⟩
theorem wo_some {a : α} {s : Sto} : Wo Q (some (a, s)) = Q a s := propext ⟨fun h => h.out, fun h => ⟨h⟩⟩
theorem wo_none : Wo Q none = False := propext ⟨fun h => h.out, fun h => ⟨h⟩⟩
theorem wp_ofO {o : Option (α × Sto)} : Wp X Q (ofO o) = Wo Q o := by
  cases o with
  | none => exact wp_bad.trans wo_none.symm
  | some p => exact wp_ok.trans wo_some.symm
theorem wp_bind {r : Res α} {f : α → Sto → Res β} {Q : β → Sto → Prop} : Wp X Q (r.bind f) = Wp X (fun a s => Wp X Q (f a s)) r := by
  cases r with
  | ok a s => rw [wp_ok]; rfl
  | exn c fs s => rw [wp_exn]; exact wp_exn
  | bad => rw [wp_bad]; exact wp_bad
theorem Wp.imp {r : Res α} (h : Wp X Q r) (hq : ∀ a s, Q a s → Q' a s) (hx : ∀ c fs s, X c fs s → X' c fs s) : Wp X' Q' r := by
  refine ⟨?_⟩
  have h := h.out
  cases r with
  | ok a s => exact hq _ _ h
  | exn c fs s => exact hx _ _ _ h
  | bad => exact h
theorem Wp.mono {r : Res α} (h : Wp (fun _ _ _ => False) Q r) (hq : ∀ a s, Q a s → Q' a s) : Wp X Q' r := h.imp hq fun _ _ _ z => z.elim
theorem Wp.to {r : Res α} (h : Wp (fun _ _ _ => False) Q r) : ∃ a s, r = .ok a s ∧ Q a s := by
  have h := h.out
  cases r with
  | ok a s => exact ⟨a, s, rfl, h⟩
  | exn c fs s => exact h.elim
  | bad => exact h.elim
theorem Wo.mono {o : Option (α × Sto)} (h : Wo Q o) (hq : ∀ a s, Q a s → Q' a s) : Wo Q' o := by
  refine ⟨?_⟩
  have h := h.out
  rcases o with _ | ⟨a, s⟩
  · exact h
  · exact hq _ _ h
theorem wp_ext {Q Q' : α → Sto → Prop} {r : Res α} (h : ∀ a s, Q a s = Q' a s) : Wp X Q r = Wp X Q' r := by
  cases r
  · rw [wp_ok, wp_ok]; exact h _ _
  · rw [wp_exn, wp_exn]
  · rw [wp_bad, wp_bad]
theorem wo_ext {Q Q' : α → Sto → Prop} {r : Option (α × Sto)} (h : ∀ a s, Q a s = Q' a s) : Wo Q r = Wo Q' r := by
  rcases r with _ | ⟨_, _⟩
  · rw [wo_none, wo_none]
  · rw [wo_some, wo_some]; exact h _ _
/-! expressions -/
theorem wp_c {d : D} {Q : D → Sto → Prop} : Wp X Q (eC d env st) = Q d st := wp_ok
theorem wp_var {i : Nat} {Q : D → Sto → Prop} : Wp X Q (eVar i env st) = Wp X Q (match env[i]? with | some (some d) => .ok d st | _ => .bad) := by
  unfold eVar
  congr 1
theorem eVar_of {i : Nat} {d : D} (h : env[i]? = some (some d)) : eVar i env st = .ok d st := by simp [eVar, h]
theorem wp_bin {op : D → D → O D} {a b : E} {Q : D → Sto → Prop} : Wp X Q (eBin op a b env st) = Wp X (fun x s => Wp X (fun y s' => Wo Q (op x y s')) (b env s)) (a env st) := by unfold eBin; rw [wp_bind]; exact wp_ext fun x s => by rw [wp_bind]; exact wp_ext fun y s => wp_ofO
theorem wp_un {op : D → O D} {a : E} {Q : D → Sto → Prop} : Wp X Q (eUn op a env st) = Wp X (fun x s => Wo Q (op x s)) (a env st) := by unfold eUn; rw [wp_bind]; exact wp_ext fun x s => wp_ofO
theorem wp_nil {Q : List D → Sto → Prop} : Wp X Q (eArgs [] env st) = Q [] st := wp_ok
theorem wp_cons {a : E} {as : List E} {Q : List D → Sto → Prop} : Wp X Q (eArgs (a :: as) env st) = Wp X (fun x s => Wp X (fun xs s' => Q (x :: xs) s') (eArgs as env s)) (a env st) := by rw [eArgs, wp_bind]; exact wp_ext fun x s => by rw [wp_bind]; exact wp_ext fun xs s' => wp_ok
theorem wp_blt {op : List D → O D} {as : List E} {Q : D → Sto → Prop} : Wp X Q (eBlt op as env st) = Wp X (fun xs s => Wo Q (op xs s)) (eArgs as env st) := by unfold eBlt; rw [wp_bind]; exact wp_ext fun x s => wp_ofO
theorem wp_if {c : T} {a b : E} {Q : D → Sto → Prop} : Wp X Q (eIf c a b env st) = Wp X (fun k s => Wp X Q (if k = true then a env s else b env s)) (c env st) := by rw [eIf, wp_bind]
theorem wp_asB {a : E} {Q : Bool → Sto → Prop} : Wp X Q (asB a env st) = Wp X (fun x s => Wp X Q (match x with | .bl k => .ok k s | _ => .bad)) (a env st) := by simp only [asB, wp_bind] <;> rfl
theorem wp_tTru {a : E} {Q : Bool → Sto → Prop} : Wp X Q (tTru a env st) = Wp X (fun x s => Wp X Q (match tru x s with | some k => .ok k s | none => .bad)) (a env st) := by simp only [tTru, wp_bind] <;> rfl
theorem wp_tAnd {a b : T} {Q : Bool → Sto → Prop} : Wp X Q (tAnd' a b env st) = Wp X (fun k s => Wp X Q (if k = true then b env s else .ok false s)) (a env st) := by simp only [tAnd', wp_bind] <;> rfl
theorem wp_tOr {a b : T} {Q : Bool → Sto → Prop} : Wp X Q (tOr' a b env st) = Wp X (fun k s => Wp X Q (if k = true then .ok true s else b env s)) (a env st) := by simp only [tOr', wp_bind] <;> rfl
theorem wp_tNot {a : T} {Q : Bool → Sto → Prop} : Wp X Q (tNot' a env st) = Wp X (fun k s => Q (!k) s) (a env st) := by unfold tNot'; rw [wp_bind]; exact wp_ext fun k s => wp_ok
theorem wp_tYes {Q : Bool → Sto → Prop} : Wp X Q (tYes' env st) = Q true st := wp_ok
theorem wp_eAnd {a b : E} {Q : D → Sto → Prop} : Wp X Q (eAnd a b env st) = Wp X (fun x s => Wp X Q (match tru x s with | some true => b env s | some false => .ok x s | none => .bad)) (a env st) := by simp only [eAnd, wp_bind] <;> rfl
theorem wp_eOr {a b : E} {Q : D → Sto → Prop} : Wp X Q (eOr a b env st) = Wp X (fun x s => Wp X Q (match tru x s with | some true => .ok x s | some false => b env s | none => .bad)) (a env st) := by simp only [eOr, wp_bind] <;> rfl
theorem wp_eNot {a : E} {Q : D → Sto → Prop} : Wp X Q (eNot a env st) = Wp X (fun x s => Wp X Q (match tru x s with | some k => .ok (.bl (!k)) s | none => .bad)) (a env st) := by simp only [eNot, wp_bind] <;> rfl
theorem wp_chain {f g : D → D → O D} {a b c : E} {Q : D → Sto → Prop} : Wp X Q (eChain f g a b c env st) = Wp X (fun x s => Wp X (fun y s => Wo (fun z s => Wp X Q (match z with
  | .bl true => (c env s).bind fun w s => ofO (g y w s)
  | .bl false => .ok (.bl false) s
  | _ => .bad)) (f x y s)) (b env s)) (a env st) := by unfold eChain; rw [wp_bind]; exact wp_ext fun x s => by rw [wp_bind]; exact wp_ext fun y s => by rw [wp_bind, wp_ofO] <;> rfl
theorem wp_call {g : F} {as : List E} {Q : D → Sto → Prop} : Wp X Q (eCall g as env st) = Wp X (fun xs s => Wp X Q (g xs s)) (eArgs as env st) := by rw [eCall, wp_bind]
theorem wp_mt {T : String} {op : D → List D → O D} {a : E} {as : List E} {Q : D → Sto → Prop} : Wp X Q (eMt T op a as env st) = Wp X (fun x s => Wp X Q (if tyOk T x s = true then (eArgs as env s).bind fun xs s' => ofO (op x xs s') else .bad)) (a env st) := by simp only [eMt, wp_bind] <;> rfl
theorem wp_meth {c : Nat} {m : String} {g : F} {a : E} {as : List E} {Q : D → Sto → Prop} : Wp X Q (eMeth c m g a as env st) = Wp X (fun x s => Wp X Q (match x with
  | .ref i => match s[i]? with
    | some (.ins c' fs) => if c' = c ∧ fs.lookup m = none then (eArgs as env s).bind fun xs s' => g (.ref i :: xs) s' else .bad
    | _ => .bad
  | _ => .bad)) (a env st) := by simp only [eMeth, wp_bind] <;> rfl
theorem wp_make {c : Nat} {g : F} {as : List E} {Q : D → Sto → Prop} : Wp X Q (eMake c g as env st) = Wp X (fun xs s => Wp X (fun r s' => Wp X Q (match r with
  | .non => .ok (.ref s.length) s'
  | _ => .bad)) (g (.ref s.length :: xs) (s ++ [.ins c []]))) (eArgs as env st) := by unfold eMake; rw [wp_bind]; exact wp_ext fun x s => by rw [wp_bind] <;> rfl
theorem wp_fmt {a : E} {Q : D → Sto → Prop} : Wp X Q (eFmt a env st) = Wp X (fun x s => Wp X Q (match x with
  | .str y => if y.length ≤ LIM then .ok (.str y) s else .bad
  | .int i => if i.natAbs.log2 < 1920 then .ok (.str (toString i)) s else .bad
  | _ => .bad)) (a env st) := by simp only [eFmt, wp_bind] <;> rfl
theorem wp_joinN {acc : Str} {Q : D → Sto → Prop} : Wp X Q (eJoin [] acc env st) = Q (.str acc) st := wp_ok
theorem wp_joinC {a : E} {as : List E} {acc : Str} {Q : D → Sto → Prop} : Wp X Q (eJoin (a :: as) acc env st) = Wp X (fun x s => Wp X Q (match x with
  | .str y => if (acc ++ y).length ≤ LIM then eJoin as (acc ++ y) env s else .bad
  | _ => .bad)) (a env st) := by simp only [eJoin, wp_bind] <;> rfl
theorem wp_partN {Q : Option Int → Sto → Prop} : Wp X Q (ePart none env st) = Q none st := wp_ok
theorem wp_partS {f : E} {Q : Option Int → Sto → Prop} : Wp X Q (ePart (some f) env st) = Wp X (fun x s => Wp X Q (match x with | .int i => .ok (some i) s | _ => .bad)) (f env st) := by simp only [ePart, wp_bind] <;> rfl
theorem wp_sl {a : E} {lo hi : Option E} {Q : D → Sto → Prop} : Wp X Q (eSl a lo hi env st) = Wp X (fun x s => Wp X (fun l s => Wp X (fun h s => Wo Q (opSl l h x s)) (ePart hi env s)) (ePart lo env s)) (a env st) := by unfold eSl; rw [wp_bind]; exact wp_ext fun x s => by rw [wp_bind]; exact wp_ext fun l s => by rw [wp_bind]; exact wp_ext fun h s => wp_ofO
theorem wp_iS {a : E} {Q : Its → Sto → Prop} : Wp X Q (iS a env st) = Wp X (fun d s => Wp X Q (match iterOf d s with | some t => .ok t s | none => .bad)) (a env st) := by simp only [iS, wp_bind] <;> rfl
theorem wp_iR1 {a : E} {Q : Its → Sto → Prop} : Wp X Q (iR1 a env st) = Wp X (fun ds s => Wp X Q (match ds with
  | [.int j] => if -(2 ^ 62) ≤ j ∧ j < 2 ^ 62 then .ok ⟨rngI 0 j.toNat, none⟩ s else .bad
  | _ => .bad)) (eArgs [a] env st) := by simp only [iR1, wp_bind] <;> rfl
theorem wp_iR2 {a b : E} {Q : Its → Sto → Prop} : Wp X Q (iR2 a b env st) = Wp X (fun ds s => Wp X Q (match ds with
  | [.int i, .int j] => if -(2 ^ 62) ≤ i ∧ i < 2 ^ 62 ∧ -(2 ^ 62) ≤ j ∧ j < 2 ^ 62 then .ok ⟨rngI i (j - i).toNat, none⟩ s else .bad
  | _ => .bad)) (eArgs [a, b] env st) := by simp only [iR2, wp_bind] <;> rfl
theorem wp_iEn {a : E} {Q : Its → Sto → Prop} : Wp X Q (iEn a env st) = Wp X (fun ds s => Wp X Q (match ds with
  | [.ref i] => match s[i]? with
    | some (.lst ds) => .ok ⟨enumI ds, some (i, ds)⟩ s
    | _ => .bad
  | _ => .bad)) (eArgs [a] env st) := by simp only [iEn, wp_bind] <;> rfl
/-! statements -/
theorem owp_nx {e : Sl} {s : Sto} : Owp K (.nx e s) = K.nx e s := propext ⟨fun h => h.out, fun h => ⟨h⟩⟩
theorem owp_rt {d : D} {s : Sto} : Owp K (.rt d s) = K.rt d s := propext ⟨fun h => h.out, fun h => ⟨h⟩⟩
theorem owp_bk {e : Sl} {s : Sto} : Owp K (.bk e s) = K.bk e s := propext ⟨fun h => h.out, fun h => ⟨h⟩⟩
theorem owp_ct {e : Sl} {s : Sto} : Owp K (.ct e s) = K.ct e s := propext ⟨fun h => h.out, fun h => ⟨h⟩⟩
theorem owp_exn {c : Nat} {fs : List (String × D)} {e : Sl} {s : Sto} : Owp K (.exn c fs e s) = K.ex c fs e s := propext ⟨fun h => h.out, fun h => ⟨h⟩⟩
theorem owp_bad : Owp K .bad = False := propext ⟨fun h => h.out, fun h => ⟨h⟩⟩
theorem owp_out {r : Res α} {k : α → Sto → Out} : Owp K (r.out env k) = Wp (fun c fs s => K.ex c fs env s) (fun a s => Owp K (k a s)) r := by
  cases r with
  | ok a s => rw [wp_ok]; rfl
  | exn c fs s => rw [wp_exn]; exact owp_exn
  | bad => rw [wp_bad]; exact owp_bad
theorem owp_seq {a b : Sm} : Owp K (sSeq a b env st) = Owp (K.seq b) (a env st) := by
  unfold sSeq
  cases a env st with
  | nx e s => rw [owp_nx]; rfl
  | rt d s => rw [owp_rt]; exact (owp_rt (K := K.seq b)).symm
  | bk e s => rw [owp_bk]; exact (owp_bk (K := K.seq b)).symm
  | ct e s => rw [owp_ct]; exact (owp_ct (K := K.seq b)).symm
  | exn c fs e s => rw [owp_exn]; exact (owp_exn (K := K.seq b)).symm
  | bad => rw [owp_bad]; exact (owp_bad (K := K.seq b)).symm
theorem owp_skip : Owp K (sSkip env st) = K.nx env st := owp_nx
theorem owp_brk : Owp K (sBreak env st) = K.bk env st := owp_bk
theorem owp_cnt : Owp K (sCont env st) = K.ct env st := owp_ct
theorem owp_ret {a : E} : Owp K (sRet a env st) = Wp (fun c fs s => K.ex c fs env s) (fun d s => K.rt d s) (a env st) := by unfold sRet; rw [owp_out]; exact wp_ext fun d s => owp_rt
theorem owp_expr {a : E} : Owp K (sExpr a env st) = Wp (fun c fs s => K.ex c fs env s) (fun d s => K.nx env s) (a env st) := by unfold sExpr; rw [owp_out]; exact wp_ext fun d s => owp_nx
theorem owp_if {c : T} {a b : Sm} : Owp K (sIf c a b env st) = Wp (fun c fs s => K.ex c fs env s) (fun k s => Owp K (if k = true then a env s else b env s)) (c env st) := by unfold sIf; rw [owp_out]
theorem owp_asg {i : Nat} {a : E} : Owp K (sAsg (.name i) a env st) = Wp (fun c fs s => K.ex c fs env s) (fun d s => K.nx (env.set i (some d)) s) (a env st) := by unfold sAsg; rw [owp_out]; exact wp_ext fun d s => owp_nx
theorem owp_asgT {ts : List Tg} {a : E} : Owp K (sAsg (.tup ts) a env st) = Wp (fun c fs s => K.ex c fs env s) (fun d s => match Tg.sem s (.tup ts) d env with | some e => K.nx e s | none => False) (a env st) := by
  unfold sAsg
  rw [owp_out]
  exact wp_ext fun d s => by
    cases Tg.sem s (.tup ts) d env with
    | none => exact owp_bad
    | some e => exact owp_nx
theorem owp_par {i j : Nat} {a b : E} : Owp K (sPar i j a b env st) = Wp (fun c fs s => K.ex c fs env s) (fun x s => Wp (fun c fs s => K.ex c fs env s) (fun y s => K.nx ((env.set i (some x)).set j (some y)) s) (b env s)) (a env st) := by
  unfold sPar
  rw [owp_out, wp_cons]
  exact wp_ext fun x s => by
    rw [wp_cons]
    exact wp_ext fun y s => by rw [wp_nil]; exact owp_nx
theorem owp_setIx {o i e : E} : Owp K (sSetIx o i e env st) = Wp (fun c fs s => K.ex c fs env s) (fun d s => Wp (fun c fs s => K.ex c fs env s) (fun x s => Wp (fun c fs s => K.ex c fs env s) (fun y s => Wo (fun _ s => K.nx env s) (opSet x y d s)) (i env s)) (o env s)) (e env st) := by
  unfold sSetIx
  rw [owp_out]
  exact wp_ext fun d s => by
    rw [owp_out]
    exact wp_ext fun x s => by
      rw [owp_out]
      exact wp_ext fun y s => by
        rcases opSet x y d s with _ | ⟨_, _⟩
        · exact owp_bad.trans wo_none.symm
        · exact owp_nx.trans (wo_some (Q := fun _ s => K.nx env s)).symm
theorem owp_setF {P : Nat → Bool} {f : String} {o e : E} : Owp K (sSetF P f o e env st) = Wp (fun c fs s => K.ex c fs env s) (fun d s => Wp (fun c fs s => K.ex c fs env s) (fun x s => Wo (fun _ s => K.nx env s) (opSetF P f x d s)) (o env s)) (e env st) := by
  unfold sSetF
  rw [owp_out]
  exact wp_ext fun d s => by
    rw [owp_out]
    exact wp_ext fun x s => by
      rcases opSetF P f x d s with _ | ⟨_, _⟩
      · exact owp_bad.trans wo_none.symm
      · exact owp_nx.trans (wo_some (Q := fun _ s => K.nx env s)).symm
/-! the same as rules -/
theorem r_wp_ok {a : α} {s : Sto} (h : Q a s) : Wp X Q (.ok a s) := Eq.mpr wp_ok h
theorem r_wp_exn {c : Nat} {fs : List (String × D)} {s : Sto} (h : X c fs s) : Wp X Q (.exn c fs s) := Eq.mpr wp_exn h
theorem r_wo_some {a : α} {s : Sto} (h : Q a s) : Wo Q (some (a, s)) := Eq.mpr wo_some h
theorem r_wp_ofO {o : Option (α × Sto)} (h : Wo Q o) : Wp X Q (ofO o) := Eq.mpr wp_ofO h
theorem r_wp_bind {r : Res α} {f : α → Sto → Res β} {Q : β → Sto → Prop} (h : Wp X (fun a s => Wp X Q (f a s)) r) : Wp X Q (r.bind f) := Eq.mpr wp_bind h
theorem r_wp_c {d : D} {Q : D → Sto → Prop} (h : Q d st) : Wp X Q (eC d env st) := Eq.mpr wp_c h
theorem r_wp_bin {op : D → D → O D} {a b : E} {Q : D → Sto → Prop} (h : Wp X (fun x s => Wp X (fun y s' => Wo Q (op x y s')) (b env s)) (a env st)) : Wp X Q (eBin op a b env st) := Eq.mpr wp_bin h
theorem r_wp_un {op : D → O D} {a : E} {Q : D → Sto → Prop} (h : Wp X (fun x s => Wo Q (op x s)) (a env st)) : Wp X Q (eUn op a env st) := Eq.mpr wp_un h
theorem r_wp_nil {Q : List D → Sto → Prop} (h : Q [] st) : Wp X Q (eArgs [] env st) := Eq.mpr wp_nil h
theorem r_wp_cons {a : E} {as : List E} {Q : List D → Sto → Prop} (h : Wp X (fun x s => Wp X (fun xs s' => Q (x :: xs) s') (eArgs as env s)) (a env st)) : Wp X Q (eArgs (a :: as) env st) := Eq.mpr wp_cons h
theorem r_wp_blt {op : List D → O D} {as : List E} {Q : D → Sto → Prop} (h : Wp X (fun xs s => Wo Q (op xs s)) (eArgs as env st)) : Wp X Q (eBlt op as env st) := Eq.mpr wp_blt h
theorem r_wp_if {c : T} {a b : E} {Q : D → Sto → Prop} (h : Wp X (fun k s => Wp X Q (if k = true then a env s else b env s)) (c env st)) : Wp X Q (eIf c a b env st) := Eq.mpr wp_if h
theorem r_wp_asB {a : E} {Q : Bool → Sto → Prop} (h : Wp X (fun x s => Wp X Q (match x with | .bl k => .ok k s | _ => .bad)) (a env st)) : Wp X Q (asB a env st) := Eq.mpr wp_asB h
theorem r_wp_tTru {a : E} {Q : Bool → Sto → Prop} (h : Wp X (fun x s => Wp X Q (match tru x s with | some k => .ok k s | none => .bad)) (a env st)) : Wp X Q (tTru a env st) := Eq.mpr wp_tTru h
theorem r_wp_tAnd {a b : T} {Q : Bool → Sto → Prop} (h : Wp X (fun k s => Wp X Q (if k = true then b env s else .ok false s)) (a env st)) : Wp X Q (tAnd' a b env st) := Eq.mpr wp_tAnd h
theorem r_wp_tOr {a b : T} {Q : Bool → Sto → Prop} (h : Wp X (fun k s => Wp X Q (if k = true then .ok true s else b env s)) (a env st)) : Wp X Q (tOr' a b env st) := Eq.mpr wp_tOr h
theorem r_wp_tNot {a : T} {Q : Bool → Sto → Prop} (h : Wp X (fun k s => Q (!k) s) (a env st)) : Wp X Q (tNot' a env st) := Eq.mpr wp_tNot h
theorem r_wp_tYes {Q : Bool → Sto → Prop} (h : Q true st) : Wp X Q (tYes' env st) := Eq.mpr wp_tYes h
theorem r_wp_eAnd {a b : E} {Q : D → Sto → Prop} (h : Wp X (fun x s => Wp X Q (match tru x s with | some true => b env s | some false => .ok x s | none => .bad)) (a env st)) : Wp X Q (eAnd a b env st) := Eq.mpr wp_eAnd h
theorem r_wp_eOr {a b : E} {Q : D → Sto → Prop} (h : Wp X (fun x s => Wp X Q (match tru x s with | some true => .ok x s | some false => b env s | none => .bad)) (a env st)) : Wp X Q (eOr a b env st) := Eq.mpr wp_eOr h
theorem r_wp_eNot {a : E} {Q : D → Sto → Prop} (h : Wp X (fun x s => Wp X Q (match tru x s with | some k => .ok (.bl (!k)) s | none => .bad)) (a env st)) : Wp X Q (eNot a env st) := Eq.mpr wp_eNot h
theorem r_wp_chain {f g : D → D → O D} {a b c : E} {Q : D → Sto → Prop} (h : Wp X (fun x s => Wp X (fun y s => Wo (fun z s => Wp X Q (match z with
  | .bl true => (c env s).bind fun w s => ofO (g y w s)
  | .bl false => .ok (.bl false) s
  | _ => .bad)) (f x y s)) (b env s)) (a env st)) : Wp X Q (eChain f g a b c env st) := Eq.mpr wp_chain h
theorem r_wp_call {g : F} {as : List E} {Q : D → Sto → Prop} (h : Wp X (fun xs s => Wp X Q (g xs s)) (eArgs as env st)) : Wp X Q (eCall g as env st) := Eq.mpr wp_call h
theorem r_wp_mt {T : String} {op : D → List D → O D} {a : E} {as : List E} {Q : D → Sto → Prop} (h : Wp X (fun x s => Wp X Q (if tyOk T x s = true then (eArgs as env s).bind fun xs s' => ofO (op x xs s') else .bad)) (a env st)) : Wp X Q (eMt T op a as env st) := Eq.mpr wp_mt h
theorem r_wp_meth {c : Nat} {m : String} {g : F} {a : E} {as : List E} {Q : D → Sto → Prop} (h : Wp X (fun x s => Wp X Q (match x with
  | .ref i => match s[i]? with
    | some (.ins c' fs) => if c' = c ∧ fs.lookup m = none then (eArgs as env s).bind fun xs s' => g (.ref i :: xs) s' else .bad
    | _ => .bad
  | _ => .bad)) (a env st)) : Wp X Q (eMeth c m g a as env st) := Eq.mpr wp_meth h
theorem r_wp_make {c : Nat} {g : F} {as : List E} {Q : D → Sto → Prop} (h : Wp X (fun xs s => Wp X (fun r s' => Wp X Q (match r with
  | .non => .ok (.ref s.length) s'
  | _ => .bad)) (g (.ref s.length :: xs) (s ++ [.ins c []]))) (eArgs as env st)) : Wp X Q (eMake c g as env st) := Eq.mpr wp_make h
theorem r_wp_fmt {a : E} {Q : D → Sto → Prop} (h : Wp X (fun x s => Wp X Q (match x with
  | .str y => if y.length ≤ LIM then .ok (.str y) s else .bad
  | .int i => if i.natAbs.log2 < 1920 then .ok (.str (toString i)) s else .bad
  | _ => .bad)) (a env st)) : Wp X Q (eFmt a env st) := Eq.mpr wp_fmt h
theorem r_wp_joinN {acc : Str} {Q : D → Sto → Prop} (h : Q (.str acc) st) : Wp X Q (eJoin [] acc env st) := Eq.mpr wp_joinN h
theorem r_wp_joinC {a : E} {as : List E} {acc : Str} {Q : D → Sto → Prop} (h : Wp X (fun x s => Wp X Q (match x with
  | .str y => if (acc ++ y).length ≤ LIM then eJoin as (acc ++ y) env s else .bad
  | _ => .bad)) (a env st)) : Wp X Q (eJoin (a :: as) acc env st) := Eq.mpr wp_joinC h
theorem r_wp_partN {Q : Option Int → Sto → Prop} (h : Q none st) : Wp X Q (ePart none env st) := Eq.mpr wp_partN h
theorem r_wp_partS {f : E} {Q : Option Int → Sto → Prop} (h : Wp X (fun x s => Wp X Q (match x with | .int i => .ok (some i) s | _ => .bad)) (f env st)) : Wp X Q (ePart (some f) env st) := Eq.mpr wp_partS h
theorem r_wp_sl {a : E} {lo hi : Option E} {Q : D → Sto → Prop} (h : Wp X (fun x s => Wp X (fun l s => Wp X (fun h s => Wo Q (opSl l h x s)) (ePart hi env s)) (ePart lo env s)) (a env st)) : Wp X Q (eSl a lo hi env st) := Eq.mpr wp_sl h
theorem r_wp_iS {a : E} {Q : Its → Sto → Prop} (h : Wp X (fun d s => Wp X Q (match iterOf d s with | some t => .ok t s | none => .bad)) (a env st)) : Wp X Q (iS a env st) := Eq.mpr wp_iS h
theorem r_wp_iR1 {a : E} {Q : Its → Sto → Prop} (h : Wp X (fun ds s => Wp X Q (match ds with
  | [.int j] => if -(2 ^ 62) ≤ j ∧ j < 2 ^ 62 then .ok ⟨rngI 0 j.toNat, none⟩ s else .bad
  | _ => .bad)) (eArgs [a] env st)) : Wp X Q (iR1 a env st) := Eq.mpr wp_iR1 h
theorem r_wp_iR2 {a b : E} {Q : Its → Sto → Prop} (h : Wp X (fun ds s => Wp X Q (match ds with
  | [.int i, .int j] => if -(2 ^ 62) ≤ i ∧ i < 2 ^ 62 ∧ -(2 ^ 62) ≤ j ∧ j < 2 ^ 62 then .ok ⟨rngI i (j - i).toNat, none⟩ s else .bad
  | _ => .bad)) (eArgs [a, b] env st)) : Wp X Q (iR2 a b env st) := Eq.mpr wp_iR2 h
theorem r_wp_iEn {a : E} {Q : Its → Sto → Prop} (h : Wp X (fun ds s => Wp X Q (match ds with
  | [.ref i] => match s[i]? with
    | some (.lst ds) => .ok ⟨enumI ds, some (i, ds)⟩ s
    | _ => .bad
  | _ => .bad)) (eArgs [a] env st)) : Wp X Q (iEn a env st) := Eq.mpr wp_iEn h
theorem r_owp_nx {e : Sl} {s : Sto} (h : K.nx e s) : Owp K (.nx e s) := Eq.mpr owp_nx h
theorem r_owp_rt {d : D} {s : Sto} (h : K.rt d s) : Owp K (.rt d s) := Eq.mpr owp_rt h
theorem r_owp_out {r : Res α} {k : α → Sto → Out} (h : Wp (fun c fs s => K.ex c fs env s) (fun a s => Owp K (k a s)) r) : Owp K (r.out env k) := Eq.mpr owp_out h
theorem r_owp_seq {a b : Sm} (h : Owp (K.seq b) (a env st)) : Owp K (sSeq a b env st) := Eq.mpr owp_seq h
theorem r_owp_skip (h : K.nx env st) : Owp K (sSkip env st) := Eq.mpr owp_skip h
theorem r_owp_brk (h : K.bk env st) : Owp K (sBreak env st) := Eq.mpr owp_brk h
theorem r_owp_cnt (h : K.ct env st) : Owp K (sCont env st) := Eq.mpr owp_cnt h
theorem r_owp_ret {a : E} (h : Wp (fun c fs s => K.ex c fs env s) (fun d s => K.rt d s) (a env st)) : Owp K (sRet a env st) := Eq.mpr owp_ret h
theorem r_owp_expr {a : E} (h : Wp (fun c fs s => K.ex c fs env s) (fun d s => K.nx env s) (a env st)) : Owp K (sExpr a env st) := Eq.mpr owp_expr h
theorem r_owp_if {c : T} {a b : Sm} (h : Wp (fun c fs s => K.ex c fs env s) (fun k s => Owp K (if k = true then a env s else b env s)) (c env st)) : Owp K (sIf c a b env st) := Eq.mpr owp_if h
theorem r_owp_asg {i : Nat} {a : E} (h : Wp (fun c fs s => K.ex c fs env s) (fun d s => K.nx (env.set i (some d)) s) (a env st)) : Owp K (sAsg (.name i) a env st) := Eq.mpr owp_asg h
theorem r_owp_asgT {ts : List Tg} {a : E} (h : Wp (fun c fs s => K.ex c fs env s) (fun d s => match Tg.sem s (.tup ts) d env with | some e => K.nx e s | none => False) (a env st)) : Owp K (sAsg (.tup ts) a env st) := Eq.mpr owp_asgT h
theorem r_owp_par {i j : Nat} {a b : E} (h : Wp (fun c fs s => K.ex c fs env s) (fun x s => Wp (fun c fs s => K.ex c fs env s) (fun y s => K.nx ((env.set i (some x)).set j (some y)) s) (b env s)) (a env st)) : Owp K (sPar i j a b env st) := Eq.mpr owp_par h
theorem r_owp_setIx {o i e : E} (h : Wp (fun c fs s => K.ex c fs env s) (fun d s => Wp (fun c fs s => K.ex c fs env s) (fun x s => Wp (fun c fs s => K.ex c fs env s) (fun y s => Wo (fun _ s => K.nx env s) (opSet x y d s)) (i env s)) (o env s)) (e env st)) : Owp K (sSetIx o i e env st) := Eq.mpr owp_setIx h
theorem r_owp_setF {P : Nat → Bool} {f : String} {o e : E} (h : Wp (fun c fs s => K.ex c fs env s) (fun d s => Wp (fun c fs s => K.ex c fs env s) (fun x s => Wo (fun _ s => K.nx env s) (opSetF P f x d s)) (o env s)) (e env st)) : Owp K (sSetF P f o e env st) := Eq.mpr owp_setF h
theorem r_seq_nx {b : Sm} {e : Sl} {s : Sto} (h : Owp K (b e s)) : (K.seq b).nx e s := h
theorem r_seq_rt {b : Sm} {d : D} {s : Sto} (h : K.rt d s) : (K.seq b).rt d s := h
theorem r_seq_bk {b : Sm} {e : Sl} {s : Sto} (h : K.bk e s) : (K.seq b).bk e s := h
theorem r_seq_ct {b : Sm} {e : Sl} {s : Sto} (h : K.ct e s) : (K.seq b).ct e s := h
theorem r_seq_ex {b : Sm} {c : Nat} {fs : List (String × D)} {e : Sl} {s : Sto} (h : K.ex c fs e s) : (K.seq b).ex c fs e s := h
theorem r_loop_nx {I : Sl → Sto → Prop} {e : Sl} {s : Sto} (h : I e s) : (K.loop I).nx e s := h
theorem r_loop_rt {I : Sl → Sto → Prop} {d : D} {s : Sto} (h : K.rt d s) : (K.loop I).rt d s := h
theorem r_loop_bk {I : Sl → Sto → Prop} {e : Sl} {s : Sto} (h : K.nx e s) : (K.loop I).bk e s := h
theorem r_loop_ct {I : Sl → Sto → Prop} {e : Sl} {s : Sto} (h : I e s) : (K.loop I).ct e s := h
theorem r_loop_ex {I : Sl → Sto → Prop} {c : Nat} {fs : List (String × D)} {e : Sl} {s : Sto} (h : K.ex c fs e s) : (K.loop I).ex c fs e s := h
theorem r_fn_nx {Q : D → Sto → Prop} {e : Sl} {s : Sto} (h : Q .non s) : (Ks.fn X Q).nx e s := h
theorem r_fn_rt {Q : D → Sto → Prop} {d : D} {s : Sto} (h : Q d s) : (Ks.fn X Q).rt d s := h
theorem r_fn_ex {Q : D → Sto → Prop} {c : Nat} {fs : List (String × D)} {e : Sl} {s : Sto} (h : X c fs s) : (Ks.fn X Q).ex c fs e s := h
theorem r_var {i : Nat} {d : D} {Q : D → Sto → Prop} (h : env[i]? = some (some d)) (k : Q d st) : Wp X Q (eVar i env st) := by
  rw [eVar_of h]; exact r_wp_ok k
theorem r_wp_iteT {c : Prop} [Decidable c] {a b : Res α} (hc : c) (h : Wp X Q a) : Wp X Q (if c then a else b) := by rw [if_pos hc]; exact h
theorem r_wp_iteF {c : Prop} [Decidable c] {a b : Res α} (hc : ¬ c) (h : Wp X Q b) : Wp X Q (if c then a else b) := by rw [if_neg hc]; exact h
theorem r_owp_iteT {c : Prop} [Decidable c] {a b : Out} (hc : c) (h : Owp K a) : Owp K (if c then a else b) := by rw [if_pos hc]; exact h
theorem r_owp_iteF {c : Prop} [Decidable c] {a b : Out} (hc : ¬ c) (h : Owp K b) : Owp K (if c then a else b) := by rw [if_neg hc]; exact h
theorem r_wp_ite {c : Prop} [Decidable c] {a b : Res α} (h : c → Wp X Q a) (k : ¬ c → Wp X Q b) : Wp X Q (if c then a else b) := by split <;> rename_i z <;> first | exact h z | exact k z
theorem r_owp_ite {c : Prop} [Decidable c] {a b : Out} (h : c → Owp K a) (k : ¬ c → Owp K b) : Owp K (if c then a else b) := by split <;> rename_i z <;> first | exact h z | exact k z
theorem r_decT {p : Prop} [Decidable p] (h : p) : decide p = true := decide_eq_true h
theorem r_decF {p : Prop} [Decidable p] (h : ¬ p) : ¬ decide p = true := fun z => h (of_decide_eq_true z)
theorem r_notT {b : Bool} (h : ¬ b = true) : (!b) = true := by simpa using h
theorem r_notF {b : Bool} (h : b = true) : ¬ (!b) = true := by simpa using h
theorem r_wo_of {o : Option (α × Sto)} {a : α} {s : Sto} (h : o = some (a, s)) (k : Q a s) : Wo Q o := by rw [h]; exact r_wo_some k
theorem wp_fn {n m : Nat} {body : Sm} {ds : List D} {Q : D → Sto → Prop} (h : ds.length = n) (k : Owp (Ks.fn X Q) (body (ds.map some ++ List.replicate (m - n) none) st)) : Wp X Q (fnS n m body ds st) := by
  unfold fnS
  rw [if_pos h]
  revert k
  cases body (ds.map some ++ List.replicate (m - n) none) st <;> exact fun k => ⟨k.out⟩
end
/-! rules that look at a value -/
theorem q_eqX {neg : Bool} {c : Nat} {g : F} {ok : Kd → Bool} {a b : E} {X : XP} {env : Sl} {st : Sto} {Q : D → Sto → Prop} (h : Wp X (fun x s => Wp X (fun y s => ∃ i fs k, x = .ref i ∧ s[i]? = some (.ins c fs) ∧ kind y s = some k ∧ ok k = true ∧ Wp (fun _ _ _ => False) (fun z s => ∃ r : Bool, z = .bl r ∧ Q (.bl (if neg then !r else r)) s) (g [x, y] s)) (b env s)) (a env st)) : Wp X Q (eEqX neg c g ok a b env st) := by
  unfold eEqX
  rw [wp_bind]
  refine h.imp ?_ fun _ _ _ z => z
  intro x s h
  rw [wp_bind]
  refine h.imp ?_ fun _ _ _ z => z
  intro y s h
  obtain ⟨i, fs, k, rfl, hi, hk, ho, h⟩ := h
  obtain ⟨z, s2, e, r, rfl, h⟩ := h.to
  simp only [hi, hk, ho, e, if_pos]
  exact ⟨h⟩
theorem RgC.same {i j c : Int} {n m : Nat} (h : RgC i j c n) (k : RgC i j c m) : n = m := by
  have := h.2.2.2.symm.trans k.2.2.2
  omega
theorem Wp.w {α : Type} {X : XP} {Q Q' : α → Sto → Prop} {r : Res α} (h : Wp X Q r) (hq : ∀ a s, Q a s → Q' a s) : Wp X Q' r := h.imp hq fun _ _ _ z => z
theorem r_p_iteT {A0 B0 c : Prop} [Decidable c] (hc : c) (h : A0) : if c then A0 else B0 := by rw [if_pos hc]; exact h
theorem r_p_iteF {A0 B0 c : Prop} [Decidable c] (hc : ¬ c) (h : B0) : if c then A0 else B0 := by rw [if_neg hc]; exact h
theorem atI0 {α : Type} {x : α} {xs : List α} : atI (x :: xs) 0 = some x := by
  unfold atI ixN
  rw [if_pos (by omega), if_pos (by simp)]
  rfl
theorem atIn {α : Type} {xs : List α} {n : Nat} {x : α} (h : xs[n]? = some x) : atI xs (n : Int) = some x := by
  have hn := (List.getElem?_eq_some_iff.mp h).1
  unfold atI ixN
  rw [if_pos (by omega), if_pos (by omega)]
  simpa using h
/-- a side condition, then the rest -/
def Both (a b : Prop) : Prop := a ∧ b
theorem r_both {a b : Prop} (h : a) (k : b) : Both a b := ⟨h, k⟩
def onB (x : D) (A B : Prop) : Prop := ∃ k : Bool, x = .bl k ∧ (k = true → A) ∧ (k = false → B)
def onTru (x : D) (s : Sto) (A B : Prop) : Prop := ∃ k : Bool, tru x s = some k ∧ (k = true → A) ∧ (k = false → B)
def onBl (x : D) (P : Bool → Prop) : Prop := ∃ k : Bool, x = .bl k ∧ P k
def onInt (x : D) (P : Int → Prop) : Prop := ∃ k : Int, x = .int k ∧ P k
def onStr (x : D) (P : Str → Prop) : Prop := ∃ k : Str, x = .str k ∧ P k
def onNon (x : D) (P : Prop) : Prop := x = .non ∧ P
def onFmt (x : D) (P : Str → Prop) : Prop := (∃ y, x = .str y ∧ y.length ≤ LIM ∧ P y) ∨ ∃ i : Int, x = .int i ∧ i.natAbs.log2 < 1920 ∧ P (toString i)
def onIter (x : D) (s : Sto) (P : Its → Prop) : Prop := ∃ t, iterOf x s = some t ∧ P t
def onObj (x : D) (s : Sto) (c : Nat) (m : String) (P : Nat → Prop) : Prop := ∃ i fs, x = .ref i ∧ s[i]? = some (.ins c fs) ∧ fs.lookup m = none ∧ P i
section
variable {X : XP} {env : Sl} {st s : Sto} {K : Ks} {A B : Prop}
theorem r_bT {k : Bool} (hk : k = true) (h : A) : onB (.bl k) A B := ⟨k, rfl, fun _ => h, fun z => by rw [hk] at z; cases z⟩
theorem r_bF {k : Bool} (hk : ¬ k = true) (h : B) : onB (.bl k) A B := ⟨k, rfl, fun z => (hk z).elim, fun _ => h⟩
theorem r_bSplit {k : Bool} (h1 : k = true → A) (h2 : ¬ k = true → B) : onB (.bl k) A B := ⟨k, rfl, h1, fun z => h2 (by rw [z]; exact Bool.false_ne_true)⟩
theorem r_tT {k : Bool} (hk : k = true) (h : A) : onTru (.bl k) s A B := ⟨k, rfl, fun _ => h, fun z => by rw [hk] at z; cases z⟩
theorem r_tF {k : Bool} (hk : ¬ k = true) (h : B) : onTru (.bl k) s A B := ⟨k, rfl, fun z => (hk z).elim, fun _ => h⟩
theorem r_tSplit {k : Bool} (h1 : k = true → A) (h2 : ¬ k = true → B) : onTru (.bl k) s A B := ⟨k, rfl, h1, fun z => h2 (by rw [z]; exact Bool.false_ne_true)⟩
theorem r_tOf {x : D} {k : Bool} (e : tru x s = some k) (h1 : k = true → A) (h2 : ¬ k = true → B) : onTru x s A B := ⟨k, e, h1, fun z => h2 (by rw [z]; exact Bool.false_ne_true)⟩
theorem r_onBl {P : Bool → Prop} {k : Bool} (h : P k) : onBl (.bl k) P := ⟨k, rfl, h⟩
theorem r_onInt {P : Int → Prop} {k : Int} (h : P k) : onInt (.int k) P := ⟨k, rfl, h⟩
theorem r_onStr {P : Str → Prop} {k : Str} (h : P k) : onStr (.str k) P := ⟨k, rfl, h⟩
theorem r_onNon {P : Prop} (h : P) : onNon .non P := ⟨rfl, h⟩
theorem r_fmtS {P : Str → Prop} {y : Str} (hl : y.length ≤ LIM) (h : P y) : onFmt (.str y) P := .inl ⟨y, rfl, hl, h⟩
theorem r_fmtI {P : Str → Prop} {i : Int} (hl : i.natAbs.log2 < 1920) (h : P (toString i)) : onFmt (.int i) P := .inr ⟨i, rfl, hl, h⟩
theorem r_itT {P : Its → Prop} {ds : List D} (h : P ⟨ds, none⟩) : onIter (.tup ds) s P := ⟨_, rfl, h⟩
theorem r_itS {P : Its → Prop} {ns : List Int} (h : P ⟨ns.map D.int, none⟩) : onIter (.scr ns) s P := ⟨_, rfl, h⟩
theorem r_itL {P : Its → Prop} {r : Nat} {ds : List D} (hr : s[r]? = some (.lst ds)) (h : P ⟨ds, some (r, ds)⟩) : onIter (.ref r) s P := ⟨_, by simp [iterOf, hr], h⟩
theorem r_onObj {P : Nat → Prop} {i c : Nat} {m : String} {fs : List (String × D)} (hr : s[i]? = some (.ins c fs)) (hm : fs.lookup m = none) (h : P i) : onObj (.ref i) s c m P := ⟨i, fs, rfl, hr, hm, h⟩
theorem q_asB {a : E} {Q : Bool → Sto → Prop} (h : Wp X (fun x s => onBl x (fun k => Q k s)) (a env st)) : Wp X Q (asB a env st) := by
  rw [wp_asB]
  exact h.w fun x s ⟨k, e, h⟩ => by subst e; exact r_wp_ok h
theorem q_tTru {a : E} {Q : Bool → Sto → Prop} (h : Wp X (fun x s => onTru x s (Q true s) (Q false s)) (a env st)) : Wp X Q (tTru a env st) := by
  rw [wp_tTru]
  refine h.w fun x s ⟨k, e, h1, h2⟩ => ?_
  rw [e]
  cases k with
  | true => exact r_wp_ok (h1 rfl)
  | false => exact r_wp_ok (h2 rfl)
theorem q_eAnd {a b : E} {Q : D → Sto → Prop} (h : Wp X (fun x s => onTru x s (Wp X Q (b env s)) (Q x s)) (a env st)) : Wp X Q (eAnd a b env st) := by
  rw [wp_eAnd]
  refine h.w fun x s ⟨k, e, h1, h2⟩ => ?_
  rw [e]
  cases k with
  | true => exact h1 rfl
  | false => exact r_wp_ok (h2 rfl)
theorem q_eOr {a b : E} {Q : D → Sto → Prop} (h : Wp X (fun x s => onTru x s (Q x s) (Wp X Q (b env s))) (a env st)) : Wp X Q (eOr a b env st) := by
  rw [wp_eOr]
  refine h.w fun x s ⟨k, e, h1, h2⟩ => ?_
  rw [e]
  cases k with
  | true => exact r_wp_ok (h1 rfl)
  | false => exact h2 rfl
theorem q_eNot {a : E} {Q : D → Sto → Prop} (h : Wp X (fun x s => onTru x s (Q (.bl false) s) (Q (.bl true) s)) (a env st)) : Wp X Q (eNot a env st) := by
  rw [wp_eNot]
  refine h.w fun x s ⟨k, e, h1, h2⟩ => ?_
  rw [e]
  cases k with
  | true => exact r_wp_ok (h1 rfl)
  | false => exact r_wp_ok (h2 rfl)
theorem q_chain {f g : D → D → O D} {a b c : E} {Q : D → Sto → Prop} (h : Wp X (fun x s => Wp X (fun y s => Wo (fun z s => onB z (Wp X (fun w s => Wo Q (g y w s)) (c env s)) (Q (.bl false) s)) (f x y s)) (b env s)) (a env st)) : Wp X Q (eChain f g a b c env st) := by
  rw [wp_chain]
  refine h.w fun x s h => h.w fun y s h => h.mono fun z s ⟨k, e, h1, h2⟩ => ?_
  subst e
  cases k with
  | true =>
    show Wp X Q ((c env s).bind fun w s => ofO (g y w s))
    rw [wp_bind]
    exact (h1 rfl).w fun w s h => r_wp_ofO h
  | false => exact r_wp_ok (h2 rfl)
theorem q_meth {c : Nat} {m : String} {g : F} {a : E} {as : List E} {Q : D → Sto → Prop} (h : Wp X (fun x s => onObj x s c m fun i => Wp X (fun xs s' => Wp X Q (g (.ref i :: xs) s')) (eArgs as env s)) (a env st)) : Wp X Q (eMeth c m g a as env st) := by
  rw [wp_meth]
  refine h.w fun x s ⟨i, fs, e, hi, hm, h⟩ => ?_
  subst e
  simp only [hi]
  rw [if_pos ⟨trivial, hm⟩, wp_bind]
  exact h
theorem q_make {c : Nat} {g : F} {as : List E} {Q : D → Sto → Prop} (h : Wp X (fun xs s => Wp X (fun r s' => onNon r (Q (.ref s.length) s')) (g (.ref s.length :: xs) (s ++ [.ins c []]))) (eArgs as env st)) : Wp X Q (eMake c g as env st) := by
  rw [wp_make]
  exact h.w fun xs s h => h.w fun r s' ⟨e, h⟩ => by subst e; exact r_wp_ok h
theorem q_fmt {a : E} {Q : D → Sto → Prop} (h : Wp X (fun x s => onFmt x fun y => Q (.str y) s) (a env st)) : Wp X Q (eFmt a env st) := by
  rw [wp_fmt]
  refine h.w fun x s h => ?_
  rcases h with ⟨y, rfl, hl, h⟩ | ⟨i, rfl, hl, h⟩
  · simp only [if_pos hl]; exact r_wp_ok h
  · simp only [if_pos hl]; exact r_wp_ok h
theorem q_join {a : E} {as : List E} {acc : Str} {Q : D → Sto → Prop} (h : Wp X (fun x s => onStr x fun y => Both ((acc ++ y).length ≤ LIM) (Wp X Q (eJoin as (acc ++ y) env s))) (a env st)) : Wp X Q (eJoin (a :: as) acc env st) := by
  rw [wp_joinC]
  refine h.w fun x s ⟨y, e, hl, h⟩ => ?_
  subst e
  simp only [if_pos hl]; exact h
theorem q_part {f : E} {Q : Option Int → Sto → Prop} (h : Wp X (fun x s => onInt x fun i => Q (some i) s) (f env st)) : Wp X Q (ePart (some f) env st) := by
  rw [wp_partS]
  exact h.w fun x s ⟨y, e, h⟩ => by subst e; exact r_wp_ok h
theorem q_iS {a : E} {Q : Its → Sto → Prop} (h : Wp X (fun x s => onIter x s fun t => Q t s) (a env st)) : Wp X Q (iS a env st) := by
  rw [wp_iS]
  exact h.w fun x s ⟨y, e, h⟩ => by rw [e]; exact r_wp_ok h
theorem q_iR1 {a : E} {Q : Its → Sto → Prop} (h : Wp X (fun x s => onInt x fun j => Both (-(2 ^ 62) ≤ j ∧ j < 2 ^ 62) (Q ⟨rngI 0 j.toNat, none⟩ s)) (a env st)) : Wp X Q (iR1 a env st) := by
  rw [wp_iR1, wp_cons]
  refine h.w fun x s ⟨y, e, hl, h⟩ => ?_
  subst e
  rw [wp_nil]
  simp only [if_pos hl]; exact r_wp_ok h
theorem q_iR2 {a b : E} {Q : Its → Sto → Prop} (h : Wp X (fun x s => Wp X (fun y s => onInt x fun i => onInt y fun j => Both (-(2 ^ 62) ≤ i ∧ i < 2 ^ 62 ∧ -(2 ^ 62) ≤ j ∧ j < 2 ^ 62) (Q ⟨rngI i (j - i).toNat, none⟩ s)) (b env s)) (a env st)) : Wp X Q (iR2 a b env st) := by
  rw [wp_iR2, wp_cons]
  refine h.w fun x s h => ?_
  rw [wp_cons]
  refine h.w fun y s h8 => ?_
  obtain ⟨i, e, j, e2, hl, h9⟩ := h8
  subst e e2
  rw [wp_nil]
  simp only [if_pos hl]; exact r_wp_ok h9
theorem q_iR3 {a b c : E} {Q : Its → Sto → Prop} {n : Nat} {i j k : Int} (h : Wp X (fun x s => Wp X (fun y s => Wp X (fun z s => x = .int i ∧ y = .int j ∧ z = .int k ∧ RgC i j k n ∧ Q ⟨rngC i k n, none⟩ s) (c env s)) (b env s)) (a env st)) : Wp X Q (iR3 a b c env st) := by
  unfold iR3
  rw [wp_bind, wp_cons]
  refine h.w fun x s h => ?_
  rw [wp_cons]
  refine h.w fun y s h => ?_
  rw [wp_cons]
  refine h.w fun z s h => ?_
  obtain ⟨rfl, rfl, rfl, hr, h⟩ := h
  rw [wp_nil]
  have he : ∃ n, RgC i j k n := ⟨n, hr⟩
  simp only [dif_pos he]
  rw [RgC.same he.choose_spec hr]
  exact r_wp_ok h
def onLst (x : D) (s : Sto) (P : Nat → List D → Prop) : Prop := ∃ r ds, x = .ref r ∧ s[r]? = some (.lst ds) ∧ P r ds
theorem r_onLst {P : Nat → List D → Prop} {r : Nat} {ds : List D} (hr : s[r]? = some (.lst ds)) (h : P r ds) : onLst (.ref r) s P := ⟨r, ds, rfl, hr, h⟩
theorem q_iEn {a : E} {Q : Its → Sto → Prop} (h : Wp X (fun x s => onLst x s fun r ds => Q ⟨enumI ds, some (r, ds)⟩ s) (a env st)) : Wp X Q (iEn a env st) := by
  rw [wp_iEn, wp_cons]
  refine h.w fun x s h => ?_
  obtain ⟨r, ds, rfl, hr, h⟩ := h
  rw [wp_nil]
  simp only [hr]
  exact r_wp_ok h
end
/-! ### what of the store stays -/
/-- all cells but those of P are as they were -/
def Chg (P : List Nat) (st st' : Sto) : Prop := ∀ i c, i ∉ P → st[i]? = some c → st'[i]? = some c
theorem Chg.refl {P : List Nat} {st : Sto} : Chg P st st := fun _ _ _ h => h
theorem Chg.trans {P : List Nat} {a b c : Sto} (h : Chg P a b) (k : Chg P b c) : Chg P a c := fun i x hi e => k i x hi (h i x hi e)
theorem Chg.wide {P P' : List Nat} {a b : Sto} (h : Chg P a b) (k : ∀ i ∈ P, i ∈ P') : Chg P' a b := fun i x hi e => h i x (fun z => hi (k i z)) e
theorem Chg.up {P : List Nat} {a b : Sto} (h : Chg [] a b) : Chg P a b := h.wide (by simp)
theorem Chg.get {P : List Nat} {a b : Sto} (h : Chg P a b) {i : Nat} {c : Cell} (hi : i ∉ P) (e : a[i]? = some c) : b[i]? = some c := h i c hi e
theorem Chg.get0 {a b : Sto} (h : Chg [] a b) {i : Nat} {c : Cell} (e : a[i]? = some c) : b[i]? = some c := h i c (by simp) e
/-- a place that stood nowhere before -/
theorem Chg.new {P : List Nat} {a b c : Sto} {r : Nat} (h : Chg P a b) (hr : a[r]? = none) (k : Chg (r :: P) b c) : Chg P a c := fun i x hi e => k i x (fun z => by
  rcases List.mem_cons.mp z with z | z
  · subst z; rw [hr] at e; cases e
  · exact hi z) (h i x hi e)
theorem Chg.app {P : List Nat} {st t : Sto} : Chg P st (st ++ t) := fun i c _ e => by
  rw [List.getElem?_append_left (List.getElem?_eq_some_iff.mp e).1]; exact e
theorem Chg.set {P : List Nat} {st : Sto} {i : Nat} {c : Cell} (hi : i ∈ P) : Chg P st (st.set i c) := fun j x hj e => by
  rw [List.getElem?_set]
  split
  · rename_i h; subst h; exact (hj hi).elim
  · exact e
section
variable {X : XP} {Q : D → Sto → Prop} {env : Sl} {st : Sto} {K : Ks}
/-- a new list -/
theorem wo_new {ds : List D} (h : ∀ r s, s[r]? = some (.lst ds) → st[r]? = none → Chg [] st s → Q (.ref r) s) : Wo Q (newL ds st) := r_wo_some (h _ _ (by simp) (by simp) Chg.app)
theorem wo_lst {ds : List D} (hl : ds.length ≤ LIM) (h : ∀ r s, s[r]? = some (.lst ds) → st[r]? = none → Chg [] st s → Q (.ref r) s) : Wo Q (opLst ds st) := by
  unfold opLst
  rw [if_pos hl]
  exact wo_new h
theorem set_get {st : Sto} {i : Nat} {c c' : Cell} (h : st[i]? = some c') : (st.set i c)[i]? = some c := by
  rw [List.getElem?_set_self (List.getElem?_eq_some_iff.mp h).1]
theorem wo_append {i : Nat} {ds : List D} {y : D} (hi : st[i]? = some (.lst ds)) (hl : ds.length < LIM) (h : ∀ s, s[i]? = some (.lst (ds ++ [y])) → Chg [i] st s → Q .non s) : Wo Q (opAppend (.ref i) [y] st) := by
  simp only [opAppend, hi, if_pos hl]
  exact r_wo_some (h _ (set_get hi) (Chg.set (by simp)))
theorem wo_extend {i j : Nat} {ds es : List D} (hi : st[i]? = some (.lst ds)) (hj : st[j]? = some (.lst es)) (hl : ds.length + es.length ≤ LIM) (h : ∀ s, s[i]? = some (.lst (ds ++ es)) → Chg [i] st s → Q .non s) : Wo Q (opExtend (.ref i) [.ref j] st) := by
  simp only [opExtend, hi, hj, if_pos hl]
  exact r_wo_some (h _ (set_get hi) (Chg.set (by simp)))
theorem wo_setIx {Q : Unit → Sto → Prop} {r : Nat} {ds : List D} {z : Int} {j : Nat} {d : D} (hi : st[r]? = some (.lst ds)) (hj : ixN ds.length z = some j) (h : ∀ s, s[r]? = some (.lst (ds.set j d)) → Chg [r] st s → Q () s) : Wo Q (opSet (.ref r) (.int z) d st) := by
  simp only [opSet, hi, hj]
  exact r_wo_some (h _ (set_get hi) (Chg.set (by simp)))
theorem wo_setF {Q : Unit → Sto → Prop} {P : Nat → Bool} {f : String} {r c : Nat} {fs : List (String × D)} {d : D} (hi : st[r]? = some (.ins c fs)) (hP : P c = true) (hl : fs.length < 1000) (h : ∀ s, s[r]? = some (.ins c (putD f d fs)) → Chg [r] st s → Q () s) : Wo Q (opSetF P f (.ref r) d st) := by
  simp only [opSetF, hi, if_pos (And.intro hP hl)]
  exact r_wo_some (h _ (set_get hi) (Chg.set (by simp)))
theorem wo_addL {i j : Nat} {a b : List D} (hi : st[i]? = some (.lst a)) (hj : st[j]? = some (.lst b)) (hl : a.length + b.length ≤ LIM) (h : ∀ r s, s[r]? = some (.lst (a ++ b)) → st[r]? = none → Chg [] st s → Q (.ref r) s) : Wo Q (opAdd (.ref i) (.ref j) st) := by
  simp only [opAdd, hi, hj, if_pos hl]
  exact wo_new h
theorem tyOk_list {r : Nat} {ds : List D} {s : Sto} (h : s[r]? = some (.lst ds)) : tyOk "list" (.ref r) s = true := by simp [tyOk, h]
theorem tyOk_str {x : Str} {s : Sto} : tyOk "str" (.str x) s = true := rfl
/-! operations -/
theorem w_addI {i j : Int} (h : Q (.int (i + j)) st) : Wo Q (opAdd (.int i) (.int j) st) := r_wo_of rfl h
theorem w_addS {x y : Str} (hl : x.length + y.length ≤ LIM) (h : Q (.str (x ++ y)) st) : Wo Q (opAdd (.str x) (.str y) st) := by simp only [opAdd, if_pos hl]; exact r_wo_some h
theorem w_sub {i j : Int} (h : Q (.int (i - j)) st) : Wo Q (opSub (.int i) (.int j) st) := r_wo_of rfl h
theorem w_mul {i j : Int} (hl : (-(2 ^ 64) < i ∧ i < 2 ^ 64) ∨ (-(2 ^ 64) < j ∧ j < 2 ^ 64)) (h : Q (.int (i * j)) st) : Wo Q (opMul (.int i) (.int j) st) := by simp only [opMul, if_pos hl]; exact r_wo_some h
theorem w_div {i j : Int} (h0 : 0 < j) (h1 : j < 1073741824) (h : Q (.int (i / j)) st) : Wo Q (opDiv (.int i) (.int j) st) := by simp only [opDiv, if_pos (And.intro h0 h1)]; exact r_wo_some h
theorem w_mod {i j : Int} (h0 : 0 < j) (h : Q (.int (i % j)) st) : Wo Q (opMod (.int i) (.int j) st) := by simp only [opMod, if_pos h0]; exact r_wo_some h
theorem w_pow {i j : Int} (h0 : 0 ≤ j ∧ j ≤ 1000000 ∧ i.natAbs < 2 ^ 64) (h : Q (.int (i ^ j.toNat)) st) : Wo Q (opPow (.int i) (.int j) st) := by simp only [opPow, if_pos h0]; exact r_wo_some h
theorem w_neg {i : Int} (h : Q (.int (-i)) st) : Wo Q (opNeg (.int i) st) := r_wo_of rfl h
theorem w_lt {i j : Int} (h : Q (.bl (decide (i < j))) st) : Wo Q (opCmp (fun i j => decide (i < j)) (.int i) (.int j) st) := r_wo_of rfl h
theorem w_le {i j : Int} (h : Q (.bl (decide (i ≤ j))) st) : Wo Q (opCmp (fun i j => decide (i ≤ j)) (.int i) (.int j) st) := r_wo_of rfl h
theorem w_gt {i j : Int} (h : Q (.bl (decide (j < i))) st) : Wo Q (opCmp (fun i j => decide (j < i)) (.int i) (.int j) st) := r_wo_of rfl h
theorem w_ge {i j : Int} (h : Q (.bl (decide (j ≤ i))) st) : Wo Q (opCmp (fun i j => decide (j ≤ i)) (.int i) (.int j) st) := r_wo_of rfl h
theorem w_is {x : D} (h : Q (.bl (isNon x)) st) : Wo Q (opIs x .non st) := r_wo_of rfl h
theorem w_isNot {x : D} (h : Q (.bl (!isNon x)) st) : Wo Q (opIsNot x .non st) := r_wo_of rfl h
theorem w_ixT {ds : List D} {i : Int} {d : D} (hi : atI ds i = some d) (h : Q d st) : Wo Q (opIx (.tup ds) (.int i) st) := by simp only [opIx, seqOf, hi]; exact r_wo_some h
theorem w_ixL {r : Nat} {ds : List D} {i : Int} {d : D} (hr : st[r]? = some (.lst ds)) (hi : atI ds i = some d) (h : Q d st) : Wo Q (opIx (.ref r) (.int i) st) := by simp only [opIx, seqOf, hr, hi]; exact r_wo_some h
theorem w_ixS {x : Str} {i : Int} {c : Nat} (hi : atI x.cps.toList i = some c) (hl : x.length ≤ LIM) (h : Q (.str ⟨#[c]⟩) st) : Wo Q (opIx (.str x) (.int i) st) := by simp only [opIx, hi, if_pos hl]; exact r_wo_some h
theorem w_lenT {ds : List D} (h : Q (.int ds.length) st) : Wo Q (opLen [.tup ds] st) := r_wo_of rfl h
theorem w_lenL {r : Nat} {ds : List D} (hr : st[r]? = some (.lst ds)) (h : Q (.int ds.length) st) : Wo Q (opLen [.ref r] st) := by simp only [opLen, lenOf, seqOf, hr, Option.map_some]; exact r_wo_some h
theorem w_lenS {x : Str} (hl : x.length ≤ LIM) (h : Q (.int x.length) st) : Wo Q (opLen [.str x] st) := by simp only [opLen, lenOf, if_pos hl]; exact r_wo_some h
theorem w_intI {i : Int} (h : Q (.int i) st) : Wo Q (opInt [.int i] st) := r_wo_of rfl h
theorem w_abs {i : Int} (h : Q (.int (if i < 0 then -i else i)) st) : Wo Q (opAbs [.int i] st) := r_wo_of rfl h
theorem w_str {i : Int} (hl : i.natAbs.log2 < 1920) (h : Q (.str (toString i)) st) : Wo Q (opStr [.int i] st) := by simp only [opStr, if_pos hl]; exact r_wo_some h
theorem w_strS {x : Str} (h : Q (.str x) st) : Wo Q (opStr [.str x] st) := r_wo_of rfl h
theorem w_fld {P : Nat → Bool} {f : String} {r c : Nat} {fs : List (String × D)} {d : D} (hr : st[r]? = some (.ins c fs)) (hP : P c = true) (hf : fs.lookup f = some d) (h : Q d st) : Wo Q (opFld P f (.ref r) st) := by simp only [opFld, hr, if_pos hP, hf]; exact r_wo_some h
theorem w_isiR {t : TC} {ans : Kd → Option Bool} {r : Nat} {c : D} {ds : List D} {b : Bool} (hr : st[r]? = some (.lst ds)) (ht : isTC t c = true) (hb : ans .lst = some b) (h : Q (.bl b) st) : Wo Q (opIsi t ans [.ref r, c] st) := by simp only [opIsi, if_pos ht, kind, hr, hb]; exact r_wo_some h
theorem w_isiC {t : TC} {ans : Kd → Option Bool} {r k : Nat} {c : D} {fs : List (String × D)} {b : Bool} (hr : st[r]? = some (.ins k fs)) (ht : isTC t c = true) (hb : ans (.ins k) = some b) (h : Q (.bl b) st) : Wo Q (opIsi t ans [.ref r, c] st) := by simp only [opIsi, if_pos ht, kind, hr, hb]; exact r_wo_some h
theorem w_isi {t : TC} {ans : Kd → Option Bool} {x c : D} {b : Bool} (hb : opIsi t ans [x, c] [] = some (.bl b, [])) (hx : ∀ r, x ≠ .ref r) (h : Q (.bl b) st) : Wo Q (opIsi t ans [x, c] st) := by
  have e : kind x st = kind x [] := by cases x <;> first | rfl | exact (hx _ rfl).elim
  have e2 : opIsi t ans [x, c] st = some (.bl b, st) := by
    unfold opIsi at hb ⊢
    simp only [e] at hb ⊢
    split at hb
    · rename_i ht
      rw [if_pos ht]
      split at hb
      · split at hb
        · cases hb; rfl
        · cases hb
      · cases hb
    · cases hb
  rw [e2]; exact r_wo_some h
theorem w_isiRT {t : TC} {ans : Kd → Option Bool} {r : Nat} {c : D} {ds : List D} {b : Bool} (hr : st[r]? = some (.lst ds)) (ht : isTC t c = true) (hb : ans .lst = some b) (e : b = true) (h : Q (.bl true) st) : Wo Q (opIsi t ans [.ref r, c] st) := w_isiR hr ht hb (by rw [e]; exact h)
theorem w_isiCT {t : TC} {ans : Kd → Option Bool} {r k : Nat} {c : D} {fs : List (String × D)} {b : Bool} (hr : st[r]? = some (.ins k fs)) (ht : isTC t c = true) (hb : ans (.ins k) = some b) (e : b = true) (h : Q (.bl true) st) : Wo Q (opIsi t ans [.ref r, c] st) := w_isiC hr ht hb (by rw [e]; exact h)
theorem w_isiT {t : TC} {ans : Kd → Option Bool} {x c : D} {b : Bool} (hb : opIsi t ans [x, c] [] = some (.bl b, [])) (e : b = true) (hx : ∀ r, x ≠ .ref r) (h : Q (.bl true) st) : Wo Q (opIsi t ans [x, c] st) := w_isi hb hx (by rw [e]; exact h)
theorem w_isiRF {t : TC} {ans : Kd → Option Bool} {r : Nat} {c : D} {ds : List D} {b : Bool} (hr : st[r]? = some (.lst ds)) (ht : isTC t c = true) (hb : ans .lst = some b) (e : b = false) (h : Q (.bl false) st) : Wo Q (opIsi t ans [.ref r, c] st) := w_isiR hr ht hb (by rw [e]; exact h)
theorem w_isiCF {t : TC} {ans : Kd → Option Bool} {r k : Nat} {c : D} {fs : List (String × D)} {b : Bool} (hr : st[r]? = some (.ins k fs)) (ht : isTC t c = true) (hb : ans (.ins k) = some b) (e : b = false) (h : Q (.bl false) st) : Wo Q (opIsi t ans [.ref r, c] st) := w_isiC hr ht hb (by rw [e]; exact h)
theorem w_isiF {t : TC} {ans : Kd → Option Bool} {x c : D} {b : Bool} (hb : opIsi t ans [x, c] [] = some (.bl b, [])) (e : b = false) (hx : ∀ r, x ≠ .ref r) (h : Q (.bl false) st) : Wo Q (opIsi t ans [x, c] st) := w_isi hb hx (by rw [e]; exact h)
theorem w_tup {ds : List D} (hl : ds.length ≤ LIM) (h : Q (.tup ds) st) : Wo Q (opTup ds st) := by simp only [opTup, if_pos hl]; exact r_wo_some h
theorem w_tupleL {r : Nat} {ds : List D} (hr : st[r]? = some (.lst ds)) (h : Q (.tup ds) st) : Wo Q (opTuple [.ref r] st) := by simp only [opTuple, seqOf, hr]; exact r_wo_some h
theorem w_join {a : Str} {r : Nat} {ds : List D} {ys : List Str} (hr : st[r]? = some (.lst ds)) (hs : strsOf ds = some ys) (hl : (ys.map (·.length)).sum + ys.length * a.length ≤ LIM) (h : Q (.str (Txt.join a ys)) st) : Wo Q (opJoin (.str a) [.ref r] st) := by simp only [opJoin, seqOf, hr, hs, if_pos hl]; exact r_wo_some h
theorem w_split {a b : Str} (hb : (b.length == 0) = false) (hl : a.length + 2 ≤ LIM) (h : ∀ r s, s[r]? = some (.lst ((Txt.split a b).map D.str)) → st[r]? = none → Chg [] st s → Q (.ref r) s) : Wo Q (opSplit (.str a) [.str b] st) := by
  simp only [opSplit, if_pos (And.intro hb hl)]
  exact wo_new h
theorem w_strip {a b : Str} (hl : a.length ≤ LIM) (h : Q (.str (Txt.stripChars a b)) st) : Wo Q (opStrip (.str a) [.str b] st) := by simp only [opStrip, if_pos hl]; exact r_wo_some h
theorem w_eq {x y : D} {b : Bool} (he : eqD st x y = some b) (h : Q (.bl b) st) : Wo Q (opEq x y st) := by simp only [opEq, he]; exact r_wo_some h
theorem w_ne {x y : D} {b : Bool} (he : eqD st x y = some b) (h : Q (.bl (!b)) st) : Wo Q (opNe x y st) := by simp only [opNe, he]; exact r_wo_some h
theorem eqD_int {i j : Int} : eqD st (.int i) (.int j) = some (i == j) := by
  simp [eqD, deep, SeqAt.shaped, PyData.eqv, PyData.canLay0, PyData.depth]
theorem w_eqI {i j : Int} (h : Q (.bl (i == j)) st) : Wo Q (opEq (.int i) (.int j) st) := w_eq eqD_int h
theorem w_neI {i j : Int} (h : Q (.bl (!(i == j))) st) : Wo Q (opNe (.int i) (.int j) st) := w_ne eqD_int h
theorem eqD_str {x y : Str} (hx : PyData.strOk x = true) (hy : PyData.strOk y = true) : eqD st (.str x) (.str y) = some (x == y) := by
  simp [eqD, deep, SeqAt.shaped, PyData.eqv, PyData.canLay0, PyData.depth, hx, hy]
theorem w_eqS {x y : Str} (hx : PyData.strOk x = true) (hy : PyData.strOk y = true) (h : Q (.bl (x == y)) st) : Wo Q (opEq (.str x) (.str y) st) := w_eq (eqD_str hx hy) h
theorem w_neS {x y : Str} (hx : PyData.strOk x = true) (hy : PyData.strOk y = true) (h : Q (.bl (!(x == y))) st) : Wo Q (opNe (.str x) (.str y) st) := w_ne (eqD_str hx hy) h
theorem eqD_bl {i j : Bool} : eqD st (.bl i) (.bl j) = some (i == j) := by
  simp [eqD, deep, SeqAt.shaped, PyData.eqv, PyData.canLay0, PyData.depth]
theorem w_eqB {x y : Bool} (h : Q (.bl (x == y)) st) : Wo Q (opEq (.bl x) (.bl y) st) := w_eq eqD_bl h
theorem w_neB {x y : Bool} (h : Q (.bl (!(x == y))) st) : Wo Q (opNe (.bl x) (.bl y) st) := w_ne eqD_bl h
theorem w_in {neg : Bool} {x : Str} {ds : List D} (h0 : ds.all flatD = true) (h : Q (.bl (if neg then !inF (.str x) ds else inF (.str x) ds)) st) : Wo Q (opIn neg (.str x) (.tup ds) st) := by
  simp only [opIn, seqOf]
  rw [if_pos ⟨rfl, h0⟩]
  exact r_wo_some h
theorem w_inL {neg : Bool} {r : Nat} {x : Str} {ds : List D} (hr : st[r]? = some (.lst ds)) (h0 : ds.all flatD = true) (h : Q (.bl (if neg then !inF (.str x) ds else inF (.str x) ds)) st) : Wo Q (opIn neg (.str x) (.ref r) st) := by
  simp only [opIn, seqOf, hr]
  rw [if_pos ⟨rfl, h0⟩]
  exact r_wo_some h
theorem w_slL {lo hi : Option Int} {r : Nat} {ds : List D} (hr : st[r]? = some (.lst ds)) (h : ∀ q s, s[q]? = some (.lst (cutD ds lo hi)) → st[q]? = none → Chg [] st s → Q (.ref q) s) : Wo Q (opSl lo hi (.ref r) st) := by
  simp only [opSl, seqOf, hr]
  exact wo_new h
theorem w_intS {x : Str} {n : Int} (hn : PySem.intText? x = some n) (hl : x.length ≤ 640) (h : Q (.int n) st) : Wo Q (opInt [.str x] st) := by
  simp only [opInt, hn, if_pos hl]
  exact r_wo_some h
/-! loops -/
theorem owp_forS {p : Its} {t : Tg} {body : Sm} {ds : List D} (I : Nat → Sl → Sto → Prop)
    (step : ∀ i d e s, ds[i]? = some d → I i e s → p.okB s ∧ ∃ e', Tg.sem s t d e = some e' ∧ Owp (K.loop (I (i + 1))) (body e' s))
    (hend : ∀ e s, I ds.length e s → p.okB s ∧ K.nx e s) : ∀ {env st}, I 0 env st → Owp K (forS p t body ds env st) := by
  intro env st h0
  have key : ∀ (k : Nat) (l : List D) (e : Sl) (s : Sto), l = ds.drop k → k ≤ ds.length → I k e s → Owp K (forS p t body l e s) := by
    intro k l
    induction l generalizing k with
    | nil =>
      intro e s hl hk hI
      have : k = ds.length := by
        have := congrArg List.length hl
        simp at this
        omega
      subst this
      obtain ⟨h1, h2⟩ := hend e s hI
      unfold forS
      rw [if_pos h1]
      exact ⟨h2⟩
    | cons d l ih =>
      intro e s hl hk hI
      have hd : ds[k]? = some d := by
        have := congrArg (fun l => l[0]?) hl
        simp at this
        exact this.symm
      have hkl : k < ds.length := (List.getElem?_eq_some_iff.mp hd).1
      have hl' : l = ds.drop (k + 1) := by
        have := congrArg List.tail hl
        simpa using this
      obtain ⟨h1, e', h2, h3⟩ := step k d e s hd hI
      unfold forS
      rw [if_pos h1, h2]
      simp only
      revert h3
      cases body e' s with
      | nx e2 s2 => exact fun h3 => ih (k + 1) e2 s2 hl' hkl h3.out
      | ct e2 s2 => exact fun h3 => ih (k + 1) e2 s2 hl' hkl h3.out
      | bk e2 s2 => exact fun h3 => ⟨h3.out⟩
      | rt d2 s2 => exact fun h3 => ⟨h3.out⟩
      | exn c fs e2 s2 => exact fun h3 => ⟨h3.out⟩
      | bad => exact fun h3 => ⟨h3.out⟩
  exact key 0 ds env st (by simp) (Nat.zero_le _) h0
theorem owp_for {it : Sl → M Its} {t : Tg} {body : Sm} : Owp K (sFor it t body env st) = Wp (fun c fs s => K.ex c fs env s) (fun p s => Owp K (forS p t body p.items env s)) (it env st) := by unfold sFor; rw [owp_out]
theorem r_owp_for {it : Sl → M Its} {t : Tg} {body : Sm} (h : Wp (fun c fs s => K.ex c fs env s) (fun p s => Owp K (forS p t body p.items env s)) (it env st)) : Owp K (sFor it t body env st) := Eq.mpr owp_for h
theorem okB_none {ds : List D} {s : Sto} : Its.okB ⟨ds, none⟩ s := fun _ _ h => by cases h
theorem okB_some {ds es : List D} {i : Nat} {s : Sto} (h : s[i]? = some (.lst es)) : Its.okB ⟨ds, some (i, es)⟩ s := fun _ _ z => by cases z; exact h
/-- a comprehension: what each item gives -/
theorem wp_lcS {p : Its} {vs : List Nat} {t : Tg} {c : T} {e : E} {L : Nat} {env : Sl} {st0 : Sto} (sel : D → Option D) (hp : ∀ s, Chg [] st0 s → p.okB s) (hL : st0[L]? = none) : ∀ (ds : List D) (acc : List D) (s : Sto), acc.length + ds.length ≤ LIM → s[L]? = some (.lst acc) → Chg [] st0 s →
    (∀ d ∈ ds, ∀ s ds', s[L]? = some (.lst ds') → Chg [] st0 s → ∃ e1, Tg.sem s t d (wipeD env vs) = some e1 ∧ Wp (fun _ _ _ => False) (fun k s1 => if k = true then Wp (fun _ _ _ => False) (fun y s2 => sel d = some y ∧ Chg [] s s2) (e e1 s1) else sel d = none ∧ Chg [] s s1) (c e1 s)) →
    ∃ s', lcS p vs t c e L env ds s = some s' ∧ s'[L]? = some (.lst (acc ++ ds.filterMap sel)) ∧ Chg [] st0 s'
  | [], acc, s, _, hs, h, _ => ⟨s, by unfold lcS; rw [if_pos (hp s h)], by simpa using hs, h⟩
  | d :: ds, acc, s, hl, hs, h, H => by
    obtain ⟨e1, he1, hw⟩ := H d (by simp) s acc hs h
    obtain ⟨k, s1, hc, hw⟩ := hw.to
    have H' := fun d hd => H d (List.mem_cons_of_mem _ hd)
    unfold lcS
    rw [if_pos (hp s h), he1]
    simp only [hc]
    cases k with
    | true =>
      rw [if_pos rfl] at hw
      obtain ⟨y, s2, he, hy, hch⟩ := hw.to
      have h2 := hch.get0 hs
      simp only [List.length_cons] at hl
      simp only [he, h2]
      rw [if_pos (by omega)]
      obtain ⟨s', r1, r2, r3⟩ := wp_lcS (p := p) (vs := vs) (t := t) (c := c) (e := e) (env := env) sel hp hL ds (acc ++ [y]) (s2.set L (.lst (acc ++ [y]))) (by simp; omega) (set_get h2) (Chg.new (h.trans hch) hL (Chg.set (by simp))) H'
      exact ⟨s', r1, by rw [r2]; simp [hy], r3⟩
    | false =>
      simp only [Bool.false_eq_true, if_false] at hw
      obtain ⟨hy, hch⟩ := hw
      simp only [List.length_cons] at hl
      obtain ⟨s', r1, r2, r3⟩ := wp_lcS (p := p) (vs := vs) (t := t) (c := c) (e := e) (env := env) sel hp hL ds acc s1 (by omega) (hch.get0 hs) (h.trans hch) H'
      exact ⟨s', r1, by rw [r2]; simp [hy], r3⟩
theorem wp_lc {vs : List Nat} {it : Sl → M Its} {t : Tg} {c : T} {e : E} (h : Wp X (fun p s0 => ∃ sel : D → Option D, (∀ s, Chg [] s0 s → p.okB s) ∧ p.items.length ≤ LIM ∧
    (∀ d ∈ p.items, ∀ s, Chg [] s0 s → ∃ e1, Tg.sem s t d (wipeD env vs) = some e1 ∧ Wp (fun _ _ _ => False) (fun k s1 => if k = true then Wp (fun _ _ _ => False) (fun y s2 => sel d = some y ∧ Chg [] s s2) (e e1 s1) else sel d = none ∧ Chg [] s s1) (c e1 s)) ∧
    ∀ r s, s[r]? = some (.lst (p.items.filterMap sel)) → s0[r]? = none → Chg [] s0 s → Q (.ref r) s) (it env st)) : Wp X Q (eLc vs it t c e env st) := by
  unfold eLc
  rw [wp_bind]
  refine h.imp ?_ fun _ _ _ z => z
  rintro p s0 ⟨sel, hp, hl, H, k⟩
  obtain ⟨s', r1, r2, r3⟩ := wp_lcS (p := p) (vs := vs) (t := t) (c := c) (e := e) (env := env) (L := s0.length) (st0 := s0) sel hp (by simp) p.items [] (s0 ++ [.lst []]) (by simpa using hl) (by simp) Chg.app (fun d hd s ds' _ hs => H d hd s hs)
  rw [r1]
  exact r_wp_ok (k _ _ (by simpa using r2) (by simp) r3)
end
end LF

set_option Elab.async false
set_option linter.all false
set_option maxRecDepth 100000
set_option maxHeartbeats 4000000
namespace K02
open PySem PySem.Spec PyProof.Rows L2 LF
def topS (i : Nat) : Stmt := PySem.Challenge.pw_lampfolk_k02_whole_texts_of_programs.main.body.getD i (.Pass ⟨0, 0, 0, 0⟩)
abbrev N_is_number : List Str := ["value"]
theorem sc_is_number : FnScope N_is_number ["value"] (defScope (topS 7)) := ⟨rfl, rfl, rfl, by decide +kernel, rfl, by decide +kernel, by decide +kernel⟩
abbrev N_is_within : List Str := ["value", "least", "most"]
theorem sc_is_within : FnScope N_is_within ["value", "least", "most"] (defScope (topS 8)) := ⟨rfl, rfl, rfl, by decide +kernel, rfl, by decide +kernel, by decide +kernel⟩
abbrev N_is_word : List Str := ["value"]
theorem sc_is_word : FnScope N_is_word ["value"] (defScope (topS 9)) := ⟨rfl, rfl, rfl, by decide +kernel, rfl, by decide +kernel, by decide +kernel⟩
abbrev N_is_step : List Str := ["value", "states", "colours"]
theorem sc_is_step : FnScope N_is_step ["value", "states", "colours"] (defScope (topS 13)) := ⟨rfl, rfl, rfl, by decide +kernel, rfl, by decide +kernel, by decide +kernel⟩
abbrev N_are_steps : List Str := ["value", "row", "step"]
theorem sc_are_steps : FnScope N_are_steps ["value"] (defScope (topS 14)) := ⟨rfl, rfl, rfl, by decide +kernel, rfl, by decide +kernel, by decide +kernel⟩
abbrev N_step_words : List Str := ["step"]
theorem sc_step_words : FnScope N_step_words ["step"] (defScope (topS 21)) := ⟨rfl, rfl, rfl, by decide +kernel, rfl, by decide +kernel, by decide +kernel⟩
abbrev N_program_text : List Str := ["program", "lines", "row", "words", "step", "leader", "lamp", "line"]
theorem sc_program_text : FnScope N_program_text ["program"] (defScope (topS 22)) := ⟨rfl, rfl, rfl, by decide +kernel, rfl, by decide +kernel, by decide +kernel⟩
abbrev N_number_in : List Str := ["word"]
theorem sc_number_in : FnScope N_number_in ["word"] (defScope (topS 23)) := ⟨rfl, rfl, rfl, by decide +kernel, rfl, by decide +kernel, by decide +kernel⟩
abbrev N_is_saying_word : List Str := ["word"]
theorem sc_is_saying_word : FnScope N_is_saying_word ["word"] (defScope (topS 24)) := ⟨rfl, rfl, rfl, by decide +kernel, rfl, by decide +kernel, by decide +kernel⟩
abbrev N_saying_in : List Str := ["word"]
theorem sc_saying_in : FnScope N_saying_in ["word"] (defScope (topS 25)) := ⟨rfl, rfl, rfl, by decide +kernel, rfl, by decide +kernel, by decide +kernel⟩
abbrev N_LineReader_init : List Str := ["self"]
theorem sc_LineReader_init : FnScope N_LineReader_init ["self"] (defScope (inClass (topS 26) 0)) := ⟨rfl, rfl, rfl, by decide +kernel, rfl, by decide +kernel, by decide +kernel⟩
abbrev N_LineReader_takes_row : List Str := ["self", "words", "row", "at", "state", "colour", "word"]
theorem sc_LineReader_takes_row : FnScope N_LineReader_takes_row ["self", "words"] (defScope (inClass (topS 26) 2)) := ⟨rfl, rfl, rfl, by decide +kernel, rfl, by decide +kernel, by decide +kernel⟩
abbrev N_LineReader_takes : List Str := ["self", "words", "is_open"]
theorem sc_LineReader_takes : FnScope N_LineReader_takes ["self", "words"] (defScope (inClass (topS 26) 1)) := ⟨rfl, rfl, rfl, by decide +kernel, rfl, by decide +kernel, by decide +kernel⟩
abbrev N_Program_init : List Str := ["self", "steps", "first", "leader", "lamp"]
theorem sc_Program_init : FnScope N_Program_init ["self", "steps", "first", "leader", "lamp"] (defScope (inClass (topS 15) 0)) := ⟨rfl, rfl, rfl, by decide +kernel, rfl, by decide +kernel, by decide +kernel⟩
abbrev N_read_program : List Str := ["text", "lines", "reader", "at", "line", "words", "first", "leader", "lamp"]
theorem sc_read_program : FnScope N_read_program ["text"] (defScope (topS 27)) := ⟨rfl, rfl, rfl, by decide +kernel, rfl, by decide +kernel, by decide +kernel⟩
abbrev N__law_pot : List Str := ["script", "cell"]
theorem sc__law_pot : FnScope N__law_pot ["script"] (defScope (topS 29)) := ⟨rfl, rfl, rfl, by decide +kernel, rfl, by decide +kernel, by decide +kernel⟩
abbrev N__law_draw : List Str := ["pot", "many", "found", "cell"]
theorem sc__law_draw : FnScope N__law_draw ["pot", "many"] (defScope (topS 30)) := ⟨rfl, rfl, rfl, by decide +kernel, rfl, by decide +kernel, by decide +kernel⟩
abbrev N__law_pick : List Str := ["pot", "row"]
theorem sc__law_pick : FnScope N__law_pick ["pot", "row"] (defScope (topS 31)) := ⟨rfl, rfl, rfl, by decide +kernel, rfl, by decide +kernel, by decide +kernel⟩
abbrev N__law_same : List Str := ["found", "due", "k"]
theorem sc__law_same : FnScope N__law_same ["found", "due"] (defScope (topS 32)) := ⟨rfl, rfl, rfl, by decide +kernel, rfl, by decide +kernel, by decide +kernel⟩
abbrev N__law_saying : List Str := ["pot"]
theorem sc__law_saying : FnScope N__law_saying ["pot"] (defScope (topS 33)) := ⟨rfl, rfl, rfl, by decide +kernel, rfl, by decide +kernel, by decide +kernel⟩
abbrev N__law_spec : List Str := ["pot", "most", "states", "colours", "rows", "state", "row", "colour", "leader"]
theorem sc__law_spec : FnScope N__law_spec ["pot", "most"] (defScope (topS 34)) := ⟨rfl, rfl, rfl, by decide +kernel, rfl, by decide +kernel, by decide +kernel⟩
abbrev N__law_made : List Str := ["spec"]
theorem sc__law_made : FnScope N__law_made ["spec"] (defScope (topS 35)) := ⟨rfl, rfl, rfl, by decide +kernel, rfl, by decide +kernel, by decide +kernel⟩
abbrev N__law_lines : List Str := ["spec", "found", "row", "words", "one"]
theorem sc__law_lines : FnScope N__law_lines ["spec"] (defScope (topS 36)) := ⟨rfl, rfl, rfl, by decide +kernel, rfl, by decide +kernel, by decide +kernel⟩
abbrev N__law_text_of : List Str := ["spec", "line"]
theorem sc__law_text_of : FnScope N__law_text_of ["spec"] (defScope (topS 37)) := ⟨rfl, rfl, rfl, by decide +kernel, rfl, by decide +kernel, by decide +kernel⟩
abbrev N_Program_eq : List Str := ["self", "other"]
theorem sc_Program_eq : FnScope N_Program_eq ["self", "other"] (defScope (inClass (topS 15) 1)) := ⟨rfl, rfl, rfl, by decide +kernel, rfl, by decide +kernel, by decide +kernel⟩
abbrev N_law : List Str := ["script", "pot", "turn", "spec", "made", "due", "again"]
theorem sc_law : FnScope N_law ["script"] (defScope (topS 38)) := ⟨rfl, rfl, rfl, by decide +kernel, rfl, by decide +kernel, by decide +kernel⟩
abbrev c_MOST_SAID : D := .int 4
abbrev c_ALL : D := .str (Str.ofString "all")
abbrev c_MOST_STATES : D := .int 5
abbrev c_MOST_COLOURS : D := .int 4
abbrev c_DIGITS : D := .str (Str.ofString "0123456789")
abbrev c_MOST_DIGITS : D := .int 6
abbrev c_HEADS : D := .tup [.str (Str.ofString "first"), .str (Str.ofString "leader"), .str (Str.ofString "lamp"), .str (Str.ofString "end")]
def opGet_OPEN : D → O D
  | .str k => fun st => if k = Str.ofString "first" then some (.non, st) else if k = Str.ofString "leader" then some (.str (Str.ofString "none"), st) else if k = Str.ofString "lamp" then some (.str (Str.ofString "any"), st) else  none
  | _ => fun _ => none
def fld_first (c : Nat) : Bool := c == 4
def fld_lamp (c : Nat) : Bool := c == 4
def fld_last (c : Nat) : Bool := c == 5
def fld_leader (c : Nat) : Bool := c == 4
def fld_read_rows (c : Nat) : Bool := c == 5
def fld_steps (c : Nat) : Bool := c == 4
def ok_Program : Kd → Bool
  | .ins c => c == 4
  | _ => false
def ans_Program : Kd → Option Bool
  | .ins c => if c == 4 then some true else none
  | _ => none
noncomputable def b_is_number : Sm := sRet (eAnd (eBlt (opIsi (.ty "int") (ansTy "int")) [eVar 0, eC (.ty "int")]) (eNot (eBlt (opIsi (.ty "bool") (ansTy "bool")) [eVar 0, eC (.ty "bool")])))
noncomputable def f_is_number : F := fnS 1 1 b_is_number
noncomputable def b_is_within : Sm := sRet (eAnd (eCall (f_is_number) [eVar 0]) (eChain opLe opLe (eVar 1) (eVar 0) (eVar 2)))
noncomputable def f_is_within : F := fnS 3 3 b_is_within
noncomputable def b_is_word : Sm := sRet (eOr (eCall (f_is_within) [eVar 0, eC (.int 1), eC c_MOST_SAID]) (eAnd (eBlt (opIsi (.ty "str") (ansTy "str")) [eVar 0, eC (.ty "str")]) (eBin opEq (eVar 0) (eC c_ALL))))
noncomputable def f_is_word : F := fnS 1 1 b_is_word
noncomputable def b_is_step : Sm := sSeq (sIf (tOr' (tNot' (tTru (eBlt (opIsi (.ty "tuple") (ansTy "tuple")) [eVar 0, eC (.ty "tuple")]))) (asB (eBin opNe (eBlt opLen [eVar 0]) (eC (.int 3))))) (sRet (eC (.bl false))) (sSkip)) (sSeq (sIf (tOr' (tNot' (tTru (eCall (f_is_within) [eBin opIx (eVar 0) (eC (.int 0)), eC (.int 0), eBin opSub (eVar 1) (eC (.int 1))]))) (tNot' (tTru (eCall (f_is_within) [eBin opIx (eVar 0) (eC (.int 1)), eC (.int 0), eBin opSub (eVar 2) (eC (.int 1))])))) (sRet (eC (.bl false))) (sSkip)) (sRet (eOr (eBin opIs (eBin opIx (eVar 0) (eC (.int 2))) (eC .non)) (eCall (f_is_word) [eBin opIx (eVar 0) (eC (.int 2))]))))
noncomputable def f_is_step : F := fnS 3 3 b_is_step
noncomputable def b_are_steps : Sm := sSeq (sIf (tOr' (tNot' (tTru (eBlt (opIsi (.ty "tuple") (ansTy "tuple")) [eVar 0, eC (.ty "tuple")]))) (tNot' (asB (eChain opLe opLe (eC (.int 1)) (eBlt opLen [eVar 0]) (eC c_MOST_STATES))))) (sRet (eC (.bl false))) (sSkip)) (sSeq (sIf (tNot' (tTru (eBlt opAll [eLc [1] (iS (eVar 0)) (.name 1) (tYes') (eAnd (eBlt (opIsi (.ty "tuple") (ansTy "tuple")) [eVar 1, eC (.ty "tuple")]) (eChain opLe opLe (eC (.int 1)) (eBlt opLen [eVar 1]) (eC c_MOST_COLOURS)))]))) (sRet (eC (.bl false))) (sSkip)) (sSeq (sFor (iS (eVar 0)) (.name 1) (sIf (tOr' (asB (eBin opNe (eBlt opLen [eVar 1]) (eBlt opLen [eBin opIx (eVar 0) (eC (.int 0))]))) (tNot' (tTru (eBlt opAll [eLc [2] (iS (eVar 1)) (.name 2) (tYes') (eCall (f_is_step) [eVar 2, eBlt opLen [eVar 0], eBlt opLen [eVar 1]])])))) (sRet (eC (.bl false))) (sSkip))) (sRet (eC (.bl true)))))
noncomputable def f_are_steps : F := fnS 1 3 b_are_steps
noncomputable def b_step_words : Sm := sRet (eBlt opLst [eBlt opStr [eBin opIx (eVar 0) (eC (.int 0))], eBlt opStr [eBin opIx (eVar 0) (eC (.int 1))], eIf (asB (eBin opIs (eBin opIx (eVar 0) (eC (.int 2))) (eC .non))) (eC (.str (Str.ofString "-"))) (eBlt opStr [eBin opIx (eVar 0) (eC (.int 2))])])
noncomputable def f_step_words : F := fnS 1 1 b_step_words
noncomputable def b_program_text : Sm := sSeq (sAsg (.name 1) (eBlt opLst [])) (sSeq (sFor (iS (eUn (opFld fld_steps "steps") (eVar 0))) (.name 2) (sSeq (sAsg (.name 3) (eBlt opLst [eC (.str (Str.ofString "state"))])) (sSeq (sFor (iS (eVar 2)) (.name 4) (sExpr (eMt "list" opExtend (eVar 3) [eCall (f_step_words) [eVar 4]]))) (sExpr (eMt "list" opAppend (eVar 1) [eMt "str" opJoin (eC (.str (Str.ofString " "))) [eVar 3]]))))) (sSeq (sAsg (.name 5) (eIf (asB (eBin opIs (eUn (opFld fld_leader "leader") (eVar 0)) (eC .non))) (eC (.str (Str.ofString "none"))) (eBlt opStr [eUn (opFld fld_leader "leader") (eVar 0)]))) (sSeq (sAsg (.name 6) (eIf (asB (eBin opIs (eUn (opFld fld_lamp "lamp") (eVar 0)) (eC .non))) (eC (.str (Str.ofString "any"))) (eBlt opStr [eUn (opFld fld_lamp "lamp") (eVar 0)]))) (sSeq (sAsg (.name 1) (eBin opAdd (eVar 1) (eBlt opLst [eJoin [eC (.str (Str.ofString "first ")), eFmt (eUn (opFld fld_first "first") (eVar 0))] Str.empty, eJoin [eC (.str (Str.ofString "leader ")), eFmt (eVar 5)] Str.empty, eJoin [eC (.str (Str.ofString "lamp ")), eFmt (eVar 6)] Str.empty, eC (.str (Str.ofString "end"))]))) (sRet (eMt "str" opJoin (eC (.str (Str.ofString ""))) [eLc [7] (iS (eVar 1)) (.name 7) (tYes') (eBin opAdd (eVar 7) (eC (.str (Str.ofString "\n"))))]))))))
noncomputable def f_program_text : F := fnS 1 8 b_program_text
noncomputable def b_number_in : Sm := sSeq (sIf (tOr' (tNot' (asB (eChain opLe opLe (eC (.int 1)) (eBlt opLen [eVar 0]) (eC c_MOST_DIGITS)))) (asB (eBin opNe (eMt "str" opStrip (eVar 0) [eC c_DIGITS]) (eC (.str (Str.ofString "")))))) (sRet (eC .non)) (sSkip)) (sRet (eIf (tAnd' (asB (eBin opEq (eBin opIx (eVar 0) (eC (.int 0))) (eC (.str (Str.ofString "0"))))) (asB (eBin opNe (eVar 0) (eC (.str (Str.ofString "0")))))) (eC .non) (eBlt opInt [eVar 0])))
noncomputable def f_number_in : F := fnS 1 1 b_number_in
noncomputable def b_is_saying_word : Sm := sRet (eOr (eBin (opIn false) (eVar 0) (eBlt opTup [eC (.str (Str.ofString "-")), eC (.str (Str.ofString "all"))])) (eBin opIsNot (eCall (f_number_in) [eVar 0]) (eC .non)))
noncomputable def f_is_saying_word : F := fnS 1 1 b_is_saying_word
noncomputable def b_saying_in : Sm := sSeq (sIf (asB (eBin opEq (eVar 0) (eC (.str (Str.ofString "-"))))) (sRet (eC .non)) (sSkip)) (sRet (eIf (asB (eBin opEq (eVar 0) (eC (.str (Str.ofString "all"))))) (eVar 0) (eCall (f_number_in) [eVar 0])))
noncomputable def f_saying_in : F := fnS 1 1 b_saying_in
noncomputable def b_LineReader_init : Sm := sSeq (sSetF fld_read_rows "read_rows" (eVar 0) (eBlt opLst [])) (sSetF fld_last "last" (eVar 0) (eBlt opLst []))
noncomputable def f_LineReader_init : F := fnS 1 1 b_LineReader_init
noncomputable def b_LineReader_takes_row : Sm := sSeq (sIf (asB (eBin opNe (eBin opMod (eBlt opLen [eVar 1]) (eC (.int 3))) (eC (.int 0)))) (sRet (eC (.bl false))) (sSkip)) (sSeq (sAsg (.name 2) (eBlt opLst [])) (sSeq (sFor (iR3 (eC (.int 0)) (eBlt opLen [eVar 1]) (eC (.int 3))) (.name 3) (sSeq (sAsg (.tup [.name 4, .name 5, .name 6]) (eSl (eVar 1) (some (eVar 3)) (some (eBin opAdd (eVar 3) (eC (.int 3)))))) (sSeq (sIf (tOr' (asB (eBin opIs (eCall (f_number_in) [eVar 4]) (eC .non))) (tOr' (asB (eBin opIs (eCall (f_number_in) [eVar 5]) (eC .non))) (tNot' (tTru (eCall (f_is_saying_word) [eVar 6]))))) (sRet (eC (.bl false))) (sSkip)) (sExpr (eMt "list" opAppend (eVar 2) [eBlt opTup [eCall (f_number_in) [eVar 4], eCall (f_number_in) [eVar 5], eCall (f_saying_in) [eVar 6]]]))))) (sSeq (sExpr (eMt "list" opAppend (eUn (opFld fld_read_rows "read_rows") (eVar 0)) [eBlt opTuple [eVar 2]])) (sRet (eC (.bl true))))))
noncomputable def f_LineReader_takes_row : F := fnS 2 7 b_LineReader_takes_row
noncomputable def b_LineReader_takes : Sm := sSeq (sIf (tAnd' (asB (eBin opEq (eBin opIx (eVar 1) (eC (.int 0))) (eC (.str (Str.ofString "state"))))) (asB (eBin opEq (eBlt opLen [eUn (opFld fld_last "last") (eVar 0)]) (eC (.int 0))))) (sRet (eMeth 5 "takes_row" f_LineReader_takes_row (eVar 0) [eSl (eVar 1) (some (eC (.int 1))) none])) (sSkip)) (sSeq (sIf (tOr' (asB (eBin opEq (eBlt opLen [eUn (opFld fld_read_rows "read_rows") (eVar 0)]) (eC (.int 0)))) (tOr' (asB (eBin opEq (eBlt opLen [eUn (opFld fld_last "last") (eVar 0)]) (eBlt opLen [eC c_HEADS]))) (asB (eBin opNe (eBin opIx (eVar 1) (eC (.int 0))) (eBin opIx (eC c_HEADS) (eBlt opLen [eUn (opFld fld_last "last") (eVar 0)])))))) (sRet (eC (.bl false))) (sSkip)) (sSeq (sIf (asB (eBin opEq (eBin opIx (eVar 1) (eC (.int 0))) (eC (.str (Str.ofString "end"))))) (sSeq (sExpr (eMt "list" opAppend (eUn (opFld fld_last "last") (eVar 0)) [eC .non])) (sRet (eBin opEq (eBlt opLen [eVar 1]) (eC (.int 1))))) (sSkip)) (sSeq (sIf (asB (eBin opNe (eBlt opLen [eVar 1]) (eC (.int 2)))) (sRet (eC (.bl false))) (sSkip)) (sSeq (sAsg (.name 2) (eBin opEq (eBin opIx (eVar 1) (eC (.int 1))) (eUn opGet_OPEN (eBin opIx (eVar 1) (eC (.int 0)))))) (sSeq (sExpr (eMt "list" opAppend (eUn (opFld fld_last "last") (eVar 0)) [eIf (tTru (eVar 2)) (eC .non) (eCall (f_number_in) [eBin opIx (eVar 1) (eC (.int 1))])])) (sRet (eOr (eVar 2) (eBin opIsNot (eBin opIx (eUn (opFld fld_last "last") (eVar 0)) (eUn opNeg (eC (.int 1)))) (eC .non)))))))))
noncomputable def f_LineReader_takes : F := fnS 2 3 b_LineReader_takes
noncomputable def b_Program_init : Sm := sSeq (sIf (tNot' (tTru (eCall (f_are_steps) [eVar 1]))) ((fun _ _ => .bad)) (sSkip)) (sSeq (sIf (tNot' (tTru (eCall (f_is_within) [eVar 2, eC (.int 0), eBin opSub (eBlt opLen [eVar 1]) (eC (.int 1))]))) ((fun _ _ => .bad)) (sSkip)) (sSeq (sIf (tAnd' (asB (eBin opIsNot (eVar 3) (eC .non))) (tNot' (tTru (eCall (f_is_within) [eVar 3, eC (.int 0), eBin opSub (eBlt opLen [eVar 1]) (eC (.int 1))])))) ((fun _ _ => .bad)) (sSkip)) (sSeq (sIf (tAnd' (asB (eBin opIsNot (eVar 4) (eC .non))) (tNot' (tTru (eCall (f_is_within) [eVar 4, eC (.int 0), eBin opSub (eBlt opLen [eBin opIx (eVar 1) (eC (.int 0))]) (eC (.int 1))])))) ((fun _ _ => .bad)) (sSkip)) (sSeq (sSetF fld_steps "steps" (eVar 0) (eVar 1)) (sSeq (sSetF fld_first "first" (eVar 0) (eVar 2)) (sSeq (sSetF fld_leader "leader" (eVar 0) (eVar 3)) (sSetF fld_lamp "lamp" (eVar 0) (eVar 4))))))))
noncomputable def f_Program_init : F := fnS 5 5 b_Program_init
noncomputable def b_read_program : Sm := sSeq (sIf (tNot' (tTru (eBlt (opIsi (.ty "str") (ansTy "str")) [eVar 0, eC (.ty "str")]))) ((fun _ _ => .bad)) (sSkip)) (sSeq (sAsg (.name 1) (eMt "str" opSplit (eVar 0) [eC (.str (Str.ofString "\n"))])) (sSeq (sAsg (.name 2) (eMake 5 f_LineReader_init [])) (sSeq (sFor (iEn (eVar 1)) (.tup [.name 3, .name 4]) (sSeq (sAsg (.name 5) (eMt "str" opSplit (eVar 4) [eC (.str (Str.ofString " "))])) (sIf (asB (eBin opEq (eVar 3) (eBin opSub (eBlt opLen [eVar 1]) (eC (.int 1))))) (sIf (asB (eBin opNe (eVar 4) (eC (.str (Str.ofString ""))))) ((fun _ _ => .bad)) (sSkip)) (sIf (asB (eBin (opIn false) (eC (.str (Str.ofString ""))) (eVar 5))) ((fun _ _ => .bad)) (sIf (tNot' (tTru (eMeth 5 "takes" f_LineReader_takes (eVar 2) [eVar 5]))) ((fun _ _ => .bad)) (sSkip)))))) (sSeq (sIf (asB (eBin opLt (eBlt opLen [eUn (opFld fld_last "last") (eVar 2)]) (eBlt opLen [eC c_HEADS]))) ((fun _ _ => .bad)) (sSkip)) (sSeq (sAsg (.tup [.name 6, .name 7, .name 8]) (eSl (eUn (opFld fld_last "last") (eVar 2)) none (some (eC (.int 3))))) (sRet (eMake 4 f_Program_init [eBlt opTuple [eUn (opFld fld_read_rows "read_rows") (eVar 2)], eVar 6, eVar 7, eVar 8])))))))
noncomputable def f_read_program : F := fnS 1 9 b_read_program
noncomputable def b__law_pot : Sm := sRet (eBlt opLst [eLc [1] (iS (eSl (eVar 0) none (some (eC (.int 63))))) (.name 1) (tYes') (eBlt opAbs [eVar 1]), eC (.int 0), eC (.int 20011), eC (.int 0)])
noncomputable def f__law_pot : F := fnS 1 2 b__law_pot
noncomputable def b__law_draw : Sm := sSeq (sIf (asB (eBin opLt (eVar 1) (eC (.int 2)))) (sRet (eC (.int 0))) (sSkip)) (sSeq (sIf (asB (eBin opGt (eBin opIx (eVar 0) (eC (.int 3))) (eC (.int 0)))) (sSeq (sAsg (.name 2) (eBin opMod (eBlt opInt [eBin opIx (eVar 0) (eC (.int 3))]) (eVar 1))) (sSeq (sSetIx (eVar 0) (eC (.int 3)) (eBin opDiv (eBin opIx (eVar 0) (eC (.int 3))) (eVar 1))) (sRet (eVar 2)))) (sSkip)) (sSeq (sAsg (.name 3) (eC (.int 0))) (sSeq (sIf (asB (eBin opLt (eBin opIx (eVar 0) (eC (.int 1))) (eBlt opLen [eBin opIx (eVar 0) (eC (.int 0))]))) (sSeq (sAsg (.name 3) (eBin opIx (eBin opIx (eVar 0) (eC (.int 0))) (eBin opIx (eVar 0) (eC (.int 1))))) (sSeq (sSetIx (eVar 0) (eC (.int 1)) (eBin opAdd (eBin opIx (eVar 0) (eC (.int 1))) (eC (.int 1)))) (sIf (asB (eBin opGe (eVar 3) (eBin opPow (eC (.int 10)) (eC (.int 18))))) (sSeq (sSetIx (eVar 0) (eC (.int 3)) (eBin opDiv (eVar 3) (eVar 1))) (sRet (eBin opMod (eBlt opInt [eVar 3]) (eVar 1)))) (sSkip)))) (sSkip)) (sSeq (sSetIx (eVar 0) (eC (.int 2)) (eBin opMod (eBlt opInt [eBin opAdd (eBin opAdd (eBin opMul (eBin opIx (eVar 0) (eC (.int 2))) (eC (.int 48271))) (eVar 3)) (eC (.int 12345))]) (eC (.int 2147483647)))) (sRet (eBin opMod (eBlt opInt [eBin opAdd (eBin opDiv (eBin opMul (eBin opIx (eVar 0) (eC (.int 2))) (eBin opIx (eVar 0) (eC (.int 2)))) (eC (.int 64))) (eBin opDiv (eBin opIx (eVar 0) (eC (.int 2))) (eC (.int 7)))]) (eVar 1)))))))
noncomputable def f__law_draw : F := fnS 2 4 b__law_draw
noncomputable def b__law_pick : Sm := sRet (eBin opIx (eVar 1) (eCall (f__law_draw) [eVar 0, eBlt opLen [eVar 1]]))
noncomputable def f__law_pick : F := fnS 2 2 b__law_pick
noncomputable def b__law_same (rec : F) : Sm := sSeq (sIf (tOr' (tTru (eBlt (opIsi (.ty "tuple") (ansTy "tuple")) [eVar 1, eC (.ty "tuple")])) (tTru (eBlt (opIsi (.ty "list") (ansTy "list")) [eVar 1, eC (.ty "list")]))) (sSeq (sIf (tOr' (asB (eBin opNe (eBlt (opIsi (.ty "tuple") (ansTy "tuple")) [eVar 1, eC (.ty "tuple")]) (eBlt (opIsi (.ty "tuple") (ansTy "tuple")) [eVar 0, eC (.ty "tuple")]))) (asB (eBin opNe (eBlt (opIsi (.ty "list") (ansTy "list")) [eVar 1, eC (.ty "list")]) (eBlt (opIsi (.ty "list") (ansTy "list")) [eVar 0, eC (.ty "list")])))) (sRet (eC (.bl false))) (sSkip)) (sSeq (sIf (asB (eBin opNe (eBlt opLen [eVar 0]) (eBlt opLen [eVar 1]))) (sRet (eC (.bl false))) (sSkip)) (sRet (eBin opEq (eLc [2] (iR1 (eBlt opLen [eVar 1])) (.name 2) (tNot' (tTru (eCall rec [eBin opIx (eVar 0) (eVar 2), eBin opIx (eVar 1) (eVar 2)]))) (eVar 2)) (eBlt opLst []))))) (sSkip)) (sSeq (sIf (asB (eBin opIs (eVar 1) (eC .non))) (sRet (eBin opIs (eVar 0) (eC .non))) (sSkip)) (sSeq (sIf (tTru (eBlt (opIsi (.ty "str") (ansTy "str")) [eVar 1, eC (.ty "str")])) (sRet (eAnd (eBlt (opIsi (.ty "str") (ansTy "str")) [eVar 0, eC (.ty "str")]) (eBin opEq (eVar 0) (eVar 1)))) (sSkip)) (sRet (eAnd (eBlt (opIsi (.ty "int") (ansTy "int")) [eVar 0, eC (.ty "int")]) (eAnd (eBin opEq (eBlt (opIsi (.ty "bool") (ansTy "bool")) [eVar 0, eC (.ty "bool")]) (eBlt (opIsi (.ty "bool") (ansTy "bool")) [eVar 1, eC (.ty "bool")])) (eBin opEq (eVar 0) (eVar 1)))))))
noncomputable def f__law_same : Nat → F
  | 0 => fun _ _ => .bad
  | k + 1 => fnS 2 3 (b__law_same (f__law_same k))
noncomputable def b__law_saying : Sm := sRet (eCall (f__law_pick) [eVar 0, eBlt opLst [eC .non, eC .non, eC .non, eC .non, eC (.int 1), eC (.int 2), eC (.int 3), eC (.int 4), eC (.str (Str.ofString "all"))]])
noncomputable def f__law_saying : F := fnS 1 1 b__law_saying
noncomputable def b__law_spec : Sm := sSeq (sPar 2 3 (eBin opAdd (eC (.int 1)) (eCall (f__law_draw) [eVar 0, eBin opIx (eVar 1) (eC (.int 0))])) (eBin opAdd (eC (.int 1)) (eCall (f__law_draw) [eVar 0, eBin opIx (eVar 1) (eC (.int 1))]))) (sSeq (sAsg (.name 4) (eBlt opLst [])) (sSeq (sFor (iR1 (eVar 2)) (.name 5) (sSeq (sAsg (.name 6) (eBlt opLst [])) (sSeq (sFor (iR1 (eVar 3)) (.name 7) (sExpr (eMt "list" opAppend (eVar 6) [eBlt opTup [eCall (f__law_draw) [eVar 0, eVar 2], eCall (f__law_draw) [eVar 0, eVar 3], eCall (f__law_saying) [eVar 0]]]))) (sExpr (eMt "list" opAppend (eVar 4) [eBlt opTuple [eVar 6]]))))) (sSeq (sAsg (.name 8) (eCall (f__law_pick) [eVar 0, eBlt opLst [eC .non, eC .non, eCall (f__law_draw) [eVar 0, eVar 2]]])) (sRet (eBlt opLst [eBlt opTuple [eVar 4], eCall (f__law_draw) [eVar 0, eVar 2], eVar 8, eCall (f__law_pick) [eVar 0, eBlt opLst [eC .non, eCall (f__law_draw) [eVar 0, eVar 3], eCall (f__law_draw) [eVar 0, eVar 3]]]])))))
noncomputable def f__law_spec : F := fnS 2 9 b__law_spec
noncomputable def b__law_made : Sm := sRet (eMake 4 f_Program_init [eBin opIx (eVar 0) (eC (.int 0)), eBin opIx (eVar 0) (eC (.int 1)), eBin opIx (eVar 0) (eC (.int 2)), eBin opIx (eVar 0) (eC (.int 3))])
noncomputable def f__law_made : F := fnS 1 1 b__law_made
noncomputable def b__law_lines : Sm := sSeq (sAsg (.name 1) (eBlt opLst [])) (sSeq (sFor (iS (eBin opIx (eVar 0) (eC (.int 0)))) (.name 2) (sSeq (sAsg (.name 3) (eBlt opLst [eC (.str (Str.ofString "state"))])) (sSeq (sFor (iS (eVar 2)) (.name 4) (sAsg (.name 3) (eBin opAdd (eVar 3) (eBlt opLst [eBlt opStr [eBin opIx (eVar 4) (eC (.int 0))], eBlt opStr [eBin opIx (eVar 4) (eC (.int 1))], eIf (asB (eBin opIs (eBin opIx (eVar 4) (eC (.int 2))) (eC .non))) (eC (.str (Str.ofString "-"))) (eBlt opStr [eBin opIx (eVar 4) (eC (.int 2))])])))) (sExpr (eMt "list" opAppend (eVar 1) [eMt "str" opJoin (eC (.str (Str.ofString " "))) [eVar 3]]))))) (sSeq (sAsg (.name 1) (eBin opAdd (eVar 1) (eBlt opLst [eBin opAdd (eC (.str (Str.ofString "first "))) (eBlt opStr [eBin opIx (eVar 0) (eC (.int 1))]), eBin opAdd (eC (.str (Str.ofString "leader "))) (eIf (asB (eBin opIs (eBin opIx (eVar 0) (eC (.int 2))) (eC .non))) (eC (.str (Str.ofString "none"))) (eBlt opStr [eBin opIx (eVar 0) (eC (.int 2))]))]))) (sRet (eBin opAdd (eVar 1) (eBlt opLst [eBin opAdd (eC (.str (Str.ofString "lamp "))) (eIf (asB (eBin opIs (eBin opIx (eVar 0) (eC (.int 3))) (eC .non))) (eC (.str (Str.ofString "any"))) (eBlt opStr [eBin opIx (eVar 0) (eC (.int 3))])), eC (.str (Str.ofString "end"))])))))
noncomputable def f__law_lines : F := fnS 1 5 b__law_lines
noncomputable def b__law_text_of : Sm := sRet (eMt "str" opJoin (eC (.str (Str.ofString ""))) [eLc [1] (iS (eCall (f__law_lines) [eVar 0])) (.name 1) (tYes') (eBin opAdd (eVar 1) (eC (.str (Str.ofString "\n"))))])
noncomputable def f__law_text_of : F := fnS 1 2 b__law_text_of
noncomputable def b_Program_eq : Sm := sSeq (sIf (tOr' (tNot' (tTru (eBlt (opIsi (.glo 4) ans_Program) [eVar 1, eC (.glo 4)]))) (tOr' (asB (eBin opNe (eUn (opFld fld_steps "steps") (eVar 0)) (eUn (opFld fld_steps "steps") (eVar 1)))) (asB (eBin opNe (eUn (opFld fld_first "first") (eVar 0)) (eUn (opFld fld_first "first") (eVar 1)))))) (sRet (eC (.bl false))) (sSkip)) (sRet (eAnd (eBin opEq (eUn (opFld fld_leader "leader") (eVar 0)) (eUn (opFld fld_leader "leader") (eVar 1))) (eBin opEq (eUn (opFld fld_lamp "lamp") (eVar 0)) (eUn (opFld fld_lamp "lamp") (eVar 1)))))
noncomputable def f_Program_eq : F := fnS 2 2 b_Program_eq
noncomputable def b_law : Sm := sSeq (sAsg (.name 1) (eCall (f__law_pot) [eVar 0])) (sSeq (sFor (iR1 (eC (.int 6))) (.name 2) (sSeq (sAsg (.name 3) (eCall (f__law_spec) [eVar 1, eBlt opLst [eC (.int 5), eC (.int 4)]])) (sSeq (sPar 4 5 (eCall (f__law_made) [eVar 3]) (eCall (f__law_text_of) [eVar 3])) (sSeq (sAsg (.name 6) (eCall (f_read_program) [eVar 5])) (sSeq (sIf (tOr' (tNot' (tTru (eCall (f__law_same 9) [eCall (f_program_text) [eVar 4], eVar 5]))) (tOr' (asB (eEqX true 4 f_Program_eq ok_Program (eVar 6) (eVar 4))) (asB (eBin opNe (eCall (f_program_text) [eVar 6]) (eVar 5))))) (sRet (eC (.bl false))) (sSkip)) (sIf (tNot' (tTru (eCall (f__law_same 9) [eBlt opLst [eUn (opFld fld_steps "steps") (eVar 6), eUn (opFld fld_first "first") (eVar 6), eUn (opFld fld_leader "leader") (eVar 6), eUn (opFld fld_lamp "lamp") (eVar 6)], eVar 3]))) (sRet (eC (.bl false))) (sSkip))))))) (sRet (eC (.bl true))))
noncomputable def f_law : F := fnS 1 7 b_law
/-! ### what the top leaves -/
structure Tx (G : Gx) (mg : Str → Option Value) (w : World) where
  a_is_number : Addr
  d_is_number : FuncData
  F_is_number : Fun G.K "is_number" "is_number" (topS 7) a_is_number d_is_number
  B_is_number : Binds G.K d_is_number ["value"] []
  m_is_number : mg "is_number" = some (.ref a_is_number)
  a_is_within : Addr
  d_is_within : FuncData
  F_is_within : Fun G.K "is_within" "is_within" (topS 8) a_is_within d_is_within
  B_is_within : Binds G.K d_is_within ["value", "least", "most"] []
  m_is_within : mg "is_within" = some (.ref a_is_within)
  a_is_word : Addr
  d_is_word : FuncData
  F_is_word : Fun G.K "is_word" "is_word" (topS 9) a_is_word d_is_word
  B_is_word : Binds G.K d_is_word ["value"] []
  m_is_word : mg "is_word" = some (.ref a_is_word)
  a_is_step : Addr
  d_is_step : FuncData
  F_is_step : Fun G.K "is_step" "is_step" (topS 13) a_is_step d_is_step
  B_is_step : Binds G.K d_is_step ["value", "states", "colours"] []
  m_is_step : mg "is_step" = some (.ref a_is_step)
  a_are_steps : Addr
  d_are_steps : FuncData
  F_are_steps : Fun G.K "are_steps" "are_steps" (topS 14) a_are_steps d_are_steps
  B_are_steps : Binds G.K d_are_steps ["value"] []
  m_are_steps : mg "are_steps" = some (.ref a_are_steps)
  a_step_words : Addr
  d_step_words : FuncData
  F_step_words : Fun G.K "step_words" "step_words" (topS 21) a_step_words d_step_words
  B_step_words : Binds G.K d_step_words ["step"] []
  m_step_words : mg "step_words" = some (.ref a_step_words)
  a_program_text : Addr
  d_program_text : FuncData
  F_program_text : Fun G.K "program_text" "program_text" (topS 22) a_program_text d_program_text
  B_program_text : Binds G.K d_program_text ["program"] []
  m_program_text : mg "program_text" = some (.ref a_program_text)
  a_number_in : Addr
  d_number_in : FuncData
  F_number_in : Fun G.K "number_in" "number_in" (topS 23) a_number_in d_number_in
  B_number_in : Binds G.K d_number_in ["word"] []
  m_number_in : mg "number_in" = some (.ref a_number_in)
  a_is_saying_word : Addr
  d_is_saying_word : FuncData
  F_is_saying_word : Fun G.K "is_saying_word" "is_saying_word" (topS 24) a_is_saying_word d_is_saying_word
  B_is_saying_word : Binds G.K d_is_saying_word ["word"] []
  m_is_saying_word : mg "is_saying_word" = some (.ref a_is_saying_word)
  a_saying_in : Addr
  d_saying_in : FuncData
  F_saying_in : Fun G.K "saying_in" "saying_in" (topS 25) a_saying_in d_saying_in
  B_saying_in : Binds G.K d_saying_in ["word"] []
  m_saying_in : mg "saying_in" = some (.ref a_saying_in)
  a_LineReader_init : Addr
  d_LineReader_init : FuncData
  F_LineReader_init : Fun G.K "__init__" "LineReader.__init__" (inClass (topS 26) 0) a_LineReader_init d_LineReader_init
  B_LineReader_init : Binds G.K d_LineReader_init ["self"] []
  mk_LineReader : Mk G.K (G.tb 5) a_LineReader_init
  a_LineReader_takes_row : Addr
  d_LineReader_takes_row : FuncData
  F_LineReader_takes_row : Fun G.K "takes_row" "LineReader.takes_row" (inClass (topS 26) 2) a_LineReader_takes_row d_LineReader_takes_row
  B_LineReader_takes_row : Binds G.K d_LineReader_takes_row ["self", "words"] []
  me_LineReader_takes_row : Meth G.K (G.tb 5) "takes_row" a_LineReader_takes_row
  a_LineReader_takes : Addr
  d_LineReader_takes : FuncData
  F_LineReader_takes : Fun G.K "takes" "LineReader.takes" (inClass (topS 26) 1) a_LineReader_takes d_LineReader_takes
  B_LineReader_takes : Binds G.K d_LineReader_takes ["self", "words"] []
  me_LineReader_takes : Meth G.K (G.tb 5) "takes" a_LineReader_takes
  a_Program_init : Addr
  d_Program_init : FuncData
  F_Program_init : Fun G.K "__init__" "Program.__init__" (inClass (topS 15) 0) a_Program_init d_Program_init
  B_Program_init : Binds G.K d_Program_init ["self", "steps", "first", "leader", "lamp"] []
  mk_Program : Mk G.K (G.tb 4) a_Program_init
  a_read_program : Addr
  d_read_program : FuncData
  F_read_program : Fun G.K "read_program" "read_program" (topS 27) a_read_program d_read_program
  B_read_program : Binds G.K d_read_program ["text"] []
  m_read_program : mg "read_program" = some (.ref a_read_program)
  a__law_pot : Addr
  d__law_pot : FuncData
  F__law_pot : Fun G.K "_law_pot" "_law_pot" (topS 29) a__law_pot d__law_pot
  B__law_pot : Binds G.K d__law_pot ["script"] []
  m__law_pot : mg "_law_pot" = some (.ref a__law_pot)
  a__law_draw : Addr
  d__law_draw : FuncData
  F__law_draw : Fun G.K "_law_draw" "_law_draw" (topS 30) a__law_draw d__law_draw
  B__law_draw : Binds G.K d__law_draw ["pot", "many"] []
  m__law_draw : mg "_law_draw" = some (.ref a__law_draw)
  a__law_pick : Addr
  d__law_pick : FuncData
  F__law_pick : Fun G.K "_law_pick" "_law_pick" (topS 31) a__law_pick d__law_pick
  B__law_pick : Binds G.K d__law_pick ["pot", "row"] []
  m__law_pick : mg "_law_pick" = some (.ref a__law_pick)
  a__law_same : Addr
  d__law_same : FuncData
  F__law_same : Fun G.K "_law_same" "_law_same" (topS 32) a__law_same d__law_same
  B__law_same : Binds G.K d__law_same ["found", "due"] []
  m__law_same : mg "_law_same" = some (.ref a__law_same)
  a__law_saying : Addr
  d__law_saying : FuncData
  F__law_saying : Fun G.K "_law_saying" "_law_saying" (topS 33) a__law_saying d__law_saying
  B__law_saying : Binds G.K d__law_saying ["pot"] []
  m__law_saying : mg "_law_saying" = some (.ref a__law_saying)
  a__law_spec : Addr
  d__law_spec : FuncData
  F__law_spec : Fun G.K "_law_spec" "_law_spec" (topS 34) a__law_spec d__law_spec
  B__law_spec : Binds G.K d__law_spec ["pot", "most"] []
  m__law_spec : mg "_law_spec" = some (.ref a__law_spec)
  a__law_made : Addr
  d__law_made : FuncData
  F__law_made : Fun G.K "_law_made" "_law_made" (topS 35) a__law_made d__law_made
  B__law_made : Binds G.K d__law_made ["spec"] []
  m__law_made : mg "_law_made" = some (.ref a__law_made)
  a__law_lines : Addr
  d__law_lines : FuncData
  F__law_lines : Fun G.K "_law_lines" "_law_lines" (topS 36) a__law_lines d__law_lines
  B__law_lines : Binds G.K d__law_lines ["spec"] []
  m__law_lines : mg "_law_lines" = some (.ref a__law_lines)
  a__law_text_of : Addr
  d__law_text_of : FuncData
  F__law_text_of : Fun G.K "_law_text_of" "_law_text_of" (topS 37) a__law_text_of d__law_text_of
  B__law_text_of : Binds G.K d__law_text_of ["spec"] []
  m__law_text_of : mg "_law_text_of" = some (.ref a__law_text_of)
  a_Program_eq : Addr
  d_Program_eq : FuncData
  F_Program_eq : Fun G.K "__eq__" "Program.__eq__" (inClass (topS 15) 1) a_Program_eq d_Program_eq
  B_Program_eq : Binds G.K d_Program_eq ["self", "other"] []
  a_law : Addr
  d_law : FuncData
  F_law : Fun G.K "law" "law" (topS 38) a_law d_law
  B_law : Binds G.K d_law ["script"] []
  m_law : mg "law" = some (.ref a_law)
  m_Program : mg "Program" = some (.ref (G.tb 4))
  cls_Program : Cls G.K (G.tb 4)
  m_LineReader : mg "LineReader" = some (.ref (G.tb 5))
  cls_LineReader : Cls G.K (G.tb 5)
  na_first_Program : NoAttr G.K (G.tb 4) "first"
  na_lamp_Program : NoAttr G.K (G.tb 4) "lamp"
  na_last_LineReader : NoAttr G.K (G.tb 5) "last"
  na_leader_Program : NoAttr G.K (G.tb 4) "leader"
  na_read_rows_LineReader : NoAttr G.K (G.tb 5) "read_rows"
  na_steps_Program : NoAttr G.K (G.tb 4) "steps"
  z_abs : mg "abs" = none
  z_all : mg "all" = none
  z_bool : mg "bool" = none
  z_enumerate : mg "enumerate" = none
  z_int : mg "int" = none
  z_isinstance : mg "isinstance" = none
  z_len : mg "len" = none
  z_list : mg "list" = none
  z_range : mg "range" = none
  z_str : mg "str" = none
  z_tuple : mg "tuple" = none
  t_MOST_SAID : Tok
  k_MOST_SAID : mg "MOST_SAID" = some (.int 4 t_MOST_SAID)
  t_ALL : Tok
  k_ALL : mg "ALL" = some (.str (Str.ofString "all") t_ALL)
  t_MOST_STATES : Tok
  k_MOST_STATES : mg "MOST_STATES" = some (.int 5 t_MOST_STATES)
  t_MOST_COLOURS : Tok
  k_MOST_COLOURS : mg "MOST_COLOURS" = some (.int 4 t_MOST_COLOURS)
  t_DIGITS : Tok
  k_DIGITS : mg "DIGITS" = some (.str (Str.ofString "0123456789") t_DIGITS)
  t_MOST_DIGITS : Tok
  k_MOST_DIGITS : mg "MOST_DIGITS" = some (.int 6 t_MOST_DIGITS)
  k_HEADS : ∃ (a : Addr) (o : Obj) (its : Array Value) (n : Nat), mg "HEADS" = some (.ref a) ∧ G.K.lookup a = some o ∧ o.cls = .type "tuple" ∧ o.data = .seq its n ∧ its.size ≤ sizeLine ∧ Vals [.str (Str.ofString "first"), .str (Str.ofString "leader"), .str (Str.ofString "lamp"), .str (Str.ofString "end")] its.toList
  k_OPEN : ∃ (a : Addr) (es : Array DictEntry) (n : Nat), mg "OPEN" = some (.ref a) ∧ G.K.lookup a = some ⟨.type "dict", none, .dict es n, #[]⟩ ∧ PySem.W.KeysLit w.params es.toList ∧ (a == sysModules) = false
  kk_OPEN_first : ∀ a, mg "OPEN" = some (.ref a) → ∃ r, PySem.W.nsIn G.K a "first" = some r ∧ RelV (.non) (r.getD .none)
  kk_OPEN_leader : ∀ a, mg "OPEN" = some (.ref a) → ∃ r, PySem.W.nsIn G.K a "leader" = some r ∧ RelV (.str (Str.ofString "none")) (r.getD .none)
  kk_OPEN_lamp : ∀ a, mg "OPEN" = some (.ref a) → ∃ r, PySem.W.nsIn G.K a "lamp" = some r ∧ RelV (.str (Str.ofString "any")) (r.getD .none)
  eqf_Program : PySem.W.findIn G.K (.ref (G.tb 4)) "__eq__" = some (some (.ref a_Program_eq))
  eqn_Program : PySem.W.isFn G.K (.ref a_Program_eq) = true
  nef_Program : PySem.W.findIn G.K (.ref (G.tb 4)) "__ne__" = some (some (.builtin "object.__ne__"))
  mro_Program : PySem.W.mroIn G.K (G.tb 4) (.type "object") = some true
  ok_Program : ∀ k, ok_Program k = true → ∃ t, KdT G k t ∧ PySem.W.notFirst G.K (G.tb 4) t = true
  isi_Program : ∀ k b, ans_Program k = some b → ∃ u, KdT G k u ∧ PySem.W.kitOne G.K u ((TC.glo 4).val G) = some b
variable {G : Gx} {mg : Str → Option Value} {P : Program} {w : World} {base : Heap}
theorem Tx.fld_first (T : Tx G mg w) : ∀ c, fld_first c = true → Cls G.K (G.tb c) ∧ NoAttr G.K (G.tb c) "first" := fun c h => by
  simp only [K02.fld_first, Bool.or_eq_true, beq_iff_eq] at h
  subst h
  exact ⟨T.cls_Program, T.na_first_Program⟩
theorem Tx.fld_lamp (T : Tx G mg w) : ∀ c, fld_lamp c = true → Cls G.K (G.tb c) ∧ NoAttr G.K (G.tb c) "lamp" := fun c h => by
  simp only [K02.fld_lamp, Bool.or_eq_true, beq_iff_eq] at h
  subst h
  exact ⟨T.cls_Program, T.na_lamp_Program⟩
theorem Tx.fld_last (T : Tx G mg w) : ∀ c, fld_last c = true → Cls G.K (G.tb c) ∧ NoAttr G.K (G.tb c) "last" := fun c h => by
  simp only [K02.fld_last, Bool.or_eq_true, beq_iff_eq] at h
  subst h
  exact ⟨T.cls_LineReader, T.na_last_LineReader⟩
theorem Tx.fld_leader (T : Tx G mg w) : ∀ c, fld_leader c = true → Cls G.K (G.tb c) ∧ NoAttr G.K (G.tb c) "leader" := fun c h => by
  simp only [K02.fld_leader, Bool.or_eq_true, beq_iff_eq] at h
  subst h
  exact ⟨T.cls_Program, T.na_leader_Program⟩
theorem Tx.fld_read_rows (T : Tx G mg w) : ∀ c, fld_read_rows c = true → Cls G.K (G.tb c) ∧ NoAttr G.K (G.tb c) "read_rows" := fun c h => by
  simp only [K02.fld_read_rows, Bool.or_eq_true, beq_iff_eq] at h
  subst h
  exact ⟨T.cls_LineReader, T.na_read_rows_LineReader⟩
theorem Tx.fld_steps (T : Tx G mg w) : ∀ c, fld_steps c = true → Cls G.K (G.tb c) ∧ NoAttr G.K (G.tb c) "steps" := fun c h => by
  simp only [K02.fld_steps, Bool.or_eq_true, beq_iff_eq] at h
  subst h
  exact ⟨T.cls_Program, T.na_steps_Program⟩
theorem Tx.c_MOST_SAID_e (T : Tx G mg w) {W : WX} {X : Cx} {pos : Pos} (hg : Gl X "MOST_SAID") (hm : X.mg = mg := by rfl) : PE X (.Name "MOST_SAID" pos) (tE G W (eC c_MOST_SAID)) := e_glob hg (by rw [hm]; exact T.k_MOST_SAID) (v := .int 4) ⟨_, rfl⟩ fun _ _ => by simp only [RV]
theorem Tx.c_ALL_e (T : Tx G mg w) {W : WX} {X : Cx} {pos : Pos} (hg : Gl X "ALL") (hm : X.mg = mg := by rfl) : PE X (.Name "ALL" pos) (tE G W (eC c_ALL)) := e_glob hg (by rw [hm]; exact T.k_ALL) (v := .str (Str.ofString "all")) ⟨_, rfl⟩ fun _ _ => by simp only [RV]
theorem Tx.c_MOST_STATES_e (T : Tx G mg w) {W : WX} {X : Cx} {pos : Pos} (hg : Gl X "MOST_STATES") (hm : X.mg = mg := by rfl) : PE X (.Name "MOST_STATES" pos) (tE G W (eC c_MOST_STATES)) := e_glob hg (by rw [hm]; exact T.k_MOST_STATES) (v := .int 5) ⟨_, rfl⟩ fun _ _ => by simp only [RV]
theorem Tx.c_MOST_COLOURS_e (T : Tx G mg w) {W : WX} {X : Cx} {pos : Pos} (hg : Gl X "MOST_COLOURS") (hm : X.mg = mg := by rfl) : PE X (.Name "MOST_COLOURS" pos) (tE G W (eC c_MOST_COLOURS)) := e_glob hg (by rw [hm]; exact T.k_MOST_COLOURS) (v := .int 4) ⟨_, rfl⟩ fun _ _ => by simp only [RV]
theorem Tx.c_DIGITS_e (T : Tx G mg w) {W : WX} {X : Cx} {pos : Pos} (hg : Gl X "DIGITS") (hm : X.mg = mg := by rfl) : PE X (.Name "DIGITS" pos) (tE G W (eC c_DIGITS)) := e_glob hg (by rw [hm]; exact T.k_DIGITS) (v := .str (Str.ofString "0123456789")) ⟨_, rfl⟩ fun _ _ => by simp only [RV]
theorem Tx.c_MOST_DIGITS_e (T : Tx G mg w) {W : WX} {X : Cx} {pos : Pos} (hg : Gl X "MOST_DIGITS") (hm : X.mg = mg := by rfl) : PE X (.Name "MOST_DIGITS" pos) (tE G W (eC c_MOST_DIGITS)) := e_glob hg (by rw [hm]; exact T.k_MOST_DIGITS) (v := .int 6) ⟨_, rfl⟩ fun _ _ => by simp only [RV]
theorem Tx.c_HEADS_e (T : Tx G mg w) {W : WX} {X : Cx} {pos : Pos} (hg : Gl X "HEADS") (hm : X.mg = mg := by rfl) : PE X (.Name "HEADS" pos) (tE G W (eC c_HEADS)) := by
  obtain ⟨a, o, its, n, h1, h2, h3, h4, h5, h6⟩ := T.k_HEADS
  refine e_glob (v := .ref a) hg (by rw [hm]; exact h1) rfl fun ms H => ?_
  simp only [RV]
  exact ⟨a, _, rfl, .inr ⟨o, its, n, h2, h3, h4, h5, h6⟩, by simp [RVs, RV]⟩
theorem Tx.get_OPEN_e (T : Tx G mg w) {W : WX} {X : Cx} {p apos cpos : Pos} {e : Expr} {fe : E} (hg : Gl X "OPEN") (he : PE X e (tE G W fe)) (m : M1 X (.Name "OPEN" p) "get" apos e cpos := by exact ⟨rfl, rfl, rfl, rfl⟩) (hm : X.mg = mg := by rfl) (hK : X.K = G.K := by rfl) (hw : X.w = w := by rfl) : PE X (.Call (.Attribute (.Name "OPEN" p) "get" apos) [e] [] cpos) (tE G W (eUn opGet_OPEN fe)) := by
  obtain ⟨a, es, n, h1, h2, h3, h4⟩ := T.k_OPEN
  refine e_kget (a := a) hg (by rw [hm]; exact h1) (by rw [hK]; exact h2) (by rw [hw]; exact h3) h4 he m fun x st d h => ?_
  unfold opGet_OPEN at h
  cases x with
  | str k =>
    simp only at h
    split at h
    · rename_i hk
      subst hk
      obtain ⟨r, e1, e2⟩ := T.kk_OPEN_first a h1
      cases h
      exact ⟨_, rfl, r, by rw [hK]; exact e1, _, e2, fun _ _ => by simp only [RV], rfl⟩
    split at h
    · rename_i hk
      subst hk
      obtain ⟨r, e1, e2⟩ := T.kk_OPEN_leader a h1
      cases h
      exact ⟨_, rfl, r, by rw [hK]; exact e1, _, e2, fun _ _ => by simp only [RV], rfl⟩
    split at h
    · rename_i hk
      subst hk
      obtain ⟨r, e1, e2⟩ := T.kk_OPEN_lamp a h1
      cases h
      exact ⟨_, rfl, r, by rw [hK]; exact e1, _, e2, fun _ _ => by simp only [RV], rfl⟩
    cases h
  | _ => cases h
theorem ok_is_number (T : Tx G mg w) : FnOk P w G.K mg base (L2.CX P w) 1 T.a_is_number T.d_is_number ["value"] (spF G f_is_number) :=
  fn_ok (k := 0) T.F_is_number sc_is_number fun cdv A outer s H E hr =>
    have tk := takes_of (X := cxOf (L2.CX P w) P w G.K mg base N_is_number "is_number" (defScope (topS 7)) T.a_is_number cdv A outer s H E) rfl rfl rfl rfl
    (ss_one (s_ret (e_and rfl (e_blt (isi_ty rfl (.inl rfl)) (by rfl) T.z_isinstance (by decide +kernel) (a_cons (e_var (pv 0)) (a_cons (e_ty (by rfl) T.z_int (by decide +kernel)) a_nil))) (e_one (e_not rfl (e_blt (isi_ty rfl (.inr (.inl rfl))) (by rfl) T.z_isinstance (by decide +kernel) (a_cons (e_var (pv 0)) (a_cons (e_ty (by rfl) T.z_bool (by decide +kernel)) a_nil))))))))
theorem ok_is_within (T : Tx G mg w) : FnOk P w G.K mg base (L2.CX P w) 2 T.a_is_within T.d_is_within ["value", "least", "most"] (spF G f_is_within) :=
  fn_ok (k := 1) T.F_is_within sc_is_within fun cdv A outer s H E hr =>
    have tk := takes_of (X := cxOf (L2.CX P w) P w G.K mg base N_is_within "is_within" (defScope (topS 8)) T.a_is_within cdv A outer s H E) rfl rfl rfl rfl
    (ss_one (s_ret (e_and rfl (e_call (ok_is_number T) hr T.m_is_number T.F_is_number.kp T.B_is_number tk (a_cons (e_var (pv 0)) a_nil) ) (e_one (e_chain o_le o_le (e_var (pv 1)) (e_var (pv 0)) (e_var (pv 2)))))))
theorem ok_is_word (T : Tx G mg w) : FnOk P w G.K mg base (L2.CX P w) 3 T.a_is_word T.d_is_word ["value"] (spF G f_is_word) :=
  fn_ok (k := 2) T.F_is_word sc_is_word fun cdv A outer s H E hr =>
    have tk := takes_of (X := cxOf (L2.CX P w) P w G.K mg base N_is_word "is_word" (defScope (topS 9)) T.a_is_word cdv A outer s H E) rfl rfl rfl rfl
    (ss_one (s_ret (e_or rfl (e_call (ok_is_within T) hr T.m_is_within T.F_is_within.kp T.B_is_within tk (a_cons (e_var (pv 0)) (a_cons e_int (a_cons (T.c_MOST_SAID_e (by rfl)) a_nil))) ) (e_one (e_and rfl (e_blt (isi_ty rfl (.inr (.inr (.inl rfl)))) (by rfl) T.z_isinstance (by decide +kernel) (a_cons (e_var (pv 0)) (a_cons (e_ty (by rfl) T.z_str (by decide +kernel)) a_nil))) (e_one (e_cmp (o_eq rfl hr.units) (e_var (pv 0)) (T.c_ALL_e (by rfl)) (nomark _))))))))
theorem ok_is_step (T : Tx G mg w) : FnOk P w G.K mg base (L2.CX P w) 4 T.a_is_step T.d_is_step ["value", "states", "colours"] (spF G f_is_step) :=
  fn_ok (k := 3) T.F_is_step sc_is_step fun cdv A outer s H E hr =>
    have tk := takes_of (X := cxOf (L2.CX P w) P w G.K mg base N_is_step "is_step" (defScope (topS 13)) T.a_is_step cdv A outer s H E) rfl rfl rfl rfl
    (ss_cons (s_if (PW.pt (w_or (t_not (t_truth rfl (e_blt (isi_ty rfl (.inr (.inr (.inr (.inl rfl))))) (by rfl) T.z_isinstance (by decide +kernel) (a_cons (e_var (pv 0)) (a_cons (e_ty (by rfl) T.z_tuple (by decide +kernel)) a_nil))))) (w_one_or (t_cmp (o_ne rfl hr.units) (e_blt (c_len rfl) (by rfl) T.z_len (by decide +kernel) (a_cons (e_var (pv 0)) a_nil)) e_int (nomark _))))) (ss_one (s_ret e_bl)) ss_nil)
    (ss_cons (s_if (PW.pt (w_or (t_not (t_truth rfl (e_call (ok_is_within T) hr T.m_is_within T.F_is_within.kp T.B_is_within tk (a_cons (e_ix (o_ix rfl) (e_var (pv 0)) e_int) (a_cons e_int (a_cons (e_bin o_sub (e_var (pv 1)) e_int) a_nil))) ))) (w_one_or (t_not (t_truth rfl (e_call (ok_is_within T) hr T.m_is_within T.F_is_within.kp T.B_is_within tk (a_cons (e_ix (o_ix rfl) (e_var (pv 0)) e_int) (a_cons e_int (a_cons (e_bin o_sub (e_var (pv 2)) e_int) a_nil))) )))))) (ss_one (s_ret e_bl)) ss_nil)
    (ss_one (s_ret (e_or rfl (e_cmp o_is (e_ix (o_ix rfl) (e_var (pv 0)) e_int) e_non (nomark _)) (e_one (e_call (ok_is_word T) hr T.m_is_word T.F_is_word.kp T.B_is_word tk (a_cons (e_ix (o_ix rfl) (e_var (pv 0)) e_int) a_nil) )))))))
theorem ok_are_steps (T : Tx G mg w) : FnOk P w G.K mg base (L2.CX P w) 5 T.a_are_steps T.d_are_steps ["value"] (spF G f_are_steps) :=
  fn_ok (k := 4) T.F_are_steps sc_are_steps fun cdv A outer s H E hr =>
    have tk := takes_of (X := cxOf (L2.CX P w) P w G.K mg base N_are_steps "are_steps" (defScope (topS 14)) T.a_are_steps cdv A outer s H E) rfl rfl rfl rfl
    (ss_cons (s_if (PW.pt (w_or (t_not (t_truth rfl (e_blt (isi_ty rfl (.inr (.inr (.inr (.inl rfl))))) (by rfl) T.z_isinstance (by decide +kernel) (a_cons (e_var (pv 0)) (a_cons (e_ty (by rfl) T.z_tuple (by decide +kernel)) a_nil))))) (w_one_or (t_not (t_chain o_le o_le e_int (e_blt (c_len rfl) (by rfl) T.z_len (by decide +kernel) (a_cons (e_var (pv 0)) a_nil)) (T.c_MOST_STATES_e (by rfl))))))) (ss_one (s_ret e_bl)) ss_nil)
    (ss_cons (s_if (t_not (t_truth rfl (e_blt (c_all rfl) (by rfl) T.z_all (by decide +kernel) (a_cons (e_lc (own := [("row", 1)]) rfl sc_are_steps.nd (i_seq rfl (e_var (pv 0))) (blkOk_by (N := N_are_steps) (sc := defScope (topS 14)) (by decide +kernel)) (fun _ _ _ _ _ => (g_name sc_are_steps.nd)) (fun _ _ _ _ _ => ts_nil) (fun _ _ _ _ _ => (e_and rfl (e_blt (isi_ty rfl (.inr (.inr (.inr (.inl rfl))))) (by rfl) T.z_isinstance (by decide +kernel) (a_cons (e_var (pv 1)) (a_cons (e_ty (by rfl) T.z_tuple (by decide +kernel)) a_nil))) (e_one (e_chain o_le o_le e_int (e_blt (c_len rfl) (by rfl) T.z_len (by decide +kernel) (a_cons (e_var (pv 1)) a_nil)) (T.c_MOST_COLOURS_e (by rfl))))))) a_nil)))) (ss_one (s_ret e_bl)) ss_nil)
    (ss_cons (s_for rfl (passes_of rfl) (i_seq rfl (e_var (pv 0))) (g_name sc_are_steps.nd)
    (ss_one (s_if (PW.pt (w_or (t_cmp (o_ne rfl hr.units) (e_blt (c_len rfl) (by rfl) T.z_len (by decide +kernel) (a_cons (e_var (pv 1)) a_nil)) (e_blt (c_len rfl) (by rfl) T.z_len (by decide +kernel) (a_cons (e_ix (o_ix rfl) (e_var (pv 0)) e_int) a_nil)) (nomark _)) (w_one_or (t_not (t_truth rfl (e_blt (c_all rfl) (by rfl) T.z_all (by decide +kernel) (a_cons (e_lc (own := [("step", 2)]) rfl sc_are_steps.nd (i_seq rfl (e_var (pv 1))) (blkOk_by (N := N_are_steps) (sc := defScope (topS 14)) (by decide +kernel)) (fun _ _ _ _ _ => (g_name sc_are_steps.nd)) (fun _ _ _ _ _ => ts_nil) (fun _ _ _ _ _ => (e_call (ok_is_step T) hr T.m_is_step T.F_is_step.kp T.B_is_step takes0 (a_cons (e_var (pv 2)) (a_cons (e_blt (c_len rfl) (by rfl) T.z_len (by decide +kernel) (a_cons (e_var (pv 0)) a_nil)) (a_cons (e_blt (c_len rfl) (by rfl) T.z_len (by decide +kernel) (a_cons (e_var (pv 1)) a_nil)) a_nil))) ))) a_nil))))))) (ss_one (s_ret e_bl)) ss_nil)))
    (ss_one (s_ret e_bl)))))
theorem ok_step_words (T : Tx G mg w) : FnOk P w G.K mg base (L2.CX P w) 1 T.a_step_words T.d_step_words ["step"] (spF G f_step_words) :=
  fn_ok (k := 0) T.F_step_words sc_step_words fun cdv A outer s H E hr =>
    have tk := takes_of (X := cxOf (L2.CX P w) P w G.K mg base N_step_words "step_words" (defScope (topS 21)) T.a_step_words cdv A outer s H E) rfl rfl rfl rfl
    (ss_one (s_ret (e_lst (a_cons (e_bty c_str (by rfl) T.z_str (by decide +kernel) (a_cons (e_ix (o_ix rfl) (e_var (pv 0)) e_int) a_nil)) (a_cons (e_bty c_str (by rfl) T.z_str (by decide +kernel) (a_cons (e_ix (o_ix rfl) (e_var (pv 0)) e_int) a_nil)) (a_cons (e_if (t_cmp o_is (e_ix (o_ix rfl) (e_var (pv 0)) e_int) e_non (nomark _)) e_str (e_bty c_str (by rfl) T.z_str (by decide +kernel) (a_cons (e_ix (o_ix rfl) (e_var (pv 0)) e_int) a_nil))) a_nil))))))
theorem ok_program_text (T : Tx G mg w) : FnOk P w G.K mg base (L2.CX P w) 2 T.a_program_text T.d_program_text ["program"] (spF G f_program_text) :=
  fn_ok (k := 1) T.F_program_text sc_program_text fun cdv A outer s H E hr =>
    have tk := takes_of (X := cxOf (L2.CX P w) P w G.K mg base N_program_text "program_text" (defScope (topS 22)) T.a_program_text cdv A outer s H E) rfl rfl rfl rfl
    (ss_cons (s_set sc_program_text.nd (e_lst a_nil))
    (ss_cons (s_for rfl (passes_of rfl) (i_seq rfl (e_fld rfl T.fld_steps rfl (e_var (pv 0)))) (g_name sc_program_text.nd)
    (ss_cons (s_set sc_program_text.nd (e_lst (a_cons e_str a_nil)))
    (ss_cons (s_for rfl (passes_of rfl) (i_seq rfl (e_var (pv 2))) (g_name sc_program_text.nd)
    (ss_one (s_expr (e_mt rfl PySem.F.plainAttrs_list PySem.F.slot_list_extend PySem.F.type_list_extend m_extend (e_var (pv 3)) (a_cons (e_call (ok_step_words T) hr T.m_step_words T.F_step_words.kp T.B_step_words tk (a_cons (e_var (pv 4)) a_nil) ) a_nil)))))
    (ss_one (s_expr (e_mt rfl PySem.F.plainAttrs_list PySem.F.slot_list_append PySem.F.type_list_append m_append (e_var (pv 1)) (a_cons (e_mt rfl PySem.F.plainAttrs_str PySem.F.slot_str_join PySem.F.type_str_join (m_join rfl) e_str (a_cons (e_var (pv 3)) a_nil)) a_nil)))))))
    (ss_cons (s_set sc_program_text.nd (e_if (t_cmp o_is (e_fld rfl T.fld_leader rfl (e_var (pv 0))) e_non (nomark _)) e_str (e_bty c_str (by rfl) T.z_str (by decide +kernel) (a_cons (e_fld rfl T.fld_leader rfl (e_var (pv 0))) a_nil))))
    (ss_cons (s_set sc_program_text.nd (e_if (t_cmp o_is (e_fld rfl T.fld_lamp rfl (e_var (pv 0))) e_non (nomark _)) e_str (e_bty c_str (by rfl) T.z_str (by decide +kernel) (a_cons (e_fld rfl T.fld_lamp rfl (e_var (pv 0))) a_nil))))
    (ss_cons (s_set sc_program_text.nd (e_bin (o_add rfl) (e_var (pv 1)) (e_lst (a_cons (e_joined (.cons e_str (.cons (e_fmt (e_fld rfl T.fld_first rfl (e_var (pv 0)))) .nil))) (a_cons (e_joined (.cons e_str (.cons (e_fmt (e_var (pv 5))) .nil))) (a_cons (e_joined (.cons e_str (.cons (e_fmt (e_var (pv 6))) .nil))) (a_cons e_str a_nil)))))))
    (ss_one (s_ret (e_mt rfl PySem.F.plainAttrs_str PySem.F.slot_str_join PySem.F.type_str_join (m_join rfl) e_str (a_cons (e_lc (own := [("line", 7)]) rfl sc_program_text.nd (i_seq rfl (e_var (pv 1))) (blkOk_by (N := N_program_text) (sc := defScope (topS 22)) (by decide +kernel)) (fun _ _ _ _ _ => (g_name sc_program_text.nd)) (fun _ _ _ _ _ => ts_nil) (fun _ _ _ _ _ => (e_bin (o_add rfl) (e_var (pv 7)) e_str))) a_nil)))))))))
theorem ok_number_in (T : Tx G mg w) : FnOk P w G.K mg base (L2.CX P w) 1 T.a_number_in T.d_number_in ["word"] (spF G f_number_in) :=
  fn_ok (k := 0) T.F_number_in sc_number_in fun cdv A outer s H E hr =>
    have tk := takes_of (X := cxOf (L2.CX P w) P w G.K mg base N_number_in "number_in" (defScope (topS 23)) T.a_number_in cdv A outer s H E) rfl rfl rfl rfl
    (ss_cons (s_if (PW.pt (w_or (t_not (t_chain o_le o_le e_int (e_blt (c_len rfl) (by rfl) T.z_len (by decide +kernel) (a_cons (e_var (pv 0)) a_nil)) (T.c_MOST_DIGITS_e (by rfl)))) (w_one_or (t_cmp (o_ne rfl hr.units) (e_mt rfl PySem.F.plainAttrs_str PySem.F.slot_str_strip PySem.F.type_str_strip m_strip (e_var (pv 0)) (a_cons (T.c_DIGITS_e (by rfl)) a_nil)) e_str (nomark _))))) (ss_one (s_ret e_non)) ss_nil)
    (ss_one (s_ret (e_if (PW.pt (w_and (t_cmp (o_eq rfl hr.units) (e_ix (o_ix rfl) (e_var (pv 0)) e_int) e_str (nomark _)) (w_one_and (t_cmp (o_ne rfl hr.units) (e_var (pv 0)) e_str (nomark _))))) e_non (e_bty c_int (by rfl) T.z_int (by decide +kernel) (a_cons (e_var (pv 0)) a_nil))))))
theorem ok_is_saying_word (T : Tx G mg w) : FnOk P w G.K mg base (L2.CX P w) 2 T.a_is_saying_word T.d_is_saying_word ["word"] (spF G f_is_saying_word) :=
  fn_ok (k := 1) T.F_is_saying_word sc_is_saying_word fun cdv A outer s H E hr =>
    have tk := takes_of (X := cxOf (L2.CX P w) P w G.K mg base N_is_saying_word "is_saying_word" (defScope (topS 24)) T.a_is_saying_word cdv A outer s H E) rfl rfl rfl rfl
    (ss_one (s_ret (e_or rfl (e_cmp (o_in rfl) (e_var (pv 0)) (e_tup (a_cons e_str (a_cons e_str a_nil))) (by rfl)) (e_one (e_cmp o_isnot (e_call (ok_number_in T) hr T.m_number_in T.F_number_in.kp T.B_number_in tk (a_cons (e_var (pv 0)) a_nil) ) e_non (nomark _))))))
theorem ok_saying_in (T : Tx G mg w) : FnOk P w G.K mg base (L2.CX P w) 2 T.a_saying_in T.d_saying_in ["word"] (spF G f_saying_in) :=
  fn_ok (k := 1) T.F_saying_in sc_saying_in fun cdv A outer s H E hr =>
    have tk := takes_of (X := cxOf (L2.CX P w) P w G.K mg base N_saying_in "saying_in" (defScope (topS 25)) T.a_saying_in cdv A outer s H E) rfl rfl rfl rfl
    (ss_cons (s_if (t_cmp (o_eq rfl hr.units) (e_var (pv 0)) e_str (nomark _)) (ss_one (s_ret e_non)) ss_nil)
    (ss_one (s_ret (e_if (t_cmp (o_eq rfl hr.units) (e_var (pv 0)) e_str (nomark _)) (e_var (pv 0)) (e_call (ok_number_in T) hr T.m_number_in T.F_number_in.kp T.B_number_in tk (a_cons (e_var (pv 0)) a_nil) )))))
theorem ok_LineReader_init (T : Tx G mg w) : FnOk P w G.K mg base (L2.CX P w) 1 T.a_LineReader_init T.d_LineReader_init ["self"] (spF G f_LineReader_init) :=
  fn_ok (k := 0) T.F_LineReader_init sc_LineReader_init fun cdv A outer s H E hr =>
    have tk := takes_of (X := cxOf (L2.CX P w) P w G.K mg base N_LineReader_init "LineReader.__init__" (defScope (inClass (topS 26) 0)) T.a_LineReader_init cdv A outer s H E) rfl rfl rfl rfl
    (ss_cons (s_setF rfl T.fld_read_rows rfl (e_lst a_nil) (e_var (pv 0)))
    (ss_one (s_setF rfl T.fld_last rfl (e_lst a_nil) (e_var (pv 0)))))
theorem ok_LineReader_takes_row (T : Tx G mg w) : FnOk P w G.K mg base (L2.CX P w) 3 T.a_LineReader_takes_row T.d_LineReader_takes_row ["self", "words"] (spF G f_LineReader_takes_row) :=
  fn_ok (k := 2) T.F_LineReader_takes_row sc_LineReader_takes_row fun cdv A outer s H E hr =>
    have tk := takes_of (X := cxOf (L2.CX P w) P w G.K mg base N_LineReader_takes_row "LineReader.takes_row" (defScope (inClass (topS 26) 2)) T.a_LineReader_takes_row cdv A outer s H E) rfl rfl rfl rfl
    (ss_cons (s_if (t_cmp (o_ne rfl hr.units) (e_bin o_mod (e_blt (c_len rfl) (by rfl) T.z_len (by decide +kernel) (a_cons (e_var (pv 1)) a_nil)) e_int) e_int (nomark _)) (ss_one (s_ret e_bl)) ss_nil)
    (ss_cons (s_set sc_LineReader_takes_row.nd (e_lst a_nil))
    (ss_cons (s_for rfl (passes_of rfl) (i_range3 T.z_range (a_cons e_int (a_cons (e_blt (c_len rfl) (by rfl) T.z_len (by decide +kernel) (a_cons (e_var (pv 1)) a_nil)) (a_cons e_int a_nil)))) (g_name sc_LineReader_takes_row.nd)
    (ss_cons (s_asg (e_sl rfl (e_var (pv 1)) (p_some (e_var (pv 3))) (p_some (e_bin (o_add rfl) (e_var (pv 3)) e_int))) (g_tup rfl rfl (gs_cons (g_name sc_LineReader_takes_row.nd) (gs_cons (g_name sc_LineReader_takes_row.nd) (gs_cons (g_name sc_LineReader_takes_row.nd) gs_nil)))))
    (ss_cons (s_if (PW.pt (w_or (t_cmp o_is (e_call (ok_number_in T) hr T.m_number_in T.F_number_in.kp T.B_number_in tk (a_cons (e_var (pv 4)) a_nil) ) e_non (nomark _)) (w_or (t_cmp o_is (e_call (ok_number_in T) hr T.m_number_in T.F_number_in.kp T.B_number_in tk (a_cons (e_var (pv 5)) a_nil) ) e_non (nomark _)) (w_one_or (t_not (t_truth rfl (e_call (ok_is_saying_word T) hr T.m_is_saying_word T.F_is_saying_word.kp T.B_is_saying_word tk (a_cons (e_var (pv 6)) a_nil) ))))))) (ss_one (s_ret e_bl)) ss_nil)
    (ss_one (s_expr (e_mt rfl PySem.F.plainAttrs_list PySem.F.slot_list_append PySem.F.type_list_append m_append (e_var (pv 2)) (a_cons (e_tup (a_cons (e_call (ok_number_in T) hr T.m_number_in T.F_number_in.kp T.B_number_in tk (a_cons (e_var (pv 4)) a_nil) ) (a_cons (e_call (ok_number_in T) hr T.m_number_in T.F_number_in.kp T.B_number_in tk (a_cons (e_var (pv 5)) a_nil) ) (a_cons (e_call (ok_saying_in T) hr T.m_saying_in T.F_saying_in.kp T.B_saying_in tk (a_cons (e_var (pv 6)) a_nil) ) a_nil)))) a_nil)))))))
    (ss_cons (s_expr (e_mt rfl PySem.F.plainAttrs_list PySem.F.slot_list_append PySem.F.type_list_append m_append (e_fld rfl T.fld_read_rows rfl (e_var (pv 0))) (a_cons (e_bty (c_tuple rfl) (by rfl) T.z_tuple (by decide +kernel) (a_cons (e_var (pv 2)) a_nil)) a_nil)))
    (ss_one (s_ret e_bl))))))
theorem ok_LineReader_takes (T : Tx G mg w) : FnOk P w G.K mg base (L2.CX P w) 4 T.a_LineReader_takes T.d_LineReader_takes ["self", "words"] (spF G f_LineReader_takes) :=
  fn_ok (k := 3) T.F_LineReader_takes sc_LineReader_takes fun cdv A outer s H E hr =>
    have tk := takes_of (X := cxOf (L2.CX P w) P w G.K mg base N_LineReader_takes "LineReader.takes" (defScope (inClass (topS 26) 1)) T.a_LineReader_takes cdv A outer s H E) rfl rfl rfl rfl
    (ss_cons (s_if (PW.pt (w_and (t_cmp (o_eq rfl hr.units) (e_ix (o_ix rfl) (e_var (pv 1)) e_int) e_str (nomark _)) (w_one_and (t_cmp (o_eq rfl hr.units) (e_blt (c_len rfl) (by rfl) T.z_len (by decide +kernel) (a_cons (e_fld rfl T.fld_last rfl (e_var (pv 0))) a_nil)) e_int (nomark _))))) (ss_one (s_ret (e_meth rfl (e_var (pv 0)) T.cls_LineReader T.me_LineReader_takes_row (ok_LineReader_takes_row T) hr T.B_LineReader_takes_row tk (a_cons (e_sl rfl (e_var (pv 1)) (p_some e_int) p_none) a_nil) ))) ss_nil)
    (ss_cons (s_if (PW.pt (w_or (t_cmp (o_eq rfl hr.units) (e_blt (c_len rfl) (by rfl) T.z_len (by decide +kernel) (a_cons (e_fld rfl T.fld_read_rows rfl (e_var (pv 0))) a_nil)) e_int (nomark _)) (w_or (t_cmp (o_eq rfl hr.units) (e_blt (c_len rfl) (by rfl) T.z_len (by decide +kernel) (a_cons (e_fld rfl T.fld_last rfl (e_var (pv 0))) a_nil)) (e_blt (c_len rfl) (by rfl) T.z_len (by decide +kernel) (a_cons (T.c_HEADS_e (by rfl)) a_nil)) (nomark _)) (w_one_or (t_cmp (o_ne rfl hr.units) (e_ix (o_ix rfl) (e_var (pv 1)) e_int) (e_ix (o_ix rfl) (T.c_HEADS_e (by rfl)) (e_blt (c_len rfl) (by rfl) T.z_len (by decide +kernel) (a_cons (e_fld rfl T.fld_last rfl (e_var (pv 0))) a_nil))) (nomark _)))))) (ss_one (s_ret e_bl)) ss_nil)
    (ss_cons (s_if (t_cmp (o_eq rfl hr.units) (e_ix (o_ix rfl) (e_var (pv 1)) e_int) e_str (nomark _)) (ss_cons (s_expr (e_mt rfl PySem.F.plainAttrs_list PySem.F.slot_list_append PySem.F.type_list_append m_append (e_fld rfl T.fld_last rfl (e_var (pv 0))) (a_cons e_non a_nil)))
    (ss_one (s_ret (e_cmp (o_eq rfl hr.units) (e_blt (c_len rfl) (by rfl) T.z_len (by decide +kernel) (a_cons (e_var (pv 1)) a_nil)) e_int (nomark _))))) ss_nil)
    (ss_cons (s_if (t_cmp (o_ne rfl hr.units) (e_blt (c_len rfl) (by rfl) T.z_len (by decide +kernel) (a_cons (e_var (pv 1)) a_nil)) e_int (nomark _)) (ss_one (s_ret e_bl)) ss_nil)
    (ss_cons (s_set sc_LineReader_takes.nd (e_cmp (o_eq rfl hr.units) (e_ix (o_ix rfl) (e_var (pv 1)) e_int) (T.get_OPEN_e (by rfl) (e_ix (o_ix rfl) (e_var (pv 1)) e_int)) (nomark _)))
    (ss_cons (s_expr (e_mt rfl PySem.F.plainAttrs_list PySem.F.slot_list_append PySem.F.type_list_append m_append (e_fld rfl T.fld_last rfl (e_var (pv 0))) (a_cons (e_if (t_truth rfl (e_var (pv 2))) e_non (e_call (ok_number_in T) hr T.m_number_in T.F_number_in.kp T.B_number_in tk (a_cons (e_ix (o_ix rfl) (e_var (pv 1)) e_int) a_nil) )) a_nil)))
    (ss_one (s_ret (e_or rfl (e_var (pv 2)) (e_one (e_cmp o_isnot (e_ix (o_ix rfl) (e_fld rfl T.fld_last rfl (e_var (pv 0))) (e_un o_neg e_int)) e_non (nomark _))))))))))))
theorem ok_Program_init (T : Tx G mg w) : FnOk P w G.K mg base (L2.CX P w) 6 T.a_Program_init T.d_Program_init ["self", "steps", "first", "leader", "lamp"] (spF G f_Program_init) :=
  fn_ok (k := 5) T.F_Program_init sc_Program_init fun cdv A outer s H E hr =>
    have tk := takes_of (X := cxOf (L2.CX P w) P w G.K mg base N_Program_init "Program.__init__" (defScope (inClass (topS 15) 0)) T.a_Program_init cdv A outer s H E) rfl rfl rfl rfl
    (ss_cons (s_if (t_not (t_truth rfl (e_call (ok_are_steps T) hr T.m_are_steps T.F_are_steps.kp T.B_are_steps tk (a_cons (e_var (pv 1)) a_nil) ))) (ss_one s_never) ss_nil)
    (ss_cons (s_if (t_not (t_truth rfl (e_call (ok_is_within T) hr T.m_is_within T.F_is_within.kp T.B_is_within tk (a_cons (e_var (pv 2)) (a_cons e_int (a_cons (e_bin o_sub (e_blt (c_len rfl) (by rfl) T.z_len (by decide +kernel) (a_cons (e_var (pv 1)) a_nil)) e_int) a_nil))) ))) (ss_one s_never) ss_nil)
    (ss_cons (s_if (PW.pt (w_and (t_cmp o_isnot (e_var (pv 3)) e_non (nomark _)) (w_one_and (t_not (t_truth rfl (e_call (ok_is_within T) hr T.m_is_within T.F_is_within.kp T.B_is_within tk (a_cons (e_var (pv 3)) (a_cons e_int (a_cons (e_bin o_sub (e_blt (c_len rfl) (by rfl) T.z_len (by decide +kernel) (a_cons (e_var (pv 1)) a_nil)) e_int) a_nil))) )))))) (ss_one s_never) ss_nil)
    (ss_cons (s_if (PW.pt (w_and (t_cmp o_isnot (e_var (pv 4)) e_non (nomark _)) (w_one_and (t_not (t_truth rfl (e_call (ok_is_within T) hr T.m_is_within T.F_is_within.kp T.B_is_within tk (a_cons (e_var (pv 4)) (a_cons e_int (a_cons (e_bin o_sub (e_blt (c_len rfl) (by rfl) T.z_len (by decide +kernel) (a_cons (e_ix (o_ix rfl) (e_var (pv 1)) e_int) a_nil)) e_int) a_nil))) )))))) (ss_one s_never) ss_nil)
    (ss_cons (s_setF rfl T.fld_steps rfl (e_var (pv 1)) (e_var (pv 0)))
    (ss_cons (s_setF rfl T.fld_first rfl (e_var (pv 2)) (e_var (pv 0)))
    (ss_cons (s_setF rfl T.fld_leader rfl (e_var (pv 3)) (e_var (pv 0)))
    (ss_one (s_setF rfl T.fld_lamp rfl (e_var (pv 4)) (e_var (pv 0)))))))))))
theorem ok_read_program (T : Tx G mg w) : FnOk P w G.K mg base (L2.CX P w) 8 T.a_read_program T.d_read_program ["text"] (spF G f_read_program) :=
  fn_ok (k := 7) T.F_read_program sc_read_program fun cdv A outer s H E hr =>
    have tk := takes_of (X := cxOf (L2.CX P w) P w G.K mg base N_read_program "read_program" (defScope (topS 27)) T.a_read_program cdv A outer s H E) rfl rfl rfl rfl
    (ss_cons (s_if (t_not (t_truth rfl (e_blt (isi_ty rfl (.inr (.inr (.inl rfl)))) (by rfl) T.z_isinstance (by decide +kernel) (a_cons (e_var (pv 0)) (a_cons (e_ty (by rfl) T.z_str (by decide +kernel)) a_nil))))) (ss_one s_never) ss_nil)
    (ss_cons (s_set sc_read_program.nd (e_mt rfl PySem.F.plainAttrs_str PySem.F.slot_str_split PySem.F.type_str_split m_split (e_var (pv 0)) (a_cons e_str a_nil)))
    (ss_cons (s_set sc_read_program.nd (e_make0 T.mk_LineReader (ok_LineReader_init T) hr T.m_LineReader T.B_LineReader_init tk ))
    (ss_cons (s_for rfl (passes_of rfl) (i_enum rfl T.z_enumerate (a_cons (e_var (pv 1)) a_nil)) (g_tup rfl rfl (gs_cons (g_name sc_read_program.nd) (gs_cons (g_name sc_read_program.nd) gs_nil)))
    (ss_cons (s_set sc_read_program.nd (e_mt rfl PySem.F.plainAttrs_str PySem.F.slot_str_split PySem.F.type_str_split m_split (e_var (pv 4)) (a_cons e_str a_nil)))
    (ss_one (s_if (t_cmp (o_eq rfl hr.units) (e_var (pv 3)) (e_bin o_sub (e_blt (c_len rfl) (by rfl) T.z_len (by decide +kernel) (a_cons (e_var (pv 1)) a_nil)) e_int) (nomark _)) (ss_one (s_if (t_cmp (o_ne rfl hr.units) (e_var (pv 4)) e_str (nomark _)) (ss_one s_never) ss_nil)) (ss_one (s_if (t_cmp (o_in rfl) e_str (e_var (pv 5)) (by rfl)) (ss_one s_never) (ss_one (s_if (t_not (t_truth rfl (e_meth rfl (e_var (pv 2)) T.cls_LineReader T.me_LineReader_takes (ok_LineReader_takes T) hr T.B_LineReader_takes tk (a_cons (e_var (pv 5)) a_nil) ))) (ss_one s_never) ss_nil))))))))
    (ss_cons (s_if (t_cmp o_lt (e_blt (c_len rfl) (by rfl) T.z_len (by decide +kernel) (a_cons (e_fld rfl T.fld_last rfl (e_var (pv 2))) a_nil)) (e_blt (c_len rfl) (by rfl) T.z_len (by decide +kernel) (a_cons (T.c_HEADS_e (by rfl)) a_nil)) (nomark _)) (ss_one s_never) ss_nil)
    (ss_cons (s_asg (e_sl rfl (e_fld rfl T.fld_last rfl (e_var (pv 2))) p_none (p_some e_int)) (g_tup rfl rfl (gs_cons (g_name sc_read_program.nd) (gs_cons (g_name sc_read_program.nd) (gs_cons (g_name sc_read_program.nd) gs_nil)))))
    (ss_one (s_ret (e_make T.mk_Program (ok_Program_init T) hr T.m_Program T.B_Program_init tk (a_cons (e_bty (c_tuple rfl) (by rfl) T.z_tuple (by decide +kernel) (a_cons (e_fld rfl T.fld_read_rows rfl (e_var (pv 2))) a_nil)) (a_cons (e_var (pv 6)) (a_cons (e_var (pv 7)) (a_cons (e_var (pv 8)) a_nil)))) )))))))))
theorem ok__law_pot (T : Tx G mg w) : FnOk P w G.K mg base (L2.CX P w) 1 T.a__law_pot T.d__law_pot ["script"] (spF G f__law_pot) :=
  fn_ok (k := 0) T.F__law_pot sc__law_pot fun cdv A outer s H E hr =>
    have tk := takes_of (X := cxOf (L2.CX P w) P w G.K mg base N__law_pot "_law_pot" (defScope (topS 29)) T.a__law_pot cdv A outer s H E) rfl rfl rfl rfl
    (ss_one (s_ret (e_lst (a_cons (e_lc (own := [("cell", 1)]) rfl sc__law_pot.nd (i_seq rfl (e_sl rfl (e_var (pv 0)) p_none (p_some e_int))) (blkOk_by (N := N__law_pot) (sc := defScope (topS 29)) (by decide +kernel)) (fun _ _ _ _ _ => (g_name sc__law_pot.nd)) (fun _ _ _ _ _ => ts_nil) (fun _ _ _ _ _ => (e_blt c_abs (by rfl) T.z_abs (by decide +kernel) (a_cons (e_var (pv 1)) a_nil)))) (a_cons e_int (a_cons e_int (a_cons e_int a_nil)))))))
theorem ok__law_draw (T : Tx G mg w) : FnOk P w G.K mg base (L2.CX P w) 1 T.a__law_draw T.d__law_draw ["pot", "many"] (spF G f__law_draw) :=
  fn_ok (k := 0) T.F__law_draw sc__law_draw fun cdv A outer s H E hr =>
    have tk := takes_of (X := cxOf (L2.CX P w) P w G.K mg base N__law_draw "_law_draw" (defScope (topS 30)) T.a__law_draw cdv A outer s H E) rfl rfl rfl rfl
    (ss_cons (s_if (t_cmp o_lt (e_var (pv 1)) e_int (nomark _)) (ss_one (s_ret e_int)) ss_nil)
    (ss_cons (s_if (t_cmp o_gt (e_ix (o_ix rfl) (e_var (pv 0)) e_int) e_int (nomark _)) (ss_cons (s_set sc__law_draw.nd (e_bin o_mod (e_bty c_int (by rfl) T.z_int (by decide +kernel) (a_cons (e_ix (o_ix rfl) (e_var (pv 0)) e_int) a_nil)) (e_var (pv 1))))
    (ss_cons (s_setIx (e_bin o_div (e_ix (o_ix rfl) (e_var (pv 0)) e_int) (e_var (pv 1))) (e_var (pv 0)) e_int)
    (ss_one (s_ret (e_var (pv 2)))))) ss_nil)
    (ss_cons (s_set sc__law_draw.nd e_int)
    (ss_cons (s_if (t_cmp o_lt (e_ix (o_ix rfl) (e_var (pv 0)) e_int) (e_blt (c_len rfl) (by rfl) T.z_len (by decide +kernel) (a_cons (e_ix (o_ix rfl) (e_var (pv 0)) e_int) a_nil)) (nomark _)) (ss_cons (s_set sc__law_draw.nd (e_ix (o_ix rfl) (e_ix (o_ix rfl) (e_var (pv 0)) e_int) (e_ix (o_ix rfl) (e_var (pv 0)) e_int)))
    (ss_cons (s_setIx (e_bin (o_add rfl) (e_ix (o_ix rfl) (e_var (pv 0)) e_int) e_int) (e_var (pv 0)) e_int)
    (ss_one (s_if (t_cmp o_ge (e_var (pv 3)) (e_bin o_pow e_int e_int) (nomark _)) (ss_cons (s_setIx (e_bin o_div (e_var (pv 3)) (e_var (pv 1))) (e_var (pv 0)) e_int)
    (ss_one (s_ret (e_bin o_mod (e_bty c_int (by rfl) T.z_int (by decide +kernel) (a_cons (e_var (pv 3)) a_nil)) (e_var (pv 1)))))) ss_nil)))) ss_nil)
    (ss_cons (s_setIx (e_bin o_mod (e_bty c_int (by rfl) T.z_int (by decide +kernel) (a_cons (e_bin (o_add rfl) (e_bin (o_add rfl) (e_bin o_mul (e_ix (o_ix rfl) (e_var (pv 0)) e_int) e_int) (e_var (pv 3))) e_int) a_nil)) e_int) (e_var (pv 0)) e_int)
    (ss_one (s_ret (e_bin o_mod (e_bty c_int (by rfl) T.z_int (by decide +kernel) (a_cons (e_bin (o_add rfl) (e_bin o_div (e_bin o_mul (e_ix (o_ix rfl) (e_var (pv 0)) e_int) (e_ix (o_ix rfl) (e_var (pv 0)) e_int)) e_int) (e_bin o_div (e_ix (o_ix rfl) (e_var (pv 0)) e_int) e_int)) a_nil)) (e_var (pv 1))))))))))
theorem ok__law_pick (T : Tx G mg w) : FnOk P w G.K mg base (L2.CX P w) 2 T.a__law_pick T.d__law_pick ["pot", "row"] (spF G f__law_pick) :=
  fn_ok (k := 1) T.F__law_pick sc__law_pick fun cdv A outer s H E hr =>
    have tk := takes_of (X := cxOf (L2.CX P w) P w G.K mg base N__law_pick "_law_pick" (defScope (topS 31)) T.a__law_pick cdv A outer s H E) rfl rfl rfl rfl
    (ss_one (s_ret (e_ix (o_ix rfl) (e_var (pv 1)) (e_call (ok__law_draw T) hr T.m__law_draw T.F__law_draw.kp T.B__law_draw tk (a_cons (e_var (pv 0)) (a_cons (e_blt (c_len rfl) (by rfl) T.z_len (by decide +kernel) (a_cons (e_var (pv 1)) a_nil)) a_nil)) ))))
theorem ok__law_same (T : Tx G mg w) : ∀ n, FnOk P w G.K mg base (L2.CX P w) (1 + n) T.a__law_same T.d__law_same ["found", "due"] (spF G (f__law_same n)) := by
  intro n
  induction n with
  | zero => exact ⟨fun _ _ _ _ ⟨_, _, _, _, _, q⟩ => q.elim, fun _ _ _ _ _ _ _ _ _ _ _ _ _ ⟨_, _, _, _, _, q⟩ => q.elim⟩
  | succ n ih =>
    have hrec : 1 + n ≤ 1 + n := Nat.le_refl _
    refine fn_ok (k := 1 + n) T.F__law_same sc__law_same fun cdv A outer s H E hr => ?_
    have tk := takes_of (X := cxOf (L2.CX P w) P w G.K mg base N__law_same "_law_same" (defScope (topS 32)) T.a__law_same cdv A outer s H E) rfl rfl rfl rfl
    exact
    (ss_cons (s_if (PW.pt (w_or (t_truth rfl (e_blt (isi_ty rfl (.inr (.inr (.inr (.inl rfl))))) (by rfl) T.z_isinstance (by decide +kernel) (a_cons (e_var (pv 1)) (a_cons (e_ty (by rfl) T.z_tuple (by decide +kernel)) a_nil)))) (w_one_or (t_truth rfl (e_blt (isi_ty rfl (.inr (.inr (.inr (.inr (rfl)))))) (by rfl) T.z_isinstance (by decide +kernel) (a_cons (e_var (pv 1)) (a_cons (e_ty (by rfl) T.z_list (by decide +kernel)) a_nil))))))) (ss_cons (s_if (PW.pt (w_or (t_cmp (o_ne rfl hr.units) (e_blt (isi_ty rfl (.inr (.inr (.inr (.inl rfl))))) (by rfl) T.z_isinstance (by decide +kernel) (a_cons (e_var (pv 1)) (a_cons (e_ty (by rfl) T.z_tuple (by decide +kernel)) a_nil))) (e_blt (isi_ty rfl (.inr (.inr (.inr (.inl rfl))))) (by rfl) T.z_isinstance (by decide +kernel) (a_cons (e_var (pv 0)) (a_cons (e_ty (by rfl) T.z_tuple (by decide +kernel)) a_nil))) (nomark _)) (w_one_or (t_cmp (o_ne rfl hr.units) (e_blt (isi_ty rfl (.inr (.inr (.inr (.inr (rfl)))))) (by rfl) T.z_isinstance (by decide +kernel) (a_cons (e_var (pv 1)) (a_cons (e_ty (by rfl) T.z_list (by decide +kernel)) a_nil))) (e_blt (isi_ty rfl (.inr (.inr (.inr (.inr (rfl)))))) (by rfl) T.z_isinstance (by decide +kernel) (a_cons (e_var (pv 0)) (a_cons (e_ty (by rfl) T.z_list (by decide +kernel)) a_nil))) (nomark _))))) (ss_one (s_ret e_bl)) ss_nil)
    (ss_cons (s_if (t_cmp (o_ne rfl hr.units) (e_blt (c_len rfl) (by rfl) T.z_len (by decide +kernel) (a_cons (e_var (pv 0)) a_nil)) (e_blt (c_len rfl) (by rfl) T.z_len (by decide +kernel) (a_cons (e_var (pv 1)) a_nil)) (nomark _)) (ss_one (s_ret e_bl)) ss_nil)
    (ss_one (s_ret (e_cmp (o_eq rfl hr.units) (e_lc (own := [("k", 2)]) rfl sc__law_same.nd (i_range1 T.z_range (a_cons (e_blt (c_len rfl) (by rfl) T.z_len (by decide +kernel) (a_cons (e_var (pv 1)) a_nil)) a_nil)) (blkOk_by (N := N__law_same) (sc := defScope (topS 32)) (by decide +kernel)) (fun _ _ _ _ _ => (g_name sc__law_same.nd)) (fun _ _ _ _ _ => (ts_one (t_not (t_truth rfl (e_call ih hr T.m__law_same T.F__law_same.kp T.B__law_same takes0 (a_cons (e_ix (o_ix rfl) (e_var (pv 0)) (e_var (pv 2))) (a_cons (e_ix (o_ix rfl) (e_var (pv 1)) (e_var (pv 2))) a_nil)) hrec))))) (fun _ _ _ _ _ => (e_var (pv 2)))) (e_lst a_nil) (nomark _)))))) ss_nil)
    (ss_cons (s_if (t_cmp o_is (e_var (pv 1)) e_non (nomark _)) (ss_one (s_ret (e_cmp o_is (e_var (pv 0)) e_non (nomark _)))) ss_nil)
    (ss_cons (s_if (t_truth rfl (e_blt (isi_ty rfl (.inr (.inr (.inl rfl)))) (by rfl) T.z_isinstance (by decide +kernel) (a_cons (e_var (pv 1)) (a_cons (e_ty (by rfl) T.z_str (by decide +kernel)) a_nil)))) (ss_one (s_ret (e_and rfl (e_blt (isi_ty rfl (.inr (.inr (.inl rfl)))) (by rfl) T.z_isinstance (by decide +kernel) (a_cons (e_var (pv 0)) (a_cons (e_ty (by rfl) T.z_str (by decide +kernel)) a_nil))) (e_one (e_cmp (o_eq rfl hr.units) (e_var (pv 0)) (e_var (pv 1)) (nomark _)))))) ss_nil)
    (ss_one (s_ret (e_and rfl (e_blt (isi_ty rfl (.inl rfl)) (by rfl) T.z_isinstance (by decide +kernel) (a_cons (e_var (pv 0)) (a_cons (e_ty (by rfl) T.z_int (by decide +kernel)) a_nil))) (e_and rfl (e_cmp (o_eq rfl hr.units) (e_blt (isi_ty rfl (.inr (.inl rfl))) (by rfl) T.z_isinstance (by decide +kernel) (a_cons (e_var (pv 0)) (a_cons (e_ty (by rfl) T.z_bool (by decide +kernel)) a_nil))) (e_blt (isi_ty rfl (.inr (.inl rfl))) (by rfl) T.z_isinstance (by decide +kernel) (a_cons (e_var (pv 1)) (a_cons (e_ty (by rfl) T.z_bool (by decide +kernel)) a_nil))) (nomark _)) (e_one (e_cmp (o_eq rfl hr.units) (e_var (pv 0)) (e_var (pv 1)) (nomark _))))))))))
theorem ok__law_saying (T : Tx G mg w) : FnOk P w G.K mg base (L2.CX P w) 3 T.a__law_saying T.d__law_saying ["pot"] (spF G f__law_saying) :=
  fn_ok (k := 2) T.F__law_saying sc__law_saying fun cdv A outer s H E hr =>
    have tk := takes_of (X := cxOf (L2.CX P w) P w G.K mg base N__law_saying "_law_saying" (defScope (topS 33)) T.a__law_saying cdv A outer s H E) rfl rfl rfl rfl
    (ss_one (s_ret (e_call (ok__law_pick T) hr T.m__law_pick T.F__law_pick.kp T.B__law_pick tk (a_cons (e_var (pv 0)) (a_cons (e_lst (a_cons e_non (a_cons e_non (a_cons e_non (a_cons e_non (a_cons e_int (a_cons e_int (a_cons e_int (a_cons e_int (a_cons e_str a_nil)))))))))) a_nil)) )))
theorem ok__law_spec (T : Tx G mg w) : FnOk P w G.K mg base (L2.CX P w) 4 T.a__law_spec T.d__law_spec ["pot", "most"] (spF G f__law_spec) :=
  fn_ok (k := 3) T.F__law_spec sc__law_spec fun cdv A outer s H E hr =>
    have tk := takes_of (X := cxOf (L2.CX P w) P w G.K mg base N__law_spec "_law_spec" (defScope (topS 34)) T.a__law_spec cdv A outer s H E) rfl rfl rfl rfl
    (ss_cons (s_par rfl sc__law_spec.nd (a_cons (e_bin (o_add rfl) e_int (e_call (ok__law_draw T) hr T.m__law_draw T.F__law_draw.kp T.B__law_draw tk (a_cons (e_var (pv 0)) (a_cons (e_ix (o_ix rfl) (e_var (pv 1)) e_int) a_nil)) )) (a_cons (e_bin (o_add rfl) e_int (e_call (ok__law_draw T) hr T.m__law_draw T.F__law_draw.kp T.B__law_draw tk (a_cons (e_var (pv 0)) (a_cons (e_ix (o_ix rfl) (e_var (pv 1)) e_int) a_nil)) )) a_nil)))
    (ss_cons (s_set sc__law_spec.nd (e_lst a_nil))
    (ss_cons (s_for rfl (passes_of rfl) (i_range1 T.z_range (a_cons (e_var (pv 2)) a_nil)) (g_name sc__law_spec.nd)
    (ss_cons (s_set sc__law_spec.nd (e_lst a_nil))
    (ss_cons (s_for rfl (passes_of rfl) (i_range1 T.z_range (a_cons (e_var (pv 3)) a_nil)) (g_name sc__law_spec.nd)
    (ss_one (s_expr (e_mt rfl PySem.F.plainAttrs_list PySem.F.slot_list_append PySem.F.type_list_append m_append (e_var (pv 6)) (a_cons (e_tup (a_cons (e_call (ok__law_draw T) hr T.m__law_draw T.F__law_draw.kp T.B__law_draw tk (a_cons (e_var (pv 0)) (a_cons (e_var (pv 2)) a_nil)) ) (a_cons (e_call (ok__law_draw T) hr T.m__law_draw T.F__law_draw.kp T.B__law_draw tk (a_cons (e_var (pv 0)) (a_cons (e_var (pv 3)) a_nil)) ) (a_cons (e_call (ok__law_saying T) hr T.m__law_saying T.F__law_saying.kp T.B__law_saying tk (a_cons (e_var (pv 0)) a_nil) ) a_nil)))) a_nil)))))
    (ss_one (s_expr (e_mt rfl PySem.F.plainAttrs_list PySem.F.slot_list_append PySem.F.type_list_append m_append (e_var (pv 4)) (a_cons (e_bty (c_tuple rfl) (by rfl) T.z_tuple (by decide +kernel) (a_cons (e_var (pv 6)) a_nil)) a_nil)))))))
    (ss_cons (s_set sc__law_spec.nd (e_call (ok__law_pick T) hr T.m__law_pick T.F__law_pick.kp T.B__law_pick tk (a_cons (e_var (pv 0)) (a_cons (e_lst (a_cons e_non (a_cons e_non (a_cons (e_call (ok__law_draw T) hr T.m__law_draw T.F__law_draw.kp T.B__law_draw tk (a_cons (e_var (pv 0)) (a_cons (e_var (pv 2)) a_nil)) ) a_nil)))) a_nil)) ))
    (ss_one (s_ret (e_lst (a_cons (e_bty (c_tuple rfl) (by rfl) T.z_tuple (by decide +kernel) (a_cons (e_var (pv 4)) a_nil)) (a_cons (e_call (ok__law_draw T) hr T.m__law_draw T.F__law_draw.kp T.B__law_draw tk (a_cons (e_var (pv 0)) (a_cons (e_var (pv 2)) a_nil)) ) (a_cons (e_var (pv 8)) (a_cons (e_call (ok__law_pick T) hr T.m__law_pick T.F__law_pick.kp T.B__law_pick tk (a_cons (e_var (pv 0)) (a_cons (e_lst (a_cons e_non (a_cons (e_call (ok__law_draw T) hr T.m__law_draw T.F__law_draw.kp T.B__law_draw tk (a_cons (e_var (pv 0)) (a_cons (e_var (pv 3)) a_nil)) ) (a_cons (e_call (ok__law_draw T) hr T.m__law_draw T.F__law_draw.kp T.B__law_draw tk (a_cons (e_var (pv 0)) (a_cons (e_var (pv 3)) a_nil)) ) a_nil)))) a_nil)) ) a_nil)))))))))))
theorem ok__law_made (T : Tx G mg w) : FnOk P w G.K mg base (L2.CX P w) 8 T.a__law_made T.d__law_made ["spec"] (spF G f__law_made) :=
  fn_ok (k := 7) T.F__law_made sc__law_made fun cdv A outer s H E hr =>
    have tk := takes_of (X := cxOf (L2.CX P w) P w G.K mg base N__law_made "_law_made" (defScope (topS 35)) T.a__law_made cdv A outer s H E) rfl rfl rfl rfl
    (ss_one (s_ret (e_make T.mk_Program (ok_Program_init T) hr T.m_Program T.B_Program_init tk (a_cons (e_ix (o_ix rfl) (e_var (pv 0)) e_int) (a_cons (e_ix (o_ix rfl) (e_var (pv 0)) e_int) (a_cons (e_ix (o_ix rfl) (e_var (pv 0)) e_int) (a_cons (e_ix (o_ix rfl) (e_var (pv 0)) e_int) a_nil)))) )))
theorem ok__law_lines (T : Tx G mg w) : FnOk P w G.K mg base (L2.CX P w) 1 T.a__law_lines T.d__law_lines ["spec"] (spF G f__law_lines) :=
  fn_ok (k := 0) T.F__law_lines sc__law_lines fun cdv A outer s H E hr =>
    have tk := takes_of (X := cxOf (L2.CX P w) P w G.K mg base N__law_lines "_law_lines" (defScope (topS 36)) T.a__law_lines cdv A outer s H E) rfl rfl rfl rfl
    (ss_cons (s_set sc__law_lines.nd (e_lst a_nil))
    (ss_cons (s_for rfl (passes_of rfl) (i_seq rfl (e_ix (o_ix rfl) (e_var (pv 0)) e_int)) (g_name sc__law_lines.nd)
    (ss_cons (s_set sc__law_lines.nd (e_lst (a_cons e_str a_nil)))
    (ss_cons (s_for rfl (passes_of rfl) (i_seq rfl (e_var (pv 2))) (g_name sc__law_lines.nd)
    (ss_one (s_set sc__law_lines.nd (e_bin (o_add rfl) (e_var (pv 3)) (e_lst (a_cons (e_bty c_str (by rfl) T.z_str (by decide +kernel) (a_cons (e_ix (o_ix rfl) (e_var (pv 4)) e_int) a_nil)) (a_cons (e_bty c_str (by rfl) T.z_str (by decide +kernel) (a_cons (e_ix (o_ix rfl) (e_var (pv 4)) e_int) a_nil)) (a_cons (e_if (t_cmp o_is (e_ix (o_ix rfl) (e_var (pv 4)) e_int) e_non (nomark _)) e_str (e_bty c_str (by rfl) T.z_str (by decide +kernel) (a_cons (e_ix (o_ix rfl) (e_var (pv 4)) e_int) a_nil))) a_nil))))))))
    (ss_one (s_expr (e_mt rfl PySem.F.plainAttrs_list PySem.F.slot_list_append PySem.F.type_list_append m_append (e_var (pv 1)) (a_cons (e_mt rfl PySem.F.plainAttrs_str PySem.F.slot_str_join PySem.F.type_str_join (m_join rfl) e_str (a_cons (e_var (pv 3)) a_nil)) a_nil)))))))
    (ss_cons (s_set sc__law_lines.nd (e_bin (o_add rfl) (e_var (pv 1)) (e_lst (a_cons (e_bin (o_add rfl) e_str (e_bty c_str (by rfl) T.z_str (by decide +kernel) (a_cons (e_ix (o_ix rfl) (e_var (pv 0)) e_int) a_nil))) (a_cons (e_bin (o_add rfl) e_str (e_if (t_cmp o_is (e_ix (o_ix rfl) (e_var (pv 0)) e_int) e_non (nomark _)) e_str (e_bty c_str (by rfl) T.z_str (by decide +kernel) (a_cons (e_ix (o_ix rfl) (e_var (pv 0)) e_int) a_nil)))) a_nil)))))
    (ss_one (s_ret (e_bin (o_add rfl) (e_var (pv 1)) (e_lst (a_cons (e_bin (o_add rfl) e_str (e_if (t_cmp o_is (e_ix (o_ix rfl) (e_var (pv 0)) e_int) e_non (nomark _)) e_str (e_bty c_str (by rfl) T.z_str (by decide +kernel) (a_cons (e_ix (o_ix rfl) (e_var (pv 0)) e_int) a_nil)))) (a_cons e_str a_nil)))))))))
theorem ok__law_text_of (T : Tx G mg w) : FnOk P w G.K mg base (L2.CX P w) 2 T.a__law_text_of T.d__law_text_of ["spec"] (spF G f__law_text_of) :=
  fn_ok (k := 1) T.F__law_text_of sc__law_text_of fun cdv A outer s H E hr =>
    have tk := takes_of (X := cxOf (L2.CX P w) P w G.K mg base N__law_text_of "_law_text_of" (defScope (topS 37)) T.a__law_text_of cdv A outer s H E) rfl rfl rfl rfl
    (ss_one (s_ret (e_mt rfl PySem.F.plainAttrs_str PySem.F.slot_str_join PySem.F.type_str_join (m_join rfl) e_str (a_cons (e_lc (own := [("line", 1)]) rfl sc__law_text_of.nd (i_seq rfl (e_call (ok__law_lines T) hr T.m__law_lines T.F__law_lines.kp T.B__law_lines tk (a_cons (e_var (pv 0)) a_nil) )) (blkOk_by (N := N__law_text_of) (sc := defScope (topS 37)) (by decide +kernel)) (fun _ _ _ _ _ => (g_name sc__law_text_of.nd)) (fun _ _ _ _ _ => ts_nil) (fun _ _ _ _ _ => (e_bin (o_add rfl) (e_var (pv 1)) e_str))) a_nil))))
theorem ok_Program_eq (T : Tx G mg w) : FnOk P w G.K mg base (L2.CX P w) 1 T.a_Program_eq T.d_Program_eq ["self", "other"] (spF G f_Program_eq) :=
  fn_ok (k := 0) T.F_Program_eq sc_Program_eq fun cdv A outer s H E hr =>
    have tk := takes_of (X := cxOf (L2.CX P w) P w G.K mg base N_Program_eq "Program.__eq__" (defScope (inClass (topS 15) 1)) T.a_Program_eq cdv A outer s H E) rfl rfl rfl rfl
    (ss_cons (s_if (PW.pt (w_or (t_not (t_truth rfl (e_blt (c_isi rfl T.isi_Program) (by rfl) T.z_isinstance (by decide +kernel) (a_cons (e_var (pv 1)) (a_cons (e_glob (v := .ref (G.tb 4)) (by rfl) T.m_Program rfl fun _ _ => by simp only [RV]) a_nil))))) (w_or (t_cmp (o_ne rfl hr.units) (e_fld rfl T.fld_steps rfl (e_var (pv 0))) (e_fld rfl T.fld_steps rfl (e_var (pv 1))) (nomark _)) (w_one_or (t_cmp (o_ne rfl hr.units) (e_fld rfl T.fld_first rfl (e_var (pv 0))) (e_fld rfl T.fld_first rfl (e_var (pv 1))) (nomark _)))))) (ss_one (s_ret e_bl)) ss_nil)
    (ss_one (s_ret (e_and rfl (e_cmp (o_eq rfl hr.units) (e_fld rfl T.fld_leader rfl (e_var (pv 0))) (e_fld rfl T.fld_leader rfl (e_var (pv 1))) (nomark _)) (e_one (e_cmp (o_eq rfl hr.units) (e_fld rfl T.fld_lamp rfl (e_var (pv 0))) (e_fld rfl T.fld_lamp rfl (e_var (pv 1))) (nomark _)))))))
theorem owneq_Program (T : Tx G mg w) {X : Cx} (hP : X.prog = P := by rfl) (hw : X.w = w := by rfl) (hK : X.K = G.K := by rfl) (hm : X.mg = mg := by rfl) (hb : X.base = base := by rfl) : OwnEq X G 4 f_Program_eq 1 := by
  subst hP hw hm hb
  exact ⟨⟨T.a_Program_eq, T.d_Program_eq, _, by rw [hK]; exact ok_Program_eq T, by rw [hK]; exact T.B_Program_eq, by rw [hK]; exact T.eqf_Program, by rw [hK]; exact T.eqn_Program⟩, by rw [hK]; exact T.nef_Program, by rw [hK]; exact T.mro_Program⟩
theorem ok_law (T : Tx G mg w) : FnOk P w G.K mg base (L2.CX P w) 11 T.a_law T.d_law ["script"] (spF G f_law) :=
  fn_ok (k := 10) T.F_law sc_law fun cdv A outer s H E hr =>
    have tk := takes_of (X := cxOf (L2.CX P w) P w G.K mg base N_law "law" (defScope (topS 38)) T.a_law cdv A outer s H E) rfl rfl rfl rfl
    (ss_cons (s_set sc_law.nd (e_call (ok__law_pot T) hr T.m__law_pot T.F__law_pot.kp T.B__law_pot tk (a_cons (e_var (pv 0)) a_nil) ))
    (ss_cons (s_for rfl (passes_of rfl) (i_range1 T.z_range (a_cons e_int a_nil)) (g_name sc_law.nd)
    (ss_cons (s_set sc_law.nd (e_call (ok__law_spec T) hr T.m__law_spec T.F__law_spec.kp T.B__law_spec tk (a_cons (e_var (pv 1)) (a_cons (e_lst (a_cons e_int (a_cons e_int a_nil))) a_nil)) ))
    (ss_cons (s_par rfl sc_law.nd (a_cons (e_call (ok__law_made T) hr T.m__law_made T.F__law_made.kp T.B__law_made tk (a_cons (e_var (pv 3)) a_nil) ) (a_cons (e_call (ok__law_text_of T) hr T.m__law_text_of T.F__law_text_of.kp T.B__law_text_of tk (a_cons (e_var (pv 3)) a_nil) ) a_nil)))
    (ss_cons (s_set sc_law.nd (e_call (ok_read_program T) hr T.m_read_program T.F_read_program.kp T.B_read_program tk (a_cons (e_var (pv 5)) a_nil) ))
    (ss_cons (s_if (PW.pt (w_or (t_not (t_truth rfl (e_call (ok__law_same T 9) hr T.m__law_same T.F__law_same.kp T.B__law_same tk (a_cons (e_call (ok_program_text T) hr T.m_program_text T.F_program_text.kp T.B_program_text tk (a_cons (e_var (pv 4)) a_nil) ) (a_cons (e_var (pv 5)) a_nil)) ))) (w_or (t_neX rfl (owneq_Program T) hr T.ok_Program (e_var (pv 6)) (e_var (pv 4)) ) (w_one_or (t_cmp (o_ne rfl hr.units) (e_call (ok_program_text T) hr T.m_program_text T.F_program_text.kp T.B_program_text tk (a_cons (e_var (pv 6)) a_nil) ) (e_var (pv 5)) (nomark _)))))) (ss_one (s_ret e_bl)) ss_nil)
    (ss_one (s_if (t_not (t_truth rfl (e_call (ok__law_same T 9) hr T.m__law_same T.F__law_same.kp T.B__law_same tk (a_cons (e_lst (a_cons (e_fld rfl T.fld_steps rfl (e_var (pv 6))) (a_cons (e_fld rfl T.fld_first rfl (e_var (pv 6))) (a_cons (e_fld rfl T.fld_leader rfl (e_var (pv 6))) (a_cons (e_fld rfl T.fld_lamp rfl (e_var (pv 6))) a_nil))))) (a_cons (e_var (pv 3)) a_nil)) ))) (ss_one (s_ret e_bl)) ss_nil)))))))
    (ss_one (s_ret e_bl))))
end K02

set_option Elab.async false
set_option linter.all false
set_option maxRecDepth 100000
set_option maxHeartbeats 4000000
namespace K02
open PySem PySem.Spec PyProof.Rows L2 LF
def tbF (C_Program C_LineReader : Addr) : Nat → Addr := fun n => if n = 4 then C_Program else if n = 5 then C_LineReader else 0
theorem sub_kit {K : PySem.W.Frag} {t : Value} {C : Addr} {b : Bool} (h1 : PySem.W.isClsIn K C = true) (h2 : PySem.W.typeIn K (.ref C) = some (.type "type")) (h3 : PySem.W.subIn K t (.ref C) = some b) (h4 : (t == .ref C) = false) : PySem.W.kitOne K t (.ref C) = some b := by
  unfold PySem.W.kitOne PySem.W.kitCls
  rw [h4, if_neg (by decide)]
  simp only [PySem.W.isClsIn] at h1
  simp only [h1, h2]
  simpa using h3
theorem all_mk {w : World} {K : PySem.W.Frag} {h : Heap} {mg : Str → Option Value} {fa : Addr} {C_Program : Addr} {C_LineReader : Addr} {A_is_number : Addr} {od_is_number an_is_number : Option Addr} {sl_is_number : Array (Option Value)} {oc_is_number kV_is_number dc_is_number pm_is_number cd_is_number ct_is_number : Value} {A_is_within : Addr} {od_is_within an_is_within : Option Addr} {sl_is_within : Array (Option Value)} {oc_is_within kV_is_within dc_is_within pm_is_within cd_is_within ct_is_within : Value} {A_is_word : Addr} {od_is_word an_is_word : Option Addr} {sl_is_word : Array (Option Value)} {oc_is_word kV_is_word dc_is_word pm_is_word cd_is_word ct_is_word : Value} {A_is_step : Addr} {od_is_step an_is_step : Option Addr} {sl_is_step : Array (Option Value)} {oc_is_step kV_is_step dc_is_step pm_is_step cd_is_step ct_is_step : Value} {A_are_steps : Addr} {od_are_steps an_are_steps : Option Addr} {sl_are_steps : Array (Option Value)} {oc_are_steps kV_are_steps dc_are_steps pm_are_steps cd_are_steps ct_are_steps : Value} {A_step_words : Addr} {od_step_words an_step_words : Option Addr} {sl_step_words : Array (Option Value)} {oc_step_words kV_step_words dc_step_words pm_step_words cd_step_words ct_step_words : Value} {A_program_text : Addr} {od_program_text an_program_text : Option Addr} {sl_program_text : Array (Option Value)} {oc_program_text kV_program_text dc_program_text pm_program_text cd_program_text ct_program_text : Value} {A_number_in : Addr} {od_number_in an_number_in : Option Addr} {sl_number_in : Array (Option Value)} {oc_number_in kV_number_in dc_number_in pm_number_in cd_number_in ct_number_in : Value} {A_is_saying_word : Addr} {od_is_saying_word an_is_saying_word : Option Addr} {sl_is_saying_word : Array (Option Value)} {oc_is_saying_word kV_is_saying_word dc_is_saying_word pm_is_saying_word cd_is_saying_word ct_is_saying_word : Value} {A_saying_in : Addr} {od_saying_in an_saying_in : Option Addr} {sl_saying_in : Array (Option Value)} {oc_saying_in kV_saying_in dc_saying_in pm_saying_in cd_saying_in ct_saying_in : Value} {A_LineReader_init : Addr} {od_LineReader_init an_LineReader_init : Option Addr} {sl_LineReader_init : Array (Option Value)} {oc_LineReader_init kV_LineReader_init dc_LineReader_init pm_LineReader_init cd_LineReader_init ct_LineReader_init : Value} {A_LineReader_takes_row : Addr} {od_LineReader_takes_row an_LineReader_takes_row : Option Addr} {sl_LineReader_takes_row : Array (Option Value)} {oc_LineReader_takes_row kV_LineReader_takes_row dc_LineReader_takes_row pm_LineReader_takes_row cd_LineReader_takes_row ct_LineReader_takes_row : Value} {A_LineReader_takes : Addr} {od_LineReader_takes an_LineReader_takes : Option Addr} {sl_LineReader_takes : Array (Option Value)} {oc_LineReader_takes kV_LineReader_takes dc_LineReader_takes pm_LineReader_takes cd_LineReader_takes ct_LineReader_takes : Value} {A_Program_init : Addr} {od_Program_init an_Program_init : Option Addr} {sl_Program_init : Array (Option Value)} {oc_Program_init kV_Program_init dc_Program_init pm_Program_init cd_Program_init ct_Program_init : Value} {A_read_program : Addr} {od_read_program an_read_program : Option Addr} {sl_read_program : Array (Option Value)} {oc_read_program kV_read_program dc_read_program pm_read_program cd_read_program ct_read_program : Value} {A__law_pot : Addr} {od__law_pot an__law_pot : Option Addr} {sl__law_pot : Array (Option Value)} {oc__law_pot kV__law_pot dc__law_pot pm__law_pot cd__law_pot ct__law_pot : Value} {A__law_draw : Addr} {od__law_draw an__law_draw : Option Addr} {sl__law_draw : Array (Option Value)} {oc__law_draw kV__law_draw dc__law_draw pm__law_draw cd__law_draw ct__law_draw : Value} {A__law_pick : Addr} {od__law_pick an__law_pick : Option Addr} {sl__law_pick : Array (Option Value)} {oc__law_pick kV__law_pick dc__law_pick pm__law_pick cd__law_pick ct__law_pick : Value} {A__law_same : Addr} {od__law_same an__law_same : Option Addr} {sl__law_same : Array (Option Value)} {oc__law_same kV__law_same dc__law_same pm__law_same cd__law_same ct__law_same : Value} {A__law_saying : Addr} {od__law_saying an__law_saying : Option Addr} {sl__law_saying : Array (Option Value)} {oc__law_saying kV__law_saying dc__law_saying pm__law_saying cd__law_saying ct__law_saying : Value} {A__law_spec : Addr} {od__law_spec an__law_spec : Option Addr} {sl__law_spec : Array (Option Value)} {oc__law_spec kV__law_spec dc__law_spec pm__law_spec cd__law_spec ct__law_spec : Value} {A__law_made : Addr} {od__law_made an__law_made : Option Addr} {sl__law_made : Array (Option Value)} {oc__law_made kV__law_made dc__law_made pm__law_made cd__law_made ct__law_made : Value} {A__law_lines : Addr} {od__law_lines an__law_lines : Option Addr} {sl__law_lines : Array (Option Value)} {oc__law_lines kV__law_lines dc__law_lines pm__law_lines cd__law_lines ct__law_lines : Value} {A__law_text_of : Addr} {od__law_text_of an__law_text_of : Option Addr} {sl__law_text_of : Array (Option Value)} {oc__law_text_of kV__law_text_of dc__law_text_of pm__law_text_of cd__law_text_of ct__law_text_of : Value} {A_Program_eq : Addr} {od_Program_eq an_Program_eq : Option Addr} {sl_Program_eq : Array (Option Value)} {oc_Program_eq kV_Program_eq dc_Program_eq pm_Program_eq cd_Program_eq ct_Program_eq : Value} {A_law : Addr} {od_law an_law : Option Addr} {sl_law : Array (Option Value)} {oc_law kV_law dc_law pm_law cd_law ct_law : Value} {tk_MOST_SAID : Tok} {tk_ALL : Tok} {tk_MOST_STATES : Tok} {tk_MOST_COLOURS : Tok} {tk_DIGITS : Tok} {tk_MOST_DIGITS : Tok} {ta_HEADS : Addr} {td_HEADS : Option Addr} {ts_HEADS : Array (Option Value)} {tn_HEADS : Nat} {tt_HEADS_0 : Tok} {tt_HEADS_1 : Tok} {tt_HEADS_2 : Tok} {tt_HEADS_3 : Tok} {da_OPEN : Addr} {de_OPEN : Array DictEntry} {dn_OPEN : Nat} {dt_OPEN_leader : Tok} {dt_OPEN_lamp : Tok} (X : K.In h) (G : h.Ns mainGlobals mg) (hfa : mg "law" = some (.ref fa))
    (n_Program : PySem.W.nsIn K mainGlobals "Program" = some (some (.ref C_Program)))
    (pg_Program : PySem.W.plainGet K C_Program Str.empty = true)
    (hd_Program : PySem.W.hasDictIn K C_Program = true)
    (po_Program : PySem.W.plainOver K C_Program = true)
    (sa_Program : PySem.W.findIn K (.ref C_Program) "__setattr__" = some (some (.builtin "object.__setattr__")))
    (mk_Program : PySem.W.makesIn K C_Program = true)
    (kc_Program : PySem.W.keepIn K (.ref C_Program) = true)
    (n_LineReader : PySem.W.nsIn K mainGlobals "LineReader" = some (some (.ref C_LineReader)))
    (pg_LineReader : PySem.W.plainGet K C_LineReader Str.empty = true)
    (hd_LineReader : PySem.W.hasDictIn K C_LineReader = true)
    (po_LineReader : PySem.W.plainOver K C_LineReader = true)
    (sa_LineReader : PySem.W.findIn K (.ref C_LineReader) "__setattr__" = some (some (.builtin "object.__setattr__")))
    (mk_LineReader : PySem.W.makesIn K C_LineReader = true)
    (kc_LineReader : PySem.W.keepIn K (.ref C_LineReader) = true)
    (na_first_Program : NoAttr K C_Program "first")
    (na_lamp_Program : NoAttr K C_Program "lamp")
    (na_last_LineReader : NoAttr K C_LineReader "last")
    (na_leader_Program : NoAttr K C_Program "leader")
    (na_read_rows_LineReader : NoAttr K C_LineReader "read_rows")
    (na_steps_Program : NoAttr K C_Program "steps")
    (ne_Program : PySem.W.findIn K (.ref C_Program) "__ne__" = some (some (.builtin "object.__ne__")))
    (mro_Program : PySem.W.mroIn K C_Program (.type "object") = some true)
    (icl_Program : PySem.W.findIn K (.ref C_Program) "__class__" = some (some (.builtin "object.__class__")))
    (isp_Program : PySem.W.specialIn K (.builtin "object.__class__") "__get__" = some (some (.builtin "getset_descriptor.__get__")))
    (itk_Program : PySem.W.takesIn K (.builtin "object.__class__") = some true)
    (isc_Program : PySem.W.isClsIn K C_Program = true)
    (ity_Program : PySem.W.typeIn K (.ref C_Program) = some (.type "type"))
    (nf_Program : PySem.W.notFirst K C_Program (.ref C_Program) = true)
    (n_is_number : PySem.W.nsIn K mainGlobals "is_number" = some (some (.ref A_is_number)))
    (l_is_number : K.lookup A_is_number = some ⟨oc_is_number, od_is_number, .func (PySem.W.fnOf "is_number" "is_number" (defArgs (topS 7)) (defBody (topS 7)) (defScope (topS 7)) .none kV_is_number dc_is_number pm_is_number an_is_number cd_is_number ct_is_number), sl_is_number⟩)
    (c_is_number : PySem.W.codeIn K cd_is_number "is_number" = true)
    (k_is_number : PySem.W.keepIn K (.ref A_is_number) = true)
    (n_is_within : PySem.W.nsIn K mainGlobals "is_within" = some (some (.ref A_is_within)))
    (l_is_within : K.lookup A_is_within = some ⟨oc_is_within, od_is_within, .func (PySem.W.fnOf "is_within" "is_within" (defArgs (topS 8)) (defBody (topS 8)) (defScope (topS 8)) .none kV_is_within dc_is_within pm_is_within an_is_within cd_is_within ct_is_within), sl_is_within⟩)
    (c_is_within : PySem.W.codeIn K cd_is_within "is_within" = true)
    (k_is_within : PySem.W.keepIn K (.ref A_is_within) = true)
    (n_is_word : PySem.W.nsIn K mainGlobals "is_word" = some (some (.ref A_is_word)))
    (l_is_word : K.lookup A_is_word = some ⟨oc_is_word, od_is_word, .func (PySem.W.fnOf "is_word" "is_word" (defArgs (topS 9)) (defBody (topS 9)) (defScope (topS 9)) .none kV_is_word dc_is_word pm_is_word an_is_word cd_is_word ct_is_word), sl_is_word⟩)
    (c_is_word : PySem.W.codeIn K cd_is_word "is_word" = true)
    (k_is_word : PySem.W.keepIn K (.ref A_is_word) = true)
    (n_is_step : PySem.W.nsIn K mainGlobals "is_step" = some (some (.ref A_is_step)))
    (l_is_step : K.lookup A_is_step = some ⟨oc_is_step, od_is_step, .func (PySem.W.fnOf "is_step" "is_step" (defArgs (topS 13)) (defBody (topS 13)) (defScope (topS 13)) .none kV_is_step dc_is_step pm_is_step an_is_step cd_is_step ct_is_step), sl_is_step⟩)
    (c_is_step : PySem.W.codeIn K cd_is_step "is_step" = true)
    (k_is_step : PySem.W.keepIn K (.ref A_is_step) = true)
    (n_are_steps : PySem.W.nsIn K mainGlobals "are_steps" = some (some (.ref A_are_steps)))
    (l_are_steps : K.lookup A_are_steps = some ⟨oc_are_steps, od_are_steps, .func (PySem.W.fnOf "are_steps" "are_steps" (defArgs (topS 14)) (defBody (topS 14)) (defScope (topS 14)) .none kV_are_steps dc_are_steps pm_are_steps an_are_steps cd_are_steps ct_are_steps), sl_are_steps⟩)
    (c_are_steps : PySem.W.codeIn K cd_are_steps "are_steps" = true)
    (k_are_steps : PySem.W.keepIn K (.ref A_are_steps) = true)
    (n_step_words : PySem.W.nsIn K mainGlobals "step_words" = some (some (.ref A_step_words)))
    (l_step_words : K.lookup A_step_words = some ⟨oc_step_words, od_step_words, .func (PySem.W.fnOf "step_words" "step_words" (defArgs (topS 21)) (defBody (topS 21)) (defScope (topS 21)) .none kV_step_words dc_step_words pm_step_words an_step_words cd_step_words ct_step_words), sl_step_words⟩)
    (c_step_words : PySem.W.codeIn K cd_step_words "step_words" = true)
    (k_step_words : PySem.W.keepIn K (.ref A_step_words) = true)
    (n_program_text : PySem.W.nsIn K mainGlobals "program_text" = some (some (.ref A_program_text)))
    (l_program_text : K.lookup A_program_text = some ⟨oc_program_text, od_program_text, .func (PySem.W.fnOf "program_text" "program_text" (defArgs (topS 22)) (defBody (topS 22)) (defScope (topS 22)) .none kV_program_text dc_program_text pm_program_text an_program_text cd_program_text ct_program_text), sl_program_text⟩)
    (c_program_text : PySem.W.codeIn K cd_program_text "program_text" = true)
    (k_program_text : PySem.W.keepIn K (.ref A_program_text) = true)
    (n_number_in : PySem.W.nsIn K mainGlobals "number_in" = some (some (.ref A_number_in)))
    (l_number_in : K.lookup A_number_in = some ⟨oc_number_in, od_number_in, .func (PySem.W.fnOf "number_in" "number_in" (defArgs (topS 23)) (defBody (topS 23)) (defScope (topS 23)) .none kV_number_in dc_number_in pm_number_in an_number_in cd_number_in ct_number_in), sl_number_in⟩)
    (c_number_in : PySem.W.codeIn K cd_number_in "number_in" = true)
    (k_number_in : PySem.W.keepIn K (.ref A_number_in) = true)
    (n_is_saying_word : PySem.W.nsIn K mainGlobals "is_saying_word" = some (some (.ref A_is_saying_word)))
    (l_is_saying_word : K.lookup A_is_saying_word = some ⟨oc_is_saying_word, od_is_saying_word, .func (PySem.W.fnOf "is_saying_word" "is_saying_word" (defArgs (topS 24)) (defBody (topS 24)) (defScope (topS 24)) .none kV_is_saying_word dc_is_saying_word pm_is_saying_word an_is_saying_word cd_is_saying_word ct_is_saying_word), sl_is_saying_word⟩)
    (c_is_saying_word : PySem.W.codeIn K cd_is_saying_word "is_saying_word" = true)
    (k_is_saying_word : PySem.W.keepIn K (.ref A_is_saying_word) = true)
    (n_saying_in : PySem.W.nsIn K mainGlobals "saying_in" = some (some (.ref A_saying_in)))
    (l_saying_in : K.lookup A_saying_in = some ⟨oc_saying_in, od_saying_in, .func (PySem.W.fnOf "saying_in" "saying_in" (defArgs (topS 25)) (defBody (topS 25)) (defScope (topS 25)) .none kV_saying_in dc_saying_in pm_saying_in an_saying_in cd_saying_in ct_saying_in), sl_saying_in⟩)
    (c_saying_in : PySem.W.codeIn K cd_saying_in "saying_in" = true)
    (k_saying_in : PySem.W.keepIn K (.ref A_saying_in) = true)
    (n_LineReader_init : PySem.W.findIn K (.ref C_LineReader) "__init__" = some (some (.ref A_LineReader_init)))
    (i_LineReader_init : PySem.W.isFn K (.ref A_LineReader_init) = true)
    (l_LineReader_init : K.lookup A_LineReader_init = some ⟨oc_LineReader_init, od_LineReader_init, .func (PySem.W.fnOf "__init__" "LineReader.__init__" (defArgs (inClass (topS 26) 0)) (defBody (inClass (topS 26) 0)) (defScope (inClass (topS 26) 0)) .none kV_LineReader_init dc_LineReader_init pm_LineReader_init an_LineReader_init cd_LineReader_init ct_LineReader_init), sl_LineReader_init⟩)
    (c_LineReader_init : PySem.W.codeIn K cd_LineReader_init "LineReader.__init__" = true)
    (k_LineReader_init : PySem.W.keepIn K (.ref A_LineReader_init) = true)
    (n_LineReader_takes_row : PySem.W.findIn K (.ref C_LineReader) "takes_row" = some (some (.ref A_LineReader_takes_row)))
    (i_LineReader_takes_row : PySem.W.isFn K (.ref A_LineReader_takes_row) = true)
    (l_LineReader_takes_row : K.lookup A_LineReader_takes_row = some ⟨oc_LineReader_takes_row, od_LineReader_takes_row, .func (PySem.W.fnOf "takes_row" "LineReader.takes_row" (defArgs (inClass (topS 26) 2)) (defBody (inClass (topS 26) 2)) (defScope (inClass (topS 26) 2)) .none kV_LineReader_takes_row dc_LineReader_takes_row pm_LineReader_takes_row an_LineReader_takes_row cd_LineReader_takes_row ct_LineReader_takes_row), sl_LineReader_takes_row⟩)
    (c_LineReader_takes_row : PySem.W.codeIn K cd_LineReader_takes_row "LineReader.takes_row" = true)
    (k_LineReader_takes_row : PySem.W.keepIn K (.ref A_LineReader_takes_row) = true)
    (n_LineReader_takes : PySem.W.findIn K (.ref C_LineReader) "takes" = some (some (.ref A_LineReader_takes)))
    (i_LineReader_takes : PySem.W.isFn K (.ref A_LineReader_takes) = true)
    (l_LineReader_takes : K.lookup A_LineReader_takes = some ⟨oc_LineReader_takes, od_LineReader_takes, .func (PySem.W.fnOf "takes" "LineReader.takes" (defArgs (inClass (topS 26) 1)) (defBody (inClass (topS 26) 1)) (defScope (inClass (topS 26) 1)) .none kV_LineReader_takes dc_LineReader_takes pm_LineReader_takes an_LineReader_takes cd_LineReader_takes ct_LineReader_takes), sl_LineReader_takes⟩)
    (c_LineReader_takes : PySem.W.codeIn K cd_LineReader_takes "LineReader.takes" = true)
    (k_LineReader_takes : PySem.W.keepIn K (.ref A_LineReader_takes) = true)
    (n_Program_init : PySem.W.findIn K (.ref C_Program) "__init__" = some (some (.ref A_Program_init)))
    (i_Program_init : PySem.W.isFn K (.ref A_Program_init) = true)
    (l_Program_init : K.lookup A_Program_init = some ⟨oc_Program_init, od_Program_init, .func (PySem.W.fnOf "__init__" "Program.__init__" (defArgs (inClass (topS 15) 0)) (defBody (inClass (topS 15) 0)) (defScope (inClass (topS 15) 0)) .none kV_Program_init dc_Program_init pm_Program_init an_Program_init cd_Program_init ct_Program_init), sl_Program_init⟩)
    (c_Program_init : PySem.W.codeIn K cd_Program_init "Program.__init__" = true)
    (k_Program_init : PySem.W.keepIn K (.ref A_Program_init) = true)
    (n_read_program : PySem.W.nsIn K mainGlobals "read_program" = some (some (.ref A_read_program)))
    (l_read_program : K.lookup A_read_program = some ⟨oc_read_program, od_read_program, .func (PySem.W.fnOf "read_program" "read_program" (defArgs (topS 27)) (defBody (topS 27)) (defScope (topS 27)) .none kV_read_program dc_read_program pm_read_program an_read_program cd_read_program ct_read_program), sl_read_program⟩)
    (c_read_program : PySem.W.codeIn K cd_read_program "read_program" = true)
    (k_read_program : PySem.W.keepIn K (.ref A_read_program) = true)
    (n__law_pot : PySem.W.nsIn K mainGlobals "_law_pot" = some (some (.ref A__law_pot)))
    (l__law_pot : K.lookup A__law_pot = some ⟨oc__law_pot, od__law_pot, .func (PySem.W.fnOf "_law_pot" "_law_pot" (defArgs (topS 29)) (defBody (topS 29)) (defScope (topS 29)) .none kV__law_pot dc__law_pot pm__law_pot an__law_pot cd__law_pot ct__law_pot), sl__law_pot⟩)
    (c__law_pot : PySem.W.codeIn K cd__law_pot "_law_pot" = true)
    (k__law_pot : PySem.W.keepIn K (.ref A__law_pot) = true)
    (n__law_draw : PySem.W.nsIn K mainGlobals "_law_draw" = some (some (.ref A__law_draw)))
    (l__law_draw : K.lookup A__law_draw = some ⟨oc__law_draw, od__law_draw, .func (PySem.W.fnOf "_law_draw" "_law_draw" (defArgs (topS 30)) (defBody (topS 30)) (defScope (topS 30)) .none kV__law_draw dc__law_draw pm__law_draw an__law_draw cd__law_draw ct__law_draw), sl__law_draw⟩)
    (c__law_draw : PySem.W.codeIn K cd__law_draw "_law_draw" = true)
    (k__law_draw : PySem.W.keepIn K (.ref A__law_draw) = true)
    (n__law_pick : PySem.W.nsIn K mainGlobals "_law_pick" = some (some (.ref A__law_pick)))
    (l__law_pick : K.lookup A__law_pick = some ⟨oc__law_pick, od__law_pick, .func (PySem.W.fnOf "_law_pick" "_law_pick" (defArgs (topS 31)) (defBody (topS 31)) (defScope (topS 31)) .none kV__law_pick dc__law_pick pm__law_pick an__law_pick cd__law_pick ct__law_pick), sl__law_pick⟩)
    (c__law_pick : PySem.W.codeIn K cd__law_pick "_law_pick" = true)
    (k__law_pick : PySem.W.keepIn K (.ref A__law_pick) = true)
    (n__law_same : PySem.W.nsIn K mainGlobals "_law_same" = some (some (.ref A__law_same)))
    (l__law_same : K.lookup A__law_same = some ⟨oc__law_same, od__law_same, .func (PySem.W.fnOf "_law_same" "_law_same" (defArgs (topS 32)) (defBody (topS 32)) (defScope (topS 32)) .none kV__law_same dc__law_same pm__law_same an__law_same cd__law_same ct__law_same), sl__law_same⟩)
    (c__law_same : PySem.W.codeIn K cd__law_same "_law_same" = true)
    (k__law_same : PySem.W.keepIn K (.ref A__law_same) = true)
    (n__law_saying : PySem.W.nsIn K mainGlobals "_law_saying" = some (some (.ref A__law_saying)))
    (l__law_saying : K.lookup A__law_saying = some ⟨oc__law_saying, od__law_saying, .func (PySem.W.fnOf "_law_saying" "_law_saying" (defArgs (topS 33)) (defBody (topS 33)) (defScope (topS 33)) .none kV__law_saying dc__law_saying pm__law_saying an__law_saying cd__law_saying ct__law_saying), sl__law_saying⟩)
    (c__law_saying : PySem.W.codeIn K cd__law_saying "_law_saying" = true)
    (k__law_saying : PySem.W.keepIn K (.ref A__law_saying) = true)
    (n__law_spec : PySem.W.nsIn K mainGlobals "_law_spec" = some (some (.ref A__law_spec)))
    (l__law_spec : K.lookup A__law_spec = some ⟨oc__law_spec, od__law_spec, .func (PySem.W.fnOf "_law_spec" "_law_spec" (defArgs (topS 34)) (defBody (topS 34)) (defScope (topS 34)) .none kV__law_spec dc__law_spec pm__law_spec an__law_spec cd__law_spec ct__law_spec), sl__law_spec⟩)
    (c__law_spec : PySem.W.codeIn K cd__law_spec "_law_spec" = true)
    (k__law_spec : PySem.W.keepIn K (.ref A__law_spec) = true)
    (n__law_made : PySem.W.nsIn K mainGlobals "_law_made" = some (some (.ref A__law_made)))
    (l__law_made : K.lookup A__law_made = some ⟨oc__law_made, od__law_made, .func (PySem.W.fnOf "_law_made" "_law_made" (defArgs (topS 35)) (defBody (topS 35)) (defScope (topS 35)) .none kV__law_made dc__law_made pm__law_made an__law_made cd__law_made ct__law_made), sl__law_made⟩)
    (c__law_made : PySem.W.codeIn K cd__law_made "_law_made" = true)
    (k__law_made : PySem.W.keepIn K (.ref A__law_made) = true)
    (n__law_lines : PySem.W.nsIn K mainGlobals "_law_lines" = some (some (.ref A__law_lines)))
    (l__law_lines : K.lookup A__law_lines = some ⟨oc__law_lines, od__law_lines, .func (PySem.W.fnOf "_law_lines" "_law_lines" (defArgs (topS 36)) (defBody (topS 36)) (defScope (topS 36)) .none kV__law_lines dc__law_lines pm__law_lines an__law_lines cd__law_lines ct__law_lines), sl__law_lines⟩)
    (c__law_lines : PySem.W.codeIn K cd__law_lines "_law_lines" = true)
    (k__law_lines : PySem.W.keepIn K (.ref A__law_lines) = true)
    (n__law_text_of : PySem.W.nsIn K mainGlobals "_law_text_of" = some (some (.ref A__law_text_of)))
    (l__law_text_of : K.lookup A__law_text_of = some ⟨oc__law_text_of, od__law_text_of, .func (PySem.W.fnOf "_law_text_of" "_law_text_of" (defArgs (topS 37)) (defBody (topS 37)) (defScope (topS 37)) .none kV__law_text_of dc__law_text_of pm__law_text_of an__law_text_of cd__law_text_of ct__law_text_of), sl__law_text_of⟩)
    (c__law_text_of : PySem.W.codeIn K cd__law_text_of "_law_text_of" = true)
    (k__law_text_of : PySem.W.keepIn K (.ref A__law_text_of) = true)
    (n_Program_eq : PySem.W.findIn K (.ref C_Program) "__eq__" = some (some (.ref A_Program_eq)))
    (i_Program_eq : PySem.W.isFn K (.ref A_Program_eq) = true)
    (l_Program_eq : K.lookup A_Program_eq = some ⟨oc_Program_eq, od_Program_eq, .func (PySem.W.fnOf "__eq__" "Program.__eq__" (defArgs (inClass (topS 15) 1)) (defBody (inClass (topS 15) 1)) (defScope (inClass (topS 15) 1)) .none kV_Program_eq dc_Program_eq pm_Program_eq an_Program_eq cd_Program_eq ct_Program_eq), sl_Program_eq⟩)
    (c_Program_eq : PySem.W.codeIn K cd_Program_eq "Program.__eq__" = true)
    (k_Program_eq : PySem.W.keepIn K (.ref A_Program_eq) = true)
    (n_law : PySem.W.nsIn K mainGlobals "law" = some (some (.ref A_law)))
    (l_law : K.lookup A_law = some ⟨oc_law, od_law, .func (PySem.W.fnOf "law" "law" (defArgs (topS 38)) (defBody (topS 38)) (defScope (topS 38)) .none kV_law dc_law pm_law an_law cd_law ct_law), sl_law⟩)
    (c_law : PySem.W.codeIn K cd_law "law" = true)
    (k_law : PySem.W.keepIn K (.ref A_law) = true)
    (z_abs : PySem.W.nsIn K mainGlobals "abs" = some none)
    (z_all : PySem.W.nsIn K mainGlobals "all" = some none)
    (z_bool : PySem.W.nsIn K mainGlobals "bool" = some none)
    (z_enumerate : PySem.W.nsIn K mainGlobals "enumerate" = some none)
    (z_int : PySem.W.nsIn K mainGlobals "int" = some none)
    (z_isinstance : PySem.W.nsIn K mainGlobals "isinstance" = some none)
    (z_len : PySem.W.nsIn K mainGlobals "len" = some none)
    (z_list : PySem.W.nsIn K mainGlobals "list" = some none)
    (z_range : PySem.W.nsIn K mainGlobals "range" = some none)
    (z_str : PySem.W.nsIn K mainGlobals "str" = some none)
    (z_tuple : PySem.W.nsIn K mainGlobals "tuple" = some none)
    (kc_MOST_SAID : PySem.W.nsIn K mainGlobals "MOST_SAID" = some (some (.int 4 tk_MOST_SAID)))
    (kc_ALL : PySem.W.nsIn K mainGlobals "ALL" = some (some (.str (Str.ofString "all") tk_ALL)))
    (kc_MOST_STATES : PySem.W.nsIn K mainGlobals "MOST_STATES" = some (some (.int 5 tk_MOST_STATES)))
    (kc_MOST_COLOURS : PySem.W.nsIn K mainGlobals "MOST_COLOURS" = some (some (.int 4 tk_MOST_COLOURS)))
    (kc_DIGITS : PySem.W.nsIn K mainGlobals "DIGITS" = some (some (.str (Str.ofString "0123456789") tk_DIGITS)))
    (kc_MOST_DIGITS : PySem.W.nsIn K mainGlobals "MOST_DIGITS" = some (some (.int 6 tk_MOST_DIGITS)))
    (kc_HEADS : PySem.W.nsIn K mainGlobals "HEADS" = some (some (.ref ta_HEADS)))
    (kl_HEADS : K.lookup ta_HEADS = some ⟨.type "tuple", td_HEADS, .seq #[.str (Str.ofString "first") tt_HEADS_0, .str (Str.ofString "leader") tt_HEADS_1, .str (Str.ofString "lamp") tt_HEADS_2, .str (Str.ofString "end") tt_HEADS_3] tn_HEADS, ts_HEADS⟩)
    (kc_OPEN : PySem.W.nsIn K mainGlobals "OPEN" = some (some (.ref da_OPEN)))
    (kl_OPEN : K.lookup da_OPEN = some ⟨.type "dict", none, .dict de_OPEN dn_OPEN, #[]⟩)
    (kk_OPEN : PySem.W.KeysLit w.params de_OPEN.toList)
    (ks_OPEN : (da_OPEN == sysModules) = false)
    (kg_OPEN_first : PySem.W.nsIn K da_OPEN "first" = some none)
    (kg_OPEN_leader : PySem.W.nsIn K da_OPEN "leader" = some (some (.str (Str.ofString "none") dt_OPEN_leader)))
    (kg_OPEN_lamp : PySem.W.nsIn K da_OPEN "lamp" = some (some (.str (Str.ofString "any") dt_OPEN_lamp)))
    : ∃ T : Tx ⟨K, (tbF C_Program C_LineReader)⟩ mg w, T.a_law = fa ∧ ∀ (s : Shared) (u : Value), BindsTo s T.d_law ⟨[u], []⟩ [("script", u)] := by
  have e := hfa.symm.trans (PySem.W.mg_of X G n_law)
  cases e
  have F_is_number := fun_mk (st := (topS 7)) l_is_number c_is_number k_is_number
  have B_is_number := F_is_number.binds (ps := ["value"]) fun _ _ _ _ _ _ us hl => match us, hl with | [_], _ => rfl
  have F_is_within := fun_mk (st := (topS 8)) l_is_within c_is_within k_is_within
  have B_is_within := F_is_within.binds (ps := ["value", "least", "most"]) fun _ _ _ _ _ _ us hl => match us, hl with | [_, _, _], _ => rfl
  have F_is_word := fun_mk (st := (topS 9)) l_is_word c_is_word k_is_word
  have B_is_word := F_is_word.binds (ps := ["value"]) fun _ _ _ _ _ _ us hl => match us, hl with | [_], _ => rfl
  have F_is_step := fun_mk (st := (topS 13)) l_is_step c_is_step k_is_step
  have B_is_step := F_is_step.binds (ps := ["value", "states", "colours"]) fun _ _ _ _ _ _ us hl => match us, hl with | [_, _, _], _ => rfl
  have F_are_steps := fun_mk (st := (topS 14)) l_are_steps c_are_steps k_are_steps
  have B_are_steps := F_are_steps.binds (ps := ["value"]) fun _ _ _ _ _ _ us hl => match us, hl with | [_], _ => rfl
  have F_step_words := fun_mk (st := (topS 21)) l_step_words c_step_words k_step_words
  have B_step_words := F_step_words.binds (ps := ["step"]) fun _ _ _ _ _ _ us hl => match us, hl with | [_], _ => rfl
  have F_program_text := fun_mk (st := (topS 22)) l_program_text c_program_text k_program_text
  have B_program_text := F_program_text.binds (ps := ["program"]) fun _ _ _ _ _ _ us hl => match us, hl with | [_], _ => rfl
  have F_number_in := fun_mk (st := (topS 23)) l_number_in c_number_in k_number_in
  have B_number_in := F_number_in.binds (ps := ["word"]) fun _ _ _ _ _ _ us hl => match us, hl with | [_], _ => rfl
  have F_is_saying_word := fun_mk (st := (topS 24)) l_is_saying_word c_is_saying_word k_is_saying_word
  have B_is_saying_word := F_is_saying_word.binds (ps := ["word"]) fun _ _ _ _ _ _ us hl => match us, hl with | [_], _ => rfl
  have F_saying_in := fun_mk (st := (topS 25)) l_saying_in c_saying_in k_saying_in
  have B_saying_in := F_saying_in.binds (ps := ["word"]) fun _ _ _ _ _ _ us hl => match us, hl with | [_], _ => rfl
  have F_LineReader_init := fun_mk (st := (inClass (topS 26) 0)) l_LineReader_init c_LineReader_init k_LineReader_init
  have B_LineReader_init := F_LineReader_init.binds (ps := ["self"]) fun _ _ _ _ _ _ us hl => match us, hl with | [_], _ => rfl
  have F_LineReader_takes_row := fun_mk (st := (inClass (topS 26) 2)) l_LineReader_takes_row c_LineReader_takes_row k_LineReader_takes_row
  have B_LineReader_takes_row := F_LineReader_takes_row.binds (ps := ["self", "words"]) fun _ _ _ _ _ _ us hl => match us, hl with | [_, _], _ => rfl
  have F_LineReader_takes := fun_mk (st := (inClass (topS 26) 1)) l_LineReader_takes c_LineReader_takes k_LineReader_takes
  have B_LineReader_takes := F_LineReader_takes.binds (ps := ["self", "words"]) fun _ _ _ _ _ _ us hl => match us, hl with | [_, _], _ => rfl
  have F_Program_init := fun_mk (st := (inClass (topS 15) 0)) l_Program_init c_Program_init k_Program_init
  have B_Program_init := F_Program_init.binds (ps := ["self", "steps", "first", "leader", "lamp"]) fun _ _ _ _ _ _ us hl => match us, hl with | [_, _, _, _, _], _ => rfl
  have F_read_program := fun_mk (st := (topS 27)) l_read_program c_read_program k_read_program
  have B_read_program := F_read_program.binds (ps := ["text"]) fun _ _ _ _ _ _ us hl => match us, hl with | [_], _ => rfl
  have F__law_pot := fun_mk (st := (topS 29)) l__law_pot c__law_pot k__law_pot
  have B__law_pot := F__law_pot.binds (ps := ["script"]) fun _ _ _ _ _ _ us hl => match us, hl with | [_], _ => rfl
  have F__law_draw := fun_mk (st := (topS 30)) l__law_draw c__law_draw k__law_draw
  have B__law_draw := F__law_draw.binds (ps := ["pot", "many"]) fun _ _ _ _ _ _ us hl => match us, hl with | [_, _], _ => rfl
  have F__law_pick := fun_mk (st := (topS 31)) l__law_pick c__law_pick k__law_pick
  have B__law_pick := F__law_pick.binds (ps := ["pot", "row"]) fun _ _ _ _ _ _ us hl => match us, hl with | [_, _], _ => rfl
  have F__law_same := fun_mk (st := (topS 32)) l__law_same c__law_same k__law_same
  have B__law_same := F__law_same.binds (ps := ["found", "due"]) fun _ _ _ _ _ _ us hl => match us, hl with | [_, _], _ => rfl
  have F__law_saying := fun_mk (st := (topS 33)) l__law_saying c__law_saying k__law_saying
  have B__law_saying := F__law_saying.binds (ps := ["pot"]) fun _ _ _ _ _ _ us hl => match us, hl with | [_], _ => rfl
  have F__law_spec := fun_mk (st := (topS 34)) l__law_spec c__law_spec k__law_spec
  have B__law_spec := F__law_spec.binds (ps := ["pot", "most"]) fun _ _ _ _ _ _ us hl => match us, hl with | [_, _], _ => rfl
  have F__law_made := fun_mk (st := (topS 35)) l__law_made c__law_made k__law_made
  have B__law_made := F__law_made.binds (ps := ["spec"]) fun _ _ _ _ _ _ us hl => match us, hl with | [_], _ => rfl
  have F__law_lines := fun_mk (st := (topS 36)) l__law_lines c__law_lines k__law_lines
  have B__law_lines := F__law_lines.binds (ps := ["spec"]) fun _ _ _ _ _ _ us hl => match us, hl with | [_], _ => rfl
  have F__law_text_of := fun_mk (st := (topS 37)) l__law_text_of c__law_text_of k__law_text_of
  have B__law_text_of := F__law_text_of.binds (ps := ["spec"]) fun _ _ _ _ _ _ us hl => match us, hl with | [_], _ => rfl
  have F_Program_eq := fun_mk (st := (inClass (topS 15) 1)) l_Program_eq c_Program_eq k_Program_eq
  have B_Program_eq := F_Program_eq.binds (ps := ["self", "other"]) fun _ _ _ _ _ _ us hl => match us, hl with | [_, _], _ => rfl
  have F_law := fun_mk (st := (topS 38)) l_law c_law k_law
  have B_law := F_law.binds (ps := ["script"]) fun _ _ _ _ _ _ us hl => match us, hl with | [_], _ => rfl
  exact ⟨{
      a_is_number := A_is_number,
      d_is_number := _,
      F_is_number := F_is_number,
      B_is_number := B_is_number,
      m_is_number := PySem.W.mg_of X G n_is_number,
      a_is_within := A_is_within,
      d_is_within := _,
      F_is_within := F_is_within,
      B_is_within := B_is_within,
      m_is_within := PySem.W.mg_of X G n_is_within,
      a_is_word := A_is_word,
      d_is_word := _,
      F_is_word := F_is_word,
      B_is_word := B_is_word,
      m_is_word := PySem.W.mg_of X G n_is_word,
      a_is_step := A_is_step,
      d_is_step := _,
      F_is_step := F_is_step,
      B_is_step := B_is_step,
      m_is_step := PySem.W.mg_of X G n_is_step,
      a_are_steps := A_are_steps,
      d_are_steps := _,
      F_are_steps := F_are_steps,
      B_are_steps := B_are_steps,
      m_are_steps := PySem.W.mg_of X G n_are_steps,
      a_step_words := A_step_words,
      d_step_words := _,
      F_step_words := F_step_words,
      B_step_words := B_step_words,
      m_step_words := PySem.W.mg_of X G n_step_words,
      a_program_text := A_program_text,
      d_program_text := _,
      F_program_text := F_program_text,
      B_program_text := B_program_text,
      m_program_text := PySem.W.mg_of X G n_program_text,
      a_number_in := A_number_in,
      d_number_in := _,
      F_number_in := F_number_in,
      B_number_in := B_number_in,
      m_number_in := PySem.W.mg_of X G n_number_in,
      a_is_saying_word := A_is_saying_word,
      d_is_saying_word := _,
      F_is_saying_word := F_is_saying_word,
      B_is_saying_word := B_is_saying_word,
      m_is_saying_word := PySem.W.mg_of X G n_is_saying_word,
      a_saying_in := A_saying_in,
      d_saying_in := _,
      F_saying_in := F_saying_in,
      B_saying_in := B_saying_in,
      m_saying_in := PySem.W.mg_of X G n_saying_in,
      a_LineReader_init := A_LineReader_init,
      d_LineReader_init := _,
      F_LineReader_init := F_LineReader_init,
      B_LineReader_init := B_LineReader_init,
      mk_LineReader := ⟨mk_LineReader, n_LineReader_init, i_LineReader_init, kc_LineReader⟩,
      a_LineReader_takes_row := A_LineReader_takes_row,
      d_LineReader_takes_row := _,
      F_LineReader_takes_row := F_LineReader_takes_row,
      B_LineReader_takes_row := B_LineReader_takes_row,
      me_LineReader_takes_row := ⟨n_LineReader_takes_row, i_LineReader_takes_row, k_LineReader_takes_row⟩,
      a_LineReader_takes := A_LineReader_takes,
      d_LineReader_takes := _,
      F_LineReader_takes := F_LineReader_takes,
      B_LineReader_takes := B_LineReader_takes,
      me_LineReader_takes := ⟨n_LineReader_takes, i_LineReader_takes, k_LineReader_takes⟩,
      a_Program_init := A_Program_init,
      d_Program_init := _,
      F_Program_init := F_Program_init,
      B_Program_init := B_Program_init,
      mk_Program := ⟨mk_Program, n_Program_init, i_Program_init, kc_Program⟩,
      a_read_program := A_read_program,
      d_read_program := _,
      F_read_program := F_read_program,
      B_read_program := B_read_program,
      m_read_program := PySem.W.mg_of X G n_read_program,
      a__law_pot := A__law_pot,
      d__law_pot := _,
      F__law_pot := F__law_pot,
      B__law_pot := B__law_pot,
      m__law_pot := PySem.W.mg_of X G n__law_pot,
      a__law_draw := A__law_draw,
      d__law_draw := _,
      F__law_draw := F__law_draw,
      B__law_draw := B__law_draw,
      m__law_draw := PySem.W.mg_of X G n__law_draw,
      a__law_pick := A__law_pick,
      d__law_pick := _,
      F__law_pick := F__law_pick,
      B__law_pick := B__law_pick,
      m__law_pick := PySem.W.mg_of X G n__law_pick,
      a__law_same := A__law_same,
      d__law_same := _,
      F__law_same := F__law_same,
      B__law_same := B__law_same,
      m__law_same := PySem.W.mg_of X G n__law_same,
      a__law_saying := A__law_saying,
      d__law_saying := _,
      F__law_saying := F__law_saying,
      B__law_saying := B__law_saying,
      m__law_saying := PySem.W.mg_of X G n__law_saying,
      a__law_spec := A__law_spec,
      d__law_spec := _,
      F__law_spec := F__law_spec,
      B__law_spec := B__law_spec,
      m__law_spec := PySem.W.mg_of X G n__law_spec,
      a__law_made := A__law_made,
      d__law_made := _,
      F__law_made := F__law_made,
      B__law_made := B__law_made,
      m__law_made := PySem.W.mg_of X G n__law_made,
      a__law_lines := A__law_lines,
      d__law_lines := _,
      F__law_lines := F__law_lines,
      B__law_lines := B__law_lines,
      m__law_lines := PySem.W.mg_of X G n__law_lines,
      a__law_text_of := A__law_text_of,
      d__law_text_of := _,
      F__law_text_of := F__law_text_of,
      B__law_text_of := B__law_text_of,
      m__law_text_of := PySem.W.mg_of X G n__law_text_of,
      a_Program_eq := A_Program_eq,
      d_Program_eq := _,
      F_Program_eq := F_Program_eq,
      B_Program_eq := B_Program_eq,
      a_law := fa,
      d_law := _,
      F_law := F_law,
      B_law := B_law,
      m_law := PySem.W.mg_of X G n_law,
      m_Program := PySem.W.mg_of X G n_Program,
      cls_Program := ⟨pg_Program, hd_Program, po_Program, sa_Program⟩,
      m_LineReader := PySem.W.mg_of X G n_LineReader,
      cls_LineReader := ⟨pg_LineReader, hd_LineReader, po_LineReader, sa_LineReader⟩,
      na_first_Program := na_first_Program,
      na_lamp_Program := na_lamp_Program,
      na_last_LineReader := na_last_LineReader,
      na_leader_Program := na_leader_Program,
      na_read_rows_LineReader := na_read_rows_LineReader,
      na_steps_Program := na_steps_Program,
      z_abs := PySem.W.mg_none_of X G z_abs,
      z_all := PySem.W.mg_none_of X G z_all,
      z_bool := PySem.W.mg_none_of X G z_bool,
      z_enumerate := PySem.W.mg_none_of X G z_enumerate,
      z_int := PySem.W.mg_none_of X G z_int,
      z_isinstance := PySem.W.mg_none_of X G z_isinstance,
      z_len := PySem.W.mg_none_of X G z_len,
      z_list := PySem.W.mg_none_of X G z_list,
      z_range := PySem.W.mg_none_of X G z_range,
      z_str := PySem.W.mg_none_of X G z_str,
      z_tuple := PySem.W.mg_none_of X G z_tuple,
      t_MOST_SAID := tk_MOST_SAID,
      k_MOST_SAID := PySem.W.mg_of X G kc_MOST_SAID,
      t_ALL := tk_ALL,
      k_ALL := PySem.W.mg_of X G kc_ALL,
      t_MOST_STATES := tk_MOST_STATES,
      k_MOST_STATES := PySem.W.mg_of X G kc_MOST_STATES,
      t_MOST_COLOURS := tk_MOST_COLOURS,
      k_MOST_COLOURS := PySem.W.mg_of X G kc_MOST_COLOURS,
      t_DIGITS := tk_DIGITS,
      k_DIGITS := PySem.W.mg_of X G kc_DIGITS,
      t_MOST_DIGITS := tk_MOST_DIGITS,
      k_MOST_DIGITS := PySem.W.mg_of X G kc_MOST_DIGITS,
      k_HEADS := ⟨_, _, _, _, PySem.W.mg_of X G kc_HEADS, kl_HEADS, rfl, rfl, by show 4 ≤ sizeLine; decide, .cons ⟨_, rfl⟩ (.cons ⟨_, rfl⟩ (.cons ⟨_, rfl⟩ (.cons ⟨_, rfl⟩ (.nil))))⟩,
      k_OPEN := ⟨_, _, _, PySem.W.mg_of X G kc_OPEN, kl_OPEN, kk_OPEN, ks_OPEN⟩,
      kk_OPEN_first := fun a h => by
        have e := h.symm.trans (PySem.W.mg_of X G kc_OPEN)
        cases e
        exact ⟨_, kg_OPEN_first, rfl⟩,
      kk_OPEN_leader := fun a h => by
        have e := h.symm.trans (PySem.W.mg_of X G kc_OPEN)
        cases e
        exact ⟨_, kg_OPEN_leader, _, rfl⟩,
      kk_OPEN_lamp := fun a h => by
        have e := h.symm.trans (PySem.W.mg_of X G kc_OPEN)
        cases e
        exact ⟨_, kg_OPEN_lamp, _, rfl⟩,
      eqf_Program := n_Program_eq,
      eqn_Program := i_Program_eq,
      nef_Program := ne_Program,
      mro_Program := mro_Program,
      ok_Program := (fun k h => match k, h with
        | .ins c, h => by
          simp only [ok_Program, beq_iff_eq] at h
          subst h
          exact ⟨_, ⟨⟨⟨pg_Program, hd_Program, po_Program, sa_Program⟩, icl_Program, isp_Program, itk_Program, mro_Program⟩, rfl⟩, nf_Program⟩
        | .non, h => by simp only [ok_Program] at h; cases h
        | .bl, h => by simp only [ok_Program] at h; cases h
        | .int, h => by simp only [ok_Program] at h; cases h
        | .str, h => by simp only [ok_Program] at h; cases h
        | .tup, h => by simp only [ok_Program] at h; cases h
        | .lst, h => by simp only [ok_Program] at h; cases h),
      isi_Program := (fun k b h => match k, b, h with
        | .ins c, b, h => by
          simp only [ans_Program] at h
          split at h
          · rename_i hc
            have hc := beq_iff_eq.mp hc
            subst hc
            cases h
            exact ⟨_, ⟨⟨⟨pg_Program, hd_Program, po_Program, sa_Program⟩, icl_Program, isp_Program, itk_Program, mro_Program⟩, rfl⟩, by unfold PySem.W.kitOne; exact if_pos (by simp [TC.val])⟩
          · cases h
        | .non, b, h => by simp only [ans_Program] at h; cases h
        | .bl, b, h => by simp only [ans_Program] at h; cases h
        | .int, b, h => by simp only [ans_Program] at h; cases h
        | .str, b, h => by simp only [ans_Program] at h; cases h
        | .tup, b, h => by simp only [ans_Program] at h; cases h
        | .lst, b, h => by simp only [ans_Program] at h; cases h) }, rfl, fun s v => .of_eq rfl⟩
def spLaw (K : PySem.W.Frag) : Sp := fun vs H Q _ => ∃ (a : Addr) (ns : List Int), vs = [.ref a] ∧ ns.length ≤ 63 ∧ Only H ∧ SqL K H a (ns.map V.int) ∧ ∀ H', Q (.bl true) H'
theorem end_ok {K : PySem.W.Frag} {tb : Nat → Addr} {P : Program} {w : World} {mg : Str → Option Value} {base : Heap} {k : Nat} {f : Addr} {fd : FuncData} {g : F} (h : FnOk P w K mg base (L2.CX P w) k f fd ["script"] (spF ⟨K, tb⟩ g))
    (hg : ∀ ns : List Int, ns.length ≤ 63 → ∃ st, g [.scr ns] [] = .ok (.bl true) st) : FnOk P w K mg base (L2.CX P w) k f fd ["script"] (spLaw K) := h.imp fun vs H Q E q => by
  obtain ⟨a, ns, rfl, hl, hO, hS, q⟩ := q
  obtain ⟨st, e⟩ := hg ns hl
  refine ⟨[], [], [.scr ns], ⟨rfl, List.nodup_nil, fun i a c h _ => by simp at h⟩, ?_, ?_⟩
  · simp only [RVs, RV]
    refine ⟨_, _, rfl, ⟨a, rfl, ?_⟩, rfl⟩
    rcases hS with (hS | ⟨o, hS⟩) | hS
    · rcases hO a with z | ⟨o, xs, z⟩
      · rw [z] at hS; cases hS
      · rw [z] at hS; cases hS
    · exact .inl ⟨o, hS⟩
    · exact .inr hS
  · rw [e]
    intro v m1 H1 _ _ r
    simp only [RV] at r
    subst r
    exact q H1
end K02

set_option Elab.async false
set_option linter.all false
set_option maxRecDepth 100000
set_option maxHeartbeats 4000000
namespace K02
open PySem PySem.Spec PyProof.Rows L2 LF
local macro_rules | `(tactic| walk_at "wp") => `(tactic| repeat (first
  | (with_reducible refine r_seq_nx ?_)
  | (with_reducible refine r_seq_rt ?_)
  | (with_reducible refine r_seq_bk ?_)
  | (with_reducible refine r_seq_ct ?_)
  | (with_reducible refine r_seq_ex ?_)
  | (with_reducible refine r_loop_nx ?_)
  | (with_reducible refine r_loop_rt ?_)
  | (with_reducible refine r_loop_bk ?_)
  | (with_reducible refine r_loop_ct ?_)
  | (with_reducible refine r_loop_ex ?_)
  | (with_reducible refine r_fn_nx ?_)
  | (with_reducible refine r_fn_rt ?_)
  | (with_reducible refine r_fn_ex ?_)
  | (with_reducible refine r_owp_seq ?_)
  | (with_reducible refine r_owp_if ?_)
  | (with_reducible refine r_owp_ret ?_)
  | (with_reducible refine r_owp_expr ?_)
  | (with_reducible refine r_owp_skip ?_)
  | (with_reducible refine r_owp_brk ?_)
  | (with_reducible refine r_owp_cnt ?_)
  | (with_reducible refine r_owp_setIx ?_)
  | (with_reducible refine r_owp_setF ?_)
  | (with_reducible refine r_owp_for ?_)
  | (with_reducible refine r_owp_nx ?_)
  | (with_reducible refine r_owp_rt ?_)
  | (with_reducible refine r_owp_out ?_)
  | (with_reducible refine r_wp_bin ?_)
  | (with_reducible refine r_wp_un ?_)
  | (with_reducible refine r_wp_blt ?_)
  | (with_reducible refine r_wp_cons ?_)
  | (with_reducible refine r_wp_nil ?_)
  | (with_reducible refine r_wp_c ?_)
  | (with_reducible refine r_wp_if ?_)
  | (with_reducible refine q_asB ?_)
  | (with_reducible refine q_tTru ?_)
  | (with_reducible refine r_wp_tAnd ?_)
  | (with_reducible refine r_wp_tOr ?_)
  | (with_reducible refine r_wp_tNot ?_)
  | (with_reducible refine r_wp_tYes ?_)
  | (with_reducible refine q_eAnd ?_)
  | (with_reducible refine q_eOr ?_)
  | (with_reducible refine q_eNot ?_)
  | (with_reducible refine q_chain ?_)
  | (with_reducible refine r_wp_call ?_)
  | (with_reducible refine r_wp_mt ?_)
  | (with_reducible refine q_meth ?_)
  | (with_reducible refine q_make ?_)
  | (with_reducible refine q_fmt ?_)
  | (with_reducible refine r_wp_joinN ?_)
  | (with_reducible refine q_join ?_)
  | (with_reducible refine r_wp_partN ?_)
  | (with_reducible refine q_part ?_)
  | (with_reducible refine r_wp_sl ?_)
  | (with_reducible refine q_iS ?_)
  | (with_reducible refine q_iR1 ?_)
  | (with_reducible refine q_iR2 ?_)
  | (with_reducible refine q_iEn ?_)
  | (with_reducible refine r_onBl ?_)
  | (with_reducible refine r_onInt ?_)
  | (with_reducible refine r_onStr ?_)
  | (with_reducible refine r_onNon ?_)
  | (with_reducible refine r_itT ?_)
  | (with_reducible refine r_itS ?_)
  | (with_reducible refine r_wp_bind ?_)
  | (with_reducible refine r_wp_ofO ?_)
  | (with_reducible refine r_wp_ok ?_)
  | (with_reducible refine r_wo_some ?_)
  | (with_reducible refine w_addI ?_)
  | (with_reducible refine w_sub ?_)
  | (with_reducible refine w_lt ?_)
  | (with_reducible refine w_le ?_)
  | (with_reducible refine w_gt ?_)
  | (with_reducible refine w_ge ?_)
  | (with_reducible refine w_is ?_)
  | (with_reducible refine w_isNot ?_)
  | (with_reducible refine w_lenT ?_)
  | (with_reducible refine w_intI ?_)
  | (with_reducible refine w_strS ?_)
  | (with_reducible refine w_abs ?_)
  | (with_reducible refine w_eqI ?_)
  | (with_reducible refine w_neI ?_)
  | (with_reducible refine w_eqB ?_)
  | (with_reducible refine w_neB ?_)
  | (with_reducible refine w_neg ?_)
  | ((with_reducible refine r_owp_asg ?_); (try dsimp only [List.set]))
  | ((with_reducible refine r_owp_par ?_); (try dsimp only [List.set]))
  | (with_reducible refine r_var (by with_unfolding_all rfl) ?_)
  | (with_reducible refine w_ixL (by assumption) (by with_unfolding_all rfl) ?_)
  | (with_reducible refine w_ixT (by with_unfolding_all rfl) ?_)
  | (with_reducible refine w_lenL (by assumption) ?_)
  | (with_reducible refine w_fld (by assumption) (by with_unfolding_all rfl) (by with_unfolding_all rfl) ?_)
  | (with_reducible refine w_tupleL (by assumption) ?_)
  | (with_reducible refine w_mod (by omega) ?_)
  | (with_reducible refine w_div (by omega) (by omega) ?_)
  | (with_reducible refine w_mul (by omega) ?_)
  | (with_reducible refine w_isiT (by with_unfolding_all rfl) (by decide +kernel) (by with_unfolding_all (intro r h; cases h)) ?_)
  | (with_reducible refine w_isiRT (by assumption) (by with_unfolding_all rfl) (by with_unfolding_all rfl) (by decide +kernel) ?_)
  | (with_reducible refine w_isiCT (by assumption) (by with_unfolding_all rfl) (by with_unfolding_all rfl) (by decide +kernel) ?_)
  | (with_reducible refine w_isiF (by with_unfolding_all rfl) (by decide +kernel) (by with_unfolding_all (intro r h; cases h)) ?_)
  | (with_reducible refine w_isiRF (by assumption) (by with_unfolding_all rfl) (by with_unfolding_all rfl) (by decide +kernel) ?_)
  | (with_reducible refine w_isiCF (by assumption) (by with_unfolding_all rfl) (by with_unfolding_all rfl) (by decide +kernel) ?_)
  | (with_reducible refine r_both (by omega) ?_)
  | (with_reducible refine r_onLst (by assumption) ?_)
  | (with_reducible refine r_itL (by assumption) ?_)
  | (with_reducible refine r_onObj (by assumption) (by with_unfolding_all rfl) ?_)
  | (with_reducible refine r_tT (by first | decide | assumption | (exact tyOk_list (by assumption)) | (exact tyOk_str) | (exact r_decT (by assumption)) | (exact r_decT (by omega)) | (exact r_notT (by assumption)) | (exact r_notT (r_decF (by assumption))) | (exact r_notT (r_decF (by omega))) | omega | (with_unfolding_all rfl) | (simp [isNon]; done) | (simp; omega)) ?_)
  | (with_reducible refine r_tF (by first | decide | assumption | (exact r_decF (by assumption)) | (exact r_decF (by omega)) | (exact r_notF (by assumption)) | (exact r_notF (r_decT (by assumption))) | (exact r_notF (r_decT (by omega))) | omega | (exact r_notF (by with_unfolding_all rfl)) | (simp [isNon]; done) | (simp; omega)) ?_)
  | (with_reducible refine r_bT (by first | decide | assumption | (exact tyOk_list (by assumption)) | (exact tyOk_str) | (exact r_decT (by assumption)) | (exact r_decT (by omega)) | (exact r_notT (by assumption)) | (exact r_notT (r_decF (by assumption))) | (exact r_notT (r_decF (by omega))) | omega | (with_unfolding_all rfl) | (simp [isNon]; done) | (simp; omega)) ?_)
  | (with_reducible refine r_bF (by first | decide | assumption | (exact r_decF (by assumption)) | (exact r_decF (by omega)) | (exact r_notF (by assumption)) | (exact r_notF (r_decT (by assumption))) | (exact r_notF (r_decT (by omega))) | omega | (exact r_notF (by with_unfolding_all rfl)) | (simp [isNon]; done) | (simp; omega)) ?_)
  | (with_reducible refine r_p_iteT (by first | decide | assumption | (exact tyOk_list (by assumption)) | (exact tyOk_str) | (exact r_decT (by assumption)) | (exact r_decT (by omega)) | (exact r_notT (by assumption)) | (exact r_notT (r_decF (by assumption))) | (exact r_notT (r_decF (by omega))) | omega | (with_unfolding_all rfl) | (simp [isNon]; done) | (simp; omega)) ?_)
  | (with_reducible refine r_p_iteF (by first | decide | assumption | (exact r_decF (by assumption)) | (exact r_decF (by omega)) | (exact r_notF (by assumption)) | (exact r_notF (r_decT (by assumption))) | (exact r_notF (r_decT (by omega))) | omega | (exact r_notF (by with_unfolding_all rfl)) | (simp [isNon]; done) | (simp; omega)) ?_)
  | (with_reducible refine r_wp_iteT (by first | decide | assumption | (exact tyOk_list (by assumption)) | (exact tyOk_str) | (exact r_decT (by assumption)) | (exact r_decT (by omega)) | (exact r_notT (by assumption)) | (exact r_notT (r_decF (by assumption))) | (exact r_notT (r_decF (by omega))) | omega | (with_unfolding_all rfl) | (simp [isNon]; done) | (simp; omega)) ?_)
  | (with_reducible refine r_wp_iteF (by first | decide | assumption | (exact r_decF (by assumption)) | (exact r_decF (by omega)) | (exact r_notF (by assumption)) | (exact r_notF (r_decT (by assumption))) | (exact r_notF (r_decT (by omega))) | omega | (exact r_notF (by with_unfolding_all rfl)) | (simp [isNon]; done) | (simp; omega)) ?_)
  | (with_reducible refine r_owp_iteT (by first | decide | assumption | (exact tyOk_list (by assumption)) | (exact tyOk_str) | (exact r_decT (by assumption)) | (exact r_decT (by omega)) | (exact r_notT (by assumption)) | (exact r_notT (r_decF (by assumption))) | (exact r_notT (r_decF (by omega))) | omega | (with_unfolding_all rfl) | (simp [isNon]; done) | (simp; omega)) ?_)
  | (with_reducible refine r_owp_iteF (by first | decide | assumption | (exact r_decF (by assumption)) | (exact r_decF (by omega)) | (exact r_notF (by assumption)) | (exact r_notF (r_decT (by assumption))) | (exact r_notF (r_decT (by omega))) | omega | (exact r_notF (by with_unfolding_all rfl)) | (simp [isNon]; done) | (simp; omega)) ?_)
  ))
local macro_rules | `(tactic| walk_at "fld") => `(tactic| repeat (first
  | (with_reducible refine r_seq_rt ?_)
  | (with_reducible refine r_seq_bk ?_)
  | (with_reducible refine r_seq_ct ?_)
  | (with_reducible refine r_seq_ex ?_)
  | (with_reducible refine r_loop_nx ?_)
  | (with_reducible refine r_loop_rt ?_)
  | (with_reducible refine r_loop_bk ?_)
  | (with_reducible refine r_loop_ct ?_)
  | (with_reducible refine r_loop_ex ?_)
  | (with_reducible refine r_fn_nx ?_)
  | (with_reducible refine r_fn_rt ?_)
  | (with_reducible refine r_fn_ex ?_)
  | (with_reducible refine r_owp_if ?_)
  | (with_reducible refine r_owp_ret ?_)
  | (with_reducible refine r_owp_expr ?_)
  | (with_reducible refine r_owp_skip ?_)
  | (with_reducible refine r_owp_brk ?_)
  | (with_reducible refine r_owp_cnt ?_)
  | (with_reducible refine r_owp_setIx ?_)
  | (with_reducible refine r_owp_setF ?_)
  | (with_reducible refine r_owp_for ?_)
  | (with_reducible refine r_owp_nx ?_)
  | (with_reducible refine r_owp_rt ?_)
  | (with_reducible refine r_owp_out ?_)
  | (with_reducible refine r_wp_bin ?_)
  | (with_reducible refine r_wp_un ?_)
  | (with_reducible refine r_wp_blt ?_)
  | (with_reducible refine r_wp_cons ?_)
  | (with_reducible refine r_wp_nil ?_)
  | (with_reducible refine r_wp_c ?_)
  | (with_reducible refine r_wp_if ?_)
  | (with_reducible refine q_asB ?_)
  | (with_reducible refine q_tTru ?_)
  | (with_reducible refine r_wp_tAnd ?_)
  | (with_reducible refine r_wp_tOr ?_)
  | (with_reducible refine r_wp_tNot ?_)
  | (with_reducible refine r_wp_tYes ?_)
  | (with_reducible refine q_eAnd ?_)
  | (with_reducible refine q_eOr ?_)
  | (with_reducible refine q_eNot ?_)
  | (with_reducible refine q_chain ?_)
  | (with_reducible refine r_wp_call ?_)
  | (with_reducible refine r_wp_mt ?_)
  | (with_reducible refine q_meth ?_)
  | (with_reducible refine q_make ?_)
  | (with_reducible refine q_fmt ?_)
  | (with_reducible refine r_wp_joinN ?_)
  | (with_reducible refine q_join ?_)
  | (with_reducible refine r_wp_partN ?_)
  | (with_reducible refine q_part ?_)
  | (with_reducible refine r_wp_sl ?_)
  | (with_reducible refine q_iS ?_)
  | (with_reducible refine q_iR1 ?_)
  | (with_reducible refine q_iR2 ?_)
  | (with_reducible refine q_iEn ?_)
  | (with_reducible refine r_onBl ?_)
  | (with_reducible refine r_onInt ?_)
  | (with_reducible refine r_onStr ?_)
  | (with_reducible refine r_onNon ?_)
  | (with_reducible refine r_itT ?_)
  | (with_reducible refine r_itS ?_)
  | (with_reducible refine r_wp_bind ?_)
  | (with_reducible refine r_wp_ofO ?_)
  | (with_reducible refine r_wp_ok ?_)
  | (with_reducible refine r_wo_some ?_)
  | (with_reducible refine w_addI ?_)
  | (with_reducible refine w_sub ?_)
  | (with_reducible refine w_lt ?_)
  | (with_reducible refine w_le ?_)
  | (with_reducible refine w_gt ?_)
  | (with_reducible refine w_ge ?_)
  | (with_reducible refine w_is ?_)
  | (with_reducible refine w_isNot ?_)
  | (with_reducible refine w_lenT ?_)
  | (with_reducible refine w_intI ?_)
  | (with_reducible refine w_strS ?_)
  | (with_reducible refine w_abs ?_)
  | (with_reducible refine w_eqI ?_)
  | (with_reducible refine w_neI ?_)
  | (with_reducible refine w_eqB ?_)
  | (with_reducible refine w_neB ?_)
  | (with_reducible refine w_neg ?_)
  | ((with_reducible refine r_owp_asg ?_); (try dsimp only [List.set]))
  | ((with_reducible refine r_owp_par ?_); (try dsimp only [List.set]))
  | (with_reducible refine r_var (by with_unfolding_all rfl) ?_)
  | (with_reducible refine w_ixL (by assumption) (by with_unfolding_all rfl) ?_)
  | (with_reducible refine w_ixT (by with_unfolding_all rfl) ?_)
  | (with_reducible refine w_lenL (by assumption) ?_)
  | (with_reducible refine w_fld (by assumption) (by with_unfolding_all rfl) (by with_unfolding_all rfl) ?_)
  | (with_reducible refine w_tupleL (by assumption) ?_)
  | (with_reducible refine w_mod (by omega) ?_)
  | (with_reducible refine w_div (by omega) (by omega) ?_)
  | (with_reducible refine w_mul (by omega) ?_)
  | (with_reducible refine w_isiT (by with_unfolding_all rfl) (by decide +kernel) (by with_unfolding_all (intro r h; cases h)) ?_)
  | (with_reducible refine w_isiRT (by assumption) (by with_unfolding_all rfl) (by with_unfolding_all rfl) (by decide +kernel) ?_)
  | (with_reducible refine w_isiCT (by assumption) (by with_unfolding_all rfl) (by with_unfolding_all rfl) (by decide +kernel) ?_)
  | (with_reducible refine w_isiF (by with_unfolding_all rfl) (by decide +kernel) (by with_unfolding_all (intro r h; cases h)) ?_)
  | (with_reducible refine w_isiRF (by assumption) (by with_unfolding_all rfl) (by with_unfolding_all rfl) (by decide +kernel) ?_)
  | (with_reducible refine w_isiCF (by assumption) (by with_unfolding_all rfl) (by with_unfolding_all rfl) (by decide +kernel) ?_)
  | (with_reducible refine r_both (by omega) ?_)
  | (with_reducible refine r_onLst (by assumption) ?_)
  | (with_reducible refine r_itL (by assumption) ?_)
  | (with_reducible refine r_onObj (by assumption) (by with_unfolding_all rfl) ?_)
  | (with_reducible refine r_tT (by first | decide | assumption | (exact tyOk_list (by assumption)) | (exact tyOk_str) | (exact r_decT (by assumption)) | (exact r_decT (by omega)) | (exact r_notT (by assumption)) | (exact r_notT (r_decF (by assumption))) | (exact r_notT (r_decF (by omega))) | omega | (with_unfolding_all rfl) | (simp [isNon]; done) | (simp; omega)) ?_)
  | (with_reducible refine r_tF (by first | decide | assumption | (exact r_decF (by assumption)) | (exact r_decF (by omega)) | (exact r_notF (by assumption)) | (exact r_notF (r_decT (by assumption))) | (exact r_notF (r_decT (by omega))) | omega | (exact r_notF (by with_unfolding_all rfl)) | (simp [isNon]; done) | (simp; omega)) ?_)
  | (with_reducible refine r_bT (by first | decide | assumption | (exact tyOk_list (by assumption)) | (exact tyOk_str) | (exact r_decT (by assumption)) | (exact r_decT (by omega)) | (exact r_notT (by assumption)) | (exact r_notT (r_decF (by assumption))) | (exact r_notT (r_decF (by omega))) | omega | (with_unfolding_all rfl) | (simp [isNon]; done) | (simp; omega)) ?_)
  | (with_reducible refine r_bF (by first | decide | assumption | (exact r_decF (by assumption)) | (exact r_decF (by omega)) | (exact r_notF (by assumption)) | (exact r_notF (r_decT (by assumption))) | (exact r_notF (r_decT (by omega))) | omega | (exact r_notF (by with_unfolding_all rfl)) | (simp [isNon]; done) | (simp; omega)) ?_)
  | (with_reducible refine r_p_iteT (by first | decide | assumption | (exact tyOk_list (by assumption)) | (exact tyOk_str) | (exact r_decT (by assumption)) | (exact r_decT (by omega)) | (exact r_notT (by assumption)) | (exact r_notT (r_decF (by assumption))) | (exact r_notT (r_decF (by omega))) | omega | (with_unfolding_all rfl) | (simp [isNon]; done) | (simp; omega)) ?_)
  | (with_reducible refine r_p_iteF (by first | decide | assumption | (exact r_decF (by assumption)) | (exact r_decF (by omega)) | (exact r_notF (by assumption)) | (exact r_notF (r_decT (by assumption))) | (exact r_notF (r_decT (by omega))) | omega | (exact r_notF (by with_unfolding_all rfl)) | (simp [isNon]; done) | (simp; omega)) ?_)
  | (with_reducible refine r_wp_iteT (by first | decide | assumption | (exact tyOk_list (by assumption)) | (exact tyOk_str) | (exact r_decT (by assumption)) | (exact r_decT (by omega)) | (exact r_notT (by assumption)) | (exact r_notT (r_decF (by assumption))) | (exact r_notT (r_decF (by omega))) | omega | (with_unfolding_all rfl) | (simp [isNon]; done) | (simp; omega)) ?_)
  | (with_reducible refine r_wp_iteF (by first | decide | assumption | (exact r_decF (by assumption)) | (exact r_decF (by omega)) | (exact r_notF (by assumption)) | (exact r_notF (r_decT (by assumption))) | (exact r_notF (r_decT (by omega))) | omega | (exact r_notF (by with_unfolding_all rfl)) | (simp [isNon]; done) | (simp; omega)) ?_)
  | (with_reducible refine r_owp_iteT (by first | decide | assumption | (exact tyOk_list (by assumption)) | (exact tyOk_str) | (exact r_decT (by assumption)) | (exact r_decT (by omega)) | (exact r_notT (by assumption)) | (exact r_notT (r_decF (by assumption))) | (exact r_notT (r_decF (by omega))) | omega | (with_unfolding_all rfl) | (simp [isNon]; done) | (simp; omega)) ?_)
  | (with_reducible refine r_owp_iteF (by first | decide | assumption | (exact r_decF (by assumption)) | (exact r_decF (by omega)) | (exact r_notF (by assumption)) | (exact r_notF (r_decT (by assumption))) | (exact r_notF (r_decT (by omega))) | omega | (exact r_notF (by with_unfolding_all rfl)) | (simp [isNon]; done) | (simp; omega)) ?_)
  ))
local macro_rules | `(tactic| walk_at "fn") => `(tactic| (refine wp_fn rfl ?_; dsimp only [List.map_cons, List.map_nil, List.cons_append, List.nil_append, List.replicate, List.map, Nat.reduceSub]))
/-! ### the pot -/
structure Pot (st : Sto) (p : Nat) (q : Nat) (ns : List Int) : Prop where
  ex : ∃ a b c : Int, st[p]? = some (.lst [.ref q, .int a, .int b, .int c]) ∧ 0 ≤ a ∧ 0 ≤ b ∧ b < 2147483647 ∧ 0 ≤ c
  at_q : st[q]? = some (.lst (ns.map D.int))
  ne : q ≠ p
  le : ns.length ≤ 63
  nn : ∀ n ∈ ns, 0 ≤ n
theorem Pot.of {st s : Sto} {p q : Nat} {ns : List Int} (P : Pot st p q ns) {a b c : Int} (h : s[p]? = some (.lst [.ref q, .int a, .int b, .int c])) (k : Chg [p] st s) (ha : 0 ≤ a) (hb : 0 ≤ b) (hb2 : b < 2147483647) (hc : 0 ≤ c) : Pot s p q ns :=
  ⟨⟨a, b, c, h, ha, hb, hb2, hc⟩, k.get (by simpa using P.ne) P.at_q, P.ne, P.le, P.nn⟩
theorem Pot.keep {st s : Sto} {p q : Nat} {ns : List Int} (P : Pot st p q ns) (k : Chg [] st s) : Pot s p q ns := by
  obtain ⟨⟨a, b, c, hp, ha, hb, hb2, hc⟩, hq, hne, hle, hnn⟩ := P
  exact ⟨⟨a, b, c, k.get0 hp, ha, hb, hb2, hc⟩, k.get0 hq, hne, hle, hnn⟩
theorem atI_map {ns : List Int} {a : Int} (h0 : 0 ≤ a) (h1 : a < ns.length) : ∃ x ∈ ns, atI (ns.map D.int) a = some (.int x) := by
  have h2 : a.toNat < ns.length := by omega
  refine ⟨ns[a.toNat], List.getElem_mem h2, ?_⟩
  unfold atI ixN
  rw [if_pos h0, if_pos (by simpa using h1)]
  simp [h2]
theorem law_draw {st : Sto} {p q : Nat} {ns : List Int} {m : Int} (P : Pot st p q ns) (h0 : 1 ≤ m) (h1 : m < 1000) {X : XP} :
    Wp X (fun d s => ∃ r : Nat, d = .int r ∧ (r : Int) < m ∧ Pot s p q ns ∧ Chg [p] st s) (f__law_draw [.ref p, .int m] st) := by
  have P0 := P
  obtain ⟨⟨a, b, c, hp, ha, hb, hb2, hc⟩, hq, hne, hle, hnn⟩ := P
  have hmod : ∀ x : Int, ∃ r : Nat, x % m = r ∧ (r : Int) < m := fun x => ⟨(x % m).toNat, by have := Int.emod_nonneg x (show m ≠ 0 by omega); omega, by have := Int.emod_lt_of_pos x (show 0 < m by omega); have := Int.emod_nonneg x (show m ≠ 0 by omega); omega⟩
  have hm0 : 0 < m := by omega
  have hm1 : m < 1073741824 := by omega
  walk_at "fn"
  unfold b__law_draw
  by_cases c1 : m < 2
  · walk_at "wp"
    exact ⟨0, rfl, by omega, P0, Chg.refl⟩
  by_cases c2 : 0 < c
  · walk_at "wp"
    refine wo_setIx hp (by rfl) fun s hs k => ?_
    walk_at "wp"
    obtain ⟨r, e, hr⟩ := hmod c
    exact ⟨r, by rw [e], hr, P0.of hs k ha hb hb2 (Int.ediv_nonneg hc (by omega)), k⟩
  by_cases c3 : a < (ns.map D.int).length
  · obtain ⟨x, hx, ex⟩ := atI_map (ns := ns) ha (by simpa using c3)
    have hx0 := hnn x hx
    walk_at "wp"
    refine w_ixL hq ex ?_
    walk_at "wp"
    refine wo_setIx hp (by rfl) fun s2 hs2 k => ?_
    walk_at "wp"
    refine w_pow ⟨by decide, by decide, by decide⟩ ?_
    walk_at "wp"
    refine r_owp_ite (fun c4 => ?_) (fun c4 => ?_)
    · walk_at "wp"
      refine wo_setIx hs2 (by rfl) fun s3 hs3 k3 => ?_
      walk_at "wp"
      obtain ⟨r, e, hr⟩ := hmod x
      exact ⟨r, by rw [e], hr, P0.of hs3 (k.trans k3) (by omega) hb hb2 (Int.ediv_nonneg hx0 (by omega)), k.trans k3⟩
    · walk_at "wp"
      refine wo_setIx hs2 (by rfl) fun s9 hs9 k9 => ?_
      walk_at "wp"
      obtain ⟨r, e, hr⟩ := hmod ((b * 48271 + x + 12345) % 2147483647 * ((b * 48271 + x + 12345) % 2147483647) / 64 + (b * 48271 + x + 12345) % 2147483647 / 7)
      exact ⟨r, by rw [e], hr, P0.of hs9 (k.trans k9) (by omega) (by omega) (by omega) hc, (k.trans k9)⟩
  · walk_at "wp"
    refine wo_setIx hp (by rfl) fun s9 hs9 k9 => ?_
    walk_at "wp"
    obtain ⟨r, e, hr⟩ := hmod ((b * 48271 + 0 + 12345) % 2147483647 * ((b * 48271 + 0 + 12345) % 2147483647) / 64 + (b * 48271 + 0 + 12345) % 2147483647 / 7)
    exact ⟨r, by rw [e], hr, P0.of hs9 k9 (by omega) (by omega) (by omega) hc, k9⟩
end K02

set_option Elab.async false
set_option linter.all false
set_option maxRecDepth 100000
set_option maxHeartbeats 4000000
namespace K02
open PySem PySem.Spec PyProof.Rows L2 LF
local macro_rules | `(tactic| walk_at "wp") => `(tactic| repeat (first
  | (with_reducible refine r_seq_nx ?_)
  | (with_reducible refine r_seq_rt ?_)
  | (with_reducible refine r_seq_bk ?_)
  | (with_reducible refine r_seq_ct ?_)
  | (with_reducible refine r_seq_ex ?_)
  | (with_reducible refine r_loop_nx ?_)
  | (with_reducible refine r_loop_rt ?_)
  | (with_reducible refine r_loop_bk ?_)
  | (with_reducible refine r_loop_ct ?_)
  | (with_reducible refine r_loop_ex ?_)
  | (with_reducible refine r_fn_nx ?_)
  | (with_reducible refine r_fn_rt ?_)
  | (with_reducible refine r_fn_ex ?_)
  | (with_reducible refine r_owp_seq ?_)
  | (with_reducible refine r_owp_if ?_)
  | (with_reducible refine r_owp_ret ?_)
  | (with_reducible refine r_owp_expr ?_)
  | (with_reducible refine r_owp_skip ?_)
  | (with_reducible refine r_owp_brk ?_)
  | (with_reducible refine r_owp_cnt ?_)
  | (with_reducible refine r_owp_setIx ?_)
  | (with_reducible refine r_owp_setF ?_)
  | (with_reducible refine r_owp_for ?_)
  | (with_reducible refine r_owp_nx ?_)
  | (with_reducible refine r_owp_rt ?_)
  | (with_reducible refine r_owp_out ?_)
  | (with_reducible refine r_wp_bin ?_)
  | (with_reducible refine r_wp_un ?_)
  | (with_reducible refine r_wp_blt ?_)
  | (with_reducible refine r_wp_cons ?_)
  | (with_reducible refine r_wp_nil ?_)
  | (with_reducible refine r_wp_c ?_)
  | (with_reducible refine r_wp_if ?_)
  | (with_reducible refine q_asB ?_)
  | (with_reducible refine q_tTru ?_)
  | (with_reducible refine r_wp_tAnd ?_)
  | (with_reducible refine r_wp_tOr ?_)
  | (with_reducible refine r_wp_tNot ?_)
  | (with_reducible refine r_wp_tYes ?_)
  | (with_reducible refine q_eAnd ?_)
  | (with_reducible refine q_eOr ?_)
  | (with_reducible refine q_eNot ?_)
  | (with_reducible refine q_chain ?_)
  | (with_reducible refine r_wp_call ?_)
  | (with_reducible refine r_wp_mt ?_)
  | (with_reducible refine q_meth ?_)
  | (with_reducible refine q_make ?_)
  | (with_reducible refine q_fmt ?_)
  | (with_reducible refine r_wp_joinN ?_)
  | (with_reducible refine q_join ?_)
  | (with_reducible refine r_wp_partN ?_)
  | (with_reducible refine q_part ?_)
  | (with_reducible refine r_wp_sl ?_)
  | (with_reducible refine q_iS ?_)
  | (with_reducible refine q_iR1 ?_)
  | (with_reducible refine q_iR2 ?_)
  | (with_reducible refine q_iEn ?_)
  | (with_reducible refine r_onBl ?_)
  | (with_reducible refine r_onInt ?_)
  | (with_reducible refine r_onStr ?_)
  | (with_reducible refine r_onNon ?_)
  | (with_reducible refine r_itT ?_)
  | (with_reducible refine r_itS ?_)
  | (with_reducible refine r_wp_bind ?_)
  | (with_reducible refine r_wp_ofO ?_)
  | (with_reducible refine r_wp_ok ?_)
  | (with_reducible refine r_wo_some ?_)
  | (with_reducible refine w_addI ?_)
  | (with_reducible refine w_sub ?_)
  | (with_reducible refine w_lt ?_)
  | (with_reducible refine w_le ?_)
  | (with_reducible refine w_gt ?_)
  | (with_reducible refine w_ge ?_)
  | (with_reducible refine w_is ?_)
  | (with_reducible refine w_isNot ?_)
  | (with_reducible refine w_lenT ?_)
  | (with_reducible refine w_intI ?_)
  | (with_reducible refine w_strS ?_)
  | (with_reducible refine w_abs ?_)
  | (with_reducible refine w_eqI ?_)
  | (with_reducible refine w_neI ?_)
  | (with_reducible refine w_eqB ?_)
  | (with_reducible refine w_neB ?_)
  | (with_reducible refine w_neg ?_)
  | ((with_reducible refine r_owp_asg ?_); (try dsimp only [List.set]))
  | ((with_reducible refine r_owp_par ?_); (try dsimp only [List.set]))
  | (with_reducible refine r_var (by with_unfolding_all rfl) ?_)
  | (with_reducible refine w_ixL (by assumption) (by with_unfolding_all rfl) ?_)
  | (with_reducible refine w_ixT (by with_unfolding_all rfl) ?_)
  | (with_reducible refine w_lenL (by assumption) ?_)
  | (with_reducible refine w_fld (by assumption) (by with_unfolding_all rfl) (by with_unfolding_all rfl) ?_)
  | (with_reducible refine w_tupleL (by assumption) ?_)
  | (with_reducible refine w_mod (by omega) ?_)
  | (with_reducible refine w_div (by omega) (by omega) ?_)
  | (with_reducible refine w_mul (by omega) ?_)
  | (with_reducible refine w_isiT (by with_unfolding_all rfl) (by decide +kernel) (by with_unfolding_all (intro r h; cases h)) ?_)
  | (with_reducible refine w_isiRT (by assumption) (by with_unfolding_all rfl) (by with_unfolding_all rfl) (by decide +kernel) ?_)
  | (with_reducible refine w_isiCT (by assumption) (by with_unfolding_all rfl) (by with_unfolding_all rfl) (by decide +kernel) ?_)
  | (with_reducible refine w_isiF (by with_unfolding_all rfl) (by decide +kernel) (by with_unfolding_all (intro r h; cases h)) ?_)
  | (with_reducible refine w_isiRF (by assumption) (by with_unfolding_all rfl) (by with_unfolding_all rfl) (by decide +kernel) ?_)
  | (with_reducible refine w_isiCF (by assumption) (by with_unfolding_all rfl) (by with_unfolding_all rfl) (by decide +kernel) ?_)
  | (with_reducible refine r_both (by omega) ?_)
  | (with_reducible refine r_onLst (by assumption) ?_)
  | (with_reducible refine r_itL (by assumption) ?_)
  | (with_reducible refine r_onObj (by assumption) (by with_unfolding_all rfl) ?_)
  | (with_reducible refine r_tT (by first | decide | assumption | (exact tyOk_list (by assumption)) | (exact tyOk_str) | (exact r_decT (by assumption)) | (exact r_decT (by omega)) | (exact r_notT (by assumption)) | (exact r_notT (r_decF (by assumption))) | (exact r_notT (r_decF (by omega))) | omega | (with_unfolding_all rfl) | (simp [isNon]; done) | (simp; omega)) ?_)
  | (with_reducible refine r_tF (by first | decide | assumption | (exact r_decF (by assumption)) | (exact r_decF (by omega)) | (exact r_notF (by assumption)) | (exact r_notF (r_decT (by assumption))) | (exact r_notF (r_decT (by omega))) | omega | (exact r_notF (by with_unfolding_all rfl)) | (simp [isNon]; done) | (simp; omega)) ?_)
  | (with_reducible refine r_bT (by first | decide | assumption | (exact tyOk_list (by assumption)) | (exact tyOk_str) | (exact r_decT (by assumption)) | (exact r_decT (by omega)) | (exact r_notT (by assumption)) | (exact r_notT (r_decF (by assumption))) | (exact r_notT (r_decF (by omega))) | omega | (with_unfolding_all rfl) | (simp [isNon]; done) | (simp; omega)) ?_)
  | (with_reducible refine r_bF (by first | decide | assumption | (exact r_decF (by assumption)) | (exact r_decF (by omega)) | (exact r_notF (by assumption)) | (exact r_notF (r_decT (by assumption))) | (exact r_notF (r_decT (by omega))) | omega | (exact r_notF (by with_unfolding_all rfl)) | (simp [isNon]; done) | (simp; omega)) ?_)
  | (with_reducible refine r_p_iteT (by first | decide | assumption | (exact tyOk_list (by assumption)) | (exact tyOk_str) | (exact r_decT (by assumption)) | (exact r_decT (by omega)) | (exact r_notT (by assumption)) | (exact r_notT (r_decF (by assumption))) | (exact r_notT (r_decF (by omega))) | omega | (with_unfolding_all rfl) | (simp [isNon]; done) | (simp; omega)) ?_)
  | (with_reducible refine r_p_iteF (by first | decide | assumption | (exact r_decF (by assumption)) | (exact r_decF (by omega)) | (exact r_notF (by assumption)) | (exact r_notF (r_decT (by assumption))) | (exact r_notF (r_decT (by omega))) | omega | (exact r_notF (by with_unfolding_all rfl)) | (simp [isNon]; done) | (simp; omega)) ?_)
  | (with_reducible refine r_wp_iteT (by first | decide | assumption | (exact tyOk_list (by assumption)) | (exact tyOk_str) | (exact r_decT (by assumption)) | (exact r_decT (by omega)) | (exact r_notT (by assumption)) | (exact r_notT (r_decF (by assumption))) | (exact r_notT (r_decF (by omega))) | omega | (with_unfolding_all rfl) | (simp [isNon]; done) | (simp; omega)) ?_)
  | (with_reducible refine r_wp_iteF (by first | decide | assumption | (exact r_decF (by assumption)) | (exact r_decF (by omega)) | (exact r_notF (by assumption)) | (exact r_notF (r_decT (by assumption))) | (exact r_notF (r_decT (by omega))) | omega | (exact r_notF (by with_unfolding_all rfl)) | (simp [isNon]; done) | (simp; omega)) ?_)
  | (with_reducible refine r_owp_iteT (by first | decide | assumption | (exact tyOk_list (by assumption)) | (exact tyOk_str) | (exact r_decT (by assumption)) | (exact r_decT (by omega)) | (exact r_notT (by assumption)) | (exact r_notT (r_decF (by assumption))) | (exact r_notT (r_decF (by omega))) | omega | (with_unfolding_all rfl) | (simp [isNon]; done) | (simp; omega)) ?_)
  | (with_reducible refine r_owp_iteF (by first | decide | assumption | (exact r_decF (by assumption)) | (exact r_decF (by omega)) | (exact r_notF (by assumption)) | (exact r_notF (r_decT (by assumption))) | (exact r_notF (r_decT (by omega))) | omega | (exact r_notF (by with_unfolding_all rfl)) | (simp [isNon]; done) | (simp; omega)) ?_)
  ))
local macro_rules | `(tactic| walk_at "fld") => `(tactic| repeat (first
  | (with_reducible refine r_seq_rt ?_)
  | (with_reducible refine r_seq_bk ?_)
  | (with_reducible refine r_seq_ct ?_)
  | (with_reducible refine r_seq_ex ?_)
  | (with_reducible refine r_loop_nx ?_)
  | (with_reducible refine r_loop_rt ?_)
  | (with_reducible refine r_loop_bk ?_)
  | (with_reducible refine r_loop_ct ?_)
  | (with_reducible refine r_loop_ex ?_)
  | (with_reducible refine r_fn_nx ?_)
  | (with_reducible refine r_fn_rt ?_)
  | (with_reducible refine r_fn_ex ?_)
  | (with_reducible refine r_owp_if ?_)
  | (with_reducible refine r_owp_ret ?_)
  | (with_reducible refine r_owp_expr ?_)
  | (with_reducible refine r_owp_skip ?_)
  | (with_reducible refine r_owp_brk ?_)
  | (with_reducible refine r_owp_cnt ?_)
  | (with_reducible refine r_owp_setIx ?_)
  | (with_reducible refine r_owp_setF ?_)
  | (with_reducible refine r_owp_for ?_)
  | (with_reducible refine r_owp_nx ?_)
  | (with_reducible refine r_owp_rt ?_)
  | (with_reducible refine r_owp_out ?_)
  | (with_reducible refine r_wp_bin ?_)
  | (with_reducible refine r_wp_un ?_)
  | (with_reducible refine r_wp_blt ?_)
  | (with_reducible refine r_wp_cons ?_)
  | (with_reducible refine r_wp_nil ?_)
  | (with_reducible refine r_wp_c ?_)
  | (with_reducible refine r_wp_if ?_)
  | (with_reducible refine q_asB ?_)
  | (with_reducible refine q_tTru ?_)
  | (with_reducible refine r_wp_tAnd ?_)
  | (with_reducible refine r_wp_tOr ?_)
  | (with_reducible refine r_wp_tNot ?_)
  | (with_reducible refine r_wp_tYes ?_)
  | (with_reducible refine q_eAnd ?_)
  | (with_reducible refine q_eOr ?_)
  | (with_reducible refine q_eNot ?_)
  | (with_reducible refine q_chain ?_)
  | (with_reducible refine r_wp_call ?_)
  | (with_reducible refine r_wp_mt ?_)
  | (with_reducible refine q_meth ?_)
  | (with_reducible refine q_make ?_)
  | (with_reducible refine q_fmt ?_)
  | (with_reducible refine r_wp_joinN ?_)
  | (with_reducible refine q_join ?_)
  | (with_reducible refine r_wp_partN ?_)
  | (with_reducible refine q_part ?_)
  | (with_reducible refine r_wp_sl ?_)
  | (with_reducible refine q_iS ?_)
  | (with_reducible refine q_iR1 ?_)
  | (with_reducible refine q_iR2 ?_)
  | (with_reducible refine q_iEn ?_)
  | (with_reducible refine r_onBl ?_)
  | (with_reducible refine r_onInt ?_)
  | (with_reducible refine r_onStr ?_)
  | (with_reducible refine r_onNon ?_)
  | (with_reducible refine r_itT ?_)
  | (with_reducible refine r_itS ?_)
  | (with_reducible refine r_wp_bind ?_)
  | (with_reducible refine r_wp_ofO ?_)
  | (with_reducible refine r_wp_ok ?_)
  | (with_reducible refine r_wo_some ?_)
  | (with_reducible refine w_addI ?_)
  | (with_reducible refine w_sub ?_)
  | (with_reducible refine w_lt ?_)
  | (with_reducible refine w_le ?_)
  | (with_reducible refine w_gt ?_)
  | (with_reducible refine w_ge ?_)
  | (with_reducible refine w_is ?_)
  | (with_reducible refine w_isNot ?_)
  | (with_reducible refine w_lenT ?_)
  | (with_reducible refine w_intI ?_)
  | (with_reducible refine w_strS ?_)
  | (with_reducible refine w_abs ?_)
  | (with_reducible refine w_eqI ?_)
  | (with_reducible refine w_neI ?_)
  | (with_reducible refine w_eqB ?_)
  | (with_reducible refine w_neB ?_)
  | (with_reducible refine w_neg ?_)
  | ((with_reducible refine r_owp_asg ?_); (try dsimp only [List.set]))
  | ((with_reducible refine r_owp_par ?_); (try dsimp only [List.set]))
  | (with_reducible refine r_var (by with_unfolding_all rfl) ?_)
  | (with_reducible refine w_ixL (by assumption) (by with_unfolding_all rfl) ?_)
  | (with_reducible refine w_ixT (by with_unfolding_all rfl) ?_)
  | (with_reducible refine w_lenL (by assumption) ?_)
  | (with_reducible refine w_fld (by assumption) (by with_unfolding_all rfl) (by with_unfolding_all rfl) ?_)
  | (with_reducible refine w_tupleL (by assumption) ?_)
  | (with_reducible refine w_mod (by omega) ?_)
  | (with_reducible refine w_div (by omega) (by omega) ?_)
  | (with_reducible refine w_mul (by omega) ?_)
  | (with_reducible refine w_isiT (by with_unfolding_all rfl) (by decide +kernel) (by with_unfolding_all (intro r h; cases h)) ?_)
  | (with_reducible refine w_isiRT (by assumption) (by with_unfolding_all rfl) (by with_unfolding_all rfl) (by decide +kernel) ?_)
  | (with_reducible refine w_isiCT (by assumption) (by with_unfolding_all rfl) (by with_unfolding_all rfl) (by decide +kernel) ?_)
  | (with_reducible refine w_isiF (by with_unfolding_all rfl) (by decide +kernel) (by with_unfolding_all (intro r h; cases h)) ?_)
  | (with_reducible refine w_isiRF (by assumption) (by with_unfolding_all rfl) (by with_unfolding_all rfl) (by decide +kernel) ?_)
  | (with_reducible refine w_isiCF (by assumption) (by with_unfolding_all rfl) (by with_unfolding_all rfl) (by decide +kernel) ?_)
  | (with_reducible refine r_both (by omega) ?_)
  | (with_reducible refine r_onLst (by assumption) ?_)
  | (with_reducible refine r_itL (by assumption) ?_)
  | (with_reducible refine r_onObj (by assumption) (by with_unfolding_all rfl) ?_)
  | (with_reducible refine r_tT (by first | decide | assumption | (exact tyOk_list (by assumption)) | (exact tyOk_str) | (exact r_decT (by assumption)) | (exact r_decT (by omega)) | (exact r_notT (by assumption)) | (exact r_notT (r_decF (by assumption))) | (exact r_notT (r_decF (by omega))) | omega | (with_unfolding_all rfl) | (simp [isNon]; done) | (simp; omega)) ?_)
  | (with_reducible refine r_tF (by first | decide | assumption | (exact r_decF (by assumption)) | (exact r_decF (by omega)) | (exact r_notF (by assumption)) | (exact r_notF (r_decT (by assumption))) | (exact r_notF (r_decT (by omega))) | omega | (exact r_notF (by with_unfolding_all rfl)) | (simp [isNon]; done) | (simp; omega)) ?_)
  | (with_reducible refine r_bT (by first | decide | assumption | (exact tyOk_list (by assumption)) | (exact tyOk_str) | (exact r_decT (by assumption)) | (exact r_decT (by omega)) | (exact r_notT (by assumption)) | (exact r_notT (r_decF (by assumption))) | (exact r_notT (r_decF (by omega))) | omega | (with_unfolding_all rfl) | (simp [isNon]; done) | (simp; omega)) ?_)
  | (with_reducible refine r_bF (by first | decide | assumption | (exact r_decF (by assumption)) | (exact r_decF (by omega)) | (exact r_notF (by assumption)) | (exact r_notF (r_decT (by assumption))) | (exact r_notF (r_decT (by omega))) | omega | (exact r_notF (by with_unfolding_all rfl)) | (simp [isNon]; done) | (simp; omega)) ?_)
  | (with_reducible refine r_p_iteT (by first | decide | assumption | (exact tyOk_list (by assumption)) | (exact tyOk_str) | (exact r_decT (by assumption)) | (exact r_decT (by omega)) | (exact r_notT (by assumption)) | (exact r_notT (r_decF (by assumption))) | (exact r_notT (r_decF (by omega))) | omega | (with_unfolding_all rfl) | (simp [isNon]; done) | (simp; omega)) ?_)
  | (with_reducible refine r_p_iteF (by first | decide | assumption | (exact r_decF (by assumption)) | (exact r_decF (by omega)) | (exact r_notF (by assumption)) | (exact r_notF (r_decT (by assumption))) | (exact r_notF (r_decT (by omega))) | omega | (exact r_notF (by with_unfolding_all rfl)) | (simp [isNon]; done) | (simp; omega)) ?_)
  | (with_reducible refine r_wp_iteT (by first | decide | assumption | (exact tyOk_list (by assumption)) | (exact tyOk_str) | (exact r_decT (by assumption)) | (exact r_decT (by omega)) | (exact r_notT (by assumption)) | (exact r_notT (r_decF (by assumption))) | (exact r_notT (r_decF (by omega))) | omega | (with_unfolding_all rfl) | (simp [isNon]; done) | (simp; omega)) ?_)
  | (with_reducible refine r_wp_iteF (by first | decide | assumption | (exact r_decF (by assumption)) | (exact r_decF (by omega)) | (exact r_notF (by assumption)) | (exact r_notF (r_decT (by assumption))) | (exact r_notF (r_decT (by omega))) | omega | (exact r_notF (by with_unfolding_all rfl)) | (simp [isNon]; done) | (simp; omega)) ?_)
  | (with_reducible refine r_owp_iteT (by first | decide | assumption | (exact tyOk_list (by assumption)) | (exact tyOk_str) | (exact r_decT (by assumption)) | (exact r_decT (by omega)) | (exact r_notT (by assumption)) | (exact r_notT (r_decF (by assumption))) | (exact r_notT (r_decF (by omega))) | omega | (with_unfolding_all rfl) | (simp [isNon]; done) | (simp; omega)) ?_)
  | (with_reducible refine r_owp_iteF (by first | decide | assumption | (exact r_decF (by assumption)) | (exact r_decF (by omega)) | (exact r_notF (by assumption)) | (exact r_notF (r_decT (by assumption))) | (exact r_notF (r_decT (by omega))) | omega | (exact r_notF (by with_unfolding_all rfl)) | (simp [isNon]; done) | (simp; omega)) ?_)
  ))
local macro_rules | `(tactic| walk_at "fn") => `(tactic| (refine wp_fn rfl ?_; dsimp only [List.map_cons, List.map_nil, List.cons_append, List.nil_append, List.replicate, List.map, Nat.reduceSub]))
/-! ### what is drawn -/
inductive Say where
  | no | num (n : Nat) | all
def Say.d : Say → D
  | .no => .non
  | .num n => .int n
  | .all => .str (Str.ofString "all")
def Say.ok : Say → Prop
  | .num n => 1 ≤ n ∧ n ≤ 4
  | _ => True
abbrev Stp := Nat × Nat × Say
def stpD (s : Stp) : D := .tup [.int s.1, .int s.2.1, s.2.2.d]
def rowD (r : List Stp) : D := .tup (r.map stpD)
def stepsD (rs : List (List Stp)) : D := .tup (rs.map rowD)
def optD : Option Nat → D
  | none => .non
  | some n => .int n
structure Prg where
  rows : List (List Stp)
  first : Nat
  leader : Option Nat
  lamp : Option Nat
structure Prg.Ok (g : Prg) (C : Nat) : Prop where
  n1 : 1 ≤ g.rows.length
  n5 : g.rows.length ≤ 5
  c1 : 1 ≤ C
  c4 : C ≤ 4
  row : ∀ r ∈ g.rows, r.length = C
  stp : ∀ r ∈ g.rows, ∀ s ∈ r, s.1 < g.rows.length ∧ s.2.1 < C ∧ s.2.2.ok
  first : g.first < g.rows.length
  leader : ∀ n, g.leader = some n → n < g.rows.length
  lamp : ∀ n, g.lamp = some n → n < C
theorem law_pick {st : Sto} {p q l : Nat} {ns : List Int} {ds : List D} (P : Pot st p q ns) (hl : st[l]? = some (.lst ds)) (h1 : 1 ≤ ds.length) (h2 : ds.length < 1000) (hlp : l ≠ p) {X : XP} :
    Wp X (fun d s => d ∈ ds ∧ Pot s p q ns ∧ Chg [p] st s) (f__law_pick [.ref p, .ref l] st) := by
  walk_at "fn"
  unfold b__law_pick
  walk_at "wp"
  refine (law_draw P (by omega) (by omega)).mono ?_
  rintro _ s ⟨r, rfl, hr, P1, k⟩
  have hl1 := k.get (by simpa using hlp) hl
  walk_at "wp"
  have hr2 : r < ds.length := by omega
  refine w_ixL (d := ds[r]) hl1 ?_ ?_
  · unfold atI ixN
    rw [if_pos (by omega), if_pos (by omega)]
    simp
  · exact ⟨List.getElem_mem hr2, P1, k⟩
theorem law_saying {st : Sto} {p q : Nat} {ns : List Int} (P : Pot st p q ns) {X : XP} :
    Wp X (fun d s => ∃ y : Say, y.ok ∧ d = y.d ∧ Pot s p q ns ∧ Chg [p] st s) (f__law_saying [.ref p] st) := by
  have hp := P.ex
  obtain ⟨a, b, c, hp, _⟩ := hp
  walk_at "fn"
  unfold b__law_saying
  walk_at "wp"
  refine wo_lst (by simp [LIM]) fun r s hr hn k => ?_
  walk_at "wp"
  refine (law_pick (P.keep k) hr (by decide) (by decide) (fun e => by subst e; rw [hp] at hn; cases hn)).mono ?_
  rintro d s1 ⟨hd, P1, k1⟩
  walk_at "wp"
  simp only [List.mem_cons, List.not_mem_nil, or_false] at hd
  have kk : Chg [p] st s1 := k.up.trans k1
  rcases hd with rfl | rfl | rfl | rfl | rfl | rfl | rfl | rfl | rfl
  · exact ⟨.no, trivial, rfl, P1, kk⟩
  · exact ⟨.no, trivial, rfl, P1, kk⟩
  · exact ⟨.no, trivial, rfl, P1, kk⟩
  · exact ⟨.no, trivial, rfl, P1, kk⟩
  · exact ⟨.num 1, by simp [Say.ok], rfl, P1, kk⟩
  · exact ⟨.num 2, by simp [Say.ok], rfl, P1, kk⟩
  · exact ⟨.num 3, by simp [Say.ok], rfl, P1, kk⟩
  · exact ⟨.num 4, by simp [Say.ok], rfl, P1, kk⟩
  · exact ⟨.all, trivial, rfl, P1, kk⟩
theorem rng_get {n i : Nat} {d : D} (h : (rngI 0 n)[i]? = some d) : i < n ∧ d = .int i := by
  unfold rngI at h
  rw [List.getElem?_map] at h
  by_cases hi : i < n
  · rw [List.getElem?_range hi] at h
    simp at h
    exact ⟨hi, h.symm⟩
  · rw [List.getElem?_eq_none (by simpa using hi)] at h
    cases h
theorem rng_len {n : Nat} {lo : Int} : (rngI lo n).length = n := by simp [rngI]
theorem law_spec {st : Sto} {p q m : Nat} {ns : List Int} (P : Pot st p q ns) (hm : st[m]? = some (.lst [.int 5, .int 4])) (hmp : m ≠ p) {X : XP} :
    Wp X (fun d s => ∃ (g : Prg) (C r : Nat), g.Ok C ∧ d = .ref r ∧ s[r]? = some (.lst [stepsD g.rows, .int g.first, optD g.leader, optD g.lamp]) ∧ st[r]? = none ∧ Pot s p q ns ∧ Chg [p] st s) (f__law_spec [.ref p, .ref m] st) := by
  have hp : ∃ c, st[p]? = some c := by obtain ⟨a, b, c, hp, _⟩ := P.ex; exact ⟨_, hp⟩
  walk_at "fn"
  unfold b__law_spec
  walk_at "wp"
  refine (law_draw P (by omega) (by omega)).mono ?_
  rintro _ s1 ⟨a, rfl, ha, P1, k1⟩
  have hm1 := k1.get (by simpa using hmp) hm
  walk_at "wp"
  refine (law_draw P1 (by omega) (by omega)).mono ?_

  rintro _ s2 ⟨b, rfl, hb, P2, k2⟩
  walk_at "wp"
  refine wo_lst (by simp [LIM]) fun R s3 hR hRn k3 => ?_
  walk_at "wp"
  refine owp_forS (fun i e s => ∃ (rows : List (List Stp)) (x5 x6 x7 : Option D), rows.length = i ∧ (∀ r ∈ rows, r.length = 1 + b ∧ ∀ z ∈ r, z.1 < 1 + a ∧ z.2.1 < 1 + b ∧ z.2.2.ok) ∧ e = [some (.ref p), some (.ref m), some (.int (1 + a)), some (.int (1 + b)), some (.ref R), x5, x6, x7, none] ∧ s[R]? = some (.lst (rows.map rowD)) ∧ Pot s p q ns ∧ Chg [p] st s) ?_ ?_ ⟨[], none, none, none, rfl, by simp, rfl, hR, P2.keep k3, (k1.trans k2).trans k3.up⟩
  · rintro i d e s hd ⟨rows, x5, x6, x7, hl, hrows, rfl, hRs, Ps, ks⟩
    obtain ⟨hi, rfl⟩ := rng_get hd
    refine ⟨okB_none, _, rfl, ?_⟩
    dsimp only [List.set]
    walk_at "wp"
    refine wo_lst (by simp [LIM]) fun Q t1 hQ hQn j1 => ?_
    walk_at "wp"
    refine owp_forS (fun j e s' => ∃ (row : List Stp) (y7 : Option D), row.length = j ∧ (∀ z ∈ row, z.1 < 1 + a ∧ z.2.1 < 1 + b ∧ z.2.2.ok) ∧ e = [some (.ref p), some (.ref m), some (.int (1 + a)), some (.int (1 + b)), some (.ref R), some (.int i), some (.ref Q), y7, none] ∧ s'[Q]? = some (.lst (row.map stpD)) ∧ s'[R]? = some (.lst (rows.map rowD)) ∧ Pot s' p q ns ∧ Chg [p] s s') ?_ ?_ ⟨[], x7, rfl, by simp, rfl, hQ, j1.get0 hRs, Ps.keep j1, j1.up⟩
    · rintro j d e s' hd2 ⟨row, y7, hrl, hrow, rfl, hQ', hR', P', k'⟩
      obtain ⟨hj, rfl⟩ := rng_get hd2
      have hQp : Q ≠ p := fun z => by obtain ⟨_, _, _, hpp, _⟩ := Ps.ex; subst z; rw [hpp] at hQn; cases hQn
      have hRp : R ≠ p := fun z => by obtain ⟨_, _, _, hpp, _⟩ := P2.ex; subst z; rw [hpp] at hRn; cases hRn
      have hRQ : R ≠ Q := fun z => by subst z; rw [hRs] at hQn; cases hQn
      refine ⟨okB_none, _, rfl, ?_⟩
      dsimp only [List.set]
      walk_at "wp"
      refine (law_draw P' (by omega) (by omega)).mono ?_
      rintro _ v1 ⟨c1, rfl, hc1, Q1, l1⟩
      walk_at "wp"
      refine (law_draw Q1 (by omega) (by omega)).mono ?_
      rintro _ v2 ⟨c2, rfl, hc2, Q2, l2⟩
      walk_at "wp"
      refine (law_saying Q2).mono ?_
      rintro _ v3 ⟨y, hy, rfl, Q3, l3⟩
      walk_at "wp"
      refine w_tup (by simp [LIM]) ?_
      walk_at "wp"
      have hl3 := (l1.trans l2).trans l3
      refine wo_append (hl3.get (by simpa using hQp) hQ') (by simp [LIM]; omega) fun v4 hv4 l4 => ?_
      walk_at "wp"
      have hall := k'.trans hl3
      exact ⟨row ++ [(c1, c2, y)], some (.int j), by simp [hrl], by
        intro z hz
        rcases List.mem_append.mp hz with hz | hz
        · exact hrow z hz
        · rw [List.mem_singleton.mp hz]
          exact ⟨by show c1 < _; omega, by show c2 < _; omega, hy⟩, rfl, by simpa [stpD] using hv4, l4.get (by simpa using hRQ) (hl3.get (by simpa using hRp) hR'), by
          obtain ⟨⟨x1, x2, x3, hp1, r1, r2, r3, r4⟩, hq1, n1, n2, n3⟩ := Q3
          exact ⟨⟨x1, x2, x3, l4.get (by simpa using fun z => hQp z.symm) hp1, r1, r2, r3, r4⟩, l4.get (by simp; intro z; subst z; rw [Ps.at_q] at hQn; cases hQn) hq1, n1, n2, n3⟩, hall.new hQn (l4.wide (by simp))⟩
    · rintro e s' ⟨row, y7, hrl, hrow, rfl, hQ', hR', P', k'⟩
      rw [rng_len] at hrl
      refine ⟨okB_none, ?_⟩
      walk_at "wp"
      have hRn0 : st[R]? = none := by
        rcases h : st[R]? with _ | c
        · rfl
        · by_cases z : R = p
          · subst z; obtain ⟨_, _, _, hpp, _⟩ := P2.ex; rw [hpp] at hRn; cases hRn
          · rw [(k1.trans k2).get (by simpa using z) h] at hRn; cases hRn
      have hRp : R ≠ p := fun z => by obtain ⟨_, _, _, hpp, _⟩ := P2.ex; subst z; rw [hpp] at hRn; cases hRn
      refine wo_append hR' (by simp [LIM, hl]; omega) fun v4 hv4 l4 => ?_
      walk_at "wp"
      exact ⟨rows ++ [row], some (.int i), some (.ref Q), y7, by simp [hl], by
        intro r hr
        rcases List.mem_append.mp hr with hr | hr
        · exact hrows r hr
        · rw [List.mem_singleton.mp hr]
          exact ⟨by omega, hrow⟩, rfl, by simpa [rowD] using hv4, by
          obtain ⟨⟨x1, x2, x3, hp1, r1, r2, r3, r4⟩, hq1, n1, n2, n3⟩ := P'
          exact ⟨⟨x1, x2, x3, l4.get (by simpa using fun z => hRp z.symm) hp1, r1, r2, r3, r4⟩, l4.get (by simp; intro z; subst z; rw [P2.at_q] at hRn; cases hRn) hq1, n1, n2, n3⟩, (ks.trans k').new hRn0 (l4.wide (by simp))⟩
  · rintro e s ⟨rows, x5, x6, x7, hl, hrows, rfl, hRs, Ps, ks⟩
    rw [rng_len] at hl
    refine ⟨okB_none, ?_⟩
    have hRp : R ≠ p := fun z => by obtain ⟨_, _, _, hpp, _⟩ := P2.ex; subst z; rw [hpp] at hRn; cases hRn
    walk_at "wp"
    refine (law_draw Ps (by omega) (by omega)).mono ?_
    rintro _ v1 ⟨c1, rfl, hc1, Q1, l1⟩
    walk_at "wp"
    refine wo_lst (by simp [LIM]) fun L1 v2 hL1 hL1n l2 => ?_
    walk_at "wp"
    refine (law_pick (Q1.keep l2) hL1 (by simp) (by simp) (fun z => by obtain ⟨_, _, _, hpp, _⟩ := Q1.ex; subst z; rw [hpp] at hL1n; cases hL1n)).mono ?_
    rintro ld v3 ⟨hld, Q3, l3⟩
    have hR3 := ((l1.trans l2.up).trans l3).get (by simpa using hRp) hRs
    walk_at "wp"
    refine (law_draw Q3 (by omega) (by omega)).mono ?_
    rintro _ v4 ⟨c4, rfl, hc4, Q4, l4⟩
    walk_at "wp"
    refine (law_draw Q4 (by omega) (by omega)).mono ?_
    rintro _ v5 ⟨c5, rfl, hc5, Q5, l5⟩
    walk_at "wp"
    refine (law_draw Q5 (by omega) (by omega)).mono ?_
    rintro _ v6 ⟨c6, rfl, hc6, Q6, l6⟩
    walk_at "wp"
    refine wo_lst (by simp [LIM]) fun L2 v7 hL2 hL2n l7 => ?_
    walk_at "wp"
    refine (law_pick (Q6.keep l7) hL2 (by simp) (by simp) (fun z => by obtain ⟨_, _, _, hpp, _⟩ := Q6.ex; subst z; rw [hpp] at hL2n; cases hL2n)).mono ?_
    rintro lm v8 ⟨hlm, Q8, l8⟩
    walk_at "wp"
    refine wo_lst (by simp [LIM]) fun L v9 hL hLn l9 => ?_
    walk_at "wp"
    have hall : Chg [p] st v8 := (((((((ks.trans l1).trans l2.up).trans l3).trans l4).trans l5).trans l6).trans l7.up).trans l8
    obtain ⟨ldo, hldo, hldb⟩ : ∃ o : Option Nat, ld = optD o ∧ ∀ n, o = some n → n < 1 + a := by
      simp only [List.mem_cons, List.not_mem_nil, or_false] at hld
      rcases hld with rfl | rfl | rfl
      · exact ⟨none, rfl, by simp⟩
      · exact ⟨none, rfl, by simp⟩
      · exact ⟨some c1, rfl, by rintro n ⟨⟩; omega⟩
    obtain ⟨lmo, hlmo, hlmb⟩ : ∃ o : Option Nat, lm = optD o ∧ ∀ n, o = some n → n < 1 + b := by
      simp only [List.mem_cons, List.not_mem_nil, or_false] at hlm
      rcases hlm with rfl | rfl | rfl
      · exact ⟨none, rfl, by simp⟩
      · exact ⟨some c5, rfl, by rintro n ⟨⟩; omega⟩
      · exact ⟨some c6, rfl, by rintro n ⟨⟩; omega⟩
    subst hldo hlmo
    have hla : rows.length = 1 + a := by omega
    refine ⟨⟨rows, c4, ldo, lmo⟩, 1 + b, L, ⟨by simp [hla], by simp [hla]; omega, by omega, by omega, fun r hr => (hrows r hr).1, fun r hr z hz => by simpa [hla] using (hrows r hr).2 z hz, by show c4 < rows.length; omega, by simpa [hla] using hldb, hlmb⟩, rfl, hL, ?_, Q8.keep l9, hall.trans l9.up⟩
    rcases h : st[L]? with _ | c
    · rfl
    · by_cases z : L = p
      · subst z; obtain ⟨_, _, _, hpp, _⟩ := Q8.ex; rw [hpp] at hLn; cases hLn
      · rw [hall.get (by simpa using z) h] at hLn; cases hLn
end K02

set_option Elab.async false
set_option linter.all false
set_option maxRecDepth 100000
set_option maxHeartbeats 4000000
namespace K02
open PySem PySem.Spec PyProof.Rows L2 LF
local macro_rules | `(tactic| walk_at "wp") => `(tactic| repeat (first
  | (with_reducible refine r_seq_nx ?_)
  | (with_reducible refine r_seq_rt ?_)
  | (with_reducible refine r_seq_bk ?_)
  | (with_reducible refine r_seq_ct ?_)
  | (with_reducible refine r_seq_ex ?_)
  | (with_reducible refine r_loop_nx ?_)
  | (with_reducible refine r_loop_rt ?_)
  | (with_reducible refine r_loop_bk ?_)
  | (with_reducible refine r_loop_ct ?_)
  | (with_reducible refine r_loop_ex ?_)
  | (with_reducible refine r_fn_nx ?_)
  | (with_reducible refine r_fn_rt ?_)
  | (with_reducible refine r_fn_ex ?_)
  | (with_reducible refine r_owp_seq ?_)
  | (with_reducible refine r_owp_if ?_)
  | (with_reducible refine r_owp_ret ?_)
  | (with_reducible refine r_owp_expr ?_)
  | (with_reducible refine r_owp_skip ?_)
  | (with_reducible refine r_owp_brk ?_)
  | (with_reducible refine r_owp_cnt ?_)
  | (with_reducible refine r_owp_setIx ?_)
  | (with_reducible refine r_owp_setF ?_)
  | (with_reducible refine r_owp_for ?_)
  | (with_reducible refine r_owp_nx ?_)
  | (with_reducible refine r_owp_rt ?_)
  | (with_reducible refine r_owp_out ?_)
  | (with_reducible refine r_wp_bin ?_)
  | (with_reducible refine r_wp_un ?_)
  | (with_reducible refine r_wp_blt ?_)
  | (with_reducible refine r_wp_cons ?_)
  | (with_reducible refine r_wp_nil ?_)
  | (with_reducible refine r_wp_c ?_)
  | (with_reducible refine r_wp_if ?_)
  | (with_reducible refine q_asB ?_)
  | (with_reducible refine q_tTru ?_)
  | (with_reducible refine r_wp_tAnd ?_)
  | (with_reducible refine r_wp_tOr ?_)
  | (with_reducible refine r_wp_tNot ?_)
  | (with_reducible refine r_wp_tYes ?_)
  | (with_reducible refine q_eAnd ?_)
  | (with_reducible refine q_eOr ?_)
  | (with_reducible refine q_eNot ?_)
  | (with_reducible refine q_chain ?_)
  | (with_reducible refine r_wp_call ?_)
  | (with_reducible refine r_wp_mt ?_)
  | (with_reducible refine q_meth ?_)
  | (with_reducible refine q_make ?_)
  | (with_reducible refine q_fmt ?_)
  | (with_reducible refine r_wp_joinN ?_)
  | (with_reducible refine q_join ?_)
  | (with_reducible refine r_wp_partN ?_)
  | (with_reducible refine q_part ?_)
  | (with_reducible refine r_wp_sl ?_)
  | (with_reducible refine q_iS ?_)
  | (with_reducible refine q_iR1 ?_)
  | (with_reducible refine q_iR2 ?_)
  | (with_reducible refine q_iEn ?_)
  | (with_reducible refine r_onBl ?_)
  | (with_reducible refine r_onInt ?_)
  | (with_reducible refine r_onStr ?_)
  | (with_reducible refine r_onNon ?_)
  | (with_reducible refine r_itT ?_)
  | (with_reducible refine r_itS ?_)
  | (with_reducible refine r_wp_bind ?_)
  | (with_reducible refine r_wp_ofO ?_)
  | (with_reducible refine r_wp_ok ?_)
  | (with_reducible refine r_wo_some ?_)
  | (with_reducible refine w_addI ?_)
  | (with_reducible refine w_sub ?_)
  | (with_reducible refine w_lt ?_)
  | (with_reducible refine w_le ?_)
  | (with_reducible refine w_gt ?_)
  | (with_reducible refine w_ge ?_)
  | (with_reducible refine w_is ?_)
  | (with_reducible refine w_isNot ?_)
  | (with_reducible refine w_lenT ?_)
  | (with_reducible refine w_intI ?_)
  | (with_reducible refine w_strS ?_)
  | (with_reducible refine w_abs ?_)
  | (with_reducible refine w_eqI ?_)
  | (with_reducible refine w_neI ?_)
  | (with_reducible refine w_eqB ?_)
  | (with_reducible refine w_neB ?_)
  | (with_reducible refine w_neg ?_)
  | ((with_reducible refine r_owp_asg ?_); (try dsimp only [List.set]))
  | ((with_reducible refine r_owp_par ?_); (try dsimp only [List.set]))
  | (with_reducible refine r_var (by with_unfolding_all rfl) ?_)
  | (with_reducible refine w_ixL (by assumption) (by with_unfolding_all rfl) ?_)
  | (with_reducible refine w_ixT (by with_unfolding_all rfl) ?_)
  | (with_reducible refine w_lenL (by assumption) ?_)
  | (with_reducible refine w_fld (by assumption) (by with_unfolding_all rfl) (by with_unfolding_all rfl) ?_)
  | (with_reducible refine w_tupleL (by assumption) ?_)
  | (with_reducible refine w_mod (by omega) ?_)
  | (with_reducible refine w_div (by omega) (by omega) ?_)
  | (with_reducible refine w_mul (by omega) ?_)
  | (with_reducible refine w_isiT (by with_unfolding_all rfl) (by decide +kernel) (by with_unfolding_all (intro r h; cases h)) ?_)
  | (with_reducible refine w_isiRT (by assumption) (by with_unfolding_all rfl) (by with_unfolding_all rfl) (by decide +kernel) ?_)
  | (with_reducible refine w_isiCT (by assumption) (by with_unfolding_all rfl) (by with_unfolding_all rfl) (by decide +kernel) ?_)
  | (with_reducible refine w_isiF (by with_unfolding_all rfl) (by decide +kernel) (by with_unfolding_all (intro r h; cases h)) ?_)
  | (with_reducible refine w_isiRF (by assumption) (by with_unfolding_all rfl) (by with_unfolding_all rfl) (by decide +kernel) ?_)
  | (with_reducible refine w_isiCF (by assumption) (by with_unfolding_all rfl) (by with_unfolding_all rfl) (by decide +kernel) ?_)
  | (with_reducible refine r_both (by omega) ?_)
  | (with_reducible refine r_onLst (by assumption) ?_)
  | (with_reducible refine r_itL (by assumption) ?_)
  | (with_reducible refine r_onObj (by assumption) (by with_unfolding_all rfl) ?_)
  | (with_reducible refine r_tT (by first | decide | assumption | (exact tyOk_list (by assumption)) | (exact tyOk_str) | (exact r_decT (by assumption)) | (exact r_decT (by omega)) | (exact r_notT (by assumption)) | (exact r_notT (r_decF (by assumption))) | (exact r_notT (r_decF (by omega))) | omega | (with_unfolding_all rfl) | (simp [isNon]; done) | (simp; omega)) ?_)
  | (with_reducible refine r_tF (by first | decide | assumption | (exact r_decF (by assumption)) | (exact r_decF (by omega)) | (exact r_notF (by assumption)) | (exact r_notF (r_decT (by assumption))) | (exact r_notF (r_decT (by omega))) | omega | (exact r_notF (by with_unfolding_all rfl)) | (simp [isNon]; done) | (simp; omega)) ?_)
  | (with_reducible refine r_bT (by first | decide | assumption | (exact tyOk_list (by assumption)) | (exact tyOk_str) | (exact r_decT (by assumption)) | (exact r_decT (by omega)) | (exact r_notT (by assumption)) | (exact r_notT (r_decF (by assumption))) | (exact r_notT (r_decF (by omega))) | omega | (with_unfolding_all rfl) | (simp [isNon]; done) | (simp; omega)) ?_)
  | (with_reducible refine r_bF (by first | decide | assumption | (exact r_decF (by assumption)) | (exact r_decF (by omega)) | (exact r_notF (by assumption)) | (exact r_notF (r_decT (by assumption))) | (exact r_notF (r_decT (by omega))) | omega | (exact r_notF (by with_unfolding_all rfl)) | (simp [isNon]; done) | (simp; omega)) ?_)
  | (with_reducible refine r_p_iteT (by first | decide | assumption | (exact tyOk_list (by assumption)) | (exact tyOk_str) | (exact r_decT (by assumption)) | (exact r_decT (by omega)) | (exact r_notT (by assumption)) | (exact r_notT (r_decF (by assumption))) | (exact r_notT (r_decF (by omega))) | omega | (with_unfolding_all rfl) | (simp [isNon]; done) | (simp; omega)) ?_)
  | (with_reducible refine r_p_iteF (by first | decide | assumption | (exact r_decF (by assumption)) | (exact r_decF (by omega)) | (exact r_notF (by assumption)) | (exact r_notF (r_decT (by assumption))) | (exact r_notF (r_decT (by omega))) | omega | (exact r_notF (by with_unfolding_all rfl)) | (simp [isNon]; done) | (simp; omega)) ?_)
  | (with_reducible refine r_wp_iteT (by first | decide | assumption | (exact tyOk_list (by assumption)) | (exact tyOk_str) | (exact r_decT (by assumption)) | (exact r_decT (by omega)) | (exact r_notT (by assumption)) | (exact r_notT (r_decF (by assumption))) | (exact r_notT (r_decF (by omega))) | omega | (with_unfolding_all rfl) | (simp [isNon]; done) | (simp; omega)) ?_)
  | (with_reducible refine r_wp_iteF (by first | decide | assumption | (exact r_decF (by assumption)) | (exact r_decF (by omega)) | (exact r_notF (by assumption)) | (exact r_notF (r_decT (by assumption))) | (exact r_notF (r_decT (by omega))) | omega | (exact r_notF (by with_unfolding_all rfl)) | (simp [isNon]; done) | (simp; omega)) ?_)
  | (with_reducible refine r_owp_iteT (by first | decide | assumption | (exact tyOk_list (by assumption)) | (exact tyOk_str) | (exact r_decT (by assumption)) | (exact r_decT (by omega)) | (exact r_notT (by assumption)) | (exact r_notT (r_decF (by assumption))) | (exact r_notT (r_decF (by omega))) | omega | (with_unfolding_all rfl) | (simp [isNon]; done) | (simp; omega)) ?_)
  | (with_reducible refine r_owp_iteF (by first | decide | assumption | (exact r_decF (by assumption)) | (exact r_decF (by omega)) | (exact r_notF (by assumption)) | (exact r_notF (r_decT (by assumption))) | (exact r_notF (r_decT (by omega))) | omega | (exact r_notF (by with_unfolding_all rfl)) | (simp [isNon]; done) | (simp; omega)) ?_)
  ))
local macro_rules | `(tactic| walk_at "fld") => `(tactic| repeat (first
  | (with_reducible refine r_seq_rt ?_)
  | (with_reducible refine r_seq_bk ?_)
  | (with_reducible refine r_seq_ct ?_)
  | (with_reducible refine r_seq_ex ?_)
  | (with_reducible refine r_loop_nx ?_)
  | (with_reducible refine r_loop_rt ?_)
  | (with_reducible refine r_loop_bk ?_)
  | (with_reducible refine r_loop_ct ?_)
  | (with_reducible refine r_loop_ex ?_)
  | (with_reducible refine r_fn_nx ?_)
  | (with_reducible refine r_fn_rt ?_)
  | (with_reducible refine r_fn_ex ?_)
  | (with_reducible refine r_owp_if ?_)
  | (with_reducible refine r_owp_ret ?_)
  | (with_reducible refine r_owp_expr ?_)
  | (with_reducible refine r_owp_skip ?_)
  | (with_reducible refine r_owp_brk ?_)
  | (with_reducible refine r_owp_cnt ?_)
  | (with_reducible refine r_owp_setIx ?_)
  | (with_reducible refine r_owp_setF ?_)
  | (with_reducible refine r_owp_for ?_)
  | (with_reducible refine r_owp_nx ?_)
  | (with_reducible refine r_owp_rt ?_)
  | (with_reducible refine r_owp_out ?_)
  | (with_reducible refine r_wp_bin ?_)
  | (with_reducible refine r_wp_un ?_)
  | (with_reducible refine r_wp_blt ?_)
  | (with_reducible refine r_wp_cons ?_)
  | (with_reducible refine r_wp_nil ?_)
  | (with_reducible refine r_wp_c ?_)
  | (with_reducible refine r_wp_if ?_)
  | (with_reducible refine q_asB ?_)
  | (with_reducible refine q_tTru ?_)
  | (with_reducible refine r_wp_tAnd ?_)
  | (with_reducible refine r_wp_tOr ?_)
  | (with_reducible refine r_wp_tNot ?_)
  | (with_reducible refine r_wp_tYes ?_)
  | (with_reducible refine q_eAnd ?_)
  | (with_reducible refine q_eOr ?_)
  | (with_reducible refine q_eNot ?_)
  | (with_reducible refine q_chain ?_)
  | (with_reducible refine r_wp_call ?_)
  | (with_reducible refine r_wp_mt ?_)
  | (with_reducible refine q_meth ?_)
  | (with_reducible refine q_make ?_)
  | (with_reducible refine q_fmt ?_)
  | (with_reducible refine r_wp_joinN ?_)
  | (with_reducible refine q_join ?_)
  | (with_reducible refine r_wp_partN ?_)
  | (with_reducible refine q_part ?_)
  | (with_reducible refine r_wp_sl ?_)
  | (with_reducible refine q_iS ?_)
  | (with_reducible refine q_iR1 ?_)
  | (with_reducible refine q_iR2 ?_)
  | (with_reducible refine q_iEn ?_)
  | (with_reducible refine r_onBl ?_)
  | (with_reducible refine r_onInt ?_)
  | (with_reducible refine r_onStr ?_)
  | (with_reducible refine r_onNon ?_)
  | (with_reducible refine r_itT ?_)
  | (with_reducible refine r_itS ?_)
  | (with_reducible refine r_wp_bind ?_)
  | (with_reducible refine r_wp_ofO ?_)
  | (with_reducible refine r_wp_ok ?_)
  | (with_reducible refine r_wo_some ?_)
  | (with_reducible refine w_addI ?_)
  | (with_reducible refine w_sub ?_)
  | (with_reducible refine w_lt ?_)
  | (with_reducible refine w_le ?_)
  | (with_reducible refine w_gt ?_)
  | (with_reducible refine w_ge ?_)
  | (with_reducible refine w_is ?_)
  | (with_reducible refine w_isNot ?_)
  | (with_reducible refine w_lenT ?_)
  | (with_reducible refine w_intI ?_)
  | (with_reducible refine w_strS ?_)
  | (with_reducible refine w_abs ?_)
  | (with_reducible refine w_eqI ?_)
  | (with_reducible refine w_neI ?_)
  | (with_reducible refine w_eqB ?_)
  | (with_reducible refine w_neB ?_)
  | (with_reducible refine w_neg ?_)
  | ((with_reducible refine r_owp_asg ?_); (try dsimp only [List.set]))
  | ((with_reducible refine r_owp_par ?_); (try dsimp only [List.set]))
  | (with_reducible refine r_var (by with_unfolding_all rfl) ?_)
  | (with_reducible refine w_ixL (by assumption) (by with_unfolding_all rfl) ?_)
  | (with_reducible refine w_ixT (by with_unfolding_all rfl) ?_)
  | (with_reducible refine w_lenL (by assumption) ?_)
  | (with_reducible refine w_fld (by assumption) (by with_unfolding_all rfl) (by with_unfolding_all rfl) ?_)
  | (with_reducible refine w_tupleL (by assumption) ?_)
  | (with_reducible refine w_mod (by omega) ?_)
  | (with_reducible refine w_div (by omega) (by omega) ?_)
  | (with_reducible refine w_mul (by omega) ?_)
  | (with_reducible refine w_isiT (by with_unfolding_all rfl) (by decide +kernel) (by with_unfolding_all (intro r h; cases h)) ?_)
  | (with_reducible refine w_isiRT (by assumption) (by with_unfolding_all rfl) (by with_unfolding_all rfl) (by decide +kernel) ?_)
  | (with_reducible refine w_isiCT (by assumption) (by with_unfolding_all rfl) (by with_unfolding_all rfl) (by decide +kernel) ?_)
  | (with_reducible refine w_isiF (by with_unfolding_all rfl) (by decide +kernel) (by with_unfolding_all (intro r h; cases h)) ?_)
  | (with_reducible refine w_isiRF (by assumption) (by with_unfolding_all rfl) (by with_unfolding_all rfl) (by decide +kernel) ?_)
  | (with_reducible refine w_isiCF (by assumption) (by with_unfolding_all rfl) (by with_unfolding_all rfl) (by decide +kernel) ?_)
  | (with_reducible refine r_both (by omega) ?_)
  | (with_reducible refine r_onLst (by assumption) ?_)
  | (with_reducible refine r_itL (by assumption) ?_)
  | (with_reducible refine r_onObj (by assumption) (by with_unfolding_all rfl) ?_)
  | (with_reducible refine r_tT (by first | decide | assumption | (exact tyOk_list (by assumption)) | (exact tyOk_str) | (exact r_decT (by assumption)) | (exact r_decT (by omega)) | (exact r_notT (by assumption)) | (exact r_notT (r_decF (by assumption))) | (exact r_notT (r_decF (by omega))) | omega | (with_unfolding_all rfl) | (simp [isNon]; done) | (simp; omega)) ?_)
  | (with_reducible refine r_tF (by first | decide | assumption | (exact r_decF (by assumption)) | (exact r_decF (by omega)) | (exact r_notF (by assumption)) | (exact r_notF (r_decT (by assumption))) | (exact r_notF (r_decT (by omega))) | omega | (exact r_notF (by with_unfolding_all rfl)) | (simp [isNon]; done) | (simp; omega)) ?_)
  | (with_reducible refine r_bT (by first | decide | assumption | (exact tyOk_list (by assumption)) | (exact tyOk_str) | (exact r_decT (by assumption)) | (exact r_decT (by omega)) | (exact r_notT (by assumption)) | (exact r_notT (r_decF (by assumption))) | (exact r_notT (r_decF (by omega))) | omega | (with_unfolding_all rfl) | (simp [isNon]; done) | (simp; omega)) ?_)
  | (with_reducible refine r_bF (by first | decide | assumption | (exact r_decF (by assumption)) | (exact r_decF (by omega)) | (exact r_notF (by assumption)) | (exact r_notF (r_decT (by assumption))) | (exact r_notF (r_decT (by omega))) | omega | (exact r_notF (by with_unfolding_all rfl)) | (simp [isNon]; done) | (simp; omega)) ?_)
  | (with_reducible refine r_p_iteT (by first | decide | assumption | (exact tyOk_list (by assumption)) | (exact tyOk_str) | (exact r_decT (by assumption)) | (exact r_decT (by omega)) | (exact r_notT (by assumption)) | (exact r_notT (r_decF (by assumption))) | (exact r_notT (r_decF (by omega))) | omega | (with_unfolding_all rfl) | (simp [isNon]; done) | (simp; omega)) ?_)
  | (with_reducible refine r_p_iteF (by first | decide | assumption | (exact r_decF (by assumption)) | (exact r_decF (by omega)) | (exact r_notF (by assumption)) | (exact r_notF (r_decT (by assumption))) | (exact r_notF (r_decT (by omega))) | omega | (exact r_notF (by with_unfolding_all rfl)) | (simp [isNon]; done) | (simp; omega)) ?_)
  | (with_reducible refine r_wp_iteT (by first | decide | assumption | (exact tyOk_list (by assumption)) | (exact tyOk_str) | (exact r_decT (by assumption)) | (exact r_decT (by omega)) | (exact r_notT (by assumption)) | (exact r_notT (r_decF (by assumption))) | (exact r_notT (r_decF (by omega))) | omega | (with_unfolding_all rfl) | (simp [isNon]; done) | (simp; omega)) ?_)
  | (with_reducible refine r_wp_iteF (by first | decide | assumption | (exact r_decF (by assumption)) | (exact r_decF (by omega)) | (exact r_notF (by assumption)) | (exact r_notF (r_decT (by assumption))) | (exact r_notF (r_decT (by omega))) | omega | (exact r_notF (by with_unfolding_all rfl)) | (simp [isNon]; done) | (simp; omega)) ?_)
  | (with_reducible refine r_owp_iteT (by first | decide | assumption | (exact tyOk_list (by assumption)) | (exact tyOk_str) | (exact r_decT (by assumption)) | (exact r_decT (by omega)) | (exact r_notT (by assumption)) | (exact r_notT (r_decF (by assumption))) | (exact r_notT (r_decF (by omega))) | omega | (with_unfolding_all rfl) | (simp [isNon]; done) | (simp; omega)) ?_)
  | (with_reducible refine r_owp_iteF (by first | decide | assumption | (exact r_decF (by assumption)) | (exact r_decF (by omega)) | (exact r_notF (by assumption)) | (exact r_notF (r_decT (by assumption))) | (exact r_notF (r_decT (by omega))) | omega | (exact r_notF (by with_unfolding_all rfl)) | (simp [isNon]; done) | (simp; omega)) ?_)
  ))
local macro_rules | `(tactic| walk_at "fn") => `(tactic| (refine wp_fn rfl ?_; dsimp only [List.map_cons, List.map_nil, List.cons_append, List.nil_append, List.replicate, List.map, Nat.reduceSub]))
/-! ### programs are kept -/
theorem is_number_int {i : Int} {st : Sto} {X : XP} : Wp X (fun d s => d = .bl true ∧ s = st) (f_is_number [.int i] st) := by
  walk_at "fn"
  unfold b_is_number
  walk_at "wp"
  exact ⟨rfl, rfl⟩
theorem is_number_str {i : Str} {st : Sto} {X : XP} : Wp X (fun d s => d = .bl false ∧ s = st) (f_is_number [.str i] st) := by
  walk_at "fn"
  unfold b_is_number
  walk_at "wp"
  exact ⟨rfl, rfl⟩
theorem is_within {i a b : Int} {st : Sto} {X : XP} : Wp X (fun d s => d = .bl (decide (a ≤ i) && decide (i ≤ b)) ∧ s = st) (f_is_within [.int i, .int a, .int b] st) := by
  walk_at "fn"
  unfold b_is_within
  walk_at "wp"
  refine is_number_int.mono ?_
  rintro _ _ ⟨rfl, rfl⟩
  walk_at "wp"
  refine r_bSplit (fun h => ?_) (fun h => ?_)
  · walk_at "wp"
    exact ⟨by simp [h], rfl⟩
  · walk_at "wp"
    exact ⟨by simp [h], rfl⟩
theorem is_within_str {i : Str} {a b : Int} {st : Sto} {X : XP} : Wp X (fun d s => d = .bl false ∧ s = st) (f_is_within [.str i, .int a, .int b] st) := by
  walk_at "fn"
  unfold b_is_within
  walk_at "wp"
  refine is_number_str.mono ?_
  rintro _ _ ⟨rfl, rfl⟩
  walk_at "wp"
  exact ⟨rfl, rfl⟩
theorem all_ok : PyData.strOk (Str.ofString "all") = true := by decide +kernel
theorem is_word_ok {y : Say} (h0 : y ≠ .no) (hy : y.ok) {st : Sto} {X : XP} : Wp X (fun d s => d = .bl true ∧ s = st) (f_is_word [y.d] st) := by
  walk_at "fn"
  unfold b_is_word
  cases y with
  | no => exact (h0 rfl).elim
  | num n =>
    simp only [Say.d]
    walk_at "wp"
    refine is_within.mono ?_
    rintro _ _ ⟨rfl, rfl⟩
    have := hy.1
    have := hy.2
    have e : (decide ((1 : Int) ≤ n) && decide ((n : Int) ≤ 4)) = true := by simp; omega
    rw [e]
    walk_at "wp"
    exact ⟨rfl, rfl⟩
  | all =>
    simp only [Say.d]
    walk_at "wp"
    refine is_within_str.mono ?_
    rintro _ _ ⟨rfl, rfl⟩
    walk_at "wp"
    refine w_eqS all_ok all_ok ?_
    walk_at "wp"
    exact ⟨by simp, rfl⟩
theorem is_step_ok {z : Stp} {S C : Nat} (h1 : z.1 < S) (h2 : z.2.1 < C) (h3 : z.2.2.ok) {st : Sto} {X : XP} : Wp X (fun d s => d = .bl true ∧ s = st) (f_is_step [stpD z, .int S, .int C] st) := by
  obtain ⟨a, b, y⟩ := z
  simp only at h1 h2 h3
  unfold stpD
  walk_at "fn"
  unfold b_is_step
  walk_at "wp"
  refine is_within.mono ?_
  rintro _ _ ⟨rfl, rfl⟩
  rw [show (decide ((0 : Int) ≤ a) && decide ((a : Int) ≤ S - 1)) = true by simp; omega]
  walk_at "wp"
  refine is_within.mono ?_
  rintro _ _ ⟨rfl, rfl⟩
  rw [show (decide ((0 : Int) ≤ b) && decide ((b : Int) ≤ C - 1)) = true by simp; omega]
  walk_at "wp"
  cases y with
  | no =>
    simp only [Say.d]
    walk_at "wp"
    exact ⟨rfl, rfl⟩
  | num n =>
    refine r_tF (by simp [isNon, Say.d]) ?_
    walk_at "wp"
    refine (is_word_ok (y := .num n) (by simp) h3).mono ?_
    rintro _ _ ⟨rfl, rfl⟩
    walk_at "wp"
    exact ⟨rfl, rfl⟩
  | all =>
    refine r_tF (by simp [isNon, Say.d]) ?_
    walk_at "wp"
    refine (is_word_ok (y := .all) (by simp) h3).mono ?_
    rintro _ _ ⟨rfl, rfl⟩
    walk_at "wp"
    exact ⟨rfl, rfl⟩
/-- a comprehension whose answers are all true -/
theorem all_true {r : Nat} {ds : List D} {st : Sto} {Q : D → Sto → Prop} (hr : st[r]? = some (.lst (ds.filterMap fun _ => some (.bl true)))) (h : Q (.bl true) st) : Wo Q (opAll [.ref r] st) := by
  have e : ∀ l : List D, bools (l.filterMap fun _ => some (.bl true)) = some (l.map fun _ => true) := by
    intro l
    induction l with
    | nil => rfl
    | cons d l ih =>
      show (bools (l.filterMap fun _ => some (.bl true))).map (true :: ·) = _
      rw [ih]; rfl
  simp only [opAll, hr, e]
  refine r_wo_some ?_
  rw [show (List.map (fun _ => true) ds).all id = true by simp]
  exact h
theorem are_steps_ok {g : Prg} {C : Nat} (hg : g.Ok C) {st : Sto} {X : XP} : Wp X (fun d s => d = .bl true ∧ Chg [] st s) (f_are_steps [stepsD g.rows] st) := by
  have n1 := hg.n1
  have n5 := hg.n5
  have c1 := hg.c1
  have c4 := hg.c4
  have hrow := hg.row
  have hstp := hg.stp
  clear hg
  obtain ⟨rows, fs, ld, lm⟩ := g
  simp only at n1 n5 hrow hstp ⊢
  cases rows with
  | nil => simp at n1
  | cons r0 rs =>
  have h0 := hrow r0 (by simp)
  have n5' : rs.length + 1 ≤ 5 := by simpa using n5
  unfold stepsD
  walk_at "fn"
  unfold b_are_steps
  walk_at "wp"
  refine wp_lc ?_
  walk_at "wp"
  refine ⟨fun _ => some (.bl true), fun _ _ => okB_none, by simp [LIM]; simp at n5; omega, ?_, ?_⟩
  · intro d hd s hs
    obtain ⟨r, hr, rfl⟩ := List.mem_map.mp (show d ∈ (r0 :: rs).map rowD from hd)
    have hr1 := hrow r hr
    refine ⟨_, rfl, ?_⟩
    dsimp only [wipeD, List.set, rowD]
    walk_at "wp"
    exact ⟨by simp; omega, Chg.refl⟩
  intro L s1 hL hLn k1
  walk_at "wp"
  refine all_true hL ?_
  walk_at "wp"
  refine owp_forS (fun i e s => ∃ x1 x2, e = [some (.tup ((r0 :: rs).map rowD)), x1, x2] ∧ Chg [] st s) ?_ ?_ ⟨_, _, rfl, k1⟩
  · rintro i d e s hd ⟨x1, x2, rfl, ks⟩
    obtain ⟨r, hr, rfl⟩ := List.mem_map.mp (show d ∈ (r0 :: rs).map rowD from List.mem_of_getElem? hd)
    have hr1 := hrow r hr
    refine ⟨okB_none, _, rfl, ?_⟩
    dsimp only [List.set, rowD]
    walk_at "wp"
    refine w_ixT atI0 ?_
    simp only [rowD]
    walk_at "wp"
    refine wp_lc ?_
    walk_at "wp"
    refine ⟨fun _ => some (.bl true), fun _ _ => okB_none, by simp [LIM]; omega, ?_, ?_⟩
    · intro d hd s2 hs2
      obtain ⟨z, hz, rfl⟩ := List.mem_map.mp hd
      have hz1 := hstp r hr z hz
      refine ⟨_, rfl, ?_⟩
      dsimp only [wipeD, List.set]
      walk_at "wp"
      simp only [List.length_map]
      rw [hr1]
      refine (is_step_ok hz1.1 hz1.2.1 hz1.2.2).mono ?_
      rintro _ _ ⟨rfl, rfl⟩
      exact ⟨rfl, Chg.refl⟩
    intro L2 s2 hL2 hL2n k2
    walk_at "wp"
    refine all_true hL2 ?_
    walk_at "wp"
    exact ⟨_, _, rfl, ks.trans k2⟩
  · rintro e s ⟨x1, x2, rfl, ks⟩
    refine ⟨okB_none, ?_⟩
    walk_at "wp"
    exact ⟨rfl, ks⟩
end K02

set_option Elab.async false
set_option linter.all false
set_option maxRecDepth 100000
set_option maxHeartbeats 4000000
namespace K02
open PySem PySem.Spec PyProof.Rows L2 LF
local macro_rules | `(tactic| walk_at "wp") => `(tactic| repeat (first
  | (with_reducible refine r_seq_nx ?_)
  | (with_reducible refine r_seq_rt ?_)
  | (with_reducible refine r_seq_bk ?_)
  | (with_reducible refine r_seq_ct ?_)
  | (with_reducible refine r_seq_ex ?_)
  | (with_reducible refine r_loop_nx ?_)
  | (with_reducible refine r_loop_rt ?_)
  | (with_reducible refine r_loop_bk ?_)
  | (with_reducible refine r_loop_ct ?_)
  | (with_reducible refine r_loop_ex ?_)
  | (with_reducible refine r_fn_nx ?_)
  | (with_reducible refine r_fn_rt ?_)
  | (with_reducible refine r_fn_ex ?_)
  | (with_reducible refine r_owp_seq ?_)
  | (with_reducible refine r_owp_if ?_)
  | (with_reducible refine r_owp_ret ?_)
  | (with_reducible refine r_owp_expr ?_)
  | (with_reducible refine r_owp_skip ?_)
  | (with_reducible refine r_owp_brk ?_)
  | (with_reducible refine r_owp_cnt ?_)
  | (with_reducible refine r_owp_setIx ?_)
  | (with_reducible refine r_owp_setF ?_)
  | (with_reducible refine r_owp_for ?_)
  | (with_reducible refine r_owp_nx ?_)
  | (with_reducible refine r_owp_rt ?_)
  | (with_reducible refine r_owp_out ?_)
  | (with_reducible refine r_wp_bin ?_)
  | (with_reducible refine r_wp_un ?_)
  | (with_reducible refine r_wp_blt ?_)
  | (with_reducible refine r_wp_cons ?_)
  | (with_reducible refine r_wp_nil ?_)
  | (with_reducible refine r_wp_c ?_)
  | (with_reducible refine r_wp_if ?_)
  | (with_reducible refine q_asB ?_)
  | (with_reducible refine q_tTru ?_)
  | (with_reducible refine r_wp_tAnd ?_)
  | (with_reducible refine r_wp_tOr ?_)
  | (with_reducible refine r_wp_tNot ?_)
  | (with_reducible refine r_wp_tYes ?_)
  | (with_reducible refine q_eAnd ?_)
  | (with_reducible refine q_eOr ?_)
  | (with_reducible refine q_eNot ?_)
  | (with_reducible refine q_chain ?_)
  | (with_reducible refine r_wp_call ?_)
  | (with_reducible refine r_wp_mt ?_)
  | (with_reducible refine q_meth ?_)
  | (with_reducible refine q_make ?_)
  | (with_reducible refine q_fmt ?_)
  | (with_reducible refine r_wp_joinN ?_)
  | (with_reducible refine q_join ?_)
  | (with_reducible refine r_wp_partN ?_)
  | (with_reducible refine q_part ?_)
  | (with_reducible refine r_wp_sl ?_)
  | (with_reducible refine q_iS ?_)
  | (with_reducible refine q_iR1 ?_)
  | (with_reducible refine q_iR2 ?_)
  | (with_reducible refine q_iEn ?_)
  | (with_reducible refine r_onBl ?_)
  | (with_reducible refine r_onInt ?_)
  | (with_reducible refine r_onStr ?_)
  | (with_reducible refine r_onNon ?_)
  | (with_reducible refine r_itT ?_)
  | (with_reducible refine r_itS ?_)
  | (with_reducible refine r_wp_bind ?_)
  | (with_reducible refine r_wp_ofO ?_)
  | (with_reducible refine r_wp_ok ?_)
  | (with_reducible refine r_wo_some ?_)
  | (with_reducible refine w_addI ?_)
  | (with_reducible refine w_sub ?_)
  | (with_reducible refine w_lt ?_)
  | (with_reducible refine w_le ?_)
  | (with_reducible refine w_gt ?_)
  | (with_reducible refine w_ge ?_)
  | (with_reducible refine w_is ?_)
  | (with_reducible refine w_isNot ?_)
  | (with_reducible refine w_lenT ?_)
  | (with_reducible refine w_intI ?_)
  | (with_reducible refine w_strS ?_)
  | (with_reducible refine w_abs ?_)
  | (with_reducible refine w_eqI ?_)
  | (with_reducible refine w_neI ?_)
  | (with_reducible refine w_eqB ?_)
  | (with_reducible refine w_neB ?_)
  | (with_reducible refine w_neg ?_)
  | ((with_reducible refine r_owp_asg ?_); (try dsimp only [List.set]))
  | ((with_reducible refine r_owp_par ?_); (try dsimp only [List.set]))
  | (with_reducible refine r_var (by with_unfolding_all rfl) ?_)
  | (with_reducible refine w_ixL (by assumption) (by with_unfolding_all rfl) ?_)
  | (with_reducible refine w_ixT (by with_unfolding_all rfl) ?_)
  | (with_reducible refine w_lenL (by assumption) ?_)
  | (with_reducible refine w_fld (by assumption) (by with_unfolding_all rfl) (by with_unfolding_all rfl) ?_)
  | (with_reducible refine w_tupleL (by assumption) ?_)
  | (with_reducible refine w_mod (by omega) ?_)
  | (with_reducible refine w_div (by omega) (by omega) ?_)
  | (with_reducible refine w_mul (by omega) ?_)
  | (with_reducible refine w_isiT (by with_unfolding_all rfl) (by decide +kernel) (by with_unfolding_all (intro r h; cases h)) ?_)
  | (with_reducible refine w_isiRT (by assumption) (by with_unfolding_all rfl) (by with_unfolding_all rfl) (by decide +kernel) ?_)
  | (with_reducible refine w_isiCT (by assumption) (by with_unfolding_all rfl) (by with_unfolding_all rfl) (by decide +kernel) ?_)
  | (with_reducible refine w_isiF (by with_unfolding_all rfl) (by decide +kernel) (by with_unfolding_all (intro r h; cases h)) ?_)
  | (with_reducible refine w_isiRF (by assumption) (by with_unfolding_all rfl) (by with_unfolding_all rfl) (by decide +kernel) ?_)
  | (with_reducible refine w_isiCF (by assumption) (by with_unfolding_all rfl) (by with_unfolding_all rfl) (by decide +kernel) ?_)
  | (with_reducible refine r_both (by omega) ?_)
  | (with_reducible refine r_onLst (by assumption) ?_)
  | (with_reducible refine r_itL (by assumption) ?_)
  | (with_reducible refine r_onObj (by assumption) (by with_unfolding_all rfl) ?_)
  | (with_reducible refine r_tT (by first | decide | assumption | (exact tyOk_list (by assumption)) | (exact tyOk_str) | (exact r_decT (by assumption)) | (exact r_decT (by omega)) | (exact r_notT (by assumption)) | (exact r_notT (r_decF (by assumption))) | (exact r_notT (r_decF (by omega))) | omega | (with_unfolding_all rfl) | (simp [isNon]; done) | (simp; omega)) ?_)
  | (with_reducible refine r_tF (by first | decide | assumption | (exact r_decF (by assumption)) | (exact r_decF (by omega)) | (exact r_notF (by assumption)) | (exact r_notF (r_decT (by assumption))) | (exact r_notF (r_decT (by omega))) | omega | (exact r_notF (by with_unfolding_all rfl)) | (simp [isNon]; done) | (simp; omega)) ?_)
  | (with_reducible refine r_bT (by first | decide | assumption | (exact tyOk_list (by assumption)) | (exact tyOk_str) | (exact r_decT (by assumption)) | (exact r_decT (by omega)) | (exact r_notT (by assumption)) | (exact r_notT (r_decF (by assumption))) | (exact r_notT (r_decF (by omega))) | omega | (with_unfolding_all rfl) | (simp [isNon]; done) | (simp; omega)) ?_)
  | (with_reducible refine r_bF (by first | decide | assumption | (exact r_decF (by assumption)) | (exact r_decF (by omega)) | (exact r_notF (by assumption)) | (exact r_notF (r_decT (by assumption))) | (exact r_notF (r_decT (by omega))) | omega | (exact r_notF (by with_unfolding_all rfl)) | (simp [isNon]; done) | (simp; omega)) ?_)
  | (with_reducible refine r_p_iteT (by first | decide | assumption | (exact tyOk_list (by assumption)) | (exact tyOk_str) | (exact r_decT (by assumption)) | (exact r_decT (by omega)) | (exact r_notT (by assumption)) | (exact r_notT (r_decF (by assumption))) | (exact r_notT (r_decF (by omega))) | omega | (with_unfolding_all rfl) | (simp [isNon]; done) | (simp; omega)) ?_)
  | (with_reducible refine r_p_iteF (by first | decide | assumption | (exact r_decF (by assumption)) | (exact r_decF (by omega)) | (exact r_notF (by assumption)) | (exact r_notF (r_decT (by assumption))) | (exact r_notF (r_decT (by omega))) | omega | (exact r_notF (by with_unfolding_all rfl)) | (simp [isNon]; done) | (simp; omega)) ?_)
  | (with_reducible refine r_wp_iteT (by first | decide | assumption | (exact tyOk_list (by assumption)) | (exact tyOk_str) | (exact r_decT (by assumption)) | (exact r_decT (by omega)) | (exact r_notT (by assumption)) | (exact r_notT (r_decF (by assumption))) | (exact r_notT (r_decF (by omega))) | omega | (with_unfolding_all rfl) | (simp [isNon]; done) | (simp; omega)) ?_)
  | (with_reducible refine r_wp_iteF (by first | decide | assumption | (exact r_decF (by assumption)) | (exact r_decF (by omega)) | (exact r_notF (by assumption)) | (exact r_notF (r_decT (by assumption))) | (exact r_notF (r_decT (by omega))) | omega | (exact r_notF (by with_unfolding_all rfl)) | (simp [isNon]; done) | (simp; omega)) ?_)
  | (with_reducible refine r_owp_iteT (by first | decide | assumption | (exact tyOk_list (by assumption)) | (exact tyOk_str) | (exact r_decT (by assumption)) | (exact r_decT (by omega)) | (exact r_notT (by assumption)) | (exact r_notT (r_decF (by assumption))) | (exact r_notT (r_decF (by omega))) | omega | (with_unfolding_all rfl) | (simp [isNon]; done) | (simp; omega)) ?_)
  | (with_reducible refine r_owp_iteF (by first | decide | assumption | (exact r_decF (by assumption)) | (exact r_decF (by omega)) | (exact r_notF (by assumption)) | (exact r_notF (r_decT (by assumption))) | (exact r_notF (r_decT (by omega))) | omega | (exact r_notF (by with_unfolding_all rfl)) | (simp [isNon]; done) | (simp; omega)) ?_)
  ))
local macro_rules | `(tactic| walk_at "fld") => `(tactic| repeat (first
  | (with_reducible refine r_seq_rt ?_)
  | (with_reducible refine r_seq_bk ?_)
  | (with_reducible refine r_seq_ct ?_)
  | (with_reducible refine r_seq_ex ?_)
  | (with_reducible refine r_loop_nx ?_)
  | (with_reducible refine r_loop_rt ?_)
  | (with_reducible refine r_loop_bk ?_)
  | (with_reducible refine r_loop_ct ?_)
  | (with_reducible refine r_loop_ex ?_)
  | (with_reducible refine r_fn_nx ?_)
  | (with_reducible refine r_fn_rt ?_)
  | (with_reducible refine r_fn_ex ?_)
  | (with_reducible refine r_owp_if ?_)
  | (with_reducible refine r_owp_ret ?_)
  | (with_reducible refine r_owp_expr ?_)
  | (with_reducible refine r_owp_skip ?_)
  | (with_reducible refine r_owp_brk ?_)
  | (with_reducible refine r_owp_cnt ?_)
  | (with_reducible refine r_owp_setIx ?_)
  | (with_reducible refine r_owp_setF ?_)
  | (with_reducible refine r_owp_for ?_)
  | (with_reducible refine r_owp_nx ?_)
  | (with_reducible refine r_owp_rt ?_)
  | (with_reducible refine r_owp_out ?_)
  | (with_reducible refine r_wp_bin ?_)
  | (with_reducible refine r_wp_un ?_)
  | (with_reducible refine r_wp_blt ?_)
  | (with_reducible refine r_wp_cons ?_)
  | (with_reducible refine r_wp_nil ?_)
  | (with_reducible refine r_wp_c ?_)
  | (with_reducible refine r_wp_if ?_)
  | (with_reducible refine q_asB ?_)
  | (with_reducible refine q_tTru ?_)
  | (with_reducible refine r_wp_tAnd ?_)
  | (with_reducible refine r_wp_tOr ?_)
  | (with_reducible refine r_wp_tNot ?_)
  | (with_reducible refine r_wp_tYes ?_)
  | (with_reducible refine q_eAnd ?_)
  | (with_reducible refine q_eOr ?_)
  | (with_reducible refine q_eNot ?_)
  | (with_reducible refine q_chain ?_)
  | (with_reducible refine r_wp_call ?_)
  | (with_reducible refine r_wp_mt ?_)
  | (with_reducible refine q_meth ?_)
  | (with_reducible refine q_make ?_)
  | (with_reducible refine q_fmt ?_)
  | (with_reducible refine r_wp_joinN ?_)
  | (with_reducible refine q_join ?_)
  | (with_reducible refine r_wp_partN ?_)
  | (with_reducible refine q_part ?_)
  | (with_reducible refine r_wp_sl ?_)
  | (with_reducible refine q_iS ?_)
  | (with_reducible refine q_iR1 ?_)
  | (with_reducible refine q_iR2 ?_)
  | (with_reducible refine q_iEn ?_)
  | (with_reducible refine r_onBl ?_)
  | (with_reducible refine r_onInt ?_)
  | (with_reducible refine r_onStr ?_)
  | (with_reducible refine r_onNon ?_)
  | (with_reducible refine r_itT ?_)
  | (with_reducible refine r_itS ?_)
  | (with_reducible refine r_wp_bind ?_)
  | (with_reducible refine r_wp_ofO ?_)
  | (with_reducible refine r_wp_ok ?_)
  | (with_reducible refine r_wo_some ?_)
  | (with_reducible refine w_addI ?_)
  | (with_reducible refine w_sub ?_)
  | (with_reducible refine w_lt ?_)
  | (with_reducible refine w_le ?_)
  | (with_reducible refine w_gt ?_)
  | (with_reducible refine w_ge ?_)
  | (with_reducible refine w_is ?_)
  | (with_reducible refine w_isNot ?_)
  | (with_reducible refine w_lenT ?_)
  | (with_reducible refine w_intI ?_)
  | (with_reducible refine w_strS ?_)
  | (with_reducible refine w_abs ?_)
  | (with_reducible refine w_eqI ?_)
  | (with_reducible refine w_neI ?_)
  | (with_reducible refine w_eqB ?_)
  | (with_reducible refine w_neB ?_)
  | (with_reducible refine w_neg ?_)
  | ((with_reducible refine r_owp_asg ?_); (try dsimp only [List.set]))
  | ((with_reducible refine r_owp_par ?_); (try dsimp only [List.set]))
  | (with_reducible refine r_var (by with_unfolding_all rfl) ?_)
  | (with_reducible refine w_ixL (by assumption) (by with_unfolding_all rfl) ?_)
  | (with_reducible refine w_ixT (by with_unfolding_all rfl) ?_)
  | (with_reducible refine w_lenL (by assumption) ?_)
  | (with_reducible refine w_fld (by assumption) (by with_unfolding_all rfl) (by with_unfolding_all rfl) ?_)
  | (with_reducible refine w_tupleL (by assumption) ?_)
  | (with_reducible refine w_mod (by omega) ?_)
  | (with_reducible refine w_div (by omega) (by omega) ?_)
  | (with_reducible refine w_mul (by omega) ?_)
  | (with_reducible refine w_isiT (by with_unfolding_all rfl) (by decide +kernel) (by with_unfolding_all (intro r h; cases h)) ?_)
  | (with_reducible refine w_isiRT (by assumption) (by with_unfolding_all rfl) (by with_unfolding_all rfl) (by decide +kernel) ?_)
  | (with_reducible refine w_isiCT (by assumption) (by with_unfolding_all rfl) (by with_unfolding_all rfl) (by decide +kernel) ?_)
  | (with_reducible refine w_isiF (by with_unfolding_all rfl) (by decide +kernel) (by with_unfolding_all (intro r h; cases h)) ?_)
  | (with_reducible refine w_isiRF (by assumption) (by with_unfolding_all rfl) (by with_unfolding_all rfl) (by decide +kernel) ?_)
  | (with_reducible refine w_isiCF (by assumption) (by with_unfolding_all rfl) (by with_unfolding_all rfl) (by decide +kernel) ?_)
  | (with_reducible refine r_both (by omega) ?_)
  | (with_reducible refine r_onLst (by assumption) ?_)
  | (with_reducible refine r_itL (by assumption) ?_)
  | (with_reducible refine r_onObj (by assumption) (by with_unfolding_all rfl) ?_)
  | (with_reducible refine r_tT (by first | decide | assumption | (exact tyOk_list (by assumption)) | (exact tyOk_str) | (exact r_decT (by assumption)) | (exact r_decT (by omega)) | (exact r_notT (by assumption)) | (exact r_notT (r_decF (by assumption))) | (exact r_notT (r_decF (by omega))) | omega | (with_unfolding_all rfl) | (simp [isNon]; done) | (simp; omega)) ?_)
  | (with_reducible refine r_tF (by first | decide | assumption | (exact r_decF (by assumption)) | (exact r_decF (by omega)) | (exact r_notF (by assumption)) | (exact r_notF (r_decT (by assumption))) | (exact r_notF (r_decT (by omega))) | omega | (exact r_notF (by with_unfolding_all rfl)) | (simp [isNon]; done) | (simp; omega)) ?_)
  | (with_reducible refine r_bT (by first | decide | assumption | (exact tyOk_list (by assumption)) | (exact tyOk_str) | (exact r_decT (by assumption)) | (exact r_decT (by omega)) | (exact r_notT (by assumption)) | (exact r_notT (r_decF (by assumption))) | (exact r_notT (r_decF (by omega))) | omega | (with_unfolding_all rfl) | (simp [isNon]; done) | (simp; omega)) ?_)
  | (with_reducible refine r_bF (by first | decide | assumption | (exact r_decF (by assumption)) | (exact r_decF (by omega)) | (exact r_notF (by assumption)) | (exact r_notF (r_decT (by assumption))) | (exact r_notF (r_decT (by omega))) | omega | (exact r_notF (by with_unfolding_all rfl)) | (simp [isNon]; done) | (simp; omega)) ?_)
  | (with_reducible refine r_p_iteT (by first | decide | assumption | (exact tyOk_list (by assumption)) | (exact tyOk_str) | (exact r_decT (by assumption)) | (exact r_decT (by omega)) | (exact r_notT (by assumption)) | (exact r_notT (r_decF (by assumption))) | (exact r_notT (r_decF (by omega))) | omega | (with_unfolding_all rfl) | (simp [isNon]; done) | (simp; omega)) ?_)
  | (with_reducible refine r_p_iteF (by first | decide | assumption | (exact r_decF (by assumption)) | (exact r_decF (by omega)) | (exact r_notF (by assumption)) | (exact r_notF (r_decT (by assumption))) | (exact r_notF (r_decT (by omega))) | omega | (exact r_notF (by with_unfolding_all rfl)) | (simp [isNon]; done) | (simp; omega)) ?_)
  | (with_reducible refine r_wp_iteT (by first | decide | assumption | (exact tyOk_list (by assumption)) | (exact tyOk_str) | (exact r_decT (by assumption)) | (exact r_decT (by omega)) | (exact r_notT (by assumption)) | (exact r_notT (r_decF (by assumption))) | (exact r_notT (r_decF (by omega))) | omega | (with_unfolding_all rfl) | (simp [isNon]; done) | (simp; omega)) ?_)
  | (with_reducible refine r_wp_iteF (by first | decide | assumption | (exact r_decF (by assumption)) | (exact r_decF (by omega)) | (exact r_notF (by assumption)) | (exact r_notF (r_decT (by assumption))) | (exact r_notF (r_decT (by omega))) | omega | (exact r_notF (by with_unfolding_all rfl)) | (simp [isNon]; done) | (simp; omega)) ?_)
  | (with_reducible refine r_owp_iteT (by first | decide | assumption | (exact tyOk_list (by assumption)) | (exact tyOk_str) | (exact r_decT (by assumption)) | (exact r_decT (by omega)) | (exact r_notT (by assumption)) | (exact r_notT (r_decF (by assumption))) | (exact r_notT (r_decF (by omega))) | omega | (with_unfolding_all rfl) | (simp [isNon]; done) | (simp; omega)) ?_)
  | (with_reducible refine r_owp_iteF (by first | decide | assumption | (exact r_decF (by assumption)) | (exact r_decF (by omega)) | (exact r_notF (by assumption)) | (exact r_notF (r_decT (by assumption))) | (exact r_notF (r_decT (by omega))) | omega | (exact r_notF (by with_unfolding_all rfl)) | (simp [isNon]; done) | (simp; omega)) ?_)
  ))
local macro_rules | `(tactic| walk_at "fn") => `(tactic| (refine wp_fn rfl ?_; dsimp only [List.map_cons, List.map_nil, List.cons_append, List.nil_append, List.replicate, List.map, Nat.reduceSub]))
/-! ### the object -/
def prgF (g : Prg) : List (String × D) := [("steps", stepsD g.rows), ("first", .int g.first), ("leader", optD g.leader), ("lamp", optD g.lamp)]
theorem Program_init_ok {g : Prg} {C o : Nat} (hg : g.Ok C) {st : Sto} (ho : st[o]? = some (.ins 4 [])) {X : XP} :
    Wp X (fun d s => d = .non ∧ s[o]? = some (.ins 4 (prgF g)) ∧ Chg [o] st s) (f_Program_init [.ref o, stepsD g.rows, .int g.first, optD g.leader, optD g.lamp] st) := by
  have hfirst := hg.first
  have hlead := hg.leader
  have hlamp := hg.lamp
  have hg0 := hg
  have h0 : ∃ r0 rs, g.rows = r0 :: rs ∧ r0.length = C := by
    have := hg.n1
    have h2 := hg.row
    rcases h : g.rows with _ | ⟨r0, rs⟩
    · rw [h] at this; simp at this
    · exact ⟨r0, rs, rfl, h2 r0 (by rw [h]; simp)⟩
  obtain ⟨rows, fs, ld, lm⟩ := g
  simp only at hfirst hlead hlamp h0 ⊢
  obtain ⟨r0, rs, hrows, hr0⟩ := h0
  have tail : ∀ (s : Sto), Chg [] st s → Owp (Ks.fn X fun d s => d = .non ∧ s[o]? = some (.ins 4 (prgF ⟨rows, fs, ld, lm⟩)) ∧ Chg [o] st s)
      ((sSeq (sSetF fld_steps "steps" (eVar 0) (eVar 1)) (sSeq (sSetF fld_first "first" (eVar 0) (eVar 2)) (sSeq (sSetF fld_leader "leader" (eVar 0) (eVar 3)) (sSetF fld_lamp "lamp" (eVar 0) (eVar 4))))) [some (.ref o), some (stepsD rows), some (.int fs), some (optD ld), some (optD lm)] s) := by
    intro s k
    have ho1 := k.get0 ho
    walk_at "wp"
    refine wo_setF ho1 (by decide) (by simp) fun v1 hv1 l1 => ?_
    walk_at "wp"
    refine wo_setF hv1 (by decide) (by simp [putD]) fun v2 hv2 l2 => ?_
    walk_at "wp"
    refine wo_setF hv2 (by decide) (by simp [putD]) fun v3 hv3 l3 => ?_
    walk_at "wp"
    refine wo_setF hv3 (by decide) (by simp [putD]) fun v4 hv4 l4 => ?_
    walk_at "wp"
    exact ⟨rfl, by simpa [putD, prgF] using hv4, (((k.up.trans l1).trans l2).trans l3).trans l4⟩
  have mid : ∀ (s : Sto), Chg [] st s → Owp (Ks.fn X fun d s => d = .non ∧ s[o]? = some (.ins 4 (prgF ⟨rows, fs, ld, lm⟩)) ∧ Chg [o] st s)
      ((sSeq (sIf (tAnd' (asB (eBin opIsNot (eVar 4) (eC .non))) (tNot' (tTru (eCall f_is_within [eVar 4, eC (.int 0), eBin opSub (eBlt opLen [eBin opIx (eVar 1) (eC (.int 0))]) (eC (.int 1))])))) (fun _ _ => .bad) sSkip) (sSeq (sSetF fld_steps "steps" (eVar 0) (eVar 1)) (sSeq (sSetF fld_first "first" (eVar 0) (eVar 2)) (sSeq (sSetF fld_leader "leader" (eVar 0) (eVar 3)) (sSetF fld_lamp "lamp" (eVar 0) (eVar 4)))))) [some (.ref o), some (stepsD rows), some (.int fs), some (optD ld), some (optD lm)] s) := by
    intro s k
    refine r_owp_seq ?_
    cases lm with
    | none =>
      simp only [optD]
      refine r_owp_if ?_
      walk_at "fld"
      exact tail _ k
    | some m =>
      have hm := hlamp m rfl
      refine r_owp_if ?_
      walk_at "fld"
      simp only [optD]
      walk_at "fld"
      simp only [stepsD, hrows, List.map_cons]
      refine w_ixT atI0 ?_
      simp only [rowD]
      walk_at "fld"
      refine is_within.mono ?_
      rintro _ _ ⟨rfl, rfl⟩
      rw [show (decide ((0 : Int) ≤ m) && decide ((m : Int) ≤ (List.map stpD r0).length - 1)) = true by simp; omega]
      walk_at "fld"
      simp only [stepsD, hrows, List.map_cons, optD, rowD] at tail
      exact tail _ k
  clear tail
  walk_at "fn"
  unfold b_Program_init
  refine r_owp_seq ?_
  refine r_owp_if ?_
  walk_at "fld"
  refine (are_steps_ok hg).mono ?_
  rintro _ s1 ⟨rfl, k1⟩
  walk_at "fld"
  refine r_owp_seq ?_
  refine r_owp_if ?_
  simp only [stepsD]
  walk_at "fld"
  refine is_within.mono ?_
  rintro _ _ ⟨rfl, rfl⟩
  rw [show (decide ((0 : Int) ≤ fs) && decide ((fs : Int) ≤ (List.map rowD rows).length - 1)) = true by simp; omega]
  walk_at "fld"
  refine r_owp_seq ?_
  refine r_owp_if ?_
  cases ld with
  | none =>
    simp only [optD]
    walk_at "fld"
    exact mid _ k1
  | some n =>
    have hn := hlead n rfl
    simp only [optD]
    walk_at "fld"
    refine is_within.mono ?_
    rintro _ _ ⟨rfl, rfl⟩
    rw [show (decide ((0 : Int) ≤ n) && decide ((n : Int) ≤ (List.map rowD rows).length - 1)) = true by simp; omega]
    walk_at "fld"
    exact mid _ k1
theorem law_made_ok {g : Prg} {C r : Nat} (hg : g.Ok C) {st : Sto} (hr : st[r]? = some (.lst [stepsD g.rows, .int g.first, optD g.leader, optD g.lamp])) {X : XP} :
    Wp X (fun d s => ∃ o, d = .ref o ∧ s[o]? = some (.ins 4 (prgF g)) ∧ Chg [] st s) (f__law_made [.ref r] st) := by
  walk_at "fn"
  unfold b__law_made
  walk_at "wp"
  refine (Program_init_ok hg (o := st.length) (by simp)).mono ?_
  rintro _ s ⟨rfl, ho, k⟩
  walk_at "wp"
  exact ⟨_, rfl, ho, (Chg.app).new (by simp) k⟩
end K02

set_option Elab.async false
set_option linter.all false
set_option maxRecDepth 100000
set_option maxHeartbeats 4000000
namespace K02
open PySem PySem.Spec PyProof.Rows L2 LF
local macro_rules | `(tactic| walk_at "wp") => `(tactic| repeat (first
  | (with_reducible refine r_seq_nx ?_)
  | (with_reducible refine r_seq_rt ?_)
  | (with_reducible refine r_seq_bk ?_)
  | (with_reducible refine r_seq_ct ?_)
  | (with_reducible refine r_seq_ex ?_)
  | (with_reducible refine r_loop_nx ?_)
  | (with_reducible refine r_loop_rt ?_)
  | (with_reducible refine r_loop_bk ?_)
  | (with_reducible refine r_loop_ct ?_)
  | (with_reducible refine r_loop_ex ?_)
  | (with_reducible refine r_fn_nx ?_)
  | (with_reducible refine r_fn_rt ?_)
  | (with_reducible refine r_fn_ex ?_)
  | (with_reducible refine r_owp_seq ?_)
  | (with_reducible refine r_owp_if ?_)
  | (with_reducible refine r_owp_ret ?_)
  | (with_reducible refine r_owp_expr ?_)
  | (with_reducible refine r_owp_skip ?_)
  | (with_reducible refine r_owp_brk ?_)
  | (with_reducible refine r_owp_cnt ?_)
  | (with_reducible refine r_owp_setIx ?_)
  | (with_reducible refine r_owp_setF ?_)
  | (with_reducible refine r_owp_for ?_)
  | (with_reducible refine r_owp_nx ?_)
  | (with_reducible refine r_owp_rt ?_)
  | (with_reducible refine r_owp_out ?_)
  | (with_reducible refine r_wp_bin ?_)
  | (with_reducible refine r_wp_un ?_)
  | (with_reducible refine r_wp_blt ?_)
  | (with_reducible refine r_wp_cons ?_)
  | (with_reducible refine r_wp_nil ?_)
  | (with_reducible refine r_wp_c ?_)
  | (with_reducible refine r_wp_if ?_)
  | (with_reducible refine q_asB ?_)
  | (with_reducible refine q_tTru ?_)
  | (with_reducible refine r_wp_tAnd ?_)
  | (with_reducible refine r_wp_tOr ?_)
  | (with_reducible refine r_wp_tNot ?_)
  | (with_reducible refine r_wp_tYes ?_)
  | (with_reducible refine q_eAnd ?_)
  | (with_reducible refine q_eOr ?_)
  | (with_reducible refine q_eNot ?_)
  | (with_reducible refine q_chain ?_)
  | (with_reducible refine r_wp_call ?_)
  | (with_reducible refine r_wp_mt ?_)
  | (with_reducible refine q_meth ?_)
  | (with_reducible refine q_make ?_)
  | (with_reducible refine q_fmt ?_)
  | (with_reducible refine r_wp_joinN ?_)
  | (with_reducible refine q_join ?_)
  | (with_reducible refine r_wp_partN ?_)
  | (with_reducible refine q_part ?_)
  | (with_reducible refine r_wp_sl ?_)
  | (with_reducible refine q_iS ?_)
  | (with_reducible refine q_iR1 ?_)
  | (with_reducible refine q_iR2 ?_)
  | (with_reducible refine q_iEn ?_)
  | (with_reducible refine r_onBl ?_)
  | (with_reducible refine r_onInt ?_)
  | (with_reducible refine r_onStr ?_)
  | (with_reducible refine r_onNon ?_)
  | (with_reducible refine r_itT ?_)
  | (with_reducible refine r_itS ?_)
  | (with_reducible refine r_wp_bind ?_)
  | (with_reducible refine r_wp_ofO ?_)
  | (with_reducible refine r_wp_ok ?_)
  | (with_reducible refine r_wo_some ?_)
  | (with_reducible refine w_addI ?_)
  | (with_reducible refine w_sub ?_)
  | (with_reducible refine w_lt ?_)
  | (with_reducible refine w_le ?_)
  | (with_reducible refine w_gt ?_)
  | (with_reducible refine w_ge ?_)
  | (with_reducible refine w_is ?_)
  | (with_reducible refine w_isNot ?_)
  | (with_reducible refine w_lenT ?_)
  | (with_reducible refine w_intI ?_)
  | (with_reducible refine w_strS ?_)
  | (with_reducible refine w_abs ?_)
  | (with_reducible refine w_eqI ?_)
  | (with_reducible refine w_neI ?_)
  | (with_reducible refine w_eqB ?_)
  | (with_reducible refine w_neB ?_)
  | (with_reducible refine w_neg ?_)
  | ((with_reducible refine r_owp_asg ?_); (try dsimp only [List.set]))
  | ((with_reducible refine r_owp_par ?_); (try dsimp only [List.set]))
  | (with_reducible refine r_var (by with_unfolding_all rfl) ?_)
  | (with_reducible refine w_ixL (by assumption) (by with_unfolding_all rfl) ?_)
  | (with_reducible refine w_ixT (by with_unfolding_all rfl) ?_)
  | (with_reducible refine w_lenL (by assumption) ?_)
  | (with_reducible refine w_fld (by assumption) (by with_unfolding_all rfl) (by with_unfolding_all rfl) ?_)
  | (with_reducible refine w_tupleL (by assumption) ?_)
  | (with_reducible refine w_mod (by omega) ?_)
  | (with_reducible refine w_div (by omega) (by omega) ?_)
  | (with_reducible refine w_mul (by omega) ?_)
  | (with_reducible refine w_isiT (by with_unfolding_all rfl) (by decide +kernel) (by with_unfolding_all (intro r h; cases h)) ?_)
  | (with_reducible refine w_isiRT (by assumption) (by with_unfolding_all rfl) (by with_unfolding_all rfl) (by decide +kernel) ?_)
  | (with_reducible refine w_isiCT (by assumption) (by with_unfolding_all rfl) (by with_unfolding_all rfl) (by decide +kernel) ?_)
  | (with_reducible refine w_isiF (by with_unfolding_all rfl) (by decide +kernel) (by with_unfolding_all (intro r h; cases h)) ?_)
  | (with_reducible refine w_isiRF (by assumption) (by with_unfolding_all rfl) (by with_unfolding_all rfl) (by decide +kernel) ?_)
  | (with_reducible refine w_isiCF (by assumption) (by with_unfolding_all rfl) (by with_unfolding_all rfl) (by decide +kernel) ?_)
  | (with_reducible refine r_both (by omega) ?_)
  | (with_reducible refine r_onLst (by assumption) ?_)
  | (with_reducible refine r_itL (by assumption) ?_)
  | (with_reducible refine r_onObj (by assumption) (by with_unfolding_all rfl) ?_)
  | (with_reducible refine r_tT (by first | decide | assumption | (exact tyOk_list (by assumption)) | (exact tyOk_str) | (exact r_decT (by assumption)) | (exact r_decT (by omega)) | (exact r_notT (by assumption)) | (exact r_notT (r_decF (by assumption))) | (exact r_notT (r_decF (by omega))) | omega | (with_unfolding_all rfl) | (simp [isNon]; done) | (simp; omega)) ?_)
  | (with_reducible refine r_tF (by first | decide | assumption | (exact r_decF (by assumption)) | (exact r_decF (by omega)) | (exact r_notF (by assumption)) | (exact r_notF (r_decT (by assumption))) | (exact r_notF (r_decT (by omega))) | omega | (exact r_notF (by with_unfolding_all rfl)) | (simp [isNon]; done) | (simp; omega)) ?_)
  | (with_reducible refine r_bT (by first | decide | assumption | (exact tyOk_list (by assumption)) | (exact tyOk_str) | (exact r_decT (by assumption)) | (exact r_decT (by omega)) | (exact r_notT (by assumption)) | (exact r_notT (r_decF (by assumption))) | (exact r_notT (r_decF (by omega))) | omega | (with_unfolding_all rfl) | (simp [isNon]; done) | (simp; omega)) ?_)
  | (with_reducible refine r_bF (by first | decide | assumption | (exact r_decF (by assumption)) | (exact r_decF (by omega)) | (exact r_notF (by assumption)) | (exact r_notF (r_decT (by assumption))) | (exact r_notF (r_decT (by omega))) | omega | (exact r_notF (by with_unfolding_all rfl)) | (simp [isNon]; done) | (simp; omega)) ?_)
  | (with_reducible refine r_p_iteT (by first | decide | assumption | (exact tyOk_list (by assumption)) | (exact tyOk_str) | (exact r_decT (by assumption)) | (exact r_decT (by omega)) | (exact r_notT (by assumption)) | (exact r_notT (r_decF (by assumption))) | (exact r_notT (r_decF (by omega))) | omega | (with_unfolding_all rfl) | (simp [isNon]; done) | (simp; omega)) ?_)
  | (with_reducible refine r_p_iteF (by first | decide | assumption | (exact r_decF (by assumption)) | (exact r_decF (by omega)) | (exact r_notF (by assumption)) | (exact r_notF (r_decT (by assumption))) | (exact r_notF (r_decT (by omega))) | omega | (exact r_notF (by with_unfolding_all rfl)) | (simp [isNon]; done) | (simp; omega)) ?_)
  | (with_reducible refine r_wp_iteT (by first | decide | assumption | (exact tyOk_list (by assumption)) | (exact tyOk_str) | (exact r_decT (by assumption)) | (exact r_decT (by omega)) | (exact r_notT (by assumption)) | (exact r_notT (r_decF (by assumption))) | (exact r_notT (r_decF (by omega))) | omega | (with_unfolding_all rfl) | (simp [isNon]; done) | (simp; omega)) ?_)
  | (with_reducible refine r_wp_iteF (by first | decide | assumption | (exact r_decF (by assumption)) | (exact r_decF (by omega)) | (exact r_notF (by assumption)) | (exact r_notF (r_decT (by assumption))) | (exact r_notF (r_decT (by omega))) | omega | (exact r_notF (by with_unfolding_all rfl)) | (simp [isNon]; done) | (simp; omega)) ?_)
  | (with_reducible refine r_owp_iteT (by first | decide | assumption | (exact tyOk_list (by assumption)) | (exact tyOk_str) | (exact r_decT (by assumption)) | (exact r_decT (by omega)) | (exact r_notT (by assumption)) | (exact r_notT (r_decF (by assumption))) | (exact r_notT (r_decF (by omega))) | omega | (with_unfolding_all rfl) | (simp [isNon]; done) | (simp; omega)) ?_)
  | (with_reducible refine r_owp_iteF (by first | decide | assumption | (exact r_decF (by assumption)) | (exact r_decF (by omega)) | (exact r_notF (by assumption)) | (exact r_notF (r_decT (by assumption))) | (exact r_notF (r_decT (by omega))) | omega | (exact r_notF (by with_unfolding_all rfl)) | (simp [isNon]; done) | (simp; omega)) ?_)
  ))
local macro_rules | `(tactic| walk_at "fld") => `(tactic| repeat (first
  | (with_reducible refine r_seq_rt ?_)
  | (with_reducible refine r_seq_bk ?_)
  | (with_reducible refine r_seq_ct ?_)
  | (with_reducible refine r_seq_ex ?_)
  | (with_reducible refine r_loop_nx ?_)
  | (with_reducible refine r_loop_rt ?_)
  | (with_reducible refine r_loop_bk ?_)
  | (with_reducible refine r_loop_ct ?_)
  | (with_reducible refine r_loop_ex ?_)
  | (with_reducible refine r_fn_nx ?_)
  | (with_reducible refine r_fn_rt ?_)
  | (with_reducible refine r_fn_ex ?_)
  | (with_reducible refine r_owp_if ?_)
  | (with_reducible refine r_owp_ret ?_)
  | (with_reducible refine r_owp_expr ?_)
  | (with_reducible refine r_owp_skip ?_)
  | (with_reducible refine r_owp_brk ?_)
  | (with_reducible refine r_owp_cnt ?_)
  | (with_reducible refine r_owp_setIx ?_)
  | (with_reducible refine r_owp_setF ?_)
  | (with_reducible refine r_owp_for ?_)
  | (with_reducible refine r_owp_nx ?_)
  | (with_reducible refine r_owp_rt ?_)
  | (with_reducible refine r_owp_out ?_)
  | (with_reducible refine r_wp_bin ?_)
  | (with_reducible refine r_wp_un ?_)
  | (with_reducible refine r_wp_blt ?_)
  | (with_reducible refine r_wp_cons ?_)
  | (with_reducible refine r_wp_nil ?_)
  | (with_reducible refine r_wp_c ?_)
  | (with_reducible refine r_wp_if ?_)
  | (with_reducible refine q_asB ?_)
  | (with_reducible refine q_tTru ?_)
  | (with_reducible refine r_wp_tAnd ?_)
  | (with_reducible refine r_wp_tOr ?_)
  | (with_reducible refine r_wp_tNot ?_)
  | (with_reducible refine r_wp_tYes ?_)
  | (with_reducible refine q_eAnd ?_)
  | (with_reducible refine q_eOr ?_)
  | (with_reducible refine q_eNot ?_)
  | (with_reducible refine q_chain ?_)
  | (with_reducible refine r_wp_call ?_)
  | (with_reducible refine r_wp_mt ?_)
  | (with_reducible refine q_meth ?_)
  | (with_reducible refine q_make ?_)
  | (with_reducible refine q_fmt ?_)
  | (with_reducible refine r_wp_joinN ?_)
  | (with_reducible refine q_join ?_)
  | (with_reducible refine r_wp_partN ?_)
  | (with_reducible refine q_part ?_)
  | (with_reducible refine r_wp_sl ?_)
  | (with_reducible refine q_iS ?_)
  | (with_reducible refine q_iR1 ?_)
  | (with_reducible refine q_iR2 ?_)
  | (with_reducible refine q_iEn ?_)
  | (with_reducible refine r_onBl ?_)
  | (with_reducible refine r_onInt ?_)
  | (with_reducible refine r_onStr ?_)
  | (with_reducible refine r_onNon ?_)
  | (with_reducible refine r_itT ?_)
  | (with_reducible refine r_itS ?_)
  | (with_reducible refine r_wp_bind ?_)
  | (with_reducible refine r_wp_ofO ?_)
  | (with_reducible refine r_wp_ok ?_)
  | (with_reducible refine r_wo_some ?_)
  | (with_reducible refine w_addI ?_)
  | (with_reducible refine w_sub ?_)
  | (with_reducible refine w_lt ?_)
  | (with_reducible refine w_le ?_)
  | (with_reducible refine w_gt ?_)
  | (with_reducible refine w_ge ?_)
  | (with_reducible refine w_is ?_)
  | (with_reducible refine w_isNot ?_)
  | (with_reducible refine w_lenT ?_)
  | (with_reducible refine w_intI ?_)
  | (with_reducible refine w_strS ?_)
  | (with_reducible refine w_abs ?_)
  | (with_reducible refine w_eqI ?_)
  | (with_reducible refine w_neI ?_)
  | (with_reducible refine w_eqB ?_)
  | (with_reducible refine w_neB ?_)
  | (with_reducible refine w_neg ?_)
  | ((with_reducible refine r_owp_asg ?_); (try dsimp only [List.set]))
  | ((with_reducible refine r_owp_par ?_); (try dsimp only [List.set]))
  | (with_reducible refine r_var (by with_unfolding_all rfl) ?_)
  | (with_reducible refine w_ixL (by assumption) (by with_unfolding_all rfl) ?_)
  | (with_reducible refine w_ixT (by with_unfolding_all rfl) ?_)
  | (with_reducible refine w_lenL (by assumption) ?_)
  | (with_reducible refine w_fld (by assumption) (by with_unfolding_all rfl) (by with_unfolding_all rfl) ?_)
  | (with_reducible refine w_tupleL (by assumption) ?_)
  | (with_reducible refine w_mod (by omega) ?_)
  | (with_reducible refine w_div (by omega) (by omega) ?_)
  | (with_reducible refine w_mul (by omega) ?_)
  | (with_reducible refine w_isiT (by with_unfolding_all rfl) (by decide +kernel) (by with_unfolding_all (intro r h; cases h)) ?_)
  | (with_reducible refine w_isiRT (by assumption) (by with_unfolding_all rfl) (by with_unfolding_all rfl) (by decide +kernel) ?_)
  | (with_reducible refine w_isiCT (by assumption) (by with_unfolding_all rfl) (by with_unfolding_all rfl) (by decide +kernel) ?_)
  | (with_reducible refine w_isiF (by with_unfolding_all rfl) (by decide +kernel) (by with_unfolding_all (intro r h; cases h)) ?_)
  | (with_reducible refine w_isiRF (by assumption) (by with_unfolding_all rfl) (by with_unfolding_all rfl) (by decide +kernel) ?_)
  | (with_reducible refine w_isiCF (by assumption) (by with_unfolding_all rfl) (by with_unfolding_all rfl) (by decide +kernel) ?_)
  | (with_reducible refine r_both (by omega) ?_)
  | (with_reducible refine r_onLst (by assumption) ?_)
  | (with_reducible refine r_itL (by assumption) ?_)
  | (with_reducible refine r_onObj (by assumption) (by with_unfolding_all rfl) ?_)
  | (with_reducible refine r_tT (by first | decide | assumption | (exact tyOk_list (by assumption)) | (exact tyOk_str) | (exact r_decT (by assumption)) | (exact r_decT (by omega)) | (exact r_notT (by assumption)) | (exact r_notT (r_decF (by assumption))) | (exact r_notT (r_decF (by omega))) | omega | (with_unfolding_all rfl) | (simp [isNon]; done) | (simp; omega)) ?_)
  | (with_reducible refine r_tF (by first | decide | assumption | (exact r_decF (by assumption)) | (exact r_decF (by omega)) | (exact r_notF (by assumption)) | (exact r_notF (r_decT (by assumption))) | (exact r_notF (r_decT (by omega))) | omega | (exact r_notF (by with_unfolding_all rfl)) | (simp [isNon]; done) | (simp; omega)) ?_)
  | (with_reducible refine r_bT (by first | decide | assumption | (exact tyOk_list (by assumption)) | (exact tyOk_str) | (exact r_decT (by assumption)) | (exact r_decT (by omega)) | (exact r_notT (by assumption)) | (exact r_notT (r_decF (by assumption))) | (exact r_notT (r_decF (by omega))) | omega | (with_unfolding_all rfl) | (simp [isNon]; done) | (simp; omega)) ?_)
  | (with_reducible refine r_bF (by first | decide | assumption | (exact r_decF (by assumption)) | (exact r_decF (by omega)) | (exact r_notF (by assumption)) | (exact r_notF (r_decT (by assumption))) | (exact r_notF (r_decT (by omega))) | omega | (exact r_notF (by with_unfolding_all rfl)) | (simp [isNon]; done) | (simp; omega)) ?_)
  | (with_reducible refine r_p_iteT (by first | decide | assumption | (exact tyOk_list (by assumption)) | (exact tyOk_str) | (exact r_decT (by assumption)) | (exact r_decT (by omega)) | (exact r_notT (by assumption)) | (exact r_notT (r_decF (by assumption))) | (exact r_notT (r_decF (by omega))) | omega | (with_unfolding_all rfl) | (simp [isNon]; done) | (simp; omega)) ?_)
  | (with_reducible refine r_p_iteF (by first | decide | assumption | (exact r_decF (by assumption)) | (exact r_decF (by omega)) | (exact r_notF (by assumption)) | (exact r_notF (r_decT (by assumption))) | (exact r_notF (r_decT (by omega))) | omega | (exact r_notF (by with_unfolding_all rfl)) | (simp [isNon]; done) | (simp; omega)) ?_)
  | (with_reducible refine r_wp_iteT (by first | decide | assumption | (exact tyOk_list (by assumption)) | (exact tyOk_str) | (exact r_decT (by assumption)) | (exact r_decT (by omega)) | (exact r_notT (by assumption)) | (exact r_notT (r_decF (by assumption))) | (exact r_notT (r_decF (by omega))) | omega | (with_unfolding_all rfl) | (simp [isNon]; done) | (simp; omega)) ?_)
  | (with_reducible refine r_wp_iteF (by first | decide | assumption | (exact r_decF (by assumption)) | (exact r_decF (by omega)) | (exact r_notF (by assumption)) | (exact r_notF (r_decT (by assumption))) | (exact r_notF (r_decT (by omega))) | omega | (exact r_notF (by with_unfolding_all rfl)) | (simp [isNon]; done) | (simp; omega)) ?_)
  | (with_reducible refine r_owp_iteT (by first | decide | assumption | (exact tyOk_list (by assumption)) | (exact tyOk_str) | (exact r_decT (by assumption)) | (exact r_decT (by omega)) | (exact r_notT (by assumption)) | (exact r_notT (r_decF (by assumption))) | (exact r_notT (r_decF (by omega))) | omega | (with_unfolding_all rfl) | (simp [isNon]; done) | (simp; omega)) ?_)
  | (with_reducible refine r_owp_iteF (by first | decide | assumption | (exact r_decF (by assumption)) | (exact r_decF (by omega)) | (exact r_notF (by assumption)) | (exact r_notF (r_decT (by assumption))) | (exact r_notF (r_decT (by omega))) | omega | (exact r_notF (by with_unfolding_all rfl)) | (simp [isNon]; done) | (simp; omega)) ?_)
  ))
local macro_rules | `(tactic| walk_at "fn") => `(tactic| (refine wp_fn rfl ?_; dsimp only [List.map_cons, List.map_nil, List.cons_append, List.nil_append, List.replicate, List.map, Nat.reduceSub]))
/-! ### the text -/
def numS (n : Nat) : Str := Str.ofString (toString (n : Int))
def Say.w : Say → Str
  | .no => Str.ofString "-"
  | .num n => numS n
  | .all => Str.ofString "all"
def stpW (z : Stp) : List Str := [numS z.1, numS z.2.1, z.2.2.w]
def rowW (r : List Stp) : List Str := Str.ofString "state" :: r.flatMap stpW
def rowL (r : List Stp) : Str := Txt.join (Str.ofString " ") (rowW r)
def optW (w : Str) : Option Nat → Str
  | none => w
  | some n => numS n
def endL (g : Prg) : List Str := [Str.ofString "first " ++ numS g.first, Str.ofString "leader " ++ optW (Str.ofString "none") g.leader, Str.ofString "lamp " ++ optW (Str.ofString "any") g.lamp, Str.ofString "end"]
def linesG (g : Prg) : List Str := g.rows.map rowL ++ endL g
def textG (g : Prg) : Str := Txt.join (Str.ofString "") ((linesG g).map (· ++ Str.ofString "\n"))
/-! lengths -/
theorem numS_len {n : Nat} (h : n < 10) : (numS n).length ≤ 10 := PySem.W.KT.len_num (by omega) (by omega)
theorem small_log {n : Nat} (h : n < 1000) : ((n : Int)).natAbs.log2 < 1920 := Nat.lt_of_le_of_lt (Nat.log2_le_self _) (by simp; omega)
theorem Say.w_len {y : Say} (h : y.ok) : y.w.length ≤ 10 := by
  cases y with
  | no => exact (by decide +kernel : (Str.ofString "-").length ≤ 10)
  | num n => exact numS_len (by have := h.2; omega)
  | all => exact (by decide +kernel : (Str.ofString "all").length ≤ 10)
theorem join_len (sep : Str) : ∀ ys : List Str, (Txt.join sep ys).length ≤ (ys.map (·.length)).sum + ys.length * sep.length := by
  intro ys
  rw [TL.join_eq]
  induction ys with
  | nil => simp [Str.join, Str.empty, Str.length]
  | cons x ys ih =>
    cases ys with
    | nil => simp [Str.join]
    | cons y ys =>
      show (x ++ sep ++ Str.join sep (y :: ys)).length ≤ _
      rw [Str.length_append, Str.length_append]
      simp only [List.map_cons, List.sum_cons, List.length_cons] at ih ⊢
      rw [Nat.succ_mul]
      omega
theorem sum_len {ys : List Str} {k : Nat} (h : ∀ y ∈ ys, y.length ≤ k) : (ys.map (·.length)).sum ≤ ys.length * k := by
  induction ys with
  | nil => simp
  | cons y ys ih =>
    simp only [List.map_cons, List.sum_cons, List.length_cons, Nat.succ_mul]
    have := h y (by simp)
    have := ih fun z hz => h z (by simp [hz])
    omega
theorem strsOf_map (ys : List Str) : strsOf (ys.map D.str) = some ys := by
  induction ys with
  | nil => rfl
  | cons y ys ih => simp [strsOf, ih]
structure RowOk (S C : Nat) (r : List Stp) : Prop where
  len : r.length ≤ 4
  stp : ∀ z ∈ r, z.1 < 5 ∧ z.2.1 < 4 ∧ z.2.2.ok
theorem rowW_len {S C : Nat} {r : List Stp} (h : RowOk S C r) : (rowW r).length ≤ 13 ∧ ∀ w ∈ rowW r, w.length ≤ 10 := by
  refine ⟨?_, ?_⟩
  · have : ∀ l : List Stp, (l.flatMap stpW).length = 3 * l.length := by
      intro l
      induction l with
      | nil => rfl
      | cons z l ih => rw [List.flatMap_cons, List.length_append, ih]; simp [stpW]; omega
    have := this r
    have := h.len
    simp only [rowW, List.length_cons]
    omega
  · intro w hw
    rcases List.mem_cons.mp hw with rfl | hw
    · exact (by decide +kernel : (Str.ofString "state").length ≤ 10)
    · obtain ⟨z, hz, hw⟩ := List.mem_flatMap.mp hw
      obtain ⟨h1, h2, h3⟩ := h.stp z hz
      simp only [stpW, List.mem_cons, List.not_mem_nil, or_false] at hw
      rcases hw with rfl | rfl | rfl
      · exact numS_len (by omega)
      · exact numS_len (by omega)
      · exact Say.w_len h3
theorem rowW_join {S C : Nat} {r : List Stp} (h : RowOk S C r) : ((rowW r).map (·.length)).sum + (rowW r).length * (Str.ofString " ").length ≤ 200 := by
  obtain ⟨h1, h2⟩ := rowW_len h
  have h3 := sum_len h2
  have h4 : (Str.ofString " ").length = 1 := by decide +kernel
  rw [h4]
  omega
theorem rowL_len {S C : Nat} {r : List Stp} (h : RowOk S C r) : (rowL r).length ≤ 200 := Nat.le_trans (join_len _ _) (rowW_join h)
theorem optW_len {o : Option Nat} {w : Str} (hw : w.length ≤ 10) (h : ∀ n, o = some n → n < 10) : (optW w o).length ≤ 10 := by
  cases o with
  | none => exact hw
  | some n => exact numS_len (h n rfl)
theorem Prg.Ok.rowOk {g : Prg} {C : Nat} (h : g.Ok C) {r : List Stp} (hr : r ∈ g.rows) : RowOk 0 0 r := ⟨by have := h.row r hr; have := h.c4; omega, fun z hz => by
  obtain ⟨h1, h2, h3⟩ := h.stp r hr z hz
  have := h.n5
  have := h.c4
  exact ⟨by omega, by omega, h3⟩⟩
theorem endL_len {g : Prg} {C : Nat} (h : g.Ok C) : ∀ l ∈ endL g, l.length ≤ 200 := by
  have h1 := h.first
  have h2 := h.n5
  have h3 := h.c4
  intro l hl
  simp only [endL, List.mem_cons, List.not_mem_nil, or_false] at hl
  rcases hl with rfl | rfl | rfl | rfl
  · rw [Str.length_append]
    have := numS_len (n := g.first) (by omega)
    have : (Str.ofString "first ").length ≤ 10 := by decide +kernel
    omega
  · rw [Str.length_append]
    have := optW_len (o := g.leader) (w := Str.ofString "none") (by decide +kernel) (fun n e => by have := h.leader n e; omega)
    have : (Str.ofString "leader ").length ≤ 10 := by decide +kernel
    omega
  · rw [Str.length_append]
    have := optW_len (o := g.lamp) (w := Str.ofString "any") (by decide +kernel) (fun n e => by have := h.lamp n e; omega)
    have : (Str.ofString "lamp ").length ≤ 10 := by decide +kernel
    omega
  · exact (by decide +kernel : (Str.ofString "end").length ≤ 200)
theorem linesG_len {g : Prg} {C : Nat} (h : g.Ok C) : (linesG g).length ≤ 9 ∧ ∀ l ∈ linesG g, l.length ≤ 200 := by
  refine ⟨?_, ?_⟩
  · have := h.n5
    simp [linesG, endL]
    omega
  · intro l hl
    rcases List.mem_append.mp hl with hl | hl
    · obtain ⟨r, hr, rfl⟩ := List.mem_map.mp hl
      exact rowL_len (h.rowOk hr)
    · exact endL_len h l hl
theorem nl1 : (Str.ofString "\n").length = 1 := by decide +kernel
theorem textG_join {g : Prg} {C : Nat} (h : g.Ok C) : (((linesG g).map (· ++ Str.ofString "\n")).map (·.length)).sum + ((linesG g).map (· ++ Str.ofString "\n")).length * (Str.ofString "").length ≤ 2000 := by
  obtain ⟨h1, h2⟩ := linesG_len h
  have h4 : (Str.ofString "").length = 0 := by decide +kernel
  have h3 := sum_len (ys := (linesG g).map (· ++ Str.ofString "\n")) (k := 201) (by
    intro y hy
    obtain ⟨l, hl, rfl⟩ := List.mem_map.mp hy
    have := h2 l hl
    rw [Str.length_append, nl1]
    omega)
  rw [h4]
  simp only [List.length_map] at h3 ⊢
  omega
theorem textG_len {g : Prg} {C : Nat} (h : g.Ok C) : (textG g).length ≤ 2000 := Nat.le_trans (join_len _ _) (textG_join h)
/-! the program's writer -/
theorem step_words_ok {z : Stp} (h1 : z.1 < 5) (h2 : z.2.1 < 4) (h3 : z.2.2.ok) {st : Sto} {X : XP} :
    Wp X (fun d s => ∃ r, d = .ref r ∧ s[r]? = some (.lst ((stpW z).map D.str)) ∧ st[r]? = none ∧ Chg [] st s) (f_step_words [stpD z] st) := by
  obtain ⟨a, b, y⟩ := z
  simp only at h1 h2 h3
  cases y with
  | no =>
    unfold stpD
    dsimp only [Say.d]
    walk_at "fn"
    unfold b_step_words
    walk_at "wp"
    refine w_str (small_log (by omega)) ?_
    walk_at "wp"
    refine w_str (small_log (by omega)) ?_
    walk_at "wp"
    refine wo_lst (by simp [LIM]) fun r s hr hn k => ?_
    walk_at "wp"
    exact ⟨r, rfl, hr, hn, k⟩
  | num n =>
    unfold stpD
    dsimp only [Say.d]
    walk_at "fn"
    unfold b_step_words
    walk_at "wp"
    refine w_str (small_log (by omega)) ?_
    walk_at "wp"
    refine w_str (small_log (by omega)) ?_
    walk_at "wp"
    refine w_str (small_log (by have := h3.2; omega)) ?_
    walk_at "wp"
    refine wo_lst (by simp [LIM]) fun r s hr hn k => ?_
    walk_at "wp"
    exact ⟨r, rfl, hr, hn, k⟩
  | all =>
    unfold stpD
    dsimp only [Say.d]
    walk_at "fn"
    unfold b_step_words
    walk_at "wp"
    refine w_str (small_log (by omega)) ?_
    walk_at "wp"
    refine w_str (small_log (by omega)) ?_
    walk_at "wp"
    refine wo_lst (by simp [LIM]) fun r s hr hn k => ?_
    walk_at "wp"
    exact ⟨r, rfl, hr, hn, k⟩
theorem row_take {r : List Stp} {j : Nat} {z : Stp} (h : r[j]? = some z) : (r.take (j + 1)).flatMap stpW = (r.take j).flatMap stpW ++ stpW z := by
  obtain ⟨hj, e⟩ := List.getElem?_eq_some_iff.mp h
  rw [List.take_succ_eq_append_getElem hj, e]
  simp
theorem rows_take {rows : List (List Stp)} {j : Nat} {z : List Stp} (h : rows[j]? = some z) : (rows.take (j + 1)).map rowL = (rows.take j).map rowL ++ [rowL z] := by
  obtain ⟨hj, e⟩ := List.getElem?_eq_some_iff.mp h
  rw [List.take_succ_eq_append_getElem hj, e]
  simp
theorem row_take_len {r : List Stp} {S C : Nat} (h : RowOk S C r) (j : Nat) : ((r.take j).flatMap stpW).length ≤ 12 := by
  have : ∀ l : List Stp, (l.flatMap stpW).length = 3 * l.length := by
    intro l
    induction l with
    | nil => rfl
    | cons z l ih => rw [List.flatMap_cons, List.length_append, ih]; simp [stpW]; omega
  rw [this]
  have := h.len
  simp
  omega
def feed : D → Option D
  | .str x => some (.str (x ++ Str.ofString "\n"))
  | _ => none
theorem feed_map (l : List Str) : (l.map D.str).filterMap feed = (l.map (· ++ Str.ofString "\n")).map D.str := by
  induction l with
  | nil => rfl
  | cons x l ih =>
    rw [List.map_cons, List.filterMap_cons]
    show D.str (x ++ Str.ofString "\n") :: List.filterMap feed (l.map D.str) = _
    rw [ih]
    rfl
theorem opt_word {o : Option Nat} {w : Str} {A : E} {env : Sl} {s : Sto} {X : XP} {Q : D → Sto → Prop} (hn : ∀ n, o = some n → n < 1000) (hA : ∀ Q' : D → Sto → Prop, Q' (optD o) s → Wp X Q' (A env s)) (h : Q (.str (optW w o)) s) : Wp X Q (if isNon (optD o) = true then eC (.str w) env s else eBlt opStr [A] env s) := by
  cases o with
  | none =>
    rw [if_pos (show isNon (optD none) = true from rfl)]
    exact r_wp_c h
  | some n =>
    rw [if_neg (by simp [isNon, optD])]
    refine r_wp_blt (r_wp_cons (hA _ ?_))
    refine r_wp_nil ?_
    dsimp only [optD]
    exact w_str (small_log (hn n rfl)) h
theorem short_app {a b : Str} (ha : a.length ≤ 100) (hb : b.length ≤ 100) : (a ++ b).length ≤ LIM := by
  rw [Str.length_append]
  simp only [LIM]
  omega
theorem program_text_ok {g : Prg} {C o : Nat} (hg : g.Ok C) {st : Sto} (ho : st[o]? = some (.ins 4 (prgF g))) {X : XP} :
    Wp X (fun d s => d = .str (textG g) ∧ Chg [] st s) (f_program_text [.ref o] st) := by
  have n5 := hg.n5
  walk_at "fn"
  unfold b_program_text
  walk_at "wp"
  refine wo_lst (by simp [LIM]) fun R s1 hR hRn k1 => ?_
  have ho1 := k1.get0 ho
  walk_at "wp"
  dsimp only [stepsD]
  walk_at "wp"
  refine owp_forS (fun i e s => ∃ x2 x3 x4, e = [some (.ref o), some (.ref R), x2, x3, x4, none, none, none] ∧ s[R]? = some (.lst (((g.rows.take i).map rowL).map D.str)) ∧ Chg [] st s) ?_ ?_ ⟨_, _, _, rfl, by simpa using hR, k1⟩
  · rintro i d e s hd ⟨x2, x3, x4, rfl, hRs, ks⟩
    rw [List.getElem?_map] at hd
    obtain ⟨r, hr, rfl⟩ := Option.map_eq_some_iff.mp hd
    have hrm := List.mem_of_getElem? hr
    have hro := hg.rowOk hrm
    refine ⟨okB_none, _, rfl, ?_⟩
    dsimp only [List.set]
    walk_at "wp"
    refine wo_lst (by simp [LIM]) fun L t1 hL hLn j1 => ?_
    walk_at "wp"
    dsimp only [rowD]
    walk_at "wp"
    refine owp_forS (fun j e s' => ∃ y4, e = [some (.ref o), some (.ref R), some (rowD r), some (.ref L), y4, none, none, none] ∧ s'[L]? = some (.lst ((Str.ofString "state" :: (r.take j).flatMap stpW).map D.str)) ∧ Chg [] s s') ?_ ?_ ⟨_, rfl, by simpa using hL, j1⟩
    · rintro j d e s' hd ⟨y4, rfl, hLs, ks'⟩
      rw [List.getElem?_map] at hd
      obtain ⟨z, hz, rfl⟩ := Option.map_eq_some_iff.mp hd
      obtain ⟨z1, z2, z3⟩ := hro.stp z (List.mem_of_getElem? hz)
      refine ⟨okB_none, _, rfl, ?_⟩
      dsimp only [List.set]
      walk_at "wp"
      refine (step_words_ok z1 z2 z3).mono ?_
      rintro _ v1 ⟨W, rfl, hW, hWn, l1⟩
      walk_at "wp"
      have := row_take_len hro j
      refine wo_extend (l1.get0 hLs) hW (by rw [List.length_map, List.length_map, List.length_cons]; simp only [LIM, stpW, List.length_cons, List.length_nil]; omega) fun v2 hv2 l2 => ?_
      walk_at "wp"
      exact ⟨_, rfl, by rw [hv2, row_take hz]; simp, (ks'.trans l1).new hLn l2⟩
    · rintro e s' ⟨y4, rfl, hLs, ks'⟩
      refine ⟨okB_none, ?_⟩
      rw [List.length_map, List.take_length] at hLs
      have hRs' := ks'.get0 hRs
      walk_at "wp"
      refine w_join hLs (strsOf_map _) (Nat.le_trans (rowW_join hro) (by decide +kernel)) ?_
      walk_at "wp"
      have hRn0 : st[R]? = none := hRn
      refine wo_append hRs' (by simp [LIM]; omega) fun v4 hv4 l4 => ?_
      walk_at "wp"
      exact ⟨_, _, _, rfl, by rw [hv4, rows_take hr]; simp [rowL, rowW], (ks.trans ks').new hRn0 l4⟩
  · rintro e s ⟨x2, x3, x4, rfl, hRs, ks⟩
    rw [List.length_map, List.take_length] at hRs
    have hos := ks.get0 ho
    refine ⟨okB_none, ?_⟩
    walk_at "wp"
    refine opt_word (fun n e => by have := hg.leader n e; omega) (fun Q' h => by walk_at "wp"; exact h) ?_
    walk_at "wp"
    refine opt_word (fun n e => by have := hg.lamp n e; have := hg.c4; omega) (fun Q' h => by walk_at "wp"; exact h) ?_
    walk_at "wp"
    have hf : (numS g.first).length ≤ 10 := numS_len (by have := hg.first; omega)
    have hld := optW_len (o := g.leader) (w := Str.ofString "none") (by decide +kernel) (fun n e => by have := hg.leader n e; omega)
    have hlm := optW_len (o := g.lamp) (w := Str.ofString "any") (by decide +kernel) (fun n e => by have := hg.lamp n e; have := hg.c4; omega)
    refine r_both (by decide +kernel) ?_
    walk_at "wp"
    refine r_fmtI (small_log (by have := hg.first; omega)) ?_
    walk_at "wp"
    refine r_both (short_app (by decide +kernel) (Nat.le_trans hf (by decide))) ?_
    walk_at "wp"
    refine r_both (by decide +kernel) ?_
    walk_at "wp"
    refine r_fmtS (Nat.le_trans hld (by decide +kernel)) ?_
    walk_at "wp"
    refine r_both (short_app (by decide +kernel) (Nat.le_trans hld (by decide))) ?_
    walk_at "wp"
    refine r_both (by decide +kernel) ?_
    walk_at "wp"
    refine r_fmtS (Nat.le_trans hlm (by decide +kernel)) ?_
    walk_at "wp"
    refine r_both (short_app (by decide +kernel) (Nat.le_trans hlm (by decide))) ?_
    walk_at "wp"
    refine wo_lst (by simp [LIM]) fun L2 v1 hL2 hL2n l1 => ?_
    walk_at "wp"
    refine wo_addL (l1.get0 hRs) hL2 (by simp [LIM]; omega) fun L3 v2 hL3 hL3n l2 => ?_
    have hL3' : v2[L3]? = some (.lst ((linesG g).map D.str)) := by
      rw [hL3]
      simp only [linesG, endL, List.map_append, List.map_cons, List.map_nil, PySem.W.KT.empty_app]
      rfl
    clear hL3
    walk_at "wp"
    refine wp_lc ?_
    walk_at "wp"
    obtain ⟨ln1, ln2⟩ := linesG_len hg
    refine ⟨feed, fun s hs => okB_some (hs.get0 hL3'), by simp [LIM]; omega, ?_, ?_⟩
    · intro d hd s0 hs0
      obtain ⟨l, hl, rfl⟩ := List.mem_map.mp (show d ∈ (linesG g).map D.str from hd)
      have := ln2 l hl
      refine ⟨_, rfl, ?_⟩
      dsimp only [wipeD, List.set]
      walk_at "wp"
      refine w_addS (by rw [nl1]; simp [LIM]; omega) ?_
      walk_at "wp"
      exact ⟨rfl, Chg.refl⟩
    intro L4 v3 hL4 hL4n l3
    have hL4' : v3[L4]? = some (.lst (((linesG g).map (· ++ Str.ofString "\n")).map D.str)) := by rw [hL4]; rw [← feed_map]
    walk_at "wp"
    refine w_join hL4' (strsOf_map _) (Nat.le_trans (textG_join hg) (by decide +kernel)) ?_
    walk_at "wp"
    exact ⟨rfl, ((ks.trans l1).trans l2).trans l3⟩
end K02

set_option Elab.async false
set_option linter.all false
set_option maxRecDepth 100000
set_option maxHeartbeats 4000000
namespace K02
open PySem PySem.Spec PyProof.Rows L2 LF
local macro_rules | `(tactic| walk_at "wp") => `(tactic| repeat (first
  | (with_reducible refine r_seq_nx ?_)
  | (with_reducible refine r_seq_rt ?_)
  | (with_reducible refine r_seq_bk ?_)
  | (with_reducible refine r_seq_ct ?_)
  | (with_reducible refine r_seq_ex ?_)
  | (with_reducible refine r_loop_nx ?_)
  | (with_reducible refine r_loop_rt ?_)
  | (with_reducible refine r_loop_bk ?_)
  | (with_reducible refine r_loop_ct ?_)
  | (with_reducible refine r_loop_ex ?_)
  | (with_reducible refine r_fn_nx ?_)
  | (with_reducible refine r_fn_rt ?_)
  | (with_reducible refine r_fn_ex ?_)
  | (with_reducible refine r_owp_seq ?_)
  | (with_reducible refine r_owp_if ?_)
  | (with_reducible refine r_owp_ret ?_)
  | (with_reducible refine r_owp_expr ?_)
  | (with_reducible refine r_owp_skip ?_)
  | (with_reducible refine r_owp_brk ?_)
  | (with_reducible refine r_owp_cnt ?_)
  | (with_reducible refine r_owp_setIx ?_)
  | (with_reducible refine r_owp_setF ?_)
  | (with_reducible refine r_owp_for ?_)
  | (with_reducible refine r_owp_nx ?_)
  | (with_reducible refine r_owp_rt ?_)
  | (with_reducible refine r_owp_out ?_)
  | (with_reducible refine r_wp_bin ?_)
  | (with_reducible refine r_wp_un ?_)
  | (with_reducible refine r_wp_blt ?_)
  | (with_reducible refine r_wp_cons ?_)
  | (with_reducible refine r_wp_nil ?_)
  | (with_reducible refine r_wp_c ?_)
  | (with_reducible refine r_wp_if ?_)
  | (with_reducible refine q_asB ?_)
  | (with_reducible refine q_tTru ?_)
  | (with_reducible refine r_wp_tAnd ?_)
  | (with_reducible refine r_wp_tOr ?_)
  | (with_reducible refine r_wp_tNot ?_)
  | (with_reducible refine r_wp_tYes ?_)
  | (with_reducible refine q_eAnd ?_)
  | (with_reducible refine q_eOr ?_)
  | (with_reducible refine q_eNot ?_)
  | (with_reducible refine q_chain ?_)
  | (with_reducible refine r_wp_call ?_)
  | (with_reducible refine r_wp_mt ?_)
  | (with_reducible refine q_meth ?_)
  | (with_reducible refine q_make ?_)
  | (with_reducible refine q_fmt ?_)
  | (with_reducible refine r_wp_joinN ?_)
  | (with_reducible refine q_join ?_)
  | (with_reducible refine r_wp_partN ?_)
  | (with_reducible refine q_part ?_)
  | (with_reducible refine r_wp_sl ?_)
  | (with_reducible refine q_iS ?_)
  | (with_reducible refine q_iR1 ?_)
  | (with_reducible refine q_iR2 ?_)
  | (with_reducible refine q_iEn ?_)
  | (with_reducible refine r_onBl ?_)
  | (with_reducible refine r_onInt ?_)
  | (with_reducible refine r_onStr ?_)
  | (with_reducible refine r_onNon ?_)
  | (with_reducible refine r_itT ?_)
  | (with_reducible refine r_itS ?_)
  | (with_reducible refine r_wp_bind ?_)
  | (with_reducible refine r_wp_ofO ?_)
  | (with_reducible refine r_wp_ok ?_)
  | (with_reducible refine r_wo_some ?_)
  | (with_reducible refine w_addI ?_)
  | (with_reducible refine w_sub ?_)
  | (with_reducible refine w_lt ?_)
  | (with_reducible refine w_le ?_)
  | (with_reducible refine w_gt ?_)
  | (with_reducible refine w_ge ?_)
  | (with_reducible refine w_is ?_)
  | (with_reducible refine w_isNot ?_)
  | (with_reducible refine w_lenT ?_)
  | (with_reducible refine w_intI ?_)
  | (with_reducible refine w_strS ?_)
  | (with_reducible refine w_abs ?_)
  | (with_reducible refine w_eqI ?_)
  | (with_reducible refine w_neI ?_)
  | (with_reducible refine w_eqB ?_)
  | (with_reducible refine w_neB ?_)
  | (with_reducible refine w_neg ?_)
  | ((with_reducible refine r_owp_asg ?_); (try dsimp only [List.set]))
  | ((with_reducible refine r_owp_par ?_); (try dsimp only [List.set]))
  | (with_reducible refine r_var (by with_unfolding_all rfl) ?_)
  | (with_reducible refine w_ixL (by assumption) (by with_unfolding_all rfl) ?_)
  | (with_reducible refine w_ixT (by with_unfolding_all rfl) ?_)
  | (with_reducible refine w_lenL (by assumption) ?_)
  | (with_reducible refine w_fld (by assumption) (by with_unfolding_all rfl) (by with_unfolding_all rfl) ?_)
  | (with_reducible refine w_tupleL (by assumption) ?_)
  | (with_reducible refine w_mod (by omega) ?_)
  | (with_reducible refine w_div (by omega) (by omega) ?_)
  | (with_reducible refine w_mul (by omega) ?_)
  | (with_reducible refine w_isiT (by with_unfolding_all rfl) (by decide +kernel) (by with_unfolding_all (intro r h; cases h)) ?_)
  | (with_reducible refine w_isiRT (by assumption) (by with_unfolding_all rfl) (by with_unfolding_all rfl) (by decide +kernel) ?_)
  | (with_reducible refine w_isiCT (by assumption) (by with_unfolding_all rfl) (by with_unfolding_all rfl) (by decide +kernel) ?_)
  | (with_reducible refine w_isiF (by with_unfolding_all rfl) (by decide +kernel) (by with_unfolding_all (intro r h; cases h)) ?_)
  | (with_reducible refine w_isiRF (by assumption) (by with_unfolding_all rfl) (by with_unfolding_all rfl) (by decide +kernel) ?_)
  | (with_reducible refine w_isiCF (by assumption) (by with_unfolding_all rfl) (by with_unfolding_all rfl) (by decide +kernel) ?_)
  | (with_reducible refine r_both (by omega) ?_)
  | (with_reducible refine r_onLst (by assumption) ?_)
  | (with_reducible refine r_itL (by assumption) ?_)
  | (with_reducible refine r_onObj (by assumption) (by with_unfolding_all rfl) ?_)
  | (with_reducible refine r_tT (by first | decide | assumption | (exact tyOk_list (by assumption)) | (exact tyOk_str) | (exact r_decT (by assumption)) | (exact r_decT (by omega)) | (exact r_notT (by assumption)) | (exact r_notT (r_decF (by assumption))) | (exact r_notT (r_decF (by omega))) | omega | (with_unfolding_all rfl) | (simp [isNon]; done) | (simp; omega)) ?_)
  | (with_reducible refine r_tF (by first | decide | assumption | (exact r_decF (by assumption)) | (exact r_decF (by omega)) | (exact r_notF (by assumption)) | (exact r_notF (r_decT (by assumption))) | (exact r_notF (r_decT (by omega))) | omega | (exact r_notF (by with_unfolding_all rfl)) | (simp [isNon]; done) | (simp; omega)) ?_)
  | (with_reducible refine r_bT (by first | decide | assumption | (exact tyOk_list (by assumption)) | (exact tyOk_str) | (exact r_decT (by assumption)) | (exact r_decT (by omega)) | (exact r_notT (by assumption)) | (exact r_notT (r_decF (by assumption))) | (exact r_notT (r_decF (by omega))) | omega | (with_unfolding_all rfl) | (simp [isNon]; done) | (simp; omega)) ?_)
  | (with_reducible refine r_bF (by first | decide | assumption | (exact r_decF (by assumption)) | (exact r_decF (by omega)) | (exact r_notF (by assumption)) | (exact r_notF (r_decT (by assumption))) | (exact r_notF (r_decT (by omega))) | omega | (exact r_notF (by with_unfolding_all rfl)) | (simp [isNon]; done) | (simp; omega)) ?_)
  | (with_reducible refine r_p_iteT (by first | decide | assumption | (exact tyOk_list (by assumption)) | (exact tyOk_str) | (exact r_decT (by assumption)) | (exact r_decT (by omega)) | (exact r_notT (by assumption)) | (exact r_notT (r_decF (by assumption))) | (exact r_notT (r_decF (by omega))) | omega | (with_unfolding_all rfl) | (simp [isNon]; done) | (simp; omega)) ?_)
  | (with_reducible refine r_p_iteF (by first | decide | assumption | (exact r_decF (by assumption)) | (exact r_decF (by omega)) | (exact r_notF (by assumption)) | (exact r_notF (r_decT (by assumption))) | (exact r_notF (r_decT (by omega))) | omega | (exact r_notF (by with_unfolding_all rfl)) | (simp [isNon]; done) | (simp; omega)) ?_)
  | (with_reducible refine r_wp_iteT (by first | decide | assumption | (exact tyOk_list (by assumption)) | (exact tyOk_str) | (exact r_decT (by assumption)) | (exact r_decT (by omega)) | (exact r_notT (by assumption)) | (exact r_notT (r_decF (by assumption))) | (exact r_notT (r_decF (by omega))) | omega | (with_unfolding_all rfl) | (simp [isNon]; done) | (simp; omega)) ?_)
  | (with_reducible refine r_wp_iteF (by first | decide | assumption | (exact r_decF (by assumption)) | (exact r_decF (by omega)) | (exact r_notF (by assumption)) | (exact r_notF (r_decT (by assumption))) | (exact r_notF (r_decT (by omega))) | omega | (exact r_notF (by with_unfolding_all rfl)) | (simp [isNon]; done) | (simp; omega)) ?_)
  | (with_reducible refine r_owp_iteT (by first | decide | assumption | (exact tyOk_list (by assumption)) | (exact tyOk_str) | (exact r_decT (by assumption)) | (exact r_decT (by omega)) | (exact r_notT (by assumption)) | (exact r_notT (r_decF (by assumption))) | (exact r_notT (r_decF (by omega))) | omega | (with_unfolding_all rfl) | (simp [isNon]; done) | (simp; omega)) ?_)
  | (with_reducible refine r_owp_iteF (by first | decide | assumption | (exact r_decF (by assumption)) | (exact r_decF (by omega)) | (exact r_notF (by assumption)) | (exact r_notF (r_decT (by assumption))) | (exact r_notF (r_decT (by omega))) | omega | (exact r_notF (by with_unfolding_all rfl)) | (simp [isNon]; done) | (simp; omega)) ?_)
  ))
local macro_rules | `(tactic| walk_at "fld") => `(tactic| repeat (first
  | (with_reducible refine r_seq_rt ?_)
  | (with_reducible refine r_seq_bk ?_)
  | (with_reducible refine r_seq_ct ?_)
  | (with_reducible refine r_seq_ex ?_)
  | (with_reducible refine r_loop_nx ?_)
  | (with_reducible refine r_loop_rt ?_)
  | (with_reducible refine r_loop_bk ?_)
  | (with_reducible refine r_loop_ct ?_)
  | (with_reducible refine r_loop_ex ?_)
  | (with_reducible refine r_fn_nx ?_)
  | (with_reducible refine r_fn_rt ?_)
  | (with_reducible refine r_fn_ex ?_)
  | (with_reducible refine r_owp_if ?_)
  | (with_reducible refine r_owp_ret ?_)
  | (with_reducible refine r_owp_expr ?_)
  | (with_reducible refine r_owp_skip ?_)
  | (with_reducible refine r_owp_brk ?_)
  | (with_reducible refine r_owp_cnt ?_)
  | (with_reducible refine r_owp_setIx ?_)
  | (with_reducible refine r_owp_setF ?_)
  | (with_reducible refine r_owp_for ?_)
  | (with_reducible refine r_owp_nx ?_)
  | (with_reducible refine r_owp_rt ?_)
  | (with_reducible refine r_owp_out ?_)
  | (with_reducible refine r_wp_bin ?_)
  | (with_reducible refine r_wp_un ?_)
  | (with_reducible refine r_wp_blt ?_)
  | (with_reducible refine r_wp_cons ?_)
  | (with_reducible refine r_wp_nil ?_)
  | (with_reducible refine r_wp_c ?_)
  | (with_reducible refine r_wp_if ?_)
  | (with_reducible refine q_asB ?_)
  | (with_reducible refine q_tTru ?_)
  | (with_reducible refine r_wp_tAnd ?_)
  | (with_reducible refine r_wp_tOr ?_)
  | (with_reducible refine r_wp_tNot ?_)
  | (with_reducible refine r_wp_tYes ?_)
  | (with_reducible refine q_eAnd ?_)
  | (with_reducible refine q_eOr ?_)
  | (with_reducible refine q_eNot ?_)
  | (with_reducible refine q_chain ?_)
  | (with_reducible refine r_wp_call ?_)
  | (with_reducible refine r_wp_mt ?_)
  | (with_reducible refine q_meth ?_)
  | (with_reducible refine q_make ?_)
  | (with_reducible refine q_fmt ?_)
  | (with_reducible refine r_wp_joinN ?_)
  | (with_reducible refine q_join ?_)
  | (with_reducible refine r_wp_partN ?_)
  | (with_reducible refine q_part ?_)
  | (with_reducible refine r_wp_sl ?_)
  | (with_reducible refine q_iS ?_)
  | (with_reducible refine q_iR1 ?_)
  | (with_reducible refine q_iR2 ?_)
  | (with_reducible refine q_iEn ?_)
  | (with_reducible refine r_onBl ?_)
  | (with_reducible refine r_onInt ?_)
  | (with_reducible refine r_onStr ?_)
  | (with_reducible refine r_onNon ?_)
  | (with_reducible refine r_itT ?_)
  | (with_reducible refine r_itS ?_)
  | (with_reducible refine r_wp_bind ?_)
  | (with_reducible refine r_wp_ofO ?_)
  | (with_reducible refine r_wp_ok ?_)
  | (with_reducible refine r_wo_some ?_)
  | (with_reducible refine w_addI ?_)
  | (with_reducible refine w_sub ?_)
  | (with_reducible refine w_lt ?_)
  | (with_reducible refine w_le ?_)
  | (with_reducible refine w_gt ?_)
  | (with_reducible refine w_ge ?_)
  | (with_reducible refine w_is ?_)
  | (with_reducible refine w_isNot ?_)
  | (with_reducible refine w_lenT ?_)
  | (with_reducible refine w_intI ?_)
  | (with_reducible refine w_strS ?_)
  | (with_reducible refine w_abs ?_)
  | (with_reducible refine w_eqI ?_)
  | (with_reducible refine w_neI ?_)
  | (with_reducible refine w_eqB ?_)
  | (with_reducible refine w_neB ?_)
  | (with_reducible refine w_neg ?_)
  | ((with_reducible refine r_owp_asg ?_); (try dsimp only [List.set]))
  | ((with_reducible refine r_owp_par ?_); (try dsimp only [List.set]))
  | (with_reducible refine r_var (by with_unfolding_all rfl) ?_)
  | (with_reducible refine w_ixL (by assumption) (by with_unfolding_all rfl) ?_)
  | (with_reducible refine w_ixT (by with_unfolding_all rfl) ?_)
  | (with_reducible refine w_lenL (by assumption) ?_)
  | (with_reducible refine w_fld (by assumption) (by with_unfolding_all rfl) (by with_unfolding_all rfl) ?_)
  | (with_reducible refine w_tupleL (by assumption) ?_)
  | (with_reducible refine w_mod (by omega) ?_)
  | (with_reducible refine w_div (by omega) (by omega) ?_)
  | (with_reducible refine w_mul (by omega) ?_)
  | (with_reducible refine w_isiT (by with_unfolding_all rfl) (by decide +kernel) (by with_unfolding_all (intro r h; cases h)) ?_)
  | (with_reducible refine w_isiRT (by assumption) (by with_unfolding_all rfl) (by with_unfolding_all rfl) (by decide +kernel) ?_)
  | (with_reducible refine w_isiCT (by assumption) (by with_unfolding_all rfl) (by with_unfolding_all rfl) (by decide +kernel) ?_)
  | (with_reducible refine w_isiF (by with_unfolding_all rfl) (by decide +kernel) (by with_unfolding_all (intro r h; cases h)) ?_)
  | (with_reducible refine w_isiRF (by assumption) (by with_unfolding_all rfl) (by with_unfolding_all rfl) (by decide +kernel) ?_)
  | (with_reducible refine w_isiCF (by assumption) (by with_unfolding_all rfl) (by with_unfolding_all rfl) (by decide +kernel) ?_)
  | (with_reducible refine r_both (by omega) ?_)
  | (with_reducible refine r_onLst (by assumption) ?_)
  | (with_reducible refine r_itL (by assumption) ?_)
  | (with_reducible refine r_onObj (by assumption) (by with_unfolding_all rfl) ?_)
  | (with_reducible refine r_tT (by first | decide | assumption | (exact tyOk_list (by assumption)) | (exact tyOk_str) | (exact r_decT (by assumption)) | (exact r_decT (by omega)) | (exact r_notT (by assumption)) | (exact r_notT (r_decF (by assumption))) | (exact r_notT (r_decF (by omega))) | omega | (with_unfolding_all rfl) | (simp [isNon]; done) | (simp; omega)) ?_)
  | (with_reducible refine r_tF (by first | decide | assumption | (exact r_decF (by assumption)) | (exact r_decF (by omega)) | (exact r_notF (by assumption)) | (exact r_notF (r_decT (by assumption))) | (exact r_notF (r_decT (by omega))) | omega | (exact r_notF (by with_unfolding_all rfl)) | (simp [isNon]; done) | (simp; omega)) ?_)
  | (with_reducible refine r_bT (by first | decide | assumption | (exact tyOk_list (by assumption)) | (exact tyOk_str) | (exact r_decT (by assumption)) | (exact r_decT (by omega)) | (exact r_notT (by assumption)) | (exact r_notT (r_decF (by assumption))) | (exact r_notT (r_decF (by omega))) | omega | (with_unfolding_all rfl) | (simp [isNon]; done) | (simp; omega)) ?_)
  | (with_reducible refine r_bF (by first | decide | assumption | (exact r_decF (by assumption)) | (exact r_decF (by omega)) | (exact r_notF (by assumption)) | (exact r_notF (r_decT (by assumption))) | (exact r_notF (r_decT (by omega))) | omega | (exact r_notF (by with_unfolding_all rfl)) | (simp [isNon]; done) | (simp; omega)) ?_)
  | (with_reducible refine r_p_iteT (by first | decide | assumption | (exact tyOk_list (by assumption)) | (exact tyOk_str) | (exact r_decT (by assumption)) | (exact r_decT (by omega)) | (exact r_notT (by assumption)) | (exact r_notT (r_decF (by assumption))) | (exact r_notT (r_decF (by omega))) | omega | (with_unfolding_all rfl) | (simp [isNon]; done) | (simp; omega)) ?_)
  | (with_reducible refine r_p_iteF (by first | decide | assumption | (exact r_decF (by assumption)) | (exact r_decF (by omega)) | (exact r_notF (by assumption)) | (exact r_notF (r_decT (by assumption))) | (exact r_notF (r_decT (by omega))) | omega | (exact r_notF (by with_unfolding_all rfl)) | (simp [isNon]; done) | (simp; omega)) ?_)
  | (with_reducible refine r_wp_iteT (by first | decide | assumption | (exact tyOk_list (by assumption)) | (exact tyOk_str) | (exact r_decT (by assumption)) | (exact r_decT (by omega)) | (exact r_notT (by assumption)) | (exact r_notT (r_decF (by assumption))) | (exact r_notT (r_decF (by omega))) | omega | (with_unfolding_all rfl) | (simp [isNon]; done) | (simp; omega)) ?_)
  | (with_reducible refine r_wp_iteF (by first | decide | assumption | (exact r_decF (by assumption)) | (exact r_decF (by omega)) | (exact r_notF (by assumption)) | (exact r_notF (r_decT (by assumption))) | (exact r_notF (r_decT (by omega))) | omega | (exact r_notF (by with_unfolding_all rfl)) | (simp [isNon]; done) | (simp; omega)) ?_)
  | (with_reducible refine r_owp_iteT (by first | decide | assumption | (exact tyOk_list (by assumption)) | (exact tyOk_str) | (exact r_decT (by assumption)) | (exact r_decT (by omega)) | (exact r_notT (by assumption)) | (exact r_notT (r_decF (by assumption))) | (exact r_notT (r_decF (by omega))) | omega | (with_unfolding_all rfl) | (simp [isNon]; done) | (simp; omega)) ?_)
  | (with_reducible refine r_owp_iteF (by first | decide | assumption | (exact r_decF (by assumption)) | (exact r_decF (by omega)) | (exact r_notF (by assumption)) | (exact r_notF (r_decT (by assumption))) | (exact r_notF (r_decT (by omega))) | omega | (exact r_notF (by with_unfolding_all rfl)) | (simp [isNon]; done) | (simp; omega)) ?_)
  ))
local macro_rules | `(tactic| walk_at "fn") => `(tactic| (refine wp_fn rfl ?_; dsimp only [List.map_cons, List.map_nil, List.cons_append, List.nil_append, List.replicate, List.map, Nat.reduceSub]))
/-! ### the law's writer -/
theorem say_word {y : Say} (hy : y.ok) {w : Str} (hw : w = Str.ofString "-") {A : E} {env : Sl} {s : Sto} {X : XP} {Q : D → Sto → Prop} (hA : ∀ Q' : D → Sto → Prop, Q' y.d s → Wp X Q' (A env s)) (h : Q (.str y.w) s) : Wp X Q (if isNon y.d = true then eC (.str w) env s else eBlt opStr [A] env s) := by
  subst hw
  cases y with
  | no =>
    rw [if_pos (show isNon Say.no.d = true from rfl)]
    exact r_wp_c h
  | num n =>
    rw [if_neg (by simp [isNon, Say.d])]
    refine r_wp_blt (r_wp_cons (hA _ ?_))
    refine r_wp_nil ?_
    dsimp only [Say.d]
    exact w_str (small_log (by have := hy.2; omega)) h
  | all =>
    rw [if_neg (by simp [isNon, Say.d])]
    refine r_wp_blt (r_wp_cons (hA _ ?_))
    refine r_wp_nil ?_
    dsimp only [Say.d]
    exact w_strS h
def specC (g : Prg) : Cell := .lst [stepsD g.rows, .int g.first, optD g.leader, optD g.lamp]
theorem law_lines_ok {g : Prg} {C o : Nat} (hg : g.Ok C) {st : Sto} (ho : st[o]? = some (.lst [stepsD g.rows, .int g.first, optD g.leader, optD g.lamp])) {X : XP} :
    Wp X (fun d s => ∃ r, d = .ref r ∧ s[r]? = some (.lst ((linesG g).map D.str)) ∧ Chg [] st s) (f__law_lines [.ref o] st) := by
  have n5 := hg.n5
  walk_at "fn"
  unfold b__law_lines
  walk_at "wp"
  refine wo_lst (by simp [LIM]) fun R s1 hR hRn k1 => ?_
  have ho1 := k1.get0 ho
  walk_at "wp"
  dsimp only [stepsD]
  walk_at "wp"
  refine owp_forS (fun i e s => ∃ R x2 x3 x4, e = [some (.ref o), some (.ref R), x2, x3, x4] ∧ s[R]? = some (.lst (((g.rows.take i).map rowL).map D.str)) ∧ st[R]? = none ∧ Chg [] st s) ?_ ?_ ⟨R, _, _, _, rfl, by simpa using hR, hRn, k1⟩
  · rintro i d e s hd ⟨R, x2, x3, x4, rfl, hRs, hRn, ks⟩
    rw [List.getElem?_map] at hd
    obtain ⟨r, hr, rfl⟩ := Option.map_eq_some_iff.mp hd
    have hrm := List.mem_of_getElem? hr
    have hro := hg.rowOk hrm
    refine ⟨okB_none, _, rfl, ?_⟩
    dsimp only [List.set]
    walk_at "wp"
    refine wo_lst (by simp [LIM]) fun L t1 hL hLn j1 => ?_
    walk_at "wp"
    dsimp only [rowD]
    walk_at "wp"
    refine owp_forS (fun j e s' => ∃ L y4, e = [some (.ref o), some (.ref R), some (rowD r), some (.ref L), y4] ∧ s'[L]? = some (.lst ((Str.ofString "state" :: (r.take j).flatMap stpW).map D.str)) ∧ Chg [] s s') ?_ ?_ ⟨L, _, rfl, by simpa using hL, j1⟩
    · rintro j d e s' hd ⟨L, y4, rfl, hLs, ks'⟩
      rw [List.getElem?_map] at hd
      obtain ⟨z, hz, rfl⟩ := Option.map_eq_some_iff.mp hd
      obtain ⟨z1, z2, z3⟩ := hro.stp z (List.mem_of_getElem? hz)
      refine ⟨okB_none, _, rfl, ?_⟩
      dsimp only [List.set, stpD]
      walk_at "wp"
      refine w_str (small_log (by omega)) ?_
      walk_at "wp"
      refine w_str (small_log (by omega)) ?_
      walk_at "wp"
      refine say_word z3 rfl (fun Q' h => by walk_at "wp"; exact h) ?_
      walk_at "wp"
      refine wo_lst (by simp [LIM]) fun W v1 hW hWn l1 => ?_
      walk_at "wp"
      have := row_take_len hro j
      refine wo_addL (l1.get0 hLs) hW (by rw [List.length_map, List.length_cons]; simp only [LIM, List.length_cons, List.length_nil]; omega) fun L2 v2 hL2 hL2n l2 => ?_
      walk_at "wp"
      exact ⟨L2, _, rfl, by rw [hL2, row_take hz]; simp [stpW, numS], (ks'.trans l1).trans l2⟩
    · rintro e s' ⟨L, y4, rfl, hLs, ks'⟩
      refine ⟨okB_none, ?_⟩
      rw [List.length_map, List.take_length] at hLs
      have hRs' := ks'.get0 hRs
      walk_at "wp"
      refine w_join hLs (strsOf_map _) (Nat.le_trans (rowW_join hro) (by decide +kernel)) ?_
      walk_at "wp"
      refine wo_append hRs' (by simp [LIM]; omega) fun v4 hv4 l4 => ?_
      walk_at "wp"
      exact ⟨R, _, _, _, rfl, by rw [hv4, rows_take hr]; simp [rowL, rowW], hRn, (ks.trans ks').new hRn l4⟩
  · rintro e s ⟨R, x2, x3, x4, rfl, hRs, hRn, ks⟩
    rw [List.length_map, List.take_length] at hRs
    have hos := ks.get0 ho
    have hf : (numS g.first).length ≤ 10 := numS_len (by have := hg.first; omega)
    have hld := optW_len (o := g.leader) (w := Str.ofString "none") (by decide +kernel) (fun n e => by have := hg.leader n e; omega)
    have hlm := optW_len (o := g.lamp) (w := Str.ofString "any") (by decide +kernel) (fun n e => by have := hg.lamp n e; have := hg.c4; omega)
    refine ⟨okB_none, ?_⟩
    walk_at "wp"
    refine w_str (small_log (by have := hg.first; omega)) ?_
    walk_at "wp"
    refine w_addS (by have := hf; have h9 : (Str.ofString "first ").length ≤ 10 := by decide +kernel
                      show (Str.ofString "first ").length + (numS g.first).length ≤ LIM
                      simp only [LIM]; omega) ?_
    walk_at "wp"
    refine opt_word (fun n e => by have := hg.leader n e; omega) (fun Q' h => by walk_at "wp"; exact h) ?_
    walk_at "wp"
    refine w_addS (by have h9 : (Str.ofString "leader ").length ≤ 10 := by decide +kernel
                      simp only [LIM]; omega) ?_
    walk_at "wp"
    refine wo_lst (by simp [LIM]) fun L2 v1 hL2 hL2n l1 => ?_
    walk_at "wp"
    refine wo_addL (l1.get0 hRs) hL2 (by simp [LIM]; omega) fun L3 v2 hL3 hL3n l2 => ?_
    have hos2 := l2.get0 (l1.get0 hos)
    walk_at "wp"
    refine opt_word (fun n e => by have := hg.lamp n e; have := hg.c4; omega) (fun Q' h => by walk_at "wp"; exact h) ?_
    walk_at "wp"
    refine w_addS (by have h9 : (Str.ofString "lamp ").length ≤ 10 := by decide +kernel
                      simp only [LIM]; omega) ?_
    walk_at "wp"
    refine wo_lst (by simp [LIM]) fun L4 v3 hL4 hL4n l3 => ?_
    walk_at "wp"
    refine wo_addL (l3.get0 hL3) hL4 (by simp [LIM]; omega) fun L5 v4 hL5 hL5n l4 => ?_
    walk_at "wp"
    refine ⟨L5, rfl, ?_, (((ks.trans l1).trans l2).trans l3).trans l4⟩
    rw [hL5]
    simp only [linesG, endL, List.map_append, List.map_cons, List.map_nil, List.append_assoc, List.cons_append, List.nil_append]
    rfl
theorem law_text_ok {g : Prg} {C o : Nat} (hg : g.Ok C) {st : Sto} (ho : st[o]? = some (.lst [stepsD g.rows, .int g.first, optD g.leader, optD g.lamp])) {X : XP} :
    Wp X (fun d s => d = .str (textG g) ∧ Chg [] st s) (f__law_text_of [.ref o] st) := by
  walk_at "fn"
  unfold b__law_text_of
  walk_at "wp"
  refine wp_lc ?_
  walk_at "wp"
  refine (law_lines_ok hg ho).mono ?_
  rintro _ v2 ⟨L3, rfl, hL3', l2⟩
  walk_at "wp"
  obtain ⟨ln1, ln2⟩ := linesG_len hg
  refine ⟨feed, fun s hs => okB_some (hs.get0 hL3'), by simp [LIM]; omega, ?_, ?_⟩
  · intro d hd s0 hs0
    obtain ⟨l, hl, rfl⟩ := List.mem_map.mp (show d ∈ (linesG g).map D.str from hd)
    have := ln2 l hl
    refine ⟨_, rfl, ?_⟩
    dsimp only [wipeD, List.set]
    walk_at "wp"
    refine w_addS (by rw [nl1]; simp [LIM]; omega) ?_
    walk_at "wp"
    exact ⟨rfl, Chg.refl⟩
  intro L4 v3 hL4 hL4n l3
  have hL4' : v3[L4]? = some (.lst (((linesG g).map (· ++ Str.ofString "\n")).map D.str)) := by rw [hL4]; rw [← feed_map]
  walk_at "wp"
  refine w_join hL4' (strsOf_map _) (Nat.le_trans (textG_join hg) (by decide +kernel)) ?_
  walk_at "wp"
  exact ⟨rfl, l2.trans l3⟩
end K02

set_option Elab.async false
set_option linter.all false
set_option maxRecDepth 100000
set_option maxHeartbeats 4000000
namespace K02
open PySem PySem.Spec PyProof.Rows L2 LF
local macro_rules | `(tactic| walk_at "wp") => `(tactic| repeat (first
  | (with_reducible refine r_seq_nx ?_)
  | (with_reducible refine r_seq_rt ?_)
  | (with_reducible refine r_seq_bk ?_)
  | (with_reducible refine r_seq_ct ?_)
  | (with_reducible refine r_seq_ex ?_)
  | (with_reducible refine r_loop_nx ?_)
  | (with_reducible refine r_loop_rt ?_)
  | (with_reducible refine r_loop_bk ?_)
  | (with_reducible refine r_loop_ct ?_)
  | (with_reducible refine r_loop_ex ?_)
  | (with_reducible refine r_fn_nx ?_)
  | (with_reducible refine r_fn_rt ?_)
  | (with_reducible refine r_fn_ex ?_)
  | (with_reducible refine r_owp_seq ?_)
  | (with_reducible refine r_owp_if ?_)
  | (with_reducible refine r_owp_ret ?_)
  | (with_reducible refine r_owp_expr ?_)
  | (with_reducible refine r_owp_skip ?_)
  | (with_reducible refine r_owp_brk ?_)
  | (with_reducible refine r_owp_cnt ?_)
  | (with_reducible refine r_owp_setIx ?_)
  | (with_reducible refine r_owp_setF ?_)
  | (with_reducible refine r_owp_for ?_)
  | (with_reducible refine r_owp_nx ?_)
  | (with_reducible refine r_owp_rt ?_)
  | (with_reducible refine r_owp_out ?_)
  | (with_reducible refine r_wp_bin ?_)
  | (with_reducible refine r_wp_un ?_)
  | (with_reducible refine r_wp_blt ?_)
  | (with_reducible refine r_wp_cons ?_)
  | (with_reducible refine r_wp_nil ?_)
  | (with_reducible refine r_wp_c ?_)
  | (with_reducible refine r_wp_if ?_)
  | (with_reducible refine q_asB ?_)
  | (with_reducible refine q_tTru ?_)
  | (with_reducible refine r_wp_tAnd ?_)
  | (with_reducible refine r_wp_tOr ?_)
  | (with_reducible refine r_wp_tNot ?_)
  | (with_reducible refine r_wp_tYes ?_)
  | (with_reducible refine q_eAnd ?_)
  | (with_reducible refine q_eOr ?_)
  | (with_reducible refine q_eNot ?_)
  | (with_reducible refine q_chain ?_)
  | (with_reducible refine r_wp_call ?_)
  | (with_reducible refine r_wp_mt ?_)
  | (with_reducible refine q_meth ?_)
  | (with_reducible refine q_make ?_)
  | (with_reducible refine q_fmt ?_)
  | (with_reducible refine r_wp_joinN ?_)
  | (with_reducible refine q_join ?_)
  | (with_reducible refine r_wp_partN ?_)
  | (with_reducible refine q_part ?_)
  | (with_reducible refine r_wp_sl ?_)
  | (with_reducible refine q_iS ?_)
  | (with_reducible refine q_iR1 ?_)
  | (with_reducible refine q_iR2 ?_)
  | (with_reducible refine q_iEn ?_)
  | (with_reducible refine r_onBl ?_)
  | (with_reducible refine r_onInt ?_)
  | (with_reducible refine r_onStr ?_)
  | (with_reducible refine r_onNon ?_)
  | (with_reducible refine r_itT ?_)
  | (with_reducible refine r_itS ?_)
  | (with_reducible refine r_wp_bind ?_)
  | (with_reducible refine r_wp_ofO ?_)
  | (with_reducible refine r_wp_ok ?_)
  | (with_reducible refine r_wo_some ?_)
  | (with_reducible refine w_addI ?_)
  | (with_reducible refine w_sub ?_)
  | (with_reducible refine w_lt ?_)
  | (with_reducible refine w_le ?_)
  | (with_reducible refine w_gt ?_)
  | (with_reducible refine w_ge ?_)
  | (with_reducible refine w_is ?_)
  | (with_reducible refine w_isNot ?_)
  | (with_reducible refine w_lenT ?_)
  | (with_reducible refine w_intI ?_)
  | (with_reducible refine w_strS ?_)
  | (with_reducible refine w_abs ?_)
  | (with_reducible refine w_eqI ?_)
  | (with_reducible refine w_neI ?_)
  | (with_reducible refine w_eqB ?_)
  | (with_reducible refine w_neB ?_)
  | (with_reducible refine w_neg ?_)
  | ((with_reducible refine r_owp_asg ?_); (try dsimp only [List.set]))
  | ((with_reducible refine r_owp_par ?_); (try dsimp only [List.set]))
  | (with_reducible refine r_var (by with_unfolding_all rfl) ?_)
  | (with_reducible refine w_ixL (by assumption) (by with_unfolding_all rfl) ?_)
  | (with_reducible refine w_ixT (by with_unfolding_all rfl) ?_)
  | (with_reducible refine w_lenL (by assumption) ?_)
  | (with_reducible refine w_fld (by assumption) (by with_unfolding_all rfl) (by with_unfolding_all rfl) ?_)
  | (with_reducible refine w_tupleL (by assumption) ?_)
  | (with_reducible refine w_mod (by omega) ?_)
  | (with_reducible refine w_div (by omega) (by omega) ?_)
  | (with_reducible refine w_mul (by omega) ?_)
  | (with_reducible refine w_isiT (by with_unfolding_all rfl) (by decide +kernel) (by with_unfolding_all (intro r h; cases h)) ?_)
  | (with_reducible refine w_isiRT (by assumption) (by with_unfolding_all rfl) (by with_unfolding_all rfl) (by decide +kernel) ?_)
  | (with_reducible refine w_isiCT (by assumption) (by with_unfolding_all rfl) (by with_unfolding_all rfl) (by decide +kernel) ?_)
  | (with_reducible refine w_isiF (by with_unfolding_all rfl) (by decide +kernel) (by with_unfolding_all (intro r h; cases h)) ?_)
  | (with_reducible refine w_isiRF (by assumption) (by with_unfolding_all rfl) (by with_unfolding_all rfl) (by decide +kernel) ?_)
  | (with_reducible refine w_isiCF (by assumption) (by with_unfolding_all rfl) (by with_unfolding_all rfl) (by decide +kernel) ?_)
  | (with_reducible refine r_both (by omega) ?_)
  | (with_reducible refine r_onLst (by assumption) ?_)
  | (with_reducible refine r_itL (by assumption) ?_)
  | (with_reducible refine r_onObj (by assumption) (by with_unfolding_all rfl) ?_)
  | (with_reducible refine r_tT (by first | decide | assumption | (exact tyOk_list (by assumption)) | (exact tyOk_str) | (exact r_decT (by assumption)) | (exact r_decT (by omega)) | (exact r_notT (by assumption)) | (exact r_notT (r_decF (by assumption))) | (exact r_notT (r_decF (by omega))) | omega | (with_unfolding_all rfl) | (simp [isNon]; done) | (simp; omega)) ?_)
  | (with_reducible refine r_tF (by first | decide | assumption | (exact r_decF (by assumption)) | (exact r_decF (by omega)) | (exact r_notF (by assumption)) | (exact r_notF (r_decT (by assumption))) | (exact r_notF (r_decT (by omega))) | omega | (exact r_notF (by with_unfolding_all rfl)) | (simp [isNon]; done) | (simp; omega)) ?_)
  | (with_reducible refine r_bT (by first | decide | assumption | (exact tyOk_list (by assumption)) | (exact tyOk_str) | (exact r_decT (by assumption)) | (exact r_decT (by omega)) | (exact r_notT (by assumption)) | (exact r_notT (r_decF (by assumption))) | (exact r_notT (r_decF (by omega))) | omega | (with_unfolding_all rfl) | (simp [isNon]; done) | (simp; omega)) ?_)
  | (with_reducible refine r_bF (by first | decide | assumption | (exact r_decF (by assumption)) | (exact r_decF (by omega)) | (exact r_notF (by assumption)) | (exact r_notF (r_decT (by assumption))) | (exact r_notF (r_decT (by omega))) | omega | (exact r_notF (by with_unfolding_all rfl)) | (simp [isNon]; done) | (simp; omega)) ?_)
  | (with_reducible refine r_p_iteT (by first | decide | assumption | (exact tyOk_list (by assumption)) | (exact tyOk_str) | (exact r_decT (by assumption)) | (exact r_decT (by omega)) | (exact r_notT (by assumption)) | (exact r_notT (r_decF (by assumption))) | (exact r_notT (r_decF (by omega))) | omega | (with_unfolding_all rfl) | (simp [isNon]; done) | (simp; omega)) ?_)
  | (with_reducible refine r_p_iteF (by first | decide | assumption | (exact r_decF (by assumption)) | (exact r_decF (by omega)) | (exact r_notF (by assumption)) | (exact r_notF (r_decT (by assumption))) | (exact r_notF (r_decT (by omega))) | omega | (exact r_notF (by with_unfolding_all rfl)) | (simp [isNon]; done) | (simp; omega)) ?_)
  | (with_reducible refine r_wp_iteT (by first | decide | assumption | (exact tyOk_list (by assumption)) | (exact tyOk_str) | (exact r_decT (by assumption)) | (exact r_decT (by omega)) | (exact r_notT (by assumption)) | (exact r_notT (r_decF (by assumption))) | (exact r_notT (r_decF (by omega))) | omega | (with_unfolding_all rfl) | (simp [isNon]; done) | (simp; omega)) ?_)
  | (with_reducible refine r_wp_iteF (by first | decide | assumption | (exact r_decF (by assumption)) | (exact r_decF (by omega)) | (exact r_notF (by assumption)) | (exact r_notF (r_decT (by assumption))) | (exact r_notF (r_decT (by omega))) | omega | (exact r_notF (by with_unfolding_all rfl)) | (simp [isNon]; done) | (simp; omega)) ?_)
  | (with_reducible refine r_owp_iteT (by first | decide | assumption | (exact tyOk_list (by assumption)) | (exact tyOk_str) | (exact r_decT (by assumption)) | (exact r_decT (by omega)) | (exact r_notT (by assumption)) | (exact r_notT (r_decF (by assumption))) | (exact r_notT (r_decF (by omega))) | omega | (with_unfolding_all rfl) | (simp [isNon]; done) | (simp; omega)) ?_)
  | (with_reducible refine r_owp_iteF (by first | decide | assumption | (exact r_decF (by assumption)) | (exact r_decF (by omega)) | (exact r_notF (by assumption)) | (exact r_notF (r_decT (by assumption))) | (exact r_notF (r_decT (by omega))) | omega | (exact r_notF (by with_unfolding_all rfl)) | (simp [isNon]; done) | (simp; omega)) ?_)
  ))
local macro_rules | `(tactic| walk_at "fld") => `(tactic| repeat (first
  | (with_reducible refine r_seq_rt ?_)
  | (with_reducible refine r_seq_bk ?_)
  | (with_reducible refine r_seq_ct ?_)
  | (with_reducible refine r_seq_ex ?_)
  | (with_reducible refine r_loop_nx ?_)
  | (with_reducible refine r_loop_rt ?_)
  | (with_reducible refine r_loop_bk ?_)
  | (with_reducible refine r_loop_ct ?_)
  | (with_reducible refine r_loop_ex ?_)
  | (with_reducible refine r_fn_nx ?_)
  | (with_reducible refine r_fn_rt ?_)
  | (with_reducible refine r_fn_ex ?_)
  | (with_reducible refine r_owp_if ?_)
  | (with_reducible refine r_owp_ret ?_)
  | (with_reducible refine r_owp_expr ?_)
  | (with_reducible refine r_owp_skip ?_)
  | (with_reducible refine r_owp_brk ?_)
  | (with_reducible refine r_owp_cnt ?_)
  | (with_reducible refine r_owp_setIx ?_)
  | (with_reducible refine r_owp_setF ?_)
  | (with_reducible refine r_owp_for ?_)
  | (with_reducible refine r_owp_nx ?_)
  | (with_reducible refine r_owp_rt ?_)
  | (with_reducible refine r_owp_out ?_)
  | (with_reducible refine r_wp_bin ?_)
  | (with_reducible refine r_wp_un ?_)
  | (with_reducible refine r_wp_blt ?_)
  | (with_reducible refine r_wp_cons ?_)
  | (with_reducible refine r_wp_nil ?_)
  | (with_reducible refine r_wp_c ?_)
  | (with_reducible refine r_wp_if ?_)
  | (with_reducible refine q_asB ?_)
  | (with_reducible refine q_tTru ?_)
  | (with_reducible refine r_wp_tAnd ?_)
  | (with_reducible refine r_wp_tOr ?_)
  | (with_reducible refine r_wp_tNot ?_)
  | (with_reducible refine r_wp_tYes ?_)
  | (with_reducible refine q_eAnd ?_)
  | (with_reducible refine q_eOr ?_)
  | (with_reducible refine q_eNot ?_)
  | (with_reducible refine q_chain ?_)
  | (with_reducible refine r_wp_call ?_)
  | (with_reducible refine r_wp_mt ?_)
  | (with_reducible refine q_meth ?_)
  | (with_reducible refine q_make ?_)
  | (with_reducible refine q_fmt ?_)
  | (with_reducible refine r_wp_joinN ?_)
  | (with_reducible refine q_join ?_)
  | (with_reducible refine r_wp_partN ?_)
  | (with_reducible refine q_part ?_)
  | (with_reducible refine r_wp_sl ?_)
  | (with_reducible refine q_iS ?_)
  | (with_reducible refine q_iR1 ?_)
  | (with_reducible refine q_iR2 ?_)
  | (with_reducible refine q_iEn ?_)
  | (with_reducible refine r_onBl ?_)
  | (with_reducible refine r_onInt ?_)
  | (with_reducible refine r_onStr ?_)
  | (with_reducible refine r_onNon ?_)
  | (with_reducible refine r_itT ?_)
  | (with_reducible refine r_itS ?_)
  | (with_reducible refine r_wp_bind ?_)
  | (with_reducible refine r_wp_ofO ?_)
  | (with_reducible refine r_wp_ok ?_)
  | (with_reducible refine r_wo_some ?_)
  | (with_reducible refine w_addI ?_)
  | (with_reducible refine w_sub ?_)
  | (with_reducible refine w_lt ?_)
  | (with_reducible refine w_le ?_)
  | (with_reducible refine w_gt ?_)
  | (with_reducible refine w_ge ?_)
  | (with_reducible refine w_is ?_)
  | (with_reducible refine w_isNot ?_)
  | (with_reducible refine w_lenT ?_)
  | (with_reducible refine w_intI ?_)
  | (with_reducible refine w_strS ?_)
  | (with_reducible refine w_abs ?_)
  | (with_reducible refine w_eqI ?_)
  | (with_reducible refine w_neI ?_)
  | (with_reducible refine w_eqB ?_)
  | (with_reducible refine w_neB ?_)
  | (with_reducible refine w_neg ?_)
  | ((with_reducible refine r_owp_asg ?_); (try dsimp only [List.set]))
  | ((with_reducible refine r_owp_par ?_); (try dsimp only [List.set]))
  | (with_reducible refine r_var (by with_unfolding_all rfl) ?_)
  | (with_reducible refine w_ixL (by assumption) (by with_unfolding_all rfl) ?_)
  | (with_reducible refine w_ixT (by with_unfolding_all rfl) ?_)
  | (with_reducible refine w_lenL (by assumption) ?_)
  | (with_reducible refine w_fld (by assumption) (by with_unfolding_all rfl) (by with_unfolding_all rfl) ?_)
  | (with_reducible refine w_tupleL (by assumption) ?_)
  | (with_reducible refine w_mod (by omega) ?_)
  | (with_reducible refine w_div (by omega) (by omega) ?_)
  | (with_reducible refine w_mul (by omega) ?_)
  | (with_reducible refine w_isiT (by with_unfolding_all rfl) (by decide +kernel) (by with_unfolding_all (intro r h; cases h)) ?_)
  | (with_reducible refine w_isiRT (by assumption) (by with_unfolding_all rfl) (by with_unfolding_all rfl) (by decide +kernel) ?_)
  | (with_reducible refine w_isiCT (by assumption) (by with_unfolding_all rfl) (by with_unfolding_all rfl) (by decide +kernel) ?_)
  | (with_reducible refine w_isiF (by with_unfolding_all rfl) (by decide +kernel) (by with_unfolding_all (intro r h; cases h)) ?_)
  | (with_reducible refine w_isiRF (by assumption) (by with_unfolding_all rfl) (by with_unfolding_all rfl) (by decide +kernel) ?_)
  | (with_reducible refine w_isiCF (by assumption) (by with_unfolding_all rfl) (by with_unfolding_all rfl) (by decide +kernel) ?_)
  | (with_reducible refine r_both (by omega) ?_)
  | (with_reducible refine r_onLst (by assumption) ?_)
  | (with_reducible refine r_itL (by assumption) ?_)
  | (with_reducible refine r_onObj (by assumption) (by with_unfolding_all rfl) ?_)
  | (with_reducible refine r_tT (by first | decide | assumption | (exact tyOk_list (by assumption)) | (exact tyOk_str) | (exact r_decT (by assumption)) | (exact r_decT (by omega)) | (exact r_notT (by assumption)) | (exact r_notT (r_decF (by assumption))) | (exact r_notT (r_decF (by omega))) | omega | (with_unfolding_all rfl) | (simp [isNon]; done) | (simp; omega)) ?_)
  | (with_reducible refine r_tF (by first | decide | assumption | (exact r_decF (by assumption)) | (exact r_decF (by omega)) | (exact r_notF (by assumption)) | (exact r_notF (r_decT (by assumption))) | (exact r_notF (r_decT (by omega))) | omega | (exact r_notF (by with_unfolding_all rfl)) | (simp [isNon]; done) | (simp; omega)) ?_)
  | (with_reducible refine r_bT (by first | decide | assumption | (exact tyOk_list (by assumption)) | (exact tyOk_str) | (exact r_decT (by assumption)) | (exact r_decT (by omega)) | (exact r_notT (by assumption)) | (exact r_notT (r_decF (by assumption))) | (exact r_notT (r_decF (by omega))) | omega | (with_unfolding_all rfl) | (simp [isNon]; done) | (simp; omega)) ?_)
  | (with_reducible refine r_bF (by first | decide | assumption | (exact r_decF (by assumption)) | (exact r_decF (by omega)) | (exact r_notF (by assumption)) | (exact r_notF (r_decT (by assumption))) | (exact r_notF (r_decT (by omega))) | omega | (exact r_notF (by with_unfolding_all rfl)) | (simp [isNon]; done) | (simp; omega)) ?_)
  | (with_reducible refine r_p_iteT (by first | decide | assumption | (exact tyOk_list (by assumption)) | (exact tyOk_str) | (exact r_decT (by assumption)) | (exact r_decT (by omega)) | (exact r_notT (by assumption)) | (exact r_notT (r_decF (by assumption))) | (exact r_notT (r_decF (by omega))) | omega | (with_unfolding_all rfl) | (simp [isNon]; done) | (simp; omega)) ?_)
  | (with_reducible refine r_p_iteF (by first | decide | assumption | (exact r_decF (by assumption)) | (exact r_decF (by omega)) | (exact r_notF (by assumption)) | (exact r_notF (r_decT (by assumption))) | (exact r_notF (r_decT (by omega))) | omega | (exact r_notF (by with_unfolding_all rfl)) | (simp [isNon]; done) | (simp; omega)) ?_)
  | (with_reducible refine r_wp_iteT (by first | decide | assumption | (exact tyOk_list (by assumption)) | (exact tyOk_str) | (exact r_decT (by assumption)) | (exact r_decT (by omega)) | (exact r_notT (by assumption)) | (exact r_notT (r_decF (by assumption))) | (exact r_notT (r_decF (by omega))) | omega | (with_unfolding_all rfl) | (simp [isNon]; done) | (simp; omega)) ?_)
  | (with_reducible refine r_wp_iteF (by first | decide | assumption | (exact r_decF (by assumption)) | (exact r_decF (by omega)) | (exact r_notF (by assumption)) | (exact r_notF (r_decT (by assumption))) | (exact r_notF (r_decT (by omega))) | omega | (exact r_notF (by with_unfolding_all rfl)) | (simp [isNon]; done) | (simp; omega)) ?_)
  | (with_reducible refine r_owp_iteT (by first | decide | assumption | (exact tyOk_list (by assumption)) | (exact tyOk_str) | (exact r_decT (by assumption)) | (exact r_decT (by omega)) | (exact r_notT (by assumption)) | (exact r_notT (r_decF (by assumption))) | (exact r_notT (r_decF (by omega))) | omega | (with_unfolding_all rfl) | (simp [isNon]; done) | (simp; omega)) ?_)
  | (with_reducible refine r_owp_iteF (by first | decide | assumption | (exact r_decF (by assumption)) | (exact r_decF (by omega)) | (exact r_notF (by assumption)) | (exact r_notF (r_decT (by assumption))) | (exact r_notF (r_decT (by omega))) | omega | (exact r_notF (by with_unfolding_all rfl)) | (simp [isNon]; done) | (simp; omega)) ?_)
  ))
local macro_rules | `(tactic| walk_at "fn") => `(tactic| (refine wp_fn rfl ?_; dsimp only [List.map_cons, List.map_nil, List.cons_append, List.nil_append, List.replicate, List.map, Nat.reduceSub]))
/-! ### the text, cut again -/
theorem dig {n : Nat} (h : n < 10) : numS n = ⟨#[48 + n]⟩ := by
  have : n = 0 ∨ n = 1 ∨ n = 2 ∨ n = 3 ∨ n = 4 ∨ n = 5 ∨ n = 6 ∨ n = 7 ∨ n = 8 ∨ n = 9 := by omega
  rcases this with rfl | rfl | rfl | rfl | rfl | rfl | rfl | rfl | rfl | rfl <;> decide +kernel
def WOk (w : Str) : Prop := 1 ≤ w.length ∧ ∀ c ∈ w.cps.toList, 33 ≤ c ∧ c < 128
instance (w : Str) : Decidable (WOk w) := inferInstanceAs (Decidable (_ ∧ _))
theorem numS_w {n : Nat} (h : n < 10) : WOk (numS n) := by
  rw [dig h]
  refine ⟨by simp [Str.length], ?_⟩
  intro c hc
  simp at hc
  omega
theorem Say.w_w {y : Say} (h : y.ok) : WOk y.w := by
  cases y with
  | no => exact (by decide +kernel : WOk (Str.ofString "-"))
  | num n => exact numS_w (by have := h.2; omega)
  | all => exact (by decide +kernel : WOk (Str.ofString "all"))
theorem optW_w {o : Option Nat} {w : Str} (hw : WOk w) (h : ∀ n, o = some n → n < 10) : WOk (optW w o) := by
  cases o with
  | none => exact hw
  | some n => exact numS_w (h n rfl)
def endW (g : Prg) : List (List Str) := [[Str.ofString "first", numS g.first], [Str.ofString "leader", optW (Str.ofString "none") g.leader], [Str.ofString "lamp", optW (Str.ofString "any") g.lamp], [Str.ofString "end"]]
def wordsG (g : Prg) : List (List Str) := g.rows.map rowW ++ endW g
def sp : Str := Str.ofString " "
theorem join2 {a b c : Str} (h : a = b ++ sp) : a ++ c = Txt.join sp [b, c] := by
  rw [TL.join_eq, h]
  rfl
theorem lines_words (g : Prg) : linesG g = (wordsG g).map (Txt.join sp) := by
  have e : endL g = (endW g).map (Txt.join sp) := by
    simp only [endL, endW, List.map_cons, List.map_nil]
    rw [join2 (b := Str.ofString "first") (by decide +kernel), join2 (b := Str.ofString "leader") (by decide +kernel), join2 (b := Str.ofString "lamp") (by decide +kernel)]
    rfl
  simp only [linesG, wordsG, List.map_append, List.map_map, e]
  rfl
theorem rowW_w {S C : Nat} {r : List Stp} (h : RowOk S C r) : ∀ w ∈ rowW r, WOk w := by
  intro w hw
  rcases List.mem_cons.mp hw with rfl | hw
  · exact (by decide +kernel : WOk (Str.ofString "state"))
  · obtain ⟨z, hz, hw⟩ := List.mem_flatMap.mp hw
    obtain ⟨h1, h2, h3⟩ := h.stp z hz
    simp only [stpW, List.mem_cons, List.not_mem_nil, or_false] at hw
    rcases hw with rfl | rfl | rfl
    · exact numS_w (by omega)
    · exact numS_w (by omega)
    · exact Say.w_w h3
theorem wordsG_w {g : Prg} {C : Nat} (h : g.Ok C) : ∀ ws ∈ wordsG g, ws ≠ [] ∧ ws.length ≤ 13 ∧ ∀ w ∈ ws, WOk w := by
  have h1 := h.first
  have h2 := h.n5
  have h3 := h.c4
  intro ws hws
  rcases List.mem_append.mp hws with hws | hws
  · obtain ⟨r, hr, rfl⟩ := List.mem_map.mp hws
    exact ⟨by simp [rowW], (rowW_len (h.rowOk hr)).1, rowW_w (h.rowOk hr)⟩
  · have e1 := numS_w (n := g.first) (by omega)
    have e2 := optW_w (o := g.leader) (w := Str.ofString "none") (by decide +kernel) (fun n e => by have := h.leader n e; omega)
    have e3 := optW_w (o := g.lamp) (w := Str.ofString "any") (by decide +kernel) (fun n e => by have := h.lamp n e; omega)
    have f1 : WOk (Str.ofString "first") := by decide +kernel
    have f2 : WOk (Str.ofString "leader") := by decide +kernel
    have f3 : WOk (Str.ofString "lamp") := by decide +kernel
    have f4 : WOk (Str.ofString "end") := by decide +kernel
    simp only [endW, List.mem_cons, List.not_mem_nil, or_false] at hws
    rcases hws with rfl | rfl | rfl | rfl <;> refine ⟨by simp, by simp, ?_⟩ <;> simp [*]
theorem split_words {ws : List Str} (h1 : ws ≠ []) (h2 : ∀ w ∈ ws, WOk w) : Txt.split (Txt.join sp ws) sp = ws :=
  TL.split_join (s := 32) (S := []) (by decide +kernel) (by decide +kernel) h1 fun p hp hc => by have := (h2 p hp).2 32 hc; omega
theorem line_chars {ws : List Str} (h2 : ∀ w ∈ ws, WOk w) : ∀ c ∈ (Txt.join sp ws).cps.toList, 32 ≤ c ∧ c < 128 := by
  intro c hc
  rw [TL.join_eq] at hc
  rcases (mem_join sp c ws).mp hc with ⟨t, ht, hc⟩ | ⟨_, hc⟩
  · have := (h2 t ht).2 c hc; omega
  · have e : sp.cps.toList = [32] := by decide +kernel
    rw [e] at hc
    simp at hc
    omega
def nl : Str := Str.ofString "\n"
theorem app_empty (x : Str) : x ++ Str.empty = x := TL.ext_tl (by simp [TL.tl, Str.cps_append, Str.empty])
theorem join_tail (sep x : Str) {l : List Str} (h : l ≠ []) : Str.join sep (x :: l) = x ++ sep ++ Str.join sep l := by
  cases l with
  | nil => exact (h rfl).elim
  | cons y l => rfl
theorem join0 (x : Str) (l : List Str) : Str.join Str.empty (x :: l) = x ++ Str.join Str.empty l := by
  cases l with
  | nil => exact (app_empty x).symm
  | cons y l => show x ++ Str.empty ++ _ = _; rw [app_empty]
theorem feeds (ls : List Str) : Txt.join Str.empty (ls.map (· ++ nl)) = Txt.join nl (ls ++ [Str.empty]) := by
  rw [TL.join_eq, TL.join_eq]
  induction ls with
  | nil => rfl
  | cons x ls ih => rw [List.map_cons, join0, ih, List.cons_append, join_tail nl x (by simp)]
theorem text_eq (g : Prg) : textG g = Txt.join nl (linesG g ++ [Str.empty]) := feeds (linesG g)
theorem split_text {g : Prg} {C : Nat} (h : g.Ok C) : Txt.split (textG g) nl = linesG g ++ [Str.empty] := by
  rw [text_eq]
  refine TL.split_join (s := 10) (S := []) (by decide +kernel) (by decide +kernel) (by simp) fun p hp hc => ?_
  rcases List.mem_append.mp hp with hp | hp
  · rw [lines_words] at hp
    obtain ⟨ws, hws, rfl⟩ := List.mem_map.mp hp
    have := line_chars (wordsG_w h ws hws).2.2 10 hc
    omega
  · rw [List.mem_singleton.mp hp] at hc
    simp [Str.empty, TL.tl] at hc
end K02

set_option Elab.async false
set_option linter.all false
set_option maxRecDepth 100000
set_option maxHeartbeats 4000000
namespace K02
open PySem PySem.Spec PyProof.Rows L2 LF
local macro_rules | `(tactic| walk_at "wp") => `(tactic| repeat (first
  | (with_reducible refine r_seq_nx ?_)
  | (with_reducible refine r_seq_rt ?_)
  | (with_reducible refine r_seq_bk ?_)
  | (with_reducible refine r_seq_ct ?_)
  | (with_reducible refine r_seq_ex ?_)
  | (with_reducible refine r_loop_nx ?_)
  | (with_reducible refine r_loop_rt ?_)
  | (with_reducible refine r_loop_bk ?_)
  | (with_reducible refine r_loop_ct ?_)
  | (with_reducible refine r_loop_ex ?_)
  | (with_reducible refine r_fn_nx ?_)
  | (with_reducible refine r_fn_rt ?_)
  | (with_reducible refine r_fn_ex ?_)
  | (with_reducible refine r_owp_seq ?_)
  | (with_reducible refine r_owp_if ?_)
  | (with_reducible refine r_owp_ret ?_)
  | (with_reducible refine r_owp_expr ?_)
  | (with_reducible refine r_owp_skip ?_)
  | (with_reducible refine r_owp_brk ?_)
  | (with_reducible refine r_owp_cnt ?_)
  | (with_reducible refine r_owp_setIx ?_)
  | (with_reducible refine r_owp_setF ?_)
  | (with_reducible refine r_owp_for ?_)
  | (with_reducible refine r_owp_nx ?_)
  | (with_reducible refine r_owp_rt ?_)
  | (with_reducible refine r_owp_out ?_)
  | (with_reducible refine r_wp_bin ?_)
  | (with_reducible refine r_wp_un ?_)
  | (with_reducible refine r_wp_blt ?_)
  | (with_reducible refine r_wp_cons ?_)
  | (with_reducible refine r_wp_nil ?_)
  | (with_reducible refine r_wp_c ?_)
  | (with_reducible refine r_wp_if ?_)
  | (with_reducible refine q_asB ?_)
  | (with_reducible refine q_tTru ?_)
  | (with_reducible refine r_wp_tAnd ?_)
  | (with_reducible refine r_wp_tOr ?_)
  | (with_reducible refine r_wp_tNot ?_)
  | (with_reducible refine r_wp_tYes ?_)
  | (with_reducible refine q_eAnd ?_)
  | (with_reducible refine q_eOr ?_)
  | (with_reducible refine q_eNot ?_)
  | (with_reducible refine q_chain ?_)
  | (with_reducible refine r_wp_call ?_)
  | (with_reducible refine r_wp_mt ?_)
  | (with_reducible refine q_meth ?_)
  | (with_reducible refine q_make ?_)
  | (with_reducible refine q_fmt ?_)
  | (with_reducible refine r_wp_joinN ?_)
  | (with_reducible refine q_join ?_)
  | (with_reducible refine r_wp_partN ?_)
  | (with_reducible refine q_part ?_)
  | (with_reducible refine r_wp_sl ?_)
  | (with_reducible refine q_iS ?_)
  | (with_reducible refine q_iR1 ?_)
  | (with_reducible refine q_iR2 ?_)
  | (with_reducible refine q_iEn ?_)
  | (with_reducible refine r_onBl ?_)
  | (with_reducible refine r_onInt ?_)
  | (with_reducible refine r_onStr ?_)
  | (with_reducible refine r_onNon ?_)
  | (with_reducible refine r_itT ?_)
  | (with_reducible refine r_itS ?_)
  | (with_reducible refine r_wp_bind ?_)
  | (with_reducible refine r_wp_ofO ?_)
  | (with_reducible refine r_wp_ok ?_)
  | (with_reducible refine r_wo_some ?_)
  | (with_reducible refine w_addI ?_)
  | (with_reducible refine w_sub ?_)
  | (with_reducible refine w_lt ?_)
  | (with_reducible refine w_le ?_)
  | (with_reducible refine w_gt ?_)
  | (with_reducible refine w_ge ?_)
  | (with_reducible refine w_is ?_)
  | (with_reducible refine w_isNot ?_)
  | (with_reducible refine w_lenT ?_)
  | (with_reducible refine w_intI ?_)
  | (with_reducible refine w_strS ?_)
  | (with_reducible refine w_abs ?_)
  | (with_reducible refine w_eqI ?_)
  | (with_reducible refine w_neI ?_)
  | (with_reducible refine w_eqB ?_)
  | (with_reducible refine w_neB ?_)
  | (with_reducible refine w_neg ?_)
  | ((with_reducible refine r_owp_asg ?_); (try dsimp only [List.set]))
  | ((with_reducible refine r_owp_par ?_); (try dsimp only [List.set]))
  | (with_reducible refine r_var (by with_unfolding_all rfl) ?_)
  | (with_reducible refine w_ixL (by assumption) (by with_unfolding_all rfl) ?_)
  | (with_reducible refine w_ixT (by with_unfolding_all rfl) ?_)
  | (with_reducible refine w_lenL (by assumption) ?_)
  | (with_reducible refine w_fld (by assumption) (by with_unfolding_all rfl) (by with_unfolding_all rfl) ?_)
  | (with_reducible refine w_tupleL (by assumption) ?_)
  | (with_reducible refine w_mod (by omega) ?_)
  | (with_reducible refine w_div (by omega) (by omega) ?_)
  | (with_reducible refine w_mul (by omega) ?_)
  | (with_reducible refine w_isiT (by with_unfolding_all rfl) (by decide +kernel) (by with_unfolding_all (intro r h; cases h)) ?_)
  | (with_reducible refine w_isiRT (by assumption) (by with_unfolding_all rfl) (by with_unfolding_all rfl) (by decide +kernel) ?_)
  | (with_reducible refine w_isiCT (by assumption) (by with_unfolding_all rfl) (by with_unfolding_all rfl) (by decide +kernel) ?_)
  | (with_reducible refine w_isiF (by with_unfolding_all rfl) (by decide +kernel) (by with_unfolding_all (intro r h; cases h)) ?_)
  | (with_reducible refine w_isiRF (by assumption) (by with_unfolding_all rfl) (by with_unfolding_all rfl) (by decide +kernel) ?_)
  | (with_reducible refine w_isiCF (by assumption) (by with_unfolding_all rfl) (by with_unfolding_all rfl) (by decide +kernel) ?_)
  | (with_reducible refine r_both (by omega) ?_)
  | (with_reducible refine r_onLst (by assumption) ?_)
  | (with_reducible refine r_itL (by assumption) ?_)
  | (with_reducible refine r_onObj (by assumption) (by with_unfolding_all rfl) ?_)
  | (with_reducible refine r_tT (by first | decide | assumption | (exact tyOk_list (by assumption)) | (exact tyOk_str) | (exact r_decT (by assumption)) | (exact r_decT (by omega)) | (exact r_notT (by assumption)) | (exact r_notT (r_decF (by assumption))) | (exact r_notT (r_decF (by omega))) | omega | (with_unfolding_all rfl) | (simp [isNon]; done) | (simp; omega)) ?_)
  | (with_reducible refine r_tF (by first | decide | assumption | (exact r_decF (by assumption)) | (exact r_decF (by omega)) | (exact r_notF (by assumption)) | (exact r_notF (r_decT (by assumption))) | (exact r_notF (r_decT (by omega))) | omega | (exact r_notF (by with_unfolding_all rfl)) | (simp [isNon]; done) | (simp; omega)) ?_)
  | (with_reducible refine r_bT (by first | decide | assumption | (exact tyOk_list (by assumption)) | (exact tyOk_str) | (exact r_decT (by assumption)) | (exact r_decT (by omega)) | (exact r_notT (by assumption)) | (exact r_notT (r_decF (by assumption))) | (exact r_notT (r_decF (by omega))) | omega | (with_unfolding_all rfl) | (simp [isNon]; done) | (simp; omega)) ?_)
  | (with_reducible refine r_bF (by first | decide | assumption | (exact r_decF (by assumption)) | (exact r_decF (by omega)) | (exact r_notF (by assumption)) | (exact r_notF (r_decT (by assumption))) | (exact r_notF (r_decT (by omega))) | omega | (exact r_notF (by with_unfolding_all rfl)) | (simp [isNon]; done) | (simp; omega)) ?_)
  | (with_reducible refine r_p_iteT (by first | decide | assumption | (exact tyOk_list (by assumption)) | (exact tyOk_str) | (exact r_decT (by assumption)) | (exact r_decT (by omega)) | (exact r_notT (by assumption)) | (exact r_notT (r_decF (by assumption))) | (exact r_notT (r_decF (by omega))) | omega | (with_unfolding_all rfl) | (simp [isNon]; done) | (simp; omega)) ?_)
  | (with_reducible refine r_p_iteF (by first | decide | assumption | (exact r_decF (by assumption)) | (exact r_decF (by omega)) | (exact r_notF (by assumption)) | (exact r_notF (r_decT (by assumption))) | (exact r_notF (r_decT (by omega))) | omega | (exact r_notF (by with_unfolding_all rfl)) | (simp [isNon]; done) | (simp; omega)) ?_)
  | (with_reducible refine r_wp_iteT (by first | decide | assumption | (exact tyOk_list (by assumption)) | (exact tyOk_str) | (exact r_decT (by assumption)) | (exact r_decT (by omega)) | (exact r_notT (by assumption)) | (exact r_notT (r_decF (by assumption))) | (exact r_notT (r_decF (by omega))) | omega | (with_unfolding_all rfl) | (simp [isNon]; done) | (simp; omega)) ?_)
  | (with_reducible refine r_wp_iteF (by first | decide | assumption | (exact r_decF (by assumption)) | (exact r_decF (by omega)) | (exact r_notF (by assumption)) | (exact r_notF (r_decT (by assumption))) | (exact r_notF (r_decT (by omega))) | omega | (exact r_notF (by with_unfolding_all rfl)) | (simp [isNon]; done) | (simp; omega)) ?_)
  | (with_reducible refine r_owp_iteT (by first | decide | assumption | (exact tyOk_list (by assumption)) | (exact tyOk_str) | (exact r_decT (by assumption)) | (exact r_decT (by omega)) | (exact r_notT (by assumption)) | (exact r_notT (r_decF (by assumption))) | (exact r_notT (r_decF (by omega))) | omega | (with_unfolding_all rfl) | (simp [isNon]; done) | (simp; omega)) ?_)
  | (with_reducible refine r_owp_iteF (by first | decide | assumption | (exact r_decF (by assumption)) | (exact r_decF (by omega)) | (exact r_notF (by assumption)) | (exact r_notF (r_decT (by assumption))) | (exact r_notF (r_decT (by omega))) | omega | (exact r_notF (by with_unfolding_all rfl)) | (simp [isNon]; done) | (simp; omega)) ?_)
  ))
local macro_rules | `(tactic| walk_at "fld") => `(tactic| repeat (first
  | (with_reducible refine r_seq_rt ?_)
  | (with_reducible refine r_seq_bk ?_)
  | (with_reducible refine r_seq_ct ?_)
  | (with_reducible refine r_seq_ex ?_)
  | (with_reducible refine r_loop_nx ?_)
  | (with_reducible refine r_loop_rt ?_)
  | (with_reducible refine r_loop_bk ?_)
  | (with_reducible refine r_loop_ct ?_)
  | (with_reducible refine r_loop_ex ?_)
  | (with_reducible refine r_fn_nx ?_)
  | (with_reducible refine r_fn_rt ?_)
  | (with_reducible refine r_fn_ex ?_)
  | (with_reducible refine r_owp_if ?_)
  | (with_reducible refine r_owp_ret ?_)
  | (with_reducible refine r_owp_expr ?_)
  | (with_reducible refine r_owp_skip ?_)
  | (with_reducible refine r_owp_brk ?_)
  | (with_reducible refine r_owp_cnt ?_)
  | (with_reducible refine r_owp_setIx ?_)
  | (with_reducible refine r_owp_setF ?_)
  | (with_reducible refine r_owp_for ?_)
  | (with_reducible refine r_owp_nx ?_)
  | (with_reducible refine r_owp_rt ?_)
  | (with_reducible refine r_owp_out ?_)
  | (with_reducible refine r_wp_bin ?_)
  | (with_reducible refine r_wp_un ?_)
  | (with_reducible refine r_wp_blt ?_)
  | (with_reducible refine r_wp_cons ?_)
  | (with_reducible refine r_wp_nil ?_)
  | (with_reducible refine r_wp_c ?_)
  | (with_reducible refine r_wp_if ?_)
  | (with_reducible refine q_asB ?_)
  | (with_reducible refine q_tTru ?_)
  | (with_reducible refine r_wp_tAnd ?_)
  | (with_reducible refine r_wp_tOr ?_)
  | (with_reducible refine r_wp_tNot ?_)
  | (with_reducible refine r_wp_tYes ?_)
  | (with_reducible refine q_eAnd ?_)
  | (with_reducible refine q_eOr ?_)
  | (with_reducible refine q_eNot ?_)
  | (with_reducible refine q_chain ?_)
  | (with_reducible refine r_wp_call ?_)
  | (with_reducible refine r_wp_mt ?_)
  | (with_reducible refine q_meth ?_)
  | (with_reducible refine q_make ?_)
  | (with_reducible refine q_fmt ?_)
  | (with_reducible refine r_wp_joinN ?_)
  | (with_reducible refine q_join ?_)
  | (with_reducible refine r_wp_partN ?_)
  | (with_reducible refine q_part ?_)
  | (with_reducible refine r_wp_sl ?_)
  | (with_reducible refine q_iS ?_)
  | (with_reducible refine q_iR1 ?_)
  | (with_reducible refine q_iR2 ?_)
  | (with_reducible refine q_iEn ?_)
  | (with_reducible refine r_onBl ?_)
  | (with_reducible refine r_onInt ?_)
  | (with_reducible refine r_onStr ?_)
  | (with_reducible refine r_onNon ?_)
  | (with_reducible refine r_itT ?_)
  | (with_reducible refine r_itS ?_)
  | (with_reducible refine r_wp_bind ?_)
  | (with_reducible refine r_wp_ofO ?_)
  | (with_reducible refine r_wp_ok ?_)
  | (with_reducible refine r_wo_some ?_)
  | (with_reducible refine w_addI ?_)
  | (with_reducible refine w_sub ?_)
  | (with_reducible refine w_lt ?_)
  | (with_reducible refine w_le ?_)
  | (with_reducible refine w_gt ?_)
  | (with_reducible refine w_ge ?_)
  | (with_reducible refine w_is ?_)
  | (with_reducible refine w_isNot ?_)
  | (with_reducible refine w_lenT ?_)
  | (with_reducible refine w_intI ?_)
  | (with_reducible refine w_strS ?_)
  | (with_reducible refine w_abs ?_)
  | (with_reducible refine w_eqI ?_)
  | (with_reducible refine w_neI ?_)
  | (with_reducible refine w_eqB ?_)
  | (with_reducible refine w_neB ?_)
  | (with_reducible refine w_neg ?_)
  | ((with_reducible refine r_owp_asg ?_); (try dsimp only [List.set]))
  | ((with_reducible refine r_owp_par ?_); (try dsimp only [List.set]))
  | (with_reducible refine r_var (by with_unfolding_all rfl) ?_)
  | (with_reducible refine w_ixL (by assumption) (by with_unfolding_all rfl) ?_)
  | (with_reducible refine w_ixT (by with_unfolding_all rfl) ?_)
  | (with_reducible refine w_lenL (by assumption) ?_)
  | (with_reducible refine w_fld (by assumption) (by with_unfolding_all rfl) (by with_unfolding_all rfl) ?_)
  | (with_reducible refine w_tupleL (by assumption) ?_)
  | (with_reducible refine w_mod (by omega) ?_)
  | (with_reducible refine w_div (by omega) (by omega) ?_)
  | (with_reducible refine w_mul (by omega) ?_)
  | (with_reducible refine w_isiT (by with_unfolding_all rfl) (by decide +kernel) (by with_unfolding_all (intro r h; cases h)) ?_)
  | (with_reducible refine w_isiRT (by assumption) (by with_unfolding_all rfl) (by with_unfolding_all rfl) (by decide +kernel) ?_)
  | (with_reducible refine w_isiCT (by assumption) (by with_unfolding_all rfl) (by with_unfolding_all rfl) (by decide +kernel) ?_)
  | (with_reducible refine w_isiF (by with_unfolding_all rfl) (by decide +kernel) (by with_unfolding_all (intro r h; cases h)) ?_)
  | (with_reducible refine w_isiRF (by assumption) (by with_unfolding_all rfl) (by with_unfolding_all rfl) (by decide +kernel) ?_)
  | (with_reducible refine w_isiCF (by assumption) (by with_unfolding_all rfl) (by with_unfolding_all rfl) (by decide +kernel) ?_)
  | (with_reducible refine r_both (by omega) ?_)
  | (with_reducible refine r_onLst (by assumption) ?_)
  | (with_reducible refine r_itL (by assumption) ?_)
  | (with_reducible refine r_onObj (by assumption) (by with_unfolding_all rfl) ?_)
  | (with_reducible refine r_tT (by first | decide | assumption | (exact tyOk_list (by assumption)) | (exact tyOk_str) | (exact r_decT (by assumption)) | (exact r_decT (by omega)) | (exact r_notT (by assumption)) | (exact r_notT (r_decF (by assumption))) | (exact r_notT (r_decF (by omega))) | omega | (with_unfolding_all rfl) | (simp [isNon]; done) | (simp; omega)) ?_)
  | (with_reducible refine r_tF (by first | decide | assumption | (exact r_decF (by assumption)) | (exact r_decF (by omega)) | (exact r_notF (by assumption)) | (exact r_notF (r_decT (by assumption))) | (exact r_notF (r_decT (by omega))) | omega | (exact r_notF (by with_unfolding_all rfl)) | (simp [isNon]; done) | (simp; omega)) ?_)
  | (with_reducible refine r_bT (by first | decide | assumption | (exact tyOk_list (by assumption)) | (exact tyOk_str) | (exact r_decT (by assumption)) | (exact r_decT (by omega)) | (exact r_notT (by assumption)) | (exact r_notT (r_decF (by assumption))) | (exact r_notT (r_decF (by omega))) | omega | (with_unfolding_all rfl) | (simp [isNon]; done) | (simp; omega)) ?_)
  | (with_reducible refine r_bF (by first | decide | assumption | (exact r_decF (by assumption)) | (exact r_decF (by omega)) | (exact r_notF (by assumption)) | (exact r_notF (r_decT (by assumption))) | (exact r_notF (r_decT (by omega))) | omega | (exact r_notF (by with_unfolding_all rfl)) | (simp [isNon]; done) | (simp; omega)) ?_)
  | (with_reducible refine r_p_iteT (by first | decide | assumption | (exact tyOk_list (by assumption)) | (exact tyOk_str) | (exact r_decT (by assumption)) | (exact r_decT (by omega)) | (exact r_notT (by assumption)) | (exact r_notT (r_decF (by assumption))) | (exact r_notT (r_decF (by omega))) | omega | (with_unfolding_all rfl) | (simp [isNon]; done) | (simp; omega)) ?_)
  | (with_reducible refine r_p_iteF (by first | decide | assumption | (exact r_decF (by assumption)) | (exact r_decF (by omega)) | (exact r_notF (by assumption)) | (exact r_notF (r_decT (by assumption))) | (exact r_notF (r_decT (by omega))) | omega | (exact r_notF (by with_unfolding_all rfl)) | (simp [isNon]; done) | (simp; omega)) ?_)
  | (with_reducible refine r_wp_iteT (by first | decide | assumption | (exact tyOk_list (by assumption)) | (exact tyOk_str) | (exact r_decT (by assumption)) | (exact r_decT (by omega)) | (exact r_notT (by assumption)) | (exact r_notT (r_decF (by assumption))) | (exact r_notT (r_decF (by omega))) | omega | (with_unfolding_all rfl) | (simp [isNon]; done) | (simp; omega)) ?_)
  | (with_reducible refine r_wp_iteF (by first | decide | assumption | (exact r_decF (by assumption)) | (exact r_decF (by omega)) | (exact r_notF (by assumption)) | (exact r_notF (r_decT (by assumption))) | (exact r_notF (r_decT (by omega))) | omega | (exact r_notF (by with_unfolding_all rfl)) | (simp [isNon]; done) | (simp; omega)) ?_)
  | (with_reducible refine r_owp_iteT (by first | decide | assumption | (exact tyOk_list (by assumption)) | (exact tyOk_str) | (exact r_decT (by assumption)) | (exact r_decT (by omega)) | (exact r_notT (by assumption)) | (exact r_notT (r_decF (by assumption))) | (exact r_notT (r_decF (by omega))) | omega | (with_unfolding_all rfl) | (simp [isNon]; done) | (simp; omega)) ?_)
  | (with_reducible refine r_owp_iteF (by first | decide | assumption | (exact r_decF (by assumption)) | (exact r_decF (by omega)) | (exact r_notF (by assumption)) | (exact r_notF (r_decT (by assumption))) | (exact r_notF (r_decT (by omega))) | omega | (exact r_notF (by with_unfolding_all rfl)) | (simp [isNon]; done) | (simp; omega)) ?_)
  ))
local macro_rules | `(tactic| walk_at "fn") => `(tactic| (refine wp_fn rfl ?_; dsimp only [List.map_cons, List.map_nil, List.cons_append, List.nil_append, List.replicate, List.map, Nat.reduceSub]))
/-! ### words are read -/
theorem num_strip {n : Nat} (h : n < 10) : Txt.stripChars (numS n) (Str.ofString "0123456789") = Str.ofString "" := by
  rw [dig h]
  have : n = 0 ∨ n = 1 ∨ n = 2 ∨ n = 3 ∨ n = 4 ∨ n = 5 ∨ n = 6 ∨ n = 7 ∨ n = 8 ∨ n = 9 := by omega
  rcases this with rfl | rfl | rfl | rfl | rfl | rfl | rfl | rfl | rfl | rfl <;> decide +kernel
theorem num_len {n : Nat} (h : n < 10) : (numS n).length = 1 := by rw [dig h]; rfl
theorem num_ok {n : Nat} (h : n < 10) : PyData.strOk (numS n) = true := by
  rw [dig h]
  simp [PyData.strOk]
  omega
theorem num_at {n : Nat} (h : n < 10) : atI (numS n).cps.toList 0 = some (48 + n) := by
  rw [dig h]
  exact atI0
theorem num_int {n : Nat} (h : n < 10) : PySem.intText? (numS n) = some (n : Int) := PySem.W.KIN.num_reads (by omega) (by omega)
theorem num_zero {n : Nat} (h : n < 10) : (numS n == Str.ofString "0") = (n == 0) := by
  rw [dig h]
  have : n = 0 ∨ n = 1 ∨ n = 2 ∨ n = 3 ∨ n = 4 ∨ n = 5 ∨ n = 6 ∨ n = 7 ∨ n = 8 ∨ n = 9 := by omega
  rcases this with rfl | rfl | rfl | rfl | rfl | rfl | rfl | rfl | rfl | rfl <;> decide +kernel
theorem ok_empty : PyData.strOk (Str.ofString "") = true := by decide +kernel
theorem ok_zero : PyData.strOk (Str.ofString "0") = true := by decide +kernel
theorem number_in_num {n : Nat} (h : n < 10) {st : Sto} {X : XP} : Wp X (fun d s => d = .int n ∧ s = st) (f_number_in [.str (numS n)] st) := by
  have hl := num_len h
  walk_at "fn"
  unfold b_number_in
  walk_at "wp"
  refine w_lenS (by rw [hl]; decide +kernel) ?_
  rw [hl]
  walk_at "wp"
  refine w_strip (by rw [hl]; decide +kernel) ?_
  rw [num_strip h]
  walk_at "wp"
  refine w_neS ok_empty ok_empty ?_
  walk_at "wp"
  refine w_ixS (num_at h) (by rw [hl]; decide +kernel) ?_
  rw [← dig h]
  walk_at "wp"
  refine w_eqS (num_ok h) ok_zero ?_
  rw [num_zero h]
  walk_at "wp"
  by_cases hz : n = 0
  · subst hz
    walk_at "wp"
    refine w_neS (num_ok h) ok_zero ?_
    rw [num_zero h]
    walk_at "wp"
    refine w_intS (num_int h) (by rw [hl]; decide) ?_
    walk_at "wp"
    exact ⟨rfl, rfl⟩
  · refine r_wp_iteF (by simpa using hz) ?_
    walk_at "wp"
    refine w_intS (num_int h) (by rw [hl]; decide) ?_
    walk_at "wp"
    exact ⟨rfl, rfl⟩
theorem num_minus {n : Nat} (h : n < 10) : (Str.ofString "-" == numS n) = false := by
  rw [dig h]
  have : n = 0 ∨ n = 1 ∨ n = 2 ∨ n = 3 ∨ n = 4 ∨ n = 5 ∨ n = 6 ∨ n = 7 ∨ n = 8 ∨ n = 9 := by omega
  rcases this with rfl | rfl | rfl | rfl | rfl | rfl | rfl | rfl | rfl | rfl <;> decide +kernel
theorem num_minus' {n : Nat} (h : n < 10) : (numS n == Str.ofString "-") = false := by
  rw [dig h]
  have : n = 0 ∨ n = 1 ∨ n = 2 ∨ n = 3 ∨ n = 4 ∨ n = 5 ∨ n = 6 ∨ n = 7 ∨ n = 8 ∨ n = 9 := by omega
  rcases this with rfl | rfl | rfl | rfl | rfl | rfl | rfl | rfl | rfl | rfl <;> decide +kernel
theorem num_all {n : Nat} (h : n < 10) : (Str.ofString "all" == numS n) = false := by
  rw [dig h]
  have : n = 0 ∨ n = 1 ∨ n = 2 ∨ n = 3 ∨ n = 4 ∨ n = 5 ∨ n = 6 ∨ n = 7 ∨ n = 8 ∨ n = 9 := by omega
  rcases this with rfl | rfl | rfl | rfl | rfl | rfl | rfl | rfl | rfl | rfl <;> decide +kernel
theorem num_all' {n : Nat} (h : n < 10) : (numS n == Str.ofString "all") = false := by
  rw [dig h]
  have : n = 0 ∨ n = 1 ∨ n = 2 ∨ n = 3 ∨ n = 4 ∨ n = 5 ∨ n = 6 ∨ n = 7 ∨ n = 8 ∨ n = 9 := by omega
  rcases this with rfl | rfl | rfl | rfl | rfl | rfl | rfl | rfl | rfl | rfl <;> decide +kernel
theorem ok_minus : PyData.strOk (Str.ofString "-") = true := by decide +kernel
theorem is_saying_ok {y : Say} (hy : y.ok) {st : Sto} {X : XP} : Wp X (fun d s => d = .bl true ∧ s = st) (f_is_saying_word [.str y.w] st) := by
  cases y with
  | no =>
    dsimp only [Say.w]
    walk_at "fn"
    unfold b_is_saying_word
    walk_at "wp"
    refine w_tup (by simp [LIM]) ?_
    walk_at "wp"
    refine w_in (by rfl) ?_
    rw [show (if false = true then !inF (.str (Str.ofString "-")) [.str (Str.ofString "-"), .str (Str.ofString "all")] else inF (.str (Str.ofString "-")) [.str (Str.ofString "-"), .str (Str.ofString "all")]) = true by decide +kernel]
    walk_at "wp"
    exact ⟨rfl, rfl⟩
  | all =>
    dsimp only [Say.w]
    walk_at "fn"
    unfold b_is_saying_word
    walk_at "wp"
    refine w_tup (by simp [LIM]) ?_
    walk_at "wp"
    refine w_in (by rfl) ?_
    rw [show (if false = true then !inF (.str (Str.ofString "all")) [.str (Str.ofString "-"), .str (Str.ofString "all")] else inF (.str (Str.ofString "all")) [.str (Str.ofString "-"), .str (Str.ofString "all")]) = true by decide +kernel]
    walk_at "wp"
    exact ⟨rfl, rfl⟩
  | num n =>
    have hn : n < 10 := by have := hy.2; omega
    dsimp only [Say.w]
    walk_at "fn"
    unfold b_is_saying_word
    walk_at "wp"
    refine w_tup (by simp [LIM]) ?_
    walk_at "wp"
    refine w_in (by rfl) ?_
    rw [show (if false = true then !inF (.str (numS n)) [.str (Str.ofString "-"), .str (Str.ofString "all")] else inF (.str (numS n)) [.str (Str.ofString "-"), .str (Str.ofString "all")]) = false by simp [inF, eqF, num_minus hn, num_all hn]]
    walk_at "wp"
    refine (number_in_num hn).mono ?_
    rintro _ _ ⟨rfl, rfl⟩
    walk_at "wp"
    exact ⟨by simp [isNon], rfl⟩
theorem saying_in_ok {y : Say} (hy : y.ok) {st : Sto} {X : XP} : Wp X (fun d s => d = y.d ∧ s = st) (f_saying_in [.str y.w] st) := by
  cases y with
  | no =>
    dsimp only [Say.w]
    walk_at "fn"
    unfold b_saying_in
    walk_at "wp"
    refine w_eqS ok_minus ok_minus ?_
    rw [show (Str.ofString "-" == Str.ofString "-") = true by decide +kernel]
    walk_at "wp"
    exact ⟨rfl, rfl⟩
  | all =>
    dsimp only [Say.w]
    walk_at "fn"
    unfold b_saying_in
    walk_at "wp"
    refine w_eqS all_ok ok_minus ?_
    rw [show (Str.ofString "all" == Str.ofString "-") = false by decide +kernel]
    walk_at "wp"
    refine w_eqS all_ok all_ok ?_
    rw [show (Str.ofString "all" == Str.ofString "all") = true by decide +kernel]
    walk_at "wp"
    exact ⟨rfl, rfl⟩
  | num n =>
    have hn : n < 10 := by have := hy.2; omega
    dsimp only [Say.w]
    walk_at "fn"
    unfold b_saying_in
    walk_at "wp"
    refine w_eqS (num_ok hn) ok_minus ?_
    rw [num_minus' hn]
    walk_at "wp"
    refine w_eqS (num_ok hn) all_ok ?_
    rw [num_all' hn]
    walk_at "wp"
    refine (number_in_num hn).mono ?_
    rintro _ _ ⟨rfl, rfl⟩
    walk_at "wp"
    exact ⟨rfl, rfl⟩
end K02

set_option Elab.async false
set_option linter.all false
set_option maxRecDepth 100000
set_option maxHeartbeats 4000000
namespace K02
open PySem PySem.Spec PyProof.Rows L2 LF
local macro_rules | `(tactic| walk_at "wp") => `(tactic| repeat (first
  | (with_reducible refine r_seq_nx ?_)
  | (with_reducible refine r_seq_rt ?_)
  | (with_reducible refine r_seq_bk ?_)
  | (with_reducible refine r_seq_ct ?_)
  | (with_reducible refine r_seq_ex ?_)
  | (with_reducible refine r_loop_nx ?_)
  | (with_reducible refine r_loop_rt ?_)
  | (with_reducible refine r_loop_bk ?_)
  | (with_reducible refine r_loop_ct ?_)
  | (with_reducible refine r_loop_ex ?_)
  | (with_reducible refine r_fn_nx ?_)
  | (with_reducible refine r_fn_rt ?_)
  | (with_reducible refine r_fn_ex ?_)
  | (with_reducible refine r_owp_seq ?_)
  | (with_reducible refine r_owp_if ?_)
  | (with_reducible refine r_owp_ret ?_)
  | (with_reducible refine r_owp_expr ?_)
  | (with_reducible refine r_owp_skip ?_)
  | (with_reducible refine r_owp_brk ?_)
  | (with_reducible refine r_owp_cnt ?_)
  | (with_reducible refine r_owp_setIx ?_)
  | (with_reducible refine r_owp_setF ?_)
  | (with_reducible refine r_owp_for ?_)
  | (with_reducible refine r_owp_nx ?_)
  | (with_reducible refine r_owp_rt ?_)
  | (with_reducible refine r_owp_out ?_)
  | (with_reducible refine r_wp_bin ?_)
  | (with_reducible refine r_wp_un ?_)
  | (with_reducible refine r_wp_blt ?_)
  | (with_reducible refine r_wp_cons ?_)
  | (with_reducible refine r_wp_nil ?_)
  | (with_reducible refine r_wp_c ?_)
  | (with_reducible refine r_wp_if ?_)
  | (with_reducible refine q_asB ?_)
  | (with_reducible refine q_tTru ?_)
  | (with_reducible refine r_wp_tAnd ?_)
  | (with_reducible refine r_wp_tOr ?_)
  | (with_reducible refine r_wp_tNot ?_)
  | (with_reducible refine r_wp_tYes ?_)
  | (with_reducible refine q_eAnd ?_)
  | (with_reducible refine q_eOr ?_)
  | (with_reducible refine q_eNot ?_)
  | (with_reducible refine q_chain ?_)
  | (with_reducible refine r_wp_call ?_)
  | (with_reducible refine r_wp_mt ?_)
  | (with_reducible refine q_meth ?_)
  | (with_reducible refine q_make ?_)
  | (with_reducible refine q_fmt ?_)
  | (with_reducible refine r_wp_joinN ?_)
  | (with_reducible refine q_join ?_)
  | (with_reducible refine r_wp_partN ?_)
  | (with_reducible refine q_part ?_)
  | (with_reducible refine r_wp_sl ?_)
  | (with_reducible refine q_iS ?_)
  | (with_reducible refine q_iR1 ?_)
  | (with_reducible refine q_iR2 ?_)
  | (with_reducible refine q_iEn ?_)
  | (with_reducible refine r_onBl ?_)
  | (with_reducible refine r_onInt ?_)
  | (with_reducible refine r_onStr ?_)
  | (with_reducible refine r_onNon ?_)
  | (with_reducible refine r_itT ?_)
  | (with_reducible refine r_itS ?_)
  | (with_reducible refine r_wp_bind ?_)
  | (with_reducible refine r_wp_ofO ?_)
  | (with_reducible refine r_wp_ok ?_)
  | (with_reducible refine r_wo_some ?_)
  | (with_reducible refine w_addI ?_)
  | (with_reducible refine w_sub ?_)
  | (with_reducible refine w_lt ?_)
  | (with_reducible refine w_le ?_)
  | (with_reducible refine w_gt ?_)
  | (with_reducible refine w_ge ?_)
  | (with_reducible refine w_is ?_)
  | (with_reducible refine w_isNot ?_)
  | (with_reducible refine w_lenT ?_)
  | (with_reducible refine w_intI ?_)
  | (with_reducible refine w_strS ?_)
  | (with_reducible refine w_abs ?_)
  | (with_reducible refine w_eqI ?_)
  | (with_reducible refine w_neI ?_)
  | (with_reducible refine w_eqB ?_)
  | (with_reducible refine w_neB ?_)
  | (with_reducible refine w_neg ?_)
  | ((with_reducible refine r_owp_asg ?_); (try dsimp only [List.set]))
  | ((with_reducible refine r_owp_par ?_); (try dsimp only [List.set]))
  | (with_reducible refine r_var (by with_unfolding_all rfl) ?_)
  | (with_reducible refine w_ixL (by assumption) (by with_unfolding_all rfl) ?_)
  | (with_reducible refine w_ixT (by with_unfolding_all rfl) ?_)
  | (with_reducible refine w_lenL (by assumption) ?_)
  | (with_reducible refine w_fld (by assumption) (by with_unfolding_all rfl) (by with_unfolding_all rfl) ?_)
  | (with_reducible refine w_tupleL (by assumption) ?_)
  | (with_reducible refine w_mod (by omega) ?_)
  | (with_reducible refine w_div (by omega) (by omega) ?_)
  | (with_reducible refine w_mul (by omega) ?_)
  | (with_reducible refine w_isiT (by with_unfolding_all rfl) (by decide +kernel) (by with_unfolding_all (intro r h; cases h)) ?_)
  | (with_reducible refine w_isiRT (by assumption) (by with_unfolding_all rfl) (by with_unfolding_all rfl) (by decide +kernel) ?_)
  | (with_reducible refine w_isiCT (by assumption) (by with_unfolding_all rfl) (by with_unfolding_all rfl) (by decide +kernel) ?_)
  | (with_reducible refine w_isiF (by with_unfolding_all rfl) (by decide +kernel) (by with_unfolding_all (intro r h; cases h)) ?_)
  | (with_reducible refine w_isiRF (by assumption) (by with_unfolding_all rfl) (by with_unfolding_all rfl) (by decide +kernel) ?_)
  | (with_reducible refine w_isiCF (by assumption) (by with_unfolding_all rfl) (by with_unfolding_all rfl) (by decide +kernel) ?_)
  | (with_reducible refine r_both (by omega) ?_)
  | (with_reducible refine r_onLst (by assumption) ?_)
  | (with_reducible refine r_itL (by assumption) ?_)
  | (with_reducible refine r_onObj (by assumption) (by with_unfolding_all rfl) ?_)
  | (with_reducible refine r_tT (by first | decide | assumption | (exact tyOk_list (by assumption)) | (exact tyOk_str) | (exact r_decT (by assumption)) | (exact r_decT (by omega)) | (exact r_notT (by assumption)) | (exact r_notT (r_decF (by assumption))) | (exact r_notT (r_decF (by omega))) | omega | (with_unfolding_all rfl) | (simp [isNon]; done) | (simp; omega)) ?_)
  | (with_reducible refine r_tF (by first | decide | assumption | (exact r_decF (by assumption)) | (exact r_decF (by omega)) | (exact r_notF (by assumption)) | (exact r_notF (r_decT (by assumption))) | (exact r_notF (r_decT (by omega))) | omega | (exact r_notF (by with_unfolding_all rfl)) | (simp [isNon]; done) | (simp; omega)) ?_)
  | (with_reducible refine r_bT (by first | decide | assumption | (exact tyOk_list (by assumption)) | (exact tyOk_str) | (exact r_decT (by assumption)) | (exact r_decT (by omega)) | (exact r_notT (by assumption)) | (exact r_notT (r_decF (by assumption))) | (exact r_notT (r_decF (by omega))) | omega | (with_unfolding_all rfl) | (simp [isNon]; done) | (simp; omega)) ?_)
  | (with_reducible refine r_bF (by first | decide | assumption | (exact r_decF (by assumption)) | (exact r_decF (by omega)) | (exact r_notF (by assumption)) | (exact r_notF (r_decT (by assumption))) | (exact r_notF (r_decT (by omega))) | omega | (exact r_notF (by with_unfolding_all rfl)) | (simp [isNon]; done) | (simp; omega)) ?_)
  | (with_reducible refine r_p_iteT (by first | decide | assumption | (exact tyOk_list (by assumption)) | (exact tyOk_str) | (exact r_decT (by assumption)) | (exact r_decT (by omega)) | (exact r_notT (by assumption)) | (exact r_notT (r_decF (by assumption))) | (exact r_notT (r_decF (by omega))) | omega | (with_unfolding_all rfl) | (simp [isNon]; done) | (simp; omega)) ?_)
  | (with_reducible refine r_p_iteF (by first | decide | assumption | (exact r_decF (by assumption)) | (exact r_decF (by omega)) | (exact r_notF (by assumption)) | (exact r_notF (r_decT (by assumption))) | (exact r_notF (r_decT (by omega))) | omega | (exact r_notF (by with_unfolding_all rfl)) | (simp [isNon]; done) | (simp; omega)) ?_)
  | (with_reducible refine r_wp_iteT (by first | decide | assumption | (exact tyOk_list (by assumption)) | (exact tyOk_str) | (exact r_decT (by assumption)) | (exact r_decT (by omega)) | (exact r_notT (by assumption)) | (exact r_notT (r_decF (by assumption))) | (exact r_notT (r_decF (by omega))) | omega | (with_unfolding_all rfl) | (simp [isNon]; done) | (simp; omega)) ?_)
  | (with_reducible refine r_wp_iteF (by first | decide | assumption | (exact r_decF (by assumption)) | (exact r_decF (by omega)) | (exact r_notF (by assumption)) | (exact r_notF (r_decT (by assumption))) | (exact r_notF (r_decT (by omega))) | omega | (exact r_notF (by with_unfolding_all rfl)) | (simp [isNon]; done) | (simp; omega)) ?_)
  | (with_reducible refine r_owp_iteT (by first | decide | assumption | (exact tyOk_list (by assumption)) | (exact tyOk_str) | (exact r_decT (by assumption)) | (exact r_decT (by omega)) | (exact r_notT (by assumption)) | (exact r_notT (r_decF (by assumption))) | (exact r_notT (r_decF (by omega))) | omega | (with_unfolding_all rfl) | (simp [isNon]; done) | (simp; omega)) ?_)
  | (with_reducible refine r_owp_iteF (by first | decide | assumption | (exact r_decF (by assumption)) | (exact r_decF (by omega)) | (exact r_notF (by assumption)) | (exact r_notF (r_decT (by assumption))) | (exact r_notF (r_decT (by omega))) | omega | (exact r_notF (by with_unfolding_all rfl)) | (simp [isNon]; done) | (simp; omega)) ?_)
  ))
local macro_rules | `(tactic| walk_at "fld") => `(tactic| repeat (first
  | (with_reducible refine r_seq_rt ?_)
  | (with_reducible refine r_seq_bk ?_)
  | (with_reducible refine r_seq_ct ?_)
  | (with_reducible refine r_seq_ex ?_)
  | (with_reducible refine r_loop_nx ?_)
  | (with_reducible refine r_loop_rt ?_)
  | (with_reducible refine r_loop_bk ?_)
  | (with_reducible refine r_loop_ct ?_)
  | (with_reducible refine r_loop_ex ?_)
  | (with_reducible refine r_fn_nx ?_)
  | (with_reducible refine r_fn_rt ?_)
  | (with_reducible refine r_fn_ex ?_)
  | (with_reducible refine r_owp_if ?_)
  | (with_reducible refine r_owp_ret ?_)
  | (with_reducible refine r_owp_expr ?_)
  | (with_reducible refine r_owp_skip ?_)
  | (with_reducible refine r_owp_brk ?_)
  | (with_reducible refine r_owp_cnt ?_)
  | (with_reducible refine r_owp_setIx ?_)
  | (with_reducible refine r_owp_setF ?_)
  | (with_reducible refine r_owp_for ?_)
  | (with_reducible refine r_owp_nx ?_)
  | (with_reducible refine r_owp_rt ?_)
  | (with_reducible refine r_owp_out ?_)
  | (with_reducible refine r_wp_bin ?_)
  | (with_reducible refine r_wp_un ?_)
  | (with_reducible refine r_wp_blt ?_)
  | (with_reducible refine r_wp_cons ?_)
  | (with_reducible refine r_wp_nil ?_)
  | (with_reducible refine r_wp_c ?_)
  | (with_reducible refine r_wp_if ?_)
  | (with_reducible refine q_asB ?_)
  | (with_reducible refine q_tTru ?_)
  | (with_reducible refine r_wp_tAnd ?_)
  | (with_reducible refine r_wp_tOr ?_)
  | (with_reducible refine r_wp_tNot ?_)
  | (with_reducible refine r_wp_tYes ?_)
  | (with_reducible refine q_eAnd ?_)
  | (with_reducible refine q_eOr ?_)
  | (with_reducible refine q_eNot ?_)
  | (with_reducible refine q_chain ?_)
  | (with_reducible refine r_wp_call ?_)
  | (with_reducible refine r_wp_mt ?_)
  | (with_reducible refine q_meth ?_)
  | (with_reducible refine q_make ?_)
  | (with_reducible refine q_fmt ?_)
  | (with_reducible refine r_wp_joinN ?_)
  | (with_reducible refine q_join ?_)
  | (with_reducible refine r_wp_partN ?_)
  | (with_reducible refine q_part ?_)
  | (with_reducible refine r_wp_sl ?_)
  | (with_reducible refine q_iS ?_)
  | (with_reducible refine q_iR1 ?_)
  | (with_reducible refine q_iR2 ?_)
  | (with_reducible refine q_iEn ?_)
  | (with_reducible refine r_onBl ?_)
  | (with_reducible refine r_onInt ?_)
  | (with_reducible refine r_onStr ?_)
  | (with_reducible refine r_onNon ?_)
  | (with_reducible refine r_itT ?_)
  | (with_reducible refine r_itS ?_)
  | (with_reducible refine r_wp_bind ?_)
  | (with_reducible refine r_wp_ofO ?_)
  | (with_reducible refine r_wp_ok ?_)
  | (with_reducible refine r_wo_some ?_)
  | (with_reducible refine w_addI ?_)
  | (with_reducible refine w_sub ?_)
  | (with_reducible refine w_lt ?_)
  | (with_reducible refine w_le ?_)
  | (with_reducible refine w_gt ?_)
  | (with_reducible refine w_ge ?_)
  | (with_reducible refine w_is ?_)
  | (with_reducible refine w_isNot ?_)
  | (with_reducible refine w_lenT ?_)
  | (with_reducible refine w_intI ?_)
  | (with_reducible refine w_strS ?_)
  | (with_reducible refine w_abs ?_)
  | (with_reducible refine w_eqI ?_)
  | (with_reducible refine w_neI ?_)
  | (with_reducible refine w_eqB ?_)
  | (with_reducible refine w_neB ?_)
  | (with_reducible refine w_neg ?_)
  | ((with_reducible refine r_owp_asg ?_); (try dsimp only [List.set]))
  | ((with_reducible refine r_owp_par ?_); (try dsimp only [List.set]))
  | (with_reducible refine r_var (by with_unfolding_all rfl) ?_)
  | (with_reducible refine w_ixL (by assumption) (by with_unfolding_all rfl) ?_)
  | (with_reducible refine w_ixT (by with_unfolding_all rfl) ?_)
  | (with_reducible refine w_lenL (by assumption) ?_)
  | (with_reducible refine w_fld (by assumption) (by with_unfolding_all rfl) (by with_unfolding_all rfl) ?_)
  | (with_reducible refine w_tupleL (by assumption) ?_)
  | (with_reducible refine w_mod (by omega) ?_)
  | (with_reducible refine w_div (by omega) (by omega) ?_)
  | (with_reducible refine w_mul (by omega) ?_)
  | (with_reducible refine w_isiT (by with_unfolding_all rfl) (by decide +kernel) (by with_unfolding_all (intro r h; cases h)) ?_)
  | (with_reducible refine w_isiRT (by assumption) (by with_unfolding_all rfl) (by with_unfolding_all rfl) (by decide +kernel) ?_)
  | (with_reducible refine w_isiCT (by assumption) (by with_unfolding_all rfl) (by with_unfolding_all rfl) (by decide +kernel) ?_)
  | (with_reducible refine w_isiF (by with_unfolding_all rfl) (by decide +kernel) (by with_unfolding_all (intro r h; cases h)) ?_)
  | (with_reducible refine w_isiRF (by assumption) (by with_unfolding_all rfl) (by with_unfolding_all rfl) (by decide +kernel) ?_)
  | (with_reducible refine w_isiCF (by assumption) (by with_unfolding_all rfl) (by with_unfolding_all rfl) (by decide +kernel) ?_)
  | (with_reducible refine r_both (by omega) ?_)
  | (with_reducible refine r_onLst (by assumption) ?_)
  | (with_reducible refine r_itL (by assumption) ?_)
  | (with_reducible refine r_onObj (by assumption) (by with_unfolding_all rfl) ?_)
  | (with_reducible refine r_tT (by first | decide | assumption | (exact tyOk_list (by assumption)) | (exact tyOk_str) | (exact r_decT (by assumption)) | (exact r_decT (by omega)) | (exact r_notT (by assumption)) | (exact r_notT (r_decF (by assumption))) | (exact r_notT (r_decF (by omega))) | omega | (with_unfolding_all rfl) | (simp [isNon]; done) | (simp; omega)) ?_)
  | (with_reducible refine r_tF (by first | decide | assumption | (exact r_decF (by assumption)) | (exact r_decF (by omega)) | (exact r_notF (by assumption)) | (exact r_notF (r_decT (by assumption))) | (exact r_notF (r_decT (by omega))) | omega | (exact r_notF (by with_unfolding_all rfl)) | (simp [isNon]; done) | (simp; omega)) ?_)
  | (with_reducible refine r_bT (by first | decide | assumption | (exact tyOk_list (by assumption)) | (exact tyOk_str) | (exact r_decT (by assumption)) | (exact r_decT (by omega)) | (exact r_notT (by assumption)) | (exact r_notT (r_decF (by assumption))) | (exact r_notT (r_decF (by omega))) | omega | (with_unfolding_all rfl) | (simp [isNon]; done) | (simp; omega)) ?_)
  | (with_reducible refine r_bF (by first | decide | assumption | (exact r_decF (by assumption)) | (exact r_decF (by omega)) | (exact r_notF (by assumption)) | (exact r_notF (r_decT (by assumption))) | (exact r_notF (r_decT (by omega))) | omega | (exact r_notF (by with_unfolding_all rfl)) | (simp [isNon]; done) | (simp; omega)) ?_)
  | (with_reducible refine r_p_iteT (by first | decide | assumption | (exact tyOk_list (by assumption)) | (exact tyOk_str) | (exact r_decT (by assumption)) | (exact r_decT (by omega)) | (exact r_notT (by assumption)) | (exact r_notT (r_decF (by assumption))) | (exact r_notT (r_decF (by omega))) | omega | (with_unfolding_all rfl) | (simp [isNon]; done) | (simp; omega)) ?_)
  | (with_reducible refine r_p_iteF (by first | decide | assumption | (exact r_decF (by assumption)) | (exact r_decF (by omega)) | (exact r_notF (by assumption)) | (exact r_notF (r_decT (by assumption))) | (exact r_notF (r_decT (by omega))) | omega | (exact r_notF (by with_unfolding_all rfl)) | (simp [isNon]; done) | (simp; omega)) ?_)
  | (with_reducible refine r_wp_iteT (by first | decide | assumption | (exact tyOk_list (by assumption)) | (exact tyOk_str) | (exact r_decT (by assumption)) | (exact r_decT (by omega)) | (exact r_notT (by assumption)) | (exact r_notT (r_decF (by assumption))) | (exact r_notT (r_decF (by omega))) | omega | (with_unfolding_all rfl) | (simp [isNon]; done) | (simp; omega)) ?_)
  | (with_reducible refine r_wp_iteF (by first | decide | assumption | (exact r_decF (by assumption)) | (exact r_decF (by omega)) | (exact r_notF (by assumption)) | (exact r_notF (r_decT (by assumption))) | (exact r_notF (r_decT (by omega))) | omega | (exact r_notF (by with_unfolding_all rfl)) | (simp [isNon]; done) | (simp; omega)) ?_)
  | (with_reducible refine r_owp_iteT (by first | decide | assumption | (exact tyOk_list (by assumption)) | (exact tyOk_str) | (exact r_decT (by assumption)) | (exact r_decT (by omega)) | (exact r_notT (by assumption)) | (exact r_notT (r_decF (by assumption))) | (exact r_notT (r_decF (by omega))) | omega | (with_unfolding_all rfl) | (simp [isNon]; done) | (simp; omega)) ?_)
  | (with_reducible refine r_owp_iteF (by first | decide | assumption | (exact r_decF (by assumption)) | (exact r_decF (by omega)) | (exact r_notF (by assumption)) | (exact r_notF (r_decT (by assumption))) | (exact r_notF (r_decT (by omega))) | omega | (exact r_notF (by with_unfolding_all rfl)) | (simp [isNon]; done) | (simp; omega)) ?_)
  ))
local macro_rules | `(tactic| walk_at "fn") => `(tactic| (refine wp_fn rfl ?_; dsimp only [List.map_cons, List.map_nil, List.cons_append, List.nil_append, List.replicate, List.map, Nat.reduceSub]))
/-! ### the reader of lines -/
structure Rd (s : Sto) (o RR LA : Nat) (rows last : List D) : Prop where
  obj : s[o]? = some (.ins 5 [("read_rows", .ref RR), ("last", .ref LA)])
  rr : s[RR]? = some (.lst rows)
  la : s[LA]? = some (.lst last)
  ne : RR ≠ LA
theorem Rd.keep {s s' : Sto} {o RR LA : Nat} {rows last : List D} (h : Rd s o RR LA rows last) (k : Chg [] s s') : Rd s' o RR LA rows last := ⟨k.get0 h.obj, k.get0 h.rr, k.get0 h.la, h.ne⟩
theorem Rd.o_rr {s : Sto} {o RR LA : Nat} {rows last : List D} (h : Rd s o RR LA rows last) : o ≠ RR := fun e => by
  have h1 := h.obj
  rw [e, h.rr] at h1
  cases h1
theorem Rd.o_la {s : Sto} {o RR LA : Nat} {rows last : List D} (h : Rd s o RR LA rows last) : o ≠ LA := fun e => by
  have h1 := h.obj
  rw [e, h.la] at h1
  cases h1
theorem Reader_init_ok {o : Nat} {st : Sto} (ho : st[o]? = some (.ins 5 [])) {X : XP} :
    Wp X (fun d s => d = .non ∧ (∃ RR LA, Rd s o RR LA [] [] ∧ st[RR]? = none ∧ st[LA]? = none) ∧ Chg [o] st s) (f_LineReader_init [.ref o] st) := by
  walk_at "fn"
  unfold b_LineReader_init
  walk_at "wp"
  refine wo_lst (by simp [LIM]) fun RR s1 hR hRn k1 => ?_
  have ho1 := k1.get0 ho
  walk_at "wp"
  refine wo_setF ho1 (by decide) (by simp) fun s2 ho2 k2 => ?_
  walk_at "wp"
  refine wo_lst (by simp [LIM]) fun LA s3 hL hLn k3 => ?_
  have ho3 := k3.get0 ho2
  walk_at "wp"
  refine wo_setF ho3 (by decide) (by simp [putD]) fun s4 ho4 k4 => ?_
  walk_at "wp"
  have hoR : RR ≠ o := fun e => by rw [e, ho] at hRn; cases hRn
  have hoL : LA ≠ o := fun e => by rw [e, ho2] at hLn; cases hLn
  have hR2 := k2.get (by simpa using hoR) hR
  have hRL : RR ≠ LA := fun e => by rw [← e, hR2] at hLn; cases hLn
  have kk : Chg [o] st s4 := ((k1.up.trans k2).trans k3.up).trans k4
  refine ⟨rfl, ⟨RR, LA, ⟨by simpa [putD] using ho4, k4.get (by simpa using hoR) (k3.get0 hR2), k4.get (by simpa using hoL) hL, hRL⟩, hRn, ?_⟩, kk⟩
  rcases h : st[LA]? with _ | c
  · rfl
  · rw [(k1.up.trans k2).get (by simpa using hoL) h] at hLn; cases hLn
theorem flat_len (l : List Stp) : (l.flatMap stpW).length = 3 * l.length := by
  induction l with
  | nil => rfl
  | cons z l ih => rw [List.flatMap_cons, List.length_append, ih]; simp [stpW]; omega
theorem rg3 {k : Nat} (h : k ≤ 4) : RgC 0 ((3 * k : Nat) : Int) 3 k := by
  have : k = 0 ∨ k = 1 ∨ k = 2 ∨ k = 3 ∨ k = 4 := by omega
  rcases this with rfl | rfl | rfl | rfl | rfl <;> exact ⟨by decide, by decide, by decide +kernel, by decide +kernel⟩
theorem cut3 : ∀ (r : List Stp) (j : Nat) (z : Stp), r[j]? = some z → ((r.flatMap stpW).drop (3 * j)).take 3 = stpW z
  | [], j, z, h => by simp at h
  | y :: r, 0, z, h => by
    simp at h
    subst h
    simp [stpW]
  | y :: r, j + 1, z, h => by
    simp only [List.getElem?_cons_succ] at h
    rw [List.flatMap_cons, show 3 * (j + 1) = 3 + 3 * j by omega, ← List.drop_drop]
    rw [show List.drop 3 (stpW y ++ List.flatMap stpW r) = List.flatMap stpW r by simp [stpW]]
    exact cut3 r j z h
theorem cutW {r : List Stp} {j : Nat} {z : Stp} (h : r[j]? = some z) : LF.cutD ((r.flatMap stpW).map D.str) (some (0 + (j : Int) * 3)) (some (0 + (j : Int) * 3 + 3)) = (stpW z).map D.str := by
  have hj := (List.getElem?_eq_some_iff.mp h).1
  unfold LF.cutD
  rw [show (0 + (j : Int) * 3) = ((3 * j : Nat) : Int) by omega, show (((3 * j : Nat) : Int) + 3) = ((3 * j + 3 : Nat) : Int) by omega, HT.sIx_nat, HT.sIx_nat, List.length_map, flat_len, Nat.min_eq_left (by omega), Nat.min_eq_left (by omega), show 3 * j + 3 - 3 * j = 3 by omega, ← List.map_drop, ← List.map_take, cut3 r j z h]
theorem rngC_get {n i : Nat} {lo c : Int} {d : D} (h : (rngC lo c n)[i]? = some d) : i < n ∧ d = .int (lo + (i : Int) * c) := by
  unfold rngC at h
  rw [List.getElem?_map] at h
  by_cases hi : i < n
  · rw [List.getElem?_range hi] at h
    simp at h
    exact ⟨hi, h.symm⟩
  · rw [List.getElem?_eq_none (by simpa using hi)] at h
    cases h
theorem rngC_len {n : Nat} {lo c : Int} : (rngC lo c n).length = n := by simp [rngC]
theorem takes_row_ok {r : List Stp} (hr : RowOk 0 0 r) {st : Sto} {o RR LA W : Nat} {rows last : List D} (hd : Rd st o RR LA rows last) (hrows : rows.length ≤ 10) (hW : st[W]? = some (.lst ((r.flatMap stpW).map D.str))) {X : XP} :
    Wp X (fun d s => d = .bl true ∧ Rd s o RR LA (rows ++ [rowD r]) last ∧ Chg [RR] st s) (f_LineReader_takes_row [.ref o, .ref W] st) := by
  have hl4 := hr.len
  have hlen : ((r.flatMap stpW).map D.str).length = 3 * r.length := by rw [List.length_map, flat_len]
  walk_at "fn"
  unfold b_LineReader_takes_row
  walk_at "wp"
  refine wo_lst (by simp [LIM]) fun R s1 hR hRn k1 => ?_
  have hW1 := k1.get0 hW
  have hd1 := hd.keep k1
  walk_at "wp"
  refine q_iR3 (n := r.length) (i := 0) (j := ((3 * r.length : Nat) : Int)) (k := 3) ?_
  walk_at "wp"
  refine ⟨rfl, by rw [hlen], rfl, rg3 hl4, ?_⟩
  refine owp_forS (fun j e s => ∃ x3 x4 x5 x6, e = [some (.ref o), some (.ref W), some (.ref R), x3, x4, x5, x6] ∧ s[R]? = some (.lst ((r.take j).map stpD)) ∧ Chg [] st s) ?_ ?_ ⟨_, _, _, _, rfl, by simpa using hR, k1⟩
  · rintro j e0 e s hde ⟨x3, x4, x5, x6, rfl, hRs, ks⟩
    obtain ⟨hj, rfl⟩ := rngC_get hde
    obtain ⟨z, hz⟩ : ∃ z, r[j]? = some z := ⟨r[j], List.getElem?_eq_getElem hj⟩
    obtain ⟨z1, z2, z3⟩ := hr.stp z (List.mem_of_getElem? hz)
    have hWs := ks.get0 hW
    refine ⟨okB_none, _, rfl, ?_⟩
    dsimp only [List.set]
    refine r_owp_seq (r_owp_asgT ?_)
    walk_at "wp"
    refine w_slL hWs fun V v1 hV hVn l1 => ?_
    rw [cutW hz] at hV
    obtain ⟨z0, zc, y⟩ := z
    simp only [stpW, List.map_cons, List.map_nil] at hV z1 z2 z3
    simp only [Tg.sem, Tg.sems, seqOf, hV, List.length_cons, List.length_nil, if_pos, List.set]
    walk_at "wp"
    refine (number_in_num (by omega)).mono ?_
    rintro _ _ ⟨rfl, rfl⟩
    walk_at "wp"
    refine (number_in_num (by omega)).mono ?_
    rintro _ _ ⟨rfl, rfl⟩
    walk_at "wp"
    refine (is_saying_ok z3).mono ?_
    rintro _ _ ⟨rfl, rfl⟩
    have hRs2 := l1.get0 hRs
    walk_at "wp"
    refine (number_in_num (by omega)).mono ?_
    rintro _ _ ⟨rfl, rfl⟩
    walk_at "wp"
    refine (number_in_num (by omega)).mono ?_
    rintro _ _ ⟨rfl, rfl⟩
    walk_at "wp"
    refine (saying_in_ok z3).mono ?_
    rintro _ _ ⟨rfl, rfl⟩
    walk_at "wp"
    refine w_tup (by simp [LIM]) ?_
    walk_at "wp"
    refine wo_append hRs2 (by simp [LIM]; omega) fun v2 hv2 l2 => ?_
    walk_at "wp"
    refine ⟨_, _, _, _, rfl, ?_, (ks.trans l1).new hRn l2⟩
    rw [hv2, List.take_succ_eq_append_getElem hj]
    have e := (List.getElem?_eq_some_iff.mp hz).2
    rw [e]
    simp [stpD]
  · rintro e s ⟨x3, x4, x5, x6, rfl, hRs, ks⟩
    rw [rngC_len, List.take_length] at hRs
    have hds := hd.keep ks
    have h1 := hds.obj
    have h2 := hds.rr
    refine ⟨okB_none, ?_⟩
    walk_at "wp"
    refine wo_append h2 (by simp [LIM]; omega) fun v2 hv2 l2 => ?_
    walk_at "wp"
    exact ⟨rfl, ⟨l2.get (by simpa using hds.o_rr) h1, hv2, l2.get (by simpa using hds.ne.symm) hds.la, hds.ne⟩, ks.up.trans l2⟩
end K02

set_option Elab.async false
set_option linter.all false
set_option maxRecDepth 100000
set_option maxHeartbeats 4000000
namespace K02
open PySem PySem.Spec PyProof.Rows L2 LF
local macro_rules | `(tactic| walk_at "wp") => `(tactic| repeat (first
  | (with_reducible refine r_seq_nx ?_)
  | (with_reducible refine r_seq_rt ?_)
  | (with_reducible refine r_seq_bk ?_)
  | (with_reducible refine r_seq_ct ?_)
  | (with_reducible refine r_seq_ex ?_)
  | (with_reducible refine r_loop_nx ?_)
  | (with_reducible refine r_loop_rt ?_)
  | (with_reducible refine r_loop_bk ?_)
  | (with_reducible refine r_loop_ct ?_)
  | (with_reducible refine r_loop_ex ?_)
  | (with_reducible refine r_fn_nx ?_)
  | (with_reducible refine r_fn_rt ?_)
  | (with_reducible refine r_fn_ex ?_)
  | (with_reducible refine r_owp_seq ?_)
  | (with_reducible refine r_owp_if ?_)
  | (with_reducible refine r_owp_ret ?_)
  | (with_reducible refine r_owp_expr ?_)
  | (with_reducible refine r_owp_skip ?_)
  | (with_reducible refine r_owp_brk ?_)
  | (with_reducible refine r_owp_cnt ?_)
  | (with_reducible refine r_owp_setIx ?_)
  | (with_reducible refine r_owp_setF ?_)
  | (with_reducible refine r_owp_for ?_)
  | (with_reducible refine r_owp_nx ?_)
  | (with_reducible refine r_owp_rt ?_)
  | (with_reducible refine r_owp_out ?_)
  | (with_reducible refine r_wp_bin ?_)
  | (with_reducible refine r_wp_un ?_)
  | (with_reducible refine r_wp_blt ?_)
  | (with_reducible refine r_wp_cons ?_)
  | (with_reducible refine r_wp_nil ?_)
  | (with_reducible refine r_wp_c ?_)
  | (with_reducible refine r_wp_if ?_)
  | (with_reducible refine q_asB ?_)
  | (with_reducible refine q_tTru ?_)
  | (with_reducible refine r_wp_tAnd ?_)
  | (with_reducible refine r_wp_tOr ?_)
  | (with_reducible refine r_wp_tNot ?_)
  | (with_reducible refine r_wp_tYes ?_)
  | (with_reducible refine q_eAnd ?_)
  | (with_reducible refine q_eOr ?_)
  | (with_reducible refine q_eNot ?_)
  | (with_reducible refine q_chain ?_)
  | (with_reducible refine r_wp_call ?_)
  | (with_reducible refine r_wp_mt ?_)
  | (with_reducible refine q_meth ?_)
  | (with_reducible refine q_make ?_)
  | (with_reducible refine q_fmt ?_)
  | (with_reducible refine r_wp_joinN ?_)
  | (with_reducible refine q_join ?_)
  | (with_reducible refine r_wp_partN ?_)
  | (with_reducible refine q_part ?_)
  | (with_reducible refine r_wp_sl ?_)
  | (with_reducible refine q_iS ?_)
  | (with_reducible refine q_iR1 ?_)
  | (with_reducible refine q_iR2 ?_)
  | (with_reducible refine q_iEn ?_)
  | (with_reducible refine r_onBl ?_)
  | (with_reducible refine r_onInt ?_)
  | (with_reducible refine r_onStr ?_)
  | (with_reducible refine r_onNon ?_)
  | (with_reducible refine r_itT ?_)
  | (with_reducible refine r_itS ?_)
  | (with_reducible refine r_wp_bind ?_)
  | (with_reducible refine r_wp_ofO ?_)
  | (with_reducible refine r_wp_ok ?_)
  | (with_reducible refine r_wo_some ?_)
  | (with_reducible refine w_addI ?_)
  | (with_reducible refine w_sub ?_)
  | (with_reducible refine w_lt ?_)
  | (with_reducible refine w_le ?_)
  | (with_reducible refine w_gt ?_)
  | (with_reducible refine w_ge ?_)
  | (with_reducible refine w_is ?_)
  | (with_reducible refine w_isNot ?_)
  | (with_reducible refine w_lenT ?_)
  | (with_reducible refine w_intI ?_)
  | (with_reducible refine w_strS ?_)
  | (with_reducible refine w_abs ?_)
  | (with_reducible refine w_eqI ?_)
  | (with_reducible refine w_neI ?_)
  | (with_reducible refine w_eqB ?_)
  | (with_reducible refine w_neB ?_)
  | (with_reducible refine w_neg ?_)
  | ((with_reducible refine r_owp_asg ?_); (try dsimp only [List.set]))
  | ((with_reducible refine r_owp_par ?_); (try dsimp only [List.set]))
  | (with_reducible refine r_var (by with_unfolding_all rfl) ?_)
  | (with_reducible refine w_ixL (by assumption) (by with_unfolding_all rfl) ?_)
  | (with_reducible refine w_ixT (by with_unfolding_all rfl) ?_)
  | (with_reducible refine w_lenL (by assumption) ?_)
  | (with_reducible refine w_fld (by assumption) (by with_unfolding_all rfl) (by with_unfolding_all rfl) ?_)
  | (with_reducible refine w_tupleL (by assumption) ?_)
  | (with_reducible refine w_mod (by omega) ?_)
  | (with_reducible refine w_div (by omega) (by omega) ?_)
  | (with_reducible refine w_mul (by omega) ?_)
  | (with_reducible refine w_isiT (by with_unfolding_all rfl) (by decide +kernel) (by with_unfolding_all (intro r h; cases h)) ?_)
  | (with_reducible refine w_isiRT (by assumption) (by with_unfolding_all rfl) (by with_unfolding_all rfl) (by decide +kernel) ?_)
  | (with_reducible refine w_isiCT (by assumption) (by with_unfolding_all rfl) (by with_unfolding_all rfl) (by decide +kernel) ?_)
  | (with_reducible refine w_isiF (by with_unfolding_all rfl) (by decide +kernel) (by with_unfolding_all (intro r h; cases h)) ?_)
  | (with_reducible refine w_isiRF (by assumption) (by with_unfolding_all rfl) (by with_unfolding_all rfl) (by decide +kernel) ?_)
  | (with_reducible refine w_isiCF (by assumption) (by with_unfolding_all rfl) (by with_unfolding_all rfl) (by decide +kernel) ?_)
  | (with_reducible refine r_both (by omega) ?_)
  | (with_reducible refine r_onLst (by assumption) ?_)
  | (with_reducible refine r_itL (by assumption) ?_)
  | (with_reducible refine r_onObj (by assumption) (by with_unfolding_all rfl) ?_)
  | (with_reducible refine r_tT (by first | decide | assumption | (exact tyOk_list (by assumption)) | (exact tyOk_str) | (exact r_decT (by assumption)) | (exact r_decT (by omega)) | (exact r_notT (by assumption)) | (exact r_notT (r_decF (by assumption))) | (exact r_notT (r_decF (by omega))) | omega | (with_unfolding_all rfl) | (simp [isNon]; done) | (simp; omega)) ?_)
  | (with_reducible refine r_tF (by first | decide | assumption | (exact r_decF (by assumption)) | (exact r_decF (by omega)) | (exact r_notF (by assumption)) | (exact r_notF (r_decT (by assumption))) | (exact r_notF (r_decT (by omega))) | omega | (exact r_notF (by with_unfolding_all rfl)) | (simp [isNon]; done) | (simp; omega)) ?_)
  | (with_reducible refine r_bT (by first | decide | assumption | (exact tyOk_list (by assumption)) | (exact tyOk_str) | (exact r_decT (by assumption)) | (exact r_decT (by omega)) | (exact r_notT (by assumption)) | (exact r_notT (r_decF (by assumption))) | (exact r_notT (r_decF (by omega))) | omega | (with_unfolding_all rfl) | (simp [isNon]; done) | (simp; omega)) ?_)
  | (with_reducible refine r_bF (by first | decide | assumption | (exact r_decF (by assumption)) | (exact r_decF (by omega)) | (exact r_notF (by assumption)) | (exact r_notF (r_decT (by assumption))) | (exact r_notF (r_decT (by omega))) | omega | (exact r_notF (by with_unfolding_all rfl)) | (simp [isNon]; done) | (simp; omega)) ?_)
  | (with_reducible refine r_p_iteT (by first | decide | assumption | (exact tyOk_list (by assumption)) | (exact tyOk_str) | (exact r_decT (by assumption)) | (exact r_decT (by omega)) | (exact r_notT (by assumption)) | (exact r_notT (r_decF (by assumption))) | (exact r_notT (r_decF (by omega))) | omega | (with_unfolding_all rfl) | (simp [isNon]; done) | (simp; omega)) ?_)
  | (with_reducible refine r_p_iteF (by first | decide | assumption | (exact r_decF (by assumption)) | (exact r_decF (by omega)) | (exact r_notF (by assumption)) | (exact r_notF (r_decT (by assumption))) | (exact r_notF (r_decT (by omega))) | omega | (exact r_notF (by with_unfolding_all rfl)) | (simp [isNon]; done) | (simp; omega)) ?_)
  | (with_reducible refine r_wp_iteT (by first | decide | assumption | (exact tyOk_list (by assumption)) | (exact tyOk_str) | (exact r_decT (by assumption)) | (exact r_decT (by omega)) | (exact r_notT (by assumption)) | (exact r_notT (r_decF (by assumption))) | (exact r_notT (r_decF (by omega))) | omega | (with_unfolding_all rfl) | (simp [isNon]; done) | (simp; omega)) ?_)
  | (with_reducible refine r_wp_iteF (by first | decide | assumption | (exact r_decF (by assumption)) | (exact r_decF (by omega)) | (exact r_notF (by assumption)) | (exact r_notF (r_decT (by assumption))) | (exact r_notF (r_decT (by omega))) | omega | (exact r_notF (by with_unfolding_all rfl)) | (simp [isNon]; done) | (simp; omega)) ?_)
  | (with_reducible refine r_owp_iteT (by first | decide | assumption | (exact tyOk_list (by assumption)) | (exact tyOk_str) | (exact r_decT (by assumption)) | (exact r_decT (by omega)) | (exact r_notT (by assumption)) | (exact r_notT (r_decF (by assumption))) | (exact r_notT (r_decF (by omega))) | omega | (with_unfolding_all rfl) | (simp [isNon]; done) | (simp; omega)) ?_)
  | (with_reducible refine r_owp_iteF (by first | decide | assumption | (exact r_decF (by assumption)) | (exact r_decF (by omega)) | (exact r_notF (by assumption)) | (exact r_notF (r_decT (by assumption))) | (exact r_notF (r_decT (by omega))) | omega | (exact r_notF (by with_unfolding_all rfl)) | (simp [isNon]; done) | (simp; omega)) ?_)
  ))
local macro_rules | `(tactic| walk_at "fld") => `(tactic| repeat (first
  | (with_reducible refine r_seq_rt ?_)
  | (with_reducible refine r_seq_bk ?_)
  | (with_reducible refine r_seq_ct ?_)
  | (with_reducible refine r_seq_ex ?_)
  | (with_reducible refine r_loop_nx ?_)
  | (with_reducible refine r_loop_rt ?_)
  | (with_reducible refine r_loop_bk ?_)
  | (with_reducible refine r_loop_ct ?_)
  | (with_reducible refine r_loop_ex ?_)
  | (with_reducible refine r_fn_nx ?_)
  | (with_reducible refine r_fn_rt ?_)
  | (with_reducible refine r_fn_ex ?_)
  | (with_reducible refine r_owp_if ?_)
  | (with_reducible refine r_owp_ret ?_)
  | (with_reducible refine r_owp_expr ?_)
  | (with_reducible refine r_owp_skip ?_)
  | (with_reducible refine r_owp_brk ?_)
  | (with_reducible refine r_owp_cnt ?_)
  | (with_reducible refine r_owp_setIx ?_)
  | (with_reducible refine r_owp_setF ?_)
  | (with_reducible refine r_owp_for ?_)
  | (with_reducible refine r_owp_nx ?_)
  | (with_reducible refine r_owp_rt ?_)
  | (with_reducible refine r_owp_out ?_)
  | (with_reducible refine r_wp_bin ?_)
  | (with_reducible refine r_wp_un ?_)
  | (with_reducible refine r_wp_blt ?_)
  | (with_reducible refine r_wp_cons ?_)
  | (with_reducible refine r_wp_nil ?_)
  | (with_reducible refine r_wp_c ?_)
  | (with_reducible refine r_wp_if ?_)
  | (with_reducible refine q_asB ?_)
  | (with_reducible refine q_tTru ?_)
  | (with_reducible refine r_wp_tAnd ?_)
  | (with_reducible refine r_wp_tOr ?_)
  | (with_reducible refine r_wp_tNot ?_)
  | (with_reducible refine r_wp_tYes ?_)
  | (with_reducible refine q_eAnd ?_)
  | (with_reducible refine q_eOr ?_)
  | (with_reducible refine q_eNot ?_)
  | (with_reducible refine q_chain ?_)
  | (with_reducible refine r_wp_call ?_)
  | (with_reducible refine r_wp_mt ?_)
  | (with_reducible refine q_meth ?_)
  | (with_reducible refine q_make ?_)
  | (with_reducible refine q_fmt ?_)
  | (with_reducible refine r_wp_joinN ?_)
  | (with_reducible refine q_join ?_)
  | (with_reducible refine r_wp_partN ?_)
  | (with_reducible refine q_part ?_)
  | (with_reducible refine r_wp_sl ?_)
  | (with_reducible refine q_iS ?_)
  | (with_reducible refine q_iR1 ?_)
  | (with_reducible refine q_iR2 ?_)
  | (with_reducible refine q_iEn ?_)
  | (with_reducible refine r_onBl ?_)
  | (with_reducible refine r_onInt ?_)
  | (with_reducible refine r_onStr ?_)
  | (with_reducible refine r_onNon ?_)
  | (with_reducible refine r_itT ?_)
  | (with_reducible refine r_itS ?_)
  | (with_reducible refine r_wp_bind ?_)
  | (with_reducible refine r_wp_ofO ?_)
  | (with_reducible refine r_wp_ok ?_)
  | (with_reducible refine r_wo_some ?_)
  | (with_reducible refine w_addI ?_)
  | (with_reducible refine w_sub ?_)
  | (with_reducible refine w_lt ?_)
  | (with_reducible refine w_le ?_)
  | (with_reducible refine w_gt ?_)
  | (with_reducible refine w_ge ?_)
  | (with_reducible refine w_is ?_)
  | (with_reducible refine w_isNot ?_)
  | (with_reducible refine w_lenT ?_)
  | (with_reducible refine w_intI ?_)
  | (with_reducible refine w_strS ?_)
  | (with_reducible refine w_abs ?_)
  | (with_reducible refine w_eqI ?_)
  | (with_reducible refine w_neI ?_)
  | (with_reducible refine w_eqB ?_)
  | (with_reducible refine w_neB ?_)
  | (with_reducible refine w_neg ?_)
  | ((with_reducible refine r_owp_asg ?_); (try dsimp only [List.set]))
  | ((with_reducible refine r_owp_par ?_); (try dsimp only [List.set]))
  | (with_reducible refine r_var (by with_unfolding_all rfl) ?_)
  | (with_reducible refine w_ixL (by assumption) (by with_unfolding_all rfl) ?_)
  | (with_reducible refine w_ixT (by with_unfolding_all rfl) ?_)
  | (with_reducible refine w_lenL (by assumption) ?_)
  | (with_reducible refine w_fld (by assumption) (by with_unfolding_all rfl) (by with_unfolding_all rfl) ?_)
  | (with_reducible refine w_tupleL (by assumption) ?_)
  | (with_reducible refine w_mod (by omega) ?_)
  | (with_reducible refine w_div (by omega) (by omega) ?_)
  | (with_reducible refine w_mul (by omega) ?_)
  | (with_reducible refine w_isiT (by with_unfolding_all rfl) (by decide +kernel) (by with_unfolding_all (intro r h; cases h)) ?_)
  | (with_reducible refine w_isiRT (by assumption) (by with_unfolding_all rfl) (by with_unfolding_all rfl) (by decide +kernel) ?_)
  | (with_reducible refine w_isiCT (by assumption) (by with_unfolding_all rfl) (by with_unfolding_all rfl) (by decide +kernel) ?_)
  | (with_reducible refine w_isiF (by with_unfolding_all rfl) (by decide +kernel) (by with_unfolding_all (intro r h; cases h)) ?_)
  | (with_reducible refine w_isiRF (by assumption) (by with_unfolding_all rfl) (by with_unfolding_all rfl) (by decide +kernel) ?_)
  | (with_reducible refine w_isiCF (by assumption) (by with_unfolding_all rfl) (by with_unfolding_all rfl) (by decide +kernel) ?_)
  | (with_reducible refine r_both (by omega) ?_)
  | (with_reducible refine r_onLst (by assumption) ?_)
  | (with_reducible refine r_itL (by assumption) ?_)
  | (with_reducible refine r_onObj (by assumption) (by with_unfolding_all rfl) ?_)
  | (with_reducible refine r_tT (by first | decide | assumption | (exact tyOk_list (by assumption)) | (exact tyOk_str) | (exact r_decT (by assumption)) | (exact r_decT (by omega)) | (exact r_notT (by assumption)) | (exact r_notT (r_decF (by assumption))) | (exact r_notT (r_decF (by omega))) | omega | (with_unfolding_all rfl) | (simp [isNon]; done) | (simp; omega)) ?_)
  | (with_reducible refine r_tF (by first | decide | assumption | (exact r_decF (by assumption)) | (exact r_decF (by omega)) | (exact r_notF (by assumption)) | (exact r_notF (r_decT (by assumption))) | (exact r_notF (r_decT (by omega))) | omega | (exact r_notF (by with_unfolding_all rfl)) | (simp [isNon]; done) | (simp; omega)) ?_)
  | (with_reducible refine r_bT (by first | decide | assumption | (exact tyOk_list (by assumption)) | (exact tyOk_str) | (exact r_decT (by assumption)) | (exact r_decT (by omega)) | (exact r_notT (by assumption)) | (exact r_notT (r_decF (by assumption))) | (exact r_notT (r_decF (by omega))) | omega | (with_unfolding_all rfl) | (simp [isNon]; done) | (simp; omega)) ?_)
  | (with_reducible refine r_bF (by first | decide | assumption | (exact r_decF (by assumption)) | (exact r_decF (by omega)) | (exact r_notF (by assumption)) | (exact r_notF (r_decT (by assumption))) | (exact r_notF (r_decT (by omega))) | omega | (exact r_notF (by with_unfolding_all rfl)) | (simp [isNon]; done) | (simp; omega)) ?_)
  | (with_reducible refine r_p_iteT (by first | decide | assumption | (exact tyOk_list (by assumption)) | (exact tyOk_str) | (exact r_decT (by assumption)) | (exact r_decT (by omega)) | (exact r_notT (by assumption)) | (exact r_notT (r_decF (by assumption))) | (exact r_notT (r_decF (by omega))) | omega | (with_unfolding_all rfl) | (simp [isNon]; done) | (simp; omega)) ?_)
  | (with_reducible refine r_p_iteF (by first | decide | assumption | (exact r_decF (by assumption)) | (exact r_decF (by omega)) | (exact r_notF (by assumption)) | (exact r_notF (r_decT (by assumption))) | (exact r_notF (r_decT (by omega))) | omega | (exact r_notF (by with_unfolding_all rfl)) | (simp [isNon]; done) | (simp; omega)) ?_)
  | (with_reducible refine r_wp_iteT (by first | decide | assumption | (exact tyOk_list (by assumption)) | (exact tyOk_str) | (exact r_decT (by assumption)) | (exact r_decT (by omega)) | (exact r_notT (by assumption)) | (exact r_notT (r_decF (by assumption))) | (exact r_notT (r_decF (by omega))) | omega | (with_unfolding_all rfl) | (simp [isNon]; done) | (simp; omega)) ?_)
  | (with_reducible refine r_wp_iteF (by first | decide | assumption | (exact r_decF (by assumption)) | (exact r_decF (by omega)) | (exact r_notF (by assumption)) | (exact r_notF (r_decT (by assumption))) | (exact r_notF (r_decT (by omega))) | omega | (exact r_notF (by with_unfolding_all rfl)) | (simp [isNon]; done) | (simp; omega)) ?_)
  | (with_reducible refine r_owp_iteT (by first | decide | assumption | (exact tyOk_list (by assumption)) | (exact tyOk_str) | (exact r_decT (by assumption)) | (exact r_decT (by omega)) | (exact r_notT (by assumption)) | (exact r_notT (r_decF (by assumption))) | (exact r_notT (r_decF (by omega))) | omega | (with_unfolding_all rfl) | (simp [isNon]; done) | (simp; omega)) ?_)
  | (with_reducible refine r_owp_iteF (by first | decide | assumption | (exact r_decF (by assumption)) | (exact r_decF (by omega)) | (exact r_notF (by assumption)) | (exact r_notF (r_decT (by assumption))) | (exact r_notF (r_decT (by omega))) | omega | (exact r_notF (by with_unfolding_all rfl)) | (simp [isNon]; done) | (simp; omega)) ?_)
  ))
local macro_rules | `(tactic| walk_at "fn") => `(tactic| (refine wp_fn rfl ?_; dsimp only [List.map_cons, List.map_nil, List.cons_append, List.nil_append, List.replicate, List.map, Nat.reduceSub]))
/-! ### lines are taken -/
theorem ok_state : PyData.strOk (Str.ofString "state") = true := by decide +kernel
theorem ok_end : PyData.strOk (Str.ofString "end") = true := by decide +kernel
theorem cut1 {x : D} {xs : List D} : LF.cutD (x :: xs) (some 1) none = xs := by
  unfold LF.cutD
  rw [show (some (1 : Int)) = some ((1 : Nat) : Int) from rfl, HT.sIx_nat, HT.sIx_none]
  simp
theorem atI_last {xs : List D} {d : D} : atI (xs ++ [d]) (-1) = some d := by
  unfold atI ixN
  rw [if_neg (by omega), if_pos (by simp; omega)]
  have e : (-1 + ((xs ++ [d]).length : Int)).toNat = xs.length := by simp; omega
  rw [Option.bind_some, e]
  simp
theorem takes_state_ok {r : List Stp} (hr : RowOk 0 0 r) {st : Sto} {o RR LA W : Nat} {rows : List D} (hd : Rd st o RR LA rows []) (hrows : rows.length ≤ 10) (hW : st[W]? = some (.lst (.str (Str.ofString "state") :: (r.flatMap stpW).map D.str))) {X : XP} :
    Wp X (fun d s => d = .bl true ∧ Rd s o RR LA (rows ++ [rowD r]) [] ∧ Chg [RR] st s) (f_LineReader_takes [.ref o, .ref W] st) := by
  have h1 := hd.obj
  have h2 := hd.la
  walk_at "fn"
  unfold b_LineReader_takes
  walk_at "fld"
  refine r_owp_seq (r_owp_if ?_)
  refine r_wp_tAnd (q_asB (r_wp_bin ?_))
  walk_at "fld"
  refine w_ixL hW atI0 ?_
  walk_at "fld"
  refine w_eqS ok_state ok_state ?_
  rw [show (Str.ofString "state" == Str.ofString "state") = true by decide +kernel]
  walk_at "fld"
  refine w_slL hW fun V s1 hV hVn k1 => ?_
  rw [cut1] at hV
  walk_at "wp"
  refine (takes_row_ok hr (hd.keep k1) hrows hV).mono ?_
  rintro _ s2 ⟨rfl, h2, k2⟩
  walk_at "wp"
  exact ⟨rfl, h2, k1.up.trans k2⟩
theorem takes_head_ok {h w : Str} {dflt d : D} {b : Bool} (okh : PyData.strOk h = true) (hS : (h == Str.ofString "state") = false) (hE : (h == Str.ofString "end") = false) (hget : ∀ st : Sto, opGet_OPEN (.str h) st = some (dflt, st)) (heq : ∀ st : Sto, eqD st (.str w) dflt = some b)
    (hb : b = true → d = .non) (hb2 : b = false → ∃ n : Nat, n < 10 ∧ w = numS n ∧ d = .int n)
    {st : Sto} {o RR LA W : Nat} {rows last : List D} (hh : atI [D.str (Str.ofString "first"), .str (Str.ofString "leader"), .str (Str.ofString "lamp"), .str (Str.ofString "end")] (last.length : Int) = some (.str h)) (hl : last.length ≤ 2) (hd : Rd st o RR LA rows last) (hrows : 1 ≤ rows.length) (hW : st[W]? = some (.lst [.str h, .str w])) {X : XP} :
    Wp X (fun x s => x = .bl true ∧ Rd s o RR LA rows (last ++ [d]) ∧ Chg [LA] st s) (f_LineReader_takes [.ref o, .ref W] st) := by
  have h1 := hd.obj
  have h2 := hd.la
  have h3 := hd.rr
  have hz : ¬ ((rows.length : Int) == 0) = true := by simp only [beq_iff_eq]; omega
  walk_at "fn"
  unfold b_LineReader_takes
  walk_at "wp"
  refine w_eqS okh ok_state ?_
  rw [hS]
  walk_at "wp"
  refine w_ixT hh ?_
  walk_at "wp"
  refine w_neS okh okh ?_
  rw [show (h == h) = true by simp]
  walk_at "wp"
  refine w_eqS okh ok_end ?_
  rw [hE]
  walk_at "wp"
  refine r_wo_of (hget _) ?_
  walk_at "wp"
  refine w_eq (heq _) ?_
  cases b with
  | true =>
    have e := hb rfl
    subst e
    walk_at "wp"
    refine wo_append h2 (by simp [LIM]; omega) fun v1 hv1 l1 => ?_
    walk_at "wp"
    exact ⟨rfl, ⟨l1.get (by simpa using hd.o_la) h1, l1.get (by simpa using hd.ne) h3, hv1, hd.ne⟩, l1⟩
  | false =>
    obtain ⟨n, hn, rfl, rfl⟩ := hb2 rfl
    walk_at "wp"
    refine (number_in_num hn).mono ?_
    rintro _ _ ⟨rfl, rfl⟩
    walk_at "wp"
    refine wo_append h2 (by simp [LIM]; omega) fun v1 hv1 l1 => ?_
    have h1' := l1.get (by simpa using hd.o_la) h1
    walk_at "wp"
    refine w_ixL hv1 atI_last ?_
    walk_at "wp"
    exact ⟨by simp [isNon], ⟨h1', l1.get (by simpa using hd.ne) h3, hv1, hd.ne⟩, l1⟩
theorem takes_end_ok {st : Sto} {o RR LA W : Nat} {rows last : List D} (hl : last.length = 3) (hd : Rd st o RR LA rows last) (hrows : 1 ≤ rows.length) (hW : st[W]? = some (.lst [.str (Str.ofString "end")])) {X : XP} :
    Wp X (fun x s => x = .bl true ∧ Rd s o RR LA rows (last ++ [.non]) ∧ Chg [LA] st s) (f_LineReader_takes [.ref o, .ref W] st) := by
  have h1 := hd.obj
  have h2 := hd.la
  have h3 := hd.rr
  have hz : ¬ ((rows.length : Int) == 0) = true := by simp only [beq_iff_eq]; omega
  walk_at "fn"
  unfold b_LineReader_takes
  walk_at "wp"
  refine w_eqS ok_end ok_state ?_
  rw [show (Str.ofString "end" == Str.ofString "state") = false by decide +kernel]
  walk_at "wp"
  refine w_ixT (d := .str (Str.ofString "end")) (by rw [hl]; rfl) ?_
  walk_at "wp"
  refine w_neS ok_end ok_end ?_
  rw [show (Str.ofString "end" == Str.ofString "end") = true by decide +kernel]
  walk_at "wp"
  refine w_eqS ok_end ok_end ?_
  rw [show (Str.ofString "end" == Str.ofString "end") = true by decide +kernel]
  walk_at "wp"
  refine wo_append h2 (by simp [LIM]; omega) fun v1 hv1 l1 => ?_
  have hW' := l1.get (by simp; intro e; subst e; rw [h2] at hW; cases hW; simp at hl) hW
  walk_at "wp"
  exact ⟨rfl, ⟨l1.get (by simpa using hd.o_la) h1, l1.get (by simpa using hd.ne) h3, hv1, hd.ne⟩, l1⟩
end K02

set_option Elab.async false
set_option linter.all false
set_option maxRecDepth 100000
set_option maxHeartbeats 4000000
namespace K02
open PySem PySem.Spec PyProof.Rows L2 LF
local macro_rules | `(tactic| walk_at "wp") => `(tactic| repeat (first
  | (with_reducible refine r_seq_nx ?_)
  | (with_reducible refine r_seq_rt ?_)
  | (with_reducible refine r_seq_bk ?_)
  | (with_reducible refine r_seq_ct ?_)
  | (with_reducible refine r_seq_ex ?_)
  | (with_reducible refine r_loop_nx ?_)
  | (with_reducible refine r_loop_rt ?_)
  | (with_reducible refine r_loop_bk ?_)
  | (with_reducible refine r_loop_ct ?_)
  | (with_reducible refine r_loop_ex ?_)
  | (with_reducible refine r_fn_nx ?_)
  | (with_reducible refine r_fn_rt ?_)
  | (with_reducible refine r_fn_ex ?_)
  | (with_reducible refine r_owp_seq ?_)
  | (with_reducible refine r_owp_if ?_)
  | (with_reducible refine r_owp_ret ?_)
  | (with_reducible refine r_owp_expr ?_)
  | (with_reducible refine r_owp_skip ?_)
  | (with_reducible refine r_owp_brk ?_)
  | (with_reducible refine r_owp_cnt ?_)
  | (with_reducible refine r_owp_setIx ?_)
  | (with_reducible refine r_owp_setF ?_)
  | (with_reducible refine r_owp_for ?_)
  | (with_reducible refine r_owp_nx ?_)
  | (with_reducible refine r_owp_rt ?_)
  | (with_reducible refine r_owp_out ?_)
  | (with_reducible refine r_wp_bin ?_)
  | (with_reducible refine r_wp_un ?_)
  | (with_reducible refine r_wp_blt ?_)
  | (with_reducible refine r_wp_cons ?_)
  | (with_reducible refine r_wp_nil ?_)
  | (with_reducible refine r_wp_c ?_)
  | (with_reducible refine r_wp_if ?_)
  | (with_reducible refine q_asB ?_)
  | (with_reducible refine q_tTru ?_)
  | (with_reducible refine r_wp_tAnd ?_)
  | (with_reducible refine r_wp_tOr ?_)
  | (with_reducible refine r_wp_tNot ?_)
  | (with_reducible refine r_wp_tYes ?_)
  | (with_reducible refine q_eAnd ?_)
  | (with_reducible refine q_eOr ?_)
  | (with_reducible refine q_eNot ?_)
  | (with_reducible refine q_chain ?_)
  | (with_reducible refine r_wp_call ?_)
  | (with_reducible refine r_wp_mt ?_)
  | (with_reducible refine q_meth ?_)
  | (with_reducible refine q_make ?_)
  | (with_reducible refine q_fmt ?_)
  | (with_reducible refine r_wp_joinN ?_)
  | (with_reducible refine q_join ?_)
  | (with_reducible refine r_wp_partN ?_)
  | (with_reducible refine q_part ?_)
  | (with_reducible refine r_wp_sl ?_)
  | (with_reducible refine q_iS ?_)
  | (with_reducible refine q_iR1 ?_)
  | (with_reducible refine q_iR2 ?_)
  | (with_reducible refine q_iEn ?_)
  | (with_reducible refine r_onBl ?_)
  | (with_reducible refine r_onInt ?_)
  | (with_reducible refine r_onStr ?_)
  | (with_reducible refine r_onNon ?_)
  | (with_reducible refine r_itT ?_)
  | (with_reducible refine r_itS ?_)
  | (with_reducible refine r_wp_bind ?_)
  | (with_reducible refine r_wp_ofO ?_)
  | (with_reducible refine r_wp_ok ?_)
  | (with_reducible refine r_wo_some ?_)
  | (with_reducible refine w_addI ?_)
  | (with_reducible refine w_sub ?_)
  | (with_reducible refine w_lt ?_)
  | (with_reducible refine w_le ?_)
  | (with_reducible refine w_gt ?_)
  | (with_reducible refine w_ge ?_)
  | (with_reducible refine w_is ?_)
  | (with_reducible refine w_isNot ?_)
  | (with_reducible refine w_lenT ?_)
  | (with_reducible refine w_intI ?_)
  | (with_reducible refine w_strS ?_)
  | (with_reducible refine w_abs ?_)
  | (with_reducible refine w_eqI ?_)
  | (with_reducible refine w_neI ?_)
  | (with_reducible refine w_eqB ?_)
  | (with_reducible refine w_neB ?_)
  | (with_reducible refine w_neg ?_)
  | ((with_reducible refine r_owp_asg ?_); (try dsimp only [List.set]))
  | ((with_reducible refine r_owp_par ?_); (try dsimp only [List.set]))
  | (with_reducible refine r_var (by with_unfolding_all rfl) ?_)
  | (with_reducible refine w_ixL (by assumption) (by with_unfolding_all rfl) ?_)
  | (with_reducible refine w_ixT (by with_unfolding_all rfl) ?_)
  | (with_reducible refine w_lenL (by assumption) ?_)
  | (with_reducible refine w_fld (by assumption) (by with_unfolding_all rfl) (by with_unfolding_all rfl) ?_)
  | (with_reducible refine w_tupleL (by assumption) ?_)
  | (with_reducible refine w_mod (by omega) ?_)
  | (with_reducible refine w_div (by omega) (by omega) ?_)
  | (with_reducible refine w_mul (by omega) ?_)
  | (with_reducible refine w_isiT (by with_unfolding_all rfl) (by decide +kernel) (by with_unfolding_all (intro r h; cases h)) ?_)
  | (with_reducible refine w_isiRT (by assumption) (by with_unfolding_all rfl) (by with_unfolding_all rfl) (by decide +kernel) ?_)
  | (with_reducible refine w_isiCT (by assumption) (by with_unfolding_all rfl) (by with_unfolding_all rfl) (by decide +kernel) ?_)
  | (with_reducible refine w_isiF (by with_unfolding_all rfl) (by decide +kernel) (by with_unfolding_all (intro r h; cases h)) ?_)
  | (with_reducible refine w_isiRF (by assumption) (by with_unfolding_all rfl) (by with_unfolding_all rfl) (by decide +kernel) ?_)
  | (with_reducible refine w_isiCF (by assumption) (by with_unfolding_all rfl) (by with_unfolding_all rfl) (by decide +kernel) ?_)
  | (with_reducible refine r_both (by omega) ?_)
  | (with_reducible refine r_onLst (by assumption) ?_)
  | (with_reducible refine r_itL (by assumption) ?_)
  | (with_reducible refine r_onObj (by assumption) (by with_unfolding_all rfl) ?_)
  | (with_reducible refine r_tT (by first | decide | assumption | (exact tyOk_list (by assumption)) | (exact tyOk_str) | (exact r_decT (by assumption)) | (exact r_decT (by omega)) | (exact r_notT (by assumption)) | (exact r_notT (r_decF (by assumption))) | (exact r_notT (r_decF (by omega))) | omega | (with_unfolding_all rfl) | (simp [isNon]; done) | (simp; omega)) ?_)
  | (with_reducible refine r_tF (by first | decide | assumption | (exact r_decF (by assumption)) | (exact r_decF (by omega)) | (exact r_notF (by assumption)) | (exact r_notF (r_decT (by assumption))) | (exact r_notF (r_decT (by omega))) | omega | (exact r_notF (by with_unfolding_all rfl)) | (simp [isNon]; done) | (simp; omega)) ?_)
  | (with_reducible refine r_bT (by first | decide | assumption | (exact tyOk_list (by assumption)) | (exact tyOk_str) | (exact r_decT (by assumption)) | (exact r_decT (by omega)) | (exact r_notT (by assumption)) | (exact r_notT (r_decF (by assumption))) | (exact r_notT (r_decF (by omega))) | omega | (with_unfolding_all rfl) | (simp [isNon]; done) | (simp; omega)) ?_)
  | (with_reducible refine r_bF (by first | decide | assumption | (exact r_decF (by assumption)) | (exact r_decF (by omega)) | (exact r_notF (by assumption)) | (exact r_notF (r_decT (by assumption))) | (exact r_notF (r_decT (by omega))) | omega | (exact r_notF (by with_unfolding_all rfl)) | (simp [isNon]; done) | (simp; omega)) ?_)
  | (with_reducible refine r_p_iteT (by first | decide | assumption | (exact tyOk_list (by assumption)) | (exact tyOk_str) | (exact r_decT (by assumption)) | (exact r_decT (by omega)) | (exact r_notT (by assumption)) | (exact r_notT (r_decF (by assumption))) | (exact r_notT (r_decF (by omega))) | omega | (with_unfolding_all rfl) | (simp [isNon]; done) | (simp; omega)) ?_)
  | (with_reducible refine r_p_iteF (by first | decide | assumption | (exact r_decF (by assumption)) | (exact r_decF (by omega)) | (exact r_notF (by assumption)) | (exact r_notF (r_decT (by assumption))) | (exact r_notF (r_decT (by omega))) | omega | (exact r_notF (by with_unfolding_all rfl)) | (simp [isNon]; done) | (simp; omega)) ?_)
  | (with_reducible refine r_wp_iteT (by first | decide | assumption | (exact tyOk_list (by assumption)) | (exact tyOk_str) | (exact r_decT (by assumption)) | (exact r_decT (by omega)) | (exact r_notT (by assumption)) | (exact r_notT (r_decF (by assumption))) | (exact r_notT (r_decF (by omega))) | omega | (with_unfolding_all rfl) | (simp [isNon]; done) | (simp; omega)) ?_)
  | (with_reducible refine r_wp_iteF (by first | decide | assumption | (exact r_decF (by assumption)) | (exact r_decF (by omega)) | (exact r_notF (by assumption)) | (exact r_notF (r_decT (by assumption))) | (exact r_notF (r_decT (by omega))) | omega | (exact r_notF (by with_unfolding_all rfl)) | (simp [isNon]; done) | (simp; omega)) ?_)
  | (with_reducible refine r_owp_iteT (by first | decide | assumption | (exact tyOk_list (by assumption)) | (exact tyOk_str) | (exact r_decT (by assumption)) | (exact r_decT (by omega)) | (exact r_notT (by assumption)) | (exact r_notT (r_decF (by assumption))) | (exact r_notT (r_decF (by omega))) | omega | (with_unfolding_all rfl) | (simp [isNon]; done) | (simp; omega)) ?_)
  | (with_reducible refine r_owp_iteF (by first | decide | assumption | (exact r_decF (by assumption)) | (exact r_decF (by omega)) | (exact r_notF (by assumption)) | (exact r_notF (r_decT (by assumption))) | (exact r_notF (r_decT (by omega))) | omega | (exact r_notF (by with_unfolding_all rfl)) | (simp [isNon]; done) | (simp; omega)) ?_)
  ))
local macro_rules | `(tactic| walk_at "fld") => `(tactic| repeat (first
  | (with_reducible refine r_seq_rt ?_)
  | (with_reducible refine r_seq_bk ?_)
  | (with_reducible refine r_seq_ct ?_)
  | (with_reducible refine r_seq_ex ?_)
  | (with_reducible refine r_loop_nx ?_)
  | (with_reducible refine r_loop_rt ?_)
  | (with_reducible refine r_loop_bk ?_)
  | (with_reducible refine r_loop_ct ?_)
  | (with_reducible refine r_loop_ex ?_)
  | (with_reducible refine r_fn_nx ?_)
  | (with_reducible refine r_fn_rt ?_)
  | (with_reducible refine r_fn_ex ?_)
  | (with_reducible refine r_owp_if ?_)
  | (with_reducible refine r_owp_ret ?_)
  | (with_reducible refine r_owp_expr ?_)
  | (with_reducible refine r_owp_skip ?_)
  | (with_reducible refine r_owp_brk ?_)
  | (with_reducible refine r_owp_cnt ?_)
  | (with_reducible refine r_owp_setIx ?_)
  | (with_reducible refine r_owp_setF ?_)
  | (with_reducible refine r_owp_for ?_)
  | (with_reducible refine r_owp_nx ?_)
  | (with_reducible refine r_owp_rt ?_)
  | (with_reducible refine r_owp_out ?_)
  | (with_reducible refine r_wp_bin ?_)
  | (with_reducible refine r_wp_un ?_)
  | (with_reducible refine r_wp_blt ?_)
  | (with_reducible refine r_wp_cons ?_)
  | (with_reducible refine r_wp_nil ?_)
  | (with_reducible refine r_wp_c ?_)
  | (with_reducible refine r_wp_if ?_)
  | (with_reducible refine q_asB ?_)
  | (with_reducible refine q_tTru ?_)
  | (with_reducible refine r_wp_tAnd ?_)
  | (with_reducible refine r_wp_tOr ?_)
  | (with_reducible refine r_wp_tNot ?_)
  | (with_reducible refine r_wp_tYes ?_)
  | (with_reducible refine q_eAnd ?_)
  | (with_reducible refine q_eOr ?_)
  | (with_reducible refine q_eNot ?_)
  | (with_reducible refine q_chain ?_)
  | (with_reducible refine r_wp_call ?_)
  | (with_reducible refine r_wp_mt ?_)
  | (with_reducible refine q_meth ?_)
  | (with_reducible refine q_make ?_)
  | (with_reducible refine q_fmt ?_)
  | (with_reducible refine r_wp_joinN ?_)
  | (with_reducible refine q_join ?_)
  | (with_reducible refine r_wp_partN ?_)
  | (with_reducible refine q_part ?_)
  | (with_reducible refine r_wp_sl ?_)
  | (with_reducible refine q_iS ?_)
  | (with_reducible refine q_iR1 ?_)
  | (with_reducible refine q_iR2 ?_)
  | (with_reducible refine q_iEn ?_)
  | (with_reducible refine r_onBl ?_)
  | (with_reducible refine r_onInt ?_)
  | (with_reducible refine r_onStr ?_)
  | (with_reducible refine r_onNon ?_)
  | (with_reducible refine r_itT ?_)
  | (with_reducible refine r_itS ?_)
  | (with_reducible refine r_wp_bind ?_)
  | (with_reducible refine r_wp_ofO ?_)
  | (with_reducible refine r_wp_ok ?_)
  | (with_reducible refine r_wo_some ?_)
  | (with_reducible refine w_addI ?_)
  | (with_reducible refine w_sub ?_)
  | (with_reducible refine w_lt ?_)
  | (with_reducible refine w_le ?_)
  | (with_reducible refine w_gt ?_)
  | (with_reducible refine w_ge ?_)
  | (with_reducible refine w_is ?_)
  | (with_reducible refine w_isNot ?_)
  | (with_reducible refine w_lenT ?_)
  | (with_reducible refine w_intI ?_)
  | (with_reducible refine w_strS ?_)
  | (with_reducible refine w_abs ?_)
  | (with_reducible refine w_eqI ?_)
  | (with_reducible refine w_neI ?_)
  | (with_reducible refine w_eqB ?_)
  | (with_reducible refine w_neB ?_)
  | (with_reducible refine w_neg ?_)
  | ((with_reducible refine r_owp_asg ?_); (try dsimp only [List.set]))
  | ((with_reducible refine r_owp_par ?_); (try dsimp only [List.set]))
  | (with_reducible refine r_var (by with_unfolding_all rfl) ?_)
  | (with_reducible refine w_ixL (by assumption) (by with_unfolding_all rfl) ?_)
  | (with_reducible refine w_ixT (by with_unfolding_all rfl) ?_)
  | (with_reducible refine w_lenL (by assumption) ?_)
  | (with_reducible refine w_fld (by assumption) (by with_unfolding_all rfl) (by with_unfolding_all rfl) ?_)
  | (with_reducible refine w_tupleL (by assumption) ?_)
  | (with_reducible refine w_mod (by omega) ?_)
  | (with_reducible refine w_div (by omega) (by omega) ?_)
  | (with_reducible refine w_mul (by omega) ?_)
  | (with_reducible refine w_isiT (by with_unfolding_all rfl) (by decide +kernel) (by with_unfolding_all (intro r h; cases h)) ?_)
  | (with_reducible refine w_isiRT (by assumption) (by with_unfolding_all rfl) (by with_unfolding_all rfl) (by decide +kernel) ?_)
  | (with_reducible refine w_isiCT (by assumption) (by with_unfolding_all rfl) (by with_unfolding_all rfl) (by decide +kernel) ?_)
  | (with_reducible refine w_isiF (by with_unfolding_all rfl) (by decide +kernel) (by with_unfolding_all (intro r h; cases h)) ?_)
  | (with_reducible refine w_isiRF (by assumption) (by with_unfolding_all rfl) (by with_unfolding_all rfl) (by decide +kernel) ?_)
  | (with_reducible refine w_isiCF (by assumption) (by with_unfolding_all rfl) (by with_unfolding_all rfl) (by decide +kernel) ?_)
  | (with_reducible refine r_both (by omega) ?_)
  | (with_reducible refine r_onLst (by assumption) ?_)
  | (with_reducible refine r_itL (by assumption) ?_)
  | (with_reducible refine r_onObj (by assumption) (by with_unfolding_all rfl) ?_)
  | (with_reducible refine r_tT (by first | decide | assumption | (exact tyOk_list (by assumption)) | (exact tyOk_str) | (exact r_decT (by assumption)) | (exact r_decT (by omega)) | (exact r_notT (by assumption)) | (exact r_notT (r_decF (by assumption))) | (exact r_notT (r_decF (by omega))) | omega | (with_unfolding_all rfl) | (simp [isNon]; done) | (simp; omega)) ?_)
  | (with_reducible refine r_tF (by first | decide | assumption | (exact r_decF (by assumption)) | (exact r_decF (by omega)) | (exact r_notF (by assumption)) | (exact r_notF (r_decT (by assumption))) | (exact r_notF (r_decT (by omega))) | omega | (exact r_notF (by with_unfolding_all rfl)) | (simp [isNon]; done) | (simp; omega)) ?_)
  | (with_reducible refine r_bT (by first | decide | assumption | (exact tyOk_list (by assumption)) | (exact tyOk_str) | (exact r_decT (by assumption)) | (exact r_decT (by omega)) | (exact r_notT (by assumption)) | (exact r_notT (r_decF (by assumption))) | (exact r_notT (r_decF (by omega))) | omega | (with_unfolding_all rfl) | (simp [isNon]; done) | (simp; omega)) ?_)
  | (with_reducible refine r_bF (by first | decide | assumption | (exact r_decF (by assumption)) | (exact r_decF (by omega)) | (exact r_notF (by assumption)) | (exact r_notF (r_decT (by assumption))) | (exact r_notF (r_decT (by omega))) | omega | (exact r_notF (by with_unfolding_all rfl)) | (simp [isNon]; done) | (simp; omega)) ?_)
  | (with_reducible refine r_p_iteT (by first | decide | assumption | (exact tyOk_list (by assumption)) | (exact tyOk_str) | (exact r_decT (by assumption)) | (exact r_decT (by omega)) | (exact r_notT (by assumption)) | (exact r_notT (r_decF (by assumption))) | (exact r_notT (r_decF (by omega))) | omega | (with_unfolding_all rfl) | (simp [isNon]; done) | (simp; omega)) ?_)
  | (with_reducible refine r_p_iteF (by first | decide | assumption | (exact r_decF (by assumption)) | (exact r_decF (by omega)) | (exact r_notF (by assumption)) | (exact r_notF (r_decT (by assumption))) | (exact r_notF (r_decT (by omega))) | omega | (exact r_notF (by with_unfolding_all rfl)) | (simp [isNon]; done) | (simp; omega)) ?_)
  | (with_reducible refine r_wp_iteT (by first | decide | assumption | (exact tyOk_list (by assumption)) | (exact tyOk_str) | (exact r_decT (by assumption)) | (exact r_decT (by omega)) | (exact r_notT (by assumption)) | (exact r_notT (r_decF (by assumption))) | (exact r_notT (r_decF (by omega))) | omega | (with_unfolding_all rfl) | (simp [isNon]; done) | (simp; omega)) ?_)
  | (with_reducible refine r_wp_iteF (by first | decide | assumption | (exact r_decF (by assumption)) | (exact r_decF (by omega)) | (exact r_notF (by assumption)) | (exact r_notF (r_decT (by assumption))) | (exact r_notF (r_decT (by omega))) | omega | (exact r_notF (by with_unfolding_all rfl)) | (simp [isNon]; done) | (simp; omega)) ?_)
  | (with_reducible refine r_owp_iteT (by first | decide | assumption | (exact tyOk_list (by assumption)) | (exact tyOk_str) | (exact r_decT (by assumption)) | (exact r_decT (by omega)) | (exact r_notT (by assumption)) | (exact r_notT (r_decF (by assumption))) | (exact r_notT (r_decF (by omega))) | omega | (with_unfolding_all rfl) | (simp [isNon]; done) | (simp; omega)) ?_)
  | (with_reducible refine r_owp_iteF (by first | decide | assumption | (exact r_decF (by assumption)) | (exact r_decF (by omega)) | (exact r_notF (by assumption)) | (exact r_notF (r_decT (by assumption))) | (exact r_notF (r_decT (by omega))) | omega | (exact r_notF (by with_unfolding_all rfl)) | (simp [isNon]; done) | (simp; omega)) ?_)
  ))
local macro_rules | `(tactic| walk_at "fn") => `(tactic| (refine wp_fn rfl ?_; dsimp only [List.map_cons, List.map_nil, List.cons_append, List.nil_append, List.replicate, List.map, Nat.reduceSub]))
/-! ### a text is read -/
def lastD (g : Prg) : List D := [.int g.first, optD g.leader, optD g.lamp, .non]
theorem inF_none {ws : List Str} (h : ∀ w ∈ ws, WOk w) : inF (.str (Str.ofString "")) (ws.map D.str) = false := by
  induction ws with
  | nil => rfl
  | cons w ws ih =>
    simp only [inF, List.map_cons, List.any_cons] at ih ⊢
    rw [ih fun z hz => h z (by simp [hz])]
    have h1 := (h w (by simp)).1
    have : (w == Str.ofString "") = false := by
      apply beq_eq_false_iff_ne.mpr
      intro e
      subst e
      exact absurd h1 (by decide +kernel)
    simp [eqF, this]
theorem flat_map (ws : List Str) : (ws.map D.str).all flatD = true := by
  induction ws with
  | nil => rfl
  | cons w ws ih => simp [flatD]
theorem wok_ok {w : Str} (h : WOk w) : PyData.strOk w = true := by
  simp only [PyData.strOk, Array.all_eq_true']
  intro c hc
  have := h.2 c (Array.mem_toList_iff.mpr hc)
  simp
  omega
theorem num_opt {n : Nat} (h : n < 10) {v : Str} (hv : 2 ≤ v.length) : (numS n == v) = false := by
  apply beq_eq_false_iff_ne.mpr
  intro e
  subst e
  rw [num_len h] at hv
  omega
theorem eqD_strNon {x : Str} (hx : PyData.strOk x = true) {st : Sto} : eqD st (.str x) .non = some false := by
  simp [eqD, deep, SeqAt.shaped, PyData.eqv, PyData.canLay0, PyData.depth, hx]
/-- what the k-th line leaves -/
theorem takes_ok {g : Prg} {C : Nat} (hg : g.Ok C) {i : Nat} {ws : List Str} (hi : (wordsG g)[i]? = some ws) {st : Sto} {o RR LA W : Nat} (hd : Rd st o RR LA ((g.rows.take i).map rowD) ((lastD g).take (i - g.rows.length))) (hW : st[W]? = some (.lst (ws.map D.str))) {X : XP} :
    Wp X (fun x s => x = .bl true ∧ Rd s o RR LA ((g.rows.take (i + 1)).map rowD) ((lastD g).take (i + 1 - g.rows.length)) ∧ Chg [RR, LA] st s) (f_LineReader_takes [.ref o, .ref W] st) := by
  have n1 := hg.n1
  have n5 := hg.n5
  have c4 := hg.c4
  have hf := hg.first
  by_cases hlt : i < g.rows.length
  · have hr : g.rows[i]? = some g.rows[i] := List.getElem?_eq_getElem hlt
    have hws : ws = rowW g.rows[i] := by
      unfold wordsG at hi
      rw [List.getElem?_append_left (by simpa using hlt), List.getElem?_map, hr] at hi
      cases hi
      rfl
    subst hws
    have hro := hg.rowOk (List.getElem_mem hlt)
    rw [show i - g.rows.length = 0 by omega] at hd
    refine (takes_state_ok hro hd (by simp; omega) hW).mono ?_
    rintro _ s ⟨rfl, h2, k⟩
    rw [show i + 1 - g.rows.length = 0 by omega]
    refine ⟨rfl, ?_, k.wide (by simp)⟩
    rw [List.take_succ_eq_append_getElem hlt, List.map_append]
    exact h2
  · obtain ⟨k, hk⟩ : ∃ k, i = g.rows.length + k := ⟨i - g.rows.length, by omega⟩
    subst hk
    have he : (endW g)[k]? = some ws := by
      unfold wordsG at hi
      rw [List.getElem?_append_right (by simp)] at hi
      simpa using hi
    rw [show g.rows.length + k - g.rows.length = k by omega, List.take_of_length_le (by omega)] at hd
    rw [show g.rows.length + k + 1 - g.rows.length = k + 1 by omega, List.take_of_length_le (by omega)]
    have hrows : 1 ≤ (g.rows.map rowD).length := by simpa using n1
    have hk4 : k < 4 := by
      have := (List.getElem?_eq_some_iff.mp he).1
      simpa [endW] using this
    have : k = 0 ∨ k = 1 ∨ k = 2 ∨ k = 3 := by omega
    rcases this with rfl | rfl | rfl | rfl
    · cases he
      refine (takes_head_ok (dflt := .non) (d := .int g.first) (b := false) (by decide +kernel) (by decide +kernel) (by decide +kernel) (fun _ => by simp only [opGet_OPEN]; rw [if_pos (by decide +kernel)]) (fun _ => eqD_strNon (num_ok (by omega))) (by simp) (fun _ => ⟨g.first, by omega, rfl, rfl⟩) (by rfl) (by simp [lastD]) hd hrows hW).mono ?_
      rintro _ s ⟨rfl, h2, k⟩
      exact ⟨rfl, h2, k.wide (by simp)⟩
    · cases he
      have hld := hg.leader
      refine (takes_head_ok (dflt := .str (Str.ofString "none")) (d := optD g.leader) (b := optW (Str.ofString "none") g.leader == Str.ofString "none") (by decide +kernel) (by decide +kernel) (by decide +kernel) (fun _ => by simp only [opGet_OPEN]; rw [if_neg (by decide +kernel), if_pos (by decide +kernel)]) (fun _ => eqD_str (wok_ok (optW_w (by decide +kernel) fun n e => by have := hld n e; omega)) (by decide +kernel)) ?_ ?_ (by rfl) (by simp [lastD]) hd hrows hW).mono ?_
      · intro hb
        rcases hl : g.leader with _ | n
        · rfl
        · rw [hl] at hb
          rw [show optW (Str.ofString "none") (some n) = numS n from rfl, num_opt (by have := hld n hl; omega) (by decide +kernel)] at hb
          cases hb
      · intro hb
        rcases hl : g.leader with _ | n
        · rw [hl] at hb
          exact absurd hb (by decide +kernel)
        · exact ⟨n, by have := hld n hl; omega, rfl, rfl⟩
      · rintro _ s ⟨rfl, h2, k⟩
        exact ⟨rfl, h2, k.wide (by simp)⟩
    · cases he
      have hld := hg.lamp
      refine (takes_head_ok (dflt := .str (Str.ofString "any")) (d := optD g.lamp) (b := optW (Str.ofString "any") g.lamp == Str.ofString "any") (by decide +kernel) (by decide +kernel) (by decide +kernel) (fun _ => by simp only [opGet_OPEN]; rw [if_neg (by decide +kernel), if_neg (by decide +kernel), if_pos (by decide +kernel)]) (fun _ => eqD_str (wok_ok (optW_w (by decide +kernel) fun n e => by have := hld n e; omega)) (by decide +kernel)) ?_ ?_ (by rfl) (by simp [lastD]) hd hrows hW).mono ?_
      · intro hb
        rcases hl : g.lamp with _ | n
        · rfl
        · rw [hl] at hb
          rw [show optW (Str.ofString "any") (some n) = numS n from rfl, num_opt (by have := hld n hl; omega) (by decide +kernel)] at hb
          cases hb
      · intro hb
        rcases hl : g.lamp with _ | n
        · rw [hl] at hb
          exact absurd hb (by decide +kernel)
        · exact ⟨n, by have := hld n hl; omega, rfl, rfl⟩
      · rintro _ s ⟨rfl, h2, k⟩
        exact ⟨rfl, h2, k.wide (by simp)⟩
    · cases he
      refine (takes_end_ok (by simp [lastD]) hd hrows hW).mono ?_
      rintro _ s ⟨rfl, h2, k⟩
      exact ⟨rfl, h2, k.wide (by simp)⟩
end K02

set_option Elab.async false
set_option linter.all false
set_option maxRecDepth 100000
set_option maxHeartbeats 4000000
namespace K02
open PySem PySem.Spec PyProof.Rows L2 LF
local macro_rules | `(tactic| walk_at "wp") => `(tactic| repeat (first
  | (with_reducible refine r_seq_nx ?_)
  | (with_reducible refine r_seq_rt ?_)
  | (with_reducible refine r_seq_bk ?_)
  | (with_reducible refine r_seq_ct ?_)
  | (with_reducible refine r_seq_ex ?_)
  | (with_reducible refine r_loop_nx ?_)
  | (with_reducible refine r_loop_rt ?_)
  | (with_reducible refine r_loop_bk ?_)
  | (with_reducible refine r_loop_ct ?_)
  | (with_reducible refine r_loop_ex ?_)
  | (with_reducible refine r_fn_nx ?_)
  | (with_reducible refine r_fn_rt ?_)
  | (with_reducible refine r_fn_ex ?_)
  | (with_reducible refine r_owp_seq ?_)
  | (with_reducible refine r_owp_if ?_)
  | (with_reducible refine r_owp_ret ?_)
  | (with_reducible refine r_owp_expr ?_)
  | (with_reducible refine r_owp_skip ?_)
  | (with_reducible refine r_owp_brk ?_)
  | (with_reducible refine r_owp_cnt ?_)
  | (with_reducible refine r_owp_setIx ?_)
  | (with_reducible refine r_owp_setF ?_)
  | (with_reducible refine r_owp_for ?_)
  | (with_reducible refine r_owp_nx ?_)
  | (with_reducible refine r_owp_rt ?_)
  | (with_reducible refine r_owp_out ?_)
  | (with_reducible refine r_wp_bin ?_)
  | (with_reducible refine r_wp_un ?_)
  | (with_reducible refine r_wp_blt ?_)
  | (with_reducible refine r_wp_cons ?_)
  | (with_reducible refine r_wp_nil ?_)
  | (with_reducible refine r_wp_c ?_)
  | (with_reducible refine r_wp_if ?_)
  | (with_reducible refine q_asB ?_)
  | (with_reducible refine q_tTru ?_)
  | (with_reducible refine r_wp_tAnd ?_)
  | (with_reducible refine r_wp_tOr ?_)
  | (with_reducible refine r_wp_tNot ?_)
  | (with_reducible refine r_wp_tYes ?_)
  | (with_reducible refine q_eAnd ?_)
  | (with_reducible refine q_eOr ?_)
  | (with_reducible refine q_eNot ?_)
  | (with_reducible refine q_chain ?_)
  | (with_reducible refine r_wp_call ?_)
  | (with_reducible refine r_wp_mt ?_)
  | (with_reducible refine q_meth ?_)
  | (with_reducible refine q_make ?_)
  | (with_reducible refine q_fmt ?_)
  | (with_reducible refine r_wp_joinN ?_)
  | (with_reducible refine q_join ?_)
  | (with_reducible refine r_wp_partN ?_)
  | (with_reducible refine q_part ?_)
  | (with_reducible refine r_wp_sl ?_)
  | (with_reducible refine q_iS ?_)
  | (with_reducible refine q_iR1 ?_)
  | (with_reducible refine q_iR2 ?_)
  | (with_reducible refine q_iEn ?_)
  | (with_reducible refine r_onBl ?_)
  | (with_reducible refine r_onInt ?_)
  | (with_reducible refine r_onStr ?_)
  | (with_reducible refine r_onNon ?_)
  | (with_reducible refine r_itT ?_)
  | (with_reducible refine r_itS ?_)
  | (with_reducible refine r_wp_bind ?_)
  | (with_reducible refine r_wp_ofO ?_)
  | (with_reducible refine r_wp_ok ?_)
  | (with_reducible refine r_wo_some ?_)
  | (with_reducible refine w_addI ?_)
  | (with_reducible refine w_sub ?_)
  | (with_reducible refine w_lt ?_)
  | (with_reducible refine w_le ?_)
  | (with_reducible refine w_gt ?_)
  | (with_reducible refine w_ge ?_)
  | (with_reducible refine w_is ?_)
  | (with_reducible refine w_isNot ?_)
  | (with_reducible refine w_lenT ?_)
  | (with_reducible refine w_intI ?_)
  | (with_reducible refine w_strS ?_)
  | (with_reducible refine w_abs ?_)
  | (with_reducible refine w_eqI ?_)
  | (with_reducible refine w_neI ?_)
  | (with_reducible refine w_eqB ?_)
  | (with_reducible refine w_neB ?_)
  | (with_reducible refine w_neg ?_)
  | ((with_reducible refine r_owp_asg ?_); (try dsimp only [List.set]))
  | ((with_reducible refine r_owp_par ?_); (try dsimp only [List.set]))
  | (with_reducible refine r_var (by with_unfolding_all rfl) ?_)
  | (with_reducible refine w_ixL (by assumption) (by with_unfolding_all rfl) ?_)
  | (with_reducible refine w_ixT (by with_unfolding_all rfl) ?_)
  | (with_reducible refine w_lenL (by assumption) ?_)
  | (with_reducible refine w_fld (by assumption) (by with_unfolding_all rfl) (by with_unfolding_all rfl) ?_)
  | (with_reducible refine w_tupleL (by assumption) ?_)
  | (with_reducible refine w_mod (by omega) ?_)
  | (with_reducible refine w_div (by omega) (by omega) ?_)
  | (with_reducible refine w_mul (by omega) ?_)
  | (with_reducible refine w_isiT (by with_unfolding_all rfl) (by decide +kernel) (by with_unfolding_all (intro r h; cases h)) ?_)
  | (with_reducible refine w_isiRT (by assumption) (by with_unfolding_all rfl) (by with_unfolding_all rfl) (by decide +kernel) ?_)
  | (with_reducible refine w_isiCT (by assumption) (by with_unfolding_all rfl) (by with_unfolding_all rfl) (by decide +kernel) ?_)
  | (with_reducible refine w_isiF (by with_unfolding_all rfl) (by decide +kernel) (by with_unfolding_all (intro r h; cases h)) ?_)
  | (with_reducible refine w_isiRF (by assumption) (by with_unfolding_all rfl) (by with_unfolding_all rfl) (by decide +kernel) ?_)
  | (with_reducible refine w_isiCF (by assumption) (by with_unfolding_all rfl) (by with_unfolding_all rfl) (by decide +kernel) ?_)
  | (with_reducible refine r_both (by omega) ?_)
  | (with_reducible refine r_onLst (by assumption) ?_)
  | (with_reducible refine r_itL (by assumption) ?_)
  | (with_reducible refine r_onObj (by assumption) (by with_unfolding_all rfl) ?_)
  | (with_reducible refine r_tT (by first | decide | assumption | (exact tyOk_list (by assumption)) | (exact tyOk_str) | (exact r_decT (by assumption)) | (exact r_decT (by omega)) | (exact r_notT (by assumption)) | (exact r_notT (r_decF (by assumption))) | (exact r_notT (r_decF (by omega))) | omega | (with_unfolding_all rfl) | (simp [isNon]; done) | (simp; omega)) ?_)
  | (with_reducible refine r_tF (by first | decide | assumption | (exact r_decF (by assumption)) | (exact r_decF (by omega)) | (exact r_notF (by assumption)) | (exact r_notF (r_decT (by assumption))) | (exact r_notF (r_decT (by omega))) | omega | (exact r_notF (by with_unfolding_all rfl)) | (simp [isNon]; done) | (simp; omega)) ?_)
  | (with_reducible refine r_bT (by first | decide | assumption | (exact tyOk_list (by assumption)) | (exact tyOk_str) | (exact r_decT (by assumption)) | (exact r_decT (by omega)) | (exact r_notT (by assumption)) | (exact r_notT (r_decF (by assumption))) | (exact r_notT (r_decF (by omega))) | omega | (with_unfolding_all rfl) | (simp [isNon]; done) | (simp; omega)) ?_)
  | (with_reducible refine r_bF (by first | decide | assumption | (exact r_decF (by assumption)) | (exact r_decF (by omega)) | (exact r_notF (by assumption)) | (exact r_notF (r_decT (by assumption))) | (exact r_notF (r_decT (by omega))) | omega | (exact r_notF (by with_unfolding_all rfl)) | (simp [isNon]; done) | (simp; omega)) ?_)
  | (with_reducible refine r_p_iteT (by first | decide | assumption | (exact tyOk_list (by assumption)) | (exact tyOk_str) | (exact r_decT (by assumption)) | (exact r_decT (by omega)) | (exact r_notT (by assumption)) | (exact r_notT (r_decF (by assumption))) | (exact r_notT (r_decF (by omega))) | omega | (with_unfolding_all rfl) | (simp [isNon]; done) | (simp; omega)) ?_)
  | (with_reducible refine r_p_iteF (by first | decide | assumption | (exact r_decF (by assumption)) | (exact r_decF (by omega)) | (exact r_notF (by assumption)) | (exact r_notF (r_decT (by assumption))) | (exact r_notF (r_decT (by omega))) | omega | (exact r_notF (by with_unfolding_all rfl)) | (simp [isNon]; done) | (simp; omega)) ?_)
  | (with_reducible refine r_wp_iteT (by first | decide | assumption | (exact tyOk_list (by assumption)) | (exact tyOk_str) | (exact r_decT (by assumption)) | (exact r_decT (by omega)) | (exact r_notT (by assumption)) | (exact r_notT (r_decF (by assumption))) | (exact r_notT (r_decF (by omega))) | omega | (with_unfolding_all rfl) | (simp [isNon]; done) | (simp; omega)) ?_)
  | (with_reducible refine r_wp_iteF (by first | decide | assumption | (exact r_decF (by assumption)) | (exact r_decF (by omega)) | (exact r_notF (by assumption)) | (exact r_notF (r_decT (by assumption))) | (exact r_notF (r_decT (by omega))) | omega | (exact r_notF (by with_unfolding_all rfl)) | (simp [isNon]; done) | (simp; omega)) ?_)
  | (with_reducible refine r_owp_iteT (by first | decide | assumption | (exact tyOk_list (by assumption)) | (exact tyOk_str) | (exact r_decT (by assumption)) | (exact r_decT (by omega)) | (exact r_notT (by assumption)) | (exact r_notT (r_decF (by assumption))) | (exact r_notT (r_decF (by omega))) | omega | (with_unfolding_all rfl) | (simp [isNon]; done) | (simp; omega)) ?_)
  | (with_reducible refine r_owp_iteF (by first | decide | assumption | (exact r_decF (by assumption)) | (exact r_decF (by omega)) | (exact r_notF (by assumption)) | (exact r_notF (r_decT (by assumption))) | (exact r_notF (r_decT (by omega))) | omega | (exact r_notF (by with_unfolding_all rfl)) | (simp [isNon]; done) | (simp; omega)) ?_)
  ))
local macro_rules | `(tactic| walk_at "fld") => `(tactic| repeat (first
  | (with_reducible refine r_seq_rt ?_)
  | (with_reducible refine r_seq_bk ?_)
  | (with_reducible refine r_seq_ct ?_)
  | (with_reducible refine r_seq_ex ?_)
  | (with_reducible refine r_loop_nx ?_)
  | (with_reducible refine r_loop_rt ?_)
  | (with_reducible refine r_loop_bk ?_)
  | (with_reducible refine r_loop_ct ?_)
  | (with_reducible refine r_loop_ex ?_)
  | (with_reducible refine r_fn_nx ?_)
  | (with_reducible refine r_fn_rt ?_)
  | (with_reducible refine r_fn_ex ?_)
  | (with_reducible refine r_owp_if ?_)
  | (with_reducible refine r_owp_ret ?_)
  | (with_reducible refine r_owp_expr ?_)
  | (with_reducible refine r_owp_skip ?_)
  | (with_reducible refine r_owp_brk ?_)
  | (with_reducible refine r_owp_cnt ?_)
  | (with_reducible refine r_owp_setIx ?_)
  | (with_reducible refine r_owp_setF ?_)
  | (with_reducible refine r_owp_for ?_)
  | (with_reducible refine r_owp_nx ?_)
  | (with_reducible refine r_owp_rt ?_)
  | (with_reducible refine r_owp_out ?_)
  | (with_reducible refine r_wp_bin ?_)
  | (with_reducible refine r_wp_un ?_)
  | (with_reducible refine r_wp_blt ?_)
  | (with_reducible refine r_wp_cons ?_)
  | (with_reducible refine r_wp_nil ?_)
  | (with_reducible refine r_wp_c ?_)
  | (with_reducible refine r_wp_if ?_)
  | (with_reducible refine q_asB ?_)
  | (with_reducible refine q_tTru ?_)
  | (with_reducible refine r_wp_tAnd ?_)
  | (with_reducible refine r_wp_tOr ?_)
  | (with_reducible refine r_wp_tNot ?_)
  | (with_reducible refine r_wp_tYes ?_)
  | (with_reducible refine q_eAnd ?_)
  | (with_reducible refine q_eOr ?_)
  | (with_reducible refine q_eNot ?_)
  | (with_reducible refine q_chain ?_)
  | (with_reducible refine r_wp_call ?_)
  | (with_reducible refine r_wp_mt ?_)
  | (with_reducible refine q_meth ?_)
  | (with_reducible refine q_make ?_)
  | (with_reducible refine q_fmt ?_)
  | (with_reducible refine r_wp_joinN ?_)
  | (with_reducible refine q_join ?_)
  | (with_reducible refine r_wp_partN ?_)
  | (with_reducible refine q_part ?_)
  | (with_reducible refine r_wp_sl ?_)
  | (with_reducible refine q_iS ?_)
  | (with_reducible refine q_iR1 ?_)
  | (with_reducible refine q_iR2 ?_)
  | (with_reducible refine q_iEn ?_)
  | (with_reducible refine r_onBl ?_)
  | (with_reducible refine r_onInt ?_)
  | (with_reducible refine r_onStr ?_)
  | (with_reducible refine r_onNon ?_)
  | (with_reducible refine r_itT ?_)
  | (with_reducible refine r_itS ?_)
  | (with_reducible refine r_wp_bind ?_)
  | (with_reducible refine r_wp_ofO ?_)
  | (with_reducible refine r_wp_ok ?_)
  | (with_reducible refine r_wo_some ?_)
  | (with_reducible refine w_addI ?_)
  | (with_reducible refine w_sub ?_)
  | (with_reducible refine w_lt ?_)
  | (with_reducible refine w_le ?_)
  | (with_reducible refine w_gt ?_)
  | (with_reducible refine w_ge ?_)
  | (with_reducible refine w_is ?_)
  | (with_reducible refine w_isNot ?_)
  | (with_reducible refine w_lenT ?_)
  | (with_reducible refine w_intI ?_)
  | (with_reducible refine w_strS ?_)
  | (with_reducible refine w_abs ?_)
  | (with_reducible refine w_eqI ?_)
  | (with_reducible refine w_neI ?_)
  | (with_reducible refine w_eqB ?_)
  | (with_reducible refine w_neB ?_)
  | (with_reducible refine w_neg ?_)
  | ((with_reducible refine r_owp_asg ?_); (try dsimp only [List.set]))
  | ((with_reducible refine r_owp_par ?_); (try dsimp only [List.set]))
  | (with_reducible refine r_var (by with_unfolding_all rfl) ?_)
  | (with_reducible refine w_ixL (by assumption) (by with_unfolding_all rfl) ?_)
  | (with_reducible refine w_ixT (by with_unfolding_all rfl) ?_)
  | (with_reducible refine w_lenL (by assumption) ?_)
  | (with_reducible refine w_fld (by assumption) (by with_unfolding_all rfl) (by with_unfolding_all rfl) ?_)
  | (with_reducible refine w_tupleL (by assumption) ?_)
  | (with_reducible refine w_mod (by omega) ?_)
  | (with_reducible refine w_div (by omega) (by omega) ?_)
  | (with_reducible refine w_mul (by omega) ?_)
  | (with_reducible refine w_isiT (by with_unfolding_all rfl) (by decide +kernel) (by with_unfolding_all (intro r h; cases h)) ?_)
  | (with_reducible refine w_isiRT (by assumption) (by with_unfolding_all rfl) (by with_unfolding_all rfl) (by decide +kernel) ?_)
  | (with_reducible refine w_isiCT (by assumption) (by with_unfolding_all rfl) (by with_unfolding_all rfl) (by decide +kernel) ?_)
  | (with_reducible refine w_isiF (by with_unfolding_all rfl) (by decide +kernel) (by with_unfolding_all (intro r h; cases h)) ?_)
  | (with_reducible refine w_isiRF (by assumption) (by with_unfolding_all rfl) (by with_unfolding_all rfl) (by decide +kernel) ?_)
  | (with_reducible refine w_isiCF (by assumption) (by with_unfolding_all rfl) (by with_unfolding_all rfl) (by decide +kernel) ?_)
  | (with_reducible refine r_both (by omega) ?_)
  | (with_reducible refine r_onLst (by assumption) ?_)
  | (with_reducible refine r_itL (by assumption) ?_)
  | (with_reducible refine r_onObj (by assumption) (by with_unfolding_all rfl) ?_)
  | (with_reducible refine r_tT (by first | decide | assumption | (exact tyOk_list (by assumption)) | (exact tyOk_str) | (exact r_decT (by assumption)) | (exact r_decT (by omega)) | (exact r_notT (by assumption)) | (exact r_notT (r_decF (by assumption))) | (exact r_notT (r_decF (by omega))) | omega | (with_unfolding_all rfl) | (simp [isNon]; done) | (simp; omega)) ?_)
  | (with_reducible refine r_tF (by first | decide | assumption | (exact r_decF (by assumption)) | (exact r_decF (by omega)) | (exact r_notF (by assumption)) | (exact r_notF (r_decT (by assumption))) | (exact r_notF (r_decT (by omega))) | omega | (exact r_notF (by with_unfolding_all rfl)) | (simp [isNon]; done) | (simp; omega)) ?_)
  | (with_reducible refine r_bT (by first | decide | assumption | (exact tyOk_list (by assumption)) | (exact tyOk_str) | (exact r_decT (by assumption)) | (exact r_decT (by omega)) | (exact r_notT (by assumption)) | (exact r_notT (r_decF (by assumption))) | (exact r_notT (r_decF (by omega))) | omega | (with_unfolding_all rfl) | (simp [isNon]; done) | (simp; omega)) ?_)
  | (with_reducible refine r_bF (by first | decide | assumption | (exact r_decF (by assumption)) | (exact r_decF (by omega)) | (exact r_notF (by assumption)) | (exact r_notF (r_decT (by assumption))) | (exact r_notF (r_decT (by omega))) | omega | (exact r_notF (by with_unfolding_all rfl)) | (simp [isNon]; done) | (simp; omega)) ?_)
  | (with_reducible refine r_p_iteT (by first | decide | assumption | (exact tyOk_list (by assumption)) | (exact tyOk_str) | (exact r_decT (by assumption)) | (exact r_decT (by omega)) | (exact r_notT (by assumption)) | (exact r_notT (r_decF (by assumption))) | (exact r_notT (r_decF (by omega))) | omega | (with_unfolding_all rfl) | (simp [isNon]; done) | (simp; omega)) ?_)
  | (with_reducible refine r_p_iteF (by first | decide | assumption | (exact r_decF (by assumption)) | (exact r_decF (by omega)) | (exact r_notF (by assumption)) | (exact r_notF (r_decT (by assumption))) | (exact r_notF (r_decT (by omega))) | omega | (exact r_notF (by with_unfolding_all rfl)) | (simp [isNon]; done) | (simp; omega)) ?_)
  | (with_reducible refine r_wp_iteT (by first | decide | assumption | (exact tyOk_list (by assumption)) | (exact tyOk_str) | (exact r_decT (by assumption)) | (exact r_decT (by omega)) | (exact r_notT (by assumption)) | (exact r_notT (r_decF (by assumption))) | (exact r_notT (r_decF (by omega))) | omega | (with_unfolding_all rfl) | (simp [isNon]; done) | (simp; omega)) ?_)
  | (with_reducible refine r_wp_iteF (by first | decide | assumption | (exact r_decF (by assumption)) | (exact r_decF (by omega)) | (exact r_notF (by assumption)) | (exact r_notF (r_decT (by assumption))) | (exact r_notF (r_decT (by omega))) | omega | (exact r_notF (by with_unfolding_all rfl)) | (simp [isNon]; done) | (simp; omega)) ?_)
  | (with_reducible refine r_owp_iteT (by first | decide | assumption | (exact tyOk_list (by assumption)) | (exact tyOk_str) | (exact r_decT (by assumption)) | (exact r_decT (by omega)) | (exact r_notT (by assumption)) | (exact r_notT (r_decF (by assumption))) | (exact r_notT (r_decF (by omega))) | omega | (with_unfolding_all rfl) | (simp [isNon]; done) | (simp; omega)) ?_)
  | (with_reducible refine r_owp_iteF (by first | decide | assumption | (exact r_decF (by assumption)) | (exact r_decF (by omega)) | (exact r_notF (by assumption)) | (exact r_notF (r_decT (by assumption))) | (exact r_notF (r_decT (by omega))) | omega | (exact r_notF (by with_unfolding_all rfl)) | (simp [isNon]; done) | (simp; omega)) ?_)
  ))
local macro_rules | `(tactic| walk_at "fn") => `(tactic| (refine wp_fn rfl ?_; dsimp only [List.map_cons, List.map_nil, List.cons_append, List.nil_append, List.replicate, List.map, Nat.reduceSub]))
/-! ### read_program -/
theorem enum_get {ds : List D} {i : Nat} {d : D} (h : (enumI ds)[i]? = some d) : ∃ x, ds[i]? = some x ∧ d = .tup [.int (i : Int), x] := by
  unfold enumI at h
  rw [List.getElem?_map, List.getElem?_zipIdx] at h
  rcases hx : ds[i]? with _ | x
  · rw [hx] at h; cases h
  · rw [hx] at h
    simp at h
    exact ⟨x, rfl, h.symm⟩
theorem enum_len {ds : List D} : (enumI ds).length = ds.length := by simp [enumI]
theorem words_len {g : Prg} : (wordsG g).length = g.rows.length + 4 := by simp [wordsG, endW]
theorem read_program_ok {g : Prg} {C : Nat} (hg : g.Ok C) {st : Sto} {X : XP} :
    Wp X (fun d s => ∃ o, d = .ref o ∧ s[o]? = some (.ins 4 (prgF g)) ∧ Chg [] st s) (f_read_program [.str (textG g)] st) := by
  have n1 := hg.n1
  have n5 := hg.n5
  have htl := textG_len hg
  walk_at "fn"
  unfold b_read_program
  walk_at "wp"
  refine w_split (by decide +kernel) (by simp only [LIM]; omega) fun L s1 hL hLn k1 => ?_
  rw [show Str.ofString "\n" = nl from rfl, split_text hg] at hL
  walk_at "wp"
  refine (Reader_init_ok (o := s1.length) (by simp)).mono ?_
  rintro _ s2 ⟨rfl, ⟨RR, LA, hd, hRn, hAn⟩, k2⟩
  have k2' : Chg [] s1 s2 := (Chg.app).new (by simp) k2
  have hL2 := k2'.get0 hL
  have hRn1 : s1[RR]? = none := by
    rcases h : s1[RR]? with _ | c
    · rfl
    · rw [(Chg.app (P := [])).get0 h] at hRn; cases hRn
  have hAn1 : s1[LA]? = none := by
    rcases h : s1[LA]? with _ | c
    · rfl
    · rw [(Chg.app (P := [])).get0 h] at hAn; cases hAn
  have hRn0 : st[RR]? = none := by
    rcases h : st[RR]? with _ | c
    · rfl
    · rw [k1.get0 h] at hRn1; cases hRn1
  have hAn0 : st[LA]? = none := by
    rcases h : st[LA]? with _ | c
    · rfl
    · rw [k1.get0 h] at hAn1; cases hAn1
  have hLR : L ≠ RR := fun e => by rw [e, hRn1] at hL; cases hL
  have hLA : L ≠ LA := fun e => by rw [e, hAn1] at hL; cases hL
  walk_at "wp"
  refine owp_forS (fun i e s => ∃ x3 x4 x5, e = [some (.str (textG g)), some (.ref L), some (.ref s1.length), x3, x4, x5, none, none, none] ∧ Rd s s1.length RR LA ((g.rows.take i).map rowD) ((lastD g).take (i - g.rows.length)) ∧ Chg [] st s ∧ s[L]? = some (.lst ((linesG g ++ [Str.empty]).map D.str))) ?_ ?_ ⟨_, _, _, rfl, by simpa using hd, k1.trans k2', hL2⟩
  · rintro i d e s hde ⟨x3, x4, x5, rfl, hds, ks, hLs⟩
    obtain ⟨x, hx, rfl⟩ := enum_get hde
    rw [List.getElem?_map] at hx
    obtain ⟨l, hl, rfl⟩ := Option.map_eq_some_iff.mp hx
    refine ⟨okB_some hLs, [some (.str (textG g)), some (.ref L), some (.ref s1.length), some (.int i), some (.str l), x5, none, none, none], by simp [Tg.sem, Tg.sems, seqOf], ?_⟩
    have hlen : ((linesG g ++ [Str.empty]).map D.str).length = g.rows.length + 5 := by
      rw [List.length_map, List.length_append, lines_words, List.length_map, words_len]
      rfl
    by_cases hlast : i = g.rows.length + 4
    · subst hlast
      have hl0 : l = Str.ofString "" := by
        rw [List.getElem?_append_right (by rw [lines_words, List.length_map, words_len]; exact Nat.le_refl _), lines_words, List.length_map, words_len] at hl
        simp at hl
        exact hl.symm
      subst hl0
      walk_at "wp"
      refine w_split (by decide +kernel) (by decide +kernel) fun V s3 hV hVn k3 => ?_
      have hLs3 := k3.get0 hLs
      walk_at "wp"
      rw [hlen]
      refine r_owp_iteT (by simp only [beq_iff_eq]; omega) ?_
      walk_at "wp"
      refine w_neS ok_empty ok_empty ?_
      rw [show (Str.ofString "" == Str.ofString "") = true by decide +kernel]
      walk_at "wp"
      refine ⟨_, _, _, rfl, ?_, ks.trans k3, hLs3⟩
      have h2 := hds.keep k3
      rw [List.take_of_length_le (by omega)] at h2 ⊢
      rw [show g.rows.length + 4 - g.rows.length = 4 by omega] at h2
      rw [show g.rows.length + 4 + 1 - g.rows.length = 5 by omega]
      exact h2
    · have hi5 : i < g.rows.length + 5 := by
        have := (List.getElem?_eq_some_iff.mp hl).1
        rw [List.length_append, lines_words, List.length_map, words_len] at this
        simpa using this
      have hi4 : i < (wordsG g).length := by rw [words_len]; omega
      rw [List.getElem?_append_left (by rw [lines_words, List.length_map]; exact hi4), lines_words, List.getElem?_map] at hl
      obtain ⟨ws, hws, rfl⟩ := Option.map_eq_some_iff.mp hl
      have hwm := List.mem_of_getElem? hws
      obtain ⟨w1, w2, w3⟩ := wordsG_w hg ws hwm
      have hll : (Txt.join sp ws).length ≤ 200 := (linesG_len hg).2 _ (by rw [lines_words]; exact List.mem_map.mpr ⟨ws, hwm, rfl⟩)
      walk_at "wp"
      refine w_split (by decide +kernel) (by simp only [LIM]; omega) fun V s3 hV hVn k3 => ?_
      rw [show Str.ofString " " = sp from rfl, split_words w1 w3] at hV
      have hLs3 := k3.get0 hLs
      walk_at "wp"
      rw [hlen]
      refine r_owp_iteF (by simp only [beq_iff_eq]; omega) ?_
      walk_at "wp"
      refine w_inL hV (flat_map ws) ?_
      rw [show (if false = true then !inF (.str (Str.ofString "")) (ws.map D.str) else inF (.str (Str.ofString "")) (ws.map D.str)) = false by rw [if_neg (by decide)]; exact inF_none w3]
      have hd3 := hds.keep k3
      have hob := hd3.obj
      walk_at "wp"
      refine (takes_ok hg hws hd3 hV).mono ?_
      rintro _ s4 ⟨rfl, h4, k4⟩
      walk_at "wp"
      refine ⟨_, _, _, rfl, h4, ?_, k4.get (by simp [hLR, hLA]) hLs3⟩
      exact (Chg.refl).new hAn0 (((ks.trans k3).up).new hRn0 k4)
  · rintro e s ⟨x3, x4, x5, rfl, hds, ks, hLs⟩
    rw [enum_len, List.length_map, List.length_append, lines_words, List.length_map, words_len] at hds
    rw [List.take_of_length_le (by omega), show g.rows.length + 4 + [Str.empty].length - g.rows.length = 5 by simp; omega] at hds
    refine ⟨okB_some hLs, ?_⟩
    have hob := hds.obj
    have hla : s[LA]? = some (.lst [.int g.first, optD g.leader, optD g.lamp, .non]) := hds.la
    have hrr := hds.rr
    walk_at "fld"
    refine r_seq_nx ?_
    refine r_owp_seq (r_owp_if ?_)
    walk_at "fld"
    refine r_seq_nx (r_owp_seq (r_owp_asgT ?_))
    walk_at "fld"
    refine w_slL hla fun V s3 hV hVn k3 => ?_
    have hV' : s3[V]? = some (.lst [.int g.first, optD g.leader, optD g.lamp]) := hV
    simp only [Tg.sem, Tg.sems, seqOf, hV', List.length_cons, List.length_nil, if_pos, List.set]
    have hob3 := k3.get0 hob
    have hrr3 := k3.get0 hrr
    walk_at "wp"
    refine (Program_init_ok hg (o := s3.length) (by simp)).mono ?_
    rintro _ s4 ⟨rfl, h4, k4⟩
    walk_at "wp"
    exact ⟨_, rfl, h4, (ks.trans k3).trans ((Chg.app).new (by simp) k4)⟩
end K02

set_option Elab.async false
set_option linter.all false
set_option maxRecDepth 100000
set_option maxHeartbeats 4000000
namespace K02
open PySem PySem.Spec PyProof.Rows L2 LF
local macro_rules | `(tactic| walk_at "wp") => `(tactic| repeat (first
  | (with_reducible refine r_seq_nx ?_)
  | (with_reducible refine r_seq_rt ?_)
  | (with_reducible refine r_seq_bk ?_)
  | (with_reducible refine r_seq_ct ?_)
  | (with_reducible refine r_seq_ex ?_)
  | (with_reducible refine r_loop_nx ?_)
  | (with_reducible refine r_loop_rt ?_)
  | (with_reducible refine r_loop_bk ?_)
  | (with_reducible refine r_loop_ct ?_)
  | (with_reducible refine r_loop_ex ?_)
  | (with_reducible refine r_fn_nx ?_)
  | (with_reducible refine r_fn_rt ?_)
  | (with_reducible refine r_fn_ex ?_)
  | (with_reducible refine r_owp_seq ?_)
  | (with_reducible refine r_owp_if ?_)
  | (with_reducible refine r_owp_ret ?_)
  | (with_reducible refine r_owp_expr ?_)
  | (with_reducible refine r_owp_skip ?_)
  | (with_reducible refine r_owp_brk ?_)
  | (with_reducible refine r_owp_cnt ?_)
  | (with_reducible refine r_owp_setIx ?_)
  | (with_reducible refine r_owp_setF ?_)
  | (with_reducible refine r_owp_for ?_)
  | (with_reducible refine r_owp_nx ?_)
  | (with_reducible refine r_owp_rt ?_)
  | (with_reducible refine r_owp_out ?_)
  | (with_reducible refine r_wp_bin ?_)
  | (with_reducible refine r_wp_un ?_)
  | (with_reducible refine r_wp_blt ?_)
  | (with_reducible refine r_wp_cons ?_)
  | (with_reducible refine r_wp_nil ?_)
  | (with_reducible refine r_wp_c ?_)
  | (with_reducible refine r_wp_if ?_)
  | (with_reducible refine q_asB ?_)
  | (with_reducible refine q_tTru ?_)
  | (with_reducible refine r_wp_tAnd ?_)
  | (with_reducible refine r_wp_tOr ?_)
  | (with_reducible refine r_wp_tNot ?_)
  | (with_reducible refine r_wp_tYes ?_)
  | (with_reducible refine q_eAnd ?_)
  | (with_reducible refine q_eOr ?_)
  | (with_reducible refine q_eNot ?_)
  | (with_reducible refine q_chain ?_)
  | (with_reducible refine r_wp_call ?_)
  | (with_reducible refine r_wp_mt ?_)
  | (with_reducible refine q_meth ?_)
  | (with_reducible refine q_make ?_)
  | (with_reducible refine q_fmt ?_)
  | (with_reducible refine r_wp_joinN ?_)
  | (with_reducible refine q_join ?_)
  | (with_reducible refine r_wp_partN ?_)
  | (with_reducible refine q_part ?_)
  | (with_reducible refine r_wp_sl ?_)
  | (with_reducible refine q_iS ?_)
  | (with_reducible refine q_iR1 ?_)
  | (with_reducible refine q_iR2 ?_)
  | (with_reducible refine q_iEn ?_)
  | (with_reducible refine r_onBl ?_)
  | (with_reducible refine r_onInt ?_)
  | (with_reducible refine r_onStr ?_)
  | (with_reducible refine r_onNon ?_)
  | (with_reducible refine r_itT ?_)
  | (with_reducible refine r_itS ?_)
  | (with_reducible refine r_wp_bind ?_)
  | (with_reducible refine r_wp_ofO ?_)
  | (with_reducible refine r_wp_ok ?_)
  | (with_reducible refine r_wo_some ?_)
  | (with_reducible refine w_addI ?_)
  | (with_reducible refine w_sub ?_)
  | (with_reducible refine w_lt ?_)
  | (with_reducible refine w_le ?_)
  | (with_reducible refine w_gt ?_)
  | (with_reducible refine w_ge ?_)
  | (with_reducible refine w_is ?_)
  | (with_reducible refine w_isNot ?_)
  | (with_reducible refine w_lenT ?_)
  | (with_reducible refine w_intI ?_)
  | (with_reducible refine w_strS ?_)
  | (with_reducible refine w_abs ?_)
  | (with_reducible refine w_eqI ?_)
  | (with_reducible refine w_neI ?_)
  | (with_reducible refine w_eqB ?_)
  | (with_reducible refine w_neB ?_)
  | (with_reducible refine w_neg ?_)
  | ((with_reducible refine r_owp_asg ?_); (try dsimp only [List.set]))
  | ((with_reducible refine r_owp_par ?_); (try dsimp only [List.set]))
  | (with_reducible refine r_var (by with_unfolding_all rfl) ?_)
  | (with_reducible refine w_ixL (by assumption) (by with_unfolding_all rfl) ?_)
  | (with_reducible refine w_ixT (by with_unfolding_all rfl) ?_)
  | (with_reducible refine w_lenL (by assumption) ?_)
  | (with_reducible refine w_fld (by assumption) (by with_unfolding_all rfl) (by with_unfolding_all rfl) ?_)
  | (with_reducible refine w_tupleL (by assumption) ?_)
  | (with_reducible refine w_mod (by omega) ?_)
  | (with_reducible refine w_div (by omega) (by omega) ?_)
  | (with_reducible refine w_mul (by omega) ?_)
  | (with_reducible refine w_isiT (by with_unfolding_all rfl) (by decide +kernel) (by with_unfolding_all (intro r h; cases h)) ?_)
  | (with_reducible refine w_isiRT (by assumption) (by with_unfolding_all rfl) (by with_unfolding_all rfl) (by decide +kernel) ?_)
  | (with_reducible refine w_isiCT (by assumption) (by with_unfolding_all rfl) (by with_unfolding_all rfl) (by decide +kernel) ?_)
  | (with_reducible refine w_isiF (by with_unfolding_all rfl) (by decide +kernel) (by with_unfolding_all (intro r h; cases h)) ?_)
  | (with_reducible refine w_isiRF (by assumption) (by with_unfolding_all rfl) (by with_unfolding_all rfl) (by decide +kernel) ?_)
  | (with_reducible refine w_isiCF (by assumption) (by with_unfolding_all rfl) (by with_unfolding_all rfl) (by decide +kernel) ?_)
  | (with_reducible refine r_both (by omega) ?_)
  | (with_reducible refine r_onLst (by assumption) ?_)
  | (with_reducible refine r_itL (by assumption) ?_)
  | (with_reducible refine r_onObj (by assumption) (by with_unfolding_all rfl) ?_)
  | (with_reducible refine r_tT (by first | decide | assumption | (exact tyOk_list (by assumption)) | (exact tyOk_str) | (exact r_decT (by assumption)) | (exact r_decT (by omega)) | (exact r_notT (by assumption)) | (exact r_notT (r_decF (by assumption))) | (exact r_notT (r_decF (by omega))) | omega | (with_unfolding_all rfl) | (simp [isNon]; done) | (simp; omega)) ?_)
  | (with_reducible refine r_tF (by first | decide | assumption | (exact r_decF (by assumption)) | (exact r_decF (by omega)) | (exact r_notF (by assumption)) | (exact r_notF (r_decT (by assumption))) | (exact r_notF (r_decT (by omega))) | omega | (exact r_notF (by with_unfolding_all rfl)) | (simp [isNon]; done) | (simp; omega)) ?_)
  | (with_reducible refine r_bT (by first | decide | assumption | (exact tyOk_list (by assumption)) | (exact tyOk_str) | (exact r_decT (by assumption)) | (exact r_decT (by omega)) | (exact r_notT (by assumption)) | (exact r_notT (r_decF (by assumption))) | (exact r_notT (r_decF (by omega))) | omega | (with_unfolding_all rfl) | (simp [isNon]; done) | (simp; omega)) ?_)
  | (with_reducible refine r_bF (by first | decide | assumption | (exact r_decF (by assumption)) | (exact r_decF (by omega)) | (exact r_notF (by assumption)) | (exact r_notF (r_decT (by assumption))) | (exact r_notF (r_decT (by omega))) | omega | (exact r_notF (by with_unfolding_all rfl)) | (simp [isNon]; done) | (simp; omega)) ?_)
  | (with_reducible refine r_p_iteT (by first | decide | assumption | (exact tyOk_list (by assumption)) | (exact tyOk_str) | (exact r_decT (by assumption)) | (exact r_decT (by omega)) | (exact r_notT (by assumption)) | (exact r_notT (r_decF (by assumption))) | (exact r_notT (r_decF (by omega))) | omega | (with_unfolding_all rfl) | (simp [isNon]; done) | (simp; omega)) ?_)
  | (with_reducible refine r_p_iteF (by first | decide | assumption | (exact r_decF (by assumption)) | (exact r_decF (by omega)) | (exact r_notF (by assumption)) | (exact r_notF (r_decT (by assumption))) | (exact r_notF (r_decT (by omega))) | omega | (exact r_notF (by with_unfolding_all rfl)) | (simp [isNon]; done) | (simp; omega)) ?_)
  | (with_reducible refine r_wp_iteT (by first | decide | assumption | (exact tyOk_list (by assumption)) | (exact tyOk_str) | (exact r_decT (by assumption)) | (exact r_decT (by omega)) | (exact r_notT (by assumption)) | (exact r_notT (r_decF (by assumption))) | (exact r_notT (r_decF (by omega))) | omega | (with_unfolding_all rfl) | (simp [isNon]; done) | (simp; omega)) ?_)
  | (with_reducible refine r_wp_iteF (by first | decide | assumption | (exact r_decF (by assumption)) | (exact r_decF (by omega)) | (exact r_notF (by assumption)) | (exact r_notF (r_decT (by assumption))) | (exact r_notF (r_decT (by omega))) | omega | (exact r_notF (by with_unfolding_all rfl)) | (simp [isNon]; done) | (simp; omega)) ?_)
  | (with_reducible refine r_owp_iteT (by first | decide | assumption | (exact tyOk_list (by assumption)) | (exact tyOk_str) | (exact r_decT (by assumption)) | (exact r_decT (by omega)) | (exact r_notT (by assumption)) | (exact r_notT (r_decF (by assumption))) | (exact r_notT (r_decF (by omega))) | omega | (with_unfolding_all rfl) | (simp [isNon]; done) | (simp; omega)) ?_)
  | (with_reducible refine r_owp_iteF (by first | decide | assumption | (exact r_decF (by assumption)) | (exact r_decF (by omega)) | (exact r_notF (by assumption)) | (exact r_notF (r_decT (by assumption))) | (exact r_notF (r_decT (by omega))) | omega | (exact r_notF (by with_unfolding_all rfl)) | (simp [isNon]; done) | (simp; omega)) ?_)
  ))
local macro_rules | `(tactic| walk_at "fld") => `(tactic| repeat (first
  | (with_reducible refine r_seq_rt ?_)
  | (with_reducible refine r_seq_bk ?_)
  | (with_reducible refine r_seq_ct ?_)
  | (with_reducible refine r_seq_ex ?_)
  | (with_reducible refine r_loop_nx ?_)
  | (with_reducible refine r_loop_rt ?_)
  | (with_reducible refine r_loop_bk ?_)
  | (with_reducible refine r_loop_ct ?_)
  | (with_reducible refine r_loop_ex ?_)
  | (with_reducible refine r_fn_nx ?_)
  | (with_reducible refine r_fn_rt ?_)
  | (with_reducible refine r_fn_ex ?_)
  | (with_reducible refine r_owp_if ?_)
  | (with_reducible refine r_owp_ret ?_)
  | (with_reducible refine r_owp_expr ?_)
  | (with_reducible refine r_owp_skip ?_)
  | (with_reducible refine r_owp_brk ?_)
  | (with_reducible refine r_owp_cnt ?_)
  | (with_reducible refine r_owp_setIx ?_)
  | (with_reducible refine r_owp_setF ?_)
  | (with_reducible refine r_owp_for ?_)
  | (with_reducible refine r_owp_nx ?_)
  | (with_reducible refine r_owp_rt ?_)
  | (with_reducible refine r_owp_out ?_)
  | (with_reducible refine r_wp_bin ?_)
  | (with_reducible refine r_wp_un ?_)
  | (with_reducible refine r_wp_blt ?_)
  | (with_reducible refine r_wp_cons ?_)
  | (with_reducible refine r_wp_nil ?_)
  | (with_reducible refine r_wp_c ?_)
  | (with_reducible refine r_wp_if ?_)
  | (with_reducible refine q_asB ?_)
  | (with_reducible refine q_tTru ?_)
  | (with_reducible refine r_wp_tAnd ?_)
  | (with_reducible refine r_wp_tOr ?_)
  | (with_reducible refine r_wp_tNot ?_)
  | (with_reducible refine r_wp_tYes ?_)
  | (with_reducible refine q_eAnd ?_)
  | (with_reducible refine q_eOr ?_)
  | (with_reducible refine q_eNot ?_)
  | (with_reducible refine q_chain ?_)
  | (with_reducible refine r_wp_call ?_)
  | (with_reducible refine r_wp_mt ?_)
  | (with_reducible refine q_meth ?_)
  | (with_reducible refine q_make ?_)
  | (with_reducible refine q_fmt ?_)
  | (with_reducible refine r_wp_joinN ?_)
  | (with_reducible refine q_join ?_)
  | (with_reducible refine r_wp_partN ?_)
  | (with_reducible refine q_part ?_)
  | (with_reducible refine r_wp_sl ?_)
  | (with_reducible refine q_iS ?_)
  | (with_reducible refine q_iR1 ?_)
  | (with_reducible refine q_iR2 ?_)
  | (with_reducible refine q_iEn ?_)
  | (with_reducible refine r_onBl ?_)
  | (with_reducible refine r_onInt ?_)
  | (with_reducible refine r_onStr ?_)
  | (with_reducible refine r_onNon ?_)
  | (with_reducible refine r_itT ?_)
  | (with_reducible refine r_itS ?_)
  | (with_reducible refine r_wp_bind ?_)
  | (with_reducible refine r_wp_ofO ?_)
  | (with_reducible refine r_wp_ok ?_)
  | (with_reducible refine r_wo_some ?_)
  | (with_reducible refine w_addI ?_)
  | (with_reducible refine w_sub ?_)
  | (with_reducible refine w_lt ?_)
  | (with_reducible refine w_le ?_)
  | (with_reducible refine w_gt ?_)
  | (with_reducible refine w_ge ?_)
  | (with_reducible refine w_is ?_)
  | (with_reducible refine w_isNot ?_)
  | (with_reducible refine w_lenT ?_)
  | (with_reducible refine w_intI ?_)
  | (with_reducible refine w_strS ?_)
  | (with_reducible refine w_abs ?_)
  | (with_reducible refine w_eqI ?_)
  | (with_reducible refine w_neI ?_)
  | (with_reducible refine w_eqB ?_)
  | (with_reducible refine w_neB ?_)
  | (with_reducible refine w_neg ?_)
  | ((with_reducible refine r_owp_asg ?_); (try dsimp only [List.set]))
  | ((with_reducible refine r_owp_par ?_); (try dsimp only [List.set]))
  | (with_reducible refine r_var (by with_unfolding_all rfl) ?_)
  | (with_reducible refine w_ixL (by assumption) (by with_unfolding_all rfl) ?_)
  | (with_reducible refine w_ixT (by with_unfolding_all rfl) ?_)
  | (with_reducible refine w_lenL (by assumption) ?_)
  | (with_reducible refine w_fld (by assumption) (by with_unfolding_all rfl) (by with_unfolding_all rfl) ?_)
  | (with_reducible refine w_tupleL (by assumption) ?_)
  | (with_reducible refine w_mod (by omega) ?_)
  | (with_reducible refine w_div (by omega) (by omega) ?_)
  | (with_reducible refine w_mul (by omega) ?_)
  | (with_reducible refine w_isiT (by with_unfolding_all rfl) (by decide +kernel) (by with_unfolding_all (intro r h; cases h)) ?_)
  | (with_reducible refine w_isiRT (by assumption) (by with_unfolding_all rfl) (by with_unfolding_all rfl) (by decide +kernel) ?_)
  | (with_reducible refine w_isiCT (by assumption) (by with_unfolding_all rfl) (by with_unfolding_all rfl) (by decide +kernel) ?_)
  | (with_reducible refine w_isiF (by with_unfolding_all rfl) (by decide +kernel) (by with_unfolding_all (intro r h; cases h)) ?_)
  | (with_reducible refine w_isiRF (by assumption) (by with_unfolding_all rfl) (by with_unfolding_all rfl) (by decide +kernel) ?_)
  | (with_reducible refine w_isiCF (by assumption) (by with_unfolding_all rfl) (by with_unfolding_all rfl) (by decide +kernel) ?_)
  | (with_reducible refine r_both (by omega) ?_)
  | (with_reducible refine r_onLst (by assumption) ?_)
  | (with_reducible refine r_itL (by assumption) ?_)
  | (with_reducible refine r_onObj (by assumption) (by with_unfolding_all rfl) ?_)
  | (with_reducible refine r_tT (by first | decide | assumption | (exact tyOk_list (by assumption)) | (exact tyOk_str) | (exact r_decT (by assumption)) | (exact r_decT (by omega)) | (exact r_notT (by assumption)) | (exact r_notT (r_decF (by assumption))) | (exact r_notT (r_decF (by omega))) | omega | (with_unfolding_all rfl) | (simp [isNon]; done) | (simp; omega)) ?_)
  | (with_reducible refine r_tF (by first | decide | assumption | (exact r_decF (by assumption)) | (exact r_decF (by omega)) | (exact r_notF (by assumption)) | (exact r_notF (r_decT (by assumption))) | (exact r_notF (r_decT (by omega))) | omega | (exact r_notF (by with_unfolding_all rfl)) | (simp [isNon]; done) | (simp; omega)) ?_)
  | (with_reducible refine r_bT (by first | decide | assumption | (exact tyOk_list (by assumption)) | (exact tyOk_str) | (exact r_decT (by assumption)) | (exact r_decT (by omega)) | (exact r_notT (by assumption)) | (exact r_notT (r_decF (by assumption))) | (exact r_notT (r_decF (by omega))) | omega | (with_unfolding_all rfl) | (simp [isNon]; done) | (simp; omega)) ?_)
  | (with_reducible refine r_bF (by first | decide | assumption | (exact r_decF (by assumption)) | (exact r_decF (by omega)) | (exact r_notF (by assumption)) | (exact r_notF (r_decT (by assumption))) | (exact r_notF (r_decT (by omega))) | omega | (exact r_notF (by with_unfolding_all rfl)) | (simp [isNon]; done) | (simp; omega)) ?_)
  | (with_reducible refine r_p_iteT (by first | decide | assumption | (exact tyOk_list (by assumption)) | (exact tyOk_str) | (exact r_decT (by assumption)) | (exact r_decT (by omega)) | (exact r_notT (by assumption)) | (exact r_notT (r_decF (by assumption))) | (exact r_notT (r_decF (by omega))) | omega | (with_unfolding_all rfl) | (simp [isNon]; done) | (simp; omega)) ?_)
  | (with_reducible refine r_p_iteF (by first | decide | assumption | (exact r_decF (by assumption)) | (exact r_decF (by omega)) | (exact r_notF (by assumption)) | (exact r_notF (r_decT (by assumption))) | (exact r_notF (r_decT (by omega))) | omega | (exact r_notF (by with_unfolding_all rfl)) | (simp [isNon]; done) | (simp; omega)) ?_)
  | (with_reducible refine r_wp_iteT (by first | decide | assumption | (exact tyOk_list (by assumption)) | (exact tyOk_str) | (exact r_decT (by assumption)) | (exact r_decT (by omega)) | (exact r_notT (by assumption)) | (exact r_notT (r_decF (by assumption))) | (exact r_notT (r_decF (by omega))) | omega | (with_unfolding_all rfl) | (simp [isNon]; done) | (simp; omega)) ?_)
  | (with_reducible refine r_wp_iteF (by first | decide | assumption | (exact r_decF (by assumption)) | (exact r_decF (by omega)) | (exact r_notF (by assumption)) | (exact r_notF (r_decT (by assumption))) | (exact r_notF (r_decT (by omega))) | omega | (exact r_notF (by with_unfolding_all rfl)) | (simp [isNon]; done) | (simp; omega)) ?_)
  | (with_reducible refine r_owp_iteT (by first | decide | assumption | (exact tyOk_list (by assumption)) | (exact tyOk_str) | (exact r_decT (by assumption)) | (exact r_decT (by omega)) | (exact r_notT (by assumption)) | (exact r_notT (r_decF (by assumption))) | (exact r_notT (r_decF (by omega))) | omega | (with_unfolding_all rfl) | (simp [isNon]; done) | (simp; omega)) ?_)
  | (with_reducible refine r_owp_iteF (by first | decide | assumption | (exact r_decF (by assumption)) | (exact r_decF (by omega)) | (exact r_notF (by assumption)) | (exact r_notF (r_decT (by assumption))) | (exact r_notF (r_decT (by omega))) | omega | (exact r_notF (by with_unfolding_all rfl)) | (simp [isNon]; done) | (simp; omega)) ?_)
  ))
local macro_rules | `(tactic| walk_at "fn") => `(tactic| (refine wp_fn rfl ?_; dsimp only [List.map_cons, List.map_nil, List.cons_append, List.nil_append, List.replicate, List.map, Nat.reduceSub]))
/-! ### equality of data -/
inductive Pl : Nat → D → Prop where
  | non (n : Nat) : Pl n .non
  | int (n : Nat) (i : Int) : Pl n (.int i)
  | str (n : Nat) (x : Str) (h : PyData.strOk x = true) : Pl n (.str x)
  | tup (n : Nat) (ds : List D) (h : ∀ d ∈ ds, Pl n d) (hl : ds.length ≤ 1000) : Pl (n + 1) (.tup ds)
theorem Pl.up {n : Nat} {d : D} (h : Pl n d) : Pl (n + 1) d := by
  induction h with
  | non n => exact .non _
  | int n i => exact .int _ i
  | str n x h => exact .str _ x h
  | tup n ds h hl ih => exact .tup _ ds ih hl
theorem deep_pl {st : Sto} {n : Nat} {d : D} (h : Pl n d) : ∃ p, (∀ k, deep st (n + k) d = some p) ∧ p.canLay0 = true ∧ p.depth ≤ n := by
  induction h with
  | non n => exact ⟨.none, fun k => by cases n + k <;> rfl, rfl, by simp [PyData.depth]⟩
  | int n i => exact ⟨.int i, fun k => by cases n + k <;> rfl, rfl, by simp [PyData.depth]⟩
  | str n x h => exact ⟨.str x, fun k => by cases n + k <;> rfl, h, by simp [PyData.depth]⟩
  | tup n ds h hl ih =>
    have key : ∃ ps, (∀ k, mapO (deep st (n + k)) ds = some ps) ∧ PyData.canLayAll0 ps = true ∧ PyData.depthAll ps ≤ n := by
      clear h hl
      induction ds with
      | nil => exact ⟨[], fun k => rfl, rfl, by simp [PyData.depthAll]⟩
      | cons d ds ihd =>
        obtain ⟨p, p1, p2, p3⟩ := ih d (by simp)
        obtain ⟨ps, q1, q2, q3⟩ := ihd fun z hz => ih z (by simp [hz])
        refine ⟨p :: ps, fun k => by simp [mapO, p1 k, q1 k], by simp [PyData.canLayAll0, p2, q2], ?_⟩
        simp only [PyData.depthAll]
        omega
    obtain ⟨ps, q1, q2, q3⟩ := key
    refine ⟨.tuple ps, fun k => ?_, q2, by simp only [PyData.depth]; omega⟩
    rw [show n + 1 + k = (n + k) + 1 by omega]
    show (mapO (deep st (n + k)) ds).map PyData.tuple = _
    rw [q1 k]
    rfl
theorem eqD_pl {st : Sto} {n : Nat} {d : D} (h : Pl n d) (hn : n ≤ 60) : eqD st d d = some true := by
  obtain ⟨p, p1, p2, p3⟩ := deep_pl (st := st) h
  have e := p1 (66 - n)
  rw [show n + (66 - n) = 66 by omega] at e
  have sh : SeqAt.shaped p = true := by simp only [SeqAt.shaped, p2, Bool.true_and, decide_eq_true_eq]; omega
  simp only [eqD, e]
  rw [if_pos ⟨sh, sh⟩, SeqAt.eqv_refl p p2]
theorem eqD_nil {st : Sto} {a b : Nat} (ha : st[a]? = some (.lst [])) (hb : st[b]? = some (.lst [])) : eqD st (.ref a) (.ref b) = some true := by
  have e1 : deep st 66 (.ref a) = some (.list []) := by simp [deep, ha, mapO]
  have e2 : deep st 66 (.ref b) = some (.list []) := by simp [deep, hb, mapO]
  simp only [eqD, e1, e2]
  rfl
theorem none_all (ds : List D) : ds.filterMap (fun _ => (none : Option D)) = [] := by
  induction ds with
  | nil => rfl
  | cons d ds ih => simpa using ih
theorem same_flat {n k : Nat} {d : D} (h : Pl n d) (hf : ∀ ds, d ≠ .tup ds) {st : Sto} {X : XP} : Wp X (fun x s => x = .bl true ∧ Chg [] st s) (f__law_same (k + 1) [d, d] st) := by
  cases h with
  | non n =>
    unfold f__law_same
    walk_at "fn"
    unfold b__law_same
    walk_at "wp"
    exact ⟨rfl, Chg.refl⟩
  | int n i =>
    unfold f__law_same
    walk_at "fn"
    unfold b__law_same
    walk_at "wp"
    exact ⟨by simp, Chg.refl⟩
  | str n x h =>
    unfold f__law_same
    walk_at "fn"
    unfold b__law_same
    walk_at "wp"
    refine w_eqS h h ?_
    walk_at "wp"
    exact ⟨by simp, Chg.refl⟩
  | tup n ds h hl => exact (hf ds rfl).elim
theorem same_tup : ∀ {n : Nat} {d : D}, Pl n d → ∀ {k : Nat}, n ≤ k → ∀ {st : Sto} {X : XP}, Wp X (fun x s => x = .bl true ∧ Chg [] st s) (f__law_same (k + 1) [d, d] st) := by
  intro n d h
  induction h with
  | non n => intro k hk st X; exact same_flat (.non n) (by simp)
  | int n i => intro k hk st X; exact same_flat (.int n i) (by simp)
  | str n x h => intro k hk st X; exact same_flat (.str n x h) (by simp)
  | tup n ds h hl ih =>
    intro k hk st X
    obtain ⟨k, rfl⟩ : ∃ j, k = j + 1 := ⟨k - 1, by omega⟩
    unfold f__law_same
    walk_at "fn"
    unfold b__law_same
    walk_at "wp"
    refine wp_lc ?_
    walk_at "wp"
    refine ⟨fun _ => none, fun _ _ => okB_none, by rw [rng_len]; simp only [LIM]; omega, ?_, ?_⟩
    · intro d hd s hs
      obtain ⟨i, hi⟩ := List.getElem?_of_mem hd
      obtain ⟨hi, rfl⟩ := rng_get hi
      have hi2 : i < ds.length := by omega
      refine ⟨_, rfl, ?_⟩
      dsimp only [wipeD, List.set]
      walk_at "wp"
      refine w_ixT (atIn (List.getElem?_eq_getElem hi2)) ?_
      walk_at "wp"
      refine w_ixT (atIn (List.getElem?_eq_getElem hi2)) ?_
      walk_at "wp"
      refine (ih _ (List.getElem_mem hi2) (by omega)).mono ?_
      rintro _ s2 ⟨rfl, k2⟩
      walk_at "wp"
      exact ⟨rfl, k2⟩
    · intro L s hL hLn k1
      rw [none_all] at hL
      walk_at "wp"
      refine wo_lst (by simp [LIM]) fun L2 s2 hL2 hL2n k2 => ?_
      walk_at "wp"
      refine w_eq (eqD_nil (k2.get0 hL) hL2) ?_
      walk_at "wp"
      exact ⟨rfl, k1.trans k2⟩
theorem same_lst {n k a b : Nat} {ds : List D} (h : ∀ d ∈ ds, Pl n d) (hl : ds.length ≤ 1000) (hk : n ≤ k) {st : Sto} (ha : st[a]? = some (.lst ds)) (hb : st[b]? = some (.lst ds)) {X : XP} : Wp X (fun x s => x = .bl true ∧ Chg [] st s) (f__law_same (k + 1 + 1) [.ref a, .ref b] st) := by
  unfold f__law_same
  walk_at "fn"
  unfold b__law_same
  walk_at "wp"
  refine wp_lc ?_
  walk_at "wp"
  refine ⟨fun _ => none, fun _ _ => okB_none, by rw [rng_len]; simp only [LIM]; omega, ?_, ?_⟩
  · intro d hd s hs
    obtain ⟨i, hi⟩ := List.getElem?_of_mem hd
    obtain ⟨hi, rfl⟩ := rng_get hi
    have hi2 : i < ds.length := by omega
    refine ⟨_, rfl, ?_⟩
    dsimp only [wipeD, List.set]
    walk_at "wp"
    refine w_ixL (hs.get0 ha) (atIn (List.getElem?_eq_getElem hi2)) ?_
    walk_at "wp"
    refine w_ixL (hs.get0 hb) (atIn (List.getElem?_eq_getElem hi2)) ?_
    walk_at "wp"
    refine (same_tup (h _ (List.getElem_mem hi2)) (by omega)).mono ?_
    rintro _ s2 ⟨rfl, k2⟩
    walk_at "wp"
    exact ⟨rfl, k2⟩
  · intro L s hL hLn k1
    rw [none_all] at hL
    walk_at "wp"
    refine wo_lst (by simp [LIM]) fun L2 s2 hL2 hL2n k2 => ?_
    walk_at "wp"
    refine w_eq (eqD_nil (k2.get0 hL) hL2) ?_
    walk_at "wp"
    exact ⟨rfl, k1.trans k2⟩
theorem pl_say {y : Say} (n : Nat) : Pl n y.d := by
  cases y with
  | no => exact .non _
  | num k => exact .int _ _
  | all => exact .str _ _ all_ok
theorem pl_steps {g : Prg} {C : Nat} (hg : g.Ok C) : Pl 3 (stepsD g.rows) := by
  refine .tup 2 _ (fun d hd => ?_) (by have := hg.n5; simp; omega)
  obtain ⟨r, hr, rfl⟩ := List.mem_map.mp hd
  refine .tup 1 _ (fun d hd => ?_) (by have := hg.row r hr; have := hg.c4; simp; omega)
  obtain ⟨z, hz, rfl⟩ := List.mem_map.mp hd
  refine .tup 0 _ (fun d hd => ?_) (by simp)
  simp only [List.mem_cons, List.not_mem_nil, or_false] at hd
  rcases hd with rfl | rfl | rfl
  · exact .int _ _
  · exact .int _ _
  · exact pl_say _
theorem pl_opt {o : Option Nat} (n : Nat) : Pl n (optD o) := by
  cases o with
  | none => exact .non _
  | some k => exact .int _ _
theorem Program_eq_ok {g : Prg} {C a b : Nat} (hg : g.Ok C) {st : Sto} (ha : st[a]? = some (.ins 4 (prgF g))) (hb : st[b]? = some (.ins 4 (prgF g))) {X : XP} : Wp X (fun x s => x = .bl true ∧ s = st) (f_Program_eq [.ref a, .ref b] st) := by
  walk_at "fn"
  unfold b_Program_eq
  walk_at "wp"
  refine w_ne (eqD_pl (pl_steps hg) (by decide)) ?_
  walk_at "wp"
  refine w_eq (eqD_pl (pl_opt 0) (by decide)) ?_
  walk_at "wp"
  refine w_eq (eqD_pl (pl_opt 0) (by decide)) ?_
  walk_at "wp"
  exact ⟨rfl, rfl⟩
end K02

set_option Elab.async false
set_option linter.all false
set_option maxRecDepth 100000
set_option maxHeartbeats 4000000
namespace K02
open PySem PySem.Spec PyProof.Rows L2 LF
local macro_rules | `(tactic| walk_at "wp") => `(tactic| repeat (first
  | (with_reducible refine r_seq_nx ?_)
  | (with_reducible refine r_seq_rt ?_)
  | (with_reducible refine r_seq_bk ?_)
  | (with_reducible refine r_seq_ct ?_)
  | (with_reducible refine r_seq_ex ?_)
  | (with_reducible refine r_loop_nx ?_)
  | (with_reducible refine r_loop_rt ?_)
  | (with_reducible refine r_loop_bk ?_)
  | (with_reducible refine r_loop_ct ?_)
  | (with_reducible refine r_loop_ex ?_)
  | (with_reducible refine r_fn_nx ?_)
  | (with_reducible refine r_fn_rt ?_)
  | (with_reducible refine r_fn_ex ?_)
  | (with_reducible refine r_owp_seq ?_)
  | (with_reducible refine r_owp_if ?_)
  | (with_reducible refine r_owp_ret ?_)
  | (with_reducible refine r_owp_expr ?_)
  | (with_reducible refine r_owp_skip ?_)
  | (with_reducible refine r_owp_brk ?_)
  | (with_reducible refine r_owp_cnt ?_)
  | (with_reducible refine r_owp_setIx ?_)
  | (with_reducible refine r_owp_setF ?_)
  | (with_reducible refine r_owp_for ?_)
  | (with_reducible refine r_owp_nx ?_)
  | (with_reducible refine r_owp_rt ?_)
  | (with_reducible refine r_owp_out ?_)
  | (with_reducible refine r_wp_bin ?_)
  | (with_reducible refine r_wp_un ?_)
  | (with_reducible refine r_wp_blt ?_)
  | (with_reducible refine r_wp_cons ?_)
  | (with_reducible refine r_wp_nil ?_)
  | (with_reducible refine r_wp_c ?_)
  | (with_reducible refine r_wp_if ?_)
  | (with_reducible refine q_asB ?_)
  | (with_reducible refine q_tTru ?_)
  | (with_reducible refine r_wp_tAnd ?_)
  | (with_reducible refine r_wp_tOr ?_)
  | (with_reducible refine r_wp_tNot ?_)
  | (with_reducible refine r_wp_tYes ?_)
  | (with_reducible refine q_eAnd ?_)
  | (with_reducible refine q_eOr ?_)
  | (with_reducible refine q_eNot ?_)
  | (with_reducible refine q_chain ?_)
  | (with_reducible refine r_wp_call ?_)
  | (with_reducible refine r_wp_mt ?_)
  | (with_reducible refine q_meth ?_)
  | (with_reducible refine q_make ?_)
  | (with_reducible refine q_fmt ?_)
  | (with_reducible refine r_wp_joinN ?_)
  | (with_reducible refine q_join ?_)
  | (with_reducible refine r_wp_partN ?_)
  | (with_reducible refine q_part ?_)
  | (with_reducible refine r_wp_sl ?_)
  | (with_reducible refine q_iS ?_)
  | (with_reducible refine q_iR1 ?_)
  | (with_reducible refine q_iR2 ?_)
  | (with_reducible refine q_iEn ?_)
  | (with_reducible refine r_onBl ?_)
  | (with_reducible refine r_onInt ?_)
  | (with_reducible refine r_onStr ?_)
  | (with_reducible refine r_onNon ?_)
  | (with_reducible refine r_itT ?_)
  | (with_reducible refine r_itS ?_)
  | (with_reducible refine r_wp_bind ?_)
  | (with_reducible refine r_wp_ofO ?_)
  | (with_reducible refine r_wp_ok ?_)
  | (with_reducible refine r_wo_some ?_)
  | (with_reducible refine w_addI ?_)
  | (with_reducible refine w_sub ?_)
  | (with_reducible refine w_lt ?_)
  | (with_reducible refine w_le ?_)
  | (with_reducible refine w_gt ?_)
  | (with_reducible refine w_ge ?_)
  | (with_reducible refine w_is ?_)
  | (with_reducible refine w_isNot ?_)
  | (with_reducible refine w_lenT ?_)
  | (with_reducible refine w_intI ?_)
  | (with_reducible refine w_strS ?_)
  | (with_reducible refine w_abs ?_)
  | (with_reducible refine w_eqI ?_)
  | (with_reducible refine w_neI ?_)
  | (with_reducible refine w_eqB ?_)
  | (with_reducible refine w_neB ?_)
  | (with_reducible refine w_neg ?_)
  | ((with_reducible refine r_owp_asg ?_); (try dsimp only [List.set]))
  | ((with_reducible refine r_owp_par ?_); (try dsimp only [List.set]))
  | (with_reducible refine r_var (by with_unfolding_all rfl) ?_)
  | (with_reducible refine w_ixL (by assumption) (by with_unfolding_all rfl) ?_)
  | (with_reducible refine w_ixT (by with_unfolding_all rfl) ?_)
  | (with_reducible refine w_lenL (by assumption) ?_)
  | (with_reducible refine w_fld (by assumption) (by with_unfolding_all rfl) (by with_unfolding_all rfl) ?_)
  | (with_reducible refine w_tupleL (by assumption) ?_)
  | (with_reducible refine w_mod (by omega) ?_)
  | (with_reducible refine w_div (by omega) (by omega) ?_)
  | (with_reducible refine w_mul (by omega) ?_)
  | (with_reducible refine w_isiT (by with_unfolding_all rfl) (by decide +kernel) (by with_unfolding_all (intro r h; cases h)) ?_)
  | (with_reducible refine w_isiRT (by assumption) (by with_unfolding_all rfl) (by with_unfolding_all rfl) (by decide +kernel) ?_)
  | (with_reducible refine w_isiCT (by assumption) (by with_unfolding_all rfl) (by with_unfolding_all rfl) (by decide +kernel) ?_)
  | (with_reducible refine w_isiF (by with_unfolding_all rfl) (by decide +kernel) (by with_unfolding_all (intro r h; cases h)) ?_)
  | (with_reducible refine w_isiRF (by assumption) (by with_unfolding_all rfl) (by with_unfolding_all rfl) (by decide +kernel) ?_)
  | (with_reducible refine w_isiCF (by assumption) (by with_unfolding_all rfl) (by with_unfolding_all rfl) (by decide +kernel) ?_)
  | (with_reducible refine r_both (by omega) ?_)
  | (with_reducible refine r_onLst (by assumption) ?_)
  | (with_reducible refine r_itL (by assumption) ?_)
  | (with_reducible refine r_onObj (by assumption) (by with_unfolding_all rfl) ?_)
  | (with_reducible refine r_tT (by first | decide | assumption | (exact tyOk_list (by assumption)) | (exact tyOk_str) | (exact r_decT (by assumption)) | (exact r_decT (by omega)) | (exact r_notT (by assumption)) | (exact r_notT (r_decF (by assumption))) | (exact r_notT (r_decF (by omega))) | omega | (with_unfolding_all rfl) | (simp [isNon]; done) | (simp; omega)) ?_)
  | (with_reducible refine r_tF (by first | decide | assumption | (exact r_decF (by assumption)) | (exact r_decF (by omega)) | (exact r_notF (by assumption)) | (exact r_notF (r_decT (by assumption))) | (exact r_notF (r_decT (by omega))) | omega | (exact r_notF (by with_unfolding_all rfl)) | (simp [isNon]; done) | (simp; omega)) ?_)
  | (with_reducible refine r_bT (by first | decide | assumption | (exact tyOk_list (by assumption)) | (exact tyOk_str) | (exact r_decT (by assumption)) | (exact r_decT (by omega)) | (exact r_notT (by assumption)) | (exact r_notT (r_decF (by assumption))) | (exact r_notT (r_decF (by omega))) | omega | (with_unfolding_all rfl) | (simp [isNon]; done) | (simp; omega)) ?_)
  | (with_reducible refine r_bF (by first | decide | assumption | (exact r_decF (by assumption)) | (exact r_decF (by omega)) | (exact r_notF (by assumption)) | (exact r_notF (r_decT (by assumption))) | (exact r_notF (r_decT (by omega))) | omega | (exact r_notF (by with_unfolding_all rfl)) | (simp [isNon]; done) | (simp; omega)) ?_)
  | (with_reducible refine r_p_iteT (by first | decide | assumption | (exact tyOk_list (by assumption)) | (exact tyOk_str) | (exact r_decT (by assumption)) | (exact r_decT (by omega)) | (exact r_notT (by assumption)) | (exact r_notT (r_decF (by assumption))) | (exact r_notT (r_decF (by omega))) | omega | (with_unfolding_all rfl) | (simp [isNon]; done) | (simp; omega)) ?_)
  | (with_reducible refine r_p_iteF (by first | decide | assumption | (exact r_decF (by assumption)) | (exact r_decF (by omega)) | (exact r_notF (by assumption)) | (exact r_notF (r_decT (by assumption))) | (exact r_notF (r_decT (by omega))) | omega | (exact r_notF (by with_unfolding_all rfl)) | (simp [isNon]; done) | (simp; omega)) ?_)
  | (with_reducible refine r_wp_iteT (by first | decide | assumption | (exact tyOk_list (by assumption)) | (exact tyOk_str) | (exact r_decT (by assumption)) | (exact r_decT (by omega)) | (exact r_notT (by assumption)) | (exact r_notT (r_decF (by assumption))) | (exact r_notT (r_decF (by omega))) | omega | (with_unfolding_all rfl) | (simp [isNon]; done) | (simp; omega)) ?_)
  | (with_reducible refine r_wp_iteF (by first | decide | assumption | (exact r_decF (by assumption)) | (exact r_decF (by omega)) | (exact r_notF (by assumption)) | (exact r_notF (r_decT (by assumption))) | (exact r_notF (r_decT (by omega))) | omega | (exact r_notF (by with_unfolding_all rfl)) | (simp [isNon]; done) | (simp; omega)) ?_)
  | (with_reducible refine r_owp_iteT (by first | decide | assumption | (exact tyOk_list (by assumption)) | (exact tyOk_str) | (exact r_decT (by assumption)) | (exact r_decT (by omega)) | (exact r_notT (by assumption)) | (exact r_notT (r_decF (by assumption))) | (exact r_notT (r_decF (by omega))) | omega | (with_unfolding_all rfl) | (simp [isNon]; done) | (simp; omega)) ?_)
  | (with_reducible refine r_owp_iteF (by first | decide | assumption | (exact r_decF (by assumption)) | (exact r_decF (by omega)) | (exact r_notF (by assumption)) | (exact r_notF (r_decT (by assumption))) | (exact r_notF (r_decT (by omega))) | omega | (exact r_notF (by with_unfolding_all rfl)) | (simp [isNon]; done) | (simp; omega)) ?_)
  ))
local macro_rules | `(tactic| walk_at "fld") => `(tactic| repeat (first
  | (with_reducible refine r_seq_rt ?_)
  | (with_reducible refine r_seq_bk ?_)
  | (with_reducible refine r_seq_ct ?_)
  | (with_reducible refine r_seq_ex ?_)
  | (with_reducible refine r_loop_nx ?_)
  | (with_reducible refine r_loop_rt ?_)
  | (with_reducible refine r_loop_bk ?_)
  | (with_reducible refine r_loop_ct ?_)
  | (with_reducible refine r_loop_ex ?_)
  | (with_reducible refine r_fn_nx ?_)
  | (with_reducible refine r_fn_rt ?_)
  | (with_reducible refine r_fn_ex ?_)
  | (with_reducible refine r_owp_if ?_)
  | (with_reducible refine r_owp_ret ?_)
  | (with_reducible refine r_owp_expr ?_)
  | (with_reducible refine r_owp_skip ?_)
  | (with_reducible refine r_owp_brk ?_)
  | (with_reducible refine r_owp_cnt ?_)
  | (with_reducible refine r_owp_setIx ?_)
  | (with_reducible refine r_owp_setF ?_)
  | (with_reducible refine r_owp_for ?_)
  | (with_reducible refine r_owp_nx ?_)
  | (with_reducible refine r_owp_rt ?_)
  | (with_reducible refine r_owp_out ?_)
  | (with_reducible refine r_wp_bin ?_)
  | (with_reducible refine r_wp_un ?_)
  | (with_reducible refine r_wp_blt ?_)
  | (with_reducible refine r_wp_cons ?_)
  | (with_reducible refine r_wp_nil ?_)
  | (with_reducible refine r_wp_c ?_)
  | (with_reducible refine r_wp_if ?_)
  | (with_reducible refine q_asB ?_)
  | (with_reducible refine q_tTru ?_)
  | (with_reducible refine r_wp_tAnd ?_)
  | (with_reducible refine r_wp_tOr ?_)
  | (with_reducible refine r_wp_tNot ?_)
  | (with_reducible refine r_wp_tYes ?_)
  | (with_reducible refine q_eAnd ?_)
  | (with_reducible refine q_eOr ?_)
  | (with_reducible refine q_eNot ?_)
  | (with_reducible refine q_chain ?_)
  | (with_reducible refine r_wp_call ?_)
  | (with_reducible refine r_wp_mt ?_)
  | (with_reducible refine q_meth ?_)
  | (with_reducible refine q_make ?_)
  | (with_reducible refine q_fmt ?_)
  | (with_reducible refine r_wp_joinN ?_)
  | (with_reducible refine q_join ?_)
  | (with_reducible refine r_wp_partN ?_)
  | (with_reducible refine q_part ?_)
  | (with_reducible refine r_wp_sl ?_)
  | (with_reducible refine q_iS ?_)
  | (with_reducible refine q_iR1 ?_)
  | (with_reducible refine q_iR2 ?_)
  | (with_reducible refine q_iEn ?_)
  | (with_reducible refine r_onBl ?_)
  | (with_reducible refine r_onInt ?_)
  | (with_reducible refine r_onStr ?_)
  | (with_reducible refine r_onNon ?_)
  | (with_reducible refine r_itT ?_)
  | (with_reducible refine r_itS ?_)
  | (with_reducible refine r_wp_bind ?_)
  | (with_reducible refine r_wp_ofO ?_)
  | (with_reducible refine r_wp_ok ?_)
  | (with_reducible refine r_wo_some ?_)
  | (with_reducible refine w_addI ?_)
  | (with_reducible refine w_sub ?_)
  | (with_reducible refine w_lt ?_)
  | (with_reducible refine w_le ?_)
  | (with_reducible refine w_gt ?_)
  | (with_reducible refine w_ge ?_)
  | (with_reducible refine w_is ?_)
  | (with_reducible refine w_isNot ?_)
  | (with_reducible refine w_lenT ?_)
  | (with_reducible refine w_intI ?_)
  | (with_reducible refine w_strS ?_)
  | (with_reducible refine w_abs ?_)
  | (with_reducible refine w_eqI ?_)
  | (with_reducible refine w_neI ?_)
  | (with_reducible refine w_eqB ?_)
  | (with_reducible refine w_neB ?_)
  | (with_reducible refine w_neg ?_)
  | ((with_reducible refine r_owp_asg ?_); (try dsimp only [List.set]))
  | ((with_reducible refine r_owp_par ?_); (try dsimp only [List.set]))
  | (with_reducible refine r_var (by with_unfolding_all rfl) ?_)
  | (with_reducible refine w_ixL (by assumption) (by with_unfolding_all rfl) ?_)
  | (with_reducible refine w_ixT (by with_unfolding_all rfl) ?_)
  | (with_reducible refine w_lenL (by assumption) ?_)
  | (with_reducible refine w_fld (by assumption) (by with_unfolding_all rfl) (by with_unfolding_all rfl) ?_)
  | (with_reducible refine w_tupleL (by assumption) ?_)
  | (with_reducible refine w_mod (by omega) ?_)
  | (with_reducible refine w_div (by omega) (by omega) ?_)
  | (with_reducible refine w_mul (by omega) ?_)
  | (with_reducible refine w_isiT (by with_unfolding_all rfl) (by decide +kernel) (by with_unfolding_all (intro r h; cases h)) ?_)
  | (with_reducible refine w_isiRT (by assumption) (by with_unfolding_all rfl) (by with_unfolding_all rfl) (by decide +kernel) ?_)
  | (with_reducible refine w_isiCT (by assumption) (by with_unfolding_all rfl) (by with_unfolding_all rfl) (by decide +kernel) ?_)
  | (with_reducible refine w_isiF (by with_unfolding_all rfl) (by decide +kernel) (by with_unfolding_all (intro r h; cases h)) ?_)
  | (with_reducible refine w_isiRF (by assumption) (by with_unfolding_all rfl) (by with_unfolding_all rfl) (by decide +kernel) ?_)
  | (with_reducible refine w_isiCF (by assumption) (by with_unfolding_all rfl) (by with_unfolding_all rfl) (by decide +kernel) ?_)
  | (with_reducible refine r_both (by omega) ?_)
  | (with_reducible refine r_onLst (by assumption) ?_)
  | (with_reducible refine r_itL (by assumption) ?_)
  | (with_reducible refine r_onObj (by assumption) (by with_unfolding_all rfl) ?_)
  | (with_reducible refine r_tT (by first | decide | assumption | (exact tyOk_list (by assumption)) | (exact tyOk_str) | (exact r_decT (by assumption)) | (exact r_decT (by omega)) | (exact r_notT (by assumption)) | (exact r_notT (r_decF (by assumption))) | (exact r_notT (r_decF (by omega))) | omega | (with_unfolding_all rfl) | (simp [isNon]; done) | (simp; omega)) ?_)
  | (with_reducible refine r_tF (by first | decide | assumption | (exact r_decF (by assumption)) | (exact r_decF (by omega)) | (exact r_notF (by assumption)) | (exact r_notF (r_decT (by assumption))) | (exact r_notF (r_decT (by omega))) | omega | (exact r_notF (by with_unfolding_all rfl)) | (simp [isNon]; done) | (simp; omega)) ?_)
  | (with_reducible refine r_bT (by first | decide | assumption | (exact tyOk_list (by assumption)) | (exact tyOk_str) | (exact r_decT (by assumption)) | (exact r_decT (by omega)) | (exact r_notT (by assumption)) | (exact r_notT (r_decF (by assumption))) | (exact r_notT (r_decF (by omega))) | omega | (with_unfolding_all rfl) | (simp [isNon]; done) | (simp; omega)) ?_)
  | (with_reducible refine r_bF (by first | decide | assumption | (exact r_decF (by assumption)) | (exact r_decF (by omega)) | (exact r_notF (by assumption)) | (exact r_notF (r_decT (by assumption))) | (exact r_notF (r_decT (by omega))) | omega | (exact r_notF (by with_unfolding_all rfl)) | (simp [isNon]; done) | (simp; omega)) ?_)
  | (with_reducible refine r_p_iteT (by first | decide | assumption | (exact tyOk_list (by assumption)) | (exact tyOk_str) | (exact r_decT (by assumption)) | (exact r_decT (by omega)) | (exact r_notT (by assumption)) | (exact r_notT (r_decF (by assumption))) | (exact r_notT (r_decF (by omega))) | omega | (with_unfolding_all rfl) | (simp [isNon]; done) | (simp; omega)) ?_)
  | (with_reducible refine r_p_iteF (by first | decide | assumption | (exact r_decF (by assumption)) | (exact r_decF (by omega)) | (exact r_notF (by assumption)) | (exact r_notF (r_decT (by assumption))) | (exact r_notF (r_decT (by omega))) | omega | (exact r_notF (by with_unfolding_all rfl)) | (simp [isNon]; done) | (simp; omega)) ?_)
  | (with_reducible refine r_wp_iteT (by first | decide | assumption | (exact tyOk_list (by assumption)) | (exact tyOk_str) | (exact r_decT (by assumption)) | (exact r_decT (by omega)) | (exact r_notT (by assumption)) | (exact r_notT (r_decF (by assumption))) | (exact r_notT (r_decF (by omega))) | omega | (with_unfolding_all rfl) | (simp [isNon]; done) | (simp; omega)) ?_)
  | (with_reducible refine r_wp_iteF (by first | decide | assumption | (exact r_decF (by assumption)) | (exact r_decF (by omega)) | (exact r_notF (by assumption)) | (exact r_notF (r_decT (by assumption))) | (exact r_notF (r_decT (by omega))) | omega | (exact r_notF (by with_unfolding_all rfl)) | (simp [isNon]; done) | (simp; omega)) ?_)
  | (with_reducible refine r_owp_iteT (by first | decide | assumption | (exact tyOk_list (by assumption)) | (exact tyOk_str) | (exact r_decT (by assumption)) | (exact r_decT (by omega)) | (exact r_notT (by assumption)) | (exact r_notT (r_decF (by assumption))) | (exact r_notT (r_decF (by omega))) | omega | (with_unfolding_all rfl) | (simp [isNon]; done) | (simp; omega)) ?_)
  | (with_reducible refine r_owp_iteF (by first | decide | assumption | (exact r_decF (by assumption)) | (exact r_decF (by omega)) | (exact r_notF (by assumption)) | (exact r_notF (r_decT (by assumption))) | (exact r_notF (r_decT (by omega))) | omega | (exact r_notF (by with_unfolding_all rfl)) | (simp [isNon]; done) | (simp; omega)) ?_)
  ))
local macro_rules | `(tactic| walk_at "fn") => `(tactic| (refine wp_fn rfl ?_; dsimp only [List.map_cons, List.map_nil, List.cons_append, List.nil_append, List.replicate, List.map, Nat.reduceSub]))
/-! ### the law -/
def absS : D → Option D
  | .int i => some (.int (if i < 0 then -i else i))
  | _ => none
theorem abs_map (ns : List Int) : (ns.map D.int).filterMap absS = (ns.map fun i => if i < 0 then -i else i).map D.int := by
  induction ns with
  | nil => rfl
  | cons x l ih =>
    rw [List.map_cons, List.filterMap_cons]
    show D.int (if x < 0 then -x else x) :: List.filterMap absS (l.map D.int) = _
    rw [ih]
    rfl
theorem cut63 {ns : List Int} (h : ns.length ≤ 63) : LF.cutD (ns.map D.int) none (some 63) = ns.map D.int := by
  unfold LF.cutD
  rw [show (some (63 : Int)) = some ((63 : Nat) : Int) from rfl, HT.sIx_nat, HT.sIx_none, List.length_map, Nat.min_eq_right h]
  simp
  rw [← List.length_map (f := D.int), List.take_length]
theorem law_pot_ok {ns : List Int} (h : ns.length ≤ 63) {st : Sto} {X : XP} : Wp X (fun d s => ∃ p q ms, d = .ref p ∧ Pot s p q ms ∧ Chg [] st s) (f__law_pot [.scr ns] st) := by
  walk_at "fn"
  unfold b__law_pot
  walk_at "wp"
  refine wp_lc ?_
  walk_at "wp"
  refine wo_new fun L s1 hL hLn k1 => ?_
  have hL' : s1[L]? = some (.lst (ns.map D.int)) := by
    rw [hL, show (List.map (fun n => D.int n) ns) = ns.map D.int from rfl, cut63 h]
  walk_at "wp"
  refine ⟨absS, fun s hs => okB_some (hs.get0 hL'), by simp [LIM]; omega, ?_, ?_⟩
  · intro d hd s0 hs0
    obtain ⟨x, hx, rfl⟩ := List.mem_map.mp (show d ∈ ns.map D.int from hd)
    refine ⟨_, rfl, ?_⟩
    dsimp only [wipeD, List.set]
    walk_at "wp"
    exact ⟨rfl, Chg.refl⟩
  intro q s2 hq hqn k2
  have hq' : s2[q]? = some (.lst ((ns.map fun i => if i < 0 then -i else i).map D.int)) := by rw [hq]; exact congrArg (fun l => some (Cell.lst l)) (abs_map ns)
  walk_at "wp"
  refine wo_lst (by simp [LIM]) fun p s3 hp hpn k3 => ?_
  walk_at "wp"
  refine ⟨p, q, _, rfl, ⟨⟨0, 20011, 0, hp, by decide, by decide, by decide, by decide⟩, k3.get0 hq', (fun e => by rw [e, hpn] at hq'; cases hq'), by simpa using h, ?_⟩, (k1.trans k2).trans k3⟩
  intro n hn
  obtain ⟨x, hx, rfl⟩ := List.mem_map.mp hn
  split <;> omega
theorem text_ok {g : Prg} {C : Nat} (hg : g.Ok C) : PyData.strOk (textG g) = true := by
  rw [text_eq]
  simp only [PyData.strOk, Array.all_eq_true']
  intro c hc
  have hc := Array.mem_toList_iff.mpr hc
  rw [TL.join_eq] at hc
  rcases (mem_join nl c _).mp hc with ⟨t, ht, hc⟩ | ⟨_, hc⟩
  · rcases List.mem_append.mp ht with ht | ht
    · rw [lines_words] at ht
      obtain ⟨ws, hws, rfl⟩ := List.mem_map.mp ht
      have := line_chars (wordsG_w hg ws hws).2.2 c hc
      simp
      omega
    · rw [List.mem_singleton.mp ht] at hc
      simp [Str.empty] at hc
  · have e : nl.cps.toList = [10] := by decide +kernel
    rw [e] at hc
    simp at hc
    subst hc
    decide
theorem law_true (ns : List Int) (h : ns.length ≤ 63) : ∃ st, f_law [.scr ns] [] = .ok (.bl true) st := by
  have key : Wp (fun _ _ _ => False) (fun d _ => d = .bl true) (f_law [.scr ns] []) := by
    walk_at "fn"
    unfold b_law
    walk_at "wp"
    refine (law_pot_ok h).mono ?_
    rintro _ s0 ⟨p, q, ms, rfl, P0, _⟩
    walk_at "wp"
    refine owp_forS (fun i e s => ∃ x2 x3 x4 x5 x6, e = [some (.scr ns), some (.ref p), x2, x3, x4, x5, x6] ∧ Pot s p q ms) ?_ ?_ ⟨_, _, _, _, _, rfl, P0⟩
    · rintro i d e s hd ⟨x2, x3, x4, x5, x6, rfl, P⟩
      obtain ⟨hi, rfl⟩ := rng_get hd
      refine ⟨okB_none, _, rfl, ?_⟩
      dsimp only [List.set]
      walk_at "wp"
      refine wo_lst (by simp [LIM]) fun m s1 hm hmn k1 => ?_
      have hmp : m ≠ p := fun e => by obtain ⟨_, _, _, hp, _⟩ := P.ex; rw [e, hp] at hmn; cases hmn
      walk_at "wp"
      refine (law_spec (P.keep k1) hm hmp).mono ?_
      rintro _ s2 ⟨g, C, r, hg, rfl, hr, hrn, P2, k2⟩
      walk_at "wp"
      refine (law_made_ok hg hr).mono ?_
      rintro _ s3 ⟨o, rfl, ho, k3⟩
      have hr3 := k3.get0 hr
      walk_at "wp"
      refine (law_text_ok hg hr3).mono ?_
      rintro _ s4 ⟨rfl, k4⟩
      have ho4 := k4.get0 ho
      walk_at "wp"
      refine (read_program_ok hg).mono ?_
      rintro _ s5 ⟨a, rfl, ha, k5⟩
      have ho5 := k5.get0 ho4
      walk_at "wp"
      refine (program_text_ok hg ho5).mono ?_
      rintro _ s6 ⟨rfl, k6⟩
      walk_at "wp"
      refine (same_tup (.str 0 _ (text_ok hg)) (by omega)).mono ?_
      rintro _ s7 ⟨rfl, k7⟩
      have k57 := k6.trans k7
      have ha7 := k57.get0 ha
      have ho7 := k57.get0 ho5
      walk_at "wp"
      refine q_eqX ?_
      walk_at "wp"
      refine ⟨a, _, .ins 4, rfl, ha7, by simp [kind, ho7], by rfl, ?_⟩
      refine (Program_eq_ok hg ha7 ho7).mono ?_
      rintro _ _ ⟨rfl, rfl⟩
      refine ⟨true, rfl, ?_⟩
      walk_at "wp"
      refine (program_text_ok hg ha7).mono ?_
      rintro _ s8 ⟨rfl, k8⟩
      walk_at "wp"
      refine w_neS (text_ok hg) (text_ok hg) ?_
      rw [show (textG g == textG g) = true by simp]
      have ha8 := k8.get0 ha7
      walk_at "wp"
      refine wo_lst (by simp [LIM]) fun l s9 hl hln k9 => ?_
      walk_at "wp"
      have hr9 := k9.get0 (k8.get0 (k57.get0 (k5.get0 (k4.get0 hr3))))
      refine (same_lst (n := 3) (k := 7) ?_ (by simp) (by decide) hl hr9).mono ?_
      · intro d hd
        simp only [List.mem_cons, List.not_mem_nil, or_false] at hd
        rcases hd with rfl | rfl | rfl | rfl
        · exact pl_steps hg
        · exact .int _ _
        · exact pl_opt _
        · exact pl_opt _
      rintro _ s10 ⟨rfl, k10⟩
      walk_at "wp"
      exact ⟨_, _, _, _, _, rfl, P2.keep ((((((k3.trans k4).trans k5).trans k57).trans k8).trans k9).trans k10)⟩
    · rintro e s ⟨x2, x3, x4, x5, x6, rfl, P⟩
      refine ⟨okB_none, ?_⟩
      walk_at "wp"
      rfl
  obtain ⟨a, s, e, rfl⟩ := key.to
  exact ⟨s, e⟩
end K02

open LF
open PySem PySem.W PyProof.Rows in
set_option maxRecDepth 100000 in
set_option maxHeartbeats 0 in
theorem PySem.Challenge.cw_lampfolk_k02_whole_texts_of_programs_holds : PySem.Challenge.rw_lampfolk_k02_whole_texts_of_programs.Holds := by
  w_on; o_law; k_head; (case hw => w_witness2)
  k_fill
  refine L2.walk_of (l := PySem.Challenge.rw_lampfolk_k02_whole_texts_of_programs) (n := 63) (k := 11) (x := "script") (CX := fun w => L2.CX PySem.Challenge.rw_lampfolk_k02_whole_texts_of_programs.prog w) (sp := fun w => K02.spLaw _) rfl (by decide) rfl ⟨rfl, by decide, by decide⟩ (fun w h Y => PySem.W.kIn_of Y) ?F (fun w H a ns hl hO hS => ⟨a, ns, rfl, hl, hO, hS, fun _ => rfl⟩) ?E
  case E =>
    intro w H s e s' z
    obtain ⟨_, _, _, _, _, _, _, _, _, _, _, _, z⟩ := z
    exact z.elim
  case F =>
    intro w mg fa h KX G hmg
    obtain ⟨T, e1, e2⟩ : ∃ T : K02.Tx ⟨_, _⟩ mg w, T.a_law = fa ∧ ∀ (s : Shared) (u : Value), BindsTo s T.d_law ⟨[u], []⟩ [("script", u)] := by
      refine' K02.all_mk KX G hmg ?n_Program ?pg_Program ?hd_Program ?po_Program ?sa_Program ?mk_Program ?kc_Program ?n_LineReader ?pg_LineReader ?hd_LineReader ?po_LineReader ?sa_LineReader ?mk_LineReader ?kc_LineReader ?na_first_Program ?na_lamp_Program ?na_last_LineReader ?na_leader_Program ?na_read_rows_LineReader ?na_steps_Program ?ne_Program ?mro_Program ?icl_Program ?isp_Program ?itk_Program ?isc_Program ?ity_Program ?nf_Program ?n_is_number ?l_is_number ?c_is_number ?k_is_number ?n_is_within ?l_is_within ?c_is_within ?k_is_within ?n_is_word ?l_is_word ?c_is_word ?k_is_word ?n_is_step ?l_is_step ?c_is_step ?k_is_step ?n_are_steps ?l_are_steps ?c_are_steps ?k_are_steps ?n_step_words ?l_step_words ?c_step_words ?k_step_words ?n_program_text ?l_program_text ?c_program_text ?k_program_text ?n_number_in ?l_number_in ?c_number_in ?k_number_in ?n_is_saying_word ?l_is_saying_word ?c_is_saying_word ?k_is_saying_word ?n_saying_in ?l_saying_in ?c_saying_in ?k_saying_in ?n_LineReader_init ?i_LineReader_init ?l_LineReader_init ?c_LineReader_init ?k_LineReader_init ?n_LineReader_takes_row ?i_LineReader_takes_row ?l_LineReader_takes_row ?c_LineReader_takes_row ?k_LineReader_takes_row ?n_LineReader_takes ?i_LineReader_takes ?l_LineReader_takes ?c_LineReader_takes ?k_LineReader_takes ?n_Program_init ?i_Program_init ?l_Program_init ?c_Program_init ?k_Program_init ?n_read_program ?l_read_program ?c_read_program ?k_read_program ?n__law_pot ?l__law_pot ?c__law_pot ?k__law_pot ?n__law_draw ?l__law_draw ?c__law_draw ?k__law_draw ?n__law_pick ?l__law_pick ?c__law_pick ?k__law_pick ?n__law_same ?l__law_same ?c__law_same ?k__law_same ?n__law_saying ?l__law_saying ?c__law_saying ?k__law_saying ?n__law_spec ?l__law_spec ?c__law_spec ?k__law_spec ?n__law_made ?l__law_made ?c__law_made ?k__law_made ?n__law_lines ?l__law_lines ?c__law_lines ?k__law_lines ?n__law_text_of ?l__law_text_of ?c__law_text_of ?k__law_text_of ?n_Program_eq ?i_Program_eq ?l_Program_eq ?c_Program_eq ?k_Program_eq ?n_law ?l_law ?c_law ?k_law ?z_abs ?z_all ?z_bool ?z_enumerate ?z_int ?z_isinstance ?z_len ?z_list ?z_range ?z_str ?z_tuple ?kc_MOST_SAID ?kc_ALL ?kc_MOST_STATES ?kc_MOST_COLOURS ?kc_DIGITS ?kc_MOST_DIGITS ?kc_HEADS ?kl_HEADS ?kc_OPEN ?kl_OPEN ?kk_OPEN ?ks_OPEN ?kg_OPEN_first ?kg_OPEN_leader ?kg_OPEN_lamp
      (case n_Program => k_is)
      (case pg_Program => k_is)
      (case hd_Program => k_is)
      (case po_Program => k_is)
      (case sa_Program => k_is)
      (case mk_Program => k_is)
      (case kc_Program => k_is)
      (case n_LineReader => k_is)
      (case pg_LineReader => k_is)
      (case hd_LineReader => k_is)
      (case po_LineReader => k_is)
      (case sa_LineReader => k_is)
      (case mk_LineReader => k_is)
      (case kc_LineReader => k_is)
      (case na_first_Program => unfold L2.NoAttr; k_is)
      (case na_lamp_Program => unfold L2.NoAttr; k_is)
      (case na_last_LineReader => unfold L2.NoAttr; k_is)
      (case na_leader_Program => unfold L2.NoAttr; k_is)
      (case na_read_rows_LineReader => unfold L2.NoAttr; k_is)
      (case na_steps_Program => unfold L2.NoAttr; k_is)
      (case ne_Program => k_is)
      (case mro_Program => k_is)
      (case icl_Program => k_is)
      (case isp_Program => k_is)
      (case itk_Program => k_is)
      (case isc_Program => k_is)
      (case ity_Program => k_is)
      (case nf_Program => k_is)
      (case n_is_number => k_is)
      (case l_is_number => k_is)
      (case c_is_number => k_is)
      (case k_is_number => k_is)
      (case n_is_within => k_is)
      (case l_is_within => k_is)
      (case c_is_within => k_is)
      (case k_is_within => k_is)
      (case n_is_word => k_is)
      (case l_is_word => k_is)
      (case c_is_word => k_is)
      (case k_is_word => k_is)
      (case n_is_step => k_is)
      (case l_is_step => k_is)
      (case c_is_step => k_is)
      (case k_is_step => k_is)
      (case n_are_steps => k_is)
      (case l_are_steps => k_is)
      (case c_are_steps => k_is)
      (case k_are_steps => k_is)
      (case n_step_words => k_is)
      (case l_step_words => k_is)
      (case c_step_words => k_is)
      (case k_step_words => k_is)
      (case n_program_text => k_is)
      (case l_program_text => k_is)
      (case c_program_text => k_is)
      (case k_program_text => k_is)
      (case n_number_in => k_is)
      (case l_number_in => k_is)
      (case c_number_in => k_is)
      (case k_number_in => k_is)
      (case n_is_saying_word => k_is)
      (case l_is_saying_word => k_is)
      (case c_is_saying_word => k_is)
      (case k_is_saying_word => k_is)
      (case n_saying_in => k_is)
      (case l_saying_in => k_is)
      (case c_saying_in => k_is)
      (case k_saying_in => k_is)
      (case n_LineReader_init => k_is)
      (case i_LineReader_init => k_is)
      (case l_LineReader_init => k_is)
      (case c_LineReader_init => k_is)
      (case k_LineReader_init => k_is)
      (case n_LineReader_takes_row => k_is)
      (case i_LineReader_takes_row => k_is)
      (case l_LineReader_takes_row => k_is)
      (case c_LineReader_takes_row => k_is)
      (case k_LineReader_takes_row => k_is)
      (case n_LineReader_takes => k_is)
      (case i_LineReader_takes => k_is)
      (case l_LineReader_takes => k_is)
      (case c_LineReader_takes => k_is)
      (case k_LineReader_takes => k_is)
      (case n_Program_init => k_is)
      (case i_Program_init => k_is)
      (case l_Program_init => k_is)
      (case c_Program_init => k_is)
      (case k_Program_init => k_is)
      (case n_read_program => k_is)
      (case l_read_program => k_is)
      (case c_read_program => k_is)
      (case k_read_program => k_is)
      (case n__law_pot => k_is)
      (case l__law_pot => k_is)
      (case c__law_pot => k_is)
      (case k__law_pot => k_is)
      (case n__law_draw => k_is)
      (case l__law_draw => k_is)
      (case c__law_draw => k_is)
      (case k__law_draw => k_is)
      (case n__law_pick => k_is)
      (case l__law_pick => k_is)
      (case c__law_pick => k_is)
      (case k__law_pick => k_is)
      (case n__law_same => k_is)
      (case l__law_same => k_is)
      (case c__law_same => k_is)
      (case k__law_same => k_is)
      (case n__law_saying => k_is)
      (case l__law_saying => k_is)
      (case c__law_saying => k_is)
      (case k__law_saying => k_is)
      (case n__law_spec => k_is)
      (case l__law_spec => k_is)
      (case c__law_spec => k_is)
      (case k__law_spec => k_is)
      (case n__law_made => k_is)
      (case l__law_made => k_is)
      (case c__law_made => k_is)
      (case k__law_made => k_is)
      (case n__law_lines => k_is)
      (case l__law_lines => k_is)
      (case c__law_lines => k_is)
      (case k__law_lines => k_is)
      (case n__law_text_of => k_is)
      (case l__law_text_of => k_is)
      (case c__law_text_of => k_is)
      (case k__law_text_of => k_is)
      (case n_Program_eq => k_is)
      (case i_Program_eq => k_is)
      (case l_Program_eq => k_is)
      (case c_Program_eq => k_is)
      (case k_Program_eq => k_is)
      (case n_law => k_is)
      (case l_law => k_is)
      (case c_law => k_is)
      (case k_law => k_is)
      (case z_abs => k_is)
      (case z_all => k_is)
      (case z_bool => k_is)
      (case z_enumerate => k_is)
      (case z_int => k_is)
      (case z_isinstance => k_is)
      (case z_len => k_is)
      (case z_list => k_is)
      (case z_range => k_is)
      (case z_str => k_is)
      (case z_tuple => k_is)
      (case kc_MOST_SAID => k_is)
      (case kc_ALL => k_is)
      (case kc_MOST_STATES => k_is)
      (case kc_MOST_COLOURS => k_is)
      (case kc_DIGITS => k_is)
      (case kc_MOST_DIGITS => k_is)
      (case kc_HEADS => k_is)
      (case kl_HEADS => k_is)
      (case kc_OPEN => k_is)
      (case kl_OPEN => k_is)
      (case kk_OPEN => exact ⟨⟨_, _, rfl, rfl⟩, ⟨_, _, rfl, rfl⟩, True.intro⟩)
      (case ks_OPEN => rfl)
      (case kg_OPEN_first => k_is)
      (case kg_OPEN_leader => k_is)
      (case kg_OPEN_lamp => k_is)
    subst e1
    exact ⟨T.d_law, e2, fun base _ _ => K02.end_ok (K02.ok_law T) K02.law_true⟩
