import PyProof.Rows.All
import Wide.All
import OpenK.AllK
import Wide.FinOn
import HandS.ForMost
import HandS.Walk
import HandS.Deep
import HandS.IsInst
import HandS.Zip
import HandS.DictComp
import HandS.TupAny
import HandS.TupLe
import HandS.TupMul
import HandS.TupLen
import HandS.Defaults
import HandS.Style
import KE.GoesEnum
import KE.GoesMore
import KE.GoesZip
import HandS.New
import KE.SortData
import KE.KTupSum
import HandS.ExcInit
import HandS.ExcField
import HandS.CallSlots
import HandS.ExcCtx
import HandS.HotCalls
import HandS.ExcInitHot
import KE.KRevSl
import HandS.Conv
import HandS.Star
import PySem.Challenge.RW_laidlaths_k13_whole_finds_beside_all_cho
set_option Elab.async false
set_option linter.all false
set_option maxRecDepth 100000
/-! PL0: data without a heap, what stands for it, the judgements -/
namespace PL
open PySem PySem.Spec PyProof.Rows L2

/-- data: trees, no addresses -/
inductive D where
  | non | bl (b : Bool) | int (i : Int) | str (x : Str)
  | tup (xs : List D) | lst (xs : List D) | dct (t : Bool) (ks vs : List D) | ins (c : Str) (ns : List Str) (vs : List D)

/-- a slot's value: data, a mutable thing by its number in the store, or a list or tuple of the module's own or handed in, read only -/
inductive PV where
  | dat (d : D) | cell (i : Nat) | kon (d : D)
  /-- the j-th list that the dict of cell i owns -/
  | row (i j : Nat)

inductive Cell where
  | gone | flat (d : D)
  /-- a dict (of flat keys, of tuples) or a list that owns its values, lists -/
  | dol (t : Option Bool) (ks : List D) (rows : List (List D))

abbrev Sto := List Cell
abbrev Env := List (Option PV)

structure Kx where
  K : PySem.W.Frag
  mg : Str → Option Value

def keyD : Key → D
  | .inl i => .int i
  | .inr x => .str x
def keysD (k : List Key) : D := .tup (k.map keyD)

mutual
def Rep (k : Kx) (F : Hp) (v : V) : D → Prop
  | .non => v = .non
  | .bl b => v = .bl b
  | .int i => v = .int i
  | .str x => v = .str x
  | .tup ds => ∃ a xs, v = .ref a ∧ F a = some (.tup xs) ∧ Reps k F xs ds
  | .lst ds => ∃ a xs, v = .ref a ∧ F a = some (.lst xs) ∧ Reps k F xs ds
  | .dct false ks vs => ∃ a, v = .ref a ∧ ∃ kvs : List (Key × V), F a = some (.dK kvs) ∧ kvs.map (fun p => keyD p.1) = ks ∧ Reps k F (kvs.map (·.2)) vs
  | .dct true ks vs => ∃ a, v = .ref a ∧ ∃ kvs : List (List Key × V), F a = some (.dT kvs) ∧ kvs.map (fun p => keysD p.1) = ks ∧ Reps k F (kvs.map (·.2)) vs
  | .ins c ns vs => ∃ a C dx fs, v = .ref a ∧ F a = some (.ins C dx fs) ∧ k.mg c = some (.ref C) ∧ fs.map (·.1) = ns ∧ Reps k F (fs.map (·.2)) vs
def Reps (k : Kx) (F : Hp) : List V → List D → Prop
  | [], [] => True
  | v :: vs, d :: ds => Rep k F v d ∧ Reps k F vs ds
  | _, _ => False
end

theorem sqT_mono {K : PySem.W.Frag} {F F' : Hp} {a : Addr} {xs : List V} (e : Same F F') (h : SqT K F a xs) : SqT K F' a xs := by
  rcases h with (h | ⟨o, h⟩) | h
  · exact .inl (.inl (e _ _ h))
  · exact .inl (.inr ⟨o, e _ _ h⟩)
  · exact .inr h

mutual
theorem Rep.mono {k : Kx} {F F' : Hp} (e : Same F F') : ∀ (d : D) {v : V}, Rep k F v d → Rep k F' v d
  | .non, v, h => h
  | .bl _, v, h => h
  | .int _, v, h => h
  | .str _, v, h => h
  | .tup ds, v, h => by
    obtain ⟨a, xs, e1, e2, e3⟩ := (show ∃ a xs, _ from h)
    exact ⟨a, xs, e1, e _ _ e2, Reps.mono e ds e3⟩
  | .lst ds, v, h => by
    obtain ⟨a, xs, e1, e2, e3⟩ := (show ∃ a xs, _ from h)
    exact ⟨a, xs, e1, e _ _ e2, Reps.mono e ds e3⟩
  | .dct false ks vs, v, h => by
    obtain ⟨a, e1, kvs, h1, h2, h3⟩ := (show ∃ a, _ from h)
    exact ⟨a, e1, kvs, e _ _ h1, h2, Reps.mono e vs h3⟩
  | .dct true ks vs, v, h => by
    obtain ⟨a, e1, kvs, h1, h2, h3⟩ := (show ∃ a, _ from h)
    exact ⟨a, e1, kvs, e _ _ h1, h2, Reps.mono e vs h3⟩
  | .ins c ns vs, v, h => by
    obtain ⟨a, C, dx, fs, e1, e2, e3, e4, e5⟩ := (show ∃ a C dx fs, _ from h)
    exact ⟨a, C, dx, fs, e1, e _ _ e2, e3, e4, Reps.mono e vs e5⟩
theorem Reps.mono {k : Kx} {F F' : Hp} (e : Same F F') : ∀ (ds : List D) {vs : List V}, Reps k F vs ds → Reps k F' vs ds
  | [], [], h => h
  | [], _ :: _, h => h
  | _ :: _, [], h => h
  | d :: ds, v :: vs, h => ⟨Rep.mono e d h.1, Reps.mono e ds h.2⟩
end

theorem Reps.length {k : Kx} {F : Hp} : ∀ {ds : List D} {vs : List V}, Reps k F vs ds → vs.length = ds.length
  | [], [], _ => rfl
  | [], _ :: _, h => h.elim
  | _ :: _, [], h => h.elim
  | _ :: ds, _ :: vs, h => by rw [List.length_cons, List.length_cons, Reps.length (ds := ds) h.2]
theorem Reps.get {k : Kx} {F : Hp} : ∀ {ds : List D} {vs : List V} {i : Nat} {d : D}, Reps k F vs ds → ds[i]? = some d → ∃ v, vs[i]? = some v ∧ Rep k F v d
  | [], [], i, d, _, h => by simp at h
  | [], _ :: _, _, _, h, _ => h.elim
  | _ :: _, [], _, _, h, _ => h.elim
  | d :: ds, v :: vs, 0, d', h, e => by
    have e1 : d = d' := Option.some.inj e
    subst e1
    exact ⟨v, rfl, h.1⟩
  | _ :: ds, _ :: vs, i + 1, d', h, e => Reps.get (ds := ds) (vs := vs) (i := i) h.2 e
theorem Reps.getV {k : Kx} {F : Hp} {ds : List D} {vs : List V} {i : Nat} {v : V} (h : Reps k F vs ds) (e : vs[i]? = some v) : ∃ d, ds[i]? = some d ∧ Rep k F v d := by
  have hl := h.length
  have hi : i < ds.length := by
    rw [← hl]
    exact (List.getElem?_eq_some_iff.mp e).1
  obtain ⟨v', e', r⟩ := h.get (List.getElem?_eq_getElem hi)
  rw [e] at e'
  cases e'
  exact ⟨_, List.getElem?_eq_getElem hi, r⟩
theorem Reps.append {k : Kx} {F : Hp} : ∀ {ds es : List D} {vs ws : List V}, Reps k F vs ds → Reps k F ws es → Reps k F (vs ++ ws) (ds ++ es)
  | [], es, [], ws, _, h => h
  | [], _, _ :: _, _, h, _ => h.elim
  | _ :: _, _, [], _, h, _ => h.elim
  | _ :: ds, es, _ :: vs, ws, h, h' => ⟨h.1, Reps.append (ds := ds) h.2 h'⟩
theorem Reps.one {k : Kx} {F : Hp} {d : D} {v : V} (h : Rep k F v d) : Reps k F [v] [d] := ⟨h, trivial⟩
theorem Reps.snoc {k : Kx} {F : Hp} {ds : List D} {vs : List V} {d : D} {v : V} (h : Reps k F vs ds) (h' : Rep k F v d) : Reps k F (vs ++ [v]) (ds ++ [d]) := h.append (Reps.one h')
theorem Reps.take {k : Kx} {F : Hp} : ∀ {ds : List D} {vs : List V} (n : Nat), Reps k F vs ds → Reps k F (vs.take n) (ds.take n)
  | _, _, 0, _ => by simp [Reps]
  | [], [], _ + 1, _ => trivial
  | [], _ :: _, _ + 1, h => h.elim
  | _ :: _, [], _ + 1, h => h.elim
  | _ :: ds, _ :: vs, n + 1, h => ⟨h.1, Reps.take (ds := ds) n h.2⟩
theorem Reps.drop {k : Kx} {F : Hp} : ∀ {ds : List D} {vs : List V} (n : Nat), Reps k F vs ds → Reps k F (vs.drop n) (ds.drop n)
  | _, _, 0, h => h
  | [], [], _ + 1, _ => trivial
  | [], _ :: _, _ + 1, h => h.elim
  | _ :: _, [], _ + 1, h => h.elim
  | _ :: ds, _ :: vs, n + 1, h => Reps.drop (ds := ds) n h.2
theorem Reps.set {k : Kx} {F : Hp} {d : D} {v : V} (r : Rep k F v d) : ∀ {ds : List D} {vs : List V} (i : Nat), Reps k F vs ds → Reps k F (vs.set i v) (ds.set i d)
  | [], [], _, _ => trivial
  | [], _ :: _, _, h => h.elim
  | _ :: _, [], _, h => h.elim
  | _ :: ds, _ :: vs, 0, h => ⟨r, h.2⟩
  | _ :: ds, _ :: vs, i + 1, h => ⟨h.1, Reps.set r (ds := ds) i h.2⟩
theorem Reps.dropLast {k : Kx} {F : Hp} {ds : List D} {vs : List V} (h : Reps k F vs ds) : Reps k F vs.dropLast ds.dropLast := by
  rw [List.dropLast_eq_take, List.dropLast_eq_take, h.length]
  exact h.take _

/-- an object and its data -/
def ObjRep (k : Kx) (F : Hp) : HO → D → Prop
  | .lst vs, .lst ds => Reps k F vs ds
  | .dK kvs, .dct false ks vs => kvs.map (fun p => keyD p.1) = ks ∧ Reps k F (kvs.map (·.2)) vs
  | .dT kvs, .dct true ks vs => kvs.map (fun p => keysD p.1) = ks ∧ Reps k F (kvs.map (·.2)) vs
  | .ins C _ fs, .ins c ns vs => k.mg c = some (.ref C) ∧ fs.map (·.1) = ns ∧ Reps k F (fs.map (·.2)) vs
  | _, _ => False
theorem ObjRep.mono {k : Kx} {F F' : Hp} (e : Same F F') : ∀ {o : HO} {d : D}, ObjRep k F o d → ObjRep k F' o d := by
  intro o d h
  unfold ObjRep at h ⊢
  split at h
  · exact Reps.mono e _ h
  · exact ⟨h.1, Reps.mono e _ h.2⟩
  · exact ⟨h.1, Reps.mono e _ h.2⟩
  · exact ⟨h.1, h.2.1, Reps.mono e _ h.2.2⟩
  · exact h.elim

/-- the ghost: the store, the frozen heap, what stands apart, the cells' addresses -/
structure Gh where
  μ : Sto
  F : Hp
  P : Hp
  ι : List Addr
  /-- what owns a list: the dict, at which place -/
  W : Addr → Option (Addr × Nat)

/-- lists that are owned by p, from the n-th on -/
def Rows (k : Kx) (F : Hp) (W : Addr → Option (Addr × Nat)) (H : Hp) (p : Addr) : Nat → List V → List (List D) → Prop
  | _, [], [] => True
  | n, v :: vs, r :: rs => (∃ q xs, v = .ref q ∧ W q = some (p, n) ∧ F q = none ∧ H q = some (.lst xs) ∧ Reps k F xs r) ∧ Rows k F W H p (n + 1) vs rs
  | _, _, _ => False
theorem Rows.mono {k : Kx} {F F' : Hp} {W W' : Addr → Option (Addr × Nat)} {H H' : Hp} {p : Addr} (e : Same F F') (h : ∀ q j, W q = some (p, j) → F q = none → W' q = some (p, j) ∧ F' q = none ∧ H' q = H q) : ∀ {n : Nat} {vs : List V} {rs : List (List D)}, Rows k F W H p n vs rs → Rows k F' W' H' p n vs rs
  | _, [], [], _ => trivial
  | _, [], _ :: _, r => r.elim
  | _, _ :: _, [], r => r.elim
  | n, _ :: vs, _ :: rs, ⟨⟨q, xs, h1, h2, hF, h3, h4⟩, r⟩ => ⟨⟨q, xs, h1, (h q n h2 hF).1, (h q n h2 hF).2.1, by rw [(h q n h2 hF).2.2]; exact h3, Reps.mono e _ h4⟩, Rows.mono (n := n + 1) (vs := vs) (rs := rs) e h r⟩
def CellRep (k : Kx) (F : Hp) (W : Addr → Option (Addr × Nat)) (H : Hp) (p : Addr) : HO → Cell → Prop
  | o, .flat d => ObjRep k F o d
  | .dK kvs, .dol (some false) ks rows => kvs.map (fun p => keyD p.1) = ks ∧ Rows k F W H p 0 (kvs.map (·.2)) rows ∧ ∀ b j, W b = some (p, j) → j < rows.length
  | .dT kvs, .dol (some true) ks rows => kvs.map (fun p => keysD p.1) = ks ∧ Rows k F W H p 0 (kvs.map (·.2)) rows ∧ ∀ b j, W b = some (p, j) → j < rows.length
  | .lst vs, .dol none ks rows => ks = [] ∧ Rows k F W H p 0 vs rows ∧ ∀ b j, W b = some (p, j) → j < rows.length
  | _, _ => False
theorem CellRep.mono {k : Kx} {F F' : Hp} {W W' : Addr → Option (Addr × Nat)} {H H' : Hp} {p : Addr} (e : Same F F') (h : ∀ q j, W q = some (p, j) → F q = none → W' q = some (p, j) ∧ F' q = none ∧ H' q = H q) (h' : ∀ b j, W' b = some (p, j) → W b = some (p, j) := by exact fun _ _ h => h) : ∀ {o : HO} {c : Cell}, CellRep k F W H p o c → CellRep k F' W' H' p o c := by
  intro o c r
  unfold CellRep at r ⊢
  split at r
  · exact ObjRep.mono e r
  · exact ⟨r.1, Rows.mono e h r.2.1, fun b j g => r.2.2 b j (h' b j g)⟩
  · exact ⟨r.1, Rows.mono e h r.2.1, fun b j g => r.2.2 b j (h' b j g)⟩
  · exact ⟨r.1, Rows.mono e h r.2.1, fun b j g => r.2.2 b j (h' b j g)⟩
  · exact r.elim

structure WG (k : Kx) (G : Gh) (H : Hp) : Prop where
  fr : Same G.F H
  ap : Same G.P H
  len : G.ι.length = G.μ.length
  nd : G.ι.Nodup
  liv : ∀ {i : Nat} {p : Addr} {c : Cell}, G.ι[i]? = some p → G.μ[i]? = some c → c ≠ .gone → G.F p = none ∧ ∃ o, H p = some o ∧ Mut (some o) ∧ CellRep k G.F G.W H p o c
  own : ∀ {q : Addr} {x : Addr × Nat}, G.W q = some x → G.P q = none ∧ q ∉ G.ι ∧ H q ≠ none
  inj : ∀ {q q' : Addr} {x : Addr × Nat}, G.W q = some x → G.W q' = some x → q = q'
  there : ∀ {p : Addr}, p ∈ G.ι → H p ≠ none
  pi : ∀ {p : Addr}, p ∈ G.ι → G.P p = none
  fp : ∀ {p : Addr} {o : HO}, G.P p = some o → G.F p = none

theorem WG.live {k : Kx} {G : Gh} {H : Hp} (w : WG k G H) {i : Nat} {p : Addr} {d : D} (h1 : G.ι[i]? = some p) (h2 : G.μ[i]? = some (Cell.flat d)) : G.F p = none ∧ ∃ o, H p = some o ∧ Mut (some o) ∧ ObjRep k G.F o d := by
  obtain ⟨f, o, ho, mu, r⟩ := w.liv h1 h2 (by simp)
  refine ⟨f, o, ho, mu, ?_⟩
  unfold CellRep at r
  exact r

structure Ext (G G' : Gh) : Prop where
  f : Same G.F G'.F
  p : G'.P = G.P
  o : ∀ q x, x.1 ∈ G.ι → G.W q = some x → G'.W q = some x
  i : ∃ t, G'.ι = G.ι ++ t
theorem Ext.refl (G : Gh) : Ext G G := ⟨Same.refl _, rfl, fun _ _ _ h => h, [], by simp⟩
theorem Ext.trans {G G1 G2 : Gh} (a : Ext G G1) (b : Ext G1 G2) : Ext G G2 := by
  obtain ⟨t, ht⟩ := a.i
  obtain ⟨u, hu⟩ := b.i
  exact ⟨a.f.trans b.f, b.p.trans a.p, fun q x m h => b.o q x (by rw [ht]; exact List.mem_append_left _ m) (a.o q x m h), t ++ u, by rw [hu, ht, List.append_assoc]⟩
theorem Ext.at {G G' : Gh} (a : Ext G G') {i : Nat} {p : Addr} (h : G.ι[i]? = some p) : G'.ι[i]? = some p := by
  obtain ⟨t, ht⟩ := a.i
  rw [ht, List.getElem?_append_left (List.getElem?_eq_some_iff.mp h).1]
  exact h

/-- a list or tuple that is read only -/
def RepC (k : Kx) (F : Hp) (v : V) : D → Prop
  | .tup ds => ∃ a xs, v = .ref a ∧ SqT k.K F a xs ∧ Reps k F xs ds
  | .lst ds => ∃ a xs, v = .ref a ∧ SqL k.K F a xs ∧ Reps k F xs ds
  | _ => False
theorem RepC.mono {k : Kx} {F F' : Hp} (e : Same F F') : ∀ {d : D} {v : V}, RepC k F v d → RepC k F' v d
  | .tup ds, v, h => by
    obtain ⟨a, xs, e1, e2, e3⟩ := (show ∃ a xs, _ from h)
    exact ⟨a, xs, e1, sqT_mono e e2, Reps.mono e ds e3⟩
  | .lst ds, v, h => by
    obtain ⟨a, xs, e1, e2, e3⟩ := (show ∃ a xs, _ from h)
    exact ⟨a, xs, e1, e.seq e2, Reps.mono e ds e3⟩
def VRep (k : Kx) (G : Gh) (v : V) : PV → Prop
  | .dat d => Rep k G.F v d
  | .cell i => ∃ p, G.ι[i]? = some p ∧ v = .ref p
  | .kon d => RepC k G.F v d
  | .row i j => ∃ p q, G.ι[i]? = some p ∧ G.W q = some (p, j) ∧ v = .ref q
theorem VRep.ext {k : Kx} {G G' : Gh} (a : Ext G G') {v : V} : ∀ {x : PV}, VRep k G v x → VRep k G' v x
  | .dat d, h => Rep.mono a.f d h
  | .cell i, ⟨p, h, e⟩ => ⟨p, a.at h, e⟩
  | .kon d, h => RepC.mono a.f h
  | .row i j, ⟨p, q, h1, h2, h3⟩ => ⟨p, q, a.at h1, a.o _ _ (List.mem_of_getElem? h1) h2, h3⟩
def VReps (k : Kx) (G : Gh) : List V → List PV → Prop
  | [], [] => True
  | v :: vs, x :: xs => VRep k G v x ∧ VReps k G vs xs
  | _, _ => False
theorem VReps.ext {k : Kx} {G G' : Gh} (a : Ext G G') : ∀ {vs : List V} {xs : List PV}, VReps k G vs xs → VReps k G' vs xs
  | [], [], h => h
  | [], _ :: _, h => h.elim
  | _ :: _, [], h => h.elim
  | v :: vs, x :: xs, h => ⟨VRep.ext a h.1, VReps.ext a h.2⟩
theorem VReps.length {k : Kx} {G : Gh} : ∀ {vs : List V} {xs : List PV}, VReps k G vs xs → vs.length = xs.length
  | [], [], _ => rfl
  | [], _ :: _, h => h.elim
  | _ :: _, [], h => h.elim
  | v :: vs, x :: xs, h => by rw [List.length_cons, List.length_cons, VReps.length h.2]

structure EnvOk (k : Kx) (G : Gh) (σ : L2.St) (ρ : Env) : Prop where
  len : σ.length = ρ.length
  at' : ∀ (i : Nat) (x : PV), ρ[i]? = some (some x) → ∃ v, σ[i]? = some (some v) ∧ VRep k G v x
theorem EnvOk.ext {k : Kx} {G G' : Gh} (a : Ext G G') {σ : L2.St} {ρ : Env} (h : EnvOk k G σ ρ) : EnvOk k G' σ ρ := ⟨h.len, fun i x e =>
  let ⟨v, h1, h2⟩ := h.at' i x e
  ⟨v, h1, h2.ext a⟩⟩

/-! ### the pure side -/
abbrev ME := Env → Sto → Option (PV × Sto)
abbrev MT := Env → Sto → Option (Bool × Sto)
abbrev MA := Env → Sto → Option (List PV × Sto)
inductive Out where
  | nx | rt (v : PV) | bk | ct
abbrev MS := Env → Sto → Option (Out × Env × Sto)
abbrev Fn := List PV → Sto → Option (PV × Sto)

def tE (k : Kx) (m : ME) : TE := fun σ H Q => ∃ G ρ, WG k G H ∧ EnvOk k G σ ρ ∧ ∃ x μ', m ρ G.μ = some (x, μ') ∧
  ∀ v H' G', Ext G G' → G'.μ = μ' → WG k G' H' → VRep k G' v x → Q v H'
def tT (k : Kx) (m : MT) : TT := fun σ H Q => ∃ G ρ, WG k G H ∧ EnvOk k G σ ρ ∧ ∃ b μ', m ρ G.μ = some (b, μ') ∧
  ∀ H' G', Ext G G' → G'.μ = μ' → WG k G' H' → Q b H'
def tA (k : Kx) (m : MA) : TA := fun σ H Q => ∃ G ρ, WG k G H ∧ EnvOk k G σ ρ ∧ ∃ xs μ', m ρ G.μ = some (xs, μ') ∧
  ∀ vs H' G', Ext G G' → G'.μ = μ' → WG k G' H' → VReps k G' vs xs → Q vs H'
def endOf (k : Kx) (G' : Gh) (σ' : L2.St) (H' : Hp) (D : Ends) : Out → Prop
  | .nx => D.nx σ' H'
  | .rt x => ∀ v, VRep k G' v x → D.rt v H'
  | .bk => D.bk σ' H'
  | .ct => D.ct σ' H'
def tS (k : Kx) (m : MS) : TS := fun D σ H => ∃ G ρ, WG k G H ∧ EnvOk k G σ ρ ∧ ∃ o ρ' μ', m ρ G.μ = some (o, ρ', μ') ∧
  ∀ σ' H' G', Ext G G' → G'.μ = μ' → WG k G' H' → EnvOk k G' σ' ρ' → endOf k G' σ' H' D o
abbrev kx (X : Cx) : Kx := ⟨X.K, X.mg⟩
abbrev EX (X : Cx) (e : Expr) (m : ME) : Prop := PE X e (tE (kx X) m)
abbrev TX (X : Cx) (e : Expr) (m : MT) : Prop := PT X e (tT (kx X) m)
abbrev AX (X : Cx) (es : List Expr) (m : MA) : Prop := PA X es (tA (kx X) m)
abbrev SX (X : Cx) (s : Stmt) (m : MS) : Prop := PS X s (tS (kx X) m)
abbrev BX (X : Cx) (ss : List Stmt) (m : MS) : Prop := PSs X ss (tS (kx X) m)

theorem _root_.L2.PE.mono {X : Cx} {e : Expr} {t t' : TE} (h : PE X e t) (w : ∀ σ H Q, t' σ H Q → t σ H Q) : PE X e t' := ⟨fun pins s σ H Q I hw => h.run pins s σ H Q I (w _ _ _ hw)⟩
theorem _root_.L2.PT.mono {X : Cx} {e : Expr} {t t' : TT} (h : PT X e t) (w : ∀ σ H Q, t' σ H Q → t σ H Q) : PT X e t' := ⟨fun pins s σ H Q I hw => h.run pins s σ H Q I (w _ _ _ hw)⟩
theorem _root_.L2.PW.mono {X : Cx} {e : Expr} {t t' : TT} (h : PW X e t) (w : ∀ σ H Q, t' σ H Q → t σ H Q) : PW X e t' := ⟨fun wh pins s σ H Q I hw => h.run wh pins s σ H Q I (w _ _ _ hw)⟩
theorem _root_.L2.PA.mono {X : Cx} {e : List Expr} {t t' : TA} (h : PA X e t) (w : ∀ σ H Q, t' σ H Q → t σ H Q) : PA X e t' := ⟨fun pos pins s σ H Q I hw => h.run pos pins s σ H Q I (w _ _ _ hw)⟩
theorem _root_.L2.PS.mono {X : Cx} {e : Stmt} {t t' : TS} (h : PS X e t) (w : ∀ D σ H, t' D σ H → t D σ H) : PS X e t' := ⟨fun pins s σ H D I hw => h.run pins s σ H D I (w _ _ _ hw)⟩
theorem _root_.L2.PSs.mono {X : Cx} {e : List Stmt} {t t' : TS} (h : PSs X e t) (w : ∀ D σ H, t' D σ H → t D σ H) : PSs X e t' := ⟨fun pins s σ H D I hw => h.run pins s σ H D I (w _ _ _ hw)⟩
end PL

set_option Elab.async false
set_option linter.all false
set_option maxRecDepth 100000
namespace PL
open PySem PySem.Spec PyProof.Rows L2

/-! ### the ghost: what keeps it -/
theorem same_new {H : Hp} {p : Addr} {o : HO} (h : H p = none) : Same H (upd H p o) := fun b x e => by
  rw [upd_ne (ne_of_none e h)]
  exact e
section
variable {k : Kx} {G : Gh} {H : Hp} {p : Addr} {o : HO}
theorem WG.fnew (w : WG k G H) (hp : H p = none) : G.F p = none := w.fr.free hp
theorem WG.extF (w : WG k G H) (hp : H p = none) : Ext G { G with F := upd G.F p o } := ⟨same_new (w.fnew hp), rfl, fun _ _ _ h => h, [], by simp⟩
theorem WG.upd_own (w : WG k G H) {q r : Addr} {c : Addr × Nat} (e : G.W q = some c) (hr : H r = none) : upd H r o q = H q := by
  have : q ≠ r := fun z => by subst z; exact (w.own e).2.2 hr
  rw [upd_ne this]
theorem WG.upd_at (w : WG k G H) {q r : Addr} {c : Addr × Nat} (e : G.W q = some c) (hr : r ∈ G.ι) : upd H r o q = H q := by
  have : q ≠ r := fun z => by subst z; exact (w.own e).2.1 hr
  rw [upd_ne this]
theorem same_upd2 {F H : Hp} (e : Same F H) (hp : H p = none) : Same (upd F p o) (upd H p o) := fun b x q => by
  by_cases hb : b = p
  · subst hb
    rw [upd_same] at q ⊢
    exact q
  · rw [upd_ne hb] at q ⊢
    exact e b x q
/-- a new frozen thing -/
theorem WG.new (w : WG k G H) (hp : H p = none) : WG k { G with F := upd G.F p o } (upd H p o) where
  fr := same_upd2 w.fr hp
  ap := fun b x e => by
    have e' := w.ap b x e
    rw [upd_ne (ne_of_none e' hp)]
    exact e'
  len := w.len
  nd := w.nd
  own := fun {q c} e => by
    obtain ⟨a2, a3, a4⟩ := w.own e
    have hq : q ≠ p := fun z => by subst z; exact a4 hp
    refine ⟨a2, a3, ?_⟩
    rw [upd_ne hq]; exact a4
  inj := w.inj
  liv := fun {i q d} h1 h2 h3 => by
    obtain ⟨f, o', ho, mu, r⟩ := w.liv h1 h2 h3
    have hq : q ≠ p := ne_of_none ho hp
    refine ⟨?_, o', ?_, mu, r.mono (same_new (w.fnew hp)) fun q j e hF => ⟨e, (by show upd G.F p o q = none; rw [upd_ne (fun z => by subst z; exact (w.own e).2.2 hp)]; exact hF), w.upd_own e hp⟩⟩
    · show upd G.F p o q = none
      rw [upd_ne hq]; exact f
    · rw [upd_ne hq]; exact ho
  there := fun {q} hq => by
    have := w.there hq
    by_cases e : q = p
    · subst e; exact absurd hp this
    · rw [upd_ne e]; exact this
  pi := w.pi
  fp := fun {q o'} e => by
    show upd G.F p o q = none
    rw [upd_ne (ne_of_none (w.ap _ _ e) hp)]; exact w.fp e
/-- a new cell -/
theorem WG.newCell' (w : WG k G H) (hp : H p = none) (mu : Mut (some o)) {c : Cell} (r : CellRep k G.F G.W H p o c) : WG k { G with μ := G.μ ++ [c], ι := G.ι ++ [p] } (upd H p o) where
  own := fun {q c} e => by
    obtain ⟨a2, a3, a4⟩ := w.own e
    have hq : q ≠ p := fun z => by subst z; exact a4 hp
    refine ⟨a2, ?_, ?_⟩
    · show q ∉ G.ι ++ [p]
      intro h
      rcases List.mem_append.mp h with h | h
      · exact a3 h
      · simp at h; exact hq h
    · rw [upd_ne hq]; exact a4
  inj := w.inj
  fr := fun b x e => by
    have e' := w.fr b x e
    rw [upd_ne (ne_of_none e' hp)]; exact e'
  ap := fun b x e => by
    have e' := w.ap b x e
    rw [upd_ne (ne_of_none e' hp)]; exact e'
  len := by simp [w.len]
  nd := by
    have : p ∉ G.ι := fun h => w.there h hp
    rw [List.nodup_append]
    refine ⟨w.nd, by simp, fun a ha b hb e => ?_⟩
    simp at hb
    subst hb
    subst e
    exact this ha
  liv := fun {i q d'} h1 h2 h3 => by
    by_cases hi : i < G.ι.length
    · rw [List.getElem?_append_left hi] at h1
      rw [List.getElem?_append_left (by rw [← w.len]; exact hi)] at h2
      obtain ⟨f, o', ho, mu', r'⟩ := w.liv h1 h2 h3
      exact ⟨f, o', by rw [upd_ne (ne_of_none ho hp)]; exact ho, mu', r'.mono (Same.refl _) fun q j e hF => ⟨e, hF, w.upd_own e hp⟩⟩
    · have hi' : i = G.ι.length := by
        have := (List.getElem?_eq_some_iff.mp h1).1
        simp at this
        omega
      subst hi'
      rw [List.getElem?_append_right (Nat.le_refl _)] at h1
      rw [List.getElem?_append_right (by rw [w.len]; exact Nat.le_refl _)] at h2
      simp [w.len] at h1 h2
      subst h1 h2
      exact ⟨w.fnew hp, o, upd_same, mu, r.mono (Same.refl _) fun q j e hF => ⟨e, hF, w.upd_own e hp⟩⟩
  there := fun {q} hq => by
    rcases List.mem_append.mp hq with h | h
    · have := w.there h
      by_cases e : q = p
      · subst e; exact absurd hp this
      · rw [upd_ne e]; exact this
    · simp at h
      subst h
      rw [upd_same]
      simp
  pi := fun {q} hq => by
    rcases List.mem_append.mp hq with h | h
    · exact w.pi h
    · simp at h
      subst h
      exact w.ap.free hp
  fp := w.fp
theorem WG.newCell (w : WG k G H) (hp : H p = none) (mu : Mut (some o)) {d : D} (r : ObjRep k G.F o d) : WG k { G with μ := G.μ ++ [.flat d], ι := G.ι ++ [p] } (upd H p o) := w.newCell' hp mu (by unfold CellRep; exact r)
theorem WG.extC (w : WG k G H) (c : Cell) : Ext G { G with μ := G.μ ++ [c], ι := G.ι ++ [p] } := ⟨Same.refl _, rfl, fun _ _ _ h => h, [p], rfl⟩
/-- a cell is written -/
theorem WG.write' (w : WG k G H) {i : Nat} {c c' : Cell} (h1 : G.ι[i]? = some p) (h2 : G.μ[i]? = some c) (h0 : c ≠ .gone) (mu : Mut (some o)) (r : CellRep k G.F G.W H p o c') : WG k { G with μ := G.μ.set i c' } (upd H p o) where
  own := fun {q c} e => by
    obtain ⟨a2, a3, a4⟩ := w.own e
    exact ⟨a2, a3, by rw [w.upd_at e (List.mem_of_getElem? h1)]; exact a4⟩
  inj := w.inj
  fr := fun b x e => by
    have hb : b ≠ p := ne_of_none e (w.liv h1 h2 h0).1
    rw [upd_ne hb]; exact w.fr b x e
  ap := fun b x e => by
    have hb : b ≠ p := ne_of_none e (w.pi (List.mem_of_getElem? h1))
    rw [upd_ne hb]; exact w.ap b x e
  len := by simp [w.len]
  nd := w.nd
  liv := fun {j q e} g1 g2 g3 => by
    have hil : i < G.μ.length := (List.getElem?_eq_some_iff.mp h2).1
    by_cases hj : j = i
    · subst hj
      simp only at g1 g2
      rw [h1] at g1; cases g1
      rw [List.getElem?_set_self hil] at g2; cases g2
      exact ⟨(w.liv h1 h2 h0).1, o, upd_same, mu, r.mono (Same.refl _) fun q j e hF => ⟨e, hF, w.upd_at e (List.mem_of_getElem? h1)⟩⟩
    · simp only at g1 g2
      rw [List.getElem?_set_ne (Ne.symm hj)] at g2
      obtain ⟨f, o', ho, mu', r'⟩ := w.liv g1 g2 g3
      have hq : q ≠ p := fun z => hj (by
        subst z
        obtain ⟨a1, b1⟩ := List.getElem?_eq_some_iff.mp g1
        obtain ⟨a2, b2⟩ := List.getElem?_eq_some_iff.mp h1
        exact (List.getElem_inj w.nd).mp (b1.trans b2.symm))
      exact ⟨f, o', by rw [upd_ne hq]; exact ho, mu', r'.mono (Same.refl _) fun q j e hF => ⟨e, hF, w.upd_at e (List.mem_of_getElem? h1)⟩⟩
  there := fun {q} hq => by
    by_cases e : q = p
    · subst e; rw [upd_same]; simp
    · rw [upd_ne e]; exact w.there hq
  pi := w.pi
  fp := w.fp
theorem WG.write (w : WG k G H) {i : Nat} {d d' : D} (h1 : G.ι[i]? = some p) (h2 : G.μ[i]? = some (Cell.flat d)) (mu : Mut (some o)) (r : ObjRep k G.F o d') : WG k { G with μ := G.μ.set i (.flat d') } (upd H p o) := w.write' h1 h2 (by simp) mu (by unfold CellRep; exact r)
theorem WG.extM (G : Gh) (μ' : Sto) : Ext G { G with μ := μ' } := ⟨Same.refl _, rfl, fun _ _ _ h => h, [], by simp⟩
/-- a cell is frozen -/
theorem WG.freeze (w : WG k G H) {i : Nat} {d : D} (h1 : G.ι[i]? = some p) (h2 : G.μ[i]? = some (Cell.flat d)) (ho : H p = some o) : WG k { G with μ := G.μ.set i .gone, F := upd G.F p o } H where
  fr := fun b x e => by
    have e' : upd G.F p o b = some x := e
    by_cases hb : b = p
    · subst hb; rw [upd_same] at e'; cases e'; exact ho
    · rw [upd_ne hb] at e'; exact w.fr b x e'
  ap := w.ap
  len := by simp [w.len]
  nd := w.nd
  own := fun {q c} e => by
    obtain ⟨a2, a3, a4⟩ := w.own e
    exact ⟨a2, a3, a4⟩
  inj := w.inj
  liv := fun {j q e} g1 g2 g3 => by
    have hil : i < G.μ.length := (List.getElem?_eq_some_iff.mp h2).1
    by_cases hj : j = i
    · subst hj
      simp only at g1 g2
      rw [List.getElem?_set_self hil] at g2; cases g2
      exact absurd rfl g3
    · simp only at g1 g2
      rw [List.getElem?_set_ne (Ne.symm hj)] at g2
      obtain ⟨f, o', ho', mu', r'⟩ := w.liv g1 g2 g3
      have hq : q ≠ p := fun z => hj (by
        subst z
        obtain ⟨a1, b1⟩ := List.getElem?_eq_some_iff.mp g1
        obtain ⟨a2, b2⟩ := List.getElem?_eq_some_iff.mp h1
        exact (List.getElem_inj w.nd).mp (b1.trans b2.symm))
      refine ⟨?_, o', ho', mu', r'.mono (same_new (w.live h1 h2).1) fun q j e hF => ⟨e, (by show upd G.F p o q = none; rw [upd_ne (fun z => by subst z; exact (w.own e).2.1 (List.mem_of_getElem? h1))]; exact hF), rfl⟩⟩
      show upd G.F p o q = none
      rw [upd_ne hq]; exact f
  there := w.there
  pi := w.pi
  fp := fun {q o'} e => by
    have hq : q ≠ p := ne_of_none e (w.pi (List.mem_of_getElem? h1))
    show upd G.F p o q = none
    rw [upd_ne hq]; exact w.fp e
theorem WG.extFr (w : WG k G H) {i : Nat} {d : D} (h1 : G.ι[i]? = some p) (h2 : G.μ[i]? = some (Cell.flat d)) (μ' : Sto) : Ext G { G with μ := μ', F := upd G.F p o } := ⟨same_new (w.live h1 h2).1, rfl, fun _ _ _ h => h, [], by simp⟩
/-- the store cut off -/
theorem WG.cut (w : WG k G H) (n : Nat) : WG k { G with μ := G.μ.take n, ι := G.ι.take n } H where
  fr := w.fr
  ap := w.ap
  len := by simp [w.len]
  nd := w.nd.sublist (List.take_sublist _ _)
  own := fun {q c} e => by
    obtain ⟨a2, a3, a4⟩ := w.own e
    exact ⟨a2, fun h => a3 (List.mem_of_mem_take h), a4⟩
  inj := w.inj
  liv := fun {i q d} h1 h2 h3 => by
    simp only at h1 h2
    rw [List.getElem?_take] at h1 h2
    split at h1
    · rename_i hi
      rw [if_pos hi] at h2
      exact w.liv h1 h2 h3
    · cases h1
  there := fun {q} hq => w.there (List.mem_of_mem_take hq)
  pi := fun {q} hq => w.pi (List.mem_of_mem_take hq)
  fp := w.fp
/-- .. but for one cell -/
theorem WG.cutK (w : WG k G H) {n i : Nat} {c : Cell} (hn : n ≤ i) (h1 : G.ι[i]? = some p) (h2 : G.μ[i]? = some c) : WG k { G with μ := G.μ.take n ++ [c], ι := G.ι.take n ++ [p] } H where
  fr := w.fr
  ap := w.ap
  len := by simp [w.len]
  nd := by
    rw [List.nodup_append]
    refine ⟨w.nd.sublist (List.take_sublist _ _), by simp, fun a ha b hb e => ?_⟩
    simp at hb
    subst hb
    subst e
    obtain ⟨j, hj, e2⟩ := List.mem_take_iff_getElem.mp ha
    obtain ⟨a2, b2⟩ := List.getElem?_eq_some_iff.mp h1
    have := (List.getElem_inj w.nd).mp (e2.trans b2.symm)
    omega
  own := fun {q c} e => by
    obtain ⟨a2, a3, a4⟩ := w.own e
    refine ⟨a2, fun h => ?_, a4⟩
    rcases List.mem_append.mp h with h | h
    · exact a3 (List.mem_of_mem_take h)
    · simp at h; subst h; exact a3 (List.mem_of_getElem? h1)
  inj := w.inj
  liv := fun {j q d} g1 g2 g3 => by
    have hil : i < G.ι.length := (List.getElem?_eq_some_iff.mp h1).1
    have l1 : (G.ι.take n).length = n := by simp; omega
    have l2 : (G.μ.take n).length = n := by simp; have := w.len; omega
    simp only at g1 g2
    by_cases hj : j < n
    · rw [List.getElem?_append_left (by omega), List.getElem?_take, if_pos hj] at g1 g2
      exact w.liv g1 g2 g3
    · rw [List.getElem?_append_right (by omega)] at g1 g2
      rw [l1] at g1
      rw [l2] at g2
      have hj' : j - n = 0 := by
        have := (List.getElem?_eq_some_iff.mp g1).1
        simp at this
        omega
      rw [hj'] at g1 g2
      simp at g1 g2
      subst g1 g2
      exact w.liv h1 h2 g3
  there := fun {q} hq => by
    rcases List.mem_append.mp hq with h | h
    · exact w.there (List.mem_of_mem_take h)
    · simp at h; subst h; exact w.there (List.mem_of_getElem? h1)
  pi := fun {q} hq => by
    rcases List.mem_append.mp hq with h | h
    · exact w.pi (List.mem_of_mem_take h)
    · simp at h; subst h; exact w.pi (List.mem_of_getElem? h1)
  fp := w.fp
/-- a thing put apart -/
theorem WG.pin (w : WG k G H) (hp : H p = none) : WG k { G with P := upd G.P p o } (upd H p o) where
  fr := fun b x e => by
    have e' := w.fr b x e
    rw [upd_ne (ne_of_none e' hp)]; exact e'
  ap := same_upd2 w.ap hp
  len := w.len
  nd := w.nd
  own := fun {q c} e => by
    obtain ⟨a2, a3, a4⟩ := w.own e
    have hq : q ≠ p := fun z => by subst z; exact a4 hp
    refine ⟨?_, a3, ?_⟩
    · show upd G.P p o q = none
      rw [upd_ne hq]; exact a2
    · rw [upd_ne hq]; exact a4
  inj := w.inj
  liv := fun {i q d} h1 h2 h3 => by
    obtain ⟨f, o', ho, mu, r⟩ := w.liv h1 h2 h3
    exact ⟨f, o', by rw [upd_ne (ne_of_none ho hp)]; exact ho, mu, r.mono (Same.refl _) fun q j e hF => ⟨e, hF, w.upd_own e hp⟩⟩
  there := fun {q} hq => by
    have := w.there hq
    by_cases e : q = p
    · subst e; exact absurd hp this
    · rw [upd_ne e]; exact this
  pi := fun {q} hq => by
    show upd G.P p o q = none
    have : q ≠ p := fun e => by subst e; exact w.there hq hp
    rw [upd_ne this]; exact w.pi hq
  fp := fun {q o'} e => by
    have e' : upd G.P p o q = some o' := e
    by_cases hb : q = p
    · subst hb; exact w.fnew hp
    · rw [upd_ne hb] at e'; exact w.fp e'
/-- .. written -/
theorem WG.repin (w : WG k G H) {o' : HO} (hP : G.P p = some o') : WG k { G with P := upd G.P p o } (upd H p o) where
  fr := fun b x e => by
    rw [upd_ne (ne_of_none e (w.fp hP))]; exact w.fr b x e
  ap := fun b x e => by
    have e' : upd G.P p o b = some x := e
    by_cases hb : b = p
    · subst hb; rw [upd_same] at e' ⊢; exact e'
    · rw [upd_ne hb] at e' ⊢; exact w.ap b x e'
  len := w.len
  nd := w.nd
  own := fun {q c} e => by
    obtain ⟨a2, a3, a4⟩ := w.own e
    have hq : q ≠ p := fun z => by subst z; rw [hP] at a2; cases a2
    refine ⟨?_, a3, ?_⟩
    · show upd G.P p o q = none
      rw [upd_ne hq]; exact a2
    · rw [upd_ne hq]; exact a4
  inj := w.inj
  liv := fun {i q d} h1 h2 h3 => by
    obtain ⟨f, o2, ho, mu, r⟩ := w.liv h1 h2 h3
    have hq : q ≠ p := fun e => by
      subst e
      have := w.pi (List.mem_of_getElem? h1)
      rw [hP] at this
      cases this
    refine ⟨f, o2, by rw [upd_ne hq]; exact ho, mu, r.mono (Same.refl _) fun b j e hF => ⟨e, hF, ?_⟩⟩
    have hb : b ≠ p := fun z => by subst z; have := (w.own e).1; rw [hP] at this; cases this
    rw [upd_ne hb]
  there := fun {q} hq => by
    by_cases e : q = p
    · subst e; rw [upd_same]; simp
    · rw [upd_ne e]; exact w.there hq
  pi := fun {q} hq => by
    show upd G.P p o q = none
    have : q ≠ p := fun e => by
      subst e
      have := w.pi hq
      rw [hP] at this
      cases this
    rw [upd_ne this]; exact w.pi hq
  fp := fun {q o2} e => by
    have e' : upd G.P p o q = some o2 := e
    by_cases hb : q = p
    · subst hb; exact w.fp hP
    · rw [upd_ne hb] at e'; exact w.fp e'
/-- .. taken back, frozen or not -/
theorem WG.unpin (w : WG k G H) {P' : Hp} (e : Same P' G.P) : WG k { G with P := P' } H :=
  ⟨w.fr, fun b x h => w.ap b x (e b x h), w.len, w.nd, w.liv, fun {q c} g => ⟨e.free (w.own g).1, (w.own g).2⟩, w.inj, w.there, fun {q} hq => e.free (w.pi hq), fun {q o} h => w.fp (e _ _ h)⟩
theorem WG.wp (w : WG k G H) {o' : HO} (hP : G.P p = some o') : G.W p = none := by
  cases e : G.W p with
  | none => rfl
  | some c =>
    have := (w.own e).1
    rw [hP] at this
    cases this
/-- a thing that stands in the heap, in no cell, is told frozen -/
theorem WG.tell (w : WG k G H) (ho : H p = some o) (hF : G.F p = none) (hP : G.P p = none) (hp : p ∉ G.ι) (hW : G.W p = none) : WG k { G with F := upd G.F p o } H where
  own := fun {q c} e => by
    obtain ⟨a2, a3, a4⟩ := w.own e
    exact ⟨a2, a3, a4⟩
  inj := w.inj
  fr := fun b x e => by
    have e' : upd G.F p o b = some x := e
    by_cases hb : b = p
    · subst hb; rw [upd_same] at e'; cases e'; exact ho
    · rw [upd_ne hb] at e'; exact w.fr b x e'
  ap := w.ap
  len := w.len
  nd := w.nd
  liv := fun {i q d} h1 h2 h3 => by
    obtain ⟨f, o2, ho2, mu, r⟩ := w.liv h1 h2 h3
    have hq : q ≠ p := fun e => by subst e; exact hp (List.mem_of_getElem? h1)
    refine ⟨?_, o2, ho2, mu, r.mono (same_new hF) fun q j e hq => ⟨e, (by show upd G.F p o q = none; rw [upd_ne (fun z => by subst z; rw [hW] at e; cases e)]; exact hq), rfl⟩⟩
    show upd G.F p o q = none
    rw [upd_ne hq]; exact f
  there := w.there
  pi := w.pi
  fp := fun {q o'} e => by
    show upd G.F p o q = none
    rw [upd_ne (ne_of_none e hP)]; exact w.fp e
/-- .. told a cell -/
theorem WG.tellCell' (w : WG k G H) (ho : H p = some o) (mu : Mut (some o)) (hF : G.F p = none) (hP : G.P p = none) (hp : p ∉ G.ι) (hW : G.W p = none) {c : Cell} (r : CellRep k G.F G.W H p o c) : WG k { G with μ := G.μ ++ [c], ι := G.ι ++ [p] } H where
  own := fun {q c} e => by
    obtain ⟨a2, a3, a4⟩ := w.own e
    have hq : q ≠ p := fun z => by subst z; rw [hW] at e; cases e
    refine ⟨a2, ?_, a4⟩
    show q ∉ G.ι ++ [p]
    intro h
    rcases List.mem_append.mp h with h | h
    · exact a3 h
    · simp at h; exact hq h
  inj := w.inj
  fr := w.fr
  ap := w.ap
  len := by simp [w.len]
  nd := by
    rw [List.nodup_append]
    refine ⟨w.nd, by simp, fun a ha b hb e => ?_⟩
    simp at hb
    subst hb
    subst e
    exact hp ha
  liv := fun {i q d'} h1 h2 h3 => by
    by_cases hi : i < G.ι.length
    · rw [List.getElem?_append_left hi] at h1
      rw [List.getElem?_append_left (by rw [← w.len]; exact hi)] at h2
      exact w.liv h1 h2 h3
    · have hi' : i = G.ι.length := by
        have := (List.getElem?_eq_some_iff.mp h1).1
        simp at this
        omega
      subst hi'
      rw [List.getElem?_append_right (Nat.le_refl _)] at h1
      rw [List.getElem?_append_right (by rw [w.len]; exact Nat.le_refl _)] at h2
      simp [w.len] at h1 h2
      subst h1 h2
      exact ⟨hF, o, ho, mu, r⟩
  there := fun {q} hq => by
    rcases List.mem_append.mp hq with h | h
    · exact w.there h
    · simp at h
      subst h
      rw [ho]
      simp
  pi := fun {q} hq => by
    rcases List.mem_append.mp hq with h | h
    · exact w.pi h
    · simp at h
      subst h
      exact hP
  fp := w.fp
theorem WG.tellCell (w : WG k G H) (ho : H p = some o) (mu : Mut (some o)) (hF : G.F p = none) (hP : G.P p = none) (hp : p ∉ G.ι) (hW : G.W p = none) {d : D} (r : ObjRep k G.F o d) : WG k { G with μ := G.μ ++ [.flat d], ι := G.ι ++ [p] } H := w.tellCell' ho mu hF hP hp hW (by unfold CellRep; exact r)
end

/-! ### reading a value, frozen or a cell's -/
def rowAt (μ : Sto) (i j : Nat) : Option D := match μ[i]? with
  | some (Cell.dol _ _ rows) => (rows[j]?).map .lst
  | _ => none
def deref (μ : Sto) : PV → Option D
  | .dat d => some d
  | .kon d => some d
  | .cell i => match μ[i]? with
    | some (Cell.flat d) => some d
    | _ => none
  | .row i j => rowAt μ i j
/-- .. but for the read-only ones -/
def derefT (μ : Sto) : PV → Option D
  | .dat d => some d
  | .kon _ => none
  | .cell i => match μ[i]? with
    | some (Cell.flat d) => some d
    | _ => none
  | .row i j => rowAt μ i j
/-- v is d, as the heap stands -/
def RepT (k : Kx) (F H : Hp) (v : V) (d : D) : Prop := Rep k F v d ∨ ∃ p o, v = .ref p ∧ H p = some o ∧ Mut (some o) ∧ ObjRep k F o d
def RepH (k : Kx) (F H : Hp) (v : V) (d : D) : Prop := RepT k F H v d ∨ RepC k F v d
theorem cell_at {μ : Sto} {i : Nat} {d : D} (e : derefT μ (.cell i) = some d) : μ[i]? = some (Cell.flat d) := by
  cases h : μ[i]? with
  | none => simp [PL.derefT, h] at e
  | some c =>
    cases c with
    | gone => simp [PL.derefT, h] at e
    | dol _ _ _ => simp [PL.derefT, h] at e
    | flat d' =>
      simp [PL.derefT, h] at e
      rw [e]
theorem rowAt_at {μ : Sto} {i j : Nat} {d : D} (h : rowAt μ i j = some d) : ∃ t ks rows r, μ[i]? = some (Cell.dol t ks rows) ∧ rows[j]? = some r ∧ d = .lst r := by
  unfold rowAt at h
  split at h
  · rename_i t ks rows e
    obtain ⟨r, h1, h2⟩ := Option.map_eq_some_iff.mp h
    exact ⟨t, ks, rows, r, e, h1, h2.symm⟩
  · cases h
theorem Rows.get {k : Kx} {F : Hp} {W : Addr → Option (Addr × Nat)} {H : Hp} {p : Addr} : ∀ {n : Nat} {vs : List V} {rs : List (List D)} {j : Nat} {r : List D}, Rows k F W H p n vs rs → rs[j]? = some r → ∃ q xs, vs[j]? = some (.ref q) ∧ W q = some (p, n + j) ∧ F q = none ∧ H q = some (.lst xs) ∧ Reps k F xs r
  | _, [], [], _, _, _, e => by simp at e
  | _, [], _ :: _, _, _, h, _ => h.elim
  | _, _ :: _, [], _, _, h, _ => h.elim
  | n, v :: vs, r0 :: rs, 0, r, ⟨⟨q, xs, h1, h2, hF, h3, h4⟩, _⟩, e => by
    simp at e
    subst e
    exact ⟨q, xs, by rw [h1]; rfl, h2, hF, h3, h4⟩
  | n, v :: vs, r0 :: rs, j + 1, r, ⟨_, h⟩, e => by
    obtain ⟨q, xs, g1, g2, g3⟩ := Rows.get (n := n + 1) (j := j) (r := r) h (by simpa using e)
    exact ⟨q, xs, by simpa using g1, by rw [g2]; congr 2; omega, g3⟩
/-- the dict's object: its keys, its values -/
theorem CellRep.dol {k : Kx} {F : Hp} {W : Addr → Option (Addr × Nat)} {H : Hp} {p : Addr} {o : HO} {t : Option Bool} {ks : List D} {rows : List (List D)} (r : CellRep k F W H p o (.dol t ks rows)) : (∃ kvs : List (Key × V), t = some false ∧ o = .dK kvs ∧ kvs.map (fun p => keyD p.1) = ks ∧ Rows k F W H p 0 (kvs.map (·.2)) rows ∧ ∀ b j, W b = some (p, j) → j < rows.length) ∨ (∃ kvs : List (List Key × V), t = some true ∧ o = .dT kvs ∧ kvs.map (fun p => keysD p.1) = ks ∧ Rows k F W H p 0 (kvs.map (·.2)) rows ∧ ∀ b j, W b = some (p, j) → j < rows.length) ∨ ∃ vs : List V, t = none ∧ o = .lst vs ∧ ks = [] ∧ Rows k F W H p 0 vs rows ∧ ∀ b j, W b = some (p, j) → j < rows.length := by
  unfold CellRep at r
  split at r
  · rename_i h; cases h
  · rename_i h; cases h; exact .inl ⟨_, rfl, rfl, r⟩
  · rename_i h; cases h; exact .inr (.inl ⟨_, rfl, rfl, r⟩)
  · rename_i h; cases h; exact .inr (.inr ⟨_, rfl, rfl, r⟩)
  · exact r.elim
theorem WG.row {k : Kx} {G : Gh} {H : Hp} (w : WG k G H) {i j : Nat} {p q : Addr} {t : Option Bool} {ks : List D} {rows : List (List D)} {r : List D} (h1 : G.ι[i]? = some p) (h2 : G.W q = some (p, j)) (h3 : G.μ[i]? = some (Cell.dol t ks rows)) (h4 : rows[j]? = some r) : G.F q = none ∧ ∃ xs, H q = some (.lst xs) ∧ Reps k G.F xs r := by
  obtain ⟨_, o, ho, mu, c⟩ := w.liv h1 h3 (by simp)
  rcases c.dol with ⟨kvs, _, _, _, hr, _⟩ | ⟨kvs, _, _, _, hr, _⟩ | ⟨kvs, _, _, _, hr, _⟩
  all_goals
    obtain ⟨q', xs, g1, g2, g3, g4, g5⟩ := hr.get h4
    rw [Nat.zero_add] at g2
    obtain rfl := w.inj h2 g2
    exact ⟨g3, xs, g4, g5⟩
theorem WG.derefT {k : Kx} {G : Gh} {H : Hp} (w : WG k G H) {v : V} : ∀ {x : PV} {d : D}, VRep k G v x → PL.derefT G.μ x = some d → RepT k G.F H v d
  | .dat d, d', r, e => by
    have e1 : d = d' := Option.some.inj e
    subst e1
    exact .inl r
  | .kon d, _, _, e => by cases e
  | .cell i, d, ⟨p, h1, e1⟩, e => by
    obtain ⟨_, o, ho, mu, r⟩ := w.live h1 (cell_at e)
    exact .inr ⟨p, o, e1, ho, mu, r⟩
  | .row i j, d, ⟨p, q, h1, h2, h3⟩, e => by
    obtain ⟨t, ks, rows, r, g1, g2, rfl⟩ := rowAt_at (show rowAt G.μ i j = some d from e)
    obtain ⟨_, xs, g3, g4⟩ := w.row h1 h2 g1 g2
    exact .inr ⟨q, _, h3, g3, trivial, g4⟩
theorem WG.deref {k : Kx} {G : Gh} {H : Hp} (w : WG k G H) {v : V} : ∀ {x : PV} {d : D}, VRep k G v x → PL.deref G.μ x = some d → RepH k G.F H v d
  | .dat d, d', r, e => .inl (w.derefT r e)
  | .kon d, d', r, e => by
    have e1 : d = d' := Option.some.inj e
    subst e1
    exact .inr r
  | .cell i, d, r, e => .inl (w.derefT (x := .cell i) r e)
  | .row i j, d, r, e => .inl (w.derefT (x := .row i j) r e)
section
variable {k : Kx} {F H : Hp} {v : V}
theorem RepT.ext {F' H' : Hp} {d : D} (r : RepT k F H v d) (e : Same F F') (e' : ∀ p o, Mut (some o) → H p = some o → H' p = some o) : RepT k F' H' v d := by
  rcases r with r | ⟨p, o, h1, h2, h3, h4⟩
  · exact .inl (Rep.mono e d r)
  · exact .inr ⟨p, o, h1, e' p o h3 h2, h3, h4.mono e⟩
theorem RepH.ext {F' H' : Hp} {d : D} (r : RepH k F H v d) (e : Same F F') (e' : ∀ p o, Mut (some o) → H p = some o → H' p = some o) : RepH k F' H' v d := by
  rcases r with r | r
  · exact .inl (r.ext e e')
  · exact .inr (r.mono e)
theorem repT_lst (e : Same F H) {ds : List D} (r : RepT k F H v (.lst ds)) : ∃ a xs, v = .ref a ∧ H a = some (.lst xs) ∧ Reps k F xs ds := by
  rcases r with ⟨a, xs, e1, h1, h2⟩ | ⟨p, o, e1, h1, _, h2⟩
  · exact ⟨a, xs, e1, e _ _ h1, h2⟩
  · cases o <;> first | exact h2.elim | skip
    exact ⟨p, _, e1, h1, h2⟩
theorem repT_tup (e : Same F H) {ds : List D} (r : RepT k F H v (.tup ds)) : ∃ a xs, v = .ref a ∧ F a = some (.tup xs) ∧ H a = some (.tup xs) ∧ Reps k F xs ds := by
  rcases r with ⟨a, xs, e1, h1, h2⟩ | ⟨p, o, e1, h1, _, h2⟩
  · exact ⟨a, xs, e1, h1, e _ _ h1, h2⟩
  · cases o <;> exact h2.elim
theorem repT_int {i : Int} (r : RepT k F H v (.int i)) : v = .int i := by
  rcases r with r | ⟨p, o, e1, h1, _, h2⟩
  · exact r
  · cases o <;> exact h2.elim
theorem repT_str {i : Str} (r : RepT k F H v (.str i)) : v = .str i := by
  rcases r with r | ⟨p, o, e1, h1, _, h2⟩
  · exact r
  · cases o <;> exact h2.elim
theorem repT_bl {i : Bool} (r : RepT k F H v (.bl i)) : v = .bl i := by
  rcases r with r | ⟨p, o, e1, h1, _, h2⟩
  · exact r
  · cases o <;> exact h2.elim
theorem repT_non (r : RepT k F H v .non) : v = .non := by
  rcases r with r | ⟨p, o, e1, h1, _, h2⟩
  · exact r
  · cases o <;> exact h2.elim
theorem repT_dK (e : Same F H) {ks vs : List D} (r : RepT k F H v (.dct false ks vs)) : ∃ a, v = .ref a ∧ ∃ kvs : List (Key × V), H a = some (.dK kvs) ∧ kvs.map (fun p => keyD p.1) = ks ∧ Reps k F (kvs.map (·.2)) vs := by
  rcases r with ⟨a, e1, kvs, h1, h2⟩ | ⟨p, o, e1, h1, _, h2⟩
  · exact ⟨a, e1, kvs, e _ _ h1, h2⟩
  · cases o <;> first | exact h2.elim | skip
    exact ⟨p, e1, _, h1, h2⟩
theorem repT_dT (e : Same F H) {ks vs : List D} (r : RepT k F H v (.dct true ks vs)) : ∃ a, v = .ref a ∧ ∃ kvs : List (List Key × V), H a = some (.dT kvs) ∧ kvs.map (fun p => keysD p.1) = ks ∧ Reps k F (kvs.map (·.2)) vs := by
  rcases r with ⟨a, e1, kvs, h1, h2⟩ | ⟨p, o, e1, h1, _, h2⟩
  · exact ⟨a, e1, kvs, e _ _ h1, h2⟩
  · cases o <;> first | exact h2.elim | skip
    exact ⟨p, e1, _, h1, h2⟩
theorem repT_ins (e : Same F H) {c : Str} {ns : List Str} {vs : List D} (r : RepT k F H v (.ins c ns vs)) : ∃ a C dx fs, v = .ref a ∧ H a = some (.ins C dx fs) ∧ k.mg c = some (.ref C) ∧ fs.map (·.1) = ns ∧ Reps k F (fs.map (·.2)) vs := by
  rcases r with ⟨a, C, dx, fs, e1, h1, h2⟩ | ⟨p, o, e1, h1, _, h2⟩
  · exact ⟨a, C, dx, fs, e1, e _ _ h1, h2⟩
  · cases o <;> first | exact h2.elim | skip
    exact ⟨p, _, _, _, e1, h1, h2⟩
theorem repH_lst (e : Same F H) {ds : List D} (r : RepH k F H v (.lst ds)) : ∃ a xs, v = .ref a ∧ SqL k.K H a xs ∧ Reps k F xs ds := by
  rcases r with r | ⟨a, xs, e1, h1, h2⟩
  · obtain ⟨a, xs, e1, h1, h2⟩ := repT_lst e r
    exact ⟨a, xs, e1, SqL.of h1, h2⟩
  · exact ⟨a, xs, e1, e.seq h1, h2⟩
theorem repH_tup (e : Same F H) {ds : List D} (r : RepH k F H v (.tup ds)) : ∃ a xs, v = .ref a ∧ SqT k.K H a xs ∧ Reps k F xs ds := by
  rcases r with r | ⟨a, xs, e1, h1, h2⟩
  · obtain ⟨a, xs, e1, _, h1, h2⟩ := repT_tup e r
    exact ⟨a, xs, e1, SqT.of h1, h2⟩
  · exact ⟨a, xs, e1, sqT_mono e h1, h2⟩
theorem repH_int {i : Int} (r : RepH k F H v (.int i)) : v = .int i := r.elim repT_int False.elim
theorem repH_str {i : Str} (r : RepH k F H v (.str i)) : v = .str i := r.elim repT_str False.elim
theorem repH_bl {i : Bool} (r : RepH k F H v (.bl i)) : v = .bl i := r.elim repT_bl False.elim
theorem repH_non (r : RepH k F H v .non) : v = .non := r.elim repT_non False.elim
theorem repH_dK (e : Same F H) {ks vs : List D} (r : RepH k F H v (.dct false ks vs)) : ∃ a, v = .ref a ∧ ∃ kvs : List (Key × V), H a = some (.dK kvs) ∧ kvs.map (fun p => keyD p.1) = ks ∧ Reps k F (kvs.map (·.2)) vs := r.elim (repT_dK e) False.elim
theorem repH_dT (e : Same F H) {ks vs : List D} (r : RepH k F H v (.dct true ks vs)) : ∃ a, v = .ref a ∧ ∃ kvs : List (List Key × V), H a = some (.dT kvs) ∧ kvs.map (fun p => keysD p.1) = ks ∧ Reps k F (kvs.map (·.2)) vs := r.elim (repT_dT e) False.elim
theorem repH_ins (e : Same F H) {c : Str} {ns : List Str} {vs : List D} (r : RepH k F H v (.ins c ns vs)) : ∃ a C dx fs, v = .ref a ∧ H a = some (.ins C dx fs) ∧ k.mg c = some (.ref C) ∧ fs.map (·.1) = ns ∧ Reps k F (fs.map (·.2)) vs := r.elim (repT_ins e) False.elim
/-- the data is what the value is -/
theorem repH_ref_lst_tup {a : Addr} : True := trivial
end

/-! ### a row is written -/
theorem Rows.monoN {k : Kx} {F : Hp} {W : Addr → Option (Addr × Nat)} {H H' : Hp} {p : Addr} : ∀ {n : Nat} {vs : List V} {rs : List (List D)}, Rows k F W H p n vs rs → (∀ q m, n ≤ m → W q = some (p, m) → H' q = H q) → Rows k F W H' p n vs rs
  | _, [], [], _, _ => trivial
  | _, [], _ :: _, h, _ => h.elim
  | _, _ :: _, [], h, _ => h.elim
  | n, _ :: vs, _ :: rs, ⟨⟨q, xs, h1, h2, hF, h3, h4⟩, r⟩, e => ⟨⟨q, xs, h1, h2, hF, by rw [e q n (Nat.le_refl _) h2]; exact h3, h4⟩, Rows.monoN (n := n + 1) (vs := vs) (rs := rs) r fun q m hm h => e q m (by omega) h⟩
theorem Rows.setAt {k : Kx} {F : Hp} {W : Addr → Option (Addr × Nat)} {H : Hp} {p q : Addr} {xs : List V} {r2 : List D} (rr : Reps k F xs r2) : ∀ {n : Nat} {vs : List V} {rs : List (List D)} {j : Nat}, W q = some (p, n + j) → (∀ b, W b = some (p, n + j) → b = q) → Rows k F W H p n vs rs → Rows k F W (upd H q (.lst xs)) p n vs (rs.set j r2)
  | _, [], [], _, _, _, _ => trivial
  | _, [], _ :: _, _, _, _, h => h.elim
  | _, _ :: _, [], _, _, _, h => h.elim
  | n, v :: vs, r :: rs, 0, hq, hu, ⟨⟨b, ys, h1, h2, hF, h3, h4⟩, h⟩ => by
    have e : b = q := hu b h2
    refine ⟨⟨b, xs, h1, h2, hF, by rw [e]; exact upd_same, rr⟩, ?_⟩
    exact h.monoN (fun c m hc hm => by
      have : c ≠ q := fun z => by subst z; rw [hq] at hm; cases hm; omega
      rw [upd_ne this])
  | n, v :: vs, r :: rs, j + 1, hq, hu, ⟨⟨b, ys, h1, h2, hF, h3, h4⟩, h⟩ => by
    have hb : b ≠ q := fun z => by subst z; rw [hq] at h2; cases h2
    refine ⟨⟨b, ys, h1, h2, hF, by rw [upd_ne hb]; exact h3, h4⟩, ?_⟩
    exact Rows.setAt rr (n := n + 1) (j := j) (by rw [hq]; congr 2; omega) (fun c hc => hu c (by rw [hc]; congr 2; omega)) h
theorem WG.writeRow {k : Kx} {G : Gh} {H : Hp} (w : WG k G H) {i j : Nat} {p q : Addr} {t : Option Bool} {ks : List D} {rows : List (List D)} {r r2 : List D} {xs : List V} (h1 : G.ι[i]? = some p) (h2 : G.W q = some (p, j)) (h3 : G.μ[i]? = some (Cell.dol t ks rows)) (h4 : rows[j]? = some r) (rr : Reps k G.F xs r2) :
    WG k { G with μ := G.μ.set i (.dol t ks (rows.set j r2)) } (upd H q (.lst xs)) := by
  obtain ⟨hF, ys, hq, _⟩ := w.row h1 h2 h3 h4
  have hqp : q ≠ p := fun z => by subst z; exact (w.own h2).2.1 (List.mem_of_getElem? h1)
  refine ⟨fun b x e => ?_, fun b x e => ?_, by simp [w.len], w.nd, fun {m b c} g1 g2 g3 => ?_, fun {b x} e => ?_, w.inj, fun {b} hb => ?_, w.pi, w.fp⟩
  · rw [upd_ne (ne_of_none e hF)]; exact w.fr b x e
  · rw [upd_ne (ne_of_none e (w.own h2).1)]; exact w.ap b x e
  · have hil : i < G.μ.length := (List.getElem?_eq_some_iff.mp h3).1
    by_cases hm : m = i
    · subst hm
      simp only at g1 g2
      rw [h1] at g1; cases g1
      rw [List.getElem?_set_self hil] at g2; cases g2
      obtain ⟨f, o, ho, mu, c⟩ := w.liv h1 h3 (by simp)
      refine ⟨f, o, by rw [upd_ne hqp.symm]; exact ho, mu, ?_⟩
      have un : ∀ b, G.W b = some (p, 0 + j) → b = q := fun b e => w.inj e (by rw [Nat.zero_add]; exact h2)
      rcases c.dol with ⟨kvs, rfl, rfl, hk, hr, hb0⟩ | ⟨kvs, rfl, rfl, hk, hr, hb0⟩ | ⟨kvs, rfl, rfl, hk, hr, hb0⟩
      · exact ⟨hk, Rows.setAt rr (by rw [Nat.zero_add]; exact h2) un hr, fun b j g => by rw [List.length_set]; exact hb0 b j g⟩
      · exact ⟨hk, Rows.setAt rr (by rw [Nat.zero_add]; exact h2) un hr, fun b j g => by rw [List.length_set]; exact hb0 b j g⟩
      · exact ⟨hk, Rows.setAt rr (by rw [Nat.zero_add]; exact h2) un hr, fun b j g => by rw [List.length_set]; exact hb0 b j g⟩
    · simp only at g1 g2
      rw [List.getElem?_set_ne (Ne.symm hm)] at g2
      obtain ⟨f, o', ho, mu', r'⟩ := w.liv g1 g2 g3
      have hb : b ≠ p := fun z => hm (by
        subst z
        obtain ⟨a1, b1⟩ := List.getElem?_eq_some_iff.mp g1
        obtain ⟨a2, b2⟩ := List.getElem?_eq_some_iff.mp h1
        exact (List.getElem_inj w.nd).mp (b1.trans b2.symm))
      have hbq : b ≠ q := fun z => by subst z; exact (w.own h2).2.1 (List.mem_of_getElem? g1)
      refine ⟨f, o', by rw [upd_ne hbq]; exact ho, mu', r'.mono (Same.refl _) fun c m e hF => ⟨e, hF, ?_⟩⟩
      have hc : c ≠ q := fun z => by subst z; rw [h2] at e; cases e; exact hb rfl
      rw [upd_ne hc]
  · obtain ⟨a2, a3, a4⟩ := w.own e
    refine ⟨a2, a3, ?_⟩
    by_cases z : b = q
    · subst z; rw [upd_same]; simp
    · rw [upd_ne z]; exact a4
  · have hbq : b ≠ q := fun z => by subst z; exact (w.own h2).2.1 hb
    rw [upd_ne hbq]; exact w.there hb

end PL

set_option Elab.async false
set_option linter.all false
set_option maxRecDepth 100000
namespace PL
open PySem PySem.Spec PyProof.Rows L2

/-! ### operations on data -/
-- equality of data, as == tells it
mutual
def eqv : D → D → Bool
  | .non, .non => true
  | .bl a, .bl b => a == b
  | .bl a, .int j => (if a then 1 else 0) == j
  | .int i, .bl b => i == (if b then 1 else 0)
  | .int i, .int j => i == j
  | .str x, .str y => x == y
  | .lst xs, .lst ys => eqvs xs ys
  | .tup xs, .tup ys => eqvs xs ys
  | _, _ => false
def eqvs : List D → List D → Bool
  | [], [] => true
  | x :: xs, y :: ys => eqv x y && eqvs xs ys
  | _, _ => false
end
mutual
def D.py : D → PyData
  | .non => .none
  | .bl b => .bool b
  | .int i => .int i
  | .str x => .str x
  | .tup xs => .tuple (pys xs)
  | .lst xs => .list (pys xs)
  | .dct _ _ _ => .none
  | .ins _ _ _ => .none
def pys : List D → List PyData
  | [] => []
  | x :: xs => x.py :: pys xs
end
-- no dicts, no instances; so deep at most
mutual
def D.okN : D → Nat → Bool
  | .non, _ => true
  | .bl _, _ => true
  | .int _, _ => true
  | .str x, _ => PyData.strOk x
  | .tup xs, n => decide (0 < n) && okNs xs (n - 1)
  | .lst xs, n => decide (0 < n) && okNs xs (n - 1)
  | .dct _ _ _, _ => false
  | .ins _ _ _, _ => false
def okNs : List D → Nat → Bool
  | [], _ => true
  | x :: xs, n => x.okN n && okNs xs n
end
theorem pys_map : ∀ xs : List D, pys xs = xs.map D.py
  | [] => rfl
  | x :: xs => by rw [pys, pys_map xs]; rfl
theorem okNs_all (n : Nat) : ∀ xs : List D, okNs xs n = xs.all fun x => x.okN n
  | [] => rfl
  | x :: xs => by rw [okNs, okNs_all n xs]; rfl
mutual
theorem eqv_py : ∀ (x y : D) (n m : Nat), x.okN n = true → y.okN m = true → PyData.eqv x.py y.py = eqv x y
  | .non, y, _, _, _, _ => by cases y <;> simp_all [D.py, eqv, PyData.eqv, D.okN]
  | .bl _, y, _, _, _, _ => by cases y <;> simp_all [D.py, eqv, PyData.eqv, D.okN]
  | .int _, y, _, _, _, _ => by cases y <;> simp_all [D.py, eqv, PyData.eqv, D.okN]
  | .str _, y, _, _, _, _ => by cases y <;> simp_all [D.py, eqv, PyData.eqv, D.okN]
  | .tup xs, .tup ys, n, m, h, h' => by
    simp only [D.okN, Bool.and_eq_true] at h h'
    simp only [D.py, PyData.eqv, eqv]
    exact eqvs_py xs ys (n - 1) (m - 1) h.2 h'.2
  | .tup xs, .non, n, m, h, h' => by simp [D.py, eqv, PyData.eqv]
  | .tup xs, .bl _, n, m, h, h' => by simp [D.py, eqv, PyData.eqv]
  | .tup xs, .int _, n, m, h, h' => by simp [D.py, eqv, PyData.eqv]
  | .tup xs, .str _, n, m, h, h' => by simp [D.py, eqv, PyData.eqv]
  | .tup xs, .lst _, n, m, h, h' => by simp [D.py, eqv, PyData.eqv]
  | .tup xs, .dct _ _ _, n, m, h, h' => by simp [D.okN] at h'
  | .tup xs, .ins _ _ _, n, m, h, h' => by simp [D.okN] at h'
  | .lst xs, .lst ys, n, m, h, h' => by
    simp only [D.okN, Bool.and_eq_true] at h h'
    simp only [D.py, PyData.eqv, eqv]
    exact eqvs_py xs ys (n - 1) (m - 1) h.2 h'.2
  | .lst xs, .non, n, m, h, h' => by simp [D.py, eqv, PyData.eqv]
  | .lst xs, .bl _, n, m, h, h' => by simp [D.py, eqv, PyData.eqv]
  | .lst xs, .int _, n, m, h, h' => by simp [D.py, eqv, PyData.eqv]
  | .lst xs, .str _, n, m, h, h' => by simp [D.py, eqv, PyData.eqv]
  | .lst xs, .tup _, n, m, h, h' => by simp [D.py, eqv, PyData.eqv]
  | .lst xs, .dct _ _ _, n, m, h, h' => by simp [D.okN] at h'
  | .lst xs, .ins _ _ _, n, m, h, h' => by simp [D.okN] at h'
  | .dct _ _ _, y, _, _, h, _ => by simp [D.okN] at h
  | .ins _ _ _, y, _, _, h, _ => by simp [D.okN] at h
theorem eqvs_py : ∀ (xs ys : List D) (n m : Nat), okNs xs n = true → okNs ys m = true → PyData.eqvAll (pys xs) (pys ys) = eqvs xs ys
  | [], [], _, _, _, _ => rfl
  | [], _ :: _, _, _, _, _ => rfl
  | _ :: _, [], _, _, _, _ => rfl
  | x :: xs, y :: ys, n, m, h, h' => by
    simp only [okNs, Bool.and_eq_true] at h h'
    simp only [pys, PyData.eqvAll, eqvs]
    rw [eqv_py x y n m h.1 h'.1, eqvs_py xs ys n m h.2 h'.2]
end
mutual
theorem lay_of : ∀ (x : D) (n : Nat), x.okN n = true → x.py.canLay0 = true ∧ x.py.depth ≤ n
  | .non, _, _ => by simp [D.py, PyData.canLay0, PyData.depth]
  | .bl _, _, _ => by simp [D.py, PyData.canLay0, PyData.depth]
  | .int _, _, _ => by simp [D.py, PyData.canLay0, PyData.depth]
  | .str x, _, h => by
    simp only [D.okN] at h
    simp [D.py, PyData.canLay0, PyData.depth, h]
  | .tup xs, n, h => by
    simp only [D.okN, Bool.and_eq_true, decide_eq_true_eq] at h
    obtain ⟨a, b⟩ := lays_of xs (n - 1) h.2
    simp only [D.py, PyData.canLay0, PyData.depth]
    exact ⟨a, by omega⟩
  | .lst xs, n, h => by
    simp only [D.okN, Bool.and_eq_true, decide_eq_true_eq] at h
    obtain ⟨a, b⟩ := lays_of xs (n - 1) h.2
    simp only [D.py, PyData.canLay0, PyData.depth]
    exact ⟨a, by omega⟩
  | .dct _ _ _, _, h => by simp [D.okN] at h
  | .ins _ _ _, _, h => by simp [D.okN] at h
theorem lays_of : ∀ (xs : List D) (n : Nat), okNs xs n = true → PyData.canLayAll0 (pys xs) = true ∧ PyData.depthAll (pys xs) ≤ n
  | [], _, _ => by simp [pys, PyData.canLayAll0, PyData.depthAll]
  | x :: xs, n, h => by
    simp only [okNs, Bool.and_eq_true] at h
    obtain ⟨a, b⟩ := lay_of x n h.1
    obtain ⟨c, d⟩ := lays_of xs n h.2
    simp only [pys, PyData.canLayAll0, PyData.depthAll, Bool.and_eq_true]
    exact ⟨⟨a, c⟩, by omega⟩
end
theorem shaped_of {x : D} (h : x.okN 60 = true) : SeqAt.shaped x.py = true := by
  obtain ⟨a, b⟩ := lay_of x 60 h
  unfold SeqAt.shaped
  rw [a, Bool.true_and]
  exact decide_eq_true (by omega)
theorem shaped_lst {xs : List D} (h : okNs xs 60 = true) : SeqAt.shaped (.list (pys xs)) = true := by
  obtain ⟨a, b⟩ := lays_of xs 60 h
  unfold SeqAt.shaped
  simp only [PyData.canLay0, PyData.depth, a, Bool.true_and]
  exact decide_eq_true (by omega)
theorem shaped_tup {xs : List D} (h : okNs xs 60 = true) : SeqAt.shaped (.tuple (pys xs)) = true := by
  obtain ⟨a, b⟩ := lays_of xs 60 h
  unfold SeqAt.shaped
  simp only [PyData.canLay0, PyData.depth, a, Bool.true_and]
  exact decide_eq_true (by omega)
mutual
theorem dp_of {k : Kx} {F H : Hp} (e : Same F H) : ∀ (d : D) (n : Nat) {v : V}, d.okN n = true → Rep k F v d → Dp k.K H v d.py
  | .non, _, v, _, r => by cases (show v = .non from r); exact .non
  | .bl b, _, v, _, r => by cases (show v = .bl b from r); exact .bl b
  | .int i, _, v, _, r => by cases (show v = .int i from r); exact .int i
  | .str x, _, v, _, r => by cases (show v = .str x from r); exact .str x
  | .tup ds, n, v, h, r => by
    simp only [D.okN, Bool.and_eq_true] at h
    obtain ⟨a, xs, e1, e2, e3⟩ := (show ∃ a xs, _ from r)
    subst e1
    exact .tup (SqT.of (e _ _ e2)) (dps_of e ds (n - 1) h.2 e3)
  | .lst ds, n, v, h, r => by
    simp only [D.okN, Bool.and_eq_true] at h
    obtain ⟨a, xs, e1, e2, e3⟩ := (show ∃ a xs, _ from r)
    subst e1
    exact .lst (SqL.of (e _ _ e2)) (dps_of e ds (n - 1) h.2 e3)
  | .dct _ _ _, _, _, h, _ => by simp [D.okN] at h
  | .ins _ _ _, _, _, h, _ => by simp [D.okN] at h
theorem dps_of {k : Kx} {F H : Hp} (e : Same F H) : ∀ (ds : List D) (n : Nat) {vs : List V}, okNs ds n = true → Reps k F vs ds → DpAll k.K H vs (pys ds)
  | [], _, [], _, _ => .nil
  | [], _, _ :: _, _, r => r.elim
  | _ :: _, _, [], _, r => r.elim
  | d :: ds, n, v :: vs, h, r => by
    simp only [okNs, Bool.and_eq_true] at h
    exact .cons (dp_of e d n h.1 r.1) (dps_of e ds n h.2 r.2)
end
theorem dp_ofH {k : Kx} {F H : Hp} (e : Same F H) {d : D} {n : Nat} {v : V} (h : d.okN n = true) (r : RepH k F H v d) : Dp k.K H v d.py := by
  cases d with
  | lst ds =>
    obtain ⟨a, xs, e1, h1, h2⟩ := repH_lst e r
    subst e1
    simp only [D.okN, Bool.and_eq_true] at h
    exact .lst h1 (dps_of e ds (n - 1) h.2 h2)
  | tup ds =>
    obtain ⟨a, xs, e1, h1, h2⟩ := repH_tup e r
    subst e1
    simp only [D.okN, Bool.and_eq_true] at h
    exact .tup h1 (dps_of e ds (n - 1) h.2 h2)
  | non => rw [repH_non r]; exact .non
  | bl b => rw [repH_bl r]; exact .bl b
  | int i => rw [repH_int r]; exact .int i
  | str x => rw [repH_str r]; exact .str x
  | dct _ _ => simp [D.okN] at h
  | ins _ _ _ => simp [D.okN] at h

/-! ### what a rule by values asks, by data -/
/-- what is wanted of an answer that is data -/
def KD (k : Kx) (G : Gh) (Q : VK) (z : D) : Prop := ∀ v H' G', Ext G G' → G'.μ = G.μ → WG k G' H' → Rep k G'.F v z → Q v H'
theorem KD.val {k : Kx} {G : Gh} {Q : VK} {z : D} {H : Hp} {v : V} (q : KD k G Q z) (w : WG k G H) (r : Rep k G.F v z) : Q v H := q v H G (Ext.refl G) rfl w r
theorem KD.new {k : Kx} {G : Gh} {Q : VK} {z : D} {H : Hp} {p : Addr} {o : HO} (q : KD k G Q z) (w : WG k G H) (hp : H p = none) (r : Rep k (upd G.F p o) (.ref p) z) : Q (.ref p) (upd H p o) :=
  q _ _ _ (w.extF hp) rfl (w.new hp) r
theorem KD.newT {k : Kx} {G : Gh} {Q : VK} {ds : List D} {H : Hp} {p : Addr} {xs : List V} (q : KD k G Q (.tup ds)) (w : WG k G H) (hp : H p = none) (r : Reps k G.F xs ds) : Q (.ref p) (upd H p (.tup xs)) :=
  q.new w hp ⟨p, xs, rfl, upd_same, Reps.mono (same_new (w.fnew hp)) ds r⟩
theorem KD.newL {k : Kx} {G : Gh} {Q : VK} {ds : List D} {H : Hp} {p : Addr} {xs : List V} (q : KD k G Q (.lst ds)) (w : WG k G H) (hp : H p = none) (r : Reps k G.F xs ds) : Q (.ref p) (upd H p (.lst xs)) :=
  q.new w hp ⟨p, xs, rfl, upd_same, Reps.mono (same_new (w.fnew hp)) ds r⟩

/-- two values: any -/
def R2H (k : Kx) (f : D → D → Option D) (r : R2) : Prop := ∀ G H x y dx dy z (Q : VK), WG k G H → RepH k G.F H x dx → RepH k G.F H y dy → f dx dy = some z → KD k G Q z → r x y H Q
/-- two values, none of them read-only -/
def R2T (k : Kx) (f : D → D → Option D) (r : R2) : Prop := ∀ G H x y dx dy z (Q : VK), WG k G H → RepT k G.F H x dx → RepT k G.F H y dy → f dx dy = some z → KD k G Q z → r x y H Q
theorem R2H.t {k : Kx} {f : D → D → Option D} {r : R2} (h : R2H k f r) : R2T k f r := fun G H x y dx dy z Q w rx ry e q => h G H x y dx dy z Q w (.inl rx) (.inl ry) e q
def mOp (f : D → D → Option D) (a b : ME) : ME := fun ρ μ => (a ρ μ).bind fun p => (b ρ p.2).bind fun q => (deref q.2 p.1).bind fun x => (deref q.2 q.1).bind fun y => (f x y).map fun z => (.dat z, q.2)
def mOpT (f : D → D → Option D) (a b : ME) : ME := fun ρ μ => (a ρ μ).bind fun p => (b ρ p.2).bind fun q => (derefT q.2 p.1).bind fun x => (derefT q.2 q.1).bind fun y => (f x y).map fun z => (.dat z, q.2)
section
variable {k : Kx} {f : D → D → Option D} {r : R2} {m n : ME} {σ : L2.St} {H : Hp} {Q : VK}
theorem op_of (hr : R2H k f r) (h : tE k (mOp f m n) σ H Q) : tOp r (tE k m) (tE k n) σ H Q := by
  obtain ⟨G, ρ, w, e, x, μ', hm, q⟩ := h
  simp only [mOp, Option.bind_eq_some_iff, Option.map_eq_some_iff] at hm
  obtain ⟨⟨p1, μ1⟩, h1, ⟨p2, μ2⟩, h2, dx, h3, dy, h4, z, h5, h6⟩ := hm
  cases h6
  refine ⟨G, ρ, w, e, p1, μ1, h1, fun v1 H1 G1 e1 g1 w1 r1 => ?_⟩
  refine ⟨G1, ρ, w1, e.ext e1, p2, μ2, by rw [g1]; exact h2, fun v2 H2 G2 e2 g2 w2 r2 => ?_⟩
  refine hr G2 H2 v1 v2 dx dy z Q w2 (w2.deref (r1.ext e2) (by rw [g2]; exact h3)) (w2.deref r2 (by rw [g2]; exact h4)) h5 fun v H' G' e3 g3 w3 r3 => ?_
  exact q v H' G' ((e1.trans e2).trans e3) (by rw [g3, g2]) w3 r3
theorem opT_of (hr : R2T k f r) (h : tE k (mOpT f m n) σ H Q) : tOp r (tE k m) (tE k n) σ H Q := by
  obtain ⟨G, ρ, w, e, x, μ', hm, q⟩ := h
  simp only [mOpT, Option.bind_eq_some_iff, Option.map_eq_some_iff] at hm
  obtain ⟨⟨p1, μ1⟩, h1, ⟨p2, μ2⟩, h2, dx, h3, dy, h4, z, h5, h6⟩ := hm
  cases h6
  refine ⟨G, ρ, w, e, p1, μ1, h1, fun v1 H1 G1 e1 g1 w1 r1 => ?_⟩
  refine ⟨G1, ρ, w1, e.ext e1, p2, μ2, by rw [g1]; exact h2, fun v2 H2 G2 e2 g2 w2 r2 => ?_⟩
  refine hr G2 H2 v1 v2 dx dy z Q w2 (w2.derefT (r1.ext e2) (by rw [g2]; exact h3)) (w2.derefT r2 (by rw [g2]; exact h4)) h5 fun v H' G' e3 g3 w3 r3 => ?_
  exact q v H' G' ((e1.trans e2).trans e3) (by rw [g3, g2]) w3 r3
end
/-- one value -/
def R1H (k : Kx) (f : D → Option D) (r : V → Hp → VK → Prop) : Prop := ∀ G H x dx z (Q : VK), WG k G H → RepH k G.F H x dx → f dx = some z → KD k G Q z → r x H Q
def mUn (f : D → Option D) (a : ME) : ME := fun ρ μ => (a ρ μ).bind fun p => (deref p.2 p.1).bind fun x => (f x).map fun z => (.dat z, p.2)
theorem un_of {k : Kx} {f : D → Option D} {r : V → Hp → VK → Prop} {m : ME} {σ : L2.St} {H : Hp} {Q : VK} (hr : R1H k f r) (h : tE k (mUn f m) σ H Q) : tUn r (tE k m) σ H Q := by
  obtain ⟨G, ρ, w, e, x, μ', hm, q⟩ := h
  simp only [mUn, Option.bind_eq_some_iff, Option.map_eq_some_iff] at hm
  obtain ⟨⟨p1, μ1⟩, h1, dx, h3, z, h5, h6⟩ := hm
  cases h6
  refine ⟨G, ρ, w, e, p1, μ1, h1, fun v1 H1 G1 e1 g1 w1 r1 => ?_⟩
  refine hr G1 H1 v1 dx z Q w1 (w1.deref r1 (by rw [g1]; exact h3)) h5 fun v H' G' e3 g3 w3 r3 => ?_
  exact q v H' G' (e1.trans e3) (by rw [g3, g1]) w3 r3

def lim : Nat := 1000000
theorem lim_le {n : Nat} (h : n ≤ lim) : n ≤ sizeLine := Nat.le_trans h (by rw [sizeLine_eq]; decide)
theorem lim_lt {n : Nat} (h : n < lim) : n < sizeLine := Nat.lt_of_lt_of_le h (by rw [sizeLine_eq]; decide)

/-! ### arithmetic -/
def addD : D → D → Option D
  | .int i, .int j => some (.int (i + j))
  | .str x, .str y => if x.length + y.length ≤ lim then some (.str (x ++ y)) else none
  | .tup xs, .tup ys => if xs.length + ys.length ≤ lim then some (.tup (xs ++ ys)) else none
  | .lst xs, .lst ys => if xs.length + ys.length ≤ lim then some (.lst (xs ++ ys)) else none
  | _, _ => none
def i2D (f : Int → Int → Option Int) : D → D → Option D
  | .int i, .int j => (f i j).map .int
  | _, _ => none
def mulI (i j : Int) : Option Int := if (-(2 ^ 64) < i ∧ i < 2 ^ 64) ∨ (-(2 ^ 64) < j ∧ j < 2 ^ 64) then some (i * j) else none
def mulD : D → D → Option D
  | .int i, .int j => (mulI i j).map .int
  | .lst xs, .int j => if 0 ≤ j ∧ j ≤ 1000000 ∧ xs.length * j.toNat ≤ lim then some (.lst (List.replicate j.toNat xs).flatten) else none
  | .tup xs, .int j => if 0 ≤ j ∧ j ≤ 1000000 ∧ xs.length * j.toNat ≤ lim then some (.tup (List.replicate j.toNat xs).flatten) else none
  | _, _ => none
def subD : D → D → Option D := i2D fun i j => some (i - j)
def divD : D → D → Option D := i2D fun i j => if 0 < j ∧ j < 1073741824 then some (i / j) else none
def modD : D → D → Option D := i2D fun i j => if 0 < j then some (i % j) else none
def powD : D → D → Option D := i2D fun i j => if 0 ≤ j ∧ j ≤ 1000000 ∧ i.natAbs < 2 ^ 64 then some (i ^ j.toNat) else none
def shlD : D → D → Option D := i2D fun i j => if 0 ≤ j ∧ j ≤ 1000000 ∧ i.natAbs < 2 ^ 64 then some (i * 2 ^ j.toNat) else none
def shrD : D → D → Option D := i2D fun i j => if 0 ≤ j then some (i / 2 ^ j.toNat) else none
def andD : D → D → Option D := i2D fun i j => some (Builtin.bitAnd i j)
def orD : D → D → Option D := i2D fun i j => some (Builtin.bitOr i j)
def negD : D → Option D
  | .int i => some (.int (-i))
  | _ => none
def invD : D → Option D
  | .int i => some (.int (Builtin.bitNot i))
  | _ => none
def rAddAll (K : PySem.W.Frag) : R2 := fun x y H Q => (∃ i j, x = .int i ∧ y = .int j ∧ Q (.int (i + j)) H) ∨ (∃ i j, x = .str i ∧ y = .str j ∧ i.length + j.length ≤ sizeLine ∧ Q (.str (i ++ j)) H) ∨ rCatA K x y H Q ∨ rCat x y H Q
theorem op_addAll {X : Cx} : OpR X (binaryOp .Add) (rAddAll X.K) := op_add.or (op_add_str.or (op_catA.or op_cat))
theorem r_add {k : Kx} : R2T k addD (rAddAll k.K) := by
  intro G H x y dx dy z Q w rx ry hf q
  unfold addD at hf
  split at hf
  · cases hf
    rw [repT_int rx, repT_int ry]
    exact .inl ⟨_, _, rfl, rfl, q.val w rfl⟩
  · split at hf
    · cases hf
      rename_i hl
      rw [repT_str rx, repT_str ry]
      exact .inr (.inl ⟨_, _, rfl, rfl, lim_le hl, q.val w rfl⟩)
    · cases hf
  · split at hf
    · cases hf
      rename_i hl
      obtain ⟨a, xs, e1, f1, h1, g1⟩ := repT_tup w.fr rx
      obtain ⟨b, ys, e2, f2, h2, g2⟩ := repT_tup w.fr ry
      refine .inr (.inr (.inl ⟨a, b, xs, ys, e1, e2, SqT.of h1, SqT.of h2, by rw [g1.length, g2.length]; exact lim_le hl, fun z1 => ?_, fun z1 z2 => ?_, fun z1 z2 p hp => ?_⟩))
      · subst z1
        exact q.val w ⟨b, ys, rfl, f2, by have := g1.length; simp at this; rw [List.eq_nil_of_length_eq_zero this.symm]; exact g2⟩
      · subst z2
        exact q.val w ⟨a, xs, rfl, f1, by have := g2.length; simp at this; rw [List.eq_nil_of_length_eq_zero this.symm, List.append_nil]; exact g1⟩
      · exact q.newT w hp (g1.append g2)
    · cases hf
  · split at hf
    · cases hf
      rename_i hl
      obtain ⟨a, xs, e1, h1, g1⟩ := repT_lst w.fr rx
      obtain ⟨b, ys, e2, h2, g2⟩ := repT_lst w.fr ry
      exact .inr (.inr (.inr ⟨a, b, xs, ys, e1, e2, h1, h2, by rw [g1.length, g2.length]; exact lim_le hl, fun p hp => q.newL w hp (g1.append g2)⟩))
    · cases hf
  · cases hf
theorem r_i2 {k : Kx} {f : Int → Int → Option Int} {C : Int → Int → Prop} {g : Int → Int → Int} (h : ∀ i j z, f i j = some z → C i j ∧ g i j = z) : R2H k (i2D f) (rI C fun i j => .int (g i j)) := by
  intro G H x y dx dy z Q w rx ry hf q
  unfold i2D at hf
  split at hf
  · rename_i i j
    obtain ⟨z1, h1, h2⟩ := Option.map_eq_some_iff.mp hf
    subst h2
    obtain ⟨c, e⟩ := h _ _ _ h1
    subst e
    rw [repH_int rx, repH_int ry]
    exact ⟨_, _, rfl, rfl, c, q.val w rfl⟩
  · cases hf
theorem r_i20 {k : Kx} {f : Int → Int → Option Int} {g : Int → Int → Int} (h : ∀ i j z, f i j = some z → g i j = z) : R2H k (i2D f) (rI0 fun i j => .int (g i j)) := by
  intro G H x y dx dy z Q w rx ry hf q
  obtain ⟨i, j, e1, e2, _, q⟩ := r_i2 (C := fun _ _ => True) (fun i j z e => ⟨trivial, h i j z e⟩) G H x y dx dy z Q w rx ry hf q
  exact ⟨i, j, e1, e2, q⟩
theorem if_some {c : Prop} [Decidable c] {α : Type} {x z : α} (h : (if c then some x else none) = some z) : c ∧ x = z := by
  split at h
  · exact ⟨‹_›, Option.some.inj h⟩
  · cases h
theorem r_sub {k : Kx} : R2H k subD (rI0 fun i j => .int (i - j)) := r_i20 fun i j z h => Option.some.inj h
theorem r_div {k : Kx} : R2H k divD (rI CDiv fun i j => .int (i / j)) := r_i2 fun i j z h => by have p := if_some h; exact p
theorem r_mod {k : Kx} : R2H k modD (rI (fun _ j => 0 < j) fun i j => .int (i % j)) := r_i2 fun i j z h => by have p := if_some h; exact p
theorem r_pow {k : Kx} : R2H k powD (rI CPow fun i j => .int (i ^ j.toNat)) := r_i2 fun i j z h => by have p := if_some h; exact p
theorem r_shl {k : Kx} : R2H k shlD (rI CPow fun i j => .int (i * 2 ^ j.toNat)) := r_i2 fun i j z h => by have p := if_some h; exact p
theorem r_shr {k : Kx} : R2H k shrD (rI (fun _ j => 0 ≤ j) fun i j => .int (i / 2 ^ j.toNat)) := r_i2 fun i j z h => by have p := if_some h; exact p
theorem r_and {k : Kx} : R2H k andD (rI0 fun i j => .int (Builtin.bitAnd i j)) := r_i20 fun i j z h => Option.some.inj h
theorem r_or {k : Kx} : R2H k orD (rI0 fun i j => .int (Builtin.bitOr i j)) := r_i20 fun i j z h => Option.some.inj h
theorem r_neg {k : Kx} : R1H k negD (rU fun i => .int (-i)) := by
  intro G H x dx z Q w rx hf q
  unfold negD at hf
  split at hf
  · cases hf
    rw [repH_int rx]
    exact ⟨_, rfl, q.val w rfl⟩
  · cases hf
theorem r_inv {k : Kx} : R1H k invD (rU fun i => .int (Builtin.bitNot i)) := by
  intro G H x dx z Q w rx hf q
  unfold invD at hf
  split at hf
  · cases hf
    rw [repH_int rx]
    exact ⟨_, rfl, q.val w rfl⟩
  · cases hf

/-! ### comparisons -/
def eqD (x y : D) : Option D := if x.okN 60 = true ∧ y.okN 60 = true then some (.bl (eqv x y)) else none
def neD (x y : D) : Option D := if x.okN 60 = true ∧ y.okN 60 = true then some (.bl (!eqv x y)) else none
theorem r_eq {k : Kx} : R2H k eqD (rEqD k.K) := by
  intro G H x y dx dy z Q w rx ry hf q
  obtain ⟨⟨h1, h2⟩, e⟩ := if_some hf
  subst e
  exact ⟨_, _, dp_ofH w.fr h1 rx, dp_ofH w.fr h2 ry, shaped_of h1, shaped_of h2, q.val w (by rw [eqv_py _ _ _ _ h1 h2]; rfl)⟩
theorem r_ne {k : Kx} : R2H k neD (rNeD k.K) := by
  intro G H x y dx dy z Q w rx ry hf q
  obtain ⟨⟨h1, h2⟩, e⟩ := if_some hf
  subst e
  exact ⟨_, _, dp_ofH w.fr h1 rx, dp_ofH w.fr h2 ry, shaped_of h1, shaped_of h2, q.val w (by rw [eqv_py _ _ _ _ h1 h2]; rfl)⟩
end PL

set_option Elab.async false
set_option linter.all false
set_option maxRecDepth 100000
namespace PL
open PySem PySem.Spec PyProof.Rows L2

/-! ### less than -/
mutual
def ltv : D → D → Option Bool
  | .int i, .int j => some (decide (i < j))
  | .str x, .str y => some (decide (x.cps.toList < y.cps.toList))
  | .tup xs, .tup ys => ltvs xs ys
  | _, _ => none
def ltvs : List D → List D → Option Bool
  | [], [] => some false
  | [], _ :: _ => some true
  | _ :: _, [] => some false
  | x :: xs, y :: ys => match eqv x y, ltvs xs ys, ltv x y with
    | true, r, _ => r
    | false, some _, some b => some b
    | false, _, _ => none
end
theorem ltvs_all : ∀ (xs ys : List D) (b : Bool), ltvs xs ys = some b → ∀ (j : Nat) (x y : D), xs[j]? = some x → ys[j]? = some y → eqv x y = false → ∃ c, ltv x y = some c
  | [], _, _, _, j, x, y, h, _, _ => by simp at h
  | _ :: _, [], _, _, j, x, y, _, h, _ => by simp at h
  | a :: xs, c :: ys, b, h, 0, x, y, h1, h2, h3 => by
    simp at h1 h2
    subst h1 h2
    simp only [ltvs, h3] at h
    split at h
    · cases ‹false = true›
    · rename_i b' _ e; exact ⟨_, e⟩
    · cases h
  | a :: xs, c :: ys, b, h, j + 1, x, y, h1, h2, h3 => by
    have : ∃ b', ltvs xs ys = some b' := by
      simp only [ltvs] at h
      split at h
      · exact ⟨b, h⟩
      · rename_i b' _ e _; exact ⟨_, e⟩
      · cases h
    obtain ⟨b', hb⟩ := this
    exact ltvs_all xs ys b' hb j x y (by simpa using h1) (by simpa using h2) h3
theorem lexAt_of (e r : Nat → Bool) (z : Bool) : ∀ (xs ys : List D) (i : Nat) (b : Bool), ltvs xs ys = some b →
    (∀ j x y, xs[j]? = some x → ys[j]? = some y → e (i + j) = eqv x y ∧ (eqv x y = false → ltv x y = some (r (i + j)))) → z = decide (xs.length < ys.length) →
    Ob.lexAt e r z i (min xs.length ys.length) = b
  | [], [], i, b, h, _, hz => by cases h; simp [Ob.lexAt_zero, hz]
  | [], y :: ys, i, b, h, _, hz => by cases h; simp [Ob.lexAt_zero, hz]
  | x :: xs, [], i, b, h, _, hz => by cases h; simp [Ob.lexAt_zero, hz]
  | x :: xs, y :: ys, i, b, h, hj, hz => by
    have h0 := hj 0 x y rfl rfl
    rw [Nat.add_zero] at h0
    have hmin : min (x :: xs).length (y :: ys).length = min xs.length ys.length + 1 := by simp only [List.length_cons]; omega
    rw [hmin, Ob.lexAt_succ, h0.1]
    simp only [ltvs] at h
    split at h
    · rename_i e1
      rw [e1, if_pos rfl]
      refine lexAt_of e r z xs ys (i + 1) b h (fun j x' y' h1 h2 => ?_) (by rw [hz]; simp)
      have := hj (j + 1) x' y' (by simpa using h1) (by simpa using h2)
      rw [show i + (j + 1) = i + 1 + j by omega] at this
      exact this
    · rename_i b' b'' e1 e2 e3
      rw [e1, if_neg Bool.false_ne_true]
      have := h0.2 e1
      rw [this] at e3
      cases e3
      exact Option.some.inj h
    · cases h
section
variable {X : Cx} {pins : List (Addr × Obj)} {σ : L2.St} {H : Hp} {s : Shared}
theorem reps_vals {k : Kx} {F : Hp} {vs : List V} {ds : List D} {us : List Value} (r : Reps k F vs ds) (rv : Vals vs us) {j : Nat} {u : Value} (h : us[j]? = some u) : ∃ v d, vs[j]? = some v ∧ ds[j]? = some d ∧ RelV v u ∧ Rep k F v d := by
  have hl := rv.length
  have hj : j < vs.length := by rw [hl]; exact (List.getElem?_eq_some_iff.mp h).1
  obtain ⟨u', h1, h2⟩ := rv.get (List.getElem?_eq_getElem hj)
  rw [h] at h1; cases h1
  obtain ⟨d, h3, h4⟩ := r.getV (List.getElem?_eq_getElem hj)
  exact ⟨_, d, List.getElem?_eq_getElem hj, h3, h2, h4⟩
theorem okNs_get {ds : List D} {n : Nat} (h : okNs ds n = true) {j : Nat} {d : D} (hd : ds[j]? = some d) : d.okN n = true := by
  rw [okNs_all] at h
  exact List.all_eq_true.mp h d (List.mem_of_getElem? hd)
theorem eqAt_of (I : Inv X pins σ H s) {F : Hp} (e : Same F H) {A : Around} {d d' : D} {v v' : V} {u u' : Value} {n m : Nat} (h : d.okN n = true) (h' : d'.okN m = true) (r : Rep (kx X) F v d) (r' : Rep (kx X) F v' d') (q : RelV v u) (q' : RelV v' u')
    (hu : A.units + n < cLine) : SeqAt.EqAt A s u u' (eqv d d') := by
  obtain ⟨as, r1⟩ := Dp.reads I d.py v u (dp_of e d n h r) q
  obtain ⟨bs, r2⟩ := Dp.reads I d'.py v' u' (dp_of e d' m h' r') q'
  obtain ⟨l1, l2⟩ := lay_of d n h
  obtain ⟨l3, l4⟩ := lay_of d' m h'
  rw [← eqv_py d d' n m h h']
  exact SeqAt.eqAt_reads _ _ A s u u' as bs r1 r2 l1 l3 (by omega)
theorem tup_lt (I : Inv X pins σ H s) {F : Hp} (e : Same F H) {A : Around} {n m : Nat} {xs ys : List D} {a b : Addr} {vs ws : List V} {c : Bool} (hx : okNs xs n = true) (hy : okNs ys m = true) (ha : SqT X.K H a vs) (hb : SqT X.K H b ws) (r : Reps (kx X) F vs xs) (r' : Reps (kx X) F ws ys)
    (h : ltvs xs ys = some c) (hu : A.units + n + 1 < cLine) (ih : ∀ (j : Nat) (x : D), xs[j]? = some x → ∀ (y : D) (v w : V) (u u' : Value) (c : Bool), y.okN m = true → Rep (kx X) F v x → Rep (kx X) F w y → RelV v u → RelV w u' → ltv x y = some c → Ob.RcOp .Lt A.in1 s u u' c) : Ob.RcOp .Lt A s (.ref a) (.ref b) c := by
  obtain ⟨its, rv1, p1, _⟩ := I.tuple ha
  obtain ⟨its2, rv2, p2, _⟩ := I.tuple hb
  have l1 : its.length = xs.length := by rw [← rv1.length, r.length]
  have l2 : its2.length = ys.length := by rw [← rv2.length, r'.length]
  have R := Ob.RcOp.tuples_lt (A := A) (s := s) (e := fun j => eqv (xs.getD j .non) (ys.getD j .non)) (r := fun j => (ltv (xs.getD j .non) (ys.getD j .non)).getD false) p1 p2 (by omega) (fun j h1 h2 => ?_) (fun j h1 h2 he => ?_)
  · have z := lexAt_of (fun j => eqv (xs.getD j .non) (ys.getD j .non)) (fun j => (ltv (xs.getD j .non) (ys.getD j .non)).getD false) (decide (xs.length < ys.length)) xs ys 0 c h (fun j x y h1 h2 => by
      have e1 : xs.getD (0 + j) .non = x := by simp [List.getD, h1]
      have e2 : ys.getD (0 + j) .non = y := by simp [List.getD, h2]
      simp only [e1, e2]
      refine ⟨trivial, fun h3 => ?_⟩
      obtain ⟨c', hc'⟩ := ltvs_all xs ys c h j x y h1 h2 h3
      rw [hc']; rfl) rfl
    simp only [List.size_toArray, l1, l2] at R
    rw [z] at R
    exact R
  all_goals
    simp only [List.size_toArray] at h1 h2
    obtain ⟨v1, d1, g1, g2, g3, g4⟩ := reps_vals r rv1 (List.getElem?_eq_getElem h1)
    obtain ⟨v2, d2, f1, f2, f3, f4⟩ := reps_vals r' rv2 (List.getElem?_eq_getElem h2)
    have e1 : xs.getD j .non = d1 := by simp [List.getD, g2]
    have e2 : ys.getD j .non = d2 := by simp [List.getD, f2]
  · simp only [e1, e2, List.getElem_toArray]
    exact eqAt_of I e (okNs_get hx g2) (okNs_get hy f2) g4 f4 g3 f3 (by show A.units + 1 + n < cLine; omega)
  · simp only [e1, e2, List.getElem_toArray] at he ⊢
    obtain ⟨c', hc'⟩ := ltvs_all xs ys c h j d1 d2 g2 f2 he
    rw [hc']
    exact ih j d1 g2 d2 v1 v2 _ _ c' (okNs_get hy f2) g4 f4 g3 f3 hc'
mutual
theorem rc_lt (I : Inv X pins σ H s) {F : Hp} (e : Same F H) : ∀ (x : D) (n m : Nat) (A : Around) (y : D) (v w : V) (u u' : Value) (c : Bool), x.okN n = true → y.okN m = true → Rep (kx X) F v x → Rep (kx X) F w y → RelV v u → RelV w u' → ltv x y = some c → A.units + n + 1 < cLine → Ob.RcOp .Lt A s u u' c
  | .int i, n, m, A, y, v, w, u, u', c, h1, h2, r1, r2, q1, q2, hc, hu => by
    cases y <;> simp [ltv] at hc
    subst hc
    cases (show v = .int i from r1)
    cases (show w = .int _ from r2)
    obtain ⟨t, rfl⟩ := q1
    obtain ⟨t', rfl⟩ := q2
    exact Ob.RcOp.lt_int _ _ _ _
  | .str x, n, m, A, y, v, w, u, u', c, h1, h2, r1, r2, q1, q2, hc, hu => by
    cases y <;> simp [ltv] at hc
    subst hc
    cases (show v = .str x from r1)
    cases (show w = .str _ from r2)
    obtain ⟨t, rfl⟩ := q1
    obtain ⟨t', rfl⟩ := q2
    rename_i y
    intro prog w E Q hQ
    have e0 : decide (x.cps < y.cps) = decide (x.cps.toList < y.cps.toList) := decide_eq_decide.mpr Iff.rfl
    rw [e0] at hQ
    exact lt_str hQ
  | .tup xs, n, m, A, y, v, w, u, u', c, h1, h2, r1, r2, q1, q2, hc, hu => by
    cases y <;> simp only [ltv] at hc <;> try cases hc
    rename_i ys
    simp only [D.okN, Bool.and_eq_true, decide_eq_true_eq] at h1 h2
    obtain ⟨a, vs, e1, e2, e3⟩ := (show ∃ a xs, _ from r1)
    obtain ⟨b, ws, f1, f2, f3⟩ := (show ∃ a xs, _ from r2)
    subst e1 f1
    cases q1
    cases q2
    exact tup_lt I e h1.2 h2.2 (SqT.of (e _ _ e2)) (SqT.of (e _ _ f2)) e3 f3 hc (by omega) fun j x hx y v w u u' c g1 g2 g3 g4 g5 g6 =>
      rc_lts I e xs (n - 1) j x hx (m - 1) A.in1 y v w u u' c (okNs_get h1.2 hx) g1 g2 g3 g4 g5 g6 (by show A.units + 1 + (n - 1) + 1 < cLine; omega)
  | .non, n, m, A, y, v, w, u, u', c, h1, h2, r1, r2, q1, q2, hc, hu => by cases y <;> simp [ltv] at hc
  | .bl _, n, m, A, y, v, w, u, u', c, h1, h2, r1, r2, q1, q2, hc, hu => by cases y <;> simp [ltv] at hc
  | .lst _, n, m, A, y, v, w, u, u', c, h1, h2, r1, r2, q1, q2, hc, hu => by cases y <;> simp [ltv] at hc
  | .dct _ _ _, n, m, A, y, v, w, u, u', c, h1, h2, r1, r2, q1, q2, hc, hu => by cases y <;> simp [ltv] at hc
  | .ins _ _ _, n, m, A, y, v, w, u, u', c, h1, h2, r1, r2, q1, q2, hc, hu => by cases y <;> simp [ltv] at hc
theorem rc_lts (I : Inv X pins σ H s) {F : Hp} (e : Same F H) : ∀ (xs : List D) (n : Nat) (j : Nat) (x : D), xs[j]? = some x → ∀ (m : Nat) (A : Around) (y : D) (v w : V) (u u' : Value) (c : Bool), x.okN n = true → y.okN m = true → Rep (kx X) F v x → Rep (kx X) F w y → RelV v u → RelV w u' → ltv x y = some c → A.units + n + 1 < cLine → Ob.RcOp .Lt A s u u' c
  | [], n, j, x, h, _, _, _, _, _, _, _, _, _, _, _, _, _, _, _, _ => by simp at h
  | a :: xs, n, 0, x, h, m, A, y, v, w, u, u', c, g1, g2, g3, g4, g5, g6, g7, g8 => by
    have : a = x := Option.some.inj h
    subst this
    exact rc_lt I e a n m A y v w u u' c g1 g2 g3 g4 g5 g6 g7 g8
  | a :: xs, n, j + 1, x, h, m, A, y, v, w, u, u', c, g1, g2, g3, g4, g5, g6, g7, g8 => rc_lts I e xs n j x h m A y v w u u' c g1 g2 g3 g4 g5 g6 g7 g8
end
end
def rLtD (k : Kx) : R2 := fun x y H Q => ∃ F dx dy b, Same F H ∧ RepH k F H x dx ∧ RepH k F H y dy ∧ dx.okN 60 = true ∧ dy.okN 60 = true ∧ ltv dx dy = some b ∧ Q (.bl b) H
theorem op_ltD {X : Cx} (hu : X.A.units + 64 < cLine) : OpR X (compareOp .Lt) (rLtD (kx X)) := by
  intro pins s σ H x y v u Q I rx ry h
  obtain ⟨F, dx, dy, b, e, r1, r2, h1, h2, hc, q⟩ := h
  have fin : Ob.RcOp .Lt X.A s v u b := by
    cases dx with
    | tup xs =>
      cases dy <;> simp only [ltv] at hc <;> try cases hc
      rename_i ys
      simp only [D.okN, Bool.and_eq_true, decide_eq_true_eq] at h1 h2
      obtain ⟨a, vs, e1, e2, e3⟩ := repH_tup e r1
      obtain ⟨b', ws, f1, f2, f3⟩ := repH_tup e r2
      subst e1 f1
      cases rx
      cases ry
      exact tup_lt I e h1.2 h2.2 e2 f2 e3 f3 hc (by omega) fun j x hx y v w u u' c g1 g2 g3 g4 g5 g6 =>
        rc_lt I e x 59 59 X.A.in1 y v w u u' c (okNs_get h1.2 hx) g1 g2 g3 g4 g5 g6 (by show X.A.units + 1 + 59 + 1 < cLine; omega)
    | int i =>
      cases dy <;> simp only [ltv] at hc <;> try cases hc
      rename_i j
      exact rc_lt I e (.int i) 0 0 X.A (.int j) x y v u _ rfl rfl (repH_int r1) (repH_int r2) rx ry rfl (by omega)
    | str i =>
      cases dy <;> simp only [ltv] at hc <;> try cases hc
      rename_i j
      exact rc_lt I e (.str i) 60 60 X.A (.str j) x y v u _ h1 h2 (repH_str r1) (repH_str r2) rx ry rfl (by omega)
    | non => cases dy <;> simp [ltv] at hc
    | bl _ => cases dy <;> simp [ltv] at hc
    | lst _ => cases dy <;> simp [ltv] at hc
    | dct _ _ _ => cases dy <;> simp [ltv] at hc
    | ins _ _ _ => cases dy <;> simp [ltv] at hc
  exact fin X.prog X.w X.xe (EP X pins σ Q) ⟨.bl b, H, I, rfl, q⟩
def ltD (x y : D) : Option D := if x.okN 60 = true ∧ y.okN 60 = true then (ltv x y).map .bl else none
theorem r_lt {k : Kx} : R2H k ltD (rLtD k) := by
  intro G H x y dx dy z Q w rx ry hf q
  unfold ltD at hf
  split at hf
  · rename_i h
    obtain ⟨b, h1, h2⟩ := Option.map_eq_some_iff.mp hf
    subst h2
    exact ⟨G.F, dx, dy, b, w.fr, rx, ry, h.1, h.2, h1, q.val w rfl⟩
  · cases hf
/-! ### ints and texts by <=, >, >= -/
def leD : D → D → Option D
  | .int i, .int j => some (.bl (decide (i ≤ j)))
  | .str x, .str y => some (.bl (!decide (y.cps.toList < x.cps.toList)))
  | _, _ => none
def gtD : D → D → Option D
  | .int i, .int j => some (.bl (decide (j < i)))
  | .str x, .str y => some (.bl (decide (y.cps.toList < x.cps.toList)))
  | _, _ => none
def geD : D → D → Option D
  | .int i, .int j => some (.bl (decide (j ≤ i)))
  | .str x, .str y => some (.bl (!decide (x.cps.toList < y.cps.toList)))
  | _, _ => none
def rLeA : R2 := fun x y H Q => (∃ i j, x = .int i ∧ y = .int j ∧ Q (.bl (decide (i ≤ j))) H) ∨ (∃ i j, x = .str i ∧ y = .str j ∧ Q (.bl (!decide (j.cps.toList < i.cps.toList))) H)
def rGtA : R2 := fun x y H Q => (∃ i j, x = .int i ∧ y = .int j ∧ Q (.bl (decide (j < i))) H) ∨ (∃ i j, x = .str i ∧ y = .str j ∧ Q (.bl (decide (j.cps.toList < i.cps.toList))) H)
def rGeA : R2 := fun x y H Q => (∃ i j, x = .int i ∧ y = .int j ∧ Q (.bl (decide (j ≤ i))) H) ∨ (∃ i j, x = .str i ∧ y = .str j ∧ Q (.bl (!decide (i.cps.toList < j.cps.toList))) H)
theorem op_leA {X : Cx} : OpR X (compareOp .LtE) rLeA := op_le.or op_le_str
theorem op_gtA {X : Cx} : OpR X (compareOp .Gt) rGtA := op_gt.or op_gt_str
theorem op_geA {X : Cx} : OpR X (compareOp .GtE) rGeA := op_ge.or op_ge_str
theorem r_le {k : Kx} : R2H k leD rLeA := by
  intro G H x y dx dy z Q w rx ry hf q
  unfold leD at hf
  split at hf
  · cases hf; rw [repH_int rx, repH_int ry]; exact .inl ⟨_, _, rfl, rfl, q.val w rfl⟩
  · cases hf; rw [repH_str rx, repH_str ry]; exact .inr ⟨_, _, rfl, rfl, q.val w rfl⟩
  · cases hf
theorem r_gt {k : Kx} : R2H k gtD rGtA := by
  intro G H x y dx dy z Q w rx ry hf q
  unfold gtD at hf
  split at hf
  · cases hf; rw [repH_int rx, repH_int ry]; exact .inl ⟨_, _, rfl, rfl, q.val w rfl⟩
  · cases hf; rw [repH_str rx, repH_str ry]; exact .inr ⟨_, _, rfl, rfl, q.val w rfl⟩
  · cases hf
theorem r_ge {k : Kx} : R2H k geD rGeA := by
  intro G H x y dx dy z Q w rx ry hf q
  unfold geD at hf
  split at hf
  · cases hf; rw [repH_int rx, repH_int ry]; exact .inl ⟨_, _, rfl, rfl, q.val w rfl⟩
  · cases hf; rw [repH_str rx, repH_str ry]; exact .inr ⟨_, _, rfl, rfl, q.val w rfl⟩
  · cases hf
end PL

set_option Elab.async false
set_option linter.all false
set_option maxRecDepth 100000
namespace PL
open PySem PySem.Spec PyProof.Rows L2

/-! ### is -/
def isB : D → D → Bool
  | .non, .non => true
  | .bl a, .bl b => a == b
  | _, _ => false
/-- the right one None, True, False -/
def isD (x y : D) : Option D := match y with
  | .non => some (.bl (isB x y))
  | .bl _ => some (.bl (isB x y))
  | _ => none
def isNotD (x y : D) : Option D := match y with
  | .non => some (.bl (!isB x y))
  | .bl _ => some (.bl (!isB x y))
  | _ => none
def rIsC : R2 := fun x y H Q => (y = .non ∨ ∃ b, y = .bl b) ∧ Q (.bl (decide (x = y))) H
def rIsNotC : R2 := fun x y H Q => (y = .non ∨ ∃ b, y = .bl b) ∧ Q (.bl (!decide (x = y))) H
theorem is_dec {x y : V} {v u : Value} (rx : RelV x v) (ry : RelV y u) (h : y = .non ∨ ∃ b, y = .bl b) : plainIs v u = true ∧ (v == u) = decide (x = y) := by
  rcases h with e | ⟨b, e⟩
  · subst e
    cases (show u = Value.none from ry)
    cases x <;> first
      | (cases rx; exact ⟨rfl, rfl⟩)
      | (obtain ⟨t, rfl⟩ := rx; exact ⟨rfl, rfl⟩)
  · subst e
    cases (show u = Value.bool b from ry)
    cases x with
    | bl a =>
      cases (show v = Value.bool a from rx)
      refine ⟨rfl, ?_⟩
      cases a <;> cases b <;> decide
    | non => cases rx; exact ⟨rfl, rfl⟩
    | ref a => cases rx; exact ⟨rfl, rfl⟩
    | ty a => cases rx; exact ⟨rfl, rfl⟩
    | int a => obtain ⟨t, rfl⟩ := rx; exact ⟨rfl, rfl⟩
    | str a => obtain ⟨t, rfl⟩ := rx; exact ⟨rfl, rfl⟩
    | byt a => obtain ⟨t, rfl⟩ := rx; exact ⟨rfl, rfl⟩
    | flt a => obtain ⟨t, rfl⟩ := rx; exact ⟨rfl, rfl⟩
theorem op_isC {X : Cx} : OpR X (compareOp .Is) rIsC := by
  intro pins s σ H x y v u Q I rx ry h
  obtain ⟨h, q⟩ := h
  obtain ⟨h1, h2⟩ := is_dec rx ry h
  exact wpAny_is_plain h1 (fin_bl I q h2.symm)
theorem op_isNotC {X : Cx} : OpR X (compareOp .IsNot) rIsNotC := by
  intro pins s σ H x y v u Q I rx ry h
  obtain ⟨h, q⟩ := h
  obtain ⟨h1, h2⟩ := is_dec rx ry h
  exact wpAny_isNot_plain h1 (fin_bl I q (congrArg Bool.not h2.symm))
theorem repT_ref {k : Kx} {F H : Hp} {v : V} {d : D} (r : RepT k F H v d) (h : ∀ a, v ≠ .ref a) : Rep k F v d := by
  rcases r with r | ⟨p, o, e, _⟩
  · exact r
  · exact absurd e (h p)
theorem is_rep {k : Kx} {F H : Hp} {x y : V} {dx dy : D} (e : Same F H) (rx : RepH k F H x dx) (ry : RepH k F H y dy) (h : dy = .non ∨ ∃ b, dy = .bl b) : (y = .non ∨ ∃ b, y = .bl b) ∧ decide (x = y) = isB dx dy := by
  rcases h with h | ⟨b, h⟩
  · subst h
    rw [repH_non ry]
    refine ⟨.inl rfl, ?_⟩
    cases dx with
    | non => rw [repH_non rx]; rfl
    | bl b => rw [repH_bl rx]; rfl
    | int b => rw [repH_int rx]; rfl
    | str b => rw [repH_str rx]; rfl
    | tup ds => obtain ⟨a, xs, e1, _⟩ := repH_tup e rx; rw [e1]; rfl
    | lst ds => obtain ⟨a, xs, e1, _⟩ := repH_lst e rx; rw [e1]; rfl
    | dct t ks vs => cases t with
      | true => obtain ⟨a, e1, _⟩ := repH_dT e rx; rw [e1]; rfl
      | false => obtain ⟨a, e1, _⟩ := repH_dK e rx; rw [e1]; rfl
    | ins c ns vs => obtain ⟨a, C, dx, fs, e1, _⟩ := repH_ins e rx; rw [e1]; rfl
  · subst h
    rw [repH_bl ry]
    refine ⟨.inr ⟨b, rfl⟩, ?_⟩
    cases dx with
    | bl a => rw [repH_bl rx]; cases a <;> cases b <;> decide
    | non => rw [repH_non rx]; rfl
    | int b => rw [repH_int rx]; rfl
    | str b => rw [repH_str rx]; rfl
    | tup ds => obtain ⟨a, xs, e1, _⟩ := repH_tup e rx; rw [e1]; rfl
    | lst ds => obtain ⟨a, xs, e1, _⟩ := repH_lst e rx; rw [e1]; rfl
    | dct t ks vs => cases t with
      | true => obtain ⟨a, e1, _⟩ := repH_dT e rx; rw [e1]; rfl
      | false => obtain ⟨a, e1, _⟩ := repH_dK e rx; rw [e1]; rfl
    | ins c ns vs => obtain ⟨a, C, dx, fs, e1, _⟩ := repH_ins e rx; rw [e1]; rfl
theorem r_is {k : Kx} : R2H k isD rIsC := by
  intro G H x y dx dy z Q w rx ry hf q
  unfold isD at hf
  split at hf
  · cases hf
    obtain ⟨h1, h2⟩ := is_rep w.fr rx ry (.inl rfl)
    exact ⟨h1, by rw [h2]; exact q.val w rfl⟩
  · cases hf
    obtain ⟨h1, h2⟩ := is_rep w.fr rx ry (.inr ⟨_, rfl⟩)
    exact ⟨h1, by rw [h2]; exact q.val w rfl⟩
  · cases hf
theorem r_isNot {k : Kx} : R2H k isNotD rIsNotC := by
  intro G H x y dx dy z Q w rx ry hf q
  unfold isNotD at hf
  split at hf
  · cases hf
    obtain ⟨h1, h2⟩ := is_rep w.fr rx ry (.inl rfl)
    exact ⟨h1, by rw [h2]; exact q.val w rfl⟩
  · cases hf
    obtain ⟨h1, h2⟩ := is_rep w.fr rx ry (.inr ⟨_, rfl⟩)
    exact ⟨h1, by rw [h2]; exact q.val w rfl⟩
  · cases hf

/-! ### dicts are looked at -/
def toKey : D → Option Key
  | .int i => some (.inl i)
  | .str x => some (.inr x)
  | _ => none
def toKeys : List D → Option (List Key)
  | [] => some []
  | d :: ds => match toKey d, toKeys ds with
    | some k, some ks => some (k :: ks)
    | _, _ => none
theorem toKey_keyD {d : D} {k : Key} (h : toKey d = some k) : d = keyD k := by
  unfold toKey at h
  split at h
  · cases h; rfl
  · cases h; rfl
  · cases h
theorem toKeys_keyD : ∀ {ds : List D} {ks : List Key}, toKeys ds = some ks → ds = ks.map keyD
  | [], ks, h => by cases h; rfl
  | d :: ds, ks, h => by
    simp only [toKeys] at h
    split at h
    · rename_i k ks' h1 h2
      cases h
      rw [toKey_keyD h1, toKeys_keyD h2]
      rfl
    · cases h
theorem rep_keyD {k : Kx} {F : Hp} {v : V} : ∀ {x : Key}, Rep k F v (keyD x) → v = kV x
  | .inl _, r => r
  | .inr _, r => r
theorem reps_keyD {k : Kx} {F : Hp} : ∀ {ks : List Key} {vs : List V}, Reps k F vs (ks.map keyD) → vs = ks.map kV
  | [], [], _ => rfl
  | [], _ :: _, h => h.elim
  | _ :: _, [], h => h.elim
  | x :: ks, v :: vs, h => by
    rw [rep_keyD h.1, reps_keyD (ks := ks) h.2]
    rfl
theorem keyD_inj : ∀ {a b : Key}, keyD a = keyD b → a = b
  | .inl a, .inl b, h => by cases h; rfl
  | .inr a, .inr b, h => by cases h; rfl
  | .inl a, .inr b, h => by cases h
  | .inr a, .inl b, h => by cases h
theorem eqv_keyD : ∀ (a b : Key), eqv (keyD a) (keyD b) = decide (a = b)
  | .inl a, .inl b => by
    rw [show eqv (keyD (.inl a)) (keyD (.inl b)) = (a == b) by simp [keyD, eqv]]
    rw [Bool.eq_iff_iff]; simp
  | .inr a, .inr b => by
    rw [show eqv (keyD (.inr a)) (keyD (.inr b)) = (a == b) by simp [keyD, eqv]]
    rw [Bool.eq_iff_iff]; simp
  | .inl a, .inr b => by rw [decide_eq_false (fun h => nomatch h)]; simp [keyD, eqv]
  | .inr a, .inl b => by rw [decide_eq_false (fun h => nomatch h)]; simp [keyD, eqv]
theorem eqvs_keyD : ∀ (a b : List Key), eqvs (a.map keyD) (b.map keyD) = decide (a = b)
  | [], [] => by simp [eqvs]
  | [], _ :: _ => by simp [eqvs]
  | _ :: _, [] => by simp [eqvs]
  | x :: a, y :: b => by
    simp only [List.map_cons, eqvs, eqv_keyD x y, eqvs_keyD a b, List.cons.injEq, Bool.decide_and]
theorem eqv_keysD (a b : List Key) : eqv (keysD a) (keysD b) = decide (a = b) := by
  unfold keysD
  simp only [eqv]
  exact eqvs_keyD a b
/-- what stands beside a key -/
def look : List D → List D → D → Option D
  | k :: ks, v :: vs, d => if eqv k d = true then some v else look ks vs d
  | _, _, _ => none
/-- whether it may be a key of such a dict -/
def isKey (t : Bool) : D → Bool
  | .int _ => !t
  | .str _ => !t
  | .tup ds => t && (toKeys ds).isSome
  | _ => false
theorem look_of {κ : Type} [DecidableEq κ] {k : Kx} {F : Hp} (e : κ → D) (he : ∀ a b, eqv (e a) (e b) = decide (a = b)) : ∀ (kvs : List (κ × V)) (vs : List D) (x : κ), Reps k F (kvs.map (·.2)) vs →
    match look (kvs.map fun p => e p.1) vs (e x) with
    | some d => ∃ v, valV kvs x = some v ∧ Rep k F v d
    | none => valV kvs x = none
  | [], [], x, _ => rfl
  | [], _ :: _, _, h => h.elim
  | _ :: _, [], _, h => h.elim
  | p :: kvs, v :: vs, x, h => by
    simp only [List.map_cons, look]
    by_cases q : p.1 = x
    · rw [if_pos (by rw [he]; exact decide_eq_true q)]
      exact ⟨p.2, valV_pos q, h.1⟩
    · rw [if_neg (by rw [he, decide_eq_false q]; exact Bool.false_ne_true), valV_neg q]
      exact look_of e he kvs vs x h.2
theorem dget_of {k : Kx} {F H : Hp} (e : Same F H) {c y : V} {t : Bool} {ks vs : List D} {d : D} (rc : RepH k F H c (.dct t ks vs)) (ry : RepT k F H y d) (hk : isKey t d = true) :
    ∃ a, c = .ref a ∧ match look ks vs d with
      | some z => ∃ v, DGet H a y (some v) ∧ Rep k F v z
      | none => DGet H a y none := by
  cases t with
  | false =>
    obtain ⟨a, e1, kvs, h1, h2, h3⟩ := repH_dK e rc
    subst h2
    have : ∃ x : Key, d = keyD x ∧ y = kV x := by
      cases d <;> simp [isKey] at hk
      · exact ⟨.inl _, rfl, repT_int ry⟩
      · exact ⟨.inr _, rfl, repT_str ry⟩
    obtain ⟨x, q1, q2⟩ := this
    subst q1 q2
    refine ⟨a, e1, ?_⟩
    have z := look_of (k := k) (F := F) keyD eqv_keyD kvs vs x h3
    split at z
    · rename_i d hd
      obtain ⟨v, z1, z2⟩ := z
      exact ⟨v, z1 ▸ DGet.k h1, z2⟩
    · rename_i hd
      exact z ▸ DGet.k h1
  | true =>
    obtain ⟨a, e1, kvs, h1, h2, h3⟩ := repH_dT e rc
    subst h2
    cases d <;> simp [isKey] at hk
    rename_i ds
    obtain ⟨x, hx⟩ := Option.isSome_iff_exists.mp hk
    have q1 := toKeys_keyD hx
    subst q1
    obtain ⟨b, ws, f1, f2, f3, f4⟩ := repT_tup e ry
    have q2 := reps_keyD f4
    subst q2
    subst f1
    refine ⟨a, e1, ?_⟩
    have z := look_of (k := k) (F := F) keysD eqv_keysD kvs vs x h3
    rw [show D.tup (x.map keyD) = keysD x from rfl]
    split at z
    · rename_i d hd
      obtain ⟨v, z1, z2⟩ := z
      exact ⟨v, z1 ▸ DGet.t h1 f3, z2⟩
    · rename_i hd
      exact z ▸ DGet.t h1 f3

/-! ### in -/
def inD (x c : D) : Option D := match c with
  | .lst ys => if x.okN 59 = true ∧ okNs ys 59 = true then some (.bl (ys.any fun y => eqv y x)) else none
  | .tup ys => if x.okN 59 = true ∧ okNs ys 59 = true then some (.bl (ys.any fun y => eqv y x)) else none
  | .dct t ks vs => if isKey t x = true then some (.bl (look ks vs x).isSome) else none
  | .str z => match x with
    | .str y => if y.length = 1 then some (.bl (decide (y.cps.getD 0 0 ∈ z.cps.toList))) else none
    | _ => none
  | _ => none
def notD : D → Option D
  | .bl b => some (.bl (!b))
  | _ => none
def notInD (x c : D) : Option D := (inD x c).bind notD
def rInTD (K : PySem.W.Frag) : R2 := fun x y H Q => ∃ d ds, Dp K H x d ∧ Dp K H y (.tuple ds) ∧ SeqAt.shaped d = true ∧ SeqAt.shaped (.tuple ds) = true ∧ Q (.bl (ds.any fun z => PyData.eqv z d)) H
def rNotInTD (K : PySem.W.Frag) : R2 := fun x y H Q => ∃ d ds, Dp K H x d ∧ Dp K H y (.tuple ds) ∧ SeqAt.shaped d = true ∧ SeqAt.shaped (.tuple ds) = true ∧ Q (.bl (!ds.any fun z => PyData.eqv z d)) H
theorem room_in {A : Around} {ds : List PyData} {d : PyData} (h : SeqAt.shaped d = true) (hu : A.units + 65 < cLine) : A.units + 1 + min (PyData.depthAll ds) d.depth < cLine := by
  have h1 := SeqAt.depth_of_shaped h
  omega
theorem op_inTD {X : Cx} (hu : X.A.units + 65 < cLine) : OpR X (compareOp .In) (rInTD X.K) := by
  intro pins s σ H x y v u Q I rx ry h
  obtain ⟨d, ds, hd, he, sd, se, q⟩ := h
  obtain ⟨as, r1⟩ := Dp.reads I d x v hd rx
  obtain ⟨bs, r2⟩ := Dp.reads I (.tuple ds) y u he ry
  exact SeqAt.in_tuple_reads r2 r1 (SeqAt.canLay_of_shaped se) (SeqAt.canLay_of_shaped sd) (room_in sd hu) ⟨.bl _, H, I, rfl, q⟩
theorem op_notInTD {X : Cx} (hu : X.A.units + 65 < cLine) : OpR X (compareOp .NotIn) (rNotInTD X.K) := by
  intro pins s σ H x y v u Q I rx ry h
  obtain ⟨d, ds, hd, he, sd, se, q⟩ := h
  obtain ⟨as, r1⟩ := Dp.reads I d x v hd rx
  obtain ⟨bs, r2⟩ := Dp.reads I (.tuple ds) y u he ry
  exact SeqAt.notIn_tuple_reads r2 r1 (SeqAt.canLay_of_shaped se) (SeqAt.canLay_of_shaped sd) (room_in sd hu) ⟨.bl _, H, I, rfl, q⟩
def rInDt : R2 := fun y x H Q => ∃ a o, x = .ref a ∧ DGet H a y o ∧ Q (.bl o.isSome) H
def rNotInDt : R2 := fun y x H Q => ∃ a o, x = .ref a ∧ DGet H a y o ∧ Q (.bl (!o.isSome)) H
theorem op_inDt {X : Cx} (hu : X.A.units + 65 < cLine) : OpR X (compareOp .In) rInDt := by
  intro pins s σ H y x v u Q I ry rx h
  obtain ⟨a, o, rfl, g, q⟩ := h
  cases rx
  exact d_in (by omega) I g ry fun s' I' => ⟨.bl _, H, I', rfl, q⟩
theorem op_notInDt {X : Cx} (hu : X.A.units + 65 < cLine) : OpR X (compareOp .NotIn) rNotInDt := by
  intro pins s σ H y x v u Q I ry rx h
  obtain ⟨a, o, rfl, g, q⟩ := h
  cases rx
  exact d_notIn (by omega) I g ry fun s' I' => ⟨.bl _, H, I', rfl, q⟩
def rInS : R2 := fun x y H Q => ∃ (c : Nat) (z : Str), x = .str ⟨#[c]⟩ ∧ y = .str z ∧ Q (.bl (decide (c ∈ z.cps.toList))) H
def rNotInS : R2 := fun x y H Q => ∃ (c : Nat) (z : Str), x = .str ⟨#[c]⟩ ∧ y = .str z ∧ Q (.bl (!decide (c ∈ z.cps.toList))) H
def rInAll (K : PySem.W.Frag) : R2 := fun x y H Q => rInD K x y H Q ∨ rInTD K x y H Q ∨ rInDt x y H Q ∨ rInS x y H Q
def rNotInAll (K : PySem.W.Frag) : R2 := fun x y H Q => rNotInD K x y H Q ∨ rNotInTD K x y H Q ∨ rNotInDt x y H Q ∨ rNotInS x y H Q
theorem op_inAll {X : Cx} (hu : X.A.units + 65 < cLine) : OpR X (compareOp .In) (rInAll X.K) := (op_inD hu).or ((op_inTD hu).or ((op_inDt hu).or op_in_sign))
theorem op_notInAll {X : Cx} (hu : X.A.units + 65 < cLine) : OpR X (compareOp .NotIn) (rNotInAll X.K) := (op_notInD hu).or ((op_notInTD hu).or ((op_notInDt hu).or op_notIn_sign))
mutual
theorem okN_up : ∀ (d : D) (n m : Nat), d.okN n = true → n ≤ m → d.okN m = true
  | .non, _, _, _, _ => rfl
  | .bl _, _, _, _, _ => rfl
  | .int _, _, _, _, _ => rfl
  | .str _, _, _, h, _ => h
  | .tup ds, n, m, h, l => by
    simp only [D.okN, Bool.and_eq_true, decide_eq_true_eq] at h ⊢
    exact ⟨by omega, okNs_up ds (n - 1) (m - 1) h.2 (by omega)⟩
  | .lst ds, n, m, h, l => by
    simp only [D.okN, Bool.and_eq_true, decide_eq_true_eq] at h ⊢
    exact ⟨by omega, okNs_up ds (n - 1) (m - 1) h.2 (by omega)⟩
  | .dct _ _ _, _, _, h, _ => by simp [D.okN] at h
  | .ins _ _ _, _, _, h, _ => by simp [D.okN] at h
theorem okNs_up : ∀ (ds : List D) (n m : Nat), okNs ds n = true → n ≤ m → okNs ds m = true
  | [], _, _, _, _ => rfl
  | d :: ds, n, m, h, l => by
    simp only [okNs, Bool.and_eq_true] at h ⊢
    exact ⟨okN_up d n m h.1 l, okNs_up ds n m h.2 l⟩
end
theorem any_py (ys : List D) (x : D) (n : Nat) (h : okNs ys n = true) (h' : x.okN n = true) : (pys ys).any (fun z => PyData.eqv z x.py) = ys.any fun y => eqv y x := by
  induction ys with
  | nil => rfl
  | cons y ys ih =>
    simp only [okNs, Bool.and_eq_true] at h
    simp only [pys, List.any_cons, eqv_py y x n n h.1 h', ih h.2]
/-- two values: the first not read-only -/
def R2TH (k : Kx) (f : D → D → Option D) (r : R2) : Prop := ∀ G H x y dx dy z (Q : VK), WG k G H → RepT k G.F H x dx → RepH k G.F H y dy → f dx dy = some z → KD k G Q z → r x y H Q
def R2HT (k : Kx) (f : D → D → Option D) (r : R2) : Prop := ∀ G H x y dx dy z (Q : VK), WG k G H → RepH k G.F H x dx → RepT k G.F H y dy → f dx dy = some z → KD k G Q z → r x y H Q
def mOpTH (f : D → D → Option D) (a b : ME) : ME := fun ρ μ => (a ρ μ).bind fun p => (b ρ p.2).bind fun q => (derefT q.2 p.1).bind fun x => (deref q.2 q.1).bind fun y => (f x y).map fun z => (.dat z, q.2)
def mOpHT (f : D → D → Option D) (a b : ME) : ME := fun ρ μ => (a ρ μ).bind fun p => (b ρ p.2).bind fun q => (deref q.2 p.1).bind fun x => (derefT q.2 q.1).bind fun y => (f x y).map fun z => (.dat z, q.2)
section
variable {k : Kx} {f : D → D → Option D} {r : R2} {m n : ME} {σ : L2.St} {H : Hp} {Q : VK}
theorem opTH_of (hr : R2TH k f r) (h : tE k (mOpTH f m n) σ H Q) : tOp r (tE k m) (tE k n) σ H Q := by
  obtain ⟨G, ρ, w, e, x, μ', hm, q⟩ := h
  simp only [mOpTH, Option.bind_eq_some_iff, Option.map_eq_some_iff] at hm
  obtain ⟨⟨p1, μ1⟩, h1, ⟨p2, μ2⟩, h2, dx, h3, dy, h4, z, h5, h6⟩ := hm
  cases h6
  refine ⟨G, ρ, w, e, p1, μ1, h1, fun v1 H1 G1 e1 g1 w1 r1 => ?_⟩
  refine ⟨G1, ρ, w1, e.ext e1, p2, μ2, by rw [g1]; exact h2, fun v2 H2 G2 e2 g2 w2 r2 => ?_⟩
  refine hr G2 H2 v1 v2 dx dy z Q w2 (w2.derefT (r1.ext e2) (by rw [g2]; exact h3)) (w2.deref r2 (by rw [g2]; exact h4)) h5 fun v H' G' e3 g3 w3 r3 => ?_
  exact q v H' G' ((e1.trans e2).trans e3) (by rw [g3, g2]) w3 r3
theorem opHT_of (hr : R2HT k f r) (h : tE k (mOpHT f m n) σ H Q) : tOp r (tE k m) (tE k n) σ H Q := by
  obtain ⟨G, ρ, w, e, x, μ', hm, q⟩ := h
  simp only [mOpHT, Option.bind_eq_some_iff, Option.map_eq_some_iff] at hm
  obtain ⟨⟨p1, μ1⟩, h1, ⟨p2, μ2⟩, h2, dx, h3, dy, h4, z, h5, h6⟩ := hm
  cases h6
  refine ⟨G, ρ, w, e, p1, μ1, h1, fun v1 H1 G1 e1 g1 w1 r1 => ?_⟩
  refine ⟨G1, ρ, w1, e.ext e1, p2, μ2, by rw [g1]; exact h2, fun v2 H2 G2 e2 g2 w2 r2 => ?_⟩
  refine hr G2 H2 v1 v2 dx dy z Q w2 (w2.deref (r1.ext e2) (by rw [g2]; exact h3)) (w2.derefT r2 (by rw [g2]; exact h4)) h5 fun v H' G' e3 g3 w3 r3 => ?_
  exact q v H' G' ((e1.trans e2).trans e3) (by rw [g3, g2]) w3 r3
end
theorem sign1 {y : Str} (h : y.length = 1) : y = ⟨#[y.cps.getD 0 0]⟩ := by
  obtain ⟨⟨l⟩⟩ := y
  cases l with
  | nil => cases h
  | cons a r => cases r with
    | nil => rfl
    | cons b r => cases h
theorem in_cases {k : Kx} {G : Gh} {H : Hp} {x y : V} {dx dy z : D} (w : WG k G H) (rx : RepT k G.F H x dx) (ry : RepH k G.F H y dy) (hf : inD dx dy = some z) :
    ∃ b, z = .bl b ∧ ((∃ d ds, Dp k.K H x d ∧ Dp k.K H y (.list ds) ∧ SeqAt.shaped d = true ∧ SeqAt.shaped (.list ds) = true ∧ b = (ds.any fun z => PyData.eqv z d)) ∨
      (∃ d ds, Dp k.K H x d ∧ Dp k.K H y (.tuple ds) ∧ SeqAt.shaped d = true ∧ SeqAt.shaped (.tuple ds) = true ∧ b = (ds.any fun z => PyData.eqv z d)) ∨
      (∃ a o, y = .ref a ∧ DGet H a x o ∧ b = o.isSome) ∨ (∃ (c : Nat) (z : Str), x = .str ⟨#[c]⟩ ∧ y = .str z ∧ b = decide (c ∈ z.cps.toList))) := by
  unfold inD at hf
  split at hf
  · rename_i ys
    obtain ⟨⟨h1, h2⟩, e⟩ := if_some hf
    subst e
    refine ⟨_, rfl, .inl ⟨dx.py, pys ys, dp_ofH w.fr h1 (.inl rx), ?_, shaped_of (okN_up dx 59 60 h1 (by omega)), shaped_lst (okNs_up ys 59 60 h2 (by omega)), (any_py ys dx 59 h2 h1).symm⟩⟩
    exact dp_ofH (d := .lst ys) (n := 60) w.fr (by simp [D.okN, h2]) ry
  · rename_i ys
    obtain ⟨⟨h1, h2⟩, e⟩ := if_some hf
    subst e
    refine ⟨_, rfl, .inr (.inl ⟨dx.py, pys ys, dp_ofH w.fr h1 (.inl rx), ?_, shaped_of (okN_up dx 59 60 h1 (by omega)), shaped_tup (okNs_up ys 59 60 h2 (by omega)), (any_py ys dx 59 h2 h1).symm⟩)⟩
    exact dp_ofH (d := .tup ys) (n := 60) w.fr (by simp [D.okN, h2]) ry
  · rename_i t ks vs
    obtain ⟨h1, e⟩ := if_some hf
    subst e
    obtain ⟨a, e1, g⟩ := dget_of w.fr ry rx h1
    subst e1
    refine ⟨_, rfl, .inr (.inr (.inl ?_))⟩
    cases hl : look ks vs dx with
    | none => rw [hl] at g; exact ⟨a, none, rfl, g, rfl⟩
    | some z => rw [hl] at g; obtain ⟨v, g1, g2⟩ := g; exact ⟨a, some v, rfl, g1, rfl⟩
  · rename_i zs
    split at hf
    · rename_i ys
      obtain ⟨h1, e⟩ := if_some hf
      subst e
      refine ⟨_, rfl, .inr (.inr (.inr ⟨_, zs, ?_, repH_str ry, rfl⟩))⟩
      rw [repT_str rx]
      exact congrArg V.str (sign1 h1)
    · cases hf
  · cases hf
theorem r_in {k : Kx} : R2TH k inD (rInAll k.K) := by
  intro G H x y dx dy z Q w rx ry hf q
  obtain ⟨b, e, h⟩ := in_cases w rx ry hf
  subst e
  have q' : Q (.bl b) H := q.val w rfl
  rcases h with ⟨d, ds, h1, h2, h3, h4, h5⟩ | ⟨d, ds, h1, h2, h3, h4, h5⟩ | ⟨a, o, h1, h2, h3⟩ | ⟨c, z, h1, h2, h3⟩
  · exact .inl ⟨d, ds, h1, h2, h3, h4, h5 ▸ q'⟩
  · exact .inr (.inl ⟨d, ds, h1, h2, h3, h4, h5 ▸ q'⟩)
  · exact .inr (.inr (.inl ⟨a, o, h1, h2, h3 ▸ q'⟩))
  · exact .inr (.inr (.inr ⟨c, z, h1, h2, h3 ▸ q'⟩))
theorem r_notIn {k : Kx} : R2TH k notInD (rNotInAll k.K) := by
  intro G H x y dx dy z Q w rx ry hf q
  obtain ⟨z0, hf0, hf1⟩ := Option.bind_eq_some_iff.mp hf
  obtain ⟨b, e, h⟩ := in_cases w rx ry hf0
  subst e
  simp only [notD, Option.some.injEq] at hf1
  subst hf1
  have q' : Q (.bl (!b)) H := q.val w rfl
  rcases h with ⟨d, ds, h1, h2, h3, h4, h5⟩ | ⟨d, ds, h1, h2, h3, h4, h5⟩ | ⟨a, o, h1, h2, h3⟩ | ⟨c, z, h1, h2, h3⟩
  · exact .inl ⟨d, ds, h1, h2, h3, h4, h5 ▸ q'⟩
  · exact .inr (.inl ⟨d, ds, h1, h2, h3, h4, h5 ▸ q'⟩)
  · exact .inr (.inr (.inl ⟨a, o, h1, h2, h3 ▸ q'⟩))
  · exact .inr (.inr (.inr ⟨c, z, h1, h2, h3 ▸ q'⟩))

/-! ### a subscript -/
theorem ixN_at {α β : Type} {xs : List α} {ys : List β} (h : xs.length = ys.length) {i : Int} {y : β} (e : atI ys i = some y) : ∃ j : Nat, ys[j]? = some y ∧ ∀ x, xs[j]? = some x → atI xs i = some x := by
  unfold atI at e ⊢
  rw [h]
  cases q : ixN ys.length i with
  | none => rw [q] at e; cases e
  | some j =>
    rw [q] at e
    exact ⟨j, e, fun x hx => hx⟩
def ixD (c i : D) : Option D := match c with
  | .lst xs => match i with
    | .int i => atI xs i
    | _ => none
  | .tup xs => match i with
    | .int i => atI xs i
    | _ => none
  | .str z => match i with
    | .int i => if z.length ≤ lim then (atI z.cps.toList i).map fun c => .str ⟨#[c]⟩ else none
    | _ => none
  | .dct t ks vs => if isKey t i = true then look ks vs i else none
  | _ => none
def rIxDt : R2 := fun x y H Q => ∃ a v, x = .ref a ∧ DGet H a y (some v) ∧ Q v H
theorem ix_dict {X : Cx} (hu : X.A.units + 65 < cLine) : IxR X rIxDt := by
  intro value slice pins s σ H x y v u Q I rx ry h hs
  obtain ⟨a, z, rfl, g, q⟩ := h
  cases rx
  exact tail_any (dict_typeIs I g) PySem.F.slot_dict_getitem.lookup (d_getItem (by omega) I g ry fun w' s' I' r' => ⟨z, H, I', r', q⟩) hs
def rIxAll (K : PySem.W.Frag) : R2 := fun x y H Q => rIxL K x y H Q ∨ rIxT K x y H Q ∨ rIxS x y H Q ∨ rIxDt x y H Q
theorem ix_all {X : Cx} (hu : X.A.units + 65 < cLine) : IxR X (rIxAll X.K) := ix_list.or (ix_tup.or (ix_str.or (ix_dict hu)))
theorem r_ix {k : Kx} : R2HT k ixD (rIxAll k.K) := by
  intro G H x y dx dy z Q w rx ry hf q
  unfold ixD at hf
  split at hf
  · split at hf
    · rename_i ds i
      obtain ⟨a, xs, e1, h1, h2⟩ := repH_lst w.fr rx
      obtain ⟨j, g1, g2⟩ := ixN_at h2.length hf
      obtain ⟨v, g3, g4⟩ := h2.get g1
      exact .inl ⟨a, xs, i, v, e1, repT_int ry, h1, g2 v g3, q.val w g4⟩
    · cases hf
  · split at hf
    · rename_i ds i
      obtain ⟨a, xs, e1, h1, h2⟩ := repH_tup w.fr rx
      obtain ⟨j, g1, g2⟩ := ixN_at h2.length hf
      obtain ⟨v, g3, g4⟩ := h2.get g1
      exact .inr (.inl ⟨a, xs, i, v, e1, repT_int ry, h1, g2 v g3, q.val w g4⟩)
    · cases hf
  · rename_i zs
    split at hf
    · rename_i i
      split at hf
      · rename_i hl
        obtain ⟨c, h1, h2⟩ := Option.map_eq_some_iff.mp hf
        subst h2
        exact .inr (.inr (.inl ⟨zs, i, c, repH_str rx, repT_int ry, lim_le hl, h1, q.val w rfl⟩))
      · cases hf
    · cases hf
  · rename_i t ks vs
    split at hf
    · rename_i hk
      obtain ⟨a, e1, g⟩ := dget_of w.fr rx ry hk
      rw [hf] at g
      obtain ⟨v, g1, g2⟩ := g
      exact .inr (.inr (.inr ⟨a, v, e1, g1, q.val w g2⟩))
    · cases hf
  · cases hf

/-! ### slices -/
def cutD {α : Type} (xs : List α) (lo hi : Option Int) : List α := (xs.drop (HT.sIx xs.length 0 lo)).take (HT.sIx xs.length xs.length hi - HT.sIx xs.length 0 lo)
theorem cut_reps {k : Kx} {F : Hp} {xs : List V} {ds : List D} (r : Reps k F xs ds) (lo hi : Option Int) : Reps k F (cutV xs lo hi) (cutD ds lo hi) := by
  unfold cutV cutD
  rw [r.length]
  exact (r.drop _).take _
def slD (c : D) (lo hi : Option Int) : Option D := match c with
  | .lst xs => some (.lst (cutD xs lo hi))
  | .tup xs => some (.tup (cutD xs lo hi))
  | .str z => if z.length ≤ lim then some (.str ⟨(cutD z.cps.toList lo hi).toArray⟩) else none
  | _ => none
def rSlAll (K : PySem.W.Frag) : V → Option Int → Option Int → Hp → VK → Prop := fun x lo hi H Q => rSlL K x lo hi H Q ∨ rSlA K x lo hi H Q
theorem sl_all {X : Cx} : SlR X (rSlAll X.K) := sl_list.or sl_tupA
/-! ### len -/
def lenD : D → Option D
  | .lst xs => some (.int xs.length)
  | .tup xs => some (.int xs.length)
  | .str z => if z.length ≤ lim then some (.int z.length) else none
  | .dct _ ks _ => some (.int ks.length)
  | _ => none
def C1H (k : Kx) (f : D → Option D) (r : List V → Hp → VK → Prop) : Prop := R1H k f fun x H Q => r [x] H Q
def rLenDK : List V → Hp → VK → Prop := fun xs H Q => ∃ (p : Addr) (kvs : List (Key × V)), xs = [.ref p] ∧ H p = some (.dK kvs) ∧ Q (.int ((kvs.length : Nat) : Int)) H
theorem call_len_dK {X : Cx} : CallR X (.builtin "len") rLenDK := by
  intro pins s σ H xs us Q I r h
  obtain ⟨p, kvs, rfl, hd, q⟩ := h
  obtain ⟨u, rfl, rx⟩ := vals1 r
  cases rx
  exact d_len I (.inl hd) fun t s' I' => ⟨.int kvs.length, H, I', ⟨t, rfl⟩, q⟩
def rLenAll (K : PySem.W.Frag) : List V → Hp → VK → Prop := fun xs H Q => (∃ x n, xs = [x] ∧ LenV K x H n ∧ Q (.int n) H) ∨ rLenDK xs H Q ∨ rLenT xs H Q
theorem call_lenAll {X : Cx} : CallR X (.builtin "len") (rLenAll X.K) := call_len.or (call_len_dK.or call_len_dT)
theorem r_len {k : Kx} : C1H k lenD (rLenAll k.K) := by
  intro G H x dx z Q w rx hf q
  unfold lenD at hf
  split at hf
  · cases hf
    obtain ⟨a, xs, e1, h1, h2⟩ := repH_lst w.fr rx
    exact .inl ⟨x, _, rfl, by rw [e1]; exact .inl ⟨xs, h1, rfl⟩, by rw [h2.length]; exact q.val w rfl⟩
  · cases hf
    obtain ⟨a, xs, e1, h1, h2⟩ := repH_tup w.fr rx
    exact .inl ⟨x, _, rfl, by rw [e1]; exact .inr ⟨xs, h1, rfl⟩, by rw [h2.length]; exact q.val w rfl⟩
  · obtain ⟨hl, e⟩ := if_some hf
    subst e
    exact .inl ⟨x, _, rfl, by rw [repH_str rx]; exact ⟨lim_le hl, rfl⟩, q.val w rfl⟩
  · rename_i t ks vs
    cases hf
    cases t with
    | false =>
      obtain ⟨a, e1, kvs, h1, h2, h3⟩ := repH_dK w.fr rx
      subst h2
      exact .inr (.inl ⟨a, kvs, by rw [e1], h1, by rw [List.length_map] at q; exact q.val w rfl⟩)
    | true =>
      obtain ⟨a, e1, kvs, h1, h2, h3⟩ := repH_dT w.fr rx
      subst h2
      exact .inr (.inr ⟨a, kvs, by rw [e1], h1, by rw [List.length_map] at q; exact q.val w rfl⟩)
  · cases hf
end PL

set_option Elab.async false
set_option linter.all false
set_option maxRecDepth 100000
namespace PL
open PySem PySem.Spec PyProof.Rows L2

section
variable {X : Cx} {a b c e : Expr} {es : List Expr} {pos : Pos} {m n l : ME} {tm tn : MT} {am : MA}

/-! ### names, constants -/
def mVar (i : Nat) : ME := fun ρ μ => match ρ[i]? with
  | some (some x) => some (x, μ)
  | _ => none
theorem ex_var (i : Nat) {x : Str} (hN : X.N[i]? = some x := by rfl) (hv : Vis X.env.scope x := by first | exact Or.inl rfl | exact Or.inr (Or.inl rfl) | exact Or.inr (Or.inr rfl)) (hd : (x == ("__debug__" : Str)) = false := by decide)
    (hcd : (x == ("__classdict__" : Str)) = false := by decide) : EX X (.Name x pos) (mVar i) := (pe_var (i := i) hN hv hd hcd).mono fun σ H Q h => by
  obtain ⟨G, ρ, w, e, y, μ', hm, q⟩ := h
  unfold mVar at hm
  split at hm
  · cases hm
    rename_i hx
    obtain ⟨v, h1, h2⟩ := e.at' _ _ hx
    exact ⟨v, h1, q v H G (Ext.refl G) rfl w h2⟩
  · cases hm
def mC (d : D) : ME := fun _ μ => some (.dat d, μ)
theorem tE_c {k : Kx} {d : D} {v : V} {σ : L2.St} {H : Hp} {Q : VK} (h : tE k (mC d) σ H Q) (r : ∀ F, Rep k F v d) : Q v H := by
  obtain ⟨G, ρ, w, e, y, μ', hm, q⟩ := h
  cases hm
  exact q v H G (Ext.refl G) rfl w (r _)
theorem ex_int {i j} : EX X (.Constant (.int i) j pos) (mC (.int i)) := pe_int.mono fun _ _ _ h => tE_c h fun _ => rfl
theorem ex_bl {i j} : EX X (.Constant (.bool i) j pos) (mC (.bl i)) := pe_bl.mono fun _ _ _ h => tE_c h fun _ => rfl
theorem ex_non {j} : EX X (.Constant .none j pos) (mC .non) := pe_non.mono fun _ _ _ h => tE_c h fun _ => rfl
theorem ex_str {i j} : EX X (.Constant (.str i) j pos) (mC (.str i)) := pe_str.mono fun _ _ _ h => tE_c h fun _ => rfl
/-- a constant of the module: a number, a text -/
theorem ex_gint {x : Str} {i : Int} (hg : Gl X x) (hm : ∃ t, X.mg x = some (.int i t)) (hd : (x == ("__debug__" : Str)) = false := by decide) : EX X (.Name x pos) (mC (.int i)) := by
  obtain ⟨t, hm⟩ := hm
  exact (pe_glob hg hm (v := .int i) ⟨t, rfl⟩ hd).mono fun _ _ _ h => tE_c h fun _ => rfl
theorem ex_gstr {x : Str} {i : Str} (hg : Gl X x) (hm : ∃ t, X.mg x = some (.str i t)) (hd : (x == ("__debug__" : Str)) = false := by decide) : EX X (.Name x pos) (mC (.str i)) := by
  obtain ⟨t, hm⟩ := hm
  exact (pe_glob hg hm (v := .str i) ⟨t, rfl⟩ hd).mono fun _ _ _ h => tE_c h fun _ => rfl
/-- .. a list or tuple of flat things -/
def mK (d : D) : ME := fun _ μ => some (.kon d, μ)
theorem ex_gkon {x : Str} {p : Addr} {d : D} (hg : Gl X x) (hm : X.mg x = some (.ref p)) (hr : ∀ F, RepC (kx X) F (.ref p) d) (hd : (x == ("__debug__" : Str)) = false := by decide) : EX X (.Name x pos) (mK d) :=
  (pe_glob hg hm (v := .ref p) rfl hd).mono fun σ H Q h => by
    obtain ⟨G, ρ, w, e, y, μ', hm, q⟩ := h
    cases hm
    exact q _ H G (Ext.refl G) rfl w (hr _)

/-! ### operators -/
theorem ex_bin {op : Operator} {r : R2} {f : D → D → Option D} (ho : OpR X (binaryOp op) r) (hr : R2H (kx X) f r) (ha : EX X a m) (hb : EX X b n) : EX X (.BinOp a op b pos) (mOp f m n) := (pe_op ho ha hb).mono fun _ _ _ h => op_of hr h
theorem ex_binT {op : Operator} {r : R2} {f : D → D → Option D} (ho : OpR X (binaryOp op) r) (hr : R2T (kx X) f r) (ha : EX X a m) (hb : EX X b n) : EX X (.BinOp a op b pos) (mOpT f m n) := (pe_op ho ha hb).mono fun _ _ _ h => opT_of hr h
theorem ex_add (ha : EX X a m) (hb : EX X b n) : EX X (.BinOp a .Add b pos) (mOpT addD m n) := ex_binT op_addAll r_add ha hb
theorem ex_sub (ha : EX X a m) (hb : EX X b n) : EX X (.BinOp a .Sub b pos) (mOp subD m n) := ex_bin op_sub r_sub ha hb
def mulID : D → D → Option D := i2D mulI
theorem r_mulI {k : Kx} : R2H k mulID (rI CMul fun i j => .int (i * j)) := r_i2 fun i j z h => by
  have p := if_some h
  exact p
theorem ex_mul (ha : EX X a m) (hb : EX X b n) : EX X (.BinOp a .Mult b pos) (mOp mulID m n) := ex_bin op_mul r_mulI ha hb
def repD (x y : D) : Option D := match x, y with
  | .lst xs, .int j => if 0 ≤ j ∧ j ≤ 1000000 ∧ xs.length * j.toNat ≤ lim then some (.lst (List.replicate j.toNat xs).flatten) else none
  | .tup xs, .int j => if xs ≠ [] ∧ 2 ≤ j ∧ j ≤ 1000 ∧ xs.length ≤ 1000 then some (.tup (List.replicate j.toNat xs).flatten) else none
  | _, _ => none
def rRepAll (K : PySem.W.Frag) : R2 := fun x y H Q => rRep x y H Q ∨ rRepT K x y H Q
theorem reps_rep {k : Kx} {F : Hp} {xs : List V} {ds : List D} (r : Reps k F xs ds) : ∀ n : Nat, Reps k F (List.replicate n xs).flatten (List.replicate n ds).flatten
  | 0 => trivial
  | n + 1 => by
    rw [List.replicate_succ, List.replicate_succ, List.flatten_cons, List.flatten_cons]
    exact r.append (reps_rep r n)
theorem r_rep {k : Kx} : R2T k repD (rRepAll k.K) := by
  intro G H x y dx dy z Q w rx ry hf q
  unfold repD at hf
  split at hf
  · rename_i ds j
    obtain ⟨⟨h0, h1, h2⟩, e⟩ := if_some hf
    subst e
    obtain ⟨a, xs, e1, g1, g2⟩ := repT_lst w.fr rx
    exact .inl ⟨a, j, xs, e1, repT_int ry, g1, by omega, by omega, by rw [g2.length]; exact lim_le h2, fun p hp => q.newL w hp (reps_rep g2 _)⟩
  · rename_i ds j
    obtain ⟨⟨h0, h1, h2, h3⟩, e⟩ := if_some hf
    subst e
    obtain ⟨a, xs, e1, _, g1, g2⟩ := repT_tup w.fr rx
    exact .inr ⟨a, j, xs, e1, repT_int ry, SqT.of g1, (fun z => h0 (by
      subst z
      have := g2.length
      simp at this
      exact List.eq_nil_of_length_eq_zero this.symm)), h1, h2, by rw [g2.length]; exact h3, fun p hp => q.newT w hp (reps_rep g2 _)⟩
  · cases hf
theorem ex_rep (ha : EX X a m) (hb : EX X b n) : EX X (.BinOp a .Mult b pos) (mOpT repD m n) := ex_binT (op_rep.or op_repT) r_rep ha hb
theorem ex_div (ha : EX X a m) (hb : EX X b n) : EX X (.BinOp a .FloorDiv b pos) (mOp divD m n) := ex_bin op_fdiv r_div ha hb
theorem ex_mod (ha : EX X a m) (hb : EX X b n) : EX X (.BinOp a .Mod b pos) (mOp modD m n) := ex_bin op_mod r_mod ha hb
theorem ex_pow (ha : EX X a m) (hb : EX X b n) : EX X (.BinOp a .Pow b pos) (mOp powD m n) := ex_bin op_pow r_pow ha hb
theorem ex_shl (ha : EX X a m) (hb : EX X b n) : EX X (.BinOp a .LShift b pos) (mOp shlD m n) := ex_bin op_shl r_shl ha hb
theorem ex_shr (ha : EX X a m) (hb : EX X b n) : EX X (.BinOp a .RShift b pos) (mOp shrD m n) := ex_bin op_shr r_shr ha hb
theorem ex_band (ha : EX X a m) (hb : EX X b n) : EX X (.BinOp a .BitAnd b pos) (mOp andD m n) := ex_bin op_and r_and ha hb
theorem ex_bor (ha : EX X a m) (hb : EX X b n) : EX X (.BinOp a .BitOr b pos) (mOp orD m n) := ex_bin op_or r_or ha hb
theorem ex_neg (ha : EX X a m) : EX X (.UnaryOp .USub a pos) (mUn negD m) := (pe_un un_neg ha).mono fun _ _ _ h => un_of r_neg h
theorem ex_inv (ha : EX X a m) : EX X (.UnaryOp .Invert a pos) (mUn invD m) := (pe_un un_inv ha).mono fun _ _ _ h => un_of r_inv h

/-! ### comparisons, as values and as tests -/
def mTest (m : ME) : MT := fun ρ μ => (m ρ μ).bind fun p => match p.1 with
  | .dat (.bl b) => some (b, p.2)
  | _ => none
theorem test_of {k : Kx} {m : ME} {σ : L2.St} {H : Hp} {Q : Bool → Hp → Prop} (h : tT k (mTest m) σ H Q) : tE k m σ H fun x H' => ∃ b, x = .bl b ∧ Q b H' := by
  obtain ⟨G, ρ, w, e, b, μ', hm, q⟩ := h
  simp only [mTest, Option.bind_eq_some_iff] at hm
  obtain ⟨⟨p, μ1⟩, h1, h2⟩ := hm
  split at h2
  · rename_i b' hp
    cases h2
    simp only at hp
    subst hp
    exact ⟨G, ρ, w, e, _, _, h1, fun v H' G' e' g' w' r' => ⟨b, r', q H' G' e' g' w'⟩⟩
  · cases h2
theorem tx_val (ha : EX X a m) (he : ∀ whole, isTrue a X.env whole = (do let v ← whole; standAt a.pos; holding [v] (truthy v)) := by intro _; rfl) : TX X a (mTest m) := (pt_val ha he).mono fun _ _ _ h => test_of h
section
variable {op : CmpOp} {r : R2} {f : D → D → Option D}
theorem ex_cmp (ho : OpR X (compareOp op) r) (hr : R2H (kx X) f r) (ha : EX X a m) (hb : EX X b n) (hm : behindInMarks op b = false) : EX X (.Compare a [op] [b] pos) (mOp f m n) := (pe_cmpR ho ha hb hm).mono fun _ _ _ h => op_of hr h
theorem tx_cmp (ho : OpR X (compareOp op) r) (hr : R2H (kx X) f r) (ha : EX X a m) (hb : EX X b n) (hm : behindInMarks op b = false) : TX X (.Compare a [op] [b] pos) (mTest (mOp f m n)) := (pt_cmpR ho ha hb hm).mono fun _ _ _ h => op_of hr (test_of h)
theorem ex_cmpTH (ho : OpR X (compareOp op) r) (hr : R2TH (kx X) f r) (ha : EX X a m) (hb : EX X b n) (hm : behindInMarks op b = false) : EX X (.Compare a [op] [b] pos) (mOpTH f m n) := (pe_cmpR ho ha hb hm).mono fun _ _ _ h => opTH_of hr h
theorem tx_cmpTH (ho : OpR X (compareOp op) r) (hr : R2TH (kx X) f r) (ha : EX X a m) (hb : EX X b n) (hm : behindInMarks op b = false) : TX X (.Compare a [op] [b] pos) (mTest (mOpTH f m n)) := (pt_cmpR ho ha hb hm).mono fun _ _ _ h => opTH_of hr (test_of h)
end
variable (hu : X.A.units + 65 < cLine)
include hu
theorem u64 : X.A.units + 64 < cLine := by omega
theorem ex_eq (ha : EX X a m) (hb : EX X b n) : EX X (.Compare a [.Eq] [b] pos) (mOp eqD m n) := ex_cmp (op_eqD (u64 hu)) r_eq ha hb (nomark b)
theorem ex_ne (ha : EX X a m) (hb : EX X b n) : EX X (.Compare a [.NotEq] [b] pos) (mOp neD m n) := ex_cmp (op_neD (u64 hu)) r_ne ha hb (nomark b)
theorem ex_lt (ha : EX X a m) (hb : EX X b n) : EX X (.Compare a [.Lt] [b] pos) (mOp ltD m n) := ex_cmp (op_ltD (u64 hu)) r_lt ha hb (nomark b)
theorem tx_eq (ha : EX X a m) (hb : EX X b n) : TX X (.Compare a [.Eq] [b] pos) (mTest (mOp eqD m n)) := tx_cmp (op_eqD (u64 hu)) r_eq ha hb (nomark b)
theorem tx_ne (ha : EX X a m) (hb : EX X b n) : TX X (.Compare a [.NotEq] [b] pos) (mTest (mOp neD m n)) := tx_cmp (op_neD (u64 hu)) r_ne ha hb (nomark b)
theorem tx_lt (ha : EX X a m) (hb : EX X b n) : TX X (.Compare a [.Lt] [b] pos) (mTest (mOp ltD m n)) := tx_cmp (op_ltD (u64 hu)) r_lt ha hb (nomark b)
theorem ex_in (ha : EX X a m) (hb : EX X b n) (hm : behindInMarks .In b = false := by rfl) : EX X (.Compare a [.In] [b] pos) (mOpTH inD m n) := ex_cmpTH (op_inAll hu) r_in ha hb hm
theorem ex_notin (ha : EX X a m) (hb : EX X b n) (hm : behindInMarks .NotIn b = false := by rfl) : EX X (.Compare a [.NotIn] [b] pos) (mOpTH notInD m n) := ex_cmpTH (op_notInAll hu) r_notIn ha hb hm
theorem tx_in (ha : EX X a m) (hb : EX X b n) (hm : behindInMarks .In b = false := by rfl) : TX X (.Compare a [.In] [b] pos) (mTest (mOpTH inD m n)) := tx_cmpTH (op_inAll hu) r_in ha hb hm
theorem tx_notin (ha : EX X a m) (hb : EX X b n) (hm : behindInMarks .NotIn b = false := by rfl) : TX X (.Compare a [.NotIn] [b] pos) (mTest (mOpTH notInD m n)) := tx_cmpTH (op_notInAll hu) r_notIn ha hb hm
theorem ex_le (ha : EX X a m) (hb : EX X b n) : EX X (.Compare a [.LtE] [b] pos) (mOp leD m n) := ex_cmp op_leA r_le ha hb (nomark b)
theorem ex_gt (ha : EX X a m) (hb : EX X b n) : EX X (.Compare a [.Gt] [b] pos) (mOp gtD m n) := ex_cmp op_gtA r_gt ha hb (nomark b)
theorem ex_ge (ha : EX X a m) (hb : EX X b n) : EX X (.Compare a [.GtE] [b] pos) (mOp geD m n) := ex_cmp op_geA r_ge ha hb (nomark b)
theorem ex_is (ha : EX X a m) (hb : EX X b n) : EX X (.Compare a [.Is] [b] pos) (mOp isD m n) := ex_cmp op_isC r_is ha hb (nomark b)
theorem ex_isnot (ha : EX X a m) (hb : EX X b n) : EX X (.Compare a [.IsNot] [b] pos) (mOp isNotD m n) := ex_cmp op_isNotC r_isNot ha hb (nomark b)
theorem tx_le (ha : EX X a m) (hb : EX X b n) : TX X (.Compare a [.LtE] [b] pos) (mTest (mOp leD m n)) := tx_cmp op_leA r_le ha hb (nomark b)
theorem tx_gt (ha : EX X a m) (hb : EX X b n) : TX X (.Compare a [.Gt] [b] pos) (mTest (mOp gtD m n)) := tx_cmp op_gtA r_gt ha hb (nomark b)
theorem tx_ge (ha : EX X a m) (hb : EX X b n) : TX X (.Compare a [.GtE] [b] pos) (mTest (mOp geD m n)) := tx_cmp op_geA r_ge ha hb (nomark b)
theorem tx_is (ha : EX X a m) (hb : EX X b n) : TX X (.Compare a [.Is] [b] pos) (mTest (mOp isD m n)) := tx_cmp op_isC r_is ha hb (nomark b)
theorem tx_isnot (ha : EX X a m) (hb : EX X b n) : TX X (.Compare a [.IsNot] [b] pos) (mTest (mOp isNotD m n)) := tx_cmp op_isNotC r_isNot ha hb (nomark b)
omit hu
/-- a op b op' c -/
def mChain (f f' : D → D → Option D) (a b c : ME) : ME := fun ρ μ => (a ρ μ).bind fun p => (b ρ p.2).bind fun q => (deref q.2 p.1).bind fun x => (deref q.2 q.1).bind fun y => (f x y).bind fun z => match z with
  | .bl true => (c ρ q.2).bind fun r => (deref r.2 q.1).bind fun y' => (deref r.2 r.1).bind fun w => (f' y' w).bind fun z' => match z' with
    | .bl k => some (.dat (.bl k), r.2)
    | _ => none
  | .bl false => some (.dat (.bl false), q.2)
  | _ => none
section
variable {op op' : CmpOp} {r r' : R2} {f f' : D → D → Option D} {k : Kx} {σ : L2.St} {H : Hp} {Q : VK}
theorem chain_of (hr : R2H k f r) (hr' : R2H k f' r') (h : tE k (mChain f f' m n l) σ H Q) : tChain r r' (tE k m) (tE k n) (tE k l) σ H Q := by
  obtain ⟨G, ρ, w, e, x, μ', hm, q⟩ := h
  simp only [mChain, Option.bind_eq_some_iff] at hm
  obtain ⟨⟨p1, μ1⟩, h1, ⟨p2, μ2⟩, h2, dx, h3, dy, h4, z, h5, h6⟩ := hm
  refine ⟨G, ρ, w, e, p1, μ1, h1, fun v1 H1 G1 e1 g1 w1 r1 => ?_⟩
  refine ⟨G1, ρ, w1, e.ext e1, p2, μ2, by rw [g1]; exact h2, fun v2 H2 G2 e2 g2 w2 r2 => ?_⟩
  refine hr G2 H2 v1 v2 dx dy z _ w2 (w2.deref (r1.ext e2) (by rw [g2]; exact h3)) (w2.deref r2 (by rw [g2]; exact h4)) h5 fun v H' G' e3 g3 w3 r3 => ?_
  split at h6
  · refine ⟨true, r3, ?_⟩
    rw [if_pos rfl]
    simp only [Option.bind_eq_some_iff] at h6
    obtain ⟨⟨p3, μ3⟩, i1, dy', i2, dw, i3, z', i4, i5⟩ := h6
    refine ⟨G', ρ, w3, ((e.ext e1).ext e2).ext e3, p3, μ3, by rw [g3, g2]; exact i1, fun v4 H4 G4 e4 g4 w4 r4 => ?_⟩
    refine hr' G4 H4 v2 v4 dy' dw z' _ w4 (w4.deref ((r2.ext e3).ext e4) (by rw [g4]; exact i2)) (w4.deref r4 (by rw [g4]; exact i3)) i4 fun v5 H5 G5 e5 g5 w5 r5 => ?_
    split at i5
    · cases i5
      exact q v5 H5 G5 ((((e1.trans e2).trans e3).trans e4).trans e5) (by rw [g5, g4]) w5 r5
    · cases i5
  · cases h6
    refine ⟨false, r3, ?_⟩
    rw [if_neg Bool.false_ne_true]
    exact q _ H' G' ((e1.trans e2).trans e3) (by rw [g3, g2]) w3 rfl
  · cases h6
theorem ex_chain (ho : OpR X (compareOp op) r) (ho' : OpR X (compareOp op') r') (hr : R2H (kx X) f r) (hr' : R2H (kx X) f' r') (ha : EX X a m) (hb : EX X b n) (hc : EX X c l) (hm : lastMarks [op, op'] [b, c] = false := by rfl) :
    EX X (.Compare a [op, op'] [b, c] pos) (mChain f f' m n l) := (pe_chain ho ho' ha hb hc hm).mono fun _ _ _ h => chain_of hr hr' h
end

/-! ### and, or, not -/
def mAnd (a b : ME) : ME := fun ρ μ => (a ρ μ).bind fun p => match p.1 with
  | .dat (.bl true) => b ρ p.2
  | .dat (.bl false) => some p
  | _ => none
def mOr (a b : ME) : ME := fun ρ μ => (a ρ μ).bind fun p => match p.1 with
  | .dat (.bl true) => some p
  | .dat (.bl false) => b ρ p.2
  | _ => none
def mNot (a : ME) : ME := fun ρ μ => (a ρ μ).bind fun p => match p.1 with
  | .dat (.bl b) => some (.dat (.bl (!b)), p.2)
  | _ => none
section
variable {rest : List Expr} {op : BoolOp}
theorem ex_one (h : EX X a m) : EX X (.BoolOp op [a] pos) m := pe_one h
theorem ex_and (ha : EX X a m) (hb : EX X (.BoolOp .And (b :: rest) pos) n) : EX X (.BoolOp .And (a :: b :: rest) pos) (mAnd m n) := (pe_and ha hb).mono fun σ H Q h => by
  obtain ⟨G, ρ, w, e, x, μ', hm, q⟩ := h
  simp only [mAnd, Option.bind_eq_some_iff] at hm
  obtain ⟨⟨p, μ1⟩, h1, h2⟩ := hm
  refine ⟨G, ρ, w, e, p, μ1, h1, fun v1 H1 G1 e1 g1 w1 r1 => ?_⟩
  split at h2
  · rename_i hp
    simp only at hp
    subst hp
    refine ⟨true, r1, ?_⟩
    rw [if_pos rfl]
    exact ⟨G1, ρ, w1, e.ext e1, x, μ', by rw [g1]; exact h2, fun v H' G' e' g' w' r' => q v H' G' (e1.trans e') g' w' r'⟩
  · rename_i hp
    cases h2
    simp only at hp
    subst hp
    refine ⟨false, r1, ?_⟩
    rw [if_neg Bool.false_ne_true]
    exact q _ H1 G1 e1 g1 w1 rfl
  · cases h2
theorem ex_or (ha : EX X a m) (hb : EX X (.BoolOp .Or (b :: rest) pos) n) : EX X (.BoolOp .Or (a :: b :: rest) pos) (mOr m n) := (pe_or ha hb).mono fun σ H Q h => by
  obtain ⟨G, ρ, w, e, x, μ', hm, q⟩ := h
  simp only [mOr, Option.bind_eq_some_iff] at hm
  obtain ⟨⟨p, μ1⟩, h1, h2⟩ := hm
  refine ⟨G, ρ, w, e, p, μ1, h1, fun v1 H1 G1 e1 g1 w1 r1 => ?_⟩
  split at h2
  · rename_i hp
    cases h2
    simp only at hp
    subst hp
    refine ⟨true, r1, ?_⟩
    rw [if_pos rfl]
    exact q _ H1 G1 e1 g1 w1 rfl
  · rename_i hp
    simp only at hp
    subst hp
    refine ⟨false, r1, ?_⟩
    rw [if_neg Bool.false_ne_true]
    exact ⟨G1, ρ, w1, e.ext e1, x, μ', by rw [g1]; exact h2, fun v H' G' e' g' w' r' => q v H' G' (e1.trans e') g' w' r'⟩
  · cases h2
theorem ex_not (ha : EX X a m) : EX X (.UnaryOp .Not a pos) (mNot m) := (pe_not ha).mono fun σ H Q h => by
  obtain ⟨G, ρ, w, e, x, μ', hm, q⟩ := h
  simp only [mNot, Option.bind_eq_some_iff] at hm
  obtain ⟨⟨p, μ1⟩, h1, h2⟩ := hm
  refine ⟨G, ρ, w, e, p, μ1, h1, fun v1 H1 G1 e1 g1 w1 r1 => ?_⟩
  split at h2
  · rename_i b hp
    cases h2
    simp only at hp
    subst hp
    exact ⟨b, r1, q _ H1 G1 e1 g1 w1 rfl⟩
  · cases h2
def tmAnd (a b : MT) : MT := fun ρ μ => (a ρ μ).bind fun p => if p.1 = true then b ρ p.2 else some (false, p.2)
def tmOr (a b : MT) : MT := fun ρ μ => (a ρ μ).bind fun p => if p.1 = true then some (true, p.2) else b ρ p.2
def tmNot (a : MT) : MT := fun ρ μ => (a ρ μ).map fun p => (!p.1, p.2)
abbrev WX (X : Cx) (e : Expr) (m : MT) : Prop := PW X e (tT (kx X) m)
theorem tx_w (h : WX X a tm) : TX X a tm := h.pt
theorem wx_and1 (h : TX X a tm) : WX X (.BoolOp .And [a] pos) tm := pw_and1 h
theorem wx_or1 (h : TX X a tm) : WX X (.BoolOp .Or [a] pos) tm := pw_or1 h
theorem wx_and (ha : TX X a tm) (hb : WX X (.BoolOp .And (b :: rest) pos) tn) : WX X (.BoolOp .And (a :: b :: rest) pos) (tmAnd tm tn) := (pw_and ha hb).mono fun σ H Q h => by
  obtain ⟨G, ρ, w, e, x, μ', hm, q⟩ := h
  simp only [tmAnd, Option.bind_eq_some_iff] at hm
  obtain ⟨⟨p, μ1⟩, h1, h2⟩ := hm
  refine ⟨G, ρ, w, e, p, μ1, h1, fun H1 G1 e1 g1 w1 => ?_⟩
  cases p with
  | true =>
    rw [if_pos rfl] at h2 ⊢
    exact ⟨G1, ρ, w1, e.ext e1, x, μ', by rw [g1]; exact h2, fun H' G' e' g' w' => q H' G' (e1.trans e') g' w'⟩
  | false =>
    rw [if_neg Bool.false_ne_true] at h2 ⊢
    cases h2
    exact q H1 G1 e1 g1 w1
theorem wx_or (ha : TX X a tm) (hb : WX X (.BoolOp .Or (b :: rest) pos) tn) : WX X (.BoolOp .Or (a :: b :: rest) pos) (tmOr tm tn) := (pw_or ha hb).mono fun σ H Q h => by
  obtain ⟨G, ρ, w, e, x, μ', hm, q⟩ := h
  simp only [tmOr, Option.bind_eq_some_iff] at hm
  obtain ⟨⟨p, μ1⟩, h1, h2⟩ := hm
  refine ⟨G, ρ, w, e, p, μ1, h1, fun H1 G1 e1 g1 w1 => ?_⟩
  cases p with
  | true =>
    rw [if_pos rfl] at h2 ⊢
    cases h2
    exact q H1 G1 e1 g1 w1
  | false =>
    rw [if_neg Bool.false_ne_true] at h2 ⊢
    exact ⟨G1, ρ, w1, e.ext e1, x, μ', by rw [g1]; exact h2, fun H' G' e' g' w' => q H' G' (e1.trans e') g' w'⟩
theorem tx_not (ha : TX X a tm) : TX X (.UnaryOp .Not a pos) (tmNot tm) := (pt_not ha).mono fun σ H Q h => by
  obtain ⟨G, ρ, w, e, x, μ', hm, q⟩ := h
  simp only [tmNot, Option.map_eq_some_iff] at hm
  obtain ⟨⟨p, μ1⟩, h1, h2⟩ := hm
  cases h2
  exact ⟨G, ρ, w, e, p, μ1, h1, fun H1 G1 e1 g1 w1 => q H1 G1 e1 g1 w1⟩
end
def mIf (t : MT) (a b : ME) : ME := fun ρ μ => (t ρ μ).bind fun p => if p.1 = true then a ρ p.2 else b ρ p.2
theorem ex_if (hc : TX X c tm) (ha : EX X a m) (hb : EX X b n) : EX X (.IfExp c a b pos) (mIf tm m n) := (pe_ifExp hc ha hb).mono fun σ H Q h => by
  obtain ⟨G, ρ, w, e, x, μ', hm, q⟩ := h
  simp only [mIf, Option.bind_eq_some_iff] at hm
  obtain ⟨⟨p, μ1⟩, h1, h2⟩ := hm
  refine ⟨G, ρ, w, e, p, μ1, h1, fun H1 G1 e1 g1 w1 => ?_⟩
  cases p with
  | true =>
    rw [if_pos rfl] at h2 ⊢
    exact ⟨G1, ρ, w1, e.ext e1, x, μ', by rw [g1]; exact h2, fun v H' G' e' g' w' r' => q v H' G' (e1.trans e') g' w' r'⟩
  | false =>
    rw [if_neg Bool.false_ne_true] at h2 ⊢
    exact ⟨G1, ρ, w1, e.ext e1, x, μ', by rw [g1]; exact h2, fun v H' G' e' g' w' r' => q v H' G' (e1.trans e') g' w' r'⟩

/-! ### freezing -/
def dolD (t : Option Bool) (ks : List D) (rows : List (List D)) : D := match t with
  | some t => .dct t ks (rows.map .lst)
  | none => .lst (rows.map .lst)
def mFrz (a : ME) : ME := fun ρ μ => (a ρ μ).bind fun p => match p.1 with
  | .dat d => some p
  | .cell i => match p.2[i]? with
    | some (Cell.flat d) => some (.dat d, p.2.set i .gone)
    | some (Cell.dol t ks rows) => some (.dat (dolD t ks rows), p.2.set i .gone)
    | _ => none
  | .kon _ => none
  | .row _ _ => none
open Classical in
/-- the frozen heap with p and all that p owns -/
noncomputable def frzAt (G : Gh) (H : Hp) (p : Addr) : Hp := fun b => if b = p ∨ ∃ j, G.W b = some (p, j) then H b else G.F b
section
variable {k : Kx} {G : Gh} {H : Hp} {p : Addr}
theorem WG.frzS (w : WG k G H) : Same G.F (frzAt G H p) := fun b x e => by
  unfold frzAt
  split
  · exact w.fr b x e
  · exact e
theorem frzAt_p : frzAt G H p p = H p := by unfold frzAt; rw [if_pos (.inl rfl)]
theorem frzAt_w {q : Addr} {j : Nat} (h : G.W q = some (p, j)) : frzAt G H p q = H q := by unfold frzAt; rw [if_pos (.inr ⟨j, h⟩)]
theorem WG.freezeD (w : WG k G H) {i : Nat} {c : Cell} (h1 : G.ι[i]? = some p) (h2 : G.μ[i]? = some c) : WG k { G with μ := G.μ.set i .gone, F := frzAt G H p } H where
  fr := fun b x e => by
    have e' : frzAt G H p b = some x := e
    unfold frzAt at e'
    split at e'
    · exact e'
    · exact w.fr b x e'
  ap := w.ap
  len := by simp [w.len]
  nd := w.nd
  own := w.own
  inj := w.inj
  liv := fun {j q e} g1 g2 g3 => by
    have hil : i < G.μ.length := (List.getElem?_eq_some_iff.mp h2).1
    by_cases hj : j = i
    · subst hj
      simp only at g1 g2
      rw [List.getElem?_set_self hil] at g2; cases g2
      exact absurd rfl g3
    · simp only at g1 g2
      rw [List.getElem?_set_ne (Ne.symm hj)] at g2
      obtain ⟨f, o', ho', mu', r'⟩ := w.liv g1 g2 g3
      have hq : q ≠ p := fun z => hj (by
        subst z
        obtain ⟨a1, b1⟩ := List.getElem?_eq_some_iff.mp g1
        obtain ⟨a2, b2⟩ := List.getElem?_eq_some_iff.mp h1
        exact (List.getElem_inj w.nd).mp (b1.trans b2.symm))
      refine ⟨?_, o', ho', mu', r'.mono w.frzS fun b m e hF => ⟨e, ?_, rfl⟩⟩
      · show frzAt G H p q = none
        unfold frzAt
        rw [if_neg]
        · exact f
        · rintro (z | ⟨m, z⟩)
          · exact hq z
          · exact (w.own z).2.1 (List.mem_of_getElem? g1)
      · show frzAt G H p b = none
        unfold frzAt
        rw [if_neg]
        · exact hF
        · rintro (z | ⟨m', z⟩)
          · subst z; exact (w.own e).2.1 (List.mem_of_getElem? h1)
          · rw [e] at z; cases z; exact hq rfl
  there := w.there
  pi := w.pi
  fp := fun {q o'} e => by
    show frzAt G H p q = none
    unfold frzAt
    rw [if_neg]
    · exact w.fp e
    · rintro (z | ⟨m, z⟩)
      · subst z; have := w.pi (List.mem_of_getElem? h1); rw [e] at this; cases this
      · have := (w.own z).1; rw [e] at this; cases this
theorem rows_frz {k : Kx} {F F' : Hp} {W : Addr → Option (Addr × Nat)} {H : Hp} {p : Addr} (e : Same F F') (h : ∀ q j, W q = some (p, j) → F' q = H q) : ∀ {n : Nat} {vs : List V} {rs : List (List D)}, Rows k F W H p n vs rs → Reps k F' vs (rs.map .lst)
  | _, [], [], _ => trivial
  | _, [], _ :: _, r => r.elim
  | _, _ :: _, [], r => r.elim
  | n, _ :: vs, _ :: rs, ⟨⟨q, xs, h1, h2, _, h3, h4⟩, r⟩ => ⟨⟨q, xs, h1, by rw [h q n h2]; exact h3, Reps.mono e _ h4⟩, rows_frz (n := n + 1) (vs := vs) (rs := rs) e h r⟩
end
theorem rep_of_obj {k : Kx} {F : Hp} {p : Addr} {o : HO} {d : D} (h : ObjRep k F o d) (hp : F p = some o) : Rep k F (.ref p) d := by
  cases o <;> cases d <;> try exact h.elim
  · exact ⟨p, _, rfl, hp, h⟩
  · rename_i t ks vs
    cases t with
    | true => exact h.elim
    | false => exact ⟨p, rfl, _, hp, h.1, h.2⟩
  · rename_i t ks vs
    cases t with
    | false => exact h.elim
    | true => exact ⟨p, rfl, _, hp, h.1, h.2⟩
  · exact ⟨p, _, _, _, rfl, hp, h.1, h.2.1, h.2.2⟩
theorem ex_frz (ha : EX X a m) : EX X a (mFrz m) := PE.mono ha fun σ H Q h => by
  obtain ⟨G, ρ, w, e, x, μ', hm, q⟩ := h
  simp only [mFrz, Option.bind_eq_some_iff] at hm
  obtain ⟨⟨p, μ1⟩, h1, h2⟩ := hm
  refine ⟨G, ρ, w, e, p, μ1, h1, fun v1 H1 G1 e1 g1 w1 r1 => ?_⟩
  split at h2
  · cases h2
    exact q v1 H1 G1 e1 g1 w1 r1
  · rename_i i hp
    simp only at hp
    subst hp
    split at h2
    · rename_i d hd
      cases h2
      obtain ⟨p, hp, ev⟩ := r1
      have hd' : G1.μ[i]? = some (Cell.flat d) := by rw [g1]; exact hd
      obtain ⟨f0, o, ho, mu, ro⟩ := w1.live hp hd'
      subst ev
      refine q _ H1 _ (e1.trans (w1.extFr (o := o) hp hd' (G1.μ.set i .gone))) (by show G1.μ.set i .gone = _; rw [g1]) (w1.freeze hp hd' ho) ?_
      exact rep_of_obj (ro.mono (same_new f0)) upd_same
    · rename_i t ks rows hd
      cases h2
      obtain ⟨p, hp, ev⟩ := r1
      have hd' : G1.μ[i]? = some (Cell.dol t ks rows) := by rw [g1]; exact hd
      obtain ⟨f0, o, ho, mu, ro⟩ := w1.liv hp hd' (by simp)
      subst ev
      refine q _ H1 { G1 with μ := G1.μ.set i .gone, F := frzAt G1 H1 p } (e1.trans ⟨w1.frzS, rfl, fun _ _ _ h => h, [], by simp⟩) (by show G1.μ.set i .gone = _; rw [g1]) (w1.freezeD hp hd') ?_
      rcases ro.dol with ⟨kvs, rfl, rfl, hk, hr, hb0⟩ | ⟨kvs, rfl, rfl, hk, hr, hb0⟩ | ⟨kvs, rfl, rfl, hk, hr, hb0⟩
      · exact ⟨p, rfl, kvs, frzAt_p.trans ho, hk, rows_frz w1.frzS (fun _ _ h => frzAt_w h) hr⟩
      · exact ⟨p, rfl, kvs, frzAt_p.trans ho, hk, rows_frz w1.frzS (fun _ _ h => frzAt_w h) hr⟩
      · exact ⟨p, kvs, rfl, frzAt_p.trans ho, rows_frz w1.frzS (fun _ _ h => frzAt_w h) hr⟩
    · cases h2
  · cases h2
  · cases h2

/-! ### arguments, displays -/
def aNil : MA := fun _ μ => some ([], μ)
def aCons (a : ME) (r : MA) : MA := fun ρ μ => (a ρ μ).bind fun p => (r ρ p.2).map fun q => (p.1 :: q.1, q.2)
theorem anil_of {k : Kx} {σ : L2.St} {H : Hp} {Q : List V → Hp → Prop} (h : tA k aNil σ H Q) : tNil σ H Q := by
  obtain ⟨G, ρ, w, e, x, μ', hm, q⟩ := h
  cases hm
  exact q [] H G (Ext.refl G) rfl w trivial
theorem acons_of {k : Kx} {m : ME} {am : MA} {σ : L2.St} {H : Hp} {Q : List V → Hp → Prop} (h : tA k (aCons m am) σ H Q) : tCons (tE k m) (tA k am) σ H Q := by
  obtain ⟨G, ρ, w, e, x, μ', hm, q⟩ := h
  simp only [aCons, Option.bind_eq_some_iff, Option.map_eq_some_iff] at hm
  obtain ⟨⟨p, μ1⟩, h1, ⟨ps, μ2⟩, h2, h3⟩ := hm
  cases h3
  refine ⟨G, ρ, w, e, p, μ1, h1, fun v1 H1 G1 e1 g1 w1 r1 => ?_⟩
  refine ⟨G1, ρ, w1, e.ext e1, ps, _, by rw [g1]; exact h2, fun vs H2 G2 e2 g2 w2 r2 => ?_⟩
  exact q (v1 :: vs) H2 G2 (e1.trans e2) g2 w2 ⟨r1.ext e2, r2⟩
theorem ax_nil : AX X [] aNil := pa_nil.mono fun _ _ _ h => anil_of h
theorem ax_cons (ha : EX X e m) (hr : AX X es am) (hs : starEach (e :: es) X.env = (false, eval e X.env) :: starEach es X.env := by rfl) : AX X (e :: es) (aCons m am) := (pa_cons ha hr hs).mono fun _ _ _ h => acons_of h
def dats : List PV → Option (List D)
  | [] => some []
  | .dat d :: r => (dats r).map (d :: ·)
  | _ :: _ => none
theorem dats_reps {k : Kx} {G : Gh} : ∀ {xs : List PV} {ds : List D} {vs : List V}, dats xs = some ds → VReps k G vs xs → Reps k G.F vs ds
  | [], ds, [], h, _ => by cases h; exact trivial
  | [], _, _ :: _, _, r => r.elim
  | _ :: _, _, [], _, r => r.elim
  | .dat d :: xs, ds, v :: vs, h, r => by
    simp only [dats, Option.map_eq_some_iff] at h
    obtain ⟨es, h1, h2⟩ := h
    subst h2
    exact ⟨r.1, dats_reps h1 r.2⟩
  | .cell _ :: _, _, _ :: _, h, _ => by cases h
  | .kon _ :: _, _, _ :: _, h, _ => by cases h
def mTup (a : MA) : ME := fun ρ μ => (a ρ μ).bind fun p => (dats p.1).bind fun ds => if ds.length ≤ lim then some (.dat (.tup ds), p.2) else none
def mLst (a : MA) : ME := fun ρ μ => (a ρ μ).bind fun p => (dats p.1).bind fun ds => if ds.length ≤ lim then some (.dat (.lst ds), p.2) else none
/-- a new list that may change -/
def mLstC (a : MA) : ME := fun ρ μ => (a ρ μ).bind fun p => (dats p.1).bind fun ds => if ds.length ≤ lim then some (.cell p.2.length, p.2 ++ [.flat (.lst ds)]) else none
theorem ex_tup {x1} (h : AX X es am) : EX X (.Tuple es x1 pos) (mTup am) := (pe_tup h).mono fun σ H Q h => by
  obtain ⟨G, ρ, w, e, x, μ', hm, q⟩ := h
  simp only [mTup, Option.bind_eq_some_iff] at hm
  obtain ⟨⟨ps, μ1⟩, h1, ds, h2, h3⟩ := hm
  obtain ⟨hl, h4⟩ := if_some h3
  cases h4
  refine ⟨G, ρ, w, e, ps, _, h1, fun vs H1 G1 e1 g1 w1 r1 => ?_⟩
  have r2 := dats_reps h2 r1
  refine ⟨by rw [r2.length]; exact lim_le hl, fun p hp => ?_⟩
  exact KD.newT (k := kx X) (G := G1) (Q := Q) (fun v H' G' e' g' w' r' => q v H' G' (e1.trans e') (by rw [g', g1]) w' r') w1 hp r2
theorem ex_lst (h : AX X es am) : EX X (.List es pos) (mLst am) := (pe_lst h).mono fun σ H Q h => by
  obtain ⟨G, ρ, w, e, x, μ', hm, q⟩ := h
  simp only [mLst, Option.bind_eq_some_iff] at hm
  obtain ⟨⟨ps, μ1⟩, h1, ds, h2, h3⟩ := hm
  obtain ⟨hl, h4⟩ := if_some h3
  cases h4
  refine ⟨G, ρ, w, e, ps, _, h1, fun vs H1 G1 e1 g1 w1 r1 => ?_⟩
  have r2 := dats_reps h2 r1
  refine ⟨by rw [r2.length]; exact lim_le hl, fun p hp => ?_⟩
  exact KD.newL (k := kx X) (G := G1) (Q := Q) (fun v H' G' e' g' w' r' => q v H' G' (e1.trans e') (by rw [g', g1]) w' r') w1 hp r2
theorem ex_lstC (h : AX X es am) : EX X (.List es pos) (mLstC am) := (pe_lst h).mono fun σ H Q h => by
  obtain ⟨G, ρ, w, e, x, μ', hm, q⟩ := h
  simp only [mLstC, Option.bind_eq_some_iff] at hm
  obtain ⟨⟨ps, μ1⟩, h1, ds, h2, h3⟩ := hm
  obtain ⟨hl, h4⟩ := if_some h3
  cases h4
  refine ⟨G, ρ, w, e, ps, _, h1, fun vs H1 G1 e1 g1 w1 r1 => ?_⟩
  have r2 := dats_reps h2 r1
  refine ⟨by rw [r2.length]; exact lim_le hl, fun p hp => ?_⟩
  exact q _ _ _ (e1.trans (w1.extC _)) (by show G1.μ ++ _ = _; rw [g1]) (w1.newCell (o := .lst vs) hp trivial (d := .lst ds) r2) ⟨p, by show (G1.ι ++ [p])[_]? = _; rw [← g1, ← w1.len]; simp, rfl⟩
end
end PL

set_option Elab.async false
set_option linter.all false
set_option maxRecDepth 100000
namespace PL
open PySem PySem.Spec PyProof.Rows L2

section
variable {X : Cx} {a b c e : Expr} {es : List Expr} {pos : Pos} {m n l : ME} {tm tn : MT} {am : MA}

/-! ### subscripts and slices -/
theorem ex_ix (hu : X.A.units + 65 < cLine) (ha : EX X a m) (hb : EX X b n) (hs : PlainIx b := by exact fun _ _ => rfl) : EX X (.Subscript a b pos) (mOpHT ixD m n) := (pe_ix (ix_all hu) ha hb hs).mono fun _ _ _ h => opHT_of r_ix h
abbrev MO := Env → Sto → Option (Option Int × Sto)
def tO (k : Kx) (m : MO) : TO := fun σ H Q => ∃ G ρ, WG k G H ∧ EnvOk k G σ ρ ∧ ∃ o μ', m ρ G.μ = some (o, μ') ∧ ∀ H' G', Ext G G' → G'.μ = μ' → WG k G' H' → Q o H'
abbrev OX (X : Cx) (e : Option Expr) (m : MO) : Prop := PO X e (tO (kx X) m)
def oNone : MO := fun _ μ => some (none, μ)
def oSome (m : ME) : MO := fun ρ μ => (m ρ μ).bind fun p => match p.1 with
  | .dat (.int i) => some (some i, p.2)
  | _ => none
theorem _root_.L2.PO.mono {X : Cx} {e : Option Expr} {t t' : TO} (h : PO X e t) (w : ∀ σ H Q, t' σ H Q → t σ H Q) : PO X e t' := ⟨fun pins s σ H Q I hw => h.run pins s σ H Q I (w _ _ _ hw)⟩
theorem ox_none : OX X none oNone := po_none.mono fun σ H Q h => by
  obtain ⟨G, ρ, w, e, x, μ', hm, q⟩ := h
  cases hm
  exact q H G (Ext.refl G) rfl w
theorem ox_some (ha : EX X a m) : OX X (some a) (oSome m) := (po_some ha).mono fun σ H Q h => by
  obtain ⟨G, ρ, w, e, x, μ', hm, q⟩ := h
  simp only [oSome, Option.bind_eq_some_iff] at hm
  obtain ⟨⟨p, μ1⟩, h1, h2⟩ := hm
  refine ⟨G, ρ, w, e, p, μ1, h1, fun v1 H1 G1 e1 g1 w1 r1 => ?_⟩
  split at h2
  · rename_i i hp
    cases h2
    simp only at hp
    subst hp
    exact ⟨i, r1, q H1 G1 e1 g1 w1⟩
  · cases h2
/-- a tuple's slice may be the tuple itself: not of a read-only one; a list's always is new -/
def slT (μ : Sto) (x : PV) (lo hi : Option Int) : Option D := (deref μ x).bind fun c => match c with
  | .lst xs => some (.lst (cutD xs lo hi))
  | .tup _ => (derefT μ x).bind fun c => slD c lo hi
  | .str _ => slD c lo hi
  | _ => none
def mSl (a : ME) (lo hi : MO) : ME := fun ρ μ => (a ρ μ).bind fun p => (lo ρ p.2).bind fun q => (hi ρ q.2).bind fun r => (slT r.2 p.1 q.1 r.1).map fun z => (.dat z, r.2)
def rSlAll3 (K : PySem.W.Frag) : V → Option Int → Option Int → Hp → VK → Prop := fun x lo hi H Q => rSlL K x lo hi H Q ∨ rSlA K x lo hi H Q ∨ rSlS x lo hi H Q
theorem sl_all3 {X : Cx} : SlR X (rSlAll3 X.K) := sl_list.or (sl_tupA.or sl_str)
theorem r_sl {k : Kx} {G : Gh} {H : Hp} {v : V} {x : PV} {lo hi : Option Int} {z : D} {Q : VK} (w : WG k G H) (r : VRep k G v x) (hf : slT G.μ x lo hi = some z) (q : KD k G Q z) : rSlAll3 k.K v lo hi H Q := by
  simp only [slT, Option.bind_eq_some_iff] at hf
  obtain ⟨c, h1, h2⟩ := hf
  split at h2
  · cases h2
    obtain ⟨a, xs, e1, g1, g2⟩ := repH_lst w.fr (w.deref r h1)
    exact .inl ⟨a, xs, e1, g1, fun p hp => q.newL w hp (cut_reps g2 lo hi)⟩
  · simp only [Option.bind_eq_some_iff] at h2
    obtain ⟨c', h3, h4⟩ := h2
    rename_i ds0
    have e0 : c' = .tup ds0 := by
      cases x with
      | dat d => cases h1; cases h3; rfl
      | kon d => cases h3
      | cell i =>
        have : PL.deref G.μ (.cell i) = PL.derefT G.μ (.cell i) := rfl
        rw [this, h3] at h1
        exact Option.some.inj h1
      | row i j =>
        have : PL.deref G.μ (.row i j) = PL.derefT G.μ (.row i j) := rfl
        rw [this, h3] at h1
        exact Option.some.inj h1
    subst e0
    simp only [slD] at h4
    cases h4
    obtain ⟨a, xs, e1, f1, g1, g2⟩ := repT_tup w.fr (w.derefT r h3)
    refine .inr (.inl ⟨a, xs, e1, SqT.of g1, fun hh => ?_, fun hh p hp => q.newT w hp (cut_reps g2 lo hi)⟩)
    subst e1
    refine q.val w ⟨a, xs, rfl, f1, ?_⟩
    have e2 := cut_reps (k := k) (F := G.F) g2 lo hi
    have e3 : cutV xs lo hi = xs := by
      unfold cutV
      rw [hh.1, hh.2, List.drop_zero, Nat.sub_zero, List.take_length]
    rw [e3] at e2
    exact e2
  · simp only [slD] at h2
    obtain ⟨hl, e⟩ := if_some h2
    subst e
    exact .inr (.inr ⟨_, repH_str (w.deref r h1), lim_le hl, q.val w rfl⟩)
  · cases h2
theorem ex_sl {lo hi : Option Expr} {ml mh : MO} {p2 : Pos} (ha : EX X a m) (hl : OX X lo ml) (hh : OX X hi mh) : EX X (.Subscript a (.Slice lo hi none p2) pos) (mSl m ml mh) := (pe_slice sl_all3 ha hl hh).mono fun σ H Q h => by
  obtain ⟨G, ρ, w, e, x, μ', hm, q⟩ := h
  simp only [mSl, Option.bind_eq_some_iff, Option.map_eq_some_iff] at hm
  obtain ⟨⟨p1, μ1⟩, h1, ⟨o1, μ2⟩, h2, ⟨o2, μ3⟩, h3, z, h4, h5⟩ := hm
  cases h5
  refine ⟨G, ρ, w, e, p1, μ1, h1, fun v1 H1 G1 e1 g1 w1 r1 => ?_⟩
  refine ⟨G1, ρ, w1, e.ext e1, o1, μ2, by rw [g1]; exact h2, fun H2 G2 e2 g2 w2 => ?_⟩
  refine ⟨G2, ρ, w2, (e.ext e1).ext e2, o2, _, by rw [g2]; exact h3, fun H3 G3 e3 g3 w3 => ?_⟩
  refine r_sl w3 ((r1.ext e2).ext e3) (by rw [g3]; exact h4) fun v' H' G' e' g' w' r' => q v' H' G' (((e1.trans e2).trans e3).trans e') (by rw [g', g3]) w' r'

/-! ### built-in functions -/
def PlainA (X : Cx) (pos : Pos) (e : Expr) (es : List Expr) : Prop := starEach (e :: es) X.env = (false, eval e X.env) :: starEach es X.env ∧ (backTo pos (starEach es X.env)).any (·.1) = false
def derefs (μ : Sto) : List PV → Option (List D)
  | [] => some []
  | x :: xs => (deref μ x).bind fun d => (derefs μ xs).map (d :: ·)
def RepHs (k : Kx) (F H : Hp) : List V → List D → Prop
  | [], [] => True
  | v :: vs, d :: ds => RepH k F H v d ∧ RepHs k F H vs ds
  | _, _ => False
theorem WG.derefs {k : Kx} {G : Gh} {H : Hp} (w : WG k G H) : ∀ {xs : List PV} {ds : List D} {vs : List V}, VReps k G vs xs → PL.derefs G.μ xs = some ds → RepHs k G.F H vs ds
  | [], ds, [], _, h => by cases h; exact trivial
  | [], _, _ :: _, r, _ => r.elim
  | _ :: _, _, [], r, _ => r.elim
  | x :: xs, ds, v :: vs, r, h => by
    simp only [PL.derefs, Option.bind_eq_some_iff, Option.map_eq_some_iff] at h
    obtain ⟨d, h1, es, h2, h3⟩ := h
    subst h3
    exact ⟨w.deref r.1 h1, w.derefs r.2 h2⟩
/-- a built-in function by data -/
def CH (k : Kx) (f : List D → Option D) (r : List V → Hp → VK → Prop) : Prop := ∀ G H xs ds z (Q : VK), WG k G H → RepHs k G.F H xs ds → f ds = some z → KD k G Q z → r xs H Q
def mCB (f : List D → Option D) (am : MA) : ME := fun ρ μ => (am ρ μ).bind fun p => (derefs p.2 p.1).bind fun ds => (f ds).map fun z => (.dat z, p.2)
theorem cb_of {k : Kx} {f : List D → Option D} {r : List V → Hp → VK → Prop} {σ : L2.St} {H : Hp} {Q : VK} (hr : CH k f r) (h : tE k (mCB f am) σ H Q) : tCB r (tA k am) σ H Q := by
  obtain ⟨G, ρ, w, e, x, μ', hm, q⟩ := h
  simp only [mCB, Option.bind_eq_some_iff, Option.map_eq_some_iff] at hm
  obtain ⟨⟨ps, μ1⟩, h1, ds, h2, z, h3, h4⟩ := hm
  cases h4
  refine ⟨G, ρ, w, e, ps, _, h1, fun vs H1 G1 e1 g1 w1 r1 => ?_⟩
  exact hr G1 H1 vs ds z Q w1 (w1.derefs r1 (by rw [g1]; exact h2)) h3 fun v' H' G' e' g' w' r' => q v' H' G' (e1.trans e') (by rw [g', g1]) w' r'
theorem ex_callB {x : Str} {f : List D → Option D} {r : List V → Hp → VK → Prop} {id : String} {p : Pos} (hc : CallR X (.builtin id) r) (hr : CH (kx X) f r) (hg : Gl X x) (hm : X.mg x = none) (hv : bootBuiltins x = some (.builtin id)) (ha : AX X (e :: es) am)
    (hn : x ≠ "__name__" := by decide) (hdb : (x == ("__debug__" : Str)) = false := by decide)
    (hp : PlainA X pos e es := by exact ⟨rfl, rfl⟩) : EX X (.Call (.Name x p) (e :: es) [] pos) (mCB f am) :=
  (pe_callB hc hg hm hv ha hn hdb hp.1 hp.2).mono fun _ _ _ h => cb_of hr h
theorem ex_callTy {x : Str} {f : List D → Option D} {r : List V → Hp → VK → Prop} {T : String} {p : Pos} (hc : CallR X (.type T) r) (hr : CH (kx X) f r) (hg : Gl X x) (hm : X.mg x = none) (hv : bootBuiltins x = some (.type T)) (ha : AX X (e :: es) am)
    (hn : x ≠ "__name__" := by decide) (hdb : (x == ("__debug__" : Str)) = false := by decide)
    (hp : PlainA X pos e es := by exact ⟨rfl, rfl⟩) : EX X (.Call (.Name x p) (e :: es) [] pos) (mCB f am) :=
  (pe_callTy hc hg hm hv ha hn hdb hp.1 hp.2).mono fun _ _ _ h => cb_of hr h
theorem CH.one {k : Kx} {f : D → Option D} {r : List V → Hp → VK → Prop} (h : C1H k f r) : CH k (fun ds => match ds with | [d] => f d | _ => none) r := by
  intro G H xs ds z Q w rs hf q
  simp only at hf
  split at hf
  · rename_i d
    cases xs with
    | nil => exact rs.elim
    | cons x xs =>
      cases xs with
      | nil => exact h G H x d z Q w rs.1 hf q
      | cons y ys => exact rs.2.elim
  · cases hf
def f1 (f : D → Option D) : List D → Option D := fun ds => match ds with | [d] => f d | _ => none
def f2 (f : D → D → Option D) : List D → Option D := fun ds => match ds with | [d, e] => f d e | _ => none
theorem CH.two {k : Kx} {f : D → D → Option D} {r : List V → Hp → VK → Prop} (h : R2H k f fun x y H Q => r [x, y] H Q) : CH k (f2 f) r := by
  intro G H xs ds z Q w rs hf q
  unfold f2 at hf
  split at hf
  · rename_i d e
    cases xs with
    | nil => exact rs.elim
    | cons x xs =>
      cases xs with
      | nil => exact rs.2.elim
      | cons y ys =>
        cases ys with
        | nil => exact h G H x y d e z Q w rs.1 rs.2.1 hf q
        | cons y ys => exact rs.2.2.elim
  · cases hf
theorem CH.or {k : Kx} {f g : List D → Option D} {r r' : List V → Hp → VK → Prop} (h : CH k f r) (h' : CH k g r') : CH k (fun ds => match f ds with | some z => some z | none => g ds) (fun xs H Q => r xs H Q ∨ r' xs H Q) := by
  intro G H xs ds z Q w rs hf q
  simp only at hf
  split at hf
  · cases hf; rename_i hf; exact .inl (h G H xs ds z Q w rs hf q)
  · exact .inr (h' G H xs ds z Q w rs hf q)
variable {p : Pos}
theorem ex_len (hg : Gl X "len") (hm : X.mg "len" = none) (ha : AX X [e] am) (hp : PlainA X pos e [] := by exact ⟨rfl, rfl⟩) : EX X (.Call (.Name "len" p) [e] [] pos) (mCB (f1 lenD) am) := ex_callB call_lenAll (CH.one r_len) hg hm PySem.boot_len ha (hp := hp)
def absD : D → Option D
  | .int i => some (.int (if i < 0 then -i else i))
  | _ => none
theorem ex_abs (hg : Gl X "abs") (hm : X.mg "abs" = none) (ha : AX X [e] am) (hp : PlainA X pos e [] := by exact ⟨rfl, rfl⟩) : EX X (.Call (.Name "abs" p) [e] [] pos) (mCB (f1 absD) am) := ex_callB call_abs (CH.one (by
  intro G H x dx z Q w rx hf q
  unfold absD at hf
  split at hf
  · cases hf
    exact ⟨_, by rw [repH_int rx], q.val w rfl⟩
  · cases hf)) hg hm (by decide +kernel) ha (hp := hp)
def max2D : D → D → Option D := i2D fun i j => some (if j > i then j else i)
def min2D : D → D → Option D := i2D fun i j => some (if j < i then j else i)
theorem ex_max2 (hc : X.calm = true) (hg : Gl X "max") (hm : X.mg "max" = none) (ha : AX X [a, b] am) (hp : PlainA X pos a [b] := by exact ⟨rfl, rfl⟩) : EX X (.Call (.Name "max" p) [a, b] [] pos) (mCB (f2 max2D) am) := ex_callB (call_max2 hc) (CH.two (by
  intro G H x y dx dy z Q w rx ry hf q
  unfold max2D i2D at hf
  split at hf
  · cases hf
    exact ⟨_, _, by rw [repH_int rx, repH_int ry], q.val w rfl⟩
  · cases hf)) hg hm (by decide +kernel) ha (hp := hp)
theorem ex_min2 (hc : X.calm = true) (hg : Gl X "min") (hm : X.mg "min" = none) (ha : AX X [a, b] am) (hp : PlainA X pos a [b] := by exact ⟨rfl, rfl⟩) : EX X (.Call (.Name "min" p) [a, b] [] pos) (mCB (f2 min2D) am) := ex_callB (call_min2 hc) (CH.two (by
  intro G H x y dx dy z Q w rx ry hf q
  unfold min2D i2D at hf
  split at hf
  · cases hf
    exact ⟨_, _, by rw [repH_int rx, repH_int ry], q.val w rfl⟩
  · cases hf)) hg hm (by decide +kernel) ha (hp := hp)
def intD : D → Option D
  | .int i => some (.int i)
  | .bl k => some (.int (if k then 1 else 0))
  | _ => none
theorem ex_int1 (hg : Gl X "int") (hm : X.mg "int" = none) (ha : AX X [e] am) (hp : PlainA X pos e [] := by exact ⟨rfl, rfl⟩) : EX X (.Call (.Name "int" p) [e] [] pos) (mCB (f1 intD) am) := ex_callTy call_int1 (CH.one (by
  intro G H x dx z Q w rx hf q
  unfold intD at hf
  split at hf
  · cases hf
    exact .inl ⟨_, by rw [repH_int rx], q.val w rfl⟩
  · cases hf
    exact .inr ⟨_, by rw [repH_bl rx], q.val w rfl⟩
  · cases hf)) hg hm (by decide +kernel) ha (hp := hp)
def divmodD : D → D → Option D
  | .int i, .int j => if 0 < j ∧ j < 1073741824 then some (.tup [.int (i / j), .int (i % j)]) else none
  | _, _ => none
theorem ex_divmod (hg : Gl X "divmod") (hm : X.mg "divmod" = none) (ha : AX X [a, b] am) (hp : PlainA X pos a [b] := by exact ⟨rfl, rfl⟩) : EX X (.Call (.Name "divmod" p) [a, b] [] pos) (mCB (f2 divmodD) am) := ex_callB call_divmod (CH.two (by
  intro G H x y dx dy z Q w rx ry hf q
  unfold divmodD at hf
  split at hf
  · obtain ⟨h1, h2⟩ := if_some hf
    subst h2
    exact ⟨_, _, by rw [repH_int rx, repH_int ry], h1, fun p hp => q.newT w hp ⟨rfl, rfl, trivial⟩⟩
  · cases hf)) hg hm (by decide +kernel) ha (hp := hp)
/-! #### of lists of iL, of bools -/
def iL : List D → Option (List Int)
  | [] => some []
  | .int i :: r => (iL r).map (i :: ·)
  | _ :: _ => none
def bL : List D → Option (List Bool)
  | [] => some []
  | .bl i :: r => (bL r).map (i :: ·)
  | _ :: _ => none
theorem reps_iL {k : Kx} {F : Hp} : ∀ {ds : List D} {ns : List Int} {vs : List V}, iL ds = some ns → Reps k F vs ds → vs = ns.map V.int
  | [], ns, [], h, _ => by cases h; rfl
  | [], _, _ :: _, _, r => r.elim
  | _ :: _, _, [], _, r => r.elim
  | d :: ds, ns, v :: vs, h, r => by
    cases d <;> simp only [iL] at h <;> try cases h
    obtain ⟨es, h1, h2⟩ := Option.map_eq_some_iff.mp h
    subst h2
    rw [show v = .int _ from r.1, reps_iL h1 r.2]
    rfl
theorem reps_bL {k : Kx} {F : Hp} : ∀ {ds : List D} {ns : List Bool} {vs : List V}, bL ds = some ns → Reps k F vs ds → vs = ns.map V.bl
  | [], ns, [], h, _ => by cases h; rfl
  | [], _, _ :: _, _, r => r.elim
  | _ :: _, _, [], _, r => r.elim
  | d :: ds, ns, v :: vs, h, r => by
    cases d <;> simp only [bL] at h <;> try cases h
    obtain ⟨es, h1, h2⟩ := Option.map_eq_some_iff.mp h
    subst h2
    rw [show v = .bl _ from r.1, reps_bL h1 r.2]
    rfl
def sumD : D → Option D
  | .lst ds => (iL ds).map fun ns => .int ns.sum
  | _ => none
def allD : D → Option D
  | .lst ds => (bL ds).map fun ns => .bl (ns.all id)
  | _ => none
def anyD : D → Option D
  | .lst ds => (bL ds).map fun ns => .bl (ns.any id)
  | _ => none
theorem ex_sum (hc : X.calm = true) (hg : Gl X "sum") (hm : X.mg "sum" = none) (ha : AX X [e] am) (hp : PlainA X pos e [] := by exact ⟨rfl, rfl⟩) : EX X (.Call (.Name "sum" p) [e] [] pos) (mCB (f1 sumD) am) := ex_callB (cr_sum hc) (CH.one (by
  intro G H x dx z Q w rx hf q
  unfold sumD at hf
  split at hf
  · obtain ⟨ns, h1, h2⟩ := Option.map_eq_some_iff.mp hf
    subst h2
    obtain ⟨a, xs, e1, g1, g2⟩ := repH_lst w.fr rx
    exact ⟨a, ns, by rw [e1], by rw [← reps_iL h1 g2]; exact g1, q.val w rfl⟩
  · cases hf)) hg hm (by decide +kernel) ha (hp := hp)
theorem ex_all (hc : X.calm = true) (hg : Gl X "all") (hm : X.mg "all" = none) (ha : AX X [e] am) (hp : PlainA X pos e [] := by exact ⟨rfl, rfl⟩) : EX X (.Call (.Name "all" p) [e] [] pos) (mCB (f1 allD) am) := ex_callB (cr_all hc) (CH.one (by
  intro G H x dx z Q w rx hf q
  unfold allD at hf
  split at hf
  · obtain ⟨ns, h1, h2⟩ := Option.map_eq_some_iff.mp hf
    subst h2
    obtain ⟨a, xs, e1, g1, g2⟩ := repH_lst w.fr rx
    exact ⟨a, ns, by rw [e1], by rw [← reps_bL h1 g2]; exact g1, q.val w rfl⟩
  · cases hf)) hg hm (by decide +kernel) ha (hp := hp)
theorem ex_any (hc : X.calm = true) (hg : Gl X "any") (hm : X.mg "any" = none) (ha : AX X [e] am) (hp : PlainA X pos e [] := by exact ⟨rfl, rfl⟩) : EX X (.Call (.Name "any" p) [e] [] pos) (mCB (f1 anyD) am) := ex_callB (cr_any hc) (CH.one (by
  intro G H x dx z Q w rx hf q
  unfold anyD at hf
  split at hf
  · obtain ⟨ns, h1, h2⟩ := Option.map_eq_some_iff.mp hf
    subst h2
    obtain ⟨a, xs, e1, g1, g2⟩ := repH_lst w.fr rx
    exact ⟨a, ns, by rw [e1], by rw [← reps_bL h1 g2]; exact g1, q.val w rfl⟩
  · cases hf)) hg hm (by decide +kernel) ha (hp := hp)
/-! #### tuple(..), list(..) -/
def listD : D → Option D
  | .lst ds => some (.lst ds)
  | .tup ds => some (.lst ds)
  | _ => none
theorem ex_list (hg : Gl X "list") (hm : X.mg "list" = none) (ha : AX X [e] am) (hp : PlainA X pos e [] := by exact ⟨rfl, rfl⟩) : EX X (.Call (.Name "list" p) [e] [] pos) (mCB (f1 listD) am) := ex_callTy call_list_of (CH.one (by
  intro G H x dx z Q w rx hf q
  unfold listD at hf
  split at hf
  · cases hf
    obtain ⟨a, xs, e1, g1, g2⟩ := repH_lst w.fr rx
    exact ⟨a, xs, by rw [e1], .inl g1, fun p hp => q.newL w hp g2⟩
  · cases hf
    obtain ⟨a, xs, e1, g1, g2⟩ := repH_tup w.fr rx
    exact ⟨a, xs, by rw [e1], .inr g1, fun p hp => q.newL w hp g2⟩
  · cases hf)) hg hm (by decide +kernel) ha (hp := hp)
/-- a built-in by values of slots (whether read-only matters) -/
def CP (k : Kx) (f : Sto → List PV → Option D) (r : List V → Hp → VK → Prop) : Prop := ∀ G H xs ps z (Q : VK), WG k G H → VReps k G xs ps → f G.μ ps = some z → KD k G Q z → r xs H Q
def mCP (f : Sto → List PV → Option D) (am : MA) : ME := fun ρ μ => (am ρ μ).bind fun p => (f p.2 p.1).map fun z => (.dat z, p.2)
theorem cp_of {k : Kx} {f : Sto → List PV → Option D} {r : List V → Hp → VK → Prop} {σ : L2.St} {H : Hp} {Q : VK} (hr : CP k f r) (h : tE k (mCP f am) σ H Q) : tCB r (tA k am) σ H Q := by
  obtain ⟨G, ρ, w, e, x, μ', hm, q⟩ := h
  simp only [mCP, Option.bind_eq_some_iff, Option.map_eq_some_iff] at hm
  obtain ⟨⟨ps, μ1⟩, h1, z, h3, h4⟩ := hm
  cases h4
  refine ⟨G, ρ, w, e, ps, _, h1, fun vs H1 G1 e1 g1 w1 r1 => ?_⟩
  exact hr G1 H1 vs ps z Q w1 r1 (by rw [g1]; exact h3) fun v' H' G' e' g' w' r' => q v' H' G' (e1.trans e') (by rw [g', g1]) w' r'
theorem ex_callTyP {x : Str} {f : Sto → List PV → Option D} {r : List V → Hp → VK → Prop} {T : String} {p : Pos} (hc : CallR X (.type T) r) (hr : CP (kx X) f r) (hg : Gl X x) (hm : X.mg x = none) (hv : bootBuiltins x = some (.type T)) (ha : AX X (e :: es) am)
    (hn : x ≠ "__name__" := by decide) (hdb : (x == ("__debug__" : Str)) = false := by decide)
    (hp : PlainA X pos e es := by exact ⟨rfl, rfl⟩) : EX X (.Call (.Name x p) (e :: es) [] pos) (mCP f am) :=
  (pe_callTy hc hg hm hv ha hn hdb hp.1 hp.2).mono fun _ _ _ h => cp_of hr h
def tupP (μ : Sto) : List PV → Option D
  | [x] => match deref μ x with
    | some (.lst ds) => some (.tup ds)
    | some (.tup ds) => match x with
      | .dat _ => some (.tup ds)
      | _ => none
    | _ => none
  | _ => none
theorem ex_tuple (hg : Gl X "tuple") (hm : X.mg "tuple" = none) (ha : AX X [e] am) (hp : PlainA X pos e [] := by exact ⟨rfl, rfl⟩) : EX X (.Call (.Name "tuple" p) [e] [] pos) (mCP tupP am) := ex_callTyP call_tuple_of (by
  intro G H xs ps z Q w rs hf q
  unfold tupP at hf
  split at hf
  · rename_i x
    cases xs with
    | nil => exact rs.elim
    | cons v xs =>
      cases xs with
      | cons _ _ => exact rs.2.elim
      | nil =>
        split at hf
        · rename_i ds hd
          cases hf
          obtain ⟨a, xs, e1, g1, g2⟩ := repH_lst w.fr (w.deref rs.1 hd)
          exact ⟨a, xs, by rw [e1], .inl ⟨g1, fun p hp => q.newT w hp g2⟩⟩
        · rename_i ds hd
          split at hf
          · cases hf
            cases hd
            obtain ⟨a, xs, e1, g1, g2⟩ := (show ∃ a xs, _ from rs.1)
            exact ⟨a, xs, by rw [e1], .inr ⟨SqT.of (w.fr _ _ g1), q.val w ⟨a, xs, rfl, g1, g2⟩⟩⟩
          · cases hf
        · cases hf
  · cases hf) hg hm (by decide +kernel) ha (hp := hp)

/-! ### isinstance -/
inductive Ty where
  | int | bool | str | tup | lst | dct
  deriving DecidableEq
def Ty.nm : Ty → String
  | .int => "int" | .bool => "bool" | .str => "str" | .tup => "tuple" | .lst => "list" | .dct => "dict"
def isTy : Ty → D → Bool
  | .int, .int _ => true
  | .int, .bl _ => true
  | .bool, .bl _ => true
  | .str, .str _ => true
  | .tup, .tup _ => true
  | .lst, .lst _ => true
  | .dct, .dct _ _ _ => true
  | _, _ => false
def tyNm : D → String
  | .non => "NoneType" | .bl _ => "bool" | .int _ => "int" | .str _ => "str" | .tup _ => "tuple" | .lst _ => "list" | .dct _ _ _ => "dict" | .ins _ _ _ => ""
def isiD (T : Ty) (d : D) : Option D := match d with
  | .ins _ _ _ => none
  | _ => some (.bl (isTy T d))
theorem kit_of_ty (T : Ty) (d : D) (h : ∀ c ns vs, d ≠ .ins c ns vs) : kitB (tyNm d) T.nm = some (isTy T d) := by
  cases T <;> cases d <;> first
    | exact absurd rfl (h _ _ _)
    | (simp only [tyNm, Ty.nm, isTy]; decide +kernel)
theorem tyx_of {k : Kx} {F H : Hp} (e : Same F H) {v : V} {d : D} (r : RepH k F H v d) (h : ∀ c ns vs, d ≠ .ins c ns vs) : TyX k.K H v (.type (tyNm d)) := by
  cases d with
  | non => rw [repH_non r]; exact .base .non
  | bl b => rw [repH_bl r]; exact .base (.bl b)
  | int b => rw [repH_int r]; exact .base (.int b)
  | str b => rw [repH_str r]; exact .base (.str b)
  | tup ds =>
    obtain ⟨a, xs, e1, g, _⟩ := repH_tup e r
    rw [e1]
    rcases g with (g | ⟨o, g⟩) | ⟨o, its, n, g1, g2, _⟩
    · exact .base (.tup g)
    · exact .fTuple g
    · exact .kTuple g1 g2
  | lst ds =>
    obtain ⟨a, xs, e1, g, _⟩ := repH_lst e r
    rw [e1]
    rcases g with (g | ⟨o, g⟩) | ⟨o, its, n, g1, g2, _⟩
    · exact .base (.lst g)
    · exact .base (.frz g)
    · exact .kList g1 g2
  | dct t ks vs =>
    cases t with
    | false => obtain ⟨a, e1, kvs, g, _⟩ := repH_dK e r; rw [e1]; exact .base (.dK g)
    | true => obtain ⟨a, e1, kvs, g, _⟩ := repH_dT e r; rw [e1]; exact .base (.dT g)
  | ins c ns vs => exact absurd rfl (h _ _ _)
theorem isi_of {T : Ty} {σ : L2.St} {H : Hp} {Q : VK} (h : tE (kx X) (mUn (isiD T) m) σ H Q) : tCB (rIsi X.K) (tCons (tE (kx X) m) (tCons (tC (.ty T.nm)) tNil)) σ H Q := by
  obtain ⟨G, ρ, w, e, x, μ', hm, q⟩ := h
  simp only [mUn, Option.bind_eq_some_iff, Option.map_eq_some_iff] at hm
  obtain ⟨⟨p1, μ1⟩, h1, dx, h3, z, h5, h6⟩ := hm
  cases h6
  refine ⟨G, ρ, w, e, p1, μ1, h1, fun v1 H1 G1 e1 g1 w1 r1 => ?_⟩
  have r2 : RepH (kx X) G1.F H1 v1 dx := w1.deref r1 (by rw [g1]; exact h3)
  have hn : ∀ c ns vs, dx ≠ .ins c ns vs := fun c ns vs z => by subst z; cases h5
  have hz : z = .bl (isTy T dx) := by
    unfold isiD at h5
    split at h5
    · cases h5
    · exact (Option.some.inj h5).symm
  subst hz
  exact ⟨v1, .ty T.nm, _, _, _, rfl, .ty _, tyx_of w1.fr r2 hn, kit_ty (kit_of_ty T dx hn), q _ H1 G1 e1 g1 w1 rfl⟩
theorem ex_isi (T : Ty) {y : Str} {py : Pos} (hg : Gl X "isinstance") (hm : X.mg "isinstance" = none) (hgy : Gl X y) (hmy : X.mg y = none) (hvy : bootBuiltins y = some (.type T.nm)) (ha : EX X a m) (hny : y ≠ "__name__" := by decide) (hdy : (y == ("__debug__" : Str)) = false := by decide) 
    (hs1 : starEach [a, .Name y py] X.env = (false, eval a X.env) :: starEach [.Name y py] X.env := by rfl) :
    EX X (.Call (.Name "isinstance" p) [a, .Name y py] [] pos) (mUn (isiD T) m) :=
  (pe_callB call_isi hg hm (by decide +kernel) (pa_cons ha (pa_cons (pe_bltn (v := .ty T.nm) hgy hmy hvy rfl hny hdy) pa_nil) hs1) (he := hs1)).mono fun _ _ _ h => isi_of h

/-! ### defs of the text -/
def spF (k : Kx) (fn : Fn) : Sp := fun vs H Q _ => ∃ G xs, WG k G H ∧ VReps k G vs xs ∧ ∃ y μ', fn xs G.μ = some (y, μ') ∧ ∀ v H' G', Ext G G' → G'.μ = μ' → WG k G' H' → VRep k G' v y → Q v H'
def mCall (fn : Fn) (am : MA) : ME := fun ρ μ => (am ρ μ).bind fun p => fn p.1 p.2
theorem call_of {k : Kx} {fn : Fn} {E : XK} {σ : L2.St} {H : Hp} {Q : VK} (h : tE k (mCall fn am) σ H Q) : tCall (spF k fn) [] E (tA k am) σ H Q := by
  obtain ⟨G, ρ, w, e, x, μ', hm, q⟩ := h
  simp only [mCall, Option.bind_eq_some_iff] at hm
  obtain ⟨⟨ps, μ1⟩, h1, h2⟩ := hm
  refine ⟨G, ρ, w, e, ps, _, h1, fun vs H1 G1 e1 g1 w1 r1 => ?_⟩
  refine ⟨G1, ps, w1, by rw [List.append_nil]; exact r1, x, μ', by rw [g1]; exact h2, fun v' H' G' e' g' w' r' => q v' H' G' (e1.trans e') g' w' r'⟩
section
variable {k : Nat} {f : Addr} {fd : FuncData} {ps : List Str} {fn : Fn} {x : Str}
theorem ex_call (F : FnOk X.prog X.w X.K X.mg X.base CX0 k f fd ps (spF (kx X) fn)) (hr : Room k X.A) (hg : Gl X x) (hm : X.mg x = some (.ref f)) (hk : PySem.W.keepIn X.K (.ref f) = true) (hb : Binds X.K fd ps [])
    (ha : AX X (e :: es) am) (hdb : (x == ("__debug__" : Str)) = false := by decide) (he : starEach (e :: es) X.env = (false, eval e X.env) :: starEach es X.env := by rfl) (hpl : (backTo pos (starEach es X.env)).any (·.1) = false := by rfl) :
    EX X (.Call (.Name x p) (e :: es) [] pos) (mCall fn am) := (pe_call F hr hg hm hk hb .nil pass0 ha hdb he hpl).mono fun _ _ _ h => call_of h
theorem ex_call0 (F : FnOk X.prog X.w X.K X.mg X.base CX0 k f fd ps (spF (kx X) fn)) (hr : Room k X.A) (hg : Gl X x) (hm : X.mg x = some (.ref f)) (hk : PySem.W.keepIn X.K (.ref f) = true) (hb : Binds X.K fd ps [])
    (hdb : (x == ("__debug__" : Str)) = false := by decide) : EX X (.Call (.Name x p) [] [] pos) (mCall fn aNil) := (pe_call0 F hr hg hm hk hb .nil pass0 hdb).mono fun _ _ _ h => by
  obtain ⟨G, ρ, w, e, y, μ', hm, q⟩ := h
  exact ⟨G, [], w, trivial, y, μ', hm, q⟩
end
/-! ### what a def's body gives -/
def cutS (n : Nat) (r : PV × Sto) : Option (PV × Sto) := match r.1 with
  | .cell i => if i < n then some (.cell i, r.2.take n) else match r.2[i]? with
    | some c => some (.cell n, r.2.take n ++ [c])
    | none => none
  | .row i j => if i < n then some (.row i j, r.2.take n) else none
  | x => some (x, r.2.take n)
def startE (n : Nat) (xs : List PV) : Env := xs.map some ++ List.replicate (n - xs.length) none
/-- n names, of which j are parameters -/
def fnOf (n j : Nat) (m : MS) : Fn := fun xs μ => if xs.length = j then (m (startE n xs) μ).bind fun r => match r.1 with
  | .rt v => cutS μ.length (v, r.2.2)
  | .nx => cutS μ.length (.dat .non, r.2.2)
  | _ => none else none
theorem Ext.cut {G G' : Gh} (e : Ext G G') (n : Nat) (hn : n = G.ι.length) : G'.ι.take n = G.ι := by
  obtain ⟨t, ht⟩ := e.i
  subst hn
  rw [ht, List.take_left]
theorem cut_of {k : Kx} {G G' : Gh} {H' : Hp} {Q : VK} {v : V} {x y : PV} {μ1 μ' : Sto} (w : WG k G' H') (w0 : G.ι.length = G.μ.length) (e : Ext G G') (g : G'.μ = μ1) (r : VRep k G' v x) (h : cutS G.μ.length (x, μ1) = some (y, μ'))
    (q : ∀ v H' G', Ext G G' → G'.μ = μ' → WG k G' H' → VRep k G' v y → Q v H') : Q v H' := by
  subst g
  have hc := e.cut G.μ.length w0.symm
  have e' : Ext G { G' with μ := G'.μ.take G.μ.length, ι := G'.ι.take G.μ.length } := ⟨e.f, e.p, e.o, [], by show G'.ι.take _ = _; rw [hc]; simp⟩
  unfold cutS at h
  cases x with
  | dat d => cases h; exact q v H' _ e' rfl (w.cut _) r
  | kon d => cases h; exact q v H' _ e' rfl (w.cut _) r
  | cell i =>
    obtain ⟨p, h1, h2⟩ := r
    simp only at h
    split at h
    · rename_i hi
      cases h
      exact q v H' _ e' rfl (w.cut _) ⟨p, by show (G'.ι.take _)[i]? = _; rw [List.getElem?_take, if_pos hi]; exact h1, h2⟩
    · rename_i hi
      split at h
      · rename_i c hc'
        cases h
        refine q v H' { G' with μ := G'.μ.take G.μ.length ++ [c], ι := G'.ι.take G.μ.length ++ [p] } ⟨e.f, e.p, e.o, [p], by show G'.ι.take _ ++ _ = _; rw [hc]⟩ rfl (w.cutK (Nat.le_of_not_lt hi) h1 hc') ⟨p, ?_, h2⟩
        show (G'.ι.take _ ++ [p])[_]? = _
        rw [hc, ← w0]
        simp
      · cases h
  | row i j =>
    obtain ⟨p, b, h1, h2, h3⟩ := r
    simp only at h
    obtain ⟨hi, h4⟩ := if_some h
    cases h4
    exact q v H' _ e' rfl (w.cut _) ⟨p, b, by show (G'.ι.take _)[i]? = _; rw [List.getElem?_take, if_pos hi]; exact h1, h2, h3⟩
theorem vreps_at {k : Kx} {G : Gh} : ∀ {vs : List V} {xs : List PV} {i : Nat} {x : PV}, VReps k G vs xs → xs[i]? = some x → ∃ v, vs[i]? = some v ∧ VRep k G v x
  | [], [], i, x, _, h => by simp at h
  | [], _ :: _, _, _, r, _ => r.elim
  | _ :: _, [], _, _, r, _ => r.elim
  | v :: vs, y :: xs, 0, x, r, h => by
    have : y = x := Option.some.inj h
    subst this
    exact ⟨v, rfl, r.1⟩
  | v :: vs, y :: xs, i + 1, x, r, h => vreps_at (vs := vs) (xs := xs) (i := i) r.2 h
theorem env_start {k : Kx} {G : Gh} {N : List Str} {vs : List V} {xs : List PV} (r : VReps k G vs xs) : EnvOk k G (L2.start N vs) (startE N.length xs) := by
  have hl := r.length
  refine ⟨by simp [L2.start, startE, hl], fun i x h => ?_⟩
  unfold startE at h
  unfold L2.start
  by_cases hi : i < xs.length
  · rw [List.getElem?_append_left (by simpa using hi), List.getElem?_map] at h
    obtain ⟨y, h1, h2⟩ := Option.map_eq_some_iff.mp h
    cases h2
    obtain ⟨v, h3, h4⟩ := vreps_at r h1
    exact ⟨v, by rw [List.getElem?_append_left (by simp; omega), List.getElem?_map, h3]; rfl, h4⟩
  · rw [List.getElem?_append_right (by simp; omega), List.getElem?_replicate] at h
    split at h <;> cases h
theorem fn_ok {P : Program} {w : World} {K : PySem.W.Frag} {mg : Str → Option Value} {base : Heap} {x qual : Str} {st : Stmt} {f : Addr} {fd : FuncData} {N ps : List Str} {k : Nat} {m : MS} (F : Fun K x qual st f fd) (S : FnScope N ps (defScope st))
    (hb : ∀ (cdv : Value) (A : Around) (outer : List PySem.Env) (s : Shared) (H : Hp) (E : XK), Room k (A.deeper (envOfC qual (defScope st) s.heap.objs.size f cdv)) → BX (cxOf CX0 P w K mg base N qual (defScope st) f cdv A outer s H E).nox (defBody st) m) :
    FnOk P w K mg base CX0 (k + 1) f fd ps (spF ⟨K, mg⟩ (fnOf N.length ps.length m)) := by
  refine F.ok S (fun vs H Q E h => ?_) (fun cdv A outer s H vs Q E hr h => ⟨_, hb cdv A outer s H E hr, ?_⟩)
  · obtain ⟨G, xs, w, r, y, μ', hm, q⟩ := h
    unfold fnOf at hm
    split at hm
    · rename_i hl
      rw [r.length, hl]
    · cases hm
  · obtain ⟨G, xs, w, r, y, μ', hm, q⟩ := h
    unfold fnOf at hm
    split at hm
    · simp only [Option.bind_eq_some_iff] at hm
      obtain ⟨⟨o, ρ1, μ1⟩, h1, h2⟩ := hm
      refine ⟨G, _, w, env_start r, o, ρ1, μ1, h1, fun σ' H' G' e' g' w' n' => ?_⟩
      split at h2
      · rename_i v ho
        simp only at ho
        subst ho
        exact fun u ru => cut_of w' w.len e' g' ru h2 q
      · rename_i ho
        simp only at ho
        subst ho
        exact cut_of (x := .dat .non) w' w.len e' g' rfl h2 q
      · cases h2
    · cases hm
end
end PL

set_option Elab.async false
set_option linter.all false
set_option maxRecDepth 100000
namespace PL
open PySem PySem.Spec PyProof.Rows L2

/-! ### targets: names and tuples of them -/
inductive Tg where
  | nm (i : Nat) | tp (ts : List Tg)
mutual
def gT (K : PySem.W.Frag) : Tg → TG
  | .nm i => gName i
  | .tp ts => gTup K ts.length (gTs K ts)
def gTs (K : PySem.W.Frag) : List Tg → TGs
  | [] => gNil
  | t :: ts => gCons (gT K t) (gTs K ts)
end
mutual
def bind1 : Tg → PV → Env → Option Env
  | .nm i, x, ρ => some (ρ.set i (some x))
  | .tp ts, .dat (.tup ds), ρ => binds ts (ds.map .dat) ρ
  | .tp _, _, _ => none
def binds : List Tg → List PV → Env → Option Env
  | [], [], ρ => some ρ
  | t :: ts, x :: xs, ρ => (bind1 t x ρ).bind fun ρ1 => binds ts xs ρ1
  | _, _, _ => none
end
mutual
def Tg.slots : Tg → List Nat
  | .nm i => [i]
  | .tp ts => slotss ts
def slotss : List Tg → List Nat
  | [] => []
  | t :: ts => t.slots ++ slotss ts
end
theorem env_set {k : Kx} {G : Gh} {σ : L2.St} {ρ : Env} (e : EnvOk k G σ ρ) (i : Nat) {v : V} {x : PV} (r : VRep k G v x) : EnvOk k G (σ.set i (some v)) (ρ.set i (some x)) := by
  refine ⟨by simp [e.len], fun j y h => ?_⟩
  by_cases hj : i = j
  · subst hj
    by_cases hl : i < ρ.length
    · rw [List.getElem?_set_self hl] at h
      cases h
      exact ⟨v, List.getElem?_set_self (by rw [e.len]; exact hl), r⟩
    · rw [List.getElem?_eq_none (by simpa using hl)] at h
      cases h
  · rw [List.getElem?_set_ne hj] at h ⊢
    exact e.at' j y h
theorem wipe_set {σ : L2.St} {i : Nat} {x : Option V} : ∀ {vs : List Nat}, i ∈ vs → wipe (σ.set i x) vs = wipe σ vs
  | [], h => by simp at h
  | v :: vs, h => by
    unfold wipe
    by_cases hv : i ∈ vs
    · rw [wipe_set hv]
    · have e : i = v := (List.mem_cons.mp h).resolve_right hv
      subst e
      have : ∀ (us : List Nat), i ∉ us → wipe (σ.set i x) us = (wipe σ us).set i x := by
        intro us
        induction us with
        | nil => intro _; rfl
        | cons u us ih =>
          intro hu
          unfold wipe
          rw [ih (fun m => hu (List.mem_cons_of_mem _ m)), List.set_comm _ _ (fun e => hu (by rw [e]; exact List.mem_cons_self))]
      rw [this vs hv, List.set_set]
theorem reps_dats {k : Kx} {G : Gh} : ∀ {ds : List D} {vs : List V}, Reps k G.F vs ds → VReps k G vs (ds.map .dat)
  | [], [], _ => trivial
  | [], _ :: _, h => h.elim
  | _ :: _, [], h => h.elim
  | d :: ds, v :: vs, h => ⟨h.1, reps_dats h.2⟩
theorem binds_len : ∀ {ts : List Tg} {xs : List PV} {ρ ρ' : Env}, binds ts xs ρ = some ρ' → ts.length = xs.length
  | [], [], _, _, _ => rfl
  | [], _ :: _, _, _, h => by simp [binds] at h
  | _ :: _, [], _, _, h => by simp [binds] at h
  | t :: ts, x :: xs, ρ, ρ', h => by
    simp only [binds, Option.bind_eq_some_iff] at h
    obtain ⟨ρ1, _, h2⟩ := h
    rw [List.length_cons, List.length_cons, binds_len h2]
mutual
theorem gT_of {k : Kx} {G : Gh} {H : Hp} (w : WG k G H) (vs : List Nat) : ∀ (t : Tg) {x : PV} {v : V} {σ : L2.St} {ρ ρ' : Env} {Q : L2.St → Hp → Prop}, EnvOk k G σ ρ → VRep k G v x → bind1 t x ρ = some ρ' → (∀ i ∈ t.slots, i ∈ vs) →
    (∀ σ', EnvOk k G σ' ρ' → wipe σ' vs = wipe σ vs → Q σ' H) → gT k.K t v σ H Q
  | .nm i, x, v, σ, ρ, ρ', Q, e, r, h, hs, q => by
    simp only [bind1, Option.some.injEq] at h
    subst h
    exact q _ (env_set e i r) (wipe_set (hs i (by simp [Tg.slots])))
  | .tp ts, .dat (.tup ds), v, σ, ρ, ρ', Q, e, r, h, hs, q => by
    simp only [bind1] at h
    obtain ⟨a, xs, e1, g1, g2⟩ := (show ∃ a xs, _ from r)
    have hl := binds_len h
    refine ⟨a, xs, e1, SqT.of (w.fr _ _ g1), by rw [g2.length, hl, List.length_map], ?_⟩
    exact gTs_of w vs ts e (reps_dats g2) h (fun i hi => hs i (by simpa [Tg.slots] using hi)) q
  | .tp ts, .kon d, v, σ, ρ, ρ', Q, e, r, h, hs, q => by simp [bind1] at h
  | .tp ts, .cell _, v, σ, ρ, ρ', Q, e, r, h, hs, q => by simp [bind1] at h
  | .tp ts, .dat .non, v, σ, ρ, ρ', Q, e, r, h, hs, q => by simp [bind1] at h
  | .tp ts, .dat (.bl _), v, σ, ρ, ρ', Q, e, r, h, hs, q => by simp [bind1] at h
  | .tp ts, .dat (.int _), v, σ, ρ, ρ', Q, e, r, h, hs, q => by simp [bind1] at h
  | .tp ts, .dat (.str _), v, σ, ρ, ρ', Q, e, r, h, hs, q => by simp [bind1] at h
  | .tp ts, .dat (.lst _), v, σ, ρ, ρ', Q, e, r, h, hs, q => by simp [bind1] at h
  | .tp ts, .dat (.dct _ _ _), v, σ, ρ, ρ', Q, e, r, h, hs, q => by simp [bind1] at h
  | .tp ts, .dat (.ins _ _ _), v, σ, ρ, ρ', Q, e, r, h, hs, q => by simp [bind1] at h
theorem gTs_of {k : Kx} {G : Gh} {H : Hp} (w : WG k G H) (vs : List Nat) : ∀ (ts : List Tg) {xs : List PV} {us : List V} {σ : L2.St} {ρ ρ' : Env} {Q : L2.St → Hp → Prop}, EnvOk k G σ ρ → VReps k G us xs → binds ts xs ρ = some ρ' → (∀ i ∈ slotss ts, i ∈ vs) →
    (∀ σ', EnvOk k G σ' ρ' → wipe σ' vs = wipe σ vs → Q σ' H) → gTs k.K ts us σ H Q
  | [], [], [], σ, ρ, ρ', Q, e, r, h, hs, q => by
    cases h
    exact ⟨rfl, q σ e rfl⟩
  | [], [], _ :: _, σ, ρ, ρ', Q, e, r, h, hs, q => r.elim
  | [], _ :: _, _, σ, ρ, ρ', Q, e, r, h, hs, q => by simp [binds] at h
  | _ :: _, [], _, σ, ρ, ρ', Q, e, r, h, hs, q => by simp [binds] at h
  | _ :: _, _ :: _, [], σ, ρ, ρ', Q, e, r, h, hs, q => r.elim
  | t :: ts, x :: xs, u :: us, σ, ρ, ρ', Q, e, r, h, hs, q => by
    simp only [binds, Option.bind_eq_some_iff] at h
    obtain ⟨ρ1, h1, h2⟩ := h
    refine ⟨u, us, rfl, gT_of w vs t e r.1 h1 (fun i hi => hs i (by simp [slotss, hi])) fun σ1 e1 z1 => ?_⟩
    exact gTs_of w vs ts e1 r.2 h2 (fun i hi => hs i (by simp [slotss, hi])) fun σ2 e2 z2 => q σ2 e2 (z2.trans z1)
end
section
variable {X : Cx} {pos : Pos}
theorem gx_nm (i : Nat) {x : Str} (hN : X.N.Nodup) (hi : X.N[i]? = some x) (hx : Loc X.env.scope x) (hf : X.fn x = true ∨ X.env.scope.names.lookup x = some .local := by first | exact .inl rfl | exact .inr rfl | assumption) : PG X (.Name x pos) (gT X.K (.nm i)) := pg_name hN hi hx hf
theorem gx_nil : PGs X [] (gTs X.K []) := pgs_nil
theorem gx_cons {e : Expr} {es : List Expr} {t : Tg} {ts : List Tg} (h1 : PG X e (gT X.K t)) (h2 : PGs X es (gTs X.K ts)) (hs : (assignEach (e :: es) X.env).map (·.2) = assign e X.env :: (assignEach es X.env).map (·.2) := by rfl) : PGs X (e :: es) (gTs X.K (t :: ts)) := pgs_cons h1 h2 hs
theorem gx_tp {es : List Expr} {k : Nat} {ts : List Tg} (hc : X.calm = true) (h : PGs X es (gTs X.K ts)) (hn : (assignEach es X.env).length = ts.length := by rfl) (hst : (assignEach es X.env).findIdx? (·.1) = none := by rfl) : PG X (.Tuple es k pos) (gT X.K (.tp ts)) := pg_tup hc h hn hst
end

/-! ### blocks -/
section
variable {X : Cx} {pos : Pos} {st : Stmt} {sts : List Stmt} {a b c e : Expr} {m n l : ME} {ms mt mu : MS} {tm : MT} {am : MA}
def sNx : MS := fun ρ μ => some (.nx, ρ, μ)
def sSeq (a b : MS) : MS := fun ρ μ => (a ρ μ).bind fun r => match r.1 with
  | .nx => b r.2.1 r.2.2
  | _ => some r
theorem bx_nil : BX X [] sNx := pss_nil.mono fun D σ H h => by
  obtain ⟨G, ρ, w, e, o, ρ', μ', hm, q⟩ := h
  cases hm
  exact q σ H G (Ext.refl G) rfl w e
theorem bx_one (h : SX X st ms) : BX X [st] ms := pss_one h
theorem bx_cons (h1 : SX X st ms) (h2 : BX X sts mt) : BX X (st :: sts) (sSeq ms mt) := (pss_cons h1 h2).mono fun D σ H h => by
  obtain ⟨G, ρ, w, e, o, ρ', μ', hm, q⟩ := h
  simp only [sSeq, Option.bind_eq_some_iff] at hm
  obtain ⟨⟨o1, ρ1, μ1⟩, h1, h2⟩ := hm
  refine ⟨G, ρ, w, e, o1, ρ1, μ1, h1, fun σ1 H1 G1 e1 g1 w1 n1 => ?_⟩
  split at h2
  · rename_i ho
    simp only at ho
    subst ho
    exact ⟨G1, ρ1, w1, n1, o, ρ', μ', by rw [g1]; exact h2, fun σ' H' G' e' g' w' n' => q σ' H' G' (e1.trans e') g' w' n'⟩
  · rename_i ho
    cases h2
    have z := q σ1 H1 G1 e1 g1 w1 n1
    cases o with
    | nx => exact (ho rfl).elim
    | rt v => exact z
    | bk => exact z
    | ct => exact z
theorem sx_pass : SX X (.Pass pos) sNx := ps_pass.mono fun D σ H h => by
  obtain ⟨G, ρ, w, e, o, ρ', μ', hm, q⟩ := h
  cases hm
  exact q σ H G (Ext.refl G) rfl w e
theorem sx_doc {x j pos'} : SX X (.Expr (.Constant (.str x) j pos) pos') sNx := ps_doc.mono fun D σ H h => by
  obtain ⟨G, ρ, w, e, o, ρ', μ', hm, q⟩ := h
  cases hm
  exact q σ H G (Ext.refl G) rfl w e
def sBk : MS := fun ρ μ => some (.bk, ρ, μ)
def sCt : MS := fun ρ μ => some (.ct, ρ, μ)
theorem sx_break : SX X (.Break pos) sBk := ps_break.mono fun D σ H h => by
  obtain ⟨G, ρ, w, e, o, ρ', μ', hm, q⟩ := h
  cases hm
  exact q σ H G (Ext.refl G) rfl w e
theorem sx_continue : SX X (.Continue pos) sCt := ps_continue.mono fun D σ H h => by
  obtain ⟨G, ρ, w, e, o, ρ', μ', hm, q⟩ := h
  cases hm
  exact q σ H G (Ext.refl G) rfl w e
/-- a way that is not gone -/
def sNo : MS := fun _ _ => none
theorem sx_no : SX X st sNo := ⟨fun pins s σ H D I h => by
  obtain ⟨G, ρ, w, e, o, ρ', μ', hm, q⟩ := h
  cases hm⟩
def sRet (m : ME) : MS := fun ρ μ => (m ρ μ).map fun p => (.rt p.1, ρ, p.2)
theorem sx_ret (h : EX X e m) : SX X (.Return (some e) pos) (sRet m) := (ps_ret h).mono fun D σ H h => by
  obtain ⟨G, ρ, w, e, o, ρ', μ', hm, q⟩ := h
  simp only [sRet, Option.map_eq_some_iff] at hm
  obtain ⟨⟨p, μ1⟩, h1, h2⟩ := hm
  cases h2
  exact ⟨G, ρ, w, e, p, μ1, h1, fun v H' G' e' g' w' r' => q σ H' G' e' g' w' (e.ext e') v r'⟩
theorem sx_retN : SX X (.Return none pos) (sRet (mC .non)) := ps_retN.mono fun D σ H h => by
  obtain ⟨G, ρ, w, e, o, ρ', μ', hm, q⟩ := h
  cases hm
  exact q σ H G (Ext.refl G) rfl w e .non rfl
def sEx (m : ME) : MS := fun ρ μ => (m ρ μ).map fun p => (.nx, ρ, p.2)
theorem sx_expr (h : EX X e m) (hs : swapsWith e none pos.line X.env = pure false := by rfl) : SX X (.Expr e pos) (sEx m) := (ps_expr h hs).mono fun D σ H h => by
  obtain ⟨G, ρ, w, e, o, ρ', μ', hm, q⟩ := h
  simp only [sEx, Option.map_eq_some_iff] at hm
  obtain ⟨⟨p, μ1⟩, h1, h2⟩ := hm
  cases h2
  exact ⟨G, ρ, w, e, p, μ1, h1, fun v H' G' e' g' w' r' => q σ H' G' e' g' w' (e.ext e')⟩
def sIf (t : MT) (a b : MS) : MS := fun ρ μ => (t ρ μ).bind fun p => if p.1 = true then a ρ p.2 else b ρ p.2
theorem sx_if {ss ts : List Stmt} (hc : TX X c tm) (ha : BX X ss ms) (hb : BX X ts mt) : SX X (.If c ss ts pos) (sIf tm ms mt) := (ps_if hc ha hb).mono fun D σ H h => by
  obtain ⟨G, ρ, w, e, o, ρ', μ', hm, q⟩ := h
  simp only [sIf, Option.bind_eq_some_iff] at hm
  obtain ⟨⟨p, μ1⟩, h1, h2⟩ := hm
  refine ⟨G, ρ, w, e, p, μ1, h1, fun H1 G1 e1 g1 w1 => ?_⟩
  cases p with
  | true =>
    rw [if_pos rfl] at h2 ⊢
    exact ⟨G1, ρ, w1, e.ext e1, o, ρ', μ', by rw [g1]; exact h2, fun σ' H' G' e' g' w' n' => q σ' H' G' (e1.trans e') g' w' n'⟩
  | false =>
    rw [if_neg Bool.false_ne_true] at h2 ⊢
    exact ⟨G1, ρ, w1, e.ext e1, o, ρ', μ', by rw [g1]; exact h2, fun σ' H' G' e' g' w' n' => q σ' H' G' (e1.trans e') g' w' n'⟩

/-! ### stores -/
def sAsg (m : ME) (t : Tg) : MS := fun ρ μ => (m ρ μ).bind fun p => (bind1 t p.1 ρ).map fun ρ' => (.nx, ρ', p.2)
theorem asg_of {k : Kx} {t : Tg} {D : Ends} {σ : L2.St} {H : Hp} (h : tS k (sAsg m t) D σ H) : tAsg (tE k m) (gT k.K t) D σ H := by
  obtain ⟨G, ρ, w, e, o, ρ', μ', hm, q⟩ := h
  simp only [sAsg, Option.bind_eq_some_iff, Option.map_eq_some_iff] at hm
  obtain ⟨⟨p, μ1⟩, h1, ρ1, h2, h3⟩ := hm
  cases h3
  refine ⟨G, ρ, w, e, p, μ1, h1, fun v H' G' e' g' w' r' => ?_⟩
  exact gT_of w' t.slots t (e.ext e') r' h2 (fun i hi => hi) fun σ' n' _ => q σ' H' G' e' g' w' n'
theorem sx_asg {tg : Expr} {t : Tg} (he : EX X e m) (hg : PG X tg (gT X.K t)) (hs : swapsWithSole [tg] e pos.line X.env = pure false := by rfl) (hw : swappedStores [tg] e X.env = pure none := by rfl)
    (h1 : (assignEach [tg] X.env).map (·.2) = [assign tg X.env] := by rfl) : SX X (.Assign [tg] e pos) (sAsg m t) := (ps_asg he hg hs hw h1).mono fun D σ H h => asg_of h
/-- a, b = x, y: the targets stored from a row of slots' values -/
def sPar (am : MA) (ts : List Tg) : MS := fun ρ μ => (am ρ μ).bind fun p => (binds ts p.1 ρ).map fun ρ' => (.nx, ρ', p.2)
theorem sx_par2 {i j : Nat} {x y : Str} {px py pt : Pos} {kt k2 pt2} (hc : X.calm = true) (hN : X.N.Nodup) (hi : X.N[i]? = some x) (hj : X.N[j]? = some y) (hij : i ≠ j)
    (hx : X.env.scope.names.lookup x = some .local) (hy : X.env.scope.names.lookup y = some .local) (ha : AX X [a, b] am)
    (hw : swappedStores [.Tuple [.Name x px, .Name y py] kt pt] (.Tuple [a, b] k2 pt2) X.env = pure (some [x, y]))
    (hs : swapsWithSole [.Tuple [.Name x px, .Name y py] kt pt] (.Tuple [a, b] k2 pt2) pos.line X.env = pure false := by rfl) :
    SX X (.Assign [.Tuple [.Name x px, .Name y py] kt pt] (.Tuple [a, b] k2 pt2) pos) (sPar am [.nm i, .nm j]) := (ps_par hc hN hi hj hij hx hy ha hw hs).mono fun D σ H h => by
  obtain ⟨G, ρ, w, e, o, ρ', μ', hm, q⟩ := h
  simp only [sPar, Option.bind_eq_some_iff, Option.map_eq_some_iff] at hm
  obtain ⟨⟨ps, μ1⟩, h1, ρ1, h2, h3⟩ := hm
  cases h3
  refine ⟨G, ρ, w, e, ps, μ1, h1, fun vs H' G' e' g' w' r' => ?_⟩
  match ps, vs, h2, r' with
  | [p1, p2], [v1, v2], h2, r' =>
    simp only [binds, bind1, Option.bind_some, Option.some.injEq] at h2
    subst h2
    exact ⟨v1, v2, rfl, q _ H' G' e' g' w' (env_set (env_set (e.ext e') i r'.1) j r'.2.1)⟩
  | [], _, h2, _ => simp [binds] at h2
  | [_], _, h2, _ => simp [binds, bind1] at h2
  | _ :: _ :: _ :: _, _, h2, _ => simp [binds, bind1] at h2
  | [_, _], [], _, r' => exact r'.elim
  | [_, _], [_], _, r' => exact r'.2.elim
  | [_, _], _ :: _ :: _ :: _, _, r' => exact r'.2.2.elim
theorem sx_par3 {i j l : Nat} {x y z : Str} {px py pz pt : Pos} {kt k2 pt2} (hc : X.calm = true) (hN : X.N.Nodup) (hi : X.N[i]? = some x) (hj : X.N[j]? = some y) (hl : X.N[l]? = some z) (hij : i ≠ j) (hil : i ≠ l) (hjl : j ≠ l)
    (hx : X.env.scope.names.lookup x = some .local) (hy : X.env.scope.names.lookup y = some .local) (hz : X.env.scope.names.lookup z = some .local) (ha : AX X [a, b, c] am)
    (hw : swappedStores [.Tuple [.Name x px, .Name y py, .Name z pz] kt pt] (.Tuple [a, b, c] k2 pt2) X.env = pure (some [x, y, z]))
    (hs : swapsWithSole [.Tuple [.Name x px, .Name y py, .Name z pz] kt pt] (.Tuple [a, b, c] k2 pt2) pos.line X.env = pure false := by rfl) :
    SX X (.Assign [.Tuple [.Name x px, .Name y py, .Name z pz] kt pt] (.Tuple [a, b, c] k2 pt2) pos) (sPar am [.nm i, .nm j, .nm l]) := (ps_par3 hc hN hi hj hl hij hil hjl hx hy hz ha hw hs).mono fun D σ H h => by
  obtain ⟨G, ρ, w, e, o, ρ', μ', hm, q⟩ := h
  simp only [sPar, Option.bind_eq_some_iff, Option.map_eq_some_iff] at hm
  obtain ⟨⟨ps, μ1⟩, h1, ρ1, h2, h3⟩ := hm
  cases h3
  refine ⟨G, ρ, w, e, ps, μ1, h1, fun vs H' G' e' g' w' r' => ?_⟩
  match ps, vs, h2, r' with
  | [p1, p2, p3], [v1, v2, v3], h2, r' =>
    simp only [binds, bind1, Option.bind_some, Option.some.injEq] at h2
    subst h2
    exact ⟨v1, v2, v3, rfl, q _ H' G' e' g' w' (env_set (env_set (env_set (e.ext e') i r'.1) j r'.2.1) l r'.2.2.1)⟩
  | [], _, h2, _ => simp [binds] at h2
  | [_], _, h2, _ => simp [binds, bind1] at h2
  | [_, _], _, h2, _ => simp [binds, bind1] at h2
  | _ :: _ :: _ :: _ :: _, _, h2, _ => simp [binds, bind1] at h2
  | [_, _, _], [], _, r' => exact r'.elim
  | [_, _, _], [_], _, r' => exact r'.2.elim
  | [_, _, _], [_, _], _, r' => exact r'.2.2.elim
  | [_, _, _], _ :: _ :: _ :: _ :: _, _, r' => exact r'.2.2.2.elim
/-- .. by way of a tuple (names that are captured, four and more) -/
theorem sx_parT {tg : Expr} {es : List Expr} {k2 pt2} {ts : List Tg} (ha : AX X es am) (hg : PG X tg (gT X.K (.tp ts))) (hs : swapsWithSole [tg] (.Tuple es k2 pt2) pos.line X.env = pure false := by rfl) (hw : swappedStores [tg] (.Tuple es k2 pt2) X.env = pure none := by rfl)
    (h1 : (assignEach [tg] X.env).map (·.2) = [assign tg X.env] := by rfl) (hl : ts.length ≤ 1000 := by decide) : SX X (.Assign [tg] (.Tuple es k2 pt2) pos) (sPar am ts) := (ps_asg (pe_tup ha) hg hs hw h1).mono fun D σ H h => by
  obtain ⟨G, ρ, w, e, o, ρ', μ', hm, q⟩ := h
  simp only [sPar, Option.bind_eq_some_iff, Option.map_eq_some_iff] at hm
  obtain ⟨⟨ps, μ1⟩, h1, ρ1, h2, h3⟩ := hm
  cases h3
  refine ⟨G, ρ, w, e, ps, μ1, h1, fun vs H' G' e' g' w' r' => ?_⟩
  have hlen := binds_len h2
  refine ⟨?_, fun p hp => ?_⟩
  · rw [r'.length, ← hlen]
    exact Nat.le_trans hl (by rw [sizeLine_eq]; decide)
  · refine ⟨p, vs, rfl, SqT.of upd_same, by rw [r'.length, hlen], ?_⟩
    have w2 := w'.new (o := .tup vs) hp
    have e2 := w'.extF (o := .tup vs) hp
    exact gTs_of w2 (slotss ts) ts ((e.ext e').ext e2) (r'.ext e2) h2 (fun i hi => hi) fun σ' n' _ => q σ' _ _ (e'.trans e2) g' w2 n'
end
end PL

set_option Elab.async false
set_option linter.all false
set_option maxRecDepth 100000
namespace PL
open PySem PySem.Spec PyProof.Rows L2

/-! ### things that change -/
def putV (ks vs : List D) (key v : D) : List D × List D :=
  if (ks.any fun k => eqv k key) = true then (ks, (ks.zip vs).map fun p => if eqv p.1 key = true then v else p.2) else (ks ++ [key], vs ++ [v])
theorem reps_zip {κ : Type} [DecidableEq κ] {k : Kx} {F : Hp} (e : κ → D) (he : ∀ a b, eqv (e a) (e b) = decide (a = b)) {v : V} {d : D} (r : Rep k F v d) : ∀ (kvs : List (κ × V)) (vs : List D) (x : κ), Reps k F (kvs.map (·.2)) vs →
    Reps k F ((kvs.map fun kv => if kv.1 = x then (kv.1, v) else kv).map (·.2)) (((kvs.map fun p => e p.1).zip vs).map fun p => if eqv p.1 (e x) = true then d else p.2)
  | [], [], x, _ => trivial
  | [], _ :: _, _, h => h.elim
  | _ :: _, [], _, h => h.elim
  | p :: kvs, w :: vs, x, h => by
    simp only [List.map_cons, List.zip_cons_cons]
    refine ⟨?_, reps_zip e he r kvs vs x h.2⟩
    rw [he]
    by_cases q : p.1 = x
    · rw [if_pos q, decide_eq_true q, if_pos rfl]
      exact r
    · rw [if_neg q, decide_eq_false q, if_neg Bool.false_ne_true]
      exact h.1
theorem put_of {κ : Type} [DecidableEq κ] {k : Kx} {F : Hp} (e : κ → D) (he : ∀ a b, eqv (e a) (e b) = decide (a = b)) {v : V} {d : D} (r : Rep k F v d) {kvs : List (κ × V)} {vs : List D} (x : κ) (h : Reps k F (kvs.map (·.2)) vs) :
    (putK kvs x v).map (fun p => e p.1) = (putV (kvs.map fun p => e p.1) vs (e x) d).1 ∧ Reps k F ((putK kvs x v).map (·.2)) (putV (kvs.map fun p => e p.1) vs (e x) d).2 := by
  have ha : ((kvs.map fun p => e p.1).any fun k => eqv k (e x)) = kvs.any fun kv => decide (kv.1 = x) := by
    rw [List.any_map]
    congr 1
    funext p
    exact he p.1 x
  unfold putK putV
  rw [ha]
  split
  · refine ⟨?_, reps_zip e he r kvs vs x h⟩
    rw [List.map_map]
    apply List.map_congr_left
    intro p _
    simp only [Function.comp]
    split <;> rfl
  · refine ⟨by simp, ?_⟩
    rw [List.map_append]
    exact h.snoc r
theorem putV_len (ks vs : List D) (key v : D) (h : ks.length = vs.length) : (putV ks vs key v).1.length = (putV ks vs key v).2.length := by
  unfold putV
  split <;> simp [h]
/-- o[i] = v, by data -/
def setD (c i v : D) : Option D := match c with
  | .lst xs => match i with
    | .int k => (ixN xs.length k).map fun j => .lst (xs.set j v)
    | _ => none
  | .dct t ks vs => if isKey t i = true ∧ ks.length < lim then some (.dct t (putV ks vs i v).1 (putV ks vs i v).2) else none
  | _ => none
def rSetAll : V → V → V → Hp → (Hp → Prop) → Prop := fun o i v H Q => rSetL o i v H Q ∨ ∃ a H', o = .ref a ∧ DPut H a i v H' ∧ Q H'
theorem set_all {X : Cx} (hu : X.A.units + 65 < cLine) : PSet X rSetAll := by
  intro pins s σ H o i v ov iv u Q I ro ri rv h
  rcases h with h | ⟨a, H', rfl, g, q⟩
  · exact set_list pins s σ H o i v ov iv u Q I ro ri rv h
  · cases ro
    exact d_setItem (by omega) I g ri rv fun s' I' => ⟨H', I', q⟩
/-- a thing and its data, changed -/
theorem set_of {k : Kx} {F H : Hp} (e : Same F H) {p : Addr} {o : HO} {c i v z : D} {iv vv : V} (hp : H p = some o) (r : ObjRep k F o c) (ri : RepT k F H iv i) (rv : Rep k F vv v) (h : setD c i v = some z) {Q : Hp → Prop}
    (q : ∀ o', Mut (some o') → ObjRep k F o' z → Q (upd H p o')) : rSetAll (.ref p) iv vv H Q := by
  unfold setD at h
  split at h
  · rename_i xs
    split at h
    · rename_i j
      obtain ⟨n, h1, h2⟩ := Option.map_eq_some_iff.mp h
      subst h2
      cases o <;> try exact r.elim
      rename_i ys
      have r' : Reps k F ys xs := r
      refine .inl ⟨p, ys, j, n, rfl, repT_int ri, hp, by rw [r'.length]; exact h1, q _ trivial (r'.set rv n)⟩
    · cases h
  · rename_i t ks vs
    obtain ⟨⟨hk, hl⟩, e1⟩ := if_some h
    subst e1
    cases t with
    | false =>
      cases o <;> try exact r.elim
      rename_i kvs
      obtain ⟨r1, r2⟩ := r
      subst r1
      have : ∃ x : Key, i = keyD x ∧ iv = kV x := by
        cases i <;> simp [isKey] at hk
        · exact ⟨.inl _, rfl, repT_int ri⟩
        · exact ⟨.inr _, rfl, repT_str ri⟩
      obtain ⟨x, q1, q2⟩ := this
      subst q1 q2
      have hl' : kvs.length < sizeLine := lim_lt (by simpa using hl)
      obtain ⟨g1, g2⟩ := put_of keyD eqv_keyD rv x r2
      exact .inr ⟨p, _, rfl, DPut.k hp hl', q _ trivial ⟨g1, g2⟩⟩
    | true =>
      cases o <;> try exact r.elim
      rename_i kvs
      obtain ⟨r1, r2⟩ := r
      subst r1
      cases i <;> simp [isKey] at hk
      rename_i ds
      obtain ⟨x, hx⟩ := Option.isSome_iff_exists.mp hk
      have q1 := toKeys_keyD hx
      subst q1
      obtain ⟨b, ws, f1, f2, f3, f4⟩ := repT_tup e ri
      have q2 := reps_keyD f4
      subst q2
      subst f1
      have hl' : kvs.length < sizeLine := lim_lt (by simpa using hl)
      obtain ⟨g1, g2⟩ := put_of keysD eqv_keysD rv x r2
      exact .inr ⟨p, _, rfl, DPut.t hp f3 hl', q _ trivial ⟨g1, g2⟩⟩
  · cases h

/-! ### targets with subscripts -/
inductive TgS where
  | nm (i : Nat) | sub (a b : ME) | tp (ts : List TgS)
mutual
def gS (k : Kx) : TgS → TG
  | .nm i => gName i
  | .sub a b => gSub (tE k a) (tE k b) rSetAll
  | .tp ts => gTup k.K ts.length (gSs k ts)
def gSs (k : Kx) : List TgS → TGs
  | [] => gNil
  | t :: ts => gCons (gS k t) (gSs k ts)
end
def put1 (a b : ME) (x : PV) (ρ : Env) (μ : Sto) : Option (Env × Sto) := (a ρ μ).bind fun p => (b ρ p.2).bind fun q => match p.1, x with
  | .cell i, .dat v => (derefT q.2 (.cell i)).bind fun c => (derefT q.2 q.1).bind fun y => (setD c y v).map fun c' => (ρ, q.2.set i (.flat c'))
  | .row i j, .dat v => match q.2[i]? with
    | some (Cell.dol t ks rows) => (rows[j]?).bind fun r => (derefT q.2 q.1).bind fun y => (setD (.lst r) y v).bind fun c' => match c' with
      | .lst r2 => some (ρ, q.2.set i (.dol t ks (rows.set j r2)))
      | _ => none
    | _ => none
  | _, _ => none
mutual
def store1 : TgS → PV → Env → Sto → Option (Env × Sto)
  | .nm i, x, ρ, μ => some (ρ.set i (some x), μ)
  | .sub a b, x, ρ, μ => put1 a b x ρ μ
  | .tp ts, .dat (.tup ds), ρ, μ => stores ts (ds.map .dat) ρ μ
  | .tp _, _, _, _ => none
def stores : List TgS → List PV → Env → Sto → Option (Env × Sto)
  | [], [], ρ, μ => some (ρ, μ)
  | t :: ts, x :: xs, ρ, μ => (store1 t x ρ μ).bind fun p => stores ts xs p.1 p.2
  | _, _, _, _ => none
end
theorem stores_len : ∀ {ts : List TgS} {xs : List PV} {ρ : Env} {μ : Sto} {r : Env × Sto}, stores ts xs ρ μ = some r → ts.length = xs.length
  | [], [], _, _, _, _ => rfl
  | [], _ :: _, _, _, _, h => by simp [stores] at h
  | _ :: _, [], _, _, _, h => by simp [stores] at h
  | t :: ts, x :: xs, ρ, μ, r, h => by
    simp only [stores, Option.bind_eq_some_iff] at h
    obtain ⟨p, _, h2⟩ := h
    rw [List.length_cons, List.length_cons, stores_len h2]
theorem put_ok {k : Kx} {G : Gh} {H : Hp} (w : WG k G H) {a b : ME} {x : PV} {v : V} {σ : L2.St} {ρ ρ' : Env} {μ' : Sto} {Q : L2.St → Hp → Prop} (e : EnvOk k G σ ρ) (r : VRep k G v x) (h : put1 a b x ρ G.μ = some (ρ', μ'))
    (q : ∀ σ' H' G', Ext G G' → G'.μ = μ' → WG k G' H' → EnvOk k G' σ' ρ' → Q σ' H') : gSub (tE k a) (tE k b) rSetAll v σ H Q := by
  simp only [put1, Option.bind_eq_some_iff] at h
  obtain ⟨⟨p1, μ1⟩, h1, ⟨p2, μ2⟩, h2, h3⟩ := h
  refine ⟨G, ρ, w, e, p1, μ1, h1, fun v1 H1 G1 e1 g1 w1 r1 => ?_⟩
  refine ⟨G1, ρ, w1, e.ext e1, p2, μ2, by rw [g1]; exact h2, fun v2 H2 G2 e2 g2 w2 r2 => ?_⟩
  split at h3
  · rename_i i d hp
    have hp : p1 = .cell i := hp
    subst hp
    simp only [Option.bind_eq_some_iff, Option.map_eq_some_iff] at h3
    obtain ⟨c, h4, y, h5, c', h6, h7⟩ := h3
    cases h7
    obtain ⟨pa, ha, ev⟩ := r1.ext e2
    subst ev
    have hc : G2.μ[i]? = some (Cell.flat c) := by rw [g2]; exact cell_at h4
    obtain ⟨f0, o, ho, mu, ro⟩ := w2.live ha hc
    refine set_of w2.fr ho ro (w2.derefT r2 (by rw [g2]; exact h5)) (Rep.mono (e1.f.trans e2.f) _ r) h6 fun o' mu' ro' => ?_
    refine q σ _ _ ((e1.trans e2).trans (WG.extM G2 (G2.μ.set i (.flat c')))) (by show G2.μ.set i _ = _; rw [g2]) (w2.write ha hc mu' ro') (((e.ext e1).ext e2).ext (WG.extM G2 _))
  · rename_i i j d hp
    have hp : p1 = .row i j := hp
    subst hp
    split at h3
    · rename_i t ks rows hc0
      have hc : μ2[i]? = some (Cell.dol t ks rows) := hc0
      simp only [Option.bind_eq_some_iff] at h3
      obtain ⟨r0, h4, y, h5, c', h6, h7⟩ := h3
      split at h7
      · rename_i rw2
        cases h7
        obtain ⟨pa, qa, ha, hw, ev⟩ := r1.ext e2
        subst ev
        have hc2 : G2.μ[i]? = some (Cell.dol t ks rows) := by rw [g2]; exact hc
        obtain ⟨hF, xs, k5, k6⟩ := w2.row ha hw hc2 h4
        refine set_of (c := .lst r0) w2.fr k5 k6 (w2.derefT r2 (by rw [g2]; exact h5)) (Rep.mono (e1.f.trans e2.f) _ r) h6 fun o' mu' ro' => ?_
        cases o' <;> try exact ro'.elim
        exact q σ _ _ ((e1.trans e2).trans (WG.extM G2 (G2.μ.set i (.dol t ks (rows.set j _))))) (by show G2.μ.set i _ = _; rw [g2]) (w2.writeRow ha hw hc2 h4 ro') (((e.ext e1).ext e2).ext (WG.extM G2 _))
      · cases h7
    · cases h3
  · cases h3
mutual
theorem gS_of {k : Kx} : ∀ (t : TgS) {G : Gh} {H : Hp} {x : PV} {v : V} {σ : L2.St} {ρ ρ' : Env} {μ' : Sto} {Q : L2.St → Hp → Prop}, WG k G H → EnvOk k G σ ρ → VRep k G v x → store1 t x ρ G.μ = some (ρ', μ') →
    (∀ σ' H' G', Ext G G' → G'.μ = μ' → WG k G' H' → EnvOk k G' σ' ρ' → Q σ' H') → gS k t v σ H Q
  | .nm i, G, H, x, v, σ, ρ, ρ', μ', Q, w, e, r, h, q => by
    simp only [store1, Option.some.injEq, Prod.mk.injEq] at h
    obtain ⟨h1, h2⟩ := h
    subst h1 h2
    exact q _ H G (Ext.refl G) rfl w (env_set e i r)
  | .sub a b, G, H, x, v, σ, ρ, ρ', μ', Q, w, e, r, h, q => put_ok w e r (by simpa only [store1] using h) q
  | .tp ts, G, H, .dat (.tup ds), v, σ, ρ, ρ', μ', Q, w, e, r, h, q => by
    simp only [store1] at h
    obtain ⟨a, xs, e1, g1, g2⟩ := (show ∃ a xs, _ from r)
    have hl := stores_len h
    refine ⟨a, xs, e1, SqT.of (w.fr _ _ g1), by rw [g2.length, hl, List.length_map], ?_⟩
    exact gSs_of ts w e (reps_dats g2) h q
  | .tp ts, G, H, .kon d, v, σ, ρ, ρ', μ', Q, w, e, r, h, q => by simp [store1] at h
  | .tp ts, G, H, .cell _, v, σ, ρ, ρ', μ', Q, w, e, r, h, q => by simp [store1] at h
  | .tp ts, G, H, .dat .non, v, σ, ρ, ρ', μ', Q, w, e, r, h, q => by simp [store1] at h
  | .tp ts, G, H, .dat (.bl _), v, σ, ρ, ρ', μ', Q, w, e, r, h, q => by simp [store1] at h
  | .tp ts, G, H, .dat (.int _), v, σ, ρ, ρ', μ', Q, w, e, r, h, q => by simp [store1] at h
  | .tp ts, G, H, .dat (.str _), v, σ, ρ, ρ', μ', Q, w, e, r, h, q => by simp [store1] at h
  | .tp ts, G, H, .dat (.lst _), v, σ, ρ, ρ', μ', Q, w, e, r, h, q => by simp [store1] at h
  | .tp ts, G, H, .dat (.dct _ _ _), v, σ, ρ, ρ', μ', Q, w, e, r, h, q => by simp [store1] at h
  | .tp ts, G, H, .dat (.ins _ _ _), v, σ, ρ, ρ', μ', Q, w, e, r, h, q => by simp [store1] at h
theorem gSs_of {k : Kx} : ∀ (ts : List TgS) {G : Gh} {H : Hp} {xs : List PV} {us : List V} {σ : L2.St} {ρ ρ' : Env} {μ' : Sto} {Q : L2.St → Hp → Prop}, WG k G H → EnvOk k G σ ρ → VReps k G us xs → stores ts xs ρ G.μ = some (ρ', μ') →
    (∀ σ' H' G', Ext G G' → G'.μ = μ' → WG k G' H' → EnvOk k G' σ' ρ' → Q σ' H') → gSs k ts us σ H Q
  | [], G, H, [], [], σ, ρ, ρ', μ', Q, w, e, r, h, q => by
    simp only [stores, Option.some.injEq, Prod.mk.injEq] at h
    obtain ⟨h1, h2⟩ := h
    subst h1 h2
    exact ⟨rfl, q σ H G (Ext.refl G) rfl w e⟩
  | [], G, H, [], _ :: _, σ, ρ, ρ', μ', Q, w, e, r, h, q => r.elim
  | [], G, H, _ :: _, _, σ, ρ, ρ', μ', Q, w, e, r, h, q => by simp [stores] at h
  | _ :: _, G, H, [], _, σ, ρ, ρ', μ', Q, w, e, r, h, q => by simp [stores] at h
  | _ :: _, G, H, _ :: _, [], σ, ρ, ρ', μ', Q, w, e, r, h, q => r.elim
  | t :: ts, G, H, x :: xs, u :: us, σ, ρ, ρ', μ', Q, w, e, r, h, q => by
    simp only [stores, Option.bind_eq_some_iff] at h
    obtain ⟨⟨ρ1, μ1⟩, h1, h2⟩ := h
    refine ⟨u, us, rfl, gS_of t w e r.1 h1 fun σ1 H1 G1 e1 g1 w1 n1 => ?_⟩
    exact gSs_of ts w1 n1 (r.2.ext e1) (by rw [g1]; exact h2) fun σ2 H2 G2 e2 g2 w2 n2 => q σ2 H2 G2 (e1.trans e2) g2 w2 n2
end
section
variable {X : Cx} {pos : Pos} {st : Stmt} {sts : List Stmt} {a b c e : Expr} {es : List Expr} {m n l : ME} {ms mt mu : MS} {tm : MT} {am : MA}
theorem hx_nm (i : Nat) {x : Str} (hN : X.N.Nodup) (hi : X.N[i]? = some x) (hx : Loc X.env.scope x) (hf : X.fn x = true ∨ X.env.scope.names.lookup x = some .local := by first | exact .inl rfl | exact .inr rfl | assumption) : PG X (.Name x pos) (gS (kx X) (.nm i)) := pg_name hN hi hx hf
theorem hx_sub (hu : X.A.units + 65 < cLine) (ha : EX X a m) (hb : EX X b n) (h : ∀ v, assign (.Subscript a b pos) X.env v = (do
      let ov ← holding [v] (eval a X.env)
      let iv ← holding [v, ov] (eval b X.env)
      standAt pos
      holding [v, ov, iv] (setItem ov iv v)
      release [v, ov, iv] []) := by intro _; rfl) : PG X (.Subscript a b pos) (gS (kx X) (.sub m n)) := pg_sub ha hb (set_all hu) h
theorem hx_nil : PGs X [] (gSs (kx X) []) := pgs_nil
theorem hx_cons {t : TgS} {ts : List TgS} (h1 : PG X e (gS (kx X) t)) (h2 : PGs X es (gSs (kx X) ts)) (hs : (assignEach (e :: es) X.env).map (·.2) = assign e X.env :: (assignEach es X.env).map (·.2) := by rfl) : PGs X (e :: es) (gSs (kx X) (t :: ts)) := pgs_cons h1 h2 hs
theorem hx_tp {k : Nat} {ts : List TgS} (hc : X.calm = true) (h : PGs X es (gSs (kx X) ts)) (hn : (assignEach es X.env).length = ts.length := by rfl) (hst : (assignEach es X.env).findIdx? (·.1) = none := by rfl) : PG X (.Tuple es k pos) (gS (kx X) (.tp ts)) := pg_tup hc h hn hst
def sAsgS (m : ME) (t : TgS) : MS := fun ρ μ => (m ρ μ).bind fun p => (store1 t p.1 ρ p.2).map fun r => (.nx, r.1, r.2)
theorem sx_asgS {tg : Expr} {t : TgS} (he : EX X e m) (hg : PG X tg (gS (kx X) t)) (hs : swapsWithSole [tg] e pos.line X.env = pure false := by rfl) (hw : swappedStores [tg] e X.env = pure none := by rfl)
    (h1 : (assignEach [tg] X.env).map (·.2) = [assign tg X.env] := by rfl) : SX X (.Assign [tg] e pos) (sAsgS m t) := (ps_asg he hg hs hw h1).mono fun D σ H h => by
  obtain ⟨G, ρ, w, e, o, ρ', μ', hm, q⟩ := h
  simp only [sAsgS, Option.bind_eq_some_iff, Option.map_eq_some_iff] at hm
  obtain ⟨⟨p, μ1⟩, h1, ⟨ρ1, μ2⟩, h2, h3⟩ := hm
  cases h3
  refine ⟨G, ρ, w, e, p, μ1, h1, fun v H1 G1 e1 g1 w1 r1 => ?_⟩
  exact gS_of t w1 (e.ext e1) r1 (by rw [g1]; exact h2) fun σ' H' G' e' g' w' n' => q σ' H' G' (e1.trans e') g' w' n'

/-! ### methods that change a thing -/
/-- by data: the thing, the arguments; the answer, the thing behind -/
def MuR (k : Kx) (f : D → List D → Option (D × D)) (r : V → List V → Hp → VK → Prop) : Prop := ∀ F H l o c xs ds rr c' (Q : VK), Same F H → H l = some o → ObjRep k F o c → Reps k F xs ds → f c ds = some (rr, c') →
  (∀ v o', Mut (some o') → ObjRep k F o' c' → Rep k F v rr → Q v (upd H l o')) → r (.ref l) xs H Q
def isLst : D → Bool
  | .lst _ => true
  | _ => false
def mMut (f : D → List D → Option (D × D)) (a : ME) (am : MA) : ME := fun ρ μ => (a ρ μ).bind fun p => match p.1 with
  | .cell i => (derefT p.2 (.cell i)).bind fun c0 => if isLst c0 = true then (am ρ p.2).bind fun q => (derefT q.2 (.cell i)).bind fun c => (dats q.1).bind fun ds => (f c ds).map fun r => (.dat r.1, q.2.set i (.flat r.2)) else none
  | _ => none
theorem mut_of {k : Kx} {f : D → List D → Option (D × D)} {r : V → List V → Hp → VK → Prop} {σ : L2.St} {H : Hp} {Q : VK} (hr : MuR k f r) (h : tE k (mMut f m am) σ H Q) : tBM k.K "list" r (tE k m) (tA k am) σ H Q := by
  obtain ⟨G, ρ, w, e, x, μ', hm, q⟩ := h
  simp only [mMut, Option.bind_eq_some_iff] at hm
  obtain ⟨⟨p, μ1⟩, h1, h2⟩ := hm
  refine ⟨G, ρ, w, e, p, μ1, h1, fun v1 H1 G1 e1 g1 w1 r1 => ?_⟩
  split at h2
  · rename_i i hp
    simp only at hp
    subst hp
    simp only [Option.bind_eq_some_iff] at h2
    obtain ⟨c0, h3, h4⟩ := h2
    split at h4
    · rename_i hc0
      simp only [Option.bind_eq_some_iff, Option.map_eq_some_iff] at h4
      obtain ⟨⟨ps, μ2⟩, h5, c, h6, ds, h7, ⟨rr, c'⟩, h8, h9⟩ := h4
      cases h9
      obtain ⟨pa, ha, ev⟩ := r1
      subst ev
      have hc1 : G1.μ[i]? = some (Cell.flat c0) := by rw [g1]; exact cell_at h3
      obtain ⟨_, o1, ho1, _, ro1⟩ := w1.live ha hc1
      refine ⟨?_, G1, ρ, w1, e.ext e1, ps, μ2, by rw [g1]; exact h5, fun vs H2 G2 e2 g2 w2 r2 => ?_⟩
      · cases c0 <;> simp [isLst] at hc0
        cases o1 <;> try exact ro1.elim
        exact .inl ⟨rfl, _, SqL.of ho1⟩
      · have ha2 := e2.at ha
        have hc2 : G2.μ[i]? = some (Cell.flat c) := by rw [g2]; exact cell_at h6
        obtain ⟨_, o2, ho2, mu2, ro2⟩ := w2.live ha2 hc2
        refine hr G2.F H2 pa o2 c vs ds rr c' Q w2.fr ho2 ro2 (dats_reps h7 r2) h8 fun v o' mu' ro' rv => ?_
        exact q v _ _ ((e1.trans e2).trans (WG.extM G2 (G2.μ.set i (.flat c')))) (by show G2.μ.set i _ = _; rw [g2]) (w2.write ha2 hc2 mu' ro') rv
    · cases h4
  · cases h2
def appD : D → List D → Option (D × D)
  | .lst xs, [y] => if xs.length < lim then some (.non, .lst (xs ++ [y])) else none
  | _, _ => none
theorem r_app {k : Kx} : MuR k appD rAppend := by
  intro F H l o c xs ds rr c' Q e ho ro rs hf q
  unfold appD at hf
  split at hf
  · obtain ⟨hl, e1⟩ := if_some hf
    cases e1
    cases o <;> try exact ro.elim
    rename_i zs
    have ro' : Reps k F zs _ := ro
    match xs, rs with
    | [y], rs => exact ⟨l, zs, y, rfl, rfl, ho, by rw [ro'.length]; exact lim_lt hl, q _ _ trivial (ro'.snoc rs.1) rfl⟩
    | [], rs => exact rs.elim
    | _ :: _ :: _, rs => exact rs.2.elim
  · cases hf
theorem ex_append {apos : Pos} (ha : EX X a m) (hb : AX X [b] am) (hbase : attributeBase a "append" X.env (eval a X.env) = eval a X.env := by rfl)
    (hfew : ((backTo pos (starEach [b] X.env)).all (fun x => !x.1) && (backToKw pos (keywordEach [] X.env)).all (fun x => x.1.isSome)
      && decide ([b].length + ([] : List Keyword).length + (if ([] : List Keyword).isEmpty then 0 else 1) < 30)) = true := by rfl)
    (hline : (apos.endLine == pos.line) = true := by rfl) (hp : PlainA X pos b [] := by exact ⟨rfl, rfl⟩) : EX X (.Call (.Attribute a "append" apos) [b] [] pos) (mMut appD m am) :=
  (pe_bm PySem.F.plainAttrs_list PySem.F.slot_list_append PySem.F.type_list_append mt_append ha hb hbase hfew hline hp.1 hp.2).mono fun _ _ _ h => mut_of r_app h
/-- .. without arguments -/
def mMut0 (f : D → List D → Option (D × D)) (a : ME) : ME := mMut f a aNil
theorem mut0_of {k : Kx} {f : D → List D → Option (D × D)} {r : V → List V → Hp → VK → Prop} {σ : L2.St} {H : Hp} {Q : VK} (hr : MuR k f r) (h : tE k (mMut f m aNil) σ H Q) : tBM0 k.K "list" r (tE k m) σ H Q := by
  have z := mut_of hr h
  refine (fun (z : tBM k.K "list" r (tE k m) (tA k aNil) σ H Q) => ?_) z
  obtain ⟨G, ρ, w, e, x, μ', hm, q⟩ := h
  simp only [mMut, Option.bind_eq_some_iff] at hm
  obtain ⟨⟨p, μ1⟩, h1, h2⟩ := hm
  refine ⟨G, ρ, w, e, p, μ1, h1, fun v1 H1 G1 e1 g1 w1 r1 => ?_⟩
  split at h2
  · rename_i i hp
    simp only at hp
    subst hp
    simp only [Option.bind_eq_some_iff] at h2
    obtain ⟨c0, h3, h4⟩ := h2
    split at h4
    · rename_i hc0
      simp only [aNil, Option.bind_eq_some_iff, Option.map_eq_some_iff] at h4
      obtain ⟨⟨ps, μ2⟩, h5, c, h6, ds, h7, ⟨rr, c'⟩, h8, h9⟩ := h4
      cases h9
      cases h5
      cases h7
      obtain ⟨pa, ha, ev⟩ := r1
      subst ev
      have hc1 : G1.μ[i]? = some (Cell.flat c0) := by rw [g1]; exact cell_at h3
      have hc2 : G1.μ[i]? = some (Cell.flat c) := by rw [g1]; exact cell_at h6
      obtain ⟨_, o1, ho1, mu1, ro1⟩ := w1.live ha hc1
      have ec : c0 = c := by
        rw [hc1] at hc2
        injection hc2 with z
        injection z
      subst ec
      refine ⟨?_, ?_⟩
      · cases c0 <;> simp [isLst] at hc0
        cases o1 <;> try exact ro1.elim
        exact .inl ⟨rfl, _, SqL.of ho1⟩
      · refine hr G1.F H1 pa o1 c0 [] [] rr c' Q w1.fr ho1 ro1 trivial h8 fun v o' mu' ro' rv => ?_
        exact q v _ _ (e1.trans (WG.extM G1 (G1.μ.set i (.flat c')))) (by show G1.μ.set i _ = _; rw [g1]) (w1.write ha hc1 mu' ro') rv
    · cases h4
  · cases h2
def popD : D → List D → Option (D × D)
  | .lst xs, [] => xs[xs.length - 1]?.map fun y => (y, .lst xs.dropLast)
  | _, _ => none
theorem r_pop {k : Kx} : MuR k popD rPop := by
  intro F H l o c xs ds rr c' Q e ho ro rs hf q
  unfold popD at hf
  split at hf
  · obtain ⟨y, h1, h2⟩ := Option.map_eq_some_iff.mp hf
    cases h2
    cases o <;> try exact ro.elim
    rename_i zs
    have ro' : Reps k F zs _ := ro
    obtain ⟨v, g1, g2⟩ := ro'.get h1
    match xs, rs with
    | [], rs => exact ⟨l, zs, v, rfl, rfl, ho, by rw [ro'.length]; exact g1, q _ _ trivial ro'.dropLast g2⟩
    | _ :: _, rs => exact rs.elim
  · cases hf
theorem ex_pop {apos : Pos} (ha : EX X a m) (hbase : attributeBase a "pop" X.env (eval a X.env) = eval a X.env := by rfl) (hline : (apos.endLine == pos.line) = true := by rfl) : EX X (.Call (.Attribute a "pop" apos) [] [] pos) (mMut popD m aNil) :=
  (pe_bm0 PySem.F.plainAttrs_list PySem.F.slot_list_pop PySem.F.type_list_pop mt_pop ha hbase hline).mono fun _ _ _ h => mut0_of r_pop h
/-! ### methods of lists that read -/
def mBM (f : D → List D → Option D) (a : ME) (am : MA) : ME := fun ρ μ => (a ρ μ).bind fun p => (deref p.2 p.1).bind fun c0 => if isLst c0 = true then (am ρ p.2).bind fun q => (deref q.2 p.1).bind fun c => (derefs q.2 q.1).bind fun ds => (f c ds).map fun r => (.dat r, q.2) else none
def BmR (k : Kx) (f : D → List D → Option D) (r : V → List V → Hp → VK → Prop) : Prop := ∀ G H x xs c ds z (Q : VK), WG k G H → RepH k G.F H x c → RepHs k G.F H xs ds → f c ds = some z → KD k G Q z → r x xs H Q
theorem bm_of {k : Kx} {f : D → List D → Option D} {r : V → List V → Hp → VK → Prop} {σ : L2.St} {H : Hp} {Q : VK} (hr : BmR k f r) (h : tE k (mBM f m am) σ H Q) : tBM k.K "list" r (tE k m) (tA k am) σ H Q := by
  obtain ⟨G, ρ, w, e, x, μ', hm, q⟩ := h
  simp only [mBM, Option.bind_eq_some_iff] at hm
  obtain ⟨⟨p, μ1⟩, h1, c0, h2, h3⟩ := hm
  refine ⟨G, ρ, w, e, p, μ1, h1, fun v1 H1 G1 e1 g1 w1 r1 => ?_⟩
  split at h3
  · rename_i hc0
    simp only [Option.bind_eq_some_iff, Option.map_eq_some_iff] at h3
    obtain ⟨⟨ps, μ2⟩, h5, c, h6, ds, h7, z, h8, h9⟩ := h3
    cases h9
    refine ⟨?_, G1, ρ, w1, e.ext e1, ps, _, by rw [g1]; exact h5, fun vs H2 G2 e2 g2 w2 r2 => ?_⟩
    · cases c0 <;> simp [isLst] at hc0
      obtain ⟨a, xs, e1, g1, g2⟩ := repH_lst w1.fr (w1.deref r1 (by rw [g1]; exact h2))
      rw [e1]
      exact .inl ⟨rfl, _, g1⟩
    · exact hr G2 H2 v1 vs c ds z Q w2 (w2.deref (r1.ext e2) (by rw [g2]; exact h6)) (w2.derefs r2 (by rw [g2]; exact h7)) h8 fun v H' G' e' g' w' r' => q v H' G' ((e1.trans e2).trans e') (by rw [g', g2]) w' r'
  · cases h3
def countD : D → List D → Option D
  | .lst ys, [x] => if x.okN 59 = true ∧ okNs ys 59 = true then some (.int (ys.countP fun y => eqv y x)) else none
  | _, _ => none
def rCountD (K : PySem.W.Frag) : V → List V → Hp → VK → Prop := fun x xs H Q => ∃ (a : Addr) (y : V) (d : PyData) (ds : List PyData), x = V.ref a ∧ xs = [y] ∧ Dp K H (V.ref a) (.list ds) ∧ Dp K H y d ∧ SeqAt.shaped (.list ds) = true ∧ SeqAt.shaped d = true ∧ Q (.int ((ds.countP fun z => PyData.eqv z d : Nat) : Int)) H
theorem countP_map' {α β : Type} (f : α → β) (p : β → Bool) : ∀ l : List α, (l.map f).countP p = l.countP fun x => p (f x)
  | [] => rfl
  | a :: l => by simp [List.countP_cons, countP_map' f p l]
theorem mt_countD (hu : X.A.units + 65 < cLine) : MtR X "list.count" (rCountD X.K) := by
  intro pins s σ H x xs v us Q I rx rxs h
  obtain ⟨a, y, d, ds, rfl, rfl, hl, hy, sl, sd, q⟩ := h
  cases rx
  obtain ⟨uy, rfl, ry⟩ := rxs.one
  obtain ⟨bs, r1⟩ := Dp.reads I d y uy hy ry
  have hxs : PyData.canLayAll0 ds = true := SeqAt.canLay_of_shaped sl
  have hroom : X.A.units + 1 + min (PyData.depthAll ds) d.depth < cLine := room_in sd hu
  cases hl with
  | lst hs ha =>
    obtain ⟨its, rv, ⟨⟨cls, dd, data, sls⟩, n, ho, hc, hdn, hdt⟩, hlen⟩ := I.list hs
    simp only at hc hdt
    subst hc hdt
    obtain ⟨as, h4⟩ := Dp.readsAll I ds _ its ha rv
    have hmap : its.map (SeqAt.readOf s.heap) = ds := SeqAt.readsAll_map ds its as hxs h4
    refine call_meets PySem.F.slot_list_count ⟨_, ho, rfl⟩ PySem.F.entry_list_count (PySem.F.args_list_count_2 _ _)
      (SeqAt.list_countAt a its.toArray n dd sls uy (fun u => PyData.eqv (SeqAt.readOf s.heap u) d)) ⟨ho, SeqAt.items_eqAt (vs := its.toArray) (show ReadsAll s.heap its.toArray.toList ds as from h4) r1 hxs (SeqAt.canLay_of_shaped sd) hroom, ?_⟩
    refine ⟨.int _, H, I.tok _, ⟨s.toks, ?_⟩, q⟩
    rw [← hmap, countP_map']
theorem count_py (ys : List D) (x : D) (n : Nat) (h : okNs ys n = true) (h' : x.okN n = true) : (pys ys).countP (fun z => PyData.eqv z x.py) = ys.countP fun y => eqv y x := by
  induction ys with
  | nil => rfl
  | cons y ys ih =>
    simp only [okNs, Bool.and_eq_true] at h
    simp only [pys, List.countP_cons, eqv_py y x n n h.1 h', ih h.2]
theorem r_count {k : Kx} : BmR k countD (rCountD k.K) := by
  intro G H x xs c ds z Q w rx rs hf q
  unfold countD at hf
  split at hf
  · rename_i ys y
    obtain ⟨⟨h1, h2⟩, e⟩ := if_some hf
    subst e
    match xs, rs with
    | [u], rs =>
      obtain ⟨a, zs, e1, g1, g2⟩ := repH_lst w.fr rx
      refine ⟨a, u, y.py, pys ys, e1, rfl, .lst g1 (dps_of w.fr ys 59 h2 g2), dp_ofH w.fr h1 rs.1, shaped_lst (okNs_up ys 59 60 h2 (by omega)), shaped_of (okN_up y 59 60 h1 (by omega)), ?_⟩
      rw [count_py ys y 59 h2 h1]
      exact q.val w rfl
    | [], rs => exact rs.elim
    | _ :: _ :: _, rs => exact rs.2.elim
  · cases hf
theorem ex_count (hu : X.A.units + 65 < cLine) {apos : Pos} (ha : EX X a m) (hb : AX X [b] am) (hbase : attributeBase a "count" X.env (eval a X.env) = eval a X.env := by rfl)
    (hfew : ((backTo pos (starEach [b] X.env)).all (fun x => !x.1) && (backToKw pos (keywordEach [] X.env)).all (fun x => x.1.isSome)
      && decide ([b].length + ([] : List Keyword).length + (if ([] : List Keyword).isEmpty then 0 else 1) < 30)) = true := by rfl)
    (hline : (apos.endLine == pos.line) = true := by rfl) (hp : PlainA X pos b [] := by exact ⟨rfl, rfl⟩) : EX X (.Call (.Attribute a "count" apos) [b] [] pos) (mBM countD m am) :=
  (pe_bm PySem.F.plainAttrs_list PySem.F.slot_list_count PySem.F.type_list_count (mt_countD hu) ha hb hbase hfew hline hp.1 hp.2).mono fun _ _ _ h => bm_of r_count h
end
end PL

set_option Elab.async false
set_option linter.all false
set_option maxRecDepth 100000
namespace PL
open PySem PySem.Spec PyProof.Rows L2

/-! ### while -/
def whileF (t : MT) (b : MS) : Nat → Env → Sto → Option (Out × Env × Sto)
  | 0, _, _ => none
  | n + 1, ρ, μ => (t ρ μ).bind fun p => if p.1 = true then (b ρ p.2).bind fun r => match r.1 with
      | .nx => whileF t b n r.2.1 r.2.2
      | .ct => whileF t b n r.2.1 r.2.2
      | .bk => some (.nx, r.2.1, r.2.2)
      | .rt v => some (.rt v, r.2.1, r.2.2)
    else some (.nx, ρ, p.2)
def sWhile (n : Nat) (t : MT) (b : MS) : MS := fun ρ μ => whileF t b n ρ μ
section
variable {X : Cx} {pos : Pos} {st : Stmt} {sts : List Stmt} {a b c e : Expr} {es : List Expr} {m l : ME} {ms mt mu : MS} {tm : MT} {am : MA}
theorem while_of {k : Kx} {n : Nat} {D : Ends} {σ : L2.St} {H : Hp} (h : tS k (sWhile n tm ms) D σ H) : tWhile (tT k tm) (tS k ms) D σ H := by
  obtain ⟨G0, ρ0, w0, e0, o, ρ', μ', hm, q0⟩ := h
  refine ⟨fun n σ H => ∃ G ρ, Ext G0 G ∧ WG k G H ∧ EnvOk k G σ ρ ∧ whileF tm ms n ρ G.μ = some (o, ρ', μ'), ⟨n, G0, ρ0, Ext.refl _, w0, e0, hm⟩, ?_⟩
  rintro n σ H ⟨G, ρ, eG, w, e, hm⟩
  cases n with
  | zero => cases hm
  | succ n =>
    simp only [whileF, Option.bind_eq_some_iff] at hm
    obtain ⟨⟨bb, μ1⟩, h1, h2⟩ := hm
    refine ⟨G, ρ, w, e, bb, μ1, h1, fun H1 G1 e1 g1 w1 => ?_⟩
    cases bb with
    | false =>
      rw [if_neg Bool.false_ne_true] at h2 ⊢
      cases h2
      exact q0 σ H1 G1 (eG.trans e1) g1 w1 (e.ext e1)
    | true =>
      rw [if_pos rfl] at h2 ⊢
      simp only [Option.bind_eq_some_iff] at h2
      obtain ⟨⟨o2, ρ2, μ2⟩, h3, h4⟩ := h2
      refine ⟨fun σ' H' => ∃ G' ρ', Ext G0 G' ∧ WG k G' H' ∧ EnvOk k G' σ' ρ' ∧ G'.μ = μ2 ∧ ρ' = ρ2 ∧ (o2 = .nx ∨ o2 = .ct), ?_, ?_⟩
      · rintro σ' H' ⟨G', ρ3, a1, a2, a3, a4, a5, a6⟩
        subst a5
        refine ⟨n, Nat.lt_succ_self n, G', ρ3, a1, a2, a3, ?_⟩
        rw [a4]
        rcases a6 with a6 | a6 <;> (subst a6; exact h4)
      · refine ⟨G1, ρ, w1, e.ext e1, o2, ρ2, μ2, by rw [g1]; exact h3, fun σ' H' G' e' g' w' n' => ?_⟩
        cases o2 with
        | nx => exact ⟨G', ρ2, (eG.trans e1).trans e', w', n', g', rfl, .inl rfl⟩
        | ct => exact ⟨G', ρ2, (eG.trans e1).trans e', w', n', g', rfl, .inr rfl⟩
        | bk => cases h4; exact q0 σ' H' G' ((eG.trans e1).trans e') g' w' n'
        | rt v => cases h4; exact q0 σ' H' G' ((eG.trans e1).trans e') g' w' n'
theorem sx_while (n : Nat) (hc : TX X c tm) (hb : BX X sts ms) (hp : PassesOwn (model X.prog X.w) X.A X.env X.xe := by exact PassesOwn.never) : SX X (.While c sts [] pos) (sWhile n tm ms) := (ps_while hp hc hb).mono fun D σ H h => while_of h
end

/-! ### what a for walks -/
/-- the items; the cell that must stay as it is -/
abbrev MI := Env → Sto → Option (List D × Option (Nat × Cell) × Sto)
def keepP (oc : Option (Nat × Cell)) (μ : Sto) : Prop := match oc with
  | none => True
  | some c => μ[c.1]? = some c.2
/-- the ghost has grown, whatever stands apart -/
structure ExtF (G G' : Gh) : Prop where
  f : Same G.F G'.F
  o : ∀ q x, x.1 ∈ G.ι → G.W q = some x → G'.W q = some x
  i : ∃ t, G'.ι = G.ι ++ t
theorem Ext.w {G G' : Gh} (e : Ext G G') : ExtF G G' := ⟨e.f, e.o, e.i⟩
theorem ExtF.refl (G : Gh) : ExtF G G := ⟨Same.refl _, fun _ _ _ h => h, [], by simp⟩
theorem ExtF.trans {G G1 G2 : Gh} (a : ExtF G G1) (b : ExtF G1 G2) : ExtF G G2 := by
  obtain ⟨t, ht⟩ := a.i
  obtain ⟨u, hu⟩ := b.i
  exact ⟨a.f.trans b.f, fun q x m h => b.o q x (by rw [ht]; exact List.mem_append_left _ m) (a.o q x m h), t ++ u, by rw [hu, ht, List.append_assoc]⟩
theorem ExtF.at {G G' : Gh} (a : ExtF G G') {i : Nat} {p : Addr} (h : G.ι[i]? = some p) : G'.ι[i]? = some p := by
  obtain ⟨t, ht⟩ := a.i
  rw [ht, List.getElem?_append_left (List.getElem?_eq_some_iff.mp h).1]
  exact h
theorem VRep.extF {k : Kx} {G G' : Gh} (a : ExtF G G') {v : V} : ∀ {x : PV}, VRep k G v x → VRep k G' v x
  | .dat d, h => Rep.mono a.f d h
  | .cell i, ⟨p, h, e⟩ => ⟨p, a.at h, e⟩
  | .kon d, h => RepC.mono a.f h
  | .row i j, ⟨p, q, h1, h2, h3⟩ => ⟨p, q, a.at h1, a.o _ _ (List.mem_of_getElem? h1) h2, h3⟩
theorem EnvOk.extF {k : Kx} {G G' : Gh} (a : ExtF G G') {σ : L2.St} {ρ : Env} (h : EnvOk k G σ ρ) : EnvOk k G' σ ρ := ⟨h.len, fun i x e =>
  let ⟨v, h1, h2⟩ := h.at' i x e
  ⟨v, h1, h2.extF a⟩⟩
structure Serves (k : Kx) (G0 : Gh) (J : It) (items : List D) (oc : Option (Nat × Cell)) : Prop where
  go : ∀ {i G H}, i < items.length → ExtF G0 G → WG k G H → keepP oc G.μ → J.go i H
  yl : ∀ {i G H x H'}, i < items.length → ExtF G0 G → WG k G H → keepP oc G.μ → J.yld i H x H' → ∃ G' d, Ext G G' ∧ G'.μ = G.μ ∧ WG k G' H' ∧ items[i]? = some d ∧ Rep k G'.F x d
  st : ∀ {G H}, ExtF G0 G → WG k G H → keepP oc G.μ → J.stop items.length H
def tI (k : Kx) (mi : MI) : TI := fun σ H R => ∃ G ρ, WG k G H ∧ EnvOk k G σ ρ ∧ ∃ items oc μ', mi ρ G.μ = some (items, oc, μ') ∧
  ∀ J H' G', Ext G G' → G'.μ = μ' → WG k G' H' → keepP oc G'.μ → Serves k G' J items oc → R J H'
abbrev IX (X : Cx) (tg e : Expr) (mi : MI) : Prop := PI X tg e (tI (kx X) mi)
theorem _root_.L2.PI.mono {X : Cx} {tg e : Expr} {t t' : TI} (h : PI X tg e t) (w : ∀ σ H R, t' σ H R → t σ H R) : PI X tg e t' := ⟨fun pins s σ H R I hw => h.run pins s σ H R I (w _ _ _ hw)⟩

/-! ### for -/
open Classical in
noncomputable def forL (oc : Option (Nat × Cell)) (t : Tg) (b : MS) : List D → Env → Sto → Option (Out × Env × Sto)
  | [], ρ, μ => some (.nx, ρ, μ)
  | d :: ds, ρ, μ => (bind1 t (.dat d) ρ).bind fun ρ1 => (b ρ1 μ).bind fun r => match r.1 with
    | .nx => if keepP oc r.2.2 then forL oc t b ds r.2.1 r.2.2 else none
    | .ct => if keepP oc r.2.2 then forL oc t b ds r.2.1 r.2.2 else none
    | .bk => some (.nx, r.2.1, r.2.2)
    | .rt v => some (.rt v, r.2.1, r.2.2)
noncomputable def sFor (mi : MI) (t : Tg) (b : MS) : MS := fun ρ μ => (mi ρ μ).bind fun p => forL p.2.1 t b p.1 ρ p.2.2
section
variable {X : Cx} {pos : Pos} {st : Stmt} {sts : List Stmt} {a b c e iter tg : Expr} {es : List Expr} {m l : ME} {ms mt mu : MS} {tm : MT} {am : MA} {mi : MI} {t : Tg}
theorem for_of {k : Kx} {D : Ends} {σ : L2.St} {H : Hp} (h : tS k (sFor mi t ms) D σ H) : tFor (tI k mi) (gT k.K t) (tS k ms) D σ H := by
  obtain ⟨G0, ρ0, w0, e0, o, ρ', μ', hm, q0⟩ := h
  simp only [sFor, Option.bind_eq_some_iff] at hm
  obtain ⟨⟨items, oc, μ1⟩, h1, h2⟩ := hm
  refine ⟨G0, ρ0, w0, e0, items, oc, μ1, h1, fun J H1 G1 e1 g1 w1 k1 S => ?_⟩
  refine ⟨fun i m σ H => m = items.length - i ∧ i ≤ items.length ∧ ∃ G ρ, Ext G1 G ∧ WG k G H ∧ EnvOk k G σ ρ ∧ keepP oc G.μ ∧ forL oc t ms (items.drop i) ρ G.μ = some (o, ρ', μ'),
    ⟨items.length, by omega, by omega, G1, ρ0, Ext.refl _, w1, e0.ext e1, k1, by rw [g1]; exact h2⟩, ?_⟩
  rintro i n σ H ⟨hn, hi, G, ρ, eG, w, e, kp, hm⟩
  by_cases hlt : i < items.length
  · rw [List.drop_eq_getElem_cons hlt] at hm
    simp only [forL, Option.bind_eq_some_iff] at hm
    obtain ⟨ρ2, h3, ⟨o3, ρ3, μ3⟩, h4, h5⟩ := hm
    refine .inr ⟨S.go hlt eG.w w kp, fun σ' H' => ∃ G' ρ'', Ext G1 G' ∧ WG k G' H' ∧ EnvOk k G' σ' ρ'' ∧ G'.μ = μ3 ∧ ρ'' = ρ3 ∧ (o3 = .nx ∨ o3 = .ct), ?_, fun x H' y => ?_⟩
    · rintro σ' H' ⟨G', ρ4, a1, a2, a3, a4, a5, a6⟩
      subst a5
      have hk : keepP oc G'.μ ∧ forL oc t ms (items.drop (i + 1)) ρ4 G'.μ = some (o, ρ', μ') := by
        rw [a4]
        rcases a6 with a6 | a6
        all_goals
          subst a6
          simp only at h5
          split at h5
          · rename_i hk
            exact ⟨hk, h5⟩
          · cases h5
      exact ⟨items.length - (i + 1), by omega, rfl, by omega, G', ρ4, a1, a2, a3, hk.1, hk.2⟩
    · obtain ⟨G2, d, e2, g2, w2, hd, r2⟩ := S.yl hlt eG.w w kp y
      rw [List.getElem?_eq_getElem hlt] at hd
      cases hd
      refine gT_of w2 t.slots t (e.ext e2) (x := .dat items[i]) r2 h3 (fun j hj => hj) fun σ2 n2 _ => ?_
      refine ⟨G2, ρ2, w2, n2, o3, ρ3, μ3, by rw [g2]; exact h4, fun σ' H' G' e' g' w' n' => ?_⟩
      cases o3 with
      | nx => exact ⟨G', ρ3, (eG.trans e2).trans e', w', n', g', rfl, .inl rfl⟩
      | ct => exact ⟨G', ρ3, (eG.trans e2).trans e', w', n', g', rfl, .inr rfl⟩
      | bk => cases h5; exact q0 σ' H' G' (((e1.trans eG).trans e2).trans e') g' w' n'
      | rt v => cases h5; exact q0 σ' H' G' (((e1.trans eG).trans e2).trans e') g' w' n'
  · have hi' : i = items.length := by omega
    subst hi'
    rw [List.drop_length] at hm
    cases hm
    exact .inl ⟨S.st eG.w w kp, q0 σ H G (e1.trans eG) rfl w e⟩
theorem sx_for (hc : X.calm = true) (hi : IX X tg iter mi) (hg : PG X tg (gT X.K t)) (hb : BX X sts ms) (hs : ∀ x, foldedSetIterable iter X.env x = pure x := by intro _; rfl) (hp : PassesOwn (model X.prog X.w) X.A X.env X.xe := by exact PassesOwn.never) :
    SX X (.For tg iter sts [] pos) (sFor mi t ms) := (ps_for hp hc hi hg hb hs).mono fun D σ H h => for_of h

/-! ### rows: lists and tuples -/
def SqA (t : Bool) (K : PySem.W.Frag) (H : Hp) (a : Addr) (xs : List V) : Prop := match t with
  | true => SqT K H a xs
  | false => SqL K H a xs
def isSeq : D → Option (List D)
  | .lst ds => some ds
  | .tup ds => some ds
  | _ => none
/-- a row that stands: its items as long as the ghost grows and its cell stays -/
structure Stands (k : Kx) (G0 : Gh) (t : Bool) (a : Addr) (n : Nat) (items : List D) (oc : Option (Nat × Cell)) : Prop where
  sq : ∀ {G H}, ExtF G0 G → WG k G H → keepP oc G.μ → ∃ xs, SqA t k.K H a xs ∧ Reps k G.F xs items
def ocOf (μ : Sto) : PV → Option (Nat × Cell)
  | .cell i => match μ[i]? with
    | some (Cell.flat d) => some (i, .flat d)
    | _ => none
  | .row i _ => (μ[i]?).map fun c => (i, c)
  | _ => none
theorem keep_oc (μ : Sto) (x : PV) : keepP (ocOf μ x) μ := by
  unfold ocOf
  cases x with
  | dat d => trivial
  | kon d => trivial
  | cell i =>
    simp only
    split
    · rename_i d h; exact h
    · trivial
  | row i j =>
    simp only
    cases h : μ[i]? with
    | none => trivial
    | some c => exact h
theorem stands_of {k : Kx} {G : Gh} {H : Hp} (w : WG k G H) {v : V} {x : PV} {d : D} {ds : List D} (r : VRep k G v x) (h : deref G.μ x = some d) (hs : isSeq d = some ds) : ∃ a t, v = .ref a ∧ Stands k G t a ds.length ds (ocOf G.μ x) := by
  have key : ∀ {G' : Gh} {H' : Hp}, ExtF G G' → WG k G' H' → keepP (ocOf G.μ x) G'.μ → RepH k G'.F H' v d := by
    intro G' H' e' w' k'
    have r' := r.extF e'
    refine w'.deref r' ?_
    cases x with
    | dat d' => exact h
    | kon d' => exact h
    | cell i =>
      have h2 : G.μ[i]? = some (Cell.flat d) := cell_at h
      simp only [ocOf, h2, keepP] at k'
      simp only [deref, k']
    | row i j =>
      obtain ⟨t, ks, rows, r, g1, g2, g3⟩ := rowAt_at (show rowAt G.μ i j = some d from h)
      simp only [ocOf, g1, keepP, Option.map_some] at k'
      show rowAt G'.μ i j = some d
      unfold rowAt
      rw [k']
      simp only [g2, g3, Option.map_some]
  cases d <;> simp only [isSeq] at hs <;> try cases hs
  · obtain ⟨a, xs, e1, g1, g2⟩ := repH_tup w.fr (w.deref r h)
    subst e1
    refine ⟨a, true, rfl, ⟨fun {G' H'} e' w' k' => ?_⟩⟩
    obtain ⟨b, ys, e2, g3, g4⟩ := repH_tup w'.fr (key e' w' k')
    cases e2
    exact ⟨ys, g3, g4⟩
  · obtain ⟨a, xs, e1, g1, g2⟩ := repH_lst w.fr (w.deref r h)
    subst e1
    refine ⟨a, false, rfl, ⟨fun {G' H'} e' w' k' => ?_⟩⟩
    obtain ⟨b, ys, e2, g3, g4⟩ := repH_lst w'.fr (key e' w' k')
    cases e2
    exact ⟨ys, g3, g4⟩
theorem Stands.ext {k : Kx} {G G' : Gh} {t : Bool} {a : Addr} {n : Nat} {items : List D} {oc : Option (Nat × Cell)} (s : Stands k G t a n items oc) (e : Ext G G') : Stands k G' t a n items oc := ⟨fun e' w' k' => s.sq (e.w.trans e') w' k'⟩
/-- for x in e, e a list or a tuple -/
def iSeq (m : ME) : MI := fun ρ μ => (m ρ μ).bind fun p => (deref p.2 p.1).bind fun d => (isSeq d).map fun ds => (ds, ocOf p.2 p.1, p.2)
def iSeqT (K : PySem.W.Frag) (tl : TE) : TI := fun σ H R => tl σ H fun x H1 => ∃ a, x = .ref a ∧ ((∃ xs, SqL K H1 a xs) ∧ R (Itl K a) H1 ∨ (∃ xs, SqT K H1 a xs) ∧ R (Itt K a) H1)
theorem pi_seq {tl : TE} (hl : PE X a tl) : PI X tg a (iSeqT X.K tl) := by
  refine ⟨fun pins s σ H R I h => ?_⟩
  refine thn (hl.run pins s σ H _ I h) fun v s1 ⟨x, H1, I1, r1, q1⟩ => ?_
  obtain ⟨p, e, q⟩ := q1
  subst e
  cases r1
  rcases q with ⟨⟨xs, hq⟩, q⟩ | ⟨⟨xs, hq⟩, q⟩
  · obtain ⟨its, rv, pp, hz⟩ := I1.list hq
    refine wpAny_pyIter_list pp.isList ?_
    refine ⟨s1.heap.objs.size, [s1.heap.objs.size], _, _, H1, rfl, I1.kept (t' := s1.toks) fun b o e => Heap.get?_push_of_some _ e, turn_list p _, ⟨_, Heap.get?_push_size _ rfl, rfl, rfl⟩, fun b hb => ?_, q⟩
    have e : b = s1.heap.objs.size := by simpa using hb
    subst e
    exact I1.fpOk (Nat.le_refl _) (I1.hok.fresh (Nat.le_refl _))
  · obtain ⟨its, rv, pp, hz⟩ := I1.tuple hq
    refine wpAny_pyIter_tuple (show s1.heap.IsTuple p its.toArray from pp) ?_
    refine ⟨s1.heap.objs.size, [s1.heap.objs.size], _, _, H1, rfl, I1.kept (t' := s1.toks) fun b o e => Heap.get?_push_of_some _ e, turn_tuple p _, ⟨_, Heap.get?_push_size _ rfl, rfl, rfl⟩, fun b hb => ?_, q⟩
    have e : b = s1.heap.objs.size := by simpa using hb
    subst e
    exact I1.fpOk (Nat.le_refl _) (I1.hok.fresh (Nat.le_refl _))
def ItA (t : Bool) (K : PySem.W.Frag) (a : Addr) : It := match t with
  | true => Itt K a
  | false => Itl K a
theorem serves_seq {k : Kx} {G : Gh} {t : Bool} {a : Addr} {n : Nat} {items : List D} {oc : Option (Nat × Cell)} (s : Stands k G t a n items oc) : Serves k G (ItA t k.K a) items oc where
  go := fun {i G' H} hi e w kp => by
    obtain ⟨xs, g1, g2⟩ := s.sq e w kp
    obtain ⟨v, g3, _⟩ := g2.get (List.getElem?_eq_getElem hi)
    cases t <;> exact ⟨xs, v, g1, g3⟩
  yl := fun {i G' H x H'} hi e w kp y => by
    obtain ⟨xs, g1, g2⟩ := s.sq e w kp
    obtain ⟨v, g3, g4⟩ := g2.get (List.getElem?_eq_getElem hi)
    cases t
    all_goals
      obtain ⟨y1, y2⟩ := y
      subst y1
      have := y2 xs g1
      rw [g3] at this
      cases this
      exact ⟨G', _, Ext.refl _, rfl, w, List.getElem?_eq_getElem hi, g4⟩
  st := fun {G' H} e w kp => by
    obtain ⟨xs, g1, g2⟩ := s.sq e w kp
    cases t <;> exact ⟨xs, g1, by rw [g2.length]; exact Nat.le_refl _⟩
theorem ix_seq' (ha : EX X a m) : IX X tg a (iSeq m) := (pi_seq ha).mono fun σ H R h => by
  obtain ⟨G, ρ, w, e, items, oc, μ', hm, q⟩ := h
  simp only [iSeq, Option.bind_eq_some_iff, Option.map_eq_some_iff] at hm
  obtain ⟨⟨p, μ1⟩, h1, d, h2, ds, h3, h4⟩ := hm
  cases h4
  refine ⟨G, ρ, w, e, p, _, h1, fun v H1 G1 e1 g1 w1 r1 => ?_⟩
  subst g1
  obtain ⟨a, t, ev, s⟩ := stands_of w1 r1 h2 h3
  subst ev
  have z := q (ItA t X.K a) H1 G1 e1 rfl w1 (keep_oc _ _) (serves_seq s)
  obtain ⟨xs, g1, _⟩ := s.sq (ExtF.refl _) w1 (keep_oc _ _)
  refine ⟨a, rfl, ?_⟩
  cases t
  · exact .inl ⟨⟨xs, g1⟩, z⟩
  · exact .inr ⟨⟨xs, g1⟩, z⟩

/-! ### range -/
def rangeD (lo : Int) (n : Nat) : List D := (List.range n).map fun i : Nat => .int (lo + i)
def iRange1 (am : MA) : MI := fun ρ μ => (am ρ μ).bind fun p => match p.1 with
  | [.dat (.int j)] => if -(2 ^ 62) ≤ j ∧ j < 2 ^ 62 then some (rangeD 0 j.toNat, none, p.2) else none
  | _ => none
def iRange2 (am : MA) : MI := fun ρ μ => (am ρ μ).bind fun p => match p.1 with
  | [.dat (.int i), .dat (.int j)] => if -(2 ^ 62) ≤ i ∧ i < 2 ^ 62 ∧ -(2 ^ 62) ≤ j ∧ j < 2 ^ 62 then some (rangeD i (j - i).toNat, none, p.2) else none
  | _ => none
theorem serves_range {k : Kx} {G : Gh} {lo : Int} {n : Nat} : Serves k G (Itr lo n) (rangeD lo n) none where
  go := fun hi _ _ _ => by simpa [rangeD, Itr] using hi
  yl := fun {i G' H x H'} hi e w kp y => by
    obtain ⟨y1, y2⟩ := y
    subst y1 y2
    have hi' : i < n := by simpa [rangeD] using hi
    exact ⟨G', .int (lo + i), Ext.refl _, rfl, w, by simp [rangeD, hi'], rfl⟩
  st := fun _ _ _ => by simp [rangeD, Itr]
theorem ix_range1 {p : Pos} (hg : Gl X "range") (hm : X.mg "range" = none) (ha : AX X [a] am) (hs : starEach [a] X.env = [(false, eval a X.env)] := by rfl) : IX X tg (.Call (.Name "range" p) [a] [] pos) (iRange1 am) := (pi_range1 hg hm ha hs).mono fun σ H R h => by
  obtain ⟨G, ρ, w, e, items, oc, μ', hm, q⟩ := h
  simp only [iRange1, Option.bind_eq_some_iff] at hm
  obtain ⟨⟨ps, μ1⟩, h1, h2⟩ := hm
  refine ⟨G, ρ, w, e, ps, μ1, h1, fun vs H1 G1 e1 g1 w1 r1 => ?_⟩
  split at h2
  · rename_i j hj
    have hj : ps = [.dat (.int j)] := hj
    subst hj
    obtain ⟨⟨b1, b2⟩, h3⟩ := if_some h2
    cases h3
    match vs, r1 with
    | [v], r1 =>
      have ev : v = .int j := r1.1
      subst ev
      exact ⟨j, rfl, b1, b2, q _ H1 G1 e1 g1 w1 trivial serves_range⟩
    | [], r1 => exact r1.elim
    | _ :: _ :: _, r1 => exact r1.2.elim
  · cases h2
theorem ix_range2 {p : Pos} (hg : Gl X "range") (hm : X.mg "range" = none) (ha : AX X [a, b] am) (hs : starEach [a, b] X.env = [(false, eval a X.env), (false, eval b X.env)] := by rfl) (hs2 : starEach [b] X.env = [(false, eval b X.env)] := by rfl) :
    IX X tg (.Call (.Name "range" p) [a, b] [] pos) (iRange2 am) := (pi_range2 hg hm ha hs hs2).mono fun σ H R h => by
  obtain ⟨G, ρ, w, e, items, oc, μ', hm, q⟩ := h
  simp only [iRange2, Option.bind_eq_some_iff] at hm
  obtain ⟨⟨ps, μ1⟩, h1, h2⟩ := hm
  refine ⟨G, ρ, w, e, ps, μ1, h1, fun vs H1 G1 e1 g1 w1 r1 => ?_⟩
  split at h2
  · rename_i i j hj
    have hj : ps = [.dat (.int i), .dat (.int j)] := hj
    subst hj
    obtain ⟨bb, h3⟩ := if_some h2
    cases h3
    match vs, r1 with
    | [v, u], r1 =>
      have ev : v = .int i := r1.1
      have eu : u = .int j := r1.2.1
      subst ev eu
      exact ⟨i, j, rfl, bb, q _ H1 G1 e1 g1 w1 trivial serves_range⟩
    | [], r1 => exact r1.elim
    | [_], r1 => exact r1.2.elim
    | _ :: _ :: _ :: _, r1 => exact r1.2.2.elim
  · cases h2
/-- range(a, b, c), c above 0 -/
def rangeC (lo c : Int) (n : Nat) : List D := (List.range n).map fun i : Nat => .int (lo + (i : Nat) * c)
def stepsC (i j c : Int) : Nat := (Builtin.Range.rangeSize i j c).toNat
def iRange3 (am : MA) : MI := fun ρ μ => (am ρ μ).bind fun p => match p.1 with
  | [.dat (.int i), .dat (.int j), .dat (.int c)] => if c ≠ 0 ∧ c.natAbs < 1073741824 ∧ Builtin.Range.small i j c = true ∧ Builtin.Range.rangeSize i j c = ((stepsC i j c : Nat) : Int) then some (rangeC i c (stepsC i j c), none, p.2) else none
  | _ => none
theorem serves_rangeC {k : Kx} {G : Gh} {lo c : Int} {n : Nat} : Serves k G (Itc lo c n) (rangeC lo c n) none where
  go := fun hi _ _ _ => by simpa [rangeC, Itc] using hi
  yl := fun {i G' H x H'} hi e w kp y => by
    obtain ⟨y1, y2⟩ := y
    subst y1 y2
    have hi' : i < n := by simpa [rangeC] using hi
    exact ⟨G', .int (lo + (i : Nat) * c), Ext.refl _, rfl, w, by simp [rangeC, hi'], rfl⟩
  st := fun _ _ _ => by simp [rangeC, Itc]
end
end PL

set_option Elab.async false
set_option linter.all false
set_option maxRecDepth 100000
namespace PL
open PySem PySem.Spec PyProof.Rows L2

section
variable {X : Cx} {pos : Pos} {st : Stmt} {sts : List Stmt} {a b c e iter tg : Expr} {es : List Expr} {m l : ME} {ms mt mu : MS} {tm : MT} {am : MA} {mi : MI} {t : Tg}
theorem ix_range3 {p : Pos} (hg : Gl X "range") (hm : X.mg "range" = none) (ha : AX X [a, b, c] am) (hp : PlainA X pos a [b, c] := by exact ⟨rfl, rfl⟩) :
    IX X tg (.Call (.Name "range" p) [a, b, c] [] pos) (iRange3 am) := (pi_range3 hg hm ha hp.1 hp.2).mono fun σ H R h => by
  obtain ⟨G, ρ, w, e, items, oc, μ', hm, q⟩ := h
  simp only [iRange3, Option.bind_eq_some_iff] at hm
  obtain ⟨⟨ps, μ1⟩, h1, h2⟩ := hm
  refine ⟨G, ρ, w, e, ps, μ1, h1, fun vs H1 G1 e1 g1 w1 r1 => ?_⟩
  split at h2
  · rename_i i j c hj
    have hj : ps = [.dat (.int i), .dat (.int j), .dat (.int c)] := hj
    subst hj
    obtain ⟨bb, h3⟩ := if_some h2
    cases h3
    match vs, r1 with
    | [v, u, z], r1 =>
      have ev : v = .int i := r1.1
      have eu : u = .int j := r1.2.1
      have ez : z = .int c := r1.2.2.1
      subst ev eu ez
      exact ⟨i, j, c, _, rfl, bb, q _ H1 G1 e1 g1 w1 trivial serves_rangeC⟩
    | [], r1 => exact r1.elim
    | [_], r1 => exact r1.2.elim
    | [_, _], r1 => exact r1.2.2.elim
    | _ :: _ :: _ :: _ :: _, r1 => exact r1.2.2.2.elim
  · cases h2
end

/-! ### rows at the heap's level -/
def IsItA (t : Bool) (h : Heap) (it a : Addr) (i : Nat) : Prop := match t with
  | true => h.IsTupleIter it a i
  | false => h.IsListIter it a i
def IsSqA (t : Bool) (h : Heap) (a : Addr) (items : Array Value) : Prop := match t with
  | true => h.IsTuple a items
  | false => h.IsList a items
theorem sq_its {X : Cx} {pins : List (Addr × Obj)} {σ : L2.St} {H : Hp} {s : Shared} {t : Bool} {a : Addr} {xs : List V} (I : L2.Inv X pins σ H s) (h : SqA t X.K H a xs) : ∃ its : List Value, Vals xs its ∧ IsSqA t s.heap a its.toArray ∧ a < s.heap.objs.size := by
  cases t
  · obtain ⟨its, r, p, _⟩ := I.list h
    exact ⟨its, r, p.isList, p.lt⟩
  · obtain ⟨its, r, p, _⟩ := I.tuple h
    exact ⟨its, r, p, p.lt⟩
theorem sq_inj {X : Cx} {pins : List (Addr × Obj)} {σ : L2.St} {H : Hp} {s : Shared} {t : Bool} {a : Addr} {xs ys : List V} (I : L2.Inv X pins σ H s) (h : SqA t X.K H a xs) (h' : SqA t X.K H a ys) : xs = ys := by
  cases t
  · exact I.list_inj h h'
  · exact I.tuple_inj h h'
theorem drawsA {prog : Program} {w : World} {A : Around} (hh : A.handled = none) (t : Bool) (it a : Addr) (hne : a ≠ it) (items : Array Value) :
    Draws prog w A it [it, a] items.size (fun i v => items[i]? = some v) (fun i h => IsItA t h it a i ∧ IsSqA t h a items) := by
  cases t
  · exact .list hh it a hne items
  · exact .tuple hh it a hne items
def objA (t : Bool) (a : Addr) : Obj := match t with
  | true => { cls := .type "tuple_iterator", data := .fields #[.ref a, .int 0 0] }
  | false => { cls := .type "list_iterator", data := .fields #[.ref a, .int 0 0] }
theorem beginsA (t : Bool) (a : Addr) (items : Array Value) : Begins (.ref a) (objA t a) fun h => IsSqA t h a items := by
  cases t
  · exact begins_list a items
  · exact begins_tuple a items
theorem itA_new {t : Bool} {h : Heap} {it a : Addr} (e : h.get? it = some (objA t a)) : IsItA t h it a 0 := by
  cases t
  · exact ⟨_, e, rfl, rfl⟩
  · exact ⟨_, e, rfl, rfl⟩
theorem itA_obj {t : Bool} {h : Heap} {it a : Addr} {i : Nat} (x : IsItA t h it a i) : ∃ o, h.get? it = some o ∧ ∀ v, o.data ≠ .cell v := by
  cases t
  · obtain ⟨o, ho, _, hd⟩ := x
    exact ⟨o, ho, fun v q => by rw [hd] at q; cases q⟩
  · obtain ⟨o, ho, _, hd⟩ := x
    exact ⟨o, ho, fun v q => by rw [hd] at q; cases q⟩
theorem itA_at {t : Bool} {h h' : Heap} {it a : Addr} {i : Nat} (x : IsItA t h it a i) (k : ∀ o, h.get? it = some o → h'.get? it = some o) : IsItA t h' it a i := by
  cases t
  · exact Heap.IsListIter.at x k
  · exact Heap.IsTupleIter.at x k

/-! ### enumerate -/
def IteA (t : Bool) (K : PySem.W.Frag) (a : Addr) : It :=
  ⟨fun i H => ∃ (xs : List V) (x : V), SqA t K H a xs ∧ xs[i]? = some x, fun i H v H' => ∃ T x, v = .ref T ∧ H T = none ∧ H' = upd H T (.tup [.int (i : Nat), x]) ∧ ∀ xs, SqA t K H a xs → xs[i]? = some x, fun i H => ∃ xs : List V, SqA t K H a xs ∧ xs.length ≤ i⟩
theorem turn_enumA {P : Program} {w : World} {K : PySem.W.Frag} {elts : List Expr} {kk : Nat} {tpos : Pos} (t : Bool) (a e it : Addr) (hai : a ≠ it) (hae : a ≠ e) (hne : e ≠ it) :
    Turn P w K (.Tuple elts kk tpos) (IteA t K a) [e, it] e (fun i h => (∃ old, IsEnum h e it ((i : Nat) : Int) old) ∧ IsItA t h it a i) where
  mem := by simp
  obj := fun i h st b hb => by
    obtain ⟨⟨old, he⟩, hi⟩ := st
    have e' : b = e ∨ b = it := by simpa using hb
    rcases e' with z | z
    · rw [z]; exact ⟨_, he, fun v q => nomatch q⟩
    · rw [z]; exact itA_obj hi
  keep := fun i h h' st k => let ⟨⟨old, he⟩, hi⟩ := st; ⟨⟨old, k e (by simp) _ he⟩, itA_at hi fun o q => k it (by simp) o q⟩
  item := by
    intro X hP hw hK hc i pins s σ H E I hf st hg
    subst hP hw hK
    obtain ⟨⟨old, he⟩, hit⟩ := st
    obtain ⟨xs, x, hq, hx⟩ := hg
    obtain ⟨its, rv, p, _⟩ := sq_its I hq
    obtain ⟨u, hu, ru⟩ := rv.get hx
    have hel : e < s.heap.objs.size := Heap.lt_size he
    have hil : it < s.heap.objs.size := by obtain ⟨o, q, _⟩ := itA_obj hit; exact Heap.lt_size q
    have D := drawsA (prog := X.prog) (w := X.w) (A := X.A.in1) (show X.A.in1.handled = none from I.ok.hd hc) t it a hai its.toArray
    have hlt : i < its.toArray.size := by
      have := (List.getElem?_eq_some_iff.mp hu).1
      simpa using this
    refine wpAny_pyNext_enum_itemD D he ⟨hit, p⟩ hlt hne (by simp; exact ⟨hne, fun z => hae z.symm⟩) fun x1 h' tk hx1 ho st' hT hsz hk => ?_
    have ex1 : x1 = u := by
      have : its.toArray[i]? = some x1 := hx1
      have h2 : its[i]? = some x1 := by simpa using this
      rw [hu] at h2
      exact (Option.some.inj h2).symm
    subst ex1
    refine ⟨_, rfl, wpAny_letOwnedTupleGo_enum (s := { s with heap := h', toks := tk + 1 }) ho fun h'' he' sb => ?_⟩
    have hT2 : h''.get? s.heap.objs.size = some { cls := .type "tuple", data := .seq #[.int i tk, x1] } := (sb.2 _ (Nat.ne_of_gt hel)).trans hT
    have new : ObjOk X.prog X.w (upd H s.heap.objs.size (.tup [.int (i : Nat), x])) h'' s.heap.objs.size (.tup [.int (i : Nat), x]) :=
      ⟨by show 2 ≤ sizeLine; decide, [.int i tk, x1], .cons ⟨_, rfl⟩ (.cons ru .nil), ⟨_, hT2, rfl, _, rfl⟩⟩
    have I1 : L2.Inv X pins σ (upd H s.heap.objs.size (.tup [.int (i : Nat), x])) { s with heap := h'', toks := tk + 1 } :=
      I.turnedNew (ch := [e, it]) (fun b ob hb q => (sb.2 b (fun z => hb (by simp [z]))).trans (hk b ob (fun z => hb (by simp [z])) (fun z => hb (by simp [z])) q)) hf (Nat.le_refl _) new
    refine ⟨.ref s.heap.objs.size, _, I1, rfl, ⟨_, x, rfl, I.hok.fresh (Nat.le_refl _), rfl, fun ys hy => by rw [sq_inj I hy hq]; exact hx⟩, ⟨⟨x1, ?_⟩, itA_at st'.1 fun o q => (sb.2 it (Ne.symm hne)).trans q⟩, fun b hb => ?_⟩
    · have e1 : ((i + 1 : Nat) : Int) = (i : Int) + 1 := by omega
      rw [e1]; exact he'
    · have hb' : b < s.heap.objs.size := by
        have e' : b = e ∨ b = it := by simpa using hb
        rcases e' with z | z
        · rw [z]; exact hel
        · rw [z]; exact hil
      rw [upd_ne (Nat.ne_of_lt hb')]
      exact (hf b hb).1
  done := by
    intro X hP hw hK hc i pins s σ H E I hf st hg
    subst hP hw hK
    obtain ⟨⟨old, he⟩, hit⟩ := st
    obtain ⟨xs, hq, hx⟩ := hg
    obtain ⟨its, rv, p, _⟩ := sq_its I hq
    have hl := rv.length
    obtain ⟨f0, f1, f2, f3, f4, f5⟩ := hf it (by simp)
    have hh : X.A.handled = none := I.ok.hd hc
    cases t
    · exact wpAny_pyNext_enum_end hh he hit p (by simp; omega) fun h' eb => ⟨rfl, I.turned (t' := s.toks) (fun b o hb q => eb b o hb q) f0 f1 f3 f4 f5⟩
    · have hlen : its.toArray[i]? = none := by simp; omega
      have hT : s.TypeIs (.ref e) "enumerate" := ⟨_, he, rfl⟩
      unfold pyNext
      refine wpAny_bind (wpAny_attempt (wpAny_callSpecial?_slot (name := Str.ofString "__next__") hT F.slot_enumerate_next
        (wpAny_call_entry F.slot_enumerate_next hT F.entry_enumerate_next ?_ (F.args_enumerate_next_1 _))))
      show wpAny _ _ (field (.ref e) 2 >>= _) _ _ _
      refine wpAny_bind (wpAny_field he rfl (x := .ref it) rfl ?_)
      refine wpAny_bind (wpAny_nextOf_tuple_end (show X.A.in1.handled = none from hh) hit p hlen fun h' x he' hx' => ?_)
      obtain ⟨o, ho, hc⟩ := hx'
      refine wpAny_bind (wpAny_isInstance (T := "StopIteration") (b := true) ⟨o, ho, hc⟩ isSubtype_stop ?_)
      exact wpAny_pure ⟨rfl, I.turned (t' := s.toks) (fun b o hb q => he' b o hb q) f0 f1 f3 f4 f5⟩
  self := fun A i s Q E st h => let ⟨⟨_, he⟩, _⟩ := st; wpAny_pyIter_enum he h

def enumF : Nat → List D → List D
  | _, [] => []
  | n, d :: ds => .tup [.int (n : Nat), d] :: enumF (n + 1) ds
theorem enumF_get : ∀ (ds : List D) (n i : Nat) (d : D), ds[i]? = some d → (enumF n ds)[i]? = some (.tup [.int ((n + i : Nat) : Int), d])
  | [], _, i, d, h => by simp at h
  | a :: ds, n, 0, d, h => by
    have : a = d := Option.some.inj h
    subst this
    rfl
  | a :: ds, n, i + 1, d, h => by
    have := enumF_get ds (n + 1) i d h
    rw [show n + 1 + i = n + (i + 1) by omega] at this
    exact this
theorem enumF_len : ∀ (n : Nat) (ds : List D), (enumF n ds).length = ds.length
  | _, [] => rfl
  | n, d :: ds => by simp [enumF, enumF_len (n + 1) ds]
theorem serves_enum {k : Kx} {G : Gh} {t : Bool} {a : Addr} {n : Nat} {items : List D} {oc : Option (Nat × Cell)} (s : Stands k G t a n items oc) : Serves k G (IteA t k.K a) (enumF 0 items) oc where
  go := fun {i G' H} hi e w kp => by
    rw [enumF_len] at hi
    obtain ⟨xs, g1, g2⟩ := s.sq e w kp
    obtain ⟨v, g3, _⟩ := g2.get (List.getElem?_eq_getElem hi)
    exact ⟨xs, v, g1, g3⟩
  yl := fun {i G' H x H'} hi e w kp y => by
    rw [enumF_len] at hi
    obtain ⟨xs, g1, g2⟩ := s.sq e w kp
    obtain ⟨v, g3, g4⟩ := g2.get (List.getElem?_eq_getElem hi)
    obtain ⟨T, z, e1, hT, e2, y2⟩ := y
    have := y2 xs g1
    rw [g3] at this
    cases this
    subst e1 e2
    refine ⟨_, _, w.extF hT, rfl, w.new hT, enumF_get items 0 i _ (List.getElem?_eq_getElem hi), ?_⟩
    exact ⟨T, _, rfl, upd_same, by rw [Nat.zero_add]; exact ⟨rfl, Rep.mono (same_new (w.fnew hT)) _ g4, trivial⟩⟩
  st := fun {G' H} e w kp => by
    rw [enumF_len]
    obtain ⟨xs, g1, g2⟩ := s.sq e w kp
    exact ⟨xs, g1, by rw [g2.length]; exact Nat.le_refl _⟩
def iEnum (am : MA) : MI := fun ρ μ => (am ρ μ).bind fun p => match p.1 with
  | [x] => (deref p.2 x).bind fun d => (isSeq d).map fun ds => (enumF 0 ds, ocOf p.2 x, p.2)
  | _ => none
def iEnumT (K : PySem.W.Frag) (ta : TA) : TI := fun σ H R => ta σ H fun vs H1 => ∃ (t : Bool) (a : Addr) (xs : List V), vs = [.ref a] ∧ SqA t K H1 a xs ∧ R (IteA t K a) H1
theorem meets_enumerate_new1 {v : Value} {o : Obj} {H : Heap → Prop} (B : Begins v o H) :
    Meets (Builtin.«enumerate.__new__» ⟨[.type "enumerate", v], []⟩) (fun _ R s => H s.heap ∧
      R (.ok (.ret (.ref (s.heap.push o).objs.size))) { s with heap := (s.heap.push o).push { cls := .type "enumerate", data := .fields #[.none, .bool false, .ref s.heap.objs.size, rawInt 0, .none, .none] } }) :=
  .of_wp fun prog w A R s h => by
    obtain ⟨hp, g, d, tk, os⟩ := s; obtain ⟨h1, h⟩ := h
    have hsub := sub_enumerate
    have q1 : ∀ {A' : Around} {E : Value → Shared → Prop} {Q : Value → Shared → Prop}, Q (.ref hp.objs.size) ⟨hp.push o, g, d, tk, os⟩ → wpAny (model prog w) A' (pyIter v) Q E ⟨hp, g, d, tk, os⟩ :=
      fun q => B.iter prog w _ _ ⟨hp, g, d, tk, os⟩ _ h1 q
    wp_walk using q1
    refine wpAny_stack_any fun st => wpAny_pure ?_
    split
    · rename_i c _ _ _ _ _
      cases (c == Value.type "enumerate")
      · wp_walk using q1
        exact ⟨_, rfl, h⟩
      · wp_walk using q1
        exact ⟨_, rfl, h⟩
    · wp_walk using q1
      exact ⟨_, rfl, h⟩
theorem enum_begins1 {prog : Program} {w : World} {A : Around} {E : Value → Shared → Prop} {s : Shared} {v : Value} {o : Obj} {H : Heap → Prop} {Q : Value → Shared → Prop} (B : Begins v o H) (h1 : H s.heap)
    (h : ∀ h', IsEnum h' (s.heap.objs.size + 1) s.heap.objs.size 0 .none → h'.get? s.heap.objs.size = some o → h'.objs.size = s.heap.objs.size + 2 →
      (∀ b o, s.heap.get? b = some o → h'.get? b = some o) → Q (.ref (s.heap.objs.size + 1)) { s with heap := h' }) :
    wpAny (model prog w) A (call (.type "enumerate") [v]) Q E s := by
  refine callType_new F.called_enumerate (by decide) (F.typeCall_enumerate_1 _) (F.newCall_enumerate_1 _) (fun obj => F.args_object_init_2 obj _) F.entry_enumerate_new
    (meets_enumerate_new1 B) ⟨h1, ?_⟩
  have hz : (s.heap.push o).objs.size = s.heap.objs.size + 1 := Heap.size_push ..
  show _ ∧ _
  rw [hz]
  have he : IsEnum ((s.heap.push o).push { cls := .type "enumerate", data := .fields #[.none, .bool false, .ref s.heap.objs.size, rawInt 0, .none, .none] }) (s.heap.objs.size + 1) s.heap.objs.size 0 .none := by
    have := Heap.get?_push_size (s.heap.push o) (o := { cls := .type "enumerate", data := .fields #[.none, .bool false, .ref s.heap.objs.size, rawInt 0, .none, .none] }) rfl
    rw [hz] at this; exact this
  refine ⟨⟨_, he, rfl⟩, h _ he (Heap.get?_push_of_some _ (Heap.get?_push_size _ B.free)) (by rw [Heap.size_push, hz]) fun b o x => Heap.get?_push_of_some _ (Heap.get?_push_of_some _ x)⟩

section
variable {X : Cx} {pos : Pos} {a b c e iter tg : Expr} {es : List Expr} {m l : ME} {am : MA} {mi : MI}
theorem pi_enumA {ta : TA} {p tpos : Pos} {elts : List Expr} {kk : Nat} (hg : Gl X "enumerate") (hm : X.mg "enumerate" = none) (ha : PA X [e] ta) (hp : PlainA X pos e []) :
    PI X (.Tuple elts kk tpos) (.Call (.Name "enumerate" p) [e] [] pos) (iEnumT X.K ta) := by
  refine ⟨fun pins s σ H R I h => ?_⟩
  refine Call_ (ld_blt I hg hm boot_enumerate (PyProof.Rows.callWith_type1 (thn (ha.run pos pins s σ H _ I h) fun us s1 ⟨vs, H1, I1, r1, q1⟩ => ?_) hp.1 hp.2))
  obtain ⟨t, a, xs, ex, hq, q⟩ := q1
  subst ex
  obtain ⟨u, rfl, ru⟩ := r1.one
  cases ru
  obtain ⟨its, rv, pp, hlt⟩ := sq_its I1 hq
  refine enum_begins1 (beginsA t a its.toArray) pp fun h' he hit hsz hk => ?_
  refine wpAny_pyIter_enum he ?_
  have I2 : L2.Inv X pins σ H1 { s1 with heap := h' } := I1.kept (t' := s1.toks) hk
  refine ⟨s1.heap.objs.size + 1, [s1.heap.objs.size + 1, s1.heap.objs.size], _, _, H1, rfl, I2, turn_enumA t a (s1.heap.objs.size + 1) s1.heap.objs.size (Nat.ne_of_lt hlt) (Nat.ne_of_lt (Nat.lt_succ_of_lt hlt)) (Nat.succ_ne_self _), ⟨⟨.none, he⟩, itA_new hit⟩, fun b hb => ?_, q⟩
  have e' : b = s1.heap.objs.size + 1 ∨ b = s1.heap.objs.size := by simpa using hb
  have hle : s1.heap.objs.size ≤ b := by
    rcases e' with z | z
    · rw [z]; exact Nat.le_add_right _ _
    · rw [z]; exact Nat.le_refl _
  exact I1.fpOk hle (I1.hok.fresh hle)
theorem ix_enum {p tpos : Pos} {elts : List Expr} {kk : Nat} (hg : Gl X "enumerate") (hm : X.mg "enumerate" = none) (ha : AX X [a] am) (hp : PlainA X pos a [] := by exact ⟨rfl, rfl⟩) :
    IX X (.Tuple elts kk tpos) (.Call (.Name "enumerate" p) [a] [] pos) (iEnum am) := (pi_enumA hg hm ha hp).mono fun σ H R h => by
  obtain ⟨G, ρ, w, e, items, oc, μ', hm, q⟩ := h
  simp only [iEnum, Option.bind_eq_some_iff] at hm
  obtain ⟨⟨ps, μ1⟩, h1, h2⟩ := hm
  refine ⟨G, ρ, w, e, ps, μ1, h1, fun vs H1 G1 e1 g1 w1 r1 => ?_⟩
  split at h2
  · rename_i x hj
    have hj : ps = [x] := hj
    subst hj
    simp only [Option.bind_eq_some_iff, Option.map_eq_some_iff] at h2
    obtain ⟨d, h3, ds, h4, h5⟩ := h2
    cases h5
    match vs, r1 with
    | [v], r1 =>
      subst g1
      obtain ⟨a, t, ev, s⟩ := stands_of w1 r1.1 h3 h4
      subst ev
      obtain ⟨xs, g1, _⟩ := s.sq (ExtF.refl _) w1 (keep_oc _ _)
      exact ⟨t, a, xs, rfl, g1, q (IteA t X.K a) H1 G1 e1 rfl w1 (keep_oc _ _) (serves_enum s)⟩
    | [], r1 => exact r1.elim
    | _ :: _ :: _, r1 => exact r1.2.elim
  · cases h2
end

/-! ### zip of two rows -/
def ItzA (t u : Bool) (K : PySem.W.Frag) (a b : Addr) : It :=
  ⟨fun i H => ∃ (xs ys : List V) (x y : V), SqA t K H a xs ∧ SqA u K H b ys ∧ xs[i]? = some x ∧ ys[i]? = some y,
    fun i H v H' => ∃ T x y, v = .ref T ∧ H T = none ∧ H' = upd H T (.tup [x, y]) ∧ (∀ xs, SqA t K H a xs → xs[i]? = some x) ∧ ∀ ys, SqA u K H b ys → ys[i]? = some y,
    fun i H => ∃ xs ys : List V, SqA t K H a xs ∧ SqA u K H b ys ∧ i = min xs.length ys.length⟩
theorem turn_zipA {P : Program} {w : World} {K : PySem.W.Frag} {elts : List Expr} {kk : Nat} {tpos : Pos} {t u : Bool} {a b z TI TO i1 i2 : Addr} (D : ZipSep2 z TI TO i1 i2 [i1, a] [i2, b]) (h1 : a ≠ i1) (h2 : b ≠ i2) :
    Turn P w K (.Tuple elts kk tpos) (ItzA t u K a b) [z, TI, TO, i1, i2] z (fun i h => IsZip h z TI TO .none ∧ IsTupOf2 h TI (.ref i1) (.ref i2) ∧ (∃ x y, IsTupOf2 h TO x y) ∧ IsItA t h i1 a i ∧ IsItA u h i2 b i) where
  mem := by simp
  obj := fun i h st c hc => by
    obtain ⟨hz, hTI, ⟨x, y, hTO⟩, s1, s2⟩ := st
    have e' : c = z ∨ c = TI ∨ c = TO ∨ c = i1 ∨ c = i2 := by simpa using hc
    rcases e' with q | q | q | q | q
    · rw [q]; exact ⟨_, hz, fun v q => nomatch q⟩
    · rw [q]; exact ⟨_, hTI, fun v q => nomatch q⟩
    · rw [q]; exact ⟨_, hTO, fun v q => nomatch q⟩
    · rw [q]; exact itA_obj s1
    · rw [q]; exact itA_obj s2
  keep := fun i h h' st k => by
    obtain ⟨hz, hTI, ⟨x, y, hTO⟩, s1, s2⟩ := st
    exact ⟨k z (by simp) _ hz, k TI (by simp) _ hTI, ⟨x, y, k TO (by simp) _ hTO⟩, itA_at s1 fun o q => k i1 (by simp) o q, itA_at s2 fun o q => k i2 (by simp) o q⟩
  item := by
    intro X hP hw hK hc i pins s σ H E I hf st hg
    subst hP hw hK
    obtain ⟨hz, hTI, ⟨x0, y0, hTO⟩, s1, s2⟩ := st
    obtain ⟨xs, ys, x, y, hqx, hqy, hx, hy⟩ := hg
    obtain ⟨its, rv, p, _⟩ := sq_its I hqx
    obtain ⟨its2, rv2, p2, _⟩ := sq_its I hqy
    obtain ⟨v, hu, ru⟩ := rv.get hx
    obtain ⟨v2, hu2, ru2⟩ := rv2.get hy
    have hzl : z < s.heap.objs.size := Heap.lt_size hz
    have hh : X.A.in1.handled = none := I.ok.hd hc
    have D1 := drawsA (prog := X.prog) (w := X.w) hh t i1 a h1 its.toArray
    have D2 := drawsA (prog := X.prog) (w := X.w) hh u i2 b h2 its2.toArray
    have l1 : i < its.toArray.size := by simpa using (List.getElem?_eq_some_iff.mp hu).1
    have l2 : i < its2.toArray.size := by simpa using (List.getElem?_eq_some_iff.mp hu2).1
    refine wpAny_pyNext_zipD2_item D D1 D2 hz hTI hTO ⟨s1, p⟩ ⟨s2, p2⟩ l1 l2 fun x1 x2 h' tk y1 y2 z' TO' d1 d2 hT hsz hk => ?_
    have ex1 : x1 = v := by
      have h2 : its[i]? = some x1 := by simpa using y1
      rw [hu] at h2
      exact (Option.some.inj h2).symm
    have ex2 : x2 = v2 := by
      have h2 : its2[i]? = some x2 := by simpa using y2
      rw [hu2] at h2
      exact (Option.some.inj h2).symm
    subst ex1 ex2
    refine ⟨_, rfl, wpAny_letOwnedTupleGo_zip (s := { s with heap := h', toks := tk }) z' fun h'' z'' sb => ?_⟩
    have hT2 : h''.get? s.heap.objs.size = some { cls := .type "tuple", data := .seq #[x1, x2] } := (sb.2 _ (Nat.ne_of_gt hzl)).trans hT
    have new : ObjOk X.prog X.w (upd H s.heap.objs.size (.tup [x, y])) h'' s.heap.objs.size (.tup [x, y]) :=
      ⟨by show 2 ≤ sizeLine; decide, [x1, x2], .cons ru (.cons ru2 .nil), ⟨_, hT2, rfl, _, rfl⟩⟩
    have I1 : L2.Inv X pins σ (upd H s.heap.objs.size (.tup [x, y])) { s with heap := h'', toks := tk } :=
      I.turnedNew (t' := tk) (ch := [z, TI, TO, i1, i2]) (fun c o hb q => (sb.2 c (fun q' => hb (by simp [q']))).trans (hk c o (fun q' => hb (by simp [q'])) (fun q' => hb (by simp [q'])) (fun q' => hb (by simp [q'])) (fun q' => hb (by simp [q'])) q)) hf (Nat.le_refl _) new
    refine ⟨.ref s.heap.objs.size, _, I1, rfl, ⟨_, x, y, rfl, I.hok.fresh (Nat.le_refl _), rfl, fun l hl => by rw [sq_inj I hl hqx]; exact hx, fun l hl => by rw [sq_inj I hl hqy]; exact hy⟩, ⟨z'', ?_, ⟨x1, x2, ?_⟩, ?_, ?_⟩, fun c hcm => ?_⟩
    · exact (sb.2 _ D.TIz).trans (hk _ _ D.TIz D.TITO D.TIi1 D.TIi2 hTI)
    · exact (sb.2 _ D.TOz).trans TO'
    · exact itA_at d1.1 fun o q => (sb.2 _ (Ne.symm D.zi1)).trans q
    · exact itA_at d2.1 fun o q => (sb.2 _ (Ne.symm D.zi2)).trans q
    · have hlt : c < s.heap.objs.size := by
        have e' : c = z ∨ c = TI ∨ c = TO ∨ c = i1 ∨ c = i2 := by simpa using hcm
        rcases e' with q | q | q | q | q
        · rw [q]; exact hzl
        · rw [q]; exact Heap.lt_size hTI
        · rw [q]; exact Heap.lt_size hTO
        · rw [q]; obtain ⟨_, e1, _⟩ := itA_obj s1; exact Heap.lt_size e1
        · rw [q]; obtain ⟨_, e2, _⟩ := itA_obj s2; exact Heap.lt_size e2
      rw [upd_ne (Nat.ne_of_lt hlt)]
      exact (hf c hcm).1
  done := by
    intro X hP hw hK hc i pins s σ H E I hf st hg
    subst hP hw hK
    obtain ⟨hz, hTI, ⟨x0, y0, hTO⟩, s1, s2⟩ := st
    obtain ⟨xs, ys, hqx, hqy, hend⟩ := hg
    obtain ⟨its, rv, p, _⟩ := sq_its I hqx
    obtain ⟨its2, rv2, p2, _⟩ := sq_its I hqy
    have l1 := rv.length
    have l2 := rv2.length
    have hh : X.A.in1.handled = none := I.ok.hd hc
    have D1 := drawsA (prog := X.prog) (w := X.w) hh t i1 a h1 its.toArray
    have D2 := drawsA (prog := X.prog) (w := X.w) hh u i2 b h2 its2.toArray
    exact wpAny_pyNext_zipD2_end D D1 D2 hz hTI hTO ⟨s1, p⟩ ⟨s2, p2⟩ (by simp; omega) (by simp; omega) (by simp; omega) fun h' tk hk => ⟨rfl, I.turnedL (t' := tk) (ch := [z, TI, TO, i1, i2]) (fun c o hb q =>
      hk c o (fun q' => hb (by simp [q'])) (fun q' => hb (by simp [q'])) (fun q' => hb (by simp [q'])) (fun q' => hb (by simp [q'])) q) hf⟩
  self := fun A i s Q E st h => wpAny_pyIter_zip st.1 h
def zipF : List D → List D → List D
  | x :: xs, y :: ys => .tup [x, y] :: zipF xs ys
  | _, _ => []
theorem zipF_get : ∀ (xs ys : List D) (i : Nat) (x y : D), xs[i]? = some x → ys[i]? = some y → (zipF xs ys)[i]? = some (.tup [x, y])
  | x :: xs, y :: ys, 0, _, _, h, h' => by
    cases h; cases h'; rfl
  | x :: xs, y :: ys, i + 1, u, v, h, h' => zipF_get xs ys i u v h h'
  | [], _, i, _, _, h, _ => by simp at h
  | _ :: _, [], i, _, _, _, h => by simp at h
theorem zipF_len : ∀ (xs ys : List D), (zipF xs ys).length = min xs.length ys.length
  | x :: xs, y :: ys => by simp only [zipF, List.length_cons, zipF_len xs ys]; omega
  | [], _ => by simp [zipF]
  | _ :: _, [] => by simp [zipF]
def oc2 : Option (Nat × Cell) → Option (Nat × Cell) → Option (Option (Nat × Cell))
  | none, o => some o
  | some c, none => some (some c)
  | some _, some _ => none
theorem keep2 {o1 o2 o : Option (Nat × Cell)} {μ : Sto} (h : oc2 o1 o2 = some o) : keepP o μ ↔ (keepP o1 μ ∧ keepP o2 μ) := by
  cases o1 with
  | none => cases h; exact ⟨fun x => ⟨trivial, x⟩, fun x => x.2⟩
  | some c => cases o2 with
    | none => cases h; exact ⟨fun x => ⟨x, trivial⟩, fun x => x.1⟩
    | some _ => cases h
theorem serves_zip {k : Kx} {G : Gh} {t u : Bool} {a b : Addr} {n m : Nat} {xs ys : List D} {o1 o2 o : Option (Nat × Cell)} (s1 : Stands k G t a n xs o1) (s2 : Stands k G u b m ys o2) (ho : oc2 o1 o2 = some o) : Serves k G (ItzA t u k.K a b) (zipF xs ys) o where
  go := fun {i G' H} hi e w kp => by
    rw [zipF_len] at hi
    obtain ⟨k1, k2⟩ := (keep2 ho).1 kp
    obtain ⟨vs, g1, g2⟩ := s1.sq e w k1
    obtain ⟨us, g3, g4⟩ := s2.sq e w k2
    obtain ⟨v, g5, _⟩ := g2.get (List.getElem?_eq_getElem (show i < xs.length by omega))
    obtain ⟨v2, g6, _⟩ := g4.get (List.getElem?_eq_getElem (show i < ys.length by omega))
    exact ⟨vs, us, v, v2, g1, g3, g5, g6⟩
  yl := fun {i G' H x H'} hi e w kp y => by
    rw [zipF_len] at hi
    obtain ⟨k1, k2⟩ := (keep2 ho).1 kp
    obtain ⟨vs, g1, g2⟩ := s1.sq e w k1
    obtain ⟨us, g3, g4⟩ := s2.sq e w k2
    obtain ⟨v, g5, r5⟩ := g2.get (List.getElem?_eq_getElem (show i < xs.length by omega))
    obtain ⟨v2, g6, r6⟩ := g4.get (List.getElem?_eq_getElem (show i < ys.length by omega))
    obtain ⟨T, z1, z2, e1, hT, e2, y1, y2⟩ := y
    have q1 := y1 vs g1
    have q2 := y2 us g3
    rw [g5] at q1
    rw [g6] at q2
    cases q1
    cases q2
    subst e1 e2
    refine ⟨_, _, w.extF hT, rfl, w.new hT, zipF_get xs ys i _ _ (List.getElem?_eq_getElem (by omega)) (List.getElem?_eq_getElem (by omega)), ?_⟩
    exact ⟨T, _, rfl, upd_same, by exact ⟨Rep.mono (same_new (w.fnew hT)) _ r5, Rep.mono (same_new (w.fnew hT)) _ r6, trivial⟩⟩
  st := fun {G' H} e w kp => by
    rw [zipF_len]
    obtain ⟨k1, k2⟩ := (keep2 ho).1 kp
    obtain ⟨vs, g1, g2⟩ := s1.sq e w k1
    obtain ⟨us, g3, g4⟩ := s2.sq e w k2
    exact ⟨vs, us, g1, g3, by rw [g2.length, g4.length]⟩
def iZip (am : MA) : MI := fun ρ μ => (am ρ μ).bind fun p => match p.1 with
  | [x, y] => (deref p.2 x).bind fun d => (isSeq d).bind fun ds => (deref p.2 y).bind fun d' => (isSeq d').bind fun ds' => (oc2 (ocOf p.2 x) (ocOf p.2 y)).map fun o => (zipF ds ds', o, p.2)
  | _ => none
def iZipT (K : PySem.W.Frag) (ta : TA) : TI := fun σ H R => ta σ H fun vs H1 => ∃ (t u : Bool) (a b : Addr) (xs ys : List V), vs = [.ref a, .ref b] ∧ SqA t K H1 a xs ∧ SqA u K H1 b ys ∧ R (ItzA t u K a b) H1
section
variable {X : Cx} {pos : Pos} {a b c e e2 iter tg : Expr} {es : List Expr} {m l : ME} {am : MA} {mi : MI}
theorem pi_zipA {ta : TA} {p tpos : Pos} {elts : List Expr} {kk : Nat} (hg : Gl X "zip") (hm : X.mg "zip" = none) (ha : PA X [e, e2] ta) (hp : PlainA X pos e [e2]) :
    PI X (.Tuple elts kk tpos) (.Call (.Name "zip" p) [e, e2] [] pos) (iZipT X.K ta) := by
  refine ⟨fun pins s σ H R I h => ?_⟩
  refine Call_ (ld_blt I hg hm PyProof.Rows.boot_zip (PyProof.Rows.callWith_type1 (thn (ha.run pos pins s σ H _ I h) fun us s1 ⟨vs, H1, I1, r1, q1⟩ => ?_) hp.1 hp.2))
  obtain ⟨t, u, a, b, xs, ys, ex, hqx, hqy, q⟩ := q1
  subst ex
  cases r1 with
  | cons r rr =>
    cases rr with
    | cons r' rr =>
      cases rr
      cases r
      cases r'
      obtain ⟨its, rv, p1, la⟩ := sq_its I1 hqx
      obtain ⟨its2, rv2, p2, lb⟩ := sq_its I1 hqy
      refine zip_begins2 (beginsA t a its.toArray) (beginsA u b its2.toArray) p1 p2 fun h' hz hTI hTO h1 h2 hsz hk => wpAny_pyIter_zip hz ?_
      have I2 : L2.Inv X pins σ H1 { s1 with heap := h' } := I1.kept (t' := s1.toks) hk
      refine ⟨s1.heap.objs.size + 4, [s1.heap.objs.size + 4, s1.heap.objs.size + 2, s1.heap.objs.size + 3, s1.heap.objs.size, s1.heap.objs.size + 1], _, _, H1, rfl, I2, turn_zipA (zip_sep2 (N := s1.heap.objs.size) (by simpa using la) (by simpa using lb)) (Nat.ne_of_lt la) (Nat.ne_of_lt (Nat.lt_succ_of_lt lb)), ⟨hz, hTI, ⟨_, _, hTO⟩, itA_new h1, itA_new h2⟩, fun c hcm => ?_, q⟩
      have e' : c = s1.heap.objs.size + 4 ∨ c = s1.heap.objs.size + 2 ∨ c = s1.heap.objs.size + 3 ∨ c = s1.heap.objs.size ∨ c = s1.heap.objs.size + 1 := by simpa using hcm
      have hle : s1.heap.objs.size ≤ c := by
        rcases e' with z | z | z | z | z
        · rw [z]; exact Nat.le_add_right _ _
        · rw [z]; exact Nat.le_add_right _ _
        · rw [z]; exact Nat.le_add_right _ _
        · rw [z]; exact Nat.le_refl _
        · rw [z]; exact Nat.le_add_right _ _
      exact I1.fpOk hle (I1.hok.fresh hle)
theorem ix_zip {p tpos : Pos} {elts : List Expr} {kk : Nat} (hg : Gl X "zip") (hm : X.mg "zip" = none) (ha : AX X [a, b] am) (hp : PlainA X pos a [b] := by exact ⟨rfl, rfl⟩) :
    IX X (.Tuple elts kk tpos) (.Call (.Name "zip" p) [a, b] [] pos) (iZip am) := (pi_zipA hg hm ha hp).mono fun σ H R h => by
  obtain ⟨G, ρ, w, e, items, oc, μ', hm, q⟩ := h
  simp only [iZip, Option.bind_eq_some_iff] at hm
  obtain ⟨⟨ps, μ1⟩, h1, h2⟩ := hm
  refine ⟨G, ρ, w, e, ps, μ1, h1, fun vs H1 G1 e1 g1 w1 r1 => ?_⟩
  split at h2
  · rename_i x y hj
    have hj : ps = [x, y] := hj
    subst hj
    simp only [Option.bind_eq_some_iff, Option.map_eq_some_iff] at h2
    obtain ⟨d, h3, ds, h4, d', h5, ds', h6, o, h7, h8⟩ := h2
    cases h8
    match vs, r1 with
    | [v, v2], r1 =>
      subst g1
      obtain ⟨a, t, ev, s⟩ := stands_of w1 r1.1 h3 h4
      subst ev
      obtain ⟨b, u, ev, s2⟩ := stands_of w1 r1.2.1 h5 h6
      subst ev
      obtain ⟨xs, g1, _⟩ := s.sq (ExtF.refl _) w1 (keep_oc _ _)
      obtain ⟨ys, g2, _⟩ := s2.sq (ExtF.refl _) w1 (keep_oc _ _)
      exact ⟨t, u, a, b, xs, ys, rfl, g1, g2, q (ItzA t u X.K a b) H1 G1 e1 rfl w1 ((keep2 h7).2 ⟨keep_oc _ _, keep_oc _ _⟩) (serves_zip s s2 h7)⟩
    | [], r1 => exact r1.elim
    | [_], r1 => exact r1.2.elim
    | _ :: _ :: _ :: _, r1 => exact r1.2.2.elim
  · cases h2
end
end PL

set_option Elab.async false
set_option linter.all false
set_option maxRecDepth 100000
namespace PL
open PySem PySem.Spec PyProof.Rows L2

/-! ### list comprehensions -/
def wipeE (ρ : Env) : List Nat → Env
  | [] => ρ
  | v :: vs => (wipeE ρ vs).set v none
theorem wipeE_len (ρ : Env) : ∀ vs : List Nat, (wipeE ρ vs).length = ρ.length
  | [] => rfl
  | v :: vs => by unfold wipeE; rw [List.length_set, wipeE_len ρ vs]
theorem wipeE_some {ρ : Env} {i : Nat} {x : PV} : ∀ {vs : List Nat}, (wipeE ρ vs)[i]? = some (some x) → ρ[i]? = some (some x) ∧ i ∉ vs
  | [], h => ⟨h, by simp⟩
  | v :: vs, h => by
    unfold wipeE at h
    by_cases hi : v = i
    · subst hi
      by_cases hv : v < (wipeE ρ vs).length
      · rw [List.getElem?_set_self hv] at h; cases h
      · rw [List.getElem?_eq_none (by simpa using hv)] at h; cases h
    · rw [List.getElem?_set_ne hi] at h
      obtain ⟨h1, h2⟩ := wipeE_some h
      exact ⟨h1, by simp only [List.mem_cons, not_or]; exact ⟨fun e => hi e.symm, h2⟩⟩
theorem env_wipe {k : Kx} {G : Gh} {σ : L2.St} {ρ : Env} (e : EnvOk k G σ ρ) (vs : List Nat) : EnvOk k G (wipe σ vs) (wipeE ρ vs) :=
  ⟨by rw [wipe_length, wipeE_len, e.len], fun i x h => by
    obtain ⟨h1, h2⟩ := wipeE_some h
    obtain ⟨v, h3, h4⟩ := e.at' i x h1
    exact ⟨v, by rw [wipe_out h2]; exact h3, h4⟩⟩
theorem set_wipe (σ : L2.St) (v : Nat) : ∀ (vs : List Nat), wipe (σ.set v none) vs = (wipe σ vs).set v none
  | [] => rfl
  | u :: us => by
    unfold wipe
    rw [set_wipe σ v us]
    by_cases h : u = v
    · subst h; rw [List.set_set]
    · rw [List.set_comm _ _ h]
theorem wipe_wipe (σ : L2.St) : ∀ (vs : List Nat), wipe (wipe σ vs) vs = wipe σ vs
  | [] => rfl
  | v :: vs => by
    show (wipe ((wipe σ vs).set v none) vs).set v none = (wipe σ vs).set v none
    rw [set_wipe, wipe_wipe σ vs, List.set_set]
def mYes : MT := fun _ μ => some (true, μ)
abbrev QX (X : Cx) (ifs : List Expr) (m : MT) : Prop := PTs X ifs (tT (kx X) m)
theorem qx_nil {X : Cx} : QX X [] mYes := ⟨fun pins s σ H Q I h => by
  obtain ⟨G, ρ, w, e, b, μ', hm, q⟩ := h
  cases hm
  exact pts_nil.run pins s σ H Q I (q H G (Ext.refl _) rfl w)⟩
theorem qx_one {X : Cx} {c : Expr} {m : MT} (h : TX X c m) : QX X [c] m := pts_one h

theorem if_so {α : Type} {p : Prop} {dp : Decidable p} {o : Option α} {y : α} (h : (if p then o else none) = some y) : p ∧ o = some y := by
  by_cases hp : p
  · rw [if_pos hp] at h; exact ⟨hp, h⟩
  · rw [if_neg hp] at h; cases h
open Classical in
noncomputable def lcL (oc : Option (Nat × Cell)) (t : Tg) (vs : List Nat) (tt : MT) (te : ME) (ρ : Env) : Nat → List D → Sto → Option (List D × Sto)
  | _, [], μ => some ([], μ)
  | n, d :: ds, μ => (bind1 t (.dat d) (wipeE ρ vs)).bind fun ρ1 => (tt ρ1 μ).bind fun p =>
    if p.1 = true then (te ρ1 p.2).bind fun q => match q.1 with
      | .dat e => if keepP oc q.2 ∧ n < lim then (lcL oc t vs tt te ρ (n + 1) ds q.2).map fun r => (e :: r.1, r.2) else none
      | _ => none
    else if keepP oc p.2 then lcL oc t vs tt te ρ n ds p.2 else none
noncomputable def mLc (mi : MI) (t : Tg) (vs : List Nat) (tt : MT) (te : ME) : ME := fun ρ μ => (mi ρ μ).bind fun p => (lcL p.2.1 t vs tt te ρ 0 p.1 p.2.2).map fun r => (.dat (.lst r.1), r.2)
/-- .. the new list one that may change -/
noncomputable def mLcC (mi : MI) (t : Tg) (vs : List Nat) (tt : MT) (te : ME) : ME := fun ρ μ => (mi ρ μ).bind fun p => (lcL p.2.1 t vs tt te ρ 0 p.1 p.2.2).map fun r => (.cell r.2.length, r.2 ++ [.flat (.lst r.1)])
theorem lc_of {k : Kx} {Gs : Gh} {J : It} {items : List D} {oc : Option (Nat × Cell)} (S : Serves k Gs J items oc) {Dl : Addr} {t : Tg} {vs : List Nat} {tt : MT} {te : ME} {ρ : Env} {σ : L2.St} {row : List D} {μ' : Sto} {Stop : Hp → Prop}
    (hs : ∀ i ∈ t.slots, i ∈ vs) {G : Gh} {H : Hp} {accV : List V} {accD : List D} (eG : ExtF Gs G) (w : WG k G H) (e : EnvOk k G σ ρ) (kp : keepP oc G.μ) (hP : G.P Dl = some (.lst accV)) (ra : Reps k G.F accV accD)
    (hm : lcL oc t vs tt te ρ accD.length items G.μ = some (row, μ'))
    (fin : ∀ H' G' accV', ExtF G G' → G'.μ = μ' → (∀ b, b ≠ Dl → G'.P b = G.P b) → G'.P Dl = some (.lst accV') → WG k G' H' → Reps k G'.F accV' (accD ++ row) → Stop H') :
    ∃ W : Nat → Nat → Hp → Prop, (∃ m, W 0 m H) ∧ ∀ i m H, W i m H → (J.stop i H ∧ Stop H) ∨ (J.go i H ∧ ∃ Nx : Hp → Prop, (∀ H', Nx H' → ∃ m', m' < m ∧ W (i + 1) m' H') ∧ ∀ x H', J.yld i H x H' → gT k.K t x (wipe σ vs) H' fun σ2 H2 => wipe σ2 vs = wipe σ vs ∧ tT k tt σ2 H2 fun b H3 =>
      if b = true then tE k te σ2 H3 fun y H4 => ∃ acc, H4 Dl = some (.lst acc) ∧ acc.length < sizeLine ∧ Nx (upd H4 Dl (.lst (acc ++ [y]))) else Nx H3) := by
  refine ⟨fun i m H' => m = items.length - i ∧ i ≤ items.length ∧ ∃ G' accV' accD' rest, ExtF G G' ∧ (∀ b, b ≠ Dl → G'.P b = G.P b) ∧ G'.P Dl = some (.lst accV') ∧ WG k G' H' ∧ Reps k G'.F accV' accD' ∧ keepP oc G'.μ ∧
    lcL oc t vs tt te ρ accD'.length (items.drop i) G'.μ = some (rest, μ') ∧ accD' ++ rest = accD ++ row,
    ⟨items.length, by omega, by omega, G, accV, accD, row, ExtF.refl _, fun _ _ => rfl, hP, w, ra, kp, hm, rfl⟩, ?_⟩
  rintro i n H1 ⟨hn, hi, G1, accV1, accD1, rest, e1, hp1, hD1, w1, ra1, kp1, hm1, ha1⟩
  by_cases hlt : i < items.length
  · rw [List.drop_eq_getElem_cons hlt] at hm1
    simp only [lcL, Option.bind_eq_some_iff] at hm1
    obtain ⟨ρ2, h3, ⟨b, μ2⟩, h4, h5⟩ := hm1
    refine .inr ⟨S.go hlt (eG.trans e1) w1 kp1, fun H' => ∃ G' accV' accD' rest', ExtF G G' ∧ (∀ b, b ≠ Dl → G'.P b = G.P b) ∧ G'.P Dl = some (.lst accV') ∧ WG k G' H' ∧ Reps k G'.F accV' accD' ∧ keepP oc G'.μ ∧
      lcL oc t vs tt te ρ accD'.length (items.drop (i + 1)) G'.μ = some (rest', μ') ∧ accD' ++ rest' = accD ++ row, fun H' h => ⟨items.length - (i + 1), by omega, rfl, by omega, h⟩, fun x H' y => ?_⟩
    obtain ⟨G2, d, e2, g2, w2, hd, r2⟩ := S.yl hlt (eG.trans e1) w1 kp1 y
    rw [List.getElem?_eq_getElem hlt] at hd
    cases hd
    refine gT_of w2 vs t (env_wipe (e.extF (e1.trans e2.w)) vs) (x := .dat items[i]) r2 h3 hs fun σ2 n2 z2 => ⟨z2.trans (wipe_wipe _ _), ?_⟩
    refine ⟨G2, ρ2, w2, n2, b, μ2, by rw [g2]; exact h4, fun H3 G3 e3 g3 w3 => ?_⟩
    have hD3 : G3.P Dl = some (.lst accV1) := by rw [e3.p, e2.p]; exact hD1
    have hp3 : ∀ b, b ≠ Dl → G3.P b = G.P b := fun b hb => by rw [e3.p, e2.p]; exact hp1 b hb
    cases b with
    | false =>
      simp only [Bool.false_eq_true, if_false] at h5 ⊢
      obtain ⟨hk, h6⟩ := if_so h5
      exact ⟨G3, accV1, accD1, rest, (e1.trans e2.w).trans e3.w, hp3, hD3, w3, Reps.mono (e2.f.trans e3.f) _ ra1, by rw [g3]; exact hk, by rw [g3]; exact h6, ha1⟩
    | true =>
      simp only [if_true, Option.bind_eq_some_iff] at h5 ⊢
      obtain ⟨⟨x, μ3⟩, h6, h7⟩ := h5
      refine ⟨G3, ρ2, w3, n2.ext e3, x, μ3, by rw [g3]; exact h6, fun v H4 G4 e4 g4 w4 r4 => ?_⟩
      have hD4 : G4.P Dl = some (.lst accV1) := by rw [e4.p]; exact hD3
      split at h7
      · rename_i ed hx
        simp only at hx
        subst hx
        obtain ⟨⟨hk, hz⟩, h8⟩ := if_so h7
        rw [Option.map_eq_some_iff] at h8
        obtain ⟨⟨rest', μ4⟩, h9, h10⟩ := h8
        cases h10
        have ra4 : Reps k G4.F accV1 accD1 := Reps.mono ((e2.f.trans e3.f).trans e4.f) _ ra1
        refine ⟨accV1, w4.ap _ _ hD4, by rw [ra4.length]; exact Nat.lt_of_lt_of_le hz (lim_le (Nat.le_refl _)), ?_⟩
        have ra5 : Reps k G4.F (accV1 ++ [v]) (accD1 ++ [ed]) := ra4.snoc r4
        refine ⟨_, accV1 ++ [v], accD1 ++ [ed], rest', ?_, ?_, upd_same, w4.repin hD4, ra5, by rw [g4]; exact hk, ?_, by simpa using ha1⟩
        · exact ⟨(((e1.trans e2.w).trans e3.w).trans e4.w).f, (((e1.trans e2.w).trans e3.w).trans e4.w).o, (((e1.trans e2.w).trans e3.w).trans e4.w).i⟩
        · intro b hb
          show upd G4.P Dl _ b = _
          rw [upd_ne hb, e4.p]; exact hp3 b hb
        · rw [List.length_append]
          show lcL _ _ _ _ _ _ _ _ G4.μ = _
          rw [g4]; exact h9
      · cases h7
  · have hi' : i = items.length := by omega
    subst hi'
    rw [List.drop_length] at hm1
    cases hm1
    rw [List.append_nil] at ha1
    exact .inl ⟨S.st (eG.trans e1) w1 kp1, fin H1 G1 accV1 e1 rfl hp1 hD1 w1 (by rw [← ha1]; exact ra1)⟩

section
variable {X : Cx} {pos : Pos} {elt tg iter : Expr} {ifs : List Expr} {scope : Scope} {own : List (Str × Nat)} {mi : MI} {t : Tg} {tt : MT} {te : ME}
theorem pin_end {k : Kx} {G1 G : Gh} {H : Hp} {Dl : Addr} {accV : List V} {acc : List D} (hn : G1.P Dl = none) (hp : ∀ b, b ≠ Dl → G.P b = upd G1.P Dl (.lst []) b) (hD : G.P Dl = some (.lst accV)) (w : WG k G H) (e : ExtF G1 G) (ra : Reps k G.F accV acc) :
    ∃ G', Ext G1 G' ∧ G'.μ = G.μ ∧ WG k G' H ∧ VRep k G' (.ref Dl) (.dat (.lst acc)) := by
  have hF : G.F Dl = none := w.fp hD
  have sP : Same G1.P G.P := fun b o h => by
    have hb : b ≠ Dl := ne_of_none h hn
    rw [hp b hb, upd_ne hb]; exact h
  have hi : Dl ∉ G.ι := fun h => by
    have := w.pi h
    rw [hD] at this
    cases this
  refine ⟨{ G with P := G1.P, F := upd G.F Dl (.lst accV) }, ⟨e.f.trans (same_new hF), rfl, e.o, e.i⟩, rfl, ?_, ?_⟩
  · exact (w.unpin sP).tell (w.ap _ _ hD) hF hn hi (w.wp hD)
  · exact ⟨Dl, accV, rfl, upd_same, Reps.mono (same_new hF) _ ra⟩
theorem pin_endC {k : Kx} {G1 G : Gh} {H : Hp} {Dl : Addr} {accV : List V} {acc : List D} (hn : G1.P Dl = none) (hp : ∀ b, b ≠ Dl → G.P b = upd G1.P Dl (.lst []) b) (hD : G.P Dl = some (.lst accV)) (w : WG k G H) (e : ExtF G1 G) (ra : Reps k G.F accV acc) :
    ∃ G', Ext G1 G' ∧ G'.μ = G.μ ++ [.flat (.lst acc)] ∧ WG k G' H ∧ VRep k G' (.ref Dl) (.cell G.μ.length) := by
  have hF : G.F Dl = none := w.fp hD
  have sP : Same G1.P G.P := fun b o h => by
    have hb : b ≠ Dl := ne_of_none h hn
    rw [hp b hb, upd_ne hb]; exact h
  have hi : Dl ∉ G.ι := fun h => by
    have := w.pi h
    rw [hD] at this
    cases this
  obtain ⟨u, hu⟩ := e.i
  refine ⟨{ G with P := G1.P, μ := G.μ ++ [.flat (.lst acc)], ι := G.ι ++ [Dl] }, ⟨e.f, rfl, e.o, u ++ [Dl], by show G.ι ++ [Dl] = _; rw [hu, List.append_assoc]⟩, rfl, ?_, ?_⟩
  · exact (w.unpin sP).tellCell (o := .lst accV) (w.ap _ _ hD) trivial hF hn hi (w.wp hD) (d := .lst acc) ra
  · exact ⟨Dl, by show (G.ι ++ [Dl])[_]? = _; rw [← w.len]; simp, rfl⟩
theorem lc_tE {k : Kx} {vs : List Nat} {σ : L2.St} {H : Hp} {Q : VK} (hs : ∀ i ∈ t.slots, i ∈ vs) (h : tE k (mLc mi t vs tt te) σ H Q) : tLc (tI k mi) (gT k.K t) (tT k tt) (tE k te) vs σ H Q := by
  obtain ⟨G, ρ, w, e, x, μ', hm, q⟩ := h
  simp only [mLc, Option.bind_eq_some_iff, Option.map_eq_some_iff] at hm
  obtain ⟨⟨items, oc, μ1⟩, h1, ⟨row, μ2⟩, h2, h3⟩ := hm
  cases h3
  refine ⟨G, ρ, w, e, items, oc, μ1, h1, fun J H1 G1 e1 g1 w1 k1 S Dl hD => ?_⟩
  have hn : G1.P Dl = none := w1.ap.free hD
  refine lc_of S hs (G := { G1 with P := upd G1.P Dl (.lst []) }) (accV := []) (accD := []) ⟨Same.refl _, fun _ _ _ h => h, [], by simp⟩ (w1.pin hD) (EnvOk.extF (G := G1) (G' := { G1 with P := upd G1.P Dl (.lst []) }) ⟨Same.refl _, fun _ _ _ h => h, [], by simp⟩ (e.ext e1)) k1 upd_same trivial (by show lcL _ _ _ _ _ _ _ _ G1.μ = _; rw [g1]; exact h2) fun H' G' accV' e' g' hp' hD' w' ra' => ?_
  obtain ⟨G2, e2, g2, w2, r2⟩ := pin_end hn hp' hD' w' ⟨e'.f, e'.o, e'.i⟩ ra'
  exact q _ H' G2 (e1.trans e2) (g2.trans g') w2 r2
theorem lc_tEC {k : Kx} {vs : List Nat} {σ : L2.St} {H : Hp} {Q : VK} (hs : ∀ i ∈ t.slots, i ∈ vs) (h : tE k (mLcC mi t vs tt te) σ H Q) : tLc (tI k mi) (gT k.K t) (tT k tt) (tE k te) vs σ H Q := by
  obtain ⟨G, ρ, w, e, x, μ', hm, q⟩ := h
  simp only [mLcC, Option.bind_eq_some_iff, Option.map_eq_some_iff] at hm
  obtain ⟨⟨items, oc, μ1⟩, h1, ⟨row, μ2⟩, h2, h3⟩ := hm
  cases h3
  refine ⟨G, ρ, w, e, items, oc, μ1, h1, fun J H1 G1 e1 g1 w1 k1 S Dl hD => ?_⟩
  have hn : G1.P Dl = none := w1.ap.free hD
  refine lc_of S hs (G := { G1 with P := upd G1.P Dl (.lst []) }) (accV := []) (accD := []) ⟨Same.refl _, fun _ _ _ h => h, [], by simp⟩ (w1.pin hD) (EnvOk.extF (G := G1) (G' := { G1 with P := upd G1.P Dl (.lst []) }) ⟨Same.refl _, fun _ _ _ h => h, [], by simp⟩ (e.ext e1)) k1 upd_same trivial (by show lcL _ _ _ _ _ _ _ _ G1.μ = _; rw [g1]; exact h2) fun H' G' accV' e' g' hp' hD' w' ra' => ?_
  obtain ⟨G2, e2, g2, w2, r2⟩ := pin_endC hn hp' hD' w' ⟨e'.f, e'.o, e'.i⟩ ra'
  subst g'
  exact q _ H' G2 (e1.trans e2) g2 w2 r2
theorem asg_nm {k : Kx} {i : Nat} {m : ME} {tL : TE} {Dd : Ends} {σ : L2.St} {H : Hp} (hh : ∀ σ H Q, tE k m σ H Q → tL σ H Q) (h : tS k (sAsg m (.nm i)) Dd σ H) : tAsg tL (gName i) Dd σ H :=
  hh _ _ _ (asg_of (t := .nm i) h)
variable (hc : X.calm = true) (hN : X.N.Nodup) (hi : IX X tg iter mi) (ok : BlkOk X.N X.env.scope scope own)
  (hg : ∀ (s : Shared) (H : Hp) (C : Addr) (cl : List (Str × Addr)) (fp : List Addr), PG (X.blk s H scope (compEnvC scope cl C X.env) fp) tg (gT X.K t))
  (ht : ∀ (s : Shared) (H : Hp) (C : Addr) (cl : List (Str × Addr)) (fp : List Addr), QX (X.blk s H scope (compEnvC scope cl C X.env) fp) ifs tt)
  (he : ∀ (s : Shared) (H : Hp) (C : Addr) (cl : List (Str × Addr)) (fp : List Addr), EX (X.blk s H scope (compEnvC scope cl C X.env) fp) elt te)
  (hs : ∀ x, foldedSetIterable iter X.env x = pure x)
include hc hN hi ok hg ht he hs
theorem ex_lc (hv : ∀ i ∈ t.slots, i ∈ own.map (·.2)) : EX X (.ListComp elt [⟨tg, iter, ifs, 0⟩] scope pos) (mLc mi t (own.map (·.2)) tt te) := (pe_lc hc hN hi ok hg ht he hs).mono fun σ H Q h => lc_tE hv h
theorem ex_lcC (hv : ∀ i ∈ t.slots, i ∈ own.map (·.2)) : EX X (.ListComp elt [⟨tg, iter, ifs, 0⟩] scope pos) (mLcC mi t (own.map (·.2)) tt te) := (pe_lc hc hN hi ok hg ht he hs).mono fun σ H Q h => lc_tEC hv h
theorem sx_setLc {i : Nat} {y : Str} {py spos : Pos} (hy : X.N[i]? = some y) (hyl : X.env.scope.names.lookup y = some .local)
    (hsw : swapsWith (.ListComp elt [⟨tg, iter, ifs, 0⟩] scope pos) (some (.Name y py)) spos.line X.env = pure true) (hv : ∀ i ∈ t.slots, i ∈ own.map (·.2)) :
    SX X (.Assign [.Name y py] (.ListComp elt [⟨tg, iter, ifs, 0⟩] scope pos) spos) (sAsg (mLc mi t (own.map (·.2)) tt te) (.nm i)) := PS.mono (ps_setLc (te := tE (kx X) te) (tt := tT (kx X) tt) hc hN hy hyl hsw hi ok hg ht he hs) fun Dd σ H h => asg_nm (fun σ H Q h => lc_tE hv h) h
theorem sx_setLcC {i : Nat} {y : Str} {py spos : Pos} (hy : X.N[i]? = some y) (hyl : X.env.scope.names.lookup y = some .local)
    (hsw : swapsWith (.ListComp elt [⟨tg, iter, ifs, 0⟩] scope pos) (some (.Name y py)) spos.line X.env = pure true) (hv : ∀ i ∈ t.slots, i ∈ own.map (·.2)) :
    SX X (.Assign [.Name y py] (.ListComp elt [⟨tg, iter, ifs, 0⟩] scope pos) spos) (sAsg (mLcC mi t (own.map (·.2)) tt te) (.nm i)) := PS.mono (ps_setLc (te := tE (kx X) te) (tt := tT (kx X) tt) hc hN hy hyl hsw hi ok hg ht he hs) fun Dd σ H h => asg_nm (fun σ H Q h => lc_tEC hv h) h
end

/-! ### .. of two clauses -/
open Classical in
noncomputable def lc2L (oc : Option (Nat × Cell)) (t : Tg) (vs : List Nat) (tt : MT) (mi1 : MI) (t1 : Tg) (vs1 : List Nat) (tt1 : MT) (te : ME) (ρ : Env) : Nat → List D → Sto → Option (List D × Sto)
  | _, [], μ => some ([], μ)
  | n, d :: ds, μ => (bind1 t (.dat d) (wipeE ρ vs)).bind fun ρ1 => (tt ρ1 μ).bind fun p =>
    if p.1 = true then (mi1 ρ1 p.2).bind fun q => (lcL q.2.1 t1 vs1 tt1 te ρ1 n q.1 q.2.2).bind fun r =>
      if keepP oc r.2 then (lc2L oc t vs tt mi1 t1 vs1 tt1 te ρ (n + r.1.length) ds r.2).map fun z => (r.1 ++ z.1, z.2) else none
    else if keepP oc p.2 then lc2L oc t vs tt mi1 t1 vs1 tt1 te ρ n ds p.2 else none
noncomputable def mLc2 (mi : MI) (t : Tg) (vs : List Nat) (tt : MT) (mi1 : MI) (t1 : Tg) (vs1 : List Nat) (tt1 : MT) (te : ME) : ME := fun ρ μ => (mi ρ μ).bind fun p => (lc2L p.2.1 t vs tt mi1 t1 vs1 tt1 te ρ 0 p.1 p.2.2).map fun r => (.dat (.lst r.1), r.2)
theorem lc2_of {k : Kx} {Gs : Gh} {J : It} {items : List D} {oc : Option (Nat × Cell)} (S : Serves k Gs J items oc) {Dl : Addr} {t t1 : Tg} {vs vs1 : List Nat} {tt tt1 : MT} {mi1 : MI} {te : ME} {ρ : Env} {σ : L2.St} {row : List D} {μ' : Sto} {Stop : Hp → Prop}
    (hs : ∀ i ∈ t.slots, i ∈ vs) (hs1 : ∀ i ∈ t1.slots, i ∈ vs1) {G : Gh} {H : Hp} {accV : List V} {accD : List D} (eG : ExtF Gs G) (w : WG k G H) (e : EnvOk k G σ ρ) (kp : keepP oc G.μ) (hP : G.P Dl = some (.lst accV)) (ra : Reps k G.F accV accD)
    (hm : lc2L oc t vs tt mi1 t1 vs1 tt1 te ρ accD.length items G.μ = some (row, μ'))
    (fin : ∀ H' G' accV', ExtF G G' → G'.μ = μ' → (∀ b, b ≠ Dl → G'.P b = G.P b) → G'.P Dl = some (.lst accV') → WG k G' H' → Reps k G'.F accV' (accD ++ row) → Stop H') :
    ∃ W : Nat → Nat → Hp → Prop, (∃ m, W 0 m H) ∧ ∀ i m H, W i m H → (J.stop i H ∧ Stop H) ∨ (J.go i H ∧ ∃ Nx : Hp → Prop, (∀ H', Nx H' → ∃ m', m' < m ∧ W (i + 1) m' H') ∧ ∀ x H', J.yld i H x H' → gT k.K t x (wipe σ vs) H' fun σ2 H2 => wipe σ2 vs = wipe σ vs ∧ tT k tt σ2 H2 fun b H3 =>
      if b = true then tI k mi1 σ2 H3 fun J1 H4 => ∃ W1 : Nat → Nat → Hp → Prop, (∃ m, W1 0 m H4) ∧ ∀ j k' H, W1 j k' H →
        (J1.stop j H ∧ Nx H) ∨ (J1.go j H ∧ ∃ Nx1 : Hp → Prop, (∀ H', Nx1 H' → ∃ k'', k'' < k' ∧ W1 (j + 1) k'' H') ∧ ∀ x H', J1.yld j H x H' → gT k.K t1 x (wipe σ2 vs1) H' fun σ3 H5 => wipe σ3 vs1 = wipe σ2 vs1 ∧ tT k tt1 σ3 H5 fun b H6 =>
          if b = true then tE k te σ3 H6 fun y H7 => ∃ acc, H7 Dl = some (.lst acc) ∧ acc.length < sizeLine ∧ Nx1 (upd H7 Dl (.lst (acc ++ [y]))) else Nx1 H6)
      else Nx H3) := by
  refine ⟨fun i m H' => m = items.length - i ∧ i ≤ items.length ∧ ∃ G' accV' accD' rest, ExtF G G' ∧ (∀ b, b ≠ Dl → G'.P b = G.P b) ∧ G'.P Dl = some (.lst accV') ∧ WG k G' H' ∧ Reps k G'.F accV' accD' ∧ keepP oc G'.μ ∧
    lc2L oc t vs tt mi1 t1 vs1 tt1 te ρ accD'.length (items.drop i) G'.μ = some (rest, μ') ∧ accD' ++ rest = accD ++ row,
    ⟨items.length, by omega, by omega, G, accV, accD, row, ExtF.refl _, fun _ _ => rfl, hP, w, ra, kp, hm, rfl⟩, ?_⟩
  rintro i n H1 ⟨hn, hi, G1, accV1, accD1, rest, e1, hp1, hD1, w1, ra1, kp1, hm1, ha1⟩
  by_cases hlt : i < items.length
  · rw [List.drop_eq_getElem_cons hlt] at hm1
    simp only [lc2L, Option.bind_eq_some_iff] at hm1
    obtain ⟨ρ2, h3, ⟨b, μ2⟩, h4, h5⟩ := hm1
    refine .inr ⟨S.go hlt (eG.trans e1) w1 kp1, fun H' => ∃ G' accV' accD' rest', ExtF G G' ∧ (∀ b, b ≠ Dl → G'.P b = G.P b) ∧ G'.P Dl = some (.lst accV') ∧ WG k G' H' ∧ Reps k G'.F accV' accD' ∧ keepP oc G'.μ ∧
      lc2L oc t vs tt mi1 t1 vs1 tt1 te ρ accD'.length (items.drop (i + 1)) G'.μ = some (rest', μ') ∧ accD' ++ rest' = accD ++ row, fun H' h => ⟨items.length - (i + 1), by omega, rfl, by omega, h⟩, fun x H' y => ?_⟩
    obtain ⟨G2, d, e2, g2, w2, hd, r2⟩ := S.yl hlt (eG.trans e1) w1 kp1 y
    rw [List.getElem?_eq_getElem hlt] at hd
    cases hd
    refine gT_of w2 vs t (env_wipe (e.extF (e1.trans e2.w)) vs) (x := .dat items[i]) r2 h3 hs fun σ2 n2 z2 => ⟨z2.trans (wipe_wipe _ _), ?_⟩
    refine ⟨G2, ρ2, w2, n2, b, μ2, by rw [g2]; exact h4, fun H3 G3 e3 g3 w3 => ?_⟩
    have hD3 : G3.P Dl = some (.lst accV1) := by rw [e3.p, e2.p]; exact hD1
    have hp3 : ∀ b, b ≠ Dl → G3.P b = G.P b := fun b hb => by rw [e3.p, e2.p]; exact hp1 b hb
    cases b with
    | false =>
      simp only [Bool.false_eq_true, if_false] at h5 ⊢
      obtain ⟨hk, h6⟩ := if_so h5
      exact ⟨G3, accV1, accD1, rest, (e1.trans e2.w).trans e3.w, hp3, hD3, w3, Reps.mono (e2.f.trans e3.f) _ ra1, by rw [g3]; exact hk, by rw [g3]; exact h6, ha1⟩
    | true =>
      simp only [if_true, Option.bind_eq_some_iff] at h5 ⊢
      obtain ⟨⟨items1, oc1, μ3⟩, h6, ⟨row1, μ4⟩, h7, h8⟩ := h5
      refine ⟨G3, ρ2, w3, n2.ext e3, items1, oc1, μ3, by rw [g3]; exact h6, fun J1 H4 G4 e4 g4 w4 k4 S4 => ?_⟩
      have hD4 : G4.P Dl = some (.lst accV1) := by rw [e4.p]; exact hD3
      have ra4 : Reps k G4.F accV1 accD1 := Reps.mono ((e2.f.trans e3.f).trans e4.f) _ ra1
      refine lc_of S4 hs1 (ExtF.refl _) w4 (n2.ext (e3.trans e4)) k4 hD4 ra4 (by rw [g4]; exact h7) fun H5 G5 accV5 e5 g5 hp5 hD5 w5 ra5 => ?_
      obtain ⟨hk, h9⟩ := if_so h8
      rw [Option.map_eq_some_iff] at h9
      obtain ⟨⟨rest', μ5⟩, h10, h11⟩ := h9
      cases h11
      refine ⟨G5, accV5, accD1 ++ row1, rest', (((e1.trans e2.w).trans e3.w).trans e4.w).trans e5, fun b hb => ?_, hD5, w5, ra5, by rw [g5]; exact hk, by rw [List.length_append, g5]; exact h10, by rw [List.append_assoc]; exact ha1⟩
      rw [hp5 b hb, e4.p]
      exact hp3 b hb
  · have hi' : i = items.length := by omega
    subst hi'
    rw [List.drop_length] at hm1
    cases hm1
    rw [List.append_nil] at ha1
    exact .inl ⟨S.st (eG.trans e1) w1 kp1, fin H1 G1 accV1 e1 rfl hp1 hD1 w1 (by rw [← ha1]; exact ra1)⟩
section
variable {X : Cx} {pos : Pos} {elt tg iter tg1 iter1 : Expr} {ifs ifs1 : List Expr} {scope : Scope} {own : List (Str × Nat)} {mi mi1 : MI} {t t1 : Tg} {tt tt1 : MT} {te : ME} {vs1 : List Nat}
theorem lc2_tE {k : Kx} {vs : List Nat} {σ : L2.St} {H : Hp} {Q : VK} (hs : ∀ i ∈ t.slots, i ∈ vs) (hs1 : ∀ i ∈ t1.slots, i ∈ vs1) (h : tE k (mLc2 mi t vs tt mi1 t1 vs1 tt1 te) σ H Q) : tLc2 (tI k mi) (gT k.K t) (tT k tt) (tI k mi1) (gT k.K t1) (tT k tt1) (tE k te) vs vs1 σ H Q := by
  obtain ⟨G, ρ, w, e, x, μ', hm, q⟩ := h
  simp only [mLc2, Option.bind_eq_some_iff, Option.map_eq_some_iff] at hm
  obtain ⟨⟨items, oc, μ1⟩, h1, ⟨row, μ2⟩, h2, h3⟩ := hm
  cases h3
  refine ⟨G, ρ, w, e, items, oc, μ1, h1, fun J H1 G1 e1 g1 w1 k1 S Dl hD => ?_⟩
  have hn : G1.P Dl = none := w1.ap.free hD
  refine lc2_of S hs hs1 (G := { G1 with P := upd G1.P Dl (.lst []) }) (accV := []) (accD := []) ⟨Same.refl _, fun _ _ _ h => h, [], by simp⟩ (w1.pin hD) (EnvOk.extF (G := G1) (G' := { G1 with P := upd G1.P Dl (.lst []) }) ⟨Same.refl _, fun _ _ _ h => h, [], by simp⟩ (e.ext e1)) k1 upd_same trivial (by show lc2L _ _ _ _ _ _ _ _ _ _ _ _ G1.μ = _; rw [g1]; exact h2) fun H' G' accV' e' g' hp' hD' w' ra' => ?_
  obtain ⟨G2, e2, g2, w2, r2⟩ := pin_end hn hp' hD' w' ⟨e'.f, e'.o, e'.i⟩ ra'
  exact q _ H' G2 (e1.trans e2) (g2.trans g') w2 r2
theorem ex_lc2 (hc : X.calm = true) (hN : X.N.Nodup) (hi : IX X tg iter mi) (ok : BlkOk X.N X.env.scope scope own) (hv1 : ∀ i ∈ vs1, i ∈ own.map (·.2))
    (hg : ∀ (s : Shared) (H : Hp) (C : Addr) (cl : List (Str × Addr)) (fp : List Addr), PG (X.blk s H scope (compEnvC scope cl C X.env) fp) tg (gT X.K t))
    (ht : ∀ (s : Shared) (H : Hp) (C : Addr) (cl : List (Str × Addr)) (fp : List Addr), QX (X.blk s H scope (compEnvC scope cl C X.env) fp) ifs tt)
    (hi1 : ∀ (s : Shared) (H : Hp) (C : Addr) (cl : List (Str × Addr)) (fp : List Addr), IX (X.blk s H scope (compEnvC scope cl C X.env) fp) tg1 iter1 mi1)
    (hg1 : ∀ (s : Shared) (H : Hp) (C : Addr) (cl : List (Str × Addr)) (fp : List Addr), PG (X.blk s H scope (compEnvC scope cl C X.env) fp) tg1 (gT X.K t1))
    (ht1 : ∀ (s : Shared) (H : Hp) (C : Addr) (cl : List (Str × Addr)) (fp : List Addr), QX (X.blk s H scope (compEnvC scope cl C X.env) fp) ifs1 tt1)
    (he : ∀ (s : Shared) (H : Hp) (C : Addr) (cl : List (Str × Addr)) (fp : List Addr), EX (X.blk s H scope (compEnvC scope cl C X.env) fp) elt te)
    (hs : ∀ x, foldedSetIterable iter X.env x = pure x) (hs1 : ∀ env x, foldedSetIterable iter1 env x = pure x) (hv : ∀ i ∈ t.slots, i ∈ own.map (·.2)) (hvt : ∀ i ∈ t1.slots, i ∈ vs1) :
    EX X (.ListComp elt [⟨tg, iter, ifs, 0⟩, ⟨tg1, iter1, ifs1, 0⟩] scope pos) (mLc2 mi t (own.map (·.2)) tt mi1 t1 vs1 tt1 te) :=
  PE.mono (pe_lc2 (te := tE (kx X) te) (tt := tT (kx X) tt) (tt1 := tT (kx X) tt1) (wi1 := tI (kx X) mi1) (g1 := gT X.K t1) hc hN hi ok hv1 hg ht hi1 hg1 ht1 he hs hs1) fun σ H Q h => lc2_tE hv hvt h
end
end PL

set_option Elab.async false
set_option linter.all false
set_option maxRecDepth 100000
namespace PL
open PySem PySem.Spec PyProof.Rows L2

/-! ### calls with keywords, the names in the def's order -/
abbrev KX (X : Cx) (kws : List Keyword) (m : MA) : Prop := PK X kws (tA (kx X) m)
section
variable {X : Cx} {pos kpos p : Pos} {nm : Option Str} {e : Expr} {es : List Expr} {kws : List Keyword} {m : ME} {am km : MA}
theorem _root_.L2.PK.mono {X : Cx} {kws : List Keyword} {t t' : TA} (h : PK X kws t) (w : ∀ σ H Q, t' σ H Q → t σ H Q) : PK X kws t' := ⟨fun pos pins s σ H Q I hw => h.run pos pins s σ H Q I (w _ _ _ hw)⟩
theorem kx_nil : KX X [] aNil := pk_nil.mono fun _ _ _ h => anil_of h
theorem kx_cons (ha : EX X e m) (hr : KX X kws am) : KX X (⟨nm, e, kpos⟩ :: kws) (aCons m am) := (pk_cons ha hr).mono fun _ _ _ h => acons_of h
def gK {α : Type} (n : Nat) (us ws : List α) : List α := if us.length = n then us ++ ws else []
theorem kbinds {K : PySem.W.Frag} {fd : FuncData} {ps ks : List Str} {n : Nat} (hp : ps ≠ []) (h : ∀ us ws : List Value, us.length = n → us.length + ws.length = ps.length → bindArgs fd ⟨us, ks.zip ws⟩ = pure (ps.zip (us ++ ws))) : KBinds K fd ps ks (gK n) (gK n) where
  to := fun s us ws _ hl => by
    unfold gK at hl ⊢
    by_cases hn : us.length = n
    · rw [if_pos hn] at hl ⊢
      exact .of_eq (h us ws hn (by rw [← List.length_append]; exact hl))
    · rw [if_neg hn] at hl
      exact absurd (List.length_eq_zero_iff.mp hl.symm) hp
  rel := fun {vs us zs ws} r rz => by
    unfold gK
    rw [r.length]
    by_cases hn : us.length = n
    · rw [if_pos hn, if_pos hn]
      clear hn
      induction r with
      | nil => exact rz
      | cons a _ ih => exact .cons a ih
    · rw [if_neg hn, if_neg hn]; exact .nil
theorem vreps_app {k : Kx} {G : Gh} : ∀ {vs : List V} {xs : List PV} {zs : List V} {ys : List PV}, VReps k G vs xs → VReps k G zs ys → VReps k G (vs ++ zs) (xs ++ ys)
  | [], [], _, _, _, h => h
  | [], _ :: _, _, _, h, _ => h.elim
  | _ :: _, [], _, _, h, _ => h.elim
  | _ :: vs, _ :: xs, _, _, h, h' => ⟨h.1, vreps_app (vs := vs) (xs := xs) h.2 h'⟩
def mCallK (fn : Fn) (n : Nat) (am km : MA) : ME := fun ρ μ => (am ρ μ).bind fun p => (km ρ p.2).bind fun q => if p.1.length = n then fn (p.1 ++ q.1) q.2 else none
theorem callK_of {k : Kx} {fn : Fn} {n : Nat} {E : XK} {σ : L2.St} {H : Hp} {Q : VK} (h : tE k (mCallK fn n am km) σ H Q) : tCallK (spF k fn) (gK n) E (tA k am) (tA k km) σ H Q := by
  obtain ⟨G, ρ, w, e, x, μ', hm, q⟩ := h
  simp only [mCallK, Option.bind_eq_some_iff] at hm
  obtain ⟨⟨ps, μ1⟩, h1, ⟨zs, μ2⟩, h2, h3⟩ := hm
  obtain ⟨hn, h4⟩ := if_so h3
  refine ⟨G, ρ, w, e, ps, _, h1, fun vs H1 G1 e1 g1 w1 r1 => ?_⟩
  refine ⟨G1, ρ, w1, e.ext e1, zs, _, by rw [g1]; exact h2, fun us H2 G2 e2 g2 w2 r2 => ?_⟩
  refine ⟨G2, ps ++ zs, w2, ?_, x, μ', by rw [g2]; exact h4, fun v' H' G' e' g' w' r' => q v' H' G' ((e1.trans e2).trans e') g' w' r'⟩
  unfold gK
  rw [if_pos (by rw [r1.length]; exact hn)]
  exact vreps_app (r1.ext e2) r2
variable {k : Nat} {f : Addr} {fd : FuncData} {ps ks : List Str} {fn : Fn} {x : Str} {n : Nat}
theorem ex_callK (F : FnOk X.prog X.w X.K X.mg X.base CX0 k f fd ps (spF (kx X) fn)) (hr : Room k X.A) (hg : Gl X x) (hm : X.mg x = some (.ref f)) (hk : PySem.W.keepIn X.K (.ref f) = true) (hb : KBinds X.K fd ps ks (gK n) (gK n))
    (ha : AX X (e :: es) am) (hkw : KX X kws km) (hall : (backToKw pos (keywordEach kws X.env)).all (·.1.isSome) = true := by rfl) (hks : (backToKw pos (keywordEach kws X.env)).filterMap (·.1) = ks := by rfl)
    (hdb : (x == ("__debug__" : Str)) = false := by decide) (he : starEach (e :: es) X.env = (false, eval e X.env) :: starEach es X.env := by rfl)
    (hpl : ((backTo pos (starEach (e :: es) X.env)).any (·.1) || (backToKw pos (keywordEach kws X.env)).any (·.1.isNone)) = false := by rfl) :
    EX X (.Call (.Name x p) (e :: es) kws pos) (mCallK fn n am km) := (pe_callK F hr hg hm hk hb pass0 ha hkw hall hks hdb he hpl).mono fun _ _ _ h => callK_of h
/-- f(k = v, ..), nothing by position -/
theorem pe_callK0 {g : List Value → List Value → List Value} {gV : List V → List V → List V} {CX : CXT} {sp : Sp} {E : XK} {tk : TA} (F : FnOk X.prog X.w X.K X.mg X.base CX k f fd ps sp) (hr : Room k X.A) (hg : Gl X x) (hm : X.mg x = some (.ref f)) (hk : PySem.W.keepIn X.K (.ref f) = true) (hb : KBinds X.K fd ps ks g gV) (hx : Passes CX X E)
    (hkw : PK X kws tk) (hall : (backToKw pos (keywordEach kws X.env)).all (·.1.isSome) = true := by rfl) (hks : (backToKw pos (keywordEach kws X.env)).filterMap (·.1) = ks := by rfl)
    (hdb : (x == ("__debug__" : Str)) = false := by decide)
    (hpl : ((backTo pos (starEach [] X.env)).any (·.1) || (backToKw pos (keywordEach kws X.env)).any (·.1.isNone)) = false := by rfl) :
    PE X (.Call (.Name x p) [] kws pos) (tCallK sp gV E tNil tk) := by
  refine ⟨fun pins s σ H Q I h => ?_⟩
  refine wpAny_Call_Name_kw (ld_glob I hg hm ?_ hdb)
  refine PySem.W.callWith_KW0 (h₀ := X.base) I.ok.mod.kin hk hall (thn (hkw.run pos pins s σ H _ I h) fun ws s2 ⟨zs, H2, I2, rz, q2⟩ => ⟨I2.kIn, ?_⟩) hpl
  rw [hks]
  exact run_fnk (us := []) (vs := []) F hr hb hx I2 .nil rz q2
theorem ex_callK0 (F : FnOk X.prog X.w X.K X.mg X.base CX0 k f fd ps (spF (kx X) fn)) (hr : Room k X.A) (hg : Gl X x) (hm : X.mg x = some (.ref f)) (hk : PySem.W.keepIn X.K (.ref f) = true) (hb : KBinds X.K fd ps ks (gK 0) (gK 0))
    (hkw : KX X kws km) (hall : (backToKw pos (keywordEach kws X.env)).all (·.1.isSome) = true := by rfl) (hks : (backToKw pos (keywordEach kws X.env)).filterMap (·.1) = ks := by rfl)
    (hdb : (x == ("__debug__" : Str)) = false := by decide)
    (hpl : ((backTo pos (starEach [] X.env)).any (·.1) || (backToKw pos (keywordEach kws X.env)).any (·.1.isNone)) = false := by rfl) :
    EX X (.Call (.Name x p) [] kws pos) (mCallK fn 0 aNil km) := (pe_callK0 F hr hg hm hk hb pass0 hkw hall hks hdb hpl).mono fun σ H Q h => by
  have h2 := callK_of (E := E0) h
  exact anil_of h2
end

/-! ### {} -/
section
variable {X : Cx} {pos : Pos}
def mDct0 : ME := fun _ μ => some (.dat (.dct false [] []), μ)
def mDct0C (t : Bool) : ME := fun _ μ => some (.cell μ.length, μ ++ [.flat (.dct t [] [])])
theorem ex_dct0 : EX X (.Dict [] [] pos) mDct0 := pe_dnewK.mono fun σ H Q h p hp => by
  obtain ⟨G, ρ, w, e, x, μ', hm, q⟩ := h
  cases hm
  exact q _ _ _ (w.extF hp) rfl (w.new hp) ⟨p, rfl, [], upd_same, rfl, trivial⟩
theorem ex_dct0K : EX X (.Dict [] [] pos) (mDct0C false) := pe_dnewK.mono fun σ H Q h p hp => by
  obtain ⟨G, ρ, w, e, x, μ', hm, q⟩ := h
  cases hm
  exact q _ _ _ (w.extC _) rfl (w.newCell (o := .dK []) hp trivial (d := .dct false [] []) ⟨rfl, trivial⟩) ⟨p, by show (G.ι ++ [p])[_]? = _; rw [← w.len]; simp, rfl⟩
theorem ex_dct0T : EX X (.Dict [] [] pos) (mDct0C true) := pe_dnewT.mono fun σ H Q h p hp => by
  obtain ⟨G, ρ, w, e, x, μ', hm, q⟩ := h
  cases hm
  exact q _ _ _ (w.extC _) rfl (w.newCell (o := .dT []) hp trivial (d := .dct true [] []) ⟨rfl, trivial⟩) ⟨p, by show (G.ι ++ [p])[_]? = _; rw [← w.len]; simp, rfl⟩
end

/-! ### sorted(list or tuple) of data of one kind -/
section
open PyProof.Rows PySem.W PySem.Calls
theorem collect_tup {prog : Program} {w : World} {A : Around} {E : Value → Shared → Prop} {s : Shared} {l : Addr} {vs : List Value} {Q : List Value → Shared → Prop} (hl : s.heap.IsTuple l vs.toArray)
    (h : Q vs { s with heap := (s.heap.push (seqObj "list" #[] 0)).update s.heap.objs.size (Obj.mapSeq (· ++ vs.toArray)) }) (hsz : vs.length ≤ sizeLine) :
    wpAny (model prog w) A (collect (.ref l)) Q E s := by
  obtain ⟨o, ho, hc, n, hd⟩ := id hl
  unfold collect
  refine wpAny_bind (wpAny_runValue (codeAny_builtin entry_proto_collect' ?_))
  show wpAny _ _ (do again (.builtin "list.__iadd__" ⟨[← newList [], .ref l], []⟩)) _ _ s
  refine wpAny_bind (wpAny_newList (wpAny_pure ⟨Code.quiet_builtin _ (by decide +kernel), codeAny_builtin entry_list_iadd' ?_⟩))
  show wpAny _ _ (Builtin.List.listExtendWith (.ref s.heap.objs.size) (.ref l) (.ref s.heap.objs.size)) _ _ { s with heap := s.heap.push (seqObj "list" #[] 0) }
  unfold Builtin.List.listExtendWith
  have ho' : (s.heap.push (seqObj "list" #[] 0)).get? l = some o := Heap.get?_push_of_some _ ho
  refine wpAny_bind (wpAny_typeOf (T := "tuple") ⟨o, ho', hc⟩ ?_)
  have ht : (Value.type "tuple" == Value.type "tuple") = true := by rfl
  rw [if_pos (by rw [ht]; simp)]
  refine wpAny_bind (listItems_at ho' hd ?_)
  refine wpAny_bind (listItems_at (xs := #[]) (n := 0) (Heap.get?_push_size _ rfl) rfl ?_)
  rw [if_neg (by simp)]
  refine wpAny_bind (listUpdate_at (xs := #[]) (n := 0) (Heap.get?_push_size _ rfl) rfl ?_ (Nat.zero_le _) (by show (#[] ++ vs.toArray).size ≤ sizeLine + 1; simp only [Array.size_append, List.size_toArray, List.length_nil]; omega))
  refine wpAny_pure ?_
  show wpAny (model prog w) A (do
      let o ← load s.heap.objs.size
      match o.data with
      | .seq xs _ => pure xs.toList
      | _ => unsupported "internal:collect") Q E { s with heap := (s.heap.push (seqObj "list" #[] 0)).update s.heap.objs.size (Obj.mapSeq (· ++ vs.toArray)) }
  refine wpAny_bind (wpAny_load (get?_update_seq (Heap.get?_push_size _ rfl) _) ?_)
  show wpAny _ _ (pure ((#[] : Array Value) ++ vs.toArray).toList) Q E _
  rw [show ((#[] : Array Value) ++ vs.toArray).toList = vs by simp]
  exact wpAny_pure h
theorem sorted_valsT {prog : Program} {w : World} {A : Around} {E : Value → Shared → Prop} {s : Shared} {κ : KeyKind} {l : Addr} {vs : List Value} {Q : Value → Shared → Prop} (hl : s.heap.IsTuple l vs.toArray) (S : SortsAt prog w A.in1.in1 { s with heap := sortingHeap (copyHeap s.heap vs) (s.heap.objs.size + 1) vs } κ vs) (hL : vs.length ≤ sizeLine)
    (h : Q (.ref (s.heap.objs.size + 1)) { s with heap := sortedAll s.heap vs (sortVals κ false vs vs).toArray }) : wpAny (model prog w) A (call (.builtin "sorted") [.ref l]) Q E s := by
  refine call_function_entry_kw kind_sorted plain_sorted entry_sorted (args_sorted1 _) ?_
  unfold Builtin.«sorted»
  refine wpAny_bind (m := checkCount "sorted" 1 1 _) (wpAny_pure ?_)
  refine wpAny_bind (collect_tup hl ?_ hL)
  refine wpAny_bind (wpAny_newList ?_ hL)
  have hsz : ((s.heap.push (seqObj "list" #[] 0)).update s.heap.objs.size (Obj.mapSeq (· ++ vs.toArray))).objs.size = s.heap.objs.size + 1 := by
    rw [Heap.size_update, size_push']
  show wpAny _ _ _ _ _ { s with heap := copyHeap s.heap vs }
  rw [hsz]
  refine wpAny_bind (wpAny_holding (wpAny_call_entry_kw slot_list_sort ⟨_, copyHeap_at s.heap vs, rfl⟩ entry_list_sort ?body (args_list_sort _)))
  case body =>
    show wpAny (model prog w) A.in1.in1 (Builtin.«list.sort» ⟨[.ref (s.heap.objs.size + 1)], []⟩) _ _ _
    exact list_sort_vals (s := { s with heap := copyHeap s.heap vs }) (copyHeap_at s.heap vs) S hL ⟨_, rfl, wpAny_pure ⟨_, rfl, h⟩⟩
end
open Classical in
noncomputable def sortL (ds : List D) : Option D := if okNs ds 50 = true ∧ PySem.W.AllAlike (ds.map D.py) ∧ PySem.W.Sortable (ds.map D.py) ∧ ds.length ≤ lim then some (.lst (ds.mergeSort (PySem.W.dataLe false D.py))) else none
noncomputable def sortD : D → Option D
  | .lst ds => sortL ds
  | .tup ds => sortL ds
  | _ => none
def rSortD (K : PySem.W.Frag) : List V → Hp → VK → Prop := fun vs H Q => ∃ (t : Bool) (a : Addr) (xs : List V) (ds : List D) (R : V → D → Prop), vs = [.ref a] ∧ SqA t K H a xs ∧ DpAll K H xs (ds.map D.py) ∧ PySem.W.EachIs R xs ds ∧
  PySem.W.AllAlike (ds.map D.py) ∧ PySem.W.Sortable (ds.map D.py) ∧ (∀ d ∈ ds, d.py.depth ≤ 50) ∧ ∀ ys p, PySem.W.EachIs R ys (ds.mergeSort (PySem.W.dataLe false D.py)) → H p = none → Q (.ref p) (upd H p (.lst ys))
theorem each_vals {R : V → D → Prop} : ∀ {out : List Value} {ds : List D}, PySem.W.EachIs (fun v d => ∃ x, RelV x v ∧ R x d) out ds → ∃ ys, Vals ys out ∧ PySem.W.EachIs R ys ds
  | _, _, .nil => ⟨[], .nil, .nil⟩
  | _, _, .cons ⟨x, r, h⟩ t => by
    obtain ⟨ys, h1, h2⟩ := each_vals t
    exact ⟨x :: ys, .cons r h1, .cons h h2⟩
theorem each_in {R : V → D → Prop} : ∀ {xs : List V} {its : List Value} {ds : List D}, Vals xs its → PySem.W.EachIs R xs ds → PySem.W.EachIs (fun v d => ∃ x, RelV x v ∧ R x d) its ds
  | _, _, _, .nil, h => by
    cases h
    exact .nil
  | _, _, _, .cons r t, h => by
    cases h with
    | cons h1 h2 => exact .cons ⟨_, r, h1⟩ (each_in t h2)
section
variable {X : Cx}
theorem cr_sortD (hu : X.A.units + 65 < cLine) : CallR X (.builtin "sorted") (rSortD X.K) := by
  intro pins s σ H vs us Q I r h
  obtain ⟨t, a, xs, ds, R, rfl, hs, hd, hR, hal, hso, hdep, q⟩ := h
  obtain ⟨its, rv, hl, hlt⟩ := sq_its I hs
  obtain ⟨u, rfl, ru⟩ := vals1 r
  obtain rfl : u = Value.ref a := ru
  obtain ⟨as, ra⟩ := Dp.readsAll I _ _ _ hd rv
  have er := PySem.W.readsAll_each D.py ra
  have e := each_in rv hR
  have hz : its.length ≤ sizeLine := by
    rw [← rv.length]
    cases t
    · obtain ⟨_, _, _, hz⟩ := I.list hs; exact hz
    · obtain ⟨_, _, _, hz⟩ := I.tuple hs; exact hz
  have er' : PySem.W.EachIs (fun v b => ∃ as, Reads (PySem.W.sortingHeap (PySem.W.copyHeap s.heap its) (s.heap.objs.size + 1) its) v b.py as) its ds := er.mono fun _ _ ⟨as, r⟩ => ⟨as, PyProof.Rows.Reads.keeps (fun _ _ => PySem.W.sorting_copy_old) r⟩
  have S := PySem.W.SortsAt.data (prog := X.prog) (w := X.w) (A := X.A.in1.in1) (s := { s with heap := PySem.W.sortingHeap (PySem.W.copyHeap s.heap its) (s.heap.objs.size + 1) its }) (PySem.W.each_map (R := fun v d => ∃ as, Reads (PySem.W.sortingHeap (PySem.W.copyHeap s.heap its) (s.heap.objs.size + 1) its) v d as) D.py er') hal hso
    (PySem.W.bound_map fun b hb => Nat.lt_of_le_of_lt (show X.A.in1.in1.units + b.py.depth ≤ X.A.units + 65 from by have := hdep b hb; show X.A.units + 1 + 1 + _ ≤ _; omega) hu)
  have out := PySem.W.sortVals_data false e er' hal
  have fin : EP X pins σ Q (.ref (s.heap.objs.size + 1)) { s with heap := PyProof.Rows.sortedAll s.heap its (PySem.W.sortVals (PySem.W.dataKind (PySem.W.sortingHeap (PySem.W.copyHeap s.heap its) (s.heap.objs.size + 1) its) (ds.map D.py)) false its its).toArray } := by
    obtain ⟨ys, k1, k2⟩ := each_vals out
    obtain ⟨ep, he'⟩ := PyProof.Rows.sortedAll_at s.heap its (PySem.W.sortVals (PySem.W.dataKind (PySem.W.sortingHeap (PySem.W.copyHeap s.heap its) (s.heap.objs.size + 1) its) (ds.map D.py)) false its its).toArray
    have hlen : ys.length ≤ sizeLine := by
      rw [k2.length, List.length_mergeSort, ← e.length]; exact hz
    exact ⟨.ref _, upd H (s.heap.objs.size + 1) (.lst ys), I.laid (t' := s.toks) (fun _ _ => PyProof.Rows.sortedAll_old) (Nat.le_succ _) ⟨hlen, _, ep, k1, he'⟩, rfl, q _ _ k2 (I.hok.fresh (Nat.le_succ _))⟩
  cases t
  · exact PySem.W.sorted_vals hl S hz fin
  · exact sorted_valsT hl S hz fin
end
theorem each_reps {k : Kx} {F : Hp} : ∀ {xs : List V} {ds : List D}, PySem.W.EachIs (Rep k F) xs ds → Reps k F xs ds
  | _, _, .nil => trivial
  | _, _, .cons h t => ⟨h, each_reps t⟩
theorem reps_each {k : Kx} {F : Hp} : ∀ {ds : List D} {xs : List V}, Reps k F xs ds → PySem.W.EachIs (Rep k F) xs ds
  | [], [], _ => .nil
  | [], _ :: _, h => h.elim
  | _ :: _, [], h => h.elim
  | _ :: _, _ :: _, h => .cons h.1 (reps_each h.2)
theorem r_sortL {k : Kx} {G : Gh} {H : Hp} {t : Bool} {a : Addr} {xs : List V} {ds : List D} {z : D} {Q : VK} (w : WG k G H) (h1 : SqA t k.K H a xs) (h2 : Reps k G.F xs ds) (hf : sortL ds = some z) (q : KD k G Q z) : rSortD k.K [.ref a] H Q := by
  obtain ⟨⟨b1, b2, b3, b4⟩, e⟩ := if_so hf
  cases e
  refine ⟨t, a, xs, ds, Rep k G.F, rfl, h1, ?_, reps_each h2, b2, b3, fun d hd => ?_, fun ys p he hp => ?_⟩
  · have := dps_of w.fr ds 50 b1 h2
    rwa [pys_map] at this
  · rw [okNs_all, List.all_eq_true] at b1
    exact (lay_of d 50 (b1 d hd)).2
  · exact KD.newL q w hp (each_reps he)
theorem r_sortD {k : Kx} : C1H k sortD (rSortD k.K) := by
  intro G H x dx z Q w rx hf q
  unfold sortD at hf
  split at hf
  · obtain ⟨a, xs, e1, h1, h2⟩ := repH_lst w.fr rx
    subst e1
    exact r_sortL (t := false) w h1 h2 hf q
  · obtain ⟨a, xs, e1, h1, h2⟩ := repH_tup w.fr rx
    subst e1
    exact r_sortL (t := true) w h1 h2 hf q
  · cases hf
section
variable {X : Cx} {pos p : Pos} {e : Expr} {am : MA}
theorem ex_sorted (hu : X.A.units + 65 < cLine) (hg : Gl X "sorted") (hm : X.mg "sorted" = none) (ha : AX X [e] am) (hp : PlainA X pos e [] := by exact ⟨rfl, rfl⟩) : EX X (.Call (.Name "sorted" p) [e] [] pos) (mCB (f1 sortD) am) := ex_callB (cr_sortD hu) (CH.one r_sortD) hg hm (by decide +kernel) ha (hp := hp)
end
end PL

set_option Elab.async false
set_option linter.all false
set_option maxRecDepth 100000
namespace PL
open PySem PySem.Spec PyProof.Rows L2

/-! ### dict comprehensions: keys ints or texts, or tuples of them -/
def dO (t : Bool) : HO := match t with
  | true => .dT []
  | false => .dK []
theorem dO_mut (t : Bool) : Mut (some (dO t)) := by cases t <;> trivial
theorem dO_empty (t : Bool) {P : Program} {w : World} {H : Hp} (h : Heap) (hb : sysModules < h.objs.size) : ObjOk P w H (h.push { cls := .type "dict", data := .dict #[] }) h.objs.size (dO t) := by
  cases t
  · exact dk_empty h hb
  · exact dt_empty h hb
theorem d_setA {X : Cx} {pins : List (Addr × Obj)} {σ : L2.St} {H H' : Hp} {s : Shared} {E : Value → Shared → Prop} {a : Addr} {y v : V} {u r : Value} {Q : Unit → Shared → Prop} (hu : X.A.units + 2 < cLine) (I : L2.Inv X pins σ H s) (g : DPut H a y v H')
    (ry : RelV y u) (rv : RelV v r) (h : ∀ s', L2.Inv X pins σ H' s' → Q () s') : wpAny (model X.prog X.w) X.A (dictSet a u r) Q E s := by
  rcases g with ⟨kvs, k, e, ey, l, eH⟩ | ⟨kvs, k, b, e, ey, eb, l, eH⟩
  · subst ey eH
    exact d_dictSet I e l ry rv h
  · subst ey eH
    cases (show u = Value.ref b from ry)
    obtain ⟨z, hd, xs, rel, dd⟩ := dt_of I.hok e
    have hz : xs.length ≤ sizeLine := by rw [← Paired.length rel]; exact z
    have hl : (putK kvs k v).length ≤ sizeLine := by have := length_putK kvs k v; omega
    refine wpAny_dictSet_heap (hsz := hz) (show (tupleKind (mixKind X.prog X.w)).room X.A from by show X.A.units < cLine; omega) (key_of I.hok eb) dd fun h' dd' hs => h _ ?_
    obtain ⟨q, es, ep, hq, h2, h3, h4, _, h5⟩ := dd'
    refine d_write I (by rw [e]; exact True.intro) hs ⟨q, hq⟩ ⟨hl, hd, _, (rel.put k eb rv).keeps fun c ys ec => ?_, q, es, ep, hq, h2, h3, h4, h5⟩
    rw [upd_ne (ne_of ec e (fun z => nomatch z))]
    exact ec
def tDcA (t : Bool) (wi : TI) (g : TG) (tt : TT) (tk tv : TE) (vs : List Nat) : TE := fun σ H Q => wi σ H fun J H1 => ∀ D, H1 D = none → ∃ W : Nat → Nat → Hp → Prop, (∃ m, W 0 m (upd H1 D (dO t))) ∧ ∀ i m H, W i m H →
  (J.stop i H ∧ Q (.ref D) H) ∨ (J.go i H ∧ ∃ Nx : Hp → Prop, (∀ H', Nx H' → ∃ m', m' < m ∧ W (i + 1) m' H') ∧ ∀ x H', J.yld i H x H' → g x (wipe σ vs) H' fun σ2 H2 => wipe σ2 vs = wipe σ vs ∧ tt σ2 H2 fun b H3 =>
    if b = true then tk σ2 H3 fun y H4 => tv σ2 H4 fun z H5 => ∃ H6, DPut H5 D y z H6 ∧ Nx H6 else Nx H3)
/-- within a block: what is known of the source's own objects -/
theorem src_ok {X : Cx} {s0 : Shared} {H0 H' : Hp} {sc : Scope} {env : PySem.Env} {fp : List Addr} {σ' : L2.St} {s' : Shared} (I : L2.Inv (X.blk s0 H0 sc env fp) [] σ' H' s') (free : ∀ b ∈ fp, H' b = none) : ∀ b ∈ fp, FpOk (X.blk s0 H0 sc env fp) [] H' b := by
  intro b hb
  have e := I.ok.exf b hb
  exact ⟨free b hb, e.1, I.ok.exfs b hb, .inl hb, e.2, fun p hp => nomatch hp⟩
/-- the state between two turns of a block's loop -/
def Between (Y : Cx) (fp : List Addr) (tn : Nat → Heap → Prop) (σ' : L2.St) (W : Nat → Nat → Hp → Prop) (n : Nat) (s' : Shared) : Prop :=
  ∃ i H', L2.Inv Y [] σ' H' s' ∧ tn i s'.heap ∧ (∀ b ∈ fp, H' b = none) ∧ W i n H'
/-- .. reached again behind a turn -/
theorem between_next {Y : Cx} {fp : List Addr} {tn : Nat → Heap → Prop} {tg : Expr} {J : It} {it : Addr} {P : Program} {w : World} {K : PySem.W.Frag} (T : Turn P w K tg J fp it tn) {σ σ8 : L2.St} {vs : List Nat} {W : Nat → Nat → Hp → Prop} {i n : Nat} {h7 : Heap} {s' : Shared} {H' : Hp}
    (st : tn (i + 1) h7) (same : wipe σ8 vs = wipe σ vs) (I : L2.Inv Y ([] ++ pinsAt fp h7) σ8 H' s') (hw : ∃ m, m < n ∧ W (i + 1) m H') : ∃ m, m < n ∧ Between Y fp tn (wipe σ vs) W m s' := by
  obtain ⟨m, hm, w'⟩ := hw
  have stay : ∀ b ∈ fp, ∀ o, h7.get? b = some o → s'.heap.get? b = some o ∧ H' b = none := by
    intro b hb o ho
    have p := I.pin (b, o) (List.mem_append_right _ (List.mem_append_right _ (mem_pinsAt hb ho)))
    exact ⟨p.1, p.2.1⟩
  refine ⟨m, hm, i + 1, H', ?_, T.keep _ _ _ st fun b hb o ho => (stay b hb o ho).1, ?_, w'⟩
  · refine (I.unpinned (pins := [])).weak (by rw [← same, wipe_length]) fun j v e => ?_
    rw [← same] at e
    exact (wipe_some e).1
  · intro b hb
    obtain ⟨o, ho, _⟩ := T.obj _ _ st b hb
    exact (stay b hb o ho).2
/-- the loop of the block, turn by turn; behind it fin -/
theorem dict_loop {X : Cx} {sD s4 : Shared} {HD : Hp} {scope : Scope} {ce : PySem.Env} {fp : List Addr} {it Dd : Addr} {tn : Nat → Heap → Prop} {J : It} {keyE valE tg iter : Expr} {ifs : List Expr} {pos : Pos} {g : TG} {tt : TT} {tk tv : TE} {σ : L2.St} {vs : List Nat} {W : Nat → Nat → Hp → Prop} {Qd : Hp → Prop} {R : PySem.Result → Shared → Prop} {m0 : Nat}
    (hu : X.A.units + 65 < cLine) (hc : X.calm = true) (T : Turn X.prog X.w X.K tg J fp it tn) (pG : PG (X.blk sD HD scope ce fp) tg g) (pT : PTs (X.blk sD HD scope ce fp) ifs tt) (pK : PE (X.blk sD HD scope ce fp) keyE tk) (pV : PE (X.blk sD HD scope ce fp) valE tv)
    (turn : ∀ i m H, W i m H → (J.stop i H ∧ Qd H) ∨ (J.go i H ∧ ∃ Nx : Hp → Prop, (∀ H', Nx H' → ∃ m', m' < m ∧ W (i + 1) m' H') ∧ ∀ x H', J.yld i H x H' → g x (wipe σ vs) H' fun σ2 H2 => wipe σ2 vs = wipe σ vs ∧ tt σ2 H2 fun b H3 =>
      if b = true then tk σ2 H3 fun y H4 => tv σ2 H4 fun z H5 => ∃ H6, DPut H5 Dd y z H6 ∧ Nx H6 else Nx H3))
    (start : Between (X.blk sD HD scope ce fp) fp tn (wipe σ vs) W m0 s4) (fin : ∀ s6 H', L2.Inv (X.blk sD HD scope ce fp) [] (wipe σ vs) H' s6 → Qd H' → R (.ok .next) s6) :
    codeAny (model X.prog X.w) X.A (.compLoop (.DictComp keyE valE [⟨tg, iter, ifs, 0⟩] scope pos) 0 (.ref it) (.ref Dd) ce) R s4 := by
  refine compLoop_anyD (Between (X.blk sD HD scope ce fp) fp tn (wipe σ vs) W) (fun n sa now => ?_) m0 start
  obtain ⟨i, Ha, Ia, sta, na, wa⟩ := now
  rcases turn i n Ha wa with ⟨stop, done⟩ | ⟨go, Nx, less, step⟩
  · refine thnF (T.done (X.blk sD HD scope ce fp) rfl rfl rfl hc i [] sa _ Ha (fun _ _ => False) Ia (src_ok Ia na) sta stop) fun r sb ⟨none', Ib⟩ => ?_
    cases none'
    exact fin sb Ha Ib done
  · refine thnF (T.item (X.blk sD HD scope ce fp) rfl rfl rfl hc i [] sa _ Ha (fun _ _ => False) Ia (src_ok Ia na) sta go) fun r sb ⟨u, some', next⟩ => ?_
    cases some'
    refine thnF next fun _ sc ⟨x, Hc, Ic, rx, yx, stc, nc⟩ => ?_
    refine thnF (pG.run _ sc _ Hc x u _ (Ic.pinned (src_ok Ic nc) (T.obj _ _ stc)) rx (step x Hc yx)) fun _ sd ⟨σd, Hd, Id, same, qd⟩ => ?_
    refine thnF (pT.run _ sd σd Hd _ Id qd) fun b se ⟨He, Ie, qe⟩ => ?_
    cases b
    · simp only [Bool.false_eq_true, if_false] at qe ⊢
      exact between_next T stc same Ie (less _ qe)
    · simp only [if_true] at qe ⊢
      refine thnF (pK.run _ se σd He _ Ie qe) fun kv sf ⟨ky, Hf, If, rk, qf⟩ => ?_
      refine thnF (pV.run _ sf σd Hf _ If qf) fun vv sg ⟨vy, Hg, Ig, rv, Hh, put, nx⟩ => ?_
      exact d_setA (X := X.blk sD HD scope ce fp) (by show X.A.units + 2 < cLine; omega) Ig put rk rv fun sh Ih => between_next T stc same Ih (less _ nx)
section
variable {X : Cx} {t : Bool} {keyE valE tg iter : Expr} {ifs : List Expr} {scope : Scope} {own : List (Str × Nat)} {pos : Pos} {wi : TI} {g : TG} {tt : TT} {tk tv : TE}
/-- {k: v for target in iter if ..} as a value; keys of the kind that t tells -/
theorem pe_dcA (hu : X.A.units + 65 < cLine) (hc : X.calm = true) (hN : X.N.Nodup) (hi : PI X tg iter wi) (ok : BlkOk X.N X.env.scope scope own)
    (hg : ∀ (s : Shared) (H : Hp) (C : Addr) (cl : List (Str × Addr)) (fp : List Addr), PG (X.blk s H scope (compEnvC scope cl C X.env) fp) tg g)
    (ht : ∀ (s : Shared) (H : Hp) (C : Addr) (cl : List (Str × Addr)) (fp : List Addr), PTs (X.blk s H scope (compEnvC scope cl C X.env) fp) ifs tt)
    (hk : ∀ (s : Shared) (H : Hp) (C : Addr) (cl : List (Str × Addr)) (fp : List Addr), PE (X.blk s H scope (compEnvC scope cl C X.env) fp) keyE tk)
    (he : ∀ (s : Shared) (H : Hp) (C : Addr) (cl : List (Str × Addr)) (fp : List Addr), PE (X.blk s H scope (compEnvC scope cl C X.env) fp) valE tv) (hs : ∀ x, foldedSetIterable iter X.env x = pure x) :
    PE X (.DictComp keyE valE [⟨tg, iter, ifs, 0⟩] scope pos) (tDcA t wi g tt tk tv (own.map (·.2))) := by
  refine ⟨fun pins s σ H Q I want => ?_⟩
  rw [arm_eval_DictComp]
  have caught : closureFor scope X.env = pure (cloFrom X.env.cells scope.names []) := closure_ok fun y hy hf => (ok.free y hy hf).elim (fun q => I.ok.has _ (.inl q)) fun q => I.ok.has _ (.inr q)
  -- the source, its iterator
  refine wpAny_comprehension_free rfl hs caught ok.kind (fun y hy hf => by rw [ok.uniq y hy, hf]) (thn (hi.run pins s σ H _ I want) fun _ _ made => thn made fun _ sI told => ?_)
  obtain ⟨it, fp, tn, J, HI, rfl, II, T, begun, apart, turns⟩ := told
  refine wpAny_newObj_type (newEnv_comp ?_)
  -- the new dict at the heap's end
  have dNew : HI sI.heap.objs.size = none := II.hok.fresh (Nat.le_refl _)
  obtain ⟨W, ⟨m0, w0⟩, turn⟩ := turns sI.heap.objs.size dNew
  have ID := II.laid (t' := sI.toks) (h' := sI.heap.push { cls := .type "dict", data := .dict #[] }) (o := dO t) (fun b o q => Heap.get?_push_of_some _ q) (Nat.le_refl _) (dO_empty t sI.heap II.big)
  have small : ∀ b ∈ fp, b < sI.heap.objs.size := fun b hb => by
    obtain ⟨o, ho, _⟩ := T.obj _ _ begun b hb
    exact Heap.lt_size ho
  have apartD : ∀ b ∈ fp, FpOk X pins (upd HI sI.heap.objs.size (dO t)) b ∧ b < (sI.heap.push { cls := .type "dict", data := .dict #[] }).objs.size := fun b hb =>
    ⟨⟨(upd_ne (Nat.ne_of_lt (small b hb))).trans (apart b hb).1, (apart b hb).2⟩, by rw [Heap.size_push]; exact Nat.lt_succ_of_lt (small b hb)⟩
  have IB := block_start ID ok hN apartD
  have begunB : tn 0 (pushCells ((sI.heap.push { cls := .type "dict", data := .dict #[] }).push { cls := .type "dict", data := .dict #[] }) scope.names) := T.keep _ _ _ begun fun b _ o q => pushCells_keeps _ _ _ _ (Heap.get?_push_of_some _ (Heap.get?_push_of_some _ q))
  have noneB : ∀ b ∈ fp, upd HI sI.heap.objs.size (dO t) b = none := fun b hb => (apartD b hb).1.1
  generalize hsD : ({ sI with heap := sI.heap.push { cls := .type "dict", data := .dict #[] } } : Shared) = sD at ID IB
  have eD : sD.heap = sI.heap.push { cls := .type "dict", data := .dict #[] } := by rw [← hsD]
  have pG := hg sD (upd HI sI.heap.objs.size (dO t)) sD.heap.objs.size (cellsFrom (sD.heap.objs.size + 1) scope.names (cloFrom X.env.cells scope.names [])) fp
  have pT := ht sD (upd HI sI.heap.objs.size (dO t)) sD.heap.objs.size (cellsFrom (sD.heap.objs.size + 1) scope.names (cloFrom X.env.cells scope.names [])) fp
  have pK := hk sD (upd HI sI.heap.objs.size (dO t)) sD.heap.objs.size (cellsFrom (sD.heap.objs.size + 1) scope.names (cloFrom X.env.cells scope.names [])) fp
  have pV := he sD (upd HI sI.heap.objs.size (dO t)) sD.heap.objs.size (cellsFrom (sD.heap.objs.size + 1) scope.names (cloFrom X.env.cells scope.names [])) fp
  have env0 : (compEnvC scope (cellsFrom (sD.heap.objs.size + 1) scope.names (cloFrom X.env.cells scope.names [])) sD.heap.objs.size X.env).locals = sD.heap.objs.size := rfl
  have walk := dict_loop (iter := iter) (pos := pos) (R := compPost (model X.prog X.w) X.A X.xe none (EP X pins σ Q) (.ref sI.heap.objs.size) sD.heap.objs.size) hu hc T pG pT pK pV turn ⟨0, _, IB, (by rw [eD]; exact begunB), noneB, w0⟩ fun s6 H6 I6 q6 => by
    have back : L2.Inv X pins σ H6 s6 := ID.call' (ch := fp) I6.os I6.base I6.hok I6.bare fun b hb => ⟨(apartD b hb).1.2.2.2.1, (apartD b hb).1.2.1, (apartD b hb).1.2.2.2.2.1, (apartD b hb).1.2.2.2.2.2⟩
    have gone : H6 sD.heap.objs.size = none := I6.free
    obtain ⟨m, ns, _⟩ := I6.loc
    obtain ⟨f0, f1, f2, f3, f4, f5⟩ := ID.fpOk (Nat.le_refl _) gone
    exact ⟨m, ns, fun h'' sb => ⟨.ref sI.heap.objs.size, H6, back.turned (t' := s6.toks) (fun b o hb q => (sb.2 b hb).trans q) f0 f1 f3 f4 f5, rfl, q6⟩⟩
  subst hsD
  exact codeAny_compStart_dict walk (T.self X.A 0 _ _ _ begunB walk)
end
open Classical in
noncomputable def dcL (b : Bool) (oc : Option (Nat × Cell)) (t : Tg) (vs : List Nat) (tt : MT) (tk tv : ME) (ρ : Env) : List D → Sto → List D → List D → Option ((List D × List D) × Sto)
  | [], μ, ks, ws => some ((ks, ws), μ)
  | d :: ds, μ, ks, ws => (bind1 t (.dat d) (wipeE ρ vs)).bind fun ρ1 => (tt ρ1 μ).bind fun p =>
    if p.1 = true then (tk ρ1 p.2).bind fun q => (tv ρ1 q.2).bind fun r => match q.1, r.1 with
      | .dat y, .dat z => if keepP oc r.2 ∧ isKey b y = true ∧ ks.length < lim then dcL b oc t vs tt tk tv ρ ds r.2 (putV ks ws y z).1 (putV ks ws y z).2 else none
      | _, _ => none
    else if keepP oc p.2 then dcL b oc t vs tt tk tv ρ ds p.2 ks ws else none
noncomputable def mDc (b : Bool) (mi : MI) (t : Tg) (vs : List Nat) (tt : MT) (tk tv : ME) : ME := fun ρ μ => (mi ρ μ).bind fun p => (dcL b p.2.1 t vs tt tk tv ρ p.1 p.2.2 [] []).map fun r => (.dat (.dct b r.1.1 r.1.2), r.2)
theorem put_at {k : Kx} {F H : Hp} (e : Same F H) {p : Addr} {o : HO} {b : Bool} {ks ws : List D} {y z : D} {iv vv : V} (hp : H p = some o) (r : ObjRep k F o (.dct b ks ws)) (ri : Rep k F iv y) (rv : Rep k F vv z) (hk : isKey b y = true) (hl : ks.length < lim) :
    ∃ o', Mut (some o') ∧ ObjRep k F o' (.dct b (putV ks ws y z).1 (putV ks ws y z).2) ∧ DPut H p iv vv (upd H p o') := by
  have hs : setD (.dct b ks ws) y z = some (.dct b (putV ks ws y z).1 (putV ks ws y z).2) := by
    show (if isKey b y = true ∧ ks.length < lim then _ else _) = _
    rw [if_pos ⟨hk, hl⟩]
  have := set_of e hp r (.inl ri) rv hs (Q := fun H' => ∃ o', H' = upd H p o' ∧ Mut (some o') ∧ ObjRep k F o' (.dct b (putV ks ws y z).1 (putV ks ws y z).2)) fun o' mu r' => ⟨o', rfl, mu, r'⟩
  rcases this with ⟨a, xs, j, n, e1, e2, e3, _⟩ | ⟨a, H', e1, g, o', e2, mu, r'⟩
  · cases e1
    rw [hp] at e3
    cases e3
    exact r.elim
  · cases e1
    subst e2
    exact ⟨o', mu, r', g⟩
theorem dc_of {k : Kx} {Gs : Gh} {J : It} {items : List D} {oc : Option (Nat × Cell)} (S : Serves k Gs J items oc) {Dl : Addr} {b : Bool} {t : Tg} {vs : List Nat} {tt : MT} {tk tv : ME} {ρ : Env} {σ : L2.St} {K W' : List D} {μ' : Sto} {Stop : Hp → Prop}
    (hs : ∀ i ∈ t.slots, i ∈ vs) {G : Gh} {H : Hp} {o : HO} {ks ws : List D} (eG : ExtF Gs G) (w : WG k G H) (e : EnvOk k G σ ρ) (kp : keepP oc G.μ) (hP : G.P Dl = some o) (ra : ObjRep k G.F o (.dct b ks ws))
    (hm : dcL b oc t vs tt tk tv ρ items G.μ ks ws = some ((K, W'), μ'))
    (fin : ∀ H' G' o', ExtF G G' → G'.μ = μ' → (∀ b, b ≠ Dl → G'.P b = G.P b) → G'.P Dl = some o' → WG k G' H' → ObjRep k G'.F o' (.dct b K W') → Stop H') :
    ∃ W : Nat → Nat → Hp → Prop, (∃ m, W 0 m H) ∧ ∀ i m H, W i m H → (J.stop i H ∧ Stop H) ∨ (J.go i H ∧ ∃ Nx : Hp → Prop, (∀ H', Nx H' → ∃ m', m' < m ∧ W (i + 1) m' H') ∧ ∀ x H', J.yld i H x H' → gT k.K t x (wipe σ vs) H' fun σ2 H2 => wipe σ2 vs = wipe σ vs ∧ tT k tt σ2 H2 fun b H3 =>
      if b = true then tE k tk σ2 H3 fun y H4 => tE k tv σ2 H4 fun z H5 => ∃ H6, DPut H5 Dl y z H6 ∧ Nx H6 else Nx H3) := by
  refine ⟨fun i m H' => m = items.length - i ∧ i ≤ items.length ∧ ∃ G' o' ks' ws', ExtF G G' ∧ (∀ b, b ≠ Dl → G'.P b = G.P b) ∧ G'.P Dl = some o' ∧ WG k G' H' ∧ ObjRep k G'.F o' (.dct b ks' ws') ∧ keepP oc G'.μ ∧
    dcL b oc t vs tt tk tv ρ (items.drop i) G'.μ ks' ws' = some ((K, W'), μ'),
    ⟨items.length, by omega, by omega, G, o, ks, ws, ExtF.refl _, fun _ _ => rfl, hP, w, ra, kp, hm⟩, ?_⟩
  rintro i n H1 ⟨hn, hi, G1, o1, ks1, ws1, e1, hp1, hD1, w1, ra1, kp1, hm1⟩
  by_cases hlt : i < items.length
  · rw [List.drop_eq_getElem_cons hlt] at hm1
    simp only [dcL, Option.bind_eq_some_iff] at hm1
    obtain ⟨ρ2, h3, ⟨c, μ2⟩, h4, h5⟩ := hm1
    refine .inr ⟨S.go hlt (eG.trans e1) w1 kp1, fun H' => ∃ G' o' ks' ws', ExtF G G' ∧ (∀ b, b ≠ Dl → G'.P b = G.P b) ∧ G'.P Dl = some o' ∧ WG k G' H' ∧ ObjRep k G'.F o' (.dct b ks' ws') ∧ keepP oc G'.μ ∧
      dcL b oc t vs tt tk tv ρ (items.drop (i + 1)) G'.μ ks' ws' = some ((K, W'), μ'), fun H' h => ⟨items.length - (i + 1), by omega, rfl, by omega, h⟩, fun x H' y => ?_⟩
    obtain ⟨G2, d, e2, g2, w2, hd, r2⟩ := S.yl hlt (eG.trans e1) w1 kp1 y
    rw [List.getElem?_eq_getElem hlt] at hd
    cases hd
    refine gT_of w2 vs t (env_wipe (e.extF (e1.trans e2.w)) vs) (x := .dat items[i]) r2 h3 hs fun σ2 n2 z2 => ⟨z2.trans (wipe_wipe _ _), ?_⟩
    refine ⟨G2, ρ2, w2, n2, c, μ2, by rw [g2]; exact h4, fun H3 G3 e3 g3 w3 => ?_⟩
    have hD3 : G3.P Dl = some o1 := by rw [e3.p, e2.p]; exact hD1
    have hp3 : ∀ b, b ≠ Dl → G3.P b = G.P b := fun b hb => by rw [e3.p, e2.p]; exact hp1 b hb
    cases c with
    | false =>
      simp only [Bool.false_eq_true, if_false] at h5 ⊢
      obtain ⟨hk, h6⟩ := if_so h5
      exact ⟨G3, o1, ks1, ws1, (e1.trans e2.w).trans e3.w, hp3, hD3, w3, ra1.mono (e2.f.trans e3.f), by rw [g3]; exact hk, by rw [g3]; exact h6⟩
    | true =>
      simp only [if_true, Option.bind_eq_some_iff] at h5 ⊢
      obtain ⟨⟨x, μ3⟩, h6, ⟨u, μ4⟩, h7, h8⟩ := h5
      refine ⟨G3, ρ2, w3, n2.ext e3, x, μ3, by rw [g3]; exact h6, fun v H4 G4 e4 g4 w4 r4 => ?_⟩
      refine ⟨G4, ρ2, w4, (n2.ext e3).ext e4, u, μ4, by rw [g4]; exact h7, fun v5 H5 G5 e5 g5 w5 r5 => ?_⟩
      have hD5 : G5.P Dl = some o1 := by rw [e5.p, e4.p]; exact hD3
      split at h8
      · rename_i yd zd hx hz
        simp only at hx hz
        subst hx hz
        obtain ⟨⟨hk, hy, hl⟩, h9⟩ := if_so h8
        have ra5 : ObjRep k G5.F o1 (.dct b ks1 ws1) := ra1.mono (((e2.f.trans e3.f).trans e4.f).trans e5.f)
        obtain ⟨o', mu, r', g⟩ := put_at w5.fr (w5.ap _ _ hD5) ra5 (Rep.mono e5.f _ r4) r5 hy hl
        refine ⟨_, g, { G5 with P := upd G5.P Dl o' }, o', _, _, ?_, ?_, upd_same, w5.repin hD5, r', by show keepP oc G5.μ; rw [g5]; exact hk, ?_⟩
        · exact ⟨((((e1.trans e2.w).trans e3.w).trans e4.w).trans e5.w).f, ((((e1.trans e2.w).trans e3.w).trans e4.w).trans e5.w).o, ((((e1.trans e2.w).trans e3.w).trans e4.w).trans e5.w).i⟩
        · intro b hb
          show upd G5.P Dl _ b = _
          rw [upd_ne hb, e5.p, e4.p]; exact hp3 b hb
        · show dcL _ _ _ _ _ _ _ _ _ G5.μ _ _ = _
          rw [g5]; exact h9
      · cases h8
  · have hi' : i = items.length := by omega
    subst hi'
    rw [List.drop_length] at hm1
    cases hm1
    exact .inl ⟨S.st (eG.trans e1) w1 kp1, fin H1 G1 o1 e1 rfl hp1 hD1 w1 ra1⟩
theorem dc_end {k : Kx} {G1 G : Gh} {H : Hp} {Dl : Addr} {o o0 : HO} {d : D} (hn : G1.P Dl = none) (hp : ∀ b, b ≠ Dl → G.P b = upd G1.P Dl o0 b) (hD : G.P Dl = some o) (w : WG k G H) (e : ExtF G1 G) (ra : ObjRep k G.F o d) :
    ∃ G', Ext G1 G' ∧ G'.μ = G.μ ∧ WG k G' H ∧ VRep k G' (.ref Dl) (.dat d) := by
  have hF : G.F Dl = none := w.fp hD
  have sP : Same G1.P G.P := fun b o h => by
    have hb : b ≠ Dl := ne_of_none h hn
    rw [hp b hb, upd_ne hb]; exact h
  have hi : Dl ∉ G.ι := fun h => by
    have := w.pi h
    rw [hD] at this
    cases this
  refine ⟨{ G with P := G1.P, F := upd G.F Dl o }, ⟨e.f.trans (same_new hF), rfl, e.o, e.i⟩, rfl, ?_, ?_⟩
  · exact (w.unpin sP).tell (w.ap _ _ hD) hF hn hi (w.wp hD)
  · exact rep_of_obj (ra.mono (same_new hF)) upd_same
theorem dO_rep {k : Kx} {F : Hp} (b : Bool) : ObjRep k F (dO b) (.dct b [] []) := by
  cases b <;> exact ⟨rfl, trivial⟩
theorem dc_tE {k : Kx} {b : Bool} {mi : MI} {t : Tg} {tt : MT} {tk tv : ME} {vs : List Nat} {σ : L2.St} {H : Hp} {Q : VK} (hs : ∀ i ∈ t.slots, i ∈ vs) (h : tE k (mDc b mi t vs tt tk tv) σ H Q) : tDcA b (tI k mi) (gT k.K t) (tT k tt) (tE k tk) (tE k tv) vs σ H Q := by
  obtain ⟨G, ρ, w, e, x, μ', hm, q⟩ := h
  simp only [mDc, Option.bind_eq_some_iff, Option.map_eq_some_iff] at hm
  obtain ⟨⟨items, oc, μ1⟩, h1, ⟨⟨ks, ws⟩, μ2⟩, h2, h3⟩ := hm
  cases h3
  refine ⟨G, ρ, w, e, items, oc, μ1, h1, fun J H1 G1 e1 g1 w1 k1 S Dl hD => ?_⟩
  have hn : G1.P Dl = none := w1.ap.free hD
  refine dc_of (b := b) S hs (G := { G1 with P := upd G1.P Dl (dO b) }) (o := dO b) (ks := []) (ws := []) ⟨Same.refl _, fun _ _ _ h => h, [], by simp⟩ (w1.pin hD) (EnvOk.extF (G := G1) (G' := { G1 with P := upd G1.P Dl (dO b) }) ⟨Same.refl _, fun _ _ _ h => h, [], by simp⟩ (e.ext e1)) k1 upd_same (dO_rep b) (by show dcL _ _ _ _ _ _ _ _ _ G1.μ _ _ = _; rw [g1]; exact h2) fun H' G' o' e' g' hp' hD' w' ra' => ?_
  obtain ⟨G2, e2, g2, w2, r2⟩ := dc_end hn hp' hD' w' ⟨e'.f, e'.o, e'.i⟩ ra'
  exact q _ H' G2 (e1.trans e2) (g2.trans g') w2 r2
section
variable {X : Cx} {pos : Pos} {kx' vx tg iter : Expr} {ifs : List Expr} {scope : Scope} {own : List (Str × Nat)} {mi : MI} {t : Tg} {tt : MT} {tk tv : ME}
theorem ex_dc (b : Bool) (hu : X.A.units + 65 < cLine) (hc : X.calm = true) (hN : X.N.Nodup) (hi : IX X tg iter mi) (ok : BlkOk X.N X.env.scope scope own)
    (hg : ∀ (s : Shared) (H : Hp) (C : Addr) (cl : List (Str × Addr)) (fp : List Addr), PG (X.blk s H scope (compEnvC scope cl C X.env) fp) tg (gT X.K t))
    (ht : ∀ (s : Shared) (H : Hp) (C : Addr) (cl : List (Str × Addr)) (fp : List Addr), QX (X.blk s H scope (compEnvC scope cl C X.env) fp) ifs tt)
    (hk : ∀ (s : Shared) (H : Hp) (C : Addr) (cl : List (Str × Addr)) (fp : List Addr), EX (X.blk s H scope (compEnvC scope cl C X.env) fp) kx' tk)
    (he : ∀ (s : Shared) (H : Hp) (C : Addr) (cl : List (Str × Addr)) (fp : List Addr), EX (X.blk s H scope (compEnvC scope cl C X.env) fp) vx tv)
    (hs : ∀ x, foldedSetIterable iter X.env x = pure x) (hv : ∀ i ∈ t.slots, i ∈ own.map (·.2)) :
    EX X (.DictComp kx' vx [⟨tg, iter, ifs, 0⟩] scope pos) (mDc b mi t (own.map (·.2)) tt tk tv) :=
  PE.mono (pe_dcA (t := b) (tk := tE (kx X) tk) (tv := tE (kx X) tv) (tt := tT (kx X) tt) hu hc hN hi ok hg ht hk he hs) fun σ H Q h => dc_tE hv h
end
end PL

set_option Elab.async false
set_option linter.all false
set_option maxRecDepth 100000
namespace PL
open PySem PySem.Spec PyProof.Rows L2

/-! ### sum over a list or a tuple -/
def sum2D : D → Option D
  | .lst ds => (iL ds).map fun ns => .int ns.sum
  | .tup ds => (iL ds).map fun ns => .int ns.sum
  | _ => none
def rSumA (K : PySem.W.Frag) : List V → Hp → VK → Prop := fun vs H Q => ∃ (t : Bool) (a : Addr) (ns : List Int), vs = [V.ref a] ∧ SqA t K H a (ns.map V.int) ∧ Q (.int ns.sum) H
theorem cr_sumA {X : Cx} (hc : X.calm = true) : CallR X (.builtin "sum") (rSumA X.K) := by
  intro pins s σ H vs us Q I r h
  obtain ⟨t, a, ns, rfl, hs, q⟩ := h
  cases t
  · exact cr_sum hc pins s σ H _ us Q I r ⟨a, ns, rfl, hs, q⟩
  · obtain ⟨its, rv, pp, _⟩ := I.tuple hs
    rw [Vals.ref1 r]
    obtain ⟨xs, hx⟩ := rv.ints.allInts.items
    have hn : numsOf its.toArray.toList = ns := by rw [show its.toArray.toList = its from rfl, rv.ints.numsOf]
    have pp : s.heap.IsTuple a its.toArray := pp
    rw [hx] at pp hn
    rw [nums_intItems] at hn
    refine PySem.W.ktm_sumG (I.ok.hd hc) pp fun h' tk t' hk => ?_
    rw [preSum_eq, List.take_of_length_le (by simp), hn]
    exact ⟨.int _, H, I.kept hk, ⟨_, rfl⟩, q⟩
section
variable {X : Cx} {pos p : Pos} {a b e : Expr} {es : List Expr} {m n : ME} {am km : MA}
theorem ex_sum2 (hc : X.calm = true) (hg : Gl X "sum") (hm : X.mg "sum" = none) (ha : AX X [e] am) (hp : PlainA X pos e [] := by exact ⟨rfl, rfl⟩) : EX X (.Call (.Name "sum" p) [e] [] pos) (mCB (f1 sum2D) am) := ex_callB (cr_sumA hc) (CH.one (by
  intro G H x dx z Q w rx hf q
  unfold sum2D at hf
  split at hf
  · obtain ⟨ns, h1, h2⟩ := Option.map_eq_some_iff.mp hf
    subst h2
    obtain ⟨a, xs, e1, g1, g2⟩ := repH_lst w.fr rx
    exact ⟨false, a, ns, by rw [e1], by rw [← reps_iL h1 g2]; exact g1, q.val w rfl⟩
  · obtain ⟨ns, h1, h2⟩ := Option.map_eq_some_iff.mp hf
    subst h2
    obtain ⟨a, xs, e1, g1, g2⟩ := repH_tup w.fr rx
    exact ⟨true, a, ns, by rw [e1], by rw [← reps_iL h1 g2]; exact g1, q.val w rfl⟩
  · cases hf)) hg hm (by decide +kernel) ha (hp := hp)

section
variable {c : Expr} {l : ME} {op op' : CmpOp} {r r' : R2} {f f' : D → D → Option D}
theorem tx_chain (ho : OpR X (compareOp op) r) (ho' : OpR X (compareOp op') r') (hr : R2H (kx X) f r) (hr' : R2H (kx X) f' r') (ha : EX X a m) (hb : EX X b n) (hc : EX X c l) (hm : lastMarks [op, op'] [b, c] = false := by rfl) :
    TX X (.Compare a [op, op'] [b, c] pos) (mTest (mChain f f' m n l)) := (pt_chain ho ho' ha hb hc hm).mono fun _ _ _ h => chain_of hr hr' (test_of h)
end
/-! ### list + list, the result one that may change -/
def mAddC (a b : ME) : ME := fun ρ μ => (a ρ μ).bind fun p => (b ρ p.2).bind fun q => (derefT q.2 p.1).bind fun x => (derefT q.2 q.1).bind fun y => match x, y with
  | .lst xs, .lst ys => if xs.length + ys.length ≤ lim then some (.cell q.2.length, q.2 ++ [.flat (.lst (xs ++ ys))]) else none
  | _, _ => none
theorem addC_of {k : Kx} {σ : L2.St} {H : Hp} {Q : VK} (h : tE k (mAddC m n) σ H Q) : tOp (rAddAll k.K) (tE k m) (tE k n) σ H Q := by
  obtain ⟨G, ρ, w, e, x, μ', hm, q⟩ := h
  simp only [mAddC, Option.bind_eq_some_iff] at hm
  obtain ⟨⟨p1, μ1⟩, h1, ⟨p2, μ2⟩, h2, dx, h3, dy, h4, h5⟩ := hm
  refine ⟨G, ρ, w, e, p1, μ1, h1, fun v1 H1 G1 e1 g1 w1 r1 => ?_⟩
  refine ⟨G1, ρ, w1, e.ext e1, p2, μ2, by rw [g1]; exact h2, fun v2 H2 G2 e2 g2 w2 r2 => ?_⟩
  have rx := w2.derefT (r1.ext e2) (by rw [g2]; exact h3)
  have ry := w2.derefT r2 (by rw [g2]; exact h4)
  split at h5
  · rename_i xs ys
    obtain ⟨hl, h6⟩ := if_some h5
    cases h6
    obtain ⟨a, us, e3, i1, i2⟩ := repT_lst w2.fr rx
    obtain ⟨b, vs, e4, i3, i4⟩ := repT_lst w2.fr ry
    refine .inr (.inr (.inr ⟨a, b, us, vs, e3, e4, i1, i3, by rw [i2.length, i4.length]; exact lim_le hl, fun p hp => ?_⟩))
    exact q _ _ _ ((e1.trans e2).trans (w2.extC _)) (by show G2.μ ++ _ = _; rw [g2]) (w2.newCell (o := .lst (us ++ vs)) hp trivial (d := .lst (xs ++ ys)) (i2.append i4)) ⟨p, by show (G2.ι ++ [p])[_]? = _; rw [← g2, ← w2.len]; simp, rfl⟩
  · cases h5
theorem ex_addC (ha : EX X a m) (hb : EX X b n) : EX X (.BinOp a .Add b pos) (mAddC m n) := (pe_op op_addAll ha hb).mono fun _ _ _ h => addC_of h
end

/-! ### defs: what a caller knows of a def of the text -/
structure Df (P : Program) (w : World) (K : PySem.W.Frag) (mg : Str → Option Value) (base : Heap) (x : Str) (ps : List Str) (f : Addr) (fd : FuncData) (k : Nat) (fn : Fn) : Prop where
  ok : FnOk P w K mg base CX0 k f fd ps (spF ⟨K, mg⟩ fn)
  nm : mg x = some (.ref f)
  kp : PySem.W.keepIn K (.ref f) = true
  bd : Binds K fd ps []
section
variable {X : Cx} {pos p : Pos} {e : Expr} {es : List Expr} {kws : List Keyword} {am km : MA} {x : Str} {ps ks : List Str} {f : Addr} {fd : FuncData} {k n : Nat} {fn : Fn}
theorem ex_callD (F : Df X.prog X.w X.K X.mg X.base x ps f fd k fn) (hr : Room k X.A) (hg : Gl X x) (ha : AX X (e :: es) am) (hdb : (x == ("__debug__" : Str)) = false := by decide)
    (he : starEach (e :: es) X.env = (false, eval e X.env) :: starEach es X.env := by rfl) (hpl : (backTo pos (starEach es X.env)).any (·.1) = false := by rfl) : EX X (.Call (.Name x p) (e :: es) [] pos) (mCall fn am) :=
  ex_call F.ok hr hg F.nm F.kp F.bd ha hdb he hpl
theorem ex_callD0 (F : Df X.prog X.w X.K X.mg X.base x ps f fd k fn) (hr : Room k X.A) (hg : Gl X x) (hdb : (x == ("__debug__" : Str)) = false := by decide) : EX X (.Call (.Name x p) [] [] pos) (mCall fn aNil) :=
  ex_call0 F.ok hr hg F.nm F.kp F.bd hdb
theorem ex_callDK (F : Df X.prog X.w X.K X.mg X.base x ps f fd k fn) (hb : KBinds X.K fd ps ks (gK n) (gK n)) (hr : Room k X.A) (hg : Gl X x) (ha : AX X (e :: es) am) (hkw : KX X kws km) (hall : (backToKw pos (keywordEach kws X.env)).all (·.1.isSome) = true := by rfl) (hks : (backToKw pos (keywordEach kws X.env)).filterMap (·.1) = ks := by rfl)
    (hdb : (x == ("__debug__" : Str)) = false := by decide) (he : starEach (e :: es) X.env = (false, eval e X.env) :: starEach es X.env := by rfl)
    (hpl : ((backTo pos (starEach (e :: es) X.env)).any (·.1) || (backToKw pos (keywordEach kws X.env)).any (·.1.isNone)) = false := by rfl) : EX X (.Call (.Name x p) (e :: es) kws pos) (mCallK fn n am km) :=
  ex_callK F.ok hr hg F.nm F.kp hb ha hkw hall hks hdb he hpl
theorem ex_callDK0 (F : Df X.prog X.w X.K X.mg X.base x ps f fd k fn) (hb : KBinds X.K fd ps ks (gK 0) (gK 0)) (hr : Room k X.A) (hg : Gl X x) (hkw : KX X kws km) (hall : (backToKw pos (keywordEach kws X.env)).all (·.1.isSome) = true := by rfl) (hks : (backToKw pos (keywordEach kws X.env)).filterMap (·.1) = ks := by rfl)
    (hdb : (x == ("__debug__" : Str)) = false := by decide)
    (hpl : ((backTo pos (starEach [] X.env)).any (·.1) || (backToKw pos (keywordEach kws X.env)).any (·.1.isNone)) = false := by rfl) : EX X (.Call (.Name x p) [] kws pos) (mCallK fn 0 aNil km) :=
  ex_callK0 F.ok hr hg F.nm F.kp hb hkw hall hks hdb hpl
end
/-- a def as it stands behind the top: its object, its name, how it binds -/
structure At (K : PySem.W.Frag) (mg : Str → Option Value) (x qual : Str) (st : Stmt) (ps : List Str) (f : Addr) (fd : FuncData) : Prop where
  fn : Fun K x qual st f fd
  nm : mg x = some (.ref f)
  bd : Binds K fd ps []
section
variable {P : Program} {w : World} {K : PySem.W.Frag} {mg : Str → Option Value} {base : Heap} {x qual : Str} {st : Stmt} {N ps ks : List Str} {f : Addr} {fd : FuncData} {k n : Nat} {m : MS}
theorem df_mk (A : At K mg x qual st ps f fd) (S : FnScope N ps (defScope st))
    (hb : ∀ (cdv : Value) (A : Around) (outer : List PySem.Env) (s : Shared) (H : Hp) (E : XK), Room k (A.deeper (envOfC qual (defScope st) s.heap.objs.size f cdv)) → BX (cxOf CX0 P w K mg base N qual (defScope st) f cdv A outer s H E).nox (defBody st) m) :
    Df P w K mg base x ps f fd (k + 1) (fnOf N.length ps.length m) := ⟨fn_ok A.fn S hb, A.nm, A.fn.kp, A.bd⟩
theorem df_none (A : At K mg x qual st ps f fd) (S : FnScope N ps (defScope st)) : Df P w K mg base x ps f fd 1 (fun _ _ => none) := by
  refine ⟨A.fn.ok S (fun vs H Q E h => ?_) (fun cdv A outer s H vs Q E hr h => ?_), A.nm, A.fn.kp, A.bd⟩
  · obtain ⟨G, xs, _, _, y, μ', hm, _⟩ := h
    cases hm
  · obtain ⟨G, xs, _, _, y, μ', hm, _⟩ := h
    cases hm
theorem Df.up {fn : Fn} {k' : Nat} (F : Df P w K mg base x ps f fd k fn) (h : k ≤ k') : Df P w K mg base x ps f fd k' fn :=
  ⟨⟨F.ok.len, fun A outer s H args us vs Q E hr => F.ok.run A outer s H args us vs Q E (hr.mono h)⟩, F.nm, F.kp, F.bd⟩
theorem kbinds_fun (F : Fun K x qual st f fd) (hp : ps ≠ [])
    (h : ∀ (kV doc pm : Value) (an : Option Addr) (cdv ct : Value) (us ws : List Value), us.length = n → us.length + ws.length = ps.length → bindArgs (PySem.W.fnOf x qual (defArgs st) (defBody st) (defScope st) .none kV doc pm an cdv ct) ⟨us, ks.zip ws⟩ = pure (ps.zip (us ++ ws))) : KBinds K fd ps ks (gK n) (gK n) := by
  obtain ⟨oc, od, kV, doc, pm, an, cdv, ct, osl, rfl, lk, hcd⟩ := F.ex
  exact kbinds hp (h kV doc pm an cdv ct)
theorem hu65 {k : Nat} {A : Around} (hr : Room k A) : A.units + 65 < cLine := by have := hr.un; omega
end

section
variable {w : World} {K : PySem.W.Frag} {mg : Str → Option Value} {h : Heap}
theorem at_mk {x : Str} {st : Stmt} {ps : List Str} {f : Addr} {oc : Value} {od an : Option Addr} {osl : Array (Option Value)} {kV doc pm cdv ct : Value} (X : K.In h) (G : h.Ns mainGlobals mg) (a : PySem.W.nsIn K mainGlobals x = some (some (.ref f)))
    (l : K.lookup f = some ⟨oc, od, .func (PySem.W.fnOf x x (defArgs st) (defBody st) (defScope st) .none kV doc pm an cdv ct), osl⟩) (c : PySem.W.codeIn K cdv x = true) (k : PySem.W.keepIn K (.ref f) = true)
    (b : ∀ (kV doc pm : Value) (an : Option Addr) (cdv ct : Value) (us : List Value), us.length = ps.length → bindArgs (PySem.W.fnOf x x (defArgs st) (defBody st) (defScope st) .none kV doc pm an cdv ct) ⟨us, []⟩ = pure (ps.zip us)) :
    ∃ f fd, At K mg x x st ps f fd := ⟨f, _, ⟨fun_mk l c k, PySem.W.mg_of X G a, (fun_mk l c k).binds b⟩⟩
/-- .. the law's own -/
theorem at_mk1 {x y : Str} {st : Stmt} {f : Addr} {oc : Value} {od an : Option Addr} {osl : Array (Option Value)} {kV doc pm cdv ct : Value} (X : K.In h) (G : h.Ns mainGlobals mg) (a : PySem.W.nsIn K mainGlobals x = some (some (.ref f)))
    (l : K.lookup f = some ⟨oc, od, .func (PySem.W.fnOf x x (defArgs st) (defBody st) (defScope st) .none kV doc pm an cdv ct), osl⟩) (c : PySem.W.codeIn K cdv x = true) (k : PySem.W.keepIn K (.ref f) = true)
    (b : ∀ (kV doc pm : Value) (an : Option Addr) (cdv ct : Value) (u : Value), bindArgs (PySem.W.fnOf x x (defArgs st) (defBody st) (defScope st) .none kV doc pm an cdv ct) ⟨[u], []⟩ = pure [(y, u)]) :
    ∃ f fd, At K mg x x st [y] f fd ∧ ∀ (s : Shared) (u : Value), BindsTo s fd ⟨[u], []⟩ [(y, u)] := ⟨f, _, ⟨fun_mk l c k, PySem.W.mg_of X G a, (fun_mk l c k).binds fun kV doc pm an cdv ct us hl => match us, hl with
  | [u], _ => b kV doc pm an cdv ct u⟩, fun s u => .of_eq (b kV doc pm an cdv ct u)⟩
theorem int_mk {x : Str} {i : Int} {t : Tok} (X : K.In h) (G : h.Ns mainGlobals mg) (a : PySem.W.nsIn K mainGlobals x = some (some (.int i t))) : ∃ t, mg x = some (.int i t) := ⟨t, PySem.W.mg_of X G a⟩
theorem str_mk {x i : Str} {t : Tok} (X : K.In h) (G : h.Ns mainGlobals mg) (a : PySem.W.nsIn K mainGlobals x = some (some (.str i t))) : ∃ t, mg x = some (.str i t) := ⟨t, PySem.W.mg_of X G a⟩
/-- what the values of a tuple or list of the module are -/
inductive Cons1 : Value → D → Prop
  | int (i : Int) (t : Tok) : Cons1 (.int i t) (.int i)
  | str (x : Str) (t : Tok) : Cons1 (.str x t) (.str x)
inductive ConsL : List Value → List D → Prop
  | nil : ConsL [] []
  | cons {v : Value} {d : D} {vs : List Value} {ds : List D} : Cons1 v d → ConsL vs ds → ConsL (v :: vs) (d :: ds)
theorem ConsL.to {k : Kx} {F : Hp} : ∀ {vs : List Value} {ds : List D}, ConsL vs ds → ∃ xs, Vals xs vs ∧ Reps k F xs ds
  | _, _, .nil => ⟨[], .nil, trivial⟩
  | _, _, .cons h t => by
    obtain ⟨xs, h1, h2⟩ := ConsL.to (k := k) (F := F) t
    cases h with
    | int i u => exact ⟨.int i :: xs, .cons ⟨u, rfl⟩ h1, rfl, h2⟩
    | str i u => exact ⟨.str i :: xs, .cons ⟨u, rfl⟩ h1, rfl, h2⟩
theorem tup_mk {x : Str} {p : Addr} {dct : Option Addr} {its : Array Value} {n : Nat} {sl : Array (Option Value)} {ds : List D} (X : K.In h) (G : h.Ns mainGlobals mg) (a : PySem.W.nsIn K mainGlobals x = some (some (.ref p)))
    (l : K.lookup p = some ⟨.type "tuple", dct, .seq its n, sl⟩) (e : ConsL its.toList ds) (z : its.size ≤ 1000) : ∃ p, mg x = some (.ref p) ∧ ∀ F, RepC ⟨K, mg⟩ F (.ref p) (.tup ds) :=
  ⟨p, PySem.W.mg_of X G a, fun F => by
    obtain ⟨xs, h1, h2⟩ := e.to (k := ⟨K, mg⟩) (F := F)
    exact ⟨p, xs, rfl, .inr ⟨_, its, n, l, rfl, rfl, Nat.le_trans z (by rw [sizeLine_eq]; decide), h1⟩, h2⟩⟩
/-- a law over a list of ints, by its mirror -/
def spLaw (K : PySem.W.Frag) (n : Nat) : Sp := fun vs H Q _ => ∃ (a : Addr) (ns : List Int), vs = [.ref a] ∧ SqL K H a (ns.map V.int) ∧ ns.length ≤ n ∧ ∀ H', Q (.bl true) H'
theorem reps_ints {k : Kx} {F : Hp} : ∀ ns : List Int, Reps k F (ns.map V.int) (ns.map D.int)
  | [] => trivial
  | n :: ns => ⟨rfl, reps_ints ns⟩
theorem sp_law {fn : Fn} {n : Nat} (hf : ∀ ns : List Int, ns.length ≤ n → ∃ μ', fn [.kon (.lst (ns.map .int))] [] = some (.dat (.bl true), μ')) : ∀ vs H Q E, spLaw K n vs H Q E → spF ⟨K, mg⟩ fn vs H Q E := by
  rintro vs H Q E ⟨a, ns, rfl, hS, hl, q⟩
  obtain ⟨μ', hm⟩ := hf ns hl
  refine ⟨⟨[], H, fun _ => none, [], fun _ => none⟩, [.kon (.lst (ns.map .int))], ⟨Same.refl _, fun _ _ e => (nomatch e), rfl, List.nodup_nil, fun e => (by simp at e), fun e => (nomatch e), fun e => (nomatch e), fun e => (by simp at e), fun e => (by simp at e), fun e => (nomatch e)⟩, ⟨⟨a, ns.map V.int, rfl, hS, reps_ints ns⟩, trivial⟩, _, μ', hm, fun v H' G' e' g' w' r' => ?_⟩
  have ev : v = .bl true := r'
  subst ev
  exact q H'
end

section
variable {C : Prop} {w : World} {K : PySem.W.Frag} {mg : Str → Option Value} {h : Heap}
theorem at_next {x : Str} {st : Stmt} {ps : List Str} {f : Addr} {oc : Value} {od an : Option Addr} {osl : Array (Option Value)} {kV doc pm cdv ct : Value} (X : K.In h) (G : h.Ns mainGlobals mg) (a : PySem.W.nsIn K mainGlobals x = some (some (.ref f)))
    (l : K.lookup f = some ⟨oc, od, .func (PySem.W.fnOf x x (defArgs st) (defBody st) (defScope st) .none kV doc pm an cdv ct), osl⟩) (c : PySem.W.codeIn K cdv x = true) (k : PySem.W.keepIn K (.ref f) = true)
    (b : ∀ (kV doc pm : Value) (an : Option Addr) (cdv ct : Value) (us : List Value), us.length = ps.length → bindArgs (PySem.W.fnOf x x (defArgs st) (defBody st) (defScope st) .none kV doc pm an cdv ct) ⟨us, []⟩ = pure (ps.zip us))
    (next : ∀ f fd, At K mg x x st ps f fd → C) : C := by
  obtain ⟨f, fd, A⟩ := at_mk X G a l c k b
  exact next f fd A
theorem at_next1 {x y : Str} {st : Stmt} {f : Addr} {oc : Value} {od an : Option Addr} {osl : Array (Option Value)} {kV doc pm cdv ct : Value} (X : K.In h) (G : h.Ns mainGlobals mg) (a : PySem.W.nsIn K mainGlobals x = some (some (.ref f)))
    (l : K.lookup f = some ⟨oc, od, .func (PySem.W.fnOf x x (defArgs st) (defBody st) (defScope st) .none kV doc pm an cdv ct), osl⟩) (c : PySem.W.codeIn K cdv x = true) (k : PySem.W.keepIn K (.ref f) = true)
    (b : ∀ (kV doc pm : Value) (an : Option Addr) (cdv ct : Value) (u : Value), bindArgs (PySem.W.fnOf x x (defArgs st) (defBody st) (defScope st) .none kV doc pm an cdv ct) ⟨[u], []⟩ = pure [(y, u)])
    (next : ∀ f fd, At K mg x x st [y] f fd → (∀ (s : Shared) (u : Value), BindsTo s fd ⟨[u], []⟩ [(y, u)]) → C) : C := by
  obtain ⟨f, fd, A, B⟩ := at_mk1 X G a l c k b
  exact next f fd A B
theorem tup_next {x : Str} {p : Addr} {dct : Option Addr} {its : Array Value} {n : Nat} {sl : Array (Option Value)} {ds : List D} (X : K.In h) (G : h.Ns mainGlobals mg) (a : PySem.W.nsIn K mainGlobals x = some (some (.ref p)))
    (l : K.lookup p = some ⟨.type "tuple", dct, .seq its n, sl⟩) (e : ConsL its.toList ds) (z : its.size ≤ 1000) (next : ∀ p, mg x = some (.ref p) → (∀ F, RepC ⟨K, mg⟩ F (.ref p) (.tup ds)) → C) : C := by
  obtain ⟨p, h1, h2⟩ := tup_mk X G a l e z
  exact next p h1 h2
end
end PL

set_option Elab.async false
set_option linter.all false
set_option maxRecDepth 100000
/-! PL15: keywords in another order than the def's; list(..) as a cell; sorted(.., reverse=True) -/
namespace PL
open PySem PySem.Spec PyProof.Rows L2

/-! ### keywords in another order: pm names for each parameter the place of its keyword -/
def permL {α : Type} (pm : List Nat) (ws : List α) : List α := pm.filterMap fun i => ws[i]?
def gKP {α : Type} (n : Nat) (pm : List Nat) (us ws : List α) : List α := if us.length = n ∧ ws.length = pm.length then us ++ permL pm ws else []
theorem vals_get : ∀ {vs : List V} {us : List Value} (i : Nat), Vals vs us → (vs[i]? = none ∧ us[i]? = none) ∨ ∃ v u, vs[i]? = some v ∧ us[i]? = some u ∧ RelV v u
  | _, _, _, .nil => .inl ⟨rfl, rfl⟩
  | _, _, 0, .cons r _ => .inr ⟨_, _, rfl, rfl, r⟩
  | _, _, i + 1, .cons _ t => by
    rcases vals_get i t with ⟨h1, h2⟩ | ⟨v, u, h1, h2, r⟩
    · exact .inl ⟨by simpa using h1, by simpa using h2⟩
    · exact .inr ⟨v, u, by simpa using h1, by simpa using h2, r⟩
theorem vals_perm {vs : List V} {us : List Value} (r : Vals vs us) : ∀ pm : List Nat, Vals (permL pm vs) (permL pm us)
  | [] => .nil
  | i :: pm => by
    have ih := vals_perm r pm
    unfold permL at ih ⊢
    rcases vals_get i r with ⟨h1, h2⟩ | ⟨v, u, h1, h2, q⟩
    · rw [List.filterMap_cons_none h1, List.filterMap_cons_none h2]; exact ih
    · rw [List.filterMap_cons_some h1, List.filterMap_cons_some h2]; exact .cons q ih
theorem vreps_get {k : Kx} {G : Gh} : ∀ {vs : List V} {xs : List PV} (i : Nat), VReps k G vs xs → (vs[i]? = none ∧ xs[i]? = none) ∨ ∃ v x, vs[i]? = some v ∧ xs[i]? = some x ∧ VRep k G v x
  | [], [], _, _ => .inl ⟨rfl, rfl⟩
  | [], _ :: _, _, h => h.elim
  | _ :: _, [], _, h => h.elim
  | _ :: _, _ :: _, 0, h => .inr ⟨_, _, rfl, rfl, h.1⟩
  | _ :: vs, _ :: xs, i + 1, h => by
    rcases vreps_get (vs := vs) (xs := xs) i h.2 with ⟨h1, h2⟩ | ⟨v, u, h1, h2, r⟩
    · exact .inl ⟨by simpa using h1, by simpa using h2⟩
    · exact .inr ⟨v, u, by simpa using h1, by simpa using h2, r⟩
theorem vreps_perm {k : Kx} {G : Gh} {vs : List V} {xs : List PV} (r : VReps k G vs xs) : ∀ pm : List Nat, VReps k G (permL pm vs) (permL pm xs)
  | [] => trivial
  | i :: pm => by
    have ih := vreps_perm r pm
    unfold permL at ih ⊢
    rcases vreps_get i r with ⟨h1, h2⟩ | ⟨v, u, h1, h2, q⟩
    · rw [List.filterMap_cons_none h1, List.filterMap_cons_none h2]; exact ih
    · rw [List.filterMap_cons_some h1, List.filterMap_cons_some h2]; exact ⟨q, ih⟩
theorem kbindsP {K : PySem.W.Frag} {fd : FuncData} {ps ks : List Str} {n : Nat} {pm : List Nat} (hp : ps ≠ []) (h : ∀ us ws : List Value, us.length = n → ws.length = pm.length → bindArgs fd ⟨us, ks.zip ws⟩ = pure (ps.zip (us ++ permL pm ws))) : KBinds K fd ps ks (gKP n pm) (gKP n pm) where
  to := fun s us ws _ hl => by
    unfold gKP at hl ⊢
    by_cases hn : us.length = n ∧ ws.length = pm.length
    · rw [if_pos hn]
      exact .of_eq (h us ws hn.1 hn.2)
    · rw [if_neg hn] at hl
      exact absurd (List.length_eq_zero_iff.mp hl.symm) hp
  rel := fun {vs us zs ws} r rz => by
    unfold gKP
    rw [r.length, rz.length]
    by_cases hn : us.length = n ∧ ws.length = pm.length
    · rw [if_pos hn, if_pos hn]
      have rp := vals_perm rz pm
      clear hn
      induction r with
      | nil => exact rp
      | cons a _ ih => exact .cons a ih
    · rw [if_neg hn, if_neg hn]; exact .nil
theorem kbinds_funP {K : PySem.W.Frag} {x qual : Str} {st : Stmt} {f : Addr} {fd : FuncData} {ps ks : List Str} {n : Nat} {pm : List Nat} (F : Fun K x qual st f fd) (hp : ps ≠ [])
    (h : ∀ (kV doc pm' : Value) (an : Option Addr) (cdv ct : Value) (us ws : List Value), us.length = n → ws.length = pm.length → bindArgs (PySem.W.fnOf x qual (defArgs st) (defBody st) (defScope st) .none kV doc pm' an cdv ct) ⟨us, ks.zip ws⟩ = pure (ps.zip (us ++ permL pm ws))) : KBinds K fd ps ks (gKP n pm) (gKP n pm) := by
  obtain ⟨oc, od, kV, doc, pm', an, cdv, ct, osl, rfl, lk, hcd⟩ := F.ex
  exact kbindsP hp (h kV doc pm' an cdv ct)
def mCallKP (fn : Fn) (n : Nat) (pm : List Nat) (am km : MA) : ME := fun ρ μ => (am ρ μ).bind fun p => (km ρ p.2).bind fun q => if p.1.length = n ∧ q.1.length = pm.length then fn (p.1 ++ permL pm q.1) q.2 else none
theorem vreps_len {k : Kx} {G : Gh} : ∀ {vs : List V} {xs : List PV}, VReps k G vs xs → vs.length = xs.length
  | [], [], _ => rfl
  | [], _ :: _, h => h.elim
  | _ :: _, [], h => h.elim
  | _ :: vs, _ :: xs, h => by rw [List.length_cons, List.length_cons, vreps_len (vs := vs) (xs := xs) h.2]
theorem callKP_of {k : Kx} {fn : Fn} {n : Nat} {pm : List Nat} {am km : MA} {E : XK} {σ : L2.St} {H : Hp} {Q : VK} (h : tE k (mCallKP fn n pm am km) σ H Q) : tCallK (spF k fn) (gKP n pm) E (tA k am) (tA k km) σ H Q := by
  obtain ⟨G, ρ, w, e, x, μ', hm, q⟩ := h
  simp only [mCallKP, Option.bind_eq_some_iff] at hm
  obtain ⟨⟨ps, μ1⟩, h1, ⟨zs, μ2⟩, h2, h3⟩ := hm
  obtain ⟨hn, h4⟩ := if_so h3
  refine ⟨G, ρ, w, e, ps, _, h1, fun vs H1 G1 e1 g1 w1 r1 => ?_⟩
  refine ⟨G1, ρ, w1, e.ext e1, zs, _, by rw [g1]; exact h2, fun us H2 G2 e2 g2 w2 r2 => ?_⟩
  refine ⟨G2, ps ++ permL pm zs, w2, ?_, x, μ', by rw [g2]; exact h4, fun v' H' G' e' g' w' r' => q v' H' G' ((e1.trans e2).trans e') g' w' r'⟩
  unfold gKP
  rw [if_pos (by rw [vreps_len r1, vreps_len r2]; exact hn)]
  exact vreps_app (r1.ext e2) (vreps_perm r2 pm)
section
variable {X : Cx} {pos p : Pos} {e : Expr} {es : List Expr} {kws : List Keyword} {am km : MA} {x : Str} {ps ks : List Str} {f : Addr} {fd : FuncData} {k n : Nat} {fn : Fn} {pm : List Nat}
theorem ex_callDKP (F : Df X.prog X.w X.K X.mg X.base x ps f fd k fn) (hb : KBinds X.K fd ps ks (gKP n pm) (gKP n pm)) (hr : Room k X.A) (hg : Gl X x) (ha : AX X (e :: es) am) (hkw : KX X kws km) (hall : (backToKw pos (keywordEach kws X.env)).all (·.1.isSome) = true := by rfl) (hks : (backToKw pos (keywordEach kws X.env)).filterMap (·.1) = ks := by rfl)
    (hdb : (x == ("__debug__" : Str)) = false := by decide) (he : starEach (e :: es) X.env = (false, eval e X.env) :: starEach es X.env := by rfl)
    (hpl : ((backTo pos (starEach (e :: es) X.env)).any (·.1) || (backToKw pos (keywordEach kws X.env)).any (·.1.isNone)) = false := by rfl) : EX X (.Call (.Name x p) (e :: es) kws pos) (mCallKP fn n pm am km) :=
  (pe_callK F.ok hr hg F.nm F.kp hb pass0 ha hkw hall hks hdb he hpl).mono fun _ _ _ h => callKP_of h
theorem ex_callDKP0 (F : Df X.prog X.w X.K X.mg X.base x ps f fd k fn) (hb : KBinds X.K fd ps ks (gKP 0 pm) (gKP 0 pm)) (hr : Room k X.A) (hg : Gl X x) (hkw : KX X kws km) (hall : (backToKw pos (keywordEach kws X.env)).all (·.1.isSome) = true := by rfl) (hks : (backToKw pos (keywordEach kws X.env)).filterMap (·.1) = ks := by rfl)
    (hdb : (x == ("__debug__" : Str)) = false := by decide)
    (hpl : ((backTo pos (starEach [] X.env)).any (·.1) || (backToKw pos (keywordEach kws X.env)).any (·.1.isNone)) = false := by rfl) : EX X (.Call (.Name x p) [] kws pos) (mCallKP fn 0 pm aNil km) :=
  (pe_callK0 F.ok hr hg F.nm F.kp hb pass0 hkw hall hks hdb hpl).mono fun σ H Q h => by
    have h2 := callKP_of (E := E0) h
    exact anil_of h2
end
end PL

set_option Elab.async false
set_option linter.all false
set_option maxRecDepth 100000
/-! PL16: sorted(.., reverse=True); list(..) as a cell -/
namespace PL
open PySem PySem.Spec PyProof.Rows L2
section
open PyProof.Rows PySem.W PySem.Calls
/-- sorted(tuple, ..), told as the library tells it of a list -/
theorem sorted_rev_valsT {prog : Program} {w : World} {A : Around} {E : Value → Shared → Prop} {s : Shared} {κ : KeyKind} {l : Addr} {vs : List Value} {b : Bool} {Q : Value → Shared → Prop} (hl : s.heap.IsTuple l vs.toArray) (S : SortsAt prog w A.in1.in1 { s with heap := sortingHeap (copyHeap s.heap vs) (s.heap.objs.size + 1) vs } κ vs) (hL : vs.length ≤ sizeLine)
    (h : Q (.ref (s.heap.objs.size + 1)) { s with heap := sortedAll s.heap vs (sortVals κ b vs vs).toArray }) : wpAny (model prog w) A (call (.builtin "sorted") [.ref l] [(Str.ofString "reverse", .bool b)]) Q E s := by
  refine call_function_entry_kw kind_sorted plain_sorted entry_sorted (args_sorted_rev _ _) ?_
  unfold Builtin.«sorted»
  refine wpAny_bind (m := checkCount "sorted" 1 1 _) (wpAny_pure ?_)
  refine wpAny_bind (collect_tup hl ?_ hL)
  refine wpAny_bind (wpAny_newList ?_ hL)
  have hsz : ((s.heap.push (seqObj "list" #[] 0)).update s.heap.objs.size (Obj.mapSeq (· ++ vs.toArray))).objs.size = s.heap.objs.size + 1 := by
    rw [Heap.size_update, size_push']
  show wpAny _ _ _ _ _ { s with heap := copyHeap s.heap vs }
  rw [hsz]
  refine wpAny_bind (wpAny_holding (wpAny_call_entry_kw slot_list_sort ⟨_, copyHeap_at s.heap vs, rfl⟩ entry_list_sort ?body (args_list_sort_rev _ _)))
  case body =>
    show wpAny (model prog w) A.in1.in1 (Builtin.«list.sort» ⟨[.ref (s.heap.objs.size + 1)], [(Str.ofString "reverse", .bool b)]⟩) _ _ _
    exact list_sort_rev_vals (s := { s with heap := copyHeap s.heap vs }) (copyHeap_at s.heap vs) S hL ⟨_, rfl, wpAny_pure ⟨_, rfl, h⟩⟩
end
open Classical in
noncomputable def sortRL (ds : List D) : Option D := if okNs ds 50 = true ∧ PySem.W.AllAlike (ds.map D.py) ∧ PySem.W.Sortable (ds.map D.py) ∧ ds.length ≤ lim then some (.lst (ds.mergeSort (PySem.W.dataLe true D.py))) else none
noncomputable def sortRD : D → Option D
  | .lst ds => sortRL ds
  | .tup ds => sortRL ds
  | _ => none
def rSortRD (K : PySem.W.Frag) : List V → Hp → VK → Prop := fun vs H Q => ∃ (t : Bool) (a : Addr) (xs : List V) (ds : List D) (R : V → D → Prop), vs = [.ref a] ∧ SqA t K H a xs ∧ DpAll K H xs (ds.map D.py) ∧ PySem.W.EachIs R xs ds ∧
  PySem.W.AllAlike (ds.map D.py) ∧ PySem.W.Sortable (ds.map D.py) ∧ (∀ d ∈ ds, d.py.depth ≤ 50) ∧ ∀ ys p, PySem.W.EachIs R ys (ds.mergeSort (PySem.W.dataLe true D.py)) → H p = none → Q (.ref p) (upd H p (.lst ys))
section
variable {X : Cx}
theorem cr_sortRD (hu : X.A.units + 65 < cLine) {pins : List (Addr × Obj)} {s : Shared} {σ : L2.St} {H : Hp} {vs : List V} {us : List Value} {Q : VK} (I : Inv X pins σ H s) (r : Vals vs us) (h : rSortRD X.K vs H Q) :
    wpAny (model X.prog X.w) X.A (call (.builtin "sorted") us [(Str.ofString "reverse", .bool true)]) (EP X pins σ Q) X.xe s := by
  obtain ⟨t, a, xs, ds, R, rfl, hs, hd, hR, hal, hso, hdep, q⟩ := h
  obtain ⟨its, rv, hl, hlt⟩ := sq_its I hs
  obtain ⟨u, rfl, ru⟩ := vals1 r
  obtain rfl : u = Value.ref a := ru
  obtain ⟨as, ra⟩ := Dp.readsAll I _ _ _ hd rv
  have er := PySem.W.readsAll_each D.py ra
  have e := each_in rv hR
  have hz : its.length ≤ sizeLine := by
    rw [← rv.length]
    cases t
    · obtain ⟨_, _, _, hz⟩ := I.list hs; exact hz
    · obtain ⟨_, _, _, hz⟩ := I.tuple hs; exact hz
  have er' : PySem.W.EachIs (fun v b => ∃ as, Reads (PySem.W.sortingHeap (PySem.W.copyHeap s.heap its) (s.heap.objs.size + 1) its) v b.py as) its ds := er.mono fun _ _ ⟨as, r⟩ => ⟨as, PyProof.Rows.Reads.keeps (fun _ _ => PySem.W.sorting_copy_old) r⟩
  have S := PySem.W.SortsAt.data (prog := X.prog) (w := X.w) (A := X.A.in1.in1) (s := { s with heap := PySem.W.sortingHeap (PySem.W.copyHeap s.heap its) (s.heap.objs.size + 1) its }) (PySem.W.each_map (R := fun v d => ∃ as, Reads (PySem.W.sortingHeap (PySem.W.copyHeap s.heap its) (s.heap.objs.size + 1) its) v d as) D.py er') hal hso
    (PySem.W.bound_map fun b hb => Nat.lt_of_le_of_lt (show X.A.in1.in1.units + b.py.depth ≤ X.A.units + 65 from by have := hdep b hb; show X.A.units + 1 + 1 + _ ≤ _; omega) hu)
  have out := PySem.W.sortVals_data true e er' hal
  have fin : EP X pins σ Q (.ref (s.heap.objs.size + 1)) { s with heap := PyProof.Rows.sortedAll s.heap its (PySem.W.sortVals (PySem.W.dataKind (PySem.W.sortingHeap (PySem.W.copyHeap s.heap its) (s.heap.objs.size + 1) its) (ds.map D.py)) true its its).toArray } := by
    obtain ⟨ys, k1, k2⟩ := each_vals out
    obtain ⟨ep, he'⟩ := PyProof.Rows.sortedAll_at s.heap its (PySem.W.sortVals (PySem.W.dataKind (PySem.W.sortingHeap (PySem.W.copyHeap s.heap its) (s.heap.objs.size + 1) its) (ds.map D.py)) true its its).toArray
    have hlen : ys.length ≤ sizeLine := by
      rw [k2.length, List.length_mergeSort, ← e.length]; exact hz
    exact ⟨.ref _, upd H (s.heap.objs.size + 1) (.lst ys), I.laid (t' := s.toks) (fun _ _ => PyProof.Rows.sortedAll_old) (Nat.le_succ _) ⟨hlen, _, ep, k1, he'⟩, rfl, q _ _ k2 (I.hok.fresh (Nat.le_succ _))⟩
  cases t
  · exact PySem.W.sorted_rev_vals hl S hz fin
  · exact sorted_rev_valsT hl S hz fin
end
theorem r_sortRL {k : Kx} {G : Gh} {H : Hp} {t : Bool} {a : Addr} {xs : List V} {ds : List D} {z : D} {Q : VK} (w : WG k G H) (h1 : SqA t k.K H a xs) (h2 : Reps k G.F xs ds) (hf : sortRL ds = some z) (q : KD k G Q z) : rSortRD k.K [.ref a] H Q := by
  obtain ⟨⟨b1, b2, b3, b4⟩, e⟩ := if_so hf
  cases e
  refine ⟨t, a, xs, ds, Rep k G.F, rfl, h1, ?_, reps_each h2, b2, b3, fun d hd => ?_, fun ys p he hp => ?_⟩
  · have := dps_of w.fr ds 50 b1 h2
    rwa [pys_map] at this
  · rw [okNs_all, List.all_eq_true] at b1
    exact (lay_of d 50 (b1 d hd)).2
  · exact KD.newL q w hp (each_reps he)
theorem r_sortRD {k : Kx} : C1H k sortRD (rSortRD k.K) := by
  intro G H x dx z Q w rx hf q
  unfold sortRD at hf
  split at hf
  · obtain ⟨a, xs, e1, h1, h2⟩ := repH_lst w.fr rx
    subst e1
    exact r_sortRL (t := false) w h1 h2 hf q
  · obtain ⟨a, xs, e1, h1, h2⟩ := repH_tup w.fr rx
    subst e1
    exact r_sortRL (t := true) w h1 h2 hf q
  · cases hf
section
variable {X : Cx} {pos p kpos p2 : Pos} {e : Expr} {am : MA}
theorem ex_sortedR {j} (hu : X.A.units + 65 < cLine) (hg : Gl X "sorted") (hm : X.mg "sorted" = none) (ha : AX X [e] am)
    (hpl : (backTo pos (starEach [e] X.env)).any (·.1) = false := by rfl) (he : starEach [e] X.env = (false, eval e X.env) :: starEach [] X.env := by rfl) :
    EX X (.Call (.Name "sorted" p) [e] [⟨some "reverse", .Constant (.bool true) j p2, kpos⟩] pos) (mCB (f1 sortRD) am) := by
  have key : PE X (.Call (.Name "sorted" p) [e] [⟨some "reverse", .Constant (.bool true) j p2, kpos⟩] pos) (tCB (rSortRD X.K) (tA (kx X) am)) := by
    refine ⟨fun pins s σ H Q I h => ?_⟩
    refine wpAny_Call_Name_kw (ld_blt I hg hm (by decide +kernel : bootBuiltins "sorted" = some (.builtin "sorted")) ?_ (by decide) (by decide))
    have hkw := pk_cons (X := X) (nm := some "reverse") (kpos := kpos) (pe_bl (X := X) (b := true) (j := j) (pos := p2)) pk_nil
    refine callWith_builtin_kwB hpl (by rfl) (evalArgs_kw2 (by rfl) (thn (ha.run pos pins s σ H _ I h) fun us s1 ⟨vs, H1, I1, r, q⟩ => ?_) he)
    refine thn (hkw.run pos pins s1 σ H1 (fun zs H2 => zs = [.bl true] ∧ H2 = H1) I1 ?_) fun ws s2 ⟨zs, H2, I2, rz, q2⟩ => ?_
    · exact ⟨rfl, rfl⟩
    · obtain ⟨rfl, rfl⟩ := q2
      obtain ⟨u, rfl, ru⟩ := vals1 rz
      obtain rfl : u = Value.bool true := ru
      exact cr_sortRD hu I2 r q
  exact key.mono fun _ _ _ h => cb_of (CH.one r_sortRD) h
end

/-! ### list(list or tuple), the result one that may change -/
def mListC (am : MA) : ME := fun ρ μ => (am ρ μ).bind fun p => (derefs p.2 p.1).bind fun ds => match ds with
  | [.lst xs] => if xs.length ≤ lim then some (.cell p.2.length, p.2 ++ [.flat (.lst xs)]) else none
  | [.tup xs] => if xs.length ≤ lim then some (.cell p.2.length, p.2 ++ [.flat (.lst xs)]) else none
  | _ => none
theorem repHs1 {k : Kx} {F H : Hp} {vs : List V} {d : D} (h : RepHs k F H vs [d]) : ∃ v, vs = [v] ∧ RepH k F H v d := by
  cases vs with
  | nil => exact h.elim
  | cons v vs =>
    cases vs with
    | nil => exact ⟨v, rfl, h.1⟩
    | cons _ _ => exact h.2.elim
theorem listC_of {k : Kx} {am : MA} {σ : L2.St} {H : Hp} {Q : VK} (h : tE k (mListC am) σ H Q) : tCB (fun xs H Q => ∃ p ys, xs = [.ref p] ∧ (SqL k.K H p ys ∨ SqT k.K H p ys) ∧ ∀ l, H l = none → Q (.ref l) (upd H l (.lst ys))) (tA k am) σ H Q := by
  obtain ⟨G, ρ, w, e, x, μ', hm, q⟩ := h
  simp only [mListC, Option.bind_eq_some_iff] at hm
  obtain ⟨⟨ps, μ1⟩, h1, ds, h2, h5⟩ := hm
  refine ⟨G, ρ, w, e, ps, _, h1, fun vs H1 G1 e1 g1 w1 r1 => ?_⟩
  have rs := w1.derefs r1 (by rw [g1]; exact h2)
  have fin : ∀ (us : List V) (xs : List D), Reps k G1.F us xs → (some ((.cell μ1.length : PV), μ1 ++ [.flat (.lst xs)]) = some (x, μ')) → ∀ l, H1 l = none → Q (.ref l) (upd H1 l (.lst us)) := by
    intro us xs r h6 l hl
    cases h6
    exact q _ _ _ (e1.trans (w1.extC _)) (by show G1.μ ++ _ = _; rw [g1]) (w1.newCell (o := .lst us) hl trivial (d := .lst xs) r) ⟨l, by show (G1.ι ++ [l])[_]? = _; rw [← g1, ← w1.len]; simp, rfl⟩
  split at h5
  · rename_i xs
    obtain ⟨hl, h6⟩ := if_some h5
    obtain ⟨v, rfl, rx⟩ := repHs1 rs
    obtain ⟨a, us, e3, i1, i2⟩ := repH_lst w1.fr rx
    exact ⟨a, us, by rw [e3], .inl i1, fin us xs i2 (congrArg some h6)⟩
  · rename_i xs
    obtain ⟨hl, h6⟩ := if_some h5
    obtain ⟨v, rfl, rx⟩ := repHs1 rs
    obtain ⟨a, us, e3, i1, i2⟩ := repH_tup w1.fr rx
    exact ⟨a, us, by rw [e3], .inr i1, fin us xs i2 (congrArg some h6)⟩
  · cases h5
section
variable {X : Cx} {pos p : Pos} {e : Expr} {am : MA}
theorem ex_listC (hg : Gl X "list") (hm : X.mg "list" = none) (ha : AX X [e] am) (hp : PlainA X pos e [] := by exact ⟨rfl, rfl⟩) : EX X (.Call (.Name "list" p) [e] [] pos) (mListC am) :=
  (pe_callTy call_list_of hg hm (by decide +kernel) ha (by decide) (by decide) hp.1 hp.2).mono fun _ _ _ h => listC_of h
end
end PL

set_option Elab.async false
set_option linter.all false
set_option maxRecDepth 100000
/-! PL17: dicts that own lists: found[k], k in found, found[k].append(x) -/
namespace PL
open PySem PySem.Spec PyProof.Rows L2

def lookJ : List D → D → Option Nat
  | k :: ks, d => if eqv k d = true then some 0 else (lookJ ks d).map (· + 1)
  | [], _ => none
theorem rows_look {κ : Type} [DecidableEq κ] {k : Kx} {F : Hp} {W : Addr → Option (Addr × Nat)} {H : Hp} {p : Addr} (e : κ → D) (he : ∀ a b, eqv (e a) (e b) = decide (a = b)) : ∀ (n : Nat) (kvs : List (κ × V)) (rs : List (List D)) (x : κ), Rows k F W H p n (kvs.map (·.2)) rs →
    match lookJ (kvs.map fun p => e p.1) (e x) with
    | some j => ∃ q, valV kvs x = some (.ref q) ∧ W q = some (p, n + j)
    | none => valV kvs x = none
  | _, [], [], x, _ => rfl
  | _, [], _ :: _, _, h => h.elim
  | _, _ :: _, [], _, h => h.elim
  | n, c :: kvs, r :: rs, x, h => by
    simp only [List.map_cons, lookJ]
    by_cases q : c.1 = x
    · rw [if_pos (by rw [he]; exact decide_eq_true q)]
      obtain ⟨⟨b, xs, h1, h2, _⟩, _⟩ := h
      exact ⟨b, (valV_pos q).trans (congrArg some h1), h2⟩
    · rw [if_neg (by rw [he, decide_eq_false q]; exact Bool.false_ne_true), valV_neg q]
      have z := rows_look e he (n + 1) kvs rs x h.2
      cases hl : lookJ (kvs.map fun p => e p.1) (e x) with
      | none => rw [hl] at z; exact z
      | some j =>
        rw [hl] at z
        obtain ⟨b, z1, z2⟩ := z
        exact ⟨b, z1, by rw [z2]; show some (p, n + 1 + j) = some (p, n + (j + 1)); rw [Nat.add_assoc, Nat.add_comm 1 j]⟩
theorem WG.dol_get {k : Kx} {G : Gh} {H : Hp} (w : WG k G H) {i : Nat} {p : Addr} {t : Bool} {ks : List D} {rows : List (List D)} {y : V} {d : D} (h1 : G.ι[i]? = some p) (h3 : G.μ[i]? = some (Cell.dol (some t) ks rows)) (ry : RepT k G.F H y d) (hk : isKey t d = true) :
    match lookJ ks d with
    | some j => ∃ q, DGet H p y (some (.ref q)) ∧ G.W q = some (p, j)
    | none => DGet H p y none := by
  obtain ⟨_, o, ho, mu, c⟩ := w.liv h1 h3 (by simp)
  rcases c.dol with ⟨kvs, e1, rfl, rfl, hr, hb0⟩ | ⟨kvs, e1, rfl, rfl, hr, hb0⟩ | ⟨kvs, e1, rfl, rfl, hr, hb0⟩ <;> cases e1
  · have : ∃ x : Key, d = keyD x ∧ y = kV x := by
      cases d <;> simp [isKey] at hk
      · exact ⟨.inl _, rfl, repT_int ry⟩
      · exact ⟨.inr _, rfl, repT_str ry⟩
    obtain ⟨x, q1, q2⟩ := this
    subst q1 q2
    have z := rows_look keyD eqv_keyD 0 kvs rows x hr
    split at z
    · rename_i j hj
      obtain ⟨q, z1, z2⟩ := z
      rw [Nat.zero_add] at z2
      exact ⟨q, z1 ▸ DGet.k ho, z2⟩
    · exact z ▸ DGet.k ho
  · cases d <;> simp [isKey] at hk
    rename_i ds
    obtain ⟨x, hx⟩ := Option.isSome_iff_exists.mp hk
    have q1 := toKeys_keyD hx
    subst q1
    obtain ⟨b, ws, f1, f2, f3, f4⟩ := repT_tup w.fr ry
    have q2 := reps_keyD f4
    subst q2
    subst f1
    have z := rows_look keysD eqv_keysD 0 kvs rows x hr
    rw [show D.tup (x.map keyD) = keysD x from rfl]
    split at z
    · rename_i j hj
      obtain ⟨q, z1, z2⟩ := z
      rw [Nat.zero_add] at z2
      exact ⟨q, z1 ▸ DGet.t ho f3, z2⟩
    · exact z ▸ DGet.t ho f3
/-- found[k], a row of the dict -/
def mRow (a b : ME) : ME := fun ρ μ => (a ρ μ).bind fun p => (b ρ p.2).bind fun q => match p.1 with
  | .cell i => match q.2[i]? with
    | some (Cell.dol (some t) ks rows) => (derefT q.2 q.1).bind fun d => if isKey t d = true then (lookJ ks d).map fun j => (.row i j, q.2) else none
    | _ => none
  | _ => none
theorem row_of {k : Kx} {a b : ME} {σ : L2.St} {H : Hp} {Q : VK} (h : tE k (mRow a b) σ H Q) : tOp (rIxAll k.K) (tE k a) (tE k b) σ H Q := by
  obtain ⟨G, ρ, w, e, x, μ', hm, q⟩ := h
  simp only [mRow, Option.bind_eq_some_iff] at hm
  obtain ⟨⟨p1, μ1⟩, h1, ⟨p2, μ2⟩, h2, h3⟩ := hm
  refine ⟨G, ρ, w, e, p1, μ1, h1, fun v1 H1 G1 e1 g1 w1 r1 => ?_⟩
  refine ⟨G1, ρ, w1, e.ext e1, p2, μ2, by rw [g1]; exact h2, fun v2 H2 G2 e2 g2 w2 r2 => ?_⟩
  split at h3
  · rename_i i hp
    simp only at hp
    subst hp
    split at h3
    · rename_i t ks rows hc
      simp only [Option.bind_eq_some_iff] at h3
      obtain ⟨d, h4, h5⟩ := h3
      obtain ⟨hk, h6⟩ := if_so h5
      obtain ⟨j, h7, h8⟩ := Option.map_eq_some_iff.mp h6
      cases h8
      obtain ⟨pa, ha, ev⟩ := r1
      have ha2 := e2.at ha
      have g := w2.dol_get (t := t) (ks := ks) (rows := rows) ha2 (by rw [g2]; exact hc) (w2.derefT r2 (by rw [g2]; exact h4)) hk
      rw [h7] at g
      obtain ⟨qa, g3, g4⟩ := g
      exact .inr (.inr (.inr ⟨pa, _, ev, g3, q _ _ _ (e1.trans e2) g2 w2 ⟨pa, qa, ha2, g4, rfl⟩⟩))
    · cases h3
  · cases h3
section
variable {X : Cx} {a b : Expr} {m n : ME} {pos : Pos}
theorem ex_row (hu : X.A.units + 65 < cLine) (ha : EX X a m) (hb : EX X b n) (hs : PlainIx b := by exact fun _ _ => rfl) : EX X (.Subscript a b pos) (mRow m n) := (pe_ix (ix_all hu) ha hb hs).mono fun _ _ _ h => row_of h
end

/-- found[k].append(x) and the like: the receiver a row -/
def mMutR (f : D → List D → Option (D × D)) (a : ME) (am : MA) : ME := fun ρ μ => (a ρ μ).bind fun p => match p.1 with
  | .row i j => (rowAt p.2 i j).bind fun _ => (am ρ p.2).bind fun q => match q.2[i]? with
    | some (Cell.dol t ks rows) => (rows[j]?).bind fun r => (dats q.1).bind fun ds => (f (.lst r) ds).bind fun z => match z.2 with
      | .lst r2 => some (.dat z.1, q.2.set i (.dol t ks (rows.set j r2)))
      | _ => none
    | _ => none
  | _ => none
theorem mutR_of {k : Kx} {f : D → List D → Option (D × D)} {m : ME} {am : MA} {r : V → List V → Hp → VK → Prop} {σ : L2.St} {H : Hp} {Q : VK} (hr : MuR k f r) (h : tE k (mMutR f m am) σ H Q) : tBM k.K "list" r (tE k m) (tA k am) σ H Q := by
  obtain ⟨G, ρ, w, e, x, μ', hm, q⟩ := h
  simp only [mMutR, Option.bind_eq_some_iff] at hm
  obtain ⟨⟨p, μ1⟩, h1, h2⟩ := hm
  refine ⟨G, ρ, w, e, p, μ1, h1, fun v1 H1 G1 e1 g1 w1 r1 => ?_⟩
  split at h2
  · rename_i i j hp
    simp only at hp
    subst hp
    simp only [Option.bind_eq_some_iff] at h2
    obtain ⟨d0, h3, ⟨ps, μ2⟩, h5, h6⟩ := h2
    obtain ⟨pa, qa, ha, hw, ev⟩ := r1
    subst ev
    obtain ⟨t0, ks0, rows0, r0, k1, k2, _⟩ := rowAt_at h3
    obtain ⟨_, xs0, k3, _⟩ := w1.row ha hw (by rw [g1]; exact k1) k2
    refine ⟨.inl ⟨rfl, _, SqL.of k3⟩, G1, ρ, w1, e.ext e1, ps, μ2, by rw [g1]; exact h5, fun vs H2 G2 e2 g2 w2 r2 => ?_⟩
    simp only at h6
    split at h6
    · rename_i t ks rows hc
      simp only [Option.bind_eq_some_iff] at h6
      obtain ⟨row, h7, ds, h8, ⟨rr, c'⟩, h9, h10⟩ := h6
      split at h10
      · rename_i rw2 hz
        simp only at hz
        subst hz
        cases h10
        have ha2 := e2.at ha
        have hw2 := e2.o _ _ (List.mem_of_getElem? ha) hw
        have hc2 : G2.μ[i]? = some (Cell.dol t ks rows) := by rw [g2]; exact hc
        obtain ⟨hF, xs, k5, k6⟩ := w2.row ha2 hw2 hc2 h7
        refine hr G2.F H2 qa (.lst xs) (.lst row) vs ds rr (.lst rw2) Q w2.fr k5 k6 (dats_reps h8 r2) h9 fun v o' mu' ro' rv => ?_
        cases o' <;> try exact ro'.elim
        rename_i xs'
        exact q v _ _ ((e1.trans e2).trans (WG.extM G2 (G2.μ.set i (.dol t ks (rows.set j rw2))))) (by show G2.μ.set i _ = _; rw [g2]) (w2.writeRow ha2 hw2 hc2 h7 ro') rv
      · cases h10
    · cases h6
  · cases h2
section
variable {X : Cx} {a b : Expr} {m : ME} {am : MA} {pos : Pos}
theorem ex_appendR {apos : Pos} (ha : EX X a m) (hb : AX X [b] am) (hbase : attributeBase a "append" X.env (eval a X.env) = eval a X.env := by rfl)
    (hfew : ((backTo pos (starEach [b] X.env)).all (fun x => !x.1) && (backToKw pos (keywordEach [] X.env)).all (fun x => x.1.isSome)
      && decide ([b].length + ([] : List Keyword).length + (if ([] : List Keyword).isEmpty then 0 else 1) < 30)) = true := by rfl)
    (hline : (apos.endLine == pos.line) = true := by rfl) (hp : PlainA X pos b [] := by exact ⟨rfl, rfl⟩) : EX X (.Call (.Attribute a "append" apos) [b] [] pos) (mMutR appD m am) :=
  (pe_bm PySem.F.plainAttrs_list PySem.F.slot_list_append PySem.F.type_list_append mt_append ha hb hbase hfew hline hp.1 hp.2).mono fun _ _ _ h => mutR_of r_app h
end

/-! ### k in found, found a dict of lists -/
def mInO (neg : Bool) (a b : ME) : ME := fun ρ μ => (a ρ μ).bind fun p => (b ρ p.2).bind fun q => match q.1 with
  | .cell i => match q.2[i]? with
    | some (Cell.dol (some t) ks _) => (derefT q.2 p.1).bind fun d => if isKey t d = true then some (.dat (.bl (neg != (lookJ ks d).isSome)), q.2) else none
    | _ => none
  | _ => none
theorem inO_of {k : Kx} {neg : Bool} {a b : ME} {σ : L2.St} {H : Hp} {Q : VK} (h : tE k (mInO neg a b) σ H Q) : tOp (fun y x H Q => ∃ a o, x = .ref a ∧ DGet H a y o ∧ Q (.bl (neg != o.isSome)) H) (tE k a) (tE k b) σ H Q := by
  obtain ⟨G, ρ, w, e, x, μ', hm, q⟩ := h
  simp only [mInO, Option.bind_eq_some_iff] at hm
  obtain ⟨⟨p1, μ1⟩, h1, ⟨p2, μ2⟩, h2, h3⟩ := hm
  refine ⟨G, ρ, w, e, p1, μ1, h1, fun v1 H1 G1 e1 g1 w1 r1 => ?_⟩
  refine ⟨G1, ρ, w1, e.ext e1, p2, μ2, by rw [g1]; exact h2, fun v2 H2 G2 e2 g2 w2 r2 => ?_⟩
  split at h3
  · rename_i i hp
    simp only at hp
    subst hp
    split at h3
    · rename_i t ks rows hc
      simp only [Option.bind_eq_some_iff] at h3
      obtain ⟨d, h4, h5⟩ := h3
      obtain ⟨hk, h6⟩ := if_some h5
      cases h6
      obtain ⟨pa, ha, ev⟩ := r2
      have g := w2.dol_get (t := t) (ks := ks) (rows := rows) ha (by rw [g2]; exact hc) (w2.derefT (r1.ext e2) (by rw [g2]; exact h4)) hk
      cases hl : lookJ ks d with
      | none =>
        rw [hl] at g
        exact ⟨pa, none, ev, g, q _ _ _ (e1.trans e2) g2 w2 (by rw [hl]; rfl)⟩
      | some j =>
        rw [hl] at g
        obtain ⟨qa, g3, g4⟩ := g
        exact ⟨pa, _, ev, g3, q _ _ _ (e1.trans e2) g2 w2 (by rw [hl]; rfl)⟩
    · cases h3
  · cases h3
section
variable {X : Cx} {a b : Expr} {m n : ME} {pos : Pos}
theorem inO_in {k : Kx} {σ : L2.St} {H : Hp} {Q : VK} (h : tE k (mInO false m n) σ H Q) : tOp rInDt (tE k m) (tE k n) σ H Q := by
  have z := inO_of h
  simp only [Bool.false_bne] at z
  exact z
theorem inO_notin {k : Kx} {σ : L2.St} {H : Hp} {Q : VK} (h : tE k (mInO true m n) σ H Q) : tOp rNotInDt (tE k m) (tE k n) σ H Q := by
  have z := inO_of h
  simp only [Bool.true_bne] at z
  exact z
variable (hu : X.A.units + 65 < cLine)
include hu
theorem ex_inO (ha : EX X a m) (hb : EX X b n) (hm : behindInMarks .In b = false := by rfl) : EX X (.Compare a [.In] [b] pos) (mInO false m n) := (pe_cmpR (op_inDt hu) ha hb hm).mono fun _ _ _ h => inO_in h
theorem ex_notinO (ha : EX X a m) (hb : EX X b n) (hm : behindInMarks .NotIn b = false := by rfl) : EX X (.Compare a [.NotIn] [b] pos) (mInO true m n) := (pe_cmpR (op_notInDt hu) ha hb hm).mono fun _ _ _ h => inO_notin h
theorem tx_inO (ha : EX X a m) (hb : EX X b n) (hm : behindInMarks .In b = false := by rfl) : TX X (.Compare a [.In] [b] pos) (mTest (mInO false m n)) := (pt_cmpR (op_inDt hu) ha hb hm).mono fun _ _ _ h => inO_in (test_of h)
theorem tx_notinO (ha : EX X a m) (hb : EX X b n) (hm : behindInMarks .NotIn b = false := by rfl) : TX X (.Compare a [.NotIn] [b] pos) (mTest (mInO true m n)) := (pt_cmpR (op_notInDt hu) ha hb hm).mono fun _ _ _ h => inO_notin (test_of h)
end
end PL

set_option Elab.async false
set_option linter.all false
set_option maxRecDepth 100000
/-! PL18: what raises: errors of own classes with one field, made by raise, let out by defs, caught by except .. as e -/
namespace PL
open PySem PySem.Spec PyProof.Rows L2

/-- an error: its class, its field and what that holds -/
structure Er where
  c : Str
  f : Str
  x : D
def ErRep (k : Kx) (F : Hp) (cls : Value) (d : Option Addr) (er : Er) : Prop := ∃ C dd v, cls = .ref C ∧ k.mg er.c = some (.ref C) ∧ d = some dd ∧ F dd = some (.xd [(er.f, v)]) ∧ Rep k F v er.x
theorem ErRep.mono {k : Kx} {F F' : Hp} (e : Same F F') {cls : Value} {d : Option Addr} {er : Er} (h : ErRep k F cls d er) : ErRep k F' cls d er := by
  obtain ⟨C, dd, v, h1, h2, h3, h4, h5⟩ := h
  exact ⟨C, dd, v, h1, h2, h3, e _ _ h4, Rep.mono e _ h5⟩
/-- a way that ends with an error -/
abbrev MR := Env → Sto → Option (Er × Env × Sto)
abbrev MRE := Env → Sto → Option (Er × Sto)
def tR (k : Kx) (W : L2.WX) (m : MR) : TS := fun _ σ H => ∃ G ρ, WG k G H ∧ EnvOk k G σ ρ ∧ ∃ er ρ' μ', m ρ G.μ = some (er, ρ', μ') ∧
  ∀ cls d σ' H' G', Ext G G' → G'.μ = μ' → WG k G' H' → EnvOk k G' σ' ρ' → ErRep k G'.F cls d er → W cls d σ' H'
def tRE (k : Kx) (W : L2.WX) (m : MRE) : TE := fun σ H _ => ∃ G ρ, WG k G H ∧ EnvOk k G σ ρ ∧ ∃ er μ', m ρ G.μ = some (er, μ') ∧
  ∀ cls d H' G', Ext G G' → G'.μ = μ' → WG k G' H' → ErRep k G'.F cls d er → W cls d σ H'
def tB (k : Kx) (W : L2.WX) (m : MS) (r : MR) : TS := fun D σ H => tS k m D σ H ∨ tR k W r D σ H
def tBE (k : Kx) (W : L2.WX) (m : ME) (r : MRE) : TE := fun σ H Q => tE k m σ H Q ∨ tRE k W r σ H Q
abbrev CSX (X : Cx) (W : L2.WX) (s : Stmt) (m : MS) (r : MR) : Prop := PS X s (tB (kx X) W m r)
abbrev CBX (X : Cx) (W : L2.WX) (ss : List Stmt) (m : MS) (r : MR) : Prop := PSs X ss (tB (kx X) W m r)
abbrev REX (X : Cx) (W : L2.WX) (e : Expr) (r : MRE) : Prop := PE X e (tRE (kx X) W r)
theorem _root_.L2.PE.or {X : Cx} {e : Expr} {t u : TE} (h : PE X e t) (h' : PE X e u) : PE X e (fun σ H Q => t σ H Q ∨ u σ H Q) := ⟨fun pins s σ H Q I hw => hw.elim (h.run pins s σ H Q I) (h'.run pins s σ H Q I)⟩
theorem _root_.L2.PS.or {X : Cx} {e : Stmt} {t u : TS} (h : PS X e t) (h' : PS X e u) : PS X e (fun D σ H => t D σ H ∨ u D σ H) := ⟨fun pins s σ H D I hw => hw.elim (h.run pins s σ H D I) (h'.run pins s σ H D I)⟩
theorem _root_.L2.PSs.or {X : Cx} {e : List Stmt} {t u : TS} (h : PSs X e t) (h' : PSs X e u) : PSs X e (fun D σ H => t D σ H ∨ u D σ H) := ⟨fun pins s σ H D I hw => hw.elim (h.run pins s σ H D I) (h'.run pins s σ H D I)⟩

def rNo : MR := fun _ _ => none
section
variable {X : Cx} {W : L2.WX} {pos : Pos} {st : Stmt} {sts : List Stmt} {a b c e : Expr} {es : List Expr} {m n l : ME} {ms mt mu : MS} {r rs rt : MR} {re rf : MRE} {tm : MT} {am : MA}
theorem tR_no {k : Kx} {D : Ends} {σ : L2.St} {H : Hp} (h : tR k W rNo D σ H) : False := by
  obtain ⟨_, _, _, _, _, _, _, h, _⟩ := h
  cases h
theorem csx_of (h : SX X st ms) : CSX X W st ms rNo := h.mono fun D σ H q => q.elim id fun z => (tR_no z).elim
theorem cbx_of (h : BX X sts ms) : CBX X W sts ms rNo := h.mono fun D σ H q => q.elim id fun z => (tR_no z).elim
theorem csx_or (h : SX X st ms) (h' : PS X st (tR (kx X) W r)) : CSX X W st ms r := h.or h'
def rSeq (a : MS) (r r' : MR) : MR := fun ρ μ => match r ρ μ with
  | some z => some z
  | none => (a ρ μ).bind fun o => match o.1 with
    | .nx => r' o.2.1 o.2.2
    | _ => none
theorem cbx_nil : CBX X W [] sNx rNo := cbx_of bx_nil
theorem cbx_one (h : CSX X W st ms r) : CBX X W [st] ms r := pss_one h
theorem cbx_cons (h1 : CSX X W st ms rs) (h2 : CBX X W sts mt rt) : CBX X W (st :: sts) (sSeq ms mt) (rSeq ms rs rt) := (pss_cons h1 h2).mono fun D σ H h => by
  rcases h with ⟨G, ρ, w, e, o, ρ', μ', hm, q⟩ | ⟨G, ρ, w, e, er, ρ', μ', hm, q⟩
  · simp only [sSeq, Option.bind_eq_some_iff] at hm
    obtain ⟨⟨o1, ρ1, μ1⟩, h1, h2⟩ := hm
    refine .inl ⟨G, ρ, w, e, o1, ρ1, μ1, h1, fun σ1 H1 G1 e1 g1 w1 n1 => ?_⟩
    split at h2
    · rename_i ho
      simp only at ho
      subst ho
      exact .inl ⟨G1, ρ1, w1, n1, o, ρ', μ', by rw [g1]; exact h2, fun σ' H' G' e' g' w' n' => q σ' H' G' (e1.trans e') g' w' n'⟩
    · rename_i ho
      cases h2
      have z := q σ1 H1 G1 e1 g1 w1 n1
      cases o with
      | nx => exact (ho rfl).elim
      | rt v => exact z
      | bk => exact z
      | ct => exact z
  · unfold rSeq at hm
    split at hm
    · rename_i z hz
      cases hm
      exact .inr ⟨G, ρ, w, e, er, ρ', μ', hz, q⟩
    · simp only [Option.bind_eq_some_iff] at hm
      obtain ⟨⟨o1, ρ1, μ1⟩, h1, h2⟩ := hm
      refine .inl ⟨G, ρ, w, e, o1, ρ1, μ1, h1, fun σ1 H1 G1 e1 g1 w1 n1 => ?_⟩
      split at h2
      · rename_i ho
        simp only at ho
        subst ho
        exact .inr ⟨G1, ρ1, w1, n1, er, ρ', μ', by rw [g1]; exact h2, fun cls d σ' H' G' e' g' w' n' r' => q cls d σ' H' G' (e1.trans e') g' w' n' r'⟩
      · cases h2
def rIf (t : MT) (a b : MR) : MR := fun ρ μ => (t ρ μ).bind fun p => if p.1 = true then a ρ p.2 else b ρ p.2
theorem csx_if {ss ts : List Stmt} (hc : TX X c tm) (ha : CBX X W ss ms rs) (hb : CBX X W ts mt rt) : CSX X W (.If c ss ts pos) (sIf tm ms mt) (rIf tm rs rt) := (ps_if hc ha hb).mono fun D σ H h => by
  rcases h with ⟨G, ρ, w, e, o, ρ', μ', hm, q⟩ | ⟨G, ρ, w, e, er, ρ', μ', hm, q⟩
  · simp only [sIf, Option.bind_eq_some_iff] at hm
    obtain ⟨⟨p, μ1⟩, h1, h2⟩ := hm
    refine ⟨G, ρ, w, e, p, μ1, h1, fun H1 G1 e1 g1 w1 => ?_⟩
    cases p with
    | true =>
      rw [if_pos rfl] at h2 ⊢
      exact .inl ⟨G1, ρ, w1, e.ext e1, o, ρ', μ', by rw [g1]; exact h2, fun σ' H' G' e' g' w' n' => q σ' H' G' (e1.trans e') g' w' n'⟩
    | false =>
      rw [if_neg Bool.false_ne_true] at h2 ⊢
      exact .inl ⟨G1, ρ, w1, e.ext e1, o, ρ', μ', by rw [g1]; exact h2, fun σ' H' G' e' g' w' n' => q σ' H' G' (e1.trans e') g' w' n'⟩
  · simp only [rIf, Option.bind_eq_some_iff] at hm
    obtain ⟨⟨p, μ1⟩, h1, h2⟩ := hm
    refine ⟨G, ρ, w, e, p, μ1, h1, fun H1 G1 e1 g1 w1 => ?_⟩
    cases p with
    | true =>
      rw [if_pos rfl] at h2 ⊢
      exact .inr ⟨G1, ρ, w1, e.ext e1, er, ρ', μ', by rw [g1]; exact h2, fun cls d σ' H' G' e' g' w' n' r' => q cls d σ' H' G' (e1.trans e') g' w' n' r'⟩
    | false =>
      rw [if_neg Bool.false_ne_true] at h2 ⊢
      exact .inr ⟨G1, ρ, w1, e.ext e1, er, ρ', μ', by rw [g1]; exact h2, fun cls d σ' H' G' e' g' w' n' r' => q cls d σ' H' G' (e1.trans e') g' w' n' r'⟩
open Classical in
/-- a loop one of whose turns raises -/
noncomputable def forR (oc : Option (Nat × Cell)) (t : Tg) (b : MS) (r : MR) : List D → Env → Sto → Option (Er × Env × Sto)
  | [], _, _ => none
  | d :: ds, ρ, μ => (bind1 t (.dat d) ρ).bind fun ρ1 => match r ρ1 μ with
    | some z => some z
    | none => (b ρ1 μ).bind fun o => match o.1 with
      | .nx => if keepP oc o.2.2 then forR oc t b r ds o.2.1 o.2.2 else none
      | .ct => if keepP oc o.2.2 then forR oc t b r ds o.2.1 o.2.2 else none
      | _ => none
noncomputable def rFor (mi : MI) (t : Tg) (b : MS) (r : MR) : MR := fun ρ μ => (mi ρ μ).bind fun p => forR p.2.1 t b r p.1 ρ p.2.2
theorem forR_of {k : Kx} {D : Ends} {σ : L2.St} {H : Hp} {mi : MI} {t : Tg} (h : tR k W (rFor mi t ms rs) D σ H) : tFor (tI k mi) (gT k.K t) (tB k W ms rs) D σ H := by
  obtain ⟨G0, ρ0, w0, e0, er, ρ', μ', hm, q0⟩ := h
  simp only [rFor, Option.bind_eq_some_iff] at hm
  obtain ⟨⟨items, oc, μ1⟩, h1, h2⟩ := hm
  refine ⟨G0, ρ0, w0, e0, items, oc, μ1, h1, fun J H1 G1 e1 g1 w1 k1 S => ?_⟩
  refine ⟨fun i m σ H => m = items.length - i ∧ i ≤ items.length ∧ ∃ G ρ, Ext G1 G ∧ WG k G H ∧ EnvOk k G σ ρ ∧ keepP oc G.μ ∧ forR oc t ms rs (items.drop i) ρ G.μ = some (er, ρ', μ'),
    ⟨items.length, by omega, by omega, G1, ρ0, Ext.refl _, w1, e0.ext e1, k1, by rw [g1]; exact h2⟩, ?_⟩
  rintro i n σ H ⟨hn, hi, G, ρ, eG, w, e, kp, hm⟩
  by_cases hlt : i < items.length
  · rw [List.drop_eq_getElem_cons hlt] at hm
    simp only [forR, Option.bind_eq_some_iff] at hm
    obtain ⟨ρ2, h3, h5⟩ := hm
    cases hr : rs ρ2 G.μ with
    | some z =>
      rw [hr] at h5
      cases h5
      refine .inr ⟨S.go hlt eG.w w kp, fun _ _ => False, fun _ _ z => z.elim, fun x H' y => ?_⟩
      obtain ⟨G2, d, e2, g2, w2, hd, r2⟩ := S.yl hlt eG.w w kp y
      rw [List.getElem?_eq_getElem hlt] at hd
      cases hd
      refine gT_of w2 t.slots t (e.ext e2) (x := .dat items[i]) r2 h3 (fun j hj => hj) fun σ2 n2 _ => ?_
      exact .inr ⟨G2, ρ2, w2, n2, er, ρ', μ', by rw [g2]; exact hr, fun cls d σ' H' G' e' g' w' n' r' => q0 cls d σ' H' G' (((e1.trans eG).trans e2).trans e') g' w' n' r'⟩
    | none =>
      rw [hr] at h5
      simp only [Option.bind_eq_some_iff] at h5
      obtain ⟨⟨o3, ρ3, μ3⟩, h4, h5⟩ := h5
      have hk : ∀ μ4, μ4 = μ3 → (o3 = .nx ∨ o3 = .ct) ∧ keepP oc μ4 ∧ forR oc t ms rs (items.drop (i + 1)) ρ3 μ4 = some (er, ρ', μ') := by
        rintro μ4 rfl
        cases o3 with
        | nx => exact ⟨.inl rfl, if_so h5⟩
        | ct => exact ⟨.inr rfl, if_so h5⟩
        | bk => cases h5
        | rt v => cases h5
      refine .inr ⟨S.go hlt eG.w w kp, fun σ' H' => ∃ G' ρ'', Ext G1 G' ∧ WG k G' H' ∧ EnvOk k G' σ' ρ'' ∧ G'.μ = μ3 ∧ ρ'' = ρ3, ?_, fun x H' y => ?_⟩
      · rintro σ' H' ⟨G', ρ4, a1, a2, a3, a4, a5⟩
        subst a5
        exact ⟨items.length - (i + 1), by omega, rfl, by omega, G', ρ4, a1, a2, a3, (hk _ a4).2.1, (hk _ a4).2.2⟩
      · obtain ⟨G2, d, e2, g2, w2, hd, r2⟩ := S.yl hlt eG.w w kp y
        rw [List.getElem?_eq_getElem hlt] at hd
        cases hd
        refine gT_of w2 t.slots t (e.ext e2) (x := .dat items[i]) r2 h3 (fun j hj => hj) fun σ2 n2 _ => ?_
        refine .inl ⟨G2, ρ2, w2, n2, o3, ρ3, μ3, by rw [g2]; exact h4, fun σ' H' G' e' g' w' n' => ?_⟩
        rcases (hk _ rfl).1 with z | z <;> subst z
        · exact ⟨G', ρ3, (eG.trans e2).trans e', w', n', g', rfl⟩
        · exact ⟨G', ρ3, (eG.trans e2).trans e', w', n', g', rfl⟩
  · have hi' : i = items.length := by omega
    subst hi'
    rw [List.drop_length] at hm
    cases hm
theorem csx_for {tg iter : Expr} {mi : MI} {t : Tg} (hc : X.calm = true) (hi : IX X tg iter mi) (hg : PG X tg (gT X.K t)) (h0 : BX X sts ms) (hb : CBX X W sts ms rs) (hs : ∀ x, foldedSetIterable iter X.env x = pure x := by intro _; rfl) (hp : PassesOwn (model X.prog X.w) X.A X.env X.xe := by exact PassesOwn.leaving) :
    CSX X W (.For tg iter sts [] pos) (sFor mi t ms) (rFor mi t ms rs) := (sx_for hc hi hg h0 hs hp).or ((ps_for hp hc hi hg hb hs).mono fun D σ H h => forR_of h)
/-! ### expressions that raise -/
def rEx (r : MRE) : MR := fun ρ μ => (r ρ μ).map fun p => (p.1, ρ, p.2)
theorem rex_expr (h : REX X W e re) (hs : swapsWith e none pos.line X.env = pure false := by rfl) : PS X (.Expr e pos) (tR (kx X) W (rEx re)) := (ps_expr h hs).mono fun D σ H h => by
  obtain ⟨G, ρ, w, e, er, ρ', μ', hm, q⟩ := h
  simp only [rEx, Option.map_eq_some_iff] at hm
  obtain ⟨⟨p, μ1⟩, h1, h2⟩ := hm
  cases h2
  exact ⟨G, ρ, w, e, p, μ1, h1, fun cls d H' G' e' g' w' r' => q cls d σ H' G' e' g' w' (e.ext e') r'⟩
theorem rex_ret (h : REX X W e re) : PS X (.Return (some e) pos) (tR (kx X) W (rEx re)) := (ps_ret h).mono fun D σ H h => by
  obtain ⟨G, ρ, w, e, er, ρ', μ', hm, q⟩ := h
  simp only [rEx, Option.map_eq_some_iff] at hm
  obtain ⟨⟨p, μ1⟩, h1, h2⟩ := hm
  cases h2
  exact ⟨G, ρ, w, e, p, μ1, h1, fun cls d H' G' e' g' w' r' => q cls d σ H' G' e' g' w' (e.ext e') r'⟩
/-- a == b, where a raises -/
theorem rex_eq (hu : X.A.units + 65 < cLine) (ha : REX X W a re) (hb : EX X b n) : REX X W (.Compare a [.Eq] [b] pos) re := (pe_cmpR (op_eqD (u64 hu)) ha hb (nomark b)).mono fun _ _ _ h => h
end
end PL

set_option Elab.async false
set_option linter.all false
set_option maxRecDepth 100000
/-! PL19: error classes, raise, defs that raise, their calls, try .. except -/
namespace PL
open PySem PySem.Spec PyProof.Rows L2

/-- __init__ of an error with one field -/
def spI (C : Addr) (fld : Str) : Sp := fun vs H Q _ => ∃ a y, vs = [.ref a, y] ∧ H a = some (exo a C none) ∧ ∀ dx, H dx = none → dx ≠ a → Q .non (upd (upd H dx (exd dx [(fld, y)])) a (exo a C (some dx)))
structure ExT (P : Program) (w : World) (K : PySem.W.Frag) (mg : Str → Option Value) (base : Heap) (x fld : Str) (ps : List Str) (C fI : Addr) (fd : FuncData) : Prop where
  C1 : OexC K C
  C2 : XfC K C
  no : PySem.W.findIn K (.ref C) fld = some none
  iC : PySem.W.findIn K (.ref C) "__init__" = some (some (.ref fI))
  tI : PySem.W.typeIn K (.ref fI) = some (.type "function")
  nm : mg x = some (.ref C)
  ex : PySem.W.exmOne K (.ref C) (.ref C) = some true
  ok : FnOk P w K mg base CX0 1 fI fd ps (spI C fld)
  bd : Binds K fd ps []
theorem init_ok {P : Program} {w : World} {K : PySem.W.Frag} {mg : Str → Option Value} {base : Heap} {x qual fld : Str} {st : Stmt} {f C : Addr} {fd : FuncData} {N ps : List Str} (F : Fun K x qual st f fd) (S : FnScope N ps (defScope st)) (hp : ps.length = 2) (hN : N.length = 2)
    (T : OexC K C) (no : PySem.W.findIn K (.ref C) fld = some none)
    (hb : ∀ (cdv : Value) (A : Around) (outer : List PySem.Env) (s : Shared) (H : Hp) (E : XK), PSs (cxOf CX0 P w K mg base N qual (defScope st) f cdv A outer s H E).nox (defBody st) (tOst K fld (tVar 0) (tVar 1))) : FnOk P w K mg base CX0 1 f fd ps (spI C fld) := by
  refine F.ok S (fun vs H Q E h => ?_) (fun cdv A outer s H vs Q E hr h => ⟨_, hb cdv A outer s H E, ?_⟩)
  · obtain ⟨a, y, e, _⟩ := h
    rw [e, hp]
    rfl
  · obtain ⟨a, y, e, h1, h2⟩ := h
    subst e
    have e0 : L2.start N [V.ref a, y] = [some (.ref a), some y] := by
      unfold L2.start
      rw [hN]
      rfl
    rw [e0]
    exact ⟨y, rfl, .ref a, rfl, a, C, rfl, T, no, .inl ⟨h1, fun dx n ne => h2 dx n ne⟩⟩

/-- an own error is made, its context None -/
theorem pmk_exN {X : Cx} {CXt : CXT} {x : Str} {C fI : Addr} {k : Nat} {fd : FuncData} {ps : List Str} {sp : Sp} {e : Expr} {es : List Expr} {ta : TA} {p pos : Pos} (T : OexC X.K C) (iC : PySem.W.findIn X.K (.ref C) "__init__" = some (some (.ref fI))) (tI : PySem.W.typeIn X.K (.ref fI) = some (.type "function"))
    (F1 : FnOk X.prog X.w X.K X.mg X.base CXt k fI fd ps sp) (hr : Room (k + 1) X.A) (hb : Binds X.K fd ps []) (hx : Passes CXt X (fun _ _ _ => False)) (hg : Gl X x) (hm : X.mg x = some (.ref C)) (ha : PA X (e :: es) ta)
    (hdb : (x == ("__debug__" : Str)) = false := by decide) (he : starEach (e :: es) X.env = (false, eval e X.env) :: starEach es X.env := by rfl) (hpl : (backTo pos (starEach es X.env)).any (·.1) = false := by rfl) :
    L2N.PMk X (.Call (.Name x p) (e :: es) [] pos) (tMkO C sp [] ta) := by
  intro pins s σ H Q I hw
  obtain ⟨nm, q, N, bs, bm, sn, sub, ab, col, dd, k0, k1, k2, k3, k5, hC, hbm⟩ := T.cls
  refine wpAny_Call_Name_kw (ld_glob I hg hm ?_ hdb)
  refine PySem.W.callWith_K (h₀ := X.base) I.ok.mod.kin T.kC (thn (ha.run pos pins s σ H _ I hw) fun us z ⟨vs, K1, J1, rv, hlen, nxt⟩ => ⟨J1.kIn, ?_⟩) he hpl
  show wpAny _ _ (call (.ref C) us) _ _ _
  obtain ⟨hp, gs, dr, tk, os⟩ := z
  -- the exception's place: behind its tuple of arguments
  have free : K1 (hp.objs.size + 1) = none := J1.hok.fresh (Nat.le_succ hp.objs.size)
  have sp1 := nxt (hp.objs.size + 1) free
  rw [List.append_nil] at sp1
  have kept : ∀ b o, hp.get? b = some o → ((hp.push (PySem.W.kdv_tup us)).push (PySem.HandSPX.excO C hp.objs.size)).get? b = some o := fun b o z => Heap.get?_push_of_some _ (Heap.get?_push_of_some _ z)
  have stands : ((hp.push (PySem.W.kdv_tup us)).push (PySem.HandSPX.excO C hp.objs.size)).get? (hp.objs.size + 1) = some (PySem.HandSPX.excO C hp.objs.size) := by heap_get
  have J2 := J1.laid (t' := tk) kept (Nat.le_succ hp.objs.size) (exo_ok (P := X.prog) (w := X.w) (H := upd K1 (hp.objs.size + 1) (exo (hp.objs.size + 1) C none)) stands)
  have rr : Vals (V.ref (hp.objs.size + 1) :: vs) (Value.ref (hp.objs.size + 1) :: us) := .cons rfl rv
  have len2 : (Value.ref (hp.objs.size + 1) :: us ++ []).length = ps.length := by
    have z := rr.length
    rw [F1.len _ _ _ _ sp1] at z
    rw [List.append_nil]
    exact z.symm
  have usz : us.length ≤ sizeLine := by
    have z := Paired.length rv
    rw [sizeLine_eq]
    omega
  have bnd := hb _ (Value.ref (hp.objs.size + 1) :: us) J2.kIn len2
  rw [List.append_nil] at bnd
  have ran := F1.run _ X.stack _ _ ⟨Value.ref (hp.objs.size + 1) :: us, []⟩ (Value.ref (hp.objs.size + 1) :: us) _ _ (fun _ _ _ => False) (hr.make C us []) (J2.env0.make C us []) bnd rr sp1
  refine wpAny_call (PySem.HandSPX.call_own PySem.F.excBase_ValueError (fun Y => PySem.HandSPX.refsVE_contains Y bm hbm) (J1.kIn _ _ hC) (PySem.W.looks_findIn J1.kIn iC) (fun self => PySem.W.bind_fn J1.kIn self tI) usz (codeAny_mono ran fun res s' fin => ?_))
  match res, fin with
  | .error er, fin => exact hx pins σ _ _ er s' J2 fin
  | .ok .next, fin => exact False.elim fin
  | .ok .brk, fin => exact False.elim fin
  | .ok .cont, fin => exact False.elim fin
  | .ok (.ret u), fin =>
    obtain ⟨v, K2, os2, ba, un, ok2, rvv, ev, d, fs, ea, ed, nd, q2⟩ := fin
    subst ev
    obtain ⟨h2, g2, d2, t2, os'⟩ := s'
    obtain ⟨t0, G, J, kG, ge, hoe, na⟩ := mk_end0 (d2 := d2) (t2 := t2) J1 (Nat.le_succ hp.objs.size) kept un ok2 os2 ba ea ed nd
    refine ⟨rvv, hp.objs.size + 1, _, _, ⟨G, g2, d2, t2, os'⟩, _, .ref C, some d, rfl, J, kG, ge, hoe, ⟨rfl, rfl, ?_⟩, rfl, rfl, na, rfl, ba, raises_own T.exC T.tyC, q2⟩
    intro ws z
    cases z
    rfl
section
variable {X : Cx} {W : L2.WX} {pos p : Pos} {st : Stmt} {sts : List Stmt} {a b c e : Expr} {es : List Expr} {m n l : ME} {ms mt mu : MS} {r rs rt : MR} {re rf : MRE} {tm : MT} {am : MA} {x fld : Str} {ps : List Str} {C fI : Addr} {fd : FuncData}
/-- raise C(e) -/
def rRaise (c fld : Str) (m : ME) : MR := fun ρ μ => (m ρ μ).bind fun p => match p.1 with
  | .dat d => some (⟨c, fld, d⟩, ρ, p.2)
  | _ => none
theorem err_heap {H : Hp} {a C d : Addr} {fs : List (Str × V)} (ha : H a = none) (hd : d ≠ a) : upd (del (upd (upd (upd H a (exo a C none)) d (exd d fs)) a (exo a C (some d))) a) d (.xd fs) = upd H d (.xd fs) := by
  funext b
  by_cases h1 : b = d
  · subst h1
    rw [upd_same, upd_same]
  · rw [upd_ne h1, upd_ne h1]
    by_cases h2 : b = a
    · subst h2
      rw [del_same, ha]
    · rw [del_ne h2, upd_ne h2, upd_ne h1, upd_ne h2]
theorem csx_raise (hc : X.calm = true) (tk : L2N.Takes X W) (T : ExT X.prog X.w X.K X.mg X.base x fld ps C fI fd) (hr : Room 2 X.A) (hg : Gl X x) (ha : EX X e m)
    (hdb : (x == ("__debug__" : Str)) = false := by decide) (he : starEach (e :: []) X.env = (false, eval e X.env) :: starEach [] X.env := by rfl) (hpl : (backTo pos (starEach [] X.env)).any (·.1) = false := by rfl) {pos2 : Pos} :
    CSX X W (.Raise (some (.Call (.Name x p) [e] [] pos)) none pos2) sNo (rRaise x fld m) := (L2N.ps_raise hc tk (pmk_exN T.C1 T.iC T.tI T.ok hr T.bd pass0 hg T.nm (pa_cons ha pa_nil he) hdb he hpl)).mono fun D σ H h => by
  rcases h with ⟨G, ρ, w, e, o, ρ', μ', hm, q⟩ | ⟨G, ρ, w, e, er, ρ', μ', hm, q⟩
  · cases hm
  · simp only [rRaise, Option.bind_eq_some_iff] at hm
    obtain ⟨⟨y, μ1⟩, h1, h2⟩ := hm
    split at h2
    · rename_i d hd
      simp only at hd
      subst hd
      cases h2
      refine ⟨G, ρ, w, e, .dat d, μ1, h1, fun v H1 G1 e1 g1 w1 r1 => ?_⟩
      refine ⟨(by show 1 ≤ 1000; decide), fun a na => ⟨a, v, rfl, upd_same, fun dx nd ne => ⟨rfl, dx, [(fld, v)], upd_same, ?_, ?_, ?_⟩⟩⟩
      · rw [upd_ne ne, upd_same]
      · rw [upd_ne ne] at nd
        exact nd
      · rw [upd_ne ne] at nd
        rw [err_heap na ne]
        refine q (.ref C) (some dx) σ _ _ (e1.trans (w1.extF (o := .xd [(fld, v)]) nd)) g1 (w1.new nd) ((e.ext e1).ext (w1.extF nd)) ⟨C, dx, v, rfl, T.nm, rfl, upd_same, ?_⟩
        exact Rep.mono (same_new (w1.fnew nd)) d r1
    · cases h2
end

/-! ### defs that raise -/
abbrev FnX := List PV → Sto → Option (Er × Sto)
def spR (k : Kx) (fx : FnX) : Sp := fun vs H _ E => ∃ G xs, WG k G H ∧ VReps k G vs xs ∧ ∃ er μ', fx xs G.μ = some (er, μ') ∧ ∀ cls d H' G', Ext G G' → G'.μ = μ' → WG k G' H' → ErRep k G'.F cls d er → E cls d H'
def fxOf (n j : Nat) (r : MR) : FnX := fun xs μ => if xs.length = j then (r (startE n xs) μ).map fun p => (p.1, p.2.2.take μ.length) else none
theorem WG.cutE {k : Kx} {G G' : Gh} {H' : Hp} (w : WG k G' H') (w0 : G.ι.length = G.μ.length) (e : Ext G G') : WG k { G' with μ := G'.μ.take G.μ.length, ι := G'.ι.take G.μ.length } H' ∧ Ext G { G' with μ := G'.μ.take G.μ.length, ι := G'.ι.take G.μ.length } := by
  have hc := e.cut G.μ.length w0.symm
  exact ⟨w.cut _, e.f, e.p, e.o, [], by show G'.ι.take _ = _; rw [hc]; simp⟩
structure DfX (P : Program) (w : World) (K : PySem.W.Frag) (mg : Str → Option Value) (base : Heap) (x : Str) (ps : List Str) (f : Addr) (fd : FuncData) (k : Nat) (fx : FnX) : Prop where
  ok : FnOk P w K mg base (L2N.CX P w) k f fd ps (spR ⟨K, mg⟩ fx)
  nm : mg x = some (.ref f)
  kp : PySem.W.keepIn K (.ref f) = true
  bd : Binds K fd ps []
theorem dfx_mk {P : Program} {w : World} {K : PySem.W.Frag} {mg : Str → Option Value} {base : Heap} {x qual : Str} {st : Stmt} {f : Addr} {fd : FuncData} {N ps : List Str} {k : Nat} {m : MS} {r : MR} (A : At K mg x qual st ps f fd) (S : FnScope N ps (defScope st))
    (hb : ∀ (cdv : Value) (A : Around) (outer : List PySem.Env) (s : Shared) (H : Hp) (E : XK), Room k (A.deeper (envOfC qual (defScope st) s.heap.objs.size f cdv)) →
      L2N.Takes (cxOf (L2N.CX P w) P w K mg base N qual (defScope st) f cdv A outer s H E) (fun cls d _ H => E cls d H) →
      CBX (cxOf (L2N.CX P w) P w K mg base N qual (defScope st) f cdv A outer s H E) (fun cls d _ H => E cls d H) (defBody st) m r) :
    DfX P w K mg base x ps f fd (k + 1) (fxOf N.length ps.length r) := by
  refine ⟨?_, A.nm, A.fn.kp, A.bd⟩
  obtain ⟨oc, od, kV, doc, pm, an, cdv, ct, osl, rfl, lk, hcd⟩ := A.fn.ex
  refine fn_of lk hcd S (fun vs H Q E h => ?_) fun A1 outer s H vs Q E hr h => ⟨_, hb cdv A1 outer s H E hr (L2N.takes_of rfl rfl rfl rfl), ?_⟩
  · obtain ⟨G, xs, w0, rr, er, μ', hm, q⟩ := h
    unfold fxOf at hm
    rw [rr.length, (if_so hm).1]
  · obtain ⟨G, xs, w0, rr, er, μ', hm, q⟩ := h
    unfold fxOf at hm
    have h2 := (if_so hm).2
    obtain ⟨⟨er', ρ1, μ1⟩, h3, h4⟩ := Option.map_eq_some_iff.mp h2
    cases h4
    refine .inr ⟨G, _, w0, env_start rr, er', ρ1, μ1, h3, fun cls d σ' H' G' e' g' w' n' r' => ?_⟩
    obtain ⟨c1, c2⟩ := w'.cutE w0.len e'
    exact q cls d H' _ c2 (by show G'.μ.take _ = _; rw [g']) c1 r'
section
variable {X : Cx} {W : L2.WX} {pos p : Pos} {e : Expr} {es : List Expr} {am : MA} {x : Str} {ps : List Str} {f : Addr} {fd : FuncData} {k : Nat} {fx : FnX} {kws : List Keyword} {km : MA} {ks : List Str} {n : Nat}
def rCall (fx : FnX) (am : MA) : MRE := fun ρ μ => (am ρ μ).bind fun p => fx p.1 p.2
theorem rex_call (F : DfX X.prog X.w X.K X.mg X.base x ps f fd k fx) (tk : L2N.Takes X W) (hr : Room k X.A) (hg : Gl X x) (ha : AX X (e :: es) am) (hdb : (x == ("__debug__" : Str)) = false := by decide)
    (he : starEach (e :: es) X.env = (false, eval e X.env) :: starEach es X.env := by rfl) (hpl : (backTo pos (starEach es X.env)).any (·.1) = false := by rfl) : REX X W (.Call (.Name x p) (e :: es) [] pos) (rCall fx am) :=
  (pe_callSD (E := WE W) F.ok hr hg F.nm F.kp F.bd .nil (fun σ => L2N.passAt tk σ) ha hdb he hpl).mono fun σ H Q h => by
    obtain ⟨G, ρ, w, e, er, μ', hm, q⟩ := h
    simp only [rCall, Option.bind_eq_some_iff] at hm
    obtain ⟨⟨xs, μ1⟩, h1, h2⟩ := hm
    refine ⟨G, ρ, w, e, xs, μ1, h1, fun vs H1 G1 e1 g1 w1 r1 => ?_⟩
    exact ⟨G1, xs, w1, by rw [List.append_nil]; exact r1, er, μ', by rw [g1]; exact h2, fun cls d H' G' e' g' w' r' => q cls d H' G' (e1.trans e') g' w' r'⟩
end

/-! ### try: .. except C as n: .. -/
theorem takesN0 {X : Cx} : L2N.Takes X (fun _ _ _ _ => False) := fun u s' z => by
  obtain ⟨_, _, _, _, _, _, _, _, _, _, _, _, _, _, _, _, w⟩ := z
  exact w.elim
/-- what a suite takes over: the error at a in slot i -/
def tSu (k : Kx) (i : Nat) (m : Er → MS) : Addr → Value → Option Addr → TS := fun a cls d D σ H => ∃ G ρ er, WG k G H ∧ EnvOk k G σ ρ ∧ σ[i]? = some (some (.ref a)) ∧ ErRep k G.F cls d er ∧ ∃ o ρ' μ', m er ρ G.μ = some (o, ρ', μ') ∧
  ∀ σ' H' G', Ext G G' → G'.μ = μ' → WG k G' H' → EnvOk k G' σ' ρ' → endOf k G' σ' H' D o
def sTry (x : Str) (i : Nat) (m : MS) (r : MR) (su : Er → MS) : MS := fun ρ μ => match m ρ μ with
  | some z => some z
  | none => (r ρ μ).bind fun p => if p.1.c = x ∧ i < p.2.1.length then (su p.1 (p.2.1.set i none) p.2.2).map fun z => (z.1, z.2.1.set i none, z.2.2) else none
theorem env_wipeS {k : Kx} {G : Gh} {σ : L2.St} {ρ : Env} (e : EnvOk k G σ ρ) (i : Nat) (z : Option V) : EnvOk k G (σ.set i z) (ρ.set i none) := by
  refine ⟨by simp [e.len], fun j y h => ?_⟩
  by_cases hj : i = j
  · subst hj
    by_cases hl : i < ρ.length
    · rw [List.getElem?_set_self hl] at h
      cases h
    · rw [List.getElem?_eq_none (by simpa using hl)] at h
      cases h
  · rw [List.getElem?_set_ne hj] at h ⊢
    exact e.at' j y h
section
variable {X : Cx} {W : L2.WX} {np pos pos' : Pos} {body suite : List Stmt} {b₀ : Stmt} {ms : MS} {r : MR} {su : Er → MS} {x n : Str} {C : Addr} {i : Nat}
theorem sx_try (hs : X.stack = X.env :: X.outer) (hf : X.env.frame = some X.env.locals) (hN : X.N.Nodup) (hi : X.N[i]? = some n) (hln : X.env.kindOf n = some .local) (hg : Gl X x) (hm : X.mg x = some (.ref C)) (hex : PySem.W.exmOne X.K (.ref C) (.ref C) = some true)
    (hb : ∀ (W : L2.WX) (pn : List (Addr × Obj)) (xe : Value → Shared → Prop), L2N.Takes (X.tr pn xe) W → PassesOwn (model X.prog X.w) X.A X.env xe → CBX (X.tr pn xe) W body ms r)
    (hsu : ∀ (a : Addr) (oe : Obj) (cls : Value) (d : Option Addr) (pn : List (Addr × Obj)), L2N.Zn cls d oe → (∃ vs, oe.data = .fields vs) → PSs (X.suite a ((a, oe) :: pn)) (b₀ :: suite) (tSu (kx X) i su a cls d))
    (hdb : (x == ("__debug__" : Str)) = false := by decide) :
    SX X (.Try body [.ExceptHandler (some (.Name x np)) (some n) (b₀ :: suite) pos'] [] [] pos) (sTry x i ms r su) :=
  (L2N.ps_try_as (i := i) (tb := fun W => tB (kx X) W ms r) (ts := tSu (kx X) i su) (Wout := fun _ _ _ _ => False) hs hf hN hi hln ⟨hg, hdb, .inl hm⟩ takesN0 hb hsu).mono fun D σ H h => by
    obtain ⟨G, ρ, w, e, o, ρ', μ', hm1, q⟩ := h
    unfold sTry at hm1
    split at hm1
    · rename_i z hz
      cases hm1
      exact .inl ⟨G, ρ, w, e, o, ρ', μ', hz, q⟩
    · simp only [Option.bind_eq_some_iff] at hm1
      obtain ⟨⟨er, ρ1, μ1⟩, h1, h2⟩ := hm1
      obtain ⟨⟨hc, hl⟩, h3⟩ := if_so h2
      obtain ⟨⟨o2, ρ2, μ2⟩, h4, h5⟩ := Option.map_eq_some_iff.mp h3
      cases h5
      refine .inr ⟨G, ρ, w, e, er, ρ1, μ1, h1, fun cls d σ' H' G' e' g' w' n' r' => ?_⟩
      have ec : cls = .ref C := by
        obtain ⟨C', dd, v, z1, z2, _⟩ := r'
        have z3 : X.mg er.c = some (.ref C') := z2
        rw [show er.c = x from hc, hm] at z3
        cases z3
        exact z1
      subst ec
      refine ⟨true, hex, fun _ a na => ?_, fun z => Bool.noConfusion z⟩
      refine ⟨G', ρ1.set i none, er, w', env_wipeS n' i _, ?_, r', o2, ρ2, μ2, by rw [g']; exact h4, fun σ2 H2 G2 e2 g2 w2 n2 => ?_⟩
      · exact List.getElem?_set_self (by rw [n'.len]; exact hl)
      · have z := q (σ2.set i none) H2 G2 (e'.trans e2) g2 w2 (env_wipeS n2 i none)
        cases o2 with
        | nx => exact z
        | rt v => exact z
        | bk => exact z
        | ct => exact z
end
end PL

set_option Elab.async false
set_option linter.all false
set_option maxRecDepth 100000
/-! PL20: lists that own lists: [list(row) for row in grid], found[i][j] = x -/
namespace PL
open PySem PySem.Spec PyProof.Rows L2

/-- at which place of a row of references an address stands -/
def rowNo : Nat → List V → Addr → Option Nat
  | _, [], _ => none
  | n, v :: vs, b => if v = .ref b then some n else rowNo (n + 1) vs b
theorem rowNo_some : ∀ {n : Nat} {vs : List V} {b : Addr} {j : Nat}, rowNo n vs b = some j → n ≤ j ∧ j < n + vs.length ∧ vs[j - n]? = some (.ref b)
  | _, [], _, _, h => by cases h
  | n, v :: vs, b, j, h => by
    unfold rowNo at h
    split at h
    · rename_i e
      cases h
      simp [e]
    · obtain ⟨h1, h2, h3⟩ := rowNo_some h
      refine ⟨by omega, by simp; omega, ?_⟩
      rw [show j - n = (j - (n + 1)) + 1 by omega, List.getElem?_cons_succ]
      exact h3
theorem rowNo_mem {n : Nat} {vs : List V} {b : Addr} {j : Nat} (h : rowNo n vs b = some j) : V.ref b ∈ vs := List.mem_of_getElem? (rowNo_some h).2.2
theorem rowNo_none : ∀ {n : Nat} {vs : List V} {b : Addr}, V.ref b ∉ vs → rowNo n vs b = none
  | _, [], _, _ => rfl
  | n, v :: vs, b, h => by
    unfold rowNo
    rw [if_neg (fun e => h (by rw [e]; exact List.mem_cons_self))]
    exact rowNo_none fun m => h (List.mem_cons_of_mem _ m)
theorem rowNo_at : ∀ {n : Nat} {vs : List V} {b : Addr} {j : Nat}, vs.Nodup → vs[j]? = some (.ref b) → rowNo n vs b = some (n + j)
  | _, [], _, _, _, h => by simp at h
  | n, v :: vs, b, 0, _, h => by
    have e : v = .ref b := by simpa using h
    unfold rowNo
    rw [if_pos e, Nat.add_zero]
  | n, v :: vs, b, j + 1, nd, h => by
    have h' : vs[j]? = some (.ref b) := by simpa using h
    have nv : v ≠ .ref b := fun e => (List.nodup_cons.mp nd).1 (by rw [e]; exact List.mem_of_getElem? h')
    unfold rowNo
    rw [if_neg nv, rowNo_at (List.nodup_cons.mp nd).2 h']
    congr 1
    omega
/-- who owns what when p has got the lists vs -/
def adL (W : Addr → Option (Addr × Nat)) (p : Addr) (vs : List V) : Addr → Option (Addr × Nat) := fun b => match rowNo 0 vs b with
  | some j => some (p, j)
  | none => match W b with
    | some x => if x.1 = p then none else some x
    | none => none
theorem adL_cases {W : Addr → Option (Addr × Nat)} {p : Addr} {vs : List V} {b : Addr} {x : Addr × Nat} (h : adL W p vs b = some x) : (x.1 = p ∧ rowNo 0 vs b = some x.2) ∨ (x.1 ≠ p ∧ W b = some x) := by
  unfold adL at h
  split at h
  · rename_i j hj
    cases h
    exact .inl ⟨rfl, hj⟩
  · split at h
    · rename_i y hy
      split at h
      · cases h
      · rename_i hn
        cases h
        exact .inr ⟨hn, hy⟩
    · cases h
theorem adL_old {W : Addr → Option (Addr × Nat)} {p : Addr} {vs : List V} {b : Addr} {x : Addr × Nat} (hm : V.ref b ∉ vs) (h : W b = some x) (hx : x.1 ≠ p) : adL W p vs b = some x := by
  unfold adL
  rw [rowNo_none hm, h]
  simp only [if_neg hx]
theorem adL_new {W : Addr → Option (Addr × Nat)} {p : Addr} {vs : List V} {b : Addr} {j : Nat} (nd : vs.Nodup) (h : vs[j]? = some (.ref b)) : adL W p vs b = some (p, j) := by
  unfold adL
  rw [rowNo_at nd h, Nat.zero_add]
/-- lists that are kept apart -/
def Apart (k : Kx) (F P : Hp) : List V → List (List D) → Prop
  | [], [] => True
  | v :: vs, r :: rs => (∃ q xs, v = .ref q ∧ P q = some (.lst xs) ∧ Reps k F xs r) ∧ Apart k F P vs rs
  | _, _ => False
theorem Apart.mono {k : Kx} {F F' P P' : Hp} (e : Same F F') : ∀ {vs : List V} {rs : List (List D)}, (∀ b, V.ref b ∈ vs → P' b = P b) → Apart k F P vs rs → Apart k F' P' vs rs
  | [], [], _, _ => trivial
  | [], _ :: _, _, h => h.elim
  | _ :: _, [], _, h => h.elim
  | v :: vs, r :: rs, hp, ⟨⟨q, xs, h1, h2, h3⟩, h⟩ => ⟨⟨q, xs, h1, by rw [hp q (by rw [h1]; exact List.mem_cons_self)]; exact h2, Reps.mono e _ h3⟩, Apart.mono e (fun b m => hp b (List.mem_cons_of_mem _ m)) h⟩
theorem Apart.length {k : Kx} {F P : Hp} : ∀ {vs : List V} {rs : List (List D)}, Apart k F P vs rs → vs.length = rs.length
  | [], [], _ => rfl
  | [], _ :: _, h => h.elim
  | _ :: _, [], h => h.elim
  | _ :: vs, _ :: rs, h => by rw [List.length_cons, List.length_cons, Apart.length (vs := vs) (rs := rs) h.2]
theorem Apart.at' {k : Kx} {F P : Hp} : ∀ {vs : List V} {rs : List (List D)} {v : V}, Apart k F P vs rs → v ∈ vs → ∃ q xs, v = .ref q ∧ P q = some (.lst xs)
  | [], _, v, _, m => by simp at m
  | _ :: _, [], _, h, _ => h.elim
  | w :: vs, r :: rs, v, ⟨⟨q, xs, h1, h2, _⟩, h⟩, m => by
    rcases List.mem_cons.mp m with e | m
    · exact ⟨q, xs, e.trans h1, h2⟩
    · exact Apart.at' (vs := vs) (rs := rs) h m
theorem Apart.snoc {k : Kx} {F P : Hp} {q : Addr} {xs : List V} {r : List D} (hq : P q = some (.lst xs)) (rr : Reps k F xs r) : ∀ {vs : List V} {rs : List (List D)}, Apart k F P vs rs → Apart k F P (vs ++ [.ref q]) (rs ++ [r])
  | [], [], _ => ⟨⟨q, xs, rfl, hq, rr⟩, trivial⟩
  | [], _ :: _, h => h.elim
  | _ :: _, [], h => h.elim
  | v :: vs, s :: rs, ⟨h1, h⟩ => ⟨h1, Apart.snoc hq rr (vs := vs) (rs := rs) h⟩
section
variable {k : Kx} {G : Gh} {H : Hp} {p : Addr} {o : HO}
/-- a thing that stands, in no cell, is put apart -/
theorem WG.pinAt (w : WG k G H) (ho : H p = some o) (hF : G.F p = none) (hp : p ∉ G.ι) (hW : G.W p = none) : WG k { G with P := upd G.P p o } H where
  fr := w.fr
  ap := fun b x e => by
    have e' : upd G.P p o b = some x := e
    by_cases hb : b = p
    · subst hb; rw [upd_same] at e'; cases e'; exact ho
    · rw [upd_ne hb] at e'; exact w.ap b x e'
  len := w.len
  nd := w.nd
  own := fun {q c} e => by
    obtain ⟨a2, a3, a4⟩ := w.own e
    have hq : q ≠ p := fun z => by subst z; rw [hW] at e; cases e
    exact ⟨by show upd G.P p o q = none; rw [upd_ne hq]; exact a2, a3, a4⟩
  inj := w.inj
  liv := w.liv
  there := w.there
  pi := fun {q} hq => by
    have : q ≠ p := fun e => by subst e; exact hp hq
    show upd G.P p o q = none
    rw [upd_ne this]; exact w.pi hq
  fp := fun {q o'} e => by
    have e' : upd G.P p o q = some o' := e
    by_cases hb : q = p
    · subst hb; exact hF
    · rw [upd_ne hb] at e'; exact w.fp e'
theorem rows_adL {k : Kx} {F P H : Hp} {W' : Addr → Option (Addr × Nat)} {p : Addr} (hF : ∀ b o, P b = some o → F b = none) (hP : Same P H) : ∀ {n : Nat} {vs : List V} {rs : List (List D)}, (∀ j b, vs[j]? = some (.ref b) → W' b = some (p, n + j)) → Apart k F P vs rs → Rows k F W' H p n vs rs
  | _, [], [], _, _ => trivial
  | _, [], _ :: _, _, h => h.elim
  | _, _ :: _, [], _, h => h.elim
  | n, v :: vs, r :: rs, hw, ⟨⟨q, xs, h1, h2, h3⟩, h⟩ => ⟨⟨q, xs, h1, hw 0 q (by rw [h1]; rfl), hF _ _ h2, hP _ _ h2, h3⟩, rows_adL hF hP (n := n + 1) (vs := vs) (rs := rs) (fun j b e => by rw [hw (j + 1) b (by simpa using e)]; congr 2; omega) h⟩
/-- a list and the lists in it become a cell that owns them -/
theorem WG.adopt (w : WG k G H) {P' : Hp} {vs : List V} {rows : List (List D)} (hP : G.P p = some (.lst vs)) (ha : Apart k G.F G.P vs rows) (nd : vs.Nodup) (sP : Same P' G.P) (np : P' p = none) (nq : ∀ b, V.ref b ∈ vs → P' b = none) (hpv : V.ref p ∉ vs) :
    WG k { G with P := P', μ := G.μ ++ [.dol none [] rows], ι := G.ι ++ [p], W := adL G.W p vs } H := by
  have hi : p ∉ G.ι := fun h => by have := w.pi h; rw [hP] at this; cases this
  have hqi : ∀ b, V.ref b ∈ vs → b ∉ G.ι := fun b m h => by
    obtain ⟨q, xs, e1, e2⟩ := ha.at' m
    cases e1
    have := w.pi h; rw [e2] at this; cases this
  have hqH : ∀ b, V.ref b ∈ vs → H b ≠ none := fun b m => by
    obtain ⟨q, xs, e1, e2⟩ := ha.at' m
    cases e1
    rw [w.ap _ _ e2]; simp
  have hqW : ∀ b, V.ref b ∈ vs → G.W b = none := fun b m => by
    obtain ⟨q, xs, e1, e2⟩ := ha.at' m
    cases e1
    exact w.wp e2
  refine ⟨w.fr, fun b x h => w.ap b x (sP b x h), by simp [w.len], ?_, fun {i q c} h1 h2 h3 => ?_, fun {b x} e => ?_, fun {b b' x} e e' => ?_, fun {b} hb => ?_, fun {b} hb => ?_, fun {b o} h => w.fp (sP _ _ h)⟩
  · rw [List.nodup_append]
    refine ⟨w.nd, by simp, fun a ha b hb e => ?_⟩
    simp at hb
    subst hb
    subst e
    exact hi ha
  · have bound : ∀ b j, adL G.W p vs b = some (p, j) → j < rows.length := fun b j e => by
      rcases adL_cases e with ⟨_, e2⟩ | ⟨e1, _⟩
      · have := (rowNo_some e2).2.1
        rw [Nat.zero_add, ha.length] at this
        exact this
      · exact absurd rfl e1
    by_cases hlt : i < G.ι.length
    · rw [List.getElem?_append_left hlt] at h1
      rw [List.getElem?_append_left (by rw [← w.len]; exact hlt)] at h2
      obtain ⟨f, o', ho, mu', r'⟩ := w.liv h1 h2 h3
      have hqp : q ≠ p := fun z => by subst z; exact hi (List.mem_of_getElem? h1)
      refine ⟨f, o', ho, mu', r'.mono (Same.refl _) (fun b j e hF => ⟨adL_old (fun m => by rw [hqW b m] at e; cases e) e hqp, hF, rfl⟩) fun b j e => ?_⟩
      rcases adL_cases e with ⟨e1, _⟩ | ⟨_, e2⟩
      · exact absurd e1 hqp
      · exact e2
    · have hi' : i = G.ι.length := by
        have := (List.getElem?_eq_some_iff.mp h1).1
        simp at this
        omega
      subst hi'
      rw [List.getElem?_append_right (Nat.le_refl _)] at h1
      rw [List.getElem?_append_right (by rw [w.len]; exact Nat.le_refl _)] at h2
      simp [w.len] at h1 h2
      subst h1 h2
      exact ⟨w.fp hP, .lst vs, w.ap _ _ hP, trivial, rfl, rows_adL (fun b o => w.fp) w.ap (fun j b e => by show adL G.W p vs b = _; rw [adL_new nd e, Nat.zero_add]) ha, bound⟩
  · rcases adL_cases e with ⟨_, e2⟩ | ⟨e1, e2⟩
    · have m := rowNo_mem e2
      refine ⟨nq b m, ?_, hqH b m⟩
      show b ∉ G.ι ++ [p]
      intro h
      rcases List.mem_append.mp h with h | h
      · exact hqi b m h
      · simp at h; subst h; exact hpv m
    · obtain ⟨a2, a3, a4⟩ := w.own e2
      refine ⟨sP.free a2, ?_, a4⟩
      show b ∉ G.ι ++ [p]
      intro h
      rcases List.mem_append.mp h with h | h
      · exact a3 h
      · simp at h; subst h; rw [hP] at a2; cases a2
  · rcases adL_cases e with ⟨z1, z2⟩ | ⟨z1, z2⟩ <;> rcases adL_cases e' with ⟨y1, y2⟩ | ⟨y1, y2⟩
    · have u1 := (rowNo_some z2).2.2
      have u2 := (rowNo_some y2).2.2
      rw [u1] at u2
      cases u2
      rfl
    · exact absurd z1 y1
    · exact absurd y1 z1
    · exact w.inj z2 y2
  · rcases List.mem_append.mp hb with h | h
    · exact w.there h
    · simp at h; subst h; rw [w.ap _ _ hP]; simp
  · rcases List.mem_append.mp hb with h | h
    · exact sP.free (w.pi h)
    · simp at h; subst h; exact np
end

/-! ### [e for x in ..], e a new list each time, the lists owned by the new one -/
open Classical in
noncomputable def lcO (oc : Option (Nat × Cell)) (t : Tg) (vs : List Nat) (tt : MT) (te : ME) (ρ : Env) : Nat → List D → Sto → Option (List (List D))
  | _, [], _ => some []
  | n, d :: ds, μ => (bind1 t (.dat d) (wipeE ρ vs)).bind fun ρ1 => (tt ρ1 μ).bind fun p =>
    if p.1 = true ∧ p.2 = μ then (te ρ1 μ).bind fun q => match q.1, q.2[μ.length]? with
      | .cell i, some (.flat (.lst r)) => if i = μ.length ∧ q.2.take μ.length = μ ∧ keepP oc μ ∧ n < lim then (lcO oc t vs tt te ρ (n + 1) ds μ).map fun z => r :: z else none
      | _, _ => none
    else none
noncomputable def mLcO (mi : MI) (t : Tg) (vs : List Nat) (tt : MT) (te : ME) : ME := fun ρ μ => (mi ρ μ).bind fun p => (lcO p.2.1 t vs tt te ρ 0 p.1 p.2.2).map fun r => (.cell p.2.2.length, p.2.2 ++ [.dol none [] r])
theorem lcO_of {k : Kx} {Gs : Gh} {J : It} {items : List D} {oc : Option (Nat × Cell)} (S : Serves k Gs J items oc) {Dl : Addr} {t : Tg} {vs : List Nat} {tt : MT} {te : ME} {ρ : Env} {σ : L2.St} {rows : List (List D)} {Stop : Hp → Prop}
    (hs : ∀ i ∈ t.slots, i ∈ vs) {G : Gh} {H : Hp} (eG : ExtF Gs G) (w : WG k G H) (e : EnvOk k G σ ρ) (kp : keepP oc G.μ) (hP : G.P Dl = some (.lst []))
    (hm : lcO oc t vs tt te ρ 0 items G.μ = some rows)
    (fin : ∀ H' G' accV, ExtF G G' → G'.ι = G.ι → G'.μ = G.μ → (∀ b, b ≠ Dl → V.ref b ∉ accV → G'.P b = G.P b) → (∀ b, V.ref b ∈ accV → G.P b = none) → V.ref Dl ∉ accV → accV.Nodup → G'.P Dl = some (.lst accV) → WG k G' H' → Apart k G'.F G'.P accV rows → Stop H') :
    ∃ W : Nat → Nat → Hp → Prop, (∃ m, W 0 m H) ∧ ∀ i m H, W i m H → (J.stop i H ∧ Stop H) ∨ (J.go i H ∧ ∃ Nx : Hp → Prop, (∀ H', Nx H' → ∃ m', m' < m ∧ W (i + 1) m' H') ∧ ∀ x H', J.yld i H x H' → gT k.K t x (wipe σ vs) H' fun σ2 H2 => wipe σ2 vs = wipe σ vs ∧ tT k tt σ2 H2 fun b H3 =>
      if b = true then tE k te σ2 H3 fun y H4 => ∃ acc, H4 Dl = some (.lst acc) ∧ acc.length < sizeLine ∧ Nx (upd H4 Dl (.lst (acc ++ [y]))) else Nx H3) := by
  let Iv : Nat → Hp → Prop := fun i H' => ∃ G' accV accD rest, ExtF G G' ∧ G'.ι = G.ι ∧ G'.μ = G.μ ∧ (∀ b, b ≠ Dl → V.ref b ∉ accV → G'.P b = G.P b) ∧ (∀ b, V.ref b ∈ accV → G.P b = none) ∧ V.ref Dl ∉ accV ∧ accV.Nodup ∧ G'.P Dl = some (.lst accV) ∧ WG k G' H' ∧ Apart k G'.F G'.P accV accD ∧
    lcO oc t vs tt te ρ accD.length (items.drop i) G.μ = some rest ∧ accD ++ rest = rows
  refine ⟨fun i m H' => m = items.length - i ∧ i ≤ items.length ∧ Iv i H',
    ⟨items.length, by omega, by omega, G, [], [], rows, ExtF.refl _, rfl, rfl, fun _ _ _ => rfl, (fun b h => by simp at h), by simp, List.nodup_nil, hP, w, trivial, hm, rfl⟩, ?_⟩
  rintro i n H1 ⟨hn, hi, G1, accV, accD, rest, e1, i1, m1, hp1, hq1, hd1, nd1, hD1, w1, ra1, hm1, ha1⟩
  have kp1 : keepP oc G1.μ := by rw [m1]; exact kp
  by_cases hlt : i < items.length
  · rw [List.drop_eq_getElem_cons hlt] at hm1
    simp only [lcO, Option.bind_eq_some_iff] at hm1
    obtain ⟨ρ2, h3, ⟨b, μ2⟩, h4, h5⟩ := hm1
    obtain ⟨⟨hb, hμ⟩, h6⟩ := if_so h5
    simp only at hb hμ
    subst hb hμ
    refine .inr ⟨S.go hlt (eG.trans e1) w1 kp1, fun H' => Iv (i + 1) H', fun H' h => ⟨items.length - (i + 1), by omega, rfl, by omega, h⟩, fun x H' y => ?_⟩
    obtain ⟨G2, d, e2, g2, w2, hd, r2⟩ := S.yl hlt (eG.trans e1) w1 kp1 y
    rw [List.getElem?_eq_getElem hlt] at hd
    cases hd
    refine gT_of w2 vs t (env_wipe (e.extF (e1.trans e2.w)) vs) (x := .dat items[i]) r2 h3 hs fun σ2 n2 z2 => ⟨z2.trans (wipe_wipe _ _), ?_⟩
    have g2' : G2.μ = G.μ := g2.trans m1
    refine ⟨G2, ρ2, w2, n2, true, G.μ, by rw [g2']; exact h4, fun H3 G3 e3 g3 w3 => ?_⟩
    obtain ⟨⟨x', μ3⟩, h7, h8⟩ := Option.bind_eq_some_iff.mp h6
    refine ⟨G3, ρ2, w3, n2.ext e3, x', μ3, by rw [g3]; exact h7, fun v H4 G4 e4 g4 w4 r4 => ?_⟩
    split at h8
    · rename_i ci row hx hrow
      simp only at hx
      obtain ⟨⟨hci, htk, hk, hz⟩, h9⟩ := if_so h8
      obtain ⟨rest', h10, h11⟩ := Option.map_eq_some_iff.mp h9
      subst hx
      subst hci
      obtain ⟨q, hq, ev⟩ := r4
      subst ev
      have hP4 : ∀ b, G4.P b = G1.P b := fun b => by rw [e4.p, e3.p, e2.p]
      have hcell : G4.μ[G.μ.length]? = some (Cell.flat (.lst row)) := by rw [g4]; exact hrow
      obtain ⟨hF, o4, ho4, mu4, ro4⟩ := w4.live hq hcell
      cases o4 <;> try exact ro4.elim
      rename_i xs
      have ro4' : Reps k G4.F xs row := ro4
      have hqi : q ∈ G4.ι := List.mem_of_getElem? hq
      have hqP : G1.P q = none := by rw [← hP4]; exact w4.pi hqi
      have hqW : G4.W q = none := by
        cases z : G4.W q with
        | none => rfl
        | some x => exact absurd hqi (w4.own z).2.1
      have hqD : q ≠ Dl := fun z => by subst z; rw [hD1] at hqP; cases hqP
      have hqA : V.ref q ∉ accV := fun m => by
        obtain ⟨q', xs', e1', e2'⟩ := ra1.at' m
        cases e1'
        rw [hqP] at e2'; cases e2'
      have hι4 : G4.ι.take G.μ.length = G.ι := by
        obtain ⟨u, hu⟩ := (e2.trans (e3.trans e4)).i
        rw [hu, i1, ← w.len, List.take_left]
      have hμ4 : G4.μ.take G.μ.length = G.μ := by rw [g4]; exact htk
      have hqn : q ∉ G4.ι.take G.μ.length := fun m => by
        obtain ⟨j, hj, e5⟩ := List.mem_take_iff_getElem.mp m
        obtain ⟨a2, b2⟩ := List.getElem?_eq_some_iff.mp hq
        have := (List.getElem_inj w4.nd).mp (e5.trans b2.symm)
        omega
      have w5 := (w4.cut G.μ.length).pinAt ho4 hF hqn hqW
      have hD5 : upd G4.P q (.lst xs) Dl = some (.lst accV) := by rw [upd_ne (Ne.symm hqD), hP4]; exact hD1
      refine ⟨accV, w4.ap _ _ (by rw [hP4]; exact hD1), by rw [ra1.length]; exact Nat.lt_of_lt_of_le hz (lim_le (Nat.le_refl _)), ?_⟩
      have w6 := w5.repin (o := .lst (accV ++ [.ref q])) hD5
      have e6 : ExtF G { G4 with μ := G4.μ.take G.μ.length, ι := G4.ι.take G.μ.length } := by
        have z := e1.trans (e2.trans (e3.trans e4)).w
        exact ⟨z.f, z.o, [], by show G4.ι.take _ = _; rw [hι4]; simp⟩
      refine ⟨{ G4 with μ := G4.μ.take G.μ.length, ι := G4.ι.take G.μ.length, P := upd (upd G4.P q (.lst xs)) Dl (.lst (accV ++ [.ref q])) }, accV ++ [.ref q], accD ++ [row], rest', ⟨e6.f, e6.o, e6.i⟩, hι4, hμ4, ?_, ?_, ?_, ?_, upd_same, w6, ?_, ?_, ?_⟩
      · intro b hb hm
        have hbq : b ≠ q := fun z => hm (by rw [z]; simp)
        show upd (upd G4.P q _) Dl _ b = _
        rw [upd_ne hb, upd_ne hbq, hP4]
        exact hp1 b hb fun m => hm (List.mem_append_left _ m)
      · intro b hm
        rcases List.mem_append.mp hm with m | m
        · exact hq1 b m
        · simp at m
          subst m
          rw [← hp1 b hqD hqA]
          exact hqP
      · intro m
        rcases List.mem_append.mp m with m | m
        · exact hd1 m
        · simp at m; exact hqD m.symm
      · rw [List.nodup_append]
        refine ⟨nd1, by simp, fun a ha b hb e => ?_⟩
        simp at hb
        subst hb
        subst e
        exact hqA ha
      · refine Apart.snoc (q := q) (xs := xs) (by show upd (upd G4.P q _) Dl _ q = _; rw [upd_ne hqD, upd_same]) ro4' (ra1.mono (e2.trans (e3.trans e4)).f fun b m => ?_)
        have hbq : b ≠ q := fun z => hqA (by rw [← z]; exact m)
        have hbD : b ≠ Dl := fun z => hd1 (by rw [← z]; exact m)
        show upd (upd G4.P q _) Dl _ b = _
        rw [upd_ne hbD, upd_ne hbq, hP4]
      · rw [List.length_append]
        exact h10
      · rw [List.append_assoc, ← ha1]
        simp [h11]
    · cases h8
  · have hi' : i = items.length := by omega
    subst hi'
    rw [List.drop_length] at hm1
    cases hm1
    rw [List.append_nil] at ha1
    subst ha1
    exact .inl ⟨S.st (eG.trans e1) w1 kp1, fin H1 G1 accV e1 i1 m1 hp1 hq1 hd1 nd1 hD1 w1 ra1⟩
section
variable {X : Cx} {pos : Pos} {elt tg iter : Expr} {ifs : List Expr} {scope : Scope} {own : List (Str × Nat)} {mi : MI} {t : Tg} {tt : MT} {te : ME}
theorem lc_tEO {k : Kx} {vs : List Nat} {σ : L2.St} {H : Hp} {Q : VK} (hs : ∀ i ∈ t.slots, i ∈ vs) (h : tE k (mLcO mi t vs tt te) σ H Q) : tLc (tI k mi) (gT k.K t) (tT k tt) (tE k te) vs σ H Q := by
  obtain ⟨G, ρ, w, e, x, μ', hm, q⟩ := h
  simp only [mLcO, Option.bind_eq_some_iff, Option.map_eq_some_iff] at hm
  obtain ⟨⟨items, oc, μ1⟩, h1, rows, h2, h3⟩ := hm
  cases h3
  refine ⟨G, ρ, w, e, items, oc, μ1, h1, fun J H1 G1 e1 g1 w1 k1 S Dl hD => ?_⟩
  have hn : G1.P Dl = none := w1.ap.free hD
  have hDi : Dl ∉ G1.ι := fun h => w1.there h hD
  refine lcO_of S hs (G := { G1 with P := upd G1.P Dl (.lst []) }) ⟨Same.refl _, fun _ _ _ h => h, [], by simp⟩ (w1.pin hD) (EnvOk.extF (G := G1) (G' := { G1 with P := upd G1.P Dl (.lst []) }) ⟨Same.refl _, fun _ _ _ h => h, [], by simp⟩ (e.ext e1)) k1 upd_same (by show lcO _ _ _ _ _ _ _ _ G1.μ = _; rw [g1]; exact h2) fun H' G' accV e' i' m' hp' hq' hd' nd' hD' w' ra' => ?_
  have hi2 : G'.ι = G1.ι := i'
  have hm2 : G'.μ = G1.μ := m'
  have off : ∀ b, V.ref b ∈ accV → b ≠ Dl := fun b m z => hd' (by rw [← z]; exact m)
  have nq : ∀ b, V.ref b ∈ accV → G1.P b = none := fun b m => by
    have z : upd G1.P Dl (.lst []) b = none := hq' b m
    rw [upd_ne (off b m)] at z
    exact z
  have sP : Same G1.P G'.P := fun b o h => by
    have hb : b ≠ Dl := ne_of_none h hn
    have hbm : V.ref b ∉ accV := fun m => by rw [nq b m] at h; cases h
    have z : G'.P b = upd G1.P Dl (.lst []) b := hp' b hb hbm
    rw [z, upd_ne hb]; exact h
  have wA := w'.adopt hD' ra' nd' sP hn nq hd'
  refine q (.ref Dl) H' { G' with P := G1.P, μ := G'.μ ++ [.dol none [] rows], ι := G'.ι ++ [Dl], W := adL G'.W Dl accV } (e1.trans ⟨e'.f, rfl, fun b x m h => ?_, [Dl], by show G'.ι ++ [Dl] = _; rw [hi2]⟩) (by show G'.μ ++ _ = _; rw [hm2, g1]) wA ⟨Dl, ?_, rfl⟩
  · have hx : x.1 ≠ Dl := fun z => hDi (by rw [← z]; exact m)
    have hb : V.ref b ∉ accV := fun mm => by
      obtain ⟨q', xs', z1, z2⟩ := ra'.at' mm
      cases z1
      have z3 := w'.wp z2
      have z4 : G'.W b = some x := e'.o b x m h
      rw [z3] at z4; cases z4
    exact adL_old hb (e'.o b x m h) hx
  · show (G'.ι ++ [Dl])[_]? = _
    rw [hi2, ← g1, ← w1.len]
    simp
variable (hc : X.calm = true) (hN : X.N.Nodup) (hi : IX X tg iter mi) (ok : BlkOk X.N X.env.scope scope own)
  (hg : ∀ (s : Shared) (H : Hp) (C : Addr) (cl : List (Str × Addr)) (fp : List Addr), PG (X.blk s H scope (compEnvC scope cl C X.env) fp) tg (gT X.K t))
  (ht : ∀ (s : Shared) (H : Hp) (C : Addr) (cl : List (Str × Addr)) (fp : List Addr), QX (X.blk s H scope (compEnvC scope cl C X.env) fp) ifs tt)
  (he : ∀ (s : Shared) (H : Hp) (C : Addr) (cl : List (Str × Addr)) (fp : List Addr), EX (X.blk s H scope (compEnvC scope cl C X.env) fp) elt te)
  (hs : ∀ x, foldedSetIterable iter X.env x = pure x)
include hc hN hi ok hg ht he hs
theorem ex_lcO (hv : ∀ i ∈ t.slots, i ∈ own.map (·.2)) : EX X (.ListComp elt [⟨tg, iter, ifs, 0⟩] scope pos) (mLcO mi t (own.map (·.2)) tt te) := (pe_lc hc hN hi ok hg ht he hs).mono fun σ H Q h => lc_tEO hv h
theorem sx_setLcO {i : Nat} {y : Str} {py spos : Pos} (hy : X.N[i]? = some y) (hyl : X.env.scope.names.lookup y = some .local)
    (hsw : swapsWith (.ListComp elt [⟨tg, iter, ifs, 0⟩] scope pos) (some (.Name y py)) spos.line X.env = pure true) (hv : ∀ i ∈ t.slots, i ∈ own.map (·.2)) :
    SX X (.Assign [.Name y py] (.ListComp elt [⟨tg, iter, ifs, 0⟩] scope pos) spos) (sAsg (mLcO mi t (own.map (·.2)) tt te) (.nm i)) := PS.mono (ps_setLc (te := tE (kx X) te) (tt := tT (kx X) tt) hc hN hy hyl hsw hi ok hg ht he hs) fun Dd σ H h => asg_nm (fun σ H Q h => lc_tEO hv h) h
end
theorem Rows.len {k : Kx} {F : Hp} {W : Addr → Option (Addr × Nat)} {H : Hp} {p : Addr} : ∀ {n : Nat} {vs : List V} {rs : List (List D)}, Rows k F W H p n vs rs → vs.length = rs.length
  | _, [], [], _ => rfl
  | _, [], _ :: _, h => h.elim
  | _, _ :: _, [], h => h.elim
  | n, _ :: vs, _ :: rs, h => by rw [List.length_cons, List.length_cons, Rows.len (n := n + 1) (vs := vs) (rs := rs) h.2]
/-! ### found[i], a row of the list -/
def mRowL (a b : ME) : ME := fun ρ μ => (a ρ μ).bind fun p => (b ρ p.2).bind fun q => match p.1 with
  | .cell i => match q.2[i]? with
    | some (Cell.dol none _ rows) => (derefT q.2 q.1).bind fun d => match d with
      | .int n => (ixN rows.length n).map fun j => (.row i j, q.2)
      | _ => none
    | _ => none
  | _ => none
theorem rowL_of {k : Kx} {a b : ME} {σ : L2.St} {H : Hp} {Q : VK} (h : tE k (mRowL a b) σ H Q) : tOp (rIxAll k.K) (tE k a) (tE k b) σ H Q := by
  obtain ⟨G, ρ, w, e, x, μ', hm, q⟩ := h
  simp only [mRowL, Option.bind_eq_some_iff] at hm
  obtain ⟨⟨p1, μ1⟩, h1, ⟨p2, μ2⟩, h2, h3⟩ := hm
  refine ⟨G, ρ, w, e, p1, μ1, h1, fun v1 H1 G1 e1 g1 w1 r1 => ?_⟩
  refine ⟨G1, ρ, w1, e.ext e1, p2, μ2, by rw [g1]; exact h2, fun v2 H2 G2 e2 g2 w2 r2 => ?_⟩
  split at h3
  · rename_i i hp
    simp only at hp
    subst hp
    split at h3
    · rename_i ks rows hc
      simp only [Option.bind_eq_some_iff] at h3
      obtain ⟨d, h4, h5⟩ := h3
      split at h5
      · rename_i n
        obtain ⟨j, h7, h8⟩ := Option.map_eq_some_iff.mp h5
        cases h8
        obtain ⟨pa, ha, ev⟩ := r1
        have ha2 := e2.at ha
        obtain ⟨_, o, ho, mu, c⟩ := w2.liv ha2 (by rw [g2]; exact hc) (by simp)
        have ev2 : v2 = .int n := repT_int (w2.derefT r2 (by rw [g2]; exact h4))
        rcases c.dol with ⟨vs, z, _⟩ | ⟨vs, z, _⟩ | ⟨vs, _, eo, _, hr, _⟩
        · cases z
        · cases z
        · subst eo
          have hl := hr.len
          have hj : j < rows.length := (ixN_seq h7).2.1
          obtain ⟨q', xs, f1, f2, _⟩ := hr.get (List.getElem?_eq_getElem hj)
          rw [Nat.zero_add] at f2
          refine .inl ⟨pa, vs, n, .ref q', ev, ev2, SqL.of ho, ?_, ?_⟩
          · unfold atI
            rw [hl, h7]
            exact f1
          · exact q _ _ _ (e1.trans e2) g2 w2 ⟨pa, q', ha2, f2, rfl⟩
      · cases h5
    · cases h3
  · cases h3
section
variable {X : Cx} {a b : Expr} {m n : ME} {pos : Pos}
theorem ex_rowL (hu : X.A.units + 65 < cLine) (ha : EX X a m) (hb : EX X b n) (hs : PlainIx b := by exact fun _ _ => rfl) : EX X (.Subscript a b pos) (mRowL m n) := (pe_ix (ix_all hu) ha hb hs).mono fun _ _ _ h => rowL_of h
end
end PL

set_option Elab.async false
set_option linter.all false
set_option maxRecDepth 100000
/-! PL21: suites of except clauses, defs called there -/
namespace PL
open PySem PySem.Spec PyProof.Rows L2

theorem L2H_passNo {X : Cx} (σ : L2.St) : PassesAt CX0 X σ (fun _ _ _ => False) := fun _ _ _ _ _ _ z => z.elim
/-- a def as it may be called while an error is handled -/
structure DfH (P : Program) (w : World) (K : PySem.W.Frag) (mg : Str → Option Value) (base : Heap) (x : Str) (ps : List Str) (f : Addr) (fd : FuncData) (k : Nat) (fn : Fn) : Prop where
  ok : L2H.FnH P w K mg base CX0 k f fd ps (spF ⟨K, mg⟩ fn)
  nm : mg x = some (.ref f)
  kp : PySem.W.keepIn K (.ref f) = true
  bd : Binds K fd ps []
theorem dfh_mk {P : Program} {w : World} {K : PySem.W.Frag} {mg : Str → Option Value} {base : Heap} {x qual : Str} {st : Stmt} {f : Addr} {fd : FuncData} {N ps : List Str} {k : Nat} {m : MS} (A : At K mg x qual st ps f fd) (S : FnScope N ps (defScope st))
    (hb : ∀ (cdv : Value) (A : Around) (outer : List PySem.Env) (s : Shared) (H : Hp) (E : XK) (p : Addr × Obj), L2H.Hot1 A p → L2H.RoomH k (A.deeper (envOfC qual (defScope st) s.heap.objs.size f cdv)) →
      BX (L2H.cxH CX0 P w K mg base N qual (defScope st) f cdv A outer s H E p) (defBody st) m) :
    DfH P w K mg base x ps f fd (k + 1) (fnOf N.length ps.length m) := by
  refine ⟨?_, A.nm, A.fn.kp, A.bd⟩
  obtain ⟨oc, od, kV, doc, pm, an, cdv, ct, osl, rfl, lk, hcd⟩ := A.fn.ex
  refine L2H.fn_ofH lk hcd S (fun vs H Q E h => ?_) fun A1 outer s H vs Q E p hot hr h => ⟨_, hb cdv A1 outer s H E p hot hr, ?_⟩
  · obtain ⟨G, xs, w, r, y, μ', hm, q⟩ := h
    unfold fnOf at hm
    rw [r.length, (if_so hm).1]
  · obtain ⟨G, xs, w, r, y, μ', hm, q⟩ := h
    unfold fnOf at hm
    obtain ⟨_, hm⟩ := if_so hm
    simp only [Option.bind_eq_some_iff] at hm
    obtain ⟨⟨o, ρ1, μ1⟩, h1, h2⟩ := hm
    refine ⟨G, _, w, env_start r, o, ρ1, μ1, h1, fun σ' H' G' e' g' w' n' => ?_⟩
    split at h2
    · rename_i v ho
      simp only at ho
      subst ho
      exact fun u ru => cut_of w' w.len e' g' ru h2 q
    · rename_i ho
      simp only at ho
      subst ho
      exact cut_of (x := .dat .non) w' w.len e' g' rfl h2 q
    · cases h2
theorem hu65H {k : Nat} {A : Around} (hr : L2H.RoomH k A) : A.units + 65 < cLine := by have := hr.un; omega
theorem hot_suite {X : Cx} {a : Addr} {oe : Obj} {cls : Value} {d : Option Addr} {pn : List (Addr × Obj)} (hz : L2N.Zn cls d oe) (hf : ∃ vs, oe.data = .fields vs) : L2H.HotC (X.suite a ((a, oe) :: pn)) := by
  obtain ⟨vs, hv⟩ := hf
  exact ⟨(a, oe), ⟨rfl, vs, hv, hz.2.2 vs hv⟩, List.mem_cons_self⟩
/-- return g(e.fld, x), e the error -/
def suCall (fn : Fn) (c fld : Str) (mx : ME) : Er → MS := fun er ρ μ => if er.c = c ∧ er.f = fld then (mx ρ μ).bind fun p => (fn [.dat er.x, p.1] p.2).map fun z => (.rt z.1, ρ, z.2) else none
section
variable {X : Cx} {a : Addr} {oe : Obj} {cls : Value} {d : Option Addr} {pn : List (Addr × Obj)} {g e fld c : Str} {p p1 p2 p3 pos : Pos} {x : Expr} {mx : ME} {ps : List Str} {f C : Addr} {fd : FuncData} {k i : Nat} {fn : Fn}
theorem su_call (hz : L2N.Zn cls d oe) (hf : ∃ vs, oe.data = .fields vs) (F : DfH X.prog X.w X.K X.mg X.base g ps f fd k fn) (hr : Room k X.A) (hg : Gl X g) (T : XfC X.K C) (no : PySem.W.findIn X.K (.ref C) fld = some none) (hC : X.mg c = some (.ref C))
    (he : PE (X.suite a ((a, oe) :: pn)) (.Name e p1) (tVar i)) (hx : EX (X.suite a ((a, oe) :: pn)) x mx) (hdb : (g == ("__debug__" : Str)) = false := by decide)
    (hb : attributeBase (.Name e p1) fld X.env (eval (.Name e p1) X.env) = eval (.Name e p1) X.env := by rfl)
    (hs1 : starEach [.Attribute (.Name e p1) fld p2, x] X.env = (false, eval (.Attribute (.Name e p1) fld p2) X.env) :: starEach [x] X.env := by rfl)
    (hs2 : starEach [x] X.env = (false, eval x X.env) :: starEach [] X.env := by rfl) (hpl : (backTo pos (starEach [x] X.env)).any (·.1) = false := by rfl) :
    PSs (X.suite a ((a, oe) :: pn)) [.Return (some (.Call (.Name g p) [.Attribute (.Name e p1) fld p2, x] [] pos)) p3] (tSu (kx X) i (suCall fn c fld mx) a cls d) := by
  refine (pss_one (ps_ret (L2H.pe_callH (X := X.suite a ((a, oe) :: pn)) (E := fun _ _ _ _ => False) F.ok (L2H.roomH_mark hr _) (hot_suite hz hf) hg F.nm F.kp F.bd (fun σ => L2H_passNo σ)
    (pa_cons (pe_xf (X := X) T no hz.zc hf he hb) (pa_cons hx pa_nil hs2) hs1) hdb hs1 hpl))).mono fun D σ H h => ?_
  obtain ⟨G, ρ, er, w, n, hi, ⟨C', dd, v, h1, h2, h3, h4, h5⟩, o, ρ', μ', hm, q⟩ := h
  unfold suCall at hm
  obtain ⟨⟨ec, ef⟩, hm⟩ := if_so hm
  have ecl : cls = .ref C := by
    have z : X.mg er.c = some (.ref C') := h2
    rw [ec, hC] at z
    cases z
    exact h1
  simp only [Option.bind_eq_some_iff, Option.map_eq_some_iff] at hm
  obtain ⟨⟨px, μ1⟩, k1, ⟨z, μ2⟩, k2, k3⟩ := hm
  cases k3
  have hH : H dd = some (.xd [(fld, v)]) := by
    rw [← ef]
    exact w.fr _ _ h4
  refine ⟨.ref a, hi, rfl, ecl, dd, [(fld, v)], v, h3, hH, by simp [List.lookup], ?_⟩
  refine ⟨G, ρ, w, n, px, μ1, k1, fun vx H1 G1 e1 g1 w1 r1 => ?_⟩
  refine ⟨G1, [.dat er.x, px], w1, ⟨Rep.mono e1.f _ h5, r1, trivial⟩, z, _, by rw [g1]; exact k2, fun u H' G' e' g' w' r' => ?_⟩
  exact q σ H' G' (e1.trans e') g' w' ((n.ext e1).ext e') u r'
end
end PL

set_option Elab.async false
set_option linter.all false
set_option maxRecDepth 100000
/-! PL22: error classes of the text, in the head of the proof -/
namespace PL
open PySem PySem.Spec PyProof.Rows L2

/-- a statement of a class's body -/
def clsM : Stmt → Nat → Stmt
  | .ClassDef (body := b) .., i => b.getD i (.Pass ⟨0, 0, 0, 0⟩)
  | s, _ => s
theorem exm_own {K : PySem.W.Frag} {C : Addr} (b : PySem.W.subIn K (.ref C) (.type "BaseException") = some true) (c : PySem.W.isClsIn K C = true) (t : PySem.W.typeIn K (.ref C) = some (.type "type")) (s : PySem.W.subIn K (.ref C) (.ref C) = some true) :
    PySem.W.exmOne K (.ref C) (.ref C) = some true := by
  have c' : (PySem.W.clsIn K C).isSome = true := c
  unfold PySem.W.exmOne
  rw [b, if_pos (by rfl)]
  unfold PySem.W.kitCls
  dsimp only
  rw [c', t, if_pos (by rfl)]
  exact s
theorem ex_next {Cp : Prop} {K : PySem.W.Frag} {mg : Str → Option Value} {h : Heap} {x fld qual nm q : Str} {ps : List Str} {st : Stmt} {C fI Nn : Addr} {bs bm : List Value} {sn : List Str} {sub : List Value} {ab : Bool} {col : Option Bool} {dd : Option Addr} {k0 k1 k2 k3 k5 : Option Value}
    {oc kV doc pm cdv ct : Value} {od an : Option Addr} {osl : Array (Option Value)} (X : K.In h) (G : h.Ns mainGlobals mg) (a : PySem.W.nsIn K mainGlobals x = some (some (.ref C)))
    (l : K.lookup C = some (excClassObj nm q C Nn bs bm true sn sub ab col dd k0 k1 k2 k3 k5 "ValueError.__new__")) (hm : PySem.HandSPX.refsVE bm = true)
    (sa : PySem.W.findIn K (.ref C) "__setattr__" = some (some (.builtin "object.__setattr__"))) (ga : PySem.W.findIn K (.ref C) "__getattribute__" = some (some (.builtin "BaseException.__getattribute__")))
    (gg : PySem.W.findIn K (.ref C) "__getattr__" = some none) (no : PySem.W.findIn K (.ref C) fld = some none) (iC : PySem.W.findIn K (.ref C) "__init__" = some (some (.ref fI))) (tI : PySem.W.typeIn K (.ref fI) = some (.type "function"))
    (lI : K.lookup fI = some ⟨oc, od, .func (PySem.W.fnOf "__init__" qual (defArgs st) (defBody st) (defScope st) .none kV doc pm an cdv ct), osl⟩) (cI : PySem.W.codeIn K cdv qual = true) (kI : PySem.W.keepIn K (.ref fI) = true)
    (kC : PySem.W.keepIn K (.ref C) = true) (eC : PySem.W.subIn K (.ref C) (.type "BaseException") = some true) (tC : PySem.W.typeIn K (.ref C) = some (.type "type")) (hC : PySem.W.hasDictIn K C = true) (zC : PySem.W.isClsIn K C = true) (sC : PySem.W.subIn K (.ref C) (.ref C) = some true)
    (b : ∀ (kV doc pm : Value) (an : Option Addr) (cdv ct : Value) (us : List Value), us.length = ps.length → bindArgs (PySem.W.fnOf "__init__" qual (defArgs st) (defBody st) (defScope st) .none kV doc pm an cdv ct) ⟨us, []⟩ = pure (ps.zip us))
    (ini : ∀ {P : Program} {w : World} {base : Heap} {f C : Addr} {fd : FuncData}, Fun K "__init__" qual st f fd → OexC K C → PySem.W.findIn K (.ref C) fld = some none → FnOk P w K mg base CX0 1 f fd ps (spI C fld))
    (next : ∀ C fI fd, (∀ P w base, ExT P w K mg base x fld ps C fI fd) → Cp) : Cp := by
  have F := fun_mk lI cI kI
  have O : OexC K C := ⟨⟨_, _, _, _, _, _, _, _, _, _, _, _, _, _, _, l, hm⟩, sa, eC, tC, kC⟩
  refine next C fI _ fun P w base => ⟨O, ⟨ga, gg, eC, hC⟩, no, iC, tI, PySem.W.mg_of X G a, exm_own eC zC tC sC, ini F O no, F.binds b⟩
end PL

set_option Elab.async false
set_option linter.all false
set_option maxRecDepth 100000
/-! PL23: a[::-1] of tuples and lists -/
namespace PL
open PySem PySem.Spec PyProof.Rows L2

section
variable {prog : Program} {w : World} {A : Around} {E : Value → Shared → Prop} {s : Shared}
theorem back_adjust (n : Nat) : Builtin.Slice.sliceAdjust none none (-1) (n : Int) = ((n : Int) - 1, -1) := rfl
theorem back_places (n : Nat) : Builtin.Slice.slicePlaces ((n : Int) - 1) (-1) (-1) = n := by
  have h1 : ¬ ((-1 : Int) > 0) := by decide
  unfold Builtin.Slice.slicePlaces
  rw [if_neg h1]
  by_cases h : (n : Int) - 1 > -1
  · rw [if_pos h, show (- -1 : Int) = 1 by decide, Int.ediv_one]
    omega
  · rw [if_neg h]
    omega
theorem back_pick (xs : Array Value) : ((List.range xs.size).filterMap fun (m : Nat) => xs[(((xs.size : Int) - 1) + (m : Int) * (-1)).toNat]?).toArray = xs.toList.reverse.toArray := by
  congr 1
  have e : (fun (m : Nat) => xs[(((xs.size : Int) - 1) + (m : Int) * (-1)).toNat]?) = fun (m : Nat) => xs[(((xs.size : Int) - 1) - (m : Int)).toNat]? := by
    funext m
    congr 2
    omega
  rw [e]
  have k : (List.range xs.size).filterMap (fun (m : Nat) => xs[(((xs.size : Int) - 1) - (m : Int)).toNat]?) = ((List.range xs.size).map fun k => xs.size - 1 - k).filterMap (xs[·]?) := by
    rw [show ((List.range xs.size).map fun k => xs.size - 1 - k) = (List.range xs.size).map fun (m : Nat) => (((xs.size : Int) - 1) - (m : Int)).toNat from List.map_congr_left fun m hm => by have := List.mem_range.mp hm; omega, List.filterMap_map]
    rfl
  rw [k, PySem.W.krv_range, List.filterMap_reverse, PySem.W.krv_all]
theorem back_applied {sl : Addr} {u : Value} {n : Nat} {Q : Int × Int × Nat → Shared → Prop} (hs : s.heap.IsSliceOf sl .none .none u) (pu : IsPart u (some (-1)))
    (h : Q ((n : Int) - 1, -1, n) s) : wpAny (model prog w) A (Builtin.Slice.sliceApplied (.ref sl) (pure (n : Int))) Q E s := by
  obtain ⟨so, hso, hcl, hda⟩ := id hs
  unfold Builtin.Slice.sliceApplied Builtin.Slice.sliceFields
  refine wpAny_bind (wpAny_bind (wpAny_field hso hda (x := .none) rfl (wpAny_bind (wpAny_field hso hda (x := .none) rfl (wpAny_bind (wpAny_field hso hda (x := u) rfl (wpAny_pure ?_)))))))
  refine wpAny_bind (HT.slicePart_ pu ?_)
  show wpAny _ _ (if ((-1 : Int) == 0) = true then _ else _) _ _ s
  rw [if_neg (by decide)]
  refine wpAny_bind (HT.slicePart_ .none (wpAny_bind (HT.slicePart_ .none (wpAny_bind (wpAny_pure ?_)))))
  show wpAny _ _ (match Builtin.Slice.sliceAdjust none none (-1) (n : Int) with | (lo, hi) => pure (lo, (-1 : Int), Builtin.Slice.slicePlaces lo hi (-1))) _ _ s
  rw [back_adjust]
  show wpAny _ _ (pure ((n : Int) - 1, (-1 : Int), Builtin.Slice.slicePlaces ((n : Int) - 1) (-1) (-1))) _ _ s
  rw [back_places]
  exact wpAny_pure h
theorem get_back {t sl : Addr} {items : Array Value} {u : Value} {Q : Value → Shared → Prop} (ht : IsTup s.heap t items) (hs : s.heap.IsSliceOf sl .none .none u) (pu : IsPart u (some (-1)))
    (h : Q (.ref s.heap.objs.size) { s with heap := s.heap.push { cls := .type "tuple", data := .seq items.toList.reverse.toArray } }) (hz : items.size ≤ sizeLine) : wpAny (model prog w) A (getItem (.ref t) (.ref sl)) Q E s := by
  have room : sizeOk (.seq items.toList.reverse.toArray) := by
    show items.toList.reverse.toArray.size ≤ sizeLine
    rw [List.size_toArray, List.length_reverse, Array.length_toList]
    exact hz
  obtain ⟨so, hso, hcl, hda⟩ := id hs
  have tS : s.TypeIs (.ref sl) "slice" := ⟨so, hso, hcl⟩
  unfold getItem
  first | with_reducible refine wpAny_holding ?_ | skip
  first | refine wpAny_bind (wpAny_pure ?_) | skip
  refine wpAny_bind (wpAny_sequenceKey ht.typeIs (by decide) (wpAny_bind (wpAny_callSpecial?_slot (name := Str.ofString "__getitem__") ht.typeIs PyProof.Rows.slot_tuple_getitem (wpAny_call_entry PyProof.Rows.slot_tuple_getitem ht.typeIs entry_tuple_getitem ?_ (args_tuple_getitem _ _)))))
  show wpAny _ _ (Builtin.Tuple.tupleItemsOf (.ref t) >>= _) _ _ s
  refine wpAny_bind (tupleItemsOf_ ht (wpAny_bind (wpAny_typeOf tS ?_)))
  rw [if_pos (by decide)]
  refine wpAny_bind (back_applied hs pu ?_)
  show wpAny _ _ (if (((items.size : Int) - 1) == 0 && (-1 : Int) == 1 && items.size == items.size) = true then _ else _) _ _ s
  rw [if_neg (by simp), back_pick]
  first
    | exact wpAny_bind (m := Builtin.Tuple.tupleExact _) (wpAny_newObj_type (wpAny_pure ⟨_, rfl, wpAny_pure h⟩) room)
    | exact wpAny_bind (m := Builtin.Tuple.tupleExact _) (wpAny_newObj_type (wpAny_bind (wpAny_pure (wpAny_pure ⟨_, rfl, wpAny_pure h⟩))) room)
    | exact wpAny_bind (wpAny_bind (m := Builtin.Tuple.tupleExact _) (wpAny_newObj_type (wpAny_pure (wpAny_pure ⟨_, rfl, wpAny_pure h⟩)) room))
    | exact wpAny_bind (wpAny_bind (m := Builtin.Tuple.tupleExact _) (wpAny_newObj_type (wpAny_pure ⟨_, rfl, wpAny_pure h⟩) room))
end
/-- a[::-1] -/
def tBack (K : PySem.W.Frag) (te : TE) (to : TO) : TE := fun σ H Q => te σ H fun x H1 => to σ H1 fun o H2 => o = some (-1) ∧ ∃ a xs, x = .ref a ∧ ((SqT K H2 a xs ∧ ∀ p, H2 p = none → Q (.ref p) (upd H2 p (.tup xs.reverse))) ∨ (SqL K H2 a xs ∧ ∀ p, H2 p = none → Q (.ref p) (upd H2 p (.lst xs.reverse))))
theorem vals_rev {xs : List V} {us : List Value} (r : Vals xs us) : Vals xs.reverse us.reverse := by
  induction r with
  | nil => exact .nil
  | cons h _ ih =>
    rw [List.reverse_cons, List.reverse_cons]
    exact ih.append (.cons h .nil)
section
variable {X : Cx} {e st : Expr} {te : TE} {to : TO} {p2 pos : Pos} {m n : ME}
theorem pe_back (he : PE X e te) (hst : PO X (some st) to) : PE X (.Subscript e (.Slice none none (some st) p2) pos) (tBack X.K te to) := by
  refine ⟨fun pins s σ H Q I h => ?_⟩
  refine Subscript_ (thn (he.run pins s σ H _ I h) fun v s1 ⟨x, H1, I1, r1, q1⟩ => ?_)
  refine wpAny_Slice ?_
  rw [evalPart_none]
  refine wpAny_pure (wpAny_pure (thn (hst.run pins s1 σ H1 _ I1 q1) fun vk s3 ⟨o, H3, I3, pk, eo, a, xs, ex, q3⟩ => ?_))
  subst eo ex
  obtain rfl : v = Value.ref a := r1
  have J : Inv X pins σ H3 { s3 with heap := s3.heap.push { cls := .type "slice", data := .fields #[.none, .none, vk] } } := I3.kept (t' := s3.toks) fun b ob q => Heap.get?_push_of_some _ q
  show wpAny (model X.prog X.w) X.A (subscriptTail e (.Slice none none (some st) p2) (.ref a) (.ref s3.heap.objs.size)) (EP X pins σ Q) X.xe { s3 with heap := s3.heap.push { cls := .type "slice", data := .fields #[.none, .none, vk] } }
  rcases q3 with ⟨hx, q⟩ | ⟨hx, q⟩
  · obtain ⟨its, r, ht, hz⟩ := J.tuple hx
    have hl : its.toArray.size = xs.length := by rw [List.size_toArray]; exact r.length.symm
    refine tail_any (ops := _) ht.typeIs PyProof.Rows.slot_tuple_getitem.lookup ?_ (by with_unfolding_all rfl)
    refine get_back ht (Heap.IsSliceOf.new ..) pk ?_ (by rw [hl]; exact hz)
    refine ⟨.ref _, _, J.laid (t' := s3.toks) (o := .tup xs.reverse) (fun b ob q => Heap.get?_push_of_some _ q) (Nat.le_refl _) ?_, rfl, q _ (J.hok.fresh (Nat.le_refl _))⟩
    exact ⟨by rw [List.length_reverse]; exact hz, _, vals_rev r, IsTup.new _ _⟩
  · obtain ⟨its, r, ht, hz⟩ := J.list hx
    have hlen := r.length
    refine tail_any (ops := _) ht.isList.typeIs slot_list_getitem.lookup ?_ (by with_unfolding_all rfl)
    refine wpAny_getItem_list_slice ht.isList (Heap.IsSliceOf.new ..) .none .none pk (by simp) ?_ (by rw [List.size_toArray] <;> omega)
    rw [PySem.W.krv_pick]
    refine ⟨.ref _, _, J.laid (t' := s3.toks) (o := .lst xs.reverse) (fun b ob q => Heap.get?_push_of_some _ q) (Nat.le_refl _) ?_, rfl, q _ (J.hok.fresh (Nat.le_refl _))⟩
    exact ⟨by rw [List.length_reverse]; exact hz, _, 0, vals_rev r, Heap.get?_push_size _ rfl⟩
def backD : D → Option D
  | .tup ds => some (.tup ds.reverse)
  | .lst ds => some (.lst ds.reverse)
  | _ => none
def mBack (m : ME) (o : MO) : ME := fun ρ μ => (m ρ μ).bind fun p => (o ρ p.2).bind fun q => if q.1 = some (-1) then (deref q.2 p.1).bind fun d => (backD d).map fun z => (.dat z, q.2) else none
theorem reps_rev {k : Kx} {F : Hp} : ∀ {ds : List D} {vs : List V}, Reps k F vs ds → Reps k F vs.reverse ds.reverse
  | [], [], _ => trivial
  | [], _ :: _, h => h.elim
  | _ :: _, [], h => h.elim
  | d :: ds, v :: vs, h => by
    rw [List.reverse_cons, List.reverse_cons]
    exact (reps_rev h.2).snoc h.1
theorem ex_back {o : MO} (he : EX X e m) (ho : OX X (some st) o) : EX X (.Subscript e (.Slice none none (some st) p2) pos) (mBack m o) := (pe_back he ho).mono fun σ H Q h => by
  obtain ⟨G, ρ, w, e, x, μ', hm, q⟩ := h
  simp only [mBack, Option.bind_eq_some_iff] at hm
  obtain ⟨⟨p1, μ1⟩, h1, ⟨o1, μ2⟩, h2, h3⟩ := hm
  refine ⟨G, ρ, w, e, p1, μ1, h1, fun v1 H1 G1 e1 g1 w1 r1 => ?_⟩
  refine ⟨G1, ρ, w1, e.ext e1, o1, μ2, by rw [g1]; exact h2, fun H2 G2 e2 g2 w2 => ?_⟩
  obtain ⟨eo, h4⟩ := if_so h3
  simp only [Option.bind_eq_some_iff, Option.map_eq_some_iff] at h4
  obtain ⟨d, h5, z, h6, h7⟩ := h4
  cases h7
  refine ⟨eo, ?_⟩
  have rd := w2.deref (r1.ext e2) (by rw [g2]; exact h5)
  have kd : KD _ G2 Q z := fun v' H' G' e' g' w' r' => q v' H' G' ((e1.trans e2).trans e') (by rw [g', g2]) w' r'
  unfold backD at h6
  split at h6
  · cases h6
    obtain ⟨a, xs, f1, f2, f3⟩ := repH_tup w2.fr rd
    exact ⟨a, xs, f1, .inl ⟨f2, fun p hp => kd.newT w2 hp (reps_rev f3)⟩⟩
  · cases h6
    obtain ⟨a, xs, f1, f2, f3⟩ := repH_lst w2.fr rd
    exact ⟨a, xs, f1, .inr ⟨f2, fun p hp => kd.newL w2 hp (reps_rev f3)⟩⟩
  · cases h6
end
end PL

set_option Elab.async false
set_option linter.all false
set_option maxRecDepth 100000
/-! PL24: list.extend, dict.get, list(range(n)), tuple(range(n)), starred rows in tuples -/
namespace PL
open PySem PySem.Spec PyProof.Rows L2

def extD : D → List D → Option (D × D)
  | .lst xs, [.lst ys] => if xs.length + ys.length ≤ lim then some (.non, .lst (xs ++ ys)) else none
  | _, _ => none
theorem r_ext {k : Kx} : MuR k extD rExtend := by
  intro F H l o c xs ds rr c' Q e ho ro rs hf q
  unfold extD at hf
  split at hf
  · obtain ⟨hl, e1⟩ := if_some hf
    cases e1
    cases o <;> try exact ro.elim
    rename_i zs
    have ro' : Reps k F zs _ := ro
    match xs, rs with
    | [y], rs =>
      obtain ⟨a, us, rfl, h1, h2⟩ := (show ∃ a us, y = .ref a ∧ F a = some (.lst us) ∧ Reps k F us _ from rs.1)
      exact ⟨l, a, zs, us, rfl, rfl, ho, e _ _ h1, by rw [ro'.length, h2.length]; exact lim_le hl, q _ _ trivial (ro'.append h2) rfl⟩
    | [], rs => exact rs.elim
    | _ :: _ :: _, rs => exact rs.2.elim
  · cases hf
section
variable {X : Cx} {a b c : Expr} {m n x : ME} {am : MA} {pos apos : Pos}
theorem ex_extend (ha : EX X a m) (hb : AX X [b] am) (hbase : attributeBase a "extend" X.env (eval a X.env) = eval a X.env := by rfl)
    (hfew : ((backTo pos (starEach [b] X.env)).all (fun x => !x.1) && (backToKw pos (keywordEach [] X.env)).all (fun x => x.1.isSome)
      && decide ([b].length + ([] : List Keyword).length + (if ([] : List Keyword).isEmpty then 0 else 1) < 30)) = true := by rfl)
    (hline : (apos.endLine == pos.line) = true := by rfl) (hp : PlainA X pos b [] := by exact ⟨rfl, rfl⟩) : EX X (.Call (.Attribute a "extend" apos) [b] [] pos) (mMut extD m am) :=
  (pe_bm PySem.F.plainAttrs_list PySem.F.slot_list_extend PySem.F.type_list_extend mt_extend ha hb hbase hfew hline hp.1 hp.2).mono fun _ _ _ h => mut_of r_ext h

def isDct : D → Bool
  | .dct _ _ _ => true
  | _ => false
def getDD (z : D) : D → D → Option D
  | .dct t ks vs, d => if isKey t d = true then some ((look ks vs d).getD z) else none
  | _, _ => none
def mGet1 (a b : ME) : ME := fun ρ μ => (a ρ μ).bind fun p => (deref p.2 p.1).bind fun c0 => if isDct c0 = true then (b ρ p.2).bind fun q => (deref q.2 p.1).bind fun c => (derefT q.2 q.1).bind fun y => (getDD .non c y).map fun z => (.dat z, q.2) else none
def mGet2 (a b x : ME) : ME := fun ρ μ => (a ρ μ).bind fun p => (deref p.2 p.1).bind fun c0 => if isDct c0 = true then (b ρ p.2).bind fun q => (x ρ q.2).bind fun r => match r.1 with
  | .dat dz => (deref r.2 p.1).bind fun c => (derefT r.2 q.1).bind fun y => (getDD dz c y).map fun z => (.dat z, r.2)
  | _ => none else none
theorem isD_of {k : Kx} {F H : Hp} {v : V} {c : D} (e : Same F H) (r : RepH k F H v c) (h : isDct c = true) : ∃ a, v = .ref a ∧ IsD H a := by
  cases c <;> simp [isDct] at h
  rename_i t ks vs
  cases t with
  | false =>
    obtain ⟨a, e1, kvs, h1, _⟩ := repH_dK e r
    exact ⟨a, e1, .inl ⟨kvs, .inl h1⟩⟩
  | true =>
    obtain ⟨a, e1, kvs, h1, _⟩ := repH_dT e r
    exact ⟨a, e1, .inr ⟨kvs, .inl h1⟩⟩
theorem get_of {k : Kx} {F H : Hp} (e : Same F H) {v y : V} {dz c d z : D} (rc : RepH k F H v c) (ry : RepT k F H y d) (hf : getDD dz c d = some z) :
    ∃ a, v = .ref a ∧ ∃ o, DGet H a y o ∧ ((∃ u, o = some u ∧ Rep k F u z) ∨ (o = none ∧ z = dz)) := by
  cases c <;> simp only [getDD] at hf
  all_goals try cases hf
  rename_i t ks vs
  obtain ⟨hk, hz⟩ := if_some hf
  obtain ⟨a, e1, g⟩ := dget_of e rc ry hk
  refine ⟨a, e1, ?_⟩
  cases hl : look ks vs d with
  | none =>
    rw [hl] at g hz
    exact ⟨none, g, .inr ⟨rfl, hz.symm⟩⟩
  | some u =>
    rw [hl] at g hz
    obtain ⟨w, g1, g2⟩ := g
    refine ⟨some w, g1, .inl ⟨w, rfl, ?_⟩⟩
    have e2 : u = z := hz
    rw [← e2]
    exact g2
theorem ex_get1 (hu : X.A.units + 65 < cLine) (ha : EX X a m) (hb : EX X b n) (h : M1 X a "get" apos b pos := by exact ⟨rfl, rfl, rfl, rfl⟩) : EX X (.Call (.Attribute a "get" apos) [b] [] pos) (mGet1 m n) :=
  (pe_dget1 (by omega) ha hb h).mono fun σ H Q h => by
    obtain ⟨G, ρ, w, e, x, μ', hm, q⟩ := h
    simp only [mGet1, Option.bind_eq_some_iff] at hm
    obtain ⟨⟨p, μ1⟩, h1, c0, h2, h3⟩ := hm
    have hd : isDct c0 = true := Decidable.byContradiction fun hd => by rw [if_neg hd] at h3; cases h3
    rw [if_pos hd] at h3
    simp only [Option.bind_eq_some_iff, Option.map_eq_some_iff] at h3
    obtain ⟨⟨p2, μ2⟩, h4, c, h5, y, h6, z, h7, h8⟩ := h3
    cases h8
    refine ⟨G, ρ, w, e, p, μ1, h1, fun v1 H1 G1 e1 g1 w1 r1 => ?_⟩
    obtain ⟨a, ea, da⟩ := isD_of w1.fr (w1.deref r1 (by rw [g1]; exact h2)) hd
    refine ⟨a, ea, da, G1, ρ, w1, e.ext e1, p2, _, by rw [g1]; exact h4, fun v2 H2 G2 e2 g2 w2 r2 => ?_⟩
    obtain ⟨a', ea', o, hg, ho⟩ := get_of w2.fr (w2.deref (r1.ext e2) (by rw [g2]; exact h5)) (w2.derefT r2 (by rw [g2]; exact h6)) h7
    rw [ea] at ea'
    cases ea'
    refine ⟨o, hg, ?_⟩
    rcases ho with ⟨u, rfl, ru⟩ | ⟨rfl, rfl⟩
    · exact q u H2 G2 (e1.trans e2) g2 w2 ru
    · exact q .non H2 G2 (e1.trans e2) g2 w2 rfl
theorem ex_get2 (hu : X.A.units + 65 < cLine) (ha : EX X a m) (hb : EX X b n) (hx : EX X c x) (h : M2 X a "get" apos b c pos := by exact ⟨rfl, rfl, rfl, rfl⟩) : EX X (.Call (.Attribute a "get" apos) [b, c] [] pos) (mGet2 m n x) :=
  (pe_dget2 (by omega) ha hb hx h).mono fun σ H Q h => by
    obtain ⟨G, ρ, w, e, x, μ', hm, q⟩ := h
    simp only [mGet2, Option.bind_eq_some_iff] at hm
    obtain ⟨⟨p, μ1⟩, h1, c0, h2, h3⟩ := hm
    have hd : isDct c0 = true := Decidable.byContradiction fun hd => by rw [if_neg hd] at h3; cases h3
    rw [if_pos hd] at h3
    simp only [Option.bind_eq_some_iff] at h3
    obtain ⟨⟨p2, μ2⟩, h4, ⟨p3, μ3⟩, h9, h3⟩ := h3
    refine ⟨G, ρ, w, e, p, μ1, h1, fun v1 H1 G1 e1 g1 w1 r1 => ?_⟩
    obtain ⟨a, ea, da⟩ := isD_of w1.fr (w1.deref r1 (by rw [g1]; exact h2)) hd
    refine ⟨a, ea, da, G1, ρ, w1, e.ext e1, p2, _, by rw [g1]; exact h4, fun v2 H2 G2 e2 g2 w2 r2 => ?_⟩
    refine ⟨G2, ρ, w2, e.ext (e1.trans e2), p3, _, by rw [g2]; exact h9, fun v3 H3 G3 e3 g3 w3 r3 => ?_⟩
    split at h3
    · rename_i dz hp3
      simp only at hp3
      subst hp3
      simp only [Option.bind_eq_some_iff, Option.map_eq_some_iff] at h3
      obtain ⟨c, h5, y, h6, z, h7, h8⟩ := h3
      cases h8
      obtain ⟨a', ea', o, hg, ho⟩ := get_of w3.fr (w3.deref (r1.ext (e2.trans e3)) (by rw [g3]; exact h5)) (w3.derefT (r2.ext e3) (by rw [g3]; exact h6)) h7
      rw [ea] at ea'
      cases ea'
      refine ⟨o, hg, ?_⟩
      rcases ho with ⟨u, rfl, ru⟩ | ⟨rfl, rfl⟩
      · exact q u H3 G3 ((e1.trans e2).trans e3) g3 w3 ru
      · exact q v3 H3 G3 ((e1.trans e2).trans e3) g3 w3 r3
    · cases h3
/-! ### list(range(n)), tuple(range(n)) -/
def rgD (n : Int) : List D := (List.range n.toNat).map fun (i : Nat) => .int (i : Int)
def mRgL (m : ME) : ME := fun ρ μ => (m ρ μ).bind fun p => match p.1 with
  | .dat (.int n) => if 0 ≤ n ∧ n ≤ 1000000 then some (.dat (.lst (rgD n)), p.2) else none
  | _ => none
def mRgT (m : ME) : ME := fun ρ μ => (m ρ μ).bind fun p => match p.1 with
  | .dat (.int n) => if 0 ≤ n ∧ n ≤ 1000000 then some (.dat (.tup (rgD n)), p.2) else none
  | _ => none
theorem reps_rg {k : Kx} {F : Hp} (n : Int) : Reps k F (rgV 0 n) (rgD n) := by
  unfold rgV rgD
  rw [Int.sub_zero]
  have : ∀ l : List Nat, Reps k F (l.map fun (i : Nat) => V.int (0 + (i : Nat))) (l.map fun (i : Nat) => D.int (i : Int)) := by
    intro l
    induction l with
    | nil => trivial
    | cons i l ih => exact ⟨by show V.int (0 + (i : Int)) = V.int _; rw [Int.zero_add], ih⟩
  exact this _
theorem rg_of {k : Kx} {m : ME} {σ : L2.St} {H : Hp} {Q : VK} {mk : List D → D} {am : List V → HO} (hr : ∀ {F : Hp} {p : Addr} {xs : List V} {ds : List D}, F p = none → Reps k F xs ds → Rep k (upd F p (am xs)) (.ref p) (mk ds))
    (h : tE k (fun ρ μ => (m ρ μ).bind fun p => match p.1 with | .dat (.int n) => if 0 ≤ n ∧ n ≤ 1000000 then some (.dat (mk (rgD n)), p.2) else none | _ => none) σ H Q) :
    tRg1 (tE k m) σ H fun a b H1 => RgOk a b ∧ ∀ q, H1 q = none → Q (.ref q) (upd H1 q (am (rgV a b))) := by
  obtain ⟨G, ρ, w, e, x, μ', hm, q⟩ := h
  simp only [Option.bind_eq_some_iff] at hm
  obtain ⟨⟨p, μ1⟩, h1, h2⟩ := hm
  refine ⟨G, ρ, w, e, p, μ1, h1, fun v1 H1 G1 e1 g1 w1 r1 => ?_⟩
  split at h2
  · rename_i n hp
    simp only at hp
    subst hp
    obtain ⟨hn, h3⟩ := if_some h2
    cases h3
    refine ⟨n, r1, RgOk.of_le (by omega) (by omega) (by omega) (by omega), fun p hp => ?_⟩
    exact KD.new (k := k) (G := G1) (Q := Q) (fun v H' G' e' g' w' r' => q v H' G' (e1.trans e') (by rw [g', g1]) w' r') w1 hp (hr (w1.fnew hp) (reps_rg n))
  · cases h2
theorem ex_listRg {p1 p2 pos2 : Pos} (hc : X.calm = true) (hg : Gl X "list") (hm : X.mg "list" = none) (hg2 : Gl X "range") (hm2 : X.mg "range" = none) (ha : EX X a m)
    (na : starEach [a] X.env = (false, eval a X.env) :: starEach [] X.env := by rfl)
    (nb : starEach [.Call (.Name "range" p2) [a] [] pos2] X.env = (false, eval (.Call (.Name "range" p2) [a] [] pos2) X.env) :: starEach [] X.env := by rfl) :
    EX X (.Call (.Name "list" p1) [.Call (.Name "range" p2) [a] [] pos2] [] pos) (mRgL m) :=
  (pe_listRg hc hg hm (prg_1 hg2 hm2 ha na) nb).mono fun σ H Q h => rg_of (mk := .lst) (am := .lst) (fun hp r => ⟨_, _, rfl, upd_same, Reps.mono (same_new hp) _ r⟩) h
theorem ex_tupRg {p1 p2 pos2 : Pos} (hc : X.calm = true) (hg : Gl X "tuple") (hm : X.mg "tuple" = none) (hg2 : Gl X "range") (hm2 : X.mg "range" = none) (ha : EX X a m)
    (na : starEach [a] X.env = (false, eval a X.env) :: starEach [] X.env := by rfl)
    (nb : starEach [.Call (.Name "range" p2) [a] [] pos2] X.env = (false, eval (.Call (.Name "range" p2) [a] [] pos2) X.env) :: starEach [] X.env := by rfl) :
    EX X (.Call (.Name "tuple" p1) [.Call (.Name "range" p2) [a] [] pos2] [] pos) (mRgT m) :=
  (pe_tupRg hc hg hm (prg_1 hg2 hm2 ha na) nb).mono fun σ H Q h => rg_of (mk := .tup) (am := .tup) (fun hp r => ⟨_, _, rfl, upd_same, Reps.mono (same_new hp) _ r⟩) h
/-! ### starred rows -/
def rowOf : D → Option (List D)
  | .tup ds => some ds
  | .lst ds => some ds
  | _ => none
def aStar (m : ME) (am : MA) : MA := fun ρ μ => (m ρ μ).bind fun p => ((deref p.2 p.1).bind rowOf).bind fun ds => (am ρ p.2).map fun q => (ds.map PV.dat ++ q.1, q.2)
theorem reps_vreps {k : Kx} {G : Gh} : ∀ {ds : List D} {vs : List V}, Reps k G.F vs ds → VReps k G vs (ds.map .dat)
  | [], [], _ => trivial
  | [], _ :: _, h => h.elim
  | _ :: _, [], h => h.elim
  | _ :: ds, _ :: vs, h => ⟨h.1, reps_vreps (ds := ds) h.2⟩
theorem vreps_append {k : Kx} {G : Gh} : ∀ {xs ys : List PV} {vs ws : List V}, VReps k G vs xs → VReps k G ws ys → VReps k G (vs ++ ws) (xs ++ ys)
  | [], _, [], _, _, h => h
  | [], _, _ :: _, _, h, _ => h.elim
  | _ :: _, _, [], _, h, _ => h.elim
  | _ :: xs, _, _ :: vs, _, h, h' => ⟨h.1, vreps_append (xs := xs) h.2 h'⟩
theorem ax_star {es : List Expr} {p : Pos} (ha : EX X a m) (hr : AX X es am) (hs : starEach (.Starred a p :: es) X.env = (true, eval a X.env) :: starEach es X.env := by rfl) : AX X (.Starred a p :: es) (aStar m am) :=
  (StX.pa_star ha hr hs).mono fun σ H Q h => by
    obtain ⟨G, ρ, w, e, xs, μ', hm, q⟩ := h
    simp only [aStar, Option.bind_eq_some_iff, Option.map_eq_some_iff] at hm
    obtain ⟨⟨p, μ1⟩, h1, ds, ⟨c, h2, h3⟩, ⟨ps, μ2⟩, h4, h5⟩ := hm
    cases h5
    refine ⟨G, ρ, w, e, p, μ1, h1, fun v1 H1 G1 e1 g1 w1 r1 => ?_⟩
    have rc := w1.deref r1 (by rw [g1]; exact h2)
    have key : ∃ a xs, v1 = .ref a ∧ (SqT (kx X).K H1 a xs ∨ SqL (kx X).K H1 a xs) ∧ Reps (kx X) G1.F xs ds := by
      cases c <;> simp only [rowOf] at h3
      all_goals try cases h3
      · obtain ⟨a, xs, h1, h2, h3⟩ := repH_tup w1.fr rc
        exact ⟨a, xs, h1, .inl h2, h3⟩
      · obtain ⟨a, xs, h1, h2, h3⟩ := repH_lst w1.fr rc
        exact ⟨a, xs, h1, .inr h2, h3⟩
    obtain ⟨a, us, ea, ha, ru⟩ := key
    refine ⟨a, us, ea, ha, G1, ρ, w1, e.ext e1, ps, _, by rw [g1]; exact h4, fun vs H2 G2 e2 g2 w2 r2 => ?_⟩
    exact q _ H2 G2 (e1.trans e2) g2 w2 (vreps_append (reps_vreps (Reps.mono e2.f _ ru)) r2)
end
section
variable {X : Cx} {pos : Pos} {elt tg iter tg1 iter1 : Expr} {ifs ifs1 : List Expr} {scope : Scope} {own : List (Str × Nat)} {vs1 : List Nat} {mi mi1 : MI} {t t1 : Tg} {tt tt1 : MT} {te : ME}
theorem sx_setLc2 (hc : X.calm = true) (hN : X.N.Nodup) (hi : IX X tg iter mi) (ok : BlkOk X.N X.env.scope scope own) (hv1 : ∀ i ∈ vs1, i ∈ own.map (·.2))
    (hg : ∀ (s : Shared) (H : Hp) (C : Addr) (cl : List (Str × Addr)) (fp : List Addr), PG (X.blk s H scope (compEnvC scope cl C X.env) fp) tg (gT X.K t))
    (ht : ∀ (s : Shared) (H : Hp) (C : Addr) (cl : List (Str × Addr)) (fp : List Addr), QX (X.blk s H scope (compEnvC scope cl C X.env) fp) ifs tt)
    (hi1 : ∀ (s : Shared) (H : Hp) (C : Addr) (cl : List (Str × Addr)) (fp : List Addr), IX (X.blk s H scope (compEnvC scope cl C X.env) fp) tg1 iter1 mi1)
    (hg1 : ∀ (s : Shared) (H : Hp) (C : Addr) (cl : List (Str × Addr)) (fp : List Addr), PG (X.blk s H scope (compEnvC scope cl C X.env) fp) tg1 (gT X.K t1))
    (ht1 : ∀ (s : Shared) (H : Hp) (C : Addr) (cl : List (Str × Addr)) (fp : List Addr), QX (X.blk s H scope (compEnvC scope cl C X.env) fp) ifs1 tt1)
    (he : ∀ (s : Shared) (H : Hp) (C : Addr) (cl : List (Str × Addr)) (fp : List Addr), EX (X.blk s H scope (compEnvC scope cl C X.env) fp) elt te)
    (hs : ∀ x, foldedSetIterable iter X.env x = pure x) (hs1 : ∀ env x, foldedSetIterable iter1 env x = pure x)
    {i : Nat} {y : Str} {py spos : Pos} (hy : X.N[i]? = some y) (hyl : X.env.scope.names.lookup y = some .local)
    (hsw : swapsWith (.ListComp elt [⟨tg, iter, ifs, 0⟩, ⟨tg1, iter1, ifs1, 0⟩] scope pos) (some (.Name y py)) spos.line X.env = pure true) (hv : ∀ i ∈ t.slots, i ∈ own.map (·.2)) (hvt : ∀ i ∈ t1.slots, i ∈ vs1) :
    SX X (.Assign [.Name y py] (.ListComp elt [⟨tg, iter, ifs, 0⟩, ⟨tg1, iter1, ifs1, 0⟩] scope pos) spos) (sAsg (mLc2 mi t (own.map (·.2)) tt mi1 t1 vs1 tt1 te) (.nm i)) :=
  PS.mono (ps_setLc2 (te := tE (kx X) te) (tt := tT (kx X) tt) (tt1 := tT (kx X) tt1) (wi1 := tI (kx X) mi1) (g1 := gT X.K t1) hc hN hy hyl hsw hi ok hv1 hg ht hi1 hg1 ht1 he hs hs1) fun Dd σ H h => asg_nm (fun σ H Q h => lc2_tE hv hvt h) h
end
end PL

set_option Elab.async false
set_option linter.all false
set_option maxRecDepth 100000
namespace PL
open PySem PySem.Spec PyProof.Rows

/-! ### the pure side, evaluated -/
theorem cut_dat (n : Nat) (d : D) (μ : Sto) : cutS n (.dat d, μ) = some (.dat d, μ.take n) := rfl
theorem cut_self (d : D) (μ : Sto) : cutS μ.length (.dat d, μ) = some (.dat d, μ) := by rw [cut_dat, List.take_length]
theorem mAnd_bl {a b : ME} {ρ : Env} {μ μ1 : Sto} {p : Bool} (h : a ρ μ = some (.dat (.bl p), μ1)) : mAnd a b ρ μ = if p = true then b ρ μ1 else some (.dat (.bl false), μ1) := by
  unfold mAnd
  rw [h]
  cases p <;> rfl
theorem mOr_bl {a b : ME} {ρ : Env} {μ μ1 : Sto} {p : Bool} (h : a ρ μ = some (.dat (.bl p), μ1)) : mOr a b ρ μ = if p = true then some (.dat (.bl true), μ1) else b ρ μ1 := by
  unfold mOr
  rw [h]
  cases p <;> rfl
/-- a comprehension that leaves the store as it is -/
theorem lcL_pure {oc : Option (Nat × Cell)} {t : Tg} {vs : List Nat} {tt : MT} {te : ME} {ρ : Env} {μ : Sto} (g : D → D) (p : D → Bool) (hk : keepP oc μ) : ∀ (ds : List D) (n : Nat),
    (∀ d ∈ ds, ∃ ρ1, bind1 t (.dat d) (wipeE ρ vs) = some ρ1 ∧ tt ρ1 μ = some (p d, μ) ∧ (p d = true → te ρ1 μ = some (.dat (g d), μ))) → n + ds.length ≤ lim →
    lcL oc t vs tt te ρ n ds μ = some ((ds.filter p).map g, μ)
  | [], n, _, _ => rfl
  | d :: ds, n, h, hn => by
    obtain ⟨ρ1, h1, h2, h3⟩ := h d List.mem_cons_self
    rw [List.length_cons] at hn
    simp only [lcL, h1, h2, Option.bind_some]
    cases hp : p d with
    | false =>
      simp only [Bool.false_eq_true, if_false, if_pos hk]
      rw [lcL_pure g p hk ds n (fun d hd => h d (List.mem_cons_of_mem _ hd)) (by omega), List.filter_cons_of_neg (by simp [hp])]
    | true =>
      simp only [if_true, h3 hp, Option.bind_some, if_pos (show keepP oc μ ∧ n < lim from ⟨hk, by omega⟩)]
      rw [lcL_pure g p hk ds (n + 1) (fun d hd => h d (List.mem_cons_of_mem _ hd)) (by omega), List.filter_cons_of_pos hp]
      rfl
theorem lcL_map {oc : Option (Nat × Cell)} {t : Tg} {vs : List Nat} {te : ME} {ρ : Env} {μ : Sto} (g : D → D) (hk : keepP oc μ) (ds : List D) (n : Nat)
    (h : ∀ d ∈ ds, ∃ ρ1, bind1 t (.dat d) (wipeE ρ vs) = some ρ1 ∧ te ρ1 μ = some (.dat (g d), μ)) (hn : n + ds.length ≤ lim) :
    lcL oc t vs mYes te ρ n ds μ = some (ds.map g, μ) := by
  rw [lcL_pure g (fun _ => true) hk ds n (fun d hd => by
    obtain ⟨ρ1, h1, h2⟩ := h d hd
    exact ⟨ρ1, h1, rfl, fun _ => h2⟩) hn, List.filter_eq_self.mpr (fun _ _ => rfl)]
inductive All2 {α β : Type} (R : α → β → Prop) : List α → List β → Prop
  | nil : All2 R [] []
  | cons {a : α} {b : β} {as : List α} {bs : List β} : R a b → All2 R as bs → All2 R (a :: as) (b :: bs)
theorem All2.length {α β : Type} {R : α → β → Prop} : ∀ {as : List α} {bs : List β}, All2 R as bs → as.length = bs.length
  | _, _, .nil => rfl
  | _, _, .cons _ t => by rw [List.length_cons, List.length_cons, t.length]
/-- one that changes it, in what stays true -/
theorem lcL_inv {oc : Option (Nat × Cell)} {t : Tg} {vs : List Nat} {te : ME} {ρ : Env} (Iv : Sto → Prop) (hk : ∀ μ, Iv μ → keepP oc μ) (R : D → D → Prop) : ∀ (ds : List D) (n : Nat) (μ : Sto), Iv μ →
    (∀ d ∈ ds, ∀ μ, Iv μ → ∃ ρ1 e μ', bind1 t (.dat d) (wipeE ρ vs) = some ρ1 ∧ te ρ1 μ = some (.dat e, μ') ∧ Iv μ' ∧ R d e) → n + ds.length ≤ lim →
    ∃ es μ', lcL oc t vs mYes te ρ n ds μ = some (es, μ') ∧ Iv μ' ∧ All2 R ds es
  | [], n, μ, hi, _, _ => ⟨[], μ, rfl, hi, .nil⟩
  | d :: ds, n, μ, hi, h, hn => by
    rw [List.length_cons] at hn
    obtain ⟨ρ1, e, μ1, h1, h2, h3, h4⟩ := h d List.mem_cons_self μ hi
    obtain ⟨es, μ2, k1, k2, k3⟩ := lcL_inv Iv hk R ds (n + 1) μ1 h3 (fun d hd => h d (List.mem_cons_of_mem _ hd)) (by omega)
    refine ⟨e :: es, μ2, ?_, k2, .cons h4 k3⟩
    simp only [lcL, h1, mYes, Option.bind_some, if_true, h2, if_pos (show keepP oc μ1 ∧ n < lim from ⟨hk _ h3, by omega⟩), k1, Option.map_some]
/-- two clauses, the store as it is -/
theorem lc2L_pure {oc : Option (Nat × Cell)} {t t1 : Tg} {vs vs1 : List Nat} {tt1 : MT} {mi1 : MI} {te : ME} {ρ : Env} {μ : Sto} (B : Nat) (g : D → List D) (hk : keepP oc μ) : ∀ (ds : List D) (n : Nat),
    (∀ d ∈ ds, ∀ n, n + (g d).length ≤ B → ∃ ρ1 items oc1, bind1 t (.dat d) (wipeE ρ vs) = some ρ1 ∧ mi1 ρ1 μ = some (items, oc1, μ) ∧ lcL oc1 t1 vs1 tt1 te ρ1 n items μ = some (g d, μ)) → n + (ds.flatMap g).length ≤ B →
    lc2L oc t vs mYes mi1 t1 vs1 tt1 te ρ n ds μ = some (ds.flatMap g, μ)
  | [], n, _, _ => rfl
  | d :: ds, n, h, hn => by
    rw [List.flatMap_cons, List.length_append] at hn
    obtain ⟨ρ1, items, oc1, h1, h2, h3⟩ := h d List.mem_cons_self n (by omega)
    simp only [lc2L, h1, mYes, Option.bind_some, if_true, h2, h3, if_pos hk]
    rw [lc2L_pure B g hk ds (n + (g d).length) (fun d hd => h d (List.mem_cons_of_mem _ hd)) (by omega)]
    rfl
/-- a loop, by what stays true; no turn leaves it -/
theorem forL_inv {oc : Option (Nat × Cell)} {t : Tg} {b : MS} (Pv : Nat → Env → Sto → Prop) (hk : ∀ i ρ μ, Pv i ρ μ → keepP oc μ) : ∀ (ds : List D) (i : Nat) (ρ : Env) (μ : Sto), Pv i ρ μ →
    (∀ j d ρ μ, ds[j]? = some d → Pv (i + j) ρ μ → ∃ ρ1 o ρ' μ', bind1 t (.dat d) ρ = some ρ1 ∧ b ρ1 μ = some (o, ρ', μ') ∧ (o = .nx ∨ o = .ct) ∧ Pv (i + j + 1) ρ' μ') →
    ∃ ρ' μ', forL oc t b ds ρ μ = some (.nx, ρ', μ') ∧ Pv (i + ds.length) ρ' μ'
  | [], i, ρ, μ, hp, _ => ⟨ρ, μ, rfl, hp⟩
  | d :: ds, i, ρ, μ, hp, h => by
    obtain ⟨ρ1, o, ρ', μ', h1, h2, h3, h4⟩ := h 0 d ρ μ rfl hp
    obtain ⟨ρ2, μ2, k1, k2⟩ := forL_inv Pv hk ds (i + 1) ρ' μ' h4 (fun j d ρ μ hj hp => by
      have := h (j + 1) d ρ μ hj (by rw [show i + (j + 1) = i + 1 + j by omega]; exact hp)
      rw [show i + (j + 1) + 1 = i + 1 + j + 1 by omega] at this
      exact this)
    refine ⟨ρ2, μ2, ?_, by rw [List.length_cons, show i + (ds.length + 1) = i + 1 + ds.length by omega]; exact k2⟩
    simp only [forL, h1, h2, Option.bind_some]
    rcases h3 with h3 | h3
    all_goals
      subst h3
      simp only [if_pos (hk _ _ _ h4), k1]
theorem bL_map (p : D → Bool) : ∀ (ds : List D), bL (ds.map fun d => .bl (p d)) = some (ds.map p)
  | [] => rfl
  | d :: ds => by simp [bL, bL_map p ds]
theorem bL_bls : ∀ (bs : List Bool), bL (bs.map .bl) = some bs
  | [] => rfl
  | b :: bs => by simp [bL, bL_bls bs]
theorem iL_ints : ∀ (is : List Int), iL (is.map .int) = some is
  | [] => rfl
  | i :: is => by simp [iL, iL_ints is]
theorem zipF_map {α β : Type} (f : α → D) (g : β → D) : ∀ (xs : List α) (ys : List β), zipF (xs.map f) (ys.map g) = (xs.zip ys).map fun p => .tup [f p.1, g p.2]
  | x :: xs, y :: ys => by simp [zipF, zipF_map f g xs ys]
  | [], _ => by simp [zipF]
  | _ :: _, [] => by simp [zipF]
theorem enumF_map {α : Type} (f : α → D) : ∀ (xs : List α) (n : Nat), enumF n (xs.map f) = (xs.zipIdx n).map fun p => .tup [.int (p.2 : Nat), f p.1]
  | [], _ => rfl
  | x :: xs, n => by simp [enumF, enumF_map f xs (n + 1), List.zipIdx_cons]
theorem cut_from (xs : List D) (k : Nat) : cutD xs (some (k : Int)) none = xs.drop k := by
  unfold cutD
  have h1 : HT.sIx xs.length 0 (some (k : Int)) = min k xs.length := HT.sIx_nat xs.length 0 k
  rw [h1, HT.sIx_none]
  rcases Nat.le_total k xs.length with h | h
  · rw [Nat.min_eq_left h, List.take_of_length_le (by simp)]
  · rw [Nat.min_eq_right h, List.drop_of_length_le (Nat.le_refl _), List.drop_of_length_le h]; simp
theorem cut_to (xs : List D) (k : Nat) : cutD xs none (some (k : Int)) = xs.take k := by
  unfold cutD
  have h1 : HT.sIx xs.length xs.length (some (k : Int)) = min k xs.length := HT.sIx_nat xs.length xs.length k
  rw [h1, HT.sIx_none]
  simp [List.take_eq_take_iff]
theorem cut_mid (xs : List D) (i j : Nat) : cutD xs (some (i : Int)) (some (j : Int)) = (xs.drop i).take (j - i) := by
  unfold cutD
  have h1 : HT.sIx xs.length 0 (some (i : Int)) = min i xs.length := HT.sIx_nat xs.length 0 i
  have h2 : HT.sIx xs.length xs.length (some (j : Int)) = min j xs.length := HT.sIx_nat xs.length xs.length j
  rw [h1, h2]
  rcases Nat.le_total i xs.length with h | h
  · rw [Nat.min_eq_left h]
    rw [List.take_eq_take_iff, List.length_drop]
    omega
  · rw [Nat.min_eq_right h, List.drop_of_length_le (Nat.le_refl _), List.drop_of_length_le h]; simp

theorem all_map (p : D → Bool) (ds : List D) : allD (.lst (ds.map fun d => .bl (p d))) = some (.bl (ds.all p)) := by
  simp only [allD, bL_map, Option.map_some, List.all_map]
  rfl
theorem mLc_seq {a te : ME} {t : Tg} {vs : List Nat} {ρ : Env} {μ : Sto} {x : PV} {c : D} {ds : List D} (g : D → D) (ha : a ρ μ = some (x, μ)) (hd : deref μ x = some c) (hs : isSeq c = some ds)
    (h : ∀ d ∈ ds, ∃ ρ1, bind1 t (.dat d) (wipeE ρ vs) = some ρ1 ∧ te ρ1 μ = some (.dat (g d), μ)) (hl : ds.length ≤ lim) : mLc (iSeq a) t vs mYes te ρ μ = some (.dat (.lst (ds.map g)), μ) := by
  simp only [mLc, iSeq, ha, hd, hs, Option.bind_some, Option.map_some]
  rw [lcL_map g (keep_oc μ x) ds 0 h (by omega)]
  rfl
theorem all_it {mi : MI} {te : ME} {t : Tg} {vs : List Nat} {ρ : Env} {μ : Sto} {oc : Option (Nat × Cell)} {ds : List D} (p : D → Bool) (hi : mi ρ μ = some (ds, oc, μ)) (hk : keepP oc μ)
    (h : ∀ d ∈ ds, ∃ ρ1, bind1 t (.dat d) (wipeE ρ vs) = some ρ1 ∧ te ρ1 μ = some (.dat (.bl (p d)), μ)) (hl : ds.length ≤ lim) : mCB (f1 allD) (aCons (mLc mi t vs mYes te) aNil) ρ μ = some (.dat (.bl (ds.all p)), μ) := by
  simp only [mCB, aCons, mLc, hi, Option.bind_some]
  rw [lcL_map (fun d => .bl (p d)) hk ds 0 h (by omega)]
  simp only [Option.map_some, Option.bind_some, aNil, derefs, deref, f1, all_map]
theorem seq_it {a : ME} {ρ : Env} {μ : Sto} {x : PV} {c : D} {ds : List D} (ha : a ρ μ = some (x, μ)) (hd : deref μ x = some c) (hs : isSeq c = some ds) : iSeq a ρ μ = some (ds, ocOf μ x, μ) := by
  simp only [iSeq, ha, hd, hs, Option.bind_some, Option.map_some]
theorem all_seq {a te : ME} {t : Tg} {vs : List Nat} {ρ : Env} {μ : Sto} {x : PV} {c : D} {ds : List D} (p : D → Bool) (ha : a ρ μ = some (x, μ)) (hd : deref μ x = some c) (hs : isSeq c = some ds)
    (h : ∀ d ∈ ds, ∃ ρ1, bind1 t (.dat d) (wipeE ρ vs) = some ρ1 ∧ te ρ1 μ = some (.dat (.bl (p d)), μ)) (hl : ds.length ≤ lim) : mCB (f1 allD) (aCons (mLc (iSeq a) t vs mYes te) aNil) ρ μ = some (.dat (.bl (ds.all p)), μ) :=
  all_it p (seq_it ha hd hs) (keep_oc μ x) h hl

/-! ### step by step -/
section
variable {n j : Nat} {m a b c : ME} {am km : MA} {ms mt : MS} {t u : MT} {ρ ρ1 ρ' : Env} {μ μ1 μ2 μ' : Sto} {x y : PV} {d e : D} {p q : Bool} {xs ys : List PV} {fn : Fn}
theorem fn_dat (hl : xs.length = j) (h : ms (startE n xs) μ = some (.rt (.dat d), ρ', μ)) : fnOf n j ms xs μ = some (.dat d, μ) := by
  unfold fnOf
  rw [if_pos hl, h]
  exact cut_self d μ
theorem fn_cut (hl : xs.length = j) (h : ms (startE n xs) μ = some (.rt (.dat d), ρ', μ')) : fnOf n j ms xs μ = some (.dat d, μ'.take μ.length) := by
  unfold fnOf
  rw [if_pos hl, h]
  rfl
theorem fn_non (hl : xs.length = j) (h : ms (startE n xs) μ = some (.nx, ρ', μ)) : fnOf n j ms xs μ = some (.dat .non, μ) := by
  unfold fnOf
  rw [if_pos hl, h]
  exact cut_self _ μ
theorem seq_nx {r : Option (Out × Env × Sto)} (h1 : ms ρ μ = some (.nx, ρ1, μ1)) (h2 : mt ρ1 μ1 = r) : sSeq ms mt ρ μ = r := by
  unfold sSeq
  rw [h1]
  exact h2
theorem seq_rt (h1 : ms ρ μ = some (.rt x, ρ1, μ1)) : sSeq ms mt ρ μ = some (.rt x, ρ1, μ1) := by
  unfold sSeq
  rw [h1]
  rfl
theorem ret_of (h : m ρ μ = some (x, μ')) : sRet m ρ μ = some (.rt x, ρ, μ') := by
  unfold sRet
  rw [h]
  rfl
theorem expr_of (h : m ρ μ = some (x, μ')) : sEx m ρ μ = some (.nx, ρ, μ') := by
  unfold sEx
  rw [h]
  rfl
theorem if_t {r : Option (Out × Env × Sto)} (h : t ρ μ = some (true, μ1)) (h2 : ms ρ μ1 = r) : sIf t ms mt ρ μ = r := by
  unfold sIf
  rw [h]
  exact h2
theorem if_f {r : Option (Out × Env × Sto)} (h : t ρ μ = some (false, μ1)) (h2 : mt ρ μ1 = r) : sIf t ms mt ρ μ = r := by
  unfold sIf
  rw [h]
  exact h2
theorem if_b {r : Option (Out × Env × Sto)} (h : t ρ μ = some (p, μ1)) (h1 : p = true → ms ρ μ1 = r) (h2 : p = false → mt ρ μ1 = r) : sIf t ms mt ρ μ = r := by
  cases p
  · exact if_f h (h2 rfl)
  · exact if_t h (h1 rfl)
theorem asg_nm' {i : Nat} (h : m ρ μ = some (x, μ1)) : sAsg m (.nm i) ρ μ = some (.nx, ρ.set i (some x), μ1) := by
  unfold sAsg
  rw [h]
  rfl
theorem asg_tp {ts : List Tg} (h : m ρ μ = some (x, μ1)) (h2 : bind1 (.tp ts) x ρ = some ρ1) : sAsg m (.tp ts) ρ μ = some (.nx, ρ1, μ1) := by
  unfold sAsg
  rw [h, Option.bind_some, h2]
  rfl
theorem par_of {ts : List Tg} (h : am ρ μ = some (xs, μ1)) (h2 : binds ts xs ρ = some ρ1) : sPar am ts ρ μ = some (.nx, ρ1, μ1) := by
  unfold sPar
  rw [h, Option.bind_some, h2]
  rfl
theorem tst (h : m ρ μ = some (.dat (.bl p), μ1)) : mTest m ρ μ = some (p, μ1) := by
  unfold mTest
  rw [h]
  rfl
theorem tnot (h : t ρ μ = some (p, μ1)) : tmNot t ρ μ = some (!p, μ1) := by
  unfold tmNot
  rw [h]
  rfl
theorem tand (h : t ρ μ = some (p, μ1)) (h2 : p = true → u ρ μ1 = some (q, μ1)) : tmAnd t u ρ μ = some (p && q, μ1) := by
  unfold tmAnd
  rw [h]
  cases p
  · rfl
  · exact h2 rfl
theorem tor (h : t ρ μ = some (p, μ1)) (h2 : p = false → u ρ μ1 = some (q, μ1)) : tmOr t u ρ μ = some (p || q, μ1) := by
  unfold tmOr
  rw [h]
  cases p
  · exact h2 rfl
  · rfl
theorem and_of (h : a ρ μ = some (.dat (.bl p), μ1)) (h2 : p = true → b ρ μ1 = some (.dat (.bl q), μ1)) : mAnd a b ρ μ = some (.dat (.bl (p && q)), μ1) := by
  rw [mAnd_bl h]
  cases p
  · rfl
  · exact h2 rfl
theorem or_of (h : a ρ μ = some (.dat (.bl p), μ1)) (h2 : p = false → b ρ μ1 = some (.dat (.bl q), μ1)) : mOr a b ρ μ = some (.dat (.bl (p || q)), μ1) := by
  rw [mOr_bl h]
  cases p
  · exact h2 rfl
  · rfl
theorem not_of (h : a ρ μ = some (.dat (.bl p), μ1)) : mNot a ρ μ = some (.dat (.bl (!p)), μ1) := by
  unfold mNot
  rw [h]
  rfl
theorem ifx (h : t ρ μ = some (p, μ1)) {r : Option (PV × Sto)} (h1 : p = true → a ρ μ1 = r) (h2 : p = false → b ρ μ1 = r) : mIf t a b ρ μ = r := by
  unfold mIf
  rw [h]
  cases p
  · exact h2 rfl
  · exact h1 rfl
theorem call_of' {r : Option (PV × Sto)} (h : am ρ μ = some (xs, μ1)) (h2 : fn xs μ1 = r) : mCall fn am ρ μ = r := by
  unfold mCall
  rw [h]
  exact h2
theorem callK_of' {r : Option (PV × Sto)} (h : km ρ μ = some (xs, μ1)) (h2 : fn xs μ1 = r) : mCallK fn 0 aNil km ρ μ = r := by
  unfold mCallK
  show (some (([] : List PV), μ)).bind _ = _
  rw [Option.bind_some, h]
  exact h2
theorem acons (h : a ρ μ = some (x, μ1)) (h2 : am ρ μ1 = some (xs, μ2)) : aCons a am ρ μ = some (x :: xs, μ2) := by
  unfold aCons
  rw [h, Option.bind_some, h2]
  rfl
theorem op_of' {f : D → D → Option D} {d1 d2 z : D} (h : a ρ μ = some (x, μ1)) (h2 : b ρ μ1 = some (y, μ2)) (h3 : deref μ2 x = some d1) (h4 : deref μ2 y = some d2) (h5 : f d1 d2 = some z) : mOp f a b ρ μ = some (.dat z, μ2) := by
  simp only [mOp, h, h2, h3, h4, h5, Option.bind_some, Option.map_some]
theorem opT_of' {f : D → D → Option D} {d1 d2 z : D} (h : a ρ μ = some (x, μ1)) (h2 : b ρ μ1 = some (y, μ2)) (h3 : derefT μ2 x = some d1) (h4 : derefT μ2 y = some d2) (h5 : f d1 d2 = some z) : mOpT f a b ρ μ = some (.dat z, μ2) := by
  simp only [mOpT, h, h2, h3, h4, h5, Option.bind_some, Option.map_some]
theorem opHT_of' {f : D → D → Option D} {d1 d2 z : D} (h : a ρ μ = some (x, μ1)) (h2 : b ρ μ1 = some (y, μ2)) (h3 : deref μ2 x = some d1) (h4 : derefT μ2 y = some d2) (h5 : f d1 d2 = some z) : mOpHT f a b ρ μ = some (.dat z, μ2) := by
  simp only [mOpHT, h, h2, h3, h4, h5, Option.bind_some, Option.map_some]
theorem opTH_of' {f : D → D → Option D} {d1 d2 z : D} (h : a ρ μ = some (x, μ1)) (h2 : b ρ μ1 = some (y, μ2)) (h3 : derefT μ2 x = some d1) (h4 : deref μ2 y = some d2) (h5 : f d1 d2 = some z) : mOpTH f a b ρ μ = some (.dat z, μ2) := by
  simp only [mOpTH, h, h2, h3, h4, h5, Option.bind_some, Option.map_some]
theorem un_of' {f : D → Option D} {d1 z : D} (h : a ρ μ = some (x, μ1)) (h3 : deref μ1 x = some d1) (h5 : f d1 = some z) : mUn f a ρ μ = some (.dat z, μ1) := by
  simp only [mUn, h, h3, h5, Option.bind_some, Option.map_some]
theorem cb_of' {f : List D → Option D} {ds : List D} {z : D} (h : am ρ μ = some (xs, μ1)) (h3 : derefs μ1 xs = some ds) (h5 : f ds = some z) : mCB f am ρ μ = some (.dat z, μ1) := by
  simp only [mCB, h, h3, h5, Option.bind_some, Option.map_some]
theorem cp_of' {f : Sto → List PV → Option D} {z : D} (h : am ρ μ = some (xs, μ1)) (h5 : f μ1 xs = some z) : mCP f am ρ μ = some (.dat z, μ1) := by
  simp only [mCP, h, h5, Option.bind_some, Option.map_some]
theorem tup_of' {ds : List D} (h : am ρ μ = some (xs, μ1)) (h3 : dats xs = some ds) (h5 : ds.length ≤ lim) : mTup am ρ μ = some (.dat (.tup ds), μ1) := by
  simp only [mTup, h, h3, if_pos h5, Option.bind_some]
theorem lst_of' {ds : List D} (h : am ρ μ = some (xs, μ1)) (h3 : dats xs = some ds) (h5 : ds.length ≤ lim) : mLst am ρ μ = some (.dat (.lst ds), μ1) := by
  simp only [mLst, h, h3, if_pos h5, Option.bind_some]
theorem lstC_of' {ds : List D} (h : am ρ μ = some (xs, μ1)) (h3 : dats xs = some ds) (h5 : ds.length ≤ lim) : mLstC am ρ μ = some (.cell μ1.length, μ1 ++ [.flat (.lst ds)]) := by
  simp only [mLstC, h, h3, if_pos h5, Option.bind_some]
theorem sl_of' {ml mh : MO} {lo hi : Option Int} {z : D} {μ3 : Sto} (h : a ρ μ = some (x, μ1)) (h2 : ml ρ μ1 = some (lo, μ2)) (h3 : mh ρ μ2 = some (hi, μ3)) (h4 : slT μ3 x lo hi = some z) : mSl a ml mh ρ μ = some (.dat z, μ3) := by
  simp only [mSl, h, h2, h3, h4, Option.bind_some, Option.map_some]
theorem osome {i : Int} (h : a ρ μ = some (.dat (.int i), μ1)) : oSome a ρ μ = some (some i, μ1) := by
  simp only [oSome, h, Option.bind_some]
theorem chain_of' {f g : D → D → Option D} {d1 d2 d3 : D} {z : PV} (h : a ρ μ = some (x, μ)) (h2 : b ρ μ = some (y, μ)) (h3 : deref μ x = some d1) (h4 : deref μ y = some d2) (h5 : f d1 d2 = some (.bl p))
    (h6 : c ρ μ = some (z, μ)) (h7 : deref μ z = some d3) (h8 : g d2 d3 = some (.bl q)) : mChain f g a b c ρ μ = some (.dat (.bl (p && q)), μ) := by
  simp only [mChain, h, h2, h3, h4, h5, Option.bind_some]
  cases p
  · rfl
  · simp only [h6, h4, h7, h8, Option.bind_some, Bool.true_and]
end
theorem ltI (i j : Int) : ltD (.int i) (.int j) = some (.bl (decide (i < j))) := rfl
theorem leI (i j : Int) : leD (.int i) (.int j) = some (.bl (decide (i ≤ j))) := rfl
theorem eqI (i j : Int) : eqD (.int i) (.int j) = some (.bl (decide (i = j))) := rfl
theorem neI (i j : Int) : neD (.int i) (.int j) = some (.bl (!decide (i = j))) := rfl

section
variable {oc : Option (Nat × Cell)} {t : Tg} {b : MS} {d : D} {ds : List D} {ρ ρ1 ρ' : Env} {μ μ' : Sto} {v : PV}
theorem forL_nx (h1 : bind1 t (.dat d) ρ = some ρ1) (h2 : b ρ1 μ = some (.nx, ρ', μ')) (hk : keepP oc μ') : forL oc t b (d :: ds) ρ μ = forL oc t b ds ρ' μ' := by
  simp only [forL, h1, h2, Option.bind_some]
  exact if_pos hk
theorem forL_rt (h1 : bind1 t (.dat d) ρ = some ρ1) (h2 : b ρ1 μ = some (.rt v, ρ', μ')) : forL oc t b (d :: ds) ρ μ = some (.rt v, ρ', μ') := by
  simp only [forL, h1, h2, Option.bind_some]
end

theorem p64 : (2 : Int) ^ 64 = 18446744073709551616 := by decide
theorem mulI_l {i j : Int} (h1 : -18446744073709551616 < i) (h2 : i < 18446744073709551616) : mulID (.int i) (.int j) = some (.int (i * j)) := by
  show ((mulI i j).map D.int) = _
  unfold mulI
  rw [p64, if_pos (.inl ⟨h1, h2⟩)]
  rfl
theorem mulI_r {i j : Int} (h1 : -18446744073709551616 < j) (h2 : j < 18446744073709551616) : mulID (.int i) (.int j) = some (.int (i * j)) := by
  show ((mulI i j).map D.int) = _
  unfold mulI
  rw [p64, if_pos (.inr ⟨h1, h2⟩)]
  rfl
theorem divI {i j : Int} (h1 : 0 < j) (h2 : j < 1073741824) : divD (.int i) (.int j) = some (.int (i / j)) := by
  show ((if 0 < j ∧ j < 1073741824 then some (i / j) else none).map D.int) = _
  rw [if_pos ⟨h1, h2⟩]
  rfl
theorem modI {i j : Int} (h1 : 0 < j) : modD (.int i) (.int j) = some (.int (i % j)) := by
  show ((if 0 < j then some (i % j) else none).map D.int) = _
  rw [if_pos h1]
  rfl
theorem p62 : (2 : Int) ^ 62 = 4611686018427387904 := by decide
theorem range1_of {am : MA} {ρ : Env} {μ μ1 : Sto} {j : Int} (h : am ρ μ = some ([.dat (.int j)], μ1)) (h1 : -4611686018427387904 ≤ j) (h2 : j < 4611686018427387904) : iRange1 am ρ μ = some (rangeD 0 j.toNat, none, μ1) := by
  simp only [iRange1, h, Option.bind_some]
  rw [p62, if_pos ⟨h1, h2⟩]

section
variable {m a b : ME} {am : MA} {ρ ρ1 : Env} {μ μ1 μ2 : Sto} {x y : PV} {i : Nat} {c c' d k v : D} {t : TgS} {ys ys0 : List D}
theorem dcell (h : μ[i]? = some (.flat d)) : deref μ (.cell i) = some d := by simp [deref, h]
theorem dcellT (h : μ[i]? = some (.flat d)) : derefT μ (.cell i) = some d := by simp [derefT, h]
theorem asgS_of' (h : m ρ μ = some (x, μ1)) (h2 : store1 t x ρ μ1 = some (ρ1, μ2)) : sAsgS m t ρ μ = some (.nx, ρ1, μ2) := by
  unfold sAsgS
  rw [h, Option.bind_some, h2]
  rfl
theorem put_of' (h : a ρ μ = some (.cell i, μ)) (h2 : b ρ μ = some (y, μ)) (h3 : μ[i]? = some (.flat c)) (h4 : derefT μ y = some k) (h5 : setD c k v = some c') : store1 (.sub a b) (.dat v) ρ μ = some (ρ, μ.set i (.flat c')) := by
  simp only [store1, put1, h, h2, dcellT h3, h4, h5, Option.bind_some, Option.map_some]
theorem app_of' (h : a ρ μ = some (.cell i, μ1)) (h0 : μ1[i]? = some (.flat (.lst ys0))) (h2 : am ρ μ1 = some ([.dat v], μ2)) (h3 : μ2[i]? = some (.flat (.lst ys))) (hl : ys.length < lim) :
    mMut appD a am ρ μ = some (.dat .non, μ2.set i (.flat (.lst (ys ++ [v])))) := by
  simp only [mMut, h, dcellT h0, isLst, if_true, h2, dcellT h3, dats, appD, if_pos hl, Option.bind_some, Option.map_some]
theorem get_set_self (h : μ[i]? = some (.flat c)) : (μ.set i (.flat d))[i]? = some (.flat d) := List.getElem?_set_self (List.getElem?_eq_some_iff.mp h).1
theorem set_get_ne {j : Nat} {e : Cell} (h : j ≠ i) : (μ.set i e)[j]? = μ[j]? := List.getElem?_set_ne (Ne.symm h)
end
/-- the store but for the i-th cell -/
structure But (i : Nat) (μ μ' : Sto) : Prop where
  len : μ'.length = μ.length
  at' : ∀ j, j ≠ i → μ'[j]? = μ[j]?
theorem But.refl (i : Nat) (μ : Sto) : But i μ μ := ⟨rfl, fun _ _ => rfl⟩
theorem But.trans {i : Nat} {μ μ1 μ2 : Sto} (a : But i μ μ1) (b : But i μ1 μ2) : But i μ μ2 := ⟨b.len.trans a.len, fun j h => (b.at' j h).trans (a.at' j h)⟩
theorem But.set (i : Nat) (μ : Sto) (c : Cell) : But i μ (μ.set i c) := ⟨by simp, fun j h => set_get_ne h⟩
theorem but_take {i n : Nat} {μ μ' : Sto} (a : But i μ μ') : But i (μ.take n) (μ'.take n) := ⟨by simp [a.len], fun j h => by
  rw [List.getElem?_take, List.getElem?_take, a.at' j h]⟩

theorem atI_at {α : Type} (xs : List α) (k : Nat) : L2.atI xs (k : Int) = xs[k]? := by
  unfold L2.atI L2.ixN
  rw [if_pos (by omega)]
  by_cases h : k < xs.length
  · rw [if_pos (by omega)]
    simp
  · rw [if_neg (by omega), Option.bind_none, List.getElem?_eq_none (by omega)]
theorem rangeD_get {lo : Int} {n j : Nat} {d : D} (h : (rangeD lo n)[j]? = some d) : j < n ∧ d = .int (lo + j) := by
  unfold rangeD at h
  rw [List.getElem?_map] at h
  by_cases hj : j < n
  · rw [List.getElem?_range hj] at h
    exact ⟨hj, (Option.some.inj h).symm⟩
  · rw [List.getElem?_eq_none (by simpa using hj)] at h
    cases h
theorem rangeD_len (lo : Int) (n : Nat) : (rangeD lo n).length = n := by simp [rangeD]

/-! ### comprehensions over a range -/
theorem lc_range {am : MA} {te : ME} {j n : Nat} {ρ : Env} {μ : Sto} (g : Nat → D) (h : am ρ μ = some ([.dat (.int (n : Int))], μ)) (hn : n ≤ 100000) (ht : ∀ k, k < n → te ((wipeE ρ [j]).set j (some (.dat (.int (k : Int))))) μ = some (.dat (g k), μ)) :
    mLc (iRange1 am) (.nm j) [j] mYes te ρ μ = some (.dat (.lst ((List.range n).map g)), μ) := by
  have hr := range1_of h (by omega) (by omega)
  rw [Int.toNat_natCast] at hr
  simp only [mLc, hr, Option.bind_some]
  rw [lcL_map (oc := none) (fun d => match d with | .int i => g i.toNat | _ => .non) trivial (rangeD 0 n) 0 (fun d hd => by
    obtain ⟨k, hk⟩ := List.mem_iff_getElem?.mp hd
    obtain ⟨hkn, rfl⟩ := rangeD_get hk
    refine ⟨_, rfl, ?_⟩
    have := ht k hkn
    simp only [Int.zero_add, Int.toNat_natCast]
    exact this) (by rw [rangeD_len]; unfold lim; omega)]
  simp only [rangeD, List.map_map, Option.map_some]
  congr 4
  apply List.map_congr_left
  intro k _
  simp
theorem lc_range_if {am : MA} {te : ME} {tt : MT} {j n : Nat} {ρ : Env} {μ : Sto} (p : Nat → Bool) (g : Nat → D) (h : am ρ μ = some ([.dat (.int (n : Int))], μ)) (hn : n ≤ 100000)
    (hp : ∀ k, k < n → tt ((wipeE ρ [j]).set j (some (.dat (.int (k : Int))))) μ = some (p k, μ)) (ht : ∀ k, k < n → te ((wipeE ρ [j]).set j (some (.dat (.int (k : Int))))) μ = some (.dat (g k), μ)) :
    mLc (iRange1 am) (.nm j) [j] tt te ρ μ = some (.dat (.lst (((List.range n).filter p).map g)), μ) := by
  have hr := range1_of h (by omega) (by omega)
  rw [Int.toNat_natCast] at hr
  simp only [mLc, hr, Option.bind_some]
  rw [lcL_pure (oc := none) (fun d => match d with | .int i => g i.toNat | _ => .non) (fun d => match d with | .int i => p i.toNat | _ => false) trivial (rangeD 0 n) 0 (fun d hd => by
    obtain ⟨k, hk⟩ := List.mem_iff_getElem?.mp hd
    obtain ⟨hkn, rfl⟩ := rangeD_get hk
    refine ⟨_, rfl, ?_, ?_⟩
    · have := hp k hkn
      simp only [Int.zero_add, Int.toNat_natCast]
      exact this
    · intro _
      have := ht k hkn
      simp only [Int.zero_add, Int.toNat_natCast]
      exact this) (by rw [rangeD_len]; unfold lim; omega)]
  simp only [rangeD, List.filter_map, List.map_map, Option.map_some]
  have hp' : ((fun d => match d with | D.int i => p i.toNat | _ => false) ∘ fun i : Nat => D.int (0 + (i : Int))) = p := by
    funext k
    simp
  have hg' : ((fun d => match d with | D.int i => g i.toNat | _ => D.non) ∘ fun i : Nat => D.int (0 + (i : Int))) = g := by
    funext k
    simp
  rw [hp', hg']
theorem tup_lst {m : ME} {ρ : Env} {μ μ1 : Sto} {ds : List D} (h : m ρ μ = some (.dat (.lst ds), μ1)) : mCP tupP (aCons m aNil) ρ μ = some (.dat (.tup ds), μ1) := cp_of' (acons h rfl) rfl
theorem sum_tup {m : ME} {ρ : Env} {μ μ1 : Sto} {is : List Int} (h : m ρ μ = some (.dat (.tup (is.map .int)), μ1)) : mCB (f1 sum2D) (aCons m aNil) ρ μ = some (.dat (.int is.sum), μ1) := cb_of' (acons h rfl) rfl (by simp only [f1, sum2D, iL_ints, Option.map_some])
theorem sum_lst {m : ME} {ρ : Env} {μ μ1 : Sto} {is : List Int} (h : m ρ μ = some (.dat (.lst (is.map .int)), μ1)) : mCB (f1 sum2D) (aCons m aNil) ρ μ = some (.dat (.int is.sum), μ1) := cb_of' (acons h rfl) rfl (by simp only [f1, sum2D, iL_ints, Option.map_some])
end PL

set_option Elab.async false
set_option linter.all false
set_option maxRecDepth 100000
/-! PE2: sorted lists of ints, of tuples of ints -/
namespace PL
open PySem PySem.Spec
theorem pys_ints (l : List Int) : pys (l.map .int) = l.map PyData.int := by
  rw [pys_map, List.map_map]
  rfl
theorem okN_int (i : Int) (n : Nat) : (D.int i).okN n = true := by cases n <;> rfl
theorem okNs_ints (l : List Int) (n : Nat) : okNs (l.map D.int) n = true := by
  rw [okNs_all, List.all_map]
  exact List.all_eq_true.mpr fun i _ => okN_int i n
theorem okN_ints (l : List Int) (n : Nat) : (D.tup (l.map .int)).okN (n + 1) = true := by
  show okNs _ n = true
  exact okNs_ints l n
theorem le_tups (a b : List Int) : PySem.W.dataLe false D.py (.tup (a.map .int)) (.tup (b.map .int)) = decide (a ≤ b) := by
  rw [PySem.W.dataLe_eq]
  show (!PySem.W.dataLt (D.tup (b.map .int)).py (D.tup (a.map .int)).py) = _
  rw [show (D.tup (b.map .int)).py = .tuple (b.map .int) from congrArg PyData.tuple (pys_ints b), show (D.tup (a.map .int)).py = .tuple (a.map .int) from congrArg PyData.tuple (pys_ints a), PySem.W.dataLt_tuple]
  show (!PySem.W.rowLt (b.map .int) (a.map .int)) = _
  rw [PySem.W.dataLt_ints]
  by_cases h : b < a
  · have h' : ¬ a ≤ b := fun r => List.not_lt.mpr r h
    simp [h, h']
  · have h' : a ≤ b := List.not_lt.mp h
    simp [h, h']
theorem sort_tups {β : Type} (x : β → List Int) (bs : List β) (hn : ∀ b ∈ bs, x b ≠ []) (hl : bs.length ≤ lim) :
    sortD (.lst (bs.map fun b => .tup ((x b).map .int))) = some (.lst ((bs.mergeSort fun p q => decide (x p ≤ x q)).map fun b => .tup ((x b).map .int))) := by
  have e : (bs.mergeSort fun p q => decide (x p ≤ x q)).map (fun b => D.tup ((x b).map .int)) = (bs.map fun b => D.tup ((x b).map .int)).mergeSort (PySem.W.dataLe false D.py) :=
    List.map_mergeSort fun a _ b _ => (le_tups _ _).symm
  rw [e]
  show sortL _ = _
  unfold sortL
  rw [if_pos]
  refine ⟨?_, ?_, .inl ?_, by rw [List.length_map]; exact hl⟩
  · rw [okNs_all, List.all_map]
    exact List.all_eq_true.mpr fun b _ => okN_ints _ 49
  · rw [List.map_map]
    refine PySem.W.AllAlike.of fun b b' => ?_
    show PySem.W.alike (PyData.tuple (pys _)) (PyData.tuple (pys _)) = true
    rw [pys_ints, pys_ints]
    simp only [PySem.W.alike]
    exact PySem.W.alike_ints _ _
  · intro d hd
    obtain ⟨d1, h1, rfl⟩ := List.mem_map.mp hd
    obtain ⟨b, hb, rfl⟩ := List.mem_map.mp h1
    have := hn b hb
    cases hx : x b with
    | nil => exact absurd hx this
    | cons i r => exact ⟨.int i, pys (r.map .int), rfl⟩
theorem le_ints (a b : Int) : PySem.W.dataLe false D.py (.int a) (.int b) = decide (a ≤ b) := by
  rw [PySem.W.dataLe_eq]
  show (!PySem.W.dataLt (.int b) (.int a)) = _
  rw [PySem.W.dataLt_int]
  by_cases h : a ≤ b
  · have : ¬ b < a := by omega
    simp [h, this]
  · have : b < a := by omega
    simp [h, this]
theorem sort_ints (l : List Int) (hl : l.length ≤ lim) : sortD (.lst (l.map .int)) = some (.lst ((l.mergeSort fun p q => decide (p ≤ q)).map .int)) := by
  have e : (l.mergeSort fun p q => decide (p ≤ q)).map D.int = (l.map D.int).mergeSort (PySem.W.dataLe false D.py) :=
    List.map_mergeSort fun a _ b _ => (le_ints _ _).symm
  rw [e]
  show sortL _ = _
  unfold sortL
  rw [if_pos]
  refine ⟨okNs_ints l 50, ?_, .inr ?_, by rw [List.length_map]; exact hl⟩
  · rw [List.map_map]
    refine PySem.W.AllAlike.of fun b b' => ?_
    show PySem.W.alike (PyData.int _) (PyData.int _) = true
    simp [PySem.W.alike]
  · intro d hd
    obtain ⟨d1, h1, rfl⟩ := List.mem_map.mp hd
    obtain ⟨b, hb, rfl⟩ := List.mem_map.mp h1
    exact ⟨fun h => PyData.noConfusion h, fun xs h => PyData.noConfusion h⟩
/-- a sorted list that was so -/
theorem sort_asc (l : List Int) (h : l.Pairwise (· ≤ ·)) (hl : l.length ≤ lim) : sortD (.lst (l.map .int)) = some (.lst (l.map .int)) := by
  rw [sort_ints l hl, List.mergeSort_of_pairwise (h.imp fun h => decide_eq_true h)]
theorem sorted_tups {β : Type} (x : β → List Int) (bs : List β) : (bs.mergeSort fun p q => decide (x p ≤ x q)).Pairwise (fun p q => x p ≤ x q) := by
  refine (List.pairwise_mergeSort (le := fun p q => decide (x p ≤ x q)) ?_ ?_ bs).imp fun h => of_decide_eq_true h
  · intro a b c h1 h2
    exact decide_eq_true (List.le_trans (of_decide_eq_true h1) (of_decide_eq_true h2))
  · intro a b
    rcases List.le_total (x a) (x b) with h | h
    · simp [h]
    · simp [h]
theorem le3 {a b c x y z : Int} (h : [a, b, c] ≤ [x, y, z]) : a < x ∨ (a = x ∧ (b < y ∨ (b = y ∧ c ≤ z))) := by
  simp only [List.cons_le_cons_iff] at h
  rcases h with h | ⟨h1, h | ⟨h2, h | ⟨h3, _⟩⟩⟩
  · exact .inl h
  · exact .inr ⟨h1, .inl h⟩
  · exact .inr ⟨h1, .inr ⟨h2, by omega⟩⟩
  · exact .inr ⟨h1, .inr ⟨h2, by omega⟩⟩
theorem le2 {a b x y : Int} (h : [a, b] ≤ [x, y]) : a < x ∨ (a = x ∧ b ≤ y) := by
  simp only [List.cons_le_cons_iff] at h
  rcases h with h | ⟨h1, h | ⟨h2, _⟩⟩
  · exact .inl h
  · exact .inr ⟨h1, by omega⟩
  · exact .inr ⟨h1, by omega⟩

/-! dicts of new keys -/
theorem putV_new {ks vs : List D} {k v : D} (h : ∀ x ∈ ks, eqv x k = false) : putV ks vs k v = (ks ++ [k], vs ++ [v]) := by
  unfold putV
  rw [if_neg]
  intro z
  obtain ⟨x, h1, h2⟩ := List.any_eq_true.mp z
  rw [h x h1] at h2
  cases h2
theorem dcL_new {α : Type} {b : Bool} {oc : Option (Nat × Cell)} {t : Tg} {vs : List Nat} {tk tv : ME} {ρ : Env} {μ : Sto} (hk : keepP oc μ) (it kf vf : α → D) : ∀ (as : List α) (ks ws : List D),
    (∀ a ∈ as, isKey b (kf a) = true ∧ ∃ ρ1, bind1 t (.dat (it a)) (wipeE ρ vs) = some ρ1 ∧ tk ρ1 μ = some (.dat (kf a), μ) ∧ tv ρ1 μ = some (.dat (vf a), μ)) →
    as.Pairwise (fun a a' => eqv (kf a) (kf a') = false) → (∀ k ∈ ks, ∀ a ∈ as, eqv k (kf a) = false) → ks.length + as.length ≤ lim →
    dcL b oc t vs mYes tk tv ρ (as.map it) μ ks ws = some ((ks ++ as.map kf, ws ++ as.map vf), μ)
  | [], ks, ws, _, _, _, _ => by simp [dcL]
  | a :: as, ks, ws, h, nd, fr, hl => by
    obtain ⟨h1, ρ1, h2, h3, h4⟩ := h a List.mem_cons_self
    rw [List.pairwise_cons] at nd
    rw [List.length_cons] at hl
    have hp : putV ks ws (kf a) (vf a) = (ks ++ [kf a], ws ++ [vf a]) := putV_new fun x hx => fr x hx a List.mem_cons_self
    have k := dcL_new hk it kf vf as (ks ++ [kf a]) (ws ++ [vf a]) (fun a ha => h a (List.mem_cons_of_mem _ ha)) nd.2 (fun k hk a' ha' => by
      rcases List.mem_append.mp hk with z | z
      · exact fr k z a' (List.mem_cons_of_mem _ ha')
      · have : k = kf a := by simpa using z
        subst this
        exact nd.1 a' ha') (by rw [List.length_append, List.length_singleton]; omega)
    simp only [List.map_cons, dcL, h2, mYes, Option.bind_some, if_true, h3, h4]
    rw [if_pos ⟨hk, h1, by omega⟩, hp]
    refine k.trans ?_
    simp
theorem dc_new {α : Type} {b : Bool} {oc : Option (Nat × Cell)} {mi : MI} {t : Tg} {vs : List Nat} {tk tv : ME} {ρ : Env} {μ : Sto} (it kf vf : α → D) {as : List α} (hi : mi ρ μ = some (as.map it, oc, μ)) (hk : keepP oc μ)
    (h : ∀ a ∈ as, isKey b (kf a) = true ∧ ∃ ρ1, bind1 t (.dat (it a)) (wipeE ρ vs) = some ρ1 ∧ tk ρ1 μ = some (.dat (kf a), μ) ∧ tv ρ1 μ = some (.dat (vf a), μ))
    (nd : as.Pairwise (fun a a' => eqv (kf a) (kf a') = false)) (hl : as.length ≤ lim) : mDc b mi t vs mYes tk tv ρ μ = some (.dat (.dct b (as.map kf) (as.map vf)), μ) := by
  simp only [mDc, hi, Option.bind_some]
  rw [dcL_new hk it kf vf as [] [] h nd (fun k hk => nomatch hk) (by simpa using hl)]
  rfl
theorem look_new {α : Type} [DecidableEq α] (kf vf : α → D) (he : ∀ a a', eqv (kf a) (kf a') = decide (a = a')) : ∀ (as : List α) (x : α), look (as.map kf) (as.map vf) (kf x) = if x ∈ as then some (vf x) else none
  | [], x => rfl
  | a :: as, x => by
    simp only [List.map_cons, look, he]
    by_cases h : a = x
    · subst h; simp
    · have h' : x ≠ a := fun e => h e.symm
      simp [h, h', look_new kf vf he as x]

/-! loops and comprehensions over typed rows -/
theorem lcM {α : Type} {oc : Option (Nat × Cell)} {t : Tg} {vs : List Nat} {tt : MT} {te : ME} {ρ : Env} {μ : Sto} (it g : α → D) (p : α → Bool) (hk : keepP oc μ) : ∀ (as : List α) (n : Nat),
    (∀ a ∈ as, ∃ ρ1, bind1 t (.dat (it a)) (wipeE ρ vs) = some ρ1 ∧ tt ρ1 μ = some (p a, μ) ∧ (p a = true → te ρ1 μ = some (.dat (g a), μ))) → n + as.length ≤ lim →
    lcL oc t vs tt te ρ n (as.map it) μ = some ((as.filter p).map g, μ)
  | [], n, _, _ => rfl
  | a :: as, n, h, hn => by
    obtain ⟨ρ1, h1, h2, h3⟩ := h a List.mem_cons_self
    rw [List.length_cons] at hn
    cases hp : p a with
    | true =>
      have k := lcM it g p hk as (n + 1) (fun a ha => h a (List.mem_cons_of_mem _ ha)) (by omega)
      rw [hp] at h2
      simp only [List.map_cons, lcL, h1, h2, Option.bind_some, if_true, h3 hp]
      rw [if_pos ⟨hk, by omega⟩, k, List.filter_cons_of_pos hp]
      rfl
    | false =>
      have k := lcM it g p hk as n (fun a ha => h a (List.mem_cons_of_mem _ ha)) (by omega)
      rw [hp] at h2
      simp only [List.map_cons, lcL, h1, h2, Option.bind_some, Bool.false_eq_true, if_false]
      rw [if_pos hk, k, List.filter_cons_of_neg (by rw [hp]; exact Bool.false_ne_true)]
theorem mLcM {α : Type} {mi : MI} {oc : Option (Nat × Cell)} {t : Tg} {vs : List Nat} {tt : MT} {te : ME} {ρ : Env} {μ : Sto} (it g : α → D) (p : α → Bool) {as : List α} (hi : mi ρ μ = some (as.map it, oc, μ)) (hk : keepP oc μ)
    (h : ∀ a ∈ as, ∃ ρ1, bind1 t (.dat (it a)) (wipeE ρ vs) = some ρ1 ∧ tt ρ1 μ = some (p a, μ) ∧ (p a = true → te ρ1 μ = some (.dat (g a), μ))) (hn : as.length ≤ lim) :
    mLc mi t vs tt te ρ μ = some (.dat (.lst ((as.filter p).map g)), μ) := by
  simp only [mLc, hi, Option.bind_some]
  rw [lcM it g p hk as 0 h (by omega)]
  rfl
theorem mLcY {α : Type} {mi : MI} {oc : Option (Nat × Cell)} {t : Tg} {vs : List Nat} {te : ME} {ρ : Env} {μ : Sto} (it g : α → D) {as : List α} (hi : mi ρ μ = some (as.map it, oc, μ)) (hk : keepP oc μ)
    (h : ∀ a ∈ as, ∃ ρ1, bind1 t (.dat (it a)) (wipeE ρ vs) = some ρ1 ∧ te ρ1 μ = some (.dat (g a), μ)) (hn : as.length ≤ lim) :
    mLc mi t vs mYes te ρ μ = some (.dat (.lst (as.map g)), μ) := by
  have k := mLcM (tt := mYes) it g (fun _ => true) hi hk (fun a ha => by
    obtain ⟨ρ1, h1, h2⟩ := h a ha
    exact ⟨ρ1, h1, rfl, fun _ => h2⟩) hn
  rw [List.filter_eq_self.mpr (fun _ _ => rfl)] at k
  exact k
theorem lc2M {α : Type} {oc : Option (Nat × Cell)} {t t1 : Tg} {vs vs1 : List Nat} {tt1 : MT} {mi1 : MI} {te : ME} {ρ : Env} {μ : Sto} (B : Nat) (it : α → D) (g : α → List D) (hk : keepP oc μ) : ∀ (as : List α) (n : Nat),
    (∀ a ∈ as, ∀ n, n + (g a).length ≤ B → ∃ ρ1 items oc1, bind1 t (.dat (it a)) (wipeE ρ vs) = some ρ1 ∧ mi1 ρ1 μ = some (items, oc1, μ) ∧ lcL oc1 t1 vs1 tt1 te ρ1 n items μ = some (g a, μ)) → n + (as.flatMap g).length ≤ B →
    lc2L oc t vs mYes mi1 t1 vs1 tt1 te ρ n (as.map it) μ = some (as.flatMap g, μ)
  | [], n, _, _ => rfl
  | a :: as, n, h, hn => by
    rw [List.flatMap_cons, List.length_append] at hn
    obtain ⟨ρ1, items, oc1, h1, h2, h3⟩ := h a List.mem_cons_self n (by omega)
    simp only [List.map_cons, lc2L, h1, mYes, Option.bind_some, if_true, h2, h3, if_pos hk]
    rw [lc2M B it g hk as (n + (g a).length) (fun a ha => h a (List.mem_cons_of_mem _ ha)) (by omega)]
    rfl
/-- a loop, by what is so of the rows that are done -/
theorem for_pre0 {α : Type} {oc : Option (Nat × Cell)} {t : Tg} {b : MS} (it : α → D) (Pv : List α → Env → Sto → Prop) (hk : ∀ pre ρ μ, Pv pre ρ μ → keepP oc μ) (as : List α)
    (step : ∀ pre a post, as = pre ++ a :: post → ∀ ρ μ, Pv pre ρ μ → ∃ ρ1 o ρ' μ', bind1 t (.dat (it a)) ρ = some ρ1 ∧ b ρ1 μ = some (o, ρ', μ') ∧ (o = .nx ∨ o = .ct) ∧ Pv (pre ++ [a]) ρ' μ') :
    ∀ (rest done : List α) (ρ : Env) (μ : Sto), as = done ++ rest → Pv done ρ μ → ∃ ρ' μ', forL oc t b (rest.map it) ρ μ = some (.nx, ρ', μ') ∧ Pv as ρ' μ'
  | [], done, ρ, μ, e, h => ⟨ρ, μ, rfl, by rw [e, List.append_nil]; exact h⟩
  | a :: rest, done, ρ, μ, e, h => by
    obtain ⟨ρ1, o, ρ', μ', h1, h2, h3, h4⟩ := step done a rest e ρ μ h
    obtain ⟨ρ2, μ2, k1, k2⟩ := for_pre0 it Pv hk as step rest (done ++ [a]) ρ' μ' (by rw [e]; simp) h4
    refine ⟨ρ2, μ2, ?_, k2⟩
    simp only [List.map_cons, forL, h1, h2, Option.bind_some]
    rcases h3 with h3 | h3
    all_goals
      subst h3
      simp only [if_pos (hk _ _ _ h4), k1]
theorem for_pre {α : Type} {oc : Option (Nat × Cell)} {mi : MI} {t : Tg} {b : MS} (it : α → D) (Pv : List α → Env → Sto → Prop) {as : List α} {ρ : Env} {μ μ1 : Sto} (hi : mi ρ μ = some (as.map it, oc, μ1)) (hk : ∀ pre ρ μ, Pv pre ρ μ → keepP oc μ) (h0 : Pv [] ρ μ1)
    (step : ∀ pre a post, as = pre ++ a :: post → ∀ ρ μ, Pv pre ρ μ → ∃ ρ1 o ρ' μ', bind1 t (.dat (it a)) ρ = some ρ1 ∧ b ρ1 μ = some (o, ρ', μ') ∧ (o = .nx ∨ o = .ct) ∧ Pv (pre ++ [a]) ρ' μ') :
    ∃ ρ' μ', sFor mi t b ρ μ = some (.nx, ρ', μ') ∧ Pv as ρ' μ' := by
  obtain ⟨ρ', μ', k1, k2⟩ := for_pre0 (oc := oc) it Pv hk as step as [] ρ μ1 rfl h0
  refine ⟨ρ', μ', ?_, k2⟩
  unfold sFor
  rw [hi]
  exact k1
theorem range1_map {am : MA} {ρ : Env} {μ : Sto} {n : Nat} (h : am ρ μ = some ([.dat (.int (n : Int))], μ)) (hn : n ≤ 100000) : iRange1 am ρ μ = some ((List.range n).map (fun (i : Nat) => D.int (i : Int)), none, μ) := by
  have hr := range1_of h (by omega) (by omega)
  rw [Int.toNat_natCast] at hr
  rw [hr]
  unfold rangeD
  congr 2
  exact List.map_congr_left fun i _ => by rw [Int.zero_add]
theorem range2_of {am : MA} {ρ : Env} {μ μ1 : Sto} {i j : Int} (h : am ρ μ = some ([.dat (.int i), .dat (.int j)], μ1)) (h1 : -4611686018427387904 ≤ i) (h2 : i < 4611686018427387904) (h3 : -4611686018427387904 ≤ j) (h4 : j < 4611686018427387904) : iRange2 am ρ μ = some (rangeD i (j - i).toNat, none, μ1) := by
  simp only [iRange2, h, Option.bind_some]
  rw [p62, if_pos ⟨h1, h2, h3, h4⟩]
theorem range2_map {am : MA} {ρ : Env} {μ : Sto} {i n : Nat} (h : am ρ μ = some ([.dat (.int (i : Int)), .dat (.int (n : Int))], μ)) (hi : i ≤ 100000) (hn : n ≤ 100000) : iRange2 am ρ μ = some ((List.range (n - i)).map (fun (j : Nat) => D.int ((i + j : Nat) : Int)), none, μ) := by
  rw [range2_of h (by omega) (by omega) (by omega) (by omega)]
  have e : rangeD (i : Int) ((n : Int) - (i : Int)).toNat = (List.range (n - i)).map (fun (j : Nat) => D.int ((i + j : Nat) : Int)) := by
    rw [show ((n : Int) - (i : Int)).toNat = n - i by omega]
    unfold rangeD
    exact List.map_congr_left fun j _ => by rw [Int.natCast_add]
  rw [e]

/-- a loop that may leave with one value -/
theorem for_all {α : Type} {oc : Option (Nat × Cell)} {t : Tg} {b : MS} {μ : Sto} (it : α → D) (p : α → Bool) (v : PV) (Pv : Env → Prop) (hk : keepP oc μ) : ∀ (as : List α),
    (∀ a ∈ as, ∀ ρ, Pv ρ → ∃ ρ1 ρ', bind1 t (.dat (it a)) ρ = some ρ1 ∧ b ρ1 μ = some (if p a = true then .nx else .rt v, ρ', μ) ∧ Pv ρ') → ∀ ρ, Pv ρ →
    ∃ ρ', forL oc t b (as.map it) ρ μ = some (if as.all p = true then .nx else .rt v, ρ', μ) ∧ Pv ρ'
  | [], _, ρ, h => ⟨ρ, rfl, h⟩
  | a :: as, h, ρ, hp => by
    obtain ⟨ρ1, ρ', h1, h2, h3⟩ := h a List.mem_cons_self ρ hp
    cases hpa : p a with
    | true =>
      rw [hpa, if_pos rfl] at h2
      obtain ⟨ρ2, k1, k2⟩ := for_all it p v Pv hk as (fun a ha => h a (List.mem_cons_of_mem _ ha)) ρ' h3
      refine ⟨ρ2, ?_, k2⟩
      rw [List.map_cons, List.all_cons, hpa, Bool.true_and, forL_nx h1 h2 hk]
      exact k1
    | false =>
      rw [hpa, if_neg Bool.false_ne_true] at h2
      refine ⟨ρ', ?_, h3⟩
      rw [List.map_cons, List.all_cons, hpa, Bool.false_and, forL_rt h1 h2, if_neg Bool.false_ne_true]
theorem sfor_all {α : Type} {oc : Option (Nat × Cell)} {mi : MI} {t : Tg} {b : MS} {μ : Sto} {ρ : Env} (it : α → D) (p : α → Bool) (v : PV) (Pv : Env → Prop) {as : List α} (hi : mi ρ μ = some (as.map it, oc, μ)) (hk : keepP oc μ)
    (h : ∀ a ∈ as, ∀ ρ, Pv ρ → ∃ ρ1 ρ', bind1 t (.dat (it a)) ρ = some ρ1 ∧ b ρ1 μ = some (if p a = true then .nx else .rt v, ρ', μ) ∧ Pv ρ') (h0 : Pv ρ) :
    ∃ ρ', sFor mi t b ρ μ = some (if as.all p = true then .nx else .rt v, ρ', μ) ∧ Pv ρ' := by
  obtain ⟨ρ', k1, k2⟩ := for_all (oc := oc) (t := t) (b := b) it p v Pv hk as h ρ h0
  refine ⟨ρ', ?_, k2⟩
  unfold sFor
  rw [hi]
  exact k1
theorem allM {α : Type} {mi : MI} {oc : Option (Nat × Cell)} {t : Tg} {vs : List Nat} {te : ME} {ρ : Env} {μ : Sto} (it : α → D) (p : α → Bool) {as : List α} (hi : mi ρ μ = some (as.map it, oc, μ)) (hk : keepP oc μ)
    (h : ∀ a ∈ as, ∃ ρ1, bind1 t (.dat (it a)) (wipeE ρ vs) = some ρ1 ∧ te ρ1 μ = some (.dat (.bl (p a)), μ)) (hn : as.length ≤ lim) :
    mCB (f1 allD) (aCons (mLc mi t vs mYes te) aNil) ρ μ = some (.dat (.bl (as.all p)), μ) := by
  refine cb_of' (acons (mLcY it (fun a => .bl (p a)) hi hk h hn) rfl) rfl ?_
  show allD (.lst (as.map fun a => D.bl (p a))) = _
  have e : as.map (fun a => D.bl (p a)) = (as.map p).map D.bl := by rw [List.map_map]; rfl
  rw [e]
  show ((bL ((as.map p).map D.bl)).map fun ns => D.bl (ns.all id)) = _
  rw [bL_bls, Option.map_some, List.all_map]
  rfl
theorem get1_of {a b : ME} {ρ : Env} {μ : Sto} {x y : PV} {c k z : D} (h1 : a ρ μ = some (x, μ)) (h2 : deref μ x = some c) (h3 : isDct c = true) (h4 : b ρ μ = some (y, μ)) (h5 : derefT μ y = some k) (h6 : getDD .non c k = some z) : mGet1 a b ρ μ = some (.dat z, μ) := by
  simp only [mGet1, h1, h2, Option.bind_some, if_pos h3, h4, h5, h6, Option.map_some]
theorem get2_of {a b w : ME} {ρ : Env} {μ : Sto} {x y : PV} {c k z dz : D} (h1 : a ρ μ = some (x, μ)) (h2 : deref μ x = some c) (h3 : isDct c = true) (h4 : b ρ μ = some (y, μ)) (hw : w ρ μ = some (.dat dz, μ)) (h5 : derefT μ y = some k) (h6 : getDD dz c k = some z) : mGet2 a b w ρ μ = some (.dat z, μ) := by
  simp only [mGet2, h1, h2, Option.bind_some, if_pos h3, h4, hw, h5, h6, Option.map_some]
theorem enum_ints (row : List Nat) : enumF 0 (row.map fun (i : Nat) => D.int (i : Int)) = (List.range row.length).map fun (i : Nat) => .tup [.int (i : Int), .int ((row.getD i 0 : Nat) : Int)] := by
  rw [enumF_map]
  refine List.ext_getElem (by simp) fun i h1 h2 => ?_
  have hi : i < row.length := by simpa using h1
  simp [List.getElem_zipIdx, List.getD, List.getElem?_eq_getElem hi]
theorem ext_of {a : ME} {am : MA} {ρ : Env} {μ μ1 μ2 : Sto} {i : Nat} {ys ys0 zs : List D} (h : a ρ μ = some (.cell i, μ1)) (h0 : μ1[i]? = some (.flat (.lst ys0))) (h2 : am ρ μ1 = some ([.dat (.lst zs)], μ2)) (h3 : μ2[i]? = some (.flat (.lst ys))) (hl : ys.length + zs.length ≤ lim) :
    mMut extD a am ρ μ = some (.dat .non, μ2.set i (.flat (.lst (ys ++ zs)))) := by
  simp only [mMut, h, dcellT h0, isLst, if_true, h2, dcellT h3, dats, extD, if_pos hl, Option.bind_some, Option.map_some]

/-- comprehensions whose parts change the store -/
theorem lcI {α : Type} {oc : Option (Nat × Cell)} {t : Tg} {vs : List Nat} {tt : MT} {te : ME} {ρ : Env} (it g : α → D) (Iv : Sto → Prop) (hk : ∀ μ, Iv μ → keepP oc μ) : ∀ (as : List α) (n : Nat) (μ : Sto), Iv μ →
    (∀ a ∈ as, ∀ μ, Iv μ → ∃ (ρ1 : Env) (p : Bool) (μ1 : Sto), bind1 t (.dat (it a)) (wipeE ρ vs) = some ρ1 ∧ tt ρ1 μ = some (p, μ1) ∧ Iv μ1 ∧ (p = true → te ρ1 μ1 = some (.dat (g a), μ1))) → n + as.length ≤ lim →
    ∃ (bs : List α) (μ' : Sto), lcL oc t vs tt te ρ n (as.map it) μ = some (bs.map g, μ') ∧ Iv μ' ∧ bs.Sublist as
  | [], n, μ, hi, _, _ => ⟨[], μ, rfl, hi, .slnil⟩
  | a :: as, n, μ, hi, h, hn => by
    rw [List.length_cons] at hn
    obtain ⟨ρ1, p, μ1, h1, h2, h3, h4⟩ := h a List.mem_cons_self μ hi
    cases p with
    | true =>
      obtain ⟨bs, μ', k1, k2, k3⟩ := lcI it g Iv hk as (n + 1) μ1 h3 (fun a ha => h a (List.mem_cons_of_mem _ ha)) (by omega)
      refine ⟨a :: bs, μ', ?_, k2, .cons_cons a k3⟩
      simp only [List.map_cons, lcL, h1, h2, Option.bind_some, if_true, h4 rfl]
      rw [if_pos ⟨hk _ h3, by omega⟩, k1]
      rfl
    | false =>
      obtain ⟨bs, μ', k1, k2, k3⟩ := lcI it g Iv hk as n μ1 h3 (fun a ha => h a (List.mem_cons_of_mem _ ha)) (by omega)
      refine ⟨bs, μ', ?_, k2, .cons a k3⟩
      simp only [List.map_cons, lcL, h1, h2, Option.bind_some, Bool.false_eq_true, if_false]
      rw [if_pos (hk _ h3), k1]
theorem lcR {α β : Type} {oc : Option (Nat × Cell)} {t : Tg} {vs : List Nat} {te : ME} {ρ : Env} (it : α → D) (g : β → D) (Iv : Sto → Prop) (hk : ∀ μ, Iv μ → keepP oc μ) : ∀ (as : List α) (n : Nat) (μ : Sto), Iv μ →
    (∀ a ∈ as, ∀ μ, Iv μ → ∃ (ρ1 : Env) (b : β) (μ1 : Sto), bind1 t (.dat (it a)) (wipeE ρ vs) = some ρ1 ∧ te ρ1 μ = some (.dat (g b), μ1) ∧ Iv μ1) → n + as.length ≤ lim →
    ∃ (bs : List β) (μ' : Sto), lcL oc t vs mYes te ρ n (as.map it) μ = some (bs.map g, μ') ∧ Iv μ' ∧ bs.length = as.length
  | [], n, μ, hi, _, _ => ⟨[], μ, rfl, hi, rfl⟩
  | a :: as, n, μ, hi, h, hn => by
    rw [List.length_cons] at hn
    obtain ⟨ρ1, b, μ1, h1, h2, h3⟩ := h a List.mem_cons_self μ hi
    obtain ⟨bs, μ', k1, k2, k3⟩ := lcR it g Iv hk as (n + 1) μ1 h3 (fun a ha => h a (List.mem_cons_of_mem _ ha)) (by omega)
    refine ⟨b :: bs, μ', ?_, k2, by simp [k3]⟩
    simp only [List.map_cons, lcL, h1, mYes, h2, Option.bind_some, if_true]
    rw [if_pos ⟨hk _ h3, by omega⟩, k1]
    rfl
theorem mLcI {α : Type} {mi : MI} {oc : Option (Nat × Cell)} {t : Tg} {vs : List Nat} {tt : MT} {te : ME} {ρ : Env} {μ μ0 : Sto} (it g : α → D) (Iv : Sto → Prop) {as : List α} (hi : mi ρ μ = some (as.map it, oc, μ0)) (hk : ∀ μ, Iv μ → keepP oc μ) (h0 : Iv μ0)
    (h : ∀ a ∈ as, ∀ μ, Iv μ → ∃ (ρ1 : Env) (p : Bool) (μ1 : Sto), bind1 t (.dat (it a)) (wipeE ρ vs) = some ρ1 ∧ tt ρ1 μ = some (p, μ1) ∧ Iv μ1 ∧ (p = true → te ρ1 μ1 = some (.dat (g a), μ1))) (hn : as.length ≤ lim) :
    ∃ (bs : List α) (μ' : Sto), mLc mi t vs tt te ρ μ = some (.dat (.lst (bs.map g)), μ') ∧ Iv μ' ∧ bs.Sublist as := by
  obtain ⟨bs, μ', k1, k2, k3⟩ := lcI (oc := oc) it g Iv hk as 0 μ0 h0 h (by omega)
  refine ⟨bs, μ', ?_, k2, k3⟩
  simp only [mLc, hi, Option.bind_some, k1]
  rfl
theorem mLcR {α β : Type} {mi : MI} {oc : Option (Nat × Cell)} {t : Tg} {vs : List Nat} {te : ME} {ρ : Env} {μ μ0 : Sto} (it : α → D) (g : β → D) (Iv : Sto → Prop) {as : List α} (hi : mi ρ μ = some (as.map it, oc, μ0)) (hk : ∀ μ, Iv μ → keepP oc μ) (h0 : Iv μ0)
    (h : ∀ a ∈ as, ∀ μ, Iv μ → ∃ (ρ1 : Env) (b : β) (μ1 : Sto), bind1 t (.dat (it a)) (wipeE ρ vs) = some ρ1 ∧ te ρ1 μ = some (.dat (g b), μ1) ∧ Iv μ1) (hn : as.length ≤ lim) :
    ∃ (bs : List β) (μ' : Sto), mLc mi t vs mYes te ρ μ = some (.dat (.lst (bs.map g)), μ') ∧ Iv μ' ∧ bs.length = as.length := by
  obtain ⟨bs, μ', k1, k2, k3⟩ := lcR (oc := oc) it g Iv hk as 0 μ0 h0 h (by omega)
  refine ⟨bs, μ', ?_, k2, k3⟩
  simp only [mLc, hi, Option.bind_some, k1]
  rfl
end PL

namespace LK13
open PySem PySem.Spec PyProof.Rows L2 PL
def topS (i : Nat) : Stmt := PySem.Challenge.pw_laidlaths_k13_whole_finds_beside_all_cho.main.body.getD i (.Pass ⟨0, 0, 0, 0⟩)
def D_TOLD : D := .tup [.str "bar", .str "post"]
variable {a_TOLD : Addr}
structure Txt0 (K : PySem.W.Frag) (mg : Str → Option Value) (a_TOLD : Addr) : Prop where
  b_abs : mg "abs" = none
  b_all : mg "all" = none
  b_bool : mg "bool" = none
  b_dict : mg "dict" = none
  b_divmod : mg "divmod" = none
  b_enumerate : mg "enumerate" = none
  b_int : mg "int" = none
  b_isinstance : mg "isinstance" = none
  b_len : mg "len" = none
  b_list : mg "list" = none
  b_max : mg "max" = none
  b_min : mg "min" = none
  b_range : mg "range" = none
  b_sorted : mg "sorted" = none
  b_str : mg "str" = none
  b_sum : mg "sum" = none
  b_tuple : mg "tuple" = none
  b_zip : mg "zip" = none
  c_MOST_OF_KIND : ∃ t, mg "MOST_OF_KIND" = some (.int 8 t)
  c_MOST_PLACE : ∃ t, mg "MOST_PLACE" = some (.int 30 t)
  c_TOLD : mg "TOLD" = some (.ref a_TOLD)
  r_TOLD : ∀ F, RepC ⟨K, mg⟩ F (.ref a_TOLD) D_TOLD
section
variable {P : Program} {w : World} {K : PySem.W.Frag} {mg : Str → Option Value} {base : Heap}
/-! _law_take -/
abbrev s__law_take : Stmt := topS 44
theorem sc__law_take : FnScope ["well", "many", "by", "figure"] ["well", "many"] (defScope s__law_take) := ⟨rfl, rfl, rfl, by decide +kernel, rfl, by decide +kernel, by decide +kernel⟩
noncomputable def M__law_take : MS := (sSeq (sIf (mTest (mOp gtD (mOpHT ixD (mVar 0) (mC (.int 0))) (mC (.int 0)))) (sSeq (sAsgS (mCB (f2 divmodD) (aCons (mOpHT ixD (mVar 0) (mC (.int 0))) (aCons (mVar 1) aNil))) (.tp [(.sub (mVar 0) (mC (.int 0))), (.nm 3)])) (sRet (mVar 3))) sNx) (sSeq (sAsgS (mOpT addD (mOpHT ixD (mVar 0) (mC (.int 2))) (mC (.int 1))) (.sub (mVar 0) (mC (.int 2)))) (sSeq (sAsg (mOpT addD (mOp modD (mCB (f1 intD) (aCons (mOpHT ixD (mVar 0) (mC (.int 1))) aNil)) (mC (.int 28657))) (mC (.int 40009))) (.nm 2)) (sSeq (sAsgS (mOp modD (mCB (f1 intD) (aCons (mOpT addD (mOpT addD (mOp mulID (mOpHT ixD (mVar 0) (mC (.int 1))) (mVar 2)) (mOp mulID (mC (.int 50023)) (mOpHT ixD (mVar 0) (mC (.int 2))))) (mC (.int 17))) aNil)) (mC (.int 2147483563))) (.sub (mVar 0) (mC (.int 1)))) (sRet (mOp modD (mCB (f1 intD) (aCons (mOp divD (mOpHT ixD (mVar 0) (mC (.int 1))) (mC (.int 83))) aNil)) (mVar 1)))))))
noncomputable def F__law_take : Fn := fnOf 4 2 M__law_take
theorem ok__law_take {f : Addr} {fd : FuncData} (T : Txt0 K mg a_TOLD) (A : At K mg "_law_take" "_law_take" s__law_take ["well", "many"] f fd) : Df P w K mg base "_law_take" ["well", "many"] f fd 1 F__law_take := df_mk (k := 0) A sc__law_take fun cdv A1 outer s H E hr => by
  have S := sc__law_take
  have hu := hu65 hr
  exact (bx_cons (sx_if (tx_gt hu (ex_ix hu (ex_var 0) ex_int) ex_int) (bx_cons (sx_asgS (ex_divmod (by rfl) T.b_divmod (ax_cons (ex_ix hu (ex_var 0) ex_int) (ax_cons (ex_var 1) ax_nil))) (hx_tp rfl (hx_cons (hx_sub hu (ex_var 0) ex_int) (hx_cons (hx_nm 3 S.nd rfl (by first | exact Or.inl rfl | exact Or.inr rfl)) hx_nil)))) (bx_one (sx_ret (ex_var 3)))) bx_nil) (bx_cons (sx_asgS (ex_add (ex_ix hu (ex_var 0) ex_int) ex_int) (hx_sub hu (ex_var 0) ex_int)) (bx_cons (sx_asg (ex_add (ex_mod (ex_int1 (by rfl) T.b_int (ax_cons (ex_ix hu (ex_var 0) ex_int) ax_nil)) ex_int) ex_int) (gx_nm 2 S.nd rfl (by first | exact Or.inl rfl | exact Or.inr rfl))) (bx_cons (sx_asgS (ex_mod (ex_int1 (by rfl) T.b_int (ax_cons (ex_add (ex_add (ex_mul (ex_ix hu (ex_var 0) ex_int) (ex_var 2)) (ex_mul ex_int (ex_ix hu (ex_var 0) ex_int))) ex_int) ax_nil)) ex_int) (hx_sub hu (ex_var 0) ex_int)) (bx_one (sx_ret (ex_mod (ex_int1 (by rfl) T.b_int (ax_cons (ex_div (ex_ix hu (ex_var 0) ex_int) ex_int) ax_nil)) (ex_var 1))))))))
/-! _law_go_beside -/
abbrev s__law_go_beside : Stmt := topS 48
theorem sc__law_go_beside : FnScope ["one", "other"] ["one", "other"] (defScope s__law_go_beside) := ⟨rfl, rfl, rfl, by decide +kernel, rfl, by decide +kernel, by decide +kernel⟩
noncomputable def M__law_go_beside : MS := (sRet (mOr (mOp neD (mOpHT ixD (mVar 0) (mC (.int 0))) (mOpHT ixD (mVar 1) (mC (.int 0)))) (mOr (mOp ltD (mOpT addD (mOpHT ixD (mVar 0) (mC (.int 2))) (mC (.int 1))) (mOpHT ixD (mVar 1) (mC (.int 1)))) (mOp ltD (mOpT addD (mOpHT ixD (mVar 1) (mC (.int 2))) (mC (.int 1))) (mOpHT ixD (mVar 0) (mC (.int 1)))))))
noncomputable def F__law_go_beside : Fn := fnOf 2 2 M__law_go_beside
theorem ok__law_go_beside {f : Addr} {fd : FuncData} (T : Txt0 K mg a_TOLD) (A : At K mg "_law_go_beside" "_law_go_beside" s__law_go_beside ["one", "other"] f fd) : Df P w K mg base "_law_go_beside" ["one", "other"] f fd 1 F__law_go_beside := df_mk (k := 0) A sc__law_go_beside fun cdv A1 outer s H E hr => by
  have S := sc__law_go_beside
  have hu := hu65 hr
  exact (bx_one (sx_ret (ex_or (ex_ne hu (ex_ix hu (ex_var 0) ex_int) (ex_ix hu (ex_var 1) ex_int)) (ex_or (ex_lt hu (ex_add (ex_ix hu (ex_var 0) ex_int) ex_int) (ex_ix hu (ex_var 1) ex_int)) (ex_one (ex_lt hu (ex_add (ex_ix hu (ex_var 1) ex_int) ex_int) (ex_ix hu (ex_var 0) ex_int)))))))
/-! _law_drawn_laths -/
abbrev s__law_drawn_laths : Stmt := topS 51
theorem sc__law_drawn_laths : FnScope ["well", "many", "wide", "high", "found", "turn", "one", "other", "each", "row"] ["well", "many", "wide", "high"] (defScope s__law_drawn_laths) := ⟨rfl, rfl, rfl, by decide +kernel, rfl, by decide +kernel, by decide +kernel⟩
noncomputable def M__law_drawn_laths : MS := (sSeq (sAsg (mLstC aNil) (.nm 4)) (sSeq (sFor (iRange1 (aCons (mVar 1) aNil)) (.nm 5) (sSeq (sPar (aCons (mCall F__law_take (aCons (mVar 0) (aCons (mOpT addD (mVar 2) (mC (.int 1))) aNil))) (aCons (mCall F__law_take (aCons (mVar 0) (aCons (mOpT addD (mVar 2) (mC (.int 1))) aNil))) aNil)) [(.nm 6), (.nm 7)]) (sSeq (sAsg (mTup (aCons (mCall F__law_take (aCons (mVar 0) (aCons (mOpT addD (mVar 3) (mC (.int 1))) aNil))) (aCons (mCB (f2 min2D) (aCons (mVar 6) (aCons (mVar 7) aNil))) (aCons (mCB (f2 max2D) (aCons (mVar 6) (aCons (mVar 7) aNil))) aNil)))) (.nm 8)) (sSeq (sIf (mTest (mOp eqD (mCall F__law_take (aCons (mVar 0) (aCons (mC (.int 3)) aNil))) (mC (.int 0)))) (sAsg (mTup (aCons (mOpHT ixD (mVar 8) (mC (.int 0))) (aCons (mC (.int 0)) (aCons (mVar 2) aNil)))) (.nm 8)) sNx) (sIf (mTest (mOp eqD (mLc (iSeq (mVar 4)) (.nm 9) [9] (tmNot (mTest (mCall F__law_go_beside (aCons (mVar 9) (aCons (mVar 8) aNil))))) (mVar 9)) (mLst aNil))) (sEx (mMut appD (mVar 4) (aCons (mVar 8) aNil))) sNx))))) (sRet (mCP tupP (aCons (mCB (f1 sortD) (aCons (mVar 4) aNil)) aNil)))))
noncomputable def F__law_drawn_laths : Fn := fnOf 10 4 M__law_drawn_laths
theorem ok__law_drawn_laths {f f__law_go_beside f__law_take : Addr} {fd fd__law_go_beside fd__law_take : FuncData} (T : Txt0 K mg a_TOLD) (A : At K mg "_law_drawn_laths" "_law_drawn_laths" s__law_drawn_laths ["well", "many", "wide", "high"] f fd) (G__law_go_beside : Df P w K mg base "_law_go_beside" ["one", "other"] f__law_go_beside fd__law_go_beside 1 F__law_go_beside) (G__law_take : Df P w K mg base "_law_take" ["well", "many"] f__law_take fd__law_take 1 F__law_take) : Df P w K mg base "_law_drawn_laths" ["well", "many", "wide", "high"] f fd 2 F__law_drawn_laths := df_mk (k := 1) A sc__law_drawn_laths fun cdv A1 outer s H E hr => by
  have S := sc__law_drawn_laths
  have hu := hu65 hr
  exact (bx_cons (sx_asg (ex_lstC ax_nil) (gx_nm 4 S.nd rfl (by first | exact Or.inl rfl | exact Or.inr rfl))) (bx_cons (sx_for rfl (ix_range1 (by rfl) T.b_range (ax_cons (ex_var 1) ax_nil)) (gx_nm 5 S.nd rfl (by first | exact Or.inl rfl | exact Or.inr rfl)) (bx_cons (sx_par2 rfl S.nd rfl rfl (by decide) rfl rfl (ax_cons (ex_callD G__law_take (hr.mono (by decide)) (by rfl) (ax_cons (ex_var 0) (ax_cons (ex_add (ex_var 2) ex_int) ax_nil))) (ax_cons (ex_callD G__law_take (hr.mono (by decide)) (by rfl) (ax_cons (ex_var 0) (ax_cons (ex_add (ex_var 2) ex_int) ax_nil))) ax_nil)) rfl) (bx_cons (sx_asg (ex_tup (ax_cons (ex_callD G__law_take (hr.mono (by decide)) (by rfl) (ax_cons (ex_var 0) (ax_cons (ex_add (ex_var 3) ex_int) ax_nil))) (ax_cons (ex_min2 rfl (by rfl) T.b_min (ax_cons (ex_var 6) (ax_cons (ex_var 7) ax_nil))) (ax_cons (ex_max2 rfl (by rfl) T.b_max (ax_cons (ex_var 6) (ax_cons (ex_var 7) ax_nil))) ax_nil)))) (gx_nm 8 S.nd rfl (by first | exact Or.inl rfl | exact Or.inr rfl))) (bx_cons (sx_if (tx_eq hu (ex_callD G__law_take (hr.mono (by decide)) (by rfl) (ax_cons (ex_var 0) (ax_cons ex_int ax_nil))) ex_int) (bx_one (sx_asg (ex_tup (ax_cons (ex_ix hu (ex_var 8) ex_int) (ax_cons ex_int (ax_cons (ex_var 2) ax_nil)))) (gx_nm 8 S.nd rfl (by first | exact Or.inl rfl | exact Or.inr rfl)))) bx_nil) (bx_one (sx_if (tx_eq hu (ex_lc (own := [("row", 9)]) rfl S.nd (ix_seq' (ex_var 4)) (blkOk_by (by kernel_rfl)) (fun _ _ _ _ _ => (gx_nm 9 S.nd rfl (by first | exact Or.inl rfl | exact Or.inr rfl))) (fun _ _ _ _ _ => (qx_one (tx_not (tx_val (ex_callD G__law_go_beside (hr.mono (by decide)) (by rfl) (ax_cons (ex_var 9) (ax_cons (ex_var 8) ax_nil))))))) (fun _ _ _ _ _ => (ex_var 9)) (fun _ => rfl) (by decide)) (ex_lst ax_nil)) (bx_one (sx_expr (ex_append (ex_var 4) (ax_cons (ex_var 8) ax_nil)))) bx_nil)))))) (bx_one (sx_ret (ex_tuple (by rfl) T.b_tuple (ax_cons (ex_sorted hu (by rfl) T.b_sorted (ax_cons (ex_var 4) ax_nil)) ax_nil))))))
/-! _law_pick -/
abbrev s__law_pick : Stmt := topS 45
theorem sc__law_pick : FnScope ["well", "some"] ["well", "some"] (defScope s__law_pick) := ⟨rfl, rfl, rfl, by decide +kernel, rfl, by decide +kernel, by decide +kernel⟩
noncomputable def M__law_pick : MS := (sRet (mOpHT ixD (mVar 1) (mCall F__law_take (aCons (mVar 0) (aCons (mCB (f1 lenD) (aCons (mVar 1) aNil)) aNil)))))
noncomputable def F__law_pick : Fn := fnOf 2 2 M__law_pick
theorem ok__law_pick {f f__law_take : Addr} {fd fd__law_take : FuncData} (T : Txt0 K mg a_TOLD) (A : At K mg "_law_pick" "_law_pick" s__law_pick ["well", "some"] f fd) (G__law_take : Df P w K mg base "_law_take" ["well", "many"] f__law_take fd__law_take 1 F__law_take) : Df P w K mg base "_law_pick" ["well", "some"] f fd 2 F__law_pick := df_mk (k := 1) A sc__law_pick fun cdv A1 outer s H E hr => by
  have S := sc__law_pick
  have hu := hu65 hr
  exact (bx_one (sx_ret (ex_ix hu (ex_var 1) (ex_callD G__law_take (hr.mono (by decide)) (by rfl) (ax_cons (ex_var 0) (ax_cons (ex_len (by rfl) T.b_len (ax_cons (ex_var 1) ax_nil)) ax_nil))))))
/-! _law_drawn_frame -/
abbrev s__law_drawn_frame : Stmt := topS 52
theorem sc__law_drawn_frame : FnScope ["well", "most", "wide", "high", "bars", "posts"] ["well", "most"] (defScope s__law_drawn_frame) := ⟨rfl, rfl, rfl, by decide +kernel, rfl, by decide +kernel, by decide +kernel⟩
noncomputable def M__law_drawn_frame : MS := (sSeq (sPar (aCons (mCall F__law_pick (aCons (mVar 0) (aCons (mLst (aCons (mC (.int 2)) (aCons (mC (.int 4)) (aCons (mC (.int 6)) (aCons (mC (.int 9)) (aCons (mC (.int 30)) aNil)))))) aNil))) (aCons (mCall F__law_pick (aCons (mVar 0) (aCons (mLst (aCons (mC (.int 2)) (aCons (mC (.int 4)) (aCons (mC (.int 6)) (aCons (mC (.int 9)) (aCons (mC (.int 30)) aNil)))))) aNil))) aNil)) [(.nm 2), (.nm 3)]) (sSeq (sAsg (mCall F__law_drawn_laths (aCons (mVar 0) (aCons (mCall F__law_take (aCons (mVar 0) (aCons (mOpT addD (mVar 1) (mC (.int 1))) aNil))) (aCons (mVar 2) (aCons (mVar 3) aNil))))) (.nm 4)) (sSeq (sAsg (mCall F__law_drawn_laths (aCons (mVar 0) (aCons (mCall F__law_take (aCons (mVar 0) (aCons (mOpT addD (mVar 1) (mC (.int 1))) aNil))) (aCons (mVar 3) (aCons (mVar 2) aNil))))) (.nm 5)) (sRet (mIf (tmOr (mTest (mOp neD (mVar 4) (mTup aNil))) (mTest (mOp neD (mVar 5) (mTup aNil)))) (mTup (aCons (mVar 4) (aCons (mVar 5) aNil))) (mTup (aCons (mTup (aCons (mTup (aCons (mCall F__law_take (aCons (mVar 0) (aCons (mC (.int 31)) aNil))) (aCons (mC (.int 0)) (aCons (mC (.int 30)) aNil)))) aNil)) (aCons (mTup aNil) aNil))))))))
noncomputable def F__law_drawn_frame : Fn := fnOf 6 2 M__law_drawn_frame
theorem ok__law_drawn_frame {f f__law_drawn_laths f__law_pick f__law_take : Addr} {fd fd__law_drawn_laths fd__law_pick fd__law_take : FuncData} (T : Txt0 K mg a_TOLD) (A : At K mg "_law_drawn_frame" "_law_drawn_frame" s__law_drawn_frame ["well", "most"] f fd) (G__law_drawn_laths : Df P w K mg base "_law_drawn_laths" ["well", "many", "wide", "high"] f__law_drawn_laths fd__law_drawn_laths 2 F__law_drawn_laths) (G__law_pick : Df P w K mg base "_law_pick" ["well", "some"] f__law_pick fd__law_pick 2 F__law_pick) (G__law_take : Df P w K mg base "_law_take" ["well", "many"] f__law_take fd__law_take 1 F__law_take) : Df P w K mg base "_law_drawn_frame" ["well", "most"] f fd 3 F__law_drawn_frame := df_mk (k := 2) A sc__law_drawn_frame fun cdv A1 outer s H E hr => by
  have S := sc__law_drawn_frame
  have hu := hu65 hr
  exact (bx_cons (sx_par2 rfl S.nd rfl rfl (by decide) rfl rfl (ax_cons (ex_callD G__law_pick (hr.mono (by decide)) (by rfl) (ax_cons (ex_var 0) (ax_cons (ex_lst (ax_cons ex_int (ax_cons ex_int (ax_cons ex_int (ax_cons ex_int (ax_cons ex_int ax_nil)))))) ax_nil))) (ax_cons (ex_callD G__law_pick (hr.mono (by decide)) (by rfl) (ax_cons (ex_var 0) (ax_cons (ex_lst (ax_cons ex_int (ax_cons ex_int (ax_cons ex_int (ax_cons ex_int (ax_cons ex_int ax_nil)))))) ax_nil))) ax_nil)) rfl) (bx_cons (sx_asg (ex_callD G__law_drawn_laths (hr.mono (by decide)) (by rfl) (ax_cons (ex_var 0) (ax_cons (ex_callD G__law_take (hr.mono (by decide)) (by rfl) (ax_cons (ex_var 0) (ax_cons (ex_add (ex_var 1) ex_int) ax_nil))) (ax_cons (ex_var 2) (ax_cons (ex_var 3) ax_nil))))) (gx_nm 4 S.nd rfl (by first | exact Or.inl rfl | exact Or.inr rfl))) (bx_cons (sx_asg (ex_callD G__law_drawn_laths (hr.mono (by decide)) (by rfl) (ax_cons (ex_var 0) (ax_cons (ex_callD G__law_take (hr.mono (by decide)) (by rfl) (ax_cons (ex_var 0) (ax_cons (ex_add (ex_var 1) ex_int) ax_nil))) (ax_cons (ex_var 3) (ax_cons (ex_var 2) ax_nil))))) (gx_nm 5 S.nd rfl (by first | exact Or.inl rfl | exact Or.inr rfl))) (bx_one (sx_ret (ex_if (tx_w (wx_or (tx_ne hu (ex_var 4) (ex_tup ax_nil)) (wx_or1 (tx_ne hu (ex_var 5) (ex_tup ax_nil))))) (ex_tup (ax_cons (ex_var 4) (ax_cons (ex_var 5) ax_nil))) (ex_tup (ax_cons (ex_tup (ax_cons (ex_tup (ax_cons (ex_callD G__law_take (hr.mono (by decide)) (by rfl) (ax_cons (ex_var 0) (ax_cons ex_int ax_nil))) (ax_cons ex_int (ax_cons ex_int ax_nil)))) ax_nil)) (ax_cons (ex_tup ax_nil) ax_nil)))))))))
/-! _law_thick_frame -/
abbrev s__law_thick_frame : Stmt := topS 53
theorem sc__law_thick_frame : FnScope ["well", "most", "many", "other", "bars", "posts", "at", "one", "two"] ["well", "most"] (defScope s__law_thick_frame) := ⟨rfl, rfl, rfl, by decide +kernel, rfl, by decide +kernel, by decide +kernel⟩
noncomputable def M__law_thick_frame : MS := (sSeq (sPar (aCons (mOpT addD (mC (.int 1)) (mCall F__law_take (aCons (mVar 0) (aCons (mVar 1) aNil)))) (aCons (mOpT addD (mC (.int 1)) (mCall F__law_take (aCons (mVar 0) (aCons (mVar 1) aNil)))) aNil)) [(.nm 2), (.nm 3)]) (sSeq (sPar (aCons (mLstC aNil) (aCons (mLstC aNil) aNil)) [(.nm 4), (.nm 5)]) (sSeq (sFor (iRange1 (aCons (mVar 2) aNil)) (.nm 6) (sSeq (sPar (aCons (mCall F__law_take (aCons (mVar 0) (aCons (mOp mulID (mC (.int 2)) (mVar 3)) aNil))) (aCons (mCall F__law_take (aCons (mVar 0) (aCons (mOp mulID (mC (.int 2)) (mVar 3)) aNil))) aNil)) [(.nm 7), (.nm 8)]) (sEx (mMut appD (mVar 4) (aCons (mIf (mTest (mOp eqD (mCall F__law_take (aCons (mVar 0) (aCons (mC (.int 3)) aNil))) (mC (.int 0)))) (mTup (aCons (mOp mulID (mC (.int 2)) (mVar 6)) (aCons (mCB (f2 min2D) (aCons (mVar 7) (aCons (mVar 8) aNil))) (aCons (mCB (f2 max2D) (aCons (mVar 7) (aCons (mVar 8) aNil))) aNil)))) (mTup (aCons (mOp mulID (mC (.int 2)) (mVar 6)) (aCons (mC (.int 0)) (aCons (mOp subD (mOp mulID (mC (.int 2)) (mVar 3)) (mC (.int 2))) aNil))))) aNil))))) (sSeq (sFor (iRange1 (aCons (mVar 3) aNil)) (.nm 6) (sSeq (sPar (aCons (mCall F__law_take (aCons (mVar 0) (aCons (mOp mulID (mC (.int 2)) (mVar 2)) aNil))) (aCons (mCall F__law_take (aCons (mVar 0) (aCons (mOp mulID (mC (.int 2)) (mVar 2)) aNil))) aNil)) [(.nm 7), (.nm 8)]) (sEx (mMut appD (mVar 5) (aCons (mIf (mTest (mOp eqD (mCall F__law_take (aCons (mVar 0) (aCons (mC (.int 3)) aNil))) (mC (.int 0)))) (mTup (aCons (mOp mulID (mC (.int 2)) (mVar 6)) (aCons (mCB (f2 min2D) (aCons (mVar 7) (aCons (mVar 8) aNil))) (aCons (mCB (f2 max2D) (aCons (mVar 7) (aCons (mVar 8) aNil))) aNil)))) (mTup (aCons (mOp mulID (mC (.int 2)) (mVar 6)) (aCons (mC (.int 0)) (aCons (mOp subD (mOp mulID (mC (.int 2)) (mVar 2)) (mC (.int 2))) aNil))))) aNil))))) (sRet (mTup (aCons (mCP tupP (aCons (mVar 4) aNil)) (aCons (mCP tupP (aCons (mVar 5) aNil)) aNil))))))))
noncomputable def F__law_thick_frame : Fn := fnOf 9 2 M__law_thick_frame
theorem ok__law_thick_frame {f f__law_take : Addr} {fd fd__law_take : FuncData} (T : Txt0 K mg a_TOLD) (A : At K mg "_law_thick_frame" "_law_thick_frame" s__law_thick_frame ["well", "most"] f fd) (G__law_take : Df P w K mg base "_law_take" ["well", "many"] f__law_take fd__law_take 1 F__law_take) : Df P w K mg base "_law_thick_frame" ["well", "most"] f fd 2 F__law_thick_frame := df_mk (k := 1) A sc__law_thick_frame fun cdv A1 outer s H E hr => by
  have S := sc__law_thick_frame
  have hu := hu65 hr
  exact (bx_cons (sx_par2 rfl S.nd rfl rfl (by decide) rfl rfl (ax_cons (ex_add ex_int (ex_callD G__law_take (hr.mono (by decide)) (by rfl) (ax_cons (ex_var 0) (ax_cons (ex_var 1) ax_nil)))) (ax_cons (ex_add ex_int (ex_callD G__law_take (hr.mono (by decide)) (by rfl) (ax_cons (ex_var 0) (ax_cons (ex_var 1) ax_nil)))) ax_nil)) rfl) (bx_cons (sx_par2 rfl S.nd rfl rfl (by decide) rfl rfl (ax_cons (ex_lstC ax_nil) (ax_cons (ex_lstC ax_nil) ax_nil)) rfl) (bx_cons (sx_for rfl (ix_range1 (by rfl) T.b_range (ax_cons (ex_var 2) ax_nil)) (gx_nm 6 S.nd rfl (by first | exact Or.inl rfl | exact Or.inr rfl)) (bx_cons (sx_par2 rfl S.nd rfl rfl (by decide) rfl rfl (ax_cons (ex_callD G__law_take (hr.mono (by decide)) (by rfl) (ax_cons (ex_var 0) (ax_cons (ex_mul ex_int (ex_var 3)) ax_nil))) (ax_cons (ex_callD G__law_take (hr.mono (by decide)) (by rfl) (ax_cons (ex_var 0) (ax_cons (ex_mul ex_int (ex_var 3)) ax_nil))) ax_nil)) rfl) (bx_one (sx_expr (ex_append (ex_var 4) (ax_cons (ex_if (tx_eq hu (ex_callD G__law_take (hr.mono (by decide)) (by rfl) (ax_cons (ex_var 0) (ax_cons ex_int ax_nil))) ex_int) (ex_tup (ax_cons (ex_mul ex_int (ex_var 6)) (ax_cons (ex_min2 rfl (by rfl) T.b_min (ax_cons (ex_var 7) (ax_cons (ex_var 8) ax_nil))) (ax_cons (ex_max2 rfl (by rfl) T.b_max (ax_cons (ex_var 7) (ax_cons (ex_var 8) ax_nil))) ax_nil)))) (ex_tup (ax_cons (ex_mul ex_int (ex_var 6)) (ax_cons ex_int (ax_cons (ex_sub (ex_mul ex_int (ex_var 3)) ex_int) ax_nil))))) ax_nil)))))) (bx_cons (sx_for rfl (ix_range1 (by rfl) T.b_range (ax_cons (ex_var 3) ax_nil)) (gx_nm 6 S.nd rfl (by first | exact Or.inl rfl | exact Or.inr rfl)) (bx_cons (sx_par2 rfl S.nd rfl rfl (by decide) rfl rfl (ax_cons (ex_callD G__law_take (hr.mono (by decide)) (by rfl) (ax_cons (ex_var 0) (ax_cons (ex_mul ex_int (ex_var 2)) ax_nil))) (ax_cons (ex_callD G__law_take (hr.mono (by decide)) (by rfl) (ax_cons (ex_var 0) (ax_cons (ex_mul ex_int (ex_var 2)) ax_nil))) ax_nil)) rfl) (bx_one (sx_expr (ex_append (ex_var 5) (ax_cons (ex_if (tx_eq hu (ex_callD G__law_take (hr.mono (by decide)) (by rfl) (ax_cons (ex_var 0) (ax_cons ex_int ax_nil))) ex_int) (ex_tup (ax_cons (ex_mul ex_int (ex_var 6)) (ax_cons (ex_min2 rfl (by rfl) T.b_min (ax_cons (ex_var 7) (ax_cons (ex_var 8) ax_nil))) (ax_cons (ex_max2 rfl (by rfl) T.b_max (ax_cons (ex_var 7) (ax_cons (ex_var 8) ax_nil))) ax_nil)))) (ex_tup (ax_cons (ex_mul ex_int (ex_var 6)) (ax_cons ex_int (ax_cons (ex_sub (ex_mul ex_int (ex_var 2)) ex_int) ax_nil))))) ax_nil)))))) (bx_one (sx_ret (ex_tup (ax_cons (ex_tuple (by rfl) T.b_tuple (ax_cons (ex_var 4) ax_nil)) (ax_cons (ex_tuple (by rfl) T.b_tuple (ax_cons (ex_var 5) ax_nil)) ax_nil)))))))))
/-! _law_do_cross -/
abbrev s__law_do_cross : Stmt := topS 49
theorem sc__law_do_cross : FnScope ["bar", "post"] ["bar", "post"] (defScope s__law_do_cross) := ⟨rfl, rfl, rfl, by decide +kernel, rfl, by decide +kernel, by decide +kernel⟩
noncomputable def M__law_do_cross : MS := (sRet (mAnd (mOp leD (mOpHT ixD (mVar 0) (mC (.int 1))) (mOpHT ixD (mVar 1) (mC (.int 0)))) (mAnd (mOp leD (mOpHT ixD (mVar 1) (mC (.int 0))) (mOpHT ixD (mVar 0) (mC (.int 2)))) (mAnd (mOp leD (mOpHT ixD (mVar 1) (mC (.int 1))) (mOpHT ixD (mVar 0) (mC (.int 0)))) (mOp leD (mOpHT ixD (mVar 0) (mC (.int 0))) (mOpHT ixD (mVar 1) (mC (.int 2))))))))
noncomputable def F__law_do_cross : Fn := fnOf 2 2 M__law_do_cross
theorem ok__law_do_cross {f : Addr} {fd : FuncData} (T : Txt0 K mg a_TOLD) (A : At K mg "_law_do_cross" "_law_do_cross" s__law_do_cross ["bar", "post"] f fd) : Df P w K mg base "_law_do_cross" ["bar", "post"] f fd 1 F__law_do_cross := df_mk (k := 0) A sc__law_do_cross fun cdv A1 outer s H E hr => by
  have S := sc__law_do_cross
  have hu := hu65 hr
  exact (bx_one (sx_ret (ex_and (ex_le hu (ex_ix hu (ex_var 0) ex_int) (ex_ix hu (ex_var 1) ex_int)) (ex_and (ex_le hu (ex_ix hu (ex_var 1) ex_int) (ex_ix hu (ex_var 0) ex_int)) (ex_and (ex_le hu (ex_ix hu (ex_var 1) ex_int) (ex_ix hu (ex_var 0) ex_int)) (ex_one (ex_le hu (ex_ix hu (ex_var 0) ex_int) (ex_ix hu (ex_var 1) ex_int))))))))
/-! _law_crossings -/
abbrev s__law_crossings : Stmt := topS 50
theorem sc__law_crossings : FnScope ["frame", "found", "at", "bar", "to", "post"] ["frame"] (defScope s__law_crossings) := ⟨rfl, rfl, rfl, by decide +kernel, rfl, by decide +kernel, by decide +kernel⟩
noncomputable def M__law_crossings : MS := (sSeq (sAsg (mLst aNil) (.nm 1)) (sSeq (sFor (iEnum (aCons (mOpHT ixD (mVar 0) (mC (.int 0))) aNil)) (.tp [(.nm 2), (.nm 3)]) (sAsg (mOpT addD (mVar 1) (mLc (iEnum (aCons (mOpHT ixD (mVar 0) (mC (.int 1))) aNil)) (.tp [(.nm 4), (.nm 5)]) [4, 5] (mTest (mCall F__law_do_cross (aCons (mVar 3) (aCons (mVar 5) aNil)))) (mTup (aCons (mVar 2) (aCons (mVar 4) aNil))))) (.nm 1))) (sRet (mCP tupP (aCons (mVar 1) aNil)))))
noncomputable def F__law_crossings : Fn := fnOf 6 1 M__law_crossings
theorem ok__law_crossings {f f__law_do_cross : Addr} {fd fd__law_do_cross : FuncData} (T : Txt0 K mg a_TOLD) (A : At K mg "_law_crossings" "_law_crossings" s__law_crossings ["frame"] f fd) (G__law_do_cross : Df P w K mg base "_law_do_cross" ["bar", "post"] f__law_do_cross fd__law_do_cross 1 F__law_do_cross) : Df P w K mg base "_law_crossings" ["frame"] f fd 2 F__law_crossings := df_mk (k := 1) A sc__law_crossings fun cdv A1 outer s H E hr => by
  have S := sc__law_crossings
  have hu := hu65 hr
  exact (bx_cons (sx_asg (ex_lst ax_nil) (gx_nm 1 S.nd rfl (by first | exact Or.inl rfl | exact Or.inr rfl))) (bx_cons (sx_for rfl (ix_enum (by rfl) T.b_enumerate (ax_cons (ex_ix hu (ex_var 0) ex_int) ax_nil)) (gx_tp rfl (gx_cons (gx_nm 2 S.nd rfl (by first | exact Or.inl rfl | exact Or.inr rfl)) (gx_cons (gx_nm 3 S.nd rfl (by first | exact Or.inl rfl | exact Or.inr rfl)) gx_nil))) (bx_one (sx_asg (ex_add (ex_var 1) (ex_lc (own := [("to", 4), ("post", 5)]) rfl S.nd (ix_enum (by rfl) T.b_enumerate (ax_cons (ex_ix hu (ex_var 0) ex_int) ax_nil)) (blkOk_by (by kernel_rfl)) (fun _ _ _ _ _ => (gx_tp rfl (gx_cons (gx_nm 4 S.nd rfl (by first | exact Or.inl rfl | exact Or.inr rfl)) (gx_cons (gx_nm 5 S.nd rfl (by first | exact Or.inl rfl | exact Or.inr rfl)) gx_nil)))) (fun _ _ _ _ _ => (qx_one (tx_val (ex_callD G__law_do_cross (hr.mono (by decide)) (by rfl) (ax_cons (ex_var 3) (ax_cons (ex_var 5) ax_nil)))))) (fun _ _ _ _ _ => (ex_tup (ax_cons (ex_var 2) (ax_cons (ex_var 4) ax_nil)))) (fun _ => rfl) (by decide))) (gx_nm 1 S.nd rfl (by first | exact Or.inl rfl | exact Or.inr rfl))))) (bx_one (sx_ret (ex_tuple (by rfl) T.b_tuple (ax_cons (ex_var 1) ax_nil))))))
/-! _law_drawn_work -/
abbrev s__law_drawn_work : Stmt := topS 54
theorem sc__law_drawn_work : FnScope ["well", "frame", "words", "rare", "pairs", "overs", "nails", "crossing", "word"] ["well", "frame", "words", "rare"] (defScope s__law_drawn_work) := ⟨rfl, rfl, rfl, by decide +kernel, rfl, by decide +kernel, by decide +kernel⟩
noncomputable def M__law_drawn_work : MS := (sSeq (sAsg (mCall F__law_crossings (aCons (mVar 1) aNil)) (.nm 4)) (sSeq (sAsg (mCP tupP (aCons (mLc (iSeq (mVar 4)) (.nm 7) [7] mYes (mCall F__law_pick (aCons (mVar 0) (aCons (mVar 2) aNil)))) aNil)) (.nm 5)) (sSeq (sAsg (mCP tupP (aCons (mLc (iZip (aCons (mVar 4) (aCons (mVar 5) aNil))) (.tp [(.nm 7), (.nm 8)]) [7, 8] (tmAnd (mTest (mOp neD (mVar 8) (mC (.str "free")))) (mTest (mOp eqD (mCall F__law_take (aCons (mVar 0) (aCons (mVar 3) aNil))) (mC (.int 0))))) (mVar 7)) aNil)) (.nm 6)) (sRet (mTup (aCons (mVar 1) (aCons (mVar 5) (aCons (mVar 6) aNil))))))))
noncomputable def F__law_drawn_work : Fn := fnOf 9 4 M__law_drawn_work
theorem ok__law_drawn_work {f f__law_crossings f__law_pick f__law_take : Addr} {fd fd__law_crossings fd__law_pick fd__law_take : FuncData} (T : Txt0 K mg a_TOLD) (A : At K mg "_law_drawn_work" "_law_drawn_work" s__law_drawn_work ["well", "frame", "words", "rare"] f fd) (G__law_crossings : Df P w K mg base "_law_crossings" ["frame"] f__law_crossings fd__law_crossings 2 F__law_crossings) (G__law_pick : Df P w K mg base "_law_pick" ["well", "some"] f__law_pick fd__law_pick 2 F__law_pick) (G__law_take : Df P w K mg base "_law_take" ["well", "many"] f__law_take fd__law_take 1 F__law_take) : Df P w K mg base "_law_drawn_work" ["well", "frame", "words", "rare"] f fd 3 F__law_drawn_work := df_mk (k := 2) A sc__law_drawn_work fun cdv A1 outer s H E hr => by
  have S := sc__law_drawn_work
  have hu := hu65 hr
  exact (bx_cons (sx_asg (ex_callD G__law_crossings (hr.mono (by decide)) (by rfl) (ax_cons (ex_var 1) ax_nil)) (gx_nm 4 S.nd rfl (by first | exact Or.inl rfl | exact Or.inr rfl))) (bx_cons (sx_asg (ex_tuple (by rfl) T.b_tuple (ax_cons (ex_lc (own := [("crossing", 7)]) rfl S.nd (ix_seq' (ex_var 4)) (blkOk_by (by kernel_rfl)) (fun _ _ _ _ _ => (gx_nm 7 S.nd rfl (by first | exact Or.inl rfl | exact Or.inr rfl))) (fun _ _ _ _ _ => qx_nil) (fun _ _ _ _ _ => (ex_callD G__law_pick (hr.mono (by decide)) (by rfl) (ax_cons (ex_var 0) (ax_cons (ex_var 2) ax_nil)))) (fun _ => rfl) (by decide)) ax_nil)) (gx_nm 5 S.nd rfl (by first | exact Or.inl rfl | exact Or.inr rfl))) (bx_cons (sx_asg (ex_tuple (by rfl) T.b_tuple (ax_cons (ex_lc (own := [("crossing", 7), ("word", 8)]) rfl S.nd (ix_zip (by rfl) T.b_zip (ax_cons (ex_var 4) (ax_cons (ex_var 5) ax_nil))) (blkOk_by (by kernel_rfl)) (fun _ _ _ _ _ => (gx_tp rfl (gx_cons (gx_nm 7 S.nd rfl (by first | exact Or.inl rfl | exact Or.inr rfl)) (gx_cons (gx_nm 8 S.nd rfl (by first | exact Or.inl rfl | exact Or.inr rfl)) gx_nil)))) (fun _ _ _ _ _ => (qx_one (tx_w (wx_and (tx_ne hu (ex_var 8) ex_str) (wx_and1 (tx_eq hu (ex_callD G__law_take (hr.mono (by decide)) (by rfl) (ax_cons (ex_var 0) (ax_cons (ex_var 3) ax_nil))) ex_int)))))) (fun _ _ _ _ _ => (ex_var 7)) (fun _ => rfl) (by decide)) ax_nil)) (gx_nm 6 S.nd rfl (by first | exact Or.inl rfl | exact Or.inr rfl))) (bx_one (sx_ret (ex_tup (ax_cons (ex_var 1) (ax_cons (ex_var 5) (ax_cons (ex_var 6) ax_nil)))))))))
/-! _law_cells -/
abbrev s__law_cells : Stmt := topS 55
theorem sc__law_cells : FnScope ["work", "found", "pair", "word"] ["work"] (defScope s__law_cells) := ⟨rfl, rfl, rfl, by decide +kernel, rfl, by decide +kernel, by decide +kernel⟩
noncomputable def M__law_cells : MS := (sSeq (sAsg (mDct0C true) (.nm 1)) (sSeq (sFor (iZip (aCons (mCall F__law_crossings (aCons (mOpHT ixD (mVar 0) (mC (.int 0))) aNil)) (aCons (mOpHT ixD (mVar 0) (mC (.int 1))) aNil))) (.tp [(.nm 2), (.nm 3)]) (sAsgS (mTup (aCons (mVar 3) (aCons (mOpTH inD (mVar 2) (mOpHT ixD (mVar 0) (mC (.int 2)))) aNil))) (.sub (mVar 1) (mVar 2)))) (sRet (mFrz (mVar 1)))))
noncomputable def F__law_cells : Fn := fnOf 4 1 M__law_cells
theorem ok__law_cells {f f__law_crossings : Addr} {fd fd__law_crossings : FuncData} (T : Txt0 K mg a_TOLD) (A : At K mg "_law_cells" "_law_cells" s__law_cells ["work"] f fd) (G__law_crossings : Df P w K mg base "_law_crossings" ["frame"] f__law_crossings fd__law_crossings 2 F__law_crossings) : Df P w K mg base "_law_cells" ["work"] f fd 3 F__law_cells := df_mk (k := 2) A sc__law_cells fun cdv A1 outer s H E hr => by
  have S := sc__law_cells
  have hu := hu65 hr
  exact (bx_cons (sx_asg ex_dct0T (gx_nm 1 S.nd rfl (by first | exact Or.inl rfl | exact Or.inr rfl))) (bx_cons (sx_for rfl (ix_zip (by rfl) T.b_zip (ax_cons (ex_callD G__law_crossings (hr.mono (by decide)) (by rfl) (ax_cons (ex_ix hu (ex_var 0) ex_int) ax_nil)) (ax_cons (ex_ix hu (ex_var 0) ex_int) ax_nil))) (gx_tp rfl (gx_cons (gx_nm 2 S.nd rfl (by first | exact Or.inl rfl | exact Or.inr rfl)) (gx_cons (gx_nm 3 S.nd rfl (by first | exact Or.inl rfl | exact Or.inr rfl)) gx_nil))) (bx_one (sx_asgS (ex_tup (ax_cons (ex_var 3) (ax_cons (ex_in hu (ex_var 2) (ex_ix hu (ex_var 0) ex_int)) ax_nil))) (hx_sub hu (ex_var 1) (ex_var 2))))) (bx_one (sx_ret (ex_frz (ex_var 1))))))
/-! _law_made_of -/
abbrev s__law_made_of : Stmt := topS 58
theorem sc__law_made_of : FnScope ["work", "bars", "posts", "frame", "cells", "rows", "nails", "pair", "row", "at"] ["work", "bars", "posts"] (defScope s__law_made_of) := ⟨rfl, rfl, rfl, by decide +kernel, rfl, by decide +kernel, by decide +kernel⟩
noncomputable def M__law_made_of : MS := (sSeq (sPar (aCons (mTup (aCons (mCP tupP (aCons (mLc (iSeq (mVar 1)) (.nm 9) [9] mYes (mOpHT ixD (mOpHT ixD (mOpHT ixD (mVar 0) (mC (.int 0))) (mC (.int 0))) (mVar 9))) aNil)) (aCons (mCP tupP (aCons (mLc (iSeq (mVar 2)) (.nm 9) [9] mYes (mOpHT ixD (mOpHT ixD (mOpHT ixD (mVar 0) (mC (.int 0))) (mC (.int 1))) (mVar 9))) aNil)) aNil))) (aCons (mCall F__law_cells (aCons (mVar 0) aNil)) aNil)) [(.nm 3), (.nm 4)]) (sSeq (sAsg (mLc (iSeq (mCall F__law_crossings (aCons (mVar 3) aNil))) (.nm 7) [7] mYes (mOpHT ixD (mVar 4) (mTup (aCons (mOpHT ixD (mVar 1) (mOpHT ixD (mVar 7) (mC (.int 0)))) (aCons (mOpHT ixD (mVar 2) (mOpHT ixD (mVar 7) (mC (.int 1)))) aNil))))) (.nm 5)) (sSeq (sAsg (mLc (iZip (aCons (mCall F__law_crossings (aCons (mVar 3) aNil)) (aCons (mVar 5) aNil))) (.tp [(.nm 7), (.nm 8)]) [7, 8] (mTest (mOpHT ixD (mVar 8) (mC (.int 1)))) (mVar 7)) (.nm 6)) (sRet (mTup (aCons (mVar 3) (aCons (mCP tupP (aCons (mLc (iSeq (mVar 5)) (.nm 8) [8] mYes (mOpHT ixD (mVar 8) (mC (.int 0)))) aNil)) (aCons (mCP tupP (aCons (mVar 6) aNil)) aNil))))))))
noncomputable def F__law_made_of : Fn := fnOf 10 3 M__law_made_of
theorem ok__law_made_of {f f__law_cells f__law_crossings : Addr} {fd fd__law_cells fd__law_crossings : FuncData} (T : Txt0 K mg a_TOLD) (A : At K mg "_law_made_of" "_law_made_of" s__law_made_of ["work", "bars", "posts"] f fd) (G__law_cells : Df P w K mg base "_law_cells" ["work"] f__law_cells fd__law_cells 3 F__law_cells) (G__law_crossings : Df P w K mg base "_law_crossings" ["frame"] f__law_crossings fd__law_crossings 2 F__law_crossings) : Df P w K mg base "_law_made_of" ["work", "bars", "posts"] f fd 4 F__law_made_of := df_mk (k := 3) A sc__law_made_of fun cdv A1 outer s H E hr => by
  have S := sc__law_made_of
  have hu := hu65 hr
  exact (bx_cons (sx_parT (ax_cons (ex_tup (ax_cons (ex_tuple (by rfl) T.b_tuple (ax_cons (ex_lc (own := [("at", 9)]) rfl S.nd (ix_seq' (ex_var 1)) (blkOk_by (by kernel_rfl)) (fun _ _ _ _ _ => (gx_nm 9 S.nd rfl (by first | exact Or.inl rfl | exact Or.inr rfl))) (fun _ _ _ _ _ => qx_nil) (fun _ _ _ _ _ => (ex_ix hu (ex_ix hu (ex_ix hu (ex_var 0) ex_int) ex_int) (ex_var 9))) (fun _ => rfl) (by decide)) ax_nil)) (ax_cons (ex_tuple (by rfl) T.b_tuple (ax_cons (ex_lc (own := [("at", 9)]) rfl S.nd (ix_seq' (ex_var 2)) (blkOk_by (by kernel_rfl)) (fun _ _ _ _ _ => (gx_nm 9 S.nd rfl (by first | exact Or.inl rfl | exact Or.inr rfl))) (fun _ _ _ _ _ => qx_nil) (fun _ _ _ _ _ => (ex_ix hu (ex_ix hu (ex_ix hu (ex_var 0) ex_int) ex_int) (ex_var 9))) (fun _ => rfl) (by decide)) ax_nil)) ax_nil))) (ax_cons (ex_callD G__law_cells (hr.mono (by decide)) (by rfl) (ax_cons (ex_var 0) ax_nil)) ax_nil)) (gx_tp rfl (gx_cons (gx_nm 3 S.nd rfl (by first | exact Or.inl rfl | exact Or.inr rfl)) (gx_cons (gx_nm 4 S.nd rfl (by first | exact Or.inl rfl | exact Or.inr rfl)) gx_nil)))) (bx_cons (sx_setLc (own := [("pair", 7)]) rfl S.nd (ix_seq' (ex_callD G__law_crossings (hr.mono (by decide)) (by rfl) (ax_cons (ex_var 3) ax_nil))) (blkOk_by (by kernel_rfl)) (fun _ _ _ _ _ => (gx_nm 7 S.nd rfl (by first | exact Or.inl rfl | exact Or.inr rfl))) (fun _ _ _ _ _ => qx_nil) (fun _ _ _ _ _ => (ex_ix hu (ex_var 4) (ex_tup (ax_cons (ex_ix hu (ex_var 1) (ex_ix hu (ex_var 7) ex_int)) (ax_cons (ex_ix hu (ex_var 2) (ex_ix hu (ex_var 7) ex_int)) ax_nil))))) (fun _ => rfl) rfl rfl (sw_true rfl rfl rfl (by decide +kernel)) (by decide)) (bx_cons (sx_setLc (own := [("pair", 7), ("row", 8)]) rfl S.nd (ix_zip (by rfl) T.b_zip (ax_cons (ex_callD G__law_crossings (hr.mono (by decide)) (by rfl) (ax_cons (ex_var 3) ax_nil)) (ax_cons (ex_var 5) ax_nil))) (blkOk_by (by kernel_rfl)) (fun _ _ _ _ _ => (gx_tp rfl (gx_cons (gx_nm 7 S.nd rfl (by first | exact Or.inl rfl | exact Or.inr rfl)) (gx_cons (gx_nm 8 S.nd rfl (by first | exact Or.inl rfl | exact Or.inr rfl)) gx_nil)))) (fun _ _ _ _ _ => (qx_one (tx_val (ex_ix hu (ex_var 8) ex_int)))) (fun _ _ _ _ _ => (ex_var 7)) (fun _ => rfl) rfl rfl (sw_true rfl rfl rfl (by decide +kernel)) (by decide)) (bx_one (sx_ret (ex_tup (ax_cons (ex_var 3) (ax_cons (ex_tuple (by rfl) T.b_tuple (ax_cons (ex_lc (own := [("row", 8)]) rfl S.nd (ix_seq' (ex_var 5)) (blkOk_by (by kernel_rfl)) (fun _ _ _ _ _ => (gx_nm 8 S.nd rfl (by first | exact Or.inl rfl | exact Or.inr rfl))) (fun _ _ _ _ _ => qx_nil) (fun _ _ _ _ _ => (ex_ix hu (ex_var 8) ex_int)) (fun _ => rfl) (by decide)) ax_nil)) (ax_cons (ex_tuple (by rfl) T.b_tuple (ax_cons (ex_var 6) ax_nil)) ax_nil)))))))))
/-! _law_some -/
abbrev s__law_some : Stmt := topS 46
theorem sc__law_some : FnScope ["well", "things", "share", "found", "each"] ["well", "things"] (defScope s__law_some) := ⟨rfl, rfl, rfl, by decide +kernel, rfl, by decide +kernel, by decide +kernel⟩
noncomputable def M__law_some : MS := (sSeq (sPar (aCons (mCall F__law_pick (aCons (mVar 0) (aCons (mLst (aCons (mC (.int 0)) (aCons (mC (.int 4)) (aCons (mC (.int 1)) (aCons (mC (.int 2)) (aCons (mC (.int 2)) (aCons (mC (.int 3)) aNil))))))) aNil))) (aCons (mLstC aNil) aNil)) [(.nm 2), (.nm 3)]) (sSeq (sFor (iSeq (mVar 1)) (.nm 4) (sIf (tmOr (mTest (mOp eqD (mVar 2) (mC (.int 4)))) (tmAnd (mTest (mOp gtD (mVar 2) (mC (.int 0)))) (mTest (mOp ltD (mCall F__law_take (aCons (mVar 0) (aCons (mC (.int 4)) aNil))) (mVar 2))))) (sEx (mMut appD (mVar 3) (aCons (mVar 4) aNil))) sNx)) (sRet (mFrz (mVar 3)))))
noncomputable def F__law_some : Fn := fnOf 5 2 M__law_some
theorem ok__law_some {f f__law_pick f__law_take : Addr} {fd fd__law_pick fd__law_take : FuncData} (T : Txt0 K mg a_TOLD) (A : At K mg "_law_some" "_law_some" s__law_some ["well", "things"] f fd) (G__law_pick : Df P w K mg base "_law_pick" ["well", "some"] f__law_pick fd__law_pick 2 F__law_pick) (G__law_take : Df P w K mg base "_law_take" ["well", "many"] f__law_take fd__law_take 1 F__law_take) : Df P w K mg base "_law_some" ["well", "things"] f fd 3 F__law_some := df_mk (k := 2) A sc__law_some fun cdv A1 outer s H E hr => by
  have S := sc__law_some
  have hu := hu65 hr
  exact (bx_cons (sx_par2 rfl S.nd rfl rfl (by decide) rfl rfl (ax_cons (ex_callD G__law_pick (hr.mono (by decide)) (by rfl) (ax_cons (ex_var 0) (ax_cons (ex_lst (ax_cons ex_int (ax_cons ex_int (ax_cons ex_int (ax_cons ex_int (ax_cons ex_int (ax_cons ex_int ax_nil))))))) ax_nil))) (ax_cons (ex_lstC ax_nil) ax_nil)) rfl) (bx_cons (sx_for rfl (ix_seq' (ex_var 1)) (gx_nm 4 S.nd rfl (by first | exact Or.inl rfl | exact Or.inr rfl)) (bx_one (sx_if (tx_w (wx_or (tx_eq hu (ex_var 2) ex_int) (wx_or1 (tx_w (wx_and (tx_gt hu (ex_var 2) ex_int) (wx_and1 (tx_lt hu (ex_callD G__law_take (hr.mono (by decide)) (by rfl) (ax_cons (ex_var 0) (ax_cons ex_int ax_nil))) (ex_var 2)))))))) (bx_one (sx_expr (ex_append (ex_var 3) (ax_cons (ex_var 4) ax_nil)))) bx_nil))) (bx_one (sx_ret (ex_frz (ex_var 3))))))
/-! _law_few -/
abbrev s__law_few : Stmt := topS 63
theorem sc__law_few : FnScope ["well", "many", "most", "row"] ["well", "many", "most"] (defScope s__law_few) := ⟨rfl, rfl, rfl, by decide +kernel, rfl, by decide +kernel, by decide +kernel⟩
noncomputable def M__law_few : MS := (sSeq (sAsg (mCB (f1 sortD) (aCons (mCall F__law_some (aCons (mVar 0) (aCons (mRgL (mVar 1)) aNil))) aNil)) (.nm 3)) (sRet (mCP tupP (aCons (mSl (mVar 3) oNone (oSome (mVar 2))) aNil))))
noncomputable def F__law_few : Fn := fnOf 4 3 M__law_few
theorem ok__law_few {f f__law_some : Addr} {fd fd__law_some : FuncData} (T : Txt0 K mg a_TOLD) (A : At K mg "_law_few" "_law_few" s__law_few ["well", "many", "most"] f fd) (G__law_some : Df P w K mg base "_law_some" ["well", "things"] f__law_some fd__law_some 3 F__law_some) : Df P w K mg base "_law_few" ["well", "many", "most"] f fd 4 F__law_few := df_mk (k := 3) A sc__law_few fun cdv A1 outer s H E hr => by
  have S := sc__law_few
  have hu := hu65 hr
  exact (bx_cons (sx_asg (ex_sorted hu (by rfl) T.b_sorted (ax_cons (ex_callD G__law_some (hr.mono (by decide)) (by rfl) (ax_cons (ex_var 0) (ax_cons (ex_listRg rfl (by rfl) T.b_list (by rfl) T.b_range (ex_var 1)) ax_nil))) ax_nil)) (gx_nm 3 S.nd rfl (by first | exact Or.inl rfl | exact Or.inr rfl))) (bx_one (sx_ret (ex_tuple (by rfl) T.b_tuple (ax_cons (ex_sl (ex_var 3) ox_none (ox_some (ex_var 2))) ax_nil)))))
/-! _law_otherwise -/
abbrev s__law_otherwise : Stmt := topS 59
theorem sc__law_otherwise : FnScope ["well", "work", "frame", "overs", "nails", "order", "at", "rest", "nail"] ["well", "work"] (defScope s__law_otherwise) := ⟨rfl, rfl, rfl, by decide +kernel, rfl, by decide +kernel, by decide +kernel⟩
noncomputable def M__law_otherwise : MS := (sSeq (sAsg (mVar 1) (.tp [(.nm 2), (.nm 3), (.nm 4)])) (sSeq (sAsg (mCB (f1 listD) (aCons (mCall F__law_crossings (aCons (mVar 2) aNil)) aNil)) (.nm 5)) (sSeq (sIf (mTest (mOp eqD (mVar 5) (mLst aNil))) (sRet (mVar 1)) sNx) (sSeq (sAsg (mCall F__law_take (aCons (mVar 0) (aCons (mCB (f1 lenD) (aCons (mVar 5) aNil)) aNil))) (.nm 6)) (sSeq (sIf (mTest (mOp gtD (mCall F__law_take (aCons (mVar 0) (aCons (mC (.int 3)) aNil))) (mC (.int 0)))) (sRet (mTup (aCons (mVar 2) (aCons (mOpT addD (mOpT addD (mSl (mVar 3) oNone (oSome (mVar 6))) (mTup (aCons (mIf (mTest (mOp eqD (mOpHT ixD (mVar 3) (mVar 6)) (mC (.str "bar")))) (mC (.str "post")) (mC (.str "bar"))) aNil))) (mSl (mVar 3) (oSome (mOpT addD (mVar 6) (mC (.int 1)))) oNone)) (aCons (mVar 4) aNil))))) sNx) (sSeq (sAsg (mLc (iSeq (mVar 4)) (.nm 8) [8] (mTest (mOp neD (mVar 8) (mOpHT ixD (mVar 5) (mVar 6)))) (mVar 8)) (.nm 7)) (sRet (mTup (aCons (mVar 2) (aCons (mVar 3) (aCons (mIf (mTest (mOpTH inD (mOpHT ixD (mVar 5) (mVar 6)) (mVar 4))) (mCP tupP (aCons (mVar 7) aNil)) (mCP tupP (aCons (mCB (f1 sortD) (aCons (mOpT addD (mCB (f1 listD) (aCons (mVar 4) aNil)) (mLst (aCons (mOpHT ixD (mVar 5) (mVar 6)) aNil))) aNil)) aNil))) aNil)))))))))))
noncomputable def F__law_otherwise : Fn := fnOf 9 2 M__law_otherwise
theorem ok__law_otherwise {f f__law_crossings f__law_take : Addr} {fd fd__law_crossings fd__law_take : FuncData} (T : Txt0 K mg a_TOLD) (A : At K mg "_law_otherwise" "_law_otherwise" s__law_otherwise ["well", "work"] f fd) (G__law_crossings : Df P w K mg base "_law_crossings" ["frame"] f__law_crossings fd__law_crossings 2 F__law_crossings) (G__law_take : Df P w K mg base "_law_take" ["well", "many"] f__law_take fd__law_take 1 F__law_take) : Df P w K mg base "_law_otherwise" ["well", "work"] f fd 3 F__law_otherwise := df_mk (k := 2) A sc__law_otherwise fun cdv A1 outer s H E hr => by
  have S := sc__law_otherwise
  have hu := hu65 hr
  exact (bx_cons (sx_asg (ex_var 1) (gx_tp rfl (gx_cons (gx_nm 2 S.nd rfl (by first | exact Or.inl rfl | exact Or.inr rfl)) (gx_cons (gx_nm 3 S.nd rfl (by first | exact Or.inl rfl | exact Or.inr rfl)) (gx_cons (gx_nm 4 S.nd rfl (by first | exact Or.inl rfl | exact Or.inr rfl)) gx_nil))))) (bx_cons (sx_asg (ex_list (by rfl) T.b_list (ax_cons (ex_callD G__law_crossings (hr.mono (by decide)) (by rfl) (ax_cons (ex_var 2) ax_nil)) ax_nil)) (gx_nm 5 S.nd rfl (by first | exact Or.inl rfl | exact Or.inr rfl))) (bx_cons (sx_if (tx_eq hu (ex_var 5) (ex_lst ax_nil)) (bx_one (sx_ret (ex_var 1))) bx_nil) (bx_cons (sx_asg (ex_callD G__law_take (hr.mono (by decide)) (by rfl) (ax_cons (ex_var 0) (ax_cons (ex_len (by rfl) T.b_len (ax_cons (ex_var 5) ax_nil)) ax_nil))) (gx_nm 6 S.nd rfl (by first | exact Or.inl rfl | exact Or.inr rfl))) (bx_cons (sx_if (tx_gt hu (ex_callD G__law_take (hr.mono (by decide)) (by rfl) (ax_cons (ex_var 0) (ax_cons ex_int ax_nil))) ex_int) (bx_one (sx_ret (ex_tup (ax_cons (ex_var 2) (ax_cons (ex_add (ex_add (ex_sl (ex_var 3) ox_none (ox_some (ex_var 6))) (ex_tup (ax_cons (ex_if (tx_eq hu (ex_ix hu (ex_var 3) (ex_var 6)) ex_str) ex_str ex_str) ax_nil))) (ex_sl (ex_var 3) (ox_some (ex_add (ex_var 6) ex_int)) ox_none)) (ax_cons (ex_var 4) ax_nil)))))) bx_nil) (bx_cons (sx_setLc (own := [("nail", 8)]) rfl S.nd (ix_seq' (ex_var 4)) (blkOk_by (by kernel_rfl)) (fun _ _ _ _ _ => (gx_nm 8 S.nd rfl (by first | exact Or.inl rfl | exact Or.inr rfl))) (fun _ _ _ _ _ => (qx_one (tx_ne hu (ex_var 8) (ex_ix hu (ex_var 5) (ex_var 6))))) (fun _ _ _ _ _ => (ex_var 8)) (fun _ => rfl) rfl rfl (sw_true rfl rfl rfl (by decide +kernel)) (by decide)) (bx_one (sx_ret (ex_tup (ax_cons (ex_var 2) (ax_cons (ex_var 3) (ax_cons (ex_if (tx_in hu (ex_ix hu (ex_var 5) (ex_var 6)) (ex_var 4)) (ex_tuple (by rfl) T.b_tuple (ax_cons (ex_var 7) ax_nil)) (ex_tuple (by rfl) T.b_tuple (ax_cons (ex_sorted hu (by rfl) T.b_sorted (ax_cons (ex_add (ex_list (by rfl) T.b_list (ax_cons (ex_var 4) ax_nil)) (ex_lst (ax_cons (ex_ix hu (ex_var 5) (ex_var 6)) ax_nil))) ax_nil)) ax_nil))) ax_nil))))))))))))
/-! _law_is -/
abbrev s__law_is : Stmt := topS 47
theorem sc__law_is : FnScope ["one", "due", "at", "each"] ["one", "due"] (defScope s__law_is) := ⟨rfl, rfl, rfl, by decide +kernel, rfl, by decide +kernel, by decide +kernel⟩
noncomputable def M__law_is (self : Fn) : MS := (sSeq (sIf (mTest (mUn (isiD .tup) (mVar 1))) (sSeq (sIf (tmOr (tmNot (mTest (mUn (isiD .tup) (mVar 0)))) (mTest (mOp neD (mCB (f1 lenD) (aCons (mVar 0) aNil)) (mCB (f1 lenD) (aCons (mVar 1) aNil))))) (sRet (mC (.bl false))) sNx) (sRet (mCB (f1 allD) (aCons (mLc (iEnum (aCons (mVar 1) aNil)) (.tp [(.nm 2), (.nm 3)]) [2, 3] mYes (mCall self (aCons (mOpHT ixD (mVar 0) (mVar 2)) (aCons (mVar 3) aNil)))) aNil)))) sNx) (sSeq (sIf (mTest (mUn (isiD .lst) (mVar 1))) (sRet (mAnd (mUn (isiD .lst) (mVar 0)) (mCall self (aCons (mCP tupP (aCons (mVar 0) aNil)) (aCons (mCP tupP (aCons (mVar 1) aNil)) aNil))))) sNx) (sSeq (sIf (mTest (mUn (isiD .dct) (mVar 1))) (sRet (mAnd (mUn (isiD .dct) (mVar 0)) (mOp eqD (mVar 0) (mVar 1)))) sNx) (sSeq (sIf (tmOr (mTest (mOp isD (mVar 1) (mC .non))) (tmOr (mTest (mOp isD (mVar 1) (mC (.bl true)))) (mTest (mOp isD (mVar 1) (mC (.bl false)))))) (sRet (mIf (mTest (mOp isD (mVar 1) (mC .non))) (mOp isD (mVar 0) (mC .non)) (mIf (mTest (mOp isD (mVar 1) (mC (.bl true)))) (mOp isD (mVar 0) (mC (.bl true))) (mOp isD (mVar 0) (mC (.bl false)))))) sNx) (sSeq (sIf (mTest (mUn (isiD .int) (mVar 1))) (sRet (mAnd (mUn (isiD .int) (mVar 0)) (mAnd (mNot (mUn (isiD .bool) (mVar 0))) (mOp eqD (mVar 0) (mVar 1))))) sNx) (sRet (mAnd (mUn (isiD .str) (mVar 0)) (mOp eqD (mVar 0) (mVar 1)))))))))
noncomputable def F__law_is : Nat → Fn
  | 0 => fun _ _ => none
  | n + 1 => fnOf 4 2 (M__law_is (F__law_is n))
theorem ok__law_is {f : Addr} {fd : FuncData} (T : Txt0 K mg a_TOLD) (A : At K mg "_law_is" "_law_is" s__law_is ["one", "due"] f fd) : ∀ n : Nat, Df P w K mg base "_law_is" ["one", "due"] f fd (n + 1) (F__law_is n)
  | 0 => (df_none A sc__law_is).up (by decide)
  | n + 1 => df_mk A sc__law_is fun cdv A1 outer s H E hr => by
    have S := sc__law_is
    have hu := hu65 hr
    have GR := ok__law_is T A n
    have hk : n + 1 ≤ n + 1 := Nat.le_refl _
    exact (bx_cons (sx_if (tx_val (ex_isi .tup (by rfl) T.b_isinstance (by rfl) T.b_tuple rfl (ex_var 1))) (bx_cons (sx_if (tx_w (wx_or (tx_not (tx_val (ex_isi .tup (by rfl) T.b_isinstance (by rfl) T.b_tuple rfl (ex_var 0)))) (wx_or1 (tx_ne hu (ex_len (by rfl) T.b_len (ax_cons (ex_var 0) ax_nil)) (ex_len (by rfl) T.b_len (ax_cons (ex_var 1) ax_nil)))))) (bx_one (sx_ret ex_bl)) bx_nil) (bx_one (sx_ret (ex_all rfl (by rfl) T.b_all (ax_cons (ex_lc (own := [("at", 2), ("each", 3)]) rfl S.nd (ix_enum (by rfl) T.b_enumerate (ax_cons (ex_var 1) ax_nil)) (blkOk_by (by kernel_rfl)) (fun _ _ _ _ _ => (gx_tp rfl (gx_cons (gx_nm 2 S.nd rfl (by first | exact Or.inl rfl | exact Or.inr rfl)) (gx_cons (gx_nm 3 S.nd rfl (by first | exact Or.inl rfl | exact Or.inr rfl)) gx_nil)))) (fun _ _ _ _ _ => qx_nil) (fun _ _ _ _ _ => (ex_callD GR (hr.mono hk) (by rfl) (ax_cons (ex_ix hu (ex_var 0) (ex_var 2)) (ax_cons (ex_var 3) ax_nil)))) (fun _ => rfl) (by decide)) ax_nil))))) bx_nil) (bx_cons (sx_if (tx_val (ex_isi .lst (by rfl) T.b_isinstance (by rfl) T.b_list rfl (ex_var 1))) (bx_one (sx_ret (ex_and (ex_isi .lst (by rfl) T.b_isinstance (by rfl) T.b_list rfl (ex_var 0)) (ex_one (ex_callD GR (hr.mono hk) (by rfl) (ax_cons (ex_tuple (by rfl) T.b_tuple (ax_cons (ex_var 0) ax_nil)) (ax_cons (ex_tuple (by rfl) T.b_tuple (ax_cons (ex_var 1) ax_nil)) ax_nil))))))) bx_nil) (bx_cons (sx_if (tx_val (ex_isi .dct (by rfl) T.b_isinstance (by rfl) T.b_dict rfl (ex_var 1))) (bx_one (sx_ret (ex_and (ex_isi .dct (by rfl) T.b_isinstance (by rfl) T.b_dict rfl (ex_var 0)) (ex_one (ex_eq hu (ex_var 0) (ex_var 1)))))) bx_nil) (bx_cons (sx_if (tx_w (wx_or (tx_is hu (ex_var 1) ex_non) (wx_or (tx_is hu (ex_var 1) ex_bl) (wx_or1 (tx_is hu (ex_var 1) ex_bl))))) (bx_one (sx_ret (ex_if (tx_is hu (ex_var 1) ex_non) (ex_is hu (ex_var 0) ex_non) (ex_if (tx_is hu (ex_var 1) ex_bl) (ex_is hu (ex_var 0) ex_bl) (ex_is hu (ex_var 0) ex_bl))))) bx_nil) (bx_cons (sx_if (tx_val (ex_isi .int (by rfl) T.b_isinstance (by rfl) T.b_int rfl (ex_var 1))) (bx_one (sx_ret (ex_and (ex_isi .int (by rfl) T.b_isinstance (by rfl) T.b_int rfl (ex_var 0)) (ex_and (ex_not (ex_isi .bool (by rfl) T.b_isinstance (by rfl) T.b_bool rfl (ex_var 0))) (ex_one (ex_eq hu (ex_var 0) (ex_var 1))))))) bx_nil) (bx_one (sx_ret (ex_and (ex_isi .str (by rfl) T.b_isinstance (by rfl) T.b_str rfl (ex_var 0)) (ex_one (ex_eq hu (ex_var 0) (ex_var 1)))))))))))
/-! do_cross -/
abbrev s_do_cross : Stmt := topS 16
theorem sc_do_cross : FnScope ["bar", "post"] ["bar", "post"] (defScope s_do_cross) := ⟨rfl, rfl, rfl, by decide +kernel, rfl, by decide +kernel, by decide +kernel⟩
noncomputable def M_do_cross : MS := (sRet (mAnd (mChain leD leD (mOpHT ixD (mVar 0) (mC (.int 1))) (mOpHT ixD (mVar 1) (mC (.int 0))) (mOpHT ixD (mVar 0) (mC (.int 2)))) (mChain leD leD (mOpHT ixD (mVar 1) (mC (.int 1))) (mOpHT ixD (mVar 0) (mC (.int 0))) (mOpHT ixD (mVar 1) (mC (.int 2))))))
noncomputable def F_do_cross : Fn := fnOf 2 2 M_do_cross
theorem ok_do_cross {f : Addr} {fd : FuncData} (T : Txt0 K mg a_TOLD) (A : At K mg "do_cross" "do_cross" s_do_cross ["bar", "post"] f fd) : Df P w K mg base "do_cross" ["bar", "post"] f fd 1 F_do_cross := df_mk (k := 0) A sc_do_cross fun cdv A1 outer s H E hr => by
  have S := sc_do_cross
  have hu := hu65 hr
  exact (bx_one (sx_ret (ex_and (ex_chain op_leA op_leA r_le r_le (ex_ix hu (ex_var 0) ex_int) (ex_ix hu (ex_var 1) ex_int) (ex_ix hu (ex_var 0) ex_int)) (ex_one (ex_chain op_leA op_leA r_le r_le (ex_ix hu (ex_var 1) ex_int) (ex_ix hu (ex_var 0) ex_int) (ex_ix hu (ex_var 1) ex_int))))))
/-! crossings_by -/
abbrev s_crossings_by : Stmt := topS 17
theorem sc_crossings_by : FnScope ["frame", "bars", "posts", "at", "bar", "to", "post"] ["frame"] (defScope s_crossings_by) := ⟨rfl, rfl, rfl, by decide +kernel, rfl, by decide +kernel, by decide +kernel⟩
noncomputable def M_crossings_by : MS := (sSeq (sAsg (mVar 0) (.tp [(.nm 1), (.nm 2)])) (sRet (mLc2 (iEnum (aCons (mVar 1) aNil)) (.tp [(.nm 3), (.nm 4)]) [3, 4, 5, 6] mYes (iEnum (aCons (mVar 2) aNil)) (.tp [(.nm 5), (.nm 6)]) [5, 6] (mTest (mCall F_do_cross (aCons (mVar 4) (aCons (mVar 6) aNil)))) (mTup (aCons (mVar 3) (aCons (mVar 5) aNil))))))
noncomputable def F_crossings_by : Fn := fnOf 7 1 M_crossings_by
theorem ok_crossings_by {f f_do_cross : Addr} {fd fd_do_cross : FuncData} (T : Txt0 K mg a_TOLD) (A : At K mg "crossings_by" "crossings_by" s_crossings_by ["frame"] f fd) (G_do_cross : Df P w K mg base "do_cross" ["bar", "post"] f_do_cross fd_do_cross 1 F_do_cross) : Df P w K mg base "crossings_by" ["frame"] f fd 2 F_crossings_by := df_mk (k := 1) A sc_crossings_by fun cdv A1 outer s H E hr => by
  have S := sc_crossings_by
  have hu := hu65 hr
  exact (bx_cons (sx_asg (ex_var 0) (gx_tp rfl (gx_cons (gx_nm 1 S.nd rfl (by first | exact Or.inl rfl | exact Or.inr rfl)) (gx_cons (gx_nm 2 S.nd rfl (by first | exact Or.inl rfl | exact Or.inr rfl)) gx_nil)))) (bx_one (sx_ret (ex_lc2 (own := [("at", 3), ("bar", 4), ("to", 5), ("post", 6)]) (vs1 := [5, 6]) rfl S.nd (ix_enum (by rfl) T.b_enumerate (ax_cons (ex_var 1) ax_nil)) (blkOk_by (by kernel_rfl)) (by decide) (fun _ _ _ _ _ => (gx_tp rfl (gx_cons (gx_nm 3 S.nd rfl (by first | exact Or.inl rfl | exact Or.inr rfl)) (gx_cons (gx_nm 4 S.nd rfl (by first | exact Or.inl rfl | exact Or.inr rfl)) gx_nil)))) (fun _ _ _ _ _ => qx_nil) (fun _ _ _ _ _ => (ix_enum (by rfl) T.b_enumerate (ax_cons (ex_var 2) ax_nil))) (fun _ _ _ _ _ => (gx_tp rfl (gx_cons (gx_nm 5 S.nd rfl (by first | exact Or.inl rfl | exact Or.inr rfl)) (gx_cons (gx_nm 6 S.nd rfl (by first | exact Or.inl rfl | exact Or.inr rfl)) gx_nil)))) (fun _ _ _ _ _ => (qx_one (tx_val (ex_callD G_do_cross (hr.mono (by decide)) (by rfl) (ax_cons (ex_var 4) (ax_cons (ex_var 6) ax_nil)))))) (fun _ _ _ _ _ => (ex_tup (ax_cons (ex_var 3) (ax_cons (ex_var 5) ax_nil)))) (fun _ => rfl) (fun _ _ => rfl) (by decide) (by decide)))))
/-! is_word_of -/
abbrev s_is_word_of : Stmt := topS 5
theorem sc_is_word_of : FnScope ["value", "words"] ["value", "words"] (defScope s_is_word_of) := ⟨rfl, rfl, rfl, by decide +kernel, rfl, by decide +kernel, by decide +kernel⟩
noncomputable def M_is_word_of : MS := (sRet (mAnd (mUn (isiD .str) (mVar 0)) (mOpTH inD (mVar 0) (mVar 1))))
noncomputable def F_is_word_of : Fn := fnOf 2 2 M_is_word_of
theorem ok_is_word_of {f : Addr} {fd : FuncData} (T : Txt0 K mg a_TOLD) (A : At K mg "is_word_of" "is_word_of" s_is_word_of ["value", "words"] f fd) : Df P w K mg base "is_word_of" ["value", "words"] f fd 1 F_is_word_of := df_mk (k := 0) A sc_is_word_of fun cdv A1 outer s H E hr => by
  have S := sc_is_word_of
  have hu := hu65 hr
  exact (bx_one (sx_ret (ex_and (ex_isi .str (by rfl) T.b_isinstance (by rfl) T.b_str rfl (ex_var 0)) (ex_one (ex_in hu (ex_var 0) (ex_var 1))))))
/-! first_wrong_over -/
abbrev s_first_wrong_over : Stmt := topS 30
theorem sc_first_wrong_over : FnScope ["frame", "value", "words", "many", "index", "word"] ["frame", "value", "words"] (defScope s_first_wrong_over) := ⟨rfl, rfl, rfl, by decide +kernel, rfl, by decide +kernel, by decide +kernel⟩
noncomputable def M_first_wrong_over : MS := (sSeq (sAsg (mCB (f1 lenD) (aCons (mCall F_crossings_by (aCons (mVar 0) aNil)) aNil)) (.nm 3)) (sSeq (sFor (iEnum (aCons (mVar 1) aNil)) (.tp [(.nm 4), (.nm 5)]) (sIf (tmOr (mTest (mOp eqD (mVar 4) (mVar 3))) (tmNot (mTest (mCall F_is_word_of (aCons (mVar 5) (aCons (mVar 2) aNil)))))) (sRet (mVar 4)) sNx)) (sRet (mIf (mTest (mOp ltD (mCB (f1 lenD) (aCons (mVar 1) aNil)) (mVar 3))) (mCB (f1 lenD) (aCons (mVar 1) aNil)) (mC .non)))))
noncomputable def F_first_wrong_over : Fn := fnOf 6 3 M_first_wrong_over
theorem ok_first_wrong_over {f f_crossings_by f_is_word_of : Addr} {fd fd_crossings_by fd_is_word_of : FuncData} (T : Txt0 K mg a_TOLD) (A : At K mg "first_wrong_over" "first_wrong_over" s_first_wrong_over ["frame", "value", "words"] f fd) (G_crossings_by : Df P w K mg base "crossings_by" ["frame"] f_crossings_by fd_crossings_by 2 F_crossings_by) (G_is_word_of : Df P w K mg base "is_word_of" ["value", "words"] f_is_word_of fd_is_word_of 1 F_is_word_of) : Df P w K mg base "first_wrong_over" ["frame", "value", "words"] f fd 3 F_first_wrong_over := df_mk (k := 2) A sc_first_wrong_over fun cdv A1 outer s H E hr => by
  have S := sc_first_wrong_over
  have hu := hu65 hr
  exact (bx_cons (sx_asg (ex_len (by rfl) T.b_len (ax_cons (ex_callD G_crossings_by (hr.mono (by decide)) (by rfl) (ax_cons (ex_var 0) ax_nil)) ax_nil)) (gx_nm 3 S.nd rfl (by first | exact Or.inl rfl | exact Or.inr rfl))) (bx_cons (sx_for rfl (ix_enum (by rfl) T.b_enumerate (ax_cons (ex_var 1) ax_nil)) (gx_tp rfl (gx_cons (gx_nm 4 S.nd rfl (by first | exact Or.inl rfl | exact Or.inr rfl)) (gx_cons (gx_nm 5 S.nd rfl (by first | exact Or.inl rfl | exact Or.inr rfl)) gx_nil))) (bx_one (sx_if (tx_w (wx_or (tx_eq hu (ex_var 4) (ex_var 3)) (wx_or1 (tx_not (tx_val (ex_callD G_is_word_of (hr.mono (by decide)) (by rfl) (ax_cons (ex_var 5) (ax_cons (ex_var 2) ax_nil)))))))) (bx_one (sx_ret (ex_var 4))) bx_nil))) (bx_one (sx_ret (ex_if (tx_lt hu (ex_len (by rfl) T.b_len (ax_cons (ex_var 1) ax_nil)) (ex_var 3)) (ex_len (by rfl) T.b_len (ax_cons (ex_var 1) ax_nil)) ex_non)))))
/-! are_overs -/
abbrev s_are_overs : Stmt := topS 31
theorem sc_are_overs : FnScope ["frame", "value", "words"] ["frame", "value", "words"] (defScope s_are_overs) := ⟨rfl, rfl, rfl, by decide +kernel, rfl, by decide +kernel, by decide +kernel⟩
noncomputable def M_are_overs : MS := (sRet (mAnd (mUn (isiD .tup) (mVar 1)) (mOp isD (mCall F_first_wrong_over (aCons (mVar 0) (aCons (mVar 1) (aCons (mVar 2) aNil)))) (mC .non))))
noncomputable def F_are_overs : Fn := fnOf 3 3 M_are_overs
theorem ok_are_overs {f f_first_wrong_over : Addr} {fd fd_first_wrong_over : FuncData} (T : Txt0 K mg a_TOLD) (A : At K mg "are_overs" "are_overs" s_are_overs ["frame", "value", "words"] f fd) (G_first_wrong_over : Df P w K mg base "first_wrong_over" ["frame", "value", "words"] f_first_wrong_over fd_first_wrong_over 3 F_first_wrong_over) : Df P w K mg base "are_overs" ["frame", "value", "words"] f fd 4 F_are_overs := df_mk (k := 3) A sc_are_overs fun cdv A1 outer s H E hr => by
  have S := sc_are_overs
  have hu := hu65 hr
  exact (bx_one (sx_ret (ex_and (ex_isi .tup (by rfl) T.b_isinstance (by rfl) T.b_tuple rfl (ex_var 1)) (ex_one (ex_is hu (ex_callD G_first_wrong_over (hr.mono (by decide)) (by rfl) (ax_cons (ex_var 0) (ax_cons (ex_var 1) (ax_cons (ex_var 2) ax_nil)))) ex_non)))))
/-! is_ascending -/
abbrev s_is_ascending : Stmt := topS 6
theorem sc_is_ascending : FnScope ["row", "one", "two"] ["row"] (defScope s_is_ascending) := ⟨rfl, rfl, rfl, by decide +kernel, rfl, by decide +kernel, by decide +kernel⟩
noncomputable def M_is_ascending : MS := (sRet (mCB (f1 allD) (aCons (mLc (iZip (aCons (mVar 0) (aCons (mSl (mVar 0) (oSome (mC (.int 1))) oNone) aNil))) (.tp [(.nm 1), (.nm 2)]) [1, 2] mYes (mOp ltD (mVar 1) (mVar 2))) aNil)))
noncomputable def F_is_ascending : Fn := fnOf 3 1 M_is_ascending
theorem ok_is_ascending {f : Addr} {fd : FuncData} (T : Txt0 K mg a_TOLD) (A : At K mg "is_ascending" "is_ascending" s_is_ascending ["row"] f fd) : Df P w K mg base "is_ascending" ["row"] f fd 1 F_is_ascending := df_mk (k := 0) A sc_is_ascending fun cdv A1 outer s H E hr => by
  have S := sc_is_ascending
  have hu := hu65 hr
  exact (bx_one (sx_ret (ex_all rfl (by rfl) T.b_all (ax_cons (ex_lc (own := [("one", 1), ("two", 2)]) rfl S.nd (ix_zip (by rfl) T.b_zip (ax_cons (ex_var 0) (ax_cons (ex_sl (ex_var 0) (ox_some ex_int) ox_none) ax_nil))) (blkOk_by (by kernel_rfl)) (fun _ _ _ _ _ => (gx_tp rfl (gx_cons (gx_nm 1 S.nd rfl (by first | exact Or.inl rfl | exact Or.inr rfl)) (gx_cons (gx_nm 2 S.nd rfl (by first | exact Or.inl rfl | exact Or.inr rfl)) gx_nil)))) (fun _ _ _ _ _ => qx_nil) (fun _ _ _ _ _ => (ex_lt hu (ex_var 1) (ex_var 2))) (fun _ => rfl) (by decide)) ax_nil))))
/-! is_tuple_of -/
abbrev s_is_tuple_of : Stmt := topS 3
theorem sc_is_tuple_of : FnScope ["value", "many"] ["value", "many"] (defScope s_is_tuple_of) := ⟨rfl, rfl, rfl, by decide +kernel, rfl, by decide +kernel, by decide +kernel⟩
noncomputable def M_is_tuple_of : MS := (sRet (mAnd (mUn (isiD .tup) (mVar 0)) (mOp eqD (mCB (f1 lenD) (aCons (mVar 0) aNil)) (mVar 1))))
noncomputable def F_is_tuple_of : Fn := fnOf 2 2 M_is_tuple_of
theorem ok_is_tuple_of {f : Addr} {fd : FuncData} (T : Txt0 K mg a_TOLD) (A : At K mg "is_tuple_of" "is_tuple_of" s_is_tuple_of ["value", "many"] f fd) : Df P w K mg base "is_tuple_of" ["value", "many"] f fd 1 F_is_tuple_of := df_mk (k := 0) A sc_is_tuple_of fun cdv A1 outer s H E hr => by
  have S := sc_is_tuple_of
  have hu := hu65 hr
  exact (bx_one (sx_ret (ex_and (ex_isi .tup (by rfl) T.b_isinstance (by rfl) T.b_tuple rfl (ex_var 0)) (ex_one (ex_eq hu (ex_len (by rfl) T.b_len (ax_cons (ex_var 0) ax_nil)) (ex_var 1))))))
/-! is_whole -/
abbrev s_is_whole : Stmt := topS 1
theorem sc_is_whole : FnScope ["value"] ["value"] (defScope s_is_whole) := ⟨rfl, rfl, rfl, by decide +kernel, rfl, by decide +kernel, by decide +kernel⟩
noncomputable def M_is_whole : MS := (sRet (mAnd (mUn (isiD .int) (mVar 0)) (mNot (mUn (isiD .bool) (mVar 0)))))
noncomputable def F_is_whole : Fn := fnOf 1 1 M_is_whole
theorem ok_is_whole {f : Addr} {fd : FuncData} (T : Txt0 K mg a_TOLD) (A : At K mg "is_whole" "is_whole" s_is_whole ["value"] f fd) : Df P w K mg base "is_whole" ["value"] f fd 1 F_is_whole := df_mk (k := 0) A sc_is_whole fun cdv A1 outer s H E hr => by
  have S := sc_is_whole
  have hu := hu65 hr
  exact (bx_one (sx_ret (ex_and (ex_isi .int (by rfl) T.b_isinstance (by rfl) T.b_int rfl (ex_var 0)) (ex_one (ex_not (ex_isi .bool (by rfl) T.b_isinstance (by rfl) T.b_bool rfl (ex_var 0)))))))
/-! are_wholes -/
abbrev s_are_wholes : Stmt := topS 4
theorem sc_are_wholes : FnScope ["value", "many", "each"] ["value", "many"] (defScope s_are_wholes) := ⟨rfl, rfl, rfl, by decide +kernel, rfl, by decide +kernel, by decide +kernel⟩
noncomputable def M_are_wholes : MS := (sRet (mAnd (mCall F_is_tuple_of (aCons (mVar 0) (aCons (mVar 1) aNil))) (mCB (f1 allD) (aCons (mLc (iSeq (mVar 0)) (.nm 2) [2] mYes (mCall F_is_whole (aCons (mVar 2) aNil))) aNil))))
noncomputable def F_are_wholes : Fn := fnOf 3 2 M_are_wholes
theorem ok_are_wholes {f f_is_tuple_of f_is_whole : Addr} {fd fd_is_tuple_of fd_is_whole : FuncData} (T : Txt0 K mg a_TOLD) (A : At K mg "are_wholes" "are_wholes" s_are_wholes ["value", "many"] f fd) (G_is_tuple_of : Df P w K mg base "is_tuple_of" ["value", "many"] f_is_tuple_of fd_is_tuple_of 1 F_is_tuple_of) (G_is_whole : Df P w K mg base "is_whole" ["value"] f_is_whole fd_is_whole 1 F_is_whole) : Df P w K mg base "are_wholes" ["value", "many"] f fd 2 F_are_wholes := df_mk (k := 1) A sc_are_wholes fun cdv A1 outer s H E hr => by
  have S := sc_are_wholes
  have hu := hu65 hr
  exact (bx_one (sx_ret (ex_and (ex_callD G_is_tuple_of (hr.mono (by decide)) (by rfl) (ax_cons (ex_var 0) (ax_cons (ex_var 1) ax_nil))) (ex_one (ex_all rfl (by rfl) T.b_all (ax_cons (ex_lc (own := [("each", 2)]) rfl S.nd (ix_seq' (ex_var 0)) (blkOk_by (by kernel_rfl)) (fun _ _ _ _ _ => (gx_nm 2 S.nd rfl (by first | exact Or.inl rfl | exact Or.inr rfl))) (fun _ _ _ _ _ => qx_nil) (fun _ _ _ _ _ => (ex_callD G_is_whole (hr.mono (by decide)) (by rfl) (ax_cons (ex_var 2) ax_nil))) (fun _ => rfl) (by decide)) ax_nil))))))
/-! are_nails -/
abbrev s_are_nails : Stmt := topS 32
theorem sc_are_nails : FnScope ["frame", "value", "known", "crossing", "each"] ["frame", "value"] (defScope s_are_nails) := ⟨rfl, rfl, rfl, by decide +kernel, rfl, by decide +kernel, by decide +kernel⟩
noncomputable def M_are_nails : MS := (sSeq (sIf (tmOr (tmNot (mTest (mUn (isiD .tup) (mVar 1)))) (tmNot (mTest (mCB (f1 allD) (aCons (mLc (iSeq (mVar 1)) (.nm 4) [4] mYes (mCall F_are_wholes (aCons (mVar 4) (aCons (mC (.int 2)) aNil)))) aNil))))) (sRet (mC (.bl false))) sNx) (sSeq (sAsg (mDc true (iSeq (mCall F_crossings_by (aCons (mVar 0) aNil))) (.nm 3) [3] mYes (mVar 3) (mC (.bl true))) (.nm 2)) (sRet (mAnd (mCB (f1 allD) (aCons (mLc (iSeq (mVar 1)) (.nm 4) [4] mYes (mOpTH inD (mVar 4) (mVar 2))) aNil)) (mCall F_is_ascending (aCons (mVar 1) aNil))))))
noncomputable def F_are_nails : Fn := fnOf 5 2 M_are_nails
theorem ok_are_nails {f f_are_wholes f_crossings_by f_is_ascending : Addr} {fd fd_are_wholes fd_crossings_by fd_is_ascending : FuncData} (T : Txt0 K mg a_TOLD) (A : At K mg "are_nails" "are_nails" s_are_nails ["frame", "value"] f fd) (G_are_wholes : Df P w K mg base "are_wholes" ["value", "many"] f_are_wholes fd_are_wholes 2 F_are_wholes) (G_crossings_by : Df P w K mg base "crossings_by" ["frame"] f_crossings_by fd_crossings_by 2 F_crossings_by) (G_is_ascending : Df P w K mg base "is_ascending" ["row"] f_is_ascending fd_is_ascending 1 F_is_ascending) : Df P w K mg base "are_nails" ["frame", "value"] f fd 3 F_are_nails := df_mk (k := 2) A sc_are_nails fun cdv A1 outer s H E hr => by
  have S := sc_are_nails
  have hu := hu65 hr
  exact (bx_cons (sx_if (tx_w (wx_or (tx_not (tx_val (ex_isi .tup (by rfl) T.b_isinstance (by rfl) T.b_tuple rfl (ex_var 1)))) (wx_or1 (tx_not (tx_val (ex_all rfl (by rfl) T.b_all (ax_cons (ex_lc (own := [("each", 4)]) rfl S.nd (ix_seq' (ex_var 1)) (blkOk_by (by kernel_rfl)) (fun _ _ _ _ _ => (gx_nm 4 S.nd rfl (by first | exact Or.inl rfl | exact Or.inr rfl))) (fun _ _ _ _ _ => qx_nil) (fun _ _ _ _ _ => (ex_callD G_are_wholes (hr.mono (by decide)) (by rfl) (ax_cons (ex_var 4) (ax_cons ex_int ax_nil)))) (fun _ => rfl) (by decide)) ax_nil))))))) (bx_one (sx_ret ex_bl)) bx_nil) (bx_cons (sx_asg (ex_dc (own := [("crossing", 3)]) true hu rfl S.nd (ix_seq' (ex_callD G_crossings_by (hr.mono (by decide)) (by rfl) (ax_cons (ex_var 0) ax_nil))) (blkOk_by (by kernel_rfl)) (fun _ _ _ _ _ => (gx_nm 3 S.nd rfl (by first | exact Or.inl rfl | exact Or.inr rfl))) (fun _ _ _ _ _ => qx_nil) (fun _ _ _ _ _ => (ex_var 3)) (fun _ _ _ _ _ => ex_bl) (fun _ => rfl) (by decide)) (gx_nm 2 S.nd rfl (by first | exact Or.inl rfl | exact Or.inr rfl))) (bx_one (sx_ret (ex_and (ex_all rfl (by rfl) T.b_all (ax_cons (ex_lc (own := [("each", 4)]) rfl S.nd (ix_seq' (ex_var 1)) (blkOk_by (by kernel_rfl)) (fun _ _ _ _ _ => (gx_nm 4 S.nd rfl (by first | exact Or.inl rfl | exact Or.inr rfl))) (fun _ _ _ _ _ => qx_nil) (fun _ _ _ _ _ => (ex_in hu (ex_var 4) (ex_var 2))) (fun _ => rfl) (by decide)) ax_nil)) (ex_one (ex_callD G_is_ascending (hr.mono (by decide)) (by rfl) (ax_cons (ex_var 1) ax_nil))))))))
/-! do_follow -/
abbrev s_do_follow : Stmt := topS 13
theorem sc_do_follow : FnScope ["strip", "other"] ["strip", "other"] (defScope s_do_follow) := ⟨rfl, rfl, rfl, by decide +kernel, rfl, by decide +kernel, by decide +kernel⟩
noncomputable def M_do_follow : MS := (sRet (mOr (mOp ltD (mOpHT ixD (mVar 0) (mC (.int 0))) (mOpHT ixD (mVar 1) (mC (.int 0)))) (mAnd (mOp eqD (mOpHT ixD (mVar 0) (mC (.int 0))) (mOpHT ixD (mVar 1) (mC (.int 0)))) (mOp ltD (mOpT addD (mOpHT ixD (mVar 0) (mC (.int 2))) (mC (.int 1))) (mOpHT ixD (mVar 1) (mC (.int 1)))))))
noncomputable def F_do_follow : Fn := fnOf 2 2 M_do_follow
theorem ok_do_follow {f : Addr} {fd : FuncData} (T : Txt0 K mg a_TOLD) (A : At K mg "do_follow" "do_follow" s_do_follow ["strip", "other"] f fd) : Df P w K mg base "do_follow" ["strip", "other"] f fd 1 F_do_follow := df_mk (k := 0) A sc_do_follow fun cdv A1 outer s H E hr => by
  have S := sc_do_follow
  have hu := hu65 hr
  exact (bx_one (sx_ret (ex_or (ex_lt hu (ex_ix hu (ex_var 0) ex_int) (ex_ix hu (ex_var 1) ex_int)) (ex_one (ex_and (ex_eq hu (ex_ix hu (ex_var 0) ex_int) (ex_ix hu (ex_var 1) ex_int)) (ex_one (ex_lt hu (ex_add (ex_ix hu (ex_var 0) ex_int) ex_int) (ex_ix hu (ex_var 1) ex_int))))))))
/-! is_between -/
abbrev s_is_between : Stmt := topS 2
theorem sc_is_between : FnScope ["value", "low", "high"] ["value", "low", "high"] (defScope s_is_between) := ⟨rfl, rfl, rfl, by decide +kernel, rfl, by decide +kernel, by decide +kernel⟩
noncomputable def M_is_between : MS := (sRet (mAnd (mCall F_is_whole (aCons (mVar 0) aNil)) (mChain leD leD (mVar 1) (mVar 0) (mVar 2))))
noncomputable def F_is_between : Fn := fnOf 3 3 M_is_between
theorem ok_is_between {f f_is_whole : Addr} {fd fd_is_whole : FuncData} (T : Txt0 K mg a_TOLD) (A : At K mg "is_between" "is_between" s_is_between ["value", "low", "high"] f fd) (G_is_whole : Df P w K mg base "is_whole" ["value"] f_is_whole fd_is_whole 1 F_is_whole) : Df P w K mg base "is_between" ["value", "low", "high"] f fd 2 F_is_between := df_mk (k := 1) A sc_is_between fun cdv A1 outer s H E hr => by
  have S := sc_is_between
  have hu := hu65 hr
  exact (bx_one (sx_ret (ex_and (ex_callD G_is_whole (hr.mono (by decide)) (by rfl) (ax_cons (ex_var 0) ax_nil)) (ex_one (ex_chain op_leA op_leA r_le r_le (ex_var 1) (ex_var 0) (ex_var 2))))))
/-! is_strip -/
abbrev s_is_strip : Stmt := topS 12
theorem sc_is_strip : FnScope ["value", "each"] ["value"] (defScope s_is_strip) := ⟨rfl, rfl, rfl, by decide +kernel, rfl, by decide +kernel, by decide +kernel⟩
noncomputable def M_is_strip : MS := (sSeq (sIf (tmOr (tmNot (mTest (mCall F_are_wholes (aCons (mVar 0) (aCons (mC (.int 3)) aNil))))) (tmNot (mTest (mCB (f1 allD) (aCons (mLc (iSeq (mVar 0)) (.nm 1) [1] mYes (mCall F_is_between (aCons (mVar 1) (aCons (mC (.int 0)) (aCons (mC (.int 30)) aNil))))) aNil))))) (sRet (mC (.bl false))) sNx) (sRet (mOp leD (mOpHT ixD (mVar 0) (mC (.int 1))) (mOpHT ixD (mVar 0) (mC (.int 2))))))
noncomputable def F_is_strip : Fn := fnOf 2 1 M_is_strip
theorem ok_is_strip {f f_are_wholes f_is_between : Addr} {fd fd_are_wholes fd_is_between : FuncData} (T : Txt0 K mg a_TOLD) (A : At K mg "is_strip" "is_strip" s_is_strip ["value"] f fd) (G_are_wholes : Df P w K mg base "are_wholes" ["value", "many"] f_are_wholes fd_are_wholes 2 F_are_wholes) (G_is_between : Df P w K mg base "is_between" ["value", "low", "high"] f_is_between fd_is_between 2 F_is_between) : Df P w K mg base "is_strip" ["value"] f fd 3 F_is_strip := df_mk (k := 2) A sc_is_strip fun cdv A1 outer s H E hr => by
  have S := sc_is_strip
  have hu := hu65 hr
  exact (bx_cons (sx_if (tx_w (wx_or (tx_not (tx_val (ex_callD G_are_wholes (hr.mono (by decide)) (by rfl) (ax_cons (ex_var 0) (ax_cons ex_int ax_nil))))) (wx_or1 (tx_not (tx_val (ex_all rfl (by rfl) T.b_all (ax_cons (ex_lc (own := [("each", 1)]) rfl S.nd (ix_seq' (ex_var 0)) (blkOk_by (by kernel_rfl)) (fun _ _ _ _ _ => (gx_nm 1 S.nd rfl (by first | exact Or.inl rfl | exact Or.inr rfl))) (fun _ _ _ _ _ => qx_nil) (fun _ _ _ _ _ => (ex_callD G_is_between (hr.mono (by decide)) (by rfl) (ax_cons (ex_var 1) (ax_cons ex_int (ax_cons (ex_gint (by rfl) T.c_MOST_PLACE) ax_nil))))) (fun _ => rfl) (by decide)) ax_nil))))))) (bx_one (sx_ret ex_bl)) bx_nil) (bx_one (sx_ret (ex_le hu (ex_ix hu (ex_var 0) ex_int) (ex_ix hu (ex_var 0) ex_int)))))
/-! are_strips -/
abbrev s_are_strips : Stmt := topS 14
theorem sc_are_strips : FnScope ["value", "one", "two", "each"] ["value"] (defScope s_are_strips) := ⟨rfl, rfl, rfl, by decide +kernel, rfl, by decide +kernel, by decide +kernel⟩
noncomputable def M_are_strips : MS := (sSeq (sIf (tmOr (tmNot (mTest (mUn (isiD .tup) (mVar 0)))) (tmOr (mTest (mOp gtD (mCB (f1 lenD) (aCons (mVar 0) aNil)) (mC (.int 8)))) (tmNot (mTest (mCB (f1 allD) (aCons (mLc (iSeq (mVar 0)) (.nm 3) [3] mYes (mCall F_is_strip (aCons (mVar 3) aNil))) aNil)))))) (sRet (mC (.bl false))) sNx) (sRet (mCB (f1 allD) (aCons (mLc (iZip (aCons (mVar 0) (aCons (mSl (mVar 0) (oSome (mC (.int 1))) oNone) aNil))) (.tp [(.nm 1), (.nm 2)]) [1, 2] mYes (mCall F_do_follow (aCons (mVar 1) (aCons (mVar 2) aNil)))) aNil))))
noncomputable def F_are_strips : Fn := fnOf 4 1 M_are_strips
theorem ok_are_strips {f f_do_follow f_is_strip : Addr} {fd fd_do_follow fd_is_strip : FuncData} (T : Txt0 K mg a_TOLD) (A : At K mg "are_strips" "are_strips" s_are_strips ["value"] f fd) (G_do_follow : Df P w K mg base "do_follow" ["strip", "other"] f_do_follow fd_do_follow 1 F_do_follow) (G_is_strip : Df P w K mg base "is_strip" ["value"] f_is_strip fd_is_strip 3 F_is_strip) : Df P w K mg base "are_strips" ["value"] f fd 4 F_are_strips := df_mk (k := 3) A sc_are_strips fun cdv A1 outer s H E hr => by
  have S := sc_are_strips
  have hu := hu65 hr
  exact (bx_cons (sx_if (tx_w (wx_or (tx_not (tx_val (ex_isi .tup (by rfl) T.b_isinstance (by rfl) T.b_tuple rfl (ex_var 0)))) (wx_or (tx_gt hu (ex_len (by rfl) T.b_len (ax_cons (ex_var 0) ax_nil)) (ex_gint (by rfl) T.c_MOST_OF_KIND)) (wx_or1 (tx_not (tx_val (ex_all rfl (by rfl) T.b_all (ax_cons (ex_lc (own := [("each", 3)]) rfl S.nd (ix_seq' (ex_var 0)) (blkOk_by (by kernel_rfl)) (fun _ _ _ _ _ => (gx_nm 3 S.nd rfl (by first | exact Or.inl rfl | exact Or.inr rfl))) (fun _ _ _ _ _ => qx_nil) (fun _ _ _ _ _ => (ex_callD G_is_strip (hr.mono (by decide)) (by rfl) (ax_cons (ex_var 3) ax_nil))) (fun _ => rfl) (by decide)) ax_nil)))))))) (bx_one (sx_ret ex_bl)) bx_nil) (bx_one (sx_ret (ex_all rfl (by rfl) T.b_all (ax_cons (ex_lc (own := [("one", 1), ("two", 2)]) rfl S.nd (ix_zip (by rfl) T.b_zip (ax_cons (ex_var 0) (ax_cons (ex_sl (ex_var 0) (ox_some ex_int) ox_none) ax_nil))) (blkOk_by (by kernel_rfl)) (fun _ _ _ _ _ => (gx_tp rfl (gx_cons (gx_nm 1 S.nd rfl (by first | exact Or.inl rfl | exact Or.inr rfl)) (gx_cons (gx_nm 2 S.nd rfl (by first | exact Or.inl rfl | exact Or.inr rfl)) gx_nil)))) (fun _ _ _ _ _ => qx_nil) (fun _ _ _ _ _ => (ex_callD G_do_follow (hr.mono (by decide)) (by rfl) (ax_cons (ex_var 1) (ax_cons (ex_var 2) ax_nil)))) (fun _ => rfl) (by decide)) ax_nil)))))
/-! is_framed -/
abbrev s_is_framed : Stmt := topS 15
theorem sc_is_framed : FnScope ["value", "strips"] ["value"] (defScope s_is_framed) := ⟨rfl, rfl, rfl, by decide +kernel, rfl, by decide +kernel, by decide +kernel⟩
noncomputable def M_is_framed : MS := (sSeq (sIf (tmOr (tmNot (mTest (mCall F_is_tuple_of (aCons (mVar 0) (aCons (mC (.int 2)) aNil))))) (tmNot (mTest (mCB (f1 allD) (aCons (mLc (iSeq (mVar 0)) (.nm 1) [1] mYes (mCall F_are_strips (aCons (mVar 1) aNil))) aNil))))) (sRet (mC (.bl false))) sNx) (sRet (mOp gtD (mOpT addD (mCB (f1 lenD) (aCons (mOpHT ixD (mVar 0) (mC (.int 0))) aNil)) (mCB (f1 lenD) (aCons (mOpHT ixD (mVar 0) (mC (.int 1))) aNil))) (mC (.int 0)))))
noncomputable def F_is_framed : Fn := fnOf 2 1 M_is_framed
theorem ok_is_framed {f f_are_strips f_is_tuple_of : Addr} {fd fd_are_strips fd_is_tuple_of : FuncData} (T : Txt0 K mg a_TOLD) (A : At K mg "is_framed" "is_framed" s_is_framed ["value"] f fd) (G_are_strips : Df P w K mg base "are_strips" ["value"] f_are_strips fd_are_strips 4 F_are_strips) (G_is_tuple_of : Df P w K mg base "is_tuple_of" ["value", "many"] f_is_tuple_of fd_is_tuple_of 1 F_is_tuple_of) : Df P w K mg base "is_framed" ["value"] f fd 5 F_is_framed := df_mk (k := 4) A sc_is_framed fun cdv A1 outer s H E hr => by
  have S := sc_is_framed
  have hu := hu65 hr
  exact (bx_cons (sx_if (tx_w (wx_or (tx_not (tx_val (ex_callD G_is_tuple_of (hr.mono (by decide)) (by rfl) (ax_cons (ex_var 0) (ax_cons ex_int ax_nil))))) (wx_or1 (tx_not (tx_val (ex_all rfl (by rfl) T.b_all (ax_cons (ex_lc (own := [("strips", 1)]) rfl S.nd (ix_seq' (ex_var 0)) (blkOk_by (by kernel_rfl)) (fun _ _ _ _ _ => (gx_nm 1 S.nd rfl (by first | exact Or.inl rfl | exact Or.inr rfl))) (fun _ _ _ _ _ => qx_nil) (fun _ _ _ _ _ => (ex_callD G_are_strips (hr.mono (by decide)) (by rfl) (ax_cons (ex_var 1) ax_nil))) (fun _ => rfl) (by decide)) ax_nil))))))) (bx_one (sx_ret ex_bl)) bx_nil) (bx_one (sx_ret (ex_gt hu (ex_add (ex_len (by rfl) T.b_len (ax_cons (ex_ix hu (ex_var 0) ex_int) ax_nil)) (ex_len (by rfl) T.b_len (ax_cons (ex_ix hu (ex_var 0) ex_int) ax_nil))) ex_int))))
/-! is_with -/
abbrev s_is_with : Stmt := topS 33
theorem sc_is_with : FnScope ["value", "words"] ["value", "words"] (defScope s_is_with) := ⟨rfl, rfl, rfl, by decide +kernel, rfl, by decide +kernel, by decide +kernel⟩
noncomputable def M_is_with : MS := (sSeq (sIf (tmOr (tmNot (mTest (mCall F_is_tuple_of (aCons (mVar 0) (aCons (mC (.int 3)) aNil))))) (tmNot (mTest (mCall F_is_framed (aCons (mOpHT ixD (mVar 0) (mC (.int 0))) aNil))))) (sRet (mC (.bl false))) sNx) (sRet (mAnd (mCall F_are_overs (aCons (mOpHT ixD (mVar 0) (mC (.int 0))) (aCons (mOpHT ixD (mVar 0) (mC (.int 1))) (aCons (mVar 1) aNil)))) (mCall F_are_nails (aCons (mOpHT ixD (mVar 0) (mC (.int 0))) (aCons (mOpHT ixD (mVar 0) (mC (.int 2))) aNil))))))
noncomputable def F_is_with : Fn := fnOf 2 2 M_is_with
theorem ok_is_with {f f_are_nails f_are_overs f_is_framed f_is_tuple_of : Addr} {fd fd_are_nails fd_are_overs fd_is_framed fd_is_tuple_of : FuncData} (T : Txt0 K mg a_TOLD) (A : At K mg "is_with" "is_with" s_is_with ["value", "words"] f fd) (G_are_nails : Df P w K mg base "are_nails" ["frame", "value"] f_are_nails fd_are_nails 3 F_are_nails) (G_are_overs : Df P w K mg base "are_overs" ["frame", "value", "words"] f_are_overs fd_are_overs 4 F_are_overs) (G_is_framed : Df P w K mg base "is_framed" ["value"] f_is_framed fd_is_framed 5 F_is_framed) (G_is_tuple_of : Df P w K mg base "is_tuple_of" ["value", "many"] f_is_tuple_of fd_is_tuple_of 1 F_is_tuple_of) : Df P w K mg base "is_with" ["value", "words"] f fd 6 F_is_with := df_mk (k := 5) A sc_is_with fun cdv A1 outer s H E hr => by
  have S := sc_is_with
  have hu := hu65 hr
  exact (bx_cons (sx_if (tx_w (wx_or (tx_not (tx_val (ex_callD G_is_tuple_of (hr.mono (by decide)) (by rfl) (ax_cons (ex_var 0) (ax_cons ex_int ax_nil))))) (wx_or1 (tx_not (tx_val (ex_callD G_is_framed (hr.mono (by decide)) (by rfl) (ax_cons (ex_ix hu (ex_var 0) ex_int) ax_nil))))))) (bx_one (sx_ret ex_bl)) bx_nil) (bx_one (sx_ret (ex_and (ex_callD G_are_overs (hr.mono (by decide)) (by rfl) (ax_cons (ex_ix hu (ex_var 0) ex_int) (ax_cons (ex_ix hu (ex_var 0) ex_int) (ax_cons (ex_var 1) ax_nil)))) (ex_one (ex_callD G_are_nails (hr.mono (by decide)) (by rfl) (ax_cons (ex_ix hu (ex_var 0) ex_int) (ax_cons (ex_ix hu (ex_var 0) ex_int) ax_nil))))))))
/-! is_worked -/
abbrev s_is_worked : Stmt := topS 34
theorem sc_is_worked : FnScope ["value"] ["value"] (defScope s_is_worked) := ⟨rfl, rfl, rfl, by decide +kernel, rfl, by decide +kernel, by decide +kernel⟩
noncomputable def M_is_worked : MS := (sRet (mCall F_is_with (aCons (mVar 0) (aCons (mK D_TOLD) aNil))))
noncomputable def F_is_worked : Fn := fnOf 1 1 M_is_worked
theorem ok_is_worked {f f_is_with : Addr} {fd fd_is_with : FuncData} (T : Txt0 K mg a_TOLD) (A : At K mg "is_worked" "is_worked" s_is_worked ["value"] f fd) (G_is_with : Df P w K mg base "is_with" ["value", "words"] f_is_with fd_is_with 6 F_is_with) : Df P w K mg base "is_worked" ["value"] f fd 7 F_is_worked := df_mk (k := 6) A sc_is_worked fun cdv A1 outer s H E hr => by
  have S := sc_is_worked
  have hu := hu65 hr
  exact (bx_one (sx_ret (ex_callD G_is_with (hr.mono (by decide)) (by rfl) (ax_cons (ex_var 0) (ax_cons (ex_gkon (by rfl) T.c_TOLD T.r_TOLD) ax_nil)))))
/-! check_work -/
abbrev s_check_work : Stmt := topS 36
theorem sc_check_work : FnScope ["work"] ["work"] (defScope s_check_work) := ⟨rfl, rfl, rfl, by decide +kernel, rfl, by decide +kernel, by decide +kernel⟩
noncomputable def M_check_work : MS := (sIf (tmNot (mTest (mCall F_is_worked (aCons (mVar 0) aNil)))) sNo sNx)
noncomputable def F_check_work : Fn := fnOf 1 1 M_check_work
theorem ok_check_work {f f_is_worked : Addr} {fd fd_is_worked : FuncData} (T : Txt0 K mg a_TOLD) (A : At K mg "check_work" "check_work" s_check_work ["work"] f fd) (G_is_worked : Df P w K mg base "is_worked" ["value"] f_is_worked fd_is_worked 7 F_is_worked) : Df P w K mg base "check_work" ["work"] f fd 8 F_check_work := df_mk (k := 7) A sc_check_work fun cdv A1 outer s H E hr => by
  have S := sc_check_work
  have hu := hu65 hr
  exact (bx_one (sx_if (tx_not (tx_val (ex_callD G_is_worked (hr.mono (by decide)) (by rfl) (ax_cons (ex_var 0) ax_nil)))) (bx_one sx_no) bx_nil))
/-! choices_of -/
abbrev s_choices_of : Stmt := topS 20
theorem sc_choices_of : FnScope ["many", "some", "found", "_", "row", "index"] ["many", "some"] (defScope s_choices_of) := ⟨rfl, rfl, rfl, by decide +kernel, rfl, by decide +kernel, by decide +kernel⟩
noncomputable def M_choices_of : MS := (sSeq (sAsg (mLst (aCons (mTup aNil) aNil)) (.nm 2)) (sSeq (sFor (iRange1 (aCons (mVar 0) aNil)) (.nm 3) (sAsg (mLc2 (iSeq (mVar 2)) (.nm 4) [4, 5] mYes (iRange2 (aCons (mIf (mTest (mOp neD (mVar 4) (mTup aNil))) (mOpT addD (mOpHT ixD (mVar 4) (mUn negD (mC (.int 1)))) (mC (.int 1))) (mC (.int 0))) (aCons (mVar 1) aNil))) (.nm 5) [5] mYes (mTup (aStar (mVar 4) (aCons (mVar 5) aNil)))) (.nm 2))) (sRet (mVar 2))))
noncomputable def F_choices_of : Fn := fnOf 6 2 M_choices_of
theorem ok_choices_of {f : Addr} {fd : FuncData} (T : Txt0 K mg a_TOLD) (A : At K mg "choices_of" "choices_of" s_choices_of ["many", "some"] f fd) : Df P w K mg base "choices_of" ["many", "some"] f fd 1 F_choices_of := df_mk (k := 0) A sc_choices_of fun cdv A1 outer s H E hr => by
  have S := sc_choices_of
  have hu := hu65 hr
  exact (bx_cons (sx_asg (ex_lst (ax_cons (ex_tup ax_nil) ax_nil)) (gx_nm 2 S.nd rfl (by first | exact Or.inl rfl | exact Or.inr rfl))) (bx_cons (sx_for rfl (ix_range1 (by rfl) T.b_range (ax_cons (ex_var 0) ax_nil)) (gx_nm 3 S.nd rfl (by first | exact Or.inl rfl | exact Or.inr rfl)) (bx_one (sx_setLc2 (own := [("row", 4), ("index", 5)]) (vs1 := [5]) rfl S.nd (ix_seq' (ex_var 2)) (blkOk_by (by kernel_rfl)) (by decide) (fun _ _ _ _ _ => (gx_nm 4 S.nd rfl (by first | exact Or.inl rfl | exact Or.inr rfl))) (fun _ _ _ _ _ => qx_nil) (fun _ _ _ _ _ => (ix_range2 (by rfl) T.b_range (ax_cons (ex_if (tx_ne hu (ex_var 4) (ex_tup ax_nil)) (ex_add (ex_ix hu (ex_var 4) (ex_neg ex_int)) ex_int) ex_int) (ax_cons (ex_var 1) ax_nil)))) (fun _ _ _ _ _ => (gx_nm 5 S.nd rfl (by first | exact Or.inl rfl | exact Or.inr rfl))) (fun _ _ _ _ _ => qx_nil) (fun _ _ _ _ _ => (ex_tup (ax_star (ex_var 4) (ax_cons (ex_var 5) ax_nil)))) (fun _ => rfl) (fun _ _ => rfl) rfl rfl (sw_true rfl rfl rfl (by decide +kernel)) (by decide) (by decide)))) (bx_one (sx_ret (ex_var 2)))))
/-! told_crossings -/
abbrev s_told_crossings : Stmt := topS 19
theorem sc_told_crossings : FnScope ["work", "crossings", "crossing", "over"] ["work"] (defScope s_told_crossings) := ⟨rfl, rfl, rfl, by decide +kernel, rfl, by decide +kernel, by decide +kernel⟩
noncomputable def M_told_crossings : MS := (sSeq (sAsg (mCall F_crossings_by (aCons (mOpHT ixD (mVar 0) (mC (.int 0))) aNil)) (.nm 1)) (sRet (mDc true (iZip (aCons (mVar 1) (aCons (mOpHT ixD (mVar 0) (mC (.int 1))) aNil))) (.tp [(.nm 2), (.nm 3)]) [2, 3] mYes (mVar 2) (mTup (aCons (mVar 3) (aCons (mOpTH inD (mVar 2) (mOpHT ixD (mVar 0) (mC (.int 2)))) aNil))))))
noncomputable def F_told_crossings : Fn := fnOf 4 1 M_told_crossings
theorem ok_told_crossings {f f_crossings_by : Addr} {fd fd_crossings_by : FuncData} (T : Txt0 K mg a_TOLD) (A : At K mg "told_crossings" "told_crossings" s_told_crossings ["work"] f fd) (G_crossings_by : Df P w K mg base "crossings_by" ["frame"] f_crossings_by fd_crossings_by 2 F_crossings_by) : Df P w K mg base "told_crossings" ["work"] f fd 3 F_told_crossings := df_mk (k := 2) A sc_told_crossings fun cdv A1 outer s H E hr => by
  have S := sc_told_crossings
  have hu := hu65 hr
  exact (bx_cons (sx_asg (ex_callD G_crossings_by (hr.mono (by decide)) (by rfl) (ax_cons (ex_ix hu (ex_var 0) ex_int) ax_nil)) (gx_nm 1 S.nd rfl (by first | exact Or.inl rfl | exact Or.inr rfl))) (bx_one (sx_ret (ex_dc (own := [("crossing", 2), ("over", 3)]) true hu rfl S.nd (ix_zip (by rfl) T.b_zip (ax_cons (ex_var 1) (ax_cons (ex_ix hu (ex_var 0) ex_int) ax_nil))) (blkOk_by (by kernel_rfl)) (fun _ _ _ _ _ => (gx_tp rfl (gx_cons (gx_nm 2 S.nd rfl (by first | exact Or.inl rfl | exact Or.inr rfl)) (gx_cons (gx_nm 3 S.nd rfl (by first | exact Or.inl rfl | exact Or.inr rfl)) gx_nil)))) (fun _ _ _ _ _ => qx_nil) (fun _ _ _ _ _ => (ex_var 2)) (fun _ _ _ _ _ => (ex_tup (ax_cons (ex_var 3) (ax_cons (ex_in hu (ex_var 2) (ex_ix hu (ex_var 0) ex_int)) ax_nil)))) (fun _ => rfl) (by decide)))))
/-! sizes_of -/
abbrev s_sizes_of : Stmt := topS 23
theorem sc_sizes_of : FnScope ["work"] ["work"] (defScope s_sizes_of) := ⟨rfl, rfl, rfl, by decide +kernel, rfl, by decide +kernel, by decide +kernel⟩
noncomputable def M_sizes_of : MS := (sRet (mTup (aCons (mCB (f1 lenD) (aCons (mOpHT ixD (mOpHT ixD (mVar 0) (mC (.int 0))) (mC (.int 0))) aNil)) (aCons (mCB (f1 lenD) (aCons (mOpHT ixD (mOpHT ixD (mVar 0) (mC (.int 0))) (mC (.int 1))) aNil)) aNil))))
noncomputable def F_sizes_of : Fn := fnOf 1 1 M_sizes_of
theorem ok_sizes_of {f : Addr} {fd : FuncData} (T : Txt0 K mg a_TOLD) (A : At K mg "sizes_of" "sizes_of" s_sizes_of ["work"] f fd) : Df P w K mg base "sizes_of" ["work"] f fd 1 F_sizes_of := df_mk (k := 0) A sc_sizes_of fun cdv A1 outer s H E hr => by
  have S := sc_sizes_of
  have hu := hu65 hr
  exact (bx_one (sx_ret (ex_tup (ax_cons (ex_len (by rfl) T.b_len (ax_cons (ex_ix hu (ex_ix hu (ex_var 0) ex_int) ex_int) ax_nil)) (ax_cons (ex_len (by rfl) T.b_len (ax_cons (ex_ix hu (ex_ix hu (ex_var 0) ex_int) ex_int) ax_nil)) ax_nil)))))
/-! is_like_at -/
abbrev s_is_like_at : Stmt := topS 21
theorem sc_is_like_at : FnScope ["told", "small", "bar", "post", "at"] ["told", "small", "bar", "post", "at"] (defScope s_is_like_at) := ⟨rfl, rfl, rfl, by decide +kernel, rfl, by decide +kernel, by decide +kernel⟩
noncomputable def M_is_like_at : MS := (sRet (mOp eqD (mGet1 (mVar 0) (mTup (aCons (mVar 2) (aCons (mVar 3) aNil)))) (mGet1 (mVar 1) (mVar 4))))
noncomputable def F_is_like_at : Fn := fnOf 5 5 M_is_like_at
theorem ok_is_like_at {f : Addr} {fd : FuncData} (T : Txt0 K mg a_TOLD) (A : At K mg "is_like_at" "is_like_at" s_is_like_at ["told", "small", "bar", "post", "at"] f fd) : Df P w K mg base "is_like_at" ["told", "small", "bar", "post", "at"] f fd 1 F_is_like_at := df_mk (k := 0) A sc_is_like_at fun cdv A1 outer s H E hr => by
  have S := sc_is_like_at
  have hu := hu65 hr
  exact (bx_one (sx_ret (ex_eq hu (ex_get1 hu (ex_var 0) (ex_tup (ax_cons (ex_var 2) (ax_cons (ex_var 3) ax_nil)))) (ex_get1 hu (ex_var 1) (ex_var 4)))))
/-! is_like -/
abbrev s_is_like : Stmt := topS 22
theorem sc_is_like : FnScope ["told", "small", "bars", "posts", "at", "bar", "to", "post"] ["told", "small", "bars", "posts"] (defScope s_is_like) := ⟨rfl, rfl, rfl, by decide +kernel, rfl, by decide +kernel, by decide +kernel⟩
noncomputable def M_is_like : MS := (sSeq (sFor (iEnum (aCons (mVar 2) aNil)) (.tp [(.nm 4), (.nm 5)]) (sIf (tmNot (mTest (mCB (f1 allD) (aCons (mLc (iEnum (aCons (mVar 3) aNil)) (.tp [(.nm 6), (.nm 7)]) [6, 7] mYes (mCall F_is_like_at (aCons (mVar 0) (aCons (mVar 1) (aCons (mVar 5) (aCons (mVar 7) (aCons (mTup (aCons (mVar 4) (aCons (mVar 6) aNil))) aNil))))))) aNil)))) (sRet (mC (.bl false))) sNx)) (sRet (mC (.bl true))))
noncomputable def F_is_like : Fn := fnOf 8 4 M_is_like
theorem ok_is_like {f f_is_like_at : Addr} {fd fd_is_like_at : FuncData} (T : Txt0 K mg a_TOLD) (A : At K mg "is_like" "is_like" s_is_like ["told", "small", "bars", "posts"] f fd) (G_is_like_at : Df P w K mg base "is_like_at" ["told", "small", "bar", "post", "at"] f_is_like_at fd_is_like_at 1 F_is_like_at) : Df P w K mg base "is_like" ["told", "small", "bars", "posts"] f fd 2 F_is_like := df_mk (k := 1) A sc_is_like fun cdv A1 outer s H E hr => by
  have S := sc_is_like
  have hu := hu65 hr
  exact (bx_cons (sx_for rfl (ix_enum (by rfl) T.b_enumerate (ax_cons (ex_var 2) ax_nil)) (gx_tp rfl (gx_cons (gx_nm 4 S.nd rfl (by first | exact Or.inl rfl | exact Or.inr rfl)) (gx_cons (gx_nm 5 S.nd rfl (by first | exact Or.inl rfl | exact Or.inr rfl)) gx_nil))) (bx_one (sx_if (tx_not (tx_val (ex_all rfl (by rfl) T.b_all (ax_cons (ex_lc (own := [("to", 6), ("post", 7)]) rfl S.nd (ix_enum (by rfl) T.b_enumerate (ax_cons (ex_var 3) ax_nil)) (blkOk_by (by kernel_rfl)) (fun _ _ _ _ _ => (gx_tp rfl (gx_cons (gx_nm 6 S.nd rfl (by first | exact Or.inl rfl | exact Or.inr rfl)) (gx_cons (gx_nm 7 S.nd rfl (by first | exact Or.inl rfl | exact Or.inr rfl)) gx_nil)))) (fun _ _ _ _ _ => qx_nil) (fun _ _ _ _ _ => (ex_callD G_is_like_at (hr.mono (by decide)) (by rfl) (ax_cons (ex_var 0) (ax_cons (ex_var 1) (ax_cons (ex_var 5) (ax_cons (ex_var 7) (ax_cons (ex_tup (ax_cons (ex_var 4) (ax_cons (ex_var 6) ax_nil))) ax_nil))))))) (fun _ => rfl) (by decide)) ax_nil)))) (bx_one (sx_ret ex_bl)) bx_nil))) (bx_one (sx_ret ex_bl)))
/-! finds_by -/
abbrev s_finds_by : Stmt := topS 24
theorem sc_finds_by : FnScope ["work", "small", "told", "there", "some_bars", "some_posts", "many_bars", "many_posts", "columns", "found", "bars", "posts"] ["work", "small"] (defScope s_finds_by) := ⟨rfl, rfl, rfl, by decide +kernel, rfl, by decide +kernel, by decide +kernel⟩
noncomputable def M_finds_by : MS := (sSeq (sPar (aCons (mCall F_told_crossings (aCons (mVar 0) aNil)) (aCons (mCall F_told_crossings (aCons (mVar 1) aNil)) aNil)) [(.nm 2), (.nm 3)]) (sSeq (sPar (aCons (mCall F_sizes_of (aCons (mVar 0) aNil)) (aCons (mCall F_sizes_of (aCons (mVar 1) aNil)) aNil)) [(.tp [(.nm 4), (.nm 5)]), (.tp [(.nm 6), (.nm 7)])]) (sSeq (sPar (aCons (mCall F_choices_of (aCons (mVar 7) (aCons (mVar 5) aNil))) (aCons (mLstC aNil) aNil)) [(.nm 8), (.nm 9)]) (sSeq (sFor (iSeq (mCall F_choices_of (aCons (mVar 6) (aCons (mVar 4) aNil)))) (.nm 10) (sEx (mMut extD (mVar 9) (aCons (mLc (iSeq (mVar 8)) (.nm 11) [11] (mTest (mCall F_is_like (aCons (mVar 2) (aCons (mVar 3) (aCons (mVar 10) (aCons (mVar 11) aNil)))))) (mTup (aCons (mVar 10) (aCons (mVar 11) aNil)))) aNil)))) (sRet (mFrz (mVar 9)))))))
noncomputable def F_finds_by : Fn := fnOf 12 2 M_finds_by
theorem ok_finds_by {f f_choices_of f_is_like f_sizes_of f_told_crossings : Addr} {fd fd_choices_of fd_is_like fd_sizes_of fd_told_crossings : FuncData} (T : Txt0 K mg a_TOLD) (A : At K mg "finds_by" "finds_by" s_finds_by ["work", "small"] f fd) (G_choices_of : Df P w K mg base "choices_of" ["many", "some"] f_choices_of fd_choices_of 1 F_choices_of) (G_is_like : Df P w K mg base "is_like" ["told", "small", "bars", "posts"] f_is_like fd_is_like 2 F_is_like) (G_sizes_of : Df P w K mg base "sizes_of" ["work"] f_sizes_of fd_sizes_of 1 F_sizes_of) (G_told_crossings : Df P w K mg base "told_crossings" ["work"] f_told_crossings fd_told_crossings 3 F_told_crossings) : Df P w K mg base "finds_by" ["work", "small"] f fd 4 F_finds_by := df_mk (k := 3) A sc_finds_by fun cdv A1 outer s H E hr => by
  have S := sc_finds_by
  have hu := hu65 hr
  exact (bx_cons (sx_parT (ax_cons (ex_callD G_told_crossings (hr.mono (by decide)) (by rfl) (ax_cons (ex_var 0) ax_nil)) (ax_cons (ex_callD G_told_crossings (hr.mono (by decide)) (by rfl) (ax_cons (ex_var 1) ax_nil)) ax_nil)) (gx_tp rfl (gx_cons (gx_nm 2 S.nd rfl (by first | exact Or.inl rfl | exact Or.inr rfl)) (gx_cons (gx_nm 3 S.nd rfl (by first | exact Or.inl rfl | exact Or.inr rfl)) gx_nil)))) (bx_cons (sx_parT (ax_cons (ex_callD G_sizes_of (hr.mono (by decide)) (by rfl) (ax_cons (ex_var 0) ax_nil)) (ax_cons (ex_callD G_sizes_of (hr.mono (by decide)) (by rfl) (ax_cons (ex_var 1) ax_nil)) ax_nil)) (gx_tp rfl (gx_cons (gx_tp rfl (gx_cons (gx_nm 4 S.nd rfl (by first | exact Or.inl rfl | exact Or.inr rfl)) (gx_cons (gx_nm 5 S.nd rfl (by first | exact Or.inl rfl | exact Or.inr rfl)) gx_nil))) (gx_cons (gx_tp rfl (gx_cons (gx_nm 6 S.nd rfl (by first | exact Or.inl rfl | exact Or.inr rfl)) (gx_cons (gx_nm 7 S.nd rfl (by first | exact Or.inl rfl | exact Or.inr rfl)) gx_nil))) gx_nil)))) (bx_cons (sx_par2 rfl S.nd rfl rfl (by decide) rfl rfl (ax_cons (ex_callD G_choices_of (hr.mono (by decide)) (by rfl) (ax_cons (ex_var 7) (ax_cons (ex_var 5) ax_nil))) (ax_cons (ex_lstC ax_nil) ax_nil)) rfl) (bx_cons (sx_for rfl (ix_seq' (ex_callD G_choices_of (hr.mono (by decide)) (by rfl) (ax_cons (ex_var 6) (ax_cons (ex_var 4) ax_nil)))) (gx_nm 10 S.nd rfl (by first | exact Or.inl rfl | exact Or.inr rfl)) (bx_one (sx_expr (ex_extend (ex_var 9) (ax_cons (ex_lc (own := [("posts", 11)]) rfl S.nd (ix_seq' (ex_var 8)) (blkOk_by (by kernel_rfl)) (fun _ _ _ _ _ => (gx_nm 11 S.nd rfl (by first | exact Or.inl rfl | exact Or.inr rfl))) (fun _ _ _ _ _ => (qx_one (tx_val (ex_callD G_is_like (hr.mono (by decide)) (by rfl) (ax_cons (ex_var 2) (ax_cons (ex_var 3) (ax_cons (ex_var 10) (ax_cons (ex_var 11) ax_nil)))))))) (fun _ _ _ _ _ => (ex_tup (ax_cons (ex_var 10) (ax_cons (ex_var 11) ax_nil)))) (fun _ => rfl) (by decide)) ax_nil))))) (bx_one (sx_ret (ex_frz (ex_var 9))))))))
/-! finds -/
abbrev s_finds : Stmt := topS 38
theorem sc_finds : FnScope ["work", "small"] ["work", "small"] (defScope s_finds) := ⟨rfl, rfl, rfl, by decide +kernel, rfl, by decide +kernel, by decide +kernel⟩
noncomputable def M_finds : MS := (sSeq (sEx (mCall F_check_work (aCons (mVar 0) aNil))) (sSeq (sEx (mCall F_check_work (aCons (mVar 1) aNil))) (sRet (mCP tupP (aCons (mCall F_finds_by (aCons (mVar 0) (aCons (mVar 1) aNil))) aNil)))))
noncomputable def F_finds : Fn := fnOf 2 2 M_finds
theorem ok_finds {f f_check_work f_finds_by : Addr} {fd fd_check_work fd_finds_by : FuncData} (T : Txt0 K mg a_TOLD) (A : At K mg "finds" "finds" s_finds ["work", "small"] f fd) (G_check_work : Df P w K mg base "check_work" ["work"] f_check_work fd_check_work 8 F_check_work) (G_finds_by : Df P w K mg base "finds_by" ["work", "small"] f_finds_by fd_finds_by 4 F_finds_by) : Df P w K mg base "finds" ["work", "small"] f fd 9 F_finds := df_mk (k := 8) A sc_finds fun cdv A1 outer s H E hr => by
  have S := sc_finds
  have hu := hu65 hr
  exact (bx_cons (sx_expr (ex_callD G_check_work (hr.mono (by decide)) (by rfl) (ax_cons (ex_var 0) ax_nil))) (bx_cons (sx_expr (ex_callD G_check_work (hr.mono (by decide)) (by rfl) (ax_cons (ex_var 1) ax_nil))) (bx_one (sx_ret (ex_tuple (by rfl) T.b_tuple (ax_cons (ex_callD G_finds_by (hr.mono (by decide)) (by rfl) (ax_cons (ex_var 0) (ax_cons (ex_var 1) ax_nil))) ax_nil))))))
/-! _law_uncrossed -/
abbrev s__law_uncrossed : Stmt := topS 62
theorem sc__law_uncrossed : FnScope ["work", "cells", "found", "at", "to"] ["work"] (defScope s__law_uncrossed) := ⟨rfl, rfl, rfl, by decide +kernel, rfl, by decide +kernel, by decide +kernel⟩
noncomputable def M__law_uncrossed : MS := (sSeq (sPar (aCons (mCall F__law_cells (aCons (mVar 0) aNil)) (aCons (mLst aNil) aNil)) [(.nm 1), (.nm 2)]) (sSeq (sFor (iRange1 (aCons (mCB (f1 lenD) (aCons (mOpHT ixD (mOpHT ixD (mVar 0) (mC (.int 0))) (mC (.int 0))) aNil)) aNil)) (.nm 3) (sAsg (mOpT addD (mVar 2) (mLc (iRange1 (aCons (mCB (f1 lenD) (aCons (mOpHT ixD (mOpHT ixD (mVar 0) (mC (.int 0))) (mC (.int 1))) aNil)) aNil)) (.nm 4) [4] (mTest (mOpTH notInD (mTup (aCons (mVar 3) (aCons (mVar 4) aNil))) (mVar 1))) (mTup (aCons (mTup (aCons (mVar 3) aNil)) (aCons (mTup (aCons (mVar 4) aNil)) aNil))))) (.nm 2))) (sRet (mVar 2))))
noncomputable def F__law_uncrossed : Fn := fnOf 5 1 M__law_uncrossed
theorem ok__law_uncrossed {f f__law_cells : Addr} {fd fd__law_cells : FuncData} (T : Txt0 K mg a_TOLD) (A : At K mg "_law_uncrossed" "_law_uncrossed" s__law_uncrossed ["work"] f fd) (G__law_cells : Df P w K mg base "_law_cells" ["work"] f__law_cells fd__law_cells 3 F__law_cells) : Df P w K mg base "_law_uncrossed" ["work"] f fd 4 F__law_uncrossed := df_mk (k := 3) A sc__law_uncrossed fun cdv A1 outer s H E hr => by
  have S := sc__law_uncrossed
  have hu := hu65 hr
  exact (bx_cons (sx_parT (ax_cons (ex_callD G__law_cells (hr.mono (by decide)) (by rfl) (ax_cons (ex_var 0) ax_nil)) (ax_cons (ex_lst ax_nil) ax_nil)) (gx_tp rfl (gx_cons (gx_nm 1 S.nd rfl (by first | exact Or.inl rfl | exact Or.inr rfl)) (gx_cons (gx_nm 2 S.nd rfl (by first | exact Or.inl rfl | exact Or.inr rfl)) gx_nil)))) (bx_cons (sx_for rfl (ix_range1 (by rfl) T.b_range (ax_cons (ex_len (by rfl) T.b_len (ax_cons (ex_ix hu (ex_ix hu (ex_var 0) ex_int) ex_int) ax_nil)) ax_nil)) (gx_nm 3 S.nd rfl (by first | exact Or.inl rfl | exact Or.inr rfl)) (bx_one (sx_asg (ex_add (ex_var 2) (ex_lc (own := [("to", 4)]) rfl S.nd (ix_range1 (by rfl) T.b_range (ax_cons (ex_len (by rfl) T.b_len (ax_cons (ex_ix hu (ex_ix hu (ex_var 0) ex_int) ex_int) ax_nil)) ax_nil)) (blkOk_by (by kernel_rfl)) (fun _ _ _ _ _ => (gx_nm 4 S.nd rfl (by first | exact Or.inl rfl | exact Or.inr rfl))) (fun _ _ _ _ _ => (qx_one (tx_notin hu (ex_tup (ax_cons (ex_var 3) (ax_cons (ex_var 4) ax_nil))) (ex_var 1)))) (fun _ _ _ _ _ => (ex_tup (ax_cons (ex_tup (ax_cons (ex_var 3) ax_nil)) (ax_cons (ex_tup (ax_cons (ex_var 4) ax_nil)) ax_nil)))) (fun _ => rfl) (by decide))) (gx_nm 2 S.nd rfl (by first | exact Or.inl rfl | exact Or.inr rfl))))) (bx_one (sx_ret (ex_var 2)))))
/-! _law_singles_right -/
abbrev s__law_singles_right : Stmt := topS 61
theorem sc__law_singles_right : FnScope ["work", "cells", "many", "bar", "post", "due", "frame", "word", "alone", "nails", "some", "at", "pair"] ["work"] (defScope s__law_singles_right) := ⟨rfl, rfl, rfl, by decide +kernel, rfl, by decide +kernel, by decide +kernel⟩
noncomputable def M__law_singles_right : MS := (sSeq (sPar (aCons (mCall F__law_cells (aCons (mVar 0) aNil)) (aCons (mLst (aCons (mCB (f1 lenD) (aCons (mOpHT ixD (mOpHT ixD (mVar 0) (mC (.int 0))) (mC (.int 0))) aNil)) (aCons (mCB (f1 lenD) (aCons (mOpHT ixD (mOpHT ixD (mVar 0) (mC (.int 0))) (mC (.int 1))) aNil)) aNil))) aNil)) [(.nm 1), (.nm 2)]) (sSeq (sPar (aCons (mTup (aCons (mTup (aCons (mTup (aCons (mTup (aCons (mC (.int 3)) (aCons (mC (.int 0)) (aCons (mC (.int 5)) aNil)))) aNil)) (aCons (mTup aNil) aNil))) (aCons (mTup aNil) (aCons (mTup aNil) aNil)))) (aCons (mTup (aCons (mTup (aCons (mTup aNil) (aCons (mTup (aCons (mTup (aCons (mC (.int 30)) (aCons (mC (.int 1)) (aCons (mC (.int 1)) aNil)))) aNil)) aNil))) (aCons (mTup aNil) (aCons (mTup aNil) aNil)))) aNil)) [(.nm 3), (.nm 4)]) (sSeq (sAsg (mLst (aCons (mCP tupP (aCons (mLc (iRange1 (aCons (mOpHT ixD (mVar 2) (mC (.int 0))) aNil)) (.nm 11) [11] mYes (mTup (aCons (mTup (aCons (mVar 11) aNil)) (aCons (mTup aNil) aNil)))) aNil)) (aCons (mCP tupP (aCons (mLc (iRange1 (aCons (mOpHT ixD (mVar 2) (mC (.int 1))) aNil)) (.nm 11) [11] mYes (mTup (aCons (mTup aNil) (aCons (mTup (aCons (mVar 11) aNil)) aNil)))) aNil)) aNil))) (.nm 5)) (sSeq (sIf (tmNot (mTest (mCall (F__law_is 8) (aCons (mLst (aCons (mCall F_finds (aCons (mVar 0) (aCons (mVar 3) aNil))) (aCons (mCall F_finds (aCons (mVar 0) (aCons (mVar 4) aNil))) aNil))) (aCons (mVar 5) aNil))))) (sRet (mC (.bl false))) sNx) (sSeq (sAsg (mTup (aCons (mTup (aCons (mTup (aCons (mC (.int 4)) (aCons (mC (.int 0)) (aCons (mC (.int 9)) aNil)))) aNil)) (aCons (mTup (aCons (mTup (aCons (mC (.int 2)) (aCons (mC (.int 1)) (aCons (mC (.int 9)) aNil)))) aNil)) aNil))) (.nm 6)) (sSeq (sFor (iSeq (mLst (aCons (mC (.str "bar")) (aCons (mC (.str "post")) aNil)))) (.nm 7) (sFor (iSeq (mLst (aCons (mTup aNil) (aCons (mTup (aCons (mTup (aCons (mC (.int 0)) (aCons (mC (.int 0)) aNil))) aNil)) aNil)))) (.nm 9) (sSeq (sAsg (mCP tupP (aCons (mLc (iSeq (mCall F__law_crossings (aCons (mOpHT ixD (mVar 0) (mC (.int 0))) aNil))) (.nm 12) [12] (mTest (mOp eqD (mOpHT ixD (mVar 1) (mVar 12)) (mTup (aCons (mVar 7) (aCons (mOp neD (mVar 9) (mTup aNil)) aNil))))) (mTup (aCons (mTup (aCons (mOpHT ixD (mVar 12) (mC (.int 0))) aNil)) (aCons (mTup (aCons (mOpHT ixD (mVar 12) (mC (.int 1))) aNil)) aNil)))) aNil)) (.nm 10)) (sIf (tmNot (mTest (mCall (F__law_is 8) (aCons (mCall F_finds (aCons (mVar 0) (aCons (mTup (aCons (mVar 6) (aCons (mTup (aCons (mVar 7) aNil)) (aCons (mVar 9) aNil)))) aNil))) (aCons (mVar 10) aNil))))) (sRet (mC (.bl false))) sNx)))) (sSeq (sAsg (mTup (aCons (mTup (aCons (mTup (aCons (mC (.int 4)) (aCons (mC (.int 0)) (aCons (mC (.int 9)) aNil)))) aNil)) (aCons (mTup (aCons (mTup (aCons (mC (.int 12)) (aCons (mC (.int 1)) (aCons (mC (.int 9)) aNil)))) aNil)) aNil))) (.nm 8)) (sRet (mCall (F__law_is 8) (aCons (mCall F_finds (aCons (mVar 0) (aCons (mTup (aCons (mVar 8) (aCons (mTup aNil) (aCons (mTup aNil) aNil)))) aNil))) (aCons (mCP tupP (aCons (mCall F__law_uncrossed (aCons (mVar 0) aNil)) aNil)) aNil)))))))))))
noncomputable def F__law_singles_right : Fn := fnOf 13 1 M__law_singles_right
theorem ok__law_singles_right {f f__law_cells f__law_crossings f__law_is f__law_uncrossed f_finds : Addr} {fd fd__law_cells fd__law_crossings fd__law_is fd__law_uncrossed fd_finds : FuncData} (T : Txt0 K mg a_TOLD) (A : At K mg "_law_singles_right" "_law_singles_right" s__law_singles_right ["work"] f fd) (G__law_cells : Df P w K mg base "_law_cells" ["work"] f__law_cells fd__law_cells 3 F__law_cells) (G__law_crossings : Df P w K mg base "_law_crossings" ["frame"] f__law_crossings fd__law_crossings 2 F__law_crossings) (G__law_is : Df P w K mg base "_law_is" ["one", "due"] f__law_is fd__law_is 9 (F__law_is 8)) (G__law_uncrossed : Df P w K mg base "_law_uncrossed" ["work"] f__law_uncrossed fd__law_uncrossed 4 F__law_uncrossed) (G_finds : Df P w K mg base "finds" ["work", "small"] f_finds fd_finds 9 F_finds) : Df P w K mg base "_law_singles_right" ["work"] f fd 10 F__law_singles_right := df_mk (k := 9) A sc__law_singles_right fun cdv A1 outer s H E hr => by
  have S := sc__law_singles_right
  have hu := hu65 hr
  exact (bx_cons (sx_parT (ax_cons (ex_callD G__law_cells (hr.mono (by decide)) (by rfl) (ax_cons (ex_var 0) ax_nil)) (ax_cons (ex_lst (ax_cons (ex_len (by rfl) T.b_len (ax_cons (ex_ix hu (ex_ix hu (ex_var 0) ex_int) ex_int) ax_nil)) (ax_cons (ex_len (by rfl) T.b_len (ax_cons (ex_ix hu (ex_ix hu (ex_var 0) ex_int) ex_int) ax_nil)) ax_nil))) ax_nil)) (gx_tp rfl (gx_cons (gx_nm 1 S.nd rfl (by first | exact Or.inl rfl | exact Or.inr rfl)) (gx_cons (gx_nm 2 S.nd rfl (by first | exact Or.inl rfl | exact Or.inr rfl)) gx_nil)))) (bx_cons (sx_parT (ax_cons (ex_tup (ax_cons (ex_tup (ax_cons (ex_tup (ax_cons (ex_tup (ax_cons ex_int (ax_cons ex_int (ax_cons ex_int ax_nil)))) ax_nil)) (ax_cons (ex_tup ax_nil) ax_nil))) (ax_cons (ex_tup ax_nil) (ax_cons (ex_tup ax_nil) ax_nil)))) (ax_cons (ex_tup (ax_cons (ex_tup (ax_cons (ex_tup ax_nil) (ax_cons (ex_tup (ax_cons (ex_tup (ax_cons ex_int (ax_cons ex_int (ax_cons ex_int ax_nil)))) ax_nil)) ax_nil))) (ax_cons (ex_tup ax_nil) (ax_cons (ex_tup ax_nil) ax_nil)))) ax_nil)) (gx_tp rfl (gx_cons (gx_nm 3 S.nd rfl (by first | exact Or.inl rfl | exact Or.inr rfl)) (gx_cons (gx_nm 4 S.nd rfl (by first | exact Or.inl rfl | exact Or.inr rfl)) gx_nil)))) (bx_cons (sx_asg (ex_lst (ax_cons (ex_tuple (by rfl) T.b_tuple (ax_cons (ex_lc (own := [("at", 11)]) rfl S.nd (ix_range1 (by rfl) T.b_range (ax_cons (ex_ix hu (ex_var 2) ex_int) ax_nil)) (blkOk_by (by kernel_rfl)) (fun _ _ _ _ _ => (gx_nm 11 S.nd rfl (by first | exact Or.inl rfl | exact Or.inr rfl))) (fun _ _ _ _ _ => qx_nil) (fun _ _ _ _ _ => (ex_tup (ax_cons (ex_tup (ax_cons (ex_var 11) ax_nil)) (ax_cons (ex_tup ax_nil) ax_nil)))) (fun _ => rfl) (by decide)) ax_nil)) (ax_cons (ex_tuple (by rfl) T.b_tuple (ax_cons (ex_lc (own := [("at", 11)]) rfl S.nd (ix_range1 (by rfl) T.b_range (ax_cons (ex_ix hu (ex_var 2) ex_int) ax_nil)) (blkOk_by (by kernel_rfl)) (fun _ _ _ _ _ => (gx_nm 11 S.nd rfl (by first | exact Or.inl rfl | exact Or.inr rfl))) (fun _ _ _ _ _ => qx_nil) (fun _ _ _ _ _ => (ex_tup (ax_cons (ex_tup ax_nil) (ax_cons (ex_tup (ax_cons (ex_var 11) ax_nil)) ax_nil)))) (fun _ => rfl) (by decide)) ax_nil)) ax_nil))) (gx_nm 5 S.nd rfl (by first | exact Or.inl rfl | exact Or.inr rfl))) (bx_cons (sx_if (tx_not (tx_val (ex_callD G__law_is (hr.mono (by decide)) (by rfl) (ax_cons (ex_lst (ax_cons (ex_callD G_finds (hr.mono (by decide)) (by rfl) (ax_cons (ex_var 0) (ax_cons (ex_var 3) ax_nil))) (ax_cons (ex_callD G_finds (hr.mono (by decide)) (by rfl) (ax_cons (ex_var 0) (ax_cons (ex_var 4) ax_nil))) ax_nil))) (ax_cons (ex_var 5) ax_nil))))) (bx_one (sx_ret ex_bl)) bx_nil) (bx_cons (sx_asg (ex_tup (ax_cons (ex_tup (ax_cons (ex_tup (ax_cons ex_int (ax_cons ex_int (ax_cons ex_int ax_nil)))) ax_nil)) (ax_cons (ex_tup (ax_cons (ex_tup (ax_cons ex_int (ax_cons ex_int (ax_cons ex_int ax_nil)))) ax_nil)) ax_nil))) (gx_nm 6 S.nd rfl (by first | exact Or.inl rfl | exact Or.inr rfl))) (bx_cons (sx_for rfl (ix_seq' (ex_lst (ax_cons ex_str (ax_cons ex_str ax_nil)))) (gx_nm 7 S.nd rfl (by first | exact Or.inl rfl | exact Or.inr rfl)) (bx_one (sx_for rfl (ix_seq' (ex_lst (ax_cons (ex_tup ax_nil) (ax_cons (ex_tup (ax_cons (ex_tup (ax_cons ex_int (ax_cons ex_int ax_nil))) ax_nil)) ax_nil)))) (gx_nm 9 S.nd rfl (by first | exact Or.inl rfl | exact Or.inr rfl)) (bx_cons (sx_asg (ex_tuple (by rfl) T.b_tuple (ax_cons (ex_lc (own := [("pair", 12)]) rfl S.nd (ix_seq' (ex_callD G__law_crossings (hr.mono (by decide)) (by rfl) (ax_cons (ex_ix hu (ex_var 0) ex_int) ax_nil))) (blkOk_by (by kernel_rfl)) (fun _ _ _ _ _ => (gx_nm 12 S.nd rfl (by first | exact Or.inl rfl | exact Or.inr rfl))) (fun _ _ _ _ _ => (qx_one (tx_eq hu (ex_ix hu (ex_var 1) (ex_var 12)) (ex_tup (ax_cons (ex_var 7) (ax_cons (ex_ne hu (ex_var 9) (ex_tup ax_nil)) ax_nil)))))) (fun _ _ _ _ _ => (ex_tup (ax_cons (ex_tup (ax_cons (ex_ix hu (ex_var 12) ex_int) ax_nil)) (ax_cons (ex_tup (ax_cons (ex_ix hu (ex_var 12) ex_int) ax_nil)) ax_nil)))) (fun _ => rfl) (by decide)) ax_nil)) (gx_nm 10 S.nd rfl (by first | exact Or.inl rfl | exact Or.inr rfl))) (bx_one (sx_if (tx_not (tx_val (ex_callD G__law_is (hr.mono (by decide)) (by rfl) (ax_cons (ex_callD G_finds (hr.mono (by decide)) (by rfl) (ax_cons (ex_var 0) (ax_cons (ex_tup (ax_cons (ex_var 6) (ax_cons (ex_tup (ax_cons (ex_var 7) ax_nil)) (ax_cons (ex_var 9) ax_nil)))) ax_nil))) (ax_cons (ex_var 10) ax_nil))))) (bx_one (sx_ret ex_bl)) bx_nil)))))) (bx_cons (sx_asg (ex_tup (ax_cons (ex_tup (ax_cons (ex_tup (ax_cons ex_int (ax_cons ex_int (ax_cons ex_int ax_nil)))) ax_nil)) (ax_cons (ex_tup (ax_cons (ex_tup (ax_cons ex_int (ax_cons ex_int (ax_cons ex_int ax_nil)))) ax_nil)) ax_nil))) (gx_nm 8 S.nd rfl (by first | exact Or.inl rfl | exact Or.inr rfl))) (bx_one (sx_ret (ex_callD G__law_is (hr.mono (by decide)) (by rfl) (ax_cons (ex_callD G_finds (hr.mono (by decide)) (by rfl) (ax_cons (ex_var 0) (ax_cons (ex_tup (ax_cons (ex_var 8) (ax_cons (ex_tup ax_nil) (ax_cons (ex_tup ax_nil) ax_nil)))) ax_nil))) (ax_cons (ex_tuple (by rfl) T.b_tuple (ax_cons (ex_callD G__law_uncrossed (hr.mono (by decide)) (by rfl) (ax_cons (ex_var 0) ax_nil)) ax_nil)) ax_nil))))))))))))
/-! is_work -/
abbrev s_is_work : Stmt := topS 41
theorem sc_is_work : FnScope ["value"] ["value"] (defScope s_is_work) := ⟨rfl, rfl, rfl, by decide +kernel, rfl, by decide +kernel, by decide +kernel⟩
noncomputable def M_is_work : MS := (sRet (mCall F_is_worked (aCons (mVar 0) aNil)))
noncomputable def F_is_work : Fn := fnOf 1 1 M_is_work
theorem ok_is_work {f f_is_worked : Addr} {fd fd_is_worked : FuncData} (T : Txt0 K mg a_TOLD) (A : At K mg "is_work" "is_work" s_is_work ["value"] f fd) (G_is_worked : Df P w K mg base "is_worked" ["value"] f_is_worked fd_is_worked 7 F_is_worked) : Df P w K mg base "is_work" ["value"] f fd 8 F_is_work := df_mk (k := 7) A sc_is_work fun cdv A1 outer s H E hr => by
  have S := sc_is_work
  have hu := hu65 hr
  exact (bx_one (sx_ret (ex_callD G_is_worked (hr.mono (by decide)) (by rfl) (ax_cons (ex_var 0) ax_nil))))
/-! _law_choices -/
abbrev s__law_choices : Stmt := topS 56
theorem sc__law_choices : FnScope ["many", "few", "rows", "turn", "longer", "row", "at"] ["many", "few"] (defScope s__law_choices) := ⟨rfl, rfl, rfl, by decide +kernel, rfl, by decide +kernel, by decide +kernel⟩
noncomputable def M__law_choices : MS := (sSeq (sAsg (mLst (aCons (mTup aNil) aNil)) (.nm 2)) (sSeq (sFor (iRange1 (aCons (mVar 1) aNil)) (.nm 3) (sSeq (sAsg (mLst aNil) (.nm 4)) (sSeq (sFor (iSeq (mVar 2)) (.nm 5) (sAsg (mOpT addD (mVar 4) (mLc (iRange2 (aCons (mIf (mTest (mOp neD (mVar 5) (mTup aNil))) (mOpT addD (mOpHT ixD (mVar 5) (mUn negD (mC (.int 1)))) (mC (.int 1))) (mC (.int 0))) (aCons (mVar 0) aNil))) (.nm 6) [6] mYes (mOpT addD (mVar 5) (mTup (aCons (mVar 6) aNil))))) (.nm 4))) (sAsg (mVar 4) (.nm 2))))) (sRet (mVar 2))))
noncomputable def F__law_choices : Fn := fnOf 7 2 M__law_choices
theorem ok__law_choices {f : Addr} {fd : FuncData} (T : Txt0 K mg a_TOLD) (A : At K mg "_law_choices" "_law_choices" s__law_choices ["many", "few"] f fd) : Df P w K mg base "_law_choices" ["many", "few"] f fd 1 F__law_choices := df_mk (k := 0) A sc__law_choices fun cdv A1 outer s H E hr => by
  have S := sc__law_choices
  have hu := hu65 hr
  exact (bx_cons (sx_asg (ex_lst (ax_cons (ex_tup ax_nil) ax_nil)) (gx_nm 2 S.nd rfl (by first | exact Or.inl rfl | exact Or.inr rfl))) (bx_cons (sx_for rfl (ix_range1 (by rfl) T.b_range (ax_cons (ex_var 1) ax_nil)) (gx_nm 3 S.nd rfl (by first | exact Or.inl rfl | exact Or.inr rfl)) (bx_cons (sx_asg (ex_lst ax_nil) (gx_nm 4 S.nd rfl (by first | exact Or.inl rfl | exact Or.inr rfl))) (bx_cons (sx_for rfl (ix_seq' (ex_var 2)) (gx_nm 5 S.nd rfl (by first | exact Or.inl rfl | exact Or.inr rfl)) (bx_one (sx_asg (ex_add (ex_var 4) (ex_lc (own := [("at", 6)]) rfl S.nd (ix_range2 (by rfl) T.b_range (ax_cons (ex_if (tx_ne hu (ex_var 5) (ex_tup ax_nil)) (ex_add (ex_ix hu (ex_var 5) (ex_neg ex_int)) ex_int) ex_int) (ax_cons (ex_var 0) ax_nil))) (blkOk_by (by kernel_rfl)) (fun _ _ _ _ _ => (gx_nm 6 S.nd rfl (by first | exact Or.inl rfl | exact Or.inr rfl))) (fun _ _ _ _ _ => qx_nil) (fun _ _ _ _ _ => (ex_add (ex_var 5) (ex_tup (ax_cons (ex_var 6) ax_nil)))) (fun _ => rfl) (by decide))) (gx_nm 4 S.nd rfl (by first | exact Or.inl rfl | exact Or.inr rfl))))) (bx_one (sx_asg (ex_var 4) (gx_nm 2 S.nd rfl (by first | exact Or.inl rfl | exact Or.inr rfl))))))) (bx_one (sx_ret (ex_var 2)))))
/-! _law_finds -/
abbrev s__law_finds : Stmt := topS 57
theorem sc__law_finds : FnScope ["work", "small", "cells", "due", "found", "many", "few", "bars", "posts", "rows", "at", "to"] ["work", "small"] (defScope s__law_finds) := ⟨rfl, rfl, rfl, by decide +kernel, rfl, by decide +kernel, by decide +kernel⟩
noncomputable def M__law_finds : MS := (sSeq (sPar (aCons (mCall F__law_cells (aCons (mVar 0) aNil)) (aCons (mCall F__law_cells (aCons (mVar 1) aNil)) (aCons (mLstC aNil) aNil))) [(.nm 2), (.nm 3), (.nm 4)]) (sSeq (sPar (aCons (mLst (aCons (mCB (f1 lenD) (aCons (mOpHT ixD (mOpHT ixD (mVar 0) (mC (.int 0))) (mC (.int 0))) aNil)) (aCons (mCB (f1 lenD) (aCons (mOpHT ixD (mOpHT ixD (mVar 0) (mC (.int 0))) (mC (.int 1))) aNil)) aNil))) (aCons (mLst (aCons (mCB (f1 lenD) (aCons (mOpHT ixD (mOpHT ixD (mVar 1) (mC (.int 0))) (mC (.int 0))) aNil)) (aCons (mCB (f1 lenD) (aCons (mOpHT ixD (mOpHT ixD (mVar 1) (mC (.int 0))) (mC (.int 1))) aNil)) aNil))) aNil)) [(.nm 5), (.nm 6)]) (sSeq (sFor (iSeq (mCall F__law_choices (aCons (mOpHT ixD (mVar 5) (mC (.int 0))) (aCons (mOpHT ixD (mVar 6) (mC (.int 0))) aNil)))) (.nm 7) (sFor (iSeq (mCall F__law_choices (aCons (mOpHT ixD (mVar 5) (mC (.int 1))) (aCons (mOpHT ixD (mVar 6) (mC (.int 1))) aNil)))) (.nm 8) (sSeq (sAsg (mLc (iRange1 (aCons (mOpHT ixD (mVar 6) (mC (.int 0))) aNil)) (.nm 10) [10] (mTest (mOp neD (mLc (iRange1 (aCons (mOpHT ixD (mVar 6) (mC (.int 1))) aNil)) (.nm 11) [11] (mTest (mOp neD (mGet2 (mVar 2) (mTup (aCons (mOpHT ixD (mVar 7) (mVar 10)) (aCons (mOpHT ixD (mVar 8) (mVar 11)) aNil))) (mC .non)) (mGet2 (mVar 3) (mTup (aCons (mVar 10) (aCons (mVar 11) aNil))) (mC .non)))) (mVar 11)) (mLst aNil))) (mVar 10)) (.nm 9)) (sIf (mTest (mOp eqD (mVar 9) (mLst aNil))) (sEx (mMut appD (mVar 4) (aCons (mTup (aCons (mVar 7) (aCons (mVar 8) aNil))) aNil))) sNx)))) (sRet (mCP tupP (aCons (mVar 4) aNil))))))
noncomputable def F__law_finds : Fn := fnOf 12 2 M__law_finds
theorem ok__law_finds {f f__law_cells f__law_choices : Addr} {fd fd__law_cells fd__law_choices : FuncData} (T : Txt0 K mg a_TOLD) (A : At K mg "_law_finds" "_law_finds" s__law_finds ["work", "small"] f fd) (G__law_cells : Df P w K mg base "_law_cells" ["work"] f__law_cells fd__law_cells 3 F__law_cells) (G__law_choices : Df P w K mg base "_law_choices" ["many", "few"] f__law_choices fd__law_choices 1 F__law_choices) : Df P w K mg base "_law_finds" ["work", "small"] f fd 4 F__law_finds := df_mk (k := 3) A sc__law_finds fun cdv A1 outer s H E hr => by
  have S := sc__law_finds
  have hu := hu65 hr
  exact (bx_cons (sx_parT (ax_cons (ex_callD G__law_cells (hr.mono (by decide)) (by rfl) (ax_cons (ex_var 0) ax_nil)) (ax_cons (ex_callD G__law_cells (hr.mono (by decide)) (by rfl) (ax_cons (ex_var 1) ax_nil)) (ax_cons (ex_lstC ax_nil) ax_nil))) (gx_tp rfl (gx_cons (gx_nm 2 S.nd rfl (by first | exact Or.inl rfl | exact Or.inr rfl)) (gx_cons (gx_nm 3 S.nd rfl (by first | exact Or.inl rfl | exact Or.inr rfl)) (gx_cons (gx_nm 4 S.nd rfl (by first | exact Or.inl rfl | exact Or.inr rfl)) gx_nil))))) (bx_cons (sx_parT (ax_cons (ex_lst (ax_cons (ex_len (by rfl) T.b_len (ax_cons (ex_ix hu (ex_ix hu (ex_var 0) ex_int) ex_int) ax_nil)) (ax_cons (ex_len (by rfl) T.b_len (ax_cons (ex_ix hu (ex_ix hu (ex_var 0) ex_int) ex_int) ax_nil)) ax_nil))) (ax_cons (ex_lst (ax_cons (ex_len (by rfl) T.b_len (ax_cons (ex_ix hu (ex_ix hu (ex_var 1) ex_int) ex_int) ax_nil)) (ax_cons (ex_len (by rfl) T.b_len (ax_cons (ex_ix hu (ex_ix hu (ex_var 1) ex_int) ex_int) ax_nil)) ax_nil))) ax_nil)) (gx_tp rfl (gx_cons (gx_nm 5 S.nd rfl (by first | exact Or.inl rfl | exact Or.inr rfl)) (gx_cons (gx_nm 6 S.nd rfl (by first | exact Or.inl rfl | exact Or.inr rfl)) gx_nil)))) (bx_cons (sx_for rfl (ix_seq' (ex_callD G__law_choices (hr.mono (by decide)) (by rfl) (ax_cons (ex_ix hu (ex_var 5) ex_int) (ax_cons (ex_ix hu (ex_var 6) ex_int) ax_nil)))) (gx_nm 7 S.nd rfl (by first | exact Or.inl rfl | exact Or.inr rfl)) (bx_one (sx_for rfl (ix_seq' (ex_callD G__law_choices (hr.mono (by decide)) (by rfl) (ax_cons (ex_ix hu (ex_var 5) ex_int) (ax_cons (ex_ix hu (ex_var 6) ex_int) ax_nil)))) (gx_nm 8 S.nd rfl (by first | exact Or.inl rfl | exact Or.inr rfl)) (bx_cons (sx_setLc (own := [("at", 10)]) rfl S.nd (ix_range1 (by rfl) T.b_range (ax_cons (ex_ix hu (ex_var 6) ex_int) ax_nil)) (blkOk_by (by kernel_rfl)) (fun _ _ _ _ _ => (gx_nm 10 S.nd rfl (by first | exact Or.inl rfl | exact Or.inr rfl))) (fun _ _ _ _ _ => (qx_one (tx_ne hu (ex_lc (own := [("to", 11)]) rfl S.nd (ix_range1 (by rfl) T.b_range (ax_cons (ex_ix hu (ex_var 6) ex_int) ax_nil)) (blkOk_by (by kernel_rfl)) (fun _ _ _ _ _ => (gx_nm 11 S.nd rfl (by first | exact Or.inl rfl | exact Or.inr rfl))) (fun _ _ _ _ _ => (qx_one (tx_ne hu (ex_get2 hu (ex_var 2) (ex_tup (ax_cons (ex_ix hu (ex_var 7) (ex_var 10)) (ax_cons (ex_ix hu (ex_var 8) (ex_var 11)) ax_nil))) ex_non) (ex_get2 hu (ex_var 3) (ex_tup (ax_cons (ex_var 10) (ax_cons (ex_var 11) ax_nil))) ex_non)))) (fun _ _ _ _ _ => (ex_var 11)) (fun _ => rfl) (by decide)) (ex_lst ax_nil)))) (fun _ _ _ _ _ => (ex_var 10)) (fun _ => rfl) rfl rfl (sw_true rfl rfl rfl (by decide +kernel)) (by decide)) (bx_one (sx_if (tx_eq hu (ex_var 9) (ex_lst ax_nil)) (bx_one (sx_expr (ex_append (ex_var 4) (ax_cons (ex_tup (ax_cons (ex_var 7) (ax_cons (ex_var 8) ax_nil))) ax_nil)))) bx_nil)))))) (bx_one (sx_ret (ex_tuple (by rfl) T.b_tuple (ax_cons (ex_var 4) ax_nil)))))))
/-! first_find -/
abbrev s_first_find : Stmt := topS 39
theorem sc_first_find : FnScope ["work", "small", "found"] ["work", "small"] (defScope s_first_find) := ⟨rfl, rfl, rfl, by decide +kernel, rfl, by decide +kernel, by decide +kernel⟩
noncomputable def M_first_find : MS := (sSeq (sEx (mCall F_check_work (aCons (mVar 0) aNil))) (sSeq (sEx (mCall F_check_work (aCons (mVar 1) aNil))) (sSeq (sAsg (mCall F_finds_by (aCons (mVar 0) (aCons (mVar 1) aNil))) (.nm 2)) (sRet (mIf (mTest (mOp neD (mVar 2) (mLst aNil))) (mOpHT ixD (mVar 2) (mC (.int 0))) (mC .non))))))
noncomputable def F_first_find : Fn := fnOf 3 2 M_first_find
theorem ok_first_find {f f_check_work f_finds_by : Addr} {fd fd_check_work fd_finds_by : FuncData} (T : Txt0 K mg a_TOLD) (A : At K mg "first_find" "first_find" s_first_find ["work", "small"] f fd) (G_check_work : Df P w K mg base "check_work" ["work"] f_check_work fd_check_work 8 F_check_work) (G_finds_by : Df P w K mg base "finds_by" ["work", "small"] f_finds_by fd_finds_by 4 F_finds_by) : Df P w K mg base "first_find" ["work", "small"] f fd 9 F_first_find := df_mk (k := 8) A sc_first_find fun cdv A1 outer s H E hr => by
  have S := sc_first_find
  have hu := hu65 hr
  exact (bx_cons (sx_expr (ex_callD G_check_work (hr.mono (by decide)) (by rfl) (ax_cons (ex_var 0) ax_nil))) (bx_cons (sx_expr (ex_callD G_check_work (hr.mono (by decide)) (by rfl) (ax_cons (ex_var 1) ax_nil))) (bx_cons (sx_asg (ex_callD G_finds_by (hr.mono (by decide)) (by rfl) (ax_cons (ex_var 0) (ax_cons (ex_var 1) ax_nil))) (gx_nm 2 S.nd rfl (by first | exact Or.inl rfl | exact Or.inr rfl))) (bx_one (sx_ret (ex_if (tx_ne hu (ex_var 2) (ex_lst ax_nil)) (ex_ix hu (ex_var 2) ex_int) ex_non))))))
/-! _law_finds_right -/
abbrev s__law_finds_right : Stmt := topS 60
theorem sc__law_finds_right : FnScope ["work", "small", "due", "first"] ["work", "small"] (defScope s__law_finds_right) := ⟨rfl, rfl, rfl, by decide +kernel, rfl, by decide +kernel, by decide +kernel⟩
noncomputable def M__law_finds_right : MS := (sSeq (sAsg (mCall F__law_finds (aCons (mVar 0) (aCons (mVar 1) aNil))) (.nm 2)) (sSeq (sIf (tmNot (mTest (mCall (F__law_is 8) (aCons (mLst (aCons (mCall F_finds (aCons (mVar 0) (aCons (mVar 1) aNil))) (aCons (mCallKP F_finds 0 [1, 0] aNil (aCons (mVar 1) (aCons (mVar 0) aNil))) aNil))) (aCons (mLst (aCons (mVar 2) (aCons (mVar 2) aNil))) aNil))))) (sRet (mC (.bl false))) sNx) (sSeq (sAsg (mIf (mTest (mOp neD (mVar 2) (mTup aNil))) (mOpHT ixD (mVar 2) (mC (.int 0))) (mC .non)) (.nm 3)) (sRet (mCall (F__law_is 8) (aCons (mLst (aCons (mCall F_first_find (aCons (mVar 0) (aCons (mVar 1) aNil))) (aCons (mCallKP F_first_find 0 [1, 0] aNil (aCons (mVar 1) (aCons (mVar 0) aNil))) aNil))) (aCons (mLst (aCons (mVar 3) (aCons (mVar 3) aNil))) aNil)))))))
noncomputable def F__law_finds_right : Fn := fnOf 4 2 M__law_finds_right
theorem ok__law_finds_right {f f__law_finds f__law_is f_finds f_first_find : Addr} {fd fd__law_finds fd__law_is fd_finds fd_first_find : FuncData} (T : Txt0 K mg a_TOLD) (A : At K mg "_law_finds_right" "_law_finds_right" s__law_finds_right ["work", "small"] f fd) (G__law_finds : Df P w K mg base "_law_finds" ["work", "small"] f__law_finds fd__law_finds 4 F__law_finds) (G__law_is : Df P w K mg base "_law_is" ["one", "due"] f__law_is fd__law_is 9 (F__law_is 8)) (G_finds : Df P w K mg base "finds" ["work", "small"] f_finds fd_finds 9 F_finds) (G_first_find : Df P w K mg base "first_find" ["work", "small"] f_first_find fd_first_find 9 F_first_find) (KB_finds_0_1_0 : KBinds K fd_finds ["work", "small"] ["small", "work"] (gKP 0 [1, 0]) (gKP 0 [1, 0])) (KB_first_find_0_1_0 : KBinds K fd_first_find ["work", "small"] ["small", "work"] (gKP 0 [1, 0]) (gKP 0 [1, 0])) : Df P w K mg base "_law_finds_right" ["work", "small"] f fd 10 F__law_finds_right := df_mk (k := 9) A sc__law_finds_right fun cdv A1 outer s H E hr => by
  have S := sc__law_finds_right
  have hu := hu65 hr
  exact (bx_cons (sx_asg (ex_callD G__law_finds (hr.mono (by decide)) (by rfl) (ax_cons (ex_var 0) (ax_cons (ex_var 1) ax_nil))) (gx_nm 2 S.nd rfl (by first | exact Or.inl rfl | exact Or.inr rfl))) (bx_cons (sx_if (tx_not (tx_val (ex_callD G__law_is (hr.mono (by decide)) (by rfl) (ax_cons (ex_lst (ax_cons (ex_callD G_finds (hr.mono (by decide)) (by rfl) (ax_cons (ex_var 0) (ax_cons (ex_var 1) ax_nil))) (ax_cons (ex_callDKP0 G_finds KB_finds_0_1_0 (hr.mono (by decide)) (by rfl) (kx_cons (ex_var 1) (kx_cons (ex_var 0) kx_nil))) ax_nil))) (ax_cons (ex_lst (ax_cons (ex_var 2) (ax_cons (ex_var 2) ax_nil))) ax_nil))))) (bx_one (sx_ret ex_bl)) bx_nil) (bx_cons (sx_asg (ex_if (tx_ne hu (ex_var 2) (ex_tup ax_nil)) (ex_ix hu (ex_var 2) ex_int) ex_non) (gx_nm 3 S.nd rfl (by first | exact Or.inl rfl | exact Or.inr rfl))) (bx_one (sx_ret (ex_callD G__law_is (hr.mono (by decide)) (by rfl) (ax_cons (ex_lst (ax_cons (ex_callD G_first_find (hr.mono (by decide)) (by rfl) (ax_cons (ex_var 0) (ax_cons (ex_var 1) ax_nil))) (ax_cons (ex_callDKP0 G_first_find KB_first_find_0_1_0 (hr.mono (by decide)) (by rfl) (kx_cons (ex_var 1) (kx_cons (ex_var 0) kx_nil))) ax_nil))) (ax_cons (ex_lst (ax_cons (ex_var 3) (ax_cons (ex_var 3) ax_nil))) ax_nil))))))))
/-! _law_right -/
abbrev s__law_right : Stmt := topS 64
theorem sc__law_right : FnScope ["well", "turn", "frame", "work", "bars", "posts", "small", "some", "each"] ["well"] (defScope s__law_right) := ⟨rfl, rfl, rfl, by decide +kernel, rfl, by decide +kernel, by decide +kernel⟩
noncomputable def M__law_right : MS := (sSeq (sFor (iRange1 (aCons (mC (.int 3)) aNil)) (.nm 1) (sFor (iSeq (mLst (aCons (mCall F__law_drawn_frame (aCons (mVar 0) (aCons (mOpHT ixD (mLst (aCons (mC (.int 3)) (aCons (mC (.int 5)) (aCons (mC (.int 8)) aNil)))) (mVar 1)) aNil))) (aCons (mCall F__law_thick_frame (aCons (mVar 0) (aCons (mOpHT ixD (mLst (aCons (mC (.int 3)) (aCons (mC (.int 5)) (aCons (mC (.int 7)) aNil)))) (mVar 1)) aNil))) aNil)))) (.nm 2) (sSeq (sAsg (mCall F__law_drawn_work (aCons (mVar 0) (aCons (mVar 2) (aCons (mLst (aCons (mC (.str "bar")) (aCons (mC (.str "post")) aNil))) (aCons (mCall F__law_pick (aCons (mVar 0) (aCons (mLst (aCons (mC (.int 3)) (aCons (mC (.int 9)) (aCons (mC (.int 99)) aNil)))) aNil))) aNil))))) (.nm 3)) (sSeq (sPar (aCons (mCall F__law_few (aCons (mVar 0) (aCons (mCB (f1 lenD) (aCons (mOpHT ixD (mVar 2) (mC (.int 0))) aNil)) (aCons (mC (.int 3)) aNil)))) (aCons (mCall F__law_few (aCons (mVar 0) (aCons (mCB (f1 lenD) (aCons (mOpHT ixD (mVar 2) (mC (.int 1))) aNil)) (aCons (mC (.int 3)) aNil)))) aNil)) [(.nm 4), (.nm 5)]) (sSeq (sAsg (mCall F__law_made_of (aCons (mVar 3) (aCons (mVar 4) (aCons (mVar 5) aNil)))) (.nm 6)) (sSeq (sAsg (mLst (aCons (mVar 3) (aCons (mCall F__law_otherwise (aCons (mVar 0) (aCons (mVar 3) aNil))) (aCons (mCall F__law_drawn_work (aCons (mVar 0) (aCons (mCall F__law_thick_frame (aCons (mVar 0) (aCons (mC (.int 2)) aNil))) (aCons (mLst (aCons (mC (.str "bar")) (aCons (mC (.str "post")) aNil))) (aCons (mC (.int 4)) aNil))))) aNil)))) (.nm 7)) (sSeq (sAsg (mOpT addD (mVar 7) (mIf (mTest (mOp neD (mOpHT ixD (mVar 6) (mC (.int 0))) (mTup (aCons (mTup aNil) (aCons (mTup aNil) aNil))))) (mLst (aCons (mVar 6) (aCons (mCall F__law_otherwise (aCons (mVar 0) (aCons (mVar 6) aNil))) aNil))) (mLst aNil))) (.nm 7)) (sSeq (sIf (tmOr (mTest (mOp neD (mLc (iSeq (mVar 7)) (.nm 8) [8] (tmOr (mTest (mOp isNotD (mCall F_is_work (aCons (mVar 8) aNil)) (mC (.bl true)))) (tmNot (mTest (mCall F__law_finds_right (aCons (mVar 3) (aCons (mVar 8) aNil)))))) (mVar 8)) (mLst aNil))) (tmNot (mTest (mCall F__law_singles_right (aCons (mVar 3) aNil))))) (sRet (mC (.bl false))) sNx) (sSeq (sIf (tmAnd (mTest (mOp neD (mOpHT ixD (mVar 6) (mC (.int 0))) (mTup (aCons (mTup aNil) (aCons (mTup aNil) aNil))))) (mTest (mOpTH notInD (mTup (aCons (mVar 4) (aCons (mVar 5) aNil))) (mCall F_finds (aCons (mVar 3) (aCons (mVar 6) aNil)))))) (sRet (mC (.bl false))) sNx) (sIf (tmNot (mTest (mCall (F__law_is 8) (aCons (mCall F_finds (aCons (mVar 3) (aCons (mVar 3) aNil))) (aCons (mTup (aCons (mTup (aCons (mRgT (mCB (f1 lenD) (aCons (mOpHT ixD (mVar 2) (mC (.int 0))) aNil))) (aCons (mRgT (mCB (f1 lenD) (aCons (mOpHT ixD (mVar 2) (mC (.int 1))) aNil))) aNil))) aNil)) aNil))))) (sRet (mC (.bl false))) sNx)))))))))) (sRet (mC (.bl true))))
noncomputable def F__law_right : Fn := fnOf 9 1 M__law_right
theorem ok__law_right {f f__law_drawn_frame f__law_drawn_work f__law_few f__law_finds_right f__law_is f__law_made_of f__law_otherwise f__law_pick f__law_singles_right f__law_thick_frame f_finds f_is_work : Addr} {fd fd__law_drawn_frame fd__law_drawn_work fd__law_few fd__law_finds_right fd__law_is fd__law_made_of fd__law_otherwise fd__law_pick fd__law_singles_right fd__law_thick_frame fd_finds fd_is_work : FuncData} (T : Txt0 K mg a_TOLD) (A : At K mg "_law_right" "_law_right" s__law_right ["well"] f fd) (G__law_drawn_frame : Df P w K mg base "_law_drawn_frame" ["well", "most"] f__law_drawn_frame fd__law_drawn_frame 3 F__law_drawn_frame) (G__law_drawn_work : Df P w K mg base "_law_drawn_work" ["well", "frame", "words", "rare"] f__law_drawn_work fd__law_drawn_work 3 F__law_drawn_work) (G__law_few : Df P w K mg base "_law_few" ["well", "many", "most"] f__law_few fd__law_few 4 F__law_few) (G__law_finds_right : Df P w K mg base "_law_finds_right" ["work", "small"] f__law_finds_right fd__law_finds_right 10 F__law_finds_right) (G__law_is : Df P w K mg base "_law_is" ["one", "due"] f__law_is fd__law_is 9 (F__law_is 8)) (G__law_made_of : Df P w K mg base "_law_made_of" ["work", "bars", "posts"] f__law_made_of fd__law_made_of 4 F__law_made_of) (G__law_otherwise : Df P w K mg base "_law_otherwise" ["well", "work"] f__law_otherwise fd__law_otherwise 3 F__law_otherwise) (G__law_pick : Df P w K mg base "_law_pick" ["well", "some"] f__law_pick fd__law_pick 2 F__law_pick) (G__law_singles_right : Df P w K mg base "_law_singles_right" ["work"] f__law_singles_right fd__law_singles_right 10 F__law_singles_right) (G__law_thick_frame : Df P w K mg base "_law_thick_frame" ["well", "most"] f__law_thick_frame fd__law_thick_frame 2 F__law_thick_frame) (G_finds : Df P w K mg base "finds" ["work", "small"] f_finds fd_finds 9 F_finds) (G_is_work : Df P w K mg base "is_work" ["value"] f_is_work fd_is_work 8 F_is_work) : Df P w K mg base "_law_right" ["well"] f fd 11 F__law_right := df_mk (k := 10) A sc__law_right fun cdv A1 outer s H E hr => by
  have S := sc__law_right
  have hu := hu65 hr
  exact (bx_cons (sx_for rfl (ix_range1 (by rfl) T.b_range (ax_cons ex_int ax_nil)) (gx_nm 1 S.nd rfl (by first | exact Or.inl rfl | exact Or.inr rfl)) (bx_one (sx_for rfl (ix_seq' (ex_lst (ax_cons (ex_callD G__law_drawn_frame (hr.mono (by decide)) (by rfl) (ax_cons (ex_var 0) (ax_cons (ex_ix hu (ex_lst (ax_cons ex_int (ax_cons ex_int (ax_cons ex_int ax_nil)))) (ex_var 1)) ax_nil))) (ax_cons (ex_callD G__law_thick_frame (hr.mono (by decide)) (by rfl) (ax_cons (ex_var 0) (ax_cons (ex_ix hu (ex_lst (ax_cons ex_int (ax_cons ex_int (ax_cons ex_int ax_nil)))) (ex_var 1)) ax_nil))) ax_nil)))) (gx_nm 2 S.nd rfl (by first | exact Or.inl rfl | exact Or.inr rfl)) (bx_cons (sx_asg (ex_callD G__law_drawn_work (hr.mono (by decide)) (by rfl) (ax_cons (ex_var 0) (ax_cons (ex_var 2) (ax_cons (ex_lst (ax_cons ex_str (ax_cons ex_str ax_nil))) (ax_cons (ex_callD G__law_pick (hr.mono (by decide)) (by rfl) (ax_cons (ex_var 0) (ax_cons (ex_lst (ax_cons ex_int (ax_cons ex_int (ax_cons ex_int ax_nil)))) ax_nil))) ax_nil))))) (gx_nm 3 S.nd rfl (by first | exact Or.inl rfl | exact Or.inr rfl))) (bx_cons (sx_par2 rfl S.nd rfl rfl (by decide) rfl rfl (ax_cons (ex_callD G__law_few (hr.mono (by decide)) (by rfl) (ax_cons (ex_var 0) (ax_cons (ex_len (by rfl) T.b_len (ax_cons (ex_ix hu (ex_var 2) ex_int) ax_nil)) (ax_cons ex_int ax_nil)))) (ax_cons (ex_callD G__law_few (hr.mono (by decide)) (by rfl) (ax_cons (ex_var 0) (ax_cons (ex_len (by rfl) T.b_len (ax_cons (ex_ix hu (ex_var 2) ex_int) ax_nil)) (ax_cons ex_int ax_nil)))) ax_nil)) rfl) (bx_cons (sx_asg (ex_callD G__law_made_of (hr.mono (by decide)) (by rfl) (ax_cons (ex_var 3) (ax_cons (ex_var 4) (ax_cons (ex_var 5) ax_nil)))) (gx_nm 6 S.nd rfl (by first | exact Or.inl rfl | exact Or.inr rfl))) (bx_cons (sx_asg (ex_lst (ax_cons (ex_var 3) (ax_cons (ex_callD G__law_otherwise (hr.mono (by decide)) (by rfl) (ax_cons (ex_var 0) (ax_cons (ex_var 3) ax_nil))) (ax_cons (ex_callD G__law_drawn_work (hr.mono (by decide)) (by rfl) (ax_cons (ex_var 0) (ax_cons (ex_callD G__law_thick_frame (hr.mono (by decide)) (by rfl) (ax_cons (ex_var 0) (ax_cons ex_int ax_nil))) (ax_cons (ex_lst (ax_cons ex_str (ax_cons ex_str ax_nil))) (ax_cons ex_int ax_nil))))) ax_nil)))) (gx_nm 7 S.nd rfl (by first | exact Or.inl rfl | exact Or.inr rfl))) (bx_cons (sx_asg (ex_add (ex_var 7) (ex_if (tx_ne hu (ex_ix hu (ex_var 6) ex_int) (ex_tup (ax_cons (ex_tup ax_nil) (ax_cons (ex_tup ax_nil) ax_nil)))) (ex_lst (ax_cons (ex_var 6) (ax_cons (ex_callD G__law_otherwise (hr.mono (by decide)) (by rfl) (ax_cons (ex_var 0) (ax_cons (ex_var 6) ax_nil))) ax_nil))) (ex_lst ax_nil))) (gx_nm 7 S.nd rfl (by first | exact Or.inl rfl | exact Or.inr rfl))) (bx_cons (sx_if (tx_w (wx_or (tx_ne hu (ex_lc (own := [("each", 8)]) rfl S.nd (ix_seq' (ex_var 7)) (blkOk_by (by kernel_rfl)) (fun _ _ _ _ _ => (gx_nm 8 S.nd rfl (by first | exact Or.inl rfl | exact Or.inr rfl))) (fun _ _ _ _ _ => (qx_one (tx_w (wx_or (tx_isnot hu (ex_callD G_is_work (hr.mono (by decide)) (by rfl) (ax_cons (ex_var 8) ax_nil)) ex_bl) (wx_or1 (tx_not (tx_val (ex_callD G__law_finds_right (hr.mono (by decide)) (by rfl) (ax_cons (ex_var 3) (ax_cons (ex_var 8) ax_nil)))))))))) (fun _ _ _ _ _ => (ex_var 8)) (fun _ => rfl) (by decide)) (ex_lst ax_nil)) (wx_or1 (tx_not (tx_val (ex_callD G__law_singles_right (hr.mono (by decide)) (by rfl) (ax_cons (ex_var 3) ax_nil))))))) (bx_one (sx_ret ex_bl)) bx_nil) (bx_cons (sx_if (tx_w (wx_and (tx_ne hu (ex_ix hu (ex_var 6) ex_int) (ex_tup (ax_cons (ex_tup ax_nil) (ax_cons (ex_tup ax_nil) ax_nil)))) (wx_and1 (tx_notin hu (ex_tup (ax_cons (ex_var 4) (ax_cons (ex_var 5) ax_nil))) (ex_callD G_finds (hr.mono (by decide)) (by rfl) (ax_cons (ex_var 3) (ax_cons (ex_var 6) ax_nil))))))) (bx_one (sx_ret ex_bl)) bx_nil) (bx_one (sx_if (tx_not (tx_val (ex_callD G__law_is (hr.mono (by decide)) (by rfl) (ax_cons (ex_callD G_finds (hr.mono (by decide)) (by rfl) (ax_cons (ex_var 3) (ax_cons (ex_var 3) ax_nil))) (ax_cons (ex_tup (ax_cons (ex_tup (ax_cons (ex_tupRg rfl (by rfl) T.b_tuple (by rfl) T.b_range (ex_len (by rfl) T.b_len (ax_cons (ex_ix hu (ex_var 2) ex_int) ax_nil))) (ax_cons (ex_tupRg rfl (by rfl) T.b_tuple (by rfl) T.b_range (ex_len (by rfl) T.b_len (ax_cons (ex_ix hu (ex_var 2) ex_int) ax_nil))) ax_nil))) ax_nil)) ax_nil))))) (bx_one (sx_ret ex_bl)) bx_nil)))))))))))) (bx_one (sx_ret ex_bl)))
/-! _law_well -/
abbrev s__law_well : Stmt := topS 43
theorem sc__law_well : FnScope ["script", "turn", "own", "stir", "cell"] ["script", "turn"] (defScope s__law_well) := ⟨rfl, rfl, rfl, by decide +kernel, rfl, by decide +kernel, by decide +kernel⟩
noncomputable def M__law_well : MS := (sSeq (sAsg (mIf (mTest (mOp ltD (mVar 1) (mCB (f1 lenD) (aCons (mVar 0) aNil)))) (mCB (f1 intD) (aCons (mOpHT ixD (mVar 0) (mVar 1)) aNil)) (mOpT addD (mOpT addD (mOp mulID (mC (.int 9311)) (mVar 1)) (mOp modD (mCB (f1 intD) (aCons (mCB (f1 sum2D) (aCons (mSl (mVar 0) oNone (oSome (mC (.int 2)))) aNil)) aNil)) (mC (.int 1000003)))) (mC (.int 71)))) (.nm 2)) (sSeq (sAsg (mOpT addD (mC (.int 50021)) (mOp mulID (mC (.int 1013)) (mVar 1))) (.nm 3)) (sSeq (sFor (iSeq (mOpT addD (mSl (mVar 0) oNone (oSome (mC (.int 5)))) (mLst (aCons (mVar 2) aNil)))) (.nm 4) (sAsg (mOp modD (mCB (f1 intD) (aCons (mOpT addD (mOpT addD (mOp mulID (mVar 3) (mC (.int 45013))) (mOp modD (mCB (f1 intD) (aCons (mVar 4) aNil)) (mC (.int 2147483399)))) (mC (.int 37))) aNil)) (mC (.int 2147483563))) (.nm 3))) (sRet (mLstC (aCons (mIf (tmOr (mTest (mOp ltD (mVar 2) (mC (.int 0)))) (mTest (mOp geD (mVar 2) (mOp powD (mC (.int 10)) (mC (.int 17)))))) (mCB (f1 absD) (aCons (mVar 2) aNil)) (mC (.int 0))) (aCons (mVar 3) (aCons (mC (.int 0)) aNil))))))))
noncomputable def F__law_well : Fn := fnOf 5 2 M__law_well
theorem ok__law_well {f : Addr} {fd : FuncData} (T : Txt0 K mg a_TOLD) (A : At K mg "_law_well" "_law_well" s__law_well ["script", "turn"] f fd) : Df P w K mg base "_law_well" ["script", "turn"] f fd 1 F__law_well := df_mk (k := 0) A sc__law_well fun cdv A1 outer s H E hr => by
  have S := sc__law_well
  have hu := hu65 hr
  exact (bx_cons (sx_asg (ex_if (tx_lt hu (ex_var 1) (ex_len (by rfl) T.b_len (ax_cons (ex_var 0) ax_nil))) (ex_int1 (by rfl) T.b_int (ax_cons (ex_ix hu (ex_var 0) (ex_var 1)) ax_nil)) (ex_add (ex_add (ex_mul ex_int (ex_var 1)) (ex_mod (ex_int1 (by rfl) T.b_int (ax_cons (ex_sum2 rfl (by rfl) T.b_sum (ax_cons (ex_sl (ex_var 0) ox_none (ox_some ex_int)) ax_nil)) ax_nil)) ex_int)) ex_int)) (gx_nm 2 S.nd rfl (by first | exact Or.inl rfl | exact Or.inr rfl))) (bx_cons (sx_asg (ex_add ex_int (ex_mul ex_int (ex_var 1))) (gx_nm 3 S.nd rfl (by first | exact Or.inl rfl | exact Or.inr rfl))) (bx_cons (sx_for rfl (ix_seq' (ex_add (ex_sl (ex_var 0) ox_none (ox_some ex_int)) (ex_lst (ax_cons (ex_var 2) ax_nil)))) (gx_nm 4 S.nd rfl (by first | exact Or.inl rfl | exact Or.inr rfl)) (bx_one (sx_asg (ex_mod (ex_int1 (by rfl) T.b_int (ax_cons (ex_add (ex_add (ex_mul (ex_var 3) ex_int) (ex_mod (ex_int1 (by rfl) T.b_int (ax_cons (ex_var 4) ax_nil)) ex_int)) ex_int) ax_nil)) ex_int) (gx_nm 3 S.nd rfl (by first | exact Or.inl rfl | exact Or.inr rfl))))) (bx_one (sx_ret (ex_lstC (ax_cons (ex_if (tx_w (wx_or (tx_lt hu (ex_var 2) ex_int) (wx_or1 (tx_ge hu (ex_var 2) (ex_pow ex_int ex_int))))) (ex_abs (by rfl) T.b_abs (ax_cons (ex_var 2) ax_nil)) ex_int) (ax_cons (ex_var 3) (ax_cons ex_int ax_nil)))))))))
/-! law -/
abbrev s_law : Stmt := topS 65
theorem sc_law : FnScope ["script", "turn"] ["script"] (defScope s_law) := ⟨rfl, rfl, rfl, by decide +kernel, rfl, by decide +kernel, by decide +kernel⟩
noncomputable def M_law : MS := (sRet (mCB (f1 allD) (aCons (mLc (iRange1 (aCons (mCB (f2 max2D) (aCons (mC (.int 2)) (aCons (mCB (f2 min2D) (aCons (mCB (f1 lenD) (aCons (mVar 0) aNil)) (aCons (mC (.int 3)) aNil))) aNil))) aNil)) (.nm 1) [1] mYes (mCall F__law_right (aCons (mCall F__law_well (aCons (mVar 0) (aCons (mVar 1) aNil))) aNil))) aNil)))
noncomputable def F_law : Fn := fnOf 2 1 M_law
theorem ok_law {f f__law_right f__law_well : Addr} {fd fd__law_right fd__law_well : FuncData} (T : Txt0 K mg a_TOLD) (A : At K mg "law" "law" s_law ["script"] f fd) (G__law_right : Df P w K mg base "_law_right" ["well"] f__law_right fd__law_right 11 F__law_right) (G__law_well : Df P w K mg base "_law_well" ["script", "turn"] f__law_well fd__law_well 1 F__law_well) : Df P w K mg base "law" ["script"] f fd 12 F_law := df_mk (k := 11) A sc_law fun cdv A1 outer s H E hr => by
  have S := sc_law
  have hu := hu65 hr
  exact (bx_one (sx_ret (ex_all rfl (by rfl) T.b_all (ax_cons (ex_lc (own := [("turn", 1)]) rfl S.nd (ix_range1 (by rfl) T.b_range (ax_cons (ex_max2 rfl (by rfl) T.b_max (ax_cons ex_int (ax_cons (ex_min2 rfl (by rfl) T.b_min (ax_cons (ex_len (by rfl) T.b_len (ax_cons (ex_var 0) ax_nil)) (ax_cons ex_int ax_nil))) ax_nil))) ax_nil)) (blkOk_by (by kernel_rfl)) (fun _ _ _ _ _ => (gx_nm 1 S.nd rfl (by first | exact Or.inl rfl | exact Or.inr rfl))) (fun _ _ _ _ _ => qx_nil) (fun _ _ _ _ _ => (ex_callD G__law_right (hr.mono (by decide)) (by rfl) (ax_cons (ex_callD G__law_well (hr.mono (by decide)) (by rfl) (ax_cons (ex_var 0) (ax_cons (ex_var 1) ax_nil))) ax_nil))) (fun _ => rfl) (by decide)) ax_nil))))
end
end LK13

set_option Elab.async false
set_option linter.all false
set_option maxRecDepth 100000
namespace LK13
open PL
abbrev T3 := Int × Int × Int
def st (t : T3) : D := .tup [.int t.1, .int t.2.1, .int t.2.2]
def fr (bs ps : List T3) : D := .tup [.tup (bs.map st), .tup (ps.map st)]
theorem is_whole_int (i : Int) (μ : Sto) : F_is_whole [.dat (.int i)] μ = some (.dat (.bl true), μ) := fn_dat rfl (ret_of (and_of (p := true) (q := true) rfl fun _ => rfl))
theorem is_between_int (i a b : Int) (μ : Sto) : F_is_between [.dat (.int i), .dat (.int a), .dat (.int b)] μ = some (.dat (.bl (decide (a ≤ i) && decide (i ≤ b))), μ) :=
  fn_dat rfl (ret_of (and_of (p := true) (call_of' rfl (is_whole_int i μ)) fun _ => chain_of' rfl rfl rfl rfl (leI _ _) rfl rfl (leI _ _)))
theorem is_tuple_of_tup (ds : List D) (n : Int) (μ : Sto) : F_is_tuple_of [.dat (.tup ds), .dat (.int n)] μ = some (.dat (.bl (decide ((ds.length : Int) = n))), μ) :=
  fn_dat rfl (ret_of (and_of (p := true) rfl fun _ => op_of' (cb_of' rfl rfl rfl) rfl rfl rfl (eqI _ _)))
theorem is_tuple_of_not (d : D) (n : Int) (μ : Sto) (h : isiD .tup d = some (.bl false)) : F_is_tuple_of [.dat d, .dat (.int n)] μ = some (.dat (.bl false), μ) :=
  fn_dat rfl (ret_of (and_of (p := false) (q := true) (un_of' rfl rfl h) fun h => nomatch h))
theorem are_wholes_ints (is : List Int) (n : Int) (μ : Sto) (hl : is.length ≤ lim) : F_are_wholes [.dat (.tup (is.map .int)), .dat (.int n)] μ = some (.dat (.bl (decide ((is.length : Int) = n))), μ) := by
  have h := fn_dat (n := 3) (j := 2) (ms := M_are_wholes) (xs := [.dat (.tup (is.map .int)), .dat (.int n)]) (μ := μ) rfl (ret_of (and_of (call_of' rfl (is_tuple_of_tup _ _ μ)) fun _ => all_seq (ds := is.map .int) (fun _ => true) rfl rfl rfl (fun d hd => by
      obtain ⟨i, _, rfl⟩ := List.mem_map.mp hd
      exact ⟨_, rfl, call_of' rfl (is_whole_int i μ)⟩) (by simpa using hl)))
  have e : (is.map D.int).all (fun _ => true) = true := List.all_eq_true.mpr fun _ _ => rfl
  rw [e, Bool.and_true, List.length_map] at h
  exact h
def okS (t : T3) : Bool := (0 ≤ t.1 && t.1 ≤ 30) && (0 ≤ t.2.1 && t.2.1 ≤ 30) && (0 ≤ t.2.2 && t.2.2 ≤ 30) && t.2.1 ≤ t.2.2
theorem is_strip_st (t : T3) (μ : Sto) : F_is_strip [.dat (st t)] μ = some (.dat (.bl (okS t)), μ) := by
  obtain ⟨a, b, c⟩ := t
  have hw : ∀ μ, F_are_wholes [.dat (st (a, b, c)), .dat (.int 3)] μ = some (.dat (.bl true), μ) := fun μ => are_wholes_ints [a, b, c] 3 μ (by simp [lim])
  have key : tmOr (tmNot (mTest (mCall F_are_wholes (aCons (mVar 0) (aCons (mC (.int 3)) aNil))))) (tmNot (mTest (mCB (f1 allD) (aCons (mLc (iSeq (mVar 0)) (.nm 1) [1] mYes (mCall F_is_between (aCons (mVar 1) (aCons (mC (.int 0)) (aCons (mC (.int 30)) aNil))))) aNil)))) [some (.dat (st (a, b, c))), none] μ
      = some (false || !([D.int a, .int b, .int c].all fun d => match d with | .int i => decide (0 ≤ i) && decide (i ≤ 30) | _ => false), μ) :=
    tor (tnot (tst (call_of' rfl (hw μ)))) fun _ => tnot (tst (all_seq (ds := [.int a, .int b, .int c]) _ rfl rfl rfl (fun d hd => by
      simp at hd
      rcases hd with h | h | h
      all_goals
        subst h
        exact ⟨_, rfl, call_of' rfl (is_between_int _ _ _ μ)⟩) (by simp [lim])))
  have ho : okS (a, b, c) = (([D.int a, .int b, .int c].all fun d => match d with | .int i => decide (0 ≤ i) && decide (i ≤ 30) | _ => false) && decide (b ≤ c)) := by simp [okS, Bool.and_assoc]
  rw [ho]
  generalize ([D.int a, .int b, .int c].all fun d => match d with | .int i => decide (0 ≤ i) && decide (i ≤ 30) | _ => false) = q at key
  cases q
  · exact fn_dat rfl (seq_rt (if_t key (ret_of rfl)))
  · exact fn_dat rfl (seq_nx (if_f key rfl) (ret_of (op_of' (opHT_of' rfl rfl rfl rfl rfl) (opHT_of' rfl rfl rfl rfl rfl) rfl rfl (leI _ _))))
def flw (s t : T3) : Bool := decide (s.1 < t.1) || (decide (s.1 = t.1) && decide (s.2.2 + 1 < t.2.1))
theorem do_follow_st (s t : T3) (μ : Sto) : F_do_follow [.dat (st s), .dat (st t)] μ = some (.dat (.bl (flw s t)), μ) := by
  obtain ⟨a, b, c⟩ := s
  obtain ⟨x, y, z⟩ := t
  exact fn_dat rfl (ret_of (or_of (op_of' (opHT_of' rfl rfl rfl rfl rfl) (opHT_of' rfl rfl rfl rfl rfl) rfl rfl (ltI _ _)) fun _ => and_of (op_of' (opHT_of' rfl rfl rfl rfl rfl) (opHT_of' rfl rfl rfl rfl rfl) rfl rfl (eqI _ _)) fun _ =>
    op_of' (opT_of' (opHT_of' rfl rfl rfl rfl rfl) rfl rfl rfl rfl) (opHT_of' rfl rfl rfl rfl rfl) rfl rfl (ltI _ _)))
def okSs (bs : List T3) : Bool := decide (bs.length ≤ 8) && bs.all okS && (bs.zip (bs.drop 1)).all fun p => flw p.1 p.2
theorem are_strips_st (bs : List T3) (μ : Sto) (hl : bs.length ≤ lim) : F_are_strips [.dat (.tup (bs.map st))] μ = some (.dat (.bl (okSs bs)), μ) := by
  have a1 : (D.tup (bs.map st)) = .tup (bs.map st) := rfl
  have key : tmOr (tmNot (mTest (mUn (isiD .tup) (mVar 0)))) (tmOr (mTest (mOp gtD (mCB (f1 lenD) (aCons (mVar 0) aNil)) (mC (.int 8)))) (tmNot (mTest (mCB (f1 allD) (aCons (mLc (iSeq (mVar 0)) (.nm 3) [3] mYes (mCall F_is_strip (aCons (mVar 3) aNil))) aNil))))) [some (.dat (.tup (bs.map st))), none, none, none] μ
      = some (false || (decide ((8 : Int) < ((bs.map st).length : Nat)) || !bs.all okS), μ) :=
    tor (tnot (tst (p := true) rfl)) fun _ => tor (tst (op_of' (cb_of' rfl rfl rfl) rfl rfl rfl rfl)) fun _ => tnot (by
      refine tst ?_
      have := all_seq (t := .nm 3) (vs := [3]) (te := mCall F_is_strip (aCons (mVar 3) aNil)) (a := mVar 0) (ρ := [some (.dat (.tup (bs.map st))), none, none, none]) (μ := μ) (ds := bs.map st) (fun d => match d with | .tup [.int a, .int b, .int c] => okS (a, b, c) | _ => false) rfl rfl rfl (fun d hd => by
        obtain ⟨t, _, rfl⟩ := List.mem_map.mp hd
        exact ⟨_, rfl, call_of' rfl (is_strip_st t μ)⟩) (by simpa using hl)
      rw [this, List.all_map]
      rfl)
  have hz : iZip (aCons (mVar 0) (aCons (mSl (mVar 0) (oSome (mC (.int 1))) oNone) aNil)) [some (.dat (.tup (bs.map st))), none, none, none] μ = some ((bs.zip (bs.drop 1)).map fun p => .tup [st p.1, st p.2], none, μ) := by
    have h1 : mSl (mVar 0) (oSome (mC (.int 1))) oNone [some (.dat (.tup (bs.map st))), none, none, none] μ = some (.dat (.tup (cutD (bs.map st) (some ((1 : Nat) : Int)) none)), μ) := rfl
    rw [cut_from, ← List.map_drop] at h1
    simp only [iZip, aCons, h1, mVar, aNil, List.getElem?_cons_zero, Option.bind_some, Option.map_some, deref, isSeq, ocOf, oc2, zipF_map]
  simp only [okSs]
  by_cases h8 : bs.length ≤ 8
  · rw [decide_eq_true h8, Bool.true_and]
    cases hb : bs.all okS with
    | false =>
      rw [hb] at key
      refine fn_dat rfl (seq_rt (if_t (key.trans ?_) (ret_of rfl)))
      simp
    | true =>
      rw [hb] at key
      refine fn_dat rfl (seq_nx (if_f (μ1 := μ) (key.trans ?_) rfl) (ret_of ?_))
      · simp; omega
      · have := all_it (t := .tp [.nm 1, .nm 2]) (vs := [1, 2]) (te := mCall F_do_follow (aCons (mVar 1) (aCons (mVar 2) aNil))) (fun d => match d with | .tup [.tup [.int a, .int b, .int c], .tup [.int x, .int y, .int z]] => flw (a, b, c) (x, y, z) | _ => false) hz trivial (fun d hd => by
          obtain ⟨t, _, rfl⟩ := List.mem_map.mp hd
          exact ⟨_, rfl, call_of' rfl (do_follow_st _ _ μ)⟩) (by simp; omega)
        rw [List.all_map] at this
        exact this
  · rw [decide_eq_false h8, Bool.false_and, Bool.false_and]
    refine fn_dat rfl (seq_rt (if_t (key.trans ?_) (ret_of rfl)))
    simp
    omega
end LK13

set_option Elab.async false
set_option linter.all false
set_option maxRecDepth 100000
namespace LK13
open PL
theorem is_framed_fr (bs ps : List T3) (μ : Sto) (hb : bs.length ≤ lim) (hp : ps.length ≤ lim) : F_is_framed [.dat (fr bs ps)] μ = some (.dat (.bl (okSs bs && okSs ps && decide (0 < bs.length + ps.length))), μ) := by
  have key : tmOr (tmNot (mTest (mCall F_is_tuple_of (aCons (mVar 0) (aCons (mC (.int 2)) aNil))))) (tmNot (mTest (mCB (f1 allD) (aCons (mLc (iSeq (mVar 0)) (.nm 1) [1] mYes (mCall F_are_strips (aCons (mVar 1) aNil))) aNil)))) [some (.dat (fr bs ps)), none] μ
      = some (false || !([true, false].all fun t => okSs (if t then bs else ps)), μ) :=
    tor (tnot (tst (call_of' rfl (is_tuple_of_tup [.tup (bs.map st), .tup (ps.map st)] 2 μ)))) fun _ => tnot (tst (by
      have h1 : iSeq (mVar 0) [some (.dat (fr bs ps)), none] μ = some ([.tup (bs.map st), .tup (ps.map st)], none, μ) := rfl
      have h2 : ∀ t : Bool, lcL none (.nm 1) [1] mYes (mCall F_are_strips (aCons (mVar 1) aNil)) [some (.dat (fr bs ps)), none] (if t then 0 else 1) [.tup ((if t then bs else ps).map st)] μ = some ([.bl (okSs (if t then bs else ps))], μ) := fun t => by
        have h3 : mCall F_are_strips (aCons (mVar 1) aNil) [some (.dat (fr bs ps)), some (.dat (.tup ((if t then bs else ps).map st)))] μ = some (.dat (.bl (okSs (if t then bs else ps))), μ) := call_of' rfl (are_strips_st _ μ (by cases t <;> assumption))
        simp only [lcL, bind1, wipeE, List.set, Option.bind_some, mYes, if_true, h3, keepP, true_and, Option.map_some]
        cases t <;> simp [lim]
      have h4 : lcL none (.nm 1) [1] mYes (mCall F_are_strips (aCons (mVar 1) aNil)) [some (.dat (fr bs ps)), none] 0 [.tup (bs.map st), .tup (ps.map st)] μ = some ([.bl (okSs bs), .bl (okSs ps)], μ) := by
        have h3 : ∀ xs : List T3, xs.length ≤ lim → mCall F_are_strips (aCons (mVar 1) aNil) [some (.dat (fr bs ps)), some (.dat (.tup (xs.map st)))] μ = some (.dat (.bl (okSs xs)), μ) := fun xs h => call_of' rfl (are_strips_st _ μ h)
        simp only [lcL, bind1, wipeE, List.set, Option.bind_some, mYes, if_true, h3 _ hb, h3 _ hp, keepP, true_and, Option.map_some]
        simp [lim]
      refine cb_of' (xs := [.dat (.lst [.bl (okSs bs), .bl (okSs ps)])]) (μ1 := μ) (ds := [.lst [.bl (okSs bs), .bl (okSs ps)]]) (acons ?_ rfl) rfl ?_
      · simp only [mLc, h1, Option.bind_some, h4, Option.map_some]
      · simp [f1, allD, bL]))
  have hk : ([true, false].all fun t => okSs (if t then bs else ps)) = (okSs bs && okSs ps) := by simp
  rw [hk] at key
  cases hq : (okSs bs && okSs ps) with
  | false =>
    rw [hq] at key
    exact fn_dat rfl (seq_rt (if_t key (ret_of rfl)))
  | true =>
    rw [hq] at key
    have := fn_dat (n := 2) (j := 1) (ms := M_is_framed) (xs := [.dat (fr bs ps)]) (μ := μ) rfl (seq_nx (if_f key rfl) (ret_of (op_of' (opT_of' (cb_of' (acons (opHT_of' rfl rfl rfl rfl rfl) rfl) rfl rfl) (cb_of' (acons (opHT_of' rfl rfl rfl rfl rfl) rfl) rfl rfl) rfl rfl rfl) rfl rfl rfl rfl)))
    rw [show (true && decide (0 < bs.length + ps.length)) = decide ((0 : Int) < ((bs.map st).length : Int) + ((ps.map st).length : Int)) by simp; omega]
    exact this
def crs (b p : T3) : Bool := (decide (b.2.1 ≤ p.1) && decide (p.1 ≤ b.2.2)) && (decide (p.2.1 ≤ b.1) && decide (b.1 ≤ p.2.2))
theorem do_cross_st (b p : T3) (μ : Sto) : F_do_cross [.dat (st b), .dat (st p)] μ = some (.dat (.bl (crs b p)), μ) := by
  obtain ⟨b1, b2, b3⟩ := b
  obtain ⟨p1, p2, p3⟩ := p
  exact fn_dat rfl (ret_of (and_of (chain_of' (opHT_of' rfl rfl rfl rfl rfl) (opHT_of' rfl rfl rfl rfl rfl) rfl rfl (leI _ _) (opHT_of' rfl rfl rfl rfl rfl) rfl (leI _ _)) fun _ =>
    chain_of' (opHT_of' rfl rfl rfl rfl rfl) (opHT_of' rfl rfl rfl rfl rfl) rfl rfl (leI _ _) (opHT_of' rfl rfl rfl rfl rfl) rfl (leI _ _)))
def row1 (ps : List T3) (i : Int) (b : T3) : List D := ((ps.zipIdx).filter fun q => crs b q.1).map fun q => .tup [.int i, .int (q.2 : Nat)]
def crossL (bs ps : List T3) : List D := bs.zipIdx.flatMap fun p => row1 ps (p.2 : Nat) p.1
theorem flat_len {α β : Type} (g : α → List β) (k : Nat) : ∀ (xs : List α), (∀ x ∈ xs, (g x).length ≤ k) → (xs.flatMap g).length ≤ xs.length * k
  | [], _ => by simp
  | x :: xs, h => by
    rw [List.flatMap_cons, List.length_append, List.length_cons, Nat.succ_mul]
    have := flat_len g k xs fun y hy => h y (List.mem_cons_of_mem _ hy)
    have := h x List.mem_cons_self
    omega
theorem row1_len (ps : List T3) (i : Int) (b : T3) : (row1 ps i b).length ≤ ps.length := by
  unfold row1
  rw [List.length_map]
  refine Nat.le_trans (List.length_filter_le _ _) ?_
  simp
theorem crossings_fr (bs ps : List T3) (μ : Sto) (hb : bs.length ≤ 8) (hp : ps.length ≤ 8) : F_crossings_by [.dat (fr bs ps)] μ = some (.dat (.lst (crossL bs ps)), μ) := by
  let ρ : Env := [some (.dat (fr bs ps)), some (.dat (.tup (bs.map st))), some (.dat (.tup (ps.map st))), none, none, none, none]
  have h1 : iEnum (aCons (mVar 1) aNil) ρ μ = some (bs.zipIdx.map fun p => .tup [.int (p.2 : Nat), st p.1], none, μ) := by
    have := enumF_map st bs 0
    show (some (enumF 0 (bs.map st), (none : Option (Nat × Cell)), μ)) = _
    rw [this]
  have h2 : ∀ (i : Int) (b : T3), iEnum (aCons (mVar 2) aNil) [some (.dat (fr bs ps)), some (.dat (.tup (bs.map st))), some (.dat (.tup (ps.map st))), some (.dat (.int i)), some (.dat (st b)), none, none] μ = some (ps.zipIdx.map fun p => .tup [.int (p.2 : Nat), st p.1], none, μ) := fun i b => by
    have := enumF_map st ps 0
    show (some (enumF 0 (ps.map st), (none : Option (Nat × Cell)), μ)) = _
    rw [this]
  have hz : bs.zipIdx.length = bs.length := by simp
  have h3 : ∀ (i : Int) (b : T3) (n : Nat), n + (row1 ps i b).length ≤ lim → n ≤ 64 → lcL none (.tp [.nm 5, .nm 6]) [5, 6] (mTest (mCall F_do_cross (aCons (mVar 4) (aCons (mVar 6) aNil)))) (mTup (aCons (mVar 3) (aCons (mVar 5) aNil)))
      [some (.dat (fr bs ps)), some (.dat (.tup (bs.map st))), some (.dat (.tup (ps.map st))), some (.dat (.int i)), some (.dat (st b)), none, none] n (ps.zipIdx.map fun p => .tup [.int (p.2 : Nat), st p.1]) μ = some (row1 ps i b, μ) := fun i b n hn hn2 => by
    rw [lcL_pure (oc := none) (fun d => match d with | .tup [j, _] => .tup [.int i, j] | _ => .non) (fun d => match d with | .tup [_, .tup [.int x, .int y, .int z]] => crs b (x, y, z) | _ => false) trivial _ n (fun d hd => by
      obtain ⟨q, _, rfl⟩ := List.mem_map.mp hd
      exact ⟨_, rfl, tst (call_of' rfl (do_cross_st b q.1 μ)), fun _ => rfl⟩) (by simp [lim]; omega)]
    rw [List.filter_map, List.map_map]
    rfl
  refine fn_dat rfl (seq_nx (asg_tp rfl rfl) (ret_of (x := .dat (.lst (crossL bs ps))) ?_))
  show mLc2 _ _ _ _ _ _ _ _ _ ρ μ = _
  simp only [mLc2, h1, Option.bind_some]
  have hf : (crossL bs ps).length ≤ 64 := by
    refine Nat.le_trans (flat_len _ 8 _ fun p _ => Nat.le_trans (row1_len _ _ _) hp) ?_
    rw [hz]
    omega
  rw [lc2L_pure 64 (fun d => match d with | .tup [.int i, .tup [.int x, .int y, .int z]] => row1 ps i (x, y, z) | _ => []) (oc := none) trivial _ 0 (fun d hd n hn => by
      obtain ⟨p, _, rfl⟩ := List.mem_map.mp hd
      have hn' : n + (row1 ps (p.2 : Nat) p.1).length ≤ 64 := hn
      exact ⟨_, _, _, rfl, h2 _ _, h3 _ _ n (by simp [lim]; omega) (by omega)⟩) (by
      rw [List.flatMap_map]
      have : (List.flatMap (fun p : T3 × Nat => row1 ps (p.2 : Nat) p.1) bs.zipIdx).length ≤ 64 := hf
      show 0 + (List.flatMap (fun p : T3 × Nat => row1 ps (p.2 : Nat) p.1) bs.zipIdx).length ≤ 64
      omega)]
  rw [List.flatMap_map]
  rfl
end LK13

set_option Elab.async false
set_option linter.all false
set_option maxRecDepth 100000
namespace LK13
open PL
def isW (d : D) : Bool := [D.str "bar", .str "post"].any fun y => eqv y d
def WD (d : D) : Prop := (∃ x, d = .str x ∧ (D.str x).okN 59 = true) ∨ ∃ i, d = .int i
theorem told_ok : okNs [D.str "bar", .str "post"] 59 = true := by decide +kernel
theorem is_word_of_ok (d : D) (h : WD d) (μ : Sto) : F_is_word_of [.dat d, .kon D_TOLD] μ = some (.dat (.bl (isW d)), μ) := by
  rcases h with ⟨x, rfl, hx⟩ | ⟨i, rfl⟩
  · have : inD (.str x) D_TOLD = some (.bl (isW (.str x))) := by
      show (if (D.str x).okN 59 = true ∧ okNs [D.str "bar", .str "post"] 59 = true then some (D.bl (isW (.str x))) else none) = _
      rw [if_pos ⟨hx, told_ok⟩]
    exact fn_dat rfl (ret_of (and_of (p := true) rfl fun _ => opTH_of' rfl rfl rfl rfl this))
  · exact fn_dat rfl (ret_of (and_of (p := false) (q := true) rfl fun h => nomatch h))
noncomputable def bodyFW : MS := (sIf (tmOr (mTest (mOp eqD (mVar 4) (mVar 3))) (tmNot (mTest (mCall F_is_word_of (aCons (mVar 5) (aCons (mVar 2) aNil)))))) (sRet (mVar 4)) sNx)
theorem fw_loop (fd vd : D) (many : Nat) (μ : Sto) : ∀ (ds : List D) (i : Nat) (x4 x5 : Option PV), (∀ d ∈ ds, WD d) → i ≤ many →
    ∃ o ρ', forL none (.tp [.nm 4, .nm 5]) bodyFW (enumF i ds) [some (.dat fd), some (.dat vd), some (.kon D_TOLD), some (.dat (.int (many : Nat))), x4, x5] μ = some (o, ρ', μ) ∧
      (if ds.all isW = true ∧ i + ds.length ≤ many then o = .nx ∧ ∃ y4 y5, ρ' = [some (.dat fd), some (.dat vd), some (.kon D_TOLD), some (.dat (.int (many : Nat))), y4, y5] else ∃ k, o = .rt (.dat (.int k)))
  | [], i, x4, x5, _, hi => ⟨.nx, _, rfl, by rw [if_pos ⟨rfl, by simpa using hi⟩]; exact ⟨rfl, x4, x5, rfl⟩⟩
  | d :: ds, i, x4, x5, h, hi => by
    have hw := is_word_of_ok d (h d List.mem_cons_self) μ
    let ρ1 : Env := [some (.dat fd), some (.dat vd), some (.kon D_TOLD), some (.dat (.int (many : Nat))), some (.dat (.int (i : Nat))), some (.dat d)]
    have ht : tmOr (mTest (mOp eqD (mVar 4) (mVar 3))) (tmNot (mTest (mCall F_is_word_of (aCons (mVar 5) (aCons (mVar 2) aNil))))) ρ1 μ = some (decide ((i : Int) = (many : Int)) || !isW d, μ) :=
      tor (tst (op_of' rfl rfl rfl rfl (eqI _ _))) fun _ => tnot (tst (call_of' rfl hw))
    by_cases hb : isW d = true ∧ i ≠ many
    · have hne : ¬ ((i : Int) = (many : Int)) := by have := hb.2; omega
      rw [hb.1, decide_eq_false hne] at ht
      have hbody : bodyFW ρ1 μ = some (.nx, ρ1, μ) := if_f ht rfl
      obtain ⟨o, ρ', k1, k2⟩ := fw_loop fd vd many μ ds (i + 1) (some (.dat (.int (i : Nat)))) (some (.dat d)) (fun d hd => h d (List.mem_cons_of_mem _ hd)) (by have := hb.2; omega)
      refine ⟨o, ρ', ?_, ?_⟩
      · exact (forL_nx (oc := none) rfl hbody trivial).trans k1
      · have e : (ds.all isW = true ∧ i + 1 + ds.length ≤ many) = ((d :: ds).all isW = true ∧ i + (d :: ds).length ≤ many) := propext (by
          rw [List.all_cons, hb.1, Bool.true_and, List.length_cons]
          constructor <;> rintro ⟨a, b⟩ <;> exact ⟨a, by omega⟩)
        simp only [e] at k2
        exact k2
    · have ht' : tmOr (mTest (mOp eqD (mVar 4) (mVar 3))) (tmNot (mTest (mCall F_is_word_of (aCons (mVar 5) (aCons (mVar 2) aNil))))) ρ1 μ = some (true, μ) := by
        rw [ht]
        by_cases hw : isW d = true
        · have : i = many := Classical.byContradiction fun z => hb ⟨hw, z⟩
          simp [this]
        · simp [hw]
      have hbody : bodyFW ρ1 μ = some (.rt (.dat (.int (i : Nat))), ρ1, μ) := if_t ht' (ret_of rfl)
      refine ⟨.rt (.dat (.int (i : Nat))), ρ1, ?_, ?_⟩
      · exact forL_rt rfl hbody
      · rw [if_neg]
        · exact ⟨_, rfl⟩
        · rintro ⟨a1, a2⟩
          rw [List.all_cons, Bool.and_eq_true] at a1
          rw [List.length_cons] at a2
          exact hb ⟨a1.1, by omega⟩
theorem first_wrong (bs ps : List T3) (ds : List D) (μ : Sto) (hb : bs.length ≤ 8) (hp : ps.length ≤ 8) (h : ∀ d ∈ ds, WD d) :
    ∃ d, F_first_wrong_over [.dat (fr bs ps), .dat (.tup ds), .kon D_TOLD] μ = some (.dat d, μ) ∧ (if ds.all isW = true ∧ ds.length = (crossL bs ps).length then d = .non else ∃ k, d = .int k) := by
  have h1 : mCB (f1 lenD) (aCons (mCall F_crossings_by (aCons (mVar 0) aNil)) aNil) [some (.dat (fr bs ps)), some (.dat (.tup ds)), some (.kon D_TOLD), none, none, none] μ = some (.dat (.int (crossL bs ps).length), μ) :=
    cb_of' (acons (call_of' rfl (crossings_fr bs ps μ hb hp)) rfl) rfl rfl
  obtain ⟨o, ρ', k1, k2⟩ := fw_loop (fr bs ps) (.tup ds) (crossL bs ps).length μ ds 0 none none h (Nat.zero_le _)
  have k1' : sFor (iEnum (aCons (mVar 1) aNil)) (.tp [(.nm 4), (.nm 5)]) bodyFW [some (.dat (fr bs ps)), some (.dat (.tup ds)), some (.kon D_TOLD), some (.dat (.int (crossL bs ps).length)), none, none] μ = some (o, ρ', μ) := k1
  by_cases hg : ds.all isW = true ∧ ds.length ≤ (crossL bs ps).length
  · rw [if_pos (by simpa using hg)] at k2
    obtain ⟨rfl, y4, y5, rfl⟩ := k2
    by_cases hlt : ds.length < (crossL bs ps).length
    · refine ⟨.int ds.length, fn_dat rfl (seq_nx (asg_nm' h1) (seq_nx k1' (ret_of (ifx (p := true) (tst ?_) (fun _ => rfl) fun h => nomatch h)))), ?_⟩
      · refine (op_of' rfl rfl rfl rfl (ltI _ _)).trans ?_
        rw [decide_eq_true (by omega)]
      · rw [if_neg (by omega)]
        exact ⟨_, rfl⟩
    · refine ⟨.non, fn_dat rfl (seq_nx (asg_nm' h1) (seq_nx k1' (ret_of (ifx (p := false) (tst ?_) (fun h => nomatch h) fun _ => rfl)))), ?_⟩
      · refine (op_of' rfl rfl rfl rfl (ltI _ _)).trans ?_
        rw [decide_eq_false (by omega)]
      · rw [if_pos ⟨hg.1, by omega⟩]
  · rw [if_neg (by simpa using hg)] at k2
    obtain ⟨k, rfl⟩ := k2
    refine ⟨.int k, fn_dat rfl (seq_nx (asg_nm' h1) (seq_rt k1')), ?_⟩
    rw [if_neg (fun z => hg ⟨z.1, by omega⟩)]
    exact ⟨_, rfl⟩
theorem are_overs_tup (bs ps : List T3) (ds : List D) (μ : Sto) (hb : bs.length ≤ 8) (hp : ps.length ≤ 8) (h : ∀ d ∈ ds, WD d) :
    F_are_overs [.dat (fr bs ps), .dat (.tup ds), .kon D_TOLD] μ = some (.dat (.bl (ds.all isW && decide (ds.length = (crossL bs ps).length))), μ) := by
  obtain ⟨d, k1, k2⟩ := first_wrong bs ps ds μ hb hp h
  have e1 : F_are_overs [.dat (fr bs ps), .dat (.tup ds), .kon D_TOLD] μ = some (.dat (.bl (true && (match isD d .non with | some (.bl b) => b | _ => false))), μ) := by
    refine fn_dat rfl (ret_of (and_of (p := true) rfl fun _ => op_of' (call_of' rfl k1) rfl rfl rfl ?_))
    split at k2
    · subst k2; rfl
    · obtain ⟨k, rfl⟩ := k2; rfl
  rw [e1, Bool.true_and]
  split at k2
  · rename_i hg
    subst k2
    rw [hg.1, decide_eq_true hg.2]
    rfl
  · rename_i hg
    obtain ⟨k, rfl⟩ := k2
    have : (ds.all isW && decide (ds.length = (crossL bs ps).length)) = false := by
      cases h1 : ds.all isW <;> simp_all
    rw [this]
    rfl
theorem are_overs_not (x : D) (d : D) (μ : Sto) (h : isiD .tup d = some (.bl false)) : F_are_overs [.dat x, .dat d, .kon D_TOLD] μ = some (.dat (.bl false), μ) :=
  fn_dat rfl (ret_of (and_of (p := false) (q := true) (un_of' rfl rfl h) fun h => nomatch h))
end LK13

set_option Elab.async false
set_option linter.all false
set_option maxRecDepth 100000
namespace LK13
open PL
abbrev N2 := Nat × Nat
def pr (p : N2) : D := .tup [.int (p.1 : Nat), .int (p.2 : Nat)]
theorem pr_eqv (a b : N2) : eqv (pr a) (pr b) = decide (a = b) := by
  obtain ⟨a1, a2⟩ := a
  obtain ⟨b1, b2⟩ := b
  show ((a1 : Int) == (b1 : Int) && ((a2 : Int) == (b2 : Int) && true)) = _
  by_cases h1 : a1 = b1 <;> by_cases h2 : a2 = b2 <;> simp [h1, h2] <;> omega
def ltP (a b : N2) : Prop := a.1 < b.1 ∨ (a.1 = b.1 ∧ a.2 < b.2)
instance (a b : N2) : Decidable (ltP a b) := inferInstanceAs (Decidable (_ ∨ _))
theorem ltP.ne {a b : N2} (h : ltP a b) : a ≠ b := by
  rintro rfl
  unfold ltP at h
  omega
def cN (bs ps : List T3) : List N2 := bs.zipIdx.flatMap fun p => ((ps.zipIdx).filter fun q => crs p.1 q.1).map fun q => (p.2, q.2)
theorem crossL_eq (bs ps : List T3) : crossL bs ps = (cN bs ps).map pr := by
  unfold crossL cN
  rw [List.map_flatMap]
  congr 1
  funext p
  rw [List.map_map]
  rfl
theorem mem_cN {bs ps : List T3} {c : N2} : c ∈ cN bs ps ↔ ∃ b p, bs[c.1]? = some b ∧ ps[c.2]? = some p ∧ crs b p = true := by
  unfold cN
  rw [List.mem_flatMap]
  constructor
  · rintro ⟨x, hx, h⟩
    obtain ⟨y, hy, rfl⟩ := List.mem_map.mp h
    obtain ⟨hy, hc⟩ := List.mem_filter.mp hy
    exact ⟨x.1, y.1, List.mem_zipIdx_iff_getElem?.mp hx, List.mem_zipIdx_iff_getElem?.mp hy, hc⟩
  · rintro ⟨b, p, hb, hp, hc⟩
    exact ⟨(b, c.1), List.mem_zipIdx_iff_getElem?.mpr hb, List.mem_map.mpr ⟨(p, c.2), List.mem_filter.mpr ⟨List.mem_zipIdx_iff_getElem?.mpr hp, hc⟩, rfl⟩⟩
theorem zipIdx_asc {α : Type} : ∀ (l : List α) (n : Nat), (l.zipIdx n).Pairwise fun p q => p.2 < q.2
  | [], _ => .nil
  | a :: l, n => by
    rw [List.zipIdx_cons]
    refine .cons (fun q hq => ?_) (zipIdx_asc l (n + 1))
    have := List.le_snd_of_mem_zipIdx hq
    show n < q.2
    omega
theorem cN_asc (bs ps : List T3) : (cN bs ps).Pairwise ltP := by
  unfold cN
  rw [List.pairwise_flatMap]
  refine ⟨fun p _ => ?_, (zipIdx_asc bs 0).imp fun {p q} h x hx y hy => ?_⟩
  · rw [List.pairwise_map]
    exact ((zipIdx_asc ps 0).filter _).imp fun h => .inr ⟨rfl, h⟩
  · obtain ⟨x', _, rfl⟩ := List.mem_map.mp hx
    obtain ⟨y', _, rfl⟩ := List.mem_map.mp hy
    exact .inl h
theorem asc_nd {l : List N2} (h : l.Pairwise ltP) : l.Nodup := h.imp fun h => h.ne
theorem cN_nd (bs ps : List T3) : (cN bs ps).Nodup := asc_nd (cN_asc bs ps)
theorem cN_len {bs ps : List T3} (hb : bs.length ≤ 8) (hp : ps.length ≤ 8) : (cN bs ps).length ≤ 64 := by
  have h : (crossL bs ps).length ≤ 64 := by
    refine Nat.le_trans (flat_len _ 8 _ fun p _ => Nat.le_trans (row1_len _ _ _) hp) ?_
    rw [List.length_zipIdx]
    omega
  rwa [crossL_eq, List.length_map] at h
theorem crossings_ok {bs ps : List T3} (μ : Sto) (hb : bs.length ≤ 8) (hp : ps.length ≤ 8) : F_crossings_by [.dat (fr bs ps)] μ = some (.dat (.lst ((cN bs ps).map pr)), μ) := by
  rw [crossings_fr bs ps μ hb hp, crossL_eq]
theorem law_cross_ok (b p : T3) (μ : Sto) : F__law_do_cross [.dat (st b), .dat (st p)] μ = some (.dat (.bl (crs b p)), μ) := by
  obtain ⟨b1, b2, b3⟩ := b
  obtain ⟨p1, p2, p3⟩ := p
  have e : crs (b1, b2, b3) (p1, p2, p3) = (decide (b2 ≤ p1) && (decide (p1 ≤ b3) && (decide (p2 ≤ b1) && decide (b1 ≤ p3)))) := by simp [crs, Bool.and_assoc]
  rw [e]
  exact fn_dat rfl (ret_of (and_of (op_of' (opHT_of' rfl rfl rfl rfl rfl) (opHT_of' rfl rfl rfl rfl rfl) rfl rfl (leI _ _)) fun _ => and_of (op_of' (opHT_of' rfl rfl rfl rfl rfl) (opHT_of' rfl rfl rfl rfl rfl) rfl rfl (leI _ _)) fun _ =>
    and_of (op_of' (opHT_of' rfl rfl rfl rfl rfl) (opHT_of' rfl rfl rfl rfl rfl) rfl rfl (leI _ _)) fun _ => op_of' (opHT_of' rfl rfl rfl rfl rfl) (opHT_of' rfl rfl rfl rfl rfl) rfl rfl (leI _ _)))
theorem law_crossings_loop (bs ps : List T3) (hp : ps.length ≤ 8) (μ : Sto) : ∀ (xs : List T3) (n : Nat) (acc : List D) (x2 x3 : Option PV), acc.length + xs.length * 8 ≤ 64 →
    ∃ x2' x3', forL none (.tp [.nm 2, .nm 3]) (sAsg (mOpT addD (mVar 1) (mLc (iEnum (aCons (mOpHT ixD (mVar 0) (mC (.int 1))) aNil)) (.tp [(.nm 4), (.nm 5)]) [4, 5] (mTest (mCall F__law_do_cross (aCons (mVar 3) (aCons (mVar 5) aNil)))) (mTup (aCons (mVar 2) (aCons (mVar 4) aNil))))) (.nm 1))
      ((xs.zipIdx n).map fun p => .tup [.int (p.2 : Nat), st p.1]) [some (.dat (fr bs ps)), some (.dat (.lst acc)), x2, x3, none, none] μ
      = some (.nx, [some (.dat (fr bs ps)), some (.dat (.lst (acc ++ (xs.zipIdx n).flatMap fun p => row1 ps (p.2 : Nat) p.1))), x2', x3', none, none], μ)
  | [], n, acc, x2, x3, _ => ⟨x2, x3, by simp [forL]⟩
  | b :: xs, n, acc, x2, x3, hl => by
    rw [List.length_cons] at hl
    have hr := row1_len ps (n : Nat) b
    let ρ : Env := [some (.dat (fr bs ps)), some (.dat (.lst acc)), some (.dat (.int (n : Nat))), some (.dat (st b)), none, none]
    have h2 : iEnum (aCons (mOpHT ixD (mVar 0) (mC (.int 1))) aNil) ρ μ = some (ps.zipIdx.map fun p => .tup [.int (p.2 : Nat), st p.1], none, μ) := by
      have := enumF_map st ps 0
      show (some (enumF 0 (ps.map st), (none : Option (Nat × Cell)), μ)) = _
      rw [this]
    have h3 : mLc (iEnum (aCons (mOpHT ixD (mVar 0) (mC (.int 1))) aNil)) (.tp [(.nm 4), (.nm 5)]) [4, 5] (mTest (mCall F__law_do_cross (aCons (mVar 3) (aCons (mVar 5) aNil)))) (mTup (aCons (mVar 2) (aCons (mVar 4) aNil))) ρ μ = some (.dat (.lst (row1 ps (n : Nat) b)), μ) := by
      simp only [mLc, h2, Option.bind_some]
      rw [lcL_pure (oc := none) (fun d => match d with | .tup [j, _] => .tup [.int (n : Nat), j] | _ => .non) (fun d => match d with | .tup [_, .tup [.int x, .int y, .int z]] => crs b (x, y, z) | _ => false) trivial _ 0 (fun d hd => by
        obtain ⟨q, _, rfl⟩ := List.mem_map.mp hd
        exact ⟨_, rfl, tst (call_of' rfl (law_cross_ok b q.1 μ)), fun _ => rfl⟩) (by simp [lim]; omega)]
      rw [List.filter_map, List.map_map]
      rfl
    have h4 : addD (.lst acc) (.lst (row1 ps (n : Nat) b)) = some (.lst (acc ++ row1 ps (n : Nat) b)) := by
      show (if acc.length + (row1 ps (n : Nat) b).length ≤ lim then _ else none) = _
      rw [if_pos (by unfold lim; omega)]
    obtain ⟨x2', x3', k⟩ := law_crossings_loop bs ps hp μ xs (n + 1) (acc ++ row1 ps (n : Nat) b) (some (.dat (.int (n : Nat)))) (some (.dat (st b))) (by rw [List.length_append]; omega)
    refine ⟨x2', x3', ?_⟩
    rw [List.zipIdx_cons, List.map_cons, List.flatMap_cons]
    refine (forL_nx (oc := none) (ρ1 := ρ) rfl (asg_nm' (opT_of' rfl h3 rfl rfl h4)) trivial).trans ?_
    refine k.trans ?_
    rw [List.append_assoc]
theorem law_crossings_ok {bs ps : List T3} (μ : Sto) (hb : bs.length ≤ 8) (hp : ps.length ≤ 8) : F__law_crossings [.dat (fr bs ps)] μ = some (.dat (.tup ((cN bs ps).map pr)), μ) := by
  obtain ⟨x2, x3, k⟩ := law_crossings_loop bs ps hp μ bs 0 [] none none (by simp; omega)
  have h1 : iEnum (aCons (mOpHT ixD (mVar 0) (mC (.int 0))) aNil) [some (.dat (fr bs ps)), some (.dat (.lst [])), none, none, none, none] μ = some (bs.zipIdx.map fun p => .tup [.int (p.2 : Nat), st p.1], none, μ) := by
    have := enumF_map st bs 0
    show (some (enumF 0 (bs.map st), (none : Option (Nat × Cell)), μ)) = _
    rw [this]
  refine fn_dat rfl (seq_nx (asg_nm' rfl) (seq_nx (ρ1 := [some (.dat (fr bs ps)), some (.dat (.lst ((cN bs ps).map pr))), x2, x3, none, none]) (μ1 := μ) ?_ (ret_of (cp_of' (μ1 := μ) (xs := [.dat (.lst ((cN bs ps).map pr))]) rfl rfl))))
  · unfold sFor
    show (iEnum _ [some (.dat (fr bs ps)), some (.dat (.lst [])), none, none, none, none] μ).bind _ = _
    rw [h1]
    refine k.trans ?_
    rw [← crossL_eq]
    rfl
end LK13

set_option Elab.async false
set_option linter.all false
set_option maxRecDepth 100000
namespace LK13
open PL
def wd : Bool → D
  | true => .str "bar"
  | false => .str "post"
theorem wd_ok (b : Bool) : (wd b).okN 60 = true := by cases b <;> decide +kernel
theorem wd_okN (b : Bool) (n : Nat) : (wd b).okN n = true := by
  have h : (wd b).okN n = (wd b).okN 60 := by cases b <;> rfl
  rw [h, wd_ok]
/-- a work: the word and the nails by crossings -/
def wk (bs ps : List T3) (W : N2 → Bool) (ns : List N2) : D := .tup [fr bs ps, .tup ((cN bs ps).map fun c => wd (W c)), .tup (ns.map pr)]
def cellV (W : N2 → Bool) (ns : List N2) (c : N2) : D := .tup [wd (W c), .bl (decide (c ∈ ns))]
def cellsD (bs ps : List T3) (W : N2 → Bool) (ns : List N2) : D := .dct true ((cN bs ps).map pr) ((cN bs ps).map (cellV W ns))
theorem pr_okN (c : N2) (n : Nat) : (pr c).okN (n + 1) = true := okN_ints [(c.1 : Int), (c.2 : Int)] n
theorem prs_okN (ns : List N2) (n : Nat) : okNs (ns.map pr) (n + 1) = true := by
  rw [okNs_all, List.all_map]
  exact List.all_eq_true.mpr fun c _ => pr_okN c n
theorem in_pairs (c : N2) (ns : List N2) : inD (pr c) (.tup (ns.map pr)) = some (.bl (decide (c ∈ ns))) := by
  have e : ((ns.map pr).any fun y => eqv y (pr c)) = decide (c ∈ ns) := by
    rw [List.any_map]
    induction ns with
    | nil => rfl
    | cons n ns ih =>
      rw [List.any_cons, ih]
      show (eqv (pr n) (pr c) || _) = _
      rw [pr_eqv]
      by_cases h : c = n
      · subst h; simp
      · have h' : ¬ n = c := fun z => h z.symm
        simp [h, h']
  show (if (pr c).okN 59 = true ∧ okNs (ns.map pr) 59 = true then some (D.bl ((ns.map pr).any fun y => eqv y (pr c))) else none) = _
  rw [if_pos ⟨pr_okN c 58, prs_okN ns 58⟩, e]
theorem pr_key (c : N2) : isKey true (pr c) = true := rfl
theorem nd_eqv {cs : List N2} (h : cs.Nodup) : cs.Pairwise fun a a' => eqv (pr a) (pr a') = false := h.imp fun h => by rw [pr_eqv]; exact decide_eq_false h
theorem zip_words (cs : List N2) (W : N2 → Bool) : zipF (cs.map pr) (cs.map fun c => wd (W c)) = cs.map fun c => .tup [pr c, wd (W c)] := by
  rw [zipF_map]
  induction cs with
  | nil => rfl
  | cons c cs ih => rw [List.zip_cons_cons, List.map_cons, List.map_cons, ih]
section
variable {bs ps : List T3} {W : N2 → Bool} {ns : List N2} {μ : Sto} (hb : bs.length ≤ 8) (hp : ps.length ≤ 8)
include hb hp
theorem told_ok' : F_told_crossings [.dat (wk bs ps W ns)] μ = some (.dat (cellsD bs ps W ns), μ) := by
  have hl := cN_len hb hp
  have h1 : mCall F_crossings_by (aCons (mOpHT ixD (mVar 0) (mC (.int 0))) aNil) [some (.dat (wk bs ps W ns)), none, none, none] μ = some (.dat (.lst ((cN bs ps).map pr)), μ) := call_of' (acons (opHT_of' rfl rfl rfl rfl rfl) rfl) (crossings_ok μ hb hp)
  let ρ : Env := [some (.dat (wk bs ps W ns)), some (.dat (.lst ((cN bs ps).map pr))), none, none]
  have hz : iZip (aCons (mVar 1) (aCons (mOpHT ixD (mVar 0) (mC (.int 1))) aNil)) ρ μ = some ((cN bs ps).map (fun c => .tup [pr c, wd (W c)]), none, μ) := by
    show some (zipF ((cN bs ps).map pr) ((cN bs ps).map fun c => wd (W c)), none, μ) = _
    rw [zip_words]
  refine fn_dat rfl (seq_nx (asg_nm' h1) (ret_of (dc_new (fun c => .tup [pr c, wd (W c)]) pr (cellV W ns) hz trivial (fun c _ => ⟨pr_key c, _, rfl, rfl, ?_⟩) (nd_eqv (cN_nd bs ps)) (by unfold lim; omega))))
  exact tup_of' (acons rfl (acons (opTH_of' rfl (opHT_of' rfl rfl rfl rfl rfl) rfl rfl (in_pairs c ns)) rfl)) rfl (by simp [lim])
theorem law_cells_loop : ∀ (cs as : List N2) (x2 x3 : Option PV), (as ++ cs).Nodup → (as ++ cs).length ≤ 64 →
    ∃ x2' x3', forL none (.tp [.nm 2, .nm 3]) (sAsgS (mTup (aCons (mVar 3) (aCons (mOpTH inD (mVar 2) (mOpHT ixD (mVar 0) (mC (.int 2)))) aNil))) (.sub (mVar 1) (mVar 2))) (cs.map fun c => .tup [pr c, wd (W c)])
      [some (.dat (wk bs ps W ns)), some (.cell μ.length), x2, x3] (μ ++ [.flat (.dct true (as.map pr) (as.map (cellV W ns)))])
      = some (.nx, [some (.dat (wk bs ps W ns)), some (.cell μ.length), x2', x3'], μ ++ [.flat (.dct true ((as ++ cs).map pr) ((as ++ cs).map (cellV W ns)))])
  | [], as, x2, x3, _, _ => ⟨x2, x3, by simp [forL]⟩
  | c :: cs, as, x2, x3, nd, hl => by
    let ρ1 : Env := [some (.dat (wk bs ps W ns)), some (.cell μ.length), some (.dat (pr c)), some (.dat (wd (W c)))]
    let μ1 : Sto := μ ++ [.flat (.dct true (as.map pr) (as.map (cellV W ns)))]
    have hcell : μ1[μ.length]? = some (.flat (.dct true (as.map pr) (as.map (cellV W ns)))) := by simp [μ1]
    have hfresh : ∀ a ∈ as, a ≠ c := fun a ha e => by
      have := (List.nodup_append.mp nd).2.2 a ha c List.mem_cons_self
      exact this e
    have hset : setD (.dct true (as.map pr) (as.map (cellV W ns))) (pr c) (cellV W ns c) = some (.dct true ((as ++ [c]).map pr) ((as ++ [c]).map (cellV W ns))) := by
      rw [List.length_append] at hl
      show (if isKey true (pr c) = true ∧ (as.map pr).length < lim then some (D.dct true (putV (as.map pr) (as.map (cellV W ns)) (pr c) (cellV W ns c)).1 (putV (as.map pr) (as.map (cellV W ns)) (pr c) (cellV W ns c)).2) else none) = _
      rw [if_pos ⟨rfl, by rw [List.length_map]; unfold lim; omega⟩, putV_new (fun x hx => by
        obtain ⟨a, ha, rfl⟩ := List.mem_map.mp hx
        rw [pr_eqv]
        exact decide_eq_false (hfresh a ha))]
      simp
    have hv : mTup (aCons (mVar 3) (aCons (mOpTH inD (mVar 2) (mOpHT ixD (mVar 0) (mC (.int 2)))) aNil)) ρ1 μ1 = some (.dat (cellV W ns c), μ1) :=
      tup_of' (acons rfl (acons (opTH_of' rfl (opHT_of' rfl rfl rfl rfl rfl) rfl rfl (in_pairs c ns)) rfl)) rfl (by simp [lim])
    have hset2 : μ1.set μ.length (.flat (.dct true ((as ++ [c]).map pr) ((as ++ [c]).map (cellV W ns)))) = μ ++ [.flat (.dct true ((as ++ [c]).map pr) ((as ++ [c]).map (cellV W ns)))] := by
      simp [μ1]
    have hbody : sAsgS (mTup (aCons (mVar 3) (aCons (mOpTH inD (mVar 2) (mOpHT ixD (mVar 0) (mC (.int 2)))) aNil))) (.sub (mVar 1) (mVar 2)) ρ1 μ1 = some (.nx, ρ1, μ ++ [.flat (.dct true ((as ++ [c]).map pr) ((as ++ [c]).map (cellV W ns)))]) := by
      rw [← hset2]
      exact asgS_of' hv (put_of' rfl rfl hcell rfl hset)
    obtain ⟨x2', x3', k⟩ := law_cells_loop cs (as ++ [c]) (some (.dat (pr c))) (some (.dat (wd (W c)))) (by simpa using nd) (by simpa using hl)
    refine ⟨x2', x3', (forL_nx (oc := none) (ρ1 := ρ1) rfl hbody trivial).trans (k.trans ?_)⟩
    simp
theorem law_cells_ok : F__law_cells [.dat (wk bs ps W ns)] μ = some (.dat (cellsD bs ps W ns), μ) := by
  have hl := cN_len hb hp
  obtain ⟨x2, x3, k⟩ := law_cells_loop (μ := μ) (ns := ns) (W := W) hb hp (cN bs ps) [] none none (by simpa using cN_nd bs ps) (by simpa using hl)
  have h0 : sAsg (mDct0C true) (.nm 1) [some (.dat (wk bs ps W ns)), none, none, none] μ = some (.nx, [some (.dat (wk bs ps W ns)), some (.cell μ.length), none, none], μ ++ [.flat (.dct true [] [])]) := rfl
  have hz : iZip (aCons (mCall F__law_crossings (aCons (mOpHT ixD (mVar 0) (mC (.int 0))) aNil)) (aCons (mOpHT ixD (mVar 0) (mC (.int 1))) aNil)) [some (.dat (wk bs ps W ns)), some (.cell μ.length), none, none] (μ ++ [.flat (.dct true [] [])]) = some ((cN bs ps).map (fun c => .tup [pr c, wd (W c)]), none, μ ++ [.flat (.dct true [] [])]) := by
    have hc : mCall F__law_crossings (aCons (mOpHT ixD (mVar 0) (mC (.int 0))) aNil) [some (.dat (wk bs ps W ns)), some (.cell μ.length), none, none] (μ ++ [.flat (.dct true [] [])]) = some (.dat (.tup ((cN bs ps).map pr)), μ ++ [.flat (.dct true [] [])]) := call_of' (acons (opHT_of' rfl rfl rfl rfl rfl) rfl) (law_crossings_ok _ hb hp)
    have ha : aCons (mCall F__law_crossings (aCons (mOpHT ixD (mVar 0) (mC (.int 0))) aNil)) (aCons (mOpHT ixD (mVar 0) (mC (.int 1))) aNil) [some (.dat (wk bs ps W ns)), some (.cell μ.length), none, none] (μ ++ [.flat (.dct true [] [])]) = some ([.dat (.tup ((cN bs ps).map pr)), .dat (.tup ((cN bs ps).map fun c => wd (W c)))], μ ++ [.flat (.dct true [] [])]) := acons hc (acons (opHT_of' rfl rfl rfl rfl rfl) rfl)
    unfold iZip
    rw [ha]
    show some (zipF ((cN bs ps).map pr) ((cN bs ps).map fun c => wd (W c)), none, _) = _
    rw [zip_words]
  have h1 : sFor (iZip (aCons (mCall F__law_crossings (aCons (mOpHT ixD (mVar 0) (mC (.int 0))) aNil)) (aCons (mOpHT ixD (mVar 0) (mC (.int 1))) aNil))) (.tp [(.nm 2), (.nm 3)]) (sAsgS (mTup (aCons (mVar 3) (aCons (mOpTH inD (mVar 2) (mOpHT ixD (mVar 0) (mC (.int 2)))) aNil))) (.sub (mVar 1) (mVar 2))) [some (.dat (wk bs ps W ns)), some (.cell μ.length), none, none] (μ ++ [.flat (.dct true [] [])])
      = some (.nx, [some (.dat (wk bs ps W ns)), some (.cell μ.length), x2, x3], μ ++ [.flat (cellsD bs ps W ns)]) := by
    unfold sFor
    rw [hz]
    exact k
  have hf : mFrz (mVar 1) [some (.dat (wk bs ps W ns)), some (.cell μ.length), x2, x3] (μ ++ [Cell.flat (cellsD bs ps W ns)]) = some (.dat (cellsD bs ps W ns), (μ ++ [Cell.flat (cellsD bs ps W ns)]).set μ.length .gone) := by
    simp only [mFrz, mVar, List.getElem?_cons_succ, List.getElem?_cons_zero, Option.bind_some]
    simp
  have h := fn_cut (n := 4) (j := 1) (ms := M__law_cells) (xs := [.dat (wk bs ps W ns)]) (μ := μ) rfl (seq_nx h0 (seq_nx h1 (ret_of hf)))
  rw [show ((μ ++ [Cell.flat (cellsD bs ps W ns)]).set μ.length .gone).take μ.length = μ by simp] at h
  exact h
end
/-- what lies at a crossing -/
def cv (bs ps : List T3) (W : N2 → Bool) (ns : List N2) (c : N2) : Option (Bool × Bool) := if c ∈ cN bs ps then some (W c, decide (c ∈ ns)) else none
def cd : Option (Bool × Bool) → D
  | none => .non
  | some (w, n) => .tup [wd w, .bl n]
theorem wd_eqv (a b : Bool) : eqv (wd a) (wd b) = decide (a = b) := by cases a <;> cases b <;> decide +kernel
theorem cd_eqv (x y : Option (Bool × Bool)) : eqv (cd x) (cd y) = decide (x = y) := by
  cases x with
  | none => cases y <;> rfl
  | some x =>
    cases y with
    | none => rfl
    | some y =>
      obtain ⟨a, b⟩ := x
      obtain ⟨c, d⟩ := y
      show (eqv (wd a) (wd c) && ((b == d) && true)) = _
      rw [wd_eqv]
      cases a <;> cases b <;> cases c <;> cases d <;> rfl
theorem cd_okN (x : Option (Bool × Bool)) : (cd x).okN 60 = true := by
  cases x with
  | none => rfl
  | some x =>
    obtain ⟨a, b⟩ := x
    cases a <;> cases b <;> decide +kernel
theorem get_cells (bs ps : List T3) (W : N2 → Bool) (ns : List N2) (c : N2) : getDD .non (cellsD bs ps W ns) (pr c) = some (cd (cv bs ps W ns c)) := by
  show (if isKey true (pr c) = true then some ((look ((cN bs ps).map pr) ((cN bs ps).map (cellV W ns)) (pr c)).getD .non) else none) = _
  rw [if_pos (pr_key c), look_new pr (cellV W ns) pr_eqv]
  unfold cv
  split <;> rfl
theorem eq_cd (x y : Option (Bool × Bool)) : eqD (cd x) (cd y) = some (.bl (decide (x = y))) := by
  unfold eqD
  rw [if_pos ⟨cd_okN x, cd_okN y⟩, cd_eqv]
theorem ne_cd (x y : Option (Bool × Bool)) : neD (cd x) (cd y) = some (.bl (!decide (x = y))) := by
  unfold neD
  rw [if_pos ⟨cd_okN x, cd_okN y⟩, cd_eqv]
end LK13

set_option Elab.async false
set_option linter.all false
set_option maxRecDepth 100000
namespace LK13
open PL
theorem lt_pr (a b : N2) : ltD (pr a) (pr b) = some (.bl (decide (ltP a b))) := by
  unfold ltD
  rw [if_pos ⟨pr_okN a 59, pr_okN b 59⟩]
  obtain ⟨a1, a2⟩ := a
  obtain ⟨b1, b2⟩ := b
  show (ltvs [.int (a1 : Int), .int (a2 : Int)] [.int (b1 : Int), .int (b2 : Int)]).map D.bl = _
  simp only [ltvs, ltv, eqv]
  unfold ltP
  by_cases h1 : a1 = b1
  · by_cases h2 : a2 = b2
    · simp [h1, h2]
    · have h2' : ((a2 : Int) == (b2 : Int)) = false := by simp; omega
      simp [h1, h2']
  · have h1' : ((a1 : Int) == (b1 : Int)) = false := by simp; omega
    by_cases h2 : a2 = b2
    · simp [h1, h1', h2]
    · have h2' : ((a2 : Int) == (b2 : Int)) = false := by simp; omega
      simp [h1, h1', h2']
theorem zip_pair {α : Type} {R : α → α → Prop} : ∀ {l : List α}, l.Pairwise R → ∀ p ∈ l.zip (l.drop 1), R p.1 p.2
  | [], _, p, hp => by simp at hp
  | [a], _, p, hp => by simp at hp
  | a :: b :: l, h, p, hp => by
    rw [List.pairwise_cons] at h
    have hp' : p ∈ (a, b) :: (b :: l).zip ((b :: l).drop 1) := hp
    rcases List.mem_cons.mp hp' with rfl | hp2
    · exact h.1 b List.mem_cons_self
    · exact zip_pair h.2 p hp2
theorem asc_ok {ns : List N2} (h : ns.Pairwise ltP) (hl : ns.length ≤ 1000) (μ : Sto) : F_is_ascending [.dat (.tup (ns.map pr))] μ = some (.dat (.bl true), μ) := by
  have hz : iZip (aCons (mVar 0) (aCons (mSl (mVar 0) (oSome (mC (.int 1))) oNone) aNil)) [some (.dat (.tup (ns.map pr))), none, none] μ = some ((ns.zip (ns.drop 1)).map fun p => .tup [pr p.1, pr p.2], none, μ) := by
    have h1 : mSl (mVar 0) (oSome (mC (.int 1))) oNone [some (.dat (.tup (ns.map pr))), none, none] μ = some (.dat (.tup (cutD (ns.map pr) (some ((1 : Nat) : Int)) none)), μ) := rfl
    rw [cut_from, ← List.map_drop] at h1
    simp only [iZip, aCons, h1, mVar, aNil, List.getElem?_cons_zero, Option.bind_some, Option.map_some, deref, isSeq, ocOf, oc2, zipF_map]
  have hall := all_it (t := .tp [.nm 1, .nm 2]) (vs := [1, 2]) (te := mOp ltD (mVar 1) (mVar 2)) (fun _ => true) hz trivial (fun d hd => by
    obtain ⟨p, hp, rfl⟩ := List.mem_map.mp hd
    refine ⟨_, rfl, ?_⟩
    have := zip_pair h p hp
    refine (op_of' rfl rfl rfl rfl (lt_pr p.1 p.2)).trans ?_
    rw [decide_eq_true this]) (by simp [lim]; omega)
  refine fn_dat rfl (ret_of (hall.trans ?_))
  rw [List.all_eq_true.mpr fun _ _ => rfl]
theorem nd_len {α : Type} [DecidableEq α] : ∀ {l m : List α}, l.Nodup → (∀ x ∈ l, x ∈ m) → l.length ≤ m.length
  | [], m, _, _ => Nat.zero_le _
  | a :: l, m, nd, h => by
    rw [List.nodup_cons] at nd
    have ha := h a List.mem_cons_self
    have := nd_len (l := l) (m := m.erase a) nd.2 fun x hx => (List.mem_erase_of_ne (by rintro rfl; exact nd.1 hx)).mpr (h x (List.mem_cons_of_mem _ hx))
    rw [List.length_erase_of_mem ha] at this
    have : 0 < m.length := List.length_pos_of_mem ha
    rw [List.length_cons]
    omega
structure GoodW (bs ps : List T3) (ns : List N2) : Prop where
  b : okSs bs = true
  p : okSs ps = true
  n : 0 < bs.length + ps.length
  asc : ns.Pairwise ltP
  sub : ∀ c ∈ ns, c ∈ cN bs ps
theorem okSs_len {bs : List T3} (h : okSs bs = true) : bs.length ≤ 8 := by
  unfold okSs at h
  rw [Bool.and_eq_true, Bool.and_eq_true] at h
  exact of_decide_eq_true h.1.1
section
variable {bs ps : List T3} {ns : List N2} (g : GoodW bs ps ns)
include g
theorem GoodW.lb : bs.length ≤ 8 := okSs_len g.b
theorem GoodW.lp : ps.length ≤ 8 := okSs_len g.p
theorem GoodW.ln : ns.length ≤ 64 := by
  exact Nat.le_trans (nd_len (asc_nd g.asc) g.sub) (cN_len g.lb g.lp)
theorem GoodW.nails (μ : Sto) : F_are_nails [.dat (fr bs ps), .dat (.tup (ns.map pr))] μ = some (.dat (.bl true), μ) := by
  have hb := g.lb
  have hp := g.lp
  have hl := cN_len hb hp
  have hn := g.ln
  have ht : tmOr (tmNot (mTest (mUn (isiD .tup) (mVar 1)))) (tmNot (mTest (mCB (f1 allD) (aCons (mLc (iSeq (mVar 1)) (.nm 4) [4] mYes (mCall F_are_wholes (aCons (mVar 4) (aCons (mC (.int 2)) aNil)))) aNil)))) [some (.dat (fr bs ps)), some (.dat (.tup (ns.map pr))), none, none, none] μ = some (false || !((ns.map pr).all fun _ => true), μ) :=
    tor (tnot (tst (p := true) rfl)) fun _ => tnot (tst (all_seq (ds := ns.map pr) (fun _ => true) rfl rfl rfl (fun d hd => by
      obtain ⟨c, _, rfl⟩ := List.mem_map.mp hd
      exact ⟨_, rfl, call_of' rfl (are_wholes_ints [(c.1 : Int), (c.2 : Int)] 2 μ (by simp [lim]))⟩) (by simp [lim]; omega)))
  rw [show ((ns.map pr).all fun _ => true) = true from List.all_eq_true.mpr fun _ _ => rfl] at ht
  have hd : mDc true (iSeq (mCall F_crossings_by (aCons (mVar 0) aNil))) (.nm 3) [3] mYes (mVar 3) (mC (.bl true)) [some (.dat (fr bs ps)), some (.dat (.tup (ns.map pr))), none, none, none] μ = some (.dat (.dct true ((cN bs ps).map pr) ((cN bs ps).map fun _ => .bl true)), μ) := by
    have hi := seq_it (a := mCall F_crossings_by (aCons (mVar 0) aNil)) (ρ := [some (.dat (fr bs ps)), some (.dat (.tup (ns.map pr))), none, none, none]) (μ := μ) (call_of' rfl (crossings_ok μ hb hp)) rfl rfl
    exact dc_new pr pr (fun _ => .bl true) hi trivial (fun c _ => ⟨pr_key c, _, rfl, rfl, rfl⟩) (nd_eqv (cN_nd bs ps)) (by unfold lim; omega)
  have ha := all_seq (a := mVar 1) (t := .nm 4) (vs := [4]) (te := mOpTH inD (mVar 4) (mVar 2)) (ρ := [some (.dat (fr bs ps)), some (.dat (.tup (ns.map pr))), some (.dat (.dct true ((cN bs ps).map pr) ((cN bs ps).map fun _ => .bl true))), none, none]) (μ := μ) (ds := ns.map pr) (fun _ => true) rfl rfl rfl (fun d hd => by
      obtain ⟨c, hc, rfl⟩ := List.mem_map.mp hd
      refine ⟨_, rfl, opTH_of' rfl rfl rfl rfl ?_⟩
      show (if isKey true (pr c) = true then some (D.bl (look ((cN bs ps).map pr) ((cN bs ps).map fun _ => .bl true) (pr c)).isSome) else none) = _
      rw [if_pos (pr_key c), look_new pr (fun _ => .bl true) pr_eqv, if_pos (g.sub c hc)]
      rfl) (by simp [lim]; omega)
  rw [show ((ns.map pr).all fun _ => true) = true from List.all_eq_true.mpr fun _ _ => rfl] at ha
  exact fn_dat rfl (seq_nx (if_f ht rfl) (seq_nx (asg_nm' hd) (ret_of (and_of (p := true) (q := true) ha fun _ => call_of' rfl (asc_ok g.asc (by omega) μ)))))
theorem GoodW.overs (W : N2 → Bool) (μ : Sto) : F_are_overs [.dat (fr bs ps), .dat (.tup ((cN bs ps).map fun c => wd (W c))), .kon D_TOLD] μ = some (.dat (.bl true), μ) := by
  rw [are_overs_tup bs ps _ μ g.lb g.lp (fun d hd => by
    obtain ⟨c, _, rfl⟩ := List.mem_map.mp hd
    refine .inl ?_
    cases W c
    · exact ⟨_, rfl, by decide +kernel⟩
    · exact ⟨_, rfl, by decide +kernel⟩), crossL_eq]
  have h : ((cN bs ps).map fun c => wd (W c)).all isW = true := by
    rw [List.all_map]
    refine List.all_eq_true.mpr fun c _ => ?_
    show isW (wd (W c)) = true
    cases W c <;> decide +kernel
  rw [h]
  simp
theorem GoodW.worked (W : N2 → Bool) (μ : Sto) : F_is_worked [.dat (wk bs ps W ns)] μ = some (.dat (.bl true), μ) := by
  have hf := is_framed_fr bs ps μ (by have := g.lb; unfold lim; omega) (by have := g.lp; unfold lim; omega)
  rw [g.b, g.p, decide_eq_true g.n] at hf
  have ht : tmOr (tmNot (mTest (mCall F_is_tuple_of (aCons (mVar 0) (aCons (mC (.int 3)) aNil))))) (tmNot (mTest (mCall F_is_framed (aCons (mOpHT ixD (mVar 0) (mC (.int 0))) aNil)))) [some (.dat (wk bs ps W ns)), some (.kon D_TOLD)] μ = some (false || !true, μ) :=
    tor (tnot (tst (call_of' rfl (is_tuple_of_tup [_, _, _] 3 μ)))) fun _ => tnot (tst (call_of' (acons (opHT_of' rfl rfl rfl rfl rfl) rfl) hf))
  have hw : F_is_with [.dat (wk bs ps W ns), .kon D_TOLD] μ = some (.dat (.bl true), μ) :=
    fn_dat rfl (seq_nx (if_f ht rfl) (ret_of (and_of (p := true) (q := true) (call_of' (acons (opHT_of' rfl rfl rfl rfl rfl) (acons (opHT_of' rfl rfl rfl rfl rfl) rfl)) (g.overs W μ)) fun _ => call_of' (acons (opHT_of' rfl rfl rfl rfl rfl) (acons (opHT_of' rfl rfl rfl rfl rfl) rfl)) (g.nails μ))))
  exact fn_dat rfl (ret_of (call_of' rfl hw))
theorem GoodW.work (W : N2 → Bool) (μ : Sto) : F_is_work [.dat (wk bs ps W ns)] μ = some (.dat (.bl true), μ) := fn_dat rfl (ret_of (call_of' rfl (g.worked W μ)))
theorem GoodW.check (W : N2 → Bool) (μ : Sto) : F_check_work [.dat (wk bs ps W ns)] μ = some (.dat .non, μ) := fn_non rfl (if_f (tnot (tst (call_of' rfl (g.worked W μ)))) rfl)
end
end LK13

set_option Elab.async false
set_option linter.all false
set_option maxRecDepth 100000
namespace LK13
open PL
def rw' (row : List Nat) : D := .tup (row.map fun (i : Nat) => .int (i : Int))
def nextOf (row : List Nat) : Nat := match row.getLast? with
  | none => 0
  | some x => x + 1
def ext (n : Nat) (row : List Nat) : List (List Nat) := (List.range (n - nextOf row)).map fun i => row ++ [nextOf row + i]
def ch (n : Nat) : Nat → List (List Nat)
  | 0 => [[]]
  | k + 1 => (ch n k).flatMap (ext n)
theorem rw_ints (row : List Nat) : rw' row = .tup ((row.map fun (i : Nat) => (i : Int)).map .int) := by
  unfold rw'
  rw [List.map_map]
  rfl
theorem rw_okN (row : List Nat) (n : Nat) : (rw' row).okN (n + 1) = true := by
  rw [rw_ints]
  exact okN_ints _ n
theorem nextOf_snoc (row : List Nat) (x : Nat) : nextOf (row ++ [x]) = x + 1 := by simp [nextOf]
theorem pow_sum : ∀ m : Nat, ((List.range m).map fun i => 2 ^ (m - 1 - i)).sum + 1 = 2 ^ m
  | 0 => rfl
  | m + 1 => by
    have ih := pow_sum m
    rw [List.range_succ_eq_map, List.map_cons, List.sum_cons, List.map_map]
    have e : (fun i => 2 ^ (m + 1 - 1 - i)) ∘ Nat.succ = fun i => 2 ^ (m - 1 - i) := by
      funext i
      show 2 ^ (m + 1 - 1 - (i + 1)) = _
      congr 1
      omega
    rw [e, Nat.pow_succ]
    simp only [Nat.add_sub_cancel, Nat.sub_zero]
    omega
def pot (n : Nat) (row : List Nat) : Nat := 2 ^ (n - nextOf row)
theorem ext_pot (n : Nat) (row : List Nat) : ((ext n row).map (pot n)).sum ≤ pot n row := by
  unfold ext
  rw [List.map_map]
  have e : (pot n ∘ fun i => row ++ [nextOf row + i]) = fun i => 2 ^ (n - nextOf row - 1 - i) := by
    funext i
    show 2 ^ (n - nextOf (row ++ [nextOf row + i])) = _
    rw [nextOf_snoc]
    congr 1
    omega
  rw [e]
  have := pow_sum (n - nextOf row)
  unfold pot
  omega
theorem flat_pot (n : Nat) : ∀ rows : List (List Nat), ((rows.flatMap (ext n)).map (pot n)).sum ≤ (rows.map (pot n)).sum
  | [] => Nat.le_refl _
  | r :: rows => by
    rw [List.flatMap_cons, List.map_append, List.sum_append, List.map_cons, List.sum_cons]
    have := ext_pot n r
    have := flat_pot n rows
    omega
theorem len_pot (n : Nat) : ∀ rows : List (List Nat), rows.length ≤ (rows.map (pot n)).sum
  | [] => Nat.le_refl _
  | r :: rows => by
    rw [List.length_cons, List.map_cons, List.sum_cons]
    have := len_pot n rows
    have : 0 < pot n r := Nat.two_pow_pos _
    omega
theorem ch_pot (n : Nat) : ∀ k, ((ch n k).map (pot n)).sum ≤ 2 ^ n
  | 0 => by simp [ch, pot, nextOf]
  | k + 1 => Nat.le_trans (flat_pot n _) (ch_pot n k)
theorem ch_len {n : Nat} (k : Nat) (hn : n ≤ 8) : (ch n k).length ≤ 256 := Nat.le_trans (len_pot n _) (Nat.le_trans (ch_pot n k) (Nat.pow_le_pow_right (by decide) hn))
/-- rows from the first to a later -/
theorem mem_ch {n : Nat} : ∀ {k : Nat} {row : List Nat}, row ∈ ch n k ↔ row.length = k ∧ row.Pairwise (· < ·) ∧ ∀ x ∈ row, x < n
  | 0, row => by
    show row ∈ [[]] ↔ _
    rw [List.mem_singleton]
    constructor
    · rintro rfl
      exact ⟨rfl, .nil, fun x hx => nomatch hx⟩
    · rintro ⟨h, _⟩
      exact List.length_eq_zero_iff.mp h
  | k + 1, row => by
    show row ∈ (ch n k).flatMap (ext n) ↔ _
    rw [List.mem_flatMap]
    constructor
    · rintro ⟨r, hr, h⟩
      obtain ⟨i, hi, rfl⟩ := List.mem_map.mp h
      obtain ⟨h1, h2, h3⟩ := mem_ch.mp hr
      have hi := List.mem_range.mp hi
      have hlt : ∀ x ∈ r, x < nextOf r := by
        rcases List.eq_nil_or_concat r with rfl | ⟨r', y, rfl⟩
        · intro x hx
          cases hx
        · rw [List.concat_eq_append] at h2 ⊢
          rw [nextOf_snoc]
          intro x hx
          rcases List.mem_append.mp hx with z | z
          · have := (List.pairwise_append.mp h2).2.2 x z y (by simp)
            omega
          · have : x = y := by simpa using z
            omega
      refine ⟨by simp [h1], List.pairwise_append.mpr ⟨h2, List.pairwise_singleton _ _, fun x hx y hy => ?_⟩, fun x hx => ?_⟩
      · have : y = nextOf r + i := by simpa using hy
        have := hlt x hx
        omega
      · rcases List.mem_append.mp hx with z | z
        · exact h3 x z
        · have : x = nextOf r + i := by simpa using z
          omega
    · rintro ⟨h1, h2, h3⟩
      rcases List.eq_nil_or_concat row with rfl | ⟨r, y, rfl⟩
      · cases h1
      · rw [List.concat_eq_append] at h1 h2 h3 ⊢
        have hp := List.pairwise_append.mp h2
        refine ⟨r, mem_ch.mpr ⟨by simpa using h1, hp.1, fun x hx => h3 x (List.mem_append_left _ hx)⟩, List.mem_map.mpr ⟨y - nextOf r, ?_, ?_⟩⟩
        all_goals
          have hy : y < n := h3 y (by simp)
          have hn : nextOf r ≤ y := by
            rcases List.eq_nil_or_concat r with rfl | ⟨r', z, rfl⟩
            · exact Nat.zero_le _
            · rw [List.concat_eq_append, nextOf_snoc]
              exact hp.2.2 z (by simp) y (by simp)
        · exact List.mem_range.mpr (by omega)
        · rw [show nextOf r + (y - nextOf r) = y by omega]
theorem neg1 {α : Type} (xs : List α) (x : α) : L2.atI (xs ++ [x]) (-1) = some x := by
  have h : L2.ixN (xs ++ [x]).length (-1) = some xs.length := by
    unfold L2.ixN
    rw [if_neg (by omega), if_pos (by rw [List.length_append, List.length_singleton]; omega)]
    congr 1
    rw [List.length_append, List.length_singleton]
    omega
  unfold L2.atI
  rw [h]
  simp
theorem ne_empty (row : List Nat) : neD (rw' row) (.tup []) = some (.bl (!row.isEmpty)) := by
  have e : eqv (rw' row) (.tup []) = row.isEmpty := by cases row <;> rfl
  unfold neD
  rw [if_pos ⟨rw_okN row 59, rfl⟩, e]
theorem next_ok {v : Nat} {row : List Nat} {ρ : Env} {μ : Sto} (hv : mVar v ρ μ = some (.dat (rw' row), μ)) :
    mIf (mTest (mOp neD (mVar v) (mTup aNil))) (mOpT addD (mOpHT ixD (mVar v) (mUn negD (mC (.int 1)))) (mC (.int 1))) (mC (.int 0)) ρ μ = some (.dat (.int (nextOf row : Nat)), μ) := by
  have ht : mTest (mOp neD (mVar v) (mTup aNil)) ρ μ = some (!row.isEmpty, μ) := tst (op_of' hv rfl rfl rfl (ne_empty row))
  rcases List.eq_nil_or_concat row with rfl | ⟨r, x, rfl⟩
  · exact ifx (p := false) ht (fun h => nomatch h) fun _ => rfl
  · rw [List.concat_eq_append] at hv ht ⊢
    have hne : (!(r ++ [x]).isEmpty) = true := by cases r <;> rfl
    rw [hne] at ht
    refine ifx (p := true) ht (fun _ => opT_of' (d1 := .int (x : Nat)) (opHT_of' hv rfl rfl rfl ?_) rfl rfl rfl ?_) fun h => nomatch h
    · show L2.atI ((r ++ [x]).map fun (i : Nat) => D.int (i : Int)) (-1) = _
      rw [List.map_append]
      exact neg1 _ _
    · rw [nextOf_snoc]
      rfl
theorem range_next {v m : Nat} {row : List Nat} {ρ : Env} {μ : Sto} {n : Nat} (hv : mVar v ρ μ = some (.dat (rw' row), μ)) (hm : mVar m ρ μ = some (.dat (.int (n : Nat)), μ)) (hn : n ≤ 8) (hr : nextOf row ≤ 8) :
    iRange2 (aCons (mIf (mTest (mOp neD (mVar v) (mTup aNil))) (mOpT addD (mOpHT ixD (mVar v) (mUn negD (mC (.int 1)))) (mC (.int 1))) (mC (.int 0))) (aCons (mVar m) aNil)) ρ μ = some ((List.range (n - nextOf row)).map (fun (j : Nat) => D.int ((nextOf row + j : Nat) : Int)), none, μ) :=
  range2_map (acons (next_ok hv) (acons hm rfl)) (by omega) (by omega)
theorem ch_next {n k : Nat} {row : List Nat} (h : row ∈ ch n k) : nextOf row ≤ n := by
  obtain ⟨_, _, h3⟩ := mem_ch.mp h
  rcases List.eq_nil_or_concat row with rfl | ⟨r, x, rfl⟩
  · exact Nat.zero_le _
  · rw [List.concat_eq_append, nextOf_snoc]
    exact h3 x (by simp)
theorem ch_row {n k : Nat} {row : List Nat} (h : row ∈ ch n k) : row.length = k := (mem_ch.mp h).1
theorem snoc_rw (row : List Nat) (x : Nat) : rw' (row ++ [x]) = .tup ((row.map fun (i : Nat) => D.int (i : Int)) ++ [.int (x : Nat)]) := by simp [rw']
theorem dats_map : ∀ ds : List D, dats (ds.map PV.dat) = some ds
  | [] => rfl
  | d :: ds => by
    show (dats (ds.map PV.dat)).map (d :: ·) = _
    rw [dats_map ds]
    rfl
theorem star_snoc {row : List Nat} {x : Nat} {ρ : Env} {μ : Sto} {v w : Nat} (hv : mVar v ρ μ = some (.dat (rw' row), μ)) (hw : mVar w ρ μ = some (.dat (.int (x : Nat)), μ)) (hl : row.length ≤ 100) : mTup (aStar (mVar v) (aCons (mVar w) aNil)) ρ μ = some (.dat (rw' (row ++ [x])), μ) := by
  have ha : aStar (mVar v) (aCons (mVar w) aNil) ρ μ = some (((row.map fun (i : Nat) => D.int (i : Int)) ++ [D.int (x : Nat)]).map PV.dat, μ) := by
    have h2 : aCons (mVar w) aNil ρ μ = some ([.dat (.int (x : Nat))], μ) := acons hw rfl
    have h3 : ((deref μ (.dat (rw' row))).bind rowOf) = some (row.map fun (i : Nat) => D.int (i : Int)) := rfl
    simp only [aStar, hv, Option.bind_some, h3, h2, Option.map_some]
    simp
  rw [snoc_rw]
  exact tup_of' ha (dats_map _) (by simp [lim]; omega)
theorem choices_ok {n k : Nat} (hn : n ≤ 8) (hk : k ≤ 8) (μ : Sto) : F_choices_of [.dat (.int (k : Nat)), .dat (.int (n : Nat))] μ = some (.dat (.lst ((ch n k).map rw')), μ) := by
  have hi : iRange1 (aCons (mVar 0) aNil) [some (.dat (.int (k : Nat))), some (.dat (.int (n : Nat))), some (.dat (.lst ((ch n 0).map rw'))), none, none, none] μ = some ((List.range k).map (fun (i : Nat) => D.int (i : Int)), none, μ) := range1_map rfl (by omega)
  obtain ⟨ρ', μ', h1, h2, h3⟩ := for_pre (t := .nm 3) (b := sAsg (mLc2 (iSeq (mVar 2)) (.nm 4) [4, 5] mYes (iRange2 (aCons (mIf (mTest (mOp neD (mVar 4) (mTup aNil))) (mOpT addD (mOpHT ixD (mVar 4) (mUn negD (mC (.int 1)))) (mC (.int 1))) (mC (.int 0))) (aCons (mVar 1) aNil))) (.nm 5) [5] mYes (mTup (aStar (mVar 4) (aCons (mVar 5) aNil)))) (.nm 2))
    (fun (i : Nat) => D.int (i : Int)) (fun pre ρ μ' => μ' = μ ∧ ∃ x3, ρ = [some (.dat (.int (k : Nat))), some (.dat (.int (n : Nat))), some (.dat (.lst ((ch n pre.length).map rw'))), x3, none, none]) hi (fun _ _ _ _ => trivial) ⟨rfl, none, rfl⟩ (fun pre a post e ρ μ' h => by
      obtain ⟨rfl, x3, rfl⟩ := h
      have hp : pre.length < k := by
        have := congrArg List.length e
        simp at this
        omega
      refine ⟨_, .nx, _, μ', rfl, asg_nm' (x := .dat (.lst ((ch n (pre.length + 1)).map rw'))) ?_, .inl rfl, rfl, some (.dat (.int (a : Nat))), by rw [List.length_append]; rfl⟩
      have hs : iSeq (mVar 2) [some (.dat (.int (k : Nat))), some (.dat (.int (n : Nat))), some (.dat (.lst ((ch n pre.length).map rw'))), some (.dat (.int (a : Nat))), none, none] μ' = some ((ch n pre.length).map rw', none, μ') := rfl
      have hlen := ch_len (pre.length + 1) hn
      have ht : ((ch n pre.length).flatMap fun row => (ext n row).map rw').length ≤ 256 := by
        rw [← List.map_flatMap, List.length_map]
        exact hlen
      simp only [mLc2]
      show Option.bind (iSeq (mVar 2) [some (.dat (.int (k : Nat))), some (.dat (.int (n : Nat))), some (.dat (.lst ((ch n pre.length).map rw'))), some (.dat (.int (a : Nat))), none, none] μ') _ = _
      rw [hs]
      simp only [Option.bind_some]
      rw [lc2M 256 rw' (fun row => (ext n row).map rw') (oc := none) trivial (ch n pre.length) 0 (fun row hrow m hm => by
        have hrl := ch_row hrow
        have hrn := ch_next hrow
        refine ⟨[some (.dat (.int (k : Nat))), some (.dat (.int (n : Nat))), some (.dat (.lst ((ch n pre.length).map rw'))), some (.dat (.int (a : Nat))), some (.dat (rw' row)), none], _, none, rfl, range_next rfl rfl hn (by omega), ?_⟩
        have hz : (ext n row).map rw' = (List.filter (fun _ => true) (List.range (n - nextOf row))).map fun j => rw' (row ++ [nextOf row + j]) := by
          rw [List.filter_eq_self.mpr (fun _ _ => rfl)]
          unfold ext
          rw [List.map_map]
          rfl
        rw [hz]
        exact lcM (oc := none) (tt := mYes) _ _ (fun _ => true) trivial (List.range (n - nextOf row)) m (fun j hj => ⟨_, rfl, rfl, fun _ => star_snoc rfl rfl (by omega)⟩) (by
          rw [List.length_map] at hm
          unfold ext at hm
          rw [List.length_map] at hm
          unfold lim
          omega)) (by omega)]
      show some (PV.dat (.lst ((ch n pre.length).flatMap fun row => (ext n row).map rw')), μ') = _
      rw [← List.map_flatMap]
      rfl)
  subst h2
  obtain ⟨x3, rfl⟩ := h3
  rw [List.length_range] at h1
  exact fn_dat rfl (seq_nx (asg_nm' rfl) (seq_nx h1 (ret_of rfl)))
end LK13

set_option Elab.async false
set_option linter.all false
set_option maxRecDepth 100000
namespace LK13
open PL
theorem flat_pre {α β : Type} {f : α → List β} {as pre post : List α} {a : α} {B : Nat} (e : as = pre ++ a :: post) (h : (as.flatMap f).length ≤ B) : (pre.flatMap f).length + (f a).length ≤ B := by
  rw [e, List.flatMap_append, List.flatMap_cons, List.length_append, List.length_append] at h
  omega
theorem add_snoc {row : List Nat} {x : Nat} {ρ : Env} {μ : Sto} {v w : Nat} (hv : mVar v ρ μ = some (.dat (rw' row), μ)) (hw : mVar w ρ μ = some (.dat (.int (x : Nat)), μ)) (hl : row.length ≤ 100) : mOpT addD (mVar v) (mTup (aCons (mVar w) aNil)) ρ μ = some (.dat (rw' (row ++ [x])), μ) := by
  refine opT_of' hv (tup_of' (acons hw rfl) rfl (by simp [lim])) rfl rfl ?_
  rw [snoc_rw]
  show (if (row.map fun (i : Nat) => D.int (i : Int)).length + 1 ≤ lim then _ else none) = _
  rw [if_pos (by rw [List.length_map]; unfold lim; omega)]
theorem law_choices_ok {n k : Nat} (hn : n ≤ 8) (hk : k ≤ 8) (μ : Sto) : F__law_choices [.dat (.int (n : Nat)), .dat (.int (k : Nat))] μ = some (.dat (.lst ((ch n k).map rw')), μ) := by
  have hi : iRange1 (aCons (mVar 1) aNil) [some (.dat (.int (n : Nat))), some (.dat (.int (k : Nat))), some (.dat (.lst ((ch n 0).map rw'))), none, none, none, none] μ = some ((List.range k).map (fun (i : Nat) => D.int (i : Int)), none, μ) := range1_map rfl (by omega)
  obtain ⟨ρ', μ', h1, h2, h3⟩ := for_pre (t := .nm 3) (b := sSeq (sAsg (mLst aNil) (.nm 4)) (sSeq (sFor (iSeq (mVar 2)) (.nm 5) (sAsg (mOpT addD (mVar 4) (mLc (iRange2 (aCons (mIf (mTest (mOp neD (mVar 5) (mTup aNil))) (mOpT addD (mOpHT ixD (mVar 5) (mUn negD (mC (.int 1)))) (mC (.int 1))) (mC (.int 0))) (aCons (mVar 0) aNil))) (.nm 6) [6] mYes (mOpT addD (mVar 5) (mTup (aCons (mVar 6) aNil))))) (.nm 4))) (sAsg (mVar 4) (.nm 2))))
    (fun (i : Nat) => D.int (i : Int)) (fun pre ρ μ' => μ' = μ ∧ ∃ x3 x4 x5, ρ = [some (.dat (.int (n : Nat))), some (.dat (.int (k : Nat))), some (.dat (.lst ((ch n pre.length).map rw'))), x3, x4, x5, none]) hi (fun _ _ _ _ => trivial) ⟨rfl, none, none, none, rfl⟩ (fun pre a post e ρ μ' h => by
      obtain ⟨rfl, x3, x4, x5, rfl⟩ := h
      have hp : pre.length < k := by
        have := congrArg List.length e
        simp at this
        omega
      have hlen := ch_len (pre.length + 1) hn
      let R (z : D) (x5 : Option PV) : Env := [some (.dat (.int (n : Nat))), some (.dat (.int (k : Nat))), some (.dat (.lst ((ch n pre.length).map rw'))), some (.dat (.int (a : Nat))), some (.dat z), x5, none]
      have hs : iSeq (mVar 2) (R (.lst []) x5) μ' = some ((ch n pre.length).map rw', none, μ') := rfl
      obtain ⟨ρ2, μ2, j1, j2, x5', j3⟩ := for_pre (t := .nm 5) (b := (sAsg (mOpT addD (mVar 4) (mLc (iRange2 (aCons (mIf (mTest (mOp neD (mVar 5) (mTup aNil))) (mOpT addD (mOpHT ixD (mVar 5) (mUn negD (mC (.int 1)))) (mC (.int 1))) (mC (.int 0))) (aCons (mVar 0) aNil))) (.nm 6) [6] mYes (mOpT addD (mVar 5) (mTup (aCons (mVar 6) aNil))))) (.nm 4)))
        rw' (fun pre2 ρ μ2 => μ2 = μ' ∧ ∃ x5, ρ = R (.lst ((pre2.flatMap (ext n)).map rw')) x5) hs (fun _ _ _ _ => trivial) ⟨rfl, x5, rfl⟩ (fun pre2 row post2 e2 ρ μ2 h2 => by
          obtain ⟨rfl, x5, rfl⟩ := h2
          have hrow : row ∈ ch n pre.length := by rw [e2]; simp
          have hrl := ch_row hrow
          have hrn := ch_next hrow
          have hfl := flat_pre (f := ext n) e2 hlen
          refine ⟨R (.lst ((pre2.flatMap (ext n)).map rw')) (some (.dat (rw' row))), .nx, _, μ2, rfl, asg_nm' (x := .dat (.lst (((pre2 ++ [row]).flatMap (ext n)).map rw'))) ?_, .inl rfl, rfl, some (.dat (rw' row)), rfl⟩
          have hl : mLc (iRange2 (aCons (mIf (mTest (mOp neD (mVar 5) (mTup aNil))) (mOpT addD (mOpHT ixD (mVar 5) (mUn negD (mC (.int 1)))) (mC (.int 1))) (mC (.int 0))) (aCons (mVar 0) aNil))) (.nm 6) [6] mYes (mOpT addD (mVar 5) (mTup (aCons (mVar 6) aNil))) (R (.lst ((pre2.flatMap (ext n)).map rw')) (some (.dat (rw' row)))) μ2 = some (.dat (.lst ((ext n row).map rw')), μ2) := by
            have k := mLcY (t := .nm 6) (vs := [6]) (te := mOpT addD (mVar 5) (mTup (aCons (mVar 6) aNil))) _ (fun j => rw' (row ++ [nextOf row + j])) (range_next (v := 5) (m := 0) (ρ := R (.lst ((pre2.flatMap (ext n)).map rw')) (some (.dat (rw' row)))) (μ := μ2) rfl rfl hn (by omega)) trivial (fun j hj => ⟨_, rfl, add_snoc rfl rfl (by omega)⟩) (by rw [List.length_range]; unfold lim; omega)
            rw [k]
            unfold ext
            rw [List.map_map]
            rfl
          refine opT_of' rfl hl rfl rfl ?_
          show (if ((pre2.flatMap (ext n)).map rw').length + ((ext n row).map rw').length ≤ lim then some (D.lst ((pre2.flatMap (ext n)).map rw' ++ (ext n row).map rw')) else none) = _
          rw [if_pos (by rw [List.length_map, List.length_map]; unfold lim; omega)]
          simp)
      subst j2 j3
      refine ⟨_, .nx, _, μ2, rfl, seq_nx (asg_nm' rfl) (seq_nx j1 (asg_nm' rfl)), .inl rfl, rfl, some (.dat (.int (a : Nat))), some (.dat (.lst ((ch n (pre.length + 1)).map rw'))), x5', by rw [List.length_append]; rfl⟩)
  subst h2
  obtain ⟨x3, x4, x5, rfl⟩ := h3
  rw [List.length_range] at h1
  exact fn_dat rfl (seq_nx (asg_nm' rfl) (seq_nx h1 (ret_of rfl)))
end LK13

set_option Elab.async false
set_option linter.all false
set_option maxRecDepth 100000
namespace LK13
open PL
abbrev Cs := N2 → Option (Bool × Bool)
structure Cells (d : D) (c : Cs) : Prop where
  dct : isDct d = true
  get : ∀ x, getDD .non d (pr x) = some (cd (c x))
theorem cells_of (bs ps : List T3) (W : N2 → Bool) (ns : List N2) : Cells (cellsD bs ps W ns) (cv bs ps W ns) := ⟨rfl, get_cells bs ps W ns⟩
def lkAt (A S : Cs) (bars posts : List Nat) (i j : Nat) : Bool := decide (A (bars.getD i 0, posts.getD j 0) = S (i, j))
def lkB (A S : Cs) (bars posts : List Nat) : Bool := (List.range bars.length).all fun i => (List.range posts.length).all fun j => lkAt A S bars posts i j
def fd (p : List Nat × List Nat) : D := .tup [rw' p.1, rw' p.2]
def fnd (A S : Cs) (nb np mb mp : Nat) : List (List Nat × List Nat) := (ch nb mb).flatMap fun bars => ((ch np mp).filter fun posts => lkB A S bars posts).map fun posts => (bars, posts)
theorem fnd_len {A S : Cs} {nb np mb mp : Nat} (h1 : nb ≤ 8) (h2 : np ≤ 8) : (fnd A S nb np mb mp).length ≤ 65536 := by
  have h := flat_len (fun bars => ((ch np mp).filter fun posts => lkB A S bars posts).map fun posts => (bars, posts)) 256 (ch nb mb) fun bars _ => by
    rw [List.length_map]
    exact Nat.le_trans (List.length_filter_le _ _) (ch_len mp h2)
  have := ch_len (n := nb) mb h1
  unfold fnd
  omega
theorem like_at_ok {dA dS : D} {A S : Cs} (hA : Cells dA A) (hS : Cells dS S) (b p : Nat) (c : N2) (μ : Sto) :
    F_is_like_at [.dat dA, .dat dS, .dat (.int (b : Nat)), .dat (.int (p : Nat)), .dat (pr c)] μ = some (.dat (.bl (decide (A (b, p) = S c))), μ) := by
  have h1 : mGet1 (mVar 0) (mTup (aCons (mVar 2) (aCons (mVar 3) aNil))) [some (.dat dA), some (.dat dS), some (.dat (.int (b : Nat))), some (.dat (.int (p : Nat))), some (.dat (pr c))] μ = some (.dat (cd (A (b, p))), μ) :=
    get1_of rfl rfl hA.dct (tup_of' (acons rfl (acons rfl rfl)) rfl (by simp [lim])) rfl (hA.get (b, p))
  have h2 : mGet1 (mVar 1) (mVar 4) [some (.dat dA), some (.dat dS), some (.dat (.int (b : Nat))), some (.dat (.int (p : Nat))), some (.dat (pr c))] μ = some (.dat (cd (S c)), μ) := get1_of rfl rfl hS.dct rfl rfl (hS.get c)
  exact fn_dat rfl (ret_of (op_of' h1 h2 rfl rfl (eq_cd _ _)))
theorem like_ok {dA dS : D} {A S : Cs} (hA : Cells dA A) (hS : Cells dS S) {bars posts : List Nat} (hb : bars.length ≤ 8) (hp : posts.length ≤ 8) (μ : Sto) :
    F_is_like [.dat dA, .dat dS, .dat (rw' bars), .dat (rw' posts)] μ = some (.dat (.bl (lkB A S bars posts)), μ) := by
  let R (x4 x5 : Option PV) : Env := [some (.dat dA), some (.dat dS), some (.dat (rw' bars)), some (.dat (rw' posts)), x4, x5, none, none]
  have hi : iEnum (aCons (mVar 2) aNil) (R none none) μ = some ((List.range bars.length).map (fun (i : Nat) => .tup [.int (i : Int), .int ((bars.getD i 0 : Nat) : Int)]), none, μ) := by
    rw [← enum_ints]
    rfl
  obtain ⟨ρ', k1, x4, x5, k2⟩ := sfor_all (t := .tp [.nm 4, .nm 5]) (b := sIf (tmNot (mTest (mCB (f1 allD) (aCons (mLc (iEnum (aCons (mVar 3) aNil)) (.tp [(.nm 6), (.nm 7)]) [6, 7] mYes (mCall F_is_like_at (aCons (mVar 0) (aCons (mVar 1) (aCons (mVar 5) (aCons (mVar 7) (aCons (mTup (aCons (mVar 4) (aCons (mVar 6) aNil))) aNil))))))) aNil)))) (sRet (mC (.bl false))) sNx)
    (fun (i : Nat) => .tup [.int (i : Int), .int ((bars.getD i 0 : Nat) : Int)]) (fun i => (List.range posts.length).all fun j => lkAt A S bars posts i j) (.dat (.bl false)) (fun ρ => ∃ x4 x5, ρ = R x4 x5) hi trivial (fun i _ ρ hρ => by
      obtain ⟨x4, x5, rfl⟩ := hρ
      have hj : iEnum (aCons (mVar 3) aNil) (R (some (.dat (.int (i : Nat)))) (some (.dat (.int (bars.getD i 0 : Nat))))) μ = some ((List.range posts.length).map (fun (i : Nat) => .tup [.int (i : Int), .int ((posts.getD i 0 : Nat) : Int)]), none, μ) := by
        rw [← enum_ints]
        rfl
      have ha := allM (t := .tp [.nm 6, .nm 7]) (vs := [6, 7]) (te := mCall F_is_like_at (aCons (mVar 0) (aCons (mVar 1) (aCons (mVar 5) (aCons (mVar 7) (aCons (mTup (aCons (mVar 4) (aCons (mVar 6) aNil))) aNil)))))) (fun (i : Nat) => .tup [.int (i : Int), .int ((posts.getD i 0 : Nat) : Int)]) (fun j => lkAt A S bars posts i j) hj trivial (fun j _ =>
        ⟨_, rfl, call_of' (acons rfl (acons rfl (acons rfl (acons rfl (acons (tup_of' (acons rfl (acons rfl rfl)) rfl (by simp [lim])) rfl))))) (like_at_ok hA hS _ _ (i, j) μ)⟩) (by rw [List.length_range]; unfold lim; omega)
      refine ⟨_, R (some (.dat (.int (i : Nat)))) (some (.dat (.int (bars.getD i 0 : Nat)))), rfl, if_b (tnot (tst ha)) (fun h => ?_) (fun h => ?_), _, _, rfl⟩
      · rw [Bool.not_eq_true'] at h
        rw [h, if_neg Bool.false_ne_true]
        exact ret_of rfl
      · rw [Bool.not_eq_false'] at h
        rw [h, if_pos rfl]
        rfl) ⟨none, none, rfl⟩
  unfold lkB
  cases h : (List.range bars.length).all fun i => (List.range posts.length).all fun j => lkAt A S bars posts i j with
  | true =>
    rw [h, if_pos rfl] at k1
    exact fn_dat rfl (seq_nx k1 (ret_of rfl))
  | false =>
    rw [h, if_neg Bool.false_ne_true] at k1
    exact fn_dat rfl (seq_rt k1)
theorem sizes_ok (bs ps : List T3) (W : N2 → Bool) (ns : List N2) (μ : Sto) : F_sizes_of [.dat (wk bs ps W ns)] μ = some (.dat (.tup [.int bs.length, .int ps.length]), μ) := by
  have h := fn_dat (n := 1) (j := 1) (ms := M_sizes_of) (xs := [.dat (wk bs ps W ns)]) (μ := μ) rfl (ret_of (tup_of' (acons (cb_of' (acons (opHT_of' (opHT_of' rfl rfl rfl rfl rfl) rfl rfl rfl rfl) rfl) rfl rfl) (acons (cb_of' (acons (opHT_of' (opHT_of' rfl rfl rfl rfl rfl) rfl rfl rfl rfl) rfl) rfl rfl) rfl)) rfl (by simp [lim])))
  rw [List.length_map, List.length_map] at h
  exact h
section
variable {bs ps bs' ps' : List T3} {W W' : N2 → Bool} {ns ns' : List N2} {μ : Sto} (hb : bs.length ≤ 8) (hp : ps.length ≤ 8) (hb' : bs'.length ≤ 8) (hp' : ps'.length ≤ 8)
include hb hp hb' hp'
theorem finds_by_ok : F_finds_by [.dat (wk bs ps W ns), .dat (wk bs' ps' W' ns')] μ = some (.dat (.lst ((fnd (cv bs ps W ns) (cv bs' ps' W' ns') bs.length ps.length bs'.length ps'.length).map fd)), μ) := by
  let A := cv bs ps W ns
  let S := cv bs' ps' W' ns'
  have hA : Cells (cellsD bs ps W ns) A := cells_of _ _ _ _
  have hS : Cells (cellsD bs' ps' W' ns') S := cells_of _ _ _ _
  let R (x10 : Option PV) : Env := [some (.dat (wk bs ps W ns)), some (.dat (wk bs' ps' W' ns')), some (.dat (cellsD bs ps W ns)), some (.dat (cellsD bs' ps' W' ns')), some (.dat (.int bs.length)), some (.dat (.int ps.length)), some (.dat (.int bs'.length)), some (.dat (.int ps'.length)), some (.dat (.lst ((ch ps.length ps'.length).map rw'))), some (.cell μ.length), x10, none]
  have s1 : sPar (aCons (mCall F_told_crossings (aCons (mVar 0) aNil)) (aCons (mCall F_told_crossings (aCons (mVar 1) aNil)) aNil)) [(.nm 2), (.nm 3)] (startE 12 [.dat (wk bs ps W ns), .dat (wk bs' ps' W' ns')]) μ
      = some (.nx, [some (.dat (wk bs ps W ns)), some (.dat (wk bs' ps' W' ns')), some (.dat (cellsD bs ps W ns)), some (.dat (cellsD bs' ps' W' ns')), none, none, none, none, none, none, none, none], μ) :=
    par_of (acons (call_of' rfl (told_ok' hb hp)) (acons (call_of' rfl (told_ok' hb' hp')) rfl)) rfl
  have s2 : sPar (aCons (mCall F_sizes_of (aCons (mVar 0) aNil)) (aCons (mCall F_sizes_of (aCons (mVar 1) aNil)) aNil)) [(.tp [(.nm 4), (.nm 5)]), (.tp [(.nm 6), (.nm 7)])] [some (.dat (wk bs ps W ns)), some (.dat (wk bs' ps' W' ns')), some (.dat (cellsD bs ps W ns)), some (.dat (cellsD bs' ps' W' ns')), none, none, none, none, none, none, none, none] μ
      = some (.nx, [some (.dat (wk bs ps W ns)), some (.dat (wk bs' ps' W' ns')), some (.dat (cellsD bs ps W ns)), some (.dat (cellsD bs' ps' W' ns')), some (.dat (.int bs.length)), some (.dat (.int ps.length)), some (.dat (.int bs'.length)), some (.dat (.int ps'.length)), none, none, none, none], μ) :=
    par_of (acons (call_of' rfl (sizes_ok _ _ _ _ μ)) (acons (call_of' rfl (sizes_ok _ _ _ _ μ)) rfl)) rfl
  have s3 : sPar (aCons (mCall F_choices_of (aCons (mVar 7) (aCons (mVar 5) aNil))) (aCons (mLstC aNil) aNil)) [(.nm 8), (.nm 9)] [some (.dat (wk bs ps W ns)), some (.dat (wk bs' ps' W' ns')), some (.dat (cellsD bs ps W ns)), some (.dat (cellsD bs' ps' W' ns')), some (.dat (.int bs.length)), some (.dat (.int ps.length)), some (.dat (.int bs'.length)), some (.dat (.int ps'.length)), none, none, none, none] μ
      = some (.nx, R none, μ ++ [.flat (.lst [])]) :=
    par_of (acons (call_of' rfl (choices_ok hp hp' μ)) (acons (lstC_of' rfl rfl (by simp [lim])) rfl)) rfl
  let f : List Nat → List (List Nat × List Nat) := fun bars => ((ch ps.length ps'.length).filter fun posts => lkB A S bars posts).map fun posts => (bars, posts)
  have hlen : ((ch bs.length bs'.length).flatMap f).length ≤ 65536 := fnd_len hb hp
  have hi : iSeq (mCall F_choices_of (aCons (mVar 6) (aCons (mVar 4) aNil))) (R none) (μ ++ [Cell.flat (.lst [])]) = some ((ch bs.length bs'.length).map rw', none, μ ++ [Cell.flat (.lst [])]) := seq_it (call_of' rfl (choices_ok hb hb' _)) rfl rfl
  obtain ⟨ρ', μ', k1, k2, x10, k3⟩ := for_pre (t := .nm 10) (b := sEx (mMut extD (mVar 9) (aCons (mLc (iSeq (mVar 8)) (.nm 11) [11] (mTest (mCall F_is_like (aCons (mVar 2) (aCons (mVar 3) (aCons (mVar 10) (aCons (mVar 11) aNil)))))) (mTup (aCons (mVar 10) (aCons (mVar 11) aNil)))) aNil)))
    rw' (fun pre ρ μ' => μ' = μ ++ [Cell.flat (.lst ((pre.flatMap f).map fd))] ∧ ∃ x10, ρ = R x10) hi (fun _ _ _ _ => trivial) ⟨rfl, none, rfl⟩ (fun pre bars post e ρ μ' h => by
      obtain ⟨rfl, x10, rfl⟩ := h
      have hbars : bars ∈ ch bs.length bs'.length := by rw [e]; simp
      have hbl := ch_row hbars
      have hfl := flat_pre (f := f) e hlen
      have hcl := ch_len (n := ps.length) ps'.length hp
      have hc : mLc (iSeq (mVar 8)) (.nm 11) [11] (mTest (mCall F_is_like (aCons (mVar 2) (aCons (mVar 3) (aCons (mVar 10) (aCons (mVar 11) aNil)))))) (mTup (aCons (mVar 10) (aCons (mVar 11) aNil))) (R (some (.dat (rw' bars)))) (μ ++ [Cell.flat (.lst ((pre.flatMap f).map fd))]) = some (.dat (.lst ((f bars).map fd)), μ ++ [Cell.flat (.lst ((pre.flatMap f).map fd))]) := by
        have k := mLcM (t := .nm 11) (vs := [11]) (tt := mTest (mCall F_is_like (aCons (mVar 2) (aCons (mVar 3) (aCons (mVar 10) (aCons (mVar 11) aNil)))))) (te := mTup (aCons (mVar 10) (aCons (mVar 11) aNil))) (ρ := R (some (.dat (rw' bars)))) (mi := iSeq (mVar 8)) (oc := none) (μ := μ ++ [Cell.flat (.lst ((pre.flatMap f).map fd))]) rw' (fun posts => fd (bars, posts)) (fun posts => lkB A S bars posts) (as := ch ps.length ps'.length) rfl trivial (fun posts hposts => by
          have hpl := ch_row hposts
          exact ⟨_, rfl, tst (call_of' rfl (like_ok hA hS (by omega) (by omega) _)), fun _ => tup_of' (acons rfl (acons rfl rfl)) rfl (by simp [lim])⟩) (by unfold lim; omega)
        rw [k]
        show some (PV.dat (.lst _), _) = some (PV.dat (.lst ((((ch ps.length ps'.length).filter fun posts => lkB A S bars posts).map fun posts => (bars, posts)).map fd)), _)
        rw [List.map_map]
        rfl
      have hget : (μ ++ [Cell.flat (.lst ((pre.flatMap f).map fd))])[μ.length]? = some (.flat (.lst ((pre.flatMap f).map fd))) := by simp
      refine ⟨R (some (.dat (rw' bars))), .nx, _, _, rfl, expr_of (ext_of rfl hget (acons hc rfl) hget (by rw [List.length_map, List.length_map]; unfold lim; omega)), .inl rfl, ?_, _, rfl⟩
      simp)
  subst k2 k3
  have hf : mFrz (mVar 9) (R x10) (μ ++ [Cell.flat (.lst (((ch bs.length bs'.length).flatMap f).map fd))]) = some (.dat (.lst (((ch bs.length bs'.length).flatMap f).map fd)), (μ ++ [Cell.flat (.lst (((ch bs.length bs'.length).flatMap f).map fd))]).set μ.length .gone) := by
    have h9 : mVar 9 (R x10) (μ ++ [Cell.flat (.lst (((ch bs.length bs'.length).flatMap f).map fd))]) = some (.cell μ.length, μ ++ [Cell.flat (.lst (((ch bs.length bs'.length).flatMap f).map fd))]) := rfl
    simp only [mFrz, h9, Option.bind_some]
    simp
  have h := fn_cut (n := 12) (j := 2) (ms := M_finds_by) (xs := [.dat (wk bs ps W ns), .dat (wk bs' ps' W' ns')]) (μ := μ) rfl (seq_nx s1 (seq_nx s2 (seq_nx s3 (seq_nx k1 (ret_of hf)))))
  rw [show ((μ ++ [Cell.flat (D.lst (((ch bs.length bs'.length).flatMap f).map fd))]).set μ.length .gone).take μ.length = μ by simp] at h
  exact h
end
end LK13

set_option Elab.async false
set_option linter.all false
set_option maxRecDepth 100000
namespace LK13
open PL
theorem ix_rw {row : List Nat} {k : Nat} (h : k < row.length) : ixD (rw' row) (.int (k : Int)) = some (.int (row.getD k 0 : Nat)) := by
  show L2.atI _ (k : Int) = _
  rw [atI_at, List.getElem?_map, List.getElem?_eq_getElem h]
  simp [List.getD, List.getElem?_eq_getElem h]
def inL (l : List Nat) : List D := l.map fun (i : Nat) => D.int (i : Int)
theorem ints_eq (l : List Nat) : inL l = (l.map fun (i : Nat) => (i : Int)).map .int := by
  unfold inL
  rw [List.map_map]
  rfl
theorem ne_ints (l : List Nat) : neD (.lst (inL l)) (.lst []) = some (.bl (!l.isEmpty)) := by
  have e : eqv (.lst (inL l)) (.lst []) = l.isEmpty := by cases l <;> rfl
  unfold neD
  rw [if_pos ⟨by rw [ints_eq]; show (decide (0 < 60) && okNs _ 59) = true; rw [okNs_ints]; rfl, rfl⟩, e]
theorem eq_ints (l : List Nat) : eqD (.lst (inL l)) (.lst []) = some (.bl l.isEmpty) := by
  have e : eqv (.lst (inL l)) (.lst []) = l.isEmpty := by cases l <;> rfl
  unfold eqD
  rw [if_pos ⟨by rw [ints_eq]; show (decide (0 < 60) && okNs _ 59) = true; rw [okNs_ints]; rfl, rfl⟩, e]
theorem filter_empty {α : Type} (p : α → Bool) (l : List α) : (l.filter fun x => !p x).isEmpty = l.all p := by
  induction l with
  | nil => rfl
  | cons a l ih => cases h : p a <;> simp [h, ih]
noncomputable def mINN : ME := (mLc (iRange1 (aCons (mOpHT ixD (mVar 6) (mC (.int 1))) aNil)) (.nm 11) [11] (mTest (mOp neD (mGet2 (mVar 2) (mTup (aCons (mOpHT ixD (mVar 7) (mVar 10)) (aCons (mOpHT ixD (mVar 8) (mVar 11)) aNil))) (mC .non)) (mGet2 (mVar 3) (mTup (aCons (mVar 10) (aCons (mVar 11) aNil))) (mC .non)))) (mVar 11))
noncomputable def mROWS : ME := (mLc (iRange1 (aCons (mOpHT ixD (mVar 6) (mC (.int 0))) aNil)) (.nm 10) [10] (mTest (mOp neD mINN (mLst aNil))) (mVar 10))
section
variable {bs ps bs' ps' : List T3} {W W' : N2 → Bool} {ns ns' : List N2} {μ : Sto}
theorem rows_ok {ρ : Env} {A S : Cs} {dA dS : D} (hA : Cells dA A) (hS : Cells dS S) {bars posts : List Nat} (h1 : bars.length ≤ 8) (h2 : posts.length ≤ 8)
    {w s : D} {many : D} {fnd : PV} {x9 x10 x11 : Option PV} (hρ : ρ = [some (.dat w), some (.dat s), some (.dat dA), some (.dat dS), some fnd, some (.dat many), some (.dat (.lst [.int bars.length, .int posts.length])), some (.dat (rw' bars)), some (.dat (rw' posts)), x9, x10, x11]) :
    mROWS ρ μ = some (.dat (.lst (inL ((List.range bars.length).filter fun i => !((List.range posts.length).all fun j => lkAt A S bars posts i j)))), μ) := by
  subst hρ
  refine (mLcM (t := .nm 10) (vs := [10]) (te := mVar 10) (oc := none) (fun (i : Nat) => D.int (i : Int)) (fun (i : Nat) => D.int (i : Int)) (fun i => !((List.range posts.length).all fun j => lkAt A S bars posts i j)) (range1_map rfl (by omega)) trivial (fun i hi => ⟨_, rfl, ?_, fun _ => rfl⟩) (by rw [List.length_range]; unfold lim; omega)).trans rfl
  have hi := List.mem_range.mp hi
  have hin : mINN [some (.dat w), some (.dat s), some (.dat dA), some (.dat dS), some fnd, some (.dat many), some (.dat (.lst [.int bars.length, .int posts.length])), some (.dat (rw' bars)), some (.dat (rw' posts)), x9, some (.dat (.int (i : Nat))), x11] μ = some (.dat (.lst (inL ((List.range posts.length).filter fun j => !lkAt A S bars posts i j))), μ) := by
    refine (mLcM (t := .nm 11) (vs := [11]) (te := mVar 11) (oc := none) (fun (i : Nat) => D.int (i : Int)) (fun (i : Nat) => D.int (i : Int)) (fun j => !lkAt A S bars posts i j) (range1_map rfl (by omega)) trivial (fun j hj => ⟨_, rfl, ?_, fun _ => rfl⟩) (by rw [List.length_range]; unfold lim; omega)).trans rfl
    have hj := List.mem_range.mp hj
    exact tst (op_of' (get2_of (z := cd (A (bars.getD i 0, posts.getD j 0))) rfl rfl hA.dct (tup_of' (acons (opHT_of' rfl rfl rfl rfl (ix_rw hi)) (acons (opHT_of' rfl rfl rfl rfl (ix_rw hj)) rfl)) rfl (by simp [lim])) rfl rfl (hA.get (bars.getD i 0, posts.getD j 0)))
      (get2_of (z := cd (S (i, j))) rfl rfl hS.dct (tup_of' (acons rfl (acons rfl rfl)) rfl (by simp [lim])) rfl rfl (hS.get (i, j))) rfl rfl (ne_cd _ _))
  refine tst ((op_of' hin rfl rfl rfl (ne_ints _)).trans ?_)
  rw [filter_empty]
theorem law_finds_ok (hb : bs.length ≤ 8) (hp : ps.length ≤ 8) (hb' : bs'.length ≤ 8) (hp' : ps'.length ≤ 8) :
    F__law_finds [.dat (wk bs ps W ns), .dat (wk bs' ps' W' ns')] μ = some (.dat (.tup ((fnd (cv bs ps W ns) (cv bs' ps' W' ns') bs.length ps.length bs'.length ps'.length).map fd)), μ) := by
  let A := cv bs ps W ns
  let S := cv bs' ps' W' ns'
  have hA : Cells (cellsD bs ps W ns) A := cells_of _ _ _ _
  have hS : Cells (cellsD bs' ps' W' ns') S := cells_of _ _ _ _
  let many : D := .lst [.int bs.length, .int ps.length]
  let few : D := .lst [.int bs'.length, .int ps'.length]
  let R (x7 x8 x9 : Option PV) : Env := [some (.dat (wk bs ps W ns)), some (.dat (wk bs' ps' W' ns')), some (.dat (cellsD bs ps W ns)), some (.dat (cellsD bs' ps' W' ns')), some (.cell μ.length), some (.dat many), some (.dat few), x7, x8, x9, none, none]
  have s1 : sPar (aCons (mCall F__law_cells (aCons (mVar 0) aNil)) (aCons (mCall F__law_cells (aCons (mVar 1) aNil)) (aCons (mLstC aNil) aNil))) [(.nm 2), (.nm 3), (.nm 4)] (startE 12 [.dat (wk bs ps W ns), .dat (wk bs' ps' W' ns')]) μ
      = some (.nx, [some (.dat (wk bs ps W ns)), some (.dat (wk bs' ps' W' ns')), some (.dat (cellsD bs ps W ns)), some (.dat (cellsD bs' ps' W' ns')), some (.cell μ.length), none, none, none, none, none, none, none], μ ++ [Cell.flat (.lst [])]) :=
    par_of (acons (call_of' rfl (law_cells_ok hb hp)) (acons (call_of' rfl (law_cells_ok hb' hp')) (acons (lstC_of' rfl rfl (by simp [lim])) rfl))) rfl
  have hsz : ∀ (v : Nat) (bs ps : List T3) (W : N2 → Bool) (ns : List N2) (ρ : Env) (μ : Sto), mVar v ρ μ = some (.dat (wk bs ps W ns), μ) →
      mLst (aCons (mCB (f1 lenD) (aCons (mOpHT ixD (mOpHT ixD (mVar v) (mC (.int 0))) (mC (.int 0))) aNil)) (aCons (mCB (f1 lenD) (aCons (mOpHT ixD (mOpHT ixD (mVar v) (mC (.int 0))) (mC (.int 1))) aNil)) aNil)) ρ μ = some (.dat (.lst [.int bs.length, .int ps.length]), μ) := fun v bs ps W ns ρ μ hv => by
    have h := lst_of' (ρ := ρ) (μ := μ) (acons (cb_of' (f := f1 lenD) (acons (am := aNil) (opHT_of' (f := ixD) (b := mC (.int 0)) (opHT_of' (f := ixD) (b := mC (.int 0)) hv rfl rfl rfl rfl) rfl rfl rfl rfl) rfl) rfl rfl) (acons (am := aNil) (cb_of' (f := f1 lenD) (acons (am := aNil) (opHT_of' (f := ixD) (b := mC (.int 1)) (opHT_of' (f := ixD) (b := mC (.int 0)) hv rfl rfl rfl rfl) rfl rfl rfl rfl) rfl) rfl rfl) rfl)) rfl (by simp [lim])
    rw [List.length_map, List.length_map] at h
    exact h
  have s2 := par_of (ts := [(.nm 5), (.nm 6)]) (ρ1 := R none none none) (acons (hsz 0 bs ps W ns [some (.dat (wk bs ps W ns)), some (.dat (wk bs' ps' W' ns')), some (.dat (cellsD bs ps W ns)), some (.dat (cellsD bs' ps' W' ns')), some (.cell μ.length), none, none, none, none, none, none, none] (μ ++ [Cell.flat (.lst [])]) rfl) (acons (am := aNil) (hsz 1 bs' ps' W' ns' _ _ rfl) rfl)) rfl
  let f : List Nat → List (List Nat × List Nat) := fun bars => ((ch ps.length ps'.length).filter fun posts => lkB A S bars posts).map fun posts => (bars, posts)
  have hlen : ((ch bs.length bs'.length).flatMap f).length ≤ 65536 := fnd_len hb hp
  have hi : iSeq (mCall F__law_choices (aCons (mOpHT ixD (mVar 5) (mC (.int 0))) (aCons (mOpHT ixD (mVar 6) (mC (.int 0))) aNil))) (R none none none) (μ ++ [Cell.flat (.lst [])]) = some ((ch bs.length bs'.length).map rw', none, μ ++ [Cell.flat (.lst [])]) :=
    seq_it (call_of' (acons (opHT_of' rfl rfl rfl rfl rfl) (acons (opHT_of' rfl rfl rfl rfl rfl) rfl)) (law_choices_ok hb hb' _)) rfl rfl
  obtain ⟨ρ', μ', k1, k2, x7, x8, x9, k3⟩ := for_pre (t := .nm 7) (b := sFor (iSeq (mCall F__law_choices (aCons (mOpHT ixD (mVar 5) (mC (.int 1))) (aCons (mOpHT ixD (mVar 6) (mC (.int 1))) aNil)))) (.nm 8) (sSeq (sAsg mROWS (.nm 9)) (sIf (mTest (mOp eqD (mVar 9) (mLst aNil))) (sEx (mMut appD (mVar 4) (aCons (mTup (aCons (mVar 7) (aCons (mVar 8) aNil))) aNil))) sNx)))
    rw' (fun pre ρ μ' => μ' = μ ++ [Cell.flat (.lst ((pre.flatMap f).map fd))] ∧ ∃ x7 x8 x9, ρ = R x7 x8 x9) hi (fun _ _ _ _ => trivial) ⟨rfl, none, none, none, rfl⟩ (fun pre bars post e ρ μ' h => by
      obtain ⟨rfl, x7, x8, x9, rfl⟩ := h
      have hbars : bars ∈ ch bs.length bs'.length := by rw [e]; simp
      have hbl := ch_row hbars
      have hfl := flat_pre (f := f) e hlen
      let G (l : List (List Nat × List Nat)) : Sto := μ ++ [Cell.flat (.lst ((pre.flatMap f ++ l).map fd))]
      have hj : iSeq (mCall F__law_choices (aCons (mOpHT ixD (mVar 5) (mC (.int 1))) (aCons (mOpHT ixD (mVar 6) (mC (.int 1))) aNil))) (R (some (.dat (rw' bars))) x8 x9) (μ ++ [Cell.flat (.lst ((pre.flatMap f).map fd))]) = some ((ch ps.length ps'.length).map rw', none, G []) := by
        show _ = some ((ch ps.length ps'.length).map rw', none, μ ++ [Cell.flat (.lst ((pre.flatMap f ++ []).map fd))])
        rw [List.append_nil]
        exact seq_it (call_of' (acons (opHT_of' rfl rfl rfl rfl rfl) (acons (opHT_of' rfl rfl rfl rfl rfl) rfl)) (law_choices_ok hp hp' _)) rfl rfl
      obtain ⟨ρ2, μ2, j1, j2, x8', x9', j3⟩ := for_pre (t := .nm 8) (b := (sSeq (sAsg mROWS (.nm 9)) (sIf (mTest (mOp eqD (mVar 9) (mLst aNil))) (sEx (mMut appD (mVar 4) (aCons (mTup (aCons (mVar 7) (aCons (mVar 8) aNil))) aNil))) sNx)))
        rw' (fun pre2 ρ μ2 => μ2 = G ((pre2.filter fun posts => lkB A S bars posts).map fun posts => (bars, posts)) ∧ ∃ x8 x9, ρ = R (some (.dat (rw' bars))) x8 x9) hj (fun _ _ _ _ => trivial) ⟨rfl, x8, x9, rfl⟩ (fun pre2 posts post2 e2 ρ μ2 h2 => by
          obtain ⟨rfl, x8, x9, rfl⟩ := h2
          have hposts : posts ∈ ch ps.length ps'.length := by rw [e2]; simp
          have hpl := ch_row hposts
          let l := (pre2.filter fun posts => lkB A S bars posts).map fun posts => (bars, posts)
          have hll : l.length ≤ (f bars).length := by
            show ((pre2.filter fun posts => lkB A S bars posts).map fun posts => (bars, posts)).length ≤ (((ch ps.length ps'.length).filter fun posts => lkB A S bars posts).map fun posts => (bars, posts)).length
            rw [e2, List.filter_append, List.map_append, List.length_append]
            omega
          have hrows := rows_ok (μ := G l) hA hS (bars := bars) (posts := posts) (by omega) (by omega) (w := wk bs ps W ns) (s := wk bs' ps' W' ns') (many := many) (fnd := .cell μ.length) (x9 := x9) (x10 := none) (x11 := none) rfl
          rw [hbl, hpl] at hrows
          have hempty : ((List.range bs'.length).filter fun i => !((List.range ps'.length).all fun j => lkAt A S bars posts i j)).isEmpty = lkB A S bars posts := by
            rw [filter_empty]
            unfold lkB
            rw [hbl, hpl]
          have ht : mTest (mOp eqD (mVar 9) (mLst aNil)) (R (some (.dat (rw' bars))) (some (.dat (rw' posts))) (some (.dat (.lst (inL ((List.range bs'.length).filter fun i => !((List.range ps'.length).all fun j => lkAt A S bars posts i j))))))) (G l) = some (lkB A S bars posts, G l) := by
            refine tst ((op_of' rfl rfl rfl rfl (eq_ints _)).trans ?_)
            rw [hempty]
          have hget : (G l)[μ.length]? = some (.flat (.lst ((pre.flatMap f ++ l).map fd))) := by simp [G]
          refine ⟨R (some (.dat (rw' bars))) (some (.dat (rw' posts))) x9, .nx, R (some (.dat (rw' bars))) (some (.dat (rw' posts))) (some (.dat (.lst (inL ((List.range bs'.length).filter fun i => !((List.range ps'.length).all fun j => lkAt A S bars posts i j)))))), G (((pre2 ++ [posts]).filter fun posts => lkB A S bars posts).map fun posts => (bars, posts)), rfl, seq_nx (asg_nm' hrows) (if_b ht (fun h => ?_) (fun h => ?_)), .inl rfl, rfl, _, _, rfl⟩
          · have e3 : ((pre2 ++ [posts]).filter fun posts => lkB A S bars posts).map (fun posts => (bars, posts)) = l ++ [(bars, posts)] := by
              rw [List.filter_append, List.filter_cons_of_pos h, List.filter_nil, List.map_append]
              rfl
            rw [e3]
            refine (expr_of (app_of' rfl hget (acons (tup_of' (acons rfl (acons rfl rfl)) rfl (by simp [lim])) rfl) hget ?_)).trans ?_
            · rw [List.length_map, List.length_append]
              unfold lim
              omega
            · have e4 : (G l).set μ.length (.flat (.lst ((pre.flatMap f ++ l).map fd ++ [fd (bars, posts)]))) = G (l ++ [(bars, posts)]) := by
                simp [G]
              exact congrArg (fun z => some (Out.nx, R (some (.dat (rw' bars))) (some (.dat (rw' posts))) (some (.dat (.lst (inL ((List.range bs'.length).filter fun i => !((List.range ps'.length).all fun j => lkAt A S bars posts i j)))))), z)) e4
          · have e3 : ((pre2 ++ [posts]).filter fun posts => lkB A S bars posts).map (fun posts => (bars, posts)) = l := by
              rw [List.filter_append, List.filter_cons_of_neg (by rw [h]; exact Bool.false_ne_true), List.filter_nil, List.append_nil]
            rw [e3]
            rfl)
      subst j2 j3
      refine ⟨_, .nx, _, _, rfl, j1, .inl rfl, ?_, _, _, _, rfl⟩
      show μ ++ [Cell.flat (.lst ((pre.flatMap f ++ f bars).map fd))] = _
      rw [List.flatMap_append]
      simp)
  subst k2 k3
  have h := fn_cut (n := 12) (j := 2) (ms := M__law_finds) (xs := [.dat (wk bs ps W ns), .dat (wk bs' ps' W' ns')]) (μ := μ) rfl (seq_nx s1 (seq_nx s2 (seq_nx k1 (ret_of (cp_of' (xs := [.cell μ.length]) (z := .tup (((ch bs.length bs'.length).flatMap f).map fd)) rfl (by
    simp only [tupP]
    rw [dcell (d := .lst (((ch bs.length bs'.length).flatMap f).map fd)) (by simp)]))))))
  rw [show (μ ++ [Cell.flat (D.lst (((ch bs.length bs'.length).flatMap f).map fd))]).take μ.length = μ by simp] at h
  exact h
end
end LK13

set_option Elab.async false
set_option linter.all false
set_option maxRecDepth 100000
namespace LK13
open PL
theorem callKP2 {fn : Fn} {a b : ME} {ρ : Env} {μ μ1 μ2 : Sto} {x y : PV} {r : Option (PV × Sto)} (h1 : a ρ μ = some (x, μ1)) (h2 : b ρ μ1 = some (y, μ2)) (h3 : fn [y, x] μ2 = r) : mCallKP fn 0 [1, 0] aNil (aCons a (aCons b aNil)) ρ μ = r := by
  unfold mCallKP
  have hk : aCons a (aCons b aNil) ρ μ = some ([x, y], μ2) := acons h1 (acons h2 rfl)
  show (some (([] : List PV), μ)).bind _ = _
  rw [Option.bind_some, hk, Option.bind_some]
  exact h3
def Plain : Nat → D → Prop
  | 0, _ => False
  | n + 1, .int _ => True
  | n + 1, .non => True
  | n + 1, .bl _ => True
  | n + 1, .tup ds => ds.length ≤ 100000 ∧ ∀ d ∈ ds, Plain n d
  | n + 1, .lst ds => match n with
    | 0 => False
    | m + 1 => ds.length ≤ 100000 ∧ ∀ d ∈ ds, Plain m d
  | _, _ => False
theorem enumG (ds : List D) : enumF 0 ds = (List.range ds.length).map fun (i : Nat) => .tup [.int (i : Int), ds.getD i .non] := by
  have h := enumF_map (fun d : D => d) ds 0
  rw [List.map_id'] at h
  rw [h]
  refine List.ext_getElem (by simp) fun i h1 h2 => ?_
  have hi : i < ds.length := by simpa using h1
  simp [List.getElem_zipIdx, List.getD, List.getElem?_eq_getElem hi]
theorem is_tup (n : Nat) (ds : List D) (hl : ds.length ≤ 100000) (ih : ∀ d ∈ ds, ∀ μ, F__law_is n [.dat d, .dat d] μ = some (.dat (.bl true), μ)) (μ : Sto) : F__law_is (n + 1) [.dat (.tup ds), .dat (.tup ds)] μ = some (.dat (.bl true), μ) := by
  have t1 : tmOr (tmNot (mTest (mUn (isiD .tup) (mVar 0)))) (mTest (mOp neD (mCB (f1 lenD) (aCons (mVar 0) aNil)) (mCB (f1 lenD) (aCons (mVar 1) aNil)))) [some (.dat (.tup ds)), some (.dat (.tup ds)), none, none] μ = some (false || false, μ) :=
    tor (p := false) (tnot (p := true) (tst rfl)) fun _ => tst ((op_of' (cb_of' rfl rfl rfl) (cb_of' rfl rfl rfl) rfl rfl (neI _ _)).trans (by rw [decide_eq_true rfl]; rfl))
  have hi : iEnum (aCons (mVar 1) aNil) [some (.dat (.tup ds)), some (.dat (.tup ds)), none, none] μ = some ((List.range ds.length).map (fun (i : Nat) => .tup [.int (i : Int), ds.getD i .non]), none, μ) := by
    rw [← enumG]
    rfl
  have ha := allM (t := .tp [.nm 2, .nm 3]) (vs := [2, 3]) (te := mCall (F__law_is n) (aCons (mOpHT ixD (mVar 0) (mVar 2)) (aCons (mVar 3) aNil))) (fun (i : Nat) => .tup [.int (i : Int), ds.getD i .non]) (fun _ => true) hi trivial (fun i hi => by
    have hi := List.mem_range.mp hi
    have hd : ds.getD i .non = ds[i] := by simp [List.getD, List.getElem?_eq_getElem hi]
    have hx : ixD (.tup ds) (.int (i : Int)) = some (ds.getD i .non) := by
      show L2.atI _ (i : Int) = _
      rw [atI_at, List.getElem?_eq_getElem hi, hd]
    exact ⟨_, rfl, call_of' (acons (opHT_of' rfl rfl rfl rfl hx) (acons rfl rfl)) (ih _ (by rw [hd]; exact List.getElem_mem hi) μ)⟩) (by rw [List.length_range]; unfold lim; omega)
  rw [List.all_eq_true.mpr fun _ _ => rfl] at ha
  exact fn_dat rfl (seq_rt (if_t (tst rfl) (seq_nx (if_f t1 rfl) (ret_of ha))))
theorem law_is_ok : ∀ (n : Nat) (d : D), Plain n d → ∀ μ : Sto, F__law_is n [.dat d, .dat d] μ = some (.dat (.bl true), μ)
  | 0, _, h, _ => h.elim
  | n + 1, .int i, _, μ => fn_dat rfl (seq_nx (if_f (tst rfl) rfl) (seq_nx (if_f (tst rfl) rfl) (seq_nx (if_f (tst rfl) rfl) (seq_nx (if_f (μ1 := μ) rfl rfl) (seq_rt (if_t (tst rfl) (ret_of ((and_of (p := true) (q := true) rfl fun _ => and_of (p := true) (q := true) rfl fun _ => (op_of' rfl rfl rfl rfl (eqI i i)).trans (by rw [decide_eq_true rfl])).trans rfl))))))))
  | n + 1, .non, _, μ => fn_dat rfl (seq_nx (if_f (tst rfl) rfl) (seq_nx (if_f (tst rfl) rfl) (seq_nx (if_f (tst rfl) rfl) (seq_rt (if_t (μ1 := μ) rfl (ret_of rfl))))))
  | n + 1, .bl b, _, μ => by
    cases b
    · exact fn_dat rfl (seq_nx (if_f (tst rfl) rfl) (seq_nx (if_f (tst rfl) rfl) (seq_nx (if_f (tst rfl) rfl) (seq_rt (if_t (μ1 := μ) rfl (ret_of rfl))))))
    · exact fn_dat rfl (seq_nx (if_f (tst rfl) rfl) (seq_nx (if_f (tst rfl) rfl) (seq_nx (if_f (tst rfl) rfl) (seq_rt (if_t (μ1 := μ) rfl (ret_of rfl))))))
  | n + 1, .tup ds, h, μ => is_tup n ds h.1 (fun d hd μ => law_is_ok n d (h.2 d hd) μ) μ
  | n + 2, .lst ds, h, μ => by
    have h : ds.length ≤ 100000 ∧ ∀ d ∈ ds, Plain n d := h
    have k := is_tup n ds h.1 (fun d hd μ => law_is_ok n d (h.2 d hd) μ) μ
    exact fn_dat rfl (seq_nx (if_f (tst rfl) rfl) (seq_rt (if_t (tst rfl) (ret_of (and_of (p := true) (q := true) rfl fun _ => call_of' (acons (cp_of' (z := .tup ds) rfl rfl) (acons (cp_of' (z := .tup ds) rfl rfl) rfl)) k)))))
theorem plain_rw (row : List Nat) (k : Nat) (hl : row.length ≤ 8) : Plain (k + 2) (rw' row) := ⟨by rw [List.length_map]; omega, fun d hd => by
  obtain ⟨i, _, rfl⟩ := List.mem_map.mp hd
  trivial⟩
theorem plain_fd (p : List Nat × List Nat) (k : Nat) (h1 : p.1.length ≤ 8) (h2 : p.2.length ≤ 8) : Plain (k + 3) (fd p) := ⟨by simp, fun d hd => by
  simp only [List.mem_cons, List.not_mem_nil, or_false] at hd
  rcases hd with rfl | rfl
  · exact plain_rw _ k h1
  · exact plain_rw _ k h2⟩
theorem plain_fds (l : List (List Nat × List Nat)) (k : Nat) (hl : l.length ≤ 65536) (h : ∀ p ∈ l, p.1.length ≤ 8 ∧ p.2.length ≤ 8) : Plain (k + 4) (.tup (l.map fd)) := ⟨by rw [List.length_map]; omega, fun d hd => by
  obtain ⟨p, hp, rfl⟩ := List.mem_map.mp hd
  exact plain_fd p k (h p hp).1 (h p hp).2⟩
theorem plain_two (a b : D) (k : Nat) (ha : Plain k a) (hb : Plain k b) : Plain (k + 2) (.lst [a, b]) := by
  show [a, b].length ≤ 100000 ∧ ∀ d ∈ [a, b], Plain k d
  refine ⟨by simp, fun d hd => ?_⟩
  simp only [List.mem_cons, List.not_mem_nil, or_false] at hd
  rcases hd with rfl | rfl
  · exact ha
  · exact hb
theorem fnd_rows {A S : Cs} {nb np mb mp : Nat} {p : List Nat × List Nat} (h : p ∈ fnd A S nb np mb mp) : p.1 ∈ ch nb mb ∧ p.2 ∈ ch np mp ∧ lkB A S p.1 p.2 = true := by
  unfold fnd at h
  obtain ⟨b, hb, h⟩ := List.mem_flatMap.mp h
  obtain ⟨q, hq, rfl⟩ := List.mem_map.mp h
  obtain ⟨h1, h2⟩ := List.mem_filter.mp hq
  exact ⟨hb, h1, h2⟩
theorem fnd_small {A S : Cs} {nb np mb mp : Nat} (h1 : mb ≤ 8) (h2 : mp ≤ 8) : ∀ p ∈ fnd A S nb np mb mp, p.1.length ≤ 8 ∧ p.2.length ≤ 8 := fun p hp => by
  obtain ⟨a, b, _⟩ := fnd_rows hp
  have := ch_row a
  have := ch_row b
  omega
theorem fds_okN (l : List (List Nat × List Nat)) : okNs (l.map fd) 59 = true := by
  rw [okNs_all, List.all_map]
  refine List.all_eq_true.mpr fun p _ => ?_
  show (decide (0 < 59) && ((rw' p.1).okN 58 && ((rw' p.2).okN 58 && true))) = true
  rw [rw_okN p.1 57, rw_okN p.2 57]
  rfl
theorem ne_fds (l : List (List Nat × List Nat)) : neD (.lst (l.map fd)) (.lst []) = some (.bl (!l.isEmpty)) := by
  have e : eqv (.lst (l.map fd)) (.lst []) = l.isEmpty := by cases l <;> rfl
  unfold neD
  rw [if_pos ⟨by show (decide (0 < 60) && okNs _ 59) = true; rw [fds_okN]; rfl, rfl⟩, e]
theorem ne_fdt (l : List (List Nat × List Nat)) : neD (.tup (l.map fd)) (.tup []) = some (.bl (!l.isEmpty)) := by
  have e : eqv (.tup (l.map fd)) (.tup []) = l.isEmpty := by cases l <;> rfl
  unfold neD
  rw [if_pos ⟨by show (decide (0 < 60) && okNs _ 59) = true; rw [fds_okN]; rfl, rfl⟩, e]
theorem ix0 (d : D) (ds : List D) : L2.atI (d :: ds) 0 = some d := (atI_at (d :: ds) 0).trans rfl
def hd1 : List (List Nat × List Nat) → D
  | [] => .non
  | p :: _ => fd p
section
variable {bs ps bs' ps' : List T3} {W W' : N2 → Bool} {ns ns' : List N2} {μ : Sto} (g : GoodW bs ps ns) (g' : GoodW bs' ps' ns')
include g g'
theorem finds_ok : F_finds [.dat (wk bs ps W ns), .dat (wk bs' ps' W' ns')] μ = some (.dat (.tup ((fnd (cv bs ps W ns) (cv bs' ps' W' ns') bs.length ps.length bs'.length ps'.length).map fd)), μ) :=
  fn_dat rfl (seq_nx (expr_of (call_of' rfl (g.check W μ))) (seq_nx (expr_of (call_of' rfl (g'.check W' μ))) (ret_of (tup_lst (call_of' rfl (finds_by_ok g.lb g.lp g'.lb g'.lp))))))
theorem first_ok : F_first_find [.dat (wk bs ps W ns), .dat (wk bs' ps' W' ns')] μ = some (.dat (hd1 (fnd (cv bs ps W ns) (cv bs' ps' W' ns') bs.length ps.length bs'.length ps'.length)), μ) := by
  have h := finds_by_ok (W := W) (W' := W') (ns := ns) (ns' := ns') (μ := μ) g.lb g.lp g'.lb g'.lp
  generalize fnd (cv bs ps W ns) (cv bs' ps' W' ns') bs.length ps.length bs'.length ps'.length = l at h
  refine fn_dat rfl (seq_nx (expr_of (call_of' rfl (g.check W μ))) (seq_nx (expr_of (call_of' rfl (g'.check W' μ))) (seq_nx (asg_nm' (call_of' rfl h)) (ret_of ?_))))
  cases l with
  | nil => exact ifx (p := false) (tst (op_of' rfl rfl rfl rfl (ne_fds []))) (fun h => nomatch h) fun _ => rfl
  | cons p l => exact ifx (p := true) (tst (op_of' rfl rfl rfl rfl (ne_fds (p :: l)))) (fun _ => opHT_of' rfl rfl rfl rfl (ix0 _ _)) fun h => nomatch h
theorem finds_right_ok : F__law_finds_right [.dat (wk bs ps W ns), .dat (wk bs' ps' W' ns')] μ = some (.dat (.bl true), μ) := by
  have h0 := law_finds_ok (W := W) (W' := W') (ns := ns) (ns' := ns') (μ := μ) g.lb g.lp g'.lb g'.lp
  have h1 := finds_ok (W := W) (W' := W') (μ := μ) g g'
  have h2 := first_ok (W := W) (W' := W') (μ := μ) g g'
  have hs := fnd_small (A := cv bs ps W ns) (S := cv bs' ps' W' ns') (nb := bs.length) (np := ps.length) g'.lb g'.lp
  have hl := fnd_len (A := cv bs ps W ns) (S := cv bs' ps' W' ns') (mb := bs'.length) (mp := ps'.length) g.lb g.lp
  generalize fnd (cv bs ps W ns) (cv bs' ps' W' ns') bs.length ps.length bs'.length ps'.length = l at h0 h1 h2 hs hl
  have e1 := law_is_ok 8 _ (plain_two _ _ 6 (plain_fds l 2 hl hs) (plain_fds l 2 hl hs)) μ
  have pf : Plain 6 (hd1 l) := by
    cases l with
    | nil => trivial
    | cons p l => exact plain_fd p 3 (hs p List.mem_cons_self).1 (hs p List.mem_cons_self).2
  have e2 := law_is_ok 8 _ (plain_two _ _ 6 pf pf) μ
  have t1 : tmNot (mTest (mCall (F__law_is 8) (aCons (mLst (aCons (mCall F_finds (aCons (mVar 0) (aCons (mVar 1) aNil))) (aCons (mCallKP F_finds 0 [1, 0] aNil (aCons (mVar 1) (aCons (mVar 0) aNil))) aNil))) (aCons (mLst (aCons (mVar 2) (aCons (mVar 2) aNil))) aNil))))
      [some (.dat (wk bs ps W ns)), some (.dat (wk bs' ps' W' ns')), some (.dat (.tup (l.map fd))), none] μ = some (!true, μ) :=
    tnot (tst (call_of' (acons (lst_of' (acons (call_of' rfl h1) (acons (callKP2 rfl rfl h1) rfl)) rfl (by simp [lim])) (acons (lst_of' rfl rfl (by simp [lim])) rfl)) e1))
  have h3 : mIf (mTest (mOp neD (mVar 2) (mTup aNil))) (mOpHT ixD (mVar 2) (mC (.int 0))) (mC .non) [some (.dat (wk bs ps W ns)), some (.dat (wk bs' ps' W' ns')), some (.dat (.tup (l.map fd))), none] μ = some (.dat (hd1 l), μ) := by
    cases l with
    | nil => exact ifx (p := false) (tst (op_of' rfl rfl rfl rfl (ne_fdt []))) (fun h => nomatch h) fun _ => rfl
    | cons p l => exact ifx (p := true) (tst (op_of' rfl rfl rfl rfl (ne_fdt (p :: l)))) (fun _ => opHT_of' rfl rfl rfl rfl (ix0 _ _)) fun h => nomatch h
  exact fn_dat rfl (seq_nx (asg_nm' (call_of' rfl h0)) (seq_nx (if_f t1 rfl) (seq_nx (asg_nm' h3) (ret_of (call_of' (acons (lst_of' (acons (call_of' rfl h2) (acons (callKP2 rfl rfl h2) rfl)) rfl (by simp [lim])) (acons (lst_of' rfl rfl (by simp [lim])) rfl)) e2)))))
end
end LK13

set_option Elab.async false
set_option linter.all false
set_option maxRecDepth 100000
namespace LK13
open PL
theorem asc_eq : ∀ {l m : List N2}, l.Pairwise ltP → m.Pairwise ltP → (∀ x, x ∈ l ↔ x ∈ m) → l = m
  | [], [], _, _, _ => rfl
  | [], b :: m, _, _, h => by
    have := (h b).mpr List.mem_cons_self
    cases this
  | a :: l, [], _, _, h => by
    have := (h a).mp List.mem_cons_self
    cases this
  | a :: l, b :: m, h1, h2, h => by
    rw [List.pairwise_cons] at h1 h2
    have hab : a = b := by
      rcases List.mem_cons.mp ((h a).mp List.mem_cons_self) with e | ha
      · exact e
      · rcases List.mem_cons.mp ((h b).mpr List.mem_cons_self) with e | hb
        · exact e.symm
        · have p := h1.1 b hb
          have q := h2.1 a ha
          unfold ltP at p q
          omega
    subst hab
    congr 1
    refine asc_eq h1.2 h2.2 fun x => ?_
    constructor
    · intro hx
      rcases List.mem_cons.mp ((h x).mp (List.mem_cons_of_mem _ hx)) with e | hm
      · exact absurd e.symm (h1.1 x hx).ne
      · exact hm
    · intro hx
      rcases List.mem_cons.mp ((h x).mpr (List.mem_cons_of_mem _ hx)) with e | hm
      · exact absurd e.symm (h2.1 x hx).ne
      · exact hm
def prs (n m : Nat) : List N2 := (List.range n).flatMap fun i => (List.range m).map fun j => (i, j)
theorem mem_prs {n m : Nat} {c : N2} : c ∈ prs n m ↔ c.1 < n ∧ c.2 < m := by
  unfold prs
  rw [List.mem_flatMap]
  constructor
  · rintro ⟨i, hi, h⟩
    obtain ⟨j, hj, rfl⟩ := List.mem_map.mp h
    exact ⟨List.mem_range.mp hi, List.mem_range.mp hj⟩
  · rintro ⟨h1, h2⟩
    exact ⟨c.1, List.mem_range.mpr h1, List.mem_map.mpr ⟨c.2, List.mem_range.mpr h2, rfl⟩⟩
theorem prs_asc (n m : Nat) : (prs n m).Pairwise ltP := by
  unfold prs
  rw [List.pairwise_flatMap]
  refine ⟨fun i _ => ?_, List.pairwise_lt_range.imp fun {a b} h x hx y hy => ?_⟩
  · rw [List.pairwise_map]
    exact List.pairwise_lt_range.imp fun h => .inr ⟨rfl, h⟩
  · obtain ⟨_, _, rfl⟩ := List.mem_map.mp hx
    obtain ⟨_, _, rfl⟩ := List.mem_map.mp hy
    exact .inl h
theorem cN_in {bs ps : List T3} {c : N2} (h : c ∈ cN bs ps) : c.1 < bs.length ∧ c.2 < ps.length := by
  obtain ⟨b, p, h1, h2, _⟩ := mem_cN.mp h
  exact ⟨(List.getElem?_eq_some_iff.mp h1).1, (List.getElem?_eq_some_iff.mp h2).1⟩
def one (c : N2) : List Nat × List Nat := ([c.1], [c.2])
theorem ch_one (n : Nat) : ch n 1 = (List.range n).map fun i => [i] := by
  show ([[]] : List (List Nat)).flatMap (ext n) = _
  simp only [List.flatMap_cons, List.flatMap_nil, List.append_nil, ext, nextOf, List.getLast?_nil, Nat.sub_zero, List.nil_append, Nat.zero_add]
theorem fnd_bar (A S : Cs) (nb np : Nat) : fnd A S nb np 1 0 = (List.range nb).map fun i => ([i], []) := by
  unfold fnd
  rw [ch_one, List.flatMap_map]
  have e : ∀ i : Nat, (((ch np 0).filter fun posts => lkB A S [i] posts).map fun posts => ([i], posts)) = [([i], [])] := fun i => rfl
  simp only [e]
  induction List.range nb with
  | nil => rfl
  | cons i l ih => rw [List.flatMap_cons, ih]; rfl
theorem fnd_post (A S : Cs) (nb np : Nat) : fnd A S nb np 0 1 = (List.range np).map fun i => ([], [i]) := by
  show ([[]] : List (List Nat)).flatMap _ = _
  rw [List.flatMap_cons, List.flatMap_nil, List.append_nil, ch_one]
  have e : ((List.range np).map fun i => [i]).filter (fun posts => lkB A S [] posts) = (List.range np).map fun i => [i] := List.filter_eq_self.mpr (fun _ _ => rfl)
  rw [e, List.map_map]
  rfl
theorem fnd_one (A S : Cs) (nb np : Nat) : fnd A S nb np 1 1 = ((prs nb np).filter fun c => decide (A c = S (0, 0))).map one := by
  unfold fnd prs
  rw [ch_one, ch_one, List.flatMap_map, List.filter_flatMap, List.map_flatMap]
  congr 1
  funext i
  rw [List.filter_map, List.map_map, List.filter_map, List.map_map]
  have e : ((fun posts => lkB A S [i] posts) ∘ fun j => [j]) = (fun c => decide (A c = S (0, 0))) ∘ fun j => (i, j) := by
    funext j
    show ([0].all fun a => [0].all fun b => lkAt A S [i] [j] a b) = decide (A (i, j) = S (0, 0))
    simp [lkAt]
  rw [e]
  rfl
theorem crossed_one {bs ps : List T3} (W : N2 → Bool) (ns : List N2) (w n : Bool) : (prs bs.length ps.length).filter (fun c => decide (cv bs ps W ns c = some (w, n))) = (cN bs ps).filter fun c => decide (some (W c, decide (c ∈ ns)) = some (w, n)) := by
  refine asc_eq ((prs_asc _ _).filter _) ((cN_asc _ _).filter _) fun c => ?_
  rw [List.mem_filter, List.mem_filter, mem_prs]
  unfold cv
  constructor
  · rintro ⟨_, h⟩
    by_cases hc : c ∈ cN bs ps
    · rw [if_pos hc] at h
      exact ⟨hc, h⟩
    · rw [if_neg hc] at h
      simp at h
  · rintro ⟨hc, h⟩
    rw [if_pos hc]
    exact ⟨cN_in hc, h⟩
theorem plain_inL (l : List Nat) (k : Nat) (hl : l.length ≤ 1000) : Plain (k + 2) (.tup (inL l)) := ⟨by unfold inL; rw [List.length_map]; omega, fun d hd => by
  obtain ⟨i, _, rfl⟩ := List.mem_map.mp hd
  trivial⟩
theorem good_bar : GoodW [(3, 0, 5)] [] [] := ⟨by decide, by decide, by decide, .nil, fun c h => nomatch h⟩
theorem good_post : GoodW [] [(30, 1, 1)] [] := ⟨by decide, by decide, by decide, .nil, fun c h => nomatch h⟩
theorem cN_cross : cN [(4, 0, 9)] [(2, 1, 9)] = [(0, 0)] := by decide
theorem cN_alone : cN [(4, 0, 9)] [(12, 1, 9)] = [] := by decide
def nl (n : Bool) : List N2 := if n then [(0, 0)] else []
theorem good_cross (n : Bool) : GoodW [(4, 0, 9)] [(2, 1, 9)] (nl n) := ⟨by decide, by decide, by decide, by cases n <;> simp [nl], fun c h => by
  rw [cN_cross]
  cases n
  · cases h
  · exact h⟩
theorem good_alone : GoodW [(4, 0, 9)] [(12, 1, 9)] [] := ⟨by decide, by decide, by decide, .nil, fun c h => nomatch h⟩
theorem wk_cross (w n : Bool) : wk [(4, 0, 9)] [(2, 1, 9)] (fun _ => w) (nl n) = .tup [fr [(4, 0, 9)] [(2, 1, 9)], .tup [wd w], .tup ((nl n).map pr)] := by
  unfold wk
  rw [cN_cross]
  rfl
theorem wk_alone : wk [(4, 0, 9)] [(12, 1, 9)] (fun _ => true) [] = .tup [fr [(4, 0, 9)] [(12, 1, 9)], .tup [], .tup []] := by
  unfold wk
  rw [cN_alone]
  rfl
theorem cv_cross (w n : Bool) : cv [(4, 0, 9)] [(2, 1, 9)] (fun _ => w) (nl n) (0, 0) = some (w, n) := by
  unfold cv
  rw [cN_cross, if_pos (by simp)]
  cases n <;> simp [nl]
theorem cv_alone : cv [(4, 0, 9)] [(12, 1, 9)] (fun _ => true) [] (0, 0) = none := by
  unfold cv
  rw [cN_alone]
  rfl
section
variable {bs ps : List T3} {W : N2 → Bool} {ns : List N2} {μ : Sto} (g : GoodW bs ps ns)
include g
theorem len_of {v k : Nat} {ρ : Env} {μ : Sto} (hv : mVar v ρ μ = some (.dat (wk bs ps W ns), μ)) : mCB (f1 lenD) (aCons (mOpHT ixD (mOpHT ixD (mVar v) (mC (.int 0))) (mC (.int 0))) aNil) ρ μ = some (.dat (.int (bs.length : Nat)), μ) ∧ mCB (f1 lenD) (aCons (mOpHT ixD (mOpHT ixD (mVar v) (mC (.int 0))) (mC (.int 1))) aNil) ρ μ = some (.dat (.int (ps.length : Nat)), μ) := by
  have h1 := cb_of' (f := f1 lenD) (acons (am := aNil) (opHT_of' (f := ixD) (b := mC (.int 0)) (opHT_of' (f := ixD) (b := mC (.int 0)) hv rfl rfl rfl rfl) rfl rfl rfl rfl) rfl) rfl rfl
  have h2 := cb_of' (f := f1 lenD) (acons (am := aNil) (opHT_of' (f := ixD) (b := mC (.int 1)) (opHT_of' (f := ixD) (b := mC (.int 0)) hv rfl rfl rfl rfl) rfl rfl rfl rfl) rfl) rfl rfl
  rw [List.length_map] at h1 h2
  exact ⟨h1, h2⟩
theorem uncrossed_ok : F__law_uncrossed [.dat (wk bs ps W ns)] μ = some (.dat (.lst (((prs bs.length ps.length).filter fun c => decide (cv bs ps W ns c = none)).map fun c => fd (one c))), μ) := by
  have hb := g.lb
  have hp := g.lp
  let R (z : List D) (x3 : Option PV) : Env := [some (.dat (wk bs ps W ns)), some (.dat (cellsD bs ps W ns)), some (.dat (.lst z)), x3, none]
  let f : Nat → List D := fun i => (((List.range ps.length).filter fun j => decide (cv bs ps W ns (i, j) = none))).map fun j => fd (one (i, j))
  have hf : ∀ i, (f i).length ≤ 8 := fun i => by
    show (List.map _ _).length ≤ 8
    rw [List.length_map]
    refine Nat.le_trans (List.length_filter_le _ _) ?_
    rw [List.length_range]
    exact hp
  have s1 : sPar (aCons (mCall F__law_cells (aCons (mVar 0) aNil)) (aCons (mLst aNil) aNil)) [(.nm 1), (.nm 2)] [some (.dat (wk bs ps W ns)), none, none, none, none] μ = some (.nx, R [] none, μ) := par_of (acons (call_of' rfl (law_cells_ok hb hp)) rfl) rfl
  obtain ⟨ρ', μ', k1, k2, x3, k3⟩ := for_pre (t := .nm 3) (b := sAsg (mOpT addD (mVar 2) (mLc (iRange1 (aCons (mCB (f1 lenD) (aCons (mOpHT ixD (mOpHT ixD (mVar 0) (mC (.int 0))) (mC (.int 1))) aNil)) aNil)) (.nm 4) [4] (mTest (mOpTH notInD (mTup (aCons (mVar 3) (aCons (mVar 4) aNil))) (mVar 1))) (mTup (aCons (mTup (aCons (mVar 3) aNil)) (aCons (mTup (aCons (mVar 4) aNil)) aNil))))) (.nm 2))
    (fun (i : Nat) => D.int (i : Int)) (fun pre ρ μ' => μ' = μ ∧ ∃ x3, ρ = R (pre.flatMap f) x3) (range1_map (n := bs.length) (acons (am := aNil) (len_of (v := 0) (k := 0) (ρ := R [] none) (μ := μ) (W := W) g rfl).1 rfl) (by omega)) (fun _ _ _ _ => trivial) ⟨rfl, none, rfl⟩ (fun pre i post e ρ μ' h => by
      obtain ⟨rfl, x3, rfl⟩ := h
      have hpl : pre.length ≤ 8 := by
        have := congrArg List.length e
        simp at this
        omega
      have hacc : (pre.flatMap f).length ≤ 64 := Nat.le_trans (flat_len f 8 pre fun i _ => hf i) (by omega)
      have hc := mLcM (t := .nm 4) (vs := [4]) (oc := none) (tt := mTest (mOpTH notInD (mTup (aCons (mVar 3) (aCons (mVar 4) aNil))) (mVar 1))) (te := mTup (aCons (mTup (aCons (mVar 3) aNil)) (aCons (mTup (aCons (mVar 4) aNil)) aNil))) (ρ := R (pre.flatMap f) (some (.dat (.int (i : Nat))))) (μ := μ') (fun (j : Nat) => D.int (j : Int)) (fun j => fd (one (i, j))) (fun j => decide (cv bs ps W ns (i, j) = none))
        (range1_map (n := ps.length) (acons (am := aNil) (len_of (v := 0) (k := 0) (W := W) g rfl).2 rfl) (by omega)) trivial (fun j _ => ⟨_, rfl, ?_, fun _ => tup_of' (acons (tup_of' (acons rfl rfl) rfl (by simp [lim])) (acons (tup_of' (acons rfl rfl) rfl (by simp [lim])) rfl)) rfl (by simp [lim])⟩) (by rw [List.length_range]; unfold lim; omega)
      · refine ⟨_, .nx, _, μ', rfl, asg_nm' (opT_of' rfl hc rfl rfl ?_), .inl rfl, rfl, _, rfl⟩
        show (if (pre.flatMap f).length + (f i).length ≤ lim then some (D.lst (pre.flatMap f ++ f i)) else none) = some (D.lst ((pre ++ [i]).flatMap f))
        have := hf i
        rw [if_pos (by unfold lim; omega), List.flatMap_append]
        simp
      · refine tst ((opTH_of' (d1 := pr (i, j)) (tup_of' (acons rfl (acons rfl rfl)) rfl (by simp [lim])) rfl rfl rfl ?_))
        show (if isKey true (pr (i, j)) = true then some (D.bl (!(look ((cN bs ps).map pr) ((cN bs ps).map (cellV W ns)) (pr (i, j))).isSome)) else none) = _
        rw [if_pos (pr_key _), look_new pr (cellV W ns) pr_eqv]
        unfold cv
        by_cases hc : (i, j) ∈ cN bs ps <;> simp [hc])
  subst k2 k3
  have e : (List.range bs.length).flatMap f = ((prs bs.length ps.length).filter fun c => decide (cv bs ps W ns c = none)).map fun c => fd (one c) := by
    unfold prs
    rw [List.filter_flatMap, List.map_flatMap]
    refine congrArg (fun h => (List.range bs.length).flatMap h) (funext fun i => ?_)
    rw [List.filter_map, List.map_map]
    rfl
  rw [← e]
  exact fn_dat rfl (seq_nx s1 (seq_nx k1 (ret_of rfl)))
end
end LK13

set_option Elab.async false
set_option linter.all false
set_option maxRecDepth 100000
namespace LK13
open PL
theorem str_wd (w : Bool) : wd w = .str (if w then "bar" else "post") := by cases w <;> rfl
noncomputable def mSOME : ME := (mCP tupP (aCons (mLc (iSeq (mCall F__law_crossings (aCons (mOpHT ixD (mVar 0) (mC (.int 0))) aNil))) (.nm 12) [12] (mTest (mOp eqD (mOpHT ixD (mVar 1) (mVar 12)) (mTup (aCons (mVar 7) (aCons (mOp neD (mVar 9) (mTup aNil)) aNil))))) (mTup (aCons (mTup (aCons (mOpHT ixD (mVar 12) (mC (.int 0))) aNil)) (aCons (mTup (aCons (mOpHT ixD (mVar 12) (mC (.int 1))) aNil)) aNil)))) aNil))
noncomputable def bCHK : MS := (sIf (tmNot (mTest (mCall (F__law_is 8) (aCons (mCall F_finds (aCons (mVar 0) (aCons (mTup (aCons (mVar 6) (aCons (mTup (aCons (mVar 7) aNil)) (aCons (mVar 9) aNil)))) aNil))) (aCons (mVar 10) aNil))))) (sRet (mC (.bl false))) sNx)
section
variable {bs ps : List T3} {W : N2 → Bool} {ns : List N2} {μ : Sto} (g : GoodW bs ps ns)
include g
theorem some_ok {ρ : Env} (w n : Bool) (h0 : ρ[0]? = some (some (.dat (wk bs ps W ns)))) (h1 : ρ[1]? = some (some (.dat (cellsD bs ps W ns)))) (h7 : ρ[7]? = some (some (.dat (wd w)))) (h9 : ρ[9]? = some (some (.dat (.tup ((nl n).map pr))))) (hl : ρ.length = 13) :
    mSOME ρ μ = some (.dat (.tup (((cN bs ps).filter fun c => decide (some (W c, decide (c ∈ ns)) = some (w, n))).map fun c => fd (one c))), μ) := by
  have v : ∀ i x, ρ[i]? = some (some x) → mVar i ρ μ = some (x, μ) := fun i x h => by simp [mVar, h]
  have hw : ∀ (c : N2), ∃ ρ1, bind1 (.nm 12) (.dat (pr c)) (wipeE ρ [12]) = some ρ1 ∧ ρ1[0]? = some (some (.dat (wk bs ps W ns))) ∧ ρ1[1]? = some (some (.dat (cellsD bs ps W ns))) ∧ ρ1[7]? = some (some (.dat (wd w))) ∧ ρ1[9]? = some (some (.dat (.tup ((nl n).map pr)))) ∧ ρ1[12]? = some (some (.dat (pr c))) := fun c => by
    match ρ, hl with
    | [a0, a1, a2, a3, a4, a5, a6, a7, a8, a9, a10, a11, a12], _ => exact ⟨_, rfl, h0, h1, h7, h9, rfl⟩
  have hl64 := cN_len g.lb g.lp
  have hi : iSeq (mCall F__law_crossings (aCons (mOpHT ixD (mVar 0) (mC (.int 0))) aNil)) ρ μ = some ((cN bs ps).map pr, none, μ) := seq_it (call_of' (acons (opHT_of' (v 0 _ h0) rfl rfl rfl rfl) rfl) (law_crossings_ok μ g.lb g.lp)) rfl rfl
  refine tup_lst (mLcM pr (fun c => fd (one c)) (fun c => decide (some (W c, decide (c ∈ ns)) = some (w, n))) hi trivial (fun c hc => ?_) (by unfold lim; omega))
  obtain ⟨ρ1, e1, k0, k1, k7, k9, k12⟩ := hw c
  have u : ∀ i x, ρ1[i]? = some (some x) → mVar i ρ1 μ = some (x, μ) := fun i x h => by simp [mVar, h]
  refine ⟨ρ1, e1, ?_, fun _ => tup_of' (acons (tup_of' (acons (opHT_of' (u 12 _ k12) rfl rfl rfl rfl) rfl) rfl (by simp [lim])) (acons (tup_of' (acons (opHT_of' (u 12 _ k12) rfl rfl rfl rfl) rfl) rfl (by simp [lim])) rfl)) rfl (by simp [lim])⟩
  have hix : ixD (cellsD bs ps W ns) (pr c) = some (cd (some (W c, decide (c ∈ ns)))) := by
    show (if isKey true (pr c) = true then look ((cN bs ps).map pr) ((cN bs ps).map (cellV W ns)) (pr c) else none) = _
    rw [if_pos (pr_key c), look_new pr (cellV W ns) pr_eqv, if_pos hc]
    rfl
  have hne : mOp neD (mVar 9) (mTup aNil) ρ1 μ = some (.dat (.bl n), μ) := by
    refine op_of' (u 9 _ k9) rfl rfl rfl ?_
    cases n <;> rfl
  have ht : mTup (aCons (mVar 7) (aCons (mOp neD (mVar 9) (mTup aNil)) aNil)) ρ1 μ = some (.dat (cd (some (w, n))), μ) := tup_of' (acons (u 7 _ k7) (acons hne rfl)) rfl (by simp [lim])
  exact tst (op_of' (opHT_of' (u 1 _ k1) (u 12 _ k12) rfl rfl hix) ht rfl rfl (eq_cd _ _))
theorem finds_one (w n : Bool) : F_finds [.dat (wk bs ps W ns), .dat (.tup [fr [(4, 0, 9)] [(2, 1, 9)], .tup [wd w], .tup ((nl n).map pr)])] μ = some (.dat (.tup (((cN bs ps).filter fun c => decide (some (W c, decide (c ∈ ns)) = some (w, n))).map fun c => fd (one c))), μ) := by
  have h := finds_ok (W := W) (W' := fun _ => w) (μ := μ) g (good_cross n)
  rw [wk_cross] at h
  rw [h, show ([(4, 0, 9)] : List T3).length = 1 from rfl, show ([(2, 1, 9)] : List T3).length = 1 from rfl, fnd_one, cv_cross, crossed_one, List.map_map]
  rfl
theorem plain_ones (l : List N2) (hl : l.length ≤ 100) : Plain 8 (.tup (l.map fun c => fd (one c))) := by
  have h := plain_fds (l.map one) 4 (by rw [List.length_map]; omega) (fun p hp => by
    obtain ⟨c, _, rfl⟩ := List.mem_map.mp hp
    exact ⟨by simp [one], by simp [one]⟩)
  rw [List.map_map] at h
  exact h
theorem prs_len : (prs bs.length ps.length).length ≤ 64 := by
  have hb := g.lb
  have hp := g.lp
  have h := flat_len (fun i => (List.range ps.length).map fun j => (i, j)) 8 (List.range bs.length) (fun i _ => by rw [List.length_map, List.length_range]; exact hp)
  rw [List.length_range] at h
  unfold prs
  omega
theorem singles_ok : F__law_singles_right [.dat (wk bs ps W ns)] μ = some (.dat (.bl true), μ) := by
  have hb := g.lb
  have hp := g.lp
  let many : D := .lst [.int bs.length, .int ps.length]
  let bar : D := wk [(3, 0, 5)] [] (fun _ => true) []
  let post : D := wk [] [(30, 1, 1)] (fun _ => true) []
  let dB : D := .tup ((List.range bs.length).map fun i => fd ([i], []))
  let dP : D := .tup ((List.range ps.length).map fun i => fd ([], [i]))
  let frm : D := fr [(4, 0, 9)] [(2, 1, 9)]
  let alone : D := fr [(4, 0, 9)] [(12, 1, 9)]
  let R (x3 x4 x5 x6 x7 x8 x9 x10 : Option PV) : Env := [some (.dat (wk bs ps W ns)), some (.dat (cellsD bs ps W ns)), some (.dat many), x3, x4, x5, x6, x7, x8, x9, x10, none, none]
  have s1 := par_of (ts := [(.nm 1), (.nm 2)]) (ρ := startE 13 [.dat (wk bs ps W ns)]) (ρ1 := R none none none none none none none none) (μ := μ) (acons (am := aCons (mLst (aCons (mCB (f1 lenD) (aCons (mOpHT ixD (mOpHT ixD (mVar 0) (mC (.int 0))) (mC (.int 0))) aNil)) (aCons (mCB (f1 lenD) (aCons (mOpHT ixD (mOpHT ixD (mVar 0) (mC (.int 0))) (mC (.int 1))) aNil)) aNil))) aNil) (a := mCall F__law_cells (aCons (mVar 0) aNil)) (call_of' rfl (law_cells_ok (W := W) (ns := ns) hb hp))
    (acons (am := aNil) (lst_of' (acons (len_of (v := 0) (k := 0) (W := W) g rfl).1 (acons (am := aNil) (len_of (v := 0) (k := 0) (W := W) g rfl).2 rfl)) rfl (by simp [lim])) rfl)) rfl
  have s2 : sPar (aCons (mTup (aCons (mTup (aCons (mTup (aCons (mTup (aCons (mC (.int 3)) (aCons (mC (.int 0)) (aCons (mC (.int 5)) aNil)))) aNil)) (aCons (mTup aNil) aNil))) (aCons (mTup aNil) (aCons (mTup aNil) aNil)))) (aCons (mTup (aCons (mTup (aCons (mTup aNil) (aCons (mTup (aCons (mTup (aCons (mC (.int 30)) (aCons (mC (.int 1)) (aCons (mC (.int 1)) aNil)))) aNil)) aNil))) (aCons (mTup aNil) (aCons (mTup aNil) aNil)))) aNil)) [(.nm 3), (.nm 4)] (R none none none none none none none none) μ = some (.nx, R (some (.dat bar)) (some (.dat post)) none none none none none none, μ) := rfl
  let R4 := R (some (.dat bar)) (some (.dat post))
  have hB : mCP tupP (aCons (mLc (iRange1 (aCons (mOpHT ixD (mVar 2) (mC (.int 0))) aNil)) (.nm 11) [11] mYes (mTup (aCons (mTup (aCons (mVar 11) aNil)) (aCons (mTup aNil) aNil)))) aNil) (R4 none none none none none none) μ = some (.dat dB, μ) :=
    tup_lst (mLcY (fun (i : Nat) => D.int (i : Int)) (fun i => fd ([i], [])) (range1_map (n := bs.length) (acons (am := aNil) (opHT_of' (a := mVar 2) (b := mC (.int 0)) rfl rfl rfl rfl rfl) rfl) (by omega)) trivial (fun i _ => ⟨_, rfl, rfl⟩) (by rw [List.length_range]; unfold lim; omega))
  have hP : mCP tupP (aCons (mLc (iRange1 (aCons (mOpHT ixD (mVar 2) (mC (.int 1))) aNil)) (.nm 11) [11] mYes (mTup (aCons (mTup aNil) (aCons (mTup (aCons (mVar 11) aNil)) aNil)))) aNil) (R4 none none none none none none) μ = some (.dat dP, μ) :=
    tup_lst (mLcY (fun (i : Nat) => D.int (i : Int)) (fun i => fd ([], [i])) (range1_map (n := ps.length) (acons (am := aNil) (opHT_of' (a := mVar 2) (b := mC (.int 1)) rfl rfl rfl rfl rfl) rfl) (by omega)) trivial (fun i _ => ⟨_, rfl, rfl⟩) (by rw [List.length_range]; unfold lim; omega))
  have s3 := asg_nm' (i := 5) (lst_of' (acons hB (acons (am := aNil) hP rfl)) rfl (by simp [lim]))
  have f1 : F_finds [.dat (wk bs ps W ns), .dat bar] μ = some (.dat dB, μ) := by
    have h := finds_ok (W := W) (W' := fun _ => true) (μ := μ) g good_bar
    rw [show ([(3, 0, 5)] : List T3).length = 1 from rfl, show ([] : List T3).length = 0 from rfl, fnd_bar, List.map_map] at h
    exact h
  have f2 : F_finds [.dat (wk bs ps W ns), .dat post] μ = some (.dat dP, μ) := by
    have h := finds_ok (W := W) (W' := fun _ => true) (μ := μ) g good_post
    rw [show ([(30, 1, 1)] : List T3).length = 1 from rfl, show ([] : List T3).length = 0 from rfl, fnd_post, List.map_map] at h
    exact h
  have p1 : Plain 6 dB := by
    have h := plain_fds ((List.range bs.length).map fun i => ([i], [])) 2 (by simp; omega) (fun p hp => by
      obtain ⟨i, _, rfl⟩ := List.mem_map.mp hp
      exact ⟨by simp, by simp⟩)
    rw [List.map_map] at h
    exact h
  have p2 : Plain 6 dP := by
    have h := plain_fds ((List.range ps.length).map fun i => ([], [i])) 2 (by simp; omega) (fun p hp => by
      obtain ⟨i, _, rfl⟩ := List.mem_map.mp hp
      exact ⟨by simp, by simp⟩)
    rw [List.map_map] at h
    exact h
  have t4 : tmNot (mTest (mCall (F__law_is 8) (aCons (mLst (aCons (mCall F_finds (aCons (mVar 0) (aCons (mVar 3) aNil))) (aCons (mCall F_finds (aCons (mVar 0) (aCons (mVar 4) aNil))) aNil))) (aCons (mVar 5) aNil)))) (R4 (some (.dat (.lst [dB, dP]))) none none none none none) μ = some (!true, μ) :=
    tnot (tst (call_of' (acons (lst_of' (acons (call_of' rfl f1) (acons (call_of' rfl f2) rfl)) rfl (by simp [lim])) (acons rfl rfl)) (law_is_ok 8 _ (plain_two _ _ 6 p1 p2) μ)))
  let R6 := R4 (some (.dat (.lst [dB, dP]))) (some (.dat frm))
  have s5 : sAsg (mTup (aCons (mTup (aCons (mTup (aCons (mC (.int 4)) (aCons (mC (.int 0)) (aCons (mC (.int 9)) aNil)))) aNil)) (aCons (mTup (aCons (mTup (aCons (mC (.int 2)) (aCons (mC (.int 1)) (aCons (mC (.int 9)) aNil)))) aNil)) aNil))) (.nm 6) (R4 (some (.dat (.lst [dB, dP]))) none none none none none) μ = some (.nx, R6 none none none none, μ) := rfl
  obtain ⟨ρ', k1, x7, x9, x10, k2⟩ := sfor_all (mi := iSeq (mLst (aCons (mC (.str "bar")) (aCons (mC (.str "post")) aNil)))) (oc := none) (t := .nm 7) (μ := μ) (ρ := R6 none none none none) (b := sFor (iSeq (mLst (aCons (mTup aNil) (aCons (mTup (aCons (mTup (aCons (mC (.int 0)) (aCons (mC (.int 0)) aNil))) aNil)) aNil)))) (.nm 9) (sSeq (sAsg mSOME (.nm 10)) bCHK))
    wd (fun _ => true) (.dat (.bl false)) (fun ρ => ∃ x7 x9 x10, ρ = R6 x7 none x9 x10) (as := [true, false]) rfl trivial (fun w _ ρ hρ => by
      obtain ⟨x7, x9, x10, rfl⟩ := hρ
      obtain ⟨ρ2, j1, x9', x10', j2⟩ := sfor_all (mi := iSeq (mLst (aCons (mTup aNil) (aCons (mTup (aCons (mTup (aCons (mC (.int 0)) (aCons (mC (.int 0)) aNil))) aNil)) aNil)))) (oc := none) (t := .nm 9) (μ := μ) (ρ := R6 (some (.dat (wd w))) none x9 x10) (b := sSeq (sAsg mSOME (.nm 10)) bCHK)
        (fun n => .tup ((nl n).map pr)) (fun _ => true) (.dat (.bl false)) (fun ρ => ∃ x9 x10, ρ = R6 (some (.dat (wd w))) none x9 x10) (as := [false, true]) rfl trivial (fun n _ ρ hρ => by
          obtain ⟨x9, x10, rfl⟩ := hρ
          have hs := some_ok (μ := μ) (W := W) (ρ := R6 (some (.dat (wd w))) none (some (.dat (.tup ((nl n).map pr)))) x10) g w n rfl rfl rfl rfl rfl
          have hl : ((cN bs ps).filter fun c => decide (some (W c, decide (c ∈ ns)) = some (w, n))).length ≤ 100 := Nat.le_trans (List.length_filter_le _ _) (Nat.le_trans (cN_len hb hp) (by decide))
          have hf := finds_one (W := W) (μ := μ) g w n
          have t6 : tmNot (mTest (mCall (F__law_is 8) (aCons (mCall F_finds (aCons (mVar 0) (aCons (mTup (aCons (mVar 6) (aCons (mTup (aCons (mVar 7) aNil)) (aCons (mVar 9) aNil)))) aNil))) (aCons (mVar 10) aNil)))) (R6 (some (.dat (wd w))) none (some (.dat (.tup ((nl n).map pr)))) (some (.dat (.tup (((cN bs ps).filter fun c => decide (some (W c, decide (c ∈ ns)) = some (w, n))).map fun c => fd (one c)))))) μ = some (!true, μ) :=
            tnot (tst (call_of' (acons (call_of' (acons rfl (acons (tup_of' (acons rfl (acons (tup_of' (acons rfl rfl) rfl (by simp [lim])) (acons rfl rfl))) rfl (by simp [lim])) rfl)) hf) (acons rfl rfl)) (law_is_ok 8 _ (plain_ones g _ hl) μ)))
          exact ⟨_, _, rfl, seq_nx (asg_nm' hs) (if_f t6 rfl), _, _, rfl⟩) ⟨x9, x10, rfl⟩
      subst j2
      exact ⟨_, _, rfl, j1, _, _, _, rfl⟩) ⟨none, none, none, rfl⟩
  subst k2
  have s7 : sAsg (mTup (aCons (mTup (aCons (mTup (aCons (mC (.int 4)) (aCons (mC (.int 0)) (aCons (mC (.int 9)) aNil)))) aNil)) (aCons (mTup (aCons (mTup (aCons (mC (.int 12)) (aCons (mC (.int 1)) (aCons (mC (.int 9)) aNil)))) aNil)) aNil))) (.nm 8) (R6 x7 none x9 x10) μ = some (.nx, R6 x7 (some (.dat alone)) x9 x10, μ) := rfl
  have hlp : ((prs bs.length ps.length).filter fun c => decide (cv bs ps W ns c = none)).length ≤ 100 := Nat.le_trans (List.length_filter_le _ _) (Nat.le_trans (prs_len g) (by decide))
  have f3 : F_finds [.dat (wk bs ps W ns), .dat (.tup [alone, .tup [], .tup []])] μ = some (.dat (.tup (((prs bs.length ps.length).filter fun c => decide (cv bs ps W ns c = none)).map fun c => fd (one c))), μ) := by
    have h := finds_ok (W := W) (W' := fun _ => true) (μ := μ) g good_alone
    rw [wk_alone] at h
    rw [show ([(4, 0, 9)] : List T3).length = 1 from rfl, show ([(12, 1, 9)] : List T3).length = 1 from rfl, fnd_one, cv_alone, List.map_map] at h
    exact h
  have e8 : mCall (F__law_is 8) (aCons (mCall F_finds (aCons (mVar 0) (aCons (mTup (aCons (mVar 8) (aCons (mTup aNil) (aCons (mTup aNil) aNil)))) aNil))) (aCons (mCP tupP (aCons (mCall F__law_uncrossed (aCons (mVar 0) aNil)) aNil)) aNil)) (R6 x7 (some (.dat alone)) x9 x10) μ = some (.dat (.bl true), μ) :=
    call_of' (acons (call_of' rfl f3) (acons (tup_lst (call_of' rfl (uncrossed_ok (W := W) g))) rfl)) (law_is_ok 8 _ (plain_ones g _ hlp) μ)
  exact fn_dat rfl (seq_nx s1 (seq_nx s2 (seq_nx s3 (seq_nx (if_f t4 rfl) (seq_nx s5 (seq_nx k1 (seq_nx s7 (ret_of e8))))))))
end
end LK13

set_option Elab.async false
set_option linter.all false
set_option maxRecDepth 100000
namespace LK13
open PL
def W3 (b s a : Int) : D := .lst [.int b, .int s, .int a]
def WS (μ : Sto) (i : Nat) : Prop := ∃ b s a, μ[i]? = some (.flat (W3 b s a))
theorem take_ok {μ : Sto} {i : Nat} (h : WS μ i) (many : Int) (h1 : 0 < many) (h2 : many < 1073741824) :
    ∃ r μ', F__law_take [.cell i, .dat (.int many)] μ = some (.dat (.int r), μ') ∧ 0 ≤ r ∧ r < many ∧ WS μ' i ∧ But i μ μ' := by
  obtain ⟨b, s, a, hw⟩ := h
  have g0 : ∀ (x y z : Int) (μ : Sto) (x3 : Option PV) (x4 : Option PV), μ[i]? = some (.flat (W3 x y z)) → mOpHT ixD (mVar 0) (mC (.int 0)) [some (.cell i), some (.dat (.int many)), x3, x4] μ = some (.dat (.int x), μ) := fun x y z μ x3 x4 h => opHT_of' rfl rfl (dcell h) rfl rfl
  have g1 : ∀ (x y z : Int) (μ : Sto) (x3 : Option PV) (x4 : Option PV), μ[i]? = some (.flat (W3 x y z)) → mOpHT ixD (mVar 0) (mC (.int 1)) [some (.cell i), some (.dat (.int many)), x3, x4] μ = some (.dat (.int y), μ) := fun x y z μ x3 x4 h => opHT_of' rfl rfl (dcell h) rfl rfl
  have g2 : ∀ (x y z : Int) (μ : Sto) (x3 : Option PV) (x4 : Option PV), μ[i]? = some (.flat (W3 x y z)) → mOpHT ixD (mVar 0) (mC (.int 2)) [some (.cell i), some (.dat (.int many)), x3, x4] μ = some (.dat (.int z), μ) := fun x y z μ x3 x4 h => opHT_of' rfl rfl (dcell h) rfl rfl
  have ht : mTest (mOp gtD (mOpHT ixD (mVar 0) (mC (.int 0))) (mC (.int 0))) [some (.cell i), some (.dat (.int many)), none, none] μ = some (decide (0 < b), μ) := tst (op_of' (g0 _ _ _ _ _ _ hw) rfl rfl rfl rfl)
  by_cases hb : 0 < b
  · rw [decide_eq_true hb] at ht
    have hd : mCB (f2 divmodD) (aCons (mOpHT ixD (mVar 0) (mC (.int 0))) (aCons (mVar 1) aNil)) [some (.cell i), some (.dat (.int many)), none, none] μ = some (.dat (.tup [.int (b / many), .int (b % many)]), μ) := by
      refine cb_of' (acons (g0 _ _ _ _ _ _ hw) rfl) rfl ?_
      show (if 0 < many ∧ many < 1073741824 then _ else _) = _
      rw [if_pos ⟨h1, h2⟩]
    have hs : store1 (.tp [(.sub (mVar 0) (mC (.int 0))), (.nm 3)]) (.dat (.tup [.int (b / many), .int (b % many)])) [some (.cell i), some (.dat (.int many)), none, none] μ
        = some ([some (.cell i), some (.dat (.int many)), none, some (.dat (.int (b % many)))], μ.set i (.flat (W3 (b / many) s a))) := by
      show (store1 (.sub (mVar 0) (mC (.int 0))) (.dat (.int (b / many))) _ μ).bind _ = _
      rw [put_of' (c' := W3 (b / many) s a) rfl rfl hw rfl rfl]
      rfl
    refine ⟨b % many, _, fn_cut rfl (seq_rt (if_t ht (seq_nx (asgS_of' hd hs) (ret_of rfl)))), Int.emod_nonneg _ (by omega), Int.emod_lt_of_pos _ h1, ?_, ?_⟩
    · refine ⟨b / many, s, a, ?_⟩
      rw [List.getElem?_take, if_pos (List.getElem?_eq_some_iff.mp hw).1]
      exact get_set_self hw
    · have := but_take (n := μ.length) (But.set i μ (.flat (W3 (b / many) s a)))
      rwa [List.take_length] at this
  · rw [decide_eq_false hb] at ht
    -- well[2] = well[2] + 1
    let μ1 := μ.set i (.flat (W3 b s (a + 1)))
    have w1 : μ1[i]? = some (.flat (W3 b s (a + 1))) := get_set_self hw
    have s1 : sAsgS (mOpT addD (mOpHT ixD (mVar 0) (mC (.int 2))) (mC (.int 1))) (.sub (mVar 0) (mC (.int 2))) [some (.cell i), some (.dat (.int many)), none, none] μ = some (.nx, [some (.cell i), some (.dat (.int many)), none, none], μ1) :=
      asgS_of' (opT_of' (g2 _ _ _ _ _ _ hw) rfl rfl rfl rfl) (put_of' (c' := W3 b s (a + 1)) rfl rfl hw rfl rfl)
    let by' := s % 28657 + 40009
    have s2 : sAsg (mOpT addD (mOp modD (mCB (f1 intD) (aCons (mOpHT ixD (mVar 0) (mC (.int 1))) aNil)) (mC (.int 28657))) (mC (.int 40009))) (.nm 2) [some (.cell i), some (.dat (.int many)), none, none] μ1 = some (.nx, [some (.cell i), some (.dat (.int many)), some (.dat (.int by')), none], μ1) :=
      asg_nm' (opT_of' (op_of' (cb_of' (acons (g1 _ _ _ _ _ _ w1) rfl) rfl rfl) rfl rfl rfl (modI (by omega))) rfl rfl rfl rfl)
    have hby : 40009 ≤ by' ∧ by' < 68666 := by
      have := Int.emod_nonneg s (show (28657 : Int) ≠ 0 by omega)
      have := Int.emod_lt_of_pos s (show (0 : Int) < 28657 by omega)
      omega
    let s' := (s * by' + 50023 * (a + 1) + 17) % 2147483563
    let μ2 := μ1.set i (.flat (W3 b s' (a + 1)))
    have w2 : μ2[i]? = some (.flat (W3 b s' (a + 1))) := get_set_self w1
    have s3 : sAsgS (mOp modD (mCB (f1 intD) (aCons (mOpT addD (mOpT addD (mOp mulID (mOpHT ixD (mVar 0) (mC (.int 1))) (mVar 2)) (mOp mulID (mC (.int 50023)) (mOpHT ixD (mVar 0) (mC (.int 2))))) (mC (.int 17))) aNil)) (mC (.int 2147483563))) (.sub (mVar 0) (mC (.int 1)))
        [some (.cell i), some (.dat (.int many)), some (.dat (.int by')), none] μ1 = some (.nx, [some (.cell i), some (.dat (.int many)), some (.dat (.int by')), none], μ2) :=
      asgS_of' (op_of' (cb_of' (acons (opT_of' (opT_of' (op_of' (g1 _ _ _ _ _ _ w1) rfl rfl rfl (mulI_r (by omega) (by omega))) (op_of' rfl (g2 _ _ _ _ _ _ w1) rfl rfl (mulI_l (by omega) (by omega))) rfl rfl rfl) rfl rfl rfl rfl) rfl) rfl rfl) rfl rfl rfl (modI (by omega)))
        (put_of' (c' := W3 b s' (a + 1)) rfl rfl w1 rfl rfl)
    have s4 : sRet (mOp modD (mCB (f1 intD) (aCons (mOp divD (mOpHT ixD (mVar 0) (mC (.int 1))) (mC (.int 83))) aNil)) (mVar 1)) [some (.cell i), some (.dat (.int many)), some (.dat (.int by')), none] μ2 = some (.rt (.dat (.int (s' / 83 % many))), _, μ2) :=
      ret_of (op_of' (cb_of' (acons (op_of' (g1 _ _ _ _ _ _ w2) rfl rfl rfl (divI (by omega) (by omega))) rfl) rfl rfl) rfl rfl rfl (modI h1))
    have hB : But i μ μ2 := (But.set i μ _).trans (But.set i μ1 _)
    refine ⟨s' / 83 % many, _, fn_cut rfl (seq_nx (if_f ht rfl) (seq_nx s1 (seq_nx s2 (seq_nx s3 s4)))), Int.emod_nonneg _ (by omega), Int.emod_lt_of_pos _ h1, ?_, ?_⟩
    · refine ⟨b, s', a + 1, ?_⟩
      rw [List.getElem?_take, if_pos (List.getElem?_eq_some_iff.mp hw).1]
      exact w2
    · have := but_take (n := μ.length) hB
      rwa [List.take_length] at this
theorem call_take {x : ME} {ρ : Env} {μ : Sto} {i : Nat} {many : Int} (h0 : mVar 0 ρ μ = some (.cell i, μ)) (hx : x ρ μ = some (.dat (.int many), μ)) (h : WS μ i) (h1 : 0 < many) (h2 : many < 1073741824) :
    ∃ r μ', mCall F__law_take (aCons (mVar 0) (aCons x aNil)) ρ μ = some (.dat (.int r), μ') ∧ 0 ≤ r ∧ r < many ∧ WS μ' i ∧ But i μ μ' := by
  obtain ⟨r, μ', k1, k2⟩ := take_ok h many h1 h2
  exact ⟨r, μ', call_of' (acons h0 (acons hx rfl)) k1, k2⟩
theorem WS.app {μ : Sto} {i : Nat} (h : WS μ i) (t : List Cell) : WS (μ ++ t) i := by
  obtain ⟨b, s, a, hw⟩ := h
  exact ⟨b, s, a, by rw [List.getElem?_append_left (List.getElem?_eq_some_iff.mp hw).1]; exact hw⟩
theorem WS.lt {μ : Sto} {i : Nat} (h : WS μ i) : i < μ.length := by
  obtain ⟨b, s, a, hw⟩ := h
  exact (List.getElem?_eq_some_iff.mp hw).1
theorem pick_ok {μ : Sto} {i : Nat} (h : WS μ i) (xs : List D) (h1 : 0 < xs.length) (h2 : xs.length < 1000) :
    ∃ d μ', F__law_pick [.cell i, .dat (.lst xs)] μ = some (.dat d, μ') ∧ d ∈ xs ∧ WS μ' i ∧ But i μ μ' := by
  obtain ⟨r, μ1, t1, t2, t3, t4, t5⟩ := call_take (x := mCB (f1 lenD) (aCons (mVar 1) aNil)) (ρ := [some (.cell i), some (.dat (.lst xs))]) (μ := μ) (i := i) (many := xs.length) rfl (cb_of' rfl rfl rfl) h (by omega) (by omega)
  obtain ⟨k, rfl⟩ : ∃ k : Nat, r = k := ⟨r.toNat, by omega⟩
  have hk : k < xs.length := by omega
  have hix : ixD (.lst xs) (.int k) = some xs[k] := by
    show L2.atI xs (k : Int) = _
    rw [atI_at, List.getElem?_eq_getElem hk]
  refine ⟨xs[k], _, fn_cut rfl (ret_of (opHT_of' rfl t1 rfl rfl hix)), List.getElem_mem hk, ?_, ?_⟩
  · obtain ⟨b, s, a, hw⟩ := t4
    exact ⟨b, s, a, by rw [List.getElem?_take, if_pos h.lt]; exact hw⟩
  · have := but_take (n := μ.length) t5
    rwa [List.take_length] at this

/-! the store behind n: lists of the def's own -/
structure ST (i n : Nat) (μ0 : Sto) (cs : List (List D)) (μ : Sto) : Prop where
  len : μ.length = n + cs.length
  in' : i < n
  old : ∀ j, j < n → j ≠ i → μ[j]? = μ0[j]?
  well : WS μ i
  at' : ∀ (j : Nat) (l : List D), cs[j]? = some l → μ[n + j]? = some (.flat (.lst l))
theorem ST.new {μ : Sto} {i : Nat} (h : WS μ i) : ST i μ.length μ [] μ := ⟨rfl, h.lt, fun _ _ _ => rfl, h, fun j l e => nomatch e⟩
theorem ST.take {i n : Nat} {μ0 μ μ' : Sto} {cs : List (List D)} (h : ST i n μ0 cs μ) (w : WS μ' i) (b : But i μ μ') : ST i n μ0 cs μ' :=
  ⟨b.len.trans h.len, h.in', fun j hj hi => (b.at' j hi).trans (h.old j hj hi), w, fun j l e => (b.at' (n + j) (by have := h.in'; omega)).trans (h.at' j l e)⟩
theorem ST.push {i n : Nat} {μ0 μ : Sto} {cs : List (List D)} (h : ST i n μ0 cs μ) (l : List D) : ST i n μ0 (cs ++ [l]) (μ ++ [.flat (.lst l)]) := by
  refine ⟨by simp [h.len]; omega, h.in', fun j hj hi => ?_, h.well.app _, fun j l' e => ?_⟩
  · rw [List.getElem?_append_left (by rw [h.len]; omega)]
    exact h.old j hj hi
  · by_cases hj : j < cs.length
    · rw [List.getElem?_append_left hj] at e
      rw [List.getElem?_append_left (by rw [h.len]; omega)]
      exact h.at' j l' e
    · have hj' : j = cs.length := by
        have := (List.getElem?_eq_some_iff.mp e).1
        rw [List.length_append, List.length_singleton] at this
        omega
      subst hj'
      rw [List.getElem?_append_right (Nat.le_refl _), Nat.sub_self] at e
      cases e
      rw [← h.len, List.getElem?_append_right (Nat.le_refl _), Nat.sub_self]
      rfl
theorem ST.set {i n j : Nat} {μ0 μ : Sto} {cs : List (List D)} {l : List D} (h : ST i n μ0 cs μ) (hj : cs[j]? = some l) (l' : List D) : ST i n μ0 (cs.set j l') (μ.set (n + j) (.flat (.lst l'))) := by
  have hi := h.in'
  refine ⟨by simp [h.len], hi, fun k hk hki => ?_, ?_, fun k l2 e => ?_⟩
  · rw [set_get_ne (by omega)]; exact h.old k hk hki
  · obtain ⟨b, s, a, hw⟩ := h.well
    exact ⟨b, s, a, by rw [set_get_ne (by omega)]; exact hw⟩
  · by_cases hk : k = j
    · subst hk
      rw [List.getElem?_set_self (List.getElem?_eq_some_iff.mp hj).1] at e
      cases e
      exact get_set_self (h.at' k l hj)
    · rw [List.getElem?_set_ne (fun z => hk z.symm)] at e
      rw [set_get_ne (by omega)]
      exact h.at' k l2 e
theorem ST.back {i n : Nat} {μ0 μ : Sto} {cs : List (List D)} (h : ST i n μ0 cs μ) (hn : μ0.length = n) : WS (μ.take n) i ∧ But i μ0 (μ.take n) := by
  refine ⟨?_, ⟨by rw [List.length_take, h.len]; omega, fun j hj => ?_⟩⟩
  · obtain ⟨b, s, a, hw⟩ := h.well
    exact ⟨b, s, a, by rw [List.getElem?_take, if_pos h.in']; exact hw⟩
  · rw [List.getElem?_take]
    by_cases hjn : j < n
    · rw [if_pos hjn]; exact h.old j hjn hj
    · rw [if_neg hjn, List.getElem?_eq_none (by omega)]
theorem ST.cell {i n j : Nat} {μ0 μ : Sto} {cs : List (List D)} {l : List D} (h : ST i n μ0 cs μ) (hj : cs[j]? = some l) : μ[n + j]? = some (.flat (.lst l)) := h.at' j l hj
end LK13

set_option Elab.async false
set_option linter.all false
set_option maxRecDepth 100000
namespace LK13
open PL
structure GoodB (bs : List T3) : Prop where
  len : bs.length ≤ 8
  ok : ∀ t ∈ bs, okS t = true
  asc : bs.Pairwise fun s t => flw s t = true
theorem GoodB.okSs {bs : List T3} (h : GoodB bs) : okSs bs = true := by
  unfold LK13.okSs
  rw [decide_eq_true h.len, List.all_eq_true.mpr h.ok, List.all_eq_true.mpr fun p hp => zip_pair h.asc p hp]
  rfl
theorem okS_iff {t : T3} : okS t = true ↔ 0 ≤ t.1 ∧ t.1 ≤ 30 ∧ 0 ≤ t.2.1 ∧ t.2.1 ≤ 30 ∧ 0 ≤ t.2.2 ∧ t.2.2 ≤ 30 ∧ t.2.1 ≤ t.2.2 := by
  simp only [okS, Bool.and_eq_true, decide_eq_true_eq]
  constructor
  · rintro ⟨⟨⟨⟨a, b⟩, c, d⟩, e, f⟩, g⟩
    exact ⟨a, b, c, d, e, f, g⟩
  · rintro ⟨a, b, c, d, e, f, g⟩
    exact ⟨⟨⟨⟨a, b⟩, c, d⟩, e, f⟩, g⟩
def gbB (a b : T3) : Bool := !decide (a.1 = b.1) || (decide (a.2.2 + 1 < b.2.1) || decide (b.2.2 + 1 < a.2.1))
theorem gb_symm {a b : T3} (h : gbB a b = true) : gbB b a = true := by
  unfold gbB at *
  simp only [Bool.or_eq_true, Bool.not_eq_true', decide_eq_false_iff_not, decide_eq_true_eq] at *
  rcases h with h | h | h
  · exact .inl fun e => h e.symm
  · exact .inr (.inr h)
  · exact .inr (.inl h)
theorem go_beside_ok (a b : T3) (μ : Sto) : F__law_go_beside [.dat (st a), .dat (st b)] μ = some (.dat (.bl (gbB a b)), μ) := by
  obtain ⟨a1, a2, a3⟩ := a
  obtain ⟨b1, b2, b3⟩ := b
  exact fn_dat rfl (ret_of (or_of (op_of' (opHT_of' rfl rfl rfl rfl rfl) (opHT_of' rfl rfl rfl rfl rfl) rfl rfl (neI _ _)) fun _ => or_of (op_of' (opT_of' (opHT_of' rfl rfl rfl rfl rfl) rfl rfl rfl rfl) (opHT_of' rfl rfl rfl rfl rfl) rfl rfl (ltI _ _)) fun _ =>
    op_of' (opT_of' (opHT_of' rfl rfl rfl rfl rfl) rfl rfl rfl rfl) (opHT_of' rfl rfl rfl rfl rfl) rfl rfl (ltI _ _)))
theorem sts_okN (l : List T3) : okNs (l.map st) 59 = true := by
  rw [okNs_all, List.all_map]
  exact List.all_eq_true.mpr fun t _ => rfl
theorem eq_sts (l : List T3) : eqD (.lst (l.map st)) (.lst []) = some (.bl l.isEmpty) := by
  have e : eqv (.lst (l.map st)) (.lst []) = l.isEmpty := by cases l <;> rfl
  unfold eqD
  rw [if_pos ⟨by show (decide (0 < 60) && okNs _ 59) = true; rw [sts_okN]; rfl, rfl⟩, e]
theorem ne_sts (l : List T3) : neD (.tup (l.map st)) (.tup []) = some (.bl (!l.isEmpty)) := by
  have e : eqv (.tup (l.map st)) (.tup []) = l.isEmpty := by cases l <;> rfl
  unfold neD
  rw [if_pos ⟨by show (decide (0 < 60) && okNs _ 59) = true; rw [sts_okN]; rfl, rfl⟩, e]
def key3 (t : T3) : List Int := [t.1, t.2.1, t.2.2]
noncomputable def sort3 (l : List T3) : List T3 := l.mergeSort fun p q => decide (key3 p ≤ key3 q)
theorem sort_sts {l : List T3} (hl : l.length ≤ 1000) : sortD (.lst (l.map st)) = some (.lst ((sort3 l).map st)) :=
  sort_tups key3 l (fun _ _ h => nomatch h) (by unfold lim; omega)
theorem sort3_good {l : List T3} (hl : l.length ≤ 8) (ok : ∀ t ∈ l, okS t = true) (gb : l.Pairwise fun a b => gbB a b = true) : GoodB (sort3 l) := by
  have hp : (sort3 l).Perm l := List.mergeSort_perm _ _
  refine ⟨by rw [hp.length_eq]; exact hl, fun t ht => ok t (hp.mem_iff.mp ht), ?_⟩
  have h1 := sorted_tups key3 l
  have h2 : (sort3 l).Pairwise fun a b => gbB a b = true := (hp.pairwise_iff fun h => gb_symm h).mpr gb
  refine (List.pairwise_iff_forall_sublist.mpr fun {a b} hs => ?_)
  have k1 := List.pairwise_iff_forall_sublist.mp h1 hs
  have k2 := List.pairwise_iff_forall_sublist.mp h2 hs
  have oa := okS_iff.mp (ok a (hp.mem_iff.mp (hs.subset (by simp))))
  have ob := okS_iff.mp (ok b (hp.mem_iff.mp (hs.subset (by simp))))
  have k3 := le3 k1
  unfold gbB at k2
  unfold flw
  simp only [Bool.or_eq_true, Bool.not_eq_true', decide_eq_false_iff_not, decide_eq_true_eq, Bool.and_eq_true] at *
  omega
noncomputable def bDL : MS := (sSeq (sPar (aCons (mCall F__law_take (aCons (mVar 0) (aCons (mOpT addD (mVar 2) (mC (.int 1))) aNil))) (aCons (mCall F__law_take (aCons (mVar 0) (aCons (mOpT addD (mVar 2) (mC (.int 1))) aNil))) aNil)) [(.nm 6), (.nm 7)]) (sSeq (sAsg (mTup (aCons (mCall F__law_take (aCons (mVar 0) (aCons (mOpT addD (mVar 3) (mC (.int 1))) aNil))) (aCons (mCB (f2 min2D) (aCons (mVar 6) (aCons (mVar 7) aNil))) (aCons (mCB (f2 max2D) (aCons (mVar 6) (aCons (mVar 7) aNil))) aNil)))) (.nm 8)) (sSeq (sIf (mTest (mOp eqD (mCall F__law_take (aCons (mVar 0) (aCons (mC (.int 3)) aNil))) (mC (.int 0)))) (sAsg (mTup (aCons (mOpHT ixD (mVar 8) (mC (.int 0))) (aCons (mC (.int 0)) (aCons (mVar 2) aNil)))) (.nm 8)) sNx) (sIf (mTest (mOp eqD (mLc (iSeq (mVar 4)) (.nm 9) [9] (tmNot (mTest (mCall F__law_go_beside (aCons (mVar 9) (aCons (mVar 8) aNil))))) (mVar 9)) (mLst aNil))) (sEx (mMut appD (mVar 4) (aCons (mVar 8) aNil))) sNx))))
def RDL (i n : Nat) (many wide high : Int) (x5 x6 x7 x8 : Option PV) : Env := [some (.cell i), some (.dat (.int many)), some (.dat (.int wide)), some (.dat (.int high)), some (.cell n), x5, x6, x7, x8, none]
theorem dl_step {i n : Nat} {μ0 μ : Sto} {xs : List T3} (h : ST i n μ0 [xs.map st] μ) (hl : xs.length < 8) (ok : ∀ t ∈ xs, okS t = true) (gb : xs.Pairwise fun a b => gbB a b = true) (many wide high : Int) (w1 : 0 ≤ wide) (w2 : wide ≤ 30) (v1 : 0 ≤ high) (v2 : high ≤ 30) (x5 x6 x7 x8 : Option PV) :
    ∃ (y6 y7 y8 : Option PV) (μ' : Sto) (ys : List T3), bDL (RDL i n many wide high x5 x6 x7 x8) μ = some (.nx, RDL i n many wide high x5 y6 y7 y8, μ') ∧ ST i n μ0 [ys.map st] μ' ∧ ys.length ≤ xs.length + 1 ∧ (∀ t ∈ ys, okS t = true) ∧ ys.Pairwise fun a b => gbB a b = true := by
  obtain ⟨r1, μ1, t1, a1, b1, c1, d1⟩ := call_take (x := mOpT addD (mVar 2) (mC (.int 1))) (ρ := RDL i n many wide high x5 x6 x7 x8) (μ := μ) (i := i) (many := wide + 1) rfl rfl h.well (by omega) (by omega)
  have h1 := h.take c1 d1
  obtain ⟨r2, μ2, t2, a2, b2, c2, d2⟩ := call_take (x := mOpT addD (mVar 2) (mC (.int 1))) (ρ := RDL i n many wide high x5 x6 x7 x8) (μ := μ1) (i := i) (many := wide + 1) rfl rfl c1 (by omega) (by omega)
  have h2 := h1.take c2 d2
  obtain ⟨r3, μ3, t3, a3, b3, c3, d3⟩ := call_take (x := mOpT addD (mVar 3) (mC (.int 1))) (ρ := RDL i n many wide high x5 (some (.dat (.int r1))) (some (.dat (.int r2))) x8) (μ := μ2) (i := i) (many := high + 1) rfl rfl c2 (by omega) (by omega)
  have h3 := h2.take c3 d3
  let e0 : T3 := (r3, (if r2 < r1 then r2 else r1), (if r2 > r1 then r2 else r1))
  have s1 := par_of (ts := [(.nm 6), (.nm 7)]) (ρ1 := RDL i n many wide high x5 (some (.dat (.int r1))) (some (.dat (.int r2))) x8) (acons t1 (acons (am := aNil) t2 rfl)) rfl
  have s2 : sAsg (mTup (aCons (mCall F__law_take (aCons (mVar 0) (aCons (mOpT addD (mVar 3) (mC (.int 1))) aNil))) (aCons (mCB (f2 min2D) (aCons (mVar 6) (aCons (mVar 7) aNil))) (aCons (mCB (f2 max2D) (aCons (mVar 6) (aCons (mVar 7) aNil))) aNil)))) (.nm 8) (RDL i n many wide high x5 (some (.dat (.int r1))) (some (.dat (.int r2))) x8) μ2
      = some (.nx, RDL i n many wide high x5 (some (.dat (.int r1))) (some (.dat (.int r2))) (some (.dat (st e0))), μ3) := asg_nm' (tup_of' (acons t3 (acons rfl (acons rfl rfl))) rfl (by simp [lim]))
  obtain ⟨r4, μ4, t4, a4, b4, c4, d4⟩ := call_take (x := mC (.int 3)) (ρ := RDL i n many wide high x5 (some (.dat (.int r1))) (some (.dat (.int r2))) (some (.dat (st e0)))) (μ := μ3) (i := i) (many := 3) rfl rfl c3 (by omega) (by omega)
  have h4 := h3.take c4 d4
  let e1 : T3 := if r4 = 0 then (r3, 0, wide) else e0
  have s3 : sIf (mTest (mOp eqD (mCall F__law_take (aCons (mVar 0) (aCons (mC (.int 3)) aNil))) (mC (.int 0)))) (sAsg (mTup (aCons (mOpHT ixD (mVar 8) (mC (.int 0))) (aCons (mC (.int 0)) (aCons (mVar 2) aNil)))) (.nm 8)) sNx (RDL i n many wide high x5 (some (.dat (.int r1))) (some (.dat (.int r2))) (some (.dat (st e0)))) μ3
      = some (.nx, RDL i n many wide high x5 (some (.dat (.int r1))) (some (.dat (.int r2))) (some (.dat (st e1))), μ4) := by
    refine if_b (tst (op_of' t4 rfl rfl rfl (eqI _ _))) (fun hh => ?_) (fun hh => ?_)
    · have z : e1 = (r3, 0, wide) := if_pos (of_decide_eq_true hh)
      rw [z]
      exact asg_nm' (tup_of' (acons (opHT_of' rfl rfl rfl rfl rfl) (acons rfl (acons rfl rfl))) rfl (by simp [lim]))
    · have z : e1 = e0 := if_neg (of_decide_eq_false hh)
      rw [z]
      rfl
  have oe : okS e1 = true := by
    rw [okS_iff]
    show _
    by_cases z : r4 = 0
    · rw [show e1 = (r3, 0, wide) from if_pos z]
      simp only
      omega
    · rw [show e1 = e0 from if_neg z]
      simp only [e0]
      split <;> split <;> omega
  let R := RDL i n many wide high x5 (some (.dat (.int r1))) (some (.dat (.int r2))) (some (.dat (st e1)))
  have hcell : μ4[n]? = some (.flat (.lst (xs.map st))) := h4.cell (j := 0) rfl
  have hit : iSeq (mVar 4) R μ4 = some (xs.map st, ocOf μ4 (.cell n), μ4) := seq_it rfl (dcell hcell) rfl
  have hc := mLcM (t := .nm 9) (vs := [9]) (tt := tmNot (mTest (mCall F__law_go_beside (aCons (mVar 9) (aCons (mVar 8) aNil))))) (te := mVar 9) st st (fun t => !gbB t e1) hit (keep_oc _ _) (fun t _ => ⟨_, rfl, tnot (tst (call_of' rfl (go_beside_ok t e1 μ4))), fun _ => rfl⟩) (by unfold lim; omega)
  have ht : mTest (mOp eqD (mLc (iSeq (mVar 4)) (.nm 9) [9] (tmNot (mTest (mCall F__law_go_beside (aCons (mVar 9) (aCons (mVar 8) aNil))))) (mVar 9)) (mLst aNil)) R μ4 = some (xs.all fun t => gbB t e1, μ4) := by
    refine tst ((op_of' hc rfl rfl rfl (eq_sts _)).trans ?_)
    rw [filter_empty]
  cases hq : xs.all fun t => gbB t e1 with
  | true =>
    rw [hq] at ht
    refine ⟨_, _, _, _, xs ++ [e1], seq_nx s1 (seq_nx s2 (seq_nx s3 (if_t ht (expr_of (app_of' (v := st e1) rfl hcell rfl hcell (by rw [List.length_map]; unfold lim; omega)))))), ?_, by simp, fun t ht => ?_, ?_⟩
    · have := h4.set (j := 0) rfl (xs.map st ++ [st e1])
      rw [List.map_append]
      exact this
    · rcases List.mem_append.mp ht with z | z
      · exact ok t z
      · have : t = e1 := by simpa using z
        rw [this]
        exact oe
    · refine List.pairwise_append.mpr ⟨gb, List.pairwise_singleton _ _, fun a ha b hb => ?_⟩
      have : b = e1 := by simpa using hb
      rw [this]
      exact List.all_eq_true.mp hq a ha
  | false =>
    rw [hq] at ht
    exact ⟨_, _, _, _, xs, seq_nx s1 (seq_nx s2 (seq_nx s3 (if_f ht rfl))), h4, by omega, ok, gb⟩
theorem drawn_laths_ok {μ : Sto} {i : Nat} (h : WS μ i) (many : Nat) (wide high : Int) (hm : many ≤ 8) (w1 : 0 ≤ wide) (w2 : wide ≤ 30) (v1 : 0 ≤ high) (v2 : high ≤ 30) :
    ∃ (bs : List T3) (μ' : Sto), F__law_drawn_laths [.cell i, .dat (.int (many : Nat)), .dat (.int wide), .dat (.int high)] μ = some (.dat (.tup (bs.map st)), μ') ∧ GoodB bs ∧ WS μ' i ∧ But i μ μ' := by
  have s0 : sAsg (mLstC aNil) (.nm 4) (startE 10 [.cell i, .dat (.int (many : Nat)), .dat (.int wide), .dat (.int high)]) μ = some (.nx, RDL i μ.length (many : Nat) wide high none none none none, μ ++ [.flat (.lst [])]) := asg_nm' (lstC_of' rfl rfl (by simp [lim]))
  have S0 : ST i μ.length μ [([] : List T3).map st] (μ ++ [.flat (.lst [])]) := (ST.new h).push []
  obtain ⟨ρ', μ', k1, xs, x5, x6, x7, x8, rfl, k3, k4, k5, k6⟩ := for_pre (t := .nm 5) (b := bDL) (fun (i : Nat) => D.int (i : Int))
    (fun pre ρ μ' => ∃ (xs : List T3) (x5 x6 x7 x8 : Option PV), ρ = RDL i μ.length (many : Nat) wide high x5 x6 x7 x8 ∧ ST i μ.length μ [xs.map st] μ' ∧ xs.length ≤ pre.length ∧ (∀ t ∈ xs, okS t = true) ∧ xs.Pairwise fun a b => gbB a b = true)
    (range1_map (n := many) (ρ := RDL i μ.length (many : Nat) wide high none none none none) (μ := μ ++ [.flat (.lst [])]) (am := aCons (mVar 1) aNil) rfl (by omega)) (fun _ _ _ _ => trivial) ⟨[], none, none, none, none, rfl, S0, by simp, (fun t ht => nomatch ht), .nil⟩ (fun pre a post e ρ μ' hh => by
      obtain ⟨xs, x5, x6, x7, x8, rfl, h3, h4, h5, h6⟩ := hh
      have hpl : pre.length < 8 := by
        have := congrArg List.length e
        simp at this
        omega
      obtain ⟨y6, y7, y8, μ2, ys, j1, j2, j3, j4, j5⟩ := dl_step h3 (by omega) h5 h6 (many : Nat) wide high w1 w2 v1 v2 (some (.dat (.int (a : Nat)))) x6 x7 x8
      exact ⟨_, .nx, _, μ2, rfl, j1, .inl rfl, ys, _, y6, y7, y8, rfl, j2, by rw [List.length_append, List.length_singleton]; omega, j4, j5⟩)
  rw [List.length_range] at k4
  have hcell : μ'[μ.length]? = some (.flat (.lst (xs.map st))) := k3.cell (j := 0) rfl
  have hr := fn_cut (n := 10) (j := 4) (ms := M__law_drawn_laths) (xs := [.cell i, .dat (.int (many : Nat)), .dat (.int wide), .dat (.int high)]) (μ := μ) rfl (seq_nx s0 (seq_nx k1 (ret_of (tup_lst (cb_of' (ds := [.lst (xs.map st)]) rfl (by simp only [derefs, dcell hcell, Option.bind_some, Option.map_some]) (sort_sts (by omega)))))))
  exact ⟨sort3 xs, _, hr, sort3_good (by omega) k5 k6, k3.back rfl⟩
end LK13

set_option Elab.async false
set_option linter.all false
set_option maxRecDepth 100000
namespace LK13
open PL
theorem call_pick {L : ME} {ρ : Env} {μ : Sto} {i : Nat} {ds : List D} (h0 : mVar 0 ρ μ = some (.cell i, μ)) (hL : L ρ μ = some (.dat (.lst ds), μ)) (h : WS μ i) (h1 : 0 < ds.length) (h2 : ds.length < 1000) :
    ∃ d μ', mCall F__law_pick (aCons (mVar 0) (aCons L aNil)) ρ μ = some (.dat d, μ') ∧ d ∈ ds ∧ WS μ' i ∧ But i μ μ' := by
  obtain ⟨d, μ', k1, k2⟩ := pick_ok h ds h1 h2
  exact ⟨d, μ', call_of' (acons h0 (acons hL rfl)) k1, k2⟩
theorem pick_size {ρ : Env} {μ : Sto} {i : Nat} (h0 : mVar 0 ρ μ = some (.cell i, μ)) (h : WS μ i) :
    ∃ (w : Int) (μ' : Sto), mCall F__law_pick (aCons (mVar 0) (aCons (mLst (aCons (mC (.int 2)) (aCons (mC (.int 4)) (aCons (mC (.int 6)) (aCons (mC (.int 9)) (aCons (mC (.int 30)) aNil)))))) aNil)) ρ μ = some (.dat (.int w), μ') ∧ 0 ≤ w ∧ w ≤ 30 ∧ WS μ' i ∧ But i μ μ' := by
  obtain ⟨d, μ', k1, k2, k3, k4⟩ := call_pick (L := mLst (aCons (mC (.int 2)) (aCons (mC (.int 4)) (aCons (mC (.int 6)) (aCons (mC (.int 9)) (aCons (mC (.int 30)) aNil)))))) (ds := [.int 2, .int 4, .int 6, .int 9, .int 30]) h0 rfl h (by decide) (by decide)
  simp only [List.mem_cons, List.not_mem_nil, or_false] at k2
  rcases k2 with rfl | rfl | rfl | rfl | rfl
  · exact ⟨2, μ', k1, by decide, by decide, k3, k4⟩
  · exact ⟨4, μ', k1, by decide, by decide, k3, k4⟩
  · exact ⟨6, μ', k1, by decide, by decide, k3, k4⟩
  · exact ⟨9, μ', k1, by decide, by decide, k3, k4⟩
  · exact ⟨30, μ', k1, by decide, by decide, k3, k4⟩
theorem But.ws {i : Nat} {μ μ' : Sto} (b : But i μ μ') (w : WS μ' i) : WS μ' i := w
theorem drawn_frame_ok {μ : Sto} {i : Nat} (h : WS μ i) (most : Nat) (hm : most ≤ 8) :
    ∃ (bs ps : List T3) (μ' : Sto), F__law_drawn_frame [.cell i, .dat (.int (most : Nat))] μ = some (.dat (fr bs ps), μ') ∧ GoodB bs ∧ GoodB ps ∧ 0 < bs.length + ps.length ∧ WS μ' i ∧ But i μ μ' := by
  let R (x2 x3 x4 x5 : Option PV) : Env := [some (.cell i), some (.dat (.int (most : Nat))), x2, x3, x4, x5]
  obtain ⟨w, μ1, t1, a1, b1, c1, d1⟩ := pick_size (ρ := R none none none none) rfl h
  obtain ⟨v, μ2, t2, a2, b2, c2, d2⟩ := pick_size (ρ := R none none none none) rfl c1
  have s1 := par_of (ts := [(.nm 2), (.nm 3)]) (ρ1 := R (some (.dat (.int w))) (some (.dat (.int v))) none none) (acons t1 (acons (am := aNil) t2 rfl)) rfl
  obtain ⟨r3, μ3, t3, a3, b3, c3, d3⟩ := call_take (x := mOpT addD (mVar 1) (mC (.int 1))) (ρ := R (some (.dat (.int w))) (some (.dat (.int v))) none none) (μ := μ2) (i := i) (many := (most : Int) + 1) rfl rfl c2 (by omega) (by omega)
  obtain ⟨n3, rfl⟩ : ∃ k : Nat, r3 = k := ⟨r3.toNat, by omega⟩
  obtain ⟨bs, μ4, t4, g4, c4, d4⟩ := drawn_laths_ok c3 n3 w v (by omega) a1 b1 a2 b2
  have s2 : sAsg (mCall F__law_drawn_laths (aCons (mVar 0) (aCons (mCall F__law_take (aCons (mVar 0) (aCons (mOpT addD (mVar 1) (mC (.int 1))) aNil))) (aCons (mVar 2) (aCons (mVar 3) aNil))))) (.nm 4) (R (some (.dat (.int w))) (some (.dat (.int v))) none none) μ2 = some (.nx, R (some (.dat (.int w))) (some (.dat (.int v))) (some (.dat (.tup (bs.map st)))) none, μ4) :=
    asg_nm' (call_of' (acons rfl (acons t3 (acons rfl (acons rfl rfl)))) t4)
  obtain ⟨r5, μ5, t5, a5, b5, c5, d5⟩ := call_take (x := mOpT addD (mVar 1) (mC (.int 1))) (ρ := R (some (.dat (.int w))) (some (.dat (.int v))) (some (.dat (.tup (bs.map st)))) none) (μ := μ4) (i := i) (many := (most : Int) + 1) rfl rfl c4 (by omega) (by omega)
  obtain ⟨n5, rfl⟩ : ∃ k : Nat, r5 = k := ⟨r5.toNat, by omega⟩
  obtain ⟨ps, μ6, t6, g6, c6, d6⟩ := drawn_laths_ok c5 n5 v w (by omega) a2 b2 a1 b1
  have s3 : sAsg (mCall F__law_drawn_laths (aCons (mVar 0) (aCons (mCall F__law_take (aCons (mVar 0) (aCons (mOpT addD (mVar 1) (mC (.int 1))) aNil))) (aCons (mVar 3) (aCons (mVar 2) aNil))))) (.nm 5) (R (some (.dat (.int w))) (some (.dat (.int v))) (some (.dat (.tup (bs.map st)))) none) μ4 = some (.nx, R (some (.dat (.int w))) (some (.dat (.int v))) (some (.dat (.tup (bs.map st)))) (some (.dat (.tup (ps.map st)))), μ6) :=
    asg_nm' (call_of' (acons rfl (acons t5 (acons rfl (acons rfl rfl)))) t6)
  have hB : But i μ μ6 := ((((d1.trans d2).trans d3).trans d4).trans d5).trans d6
  have htest : tmOr (mTest (mOp neD (mVar 4) (mTup aNil))) (mTest (mOp neD (mVar 5) (mTup aNil))) (R (some (.dat (.int w))) (some (.dat (.int v))) (some (.dat (.tup (bs.map st)))) (some (.dat (.tup (ps.map st))))) μ6 = some (!bs.isEmpty || !ps.isEmpty, μ6) :=
    tor (tst (op_of' rfl rfl rfl rfl (ne_sts bs))) fun _ => tst (op_of' rfl rfl rfl rfl (ne_sts ps))
  have fin : ∀ μ7, But i μ6 μ7 → WS μ7 i → WS (μ7.take μ.length) i ∧ But i μ (μ7.take μ.length) := fun μ7 b w => by
    have hb := hB.trans b
    have e : μ7.take μ.length = μ7 := List.take_of_length_le (by rw [hb.len]; exact Nat.le_refl _)
    rw [e]
    exact ⟨w, hb⟩
  cases hq : (!bs.isEmpty || !ps.isEmpty) with
  | true =>
    rw [hq] at htest
    obtain ⟨f1, f2⟩ := fin μ6 (But.refl _ _) c6
    refine ⟨bs, ps, _, fn_cut rfl (seq_nx s1 (seq_nx s2 (seq_nx s3 (ret_of (ifx htest (fun _ => tup_of' (acons rfl (acons rfl rfl)) rfl (by simp [lim])) fun h => nomatch h))))), g4, g6, ?_, f1, f2⟩
    cases bs with
    | nil =>
      cases ps with
      | nil => cases hq
      | cons p ps => simp
    | cons b bs => simp; omega
  | false =>
    rw [hq] at htest
    obtain ⟨r7, μ7, t7, a7, b7, c7, d7⟩ := call_take (x := mC (.int 31)) (ρ := R (some (.dat (.int w))) (some (.dat (.int v))) (some (.dat (.tup (bs.map st)))) (some (.dat (.tup (ps.map st))))) (μ := μ6) (i := i) (many := 31) rfl rfl c6 (by omega) (by omega)
    obtain ⟨f1, f2⟩ := fin μ7 d7 c7
    refine ⟨[(r7, 0, 30)], [], _, fn_cut rfl (seq_nx s1 (seq_nx s2 (seq_nx s3 (ret_of (ifx htest (fun h => nomatch h) fun _ => tup_of' (acons (tup_of' (acons (tup_of' (acons t7 (acons rfl (acons rfl rfl))) rfl (by simp [lim])) rfl) rfl (by simp [lim])) (acons rfl rfl)) rfl (by simp [lim])))))), ⟨by simp, fun t ht => ?_, List.pairwise_singleton _ _⟩, ⟨by simp, (fun t ht => nomatch ht), .nil⟩, by simp, f1, f2⟩
    have : t = (r7, 0, 30) := by simpa using ht
    rw [this, okS_iff]
    simp only
    omega
/-! thick frames -/
def RT (i n : Nat) (most many other : Nat) (x6 x7 x8 : Option PV) : Env := [some (.cell i), some (.dat (.int (most : Nat))), some (.dat (.int (many : Nat))), some (.dat (.int (other : Nat))), some (.cell n), some (.cell (n + 1)), x6, x7, x8]
noncomputable def bTF (q v : Nat) : MS := (sSeq (sPar (aCons (mCall F__law_take (aCons (mVar 0) (aCons (mOp mulID (mC (.int 2)) (mVar v)) aNil))) (aCons (mCall F__law_take (aCons (mVar 0) (aCons (mOp mulID (mC (.int 2)) (mVar v)) aNil))) aNil)) [(.nm 7), (.nm 8)]) (sEx (mMut appD (mVar q) (aCons (mIf (mTest (mOp eqD (mCall F__law_take (aCons (mVar 0) (aCons (mC (.int 3)) aNil))) (mC (.int 0)))) (mTup (aCons (mOp mulID (mC (.int 2)) (mVar 6)) (aCons (mCB (f2 min2D) (aCons (mVar 7) (aCons (mVar 8) aNil))) (aCons (mCB (f2 max2D) (aCons (mVar 7) (aCons (mVar 8) aNil))) aNil)))) (mTup (aCons (mOp mulID (mC (.int 2)) (mVar 6)) (aCons (mC (.int 0)) (aCons (mOp subD (mOp mulID (mC (.int 2)) (mVar v)) (mC (.int 2))) aNil))))) aNil))))
theorem tf_step {i n j : Nat} {μ0 μ : Sto} {cs : List (List D)} {xs : List T3} (h : ST i n μ0 cs μ) (hj : cs[j]? = some (xs.map st)) (hxl : xs.length < 8) (most many other o a q v : Nat) (o1 : 1 ≤ o) (o2 : o ≤ 8) (ha : a ≤ 8)
    (hq : ∀ x6 x7 x8 μ, mVar q (RT i n most many other x6 x7 x8) μ = some (.cell (n + j), μ)) (hv : ∀ x6 x7 x8 μ, mVar v (RT i n most many other x6 x7 x8) μ = some (.dat (.int (o : Nat)), μ)) (x7 x8 : Option PV) :
    ∃ (y7 y8 : Option PV) (μ' : Sto) (t : T3), bTF q v (RT i n most many other (some (.dat (.int (a : Nat)))) x7 x8) μ = some (.nx, RT i n most many other (some (.dat (.int (a : Nat)))) y7 y8, μ') ∧ ST i n μ0 (cs.set j ((xs ++ [t]).map st)) μ' ∧ t.1 = 2 * (a : Int) ∧ okS t = true := by
  let A : Option PV := some (.dat (.int (a : Nat)))
  have hm : ∀ x7 x8 μ, mOp mulID (mC (.int 2)) (mVar v) (RT i n most many other A x7 x8) μ = some (.dat (.int (2 * (o : Int))), μ) := fun x7 x8 μ => op_of' rfl (hv _ _ _ _) rfl rfl (mulI_l (by omega) (by omega))
  have hm6 : ∀ x7 x8 μ, mOp mulID (mC (.int 2)) (mVar 6) (RT i n most many other A x7 x8) μ = some (.dat (.int (2 * (a : Int))), μ) := fun x7 x8 μ => op_of' rfl rfl rfl rfl (mulI_l (by omega) (by omega))
  obtain ⟨r1, μ1, t1, a1, b1, c1, d1⟩ := call_take (x := mOp mulID (mC (.int 2)) (mVar v)) (ρ := RT i n most many other A x7 x8) (μ := μ) (i := i) (many := 2 * (o : Int)) rfl (hm _ _ _) h.well (by omega) (by omega)
  have h1 := h.take c1 d1
  obtain ⟨r2, μ2, t2, a2, b2, c2, d2⟩ := call_take (x := mOp mulID (mC (.int 2)) (mVar v)) (ρ := RT i n most many other A x7 x8) (μ := μ1) (i := i) (many := 2 * (o : Int)) rfl (hm _ _ _) c1 (by omega) (by omega)
  have h2 := h1.take c2 d2
  let R := RT i n most many other A (some (.dat (.int r1))) (some (.dat (.int r2)))
  have s1 := par_of (ts := [(.nm 7), (.nm 8)]) (ρ1 := R) (acons t1 (acons (am := aNil) t2 rfl)) rfl
  obtain ⟨r3, μ3, t3, a3, b3, c3, d3⟩ := call_take (x := mC (.int 3)) (ρ := R) (μ := μ2) (i := i) (many := 3) rfl rfl c2 (by omega) (by omega)
  have h3 := h2.take c3 d3
  let t : T3 := if r3 = 0 then (2 * (a : Int), (if r2 < r1 then r2 else r1), (if r2 > r1 then r2 else r1)) else (2 * (a : Int), 0, 2 * (o : Int) - 2)
  have hif : mIf (mTest (mOp eqD (mCall F__law_take (aCons (mVar 0) (aCons (mC (.int 3)) aNil))) (mC (.int 0)))) (mTup (aCons (mOp mulID (mC (.int 2)) (mVar 6)) (aCons (mCB (f2 min2D) (aCons (mVar 7) (aCons (mVar 8) aNil))) (aCons (mCB (f2 max2D) (aCons (mVar 7) (aCons (mVar 8) aNil))) aNil)))) (mTup (aCons (mOp mulID (mC (.int 2)) (mVar 6)) (aCons (mC (.int 0)) (aCons (mOp subD (mOp mulID (mC (.int 2)) (mVar v)) (mC (.int 2))) aNil)))) R μ2 = some (.dat (st t), μ3) := by
    refine ifx (tst (op_of' t3 rfl rfl rfl (eqI _ _))) (fun hh => ?_) (fun hh => ?_)
    · rw [show t = _ from if_pos (of_decide_eq_true hh)]
      exact tup_of' (acons (hm6 _ _ _) (acons rfl (acons rfl rfl))) rfl (by simp [lim])
    · rw [show t = _ from if_neg (of_decide_eq_false hh)]
      exact tup_of' (acons (hm6 _ _ _) (acons rfl (acons (op_of' (hm _ _ _) rfl rfl rfl rfl) rfl))) rfl (by simp [lim])
  have hc2 := h2.cell hj
  have hc3 := h3.cell hj
  refine ⟨_, _, _, t, seq_nx s1 (expr_of (app_of' (hq _ _ _ _) hc2 (acons (am := aNil) hif rfl) hc3 (by rw [List.length_map]; unfold lim; omega))), ?_, ?_, ?_⟩
  · have := h3.set hj (xs.map st ++ [st t])
    rw [List.map_append]
    exact this
  · by_cases z : r3 = 0
    · rw [show t = _ from if_pos z]
    · rw [show t = _ from if_neg z]
  · rw [okS_iff]
    by_cases z : r3 = 0
    · rw [show t = _ from if_pos z]
      simp only
      split <;> split <;> omega
    · rw [show t = _ from if_neg z]
      simp only
      omega
structure Thick (xs : List T3) (k : Nat) : Prop where
  len : xs.length = k
  ok : ∀ t ∈ xs, okS t = true ∧ t.1 < 2 * (k : Int)
  asc : xs.Pairwise fun s t => flw s t = true
theorem Thick.snoc {xs : List T3} {k : Nat} (h : Thick xs k) {t : T3} (h1 : t.1 = 2 * (k : Int)) (h2 : okS t = true) : Thick (xs ++ [t]) (k + 1) := by
  refine ⟨by simp [h.len], fun s hs => ?_, List.pairwise_append.mpr ⟨h.asc, List.pairwise_singleton _ _, fun a ha b hb => ?_⟩⟩
  · rcases List.mem_append.mp hs with z | z
    · have := h.ok s z
      exact ⟨this.1, by omega⟩
    · have : s = t := by simpa using z
      rw [this]
      exact ⟨h2, by omega⟩
  · have : b = t := by simpa using hb
    have := (h.ok a ha).2
    unfold flw
    simp only [Bool.or_eq_true, decide_eq_true_eq]
    left
    subst b
    omega
theorem Thick.good {xs : List T3} {k : Nat} (h : Thick xs k) (hk : k ≤ 8) : GoodB xs := ⟨by rw [h.len]; exact hk, fun t ht => (h.ok t ht).1, h.asc⟩
theorem range_pre {n a : Nat} {pre post : List Nat} (e : List.range n = pre ++ a :: post) : a = pre.length ∧ pre.length < n := by
  have hl := congrArg List.length e
  simp at hl
  have h1 : (List.range n)[pre.length]? = some a := by rw [e]; simp
  rw [List.getElem?_range (by omega)] at h1
  cases h1
  exact ⟨rfl, by omega⟩
theorem thick_frame_ok {μ : Sto} {i : Nat} (h : WS μ i) (most : Nat) (m1 : 1 ≤ most) (m2 : most ≤ 8) :
    ∃ (bs ps : List T3) (μ' : Sto), F__law_thick_frame [.cell i, .dat (.int (most : Nat))] μ = some (.dat (fr bs ps), μ') ∧ GoodB bs ∧ GoodB ps ∧ 0 < bs.length + ps.length ∧ WS μ' i ∧ But i μ μ' := by
  let ρ0 : Env := [some (.cell i), some (.dat (.int (most : Nat))), none, none, none, none, none, none, none]
  obtain ⟨r1, μ1, t1, a1, b1, c1, d1⟩ := call_take (x := mVar 1) (ρ := ρ0) (μ := μ) (i := i) (many := (most : Int)) rfl rfl h (by omega) (by omega)
  obtain ⟨r2, μ2, t2, a2, b2, c2, d2⟩ := call_take (x := mVar 1) (ρ := ρ0) (μ := μ1) (i := i) (many := (most : Int)) rfl rfl c1 (by omega) (by omega)
  obtain ⟨many, hmany⟩ : ∃ k : Nat, 1 + r1 = (k : Int) := ⟨(1 + r1).toNat, by omega⟩
  obtain ⟨other, hother⟩ : ∃ k : Nat, 1 + r2 = (k : Int) := ⟨(1 + r2).toNat, by omega⟩
  have s1 : sPar (aCons (mOpT addD (mC (.int 1)) (mCall F__law_take (aCons (mVar 0) (aCons (mVar 1) aNil)))) (aCons (mOpT addD (mC (.int 1)) (mCall F__law_take (aCons (mVar 0) (aCons (mVar 1) aNil)))) aNil)) [(.nm 2), (.nm 3)] ρ0 μ = some (.nx, [some (.cell i), some (.dat (.int (most : Nat))), some (.dat (.int (many : Nat))), some (.dat (.int (other : Nat))), none, none, none, none, none], μ2) := by
    refine par_of (xs := [.dat (.int (1 + r1)), .dat (.int (1 + r2))]) (acons (opT_of' rfl t1 rfl rfl rfl) (acons (opT_of' rfl t2 rfl rfl rfl) rfl)) ?_
    rw [hmany, hother]
    rfl
  have hn : μ2.length = μ.length := (d1.trans d2).len
  have s2 : sPar (aCons (mLstC aNil) (aCons (mLstC aNil) aNil)) [(.nm 4), (.nm 5)] [some (.cell i), some (.dat (.int (most : Nat))), some (.dat (.int (many : Nat))), some (.dat (.int (other : Nat))), none, none, none, none, none] μ2 = some (.nx, RT i μ.length most many other none none none, (μ2 ++ [.flat (.lst [])]) ++ [.flat (.lst [])]) := by
    refine par_of (xs := [.cell μ2.length, .cell (μ2 ++ [Cell.flat (.lst [])]).length]) (acons (lstC_of' rfl rfl (by simp [lim])) (acons (lstC_of' rfl rfl (by simp [lim])) rfl)) ?_
    rw [List.length_append, hn]
    rfl
  have S0 : ST i μ.length μ [([] : List T3).map st, ([] : List T3).map st] ((μ2 ++ [.flat (.lst [])]) ++ [.flat (.lst [])]) := (((ST.new h).take c2 (d1.trans d2)).push []).push []
  obtain ⟨ρ3, μ3, k1, bs, x6, x7, x8, rfl, k3, k4⟩ := for_pre (t := .nm 6) (b := bTF 4 3) (fun (i : Nat) => D.int (i : Int))
    (fun pre ρ μ' => ∃ (bs : List T3) (x6 x7 x8 : Option PV), ρ = RT i μ.length most many other x6 x7 x8 ∧ ST i μ.length μ [bs.map st, ([] : List T3).map st] μ' ∧ Thick bs pre.length)
    (range1_map (n := many) (ρ := RT i μ.length most many other none none none) (μ := (μ2 ++ [.flat (.lst [])]) ++ [.flat (.lst [])]) (am := aCons (mVar 2) aNil) rfl (by omega)) (fun _ _ _ _ => trivial) ⟨[], none, none, none, rfl, S0, rfl, (fun t ht => nomatch ht), .nil⟩ (fun pre a post e ρ μ' hh => by
      obtain ⟨bs, x6, x7, x8, rfl, h3, h4⟩ := hh
      obtain ⟨ea, hp⟩ := range_pre e
      obtain ⟨y7, y8, μ2, t, j1, j2, j3, j4⟩ := tf_step (j := 0) (xs := bs) h3 rfl (by rw [h4.len]; omega) most many other other a 4 3 (by omega) (by omega) (by omega) (fun _ _ _ _ => rfl) (fun _ _ _ _ => rfl) x7 x8
      exact ⟨_, .nx, _, μ2, rfl, j1, .inl rfl, bs ++ [t], _, y7, y8, rfl, j2, by rw [List.length_append, List.length_singleton]; exact h4.snoc (by rw [← ea]; exact j3) j4⟩)
  rw [List.length_range] at k4
  obtain ⟨ρ4, μ4, l1, ps, y6, y7, y8, rfl, l3, l4⟩ := for_pre (t := .nm 6) (b := bTF 5 2) (fun (i : Nat) => D.int (i : Int))
    (fun pre ρ μ' => ∃ (ps : List T3) (x6 x7 x8 : Option PV), ρ = RT i μ.length most many other x6 x7 x8 ∧ ST i μ.length μ [bs.map st, ps.map st] μ' ∧ Thick ps pre.length)
    (range1_map (n := other) (ρ := RT i μ.length most many other x6 x7 x8) (μ := μ3) (am := aCons (mVar 3) aNil) rfl (by omega)) (fun _ _ _ _ => trivial) ⟨[], x6, x7, x8, rfl, k3, rfl, (fun t ht => nomatch ht), .nil⟩ (fun pre a post e ρ μ' hh => by
      obtain ⟨ps, x6, x7, x8, rfl, h3, h4⟩ := hh
      obtain ⟨ea, hp⟩ := range_pre e
      obtain ⟨y7, y8, μ2, t, j1, j2, j3, j4⟩ := tf_step (j := 1) (xs := ps) h3 rfl (by rw [h4.len]; omega) most many other many a 5 2 (by omega) (by omega) (by omega) (fun _ _ _ _ => rfl) (fun _ _ _ _ => rfl) x7 x8
      exact ⟨_, .nx, _, μ2, rfl, j1, .inl rfl, ps ++ [t], _, y7, y8, rfl, j2, by rw [List.length_append, List.length_singleton]; exact h4.snoc (by rw [← ea]; exact j3) j4⟩)
  rw [List.length_range] at l4
  have hc4 : μ4[μ.length]? = some (.flat (.lst (bs.map st))) := l3.cell (j := 0) rfl
  have hc5 : μ4[μ.length + 1]? = some (.flat (.lst (ps.map st))) := l3.cell (j := 1) rfl
  have hr := fn_cut (n := 9) (j := 2) (ms := M__law_thick_frame) (xs := [.cell i, .dat (.int (most : Nat))]) (μ := μ) rfl (seq_nx s1 (seq_nx s2 (seq_nx k1 (seq_nx l1 (ret_of (tup_of' (acons (cp_of' (xs := [.cell μ.length]) (z := .tup (bs.map st)) rfl (by simp only [tupP, dcell hc4])) (acons (cp_of' (xs := [.cell (μ.length + 1)]) (z := .tup (ps.map st)) rfl (by simp only [tupP, dcell hc5])) rfl)) rfl (by simp [lim])))))))
  exact ⟨bs, ps, _, hr, k4.good (by omega), l4.good (by omega), by rw [k4.len]; omega, l3.back rfl⟩
end LK13

set_option Elab.async false
set_option linter.all false
set_option maxRecDepth 100000
namespace LK13
open PL
theorem map_fun : ∀ (cs : List N2) (ws : List Bool), cs.Nodup → ws.length = cs.length → ∃ W : N2 → Bool, cs.map W = ws
  | [], [], _, _ => ⟨fun _ => true, rfl⟩
  | [], _ :: _, _, h => by cases h
  | _ :: _, [], _, h => by cases h
  | c :: cs, w :: ws, nd, h => by
    rw [List.nodup_cons] at nd
    obtain ⟨W, hW⟩ := map_fun cs ws nd.2 (by simpa using h)
    refine ⟨fun x => if x = c then w else W x, ?_⟩
    rw [List.map_cons, if_pos rfl, ← hW]
    congr 1
    refine List.map_congr_left fun x hx => if_neg ?_
    rintro rfl
    exact nd.1 hx
theorem sub_asc {cs ns : List N2} (h : ns.Sublist cs) (a : cs.Pairwise ltP) : ns.Pairwise ltP ∧ ∀ c ∈ ns, c ∈ cs := ⟨a.sublist h, fun c hc => h.subset hc⟩
def wordsD : D := .lst [.str "bar", .str "post"]
theorem drawn_work_ok {μ : Sto} {i : Nat} (h : WS μ i) {bs ps : List T3} (gb : GoodB bs) (gp : GoodB ps) (hn : 0 < bs.length + ps.length) (rare : Int) (r1 : 0 < rare) (r2 : rare < 1000) :
    ∃ (W : N2 → Bool) (ns : List N2) (μ' : Sto), F__law_drawn_work [.cell i, .dat (fr bs ps), .dat wordsD, .dat (.int rare)] μ = some (.dat (wk bs ps W ns), μ') ∧ GoodW bs ps ns ∧ WS μ' i ∧ But i μ μ' := by
  let R (x4 x5 x6 : Option PV) : Env := [some (.cell i), some (.dat (fr bs ps)), some (.dat wordsD), some (.dat (.int rare)), x4, x5, x6, none, none]
  have hl := cN_len gb.len gp.len
  have s1 : sAsg (mCall F__law_crossings (aCons (mVar 1) aNil)) (.nm 4) (R none none none) μ = some (.nx, R (some (.dat (.tup ((cN bs ps).map pr)))) none none, μ) := asg_nm' (call_of' rfl (law_crossings_ok μ gb.len gp.len))
  let P : Option PV := some (.dat (.tup ((cN bs ps).map pr)))
  obtain ⟨ws, μ1, k1, ⟨k2, k3⟩, k4⟩ := mLcR (α := N2) (t := .nm 7) (vs := [7]) (te := mCall F__law_pick (aCons (mVar 0) (aCons (mVar 2) aNil))) (ρ := R P none none) (μ := μ) pr wd (fun μ' => WS μ' i ∧ But i μ μ') (mi := iSeq (mVar 4)) (as := cN bs ps) (oc := none) rfl (fun _ _ => trivial) ⟨h, But.refl _ _⟩ (fun c _ μ1 hh => by
    obtain ⟨d, μ2, t1, t2, t3, t4⟩ := call_pick (L := mVar 2) (ds := [.str "bar", .str "post"]) (ρ := [some (.cell i), some (.dat (fr bs ps)), some (.dat wordsD), some (.dat (.int rare)), P, none, none, some (.dat (pr c)), none]) (μ := μ1) rfl rfl hh.1 (by decide) (by decide)
    simp only [List.mem_cons, List.not_mem_nil, or_false] at t2
    rcases t2 with rfl | rfl
    · exact ⟨_, true, μ2, rfl, t1, t3, hh.2.trans t4⟩
    · exact ⟨_, false, μ2, rfl, t1, t3, hh.2.trans t4⟩) (by unfold lim; omega)
  obtain ⟨W, hW⟩ := map_fun (cN bs ps) ws (cN_nd bs ps) k4
  have hws : ws.map wd = (cN bs ps).map fun c => wd (W c) := by rw [← hW, List.map_map]; rfl
  rw [hws] at k1
  let O : Option PV := some (.dat (.tup ((cN bs ps).map fun c => wd (W c))))
  have s2 := asg_nm' (i := 5) (tup_lst k1)
  have hz : iZip (aCons (mVar 4) (aCons (mVar 5) aNil)) (R P O none) μ1 = some ((cN bs ps).map (fun c => .tup [pr c, wd (W c)]), none, μ1) := by
    show some (zipF ((cN bs ps).map pr) ((cN bs ps).map fun c => wd (W c)), none, μ1) = _
    rw [zip_words]
  obtain ⟨ns, μ2, l1, ⟨l2, l3⟩, l4⟩ := mLcI (t := .tp [(.nm 7), (.nm 8)]) (vs := [7, 8]) (tt := tmAnd (mTest (mOp neD (mVar 8) (mC (.str "free")))) (mTest (mOp eqD (mCall F__law_take (aCons (mVar 0) (aCons (mVar 3) aNil))) (mC (.int 0))))) (te := mVar 7) (fun c => .tup [pr c, wd (W c)]) pr (fun μ' => WS μ' i ∧ But i μ μ') hz (fun _ _ => trivial) ⟨k2, k3⟩ (fun c _ μ1 hh => by
    let ρ1 : Env := [some (.cell i), some (.dat (fr bs ps)), some (.dat wordsD), some (.dat (.int rare)), P, O, none, some (.dat (pr c)), some (.dat (wd (W c)))]
    obtain ⟨r, μ2, t1, a1, b1, c1, d1⟩ := call_take (x := mVar 3) (ρ := ρ1) (μ := μ1) (i := i) (many := rare) rfl rfl hh.1 r1 (by omega)
    have e1 : mTest (mOp neD (mVar 8) (mC (.str "free"))) ρ1 μ1 = some (true, μ1) := by
      refine tst (op_of' rfl rfl rfl rfl ?_)
      cases W c <;> (unfold neD; rw [if_pos (by decide +kernel)]; rfl)
    have e2 : mTest (mOp eqD (mCall F__law_take (aCons (mVar 0) (aCons (mVar 3) aNil))) (mC (.int 0))) ρ1 μ1 = some (decide (r = 0), μ2) := tst (op_of' t1 rfl rfl rfl (eqI _ _))
    refine ⟨ρ1, decide (r = 0), μ2, rfl, ?_, ⟨c1, hh.2.trans d1⟩, fun _ => rfl⟩
    simp only [tmAnd, e1, e2, Option.bind_some, if_true]) (by unfold lim; omega)
  have hs := sub_asc l4 (cN_asc bs ps)
  refine ⟨W, ns, _, fn_cut (μ' := μ2) rfl (seq_nx s1 (seq_nx s2 (seq_nx (asg_nm' (tup_lst l1)) (ret_of (tup_of' (acons rfl (acons rfl (acons rfl rfl))) rfl (by simp [lim])))))), ⟨gb.okSs, gp.okSs, hn, hs.1, hs.2⟩, ?_⟩
  have e : μ2.take μ.length = μ2 := List.take_of_length_le (by rw [l3.len]; exact Nat.le_refl _)
  rw [e]
  exact ⟨l2, l3⟩
/-! some of a row -/
noncomputable def bSM : MS := (sIf (tmOr (mTest (mOp eqD (mVar 2) (mC (.int 4)))) (tmAnd (mTest (mOp gtD (mVar 2) (mC (.int 0)))) (mTest (mOp ltD (mCall F__law_take (aCons (mVar 0) (aCons (mC (.int 4)) aNil))) (mVar 2))))) (sEx (mMut appD (mVar 3) (aCons (mVar 4) aNil))) sNx)
theorem some_rows_ok {μ : Sto} {i : Nat} (h : WS μ i) (l : List Nat) (hl : l.length ≤ 100) :
    ∃ (r : List Nat) (μ' : Sto), F__law_some [.cell i, .dat (.lst (inL l))] μ = some (.dat (.lst (inL r)), μ') ∧ r.Sublist l ∧ WS μ' i ∧ But i μ μ' := by
  obtain ⟨d, μ1, t1, t2, t3, t4⟩ := call_pick (L := mLst (aCons (mC (.int 0)) (aCons (mC (.int 4)) (aCons (mC (.int 1)) (aCons (mC (.int 2)) (aCons (mC (.int 2)) (aCons (mC (.int 3)) aNil))))))) (ds := [.int 0, .int 4, .int 1, .int 2, .int 2, .int 3]) (ρ := startE 5 [.cell i, .dat (.lst (inL l))]) (μ := μ) rfl rfl h (by decide) (by decide)
  obtain ⟨s, hs⟩ : ∃ s : Int, d = .int s := by
    simp only [List.mem_cons, List.not_mem_nil, or_false] at t2
    rcases t2 with rfl | rfl | rfl | rfl | rfl | rfl <;> exact ⟨_, rfl⟩
  subst hs
  let R (x4 : Option PV) : Env := [some (.cell i), some (.dat (.lst (inL l))), some (.dat (.int s)), some (.cell μ.length), x4]
  have hn : μ1.length = μ.length := t4.len
  have s1 : sPar (aCons (mCall F__law_pick (aCons (mVar 0) (aCons (mLst (aCons (mC (.int 0)) (aCons (mC (.int 4)) (aCons (mC (.int 1)) (aCons (mC (.int 2)) (aCons (mC (.int 2)) (aCons (mC (.int 3)) aNil))))))) aNil))) (aCons (mLstC aNil) aNil)) [(.nm 2), (.nm 3)] (startE 5 [.cell i, .dat (.lst (inL l))]) μ = some (.nx, R none, μ1 ++ [.flat (.lst [])]) := by
    refine par_of (xs := [.dat (.int s), .cell μ1.length]) (acons t1 (acons (lstC_of' rfl rfl (by simp [lim])) rfl)) ?_
    rw [hn]
    rfl
  have S0 : ST i μ.length μ [inL []] (μ1 ++ [.flat (.lst [])]) := ((ST.new h).take t3 t4).push []
  have hit : iSeq (mVar 1) (R none) (μ1 ++ [.flat (.lst [])]) = some (l.map (fun (k : Nat) => D.int (k : Int)), none, μ1 ++ [.flat (.lst [])]) := rfl
  obtain ⟨ρ2, μ2, k1, r, x4, rfl, k3, k4⟩ := for_pre (t := .nm 4) (b := bSM) (fun (k : Nat) => D.int (k : Int)) (fun pre ρ μ' => ∃ (r : List Nat) (x4 : Option PV), ρ = R x4 ∧ ST i μ.length μ [inL r] μ' ∧ r.Sublist pre) hit (fun _ _ _ _ => trivial) ⟨[], none, rfl, S0, .slnil⟩ (fun pre a post e ρ μ' hh => by
    obtain ⟨r, x4, rfl, h3, h4⟩ := hh
    have hrl : r.length ≤ 100 := by
      have := h4.length_le
      have := congrArg List.length e
      simp at this
      omega
    let A : Option PV := some (.dat (.int (a : Nat)))
    have happ : ∀ μ2, ST i μ.length μ [inL r] μ2 → ∃ μ3, sEx (mMut appD (mVar 3) (aCons (mVar 4) aNil)) (R A) μ2 = some (.nx, R A, μ3) ∧ ST i μ.length μ [inL (r ++ [a])] μ3 := fun μ2 h2 => by
      have hc := h2.cell (j := 0) rfl
      refine ⟨_, expr_of (app_of' (v := .int (a : Nat)) rfl hc rfl hc (by unfold inL; rw [List.length_map]; unfold lim; omega)), ?_⟩
      have := h2.set (j := 0) rfl (inL r ++ [.int (a : Nat)])
      rw [show inL (r ++ [a]) = inL r ++ [.int (a : Nat)] by simp [inL]]
      exact this
    have hyes : (r ++ [a]).Sublist (pre ++ [a]) := h4.append (List.Sublist.refl _)
    have hno : r.Sublist (pre ++ [a]) := h4.trans (List.sublist_append_left _ _)
    by_cases q4 : s = 4
    · have ht : tmOr (mTest (mOp eqD (mVar 2) (mC (.int 4)))) (tmAnd (mTest (mOp gtD (mVar 2) (mC (.int 0)))) (mTest (mOp ltD (mCall F__law_take (aCons (mVar 0) (aCons (mC (.int 4)) aNil))) (mVar 2)))) (R A) μ' = some (true, μ') := by
        have e1 : mTest (mOp eqD (mVar 2) (mC (.int 4))) (R A) μ' = some (true, μ') := tst ((op_of' rfl rfl rfl rfl (eqI _ _)).trans (by rw [decide_eq_true q4]))
        simp only [tmOr, e1, Option.bind_some, if_true]
      obtain ⟨μ3, j1, j2⟩ := happ μ' h3
      exact ⟨R A, .nx, R A, μ3, rfl, if_t ht j1, .inl rfl, r ++ [a], A, rfl, j2, hyes⟩
    · have e1 : mTest (mOp eqD (mVar 2) (mC (.int 4))) (R A) μ' = some (false, μ') := tst ((op_of' rfl rfl rfl rfl (eqI _ _)).trans (by rw [decide_eq_false q4]))
      have e2 : mTest (mOp gtD (mVar 2) (mC (.int 0))) (R A) μ' = some (decide (0 < s), μ') := tst (op_of' rfl rfl rfl rfl rfl)
      by_cases q0 : 0 < s
      · obtain ⟨x, μ3, u1, a1, b1, c1, d1⟩ := call_take (x := mC (.int 4)) (ρ := R A) (μ := μ') (i := i) (many := 4) rfl rfl h3.well (by omega) (by omega)
        have e3 : mTest (mOp ltD (mCall F__law_take (aCons (mVar 0) (aCons (mC (.int 4)) aNil))) (mVar 2)) (R A) μ' = some (decide (x < s), μ3) := tst (op_of' u1 rfl rfl rfl (ltI _ _))
        have ht : tmOr (mTest (mOp eqD (mVar 2) (mC (.int 4)))) (tmAnd (mTest (mOp gtD (mVar 2) (mC (.int 0)))) (mTest (mOp ltD (mCall F__law_take (aCons (mVar 0) (aCons (mC (.int 4)) aNil))) (mVar 2)))) (R A) μ' = some (decide (x < s), μ3) := by
          rw [decide_eq_true q0] at e2
          simp only [tmOr, tmAnd, e1, e2, e3, Option.bind_some, if_true, Bool.false_eq_true, if_false]
        have h5 := h3.take c1 d1
        by_cases qx : x < s
        · rw [decide_eq_true qx] at ht
          obtain ⟨μ4, j1, j2⟩ := happ μ3 h5
          exact ⟨R A, .nx, R A, μ4, rfl, if_t ht j1, .inl rfl, r ++ [a], A, rfl, j2, hyes⟩
        · rw [decide_eq_false qx] at ht
          exact ⟨R A, .nx, R A, μ3, rfl, if_f ht rfl, .inl rfl, r, A, rfl, h5, hno⟩
      · have ht : tmOr (mTest (mOp eqD (mVar 2) (mC (.int 4)))) (tmAnd (mTest (mOp gtD (mVar 2) (mC (.int 0)))) (mTest (mOp ltD (mCall F__law_take (aCons (mVar 0) (aCons (mC (.int 4)) aNil))) (mVar 2)))) (R A) μ' = some (false, μ') := by
          rw [decide_eq_false q0] at e2
          simp only [tmOr, tmAnd, e1, e2, Option.bind_some, Bool.false_eq_true, if_false]
        exact ⟨R A, .nx, R A, μ', rfl, if_f ht rfl, .inl rfl, r, A, rfl, h3, hno⟩)
  have hc := k3.cell (j := 0) rfl
  have hf : mFrz (mVar 3) (R x4) μ2 = some (.dat (.lst (inL r)), μ2.set μ.length .gone) := by
    have h3 : mVar 3 (R x4) μ2 = some (.cell μ.length, μ2) := rfl
    have hc' : μ2[μ.length]? = some (.flat (.lst (inL r))) := hc
    simp only [mFrz, h3, Option.bind_some, hc']
  have hr := fn_cut (n := 5) (j := 2) (ms := M__law_some) (xs := [.cell i, .dat (.lst (inL l))]) (μ := μ) rfl (seq_nx s1 (seq_nx k1 (ret_of hf)))
  rw [show (μ2.set μ.length Cell.gone).take μ.length = μ2.take μ.length from by rw [List.take_set_of_le (Nat.le_refl _)]] at hr
  exact ⟨r, _, hr, k4, k3.back rfl⟩
theorem few_ok {μ : Sto} {i : Nat} (h : WS μ i) (many : Nat) (hm : many ≤ 8) :
    ∃ (r : List Nat) (μ' : Sto), F__law_few [.cell i, .dat (.int (many : Nat)), .dat (.int 3)] μ = some (.dat (rw' r), μ') ∧ r.length ≤ 3 ∧ r.Pairwise (· < ·) ∧ (∀ x ∈ r, x < many) ∧ WS μ' i ∧ But i μ μ' := by
  obtain ⟨r, μ1, k1, k2, k3, k4⟩ := some_rows_ok h (List.range many) (by rw [List.length_range]; omega)
  have hrl : r.length ≤ 8 := by
    have := k2.length_le
    rw [List.length_range] at this
    omega
  have hra : r.Pairwise (· < ·) := List.pairwise_lt_range.sublist k2
  have hrg : mRgL (mVar 1) (startE 4 [.cell i, .dat (.int (many : Nat)), .dat (.int 3)]) μ = some (.dat (.lst (inL (List.range many))), μ) := by
    show (if 0 ≤ (many : Int) ∧ (many : Int) ≤ 1000000 then some (PV.dat (.lst (rgD (many : Int))), μ) else none) = _
    rw [if_pos ⟨by omega, by omega⟩]
    unfold rgD inL
    rw [Int.toNat_natCast]
  have hso : sortD (.lst (inL r)) = some (.lst (inL r)) := by
    rw [ints_eq]
    refine sort_asc _ ?_ (by rw [List.length_map]; unfold lim; omega)
    rw [List.pairwise_map]
    exact hra.imp fun h => by omega
  have s1 : sAsg (mCB (f1 sortD) (aCons (mCall F__law_some (aCons (mVar 0) (aCons (mRgL (mVar 1)) aNil))) aNil)) (.nm 3) (startE 4 [.cell i, .dat (.int (many : Nat)), .dat (.int 3)]) μ = some (.nx, [some (.cell i), some (.dat (.int (many : Nat))), some (.dat (.int 3)), some (.dat (.lst (inL r)))], μ1) :=
    asg_nm' (cb_of' (acons (call_of' (acons rfl (acons hrg rfl)) k1) rfl) rfl hso)
  have hsl : mSl (mVar 3) oNone (oSome (mVar 2)) [some (.cell i), some (.dat (.int (many : Nat))), some (.dat (.int 3)), some (.dat (.lst (inL r)))] μ1 = some (.dat (.lst (inL (r.take 3))), μ1) := by
    have h1 : mSl (mVar 3) oNone (oSome (mVar 2)) [some (.cell i), some (.dat (.int (many : Nat))), some (.dat (.int 3)), some (.dat (.lst (inL r)))] μ1 = some (.dat (.lst (cutD (inL r) none (some ((3 : Nat) : Int)))), μ1) := rfl
    rw [h1, cut_to]
    unfold inL
    rw [List.map_take]
  refine ⟨r.take 3, _, fn_cut (μ' := μ1) rfl (seq_nx s1 (ret_of (tup_lst hsl))), by rw [List.length_take]; omega, hra.sublist (List.take_sublist _ _), fun x hx => List.mem_range.mp (k2.subset (List.mem_of_mem_take hx)), ?_⟩
  have e : μ1.take μ.length = μ1 := List.take_of_length_le (by rw [k4.len]; exact Nat.le_refl _)
  rw [e]
  exact ⟨k3, k4⟩
end LK13

set_option Elab.async false
set_option linter.all false
set_option maxRecDepth 100000
namespace LK13
open PL
def key2 (c : N2) : List Int := [(c.1 : Int), (c.2 : Int)]
noncomputable def sort2 (l : List N2) : List N2 := l.mergeSort fun p q => decide (key2 p ≤ key2 q)
theorem sort_prs {l : List N2} (hl : l.length ≤ 1000) : sortD (.lst (l.map pr)) = some (.lst ((sort2 l).map pr)) :=
  sort_tups key2 l (fun _ _ h => nomatch h) (by unfold lim; omega)
theorem sort2_asc {l : List N2} (nd : l.Nodup) : (sort2 l).Pairwise ltP ∧ ∀ c, c ∈ sort2 l ↔ c ∈ l := by
  have hp : (sort2 l).Perm l := List.mergeSort_perm _ _
  refine ⟨?_, fun c => hp.mem_iff⟩
  have h1 := sorted_tups key2 l
  have h2 : (sort2 l).Nodup := hp.nodup_iff.mpr nd
  refine (List.pairwise_iff_forall_sublist.mpr fun {a b} hs => ?_)
  have k1 := le2 (List.pairwise_iff_forall_sublist.mp h1 hs)
  have k2 : a ≠ b := List.pairwise_iff_forall_sublist.mp h2 hs
  unfold ltP
  obtain ⟨a1, a2⟩ := a
  obtain ⟨b1, b2⟩ := b
  simp only at k1 ⊢
  have : a1 = b1 → a2 ≠ b2 := fun e1 e2 => k2 (by rw [e1, e2])
  omega
theorem prs_okN59 (l : List N2) : okNs (l.map pr) 59 = true := prs_okN l 58
theorem eq_prs (l : List N2) : eqD (.lst (l.map pr)) (.lst []) = some (.bl l.isEmpty) := by
  have e : eqv (.lst (l.map pr)) (.lst []) = l.isEmpty := by cases l <;> rfl
  unfold eqD
  rw [if_pos ⟨by show (decide (0 < 60) && okNs _ 59) = true; rw [prs_okN59]; rfl, rfl⟩, e]
theorem ne_pr (a b : N2) : neD (pr a) (pr b) = some (.bl (!decide (a = b))) := by
  unfold neD
  rw [if_pos ⟨pr_okN a 59, pr_okN b 59⟩, pr_eqv]
theorem eq_barW (b : Bool) : eqD (wd b) (.str "bar") = some (.bl b) := by
  unfold eqD
  rw [if_pos ⟨wd_ok b, by decide +kernel⟩]
  have e : eqv (wd b) (.str "bar") = b := by cases b <;> decide +kernel
  rw [e]
theorem split_at {α : Type} {l : List α} {k : Nat} (h : k < l.length) : l = l.take k ++ l[k] :: l.drop (k + 1) := by
  conv => lhs; rw [← List.take_append_drop k l, List.drop_eq_getElem_cons h]
theorem otherwise_ok {μ : Sto} {i : Nat} (h : WS μ i) {bs ps : List T3} {W : N2 → Bool} {ns : List N2} (g : GoodW bs ps ns) :
    ∃ (W' : N2 → Bool) (ns' : List N2) (μ' : Sto), F__law_otherwise [.cell i, .dat (wk bs ps W ns)] μ = some (.dat (wk bs ps W' ns'), μ') ∧ GoodW bs ps ns' ∧ WS μ' i ∧ But i μ μ' := by
  have hl := cN_len g.lb g.lp
  have hnl := g.ln
  let O : D := .tup ((cN bs ps).map fun c => wd (W c))
  let R (x5 x6 x7 : Option PV) : Env := [some (.cell i), some (.dat (wk bs ps W ns)), some (.dat (fr bs ps)), some (.dat O), some (.dat (.tup (ns.map pr))), x5, x6, x7, none]
  have s1 : sAsg (mVar 1) (.tp [(.nm 2), (.nm 3), (.nm 4)]) (startE 9 [.cell i, .dat (wk bs ps W ns)]) μ = some (.nx, R none none none, μ) := asg_tp rfl rfl
  let L : Option PV := some (.dat (.lst ((cN bs ps).map pr)))
  have s2 : sAsg (mCB (f1 listD) (aCons (mCall F__law_crossings (aCons (mVar 2) aNil)) aNil)) (.nm 5) (R none none none) μ = some (.nx, R L none none, μ) :=
    asg_nm' (cb_of' (acons (call_of' rfl (law_crossings_ok μ g.lb g.lp)) rfl) rfl rfl)
  have ht : mTest (mOp eqD (mVar 5) (mLst aNil)) (R L none none) μ = some ((cN bs ps).isEmpty, μ) := tst (op_of' rfl rfl rfl rfl (eq_prs _))
  have fin : ∀ μ7, But i μ μ7 → WS μ7 i → WS (μ7.take μ.length) i ∧ But i μ (μ7.take μ.length) := fun μ7 b w => by
    have e : μ7.take μ.length = μ7 := List.take_of_length_le (by rw [b.len]; exact Nat.le_refl _)
    rw [e]
    exact ⟨w, b⟩
  cases hq : (cN bs ps).isEmpty with
  | true =>
    rw [hq] at ht
    exact ⟨W, ns, _, fn_cut (μ' := μ) rfl (seq_nx s1 (seq_nx s2 (seq_rt (if_t ht (ret_of rfl))))), g, fin μ (But.refl _ _) h⟩
  | false =>
    rw [hq] at ht
    have hpos : 0 < (cN bs ps).length := by
      cases hc : cN bs ps with
      | nil => rw [hc] at hq; cases hq
      | cons c cs => simp
    obtain ⟨r, μ1, t1, a1, b1, c1, d1⟩ := call_take (x := mCB (f1 lenD) (aCons (mVar 5) aNil)) (ρ := R L none none) (μ := μ) (i := i) (many := ((cN bs ps).length : Nat)) rfl (by
      have := cb_of' (f := f1 lenD) (am := aCons (mVar 5) aNil) (ρ := R L none none) (μ := μ) (μ1 := μ) (xs := [.dat (.lst ((cN bs ps).map pr))]) rfl rfl rfl
      rw [List.length_map] at this
      exact this) h (by omega) (by omega)
    obtain ⟨k, rfl⟩ : ∃ k : Nat, r = k := ⟨r.toNat, by omega⟩
    have hk : k < (cN bs ps).length := by omega
    let c0 : N2 := (cN bs ps)[k]
    let K : Option PV := some (.dat (.int (k : Nat)))
    have s3 : sAsg (mCall F__law_take (aCons (mVar 0) (aCons (mCB (f1 lenD) (aCons (mVar 5) aNil)) aNil))) (.nm 6) (R L none none) μ = some (.nx, R L K none, μ1) := asg_nm' t1
    obtain ⟨r3, μ3, t3, a3, b3, c3, d3⟩ := call_take (x := mC (.int 3)) (ρ := R L K none) (μ := μ1) (i := i) (many := 3) rfl rfl c1 (by omega) (by omega)
    have hB := d1.trans d3
    have e3 : mTest (mOp gtD (mCall F__law_take (aCons (mVar 0) (aCons (mC (.int 3)) aNil))) (mC (.int 0))) (R L K none) μ1 = some (decide (0 < r3), μ3) := tst (op_of' t3 rfl rfl rfl rfl)
    have hsp := split_at hk
    have hnd := cN_nd bs ps
    rw [hsp] at hnd
    have hnd2 := List.nodup_append.mp hnd
    by_cases q : 0 < r3
    · rw [decide_eq_true q] at e3
      let W' : N2 → Bool := fun c => if c = c0 then !W c else W c
      have hix : ixD O (.int (k : Int)) = some (wd (W c0)) := by
        show L2.atI _ (k : Int) = _
        rw [atI_at, List.getElem?_map, List.getElem?_eq_getElem hk]
        rfl
      have hif : mIf (mTest (mOp eqD (mOpHT ixD (mVar 3) (mVar 6)) (mC (.str "bar")))) (mC (.str "post")) (mC (.str "bar")) (R L K none) μ3 = some (.dat (wd (!W c0)), μ3) := by
        refine ifx (tst (op_of' (opHT_of' rfl rfl rfl rfl hix) rfl rfl rfl (eq_barW _))) (fun hh => ?_) (fun hh => ?_)
        · rw [hh]; rfl
        · rw [hh]; rfl
      have ha : mSl (mVar 3) oNone (oSome (mVar 6)) (R L K none) μ3 = some (.dat (.tup (((cN bs ps).map fun c => wd (W c)).take k)), μ3) := by
        have h1 : mSl (mVar 3) oNone (oSome (mVar 6)) (R L K none) μ3 = some (.dat (.tup (cutD ((cN bs ps).map fun c => wd (W c)) none (some ((k : Nat) : Int)))), μ3) := rfl
        rw [h1, cut_to]
      have hb : mSl (mVar 3) (oSome (mOpT addD (mVar 6) (mC (.int 1)))) oNone (R L K none) μ3 = some (.dat (.tup (((cN bs ps).map fun c => wd (W c)).drop (k + 1))), μ3) := by
        have h1 : mSl (mVar 3) (oSome (mOpT addD (mVar 6) (mC (.int 1)))) oNone (R L K none) μ3 = some (.dat (.tup (cutD ((cN bs ps).map fun c => wd (W c)) (some ((k + 1 : Nat) : Int)) none)), μ3) := rfl
        rw [h1, cut_from]
      have hfin : (((cN bs ps).map fun c => wd (W c)).take k ++ [wd (!W c0)]) ++ ((cN bs ps).map fun c => wd (W c)).drop (k + 1) = (cN bs ps).map fun c => wd (W' c) := by
        conv => rhs; rw [hsp, List.map_append, List.map_cons]
        rw [← List.map_take, ← List.map_drop, List.append_assoc]
        congr 1
        · refine List.map_congr_left fun c hc => ?_
          have : c ≠ c0 := hnd2.2.2 c hc c0 List.mem_cons_self
          show wd (W c) = wd (W' c)
          rw [show W' c = W c from if_neg this]
        · rw [show W' (cN bs ps)[k] = !W c0 from if_pos rfl]
          show wd (!W c0) :: _ = _
          congr 1
          refine List.map_congr_left fun c hc => ?_
          have : c ≠ c0 := fun e => (List.nodup_cons.mp hnd2.2.1).1 (by rw [e] at hc; exact hc)
          show wd (W c) = wd (W' c)
          rw [show W' c = W c from if_neg this]
      have hadd : mOpT addD (mOpT addD (mSl (mVar 3) oNone (oSome (mVar 6))) (mTup (aCons (mIf (mTest (mOp eqD (mOpHT ixD (mVar 3) (mVar 6)) (mC (.str "bar")))) (mC (.str "post")) (mC (.str "bar"))) aNil))) (mSl (mVar 3) (oSome (mOpT addD (mVar 6) (mC (.int 1)))) oNone) (R L K none) μ3 = some (.dat (.tup ((cN bs ps).map fun c => wd (W' c))), μ3) := by
        refine opT_of' (d1 := .tup (((cN bs ps).map fun c => wd (W c)).take k ++ [wd (!W c0)])) (opT_of' ha (tup_of' (acons hif rfl) rfl (by simp [lim])) rfl rfl ?_) hb rfl rfl ?_
        · show (if (((cN bs ps).map fun c => wd (W c)).take k).length + 1 ≤ lim then _ else none) = _
          rw [if_pos (by rw [List.length_take, List.length_map]; unfold lim; omega)]
        · show (if (((cN bs ps).map fun c => wd (W c)).take k ++ [wd (!W c0)]).length + (((cN bs ps).map fun c => wd (W c)).drop (k + 1)).length ≤ lim then _ else none) = _
          rw [if_pos (by rw [List.length_append, List.length_take, List.length_drop, List.length_map, List.length_singleton]; unfold lim; omega), hfin]
      exact ⟨W', ns, _, fn_cut (μ' := μ3) rfl (seq_nx s1 (seq_nx s2 (seq_nx (if_f ht rfl) (seq_nx s3 (seq_rt (if_t e3 (ret_of (tup_of' (acons rfl (acons hadd (acons rfl rfl))) rfl (by simp [lim]))))))))), g, fin μ3 hB c3⟩
    · rw [decide_eq_false q] at e3
      have hix : ixD (.lst ((cN bs ps).map pr)) (.int (k : Int)) = some (pr c0) := by
        show L2.atI _ (k : Int) = _
        rw [atI_at, List.getElem?_map, List.getElem?_eq_getElem hk]
        rfl
      have hat : ∀ x7 x8, mOpHT ixD (mVar 5) (mVar 6) [some (.cell i), some (.dat (wk bs ps W ns)), some (.dat (fr bs ps)), some (.dat O), some (.dat (.tup (ns.map pr))), L, K, x7, x8] μ3 = some (.dat (pr c0), μ3) := fun x7 x8 => opHT_of' rfl rfl rfl rfl hix
      have hc := mLcM (t := .nm 8) (vs := [8]) (tt := mTest (mOp neD (mVar 8) (mOpHT ixD (mVar 5) (mVar 6)))) (te := mVar 8) (mi := iSeq (mVar 4)) (ρ := R L K none) (μ := μ3) (oc := none) pr pr (fun c => !decide (c = c0)) (as := ns) rfl trivial (fun c _ => ⟨_, rfl, tst (op_of' rfl (hat _ _) rfl rfl (ne_pr _ _)), fun _ => rfl⟩) (by unfold lim; omega)
      let rest := ns.filter fun c => !decide (c = c0)
      let R7 := R L K (some (.dat (.lst (rest.map pr))))
      have s4 : sAsg (mLc (iSeq (mVar 4)) (.nm 8) [8] (mTest (mOp neD (mVar 8) (mOpHT ixD (mVar 5) (mVar 6)))) (mVar 8)) (.nm 7) (R L K none) μ3 = some (.nx, R7, μ3) := asg_nm' hc
      have hin : mTest (mOpTH inD (mOpHT ixD (mVar 5) (mVar 6)) (mVar 4)) R7 μ3 = some (decide (c0 ∈ ns), μ3) := tst (opTH_of' (hat _ _) rfl rfl rfl (in_pairs c0 ns))
      have hmem : c0 ∈ cN bs ps := List.getElem_mem hk
      by_cases qi : c0 ∈ ns
      · rw [decide_eq_true qi] at hin
        exact ⟨W, rest, _, fn_cut (μ' := μ3) rfl (seq_nx s1 (seq_nx s2 (seq_nx (if_f ht rfl) (seq_nx s3 (seq_nx (if_f e3 rfl) (seq_nx s4 (ret_of (tup_of' (acons rfl (acons rfl (acons (ifx hin (fun _ => cp_of' (xs := [.dat (.lst (rest.map pr))]) (z := .tup (rest.map pr)) rfl rfl) (fun h => nomatch h)) rfl))) rfl (by simp [lim]))))))))),
          ⟨g.b, g.p, g.n, g.asc.filter _, fun c hc => g.sub c (List.mem_filter.mp hc).1⟩, fin μ3 hB c3⟩
      · rw [decide_eq_false qi] at hin
        have hnd3 : (ns ++ [c0]).Nodup := List.nodup_append.mpr ⟨asc_nd g.asc, by simp, fun a ha b hb => by
          have : b = c0 := by simpa using hb
          rw [this]
          rintro rfl
          exact qi ha⟩
        have hs2 := sort2_asc hnd3
        have hso : mCB (f1 sortD) (aCons (mOpT addD (mCB (f1 listD) (aCons (mVar 4) aNil)) (mLst (aCons (mOpHT ixD (mVar 5) (mVar 6)) aNil))) aNil) R7 μ3 = some (.dat (.lst ((sort2 (ns ++ [c0])).map pr)), μ3) := by
          refine cb_of' (ds := [.lst ((ns ++ [c0]).map pr)]) (acons (x := .dat (.lst ((ns ++ [c0]).map pr))) (opT_of' (d1 := .lst (ns.map pr)) (d2 := .lst [pr c0]) (cb_of' (z := .lst (ns.map pr)) rfl rfl rfl) (lst_of' (acons (hat _ _) rfl) rfl (by simp [lim])) rfl rfl ?_) rfl) rfl (sort_prs (by rw [List.length_append, List.length_singleton]; omega))
          show (if (ns.map pr).length + 1 ≤ lim then some (D.lst (ns.map pr ++ [pr c0])) else none) = _
          rw [if_pos (by rw [List.length_map]; unfold lim; omega), List.map_append]
          rfl
        exact ⟨W, sort2 (ns ++ [c0]), _, fn_cut (μ' := μ3) rfl (seq_nx s1 (seq_nx s2 (seq_nx (if_f ht rfl) (seq_nx s3 (seq_nx (if_f e3 rfl) (seq_nx s4 (ret_of (tup_of' (acons rfl (acons rfl (acons (ifx hin (fun h => nomatch h) (fun _ => tup_lst hso)) rfl))) rfl (by simp [lim]))))))))),
          ⟨g.b, g.p, g.n, hs2.1, fun c hc => by
            rcases List.mem_append.mp ((hs2.2 c).mp hc) with z | z
            · exact g.sub c z
            · have : c = c0 := by simpa using z
              rw [this]
              exact hmem⟩, fin μ3 hB c3⟩
end LK13

set_option Elab.async false
set_option linter.all false
set_option maxRecDepth 100000
namespace LK13
open PL
def sel (bs : List T3) (r : List Nat) : List T3 := r.map fun i => bs.getD i (0, 0, 0)
theorem sel_at {bs : List T3} {r : List Nat} {k : Nat} {t : T3} (h : ∀ x ∈ r, x < bs.length) : (sel bs r)[k]? = some t ↔ ∃ i, r[k]? = some i ∧ bs[i]? = some t := by
  unfold sel
  rw [List.getElem?_map]
  constructor
  · intro e
    obtain ⟨i, h1, h2⟩ := Option.map_eq_some_iff.mp e
    refine ⟨i, h1, ?_⟩
    have hi := h i (List.mem_of_getElem? h1)
    rw [List.getElem?_eq_getElem hi]
    rw [← h2]
    simp [List.getD, List.getElem?_eq_getElem hi]
  · rintro ⟨i, h1, h2⟩
    rw [h1]
    simp [List.getD, h2]
theorem sel_good {bs : List T3} {r : List Nat} (g : okSs bs = true) (asc : bs.Pairwise fun s t => flw s t = true) (ok : ∀ t ∈ bs, okS t = true) (h : ∀ x ∈ r, x < bs.length) (hr : r.Pairwise (· < ·)) (hl : r.length ≤ 8) : GoodB (sel bs r) := by
  have hget : ∀ x (hx : x < bs.length), bs.getD x (0, 0, 0) = bs[x] := fun x hx => by simp [List.getD, List.getElem?_eq_getElem hx]
  refine ⟨by unfold sel; rw [List.length_map]; exact hl, fun t ht => ?_, ?_⟩
  · obtain ⟨i, hi, rfl⟩ := List.mem_map.mp ht
    rw [hget i (h i hi)]
    exact ok _ (List.getElem_mem _)
  · unfold sel
    rw [List.pairwise_map]
    refine List.Pairwise.imp_of_mem (fun {a b} ha hb hab => ?_) hr
    rw [hget a (h a ha), hget b (h b hb)]
    exact List.pairwise_iff_getElem.mp asc a b (h a ha) (h b hb) hab
theorem cN_sel {bs ps : List T3} {b p : List Nat} (hb : ∀ x ∈ b, x < bs.length) (hp : ∀ x ∈ p, x < ps.length) {c : N2} : c ∈ cN (sel bs b) (sel ps p) ↔ c.1 < b.length ∧ c.2 < p.length ∧ (b.getD c.1 0, p.getD c.2 0) ∈ cN bs ps := by
  rw [mem_cN, mem_cN]
  constructor
  · rintro ⟨s, t, h1, h2, h3⟩
    obtain ⟨i, i1, i2⟩ := (sel_at hb).mp h1
    obtain ⟨j, j1, j2⟩ := (sel_at hp).mp h2
    refine ⟨(List.getElem?_eq_some_iff.mp i1).1, (List.getElem?_eq_some_iff.mp j1).1, s, t, ?_, ?_, h3⟩
    · simpa [List.getD, i1] using i2
    · simpa [List.getD, j1] using j2
  · rintro ⟨h1, h2, s, t, i2, j2, h3⟩
    refine ⟨s, t, (sel_at hb).mpr ⟨b.getD c.1 0, ?_, i2⟩, (sel_at hp).mpr ⟨p.getD c.2 0, ?_, j2⟩, h3⟩
    · simp [List.getD, List.getElem?_eq_getElem h1]
    · simp [List.getD, List.getElem?_eq_getElem h2]
structure Row (r : List Nat) (n : Nat) : Prop where
  len : r.length ≤ 3
  asc : r.Pairwise (· < ·)
  lt : ∀ x ∈ r, x < n
/-- the small work that rows of a work make -/
def mW (W : N2 → Bool) (b p : List Nat) : N2 → Bool := fun c => W (b.getD c.1 0, p.getD c.2 0)
def mN (bs ps : List T3) (ns : List N2) (b p : List Nat) : List N2 := (cN (sel bs b) (sel ps p)).filter fun c => decide ((b.getD c.1 0, p.getD c.2 0) ∈ ns)
theorem ix_sel {bs : List T3} {i : Nat} (h : i < bs.length) : ixD (.tup (bs.map st)) (.int (i : Int)) = some (st (bs.getD i (0, 0, 0))) := by
  show L2.atI _ (i : Int) = _
  rw [atI_at, List.getElem?_map, List.getElem?_eq_getElem h]
  simp [List.getD, List.getElem?_eq_getElem h]
theorem made_of_ok {bs ps : List T3} {W : N2 → Bool} {ns : List N2} (hb8 : bs.length ≤ 8) (hp8 : ps.length ≤ 8) {b p : List Nat} (rb : Row b bs.length) (rp : Row p ps.length) (μ : Sto) :
    F__law_made_of [.dat (wk bs ps W ns), .dat (rw' b), .dat (rw' p)] μ = some (.dat (wk (sel bs b) (sel ps p) (mW W b p) (mN bs ps ns b p)), μ) := by
  have lb := rb.len
  have lp := rp.len
  let R (x3 x4 x5 x6 : Option PV) : Env := [some (.dat (wk bs ps W ns)), some (.dat (rw' b)), some (.dat (rw' p)), x3, x4, x5, x6, none, none, none]
  have hsb : (sel bs b).length ≤ 8 := by unfold sel; rw [List.length_map]; omega
  have hsp : (sel ps p).length ≤ 8 := by unfold sel; rw [List.length_map]; omega
  have hcl := cN_len hsb hsp
  have f1 : mCP tupP (aCons (mLc (iSeq (mVar 1)) (.nm 9) [9] mYes (mOpHT ixD (mOpHT ixD (mOpHT ixD (mVar 0) (mC (.int 0))) (mC (.int 0))) (mVar 9))) aNil) (R none none none none) μ = some (.dat (.tup ((sel bs b).map st)), μ) := by
    have h := tup_lst (mLcY (t := .nm 9) (vs := [9]) (te := mOpHT ixD (mOpHT ixD (mOpHT ixD (mVar 0) (mC (.int 0))) (mC (.int 0))) (mVar 9)) (mi := iSeq (mVar 1)) (ρ := R none none none none) (μ := μ) (oc := none) (fun (i : Nat) => D.int (i : Int)) (fun i => st (bs.getD i (0, 0, 0))) (as := b) rfl trivial (fun i hi => ⟨_, rfl, opHT_of' (opHT_of' (opHT_of' rfl rfl rfl rfl rfl) rfl rfl rfl rfl) rfl rfl rfl (ix_sel (rb.lt i hi))⟩) (by unfold lim; omega))
    rw [h]
    unfold sel
    rw [List.map_map]
    rfl
  have f2 : mCP tupP (aCons (mLc (iSeq (mVar 2)) (.nm 9) [9] mYes (mOpHT ixD (mOpHT ixD (mOpHT ixD (mVar 0) (mC (.int 0))) (mC (.int 1))) (mVar 9))) aNil) (R none none none none) μ = some (.dat (.tup ((sel ps p).map st)), μ) := by
    have h := tup_lst (mLcY (t := .nm 9) (vs := [9]) (te := mOpHT ixD (mOpHT ixD (mOpHT ixD (mVar 0) (mC (.int 0))) (mC (.int 1))) (mVar 9)) (mi := iSeq (mVar 2)) (ρ := R none none none none) (μ := μ) (oc := none) (fun (i : Nat) => D.int (i : Int)) (fun i => st (ps.getD i (0, 0, 0))) (as := p) rfl trivial (fun i hi => ⟨_, rfl, opHT_of' (opHT_of' (opHT_of' rfl rfl rfl rfl rfl) rfl rfl rfl rfl) rfl rfl rfl (ix_sel (rp.lt i hi))⟩) (by unfold lim; omega))
    rw [h]
    unfold sel
    rw [List.map_map]
    rfl
  let F : Option PV := some (.dat (fr (sel bs b) (sel ps p)))
  let C : Option PV := some (.dat (cellsD bs ps W ns))
  have s1 := par_of (ts := [(.nm 3), (.nm 4)]) (ρ1 := R F C none none) (acons (tup_of' (acons f1 (acons (am := aNil) f2 rfl)) rfl (by simp [lim])) (acons (am := aNil) (call_of' (am := aCons (mVar 0) aNil) rfl (law_cells_ok hb8 hp8)) rfl)) rfl
  let cs := cN (sel bs b) (sel ps p)
  have hcs : cs.length ≤ 64 := hcl
  let val : N2 → D := fun c => cellV W ns (b.getD c.1 0, p.getD c.2 0)
  have hcr : ∀ x5 x6, mCall F__law_crossings (aCons (mVar 3) aNil) (R F C x5 x6) μ = some (.dat (.tup (cs.map pr)), μ) := fun x5 x6 => call_of' rfl (law_crossings_ok μ hsb hsp)
  have hrows := mLcY (t := .nm 7) (vs := [7]) (te := mOpHT ixD (mVar 4) (mTup (aCons (mOpHT ixD (mVar 1) (mOpHT ixD (mVar 7) (mC (.int 0)))) (aCons (mOpHT ixD (mVar 2) (mOpHT ixD (mVar 7) (mC (.int 1)))) aNil)))) (mi := iSeq (mCall F__law_crossings (aCons (mVar 3) aNil))) (ρ := R F C none none) (μ := μ) (oc := none) pr val (as := cs) (seq_it (hcr _ _) rfl rfl) trivial (fun c hc => by
    obtain ⟨h1, h2, h3⟩ := (cN_sel rb.lt rp.lt).mp hc
    refine ⟨_, rfl, opHT_of' (d2 := pr (b.getD c.1 0, p.getD c.2 0)) rfl (tup_of' (acons (opHT_of' rfl (opHT_of' rfl rfl rfl rfl rfl) rfl rfl (ix_rw h1)) (acons (opHT_of' rfl (opHT_of' rfl rfl rfl rfl rfl) rfl rfl (ix_rw h2)) rfl)) rfl (by simp [lim])) rfl rfl ?_⟩
    show (if isKey true (pr (b.getD c.1 0, p.getD c.2 0)) = true then look ((cN bs ps).map pr) ((cN bs ps).map (cellV W ns)) (pr (b.getD c.1 0, p.getD c.2 0)) else none) = _
    rw [if_pos (pr_key _), look_new pr (cellV W ns) pr_eqv, if_pos h3]) (by unfold lim; omega)
  let V : Option PV := some (.dat (.lst (cs.map val)))
  have s2 := asg_nm' (i := 5) hrows
  have hz : iZip (aCons (mCall F__law_crossings (aCons (mVar 3) aNil)) (aCons (mVar 5) aNil)) (R F C V none) μ = some (cs.map (fun c => .tup [pr c, val c]), none, μ) := by
    have ha : aCons (mCall F__law_crossings (aCons (mVar 3) aNil)) (aCons (mVar 5) aNil) (R F C V none) μ = some ([.dat (.tup (cs.map pr)), .dat (.lst (cs.map val))], μ) := acons (hcr _ _) rfl
    unfold iZip
    rw [ha]
    show some (zipF (cs.map pr) (cs.map val), none, μ) = _
    have e : zipF (cs.map pr) (cs.map val) = cs.map fun c => .tup [pr c, val c] := by
      rw [zipF_map]
      generalize cs = l
      induction l with
      | nil => rfl
      | cons c l ih => rw [List.zip_cons_cons, List.map_cons, List.map_cons, ih]
    rw [e]
  have hnl := mLcM (t := .tp [(.nm 7), (.nm 8)]) (vs := [7, 8]) (tt := mTest (mOpHT ixD (mVar 8) (mC (.int 1)))) (te := mVar 7) (fun c => .tup [pr c, val c]) pr (fun c => decide ((b.getD c.1 0, p.getD c.2 0) ∈ ns)) hz trivial (fun c _ => ⟨_, rfl, tst (opHT_of' rfl rfl rfl rfl rfl), fun _ => rfl⟩) (by unfold lim; omega)
  let N : Option PV := some (.dat (.lst ((mN bs ps ns b p).map pr)))
  have s3 := asg_nm' (i := 6) hnl
  have hov := tup_lst (mLcY (t := .nm 8) (vs := [8]) (te := mOpHT ixD (mVar 8) (mC (.int 0))) (mi := iSeq (mVar 5)) (ρ := R F C V N) (μ := μ) (oc := none) val (fun c => wd (mW W b p c)) (as := cs) rfl trivial (fun c _ => ⟨_, rfl, opHT_of' rfl rfl rfl rfl rfl⟩) (by unfold lim; omega))
  exact fn_dat rfl (seq_nx s1 (seq_nx s2 (seq_nx s3 (ret_of (tup_of' (acons rfl (acons hov (acons (cp_of' (xs := [.dat (.lst ((mN bs ps ns b p).map pr))]) (z := .tup ((mN bs ps ns b p).map pr)) rfl rfl) rfl))) rfl (by simp [lim]))))))
theorem made_good {bs ps : List T3} {ns : List N2} (gb : GoodB bs) (gp : GoodB ps) {b p : List Nat} (rb : Row b bs.length) (rp : Row p ps.length) (h : 0 < b.length + p.length) : GoodW (sel bs b) (sel ps p) (mN bs ps ns b p) := by
  have lb := rb.len
  have lp := rp.len
  refine ⟨(sel_good gb.okSs gb.asc gb.ok rb.lt rb.asc (by omega)).okSs, (sel_good gp.okSs gp.asc gp.ok rp.lt rp.asc (by omega)).okSs, by unfold sel; rw [List.length_map, List.length_map]; exact h, (cN_asc _ _).filter _, fun c hc => (List.mem_filter.mp hc).1⟩
theorem made_found {bs ps : List T3} {W : N2 → Bool} {ns : List N2} (g : GoodW bs ps ns) {b p : List Nat} (rb : Row b bs.length) (rp : Row p ps.length) :
    (b, p) ∈ fnd (cv bs ps W ns) (cv (sel bs b) (sel ps p) (mW W b p) (mN bs ps ns b p)) bs.length ps.length (sel bs b).length (sel ps p).length := by
  have e1 : (sel bs b).length = b.length := by unfold sel; rw [List.length_map]
  have e2 : (sel ps p).length = p.length := by unfold sel; rw [List.length_map]
  rw [e1, e2]
  unfold fnd
  refine List.mem_flatMap.mpr ⟨b, mem_ch.mpr ⟨rfl, rb.asc, rb.lt⟩, List.mem_map.mpr ⟨p, List.mem_filter.mpr ⟨mem_ch.mpr ⟨rfl, rp.asc, rp.lt⟩, ?_⟩, rfl⟩⟩
  unfold lkB
  rw [List.all_eq_true]
  intro i hi
  rw [List.all_eq_true]
  intro j hj
  have hi := List.mem_range.mp hi
  have hj := List.mem_range.mp hj
  unfold lkAt
  refine decide_eq_true ?_
  unfold cv
  have hc := cN_sel (bs := bs) (ps := ps) rb.lt rp.lt (c := (i, j))
  by_cases h : (b.getD i 0, p.getD j 0) ∈ cN bs ps
  · have h2 : (i, j) ∈ cN (sel bs b) (sel ps p) := hc.mpr ⟨hi, hj, h⟩
    rw [if_pos h, if_pos h2]
    have e3 : decide ((i, j) ∈ mN bs ps ns b p) = decide ((b.getD i 0, p.getD j 0) ∈ ns) := by
      refine decide_eq_decide.mpr ⟨fun z => ?_, fun z => List.mem_filter.mpr ⟨h2, decide_eq_true z⟩⟩
      exact of_decide_eq_true (List.mem_filter.mp z).2
    rw [e3]
    rfl
  · have h2 : ¬ (i, j) ∈ cN (sel bs b) (sel ps p) := fun z => h (hc.mp z).2.2
    rw [if_neg h, if_neg h2]
/-! all rows -/
theorem ext_nd (n : Nat) (row : List Nat) : (ext n row).Nodup := by
  unfold ext
  refine List.pairwise_map.mpr (List.pairwise_lt_range.imp fun {a b} h e => ?_)
  have := List.append_cancel_left e
  simp at this
  omega
theorem ch_nd (n : Nat) : ∀ k, (ch n k).Nodup
  | 0 => by simp [ch]
  | k + 1 => by
    show ((ch n k).flatMap (ext n)).Nodup
    refine List.pairwise_flatMap.mpr ⟨fun a _ => ext_nd n a, (ch_nd n k).imp fun {a b} h x hx y hy e => ?_⟩
    obtain ⟨i, _, rfl⟩ := List.mem_map.mp hx
    obtain ⟨j, _, rfl⟩ := List.mem_map.mp hy
    exact h (List.append_inj_left' e rfl)
theorem asc_lt {r : List Nat} (h : r.Pairwise (· < ·)) : ∀ i, (hi : i < r.length) → i ≤ r[i] := fun i => by
  induction i with
  | zero => intro _; exact Nat.zero_le _
  | succ i ih =>
    intro hi
    have h1 := ih (by omega)
    have h2 := List.pairwise_iff_getElem.mp h i (i + 1) (by omega) hi (by omega)
    omega
theorem row_all {n : Nat} {r : List Nat} (h : r ∈ ch n n) : r = List.range n := by
  obtain ⟨h1, h2, h3⟩ := mem_ch.mp h
  have up : ∀ d i, (hi : i < r.length) → i + d + 1 = n → r[i] ≤ i := fun d => by
    induction d with
    | zero =>
      intro i hi e
      have := h3 r[i] (List.getElem_mem hi)
      omega
    | succ d ih =>
      intro i hi e
      have h4 := ih (i + 1) (by omega) (by omega)
      have h5 := List.pairwise_iff_getElem.mp h2 i (i + 1) hi (by omega) (by omega)
      omega
  refine List.ext_getElem (by simp [h1]) fun i h4 h5 => ?_
  have h6 := asc_lt h2 i h4
  have h7 := up (n - 1 - i) i h4 (by omega)
  rw [List.getElem_range]
  omega
theorem ch_all (n : Nat) : ch n n = [List.range n] := by
  have hm : List.range n ∈ ch n n := mem_ch.mpr ⟨List.length_range, List.pairwise_lt_range, fun x hx => List.mem_range.mp hx⟩
  have nd := ch_nd n n
  cases hc : ch n n with
  | nil => rw [hc] at hm; cases hm
  | cons a l =>
    have ha : a = List.range n := row_all (by rw [hc]; exact List.mem_cons_self)
    cases l with
    | nil => rw [ha]
    | cons b l =>
      have hb : b = List.range n := row_all (by rw [hc]; simp)
      rw [hc, List.nodup_cons] at nd
      exact absurd (by rw [ha, hb]; exact List.mem_cons_self) nd.1
theorem fnd_self (A : Cs) (nb np : Nat) : fnd A A nb np nb np = [(List.range nb, List.range np)] := by
  unfold fnd
  rw [ch_all, ch_all, List.flatMap_cons, List.flatMap_nil, List.append_nil, List.filter_cons_of_pos, List.filter_nil]
  · rfl
  · unfold lkB
    rw [List.all_eq_true]
    intro i hi
    rw [List.all_eq_true]
    intro j hj
    have hi := List.mem_range.mp hi
    have hj := List.mem_range.mp hj
    rw [List.length_range] at hi hj
    unfold lkAt
    refine decide_eq_true ?_
    rw [show (List.range nb).getD i 0 = i by simp [List.getD, hi], show (List.range np).getD j 0 = j by simp [List.getD, hj]]
end LK13

set_option Elab.async false
set_option linter.all false
set_option maxRecDepth 100000
namespace LK13
open PL
theorem fn_cell {n j : Nat} {ms : MS} {xs : List PV} {μ μ' : Sto} {ρ' : Env} {c : Cell} (hl : xs.length = j) (h : ms (startE n xs) μ = some (.rt (.cell μ.length), ρ', μ ++ [c])) : fnOf n j ms xs μ = some (.cell μ.length, μ ++ [c]) := by
  unfold fnOf
  rw [if_pos hl, h]
  show cutS μ.length (.cell μ.length, μ ++ [c]) = _
  simp [cutS]
theorem cutD_ints (ns : List Int) (lo hi : Option Int) : ∃ ms : List Int, cutD (ns.map D.int) lo hi = ms.map .int := by
  unfold cutD
  exact ⟨_, by rw [← List.map_drop, ← List.map_take]⟩
theorem powI : powD (.int 10) (.int 17) = some (.int 100000000000000000) := by
  show ((if (0 : Int) ≤ 17 ∧ (17 : Int) ≤ 1000000 ∧ (10 : Int).natAbs < 2 ^ 64 then some ((10 : Int) ^ (17 : Int).toNat) else none).map D.int) = _
  rw [if_pos ⟨by decide, by decide, by decide⟩]
  rfl
theorem well_ok (ns : List Int) (t : Nat) (μ : Sto) (ht : t ≤ 100) (hn : ns.length ≤ 63) : ∃ b s, F__law_well [.kon (.lst (ns.map .int)), .dat (.int t)] μ = some (.cell μ.length, μ ++ [.flat (W3 b s 0)]) := by
  let sc : PV := .kon (.lst (ns.map .int))
  have hown : ∃ own, mIf (mTest (mOp ltD (mVar 1) (mCB (f1 lenD) (aCons (mVar 0) aNil)))) (mCB (f1 intD) (aCons (mOpHT ixD (mVar 0) (mVar 1)) aNil)) (mOpT addD (mOpT addD (mOp mulID (mC (.int 9311)) (mVar 1)) (mOp modD (mCB (f1 intD) (aCons (mCB (f1 sum2D) (aCons (mSl (mVar 0) oNone (oSome (mC (.int 2)))) aNil)) aNil)) (mC (.int 1000003)))) (mC (.int 71)))
      [some sc, some (.dat (.int t)), none, none, none] μ = some (.dat (.int own), μ) := by
    have htest : mTest (mOp ltD (mVar 1) (mCB (f1 lenD) (aCons (mVar 0) aNil))) [some sc, some (.dat (.int t)), none, none, none] μ = some (decide ((t : Int) < ((ns.map D.int).length : Nat)), μ) := tst (op_of' rfl (cb_of' rfl rfl rfl) rfl rfl (ltI _ _))
    by_cases hlt : t < ns.length
    · rw [decide_eq_true (by rw [List.length_map]; omega)] at htest
      have hix : ixD (.lst (ns.map .int)) (.int t) = some (.int ns[t]) := by
        show L2.atI _ (t : Int) = _
        rw [atI_at, List.getElem?_map, List.getElem?_eq_getElem hlt]
        rfl
      exact ⟨ns[t], ifx htest (fun _ => cb_of' (acons (opHT_of' rfl rfl rfl rfl hix) rfl) rfl rfl) (fun h => nomatch h)⟩
    · rw [decide_eq_false (by rw [List.length_map]; omega)] at htest
      obtain ⟨ms, hms⟩ := cutD_ints ns none (some 2)
      have hs : mSl (mVar 0) oNone (oSome (mC (.int 2))) [some sc, some (.dat (.int t)), none, none, none] μ = some (.dat (.lst (ms.map .int)), μ) := by
        rw [← hms]
        exact sl_of' rfl rfl rfl rfl
      exact ⟨_, ifx htest (fun h => nomatch h) (fun _ => opT_of' (opT_of' (op_of' rfl rfl rfl rfl (mulI_l (by omega) (by omega))) (op_of' (cb_of' (acons (sum_lst hs) rfl) rfl rfl) rfl rfl rfl (modI (by omega))) rfl rfl rfl) rfl rfl rfl rfl)⟩
  obtain ⟨own, h1⟩ := hown
  have h2 : sAsg (mOpT addD (mC (.int 50021)) (mOp mulID (mC (.int 1013)) (mVar 1))) (.nm 3) [some sc, some (.dat (.int t)), some (.dat (.int own)), none, none] μ = some (.nx, [some sc, some (.dat (.int t)), some (.dat (.int own)), some (.dat (.int (50021 + 1013 * (t : Int)))), none], μ) :=
    asg_nm' (opT_of' rfl (op_of' rfl rfl rfl rfl (mulI_l (by omega) (by omega))) rfl rfl rfl)
  obtain ⟨ms, hms⟩ := cutD_ints ns none (some 5)
  have hit : iSeq (mOpT addD (mSl (mVar 0) oNone (oSome (mC (.int 5)))) (mLst (aCons (mVar 2) aNil))) [some sc, some (.dat (.int t)), some (.dat (.int own)), some (.dat (.int (50021 + 1013 * (t : Int)))), none] μ = some ((ms ++ [own]).map .int, none, μ) := by
    have hs : mSl (mVar 0) oNone (oSome (mC (.int 5))) [some sc, some (.dat (.int t)), some (.dat (.int own)), some (.dat (.int (50021 + 1013 * (t : Int)))), none] μ = some (.dat (.lst (ms.map .int)), μ) := by
      rw [← hms]
      exact sl_of' rfl rfl rfl rfl
    have hlen : (ms.map D.int).length ≤ 63 := by
      rw [← hms]
      unfold cutD
      rw [List.length_take, List.length_drop, List.length_map]
      omega
    have hadd : addD (.lst (ms.map .int)) (.lst [.int own]) = some (.lst ((ms ++ [own]).map .int)) := by
      show (if (ms.map D.int).length + 1 ≤ lim then some (D.lst (ms.map D.int ++ [.int own])) else none) = _
      rw [if_pos (by unfold lim; omega), List.map_append]
      rfl
    exact seq_it (opT_of' hs rfl rfl rfl hadd) rfl rfl
  obtain ⟨ρ', μ', k1, k2⟩ := forL_inv (oc := none) (t := .nm 4) (b := sAsg (mOp modD (mCB (f1 intD) (aCons (mOpT addD (mOpT addD (mOp mulID (mVar 3) (mC (.int 45013))) (mOp modD (mCB (f1 intD) (aCons (mVar 4) aNil)) (mC (.int 2147483399)))) (mC (.int 37))) aNil)) (mC (.int 2147483563))) (.nm 3))
    (fun _ ρ μ' => (∃ s x4, ρ = [some sc, some (.dat (.int t)), some (.dat (.int own)), some (.dat (.int s)), x4]) ∧ μ' = μ) (fun _ _ _ _ => trivial) ((ms ++ [own]).map .int) 0 _ μ ⟨⟨_, none, rfl⟩, rfl⟩ (fun j d ρ μ' hj ⟨⟨s, x4, e⟩, eμ⟩ => by
      subst e eμ
      obtain ⟨z, _, rfl⟩ := List.mem_map.mp (List.mem_of_getElem? hj)
      exact ⟨_, .nx, _, _, rfl, asg_nm' (op_of' (cb_of' (acons (opT_of' (opT_of' (op_of' rfl rfl rfl rfl (mulI_r (by omega) (by omega))) (op_of' (cb_of' rfl rfl rfl) rfl rfl rfl (modI (by omega))) rfl rfl rfl) rfl rfl rfl rfl) rfl) rfl rfl) rfl rfl rfl (modI (by omega))), .inl rfl, ⟨_, _, rfl⟩, rfl⟩)
  obtain ⟨⟨s, x4, e⟩, eμ⟩ := k2
  subst e eμ
  have h3 : sFor (iSeq (mOpT addD (mSl (mVar 0) oNone (oSome (mC (.int 5)))) (mLst (aCons (mVar 2) aNil)))) (.nm 4) (sAsg (mOp modD (mCB (f1 intD) (aCons (mOpT addD (mOpT addD (mOp mulID (mVar 3) (mC (.int 45013))) (mOp modD (mCB (f1 intD) (aCons (mVar 4) aNil)) (mC (.int 2147483399)))) (mC (.int 37))) aNil)) (mC (.int 2147483563))) (.nm 3))
      [some sc, some (.dat (.int t)), some (.dat (.int own)), some (.dat (.int (50021 + 1013 * (t : Int)))), none] μ' = some (.nx, [some sc, some (.dat (.int t)), some (.dat (.int own)), some (.dat (.int s)), x4], μ') := by
    unfold sFor
    rw [hit]
    exact k1
  have hb : ∃ b, mIf (tmOr (mTest (mOp ltD (mVar 2) (mC (.int 0)))) (mTest (mOp geD (mVar 2) (mOp powD (mC (.int 10)) (mC (.int 17)))))) (mCB (f1 absD) (aCons (mVar 2) aNil)) (mC (.int 0)) [some sc, some (.dat (.int t)), some (.dat (.int own)), some (.dat (.int s)), x4] μ' = some (.dat (.int b), μ') := by
    have htest : tmOr (mTest (mOp ltD (mVar 2) (mC (.int 0)))) (mTest (mOp geD (mVar 2) (mOp powD (mC (.int 10)) (mC (.int 17))))) [some sc, some (.dat (.int t)), some (.dat (.int own)), some (.dat (.int s)), x4] μ' = some (decide (own < 0) || decide ((100000000000000000 : Int) ≤ own), μ') :=
      tor (tst (op_of' rfl rfl rfl rfl (ltI _ _))) fun _ => tst (op_of' rfl (op_of' rfl rfl rfl rfl powI) rfl rfl rfl)
    cases hq : (decide (own < 0) || decide ((100000000000000000 : Int) ≤ own)) with
    | true =>
      rw [hq] at htest
      exact ⟨_, ifx htest (fun _ => cb_of' rfl rfl rfl) (fun h => nomatch h)⟩
    | false =>
      rw [hq] at htest
      exact ⟨0, ifx htest (fun h => nomatch h) (fun _ => rfl)⟩
  obtain ⟨b, h4⟩ := hb
  exact ⟨b, s, fn_cell (μ' := μ') rfl (seq_nx (asg_nm' h1) (seq_nx h2 (seq_nx h3 (ret_of (lstC_of' (acons h4 rfl) rfl (by simp [lim]))))))⟩

end LK13

set_option Elab.async false
set_option linter.all false
set_option maxRecDepth 100000
namespace LK13
open PL
theorem eqvs_inL : ∀ l : List Nat, eqvs (inL l) (inL l) = true
  | [] => rfl
  | i :: l => by
    show ((i : Int) == (i : Int) && eqvs (inL l) (inL l)) = true
    rw [eqvs_inL l]
    simp
theorem fd_eqv (p : List Nat × List Nat) : eqv (fd p) (fd p) = true := by
  show (eqvs (inL p.1) (inL p.1) && (eqvs (inL p.2) (inL p.2) && true)) = true
  rw [eqvs_inL, eqvs_inL]
  rfl
theorem not_in_fds {p : List Nat × List Nat} {l : List (List Nat × List Nat)} (h : p ∈ l) : notInD (fd p) (.tup (l.map fd)) = some (.bl false) := by
  have e : ((l.map fd).any fun y => eqv y (fd p)) = true := List.any_eq_true.mpr ⟨fd p, List.mem_map.mpr ⟨p, h, rfl⟩, fd_eqv p⟩
  have ok : (fd p).okN 59 = true := by
    have := fds_okN [p]
    simp only [List.map_cons, List.map_nil, okNs, Bool.and_true] at this
    exact this
  have hi : inD (fd p) (.tup (l.map fd)) = some (.bl true) := by
    show (if (fd p).okN 59 = true ∧ okNs (l.map fd) 59 = true then some (D.bl ((l.map fd).any fun y => eqv y (fd p))) else none) = _
    rw [if_pos ⟨ok, fds_okN l⟩, e]
  unfold notInD
  rw [hi]
  rfl
theorem fr_okN (a b : List T3) : (fr a b).okN 60 = true := by
  have h : ∀ l : List T3, (D.tup (l.map st)).okN 59 = true := fun l => by
    show (decide (0 < 59) && okNs (l.map st) 58) = true
    rw [okNs_all, List.all_map, show (l.all ((fun x => x.okN 58) ∘ st)) = true from List.all_eq_true.mpr fun t _ => rfl]
    rfl
  show (decide (0 < 60) && ((D.tup (a.map st)).okN 59 && ((D.tup (b.map st)).okN 59 && true))) = true
  rw [h, h]
  rfl
theorem ne_fr (a b : List T3) : neD (fr a b) (.tup [.tup [], .tup []]) = some (.bl (decide (0 < a.length + b.length))) := by
  have e : eqv (fr a b) (.tup [.tup [], .tup []]) = !decide (0 < a.length + b.length) := by
    cases a with
    | nil =>
      cases b with
      | nil => rfl
      | cons x b => simp [fr, eqv, eqvs, st]
    | cons x a =>
      have h : 0 < (x :: a).length + b.length := by rw [List.length_cons]; omega
      rw [decide_eq_true h]
      rfl
  unfold neD
  rw [if_pos ⟨fr_okN a b, rfl⟩, e, Bool.not_not]
structure Wk where
  bs : List T3
  ps : List T3
  W : N2 → Bool
  ns : List N2
def Wk.d (x : Wk) : D := wk x.bs x.ps x.W x.ns
def Wk.good (x : Wk) : Prop := GoodW x.bs x.ps x.ns
theorem ne_nilnil : neD (.lst []) (.lst []) = some (.bl false) := rfl
noncomputable def mTEST : ME := (mLc (iSeq (mVar 7)) (.nm 8) [8] (tmOr (mTest (mOp isNotD (mCall F_is_work (aCons (mVar 8) aNil)) (mC (.bl true)))) (tmNot (mTest (mCall F__law_finds_right (aCons (mVar 3) (aCons (mVar 8) aNil)))))) (mVar 8))
theorem test_ok {ρ : Env} {μ : Sto} {w : Wk} (gw : w.good) (xs : List Wk) (gx : ∀ x ∈ xs, x.good) (hl : xs.length ≤ 10) (h : ∃ a b c d e f, ρ = [a, b, c, some (.dat w.d), d, e, f, some (.dat (.lst (xs.map Wk.d))), none]) :
    mTEST ρ μ = some (.dat (.lst []), μ) := by
  obtain ⟨a, b, c, d, e, f, rfl⟩ := h
  have k := mLcM (t := .nm 8) (vs := [8]) (tt := (tmOr (mTest (mOp isNotD (mCall F_is_work (aCons (mVar 8) aNil)) (mC (.bl true)))) (tmNot (mTest (mCall F__law_finds_right (aCons (mVar 3) (aCons (mVar 8) aNil))))))) (te := mVar 8) (mi := iSeq (mVar 7)) (ρ := [a, b, c, some (.dat w.d), d, e, f, some (.dat (.lst (xs.map Wk.d))), none]) (μ := μ) (oc := none) Wk.d Wk.d (fun _ => false) (as := xs) rfl trivial (fun x hx => by
    have hg : GoodW x.bs x.ps x.ns := gx x hx
    have g' : GoodW w.bs w.ps w.ns := gw
    refine ⟨_, rfl, ?_, fun h => nomatch h⟩
    exact tor (p := false) (q := false) (tst ((op_of' (call_of' rfl (hg.work x.W μ)) rfl rfl rfl rfl))) fun _ => tnot (p := true) (tst (call_of' rfl (finds_right_ok (W := w.W) (W' := x.W) (μ := μ) g' hg)))) (by unfold lim; omega)
  rw [List.filter_eq_nil_iff.mpr (fun _ _ => Bool.false_ne_true)] at k
  exact k
noncomputable def bodyR : MS := (sSeq (sAsg (mCall F__law_drawn_work (aCons (mVar 0) (aCons (mVar 2) (aCons (mLst (aCons (mC (.str "bar")) (aCons (mC (.str "post")) aNil))) (aCons (mCall F__law_pick (aCons (mVar 0) (aCons (mLst (aCons (mC (.int 3)) (aCons (mC (.int 9)) (aCons (mC (.int 99)) aNil)))) aNil))) aNil))))) (.nm 3)) (sSeq (sPar (aCons (mCall F__law_few (aCons (mVar 0) (aCons (mCB (f1 lenD) (aCons (mOpHT ixD (mVar 2) (mC (.int 0))) aNil)) (aCons (mC (.int 3)) aNil)))) (aCons (mCall F__law_few (aCons (mVar 0) (aCons (mCB (f1 lenD) (aCons (mOpHT ixD (mVar 2) (mC (.int 1))) aNil)) (aCons (mC (.int 3)) aNil)))) aNil)) [(.nm 4), (.nm 5)]) (sSeq (sAsg (mCall F__law_made_of (aCons (mVar 3) (aCons (mVar 4) (aCons (mVar 5) aNil)))) (.nm 6)) (sSeq (sAsg (mLst (aCons (mVar 3) (aCons (mCall F__law_otherwise (aCons (mVar 0) (aCons (mVar 3) aNil))) (aCons (mCall F__law_drawn_work (aCons (mVar 0) (aCons (mCall F__law_thick_frame (aCons (mVar 0) (aCons (mC (.int 2)) aNil))) (aCons (mLst (aCons (mC (.str "bar")) (aCons (mC (.str "post")) aNil))) (aCons (mC (.int 4)) aNil))))) aNil)))) (.nm 7)) (sSeq (sAsg (mOpT addD (mVar 7) (mIf (mTest (mOp neD (mOpHT ixD (mVar 6) (mC (.int 0))) (mTup (aCons (mTup aNil) (aCons (mTup aNil) aNil))))) (mLst (aCons (mVar 6) (aCons (mCall F__law_otherwise (aCons (mVar 0) (aCons (mVar 6) aNil))) aNil))) (mLst aNil))) (.nm 7)) (sSeq (sIf (tmOr (mTest (mOp neD mTEST (mLst aNil))) (tmNot (mTest (mCall F__law_singles_right (aCons (mVar 3) aNil))))) (sRet (mC (.bl false))) sNx) (sSeq (sIf (tmAnd (mTest (mOp neD (mOpHT ixD (mVar 6) (mC (.int 0))) (mTup (aCons (mTup aNil) (aCons (mTup aNil) aNil))))) (mTest (mOpTH notInD (mTup (aCons (mVar 4) (aCons (mVar 5) aNil))) (mCall F_finds (aCons (mVar 3) (aCons (mVar 6) aNil)))))) (sRet (mC (.bl false))) sNx) (sIf (tmNot (mTest (mCall (F__law_is 8) (aCons (mCall F_finds (aCons (mVar 3) (aCons (mVar 3) aNil))) (aCons (mTup (aCons (mTup (aCons (mRgT (mCB (f1 lenD) (aCons (mOpHT ixD (mVar 2) (mC (.int 0))) aNil))) (aCons (mRgT (mCB (f1 lenD) (aCons (mOpHT ixD (mVar 2) (mC (.int 1))) aNil))) aNil))) aNil)) aNil))))) (sRet (mC (.bl false))) sNx))))))))
def RR (i : Nat) (x1 x2 x3 x4 x5 x6 x7 : Option PV) : Env := [some (.cell i), x1, x2, x3, x4, x5, x6, x7, none]
theorem pick3 {ρ : Env} {μ : Sto} {i : Nat} (h0 : mVar 0 ρ μ = some (.cell i, μ)) (h : WS μ i) :
    ∃ (w : Int) (μ' : Sto), mCall F__law_pick (aCons (mVar 0) (aCons (mLst (aCons (mC (.int 3)) (aCons (mC (.int 9)) (aCons (mC (.int 99)) aNil)))) aNil)) ρ μ = some (.dat (.int w), μ') ∧ 0 < w ∧ w < 1000 ∧ WS μ' i ∧ But i μ μ' := by
  obtain ⟨d, μ', k1, k2, k3, k4⟩ := call_pick (L := mLst (aCons (mC (.int 3)) (aCons (mC (.int 9)) (aCons (mC (.int 99)) aNil)))) (ds := [.int 3, .int 9, .int 99]) h0 rfl h (by decide) (by decide)
  simp only [List.mem_cons, List.not_mem_nil, or_false] at k2
  rcases k2 with rfl | rfl | rfl
  · exact ⟨3, μ', k1, by decide, by decide, k3, k4⟩
  · exact ⟨9, μ', k1, by decide, by decide, k3, k4⟩
  · exact ⟨99, μ', k1, by decide, by decide, k3, k4⟩
theorem rgT_ok {m : ME} {ρ : Env} {μ : Sto} {n : Nat} (h : m ρ μ = some (.dat (.int (n : Nat)), μ)) (hn : n ≤ 8) : mRgT m ρ μ = some (.dat (rw' (List.range n)), μ) := by
  simp only [mRgT, h, Option.bind_some]
  rw [if_pos ⟨by omega, by omega⟩]
  unfold rgD rw'
  rw [Int.toNat_natCast]
theorem body_ok {μ : Sto} {i : Nat} (h : WS μ i) {bs ps : List T3} (gb : GoodB bs) (gp : GoodB ps) (hn : 0 < bs.length + ps.length) (x1 x3 x4 x5 x6 x7 : Option PV) :
    ∃ (y3 y4 y5 y6 y7 : Option PV) (μ' : Sto), bodyR (RR i x1 (some (.dat (fr bs ps))) x3 x4 x5 x6 x7) μ = some (.nx, RR i x1 (some (.dat (fr bs ps))) y3 y4 y5 y6 y7, μ') ∧ WS μ' i := by
  have hb8 := gb.len
  have hp8 := gp.len
  let F : Option PV := some (.dat (fr bs ps))
  obtain ⟨rare, μ1, t1, r1, r2, w1, _⟩ := pick3 (ρ := RR i x1 F x3 x4 x5 x6 x7) (μ := μ) rfl h
  obtain ⟨W, ns, μ2, t2, g, w2, _⟩ := drawn_work_ok w1 gb gp hn rare r1 r2
  let A : Option PV := some (.dat (wk bs ps W ns))
  have s1 : sAsg (mCall F__law_drawn_work (aCons (mVar 0) (aCons (mVar 2) (aCons (mLst (aCons (mC (.str "bar")) (aCons (mC (.str "post")) aNil))) (aCons (mCall F__law_pick (aCons (mVar 0) (aCons (mLst (aCons (mC (.int 3)) (aCons (mC (.int 9)) (aCons (mC (.int 99)) aNil)))) aNil))) aNil))))) (.nm 3) (RR i x1 F x3 x4 x5 x6 x7) μ = some (.nx, RR i x1 F A x4 x5 x6 x7, μ2) :=
    asg_nm' (call_of' (acons rfl (acons rfl (acons rfl (acons t1 rfl)))) t2)
  have hlb : ∀ y3 y4 y5 y6 y7 μ, mCB (f1 lenD) (aCons (mOpHT ixD (mVar 2) (mC (.int 0))) aNil) (RR i x1 F y3 y4 y5 y6 y7) μ = some (.dat (.int (bs.length : Nat)), μ) := fun y3 y4 y5 y6 y7 μ => by
    have := cb_of' (f := f1 lenD) (acons (am := aNil) (opHT_of' (f := ixD) (a := mVar 2) (b := mC (.int 0)) (ρ := RR i x1 F y3 y4 y5 y6 y7) (μ := μ) rfl rfl rfl rfl rfl) rfl) rfl rfl
    rw [List.length_map] at this
    exact this
  have hlp : ∀ y3 y4 y5 y6 y7 μ, mCB (f1 lenD) (aCons (mOpHT ixD (mVar 2) (mC (.int 1))) aNil) (RR i x1 F y3 y4 y5 y6 y7) μ = some (.dat (.int (ps.length : Nat)), μ) := fun y3 y4 y5 y6 y7 μ => by
    have := cb_of' (f := f1 lenD) (acons (am := aNil) (opHT_of' (f := ixD) (a := mVar 2) (b := mC (.int 1)) (ρ := RR i x1 F y3 y4 y5 y6 y7) (μ := μ) rfl rfl rfl rfl rfl) rfl) rfl rfl
    rw [List.length_map] at this
    exact this
  obtain ⟨b, μ3, t3, b1, b2, b3, w3, _⟩ := few_ok w2 bs.length hb8
  obtain ⟨p, μ4, t4, p1, p2, p3, w4, _⟩ := few_ok w3 ps.length hp8
  have rb : Row b bs.length := ⟨b1, b2, b3⟩
  have rp : Row p ps.length := ⟨p1, p2, p3⟩
  let B : Option PV := some (.dat (rw' b))
  let P : Option PV := some (.dat (rw' p))
  have s2 := par_of (ts := [(.nm 4), (.nm 5)]) (ρ1 := RR i x1 F A B P x6 x7) (acons (call_of' (acons (a := mVar 0) (ρ := RR i x1 F A x4 x5 x6 x7) rfl (acons (hlb _ _ _ _ _ _) (acons (a := mC (.int 3)) (am := aNil) rfl rfl))) t3) (acons (am := aNil) (call_of' (acons (a := mVar 0) rfl (acons (hlp _ _ _ _ _ _) (acons (a := mC (.int 3)) (am := aNil) rfl rfl))) t4) rfl)) rfl
  let sm : Wk := ⟨sel bs b, sel ps p, mW W b p, mN bs ps ns b p⟩
  let S : Option PV := some (.dat sm.d)
  have s3 : sAsg (mCall F__law_made_of (aCons (mVar 3) (aCons (mVar 4) (aCons (mVar 5) aNil)))) (.nm 6) (RR i x1 F A B P x6 x7) μ4 = some (.nx, RR i x1 F A B P S x7, μ4) := asg_nm' (call_of' rfl (made_of_ok hb8 hp8 rb rp μ4))
  obtain ⟨W5, ns5, μ5, t5, g5, w5, _⟩ := otherwise_ok w4 (W := W) g
  obtain ⟨bs6, ps6, μ6, t6, gb6, gp6, n6, w6, _⟩ := thick_frame_ok w5 2 (by omega) (by omega)
  obtain ⟨W7, ns7, μ7, t7, g7, w7, _⟩ := drawn_work_ok w6 gb6 gp6 n6 4 (by omega) (by omega)
  let l3 : List Wk := [⟨bs, ps, W, ns⟩, ⟨bs, ps, W5, ns5⟩, ⟨bs6, ps6, W7, ns7⟩]
  have s4 : sAsg (mLst (aCons (mVar 3) (aCons (mCall F__law_otherwise (aCons (mVar 0) (aCons (mVar 3) aNil))) (aCons (mCall F__law_drawn_work (aCons (mVar 0) (aCons (mCall F__law_thick_frame (aCons (mVar 0) (aCons (mC (.int 2)) aNil))) (aCons (mLst (aCons (mC (.str "bar")) (aCons (mC (.str "post")) aNil))) (aCons (mC (.int 4)) aNil))))) aNil)))) (.nm 7) (RR i x1 F A B P S x7) μ4 = some (.nx, RR i x1 F A B P S (some (.dat (.lst (l3.map Wk.d)))), μ7) :=
    asg_nm' (lst_of' (acons rfl (acons (call_of' rfl t5) (acons (call_of' (acons rfl (acons (call_of' rfl t6) (acons rfl (acons rfl rfl)))) t7) rfl))) rfl (by show 3 ≤ lim; simp [lim]))
  have gl3 : ∀ x ∈ l3, x.good := fun x hx => by
    simp only [l3, List.mem_cons, List.not_mem_nil, or_false] at hx
    rcases hx with rfl | rfl | rfl
    · exact g
    · exact g5
    · exact g7
  have hne : ∀ y7 μ, mTest (mOp neD (mOpHT ixD (mVar 6) (mC (.int 0))) (mTup (aCons (mTup aNil) (aCons (mTup aNil) aNil)))) (RR i x1 F A B P S y7) μ = some (decide (0 < (sel bs b).length + (sel ps p).length), μ) := fun y7 μ => tst (op_of' (opHT_of' rfl rfl rfl rfl rfl) rfl rfl rfl (ne_fr _ _))
  have e1 : (sel bs b).length = b.length := by unfold sel; rw [List.length_map]
  have e2 : (sel ps p).length = p.length := by unfold sel; rw [List.length_map]
  have s5 : ∃ (l : List Wk) (μ8 : Sto), sAsg (mOpT addD (mVar 7) (mIf (mTest (mOp neD (mOpHT ixD (mVar 6) (mC (.int 0))) (mTup (aCons (mTup aNil) (aCons (mTup aNil) aNil))))) (mLst (aCons (mVar 6) (aCons (mCall F__law_otherwise (aCons (mVar 0) (aCons (mVar 6) aNil))) aNil))) (mLst aNil))) (.nm 7) (RR i x1 F A B P S (some (.dat (.lst (l3.map Wk.d))))) μ7 = some (.nx, RR i x1 F A B P S (some (.dat (.lst (l.map Wk.d)))), μ8) ∧ WS μ8 i ∧ (∀ x ∈ l, x.good) ∧ l.length ≤ 10 := by
    by_cases q : 0 < (sel bs b).length + (sel ps p).length
    · have hq := hne (some (.dat (.lst (l3.map Wk.d)))) μ7
      rw [decide_eq_true q] at hq
      have gs : GoodW (sel bs b) (sel ps p) (mN bs ps ns b p) := made_good gb gp rb rp (by omega)
      obtain ⟨W8, ns8, μ8, t8, g8, w8, _⟩ := otherwise_ok w7 (W := mW W b p) gs
      refine ⟨l3 ++ [sm, ⟨sel bs b, sel ps p, W8, ns8⟩], μ8, asg_nm' (opT_of' (d2 := .lst [sm.d, wk (sel bs b) (sel ps p) W8 ns8]) rfl (ifx hq (fun _ => lst_of' (acons rfl (acons (call_of' rfl t8) rfl)) rfl (by simp [lim])) (fun h => nomatch h)) rfl rfl ?_), w8, fun x hx => ?_, by simp [l3]⟩
      · show (if 3 + 2 ≤ lim then _ else none) = _
        rw [if_pos (by simp [lim])]
        rfl
      · rcases List.mem_append.mp hx with z | z
        · exact gl3 x z
        · simp only [List.mem_cons, List.not_mem_nil, or_false] at z
          rcases z with rfl | rfl
          · exact gs
          · exact g8
    · have hq := hne (some (.dat (.lst (l3.map Wk.d)))) μ7
      rw [decide_eq_false q] at hq
      refine ⟨l3, μ7, asg_nm' (opT_of' (d2 := .lst []) rfl (ifx hq (fun h => nomatch h) (fun _ => rfl)) rfl rfl ?_), w7, gl3, by simp [l3]⟩
      show (if 3 + 0 ≤ lim then _ else none) = _
      rw [if_pos (by simp [lim])]
      rfl
  obtain ⟨l, μ8, s5, w8, gl, ll⟩ := s5
  let T : Option PV := some (.dat (.lst (l.map Wk.d)))
  let R := RR i x1 F A B P S T
  have ht1 : mTest (mOp neD mTEST (mLst aNil)) R μ8 = some (false, μ8) := tst (op_of' (test_ok (w := ⟨bs, ps, W, ns⟩) g l gl ll ⟨_, _, _, _, _, _, rfl⟩) rfl rfl rfl ne_nilnil)
  have hi1 : sIf (tmOr (mTest (mOp neD mTEST (mLst aNil))) (tmNot (mTest (mCall F__law_singles_right (aCons (mVar 3) aNil))))) (sRet (mC (.bl false))) sNx R μ8 = some (.nx, R, μ8) :=
    if_f (tor (p := false) (q := false) ht1 fun _ => tnot (p := true) (tst (call_of' rfl (singles_ok (W := W) g)))) rfl
  have hi2 : sIf (tmAnd (mTest (mOp neD (mOpHT ixD (mVar 6) (mC (.int 0))) (mTup (aCons (mTup aNil) (aCons (mTup aNil) aNil))))) (mTest (mOpTH notInD (mTup (aCons (mVar 4) (aCons (mVar 5) aNil))) (mCall F_finds (aCons (mVar 3) (aCons (mVar 6) aNil)))))) (sRet (mC (.bl false))) sNx R μ8 = some (.nx, R, μ8) := by
    by_cases q : 0 < (sel bs b).length + (sel ps p).length
    · have hq := hne T μ8
      rw [decide_eq_true q] at hq
      have gs : GoodW (sel bs b) (sel ps p) (mN bs ps ns b p) := made_good gb gp rb rp (by omega)
      exact if_f (tand (p := true) (q := false) hq fun _ => tst (opTH_of' (d1 := fd (b, p)) (tup_of' (acons rfl (acons rfl rfl)) rfl (by simp [lim])) (call_of' rfl (finds_ok (W := W) (W' := mW W b p) g gs)) rfl rfl (not_in_fds (made_found g rb rp)))) rfl
    · have hq := hne T μ8
      rw [decide_eq_false q] at hq
      exact if_f (tand (p := false) (q := false) hq fun h => nomatch h) rfl
  have hf := finds_ok (W := W) (W' := W) (μ := μ8) g g
  rw [fnd_self] at hf
  have hdue : mTup (aCons (mTup (aCons (mRgT (mCB (f1 lenD) (aCons (mOpHT ixD (mVar 2) (mC (.int 0))) aNil))) (aCons (mRgT (mCB (f1 lenD) (aCons (mOpHT ixD (mVar 2) (mC (.int 1))) aNil))) aNil))) aNil) R μ8 = some (.dat (.tup ([(List.range bs.length, List.range ps.length)].map fd)), μ8) :=
    tup_of' (acons (tup_of' (acons (rgT_ok (hlb _ _ _ _ _ _) hb8) (acons (rgT_ok (hlp _ _ _ _ _ _) hp8) rfl)) rfl (by simp [lim])) rfl) rfl (by simp [lim])
  have hpl : Plain 8 (.tup ([(List.range bs.length, List.range ps.length)].map fd)) := plain_fds _ 4 (by simp) (fun q hq => by
    have : q = (List.range bs.length, List.range ps.length) := by simpa using hq
    rw [this]
    exact ⟨by rw [List.length_range]; exact hb8, by rw [List.length_range]; exact hp8⟩)
  have hi3 : sIf (tmNot (mTest (mCall (F__law_is 8) (aCons (mCall F_finds (aCons (mVar 3) (aCons (mVar 3) aNil))) (aCons (mTup (aCons (mTup (aCons (mRgT (mCB (f1 lenD) (aCons (mOpHT ixD (mVar 2) (mC (.int 0))) aNil))) (aCons (mRgT (mCB (f1 lenD) (aCons (mOpHT ixD (mVar 2) (mC (.int 1))) aNil))) aNil))) aNil)) aNil))))) (sRet (mC (.bl false))) sNx R μ8 = some (.nx, R, μ8) :=
    if_f (tnot (p := true) (tst (call_of' (acons (call_of' rfl hf) (acons hdue rfl)) (law_is_ok 8 _ hpl μ8)))) rfl
  exact ⟨_, _, _, _, _, μ8, seq_nx s1 (seq_nx s2 (seq_nx s3 (seq_nx s4 (seq_nx s5 (seq_nx hi1 (seq_nx hi2 hi3)))))), w8⟩
end LK13

set_option Elab.async false
set_option linter.all false
set_option maxRecDepth 100000
namespace LK13
open PL
structure FrP where
  bs : List T3
  ps : List T3
def FrP.d (x : FrP) : D := fr x.bs x.ps
theorem right_ok {μ : Sto} {i : Nat} (h : WS μ i) : ∃ μ', F__law_right [.cell i] μ = some (.dat (.bl true), μ') := by
  obtain ⟨ρ', μ', k1, x1, x2, x3, x4, x5, x6, x7, rfl, k3⟩ := for_pre (t := .nm 1) (mi := iRange1 (aCons (mC (.int 3)) aNil)) (ρ := RR i none none none none none none none) (μ := μ)
    (b := sFor (iSeq (mLst (aCons (mCall F__law_drawn_frame (aCons (mVar 0) (aCons (mOpHT ixD (mLst (aCons (mC (.int 3)) (aCons (mC (.int 5)) (aCons (mC (.int 8)) aNil)))) (mVar 1)) aNil))) (aCons (mCall F__law_thick_frame (aCons (mVar 0) (aCons (mOpHT ixD (mLst (aCons (mC (.int 3)) (aCons (mC (.int 5)) (aCons (mC (.int 7)) aNil)))) (mVar 1)) aNil))) aNil)))) (.nm 2) bodyR)
    (fun (i : Nat) => D.int (i : Int)) (fun _ ρ μ' => ∃ x1 x2 x3 x4 x5 x6 x7, ρ = RR i x1 x2 x3 x4 x5 x6 x7 ∧ WS μ' i) (as := List.range 3) (range1_map (n := 3) rfl (by omega)) (fun _ _ _ _ => trivial) ⟨none, none, none, none, none, none, none, rfl, h⟩ (fun pre a post e ρ μ1 hh => by
      obtain ⟨x1, x2, x3, x4, x5, x6, x7, rfl, w⟩ := hh
      have ha : a < 3 := List.mem_range.mp (by rw [e]; simp)
      let ρ1 := RR i (some (.dat (.int (a : Nat)))) x2 x3 x4 x5 x6 x7
      have d1 : ∃ n : Nat, n ≤ 8 ∧ mOpHT ixD (mLst (aCons (mC (.int 3)) (aCons (mC (.int 5)) (aCons (mC (.int 8)) aNil)))) (mVar 1) ρ1 μ1 = some (.dat (.int (n : Nat)), μ1) := by
        have : a = 0 ∨ a = 1 ∨ a = 2 := by omega
        rcases this with rfl | rfl | rfl
        · exact ⟨3, by omega, rfl⟩
        · exact ⟨5, by omega, rfl⟩
        · exact ⟨8, by omega, rfl⟩
      have d2 : ∀ μ1, ∃ n : Nat, 1 ≤ n ∧ n ≤ 8 ∧ mOpHT ixD (mLst (aCons (mC (.int 3)) (aCons (mC (.int 5)) (aCons (mC (.int 7)) aNil)))) (mVar 1) ρ1 μ1 = some (.dat (.int (n : Nat)), μ1) := fun μ1 => by
        have : a = 0 ∨ a = 1 ∨ a = 2 := by omega
        rcases this with rfl | rfl | rfl
        · exact ⟨3, by omega, by omega, rfl⟩
        · exact ⟨5, by omega, by omega, rfl⟩
        · exact ⟨7, by omega, by omega, rfl⟩
      obtain ⟨n1, hn1, e1⟩ := d1
      obtain ⟨bs1, ps1, μ2, t1, gb1, gp1, m1, w1, _⟩ := drawn_frame_ok w n1 hn1
      obtain ⟨n2, hn2, hn3, e2⟩ := d2 μ2
      obtain ⟨bs2, ps2, μ3, t2, gb2, gp2, m2, w2, _⟩ := thick_frame_ok w1 n2 hn2 hn3
      have hit : iSeq (mLst (aCons (mCall F__law_drawn_frame (aCons (mVar 0) (aCons (mOpHT ixD (mLst (aCons (mC (.int 3)) (aCons (mC (.int 5)) (aCons (mC (.int 8)) aNil)))) (mVar 1)) aNil))) (aCons (mCall F__law_thick_frame (aCons (mVar 0) (aCons (mOpHT ixD (mLst (aCons (mC (.int 3)) (aCons (mC (.int 5)) (aCons (mC (.int 7)) aNil)))) (mVar 1)) aNil))) aNil))) ρ1 μ1 = some (([⟨bs1, ps1⟩, ⟨bs2, ps2⟩] : List FrP).map FrP.d, none, μ3) := by
        have hl : mLst (aCons (mCall F__law_drawn_frame (aCons (mVar 0) (aCons (mOpHT ixD (mLst (aCons (mC (.int 3)) (aCons (mC (.int 5)) (aCons (mC (.int 8)) aNil)))) (mVar 1)) aNil))) (aCons (mCall F__law_thick_frame (aCons (mVar 0) (aCons (mOpHT ixD (mLst (aCons (mC (.int 3)) (aCons (mC (.int 5)) (aCons (mC (.int 7)) aNil)))) (mVar 1)) aNil))) aNil)) ρ1 μ1 = some (.dat (.lst (([⟨bs1, ps1⟩, ⟨bs2, ps2⟩] : List FrP).map FrP.d)), μ3) :=
          lst_of' (acons (call_of' (acons rfl (acons e1 rfl)) t1) (acons (call_of' (acons rfl (acons e2 rfl)) t2) rfl)) rfl (by show 2 ≤ lim; simp [lim])
        simp only [iSeq, hl, Option.bind_some]
        rfl
      have good : ∀ x ∈ ([⟨bs1, ps1⟩, ⟨bs2, ps2⟩] : List FrP), GoodB x.bs ∧ GoodB x.ps ∧ 0 < x.bs.length + x.ps.length := fun x hx => by
        simp only [List.mem_cons, List.not_mem_nil, or_false] at hx
        rcases hx with rfl | rfl
        · exact ⟨gb1, gp1, m1⟩
        · exact ⟨gb2, gp2, m2⟩
      obtain ⟨ρ4, μ4, j1, y2, y3, y4, y5, y6, y7, rfl, j3⟩ := for_pre (t := .nm 2) (b := bodyR) FrP.d (fun _ ρ μ' => ∃ x2 x3 x4 x5 x6 x7, ρ = RR i (some (.dat (.int (a : Nat)))) x2 x3 x4 x5 x6 x7 ∧ WS μ' i) hit (fun _ _ _ _ => trivial) ⟨_, _, _, _, _, _, rfl, w2⟩ (fun pre2 x post2 e2 ρ μ5 hh => by
        obtain ⟨x2, x3, x4, x5, x6, x7, rfl, w⟩ := hh
        obtain ⟨g1, g2, g3⟩ := good x (by rw [e2]; simp)
        obtain ⟨z3, z4, z5, z6, z7, μ6, l1, l2⟩ := body_ok w g1 g2 g3 (some (.dat (.int (a : Nat)))) x3 x4 x5 x6 x7
        exact ⟨_, .nx, _, μ6, rfl, l1, .inl rfl, _, _, _, _, _, _, rfl, l2⟩)
      exact ⟨_, .nx, _, μ4, rfl, j1, .inl rfl, _, _, _, _, _, _, _, rfl, j3⟩)
  exact ⟨_, fn_cut (μ' := μ') rfl (seq_nx k1 (ret_of rfl))⟩
theorem law_ok (ns : List Int) (hn : ns.length ≤ 63) : ∃ μ', F_law [.kon (.lst (ns.map .int))] [] = some (.dat (.bl true), μ') := by
  let sc : PV := .kon (.lst (ns.map .int))
  have hr : ∃ m : Nat, m ≤ 7 ∧ aCons (mCB (f2 max2D) (aCons (mC (.int 2)) (aCons (mCB (f2 min2D) (aCons (mCB (f1 lenD) (aCons (mVar 0) aNil)) (aCons (mC (.int 3)) aNil))) aNil))) aNil [some sc, none] [] = some ([.dat (.int (m : Nat))], []) := by
    have h1 : mCB (f2 min2D) (aCons (mCB (f1 lenD) (aCons (mVar 0) aNil)) (aCons (mC (.int 3)) aNil)) [some sc, none] [] = some (.dat (.int (if (3 : Int) < ((ns.map D.int).length : Nat) then 3 else ((ns.map D.int).length : Nat))), []) := cb_of' (acons (cb_of' rfl rfl rfl) rfl) rfl rfl
    generalize hj : (if (3 : Int) < ((ns.map D.int).length : Nat) then (3 : Int) else (((ns.map D.int).length : Nat) : Int)) = j at h1
    have hj7 : j ≤ 7 ∧ 0 ≤ j := by
      subst hj
      split <;> omega
    have h2 : mCB (f2 max2D) (aCons (mC (.int 2)) (aCons (mCB (f2 min2D) (aCons (mCB (f1 lenD) (aCons (mVar 0) aNil)) (aCons (mC (.int 3)) aNil))) aNil)) [some sc, none] [] = some (.dat (.int (if j > 2 then j else 2)), []) := cb_of' (acons rfl (acons h1 rfl)) rfl rfl
    generalize hk : (if j > 2 then j else 2) = k at h2
    have hk7 : k ≤ 7 ∧ 0 ≤ k := by
      subst hk
      split <;> omega
    refine ⟨k.toNat, by omega, acons (h2.trans ?_) rfl⟩
    rw [Int.toNat_of_nonneg hk7.2]
  obtain ⟨m, hm, hr⟩ := hr
  obtain ⟨bs, μ', k1, _, k3⟩ := mLcR (α := Nat) (β := Unit) (t := .nm 1) (vs := [1]) (te := mCall F__law_right (aCons (mCall F__law_well (aCons (mVar 0) (aCons (mVar 1) aNil))) aNil)) (ρ := [some sc, none]) (μ := []) (fun (i : Nat) => D.int (i : Int)) (fun _ => .bl true) (fun _ => True) (range1_map hr (by omega)) (fun _ _ => trivial) trivial (fun a ha μ _ => by
    have ha := List.mem_range.mp ha
    obtain ⟨b, s, hw⟩ := well_ok ns a μ (by omega) hn
    obtain ⟨μ'', ht⟩ := right_ok (μ := μ ++ [.flat (W3 b s 0)]) (i := μ.length) ⟨b, s, 0, by simp⟩
    exact ⟨_, (), μ'', rfl, call_of' (acons (call_of' rfl hw) rfl) ht, trivial⟩) (by rw [List.length_range]; unfold lim; omega)
  refine ⟨_, fn_cut (μ' := μ') rfl (ret_of (cb_of' (ds := [.lst (bs.map fun _ => .bl true)]) (acons k1 rfl) rfl ?_))⟩
  show ((bL (bs.map fun _ => D.bl true)).map fun ns => D.bl (ns.all id)) = _
  have e : bL (bs.map fun _ => D.bl true) = some (bs.map fun _ => true) := by
    have := bL_bls (bs.map fun _ => true)
    rw [List.map_map] at this
    exact this
  rw [e]
  rw [Option.map_some]
  congr 2
  rw [List.all_map]
  exact List.all_eq_true.mpr fun _ _ => rfl
end LK13

open PySem PySem.W PyProof.Rows
set_option maxRecDepth 100000 in
set_option maxHeartbeats 0 in
theorem PySem.Challenge.cw_laidlaths_k13_whole_finds_beside_all_cho_holds : PySem.Challenge.rw_laidlaths_k13_whole_finds_beside_all_cho.Holds := by
  w_on; o_law; k_head; (case hw => w_witness2)
  k_fill
  refine L2.walk_of (l := PySem.Challenge.rw_laidlaths_k13_whole_finds_beside_all_cho) (n := 63) (k := 12) (x := "script") (CX := fun _ => L2.CX0) (sp := fun w => PL.spLaw _ 63) rfl (by decide) rfl ⟨rfl, by decide, by decide⟩ (fun w h Y => PySem.W.kIn_of Y) ?F (fun _ _ a ns hl _ hS => ⟨a, ns, rfl, hS, hl, fun _ => rfl⟩) (fun _ _ _ _ _ h => h)
  case F =>
    intro w mg fa h KX G hmg
    have z_abs := PySem.W.mg_none_of (n := "abs") KX G (by k_is)
    have z_all := PySem.W.mg_none_of (n := "all") KX G (by k_is)
    have z_bool := PySem.W.mg_none_of (n := "bool") KX G (by k_is)
    have z_dict := PySem.W.mg_none_of (n := "dict") KX G (by k_is)
    have z_divmod := PySem.W.mg_none_of (n := "divmod") KX G (by k_is)
    have z_enumerate := PySem.W.mg_none_of (n := "enumerate") KX G (by k_is)
    have z_int := PySem.W.mg_none_of (n := "int") KX G (by k_is)
    have z_isinstance := PySem.W.mg_none_of (n := "isinstance") KX G (by k_is)
    have z_len := PySem.W.mg_none_of (n := "len") KX G (by k_is)
    have z_list := PySem.W.mg_none_of (n := "list") KX G (by k_is)
    have z_max := PySem.W.mg_none_of (n := "max") KX G (by k_is)
    have z_min := PySem.W.mg_none_of (n := "min") KX G (by k_is)
    have z_range := PySem.W.mg_none_of (n := "range") KX G (by k_is)
    have z_sorted := PySem.W.mg_none_of (n := "sorted") KX G (by k_is)
    have z_str := PySem.W.mg_none_of (n := "str") KX G (by k_is)
    have z_sum := PySem.W.mg_none_of (n := "sum") KX G (by k_is)
    have z_tuple := PySem.W.mg_none_of (n := "tuple") KX G (by k_is)
    have z_zip := PySem.W.mg_none_of (n := "zip") KX G (by k_is)
    have c_MOST_OF_KIND := PL.int_mk (x := "MOST_OF_KIND") KX G (by k_is)
    have c_MOST_PLACE := PL.int_mk (x := "MOST_PLACE") KX G (by k_is)
    refine' PL.tup_next (x := "TOLD") (ds := [.str "bar", .str "post"]) KX G ?a_TOLD ?l_TOLD ?e_TOLD ?z_TOLD ?n_TOLD
    (case a_TOLD => k_is); (case l_TOLD => k_is); (case e_TOLD => exact (.cons (.str _ _) (.cons (.str _ _) .nil))); (case z_TOLD => decide)
    intro a_TOLD c_TOLD r_TOLD
    refine' PL.at_next (x := "_law_take") (st := LK13.s__law_take) (ps := ["well", "many"]) KX G ?a__law_take ?l__law_take ?c__law_take ?k__law_take (fun _ _ _ _ _ _ us hl => match us, hl with | [_, _], _ => rfl) ?n__law_take
    (case a__law_take => k_is); (case l__law_take => k_is); (case c__law_take => k_is); (case k__law_take => k_is)
    intro f__law_take fd__law_take A__law_take
    refine' PL.at_next (x := "_law_go_beside") (st := LK13.s__law_go_beside) (ps := ["one", "other"]) KX G ?a__law_go_beside ?l__law_go_beside ?c__law_go_beside ?k__law_go_beside (fun _ _ _ _ _ _ us hl => match us, hl with | [_, _], _ => rfl) ?n__law_go_beside
    (case a__law_go_beside => k_is); (case l__law_go_beside => k_is); (case c__law_go_beside => k_is); (case k__law_go_beside => k_is)
    intro f__law_go_beside fd__law_go_beside A__law_go_beside
    refine' PL.at_next (x := "_law_drawn_laths") (st := LK13.s__law_drawn_laths) (ps := ["well", "many", "wide", "high"]) KX G ?a__law_drawn_laths ?l__law_drawn_laths ?c__law_drawn_laths ?k__law_drawn_laths (fun _ _ _ _ _ _ us hl => match us, hl with | [_, _, _, _], _ => rfl) ?n__law_drawn_laths
    (case a__law_drawn_laths => k_is); (case l__law_drawn_laths => k_is); (case c__law_drawn_laths => k_is); (case k__law_drawn_laths => k_is)
    intro f__law_drawn_laths fd__law_drawn_laths A__law_drawn_laths
    refine' PL.at_next (x := "_law_pick") (st := LK13.s__law_pick) (ps := ["well", "some"]) KX G ?a__law_pick ?l__law_pick ?c__law_pick ?k__law_pick (fun _ _ _ _ _ _ us hl => match us, hl with | [_, _], _ => rfl) ?n__law_pick
    (case a__law_pick => k_is); (case l__law_pick => k_is); (case c__law_pick => k_is); (case k__law_pick => k_is)
    intro f__law_pick fd__law_pick A__law_pick
    refine' PL.at_next (x := "_law_drawn_frame") (st := LK13.s__law_drawn_frame) (ps := ["well", "most"]) KX G ?a__law_drawn_frame ?l__law_drawn_frame ?c__law_drawn_frame ?k__law_drawn_frame (fun _ _ _ _ _ _ us hl => match us, hl with | [_, _], _ => rfl) ?n__law_drawn_frame
    (case a__law_drawn_frame => k_is); (case l__law_drawn_frame => k_is); (case c__law_drawn_frame => k_is); (case k__law_drawn_frame => k_is)
    intro f__law_drawn_frame fd__law_drawn_frame A__law_drawn_frame
    refine' PL.at_next (x := "_law_thick_frame") (st := LK13.s__law_thick_frame) (ps := ["well", "most"]) KX G ?a__law_thick_frame ?l__law_thick_frame ?c__law_thick_frame ?k__law_thick_frame (fun _ _ _ _ _ _ us hl => match us, hl with | [_, _], _ => rfl) ?n__law_thick_frame
    (case a__law_thick_frame => k_is); (case l__law_thick_frame => k_is); (case c__law_thick_frame => k_is); (case k__law_thick_frame => k_is)
    intro f__law_thick_frame fd__law_thick_frame A__law_thick_frame
    refine' PL.at_next (x := "_law_do_cross") (st := LK13.s__law_do_cross) (ps := ["bar", "post"]) KX G ?a__law_do_cross ?l__law_do_cross ?c__law_do_cross ?k__law_do_cross (fun _ _ _ _ _ _ us hl => match us, hl with | [_, _], _ => rfl) ?n__law_do_cross
    (case a__law_do_cross => k_is); (case l__law_do_cross => k_is); (case c__law_do_cross => k_is); (case k__law_do_cross => k_is)
    intro f__law_do_cross fd__law_do_cross A__law_do_cross
    refine' PL.at_next (x := "_law_crossings") (st := LK13.s__law_crossings) (ps := ["frame"]) KX G ?a__law_crossings ?l__law_crossings ?c__law_crossings ?k__law_crossings (fun _ _ _ _ _ _ us hl => match us, hl with | [_], _ => rfl) ?n__law_crossings
    (case a__law_crossings => k_is); (case l__law_crossings => k_is); (case c__law_crossings => k_is); (case k__law_crossings => k_is)
    intro f__law_crossings fd__law_crossings A__law_crossings
    refine' PL.at_next (x := "_law_drawn_work") (st := LK13.s__law_drawn_work) (ps := ["well", "frame", "words", "rare"]) KX G ?a__law_drawn_work ?l__law_drawn_work ?c__law_drawn_work ?k__law_drawn_work (fun _ _ _ _ _ _ us hl => match us, hl with | [_, _, _, _], _ => rfl) ?n__law_drawn_work
    (case a__law_drawn_work => k_is); (case l__law_drawn_work => k_is); (case c__law_drawn_work => k_is); (case k__law_drawn_work => k_is)
    intro f__law_drawn_work fd__law_drawn_work A__law_drawn_work
    refine' PL.at_next (x := "_law_cells") (st := LK13.s__law_cells) (ps := ["work"]) KX G ?a__law_cells ?l__law_cells ?c__law_cells ?k__law_cells (fun _ _ _ _ _ _ us hl => match us, hl with | [_], _ => rfl) ?n__law_cells
    (case a__law_cells => k_is); (case l__law_cells => k_is); (case c__law_cells => k_is); (case k__law_cells => k_is)
    intro f__law_cells fd__law_cells A__law_cells
    refine' PL.at_next (x := "_law_made_of") (st := LK13.s__law_made_of) (ps := ["work", "bars", "posts"]) KX G ?a__law_made_of ?l__law_made_of ?c__law_made_of ?k__law_made_of (fun _ _ _ _ _ _ us hl => match us, hl with | [_, _, _], _ => rfl) ?n__law_made_of
    (case a__law_made_of => k_is); (case l__law_made_of => k_is); (case c__law_made_of => k_is); (case k__law_made_of => k_is)
    intro f__law_made_of fd__law_made_of A__law_made_of
    refine' PL.at_next (x := "_law_some") (st := LK13.s__law_some) (ps := ["well", "things"]) KX G ?a__law_some ?l__law_some ?c__law_some ?k__law_some (fun _ _ _ _ _ _ us hl => match us, hl with | [_, _], _ => rfl) ?n__law_some
    (case a__law_some => k_is); (case l__law_some => k_is); (case c__law_some => k_is); (case k__law_some => k_is)
    intro f__law_some fd__law_some A__law_some
    refine' PL.at_next (x := "_law_few") (st := LK13.s__law_few) (ps := ["well", "many", "most"]) KX G ?a__law_few ?l__law_few ?c__law_few ?k__law_few (fun _ _ _ _ _ _ us hl => match us, hl with | [_, _, _], _ => rfl) ?n__law_few
    (case a__law_few => k_is); (case l__law_few => k_is); (case c__law_few => k_is); (case k__law_few => k_is)
    intro f__law_few fd__law_few A__law_few
    refine' PL.at_next (x := "_law_otherwise") (st := LK13.s__law_otherwise) (ps := ["well", "work"]) KX G ?a__law_otherwise ?l__law_otherwise ?c__law_otherwise ?k__law_otherwise (fun _ _ _ _ _ _ us hl => match us, hl with | [_, _], _ => rfl) ?n__law_otherwise
    (case a__law_otherwise => k_is); (case l__law_otherwise => k_is); (case c__law_otherwise => k_is); (case k__law_otherwise => k_is)
    intro f__law_otherwise fd__law_otherwise A__law_otherwise
    refine' PL.at_next (x := "_law_is") (st := LK13.s__law_is) (ps := ["one", "due"]) KX G ?a__law_is ?l__law_is ?c__law_is ?k__law_is (fun _ _ _ _ _ _ us hl => match us, hl with | [_, _], _ => rfl) ?n__law_is
    (case a__law_is => k_is); (case l__law_is => k_is); (case c__law_is => k_is); (case k__law_is => k_is)
    intro f__law_is fd__law_is A__law_is
    refine' PL.at_next (x := "do_cross") (st := LK13.s_do_cross) (ps := ["bar", "post"]) KX G ?a_do_cross ?l_do_cross ?c_do_cross ?k_do_cross (fun _ _ _ _ _ _ us hl => match us, hl with | [_, _], _ => rfl) ?n_do_cross
    (case a_do_cross => k_is); (case l_do_cross => k_is); (case c_do_cross => k_is); (case k_do_cross => k_is)
    intro f_do_cross fd_do_cross A_do_cross
    refine' PL.at_next (x := "crossings_by") (st := LK13.s_crossings_by) (ps := ["frame"]) KX G ?a_crossings_by ?l_crossings_by ?c_crossings_by ?k_crossings_by (fun _ _ _ _ _ _ us hl => match us, hl with | [_], _ => rfl) ?n_crossings_by
    (case a_crossings_by => k_is); (case l_crossings_by => k_is); (case c_crossings_by => k_is); (case k_crossings_by => k_is)
    intro f_crossings_by fd_crossings_by A_crossings_by
    refine' PL.at_next (x := "is_word_of") (st := LK13.s_is_word_of) (ps := ["value", "words"]) KX G ?a_is_word_of ?l_is_word_of ?c_is_word_of ?k_is_word_of (fun _ _ _ _ _ _ us hl => match us, hl with | [_, _], _ => rfl) ?n_is_word_of
    (case a_is_word_of => k_is); (case l_is_word_of => k_is); (case c_is_word_of => k_is); (case k_is_word_of => k_is)
    intro f_is_word_of fd_is_word_of A_is_word_of
    refine' PL.at_next (x := "first_wrong_over") (st := LK13.s_first_wrong_over) (ps := ["frame", "value", "words"]) KX G ?a_first_wrong_over ?l_first_wrong_over ?c_first_wrong_over ?k_first_wrong_over (fun _ _ _ _ _ _ us hl => match us, hl with | [_, _, _], _ => rfl) ?n_first_wrong_over
    (case a_first_wrong_over => k_is); (case l_first_wrong_over => k_is); (case c_first_wrong_over => k_is); (case k_first_wrong_over => k_is)
    intro f_first_wrong_over fd_first_wrong_over A_first_wrong_over
    refine' PL.at_next (x := "are_overs") (st := LK13.s_are_overs) (ps := ["frame", "value", "words"]) KX G ?a_are_overs ?l_are_overs ?c_are_overs ?k_are_overs (fun _ _ _ _ _ _ us hl => match us, hl with | [_, _, _], _ => rfl) ?n_are_overs
    (case a_are_overs => k_is); (case l_are_overs => k_is); (case c_are_overs => k_is); (case k_are_overs => k_is)
    intro f_are_overs fd_are_overs A_are_overs
    refine' PL.at_next (x := "is_ascending") (st := LK13.s_is_ascending) (ps := ["row"]) KX G ?a_is_ascending ?l_is_ascending ?c_is_ascending ?k_is_ascending (fun _ _ _ _ _ _ us hl => match us, hl with | [_], _ => rfl) ?n_is_ascending
    (case a_is_ascending => k_is); (case l_is_ascending => k_is); (case c_is_ascending => k_is); (case k_is_ascending => k_is)
    intro f_is_ascending fd_is_ascending A_is_ascending
    refine' PL.at_next (x := "is_tuple_of") (st := LK13.s_is_tuple_of) (ps := ["value", "many"]) KX G ?a_is_tuple_of ?l_is_tuple_of ?c_is_tuple_of ?k_is_tuple_of (fun _ _ _ _ _ _ us hl => match us, hl with | [_, _], _ => rfl) ?n_is_tuple_of
    (case a_is_tuple_of => k_is); (case l_is_tuple_of => k_is); (case c_is_tuple_of => k_is); (case k_is_tuple_of => k_is)
    intro f_is_tuple_of fd_is_tuple_of A_is_tuple_of
    refine' PL.at_next (x := "is_whole") (st := LK13.s_is_whole) (ps := ["value"]) KX G ?a_is_whole ?l_is_whole ?c_is_whole ?k_is_whole (fun _ _ _ _ _ _ us hl => match us, hl with | [_], _ => rfl) ?n_is_whole
    (case a_is_whole => k_is); (case l_is_whole => k_is); (case c_is_whole => k_is); (case k_is_whole => k_is)
    intro f_is_whole fd_is_whole A_is_whole
    refine' PL.at_next (x := "are_wholes") (st := LK13.s_are_wholes) (ps := ["value", "many"]) KX G ?a_are_wholes ?l_are_wholes ?c_are_wholes ?k_are_wholes (fun _ _ _ _ _ _ us hl => match us, hl with | [_, _], _ => rfl) ?n_are_wholes
    (case a_are_wholes => k_is); (case l_are_wholes => k_is); (case c_are_wholes => k_is); (case k_are_wholes => k_is)
    intro f_are_wholes fd_are_wholes A_are_wholes
    refine' PL.at_next (x := "are_nails") (st := LK13.s_are_nails) (ps := ["frame", "value"]) KX G ?a_are_nails ?l_are_nails ?c_are_nails ?k_are_nails (fun _ _ _ _ _ _ us hl => match us, hl with | [_, _], _ => rfl) ?n_are_nails
    (case a_are_nails => k_is); (case l_are_nails => k_is); (case c_are_nails => k_is); (case k_are_nails => k_is)
    intro f_are_nails fd_are_nails A_are_nails
    refine' PL.at_next (x := "do_follow") (st := LK13.s_do_follow) (ps := ["strip", "other"]) KX G ?a_do_follow ?l_do_follow ?c_do_follow ?k_do_follow (fun _ _ _ _ _ _ us hl => match us, hl with | [_, _], _ => rfl) ?n_do_follow
    (case a_do_follow => k_is); (case l_do_follow => k_is); (case c_do_follow => k_is); (case k_do_follow => k_is)
    intro f_do_follow fd_do_follow A_do_follow
    refine' PL.at_next (x := "is_between") (st := LK13.s_is_between) (ps := ["value", "low", "high"]) KX G ?a_is_between ?l_is_between ?c_is_between ?k_is_between (fun _ _ _ _ _ _ us hl => match us, hl with | [_, _, _], _ => rfl) ?n_is_between
    (case a_is_between => k_is); (case l_is_between => k_is); (case c_is_between => k_is); (case k_is_between => k_is)
    intro f_is_between fd_is_between A_is_between
    refine' PL.at_next (x := "is_strip") (st := LK13.s_is_strip) (ps := ["value"]) KX G ?a_is_strip ?l_is_strip ?c_is_strip ?k_is_strip (fun _ _ _ _ _ _ us hl => match us, hl with | [_], _ => rfl) ?n_is_strip
    (case a_is_strip => k_is); (case l_is_strip => k_is); (case c_is_strip => k_is); (case k_is_strip => k_is)
    intro f_is_strip fd_is_strip A_is_strip
    refine' PL.at_next (x := "are_strips") (st := LK13.s_are_strips) (ps := ["value"]) KX G ?a_are_strips ?l_are_strips ?c_are_strips ?k_are_strips (fun _ _ _ _ _ _ us hl => match us, hl with | [_], _ => rfl) ?n_are_strips
    (case a_are_strips => k_is); (case l_are_strips => k_is); (case c_are_strips => k_is); (case k_are_strips => k_is)
    intro f_are_strips fd_are_strips A_are_strips
    refine' PL.at_next (x := "is_framed") (st := LK13.s_is_framed) (ps := ["value"]) KX G ?a_is_framed ?l_is_framed ?c_is_framed ?k_is_framed (fun _ _ _ _ _ _ us hl => match us, hl with | [_], _ => rfl) ?n_is_framed
    (case a_is_framed => k_is); (case l_is_framed => k_is); (case c_is_framed => k_is); (case k_is_framed => k_is)
    intro f_is_framed fd_is_framed A_is_framed
    refine' PL.at_next (x := "is_with") (st := LK13.s_is_with) (ps := ["value", "words"]) KX G ?a_is_with ?l_is_with ?c_is_with ?k_is_with (fun _ _ _ _ _ _ us hl => match us, hl with | [_, _], _ => rfl) ?n_is_with
    (case a_is_with => k_is); (case l_is_with => k_is); (case c_is_with => k_is); (case k_is_with => k_is)
    intro f_is_with fd_is_with A_is_with
    refine' PL.at_next (x := "is_worked") (st := LK13.s_is_worked) (ps := ["value"]) KX G ?a_is_worked ?l_is_worked ?c_is_worked ?k_is_worked (fun _ _ _ _ _ _ us hl => match us, hl with | [_], _ => rfl) ?n_is_worked
    (case a_is_worked => k_is); (case l_is_worked => k_is); (case c_is_worked => k_is); (case k_is_worked => k_is)
    intro f_is_worked fd_is_worked A_is_worked
    refine' PL.at_next (x := "check_work") (st := LK13.s_check_work) (ps := ["work"]) KX G ?a_check_work ?l_check_work ?c_check_work ?k_check_work (fun _ _ _ _ _ _ us hl => match us, hl with | [_], _ => rfl) ?n_check_work
    (case a_check_work => k_is); (case l_check_work => k_is); (case c_check_work => k_is); (case k_check_work => k_is)
    intro f_check_work fd_check_work A_check_work
    refine' PL.at_next (x := "choices_of") (st := LK13.s_choices_of) (ps := ["many", "some"]) KX G ?a_choices_of ?l_choices_of ?c_choices_of ?k_choices_of (fun _ _ _ _ _ _ us hl => match us, hl with | [_, _], _ => rfl) ?n_choices_of
    (case a_choices_of => k_is); (case l_choices_of => k_is); (case c_choices_of => k_is); (case k_choices_of => k_is)
    intro f_choices_of fd_choices_of A_choices_of
    refine' PL.at_next (x := "told_crossings") (st := LK13.s_told_crossings) (ps := ["work"]) KX G ?a_told_crossings ?l_told_crossings ?c_told_crossings ?k_told_crossings (fun _ _ _ _ _ _ us hl => match us, hl with | [_], _ => rfl) ?n_told_crossings
    (case a_told_crossings => k_is); (case l_told_crossings => k_is); (case c_told_crossings => k_is); (case k_told_crossings => k_is)
    intro f_told_crossings fd_told_crossings A_told_crossings
    refine' PL.at_next (x := "sizes_of") (st := LK13.s_sizes_of) (ps := ["work"]) KX G ?a_sizes_of ?l_sizes_of ?c_sizes_of ?k_sizes_of (fun _ _ _ _ _ _ us hl => match us, hl with | [_], _ => rfl) ?n_sizes_of
    (case a_sizes_of => k_is); (case l_sizes_of => k_is); (case c_sizes_of => k_is); (case k_sizes_of => k_is)
    intro f_sizes_of fd_sizes_of A_sizes_of
    refine' PL.at_next (x := "is_like_at") (st := LK13.s_is_like_at) (ps := ["told", "small", "bar", "post", "at"]) KX G ?a_is_like_at ?l_is_like_at ?c_is_like_at ?k_is_like_at (fun _ _ _ _ _ _ us hl => match us, hl with | [_, _, _, _, _], _ => rfl) ?n_is_like_at
    (case a_is_like_at => k_is); (case l_is_like_at => k_is); (case c_is_like_at => k_is); (case k_is_like_at => k_is)
    intro f_is_like_at fd_is_like_at A_is_like_at
    refine' PL.at_next (x := "is_like") (st := LK13.s_is_like) (ps := ["told", "small", "bars", "posts"]) KX G ?a_is_like ?l_is_like ?c_is_like ?k_is_like (fun _ _ _ _ _ _ us hl => match us, hl with | [_, _, _, _], _ => rfl) ?n_is_like
    (case a_is_like => k_is); (case l_is_like => k_is); (case c_is_like => k_is); (case k_is_like => k_is)
    intro f_is_like fd_is_like A_is_like
    refine' PL.at_next (x := "finds_by") (st := LK13.s_finds_by) (ps := ["work", "small"]) KX G ?a_finds_by ?l_finds_by ?c_finds_by ?k_finds_by (fun _ _ _ _ _ _ us hl => match us, hl with | [_, _], _ => rfl) ?n_finds_by
    (case a_finds_by => k_is); (case l_finds_by => k_is); (case c_finds_by => k_is); (case k_finds_by => k_is)
    intro f_finds_by fd_finds_by A_finds_by
    refine' PL.at_next (x := "finds") (st := LK13.s_finds) (ps := ["work", "small"]) KX G ?a_finds ?l_finds ?c_finds ?k_finds (fun _ _ _ _ _ _ us hl => match us, hl with | [_, _], _ => rfl) ?n_finds
    (case a_finds => k_is); (case l_finds => k_is); (case c_finds => k_is); (case k_finds => k_is)
    intro f_finds fd_finds A_finds
    refine' PL.at_next (x := "_law_uncrossed") (st := LK13.s__law_uncrossed) (ps := ["work"]) KX G ?a__law_uncrossed ?l__law_uncrossed ?c__law_uncrossed ?k__law_uncrossed (fun _ _ _ _ _ _ us hl => match us, hl with | [_], _ => rfl) ?n__law_uncrossed
    (case a__law_uncrossed => k_is); (case l__law_uncrossed => k_is); (case c__law_uncrossed => k_is); (case k__law_uncrossed => k_is)
    intro f__law_uncrossed fd__law_uncrossed A__law_uncrossed
    refine' PL.at_next (x := "_law_singles_right") (st := LK13.s__law_singles_right) (ps := ["work"]) KX G ?a__law_singles_right ?l__law_singles_right ?c__law_singles_right ?k__law_singles_right (fun _ _ _ _ _ _ us hl => match us, hl with | [_], _ => rfl) ?n__law_singles_right
    (case a__law_singles_right => k_is); (case l__law_singles_right => k_is); (case c__law_singles_right => k_is); (case k__law_singles_right => k_is)
    intro f__law_singles_right fd__law_singles_right A__law_singles_right
    refine' PL.at_next (x := "is_work") (st := LK13.s_is_work) (ps := ["value"]) KX G ?a_is_work ?l_is_work ?c_is_work ?k_is_work (fun _ _ _ _ _ _ us hl => match us, hl with | [_], _ => rfl) ?n_is_work
    (case a_is_work => k_is); (case l_is_work => k_is); (case c_is_work => k_is); (case k_is_work => k_is)
    intro f_is_work fd_is_work A_is_work
    refine' PL.at_next (x := "_law_choices") (st := LK13.s__law_choices) (ps := ["many", "few"]) KX G ?a__law_choices ?l__law_choices ?c__law_choices ?k__law_choices (fun _ _ _ _ _ _ us hl => match us, hl with | [_, _], _ => rfl) ?n__law_choices
    (case a__law_choices => k_is); (case l__law_choices => k_is); (case c__law_choices => k_is); (case k__law_choices => k_is)
    intro f__law_choices fd__law_choices A__law_choices
    refine' PL.at_next (x := "_law_finds") (st := LK13.s__law_finds) (ps := ["work", "small"]) KX G ?a__law_finds ?l__law_finds ?c__law_finds ?k__law_finds (fun _ _ _ _ _ _ us hl => match us, hl with | [_, _], _ => rfl) ?n__law_finds
    (case a__law_finds => k_is); (case l__law_finds => k_is); (case c__law_finds => k_is); (case k__law_finds => k_is)
    intro f__law_finds fd__law_finds A__law_finds
    refine' PL.at_next (x := "first_find") (st := LK13.s_first_find) (ps := ["work", "small"]) KX G ?a_first_find ?l_first_find ?c_first_find ?k_first_find (fun _ _ _ _ _ _ us hl => match us, hl with | [_, _], _ => rfl) ?n_first_find
    (case a_first_find => k_is); (case l_first_find => k_is); (case c_first_find => k_is); (case k_first_find => k_is)
    intro f_first_find fd_first_find A_first_find
    refine' PL.at_next (x := "_law_finds_right") (st := LK13.s__law_finds_right) (ps := ["work", "small"]) KX G ?a__law_finds_right ?l__law_finds_right ?c__law_finds_right ?k__law_finds_right (fun _ _ _ _ _ _ us hl => match us, hl with | [_, _], _ => rfl) ?n__law_finds_right
    (case a__law_finds_right => k_is); (case l__law_finds_right => k_is); (case c__law_finds_right => k_is); (case k__law_finds_right => k_is)
    intro f__law_finds_right fd__law_finds_right A__law_finds_right
    refine' PL.at_next (x := "_law_right") (st := LK13.s__law_right) (ps := ["well"]) KX G ?a__law_right ?l__law_right ?c__law_right ?k__law_right (fun _ _ _ _ _ _ us hl => match us, hl with | [_], _ => rfl) ?n__law_right
    (case a__law_right => k_is); (case l__law_right => k_is); (case c__law_right => k_is); (case k__law_right => k_is)
    intro f__law_right fd__law_right A__law_right
    refine' PL.at_next (x := "_law_well") (st := LK13.s__law_well) (ps := ["script", "turn"]) KX G ?a__law_well ?l__law_well ?c__law_well ?k__law_well (fun _ _ _ _ _ _ us hl => match us, hl with | [_, _], _ => rfl) ?n__law_well
    (case a__law_well => k_is); (case l__law_well => k_is); (case c__law_well => k_is); (case k__law_well => k_is)
    intro f__law_well fd__law_well A__law_well
    refine' PL.at_next1 (x := "law") (y := "script") (st := LK13.s_law) KX G ?a_law ?l_law ?c_law ?k_law (fun _ _ _ _ _ _ _ => rfl) ?n_law
    (case a_law => k_is); (case l_law => k_is); (case c_law => k_is); (case k_law => k_is)
    intro f_law fd_law A_law B_law
    have e := hmg.symm.trans A_law.nm
    cases e
    refine ⟨fd_law, B_law, fun base _ _ => ?_⟩
    have T : LK13.Txt0 _ mg a_TOLD := ⟨z_abs, z_all, z_bool, z_dict, z_divmod, z_enumerate, z_int, z_isinstance, z_len, z_list, z_max, z_min, z_range, z_sorted, z_str, z_sum, z_tuple, z_zip, c_MOST_OF_KIND, c_MOST_PLACE, c_TOLD, r_TOLD⟩
    have G__law_take := LK13.ok__law_take (P := PySem.Challenge.rw_laidlaths_k13_whole_finds_beside_all_cho.prog) (w := w) (base := base) T A__law_take
    have G__law_go_beside := LK13.ok__law_go_beside (P := PySem.Challenge.rw_laidlaths_k13_whole_finds_beside_all_cho.prog) (w := w) (base := base) T A__law_go_beside
    have G__law_drawn_laths := LK13.ok__law_drawn_laths (P := PySem.Challenge.rw_laidlaths_k13_whole_finds_beside_all_cho.prog) (w := w) (base := base) T A__law_drawn_laths G__law_go_beside G__law_take
    have G__law_pick := LK13.ok__law_pick (P := PySem.Challenge.rw_laidlaths_k13_whole_finds_beside_all_cho.prog) (w := w) (base := base) T A__law_pick G__law_take
    have G__law_drawn_frame := LK13.ok__law_drawn_frame (P := PySem.Challenge.rw_laidlaths_k13_whole_finds_beside_all_cho.prog) (w := w) (base := base) T A__law_drawn_frame G__law_drawn_laths G__law_pick G__law_take
    have G__law_thick_frame := LK13.ok__law_thick_frame (P := PySem.Challenge.rw_laidlaths_k13_whole_finds_beside_all_cho.prog) (w := w) (base := base) T A__law_thick_frame G__law_take
    have G__law_do_cross := LK13.ok__law_do_cross (P := PySem.Challenge.rw_laidlaths_k13_whole_finds_beside_all_cho.prog) (w := w) (base := base) T A__law_do_cross
    have G__law_crossings := LK13.ok__law_crossings (P := PySem.Challenge.rw_laidlaths_k13_whole_finds_beside_all_cho.prog) (w := w) (base := base) T A__law_crossings G__law_do_cross
    have G__law_drawn_work := LK13.ok__law_drawn_work (P := PySem.Challenge.rw_laidlaths_k13_whole_finds_beside_all_cho.prog) (w := w) (base := base) T A__law_drawn_work G__law_crossings G__law_pick G__law_take
    have G__law_cells := LK13.ok__law_cells (P := PySem.Challenge.rw_laidlaths_k13_whole_finds_beside_all_cho.prog) (w := w) (base := base) T A__law_cells G__law_crossings
    have G__law_made_of := LK13.ok__law_made_of (P := PySem.Challenge.rw_laidlaths_k13_whole_finds_beside_all_cho.prog) (w := w) (base := base) T A__law_made_of G__law_cells G__law_crossings
    have G__law_some := LK13.ok__law_some (P := PySem.Challenge.rw_laidlaths_k13_whole_finds_beside_all_cho.prog) (w := w) (base := base) T A__law_some G__law_pick G__law_take
    have G__law_few := LK13.ok__law_few (P := PySem.Challenge.rw_laidlaths_k13_whole_finds_beside_all_cho.prog) (w := w) (base := base) T A__law_few G__law_some
    have G__law_otherwise := LK13.ok__law_otherwise (P := PySem.Challenge.rw_laidlaths_k13_whole_finds_beside_all_cho.prog) (w := w) (base := base) T A__law_otherwise G__law_crossings G__law_take
    have G__law_is := LK13.ok__law_is (P := PySem.Challenge.rw_laidlaths_k13_whole_finds_beside_all_cho.prog) (w := w) (base := base) T A__law_is 8
    have G_do_cross := LK13.ok_do_cross (P := PySem.Challenge.rw_laidlaths_k13_whole_finds_beside_all_cho.prog) (w := w) (base := base) T A_do_cross
    have G_crossings_by := LK13.ok_crossings_by (P := PySem.Challenge.rw_laidlaths_k13_whole_finds_beside_all_cho.prog) (w := w) (base := base) T A_crossings_by G_do_cross
    have G_is_word_of := LK13.ok_is_word_of (P := PySem.Challenge.rw_laidlaths_k13_whole_finds_beside_all_cho.prog) (w := w) (base := base) T A_is_word_of
    have G_first_wrong_over := LK13.ok_first_wrong_over (P := PySem.Challenge.rw_laidlaths_k13_whole_finds_beside_all_cho.prog) (w := w) (base := base) T A_first_wrong_over G_crossings_by G_is_word_of
    have G_are_overs := LK13.ok_are_overs (P := PySem.Challenge.rw_laidlaths_k13_whole_finds_beside_all_cho.prog) (w := w) (base := base) T A_are_overs G_first_wrong_over
    have G_is_ascending := LK13.ok_is_ascending (P := PySem.Challenge.rw_laidlaths_k13_whole_finds_beside_all_cho.prog) (w := w) (base := base) T A_is_ascending
    have G_is_tuple_of := LK13.ok_is_tuple_of (P := PySem.Challenge.rw_laidlaths_k13_whole_finds_beside_all_cho.prog) (w := w) (base := base) T A_is_tuple_of
    have G_is_whole := LK13.ok_is_whole (P := PySem.Challenge.rw_laidlaths_k13_whole_finds_beside_all_cho.prog) (w := w) (base := base) T A_is_whole
    have G_are_wholes := LK13.ok_are_wholes (P := PySem.Challenge.rw_laidlaths_k13_whole_finds_beside_all_cho.prog) (w := w) (base := base) T A_are_wholes G_is_tuple_of G_is_whole
    have G_are_nails := LK13.ok_are_nails (P := PySem.Challenge.rw_laidlaths_k13_whole_finds_beside_all_cho.prog) (w := w) (base := base) T A_are_nails G_are_wholes G_crossings_by G_is_ascending
    have G_do_follow := LK13.ok_do_follow (P := PySem.Challenge.rw_laidlaths_k13_whole_finds_beside_all_cho.prog) (w := w) (base := base) T A_do_follow
    have G_is_between := LK13.ok_is_between (P := PySem.Challenge.rw_laidlaths_k13_whole_finds_beside_all_cho.prog) (w := w) (base := base) T A_is_between G_is_whole
    have G_is_strip := LK13.ok_is_strip (P := PySem.Challenge.rw_laidlaths_k13_whole_finds_beside_all_cho.prog) (w := w) (base := base) T A_is_strip G_are_wholes G_is_between
    have G_are_strips := LK13.ok_are_strips (P := PySem.Challenge.rw_laidlaths_k13_whole_finds_beside_all_cho.prog) (w := w) (base := base) T A_are_strips G_do_follow G_is_strip
    have G_is_framed := LK13.ok_is_framed (P := PySem.Challenge.rw_laidlaths_k13_whole_finds_beside_all_cho.prog) (w := w) (base := base) T A_is_framed G_are_strips G_is_tuple_of
    have G_is_with := LK13.ok_is_with (P := PySem.Challenge.rw_laidlaths_k13_whole_finds_beside_all_cho.prog) (w := w) (base := base) T A_is_with G_are_nails G_are_overs G_is_framed G_is_tuple_of
    have G_is_worked := LK13.ok_is_worked (P := PySem.Challenge.rw_laidlaths_k13_whole_finds_beside_all_cho.prog) (w := w) (base := base) T A_is_worked G_is_with
    have G_check_work := LK13.ok_check_work (P := PySem.Challenge.rw_laidlaths_k13_whole_finds_beside_all_cho.prog) (w := w) (base := base) T A_check_work G_is_worked
    have G_choices_of := LK13.ok_choices_of (P := PySem.Challenge.rw_laidlaths_k13_whole_finds_beside_all_cho.prog) (w := w) (base := base) T A_choices_of
    have G_told_crossings := LK13.ok_told_crossings (P := PySem.Challenge.rw_laidlaths_k13_whole_finds_beside_all_cho.prog) (w := w) (base := base) T A_told_crossings G_crossings_by
    have G_sizes_of := LK13.ok_sizes_of (P := PySem.Challenge.rw_laidlaths_k13_whole_finds_beside_all_cho.prog) (w := w) (base := base) T A_sizes_of
    have G_is_like_at := LK13.ok_is_like_at (P := PySem.Challenge.rw_laidlaths_k13_whole_finds_beside_all_cho.prog) (w := w) (base := base) T A_is_like_at
    have G_is_like := LK13.ok_is_like (P := PySem.Challenge.rw_laidlaths_k13_whole_finds_beside_all_cho.prog) (w := w) (base := base) T A_is_like G_is_like_at
    have G_finds_by := LK13.ok_finds_by (P := PySem.Challenge.rw_laidlaths_k13_whole_finds_beside_all_cho.prog) (w := w) (base := base) T A_finds_by G_choices_of G_is_like G_sizes_of G_told_crossings
    have G_finds := LK13.ok_finds (P := PySem.Challenge.rw_laidlaths_k13_whole_finds_beside_all_cho.prog) (w := w) (base := base) T A_finds G_check_work G_finds_by
    have G__law_uncrossed := LK13.ok__law_uncrossed (P := PySem.Challenge.rw_laidlaths_k13_whole_finds_beside_all_cho.prog) (w := w) (base := base) T A__law_uncrossed G__law_cells
    have G__law_singles_right := LK13.ok__law_singles_right (P := PySem.Challenge.rw_laidlaths_k13_whole_finds_beside_all_cho.prog) (w := w) (base := base) T A__law_singles_right G__law_cells G__law_crossings G__law_is G__law_uncrossed G_finds
    have G_is_work := LK13.ok_is_work (P := PySem.Challenge.rw_laidlaths_k13_whole_finds_beside_all_cho.prog) (w := w) (base := base) T A_is_work G_is_worked
    have G__law_choices := LK13.ok__law_choices (P := PySem.Challenge.rw_laidlaths_k13_whole_finds_beside_all_cho.prog) (w := w) (base := base) T A__law_choices
    have G__law_finds := LK13.ok__law_finds (P := PySem.Challenge.rw_laidlaths_k13_whole_finds_beside_all_cho.prog) (w := w) (base := base) T A__law_finds G__law_cells G__law_choices
    have G_first_find := LK13.ok_first_find (P := PySem.Challenge.rw_laidlaths_k13_whole_finds_beside_all_cho.prog) (w := w) (base := base) T A_first_find G_check_work G_finds_by
    have KB_finds_0_1_0 := PL.kbinds_funP (n := 0) (pm := [1, 0]) (ks := ["small", "work"]) (ps := ["work", "small"]) A_finds.fn (by decide) (fun _ _ _ _ _ _ us ws h1 h2 => match us, ws, h1, h2 with | [], [_, _], _, _ => rfl)
    have KB_first_find_0_1_0 := PL.kbinds_funP (n := 0) (pm := [1, 0]) (ks := ["small", "work"]) (ps := ["work", "small"]) A_first_find.fn (by decide) (fun _ _ _ _ _ _ us ws h1 h2 => match us, ws, h1, h2 with | [], [_, _], _, _ => rfl)
    have G__law_finds_right := LK13.ok__law_finds_right (P := PySem.Challenge.rw_laidlaths_k13_whole_finds_beside_all_cho.prog) (w := w) (base := base) T A__law_finds_right G__law_finds G__law_is G_finds G_first_find KB_finds_0_1_0 KB_first_find_0_1_0
    have G__law_right := LK13.ok__law_right (P := PySem.Challenge.rw_laidlaths_k13_whole_finds_beside_all_cho.prog) (w := w) (base := base) T A__law_right G__law_drawn_frame G__law_drawn_work G__law_few G__law_finds_right G__law_is G__law_made_of G__law_otherwise G__law_pick G__law_singles_right G__law_thick_frame G_finds G_is_work
    have G__law_well := LK13.ok__law_well (P := PySem.Challenge.rw_laidlaths_k13_whole_finds_beside_all_cho.prog) (w := w) (base := base) T A__law_well
    have G_law := LK13.ok_law (P := PySem.Challenge.rw_laidlaths_k13_whole_finds_beside_all_cho.prog) (w := w) (base := base) T A_law G__law_right G__law_well
    exact G_law.ok.imp (PL.sp_law (mg := mg) LK13.law_ok)

