import PyProof.Rows.All
import Wide.All
import OpenK.AllK
import Wide.FinOn
import HandS.ForMost
import HandS.Exc
import HandS.ExcOwn
import HandS.WordsExc
import HandS.Wide
import HandS.SortInts
import HandS.NoneIn
import HandS.TryMany
import HandS.Flow
import HandS.Style
import PyProof.TupleOfSeq
import HandS.ExcValue
import KE.KExcSuper
import HandS.IsInst
import HandS.Deep
import HandS.Gcd
import HandS.EndBits
import HandS.Property
import HandS.SlotsOwn
import HandS.Zip
import HandS.IterVal
import KE.KOwnIter
import HandS.OwnIter
import PyProof.TwoTypes
import PyProof.ListMulRoad
import PySem.Challenge.RW_twolots_k12_multiply
set_option Elab.async false
set_option linter.all false
set_option maxRecDepth 100000
set_option maxHeartbeats 4000000
/-! VL: a layer of plain values over HandS. D: what a Python value is worth; Rep: how a heap bears it; EnvOk: how a frame's slots bear the values; VE, VS: judgements over plain values. -/
namespace VL
open PySem PySem.Spec PyProof.Rows L2

inductive D where
  | non | bl (b : Bool) | int (i : Int) | str (x : Str)
  | lst (ds : List D) | tup (ds : List D)
  | obj (c : Str) (ns : List Str) (ds : List D)
  | dct (ks : List Key) (ds : List D)
  | scr (ns : List Int)

/-- scalars: what needs no heap -/
def D.sc : D → Bool
  | .non => true | .bl _ => true | .int _ => true | .str _ => true | _ => false

inductive Rg where | nw | od | tn | to
  deriving DecidableEq
def Rg.el : Rg → Rg | .tn => .nw | .to => .od | r => r
def Rg.st : Rg → Bool | .nw => true | .od => true | _ => false
def Rg.tr : Rg → Rg | .nw => .tn | .od => .to | r => r
/-- both -/
def Rg.mx : Rg → Rg → Rg | .nw, r => r | .od, .nw => .od | .od, .od => .od | .od, _ => .to | .tn, .nw => .tn | .tn, .tn => .tn | .tn, _ => .to | .to, _ => .to
def nm (r : Rg) (d : D) : Rg := if d.sc then .nw else r

abbrev Mg := Str → Option Value
mutual
def Rep (K : PySem.W.Frag) (mg : Mg) (G : Hp) : D → V → Prop
  | .non, v => v = .non
  | .bl b, v => v = .bl b
  | .int i, v => v = .int i
  | .str x, v => v = .str x
  | .lst ds, v => ∃ a vs, v = .ref a ∧ Rd G a (.lst vs) ∧ Reps K mg G ds vs
  | .tup ds, v => ∃ a vs, v = .ref a ∧ SqT K G a vs ∧ Reps K mg G ds vs
  | .obj c ns ds, v => ∃ a C dx vs, v = .ref a ∧ mg c = some (.ref C) ∧ G a = some (.ins C dx (ns.zip vs)) ∧ ns.length = ds.length ∧ Reps K mg G ds vs
  | .dct ks ds, v => ∃ a vs, v = .ref a ∧ G a = some (.dK (ks.zip vs)) ∧ ks.length = ds.length ∧ Reps K mg G ds vs
  | .scr ns, v => ∃ a, v = .ref a ∧ SqL K G a (ns.map V.int)
def Reps (K : PySem.W.Frag) (mg : Mg) (G : Hp) : List D → List V → Prop
  | [], vs => vs = []
  | d :: ds, vs => ∃ v r, vs = v :: r ∧ Rep K mg G d v ∧ Reps K mg G ds r
end

section
variable {K : PySem.W.Frag} {mg : Mg} {G G' : Hp}
theorem Same.tup {H H' : Hp} {a : Addr} {xs : List V} (e : Same H H') (h : SqT K H a xs) : SqT K H' a xs := by
  rcases h with (h | ⟨o, h⟩) | h
  · exact .inl (.inl (e _ _ h))
  · exact .inl (.inr ⟨o, e _ _ h⟩)
  · exact .inr h
theorem Same.sql {H H' : Hp} {a : Addr} {xs : List V} (e : Same H H') (h : SqL K H a xs) : SqL K H' a xs := by
  rcases h with (h | ⟨o, h⟩) | h
  · exact .inl (.inl (e _ _ h))
  · exact .inl (.inr ⟨o, e _ _ h⟩)
  · exact .inr h
theorem Same.rd {H H' : Hp} {a : Addr} {u : HO} (e : Same H H') (h : Rd H a u) : Rd H' a u := by
  rcases h with h | ⟨o, h⟩
  · exact .inl (e _ _ h)
  · exact .inr ⟨o, e _ _ h⟩
mutual
theorem Rep.mono (e : Same G G') : ∀ {d : D} {v : V}, Rep K mg G d v → Rep K mg G' d v
  | .non, _, h => by simpa only [Rep] using h
  | .bl _, _, h => by simpa only [Rep] using h
  | .int _, _, h => by simpa only [Rep] using h
  | .str _, _, h => by simpa only [Rep] using h
  | .lst ds, _, h => by
    simp only [Rep] at h ⊢
    obtain ⟨a, vs, e1, e2, e3⟩ := h
    exact ⟨a, vs, e1, Same.rd e e2, Reps.mono e e3⟩
  | .tup ds, _, h => by
    simp only [Rep] at h ⊢
    obtain ⟨a, vs, e1, e2, e3⟩ := h
    exact ⟨a, vs, e1, Same.tup e e2, Reps.mono e e3⟩
  | .obj c ns ds, _, h => by
    simp only [Rep] at h ⊢
    obtain ⟨a, C, dx, vs, e1, e2, e3, e4, e5⟩ := h
    exact ⟨a, C, dx, vs, e1, e2, e _ _ e3, e4, Reps.mono e e5⟩
  | .dct ks ds, _, h => by
    simp only [Rep] at h ⊢
    obtain ⟨a, vs, e1, e3, e4, e5⟩ := h
    exact ⟨a, vs, e1, e _ _ e3, e4, Reps.mono e e5⟩
  | .scr ns, _, h => by
    simp only [Rep] at h ⊢
    obtain ⟨a, e1, e3⟩ := h
    exact ⟨a, e1, Same.sql e e3⟩
theorem Reps.mono (e : Same G G') : ∀ {ds : List D} {vs : List V}, Reps K mg G ds vs → Reps K mg G' ds vs
  | [], _, h => by simpa only [Reps] using h
  | d :: ds, _, h => by
    simp only [Reps] at h ⊢
    obtain ⟨v, r, e1, e2, e3⟩ := h
    exact ⟨v, r, e1, Rep.mono e e2, Reps.mono e e3⟩
end
theorem Rep.sc_any {d : D} {v : V} (h : Rep K mg G d v) (s : d.sc = true) : Rep K mg G' d v := by
  cases d <;> first | (simpa only [Rep] using h) | (cases s)
theorem Reps.len : ∀ {ds : List D} {vs : List V}, Reps K mg G ds vs → ds.length = vs.length
  | [], _, h => by simp only [Reps] at h; subst h; rfl
  | d :: ds, _, h => by
    simp only [Reps] at h
    obtain ⟨v, r, rfl, _, h3⟩ := h
    simp only [List.length_cons, Reps.len h3]
theorem Reps.nil : Reps K mg G [] [] := by simp only [Reps]
theorem Reps.cons {d : D} {v : V} {ds : List D} {vs : List V} (h : Rep K mg G d v) (h2 : Reps K mg G ds vs) : Reps K mg G (d :: ds) (v :: vs) := by
  simp only [Reps]; exact ⟨v, vs, rfl, h, h2⟩
theorem Reps.append : ∀ {ds es : List D} {vs ws : List V}, Reps K mg G ds vs → Reps K mg G es ws → Reps K mg G (ds ++ es) (vs ++ ws)
  | [], _, _, _, h, h2 => by simp only [Reps] at h; subst h; exact h2
  | d :: ds, _, _, _, h, h2 => by
    simp only [Reps] at h
    obtain ⟨v, r, rfl, h1, h3⟩ := h
    exact Reps.cons h1 (Reps.append h3 h2)
theorem Reps.get : ∀ {ds : List D} {vs : List V} {i : Nat} {d : D}, Reps K mg G ds vs → ds[i]? = some d → ∃ v, vs[i]? = some v ∧ Rep K mg G d v
  | [], _, _, _, _, e => by simp at e
  | d :: ds, _, i, _, h, e => by
    simp only [Reps] at h
    obtain ⟨v, r, rfl, h1, h3⟩ := h
    cases i with
    | zero => simp at e; subst e; exact ⟨v, rfl, h1⟩
    | succ i => simp at e; obtain ⟨v', e1, e2⟩ := Reps.get h3 e; exact ⟨v', by simpa using e1, e2⟩
theorem Reps.getV {ds : List D} {vs : List V} {i : Nat} {v : V} (h : Reps K mg G ds vs) (e : vs[i]? = some v) : ∃ d, ds[i]? = some d ∧ Rep K mg G d v := by
  have hi : i < ds.length := by rw [h.len]; exact (List.getElem?_eq_some_iff.mp e).1
  obtain ⟨v', e1, e2⟩ := h.get (List.getElem?_eq_getElem hi)
  rw [e] at e1; cases e1
  exact ⟨_, List.getElem?_eq_getElem hi, e2⟩
theorem Reps.ints : ∀ {ns : List Int} {vs : List V}, Reps K mg G (ns.map D.int) vs → vs = ns.map V.int
  | [], _, h => by simpa only [Reps, List.map_nil] using h
  | n :: ns, _, h => by
    simp only [Reps, List.map_cons, Rep] at h
    obtain ⟨v, r, rfl, rfl, h3⟩ := h
    rw [Reps.ints h3, List.map_cons]
theorem Reps.of_ints : ∀ (ns : List Int), Reps K mg G (ns.map D.int) (ns.map V.int)
  | [] => Reps.nil
  | n :: ns => Reps.cons (by simp only [Rep]) (Reps.of_ints ns)
end

/-- the content of an object that is one's own -/
inductive Ct where
  | lst (ds : List D) | dct (ks : List Key) (ds : List D) | ins (c : Str) (ns : List Str) (ds : List D)
def Ct.toD : Ct → D
  | .lst ds => .lst ds | .dct ks ds => .dct ks ds | .ins c ns ds => .obj c ns ds
def RepC (K : PySem.W.Frag) (mg : Mg) (G : Hp) : Ct → HO → Prop
  | .lst ds, o => ∃ vs, o = .lst vs ∧ Reps K mg G ds vs
  | .dct ks ds, o => ∃ vs, o = .dK (ks.zip vs) ∧ ks.length = ds.length ∧ Reps K mg G ds vs
  | .ins c ns ds, o => ∃ C dx vs, mg c = some (.ref C) ∧ o = .ins C dx (ns.zip vs) ∧ ns.length = ds.length ∧ Reps K mg G ds vs
theorem RepC.mono {K : PySem.W.Frag} {mg : Mg} {G G' : Hp} (e : Same G G') {c : Ct} {o : HO} (h : RepC K mg G c o) : RepC K mg G' c o := by
  cases c with
  | lst ds => obtain ⟨vs, h1, h2⟩ := h; exact ⟨vs, h1, h2.mono e⟩
  | dct ks ds => obtain ⟨vs, h1, h0, h2⟩ := h; exact ⟨vs, h1, h0, h2.mono e⟩
  | ins c ns ds => obtain ⟨C, dx, vs, h1, h2, h3, h4⟩ := h; exact ⟨C, dx, vs, h1, h2, h3, h4.mono e⟩
theorem RepC.rep {K : PySem.W.Frag} {mg : Mg} {G : Hp} {c : Ct} {o : HO} {a : Addr} (h : RepC K mg G c o) (e : G a = some o) : Rep K mg G c.toD (.ref a) := by
  cases c with
  | lst ds => obtain ⟨vs, rfl, h2⟩ := h; simp only [Ct.toD, Rep]; exact ⟨a, vs, rfl, Rd.of e, h2⟩
  | dct ks ds => obtain ⟨vs, rfl, h0, h2⟩ := h; simp only [Ct.toD, Rep]; exact ⟨a, vs, rfl, e, h0, h2⟩
  | ins c ns ds => obtain ⟨C, dx, vs, h1, rfl, h3, h4⟩ := h; simp only [Ct.toD, Rep]; exact ⟨a, C, dx, vs, rfl, h1, e, h3, h4⟩

/-- an exception: its class, its fields -/
structure Exc where
  c : Str
  ns : List Str
  ds : List D
def RepX (K : PySem.W.Frag) (mg : Mg) (G H : Hp) (x : Exc) (cls : Value) (dd : Option Addr) : Prop :=
  ∃ C, mg x.c = some (.ref C) ∧ cls = .ref C ∧ ((x.ns = [] ∧ x.ds = [] ∧ dd = none) ∨ ∃ d vs, dd = some d ∧ H d = some (.xd (x.ns.zip vs)) ∧ x.ns.length = x.ds.length ∧ Reps K mg G x.ds vs)
theorem RepX.up {K : PySem.W.Frag} {mg : Mg} {G H G' H' : Hp} {x : Exc} {cls : Value} {dd : Option Addr} (h : RepX K mg G H x cls dd) (a : Same G G') (b : Same H H') : RepX K mg G' H' x cls dd := by
  obtain ⟨C, h1, h2, h3⟩ := h
  refine ⟨C, h1, h2, ?_⟩
  rcases h3 with h | ⟨d, vs, e1, e2, e3, e4⟩
  · exact .inl h
  · exact .inr ⟨d, vs, e1, b _ _ e2, e3, e4.mono a⟩
/-- a slot -/
inductive B where
  | no | v (r : Rg) (d : D) | own (r : Rg) (c : Ct) | raw (x : V)
/-- a value that waits -/
inductive T where
  | v (r : Rg) (d : D) (x : V) | own (a : Addr) (r : Rg) (c : Ct) | exc (x : Exc) (cls : Value) (dd : Option Addr)
def T.cell : T → Option Addr | .own a _ _ => some a | _ => none
/-- the cell of an own object that is only read meanwhile -/
def T.tcell : T → Option Addr
  | .v .tn _ (.ref a) => some a
  | .v .to _ (.ref a) => some a
  | _ => none
theorem T.tcell_st {r : Rg} {d : D} {v : V} (h : r.st = true) : T.tcell (.v r d v) = none := by
  cases r <;> first | rfl | cases h
def T.stable : T → Bool | .v r _ _ => r.st | .own _ r _ => r.st | .exc _ _ _ => true

def Gr (G0 G1 : Hp) : Rg → Hp | .nw => G1 | .tn => G1 | _ => G0
def RepR (K : PySem.W.Frag) (mg : Mg) (G0 G1 H : Hp) : Rg → D → V → Prop
  | .nw, d, v => Rep K mg G1 d v
  | .od, d, v => Rep K mg G0 d v
  | .tn, d, v => ∃ c a o, d = Ct.toD c ∧ v = .ref a ∧ H a = some o ∧ RepC K mg G1 c o
  | .to, d, v => ∃ c a o, d = Ct.toD c ∧ v = .ref a ∧ H a = some o ∧ RepC K mg G0 c o
def RepB (K : PySem.W.Frag) (mg : Mg) (G0 G1 : Hp) (ow : Option (Addr × HO)) : B → Option (Option V) → Prop
  | .no, _ => True
  | .v r d, x => r.st = true ∧ ∃ v, x = some (some v) ∧ Rep K mg (Gr G0 G1 r) d v
  | .own r c, x => r.st = true ∧ ∃ a o, x = some (some (.ref a)) ∧ ow = some (a, o) ∧ RepC K mg (Gr G0 G1 r) c o
  | .raw v, x => x = some (some v)
def RepT (K : PySem.W.Frag) (mg : Mg) (G0 G1 Hi H : Hp) : T → Prop
  | .v r d v => RepR K mg G0 G1 H r d v
  | .own a r c => r.st = true ∧ G0 a = none ∧ Hi a = none ∧ ∃ o, H a = some o ∧ RepC K mg (Gr G0 G1 r) c o
  | .exc x cls dd => RepX K mg G1 H x cls dd

structure EnvW (K : PySem.W.Frag) (mg : Mg) (Hs Hi : Hp) (ρ : List B) (σ : L2.St) (τ : List T) (H : Hp) (G0 G1 : Hp) (ow : Nat → Option (Addr × HO)) : Prop where
  s0 : Same Hs G0
  s1 : Same G1 G0
  s2 : Same G0 H
  hi : Same Hi H
  n0 : ∀ a o, G0 a = some o → Hs a ≠ none ∨ Hi a = none
  n1 : ∀ a o, G1 a = some o → Hi a = none
  ob : ∀ i a o, ow i = some (a, o) → H a = some o ∧ G0 a = none ∧ Hi a = none
  inj : ∀ i j a o o', ow i = some (a, o) → ow j = some (a, o') → i = j
  len : σ.length = ρ.length
  sl : ∀ i b, ρ[i]? = some b → RepB K mg G0 G1 (ow i) b σ[i]?
  tt : ∀ t ∈ τ, RepT K mg G0 G1 Hi H t
  tn : (τ.filterMap T.cell).Nodup
  td : ∀ a ∈ τ.filterMap T.cell, ∀ i o, ow i ≠ some (a, o)
  tq : ∀ a ∈ τ.filterMap T.tcell, a ∉ τ.filterMap T.cell
def EnvOk (K : PySem.W.Frag) (mg : Mg) (Hs Hi : Hp) (ρ : List B) (σ : L2.St) (τ : List T) (H : Hp) : Prop := ∃ G0 G1 ow, EnvW K mg Hs Hi ρ σ τ H G0 G1 ow

section
variable {K : PySem.W.Frag} {mg : Mg} {Hs Hi H H' G0 G1 : Hp} {ρ : List B} {σ : L2.St} {τ : List T} {ow : Nat → Option (Addr × HO)}
theorem same_upd {H : Hp} {p : Addr} {o : HO} (h : H p = none) : Same H (upd H p o) := fun b x e => by
  rw [upd_ne (ne_of_none e h)]; exact e
theorem EnvW.g1 (w : EnvW K mg Hs Hi ρ σ τ H G0 G1 ow) (r : Rg) : Same (Gr G0 G1 r) G0 := by
  cases r with
  | nw => exact w.s1
  | tn => exact w.s1
  | od => exact Same.refl _
  | to => exact Same.refl _
theorem RepR.up {r : Rg} {d : D} {v : V} {G0' G1' : Hp} (h : RepR K mg G0 G1 H r d v) (a : Same G0 G0') (b : Same G1 G1') (c : Same H H') : RepR K mg G0' G1' H' r d v := by
  cases r with
  | nw => exact Rep.mono b h
  | od => exact Rep.mono a h
  | tn => obtain ⟨ct, ad, o, h1, h2, h3, h4⟩ := h; exact ⟨ct, ad, o, h1, h2, c _ _ h3, h4.mono b⟩
  | to => obtain ⟨ct, ad, o, h1, h2, h3, h4⟩ := h; exact ⟨ct, ad, o, h1, h2, c _ _ h3, h4.mono a⟩
theorem Gr.up {G0' G1' : Hp} (a : Same G0 G0') (b : Same G1 G1') (r : Rg) : Same (Gr G0 G1 r) (Gr G0' G1' r) := by
  cases r with
  | nw => exact b
  | tn => exact b
  | od => exact a
  | to => exact a
theorem RepB.up {b : B} {x : Option (Option V)} {q : Option (Addr × HO)} {G0' G1' : Hp} (h : RepB K mg G0 G1 q b x) (a : Same G0 G0') (c : Same G1 G1') : RepB K mg G0' G1' q b x := by
  cases b with
  | no => trivial
  | v r d => obtain ⟨h0, v, h1, h2⟩ := h; exact ⟨h0, v, h1, h2.mono (Gr.up a c r)⟩
  | own r ct => obtain ⟨h0, ad, o, h1, h2, h3⟩ := h; exact ⟨h0, ad, o, h1, h2, h3.mono (Gr.up a c r)⟩
  | raw v => exact h
/-- the heap grows, the regions grow by new cells -/
theorem EnvW.grow {G0' G1' : Hp} (w : EnvW K mg Hs Hi ρ σ τ H G0 G1 ow) (hh : Same H H') (a : Same G0 G0') (b : Same G1 G1') (b0 : Same G1' G0') (c : Same G0' H')
    (n0 : ∀ x o, G0' x = some o → G0 x = some o ∨ H x = none) (n1 : ∀ x o, G1' x = some o → G1 x = some o ∨ H x = none) : EnvW K mg Hs Hi ρ σ τ H' G0' G1' ow where
  s0 := w.s0.trans a
  s1 := b0
  s2 := c
  hi := w.hi.trans hh
  n0 := fun x o e => (n0 x o e).elim (w.n0 x o) fun z => .inr (w.hi.free z)
  n1 := fun x o e => (n1 x o e).elim (w.n1 x o) fun z => w.hi.free z
  ob := fun i x o e => by
    obtain ⟨h1, h2, h3⟩ := w.ob i x o e
    refine ⟨hh _ _ h1, ?_, h3⟩
    cases q : G0' x with
    | none => rfl
    | some u =>
      rcases n0 x u q with z | z
      · rw [h2] at z; cases z
      · rw [h1] at z; cases z
  inj := w.inj
  len := w.len
  sl := fun i bb e => (w.sl i bb e).up a b
  tt := fun t ht => by
    have h := w.tt t ht
    cases t with
    | v r d v => exact RepR.up h a b hh
    | exc x cls dd => exact RepX.up h b hh
    | own x r ct =>
      obtain ⟨h0, h1, h2, o, h3, h4⟩ := h
      refine ⟨h0, ?_, h2, o, hh _ _ h3, h4.mono (Gr.up a b r)⟩
      cases q : G0' x with
      | none => rfl
      | some u =>
        rcases n0 x u q with z | z
        · rw [h1] at z; cases z
        · rw [h3] at z; cases z
  tn := w.tn
  td := w.td
  tq := w.tq
theorem EnvW.push {t : T} (w : EnvW K mg Hs Hi ρ σ τ H G0 G1 ow) (h : RepT K mg G0 G1 Hi H t) (hc : ∀ a, t.cell = some a → a ∉ τ.filterMap T.cell ∧ (∀ i o, ow i ≠ some (a, o)) ∧ a ∉ τ.filterMap T.tcell) (hq : ∀ a, t.tcell = some a → a ∉ τ.filterMap T.cell) : EnvW K mg Hs Hi ρ σ (t :: τ) H G0 G1 ow :=
  { w with
    tt := fun u hu => by
      rcases List.mem_cons.mp hu with e | e
      · rw [e]; exact h
      · exact w.tt u e
    tn := by
      rw [List.filterMap_cons]
      cases q : t.cell with
      | none => exact w.tn
      | some a => exact List.nodup_cons.mpr ⟨(hc a q).1, w.tn⟩
    td := fun a ha i o => by
      rw [List.filterMap_cons] at ha
      cases q : t.cell with
      | none => rw [q] at ha; exact w.td a ha i o
      | some b =>
        rw [q] at ha
        rcases List.mem_cons.mp ha with e | e
        · subst e; exact (hc a q).2.1 i o
        · exact w.td a e i o
    tq := fun a ha => by
      rw [List.filterMap_cons] at ha ⊢
      cases q : t.cell with
      | none =>
        cases q2 : t.tcell with
        | none => rw [q2] at ha; exact w.tq a ha
        | some b =>
          rw [q2] at ha
          rcases List.mem_cons.mp ha with e | e
          · subst e; exact hq a q2
          · exact w.tq a e
      | some c =>
        have q2 : t.tcell = none := by
          cases t with
          | v _ _ _ => cases q
          | own _ _ _ => rfl
          | exc _ _ _ => rfl
        rw [q2] at ha
        intro z
        rcases List.mem_cons.mp z with e | e
        · subst e; exact (hc a q).2.2 ha
        · exact w.tq a ha e }
theorem EnvW.pushQ {r : Rg} {d : D} {v : V} (w : EnvW K mg Hs Hi ρ σ τ H G0 G1 ow) (h : RepR K mg G0 G1 H r d v) (hq : ∀ a, T.tcell (.v r d v) = some a → a ∉ τ.filterMap T.cell) : EnvW K mg Hs Hi ρ σ (.v r d v :: τ) H G0 G1 ow :=
  w.push (t := .v r d v) h (fun a e => by cases e) hq
theorem EnvW.pushV {r : Rg} {d : D} {v : V} (w : EnvW K mg Hs Hi ρ σ τ H G0 G1 ow) (h : RepR K mg G0 G1 H r d v) (hr : r.st = true) : EnvW K mg Hs Hi ρ σ (.v r d v :: τ) H G0 G1 ow :=
  w.pushQ h fun a e => by rw [T.tcell_st hr] at e; cases e
theorem EnvW.pop {t : T} (w : EnvW K mg Hs Hi ρ σ (t :: τ) H G0 G1 ow) : EnvW K mg Hs Hi ρ σ τ H G0 G1 ow :=
  { w with
    tt := fun u hu => w.tt u (List.mem_cons_of_mem _ hu)
    tn := by
      have h := w.tn
      rw [List.filterMap_cons] at h
      cases q : t.cell with
      | none => rw [q] at h; exact h
      | some a => rw [q] at h; exact (List.nodup_cons.mp h).2
    td := fun a ha => w.td a (by
      rw [List.filterMap_cons]
      cases q : t.cell with
      | none => exact ha
      | some b => exact List.mem_cons_of_mem _ ha)
    tq := fun a ha hb => w.tq a (by
      rw [List.filterMap_cons]
      cases q : t.tcell with
      | none => exact ha
      | some b => exact List.mem_cons_of_mem _ ha) (by
      rw [List.filterMap_cons]
      cases q : t.cell with
      | none => exact hb
      | some b => exact List.mem_cons_of_mem _ hb) }
theorem EnvW.drop (τ' : List T) (w : EnvW K mg Hs Hi ρ σ (τ' ++ τ) H G0 G1 ow) : EnvW K mg Hs Hi ρ σ τ H G0 G1 ow := by
  induction τ' with
  | nil => exact w
  | cons t r ih => exact ih w.pop
/-- the heap grows by cells that no region sees -/
theorem EnvW.heap (w : EnvW K mg Hs Hi ρ σ τ H G0 G1 ow) (hh : Same H H') : EnvW K mg Hs Hi ρ σ τ H' G0 G1 ow :=
  w.grow hh (Same.refl _) (Same.refl _) w.s1 (w.s2.trans hh) (fun _ _ e => .inl e) fun _ _ e => .inl e
theorem EnvW.none0 (w : EnvW K mg Hs Hi ρ σ τ H G0 G1 ow) {p : Addr} (hp : H p = none) : G0 p = none := w.s2.free hp
theorem EnvW.none1 (w : EnvW K mg Hs Hi ρ σ τ H G0 G1 ow) {p : Addr} (hp : H p = none) : G1 p = none := w.s1.free (w.none0 hp)
theorem EnvW.noneI (w : EnvW K mg Hs Hi ρ σ τ H G0 G1 ow) {p : Addr} (hp : H p = none) : Hi p = none := w.hi.free hp
/-- a new object of one's own -/
theorem EnvW.fresh {p : Addr} {o : HO} {r : Rg} {c : Ct} (w : EnvW K mg Hs Hi ρ σ τ H G0 G1 ow) (hp : H p = none) (hr : r.st = true) (h : RepC K mg (Gr G0 G1 r) c o) : EnvW K mg Hs Hi ρ σ (.own p r c :: τ) (upd H p o) G0 G1 ow := by
  refine (w.heap (same_upd hp)).push (t := .own p r c) ⟨hr, w.none0 hp, w.noneI hp, o, upd_same, h⟩ (fun a e => ?_) fun a e => by cases e
  cases e
  refine ⟨fun hm => ?_, fun i o' e => ?_, fun hm => ?_⟩
  · obtain ⟨t, ht, e⟩ := List.mem_filterMap.mp hm
    cases t with
    | v _ _ _ => cases e
    | exc _ _ _ => cases e
    | own x r' c' =>
      cases e
      obtain ⟨_, _, _, o', h3, _⟩ := w.tt _ ht
      rw [hp] at h3; cases h3
  · have := (w.ob i p o' e).1
    rw [hp] at this; cases this
  · obtain ⟨t, ht, e⟩ := List.mem_filterMap.mp hm
    have h := w.tt _ ht
    cases t with
    | own _ _ _ => cases e
    | exc _ _ _ => cases e
    | v r d v =>
      cases r with
      | nw => cases e
      | od => cases e
      | tn =>
        obtain ⟨c, a, o', _, rfl, h3, _⟩ := h
        cases e
        rw [hp] at h3; cases h3
      | to =>
        obtain ⟨c, a, o', _, rfl, h3, _⟩ := h
        cases e
        rw [hp] at h3; cases h3
/-- .. is let go: it stands for ever -/
theorem EnvW.freeze {a : Addr} {r : Rg} {c : Ct} (w : EnvW K mg Hs Hi ρ σ (.own a r c :: τ) H G0 G1 ow) : EnvOk K mg Hs Hi ρ σ (.v r c.toD (.ref a) :: τ) H := by
  obtain ⟨h0, h1, h2, o, h3, h4⟩ := w.tt _ List.mem_cons_self
  have wp := w.pop
  have hcell : a ∉ τ.filterMap T.cell := by
    have h := w.tn
    rw [List.filterMap_cons] at h
    exact (List.nodup_cons.mp h).1
  have how : ∀ i o, ow i ≠ some (a, o) := w.td a (by rw [List.filterMap_cons]; exact List.mem_cons_self)
  have h1' : G1 a = none := w.s1.free h1
  have key : ∀ (G1' : Hp), Same G1 G1' → Same G1' (upd G0 a o) → (∀ x u, G1' x = some u → G1 x = some u ∨ x = a) → EnvW K mg Hs Hi ρ σ τ H (upd G0 a o) G1' ow := fun G1' b1 b0 bn =>
    { s0 := w.s0.trans (same_upd h1)
      s1 := b0
      s2 := fun x u e => by
        by_cases hx : x = a
        · subst hx; rw [upd_same] at e; cases e; exact h3
        · rw [upd_ne hx] at e; exact w.s2 _ _ e
      hi := w.hi
      n0 := fun x u e => by
        by_cases hx : x = a
        · subst hx; exact .inr h2
        · rw [upd_ne hx] at e; exact w.n0 _ _ e
      n1 := fun x u e => by
        rcases bn x u e with z | z
        · exact w.n1 _ _ z
        · rw [z]; exact h2
      ob := fun i x u e => by
        obtain ⟨k1, k2, k3⟩ := w.ob i x u e
        have hx : x ≠ a := fun z => how i u (by rw [← z]; exact e)
        exact ⟨k1, by rw [upd_ne hx]; exact k2, k3⟩
      inj := w.inj
      len := w.len
      sl := fun i b e => (w.sl i b e).up (same_upd h1) b1
      tt := fun t ht => by
        have h := wp.tt t ht
        cases t with
        | v r' d v => exact RepR.up h (same_upd h1) b1 (Same.refl _)
        | exc x cls dd => exact RepX.up h b1 (Same.refl _)
        | own x r' ct =>
          obtain ⟨g0, g1, g2, u, g3, g4⟩ := h
          have hx : x ≠ a := fun z => hcell (List.mem_filterMap.mpr ⟨_, ht, by rw [z]; rfl⟩)
          exact ⟨g0, by rw [upd_ne hx]; exact g1, g2, u, g3, g4.mono (Gr.up (same_upd h1) b1 r')⟩
      tn := wp.tn
      td := wp.td
      tq := wp.tq }
  cases r with
  | nw =>
    have e1 : Same (upd G1 a o) (upd G0 a o) := fun x u e => by
      by_cases hx : x = a
      · subst hx; rw [upd_same] at e ⊢; exact e
      · rw [upd_ne hx] at e ⊢; exact w.s1 _ _ e
    refine ⟨_, _, _, (key (upd G1 a o) (same_upd h1') e1 (fun x u e => ?_)).pushV (r := .nw) (RepC.rep (h4.mono (same_upd h1')) upd_same) rfl⟩
    by_cases hx : x = a
    · exact .inr hx
    · rw [upd_ne hx] at e; exact .inl e
  | od =>
    exact ⟨_, _, _, (key G1 (Same.refl _) (w.s1.trans (same_upd h1)) (fun x u e => .inl e)).pushV (r := .od) (RepC.rep (h4.mono (same_upd h1)) upd_same) rfl⟩
  | tn => cases h0
  | to => cases h0
theorem gs {α : Type} {l : List α} {i j : Nat} {x y : α} (h : (l.set i x)[j]? = some y) : (j = i ∧ i < l.length ∧ y = x) ∨ (j ≠ i ∧ l[j]? = some y) := by
  by_cases e : j = i
  · subst e
    by_cases hl : j < l.length
    · rw [List.getElem?_set_self hl] at h; cases h; exact .inl ⟨rfl, hl, rfl⟩
    · rw [List.getElem?_eq_none (by rw [List.length_set]; omega)] at h; cases h
  · rw [List.getElem?_set_ne (Ne.symm e)] at h; exact .inr ⟨e, h⟩
/-- a slot takes a value; what it owned goes -/
theorem EnvW.setB {i : Nat} {b : B} {v : V} {q : Option (Addr × HO)} (w : EnvW K mg Hs Hi ρ σ τ H G0 G1 ow) (hb : RepB K mg G0 G1 q b (some (some v)))
    (hq : ∀ a o, q = some (a, o) → (H a = some o ∧ G0 a = none ∧ Hi a = none) ∧ (∀ j o', ow j = some (a, o') → j = i) ∧ a ∉ τ.filterMap T.cell) :
    EnvW K mg Hs Hi (ρ.set i b) (σ.set i (some v)) τ H G0 G1 (fun j => if j = i then q else ow j) :=
  { w with
    ob := fun j a o e => by
      by_cases h : j = i
      · rw [if_pos h] at e; exact (hq a o e).1
      · rw [if_neg h] at e; exact w.ob j a o e
    inj := fun j k a o o' e f => by
      by_cases h : j = i
      · by_cases h2 : k = i
        · rw [h, h2]
        · rw [if_pos h] at e; rw [if_neg h2] at f; rw [h]; exact ((hq a o e).2.1 k o' f).symm
      · by_cases h2 : k = i
        · rw [if_neg h] at e; rw [if_pos h2] at f; rw [h2]; exact (hq a o' f).2.1 j o e
        · rw [if_neg h] at e; rw [if_neg h2] at f; exact w.inj j k a o o' e f
    len := by rw [List.length_set, List.length_set, w.len]
    sl := fun j c e => by
      rcases gs e with ⟨rfl, hl, rfl⟩ | ⟨hne, e⟩
      · rw [if_pos rfl, List.getElem?_set_self (by rw [w.len]; exact hl)]; exact hb
      · rw [if_neg hne, List.getElem?_set_ne (Ne.symm hne)]; exact w.sl j c e
    td := fun a ha j o => by
      by_cases h : j = i
      · rw [if_pos h]; intro e; exact (hq a o e).2.2 ha
      · rw [if_neg h]; exact w.td a ha j o }
theorem EnvOk.set {i : Nat} {r : Rg} {d : D} {v : V} (h : EnvOk K mg Hs Hi ρ σ (.v r d v :: τ) H) (hr : r.st = true ∨ d.sc = true) : EnvOk K mg Hs Hi (ρ.set i (.v (nm r d) d)) (σ.set i (some v)) τ H := by
  obtain ⟨G0, G1, ow, w⟩ := h
  refine ⟨G0, G1, _, w.pop.setB (q := none) ?_ (fun a o e => by cases e)⟩
  have h1 := w.tt _ List.mem_cons_self
  unfold nm
  cases hs : d.sc with
  | true =>
    rw [if_pos rfl]
    refine ⟨rfl, v, rfl, ?_⟩
    cases r with
    | nw => exact h1
    | od => exact Rep.sc_any h1 hs
    | tn => obtain ⟨c, _, _, e, _⟩ := h1; subst e; cases c <;> cases hs
    | to => obtain ⟨c, _, _, e, _⟩ := h1; subst e; cases c <;> cases hs
  | false =>
    rw [if_neg Bool.false_ne_true]
    rcases hr with hr | hr
    · refine ⟨hr, v, rfl, ?_⟩
      cases r with
      | nw => exact h1
      | od => exact h1
      | tn => cases hr
      | to => cases hr
    · rw [hs] at hr; cases hr
theorem EnvOk.setOwn {i : Nat} {r : Rg} {c : Ct} {a : Addr} (h : EnvOk K mg Hs Hi ρ σ (.own a r c :: τ) H) : EnvOk K mg Hs Hi (ρ.set i (.own r c)) (σ.set i (some (.ref a))) τ H := by
  obtain ⟨G0, G1, ow, w⟩ := h
  obtain ⟨h0, h1, h2, o, h3, h4⟩ := w.tt _ List.mem_cons_self
  refine ⟨G0, G1, _, w.pop.setB (q := some (a, o)) ⟨h0, a, o, rfl, rfl, h4⟩ (fun a' o' e => ?_)⟩
  cases e
  have hcell := w.tn
  rw [List.filterMap_cons] at hcell
  exact ⟨⟨h3, h1, h2⟩, fun j o' e => absurd e (w.td _ (by rw [List.filterMap_cons]; exact List.mem_cons_self) j o'), (List.nodup_cons.mp hcell).1⟩
theorem EnvOk.pop {t : T} (h : EnvOk K mg Hs Hi ρ σ (t :: τ) H) : EnvOk K mg Hs Hi ρ σ τ H := let ⟨_, _, _, w⟩ := h; ⟨_, _, _, w.pop⟩
theorem EnvOk.drop (τ' : List T) (h : EnvOk K mg Hs Hi ρ σ (τ' ++ τ) H) : EnvOk K mg Hs Hi ρ σ τ H := let ⟨_, _, _, w⟩ := h; ⟨_, _, _, w.drop τ'⟩
theorem EnvOk.freeze {a : Addr} {r : Rg} {c : Ct} (h : EnvOk K mg Hs Hi ρ σ (.own a r c :: τ) H) : EnvOk K mg Hs Hi ρ σ (.v r c.toD (.ref a) :: τ) H := let ⟨_, _, _, w⟩ := h; w.freeze
theorem EnvOk.len (h : EnvOk K mg Hs Hi ρ σ τ H) : σ.length = ρ.length := let ⟨_, _, _, w⟩ := h; w.len
theorem EnvOk.heap (h : EnvOk K mg Hs Hi ρ σ τ H) (hh : Same H H') : EnvOk K mg Hs Hi ρ σ τ H' := let ⟨_, _, _, w⟩ := h; ⟨_, _, _, w.heap hh⟩
theorem EnvOk.sc {d : D} {v : V} (h : EnvOk K mg Hs Hi ρ σ τ H) (hr : Rep K mg (fun _ => none) d v) : EnvOk K mg Hs Hi ρ σ (.v .nw d v :: τ) H := let ⟨_, _, _, w⟩ := h; ⟨_, _, _, w.pushV (r := .nw) (Rep.mono (fun _ _ e => by cases e) hr) rfl⟩
theorem EnvOk.int (h : EnvOk K mg Hs Hi ρ σ τ H) (i : Int) : EnvOk K mg Hs Hi ρ σ (.v .nw (.int i) (.int i) :: τ) H := h.sc (by simp only [Rep])
theorem EnvOk.bl (h : EnvOk K mg Hs Hi ρ σ τ H) (i : Bool) : EnvOk K mg Hs Hi ρ σ (.v .nw (.bl i) (.bl i) :: τ) H := h.sc (by simp only [Rep])
theorem EnvOk.str (h : EnvOk K mg Hs Hi ρ σ τ H) (i : Str) : EnvOk K mg Hs Hi ρ σ (.v .nw (.str i) (.str i) :: τ) H := h.sc (by simp only [Rep])
theorem EnvOk.non (h : EnvOk K mg Hs Hi ρ σ τ H) : EnvOk K mg Hs Hi ρ σ (.v .nw .non .non :: τ) H := h.sc (by simp only [Rep])
/-- a slot's value -/
theorem EnvOk.slot {i : Nat} {r : Rg} {d : D} (h : EnvOk K mg Hs Hi ρ σ τ H) (e : ρ[i]? = some (.v r d)) : ∃ v, σ[i]? = some (some v) ∧ EnvOk K mg Hs Hi ρ σ (.v r d v :: τ) H := by
  obtain ⟨G0, G1, ow, w⟩ := h
  obtain ⟨h0, v, h1, h2⟩ := w.sl i _ e
  refine ⟨v, h1, G0, G1, ow, w.pushV ?_ h0⟩
  cases r with
  | nw => exact h2
  | od => exact h2
  | tn => cases h0
  | to => cases h0
/-- an own object, read -/
theorem EnvOk.slotOwn {i : Nat} {r : Rg} {c : Ct} (h : EnvOk K mg Hs Hi ρ σ τ H) (e : ρ[i]? = some (.own r c)) : ∃ v, σ[i]? = some (some v) ∧ EnvOk K mg Hs Hi ρ σ (.v r.tr c.toD v :: τ) H := by
  obtain ⟨G0, G1, ow, w⟩ := h
  obtain ⟨h0, a, o, h1, h2, h3⟩ := w.sl i _ e
  refine ⟨_, h1, G0, G1, ow, w.pushQ ?_ fun b e => ?_⟩
  rotate_left
  · have eb : b = a := by cases r <;> cases e <;> rfl
    intro z
    rw [eb] at z
    exact w.td a z i o h2
  have hb := (w.ob i a o h2).1
  cases r with
  | nw => exact ⟨c, a, o, rfl, rfl, hb, h3⟩
  | od => exact ⟨c, a, o, rfl, rfl, hb, h3⟩
  | tn => cases h0
  | to => cases h0
/-- .. taken out of its slot -/
theorem EnvOk.take {i : Nat} {r : Rg} {c : Ct} (h : EnvOk K mg Hs Hi ρ σ τ H) (e : ρ[i]? = some (.own r c)) (st : ∀ t ∈ τ, t.stable = true) : ∃ a, σ[i]? = some (some (.ref a)) ∧ EnvOk K mg Hs Hi (ρ.set i (.raw (.ref a))) σ (.own a r c :: τ) H := by
  obtain ⟨G0, G1, ow, w⟩ := h
  obtain ⟨h0, a, o, h1, h2, h3⟩ := w.sl i _ e
  obtain ⟨k1, k2, k3⟩ := w.ob i a o h2
  have hσ : σ.set i (some (.ref a)) = σ := by
    apply List.ext_getElem?
    intro j
    by_cases hj : j = i
    · subst hj
      rw [List.getElem?_set_self (List.getElem?_eq_some_iff.mp h1).1, h1]
    · rw [List.getElem?_set_ne (Ne.symm hj)]
  have w1 := w.setB (i := i) (b := .raw (.ref a)) (v := .ref a) (q := none) rfl (fun a o e => by cases e)
  rw [hσ] at w1
  refine ⟨a, h1, G0, G1, _, w1.push (t := .own a r c) ⟨h0, k2, k3, o, k1, h3⟩ (fun b e2 => ?_) (fun b e2 => by cases e2)⟩
  cases e2
  refine ⟨fun hm => w.td a hm i o h2, fun j o' e3 => ?_, fun hm => ?_⟩
  rotate_left
  · obtain ⟨t, ht, e⟩ := List.mem_filterMap.mp hm
    have hst := st t ht
    cases t with
    | own _ _ _ => cases e
    | exc _ _ _ => cases e
    | v r d v => rw [T.tcell_st hst] at e; cases e
  by_cases hj : j = i
  · rw [if_pos hj] at e3; cases e3
  · rw [if_neg hj] at e3; exact hj (w.inj j i a o' o e3 h2)
/-- an own object that waits is written -/
theorem EnvW.write {r r' : Rg} {c c' : Ct} {a : Addr} {o' : HO} (w : EnvW K mg Hs Hi ρ σ (.own a r c :: τ) H G0 G1 ow) (hr : r'.st = true)
    (hc : RepC K mg (Gr G0 G1 r') c' o') : EnvW K mg Hs Hi ρ σ (.own a r' c' :: τ) (upd H a o') G0 G1 ow := by
  obtain ⟨h0, h1, h2, o, h3, h4⟩ := w.tt _ List.mem_cons_self
  have how : ∀ i o, ow i ≠ some (a, o) := w.td a (by rw [List.filterMap_cons]; exact List.mem_cons_self)
  have hcell := w.tn
  rw [List.filterMap_cons] at hcell
  have hnin := (List.nodup_cons.mp hcell).1
  have nz : ∀ {b : Addr} {u : HO}, G0 b = some u → b ≠ a := fun e z => by rw [z, h1] at e; cases e
  have notxd : ∀ fs, o ≠ HO.xd fs := fun fs z => by
    subst z
    cases c with
    | lst ds => obtain ⟨_, e, _⟩ := h4; cases e
    | dct ks ds => obtain ⟨_, e, _⟩ := h4; cases e
    | ins c ns ds => obtain ⟨_, _, _, _, e, _⟩ := h4; cases e
  refine EnvW.push (t := .own a r' c') { w.pop with
    s2 := fun b u e => by rw [upd_ne (nz e)]; exact w.s2 _ _ e
    hi := fun b u e => by rw [upd_ne (fun z => by rw [z, h2] at e; cases e)]; exact w.hi _ _ e
    ob := fun i b u e => by
      obtain ⟨q1, q2, q3⟩ := w.ob i b u e
      exact ⟨by rw [upd_ne (fun z => how i u (by rw [← z]; exact e))]; exact q1, q2, q3⟩
    tt := fun t ht => by
      have h := w.pop.tt t ht
      cases t with
      | v r2 d v =>
        cases r2 with
        | nw => exact h
        | od => exact h
        | tn =>
          obtain ⟨c2, a2, o2, g1, rfl, g3, g4⟩ := h
          refine ⟨c2, a2, o2, g1, rfl, ?_, g4⟩
          rw [upd_ne (fun z => w.tq a (by rw [List.filterMap_cons]; exact List.mem_filterMap.mpr ⟨_, ht, by rw [z]; rfl⟩) (by rw [List.filterMap_cons]; exact List.mem_cons_self))]
          exact g3
        | to =>
          obtain ⟨c2, a2, o2, g1, rfl, g3, g4⟩ := h
          refine ⟨c2, a2, o2, g1, rfl, ?_, g4⟩
          rw [upd_ne (fun z => w.tq a (by rw [List.filterMap_cons]; exact List.mem_filterMap.mpr ⟨_, ht, by rw [z]; rfl⟩) (by rw [List.filterMap_cons]; exact List.mem_cons_self))]
          exact g3
      | own x r2 c2 =>
        obtain ⟨g0, g1, g2, u, g3, g4⟩ := h
        have hx : x ≠ a := fun z => hnin (List.mem_filterMap.mpr ⟨_, ht, by rw [z]; rfl⟩)
        exact ⟨g0, g1, g2, u, by rw [upd_ne hx]; exact g3, g4⟩
      | exc x cls dd =>
        obtain ⟨C, e1, e2, e3⟩ := h
        refine ⟨C, e1, e2, ?_⟩
        rcases e3 with e | ⟨d, vs, f1, f2, f3, f4⟩
        · exact .inl e
        · refine .inr ⟨d, vs, f1, ?_, f3, f4⟩
          rw [upd_ne (fun z => ?_)]
          · exact f2
          · rw [z, h3] at f2; cases f2; exact notxd _ rfl } ⟨hr, h1, h2, o', upd_same, hc⟩ (fun b e => ?_) fun b e => by cases e
  cases e
  exact ⟨hnin, how, fun z => w.tq a (by rw [List.filterMap_cons]; exact z) (by rw [List.filterMap_cons]; exact List.mem_cons_self)⟩
/-- an object of one's own is new -/
theorem EnvOk.fresh {p : Addr} {o : HO} {r : Rg} {c : Ct} (h : EnvOk K mg Hs Hi ρ σ τ H) (hp : H p = none) (hr : r.st = true) (hc : ∀ G0 G1 ow, EnvW K mg Hs Hi ρ σ τ H G0 G1 ow → RepC K mg (Gr G0 G1 r) c o) : EnvOk K mg Hs Hi ρ σ (.own p r c :: τ) (upd H p o) := let ⟨_, _, _, w⟩ := h; ⟨_, _, _, w.fresh hp hr (hc _ _ _ w)⟩
/-- a new tuple -/
theorem EnvOk.tup {p : Addr} {vs : List V} {r : Rg} {ds : List D} (h : EnvOk K mg Hs Hi ρ σ τ H) (hp : H p = none) (hr : r.st = true) (hc : ∀ G0 G1 ow, EnvW K mg Hs Hi ρ σ τ H G0 G1 ow → Reps K mg (Gr G0 G1 r) ds vs) : EnvOk K mg Hs Hi ρ σ (.v r (.tup ds) (.ref p) :: τ) (upd H p (.tup vs)) := by
  obtain ⟨G0, G1, ow, w⟩ := h
  have hc := hc _ _ _ w
  have h0 := w.none0 hp
  have h1 := w.none1 hp
  have ss : Same (upd G1 p (.tup vs)) (upd G0 p (.tup vs)) := fun x u e => by
    by_cases hx : x = p
    · subst hx; rw [upd_same] at e ⊢; exact e
    · rw [upd_ne hx] at e ⊢; exact w.s1 _ _ e
  have s2 : Same (upd G0 p (.tup vs)) (upd H p (.tup vs)) := fun x u e => by
    by_cases hx : x = p
    · subst hx; rw [upd_same] at e ⊢; exact e
    · rw [upd_ne hx] at e ⊢; exact w.s2 _ _ e
  have n0 : ∀ x u, upd G0 p (.tup vs) x = some u → G0 x = some u ∨ H x = none := fun x u e => by
    by_cases hx : x = p
    · subst hx; exact .inr hp
    · rw [upd_ne hx] at e; exact .inl e
  have n1 : ∀ x u, upd G1 p (.tup vs) x = some u → G1 x = some u ∨ H x = none := fun x u e => by
    by_cases hx : x = p
    · subst hx; exact .inr hp
    · rw [upd_ne hx] at e; exact .inl e
  cases r with
  | nw =>
    refine ⟨_, _, ow, (w.grow (same_upd hp) (same_upd h0) (same_upd h1) ss s2 n0 n1).pushV (r := .nw) ?_ rfl⟩
    simp only [RepR, Rep]
    exact ⟨p, vs, rfl, SqT.of upd_same, hc.mono (same_upd h1)⟩
  | od =>
    refine ⟨_, _, ow, (w.grow (same_upd hp) (same_upd h0) (Same.refl _) (w.s1.trans (same_upd h0)) s2 n0 (fun x u e => .inl e)).pushV (r := .od) ?_ rfl⟩
    simp only [RepR, Rep]
    exact ⟨p, vs, rfl, SqT.of upd_same, hc.mono (same_upd h0)⟩
  | tn => cases hr
  | to => cases hr
end
end VL

set_option Elab.async false
set_option linter.all false
set_option maxRecDepth 100000
set_option maxHeartbeats 4000000
/-! VL2: the judgements over plain values; names, constants, tests, statements, loops. -/
namespace VL
open PySem PySem.Spec PyProof.Rows L2

/-! ### a piece of code by its own meaning -/
def sE (X : Cx) (e : Expr) : TE := fun σ H Q => ∀ pins s, Inv X pins σ H s → wpAny (model X.prog X.w) X.A (eval e X.env) (EP X pins σ Q) X.xe s
def sT (X : Cx) (e : Expr) : TT := fun σ H Q => ∀ pins s, Inv X pins σ H s → wpAny (model X.prog X.w) X.A (isTrue e X.env (eval e X.env)) (TP X pins σ Q) X.xe s
def sA (X : Cx) (es : List Expr) : TA := fun σ H Q => ∀ pos pins s, Inv X pins σ H s → wpAny (model X.prog X.w) X.A (spliced (backTo pos (starEach es X.env))) (AP X pins σ Q) X.xe s
def s1 (X : Cx) (st : Stmt) : TS := fun D σ H => ∀ pins s, Inv X pins σ H s → wpAny (model X.prog X.w) X.A (exec st X.env) (SP X pins D) X.xe s
def sS (X : Cx) (st : List Stmt) : TS := fun D σ H => ∀ pins s, Inv X pins σ H s → wpAny (model X.prog X.w) X.A (execs st X.env) (SP X pins D) X.xe s
def sI (X : Cx) (tg iter : Expr) : TI := fun σ H R => ∀ pins s, Inv X pins σ H s → wpAny (model X.prog X.w) X.A (eval iter X.env) (fun v s1 => wpAny (model X.prog X.w) X.A (pyIter v) (PIE X pins σ tg R) X.xe s1) X.xe s
theorem pe_s {X : Cx} {e : Expr} : PE X e (sE X e) := ⟨fun pins s σ H Q I h => h pins s I⟩
theorem pt_s {X : Cx} {e : Expr} : PT X e (sT X e) := ⟨fun pins s σ H Q I h => h pins s I⟩
theorem pa_s {X : Cx} {e : List Expr} : PA X e (sA X e) := ⟨fun pos pins s σ H Q I h => h pos pins s I⟩
theorem ps_s {X : Cx} {e : Stmt} : PS X e (s1 X e) := ⟨fun pins s σ H Q I h => h pins s I⟩
theorem pss_s {X : Cx} {e : List Stmt} : PSs X e (sS X e) := ⟨fun pins s σ H Q I h => h pins s I⟩
theorem pi_s {X : Cx} {tg e : Expr} : PI X tg e (sI X tg e) := ⟨fun pins s σ H Q I h => h pins s I⟩
theorem sE.of {X : Cx} {e : Expr} {t : TE} {σ : L2.St} {H : Hp} {Q : VK} (h : PE X e t) (q : t σ H Q) : sE X e σ H Q := fun pins s I => h.run pins s σ H Q I q
theorem sT.of {X : Cx} {e : Expr} {t : TT} {σ : L2.St} {H : Hp} {Q : Bool → Hp → Prop} (h : PT X e t) (q : t σ H Q) : sT X e σ H Q := fun pins s I => h.run pins s σ H Q I q
theorem sA.of {X : Cx} {e : List Expr} {t : TA} {σ : L2.St} {H : Hp} {Q : List V → Hp → Prop} (h : PA X e t) (q : t σ H Q) : sA X e σ H Q := fun pos pins s I => h.run pos pins s σ H Q I q
theorem s1.of {X : Cx} {e : Stmt} {t : TS} {σ : L2.St} {H : Hp} {D : Ends} (h : PS X e t) (q : t D σ H) : s1 X e D σ H := fun pins s I => h.run pins s σ H D I q
theorem sS.of {X : Cx} {e : List Stmt} {t : TS} {σ : L2.St} {H : Hp} {D : Ends} (h : PSs X e t) (q : t D σ H) : sS X e D σ H := fun pins s I => h.run pins s σ H D I q
theorem sI.of {X : Cx} {tg e : Expr} {t : TI} {σ : L2.St} {H : Hp} {R : It → Hp → Prop} (h : PI X tg e t) (q : t σ H R) : sI X tg e σ H R := fun pins s I => h.run pins s σ H R I q
theorem sE.mono {X : Cx} {e : Expr} {σ : L2.St} {H : Hp} {Q Q' : VK} (h : sE X e σ H Q) (m : ∀ v H, Q v H → Q' v H) : sE X e σ H Q' := fun pins s I =>
  wpAny_mono (h pins s I) (fun _ _ ⟨v, H', a, b, c⟩ => ⟨v, H', a, b, m _ _ c⟩) fun _ _ x => x
theorem sT.mono {X : Cx} {e : Expr} {σ : L2.St} {H : Hp} {Q Q' : Bool → Hp → Prop} (h : sT X e σ H Q) (m : ∀ v H, Q v H → Q' v H) : sT X e σ H Q' := fun pins s I =>
  wpAny_mono (h pins s I) (fun _ _ ⟨H', a, c⟩ => ⟨H', a, m _ _ c⟩) fun _ _ x => x
theorem sA.mono {X : Cx} {e : List Expr} {σ : L2.St} {H : Hp} {Q Q' : List V → Hp → Prop} (h : sA X e σ H Q) (m : ∀ v H, Q v H → Q' v H) : sA X e σ H Q' := fun pos pins s I =>
  wpAny_mono (h pos pins s I) (fun _ _ ⟨v, H', a, b, c⟩ => ⟨v, H', a, b, m _ _ c⟩) fun _ _ x => x
theorem SP.mono {X : Cx} {pins : List (Addr × Obj)} {D D' : Ends} {f : Flow} {s : Shared} (h : SP X pins D f s) (a : ∀ σ H, D.nx σ H → D'.nx σ H) (b : ∀ v H, D.rt v H → D'.rt v H) (c : ∀ σ H, D.bk σ H → D'.bk σ H) (d : ∀ σ H, D.ct σ H → D'.ct σ H) : SP X pins D' f s := by
  cases f with
  | next => obtain ⟨σ, H, i, q⟩ := h; exact ⟨σ, H, i, a _ _ q⟩
  | brk => obtain ⟨σ, H, i, q⟩ := h; exact ⟨σ, H, i, c _ _ q⟩
  | cont => obtain ⟨σ, H, i, q⟩ := h; exact ⟨σ, H, i, d _ _ q⟩
  | ret u => obtain ⟨v, σ, H, i, r, q⟩ := h; exact ⟨v, σ, H, i, r, b _ _ q⟩
theorem s1.mono {X : Cx} {e : Stmt} {σ : L2.St} {H : Hp} {D D' : Ends} (h : s1 X e D σ H) (a : ∀ σ H, D.nx σ H → D'.nx σ H) (b : ∀ v H, D.rt v H → D'.rt v H) (c : ∀ σ H, D.bk σ H → D'.bk σ H) (d : ∀ σ H, D.ct σ H → D'.ct σ H) : s1 X e D' σ H := fun pins s I =>
  wpAny_mono (h pins s I) (fun _ _ x => SP.mono x a b c d) fun _ _ x => x
theorem sS.mono {X : Cx} {e : List Stmt} {σ : L2.St} {H : Hp} {D D' : Ends} (h : sS X e D σ H) (a : ∀ σ H, D.nx σ H → D'.nx σ H) (b : ∀ v H, D.rt v H → D'.rt v H) (c : ∀ σ H, D.bk σ H → D'.bk σ H) (d : ∀ σ H, D.ct σ H → D'.ct σ H) : sS X e D' σ H := fun pins s I =>
  wpAny_mono (h pins s I) (fun _ _ x => SP.mono x a b c d) fun _ _ x => x
theorem sI.mono {X : Cx} {tg e : Expr} {σ : L2.St} {H : Hp} {R R' : It → Hp → Prop} (h : sI X tg e σ H R) (m : ∀ v H, R v H → R' v H) : sI X tg e σ H R' := fun pins s I =>
  wpAny_mono (h pins s I) (fun _ _ x => wpAny_mono x (fun _ _ ⟨it, fp, tn, J, H', a, b, c, d, e, q⟩ => ⟨it, fp, tn, J, H', a, b, c, d, e, m _ _ q⟩) fun _ _ x => x) fun _ _ x => x

/-! ### the context -/
structure Cy where
  X : Cx
  Hs : Hp
  Hi : Hp
  τ : List T
  E : Exc → List B → Prop
abbrev YE (Y : Cy) (ρ : List B) (σ : L2.St) (τ : List T) (H : Hp) : Prop := EnvOk Y.X.K Y.X.mg Y.Hs Y.Hi ρ σ (τ ++ Y.τ) H
def Stab (τ : List T) : Prop := ∀ t ∈ τ, t.stable = true
theorem Stab.cons {t : T} {τ : List T} (h : t.stable = true) (h2 : Stab τ) : Stab (t :: τ) := fun u hu => (List.mem_cons.mp hu).elim (fun e => e ▸ h) (h2 u)
/-- what is wished of an exception -/
def WD (Y : Cy) : WX := fun cls dd σ H => ∃ x ρ τ, YE Y ρ σ (.exc x cls dd :: τ) H ∧ Y.E x ρ

def VE (Y : Cy) (ρ : List B) (e : Expr) (Q : Rg → D → Prop) : Prop :=
  ∀ τ σ H, YE Y ρ σ τ H → sE Y.X e σ H fun v H' => ∃ r d, YE Y ρ σ (.v r d v :: τ) H' ∧ Q r d
/-- a new object, one's own -/
def VN (Y : Cy) (ρ : List B) (e : Expr) (Q : Rg → Ct → Prop) : Prop :=
  ∀ τ σ H, YE Y ρ σ τ H → sE Y.X e σ H fun v H' => ∃ a r c, v = .ref a ∧ YE Y ρ σ (.own a r c :: τ) H' ∧ Q r c
def VT (Y : Cy) (ρ : List B) (e : Expr) (Q : Bool → Prop) : Prop :=
  ∀ τ σ H, YE Y ρ σ τ H → sT Y.X e σ H fun b H' => YE Y ρ σ τ H' ∧ Q b
@[reducible] def VA (Y : Cy) (ρ : List B) : List Expr → (List (Rg × D) → Prop) → Prop
  | [], Q => Q []
  | e :: es, Q => VE Y ρ e fun r d => VA Y ρ es fun l => Q ((r, d) :: l)

theorem VE.mono {Y : Cy} {ρ : List B} {e : Expr} {Q Q' : Rg → D → Prop} (h : VE Y ρ e Q) (m : ∀ r d, Q r d → Q' r d) : VE Y ρ e Q' := fun τ σ H w => (h τ σ H w).mono fun _ _ ⟨r, d, a, q⟩ => ⟨r, d, a, m _ _ q⟩
theorem VN.mono {Y : Cy} {ρ : List B} {e : Expr} {Q Q' : Rg → Ct → Prop} (h : VN Y ρ e Q) (m : ∀ r d, Q r d → Q' r d) : VN Y ρ e Q' := fun τ σ H w => (h τ σ H w).mono fun _ _ ⟨a, r, d, b, c, q⟩ => ⟨a, r, d, b, c, m _ _ q⟩
theorem VT.mono {Y : Cy} {ρ : List B} {e : Expr} {Q Q' : Bool → Prop} (h : VT Y ρ e Q) (m : ∀ b, Q b → Q' b) : VT Y ρ e Q' := fun τ σ H w => (h τ σ H w).mono fun _ _ ⟨a, q⟩ => ⟨a, m _ q⟩
theorem VN.ve {Y : Cy} {ρ : List B} {e : Expr} {Q : Rg → D → Prop} (h : VN Y ρ e fun r c => Q r c.toD) : VE Y ρ e Q := fun τ σ H w => (h τ σ H w).mono fun v H' ⟨a, r, c, e, w', q⟩ => by
  subst e
  exact ⟨r, c.toD, w'.freeze, q⟩
/-- no star -/
def plain : Expr → Bool | .Starred _ _ => false | _ => true
theorem star_plain {e : Expr} {es : List Expr} {env : Env} (h : plain e = true) : starEach (e :: es) env = (false, eval e env) :: starEach es env := by
  cases e <;> first | rfl | cases h
def pushA : List (Rg × D) → List V → List T → List T
  | p :: ps, v :: vs, τ => pushA ps vs (.v p.1 p.2 v :: τ)
  | _, _, τ => τ
theorem pushA_app : ∀ (l : List (Rg × D)) (vs : List V) (τ τ' : List T), pushA l vs τ ++ τ' = pushA l vs (τ ++ τ')
  | [], _, _, _ => rfl
  | _ :: _, [], _, _ => rfl
  | p :: l, v :: vs, τ, τ' => by simp only [pushA]; rw [pushA_app]; rfl
theorem VA.run {Y : Cy} {ρ : List B} : ∀ {es : List Expr} {Q : List (Rg × D) → Prop}, (es.all plain = true) → VA Y ρ es Q → ∀ τ σ H, YE Y ρ σ τ H → sA Y.X es σ H fun vs H' => ∃ l : List (Rg × D), l.length = vs.length ∧ l.length = es.length ∧ YE Y ρ σ (pushA l vs τ) H' ∧ Q l
  | [], Q, _, h, τ, σ, H, w => sA.of pa_nil ⟨[], rfl, rfl, w, h⟩
  | e :: es, Q, hp, h, τ, σ, H, w => by
    rw [List.all_cons, Bool.and_eq_true] at hp
    refine sA.of (pa_cons pe_s pa_s (star_plain hp.1)) ?_
    refine (h τ σ H w).mono fun v H' ⟨r, d, w', q⟩ => ?_
    refine (VA.run hp.2 q _ σ H' w').mono fun vs H2 ⟨l, hl, hl2, w2, q2⟩ => ?_
    exact ⟨(r, d) :: l, by simp only [List.length_cons, hl], by simp only [List.length_cons, hl2], w2, q2⟩
/-- all arguments in one region -/
def mxA : List (Rg × D) → Rg
  | [] => .nw
  | p :: l => (nm p.1 p.2).mx (mxA l)
theorem RepR.nm {K : PySem.W.Frag} {mg : Mg} {G0 G1 H : Hp} {r : Rg} {d : D} {v : V} (h : RepR K mg G0 G1 H r d v) : RepR K mg G0 G1 H (nm r d) d v := by
  unfold VL.nm
  cases hs : d.sc with
  | false => exact h
  | true =>
    rw [if_pos rfl]
    cases r with
    | nw => exact h
    | od => exact Rep.sc_any h hs
    | tn => obtain ⟨c, _, _, e, _⟩ := h; subst e; cases c <;> cases hs
    | to => obtain ⟨c, _, _, e, _⟩ := h; subst e; cases c <;> cases hs
theorem mx_st {a b : Rg} (h : (a.mx b).st = true) : a.st = true ∧ b.st = true := by cases a <;> cases b <;> simp_all [Rg.mx, Rg.st]
theorem RepR.st {K : PySem.W.Frag} {mg : Mg} {G0 G1 H : Hp} {r : Rg} {d : D} {v : V} (h : RepR K mg G0 G1 H r d v) (s : r.st = true) : Rep K mg (Gr G0 G1 r) d v := by
  cases r with
  | nw => exact h
  | od => exact h
  | tn => cases s
  | to => cases s
theorem Gr.le {G0 G1 : Hp} (s : Same G1 G0) {a b : Rg} (h : (a.mx b).st = true) : Same (Gr G0 G1 a) (Gr G0 G1 (a.mx b)) ∧ Same (Gr G0 G1 b) (Gr G0 G1 (a.mx b)) := by
  cases a <;> cases b <;> first | exact ⟨Same.refl _, Same.refl _⟩ | exact ⟨s, Same.refl _⟩ | exact ⟨Same.refl _, s⟩ | cases h
theorem args_rep {K : PySem.W.Frag} {mg : Mg} {G0 G1 Hi H : Hp} (s : Same G1 G0) : ∀ {l : List (Rg × D)} {vs : List V} {τ : List T}, l.length = vs.length → (∀ t ∈ pushA l vs τ, RepT K mg G0 G1 Hi H t) → (mxA l).st = true →
    Reps K mg (Gr G0 G1 (mxA l)) (l.map (·.2)) vs ∧ ∀ t ∈ τ, RepT K mg G0 G1 Hi H t
  | [], vs, τ, hl, h, _ => by
    have e : vs = [] := List.length_eq_zero_iff.mp hl.symm
    subst e
    exact ⟨Reps.nil, h⟩
  | p :: l, [], τ, hl, h, _ => by simp at hl
  | p :: l, v :: vs, τ, hl, h, hs => by
    obtain ⟨h1, h2⟩ := mx_st hs
    obtain ⟨q1, q2⟩ := args_rep (l := l) (vs := vs) (τ := .v p.1 p.2 v :: τ) s (by simpa using hl) h h2
    have q3 : RepR K mg G0 G1 H p.1 p.2 v := q2 _ List.mem_cons_self
    obtain ⟨le1, le2⟩ := Gr.le s hs
    exact ⟨Reps.cons ((RepR.st q3.nm h1).mono le1) (q1.mono le2), fun t ht => q2 t (List.mem_cons_of_mem _ ht)⟩

/-! ### statements -/
structure Fin where
  nx : List B → Prop
  rt : Rg → D → Prop
  rn : Rg → Ct → Prop
  bk : List B → Prop := fun _ => False
  ct : List B → Prop := fun _ => False
def lift (Y : Cy) (τ : List T) (Φ : Fin) : Ends where
  nx := fun σ H => ∃ ρ, YE Y ρ σ τ H ∧ Φ.nx ρ
  rt := fun v H => (∃ ρ σ r d, YE Y ρ σ (.v r d v :: τ) H ∧ (r.st = true ∨ d.sc = true) ∧ Φ.rt r d) ∨ (∃ ρ σ a r c, v = .ref a ∧ YE Y ρ σ (.own a r c :: τ) H ∧ Φ.rn r c)
  bk := fun σ H => ∃ ρ, YE Y ρ σ τ H ∧ Φ.bk ρ
  ct := fun σ H => ∃ ρ, YE Y ρ σ τ H ∧ Φ.ct ρ
def V1 (Y : Cy) (ρ : List B) (st : Stmt) (Φ : Fin) : Prop := ∀ τ σ H, YE Y ρ σ τ H → Stab (τ ++ Y.τ) → s1 Y.X st (lift Y τ Φ) σ H
def VS (Y : Cy) (ρ : List B) (st : List Stmt) (Φ : Fin) : Prop := ∀ τ σ H, YE Y ρ σ τ H → Stab (τ ++ Y.τ) → sS Y.X st (lift Y τ Φ) σ H

section
variable {Y : Cy} {ρ : List B} {Φ : Fin} {pos : Pos}
theorem vs_nil (h : Φ.nx ρ) : VS Y ρ [] Φ := fun τ σ H w _ => sS.of pss_nil ⟨ρ, w, h⟩
theorem vs_cons {st : Stmt} {rest : List Stmt} (h : V1 Y ρ st { Φ with nx := fun ρ' => VS Y ρ' rest Φ }) : VS Y ρ (st :: rest) Φ := fun τ σ H w hs =>
  sS.of (pss_cons ps_s pss_s) ((h τ σ H w hs).mono (fun σ' H' ⟨ρ', w', q⟩ => q τ σ' H' w' hs) (fun _ _ x => x) (fun _ _ x => x) fun _ _ x => x)
theorem vs_one {st : Stmt} (h : V1 Y ρ st Φ) : VS Y ρ [st] Φ := fun τ σ H w hs => sS.of (pss_one ps_s) (h τ σ H w hs)
theorem v1_pass (h : Φ.nx ρ) : V1 Y ρ (.Pass pos) Φ := fun τ σ H w _ => s1.of ps_pass ⟨ρ, w, h⟩
theorem v1_break (h : Φ.bk ρ) : V1 Y ρ (.Break pos) Φ := fun τ σ H w _ => s1.of ps_break ⟨ρ, w, h⟩
theorem v1_cont (h : Φ.ct ρ) : V1 Y ρ (.Continue pos) Φ := fun τ σ H w _ => s1.of ps_continue ⟨ρ, w, h⟩
theorem v1_ret {e : Expr} (h : VE Y ρ e fun r d => (r.st = true ∨ d.sc = true) ∧ Φ.rt r d) : V1 Y ρ (.Return (some e) pos) Φ := fun τ σ H w _ =>
  s1.of (ps_ret pe_s) ((h τ σ H w).mono fun v H' ⟨r, d, w', s, q⟩ => .inl ⟨ρ, σ, r, d, w', s, q⟩)
theorem v1_retN {e : Expr} (h : VN Y ρ e Φ.rn) : V1 Y ρ (.Return (some e) pos) Φ := fun τ σ H w _ =>
  s1.of (ps_ret pe_s) ((h τ σ H w).mono fun v H' ⟨a, r, c, e, w', q⟩ => .inr ⟨ρ, σ, a, r, c, e, w', q⟩)
theorem v1_ret0 (h : Φ.rt .nw .non) : V1 Y ρ (.Return none pos) Φ := fun τ σ H w _ =>
  s1.of ps_retN (.inl ⟨ρ, σ, .nw, .non, w.non, .inl rfl, h⟩)
/-- return x, x one's own object -/
theorem v1_retO (i : Nat) {x : Str} {p : Pos} {r : Rg} {c : Ct} (hρ : ρ[i]? = some (.own r c)) (h : Φ.rn r c) (hN : Y.X.N[i]? = some x := by rfl) (hv : Vis Y.X.env.scope x := by first | exact Or.inl rfl | exact Or.inr (Or.inl rfl) | exact Or.inr (Or.inr rfl))
    (hd : (x == ("__debug__" : Str)) = false := by decide) (hcd : (x == ("__classdict__" : Str)) = false := by decide) : V1 Y ρ (.Return (some (.Name x p)) pos) Φ := fun τ σ H w hst => by
  obtain ⟨a, ha, w'⟩ := w.take hρ hst
  exact s1.of (ps_ret (pe_var hN hv hd hcd)) ⟨_, ha, .inr ⟨_, σ, a, r, c, rfl, w', h⟩⟩
theorem v1_if {c : Expr} {a b : List Stmt} (h : VT Y ρ c fun k => (k = true → VS Y ρ a Φ) ∧ (k = false → VS Y ρ b Φ)) : V1 Y ρ (.If c a b pos) Φ := fun τ σ H w hs =>
  s1.of (ps_if pt_s pss_s pss_s) ((h τ σ H w).mono fun k H' ⟨w', q1, q2⟩ => by
    cases k with
    | true => rw [if_pos rfl]; exact q1 rfl τ σ H' w' hs
    | false => rw [if_neg Bool.false_ne_true]; exact q2 rfl τ σ H' w' hs)
/-- an expression as a statement, its value dropped -/
theorem v1_expr {e : Expr} (h : VE Y ρ e fun _ _ => Φ.nx ρ) (hs : swapsWith e none pos.line Y.X.env = pure false := by rfl) : V1 Y ρ (.Expr e pos) Φ := fun τ σ H w _ =>
  s1.of (ps_expr pe_s hs) ((h τ σ H w).mono fun v H' ⟨r, d, w', q⟩ => ⟨ρ, w'.pop, q⟩)
theorem v1_doc {x j pos'} (h : Φ.nx ρ) : V1 Y ρ (.Expr (.Constant (.str x) j pos) pos') Φ := fun τ σ H w _ => s1.of ps_doc ⟨ρ, w, h⟩

/-! ### targets -/
inductive Tg where
  | nm (i : Nat) | tp (l : List Tg)
mutual
@[reducible] def bindT : Tg → Rg → D → List B → (List B → Prop) → Prop
  | .nm i, r, d, ρ, Q => (r.st = true ∨ d.sc = true) ∧ Q (ρ.set i (.v (nm r d) d))
  | .tp l, r, d, ρ, Q => ∃ ds, d = .tup ds ∧ ds.length = l.length ∧ bindTs l r ds ρ Q
@[reducible] def bindTs : List Tg → Rg → List D → List B → (List B → Prop) → Prop
  | [], _, ds, ρ, Q => ds = [] ∧ Q ρ
  | t :: l, r, ds, ρ, Q => ∃ d r', ds = d :: r' ∧ bindT t r d ρ fun ρ' => bindTs l r r' ρ' Q
end
mutual
def gT (K : PySem.W.Frag) : Tg → TG
  | .nm i => gName i
  | .tp l => gTup K l.length (gTs K l)
def gTs (K : PySem.W.Frag) : List Tg → TGs
  | [] => gNil
  | t :: l => gCons (gT K t) (gTs K l)
end
/-- a value at a place of a tuple -/
theorem EnvOk.slotsT {K : PySem.W.Frag} {mg : Mg} {Hs Hi H : Hp} {σ : L2.St} {τ : List T} {r : Rg} {ds : List D} {v : V} (w : EnvOk K mg Hs Hi ρ σ (.v r (.tup ds) v :: τ) H) :
    r.st = true ∧ ∃ a vs, v = .ref a ∧ SqT K H a vs ∧ ds.length = vs.length ∧ EnvOk K mg Hs Hi ρ σ (pushA (ds.map fun d => (r, d)) vs τ) H := by
  obtain ⟨G0, G1, ow, w⟩ := w
  have h := w.tt _ List.mem_cons_self
  have key : r.st = true → ∀ G : Hp, Same G H → (∀ d x, Rep K mg G d x → RepR K mg G0 G1 H r d x) → Rep K mg G (.tup ds) v → ∃ a vs, v = .ref a ∧ SqT K H a vs ∧ ds.length = vs.length ∧ EnvOk K mg Hs Hi ρ σ (pushA (ds.map fun d => (r, d)) vs τ) H := fun hr G e cv h => by
    simp only [Rep] at h
    obtain ⟨a, vs, h1, h2, h3⟩ := h
    refine ⟨a, vs, h1, Same.tup e h2, h3.len, ?_⟩
    have go : ∀ {ds : List D} {vs : List V} {τ : List T}, Reps K mg G ds vs → EnvW K mg Hs Hi ρ σ τ H G0 G1 ow → EnvOk K mg Hs Hi ρ σ (pushA (ds.map fun d => (r, d)) vs τ) H := by
      intro ds
      induction ds with
      | nil => intro vs τ h w; exact ⟨_, _, _, w⟩
      | cons d ds ih =>
        intro vs τ h w
        simp only [Reps] at h
        obtain ⟨x, q, rfl, h1, h2⟩ := h
        exact ih h2 (w.pushV (cv _ _ h1) hr)
    exact go h3 w.pop
  cases r with
  | nw => exact ⟨rfl, key rfl G1 (w.s1.trans w.s2) (fun _ _ h => h) h⟩
  | od => exact ⟨rfl, key rfl G0 w.s2 (fun _ _ h => h) h⟩
  | tn => obtain ⟨c, _, _, e, _⟩ := h; cases c <;> cases e
  | to => obtain ⟨c, _, _, e, _⟩ := h; cases c <;> cases e
mutual
def Tg.sl : Tg → List Nat
  | .nm i => [i]
  | .tp l => slTs l
def slTs : List Tg → List Nat
  | [] => []
  | t :: l => t.sl ++ slTs l
end
/-- what is bound elsewhere stands -/
def But (l : List Nat) (ρ ρ' : List B) (σ σ' : L2.St) : Prop := σ'.length = σ.length ∧ ρ'.length = ρ.length ∧ ∀ i, i ∉ l → σ'[i]? = σ[i]? ∧ ρ'[i]? = ρ[i]?
mutual
theorem bindT.run {τ : List T} : ∀ {t : Tg} {r : Rg} {d : D} {ρ : List B} {Q : List B → Prop} {v : V} {σ : L2.St} {H : Hp} {R : L2.St → Hp → Prop}, bindT t r d ρ Q → YE Y ρ σ (.v r d v :: τ) H → (∀ ρ' σ', YE Y ρ' σ' τ H → Q ρ' → But t.sl ρ ρ' σ σ' → R σ' H) → gT Y.X.K t v σ H R
  | .nm i, r, d, ρ, Q, v, σ, H, R, h, w, k => by
    simp only [bindT] at h
    refine k _ _ (w.set h.1) h.2 ⟨by rw [List.length_set], by rw [List.length_set], fun j hj => ?_⟩
    simp only [Tg.sl, List.mem_singleton] at hj
    exact ⟨List.getElem?_set_ne (Ne.symm hj), List.getElem?_set_ne (Ne.symm hj)⟩
  | .tp l, r, d, ρ, Q, v, σ, H, R, h, w, k => by
    simp only [bindT] at h
    obtain ⟨ds, rfl, hn, h⟩ := h
    obtain ⟨hst, a, vs, rfl, hq, hl, w'⟩ := EnvOk.slotsT w
    simp only [gT]
    have hlen : vs.length = l.length := by rw [← hl]; exact hn
    exact ⟨a, vs, rfl, hq, hlen, bindTs.run h hl w' (by simpa only [Tg.sl] using k)⟩
theorem bindTs.run {τ : List T} : ∀ {l : List Tg} {r : Rg} {ds : List D} {ρ : List B} {Q : List B → Prop} {vs : List V} {σ : L2.St} {H : Hp} {R : L2.St → Hp → Prop}, bindTs l r ds ρ Q → ds.length = vs.length → EnvOk Y.X.K Y.X.mg Y.Hs Y.Hi ρ σ (pushA (ds.map fun d => (r, d)) vs (τ ++ Y.τ)) H → (∀ ρ' σ', YE Y ρ' σ' τ H → Q ρ' → But (slTs l) ρ ρ' σ σ' → R σ' H) → gTs Y.X.K l vs σ H R
  | [], r, ds, ρ, Q, vs, σ, H, R, h, hl, w, k => by
    simp only [bindTs] at h
    obtain ⟨rfl, h⟩ := h
    have e : vs = [] := List.length_eq_zero_iff.mp hl.symm
    subst e
    exact ⟨rfl, k _ _ w h ⟨rfl, rfl, fun _ _ => ⟨rfl, rfl⟩⟩⟩
  | t :: l, r, ds, ρ, Q, vs, σ, H, R, h, hl, w, k => by
    simp only [bindTs] at h
    obtain ⟨d, ds', rfl, h⟩ := h
    cases vs with
    | nil => simp at hl
    | cons v vs =>
      simp only [gTs]
      have e1 : pushA ((d :: ds').map fun d => (r, d)) (v :: vs) (τ ++ Y.τ) = pushA (ds'.map fun d => (r, d)) vs [] ++ (.v r d v :: (τ ++ Y.τ)) := by
        rw [pushA_app]; rfl
      rw [e1] at w
      refine ⟨v, vs, rfl, ?_⟩
      -- the head is bound while the rest waits
      have w2 : YE Y ρ σ (.v r d v :: (pushA (ds'.map fun d => (r, d)) vs [] ++ τ)) H := by
        obtain ⟨G0, G1, ow, w⟩ := w
        refine ⟨G0, G1, ow, ?_⟩
        have hv : RepT Y.X.K Y.X.mg G0 G1 Y.Hi H (.v r d v) := w.tt _ (List.mem_append_right _ List.mem_cons_self)
        have wb : EnvW Y.X.K Y.X.mg Y.Hs Y.Hi ρ σ (pushA (ds'.map fun d => (r, d)) vs [] ++ (τ ++ Y.τ)) H G0 G1 ow := by
          refine { w with tt := fun t ht => ?_, tn := ?_, td := fun a ha => ?_, tq := fun a ha hb => ?_ }
          · rcases List.mem_append.mp ht with z | z
            · exact w.tt t (List.mem_append_left _ z)
            · exact w.tt t (List.mem_append_right _ (List.mem_cons_of_mem _ z))
          · have := w.tn
            rw [List.filterMap_append, List.filterMap_cons] at this
            rw [List.filterMap_append]
            exact this
          · refine w.td a ?_
            rw [List.filterMap_append] at ha ⊢
            rw [List.filterMap_cons]
            exact ha
          · refine w.tq a ?_ ?_
            · rw [List.filterMap_append] at ha ⊢
              rcases List.mem_append.mp ha with z | z
              · exact List.mem_append_left _ z
              · refine List.mem_append_right _ ?_
                rw [List.filterMap_cons]
                cases T.tcell (.v r d v) with
                | none => exact z
                | some b => exact List.mem_cons_of_mem _ z
            · rw [List.filterMap_append] at hb ⊢
              rw [List.filterMap_cons]
              exact hb
        have e2 : (pushA (ds'.map fun d => (r, d)) vs [] ++ τ) ++ Y.τ = pushA (ds'.map fun d => (r, d)) vs [] ++ (τ ++ Y.τ) := List.append_assoc _ _ _
        show EnvW _ _ _ _ _ _ (.v r d v :: ((pushA (ds'.map fun d => (r, d)) vs [] ++ τ) ++ Y.τ)) _ _ _ _
        rw [e2]
        exact wb.pushQ hv fun a e hm => w.tq a (by
          rw [List.filterMap_append, List.filterMap_cons, e]
          exact List.mem_append_right _ List.mem_cons_self) (by
          rw [List.filterMap_append] at hm ⊢
          rw [List.filterMap_cons]
          exact hm)
      refine bindT.run h w2 fun ρ' σ' w3 q bt => ?_
      refine bindTs.run q (by simpa using hl) ?_ fun ρ2 σ2 w4 q2 bt2 => k ρ2 σ2 w4 q2 ⟨bt2.1.trans bt.1, bt2.2.1.trans bt.2.1, fun i hi => ?_⟩
      · have e2 : (pushA (ds'.map fun d => (r, d)) vs [] ++ τ) ++ Y.τ = pushA (ds'.map fun d => (r, d)) vs (τ ++ Y.τ) := by
          rw [List.append_assoc, pushA_app]; rfl
        rw [← e2]
        exact w3
      · simp only [slTs, List.mem_append, not_or] at hi
        obtain ⟨a1, a2⟩ := bt2.2.2 i hi.2
        obtain ⟨b1, b2⟩ := bt.2.2 i hi.1
        exact ⟨a1.trans b1, a2.trans b2⟩
end
end
end VL

set_option Elab.async false
set_option linter.all false
set_option maxRecDepth 100000
set_option maxHeartbeats 4000000
/-! VL3: expressions over plain values. -/
namespace VL
open PySem PySem.Spec PyProof.Rows L2

section
variable {K : PySem.W.Frag} {mg : Mg} {Hs Hi H H' G0 G1 : Hp} {ρ : List B} {σ : L2.St} {τ : List T} {ow : Nat → Option (Addr × HO)}
theorem Rd.inj {a : Addr} {x y : HO} (h : Rd H a x) (h2 : Rd H a y) (nx : ∀ o u, x ≠ .frz o u) (ny : ∀ o u, y ≠ .frz o u) : x = y := by
  rcases h with h | ⟨o, h⟩ <;> rcases h2 with h2 | ⟨o2, h2⟩
  · rw [h] at h2; exact Option.some.inj h2
  · rw [h] at h2; exact absurd (Option.some.inj h2) (nx _ _)
  · rw [h] at h2; exact absurd (Option.some.inj h2).symm (ny _ _)
  · rw [h] at h2; cases h2; rfl
theorem Rd.lst {a : Addr} {x y : List V} (h : Rd H a (.lst x)) (h2 : Rd H a (.lst y)) : x = y := by
  have := Rd.inj h h2 (fun _ _ z => by cases z) (fun _ _ z => by cases z)
  cases this; rfl
/-- the entry under the first goes -/
theorem EnvW.under {t u : T} (w : EnvW K mg Hs Hi ρ σ (t :: u :: τ) H G0 G1 ow) : EnvW K mg Hs Hi ρ σ (t :: τ) H G0 G1 ow := by
  have sub : ∀ (f : T → Option Addr) (a : Addr), a ∈ τ.filterMap f → a ∈ (u :: τ).filterMap f := fun f a ha => by
    rw [List.filterMap_cons]
    cases f u with
    | none => exact ha
    | some b => exact List.mem_cons_of_mem _ ha
  refine w.pop.pop.push (w.tt _ List.mem_cons_self) (fun a e => ⟨fun hm => ?_, fun i o => ?_, fun hm => ?_⟩) fun a e hm => ?_
  · have := w.tn
    rw [List.filterMap_cons, e] at this
    exact (List.nodup_cons.mp this).1 (sub _ _ hm)
  · exact w.td a (by rw [List.filterMap_cons, e]; exact List.mem_cons_self) i o
  · refine w.tq a ?_ (by rw [List.filterMap_cons, e]; exact List.mem_cons_self)
    rw [List.filterMap_cons]
    cases t.tcell with
    | none => exact sub _ _ hm
    | some b => exact List.mem_cons_of_mem _ (sub _ _ hm)
  · refine w.tq a (by rw [List.filterMap_cons, e]; exact List.mem_cons_self) ?_
    rw [List.filterMap_cons]
    cases t.cell with
    | none => exact sub _ _ hm
    | some b => exact List.mem_cons_of_mem _ (sub _ _ hm)
theorem EnvOk.under {t u : T} (h : EnvOk K mg Hs Hi ρ σ (t :: u :: τ) H) : EnvOk K mg Hs Hi ρ σ (t :: τ) H := let ⟨_, _, _, w⟩ := h; ⟨_, _, _, w.under⟩
theorem EnvOk.unders {t : T} (l : List T) (h : EnvOk K mg Hs Hi ρ σ (t :: (l ++ τ)) H) : EnvOk K mg Hs Hi ρ σ (t :: τ) H := by
  induction l with
  | nil => exact h
  | cons u l ih => exact ih h.under
theorem EnvOk.isInt {r : Rg} {i : Int} {v : V} (h : EnvOk K mg Hs Hi ρ σ (.v r (.int i) v :: τ) H) : v = .int i := by
  obtain ⟨G0, G1, ow, w⟩ := h
  have h := w.tt _ List.mem_cons_self
  cases r with
  | nw => simpa only [RepT, RepR, Rep] using h
  | od => simpa only [RepT, RepR, Rep] using h
  | tn => obtain ⟨c, _, _, e, _⟩ := h; cases c <;> cases e
  | to => obtain ⟨c, _, _, e, _⟩ := h; cases c <;> cases e
theorem EnvOk.isBl {r : Rg} {i : Bool} {v : V} (h : EnvOk K mg Hs Hi ρ σ (.v r (.bl i) v :: τ) H) : v = .bl i := by
  obtain ⟨G0, G1, ow, w⟩ := h
  have h := w.tt _ List.mem_cons_self
  cases r with
  | nw => simpa only [RepT, RepR, Rep] using h
  | od => simpa only [RepT, RepR, Rep] using h
  | tn => obtain ⟨c, _, _, e, _⟩ := h; cases c <;> cases e
  | to => obtain ⟨c, _, _, e, _⟩ := h; cases c <;> cases e
theorem EnvOk.isStr {r : Rg} {i : Str} {v : V} (h : EnvOk K mg Hs Hi ρ σ (.v r (.str i) v :: τ) H) : v = .str i := by
  obtain ⟨G0, G1, ow, w⟩ := h
  have h := w.tt _ List.mem_cons_self
  cases r with
  | nw => simpa only [RepT, RepR, Rep] using h
  | od => simpa only [RepT, RepR, Rep] using h
  | tn => obtain ⟨c, _, _, e, _⟩ := h; cases c <;> cases e
  | to => obtain ⟨c, _, _, e, _⟩ := h; cases c <;> cases e
theorem EnvOk.isNon {r : Rg} {v : V} (h : EnvOk K mg Hs Hi ρ σ (.v r .non v :: τ) H) : v = .non := by
  obtain ⟨G0, G1, ow, w⟩ := h
  have h := w.tt _ List.mem_cons_self
  cases r with
  | nw => simpa only [RepT, RepR, Rep] using h
  | od => simpa only [RepT, RepR, Rep] using h
  | tn => obtain ⟨c, _, _, e, _⟩ := h; cases c <;> cases e
  | to => obtain ⟨c, _, _, e, _⟩ := h; cases c <;> cases e
theorem EnvOk.scr {r : Rg} {ns : List Int} {v : V} (h : EnvOk K mg Hs Hi ρ σ (.v r (.scr ns) v :: τ) H) : ∃ a, v = .ref a ∧ SqL K H a (ns.map V.int) := by
  obtain ⟨G0, G1, ow, w⟩ := h
  have h := w.tt _ List.mem_cons_self
  cases r with
  | nw =>
    simp only [RepT, RepR, Rep] at h
    obtain ⟨a, h1, h2⟩ := h
    exact ⟨a, h1, Same.sql (w.s1.trans w.s2) h2⟩
  | od =>
    simp only [RepT, RepR, Rep] at h
    obtain ⟨a, h1, h2⟩ := h
    exact ⟨a, h1, Same.sql w.s2 h2⟩
  | tn => obtain ⟨c, _, _, e, _⟩ := h; cases c <;> cases e
  | to => obtain ⟨c, _, _, e, _⟩ := h; cases c <;> cases e
/-- a list that waits -/
theorem EnvW.lst {r : Rg} {ds : List D} {v : V} (w : EnvW K mg Hs Hi ρ σ τ H G0 G1 ow) (h : RepR K mg G0 G1 H r (.lst ds) v) : ∃ a vs, v = .ref a ∧ Rd H a (.lst vs) ∧ Reps K mg (Gr G0 G1 r.el) ds vs := by
  cases r with
  | nw =>
    simp only [RepR, Rep] at h
    obtain ⟨a, vs, h1, h2, h3⟩ := h
    exact ⟨a, vs, h1, Same.rd (w.s1.trans w.s2) h2, h3⟩
  | od =>
    simp only [RepR, Rep] at h
    obtain ⟨a, vs, h1, h2, h3⟩ := h
    exact ⟨a, vs, h1, Same.rd w.s2 h2, h3⟩
  | tn =>
    obtain ⟨c, a, o, e, h1, h2, h3⟩ := h
    cases c with
    | lst ds' => cases e; obtain ⟨vs, rfl, h4⟩ := h3; exact ⟨a, vs, h1, .inl h2, h4⟩
    | dct _ _ => cases e
    | ins _ _ _ => cases e
  | to =>
    obtain ⟨c, a, o, e, h1, h2, h3⟩ := h
    cases c with
    | lst ds' => cases e; obtain ⟨vs, rfl, h4⟩ := h3; exact ⟨a, vs, h1, .inl h2, h4⟩
    | dct _ _ => cases e
    | ins _ _ _ => cases e
theorem EnvW.tup {r : Rg} {ds : List D} {v : V} (w : EnvW K mg Hs Hi ρ σ τ H G0 G1 ow) (h : RepR K mg G0 G1 H r (.tup ds) v) : r.st = true ∧ ∃ a vs, v = .ref a ∧ SqT K H a vs ∧ Reps K mg (Gr G0 G1 r.el) ds vs := by
  cases r with
  | nw =>
    simp only [RepR, Rep] at h
    obtain ⟨a, vs, h1, h2, h3⟩ := h
    exact ⟨rfl, a, vs, h1, Same.tup (w.s1.trans w.s2) h2, h3⟩
  | od =>
    simp only [RepR, Rep] at h
    obtain ⟨a, vs, h1, h2, h3⟩ := h
    exact ⟨rfl, a, vs, h1, Same.tup w.s2 h2, h3⟩
  | tn => obtain ⟨c, _, _, e, _⟩ := h; cases c <;> cases e
  | to => obtain ⟨c, _, _, e, _⟩ := h; cases c <;> cases e
theorem EnvOk.lst {r : Rg} {ds : List D} {v : V} (h : EnvOk K mg Hs Hi ρ σ (.v r (.lst ds) v :: τ) H) : ∃ a vs, v = .ref a ∧ Rd H a (.lst vs) ∧ ds.length = vs.length ∧ (∀ G0 G1 ow, EnvW K mg Hs Hi ρ σ (.v r (.lst ds) v :: τ) H G0 G1 ow → Reps K mg (Gr G0 G1 r.el) ds vs) := by
  obtain ⟨G0, G1, ow, w⟩ := h
  obtain ⟨a, vs, h1, h2, h3⟩ := w.lst (w.tt _ List.mem_cons_self)
  refine ⟨a, vs, h1, h2, h3.len, fun G0' G1' ow' w' => ?_⟩
  obtain ⟨a', vs', k1, k2, k3⟩ := w'.lst (w'.tt _ List.mem_cons_self)
  rw [h1] at k1; cases k1
  rw [Rd.lst h2 k2]; exact k3
theorem el_st (r : Rg) : r.el.st = true := by cases r <;> rfl
theorem Gr.rep {r : Rg} {d : D} {x : V} (h : Rep K mg (Gr G0 G1 r.el) d x) : RepR K mg G0 G1 H r.el d x := by cases r <;> exact h
/-- an item of a list that waits -/
theorem EnvOk.item {r : Rg} {ds : List D} {v : V} {a : Addr} {vs : List V} {i : Nat} {d : D} (h : EnvOk K mg Hs Hi ρ σ (.v r (.lst ds) v :: τ) H) (hv : v = .ref a) (hq : Rd H a (.lst vs)) (hi : ds[i]? = some d) :
    ∃ x, vs[i]? = some x ∧ EnvOk K mg Hs Hi ρ σ (.v r.el d x :: .v r (.lst ds) v :: τ) H := by
  obtain ⟨G0, G1, ow, w⟩ := h
  obtain ⟨a', vs', h1, h2, h3⟩ := w.lst (w.tt _ List.mem_cons_self)
  rw [hv] at h1; cases h1
  rw [Rd.lst hq h2]
  obtain ⟨x, e, h4⟩ := h3.get hi
  exact ⟨x, e, G0, G1, ow, w.pushV (Gr.rep h4) (el_st r)⟩
theorem EnvOk.tupq {r : Rg} {ds : List D} {v : V} (h : EnvOk K mg Hs Hi ρ σ (.v r (.tup ds) v :: τ) H) : ∃ a vs, v = .ref a ∧ SqT K H a vs ∧ ds.length = vs.length ∧ (∀ (i : Nat) (d : D), ds[i]? = some d → ∃ x, vs[i]? = some x ∧ EnvOk K mg Hs Hi ρ σ (.v r.el d x :: .v r (.tup ds) v :: τ) H) := by
  obtain ⟨G0, G1, ow, w⟩ := h
  obtain ⟨_, a, vs, h1, h2, h3⟩ := w.tup (w.tt _ List.mem_cons_self)
  refine ⟨a, vs, h1, h2, h3.len, fun i d hi => ?_⟩
  obtain ⟨x, e, h4⟩ := h3.get hi
  exact ⟨x, e, G0, G1, ow, w.pushV (Gr.rep h4) (el_st r)⟩
theorem EnvOk.norm {r : Rg} {d : D} {v : V} (h : EnvOk K mg Hs Hi ρ σ (.v r d v :: τ) H) : EnvOk K mg Hs Hi ρ σ (.v (nm r d) d v :: τ) H := by
  obtain ⟨G0, G1, ow, w⟩ := h
  refine ⟨G0, G1, ow, w.pop.pushQ (RepR.nm (w.tt _ List.mem_cons_self)) fun a e hm => ?_⟩
  unfold nm at e
  split at e
  · cases e
  · exact w.tq a (by rw [List.filterMap_cons, e]; exact List.mem_cons_self) (by
      rw [List.filterMap_cons]
      exact hm)
end

section
variable {Y : Cy} {ρ : List B} {pos : Pos} {a b c : Expr} {Q : Rg → D → Prop}

/-! ### names, constants -/
theorem ve_name (i : Nat) {x : Str} {p : Pos} {r : Rg} {d : D} (hρ : ρ[i]? = some (.v r d)) (h : Q r d) (hN : Y.X.N[i]? = some x := by rfl) (hv : Vis Y.X.env.scope x := by first | exact Or.inl rfl | exact Or.inr (Or.inl rfl) | exact Or.inr (Or.inr rfl))
    (hd : (x == ("__debug__" : Str)) = false := by decide) (hcd : (x == ("__classdict__" : Str)) = false := by decide) : VE Y ρ (.Name x p) Q := fun τ σ H w => by
  obtain ⟨v, e, w'⟩ := EnvOk.slot w hρ
  exact sE.of (pe_var hN hv hd hcd) ⟨v, e, r, d, w', h⟩
theorem ve_nameO (i : Nat) {x : Str} {p : Pos} {r : Rg} {c : Ct} (hρ : ρ[i]? = some (.own r c)) (h : Q r.tr c.toD) (hN : Y.X.N[i]? = some x := by rfl) (hv : Vis Y.X.env.scope x := by first | exact Or.inl rfl | exact Or.inr (Or.inl rfl) | exact Or.inr (Or.inr rfl))
    (hd : (x == ("__debug__" : Str)) = false := by decide) (hcd : (x == ("__classdict__" : Str)) = false := by decide) : VE Y ρ (.Name x p) Q := fun τ σ H w => by
  obtain ⟨v, e, w'⟩ := EnvOk.slotOwn w hρ
  exact sE.of (pe_var hN hv hd hcd) ⟨v, e, _, _, w', h⟩
theorem ve_int {i : Int} {j} (h : Q .nw (.int i)) : VE Y ρ (.Constant (.int i) j pos) Q := fun τ σ H w => sE.of pe_int ⟨_, _, w.int i, h⟩
theorem ve_bl {i : Bool} {j} (h : Q .nw (.bl i)) : VE Y ρ (.Constant (.bool i) j pos) Q := fun τ σ H w => sE.of pe_bl ⟨_, _, w.bl i, h⟩
theorem ve_non {j} (h : Q .nw .non) : VE Y ρ (.Constant .none j pos) Q := fun τ σ H w => sE.of pe_non ⟨_, _, w.non, h⟩
theorem ve_str {i : Str} {j} (h : Q .nw (.str i)) : VE Y ρ (.Constant (.str i) j pos) Q := fun τ σ H w => sE.of pe_str ⟨_, _, w.str i, h⟩
/-- a global that holds an int -/
theorem ve_gint {x : Str} {i : Int} {t : Tok} (hm : Y.X.mg x = some (.int i t)) (h : Q .nw (.int i)) (hg : Gl Y.X x := by rfl) (hd : (x == ("__debug__" : Str)) = false := by decide) : VE Y ρ (.Name x pos) Q := fun τ σ H w => sE.of (pe_glob hg hm (v := .int i) ⟨t, rfl⟩ hd) ⟨_, _, w.int i, h⟩

/-! ### operators -/
abbrev BinW (Y : Cy) (ρ : List B) (rr : R2) (r1 : Rg) (x : D) (r2 : Rg) (y : D) (Q : Rg → D → Prop) : Prop :=
  ∀ τ σ H u v, YE Y ρ σ (.v r2 y u :: .v r1 x v :: τ) H → rr v u H fun z H' => ∃ r d, YE Y ρ σ (.v r d z :: τ) H' ∧ Q r d
theorem ve_bin {op : Operator} {rr : R2} (ho : OpR Y.X (binaryOp op) rr) (h : VE Y ρ a fun r1 x => VE Y ρ b fun r2 y => BinW Y ρ rr r1 x r2 y Q) :
    VE Y ρ (.BinOp a op b pos) Q := fun τ σ H w => sE.of (pe_op ho pe_s pe_s) ((h τ σ H w).mono fun v H1 ⟨r1, x, w1, q1⟩ => (q1 _ σ H1 w1).mono fun u H2 ⟨r2, y, w2, q2⟩ => q2 τ σ H2 u v w2)
theorem ve_cmp {op : CmpOp} {rr : R2} (ho : OpR Y.X (compareOp op) rr) (h : VE Y ρ a fun r1 x => VE Y ρ b fun r2 y => BinW Y ρ rr r1 x r2 y Q) (hm : behindInMarks op b = false := by first | exact nomark _ | rfl) :
    VE Y ρ (.Compare a [op] [b] pos) Q := fun τ σ H w => sE.of (pe_cmpR ho pe_s pe_s hm) ((h τ σ H w).mono fun v H1 ⟨r1, x, w1, q1⟩ => (q1 _ σ H1 w1).mono fun u H2 ⟨r2, y, w2, q2⟩ => q2 τ σ H2 u v w2)
theorem binw_int {C : Int → Int → Prop} {g : Int → Int → Int} {r1 r2 : Rg} {i j : Int} (hc : C i j) (h : Q .nw (.int (g i j))) : BinW Y ρ (rI C fun i j => .int (g i j)) r1 (.int i) r2 (.int j) Q := fun τ σ H u v w => by
  have e1 := EnvOk.isInt w
  have e2 := EnvOk.isInt (EnvOk.pop w)
  subst e1 e2
  exact ⟨i, j, rfl, rfl, hc, _, _, (EnvOk.pop (EnvOk.pop w)).int _, h⟩
theorem binw_int0 {g : Int → Int → Int} {r1 r2 : Rg} {i j : Int} (h : Q .nw (.int (g i j))) : BinW Y ρ (rI0 fun i j => .int (g i j)) r1 (.int i) r2 (.int j) Q := fun τ σ H u v w => by
  have e1 := EnvOk.isInt w
  have e2 := EnvOk.isInt (EnvOk.pop w)
  subst e1 e2
  exact ⟨i, j, rfl, rfl, _, _, (EnvOk.pop (EnvOk.pop w)).int _, h⟩
theorem binw_bool {g : Int → Int → Bool} {r1 r2 : Rg} {i j : Int} (h : Q .nw (.bl (g i j))) : BinW Y ρ (rI0 fun i j => .bl (g i j)) r1 (.int i) r2 (.int j) Q := fun τ σ H u v w => by
  have e1 := EnvOk.isInt w
  have e2 := EnvOk.isInt (EnvOk.pop w)
  subst e1 e2
  exact ⟨i, j, rfl, rfl, _, _, (EnvOk.pop (EnvOk.pop w)).bl _, h⟩
/-- an operator by its own meaning -/
def sOp (X : Cx) (f : Value → Value → Sem Value) : R2 := fun x y H Q => ∀ pins s σ v u, Inv X pins σ H s → RelV x v → RelV y u → wpAny (model X.prog X.w) X.A (f v u) (EP X pins σ Q) X.xe s
theorem sOp.ok {X : Cx} {f : Value → Value → Sem Value} : OpR X f (sOp X f) := fun pins s σ H x y v u Q I rx ry h => h pins s σ v u I rx ry
theorem sOp.of {X : Cx} {f : Value → Value → Sem Value} {rr : R2} (ho : OpR X f rr) {x y : V} {H : Hp} {Q : VK} (h : rr x y H Q) : sOp X f x y H Q := fun pins s σ v u I rx ry => ho pins s σ H x y v u Q I rx ry h
theorem sOp.mono {X : Cx} {f : Value → Value → Sem Value} {x y : V} {H : Hp} {Q Q' : VK} (h : sOp X f x y H Q) (m : ∀ z H', Q z H' → Q' z H') : sOp X f x y H Q' := fun pins s σ v u I rx ry => wpAny_mono (h pins s σ v u I rx ry) (fun _ _ ⟨v, H', a, b, c⟩ => ⟨v, H', a, b, m _ _ c⟩) fun _ _ x => x
/-- a comparison by its operator: its answer is a truth value -/
def CmpW (Y : Cy) (ρ : List B) (op : CmpOp) (r1 : Rg) (x : D) (r2 : Rg) (y : D) (P : Bool → Prop) : Prop :=
  ∀ τ σ H u v, YE Y ρ σ (.v r2 y u :: .v r1 x v :: τ) H → sOp Y.X (compareOp op) v u H fun z H' => ∃ k, z = .bl k ∧ YE Y ρ σ τ H' ∧ P k
def VC (Y : Cy) (ρ : List B) (op : CmpOp) (a b : Expr) (P : Bool → Prop) : Prop := VE Y ρ a fun r1 x => VE Y ρ b fun r2 y => CmpW Y ρ op r1 x r2 y P
theorem ve_c {op : CmpOp} (h : VC Y ρ op a b fun k => Q .nw (.bl k)) (hm : behindInMarks op b = false := by first | exact nomark _ | rfl) : VE Y ρ (.Compare a [op] [b] pos) Q :=
  ve_cmp sOp.ok (VE.mono h fun r1 x hx => VE.mono hx fun r2 y hy τ σ H u v w => (hy τ σ H u v w).mono fun z H' ⟨k, e, w', q⟩ => by subst e; exact ⟨_, _, w'.bl k, q⟩) hm
theorem vt_c {op : CmpOp} {P : Bool → Prop} (h : VC Y ρ op a b P) (hm : behindInMarks op b = false := by first | exact nomark _ | rfl) : VT Y ρ (.Compare a [op] [b] pos) P := fun τ σ H w =>
  sT.of (pt_cmpR sOp.ok pe_s pe_s hm) ((h τ σ H w).mono fun v H1 ⟨r1, x, w1, q1⟩ => (q1 _ σ H1 w1).mono fun u H2 ⟨r2, y, w2, q2⟩ => (q2 τ σ H2 u v w2).mono fun z H' ⟨k, e, w', q⟩ => ⟨k, e, w', q⟩)
theorem cmpw {op : CmpOp} {rr : R2} (ho : OpR Y.X (compareOp op) rr) {r1 r2 : Rg} {x y : D} {P : Bool → Prop} (h : ∀ τ σ H u v, YE Y ρ σ (.v r2 y u :: .v r1 x v :: τ) H → rr v u H fun z H' => ∃ k, z = .bl k ∧ YE Y ρ σ τ H' ∧ P k) : CmpW Y ρ op r1 x r2 y P :=
  fun τ σ H u v w => sOp.of ho (h τ σ H u v w)
/-- two ints -/
abbrev I2 (Y : Cy) (ρ : List B) (a b : Expr) (C : Int → Int → Prop) (Q : Int → Int → Prop) : Prop := VE Y ρ a fun _ x => VE Y ρ b fun _ y => ∃ i j, x = .int i ∧ y = .int j ∧ C i j ∧ Q i j
theorem I2.to {C : Int → Int → Prop} {P : Int → Int → Prop} {rr : R2} (h : I2 Y ρ a b C P) (k : ∀ r1 r2 i j, C i j → P i j → BinW Y ρ rr r1 (.int i) r2 (.int j) Q) : VE Y ρ a fun r1 x => VE Y ρ b fun r2 y => BinW Y ρ rr r1 x r2 y Q :=
  VE.mono h fun r1 x hx => VE.mono hx fun r2 y ⟨i, j, e1, e2, hc, q⟩ => by subst e1 e2; exact k r1 r2 i j hc q
theorem ve_add (h : I2 Y ρ a b (fun _ _ => True) fun i j => Q .nw (.int (i + j))) : VE Y ρ (.BinOp a .Add b pos) Q := ve_bin op_add (h.to fun _ _ _ _ _ q => binw_int0 q)
theorem ve_sub (h : I2 Y ρ a b (fun _ _ => True) fun i j => Q .nw (.int (i - j))) : VE Y ρ (.BinOp a .Sub b pos) Q := ve_bin op_sub (h.to fun _ _ _ _ _ q => binw_int0 q)
theorem ve_mul (h : I2 Y ρ a b CMul fun i j => Q .nw (.int (i * j))) : VE Y ρ (.BinOp a .Mult b pos) Q := ve_bin op_mul (h.to fun _ _ _ _ c q => binw_int c q)
theorem ve_mulW (h : I2 Y ρ a b CMulW fun i j => Q .nw (.int (i * j))) : VE Y ρ (.BinOp a .Mult b pos) Q := ve_bin op_mulW (h.to fun _ _ _ _ c q => binw_int c q)
theorem ve_fdiv (h : I2 Y ρ a b CDivW fun i j => Q .nw (.int (i / j))) : VE Y ρ (.BinOp a .FloorDiv b pos) Q := ve_bin op_fdivW (h.to fun _ _ _ _ c q => binw_int c q)
theorem ve_mod (h : I2 Y ρ a b (fun _ j => 0 < j) fun i j => Q .nw (.int (i % j))) : VE Y ρ (.BinOp a .Mod b pos) Q := ve_bin op_mod (h.to fun _ _ _ _ c q => binw_int c q)
theorem ve_modN (h : I2 Y ρ a b (fun _ j => j ≠ 0) fun i j => Q .nw (.int (i.fmod j))) : VE Y ρ (.BinOp a .Mod b pos) Q := ve_bin op_modN (h.to fun _ _ _ _ c q => binw_int c q)
theorem ve_pow (h : I2 Y ρ a b CPow fun i j => Q .nw (.int (i ^ j.toNat))) : VE Y ρ (.BinOp a .Pow b pos) Q := ve_bin op_pow (h.to fun _ _ _ _ c q => binw_int c q)
theorem cmpw_int {op : CmpOp} {g : Int → Int → Bool} (ho : OpR Y.X (compareOp op) (rI0 fun i j => .bl (g i j))) {r1 r2 : Rg} {i j : Int} {P : Bool → Prop} (h : P (g i j)) : CmpW Y ρ op r1 (.int i) r2 (.int j) P := cmpw ho fun τ σ H u v w => by
  have e1 := EnvOk.isInt w
  have e2 := EnvOk.isInt (EnvOk.pop w)
  subst e1 e2
  exact ⟨i, j, rfl, rfl, _, rfl, EnvOk.pop (EnvOk.pop w), h⟩
theorem I2.toC {op : CmpOp} {g : Int → Int → Bool} {P : Bool → Prop} (ho : OpR Y.X (compareOp op) (rI0 fun i j => .bl (g i j))) (h : I2 Y ρ a b (fun _ _ => True) fun i j => P (g i j)) : VC Y ρ op a b P :=
  VE.mono h fun r1 x hx => VE.mono hx fun r2 y ⟨i, j, e1, e2, hc, q⟩ => by subst e1 e2; exact cmpw_int ho q
theorem vc_lt {P : Bool → Prop} (h : I2 Y ρ a b (fun _ _ => True) fun i j => P (decide (i < j))) : VC Y ρ .Lt a b P := I2.toC op_lt h
theorem vc_le {P : Bool → Prop} (h : I2 Y ρ a b (fun _ _ => True) fun i j => P (decide (i ≤ j))) : VC Y ρ .LtE a b P := I2.toC op_le h
theorem vc_gt {P : Bool → Prop} (h : I2 Y ρ a b (fun _ _ => True) fun i j => P (decide (j < i))) : VC Y ρ .Gt a b P := I2.toC op_gt h
theorem vc_ge {P : Bool → Prop} (h : I2 Y ρ a b (fun _ _ => True) fun i j => P (decide (j ≤ i))) : VC Y ρ .GtE a b P := I2.toC op_ge h
/-- a op b op' c, ints -/
theorem vt_chain {op op' : CmpOp} {g g' : Int → Int → Bool} {P : Bool → Prop} (ho : OpR Y.X (compareOp op) (rI0 fun i j => .bl (g i j))) (ho' : OpR Y.X (compareOp op') (rI0 fun i j => .bl (g' i j)))
    (h : VE Y ρ a fun _ x => VE Y ρ b fun _ y => ∃ i j, x = .int i ∧ y = .int j ∧ (g i j = true → VE Y ρ c fun _ z => ∃ l, z = .int l ∧ P (g' j l)) ∧ (g i j = false → P false)) (hm : lastMarks [op, op'] [b, c] = false := by with_unfolding_all rfl) :
    VT Y ρ (.Compare a [op, op'] [b, c] pos) P := fun τ σ H w =>
  sT.of (pt_chain ho ho' pe_s pe_s pe_s hm) ((h τ σ H w).mono fun v H1 ⟨r1, x, w1, q1⟩ => (q1 _ σ H1 w1).mono fun u H2 ⟨r2, y, w2, i, j, e1, e2, q2, q3⟩ => by
    subst e1 e2
    have e2 := EnvOk.isInt w2
    have e1 := EnvOk.isInt (EnvOk.pop w2)
    subst e1 e2
    refine ⟨i, j, rfl, rfl, _, rfl, ?_⟩
    cases hg : g i j with
    | true =>
      rw [if_pos rfl]
      refine (q2 hg _ σ H2 w2).mono fun z H3 ⟨r3, z', w3, l, e3, q⟩ => ?_
      subst e3
      have e3 := EnvOk.isInt w3
      subst e3
      exact ⟨j, l, rfl, rfl, _, rfl, EnvOk.pop (EnvOk.pop (EnvOk.pop w3)), q⟩
    | false => rw [if_neg Bool.false_ne_true]; exact ⟨_, rfl, EnvOk.pop (EnvOk.pop w2), q3 hg⟩)
theorem ve_chain {op op' : CmpOp} {g g' : Int → Int → Bool} (ho : OpR Y.X (compareOp op) (rI0 fun i j => .bl (g i j))) (ho' : OpR Y.X (compareOp op') (rI0 fun i j => .bl (g' i j)))
    (h : VE Y ρ a fun _ x => VE Y ρ b fun _ y => ∃ i j, x = .int i ∧ y = .int j ∧ (g i j = true → VE Y ρ c fun _ z => ∃ l, z = .int l ∧ Q .nw (.bl (g' j l))) ∧ (g i j = false → Q .nw (.bl false))) (hm : lastMarks [op, op'] [b, c] = false := by with_unfolding_all rfl) :
    VE Y ρ (.Compare a [op, op'] [b, c] pos) Q := fun τ σ H w =>
  sE.of (pe_chain ho ho' pe_s pe_s pe_s hm) ((h τ σ H w).mono fun v H1 ⟨r1, x, w1, q1⟩ => (q1 _ σ H1 w1).mono fun u H2 ⟨r2, y, w2, i, j, e1, e2, q2, q3⟩ => by
    subst e1 e2
    have e2 := EnvOk.isInt w2
    have e1 := EnvOk.isInt (EnvOk.pop w2)
    subst e1 e2
    refine ⟨i, j, rfl, rfl, _, rfl, ?_⟩
    cases hg : g i j with
    | true =>
      rw [if_pos rfl]
      refine (q2 hg _ σ H2 w2).mono fun z H3 ⟨r3, z', w3, l, e3, q⟩ => ?_
      subst e3
      have e3 := EnvOk.isInt w3
      subst e3
      exact ⟨j, l, rfl, rfl, _, _, (EnvOk.pop (EnvOk.pop (EnvOk.pop w3))).bl _, q⟩
    | false => rw [if_neg Bool.false_ne_true]; exact ⟨_, _, (EnvOk.pop (EnvOk.pop w2)).bl _, q3 hg⟩)
theorem ve_neg (h : VE Y ρ a fun _ x => ∃ i, x = .int i ∧ Q .nw (.int (-i))) : VE Y ρ (.UnaryOp .USub a pos) Q := fun τ σ H w => sE.of (pe_un un_neg pe_s) ((h τ σ H w).mono fun v H1 ⟨r1, x, w1, i, e, q⟩ => by
  subst e
  have e1 := EnvOk.isInt w1
  subst e1
  exact ⟨i, rfl, _, _, (EnvOk.pop w1).int _, q⟩)
/-! equality of data -/
mutual
def D.toP : D → PyData
  | .non => .none | .bl b => .bool b | .int i => .int i | .str x => .str x
  | .lst ds => .list (toPs ds) | .tup ds => .tuple (toPs ds)
  | .obj _ _ _ => .none | .dct _ _ => .none | .scr _ => .none
def toPs : List D → List PyData
  | [] => [] | d :: ds => d.toP :: toPs ds
end
mutual
def D.pure : D → Bool
  | .lst ds => pures ds | .tup ds => pures ds | .obj _ _ _ => false | .dct _ _ => false | .scr _ => false | _ => true
def pures : List D → Bool
  | [] => true | d :: ds => d.pure && pures ds
end
def D.eqOk (d : D) : Bool := d.pure && SeqAt.shaped d.toP
def D.eqv (d e : D) : Bool := PyData.eqv d.toP e.toP
section
variable {K : PySem.W.Frag} {mg : Mg} {H G : Hp}
mutual
theorem Rep.dp (e : Same G H) : ∀ {d : D} {v : V}, Rep K mg G d v → d.pure = true → Dp K H v d.toP
  | .non, _, h, _ => by simp only [Rep] at h; subst h; exact .non
  | .bl _, _, h, _ => by simp only [Rep] at h; subst h; exact .bl _
  | .int _, _, h, _ => by simp only [Rep] at h; subst h; exact .int _
  | .str _, _, h, _ => by simp only [Rep] at h; subst h; exact .str _
  | .lst ds, _, h, p => by
    simp only [Rep] at h
    obtain ⟨a, vs, rfl, h2, h3⟩ := h
    simp only [D.pure] at p
    simp only [D.toP]
    exact .lst (.inl (Same.rd e h2)) (Reps.dp e h3 p)
  | .tup ds, _, h, p => by
    simp only [Rep] at h
    obtain ⟨a, vs, rfl, h2, h3⟩ := h
    simp only [D.pure] at p
    simp only [D.toP]
    exact .tup (Same.tup e h2) (Reps.dp e h3 p)
  | .obj _ _ _, _, _, p => by simp only [D.pure] at p; cases p
  | .dct _ _, _, _, p => by simp only [D.pure] at p; cases p
  | .scr _, _, _, p => by simp only [D.pure] at p; cases p
theorem Reps.dp (e : Same G H) : ∀ {ds : List D} {vs : List V}, Reps K mg G ds vs → pures ds = true → DpAll K H vs (toPs ds)
  | [], _, h, _ => by simp only [Reps] at h; subst h; exact .nil
  | d :: ds, _, h, p => by
    simp only [Reps] at h
    obtain ⟨v, r, rfl, h1, h2⟩ := h
    simp only [pures, Bool.and_eq_true] at p
    simp only [toPs]
    exact .cons (Rep.dp e h1 p.1) (Reps.dp e h2 p.2)
end
end
theorem EnvOk.dp {K : PySem.W.Frag} {mg : Mg} {Hs Hi H : Hp} {ρ : List B} {σ : L2.St} {τ : List T} {r : Rg} {d : D} {v : V} (h : EnvOk K mg Hs Hi ρ σ (.v r d v :: τ) H) (p : d.pure = true) : Dp K H v d.toP := by
  obtain ⟨G0, G1, ow, w⟩ := h
  have h := w.tt _ List.mem_cons_self
  have own : ∀ {G : Hp} {c : Ct} {a : Addr} {o : HO}, Same G H → d = c.toD → v = .ref a → H a = some o → RepC K mg G c o → Dp K H v d.toP := by
    intro G c a o s e1 e2 e3 e4
    subst e1 e2
    cases c with
    | lst ds =>
      obtain ⟨vs, rfl, h4⟩ := e4
      simp only [Ct.toD, D.pure] at p
      simp only [Ct.toD, D.toP]
      exact .lst (.inl (.inl e3)) (Reps.dp s h4 p)
    | dct _ _ => simp only [Ct.toD, D.pure] at p; cases p
    | ins _ _ _ => simp only [Ct.toD, D.pure] at p; cases p
  cases r with
  | nw => exact Rep.dp (w.s1.trans w.s2) h p
  | od => exact Rep.dp w.s2 h p
  | tn => obtain ⟨c, a, o, e1, e2, e3, e4⟩ := h; exact own (w.s1.trans w.s2) e1 e2 e3 e4
  | to => obtain ⟨c, a, o, e1, e2, e3, e4⟩ := h; exact own w.s2 e1 e2 e3 e4
theorem eqOk_iff {d : D} (h : d.eqOk = true) : d.pure = true ∧ SeqAt.shaped d.toP = true := by
  unfold D.eqOk at h; rwa [Bool.and_eq_true] at h
theorem vc_eq {P : Bool → Prop} (hu : Y.X.A.units + 64 < cLine) (h : VE Y ρ a fun _ x => VE Y ρ b fun _ y => x.eqOk = true ∧ y.eqOk = true ∧ P (x.eqv y)) : VC Y ρ .Eq a b P :=
  VE.mono h fun r1 x hx => VE.mono hx fun r2 y ⟨p1, p2, q⟩ => cmpw (op_eqD hu) fun τ σ H u v w =>
    ⟨_, _, EnvOk.dp (EnvOk.pop w) (eqOk_iff p1).1, EnvOk.dp w (eqOk_iff p2).1, (eqOk_iff p1).2, (eqOk_iff p2).2, _, rfl, EnvOk.pop (EnvOk.pop w), q⟩
theorem vc_ne {P : Bool → Prop} (hu : Y.X.A.units + 64 < cLine) (h : VE Y ρ a fun _ x => VE Y ρ b fun _ y => x.eqOk = true ∧ y.eqOk = true ∧ P (!x.eqv y)) : VC Y ρ .NotEq a b P :=
  VE.mono h fun r1 x hx => VE.mono hx fun r2 y ⟨p1, p2, q⟩ => cmpw (op_neD hu) fun τ σ H u v w =>
    ⟨_, _, EnvOk.dp (EnvOk.pop w) (eqOk_iff p1).1, EnvOk.dp w (eqOk_iff p2).1, (eqOk_iff p1).2, (eqOk_iff p2).2, _, rfl, EnvOk.pop (EnvOk.pop w), q⟩
/-- == of two ints -/
theorem op_eqI {X : Cx} : OpR X (compareOp .Eq) (rI0 fun i j => .bl (decide (i = j))) := fun pins s σ H x y v u Q I rx ry h => by
  obtain ⟨i, j, rfl, rfl, q⟩ := h
  refine op_eq pins s σ H _ _ v u Q I rx ry ⟨rfl, ?_⟩
  have e : decide (V.int i = V.int j) = decide (i = j) := by rw [Bool.eq_iff_iff]; simp
  rw [e]; exact q
theorem op_neI {X : Cx} : OpR X (compareOp .NotEq) (rI0 fun i j => .bl (decide (i ≠ j))) := fun pins s σ H x y v u Q I rx ry h => by
  obtain ⟨i, j, rfl, rfl, q⟩ := h
  refine op_ne pins s σ H _ _ v u Q I rx ry ⟨rfl, ?_⟩
  have e : (!decide (V.int i = V.int j)) = decide (i ≠ j) := by rw [Bool.eq_iff_iff]; simp
  rw [e]; exact q
theorem vc_eqI {P : Bool → Prop} (h : I2 Y ρ a b (fun _ _ => True) fun i j => P (decide (i = j))) : VC Y ρ .Eq a b P := I2.toC op_eqI h
theorem vc_neI {P : Bool → Prop} (h : I2 Y ρ a b (fun _ _ => True) fun i j => P (decide (i ≠ j))) : VC Y ρ .NotEq a b P := I2.toC op_neI h
/-! is None, is True -/
theorem EnvOk.nonIff {K : PySem.W.Frag} {mg : Mg} {Hs Hi H : Hp} {ρ : List B} {σ : L2.St} {τ : List T} {r : Rg} {d : D} {v : V} (h : EnvOk K mg Hs Hi ρ σ (.v r d v :: τ) H) : v = .non ↔ d = .non := by
  obtain ⟨G0, G1, ow, w⟩ := h
  have h := w.tt _ List.mem_cons_self
  have rp : ∀ {G : Hp}, Rep K mg G d v → (v = .non ↔ d = .non) := by
    intro G h
    cases d <;> simp only [Rep] at h
    · subst h; simp
    · subst h; simp
    · subst h; simp
    · subst h; simp
    · obtain ⟨a, vs, rfl, _⟩ := h; simp
    · obtain ⟨a, vs, rfl, _⟩ := h; simp
    · obtain ⟨a, C, dx, vs, rfl, _⟩ := h; simp
    · obtain ⟨a, vs, rfl, _⟩ := h; simp
    · obtain ⟨a, rfl, _⟩ := h; simp
  cases r with
  | nw => exact rp h
  | od => exact rp h
  | tn => obtain ⟨c, a, o, e1, e2, e3, e4⟩ := h; subst e1 e2; cases c <;> simp [Ct.toD]
  | to => obtain ⟨c, a, o, e1, e2, e3, e4⟩ := h; subst e1 e2; cases c <;> simp [Ct.toD]
def D.isNon : D → Bool | .non => true | _ => false
theorem D.isNon_iff {d : D} : d.isNon = true ↔ d = .non := by cases d <;> simp [D.isNon]
theorem dec_non {v : V} {d : D} (h : v = .non ↔ d = .non) : decide (v = .non) = d.isNon := by
  rw [Bool.eq_iff_iff, decide_eq_true_iff, D.isNon_iff]; exact h
theorem vc_isN {P : Bool → Prop} {j p} (h : VE Y ρ a fun _ x => P x.isNon) : VC Y ρ .Is a (.Constant .none j p) P := VE.mono h fun r1 x q => ve_non (cmpw op_isN fun τ σ H u v w => by
  have e := EnvOk.isNon w
  subst e
  refine ⟨rfl, _, rfl, EnvOk.pop (EnvOk.pop w), ?_⟩
  rw [dec_non (EnvOk.nonIff (EnvOk.pop w))]; exact q)
theorem vc_notN {P : Bool → Prop} {j p} (h : VE Y ρ a fun _ x => P (!x.isNon)) : VC Y ρ .IsNot a (.Constant .none j p) P := VE.mono h fun r1 x q => ve_non (cmpw op_notN fun τ σ H u v w => by
  have e := EnvOk.isNon w
  subst e
  refine ⟨rfl, _, rfl, EnvOk.pop (EnvOk.pop w), ?_⟩
  rw [dec_non (EnvOk.nonIff (EnvOk.pop w))]; exact q)
theorem is_bool_gen {M : Model} {A : Around} {E : Value → Shared → Prop} {s : Shared} {Q : Value → Shared → Prop} {v : Value} {b : Bool} (hb : ∀ i, v ≠ .builtin i) (h : Q (.bool (v == .bool b)) s) : wpAny M A (compareOp .Is v (.bool b)) Q E s := by
  cases v <;> first | exact wpAny_pure h | exact absurd rfl (hb _)
theorem op_isBool {X : Cx} : OpR X (compareOp .Is) (fun x y H Q => ∃ b, y = .bl b ∧ Q (.bl (decide (x = .bl b))) H) := by
  intro pins s σ H x y v u Q I rx ry h
  obtain ⟨b, rfl, q⟩ := h
  cases ry
  refine is_bool_gen (fun i z => ?_) (fin_bl I q ?_)
  · subst z
    cases x <;> first
      | (cases rx; done)
      | (obtain ⟨t, z⟩ := rx; cases z)
  · cases x <;> first
      | (cases rx; rw [Bool.eq_iff_iff]; simp; done)
      | (obtain ⟨t, rfl⟩ := rx; rw [Bool.eq_iff_iff]; simp; done)
theorem EnvOk.blIff {K : PySem.W.Frag} {mg : Mg} {Hs Hi H : Hp} {ρ : List B} {σ : L2.St} {τ : List T} {r : Rg} {d : D} {v : V} {k : Bool} (h : EnvOk K mg Hs Hi ρ σ (.v r d v :: τ) H) : v = .bl k ↔ d = .bl k := by
  obtain ⟨G0, G1, ow, w⟩ := h
  have h := w.tt _ List.mem_cons_self
  have rp : ∀ {G : Hp}, Rep K mg G d v → (v = .bl k ↔ d = .bl k) := by
    intro G h
    cases d <;> simp only [Rep] at h
    · subst h; simp
    · subst h; simp
    · subst h; simp
    · subst h; simp
    · obtain ⟨a, vs, rfl, _⟩ := h; simp
    · obtain ⟨a, vs, rfl, _⟩ := h; simp
    · obtain ⟨a, C, dx, vs, rfl, _⟩ := h; simp
    · obtain ⟨a, vs, rfl, _⟩ := h; simp
    · obtain ⟨a, rfl, _⟩ := h; simp
  cases r with
  | nw => exact rp h
  | od => exact rp h
  | tn => obtain ⟨c, a, o, e1, e2, e3, e4⟩ := h; subst e1 e2; cases c <;> simp [Ct.toD]
  | to => obtain ⟨c, a, o, e1, e2, e3, e4⟩ := h; subst e1 e2; cases c <;> simp [Ct.toD]
def D.isBl (k : Bool) : D → Bool | .bl b => b == k | _ => false
theorem dec_bool {v : V} {d : D} {k : Bool} (h : v = .bl k ↔ d = .bl k) : decide (v = .bl k) = d.isBl k := by
  rw [Bool.eq_iff_iff, decide_eq_true_iff, h]
  cases d <;> simp [D.isBl]
theorem vc_isB {P : Bool → Prop} {j p} {k : Bool} (h : VE Y ρ a fun _ x => P (x.isBl k)) : VC Y ρ .Is a (.Constant (.bool k) j p) P := VE.mono h fun r1 x q => ve_bl (cmpw op_isBool fun τ σ H u v w => by
  have e := EnvOk.isBl w
  subst e
  refine ⟨k, rfl, _, rfl, EnvOk.pop (EnvOk.pop w), ?_⟩
  rw [dec_bool (EnvOk.blIff (EnvOk.pop w))]; exact q)

/-! ### tests -/
theorem vt_val {e : Expr} {P : Bool → Prop} (h : VE Y ρ e fun _ d => ∃ k, d = .bl k ∧ P k) (he : ∀ whole, isTrue e Y.X.env whole = (do let v ← whole; standAt e.pos; holding [v] (truthy v)) := by intro _; rfl) : VT Y ρ e P := fun τ σ H w =>
  sT.of (pt_val pe_s he) ((h τ σ H w).mono fun v H1 ⟨r, d, w1, k, e1, q⟩ => by
    subst e1
    exact ⟨k, EnvOk.isBl w1, EnvOk.pop w1, q⟩)
theorem vt_not {P : Bool → Prop} (h : VT Y ρ a fun k => P (!k)) : VT Y ρ (.UnaryOp .Not a pos) P := fun τ σ H w => sT.of (pt_not pt_s) ((h τ σ H w).mono fun k H1 ⟨w1, q⟩ => ⟨w1, q⟩)
def sW (X : Cx) (e : Expr) : TT := fun σ H Q => ∀ whole pins s, Inv X pins σ H s → wpAny (model X.prog X.w) X.A (isTrue e X.env whole) (TP X pins σ Q) X.xe s
theorem pw_s {X : Cx} {e : Expr} : PW X e (sW X e) := ⟨fun whole pins s σ H Q I h => h whole pins s I⟩
def VW (Y : Cy) (ρ : List B) (e : Expr) (Q : Bool → Prop) : Prop := ∀ τ σ H, YE Y ρ σ τ H → sW Y.X e σ H fun b H' => YE Y ρ σ τ H' ∧ Q b
theorem sW.of {X : Cx} {e : Expr} {t : TT} {σ : L2.St} {H : Hp} {Q : Bool → Hp → Prop} (h : PW X e t) (q : t σ H Q) : sW X e σ H Q := fun whole pins s I => h.run whole pins s σ H Q I q
theorem vt_w {e : Expr} {P : Bool → Prop} (h : VW Y ρ e P) : VT Y ρ e P := fun τ σ H w pins s I => h τ σ H w _ pins s I
theorem vw_and1 {P : Bool → Prop} (h : VT Y ρ a P) : VW Y ρ (.BoolOp .And [a] pos) P := fun τ σ H w => sW.of (pw_and1 pt_s) (h τ σ H w)
theorem vw_or1 {P : Bool → Prop} (h : VT Y ρ a P) : VW Y ρ (.BoolOp .Or [a] pos) P := fun τ σ H w => sW.of (pw_or1 pt_s) (h τ σ H w)
theorem vw_and {rest : List Expr} {P : Bool → Prop} (h : VT Y ρ a fun k => (k = true → VW Y ρ (.BoolOp .And (b :: rest) pos) P) ∧ (k = false → P false)) : VW Y ρ (.BoolOp .And (a :: b :: rest) pos) P := fun τ σ H w =>
  sW.of (pw_and pt_s pw_s) ((h τ σ H w).mono fun k H1 ⟨w1, q1, q2⟩ => by
    cases k with
    | true => rw [if_pos rfl]; exact q1 rfl τ σ H1 w1
    | false => rw [if_neg Bool.false_ne_true]; exact ⟨w1, q2 rfl⟩)
theorem vw_or {rest : List Expr} {P : Bool → Prop} (h : VT Y ρ a fun k => (k = false → VW Y ρ (.BoolOp .Or (b :: rest) pos) P) ∧ (k = true → P true)) : VW Y ρ (.BoolOp .Or (a :: b :: rest) pos) P := fun τ σ H w =>
  sW.of (pw_or pt_s pw_s) ((h τ σ H w).mono fun k H1 ⟨w1, q1, q2⟩ => by
    cases k with
    | false => rw [if_neg Bool.false_ne_true]; exact q1 rfl τ σ H1 w1
    | true => rw [if_pos rfl]; exact ⟨w1, q2 rfl⟩)
/-- x if c else y -/
theorem ve_ite (h : VT Y ρ c fun k => (k = true → VE Y ρ a Q) ∧ (k = false → VE Y ρ b Q)) : VE Y ρ (.IfExp c a b pos) Q := fun τ σ H w => sE.of (pe_ifExp pt_s pe_s pe_s) ((h τ σ H w).mono fun k H1 ⟨w1, q1, q2⟩ => by
  cases k with
  | true => rw [if_pos rfl]; exact q1 rfl τ σ H1 w1
  | false => rw [if_neg Bool.false_ne_true]; exact q2 rfl τ σ H1 w1)
theorem ve_not (h : VE Y ρ a fun _ x => ∃ k, x = .bl k ∧ Q .nw (.bl (!k))) : VE Y ρ (.UnaryOp .Not a pos) Q := fun τ σ H w => sE.of (pe_not pe_s) ((h τ σ H w).mono fun v H1 ⟨r1, x, w1, k, e, q⟩ => by
  subst e
  exact ⟨k, EnvOk.isBl w1, _, _, (EnvOk.pop w1).bl _, q⟩)
theorem ve_one {op} (h : VE Y ρ a Q) : VE Y ρ (.BoolOp op [a] pos) Q := fun τ σ H w => sE.of (pe_one pe_s) (h τ σ H w)
theorem ve_and {rest : List Expr} (h : VE Y ρ a fun _ x => ∃ k, x = .bl k ∧ (k = true → VE Y ρ (.BoolOp .And (b :: rest) pos) Q) ∧ (k = false → Q .nw (.bl false))) : VE Y ρ (.BoolOp .And (a :: b :: rest) pos) Q := fun τ σ H w => sE.of (pe_and pe_s pe_s) ((h τ σ H w).mono fun v H1 ⟨r1, x, w1, k, e, q1, q2⟩ => by
  subst e
  refine ⟨k, EnvOk.isBl w1, ?_⟩
  cases k with
  | true => rw [if_pos rfl]; exact q1 rfl τ σ H1 (EnvOk.pop w1)
  | false => rw [if_neg Bool.false_ne_true]; exact ⟨_, _, (EnvOk.pop w1).bl _, q2 rfl⟩)
theorem ve_or {rest : List Expr} (h : VE Y ρ a fun _ x => ∃ k, x = .bl k ∧ (k = false → VE Y ρ (.BoolOp .Or (b :: rest) pos) Q) ∧ (k = true → Q .nw (.bl true))) : VE Y ρ (.BoolOp .Or (a :: b :: rest) pos) Q := fun τ σ H w => sE.of (pe_or pe_s pe_s) ((h τ σ H w).mono fun v H1 ⟨r1, x, w1, k, e, q1, q2⟩ => by
  subst e
  refine ⟨k, EnvOk.isBl w1, ?_⟩
  cases k with
  | false => rw [if_neg Bool.false_ne_true]; exact q1 rfl τ σ H1 (EnvOk.pop w1)
  | true => rw [if_pos rfl]; exact ⟨_, _, (EnvOk.pop w1).bl _, q2 rfl⟩)
end
end VL

set_option Elab.async false
set_option linter.all false
set_option maxRecDepth 100000
set_option maxHeartbeats 4000000
/-! sorted() of a tuple of ints. -/
namespace SrtO
open PySem PyProof.Rows Srt
section
variable {prog : Program} {w : World} {A : Around} {E : Value → Shared → Prop} {s : Shared}
theorem none_at_end {h h2 : Heap} (k : ∀ b o, h.get? b = some o → h2.get? b = some o) : h.get? h2.objs.size = none := by
  cases e : h.get? h2.objs.size with
  | none => rfl
  | some o => exact absurd (Heap.lt_size (k _ _ e)) (Nat.lt_irrefl _)
theorem sorted_tup {l : Addr} {vs : List Value} {ltv : Value → Value → Bool} {Q : Value → Shared → Prop} (O : Swo ltv) (hl : IsTup s.heap l vs.toArray) (hz : vs.length ≤ sizeLine)
    (hS : ∀ (g : Heap) (a : Addr), 2 ≤ vs.length → SortableO prog w A.in1.in1 { s with heap := g } a vs ltv)
    (fin : ∀ (out : List Value) (g : Heap) (p : Addr), Srtd ltv out → Stb ltv out vs → (∀ b o, s.heap.get? b = some o → g.get? b = some o) → s.heap.get? p = none → (∃ e, g.get? p = some (seqObj "list" out.toArray e)) → Q (.ref p) { s with heap := g }) :
    wpAny (model prog w) A (call (.builtin "sorted") [.ref l]) Q E s := by
  obtain ⟨o, ho, hc, n, hd⟩ := hl
  refine (Calls.call_function_entry kind_sorted plain_sorted entry_sorted (args_sorted1 _)
    ?_)
  unfold Builtin.«sorted»
  refine (wpAny_bind (m := checkCount "sorted" 1 1 _)
    (wpAny_pure ?_))
  refine wpAny_bind (wpAny_collect_seq l (.inr rfl) ho hc hd (fun g hg => ?_) (by rw [List.size_toArray]; exact hz))
  rw [show vs.toArray.toList = vs from rfl]
  refine wpAny_bind (wpAny_newList ?_
    hz)
  have at1 : (g.push (seqObj "list" vs.toArray 0)).get? g.objs.size = some (seqObj "list" vs.toArray 0) := Heap.get?_push_size _ rfl
  refine wpAny_bind (wpAny_holding (wpAny_call_entry slot_list_sort ⟨_, at1, rfl⟩ entry_list_sort
    (list_sort_ord O at1 hz (fun h2 => hS _ _ h2) fun out hs hb => ⟨_, rfl, ?_⟩) (args_list_sort _)))
  refine wpAny_pure ⟨_, rfl, fin out _ _ hs hb (fun b o q => ?_) (none_at_end hg) (sortedHeap_at at1)⟩
  have lt1 := Heap.lt_size (hg b o q)
  rw [sortedHeap_old (Nat.ne_of_lt lt1) (by rw [size_push']; exact Nat.lt_succ_of_lt lt1)]
  exact Heap.get?_push_of_some _ (hg b o q)
end
end SrtO
namespace L2
open PySem PySem.Spec PyProof.Rows
def rSortedTI (K : PySem.W.Frag) : List V → Hp → VK → Prop := fun vs H Q => ∃ (a : Addr) (ns : List Int), vs = [V.ref a] ∧ SqT K H a (ns.map V.int) ∧
  ∀ (ns' : List Int) (p : Addr), ns'.Perm ns → ns'.Pairwise (· ≤ ·) → H p = none → Q (.ref p) (upd H p (.lst (ns'.map V.int)))
section
variable {X : Cx}
theorem cr_sortedTI : CallR X (.builtin "sorted") (rSortedTI X.K) := by
  intro pins s σ H vs us Q I r h
  obtain ⟨a, ns, rfl, hs, q⟩ := h
  obtain ⟨its, rv, hl, hz⟩ := I.tuple hs
  rw [Vals.ref1 r]
  have hi := rv.ints
  refine SrtO.sorted_tup SrtO.swo_int hl (by rw [← rv.length]; exact hz) (fun g a' h2 => SrtO.ints_sortable hi h2) fun out g p h1 h2 h3 h4 h5 => ?_
  obtain ⟨k1, k2, k3⟩ := SrtO.ints_out hi h1 h2
  obtain ⟨ep, he'⟩ := h5
  have hlen : ((out.map SrtO.iv).map V.int).length ≤ sizeLine := by
    rw [List.length_map, k2.length_eq, ← List.length_map (f := V.int)]; exact hz
  exact ⟨.ref p, upd H p (.lst ((out.map SrtO.iv).map V.int)), I.laidN (t' := s.toks) h3 h4 (I.hok.gone h4) ⟨hlen, out, ep, vals_of_ints k1, he'⟩, rfl, q _ p k2 k3 (I.hok.gone h4)⟩
/-- sorted(xs), xs a list or a tuple of ints -/
def rSortedU (K : PySem.W.Frag) : List V → Hp → VK → Prop := fun vs H Q => ∃ (a : Addr) (ns : List Int), vs = [V.ref a] ∧ (SqL K H a (ns.map V.int) ∨ SqT K H a (ns.map V.int)) ∧
  ∀ (ns' : List Int) (p : Addr), ns'.Perm ns → ns'.Pairwise (· ≤ ·) → H p = none → Q (.ref p) (upd H p (.lst (ns'.map V.int)))
theorem cr_sortedU : CallR X (.builtin "sorted") (rSortedU X.K) := by
  intro pins s σ H vs us Q I r h
  obtain ⟨a, ns, e, hs | hs, q⟩ := h
  · exact cr_sortedI pins s σ H vs us Q I r ⟨a, ns, e, hs, q⟩
  · exact cr_sortedTI pins s σ H vs us Q I r ⟨a, ns, e, hs, q⟩
end
end L2

set_option Elab.async false
set_option linter.all false
set_option maxRecDepth 100000
set_option maxHeartbeats 4000000
/-! VL4: lists and tuples: displays, items, slices, methods; built-in functions; stores. -/
namespace VL
open PySem PySem.Spec PyProof.Rows L2

section
variable {K : PySem.W.Frag} {mg : Mg} {Hs Hi H H' G0 G1 G : Hp} {ρ : List B} {σ : L2.St} {τ : List T} {ow : Nat → Option (Addr × HO)}
def cutG {α : Type} (xs : List α) (lo hi : Option Int) : List α := (xs.drop (HT.sIx xs.length 0 lo)).take (HT.sIx xs.length xs.length hi - HT.sIx xs.length 0 lo)
theorem cutV_eq (xs : List V) (lo hi : Option Int) : cutV xs lo hi = cutG xs lo hi := rfl
theorem Reps.drop : ∀ {ds : List D} {vs : List V} (n : Nat), Reps K mg G ds vs → Reps K mg G (ds.drop n) (vs.drop n)
  | ds, vs, 0, h => h
  | [], _, n + 1, h => by simp only [Reps] at h; subst h; simpa using Reps.nil
  | d :: ds, _, n + 1, h => by
    simp only [Reps] at h
    obtain ⟨v, r, rfl, _, h3⟩ := h
    exact Reps.drop n h3
theorem Reps.take : ∀ {ds : List D} {vs : List V} (n : Nat), Reps K mg G ds vs → Reps K mg G (ds.take n) (vs.take n)
  | ds, vs, 0, h => Reps.nil
  | [], _, n + 1, h => by simp only [Reps] at h; subst h; simpa using Reps.nil
  | d :: ds, _, n + 1, h => by
    simp only [Reps] at h
    obtain ⟨v, r, rfl, h1, h3⟩ := h
    exact Reps.cons h1 (Reps.take n h3)
theorem Reps.cut {ds : List D} {vs : List V} (lo hi : Option Int) (h : Reps K mg G ds vs) : Reps K mg G (cutG ds lo hi) (cutG vs lo hi) := by
  unfold cutG
  rw [← h.len]
  exact (h.drop _).take _
theorem Reps.set : ∀ {ds : List D} {vs : List V} {d : D} {v : V} (i : Nat), Reps K mg G ds vs → Rep K mg G d v → Reps K mg G (ds.set i d) (vs.set i v)
  | [], _, _, _, i, h, _ => by simp only [Reps] at h; subst h; simpa using Reps.nil
  | _ :: ds, _, d', v', 0, h, q => by
    simp only [Reps] at h
    obtain ⟨v, r, rfl, h1, h3⟩ := h
    exact Reps.cons q h3
  | _ :: ds, _, d', v', i + 1, h, q => by
    simp only [Reps] at h
    obtain ⟨v, r, rfl, h1, h3⟩ := h
    exact Reps.cons h1 (Reps.set i h3 q)
theorem Reps.rev : ∀ {ds : List D} {vs : List V}, Reps K mg G ds vs → Reps K mg G ds.reverse vs.reverse
  | [], _, h => by simp only [Reps] at h; subst h; exact Reps.nil
  | d :: ds, _, h => by
    simp only [Reps] at h
    obtain ⟨v, r, rfl, h1, h3⟩ := h
    rw [List.reverse_cons, List.reverse_cons]
    exact (Reps.rev h3).append (Reps.cons h1 Reps.nil)
theorem Reps.dropLast {ds : List D} {vs : List V} (h : Reps K mg G ds vs) : Reps K mg G ds.dropLast vs.dropLast := by
  rw [List.dropLast_eq_take, List.dropLast_eq_take, ← h.len]; exact h.take _
theorem Reps.insert {ds : List D} {vs : List V} {d : D} {v : V} (i : Nat) (h : Reps K mg G ds vs) (q : Rep K mg G d v) : Reps K mg G (ds.take i ++ d :: ds.drop i) (vs.take i ++ v :: vs.drop i) :=
  (h.take i).append (Reps.cons q (h.drop i))
theorem Reps.rep : ∀ (n : Nat) {ds : List D} {vs : List V}, Reps K mg G ds vs → Reps K mg G (List.replicate n ds).flatten (List.replicate n vs).flatten
  | 0, _, _, _ => Reps.nil
  | n + 1, _, _, h => by
    rw [List.replicate_succ, List.replicate_succ, List.flatten_cons, List.flatten_cons]
    exact h.append (Reps.rep n h)
theorem HTsIx_none0 (n k : Nat) : HT.sIx n k none = k := HT.sIx_none ..
theorem EnvOk.unpush : ∀ {l : List (Rg × D)} {vs : List V} {τ : List T} {t : T}, EnvOk K mg Hs Hi ρ σ (t :: pushA l vs τ) H → EnvOk K mg Hs Hi ρ σ (t :: τ) H
  | [], _, _, _, h => h
  | _ :: _, [], _, _, h => h
  | x :: l, v :: vs, _, _, h => (EnvOk.unpush (l := l) (vs := vs) h).under
theorem EnvOk.unpush0 : ∀ {l : List (Rg × D)} {vs : List V} {τ : List T}, EnvOk K mg Hs Hi ρ σ (pushA l vs τ) H → EnvOk K mg Hs Hi ρ σ τ H
  | [], _, _, h => h
  | _ :: _, [], _, h => h
  | x :: l, v :: vs, _, h => (EnvOk.unpush0 (l := l) (vs := vs) h).pop
/-- an own object at a slot is rewritten -/
theorem EnvOk.mutSlot {i : Nat} {r : Rg} {c : Ct} (l : List T) (h : EnvOk K mg Hs Hi ρ σ (l ++ τ) H) (e : ρ[i]? = some (.own r c)) (hs : ∀ t ∈ τ, t.stable = true) :
    ∃ a o, σ[i]? = some (some (.ref a)) ∧ H a = some o ∧ (∀ G0 G1 ow, EnvW K mg Hs Hi ρ σ (l ++ τ) H G0 G1 ow → RepC K mg (Gr G0 G1 r) c o) ∧
      ∀ r' c' o', r'.st = true → (∀ G0 G1 ow, EnvW K mg Hs Hi ρ σ (l ++ τ) H G0 G1 ow → RepC K mg (Gr G0 G1 r') c' o') → EnvOk K mg Hs Hi (ρ.set i (.own r' c')) σ τ (upd H a o') := by
  obtain ⟨G0, G1, ow, w⟩ := h
  obtain ⟨h0, a, o, h1, h2, h3⟩ := w.sl i _ e
  have hb := (w.ob i a o h2).1
  refine ⟨a, o, h1, hb, fun G0' G1' ow' w' => ?_, fun r' c' o' hr hc => ?_⟩
  · obtain ⟨_, a', o2, k1, k2, k3⟩ := w'.sl i _ e
    rw [h1] at k1; cases k1
    have := (w'.ob i a o2 k2).1
    rw [hb] at this; cases this
    exact k3
  · have hcc := hc _ _ _ w
        -- the regions of the taken state are not told; rebuild by hand
    have hσ : σ.set i (some (.ref a)) = σ := by
      apply List.ext_getElem?
      intro j
      by_cases hj : j = i
      · subst hj
        rw [List.getElem?_set_self (List.getElem?_eq_some_iff.mp h1).1, h1]
      · rw [List.getElem?_set_ne (Ne.symm hj)]
    have wd := w.drop l
    obtain ⟨_, k2, k3⟩ := w.ob i a o h2
    have nz : ∀ {b : Addr} {u : HO}, G0 b = some u → b ≠ a := fun e z => by rw [z, k2] at e; cases e
    have notxd : ∀ fs, o ≠ HO.xd fs := fun fs z => by
      subst z
      cases c with
      | lst ds => obtain ⟨_, e, _⟩ := h3; cases e
      | dct ks ds => obtain ⟨_, e, _⟩ := h3; cases e
      | ins c ns ds => obtain ⟨_, _, _, _, e, _⟩ := h3; cases e
    have hna : a ∉ τ.filterMap T.cell := fun hm => wd.td a hm i o h2
    refine ⟨G0, G1, fun j => if j = i then some (a, o') else ow j, ?_⟩
    exact {
      s0 := wd.s0, s1 := wd.s1, n0 := wd.n0, n1 := wd.n1, tn := wd.tn, tq := wd.tq
      s2 := fun b u e => by rw [upd_ne (nz e)]; exact wd.s2 _ _ e
      hi := fun b u e => by rw [upd_ne (fun z => by rw [z, k3] at e; cases e)]; exact wd.hi _ _ e
      ob := fun j b u e => by
        by_cases hj : j = i
        · rw [if_pos hj] at e; cases e; exact ⟨upd_same, k2, k3⟩
        · rw [if_neg hj] at e
          obtain ⟨q1, q2, q3⟩ := wd.ob j b u e
          exact ⟨by rw [upd_ne (fun z => hj (wd.inj j i b u o e (by rw [z]; exact h2)))]; exact q1, q2, q3⟩
      inj := fun j k b u u' e f => by
        by_cases hj : j = i
        · by_cases hk : k = i
          · rw [hj, hk]
          · rw [if_pos hj] at e; rw [if_neg hk] at f; cases e; exact absurd (wd.inj k i a u' o f h2) hk
        · by_cases hk : k = i
          · rw [if_neg hj] at e; rw [if_pos hk] at f; cases f; exact absurd (wd.inj j i a u o e h2) hj
          · rw [if_neg hj] at e; rw [if_neg hk] at f; exact wd.inj j k b u u' e f
      len := by rw [List.length_set]; exact wd.len
      sl := fun j b e => by
        rcases gs e with ⟨rfl, hl, rfl⟩ | ⟨hne, e⟩
        · rw [if_pos rfl]; exact ⟨hr, a, o', h1, rfl, hcc⟩
        · rw [if_neg hne]; exact wd.sl j b e
      tt := fun t ht => by
        have h := wd.tt t ht
        have hst := hs t ht
        cases t with
        | v r d v =>
          cases r with
          | nw => exact h
          | od => exact h
          | tn => cases hst
          | to => cases hst
        | own x r2 c2 =>
          obtain ⟨g0, g1, g2, u, g3, g4⟩ := h
          have hx : x ≠ a := fun z => hna (List.mem_filterMap.mpr ⟨_, ht, by rw [z]; rfl⟩)
          exact ⟨g0, g1, g2, u, by rw [upd_ne hx]; exact g3, g4⟩
        | exc x cls dd =>
          obtain ⟨C, e1, e2, e3⟩ := h
          refine ⟨C, e1, e2, ?_⟩
          rcases e3 with e | ⟨d, vs, f1, f2, f3, f4⟩
          · exact .inl e
          · refine .inr ⟨d, vs, f1, ?_, f3, f4⟩
            rw [upd_ne (fun z => ?_)]
            · exact f2
            · rw [z, hb] at f2; cases f2; exact notxd _ rfl
      td := fun b hb j u => by
        by_cases hj : j = i
        · rw [if_pos hj]; intro z; cases z; exact hna hb
        · rw [if_neg hj]; exact wd.td b hb j u }
end

section
variable {Y : Cy} {ρ : List B} {pos cpos : Pos} {a b c : Expr} {es : List Expr} {Q : Rg → D → Prop} {N : Rg → Ct → Prop} {Φ : Fin}
/-! ### displays -/
theorem vn_lst (h : VA Y ρ es fun l => (mxA l).st = true ∧ N (mxA l) (.lst (l.map (·.2)))) (hp : es.all plain = true := by rfl) (hz : es.length ≤ sizeLine := by decide) : VN Y ρ (.List es pos) N := fun τ σ H w =>
  sE.of (pe_lst pa_s) ((VA.run hp h τ σ H w).mono fun vs H1 ⟨l, hl, hl2, w1, hs, q⟩ => ⟨by rw [← hl, hl2]; exact hz, fun p np => ⟨p, _, _, rfl, by
    have w2 : EnvOk Y.X.K Y.X.mg Y.Hs Y.Hi ρ σ (.own p (mxA l) (.lst (l.map (·.2))) :: (pushA l vs τ ++ Y.τ)) (upd H1 p (.lst vs)) := EnvOk.fresh w1 np hs fun G0 G1 ow w => ⟨vs, rfl, by
      rw [pushA_app] at w
      exact (args_rep w.s1 hl w.tt hs).1⟩
    rw [pushA_app] at w2
    exact w2.unpush, q⟩⟩)
theorem ve_tup {x1} (h : VA Y ρ es fun l => (mxA l).st = true ∧ Q (mxA l) (.tup (l.map (·.2)))) (hp : es.all plain = true := by rfl) (hz : es.length ≤ sizeLine := by decide) : VE Y ρ (.Tuple es x1 pos) Q := fun τ σ H w =>
  sE.of (pe_tup pa_s) ((VA.run hp h τ σ H w).mono fun vs H1 ⟨l, hl, hl2, w1, hs, q⟩ => ⟨by rw [← hl, hl2]; exact hz, fun p np => ⟨_, _, by
    have w2 : EnvOk Y.X.K Y.X.mg Y.Hs Y.Hi ρ σ (.v (mxA l) (.tup (l.map (·.2))) (.ref p) :: (pushA l vs τ ++ Y.τ)) (upd H1 p (.tup vs)) := EnvOk.tup w1 np hs fun G0 G1 ow w => by
      rw [pushA_app] at w
      exact (args_rep w.s1 hl w.tt hs).1
    rw [pushA_app] at w2
    exact w2.unpush, q⟩⟩)
/-! ### items -/
theorem atI_map {α β : Type} {xs : List α} {ys : List β} (hl : xs.length = ys.length) {i : Int} {x : α} (h : atI xs i = some x) : ∃ j : Nat, xs[j]? = some x ∧ atI ys i = ys[j]? := by
  unfold atI at h ⊢
  rw [← hl]
  cases e : ixN xs.length i with
  | none => rw [e] at h; cases h
  | some j => rw [e] at h; exact ⟨j, h, rfl⟩
abbrev ixD (r : Rg) (x : D) (i : Int) (Q : Rg → D → Prop) : Prop := match x with
  | .lst ds => ∃ d, atI ds i = some d ∧ Q (nm r.el d) d
  | .tup ds => ∃ d, atI ds i = some d ∧ Q (nm r.el d) d
  | .str z => z.length ≤ sizeLine ∧ ∃ c, atI z.cps.toList i = some c ∧ Q .nw (.str ⟨#[c]⟩)
  | .scr ns => ∃ n, atI ns i = some n ∧ Q .nw (.int n)
  | _ => False
theorem ve_ix (h : VE Y ρ a fun r x => VE Y ρ b fun _ y => ∃ i, y = .int i ∧ ixD r x i Q) (hs : PlainIx b := by exact fun _ _ => rfl) : VE Y ρ (.Subscript a b pos) Q := fun τ σ H w =>
  sE.of (pe_ix ix_seq pe_s pe_s hs) ((h τ σ H w).mono fun v H1 ⟨r1, x, w1, q1⟩ => (q1 _ σ H1 w1).mono fun u H2 ⟨r2, y, w2, i, e, q⟩ => by
    subst e
    have e2 := EnvOk.isInt w2
    subst e2
    have w3 := EnvOk.pop w2
    cases x with
    | lst ds =>
      obtain ⟨d, hd, q⟩ := q
      obtain ⟨p, vs, rfl, hq, hl, _⟩ := EnvOk.lst w3
      obtain ⟨j, hj, hv⟩ := atI_map hl hd
      obtain ⟨z, hz, w4⟩ := EnvOk.item w3 rfl hq hj
      exact .inl ⟨p, vs, i, z, rfl, rfl, .inl hq, by rw [hv, hz], _, _, w4.under.norm, q⟩
    | tup ds =>
      obtain ⟨d, hd, q⟩ := q
      obtain ⟨p, vs, rfl, hq, hl, k⟩ := EnvOk.tupq w3
      obtain ⟨j, hj, hv⟩ := atI_map hl hd
      obtain ⟨z, hz, w4⟩ := k j d hj
      exact .inr (.inl ⟨p, vs, i, z, rfl, rfl, hq, by rw [hv, hz], _, _, w4.under.norm, q⟩)
    | str z =>
      obtain ⟨hz, c, hc, q⟩ := q
      have e3 := EnvOk.isStr w3
      subst e3
      exact .inr (.inr ⟨z, i, c, rfl, rfl, hz, hc, _, _, (EnvOk.pop w3).str _, q⟩)
    | non => exact q.elim
    | bl _ => exact q.elim
    | int _ => exact q.elim
    | obj _ _ _ => exact q.elim
    | dct _ _ => exact q.elim
    | scr ns =>
      obtain ⟨n, hn, q⟩ := q
      obtain ⟨p, rfl, hq⟩ := EnvOk.scr w3
      obtain ⟨j, hj, hv⟩ := atI_map (ys := ns.map V.int) (by rw [List.length_map]) hn
      exact .inl ⟨p, _, i, .int n, rfl, rfl, hq, by rw [hv, List.getElem?_map, hj]; rfl, _, _, (EnvOk.pop w3).int n, q⟩)
/-! ### slices of lists -/
def VO (Y : Cy) (ρ : List B) : Option Expr → (Option Int → Prop) → Prop
  | none, Q => Q none
  | some e, Q => VE Y ρ e fun _ y => ∃ i, y = .int i ∧ Q (some i)
def sO (X : Cx) (e : Option Expr) : TO := fun σ H Q => ∀ pins s, Inv X pins σ H s → wpAny (model X.prog X.w) X.A (evalPart e X.env) (fun u s' => ∃ o H', Inv X pins σ H' s' ∧ IsPart u o ∧ Q o H') X.xe s
theorem po_s {X : Cx} {e : Option Expr} : PO X e (sO X e) := ⟨fun pins s σ H Q I h => h pins s I⟩
theorem sO.of {X : Cx} {e : Option Expr} {t : TO} {σ : L2.St} {H : Hp} {Q : Option Int → Hp → Prop} (h : PO X e t) (q : t σ H Q) : sO X e σ H Q := fun pins s I => h.run pins s σ H Q I q
theorem VO.run {e : Option Expr} {P : Option Int → Prop} (h : VO Y ρ e P) : ∀ τ σ H, YE Y ρ σ τ H → sO Y.X e σ H fun o H' => YE Y ρ σ τ H' ∧ P o := fun τ σ H w => by
  cases e with
  | none => exact sO.of po_none ⟨w, h⟩
  | some e =>
    refine sO.of (po_some pe_s) ((h τ σ H w).mono fun v H1 ⟨r, y, w1, i, e, q⟩ => ?_)
    subst e
    exact ⟨i, EnvOk.isInt w1, EnvOk.pop w1, q⟩
theorem vn_slice {lo hi : Option Expr} {p2 : Pos} (h : VE Y ρ a fun r x => VO Y ρ lo fun l => VO Y ρ hi fun u => ∃ ds, x = .lst ds ∧ N r.el (.lst (cutG ds l u))) : VN Y ρ (.Subscript a (.Slice lo hi none p2) pos) N := fun τ σ H w =>
  sE.of (pe_slice sl_list pe_s po_s po_s) ((h τ σ H w).mono fun v H1 ⟨r1, x, w1, q1⟩ => by
    refine fun pins s I => wpAny_mono (VO.run q1 _ σ H1 w1 pins s I) (fun u s' ⟨o, H2, I2, ip, w2, q2⟩ => ⟨o, H2, I2, ip, ?_⟩) fun _ _ x => x
    refine fun pins s I => wpAny_mono (VO.run q2 _ σ H2 w2 pins s I) (fun u s' ⟨o2, H3, I3, ip, w3, ds, e, q3⟩ => ⟨o2, H3, I3, ip, ?_⟩) fun _ _ x => x
    subst e
    obtain ⟨p, vs, rfl, hq, hl, k⟩ := EnvOk.lst w3
    refine ⟨p, vs, rfl, .inl hq, fun n nn => ⟨n, _, _, rfl, ?_, q3⟩⟩
    have w4 := EnvOk.fresh (r := r1.el) (c := .lst (cutG ds o o2)) (o := .lst (cutV vs o o2)) w3 nn (el_st r1) fun G0 G1 ow w => ⟨_, rfl, by
      have := (k G0 G1 ow w).cut o o2
      cases r1 <;> exact this⟩
    exact w4.under)
/-! ### lists: +, * -/
theorem op_catR {X : Cx} : OpR X (binaryOp .Add) (fun x y H Q => ∃ l b xs zs, x = .ref l ∧ y = .ref b ∧ Rd H l (.lst xs) ∧ Rd H b (.lst zs) ∧ xs.length + zs.length ≤ sizeLine ∧ ∀ p, H p = none → Q (.ref p) (upd H p (.lst (xs ++ zs)))) := by
  intro pins s σ H x y v u Q I rx ry h
  obtain ⟨l, b, xs, zs, rfl, rfl, hH, hB, hz, q⟩ := h
  cases rx
  cases ry
  obtain ⟨z, its, n, r, e⟩ := hH.ok I.hok
  obtain ⟨z2, its2, n2, r2, e2⟩ := hB.ok I.hok
  have hl := r.length
  have hl2 := r2.length
  refine PySem.P.add_list e e2 ?_ (by rw [List.size_toArray, List.size_toArray]; omega)
  have ea : its.toArray ++ its2.toArray = (its ++ its2).toArray := by simp
  rw [ea]
  exact ⟨.ref _, _, I.lnew (t' := s.toks) (r.append r2) (by rw [List.length_append]; omega), rfl, q _ I.fresh⟩
theorem vn_cat (h : VE Y ρ a fun r1 x => VE Y ρ b fun r2 y => ∃ ds es, x = .lst ds ∧ y = .lst es ∧ ds.length + es.length ≤ sizeLine ∧ N (r1.el.mx r2.el) (.lst (ds ++ es))) : VN Y ρ (.BinOp a .Add b pos) N := fun τ σ H w =>
  sE.of (pe_op op_catR pe_s pe_s) ((h τ σ H w).mono fun v H1 ⟨r1, x, w1, q1⟩ => (q1 _ σ H1 w1).mono fun u H2 ⟨r2, y, w2, ds, es, e1, e2, hz, q⟩ => by
    subst e1 e2
    obtain ⟨p2, vs2, rfl, hq2, hl2, k2⟩ := EnvOk.lst w2
    obtain ⟨p1, vs1, rfl, hq1, hl1, k1⟩ := EnvOk.lst (EnvOk.pop w2)
    have hst : (r1.el.mx r2.el).st = true := by cases r1 <;> cases r2 <;> rfl
    refine ⟨p1, p2, vs1, vs2, rfl, rfl, hq1, hq2, by rw [← hl1, ← hl2]; exact hz, fun n nn => ⟨n, _, _, rfl, ?_, q⟩⟩
    refine (EnvOk.fresh (r := r1.el.mx r2.el) (c := .lst (ds ++ es)) (o := .lst (vs1 ++ vs2)) w2 nn hst fun G0 G1 ow w => ⟨_, rfl, ?_⟩).under.under
    obtain ⟨le1, le2⟩ := Gr.le w.s1 hst
    exact ((k1 G0 G1 ow w.pop).mono le1).append ((k2 G0 G1 ow w).mono le2))
theorem op_repR {X : Cx} : OpR X (binaryOp .Mult) (fun x y H Q => ∃ l k xs, x = .ref l ∧ y = .int k ∧ Rd H l (.lst xs) ∧ -(2 ^ 63) ≤ k ∧ k < 2 ^ 63 ∧ xs.length * k.toNat ≤ sizeLine ∧
  ∀ p, H p = none → Q (.ref p) (upd H p (.lst (List.replicate k.toNat xs).flatten))) := by
  intro pins s σ H x y v u Q I rx ry h
  obtain ⟨l, k, xs, rfl, rfl, hH, h1, h2, hz, q⟩ := h
  cases rx
  obtain ⟨t, rfl⟩ := ry
  obtain ⟨z, its, n, r, e⟩ := hH.ok I.hok
  have hl := r.length
  have hlen : its.toArray.size * k.toNat ≤ sizeLine := by rw [List.size_toArray, ← hl]; exact hz
  have hcap : ¬ its.toArray.size * k.toNat > (2 ^ 63 - 1) / 8 := by
    have : (sizeLine : Nat) ≤ (2 ^ 63 - 1) / 8 := by decide
    omega
  have hfit : ¬ (!Builtin.List.listFitsIndex k) = true := by
    rw [fitsIndex_both h1 h2]
    exact Bool.false_ne_true
  have hlong : ¬ Builtin.List.listTooLong (its.toArray.size * k.toNat) = true := by
    rw [notLongL hlen]
    exact Bool.false_ne_true
  have hnew : List.foldl (fun x1 x2 => x1 ++ x2) #[] (List.replicate (if its.toArray.isEmpty = true then 0 else k.toNat) its.toArray) = (List.replicate k.toNat its).flatten.toArray := by
    have f0 : ∀ m : Nat, List.foldl (fun x1 x2 => x1 ++ x2) #[] (List.replicate m its.toArray) = (List.replicate m its).flatten.toArray := fun m => by
      have := foldl_rep its m []
      rw [List.nil_append] at this
      exact this
    rw [f0]
    cases its with
    | nil => simp
    | cons a r' => rw [if_neg (by simp)]
  refine wpAny_binaryOp_repeat_ref (T := "list") (U := "int") (by decide) ⟨_, e, rfl⟩ (fun s' => typeIs_int s' k t) noFill_list_mul F.fills_int_mul F.slot_int_rmul repeat_list F.slot_int_index.lookup
    (call_meets F.slot_int_rmul (typeIs_int s k t) F.entry_int_rmul (F.args_int_rmul_2 _ _) (int___rmul___int_list k t l its.toArray n)
      ⟨e, rfl, ⟨_, e, rfl⟩, call_meets F.slot_list_mul ⟨_, e, rfl⟩ F.entry_list_mul (F.args_list_mul_2 _ _) (AutoListH.list___mul___list_int_3 l its.toArray n k t hfit hcap hlong) ⟨e, ?_⟩⟩)
  rw [hnew]
  exact ⟨.ref _, _, I.lnew (t' := s.toks) (r.rep k.toNat) (by rw [PyProof.Rows.lm_len_rep_flat, Nat.mul_comm]; exact hz), rfl, q _ I.fresh⟩
theorem vn_rep (h : VE Y ρ a fun r1 x => VE Y ρ b fun _ y => ∃ ds k, x = .lst ds ∧ y = .int k ∧ -(2 ^ 63) ≤ k ∧ k < 2 ^ 63 ∧ ds.length * k.toNat ≤ sizeLine ∧ N r1.el (.lst (List.replicate k.toNat ds).flatten)) : VN Y ρ (.BinOp a .Mult b pos) N := fun τ σ H w =>
  sE.of (pe_op op_repR pe_s pe_s) ((h τ σ H w).mono fun v H1 ⟨r1, x, w1, q1⟩ => (q1 _ σ H1 w1).mono fun u H2 ⟨r2, y, w2, ds, k, e1, e2, h1, h2, hz, q⟩ => by
    subst e1 e2
    have e2 := EnvOk.isInt w2
    subst e2
    obtain ⟨p1, vs1, rfl, hq1, hl1, k1⟩ := EnvOk.lst (EnvOk.pop w2)
    refine ⟨p1, k, vs1, rfl, rfl, hq1, h1, h2, by rw [← hl1]; exact hz, fun n nn => ⟨n, _, _, rfl, ?_, q⟩⟩
    refine (EnvOk.fresh (r := r1.el) (c := .lst (List.replicate k.toNat ds).flatten) (o := .lst (List.replicate k.toNat vs1).flatten) w2 nn (el_st r1) fun G0 G1 ow w => ⟨_, rfl, ?_⟩).under.under
    have := (k1 G0 G1 ow w.pop).rep k.toNat
    cases r1 <;> exact this)
/-! ### built-in functions -/
abbrev C1 (Y : Cy) (ρ : List B) (rr : List V → Hp → VK → Prop) (r1 : Rg) (x : D) (Q : Rg → D → Prop) : Prop :=
  ∀ τ σ H v, YE Y ρ σ (.v r1 x v :: τ) H → rr [v] H fun z H' => ∃ r d, YE Y ρ σ (.v r d z :: τ) H' ∧ Q r d
abbrev C2 (Y : Cy) (ρ : List B) (rr : List V → Hp → VK → Prop) (r1 : Rg) (x : D) (r2 : Rg) (y : D) (Q : Rg → D → Prop) : Prop :=
  ∀ τ σ H u v, YE Y ρ σ (.v r2 y u :: .v r1 x v :: τ) H → rr [v, u] H fun z H' => ∃ r d, YE Y ρ σ (.v r d z :: τ) H' ∧ Q r d
section
variable {x : Str} {p : Pos} {id : String} {rr : List V → Hp → VK → Prop}
theorem ve_b1 (hc : CallR Y.X (.builtin id) rr) (hm : Y.X.mg x = none) (hv : bootBuiltins x = some (.builtin id)) (h : VE Y ρ a fun r1 d => C1 Y ρ rr r1 d Q) (hp : plain a = true := by rfl) (hg : Gl Y.X x := by rfl)
    (hn : x ≠ "__name__" := by decide) (hdb : (x == ("__debug__" : Str)) = false := by decide) : VE Y ρ (.Call (.Name x p) [a] [] pos) Q := fun τ σ H w =>
  sE.of (pe_callB hc hg hm hv (pa_cons pe_s pa_nil (star_plain hp)) hn hdb (star_plain hp) rfl) ((h τ σ H w).mono fun v H1 ⟨r1, d, w1, q⟩ => q τ σ H1 v w1)
theorem ve_b2 (hc : CallR Y.X (.builtin id) rr) (hm : Y.X.mg x = none) (hv : bootBuiltins x = some (.builtin id)) (h : VE Y ρ a fun r1 d => VE Y ρ b fun r2 e => C2 Y ρ rr r1 d r2 e Q) (hp : plain a = true := by rfl) (hp2 : plain b = true := by rfl) (hg : Gl Y.X x := by rfl)
    (hn : x ≠ "__name__" := by decide) (hdb : (x == ("__debug__" : Str)) = false := by decide) : VE Y ρ (.Call (.Name x p) [a, b] [] pos) Q := fun τ σ H w =>
  sE.of (pe_callB hc hg hm hv (pa_cons pe_s (pa_cons pe_s pa_nil (star_plain hp2)) (star_plain hp)) hn hdb (star_plain hp) (by rw [star_plain hp2]; rfl)) ((h τ σ H w).mono fun v H1 ⟨r1, d, w1, q⟩ => (q _ σ H1 w1).mono fun u H2 ⟨r2, e, w2, q2⟩ => q2 τ σ H2 u v w2)
theorem ve_t1 {T : String} (hc : CallR Y.X (.type T) rr) (hm : Y.X.mg x = none) (hv : bootBuiltins x = some (.type T)) (h : VE Y ρ a fun r1 d => C1 Y ρ rr r1 d Q) (hp : plain a = true := by rfl) (hg : Gl Y.X x := by rfl)
    (hn : x ≠ "__name__" := by decide) (hdb : (x == ("__debug__" : Str)) = false := by decide) : VE Y ρ (.Call (.Name x p) [a] [] pos) Q := fun τ σ H w =>
  sE.of (pe_callTy hc hg hm hv (pa_cons pe_s pa_nil (star_plain hp)) hn hdb (star_plain hp) rfl) ((h τ σ H w).mono fun v H1 ⟨r1, d, w1, q⟩ => q τ σ H1 v w1)
abbrev N1 (Y : Cy) (ρ : List B) (rr : List V → Hp → VK → Prop) (r1 : Rg) (x : D) (N : Rg → Ct → Prop) : Prop :=
  ∀ τ σ H v, YE Y ρ σ (.v r1 x v :: τ) H → rr [v] H fun z H' => ∃ a r c, z = .ref a ∧ YE Y ρ σ (.own a r c :: τ) H' ∧ N r c
theorem vn_b1 (hc : CallR Y.X (.builtin id) rr) (hm : Y.X.mg x = none) (hv : bootBuiltins x = some (.builtin id)) (h : VE Y ρ a fun r1 d => N1 Y ρ rr r1 d N) (hp : plain a = true := by rfl) (hg : Gl Y.X x := by rfl)
    (hn : x ≠ "__name__" := by decide) (hdb : (x == ("__debug__" : Str)) = false := by decide) : VN Y ρ (.Call (.Name x p) [a] [] pos) N := fun τ σ H w =>
  sE.of (pe_callB hc hg hm hv (pa_cons pe_s pa_nil (star_plain hp)) hn hdb (star_plain hp) rfl) ((h τ σ H w).mono fun v H1 ⟨r1, d, w1, q⟩ => q τ σ H1 v w1)
theorem vn_t1 {T : String} (hc : CallR Y.X (.type T) rr) (hm : Y.X.mg x = none) (hv : bootBuiltins x = some (.type T)) (h : VE Y ρ a fun r1 d => N1 Y ρ rr r1 d N) (hp : plain a = true := by rfl) (hg : Gl Y.X x := by rfl)
    (hn : x ≠ "__name__" := by decide) (hdb : (x == ("__debug__" : Str)) = false := by decide) : VN Y ρ (.Call (.Name x p) [a] [] pos) N := fun τ σ H w =>
  sE.of (pe_callTy hc hg hm hv (pa_cons pe_s pa_nil (star_plain hp)) hn hdb (star_plain hp) rfl) ((h τ σ H w).mono fun v H1 ⟨r1, d, w1, q⟩ => q τ σ H1 v w1)
end
theorem natAbs_ite (i : Int) : (if i < 0 then -i else i) = (i.natAbs : Int) := by split <;> omega
theorem ve_abs {p : Pos} (hm : Y.X.mg "abs" = none) (h : VE Y ρ a fun _ x => ∃ i, x = .int i ∧ Q .nw (.int (i.natAbs : Int))) (hp : plain a = true := by rfl) (hg : Gl Y.X "abs" := by rfl) : VE Y ρ (.Call (.Name "abs" p) [a] [] pos) Q :=
  ve_b1 call_abs hm (by decide +kernel) (h.mono fun r1 d ⟨i, e, q⟩ τ σ H v w => by
    subst e
    have e := EnvOk.isInt w
    subst e
    exact ⟨i, rfl, _, _, (EnvOk.pop w).int _, by rw [natAbs_ite]; exact q⟩) hp hg
abbrev intD (x : D) (Q : Rg → D → Prop) : Prop := match x with
  | .int i => Q .nw (.int i)
  | .bl k => Q .nw (.int (if k then 1 else 0))
  | _ => False
theorem ve_intc {p : Pos} (hm : Y.X.mg "int" = none) (h : VE Y ρ a fun _ x => intD x Q) (hp : plain a = true := by rfl) (hg : Gl Y.X "int" := by rfl) : VE Y ρ (.Call (.Name "int" p) [a] [] pos) Q :=
  ve_t1 call_int1 hm (by decide +kernel) (h.mono fun r1 d q τ σ H v w => by
    cases d with
    | int i => have e := EnvOk.isInt w; subst e; exact .inl ⟨i, rfl, _, _, (EnvOk.pop w).int _, q⟩
    | bl k => have e := EnvOk.isBl w; subst e; exact .inr ⟨k, rfl, _, _, (EnvOk.pop w).int _, q⟩
    | non => exact q.elim
    | str _ => exact q.elim
    | lst _ => exact q.elim
    | tup _ => exact q.elim
    | obj _ _ _ => exact q.elim
    | scr _ => exact q.elim
    | dct _ _ => exact q.elim) hp hg
abbrev lenD (x : D) (Q : Rg → D → Prop) : Prop := match x with
  | .lst ds => Q .nw (.int ds.length)
  | .tup ds => Q .nw (.int ds.length)
  | .str z => z.length ≤ sizeLine ∧ Q .nw (.int z.length)
  | .scr ns => Q .nw (.int ns.length)
  | _ => False
theorem call_lenX {X : Cx} : CallR X (.builtin "len") (fun xs H Q => (∃ p ys, xs = [.ref p] ∧ (SqL X.K H p ys ∨ SqT X.K H p ys) ∧ Q (.int ys.length) H) ∨ ∃ z, xs = [.str z] ∧ z.length ≤ sizeLine ∧ Q (.int z.length) H) := by
  intro pins s σ H xs us Q I r h
  rcases h with h | h
  · exact call_len_seq pins s σ H xs us Q I r h
  · exact call_len_str pins s σ H xs us Q I r h
theorem ve_len {p : Pos} (hm : Y.X.mg "len" = none) (h : VE Y ρ a fun _ x => lenD x Q) (hp : plain a = true := by rfl) (hg : Gl Y.X "len" := by rfl) : VE Y ρ (.Call (.Name "len" p) [a] [] pos) Q :=
  ve_b1 call_lenX hm PySem.boot_len (h.mono fun r1 d q τ σ H v w => by
    cases d with
    | lst ds =>
      obtain ⟨a, vs, rfl, hq, hl, _⟩ := EnvOk.lst w
      exact .inl ⟨a, vs, rfl, .inl (.inl hq), _, _, (EnvOk.pop w).int _, by rw [← hl]; exact q⟩
    | tup ds =>
      obtain ⟨a, vs, rfl, hq, hl, _⟩ := EnvOk.tupq w
      exact .inl ⟨a, vs, rfl, .inr hq, _, _, (EnvOk.pop w).int _, by rw [← hl]; exact q⟩
    | str z => have e := EnvOk.isStr w; subst e; exact .inr ⟨z, rfl, q.1, _, _, (EnvOk.pop w).int _, q.2⟩
    | scr ns =>
      obtain ⟨p, rfl, hq⟩ := EnvOk.scr w
      exact .inl ⟨p, _, rfl, .inl hq, _, _, (EnvOk.pop w).int _, by rw [List.length_map]; exact q⟩
    | non => exact q.elim
    | bl _ => exact q.elim
    | int _ => exact q.elim
    | obj _ _ _ => exact q.elim
    | dct _ _ => exact q.elim) hp hg
/-- a list of ints that waits -/
theorem EnvOk.ints {K : PySem.W.Frag} {mg : Mg} {Hs Hi H : Hp} {ρ : List B} {σ : L2.St} {τ : List T} {r : Rg} {ns : List Int} {v : V} (w : EnvOk K mg Hs Hi ρ σ (.v r (.lst (ns.map .int)) v :: τ) H) : ∃ a, v = .ref a ∧ Rd H a (.lst (ns.map V.int)) := by
  obtain ⟨G0, G1, ow, w⟩ := w
  obtain ⟨a, vs, h1, h2, h3⟩ := w.lst (w.tt _ List.mem_cons_self)
  rw [Reps.ints h3] at h2
  exact ⟨a, h1, h2⟩
theorem ve_sum {p : Pos} (hk : Y.X.calm = true) (hm : Y.X.mg "sum" = none) (h : VE Y ρ a fun _ x => ∃ ns : List Int, x = .lst (ns.map .int) ∧ Q .nw (.int ns.sum)) (hp : plain a = true := by rfl) (hg : Gl Y.X "sum" := by rfl) : VE Y ρ (.Call (.Name "sum" p) [a] [] pos) Q :=
  ve_b1 (cr_sum hk) hm (by decide +kernel) (h.mono fun r1 d ⟨ns, e, q⟩ τ σ H v w => by
    subst e
    obtain ⟨a, rfl, hq⟩ := EnvOk.ints w
    exact ⟨a, ns, rfl, .inl hq, _, _, (EnvOk.pop w).int _, q⟩) hp hg
theorem ve_max {p : Pos} (hk : Y.X.calm = true) (hm : Y.X.mg "max" = none) (h : VE Y ρ a fun _ x => ∃ ns : List Int, x = .lst (ns.map .int) ∧ 0 < ns.length ∧ ∀ m, m ∈ ns → (∀ y, y ∈ ns → y ≤ m) → Q .nw (.int m)) (hp : plain a = true := by rfl) (hg : Gl Y.X "max" := by rfl) : VE Y ρ (.Call (.Name "max" p) [a] [] pos) Q :=
  ve_b1 (cr_max hk) hm (by decide +kernel) (h.mono fun r1 d ⟨ns, e, hl, q⟩ τ σ H v w => by
    subst e
    obtain ⟨a, rfl, hq⟩ := EnvOk.ints w
    exact ⟨a, ns, rfl, .inl hq, hl, fun m h1 h2 => ⟨_, _, (EnvOk.pop w).int _, q m h1 h2⟩⟩) hp hg
theorem ve_min {p : Pos} (hk : Y.X.calm = true) (hm : Y.X.mg "min" = none) (h : VE Y ρ a fun _ x => ∃ ns : List Int, x = .lst (ns.map .int) ∧ 0 < ns.length ∧ ∀ m, m ∈ ns → (∀ y, y ∈ ns → m ≤ y) → Q .nw (.int m)) (hp : plain a = true := by rfl) (hg : Gl Y.X "min" := by rfl) : VE Y ρ (.Call (.Name "min" p) [a] [] pos) Q :=
  ve_b1 (cr_min hk) hm (by decide +kernel) (h.mono fun r1 d ⟨ns, e, hl, q⟩ τ σ H v w => by
    subst e
    obtain ⟨a, rfl, hq⟩ := EnvOk.ints w
    exact ⟨a, ns, rfl, .inl hq, hl, fun m h1 h2 => ⟨_, _, (EnvOk.pop w).int _, q m h1 h2⟩⟩) hp hg
theorem ve_max2 {p : Pos} (hk : Y.X.calm = true) (hm : Y.X.mg "max" = none) (h : I2 Y ρ a b (fun _ _ => True) fun i j => Q .nw (.int (max i j))) (hp : plain a = true := by rfl) (hp2 : plain b = true := by rfl) (hg : Gl Y.X "max" := by rfl) : VE Y ρ (.Call (.Name "max" p) [a, b] [] pos) Q :=
  ve_b2 (call_max2 hk) hm (by decide +kernel) (VE.mono h fun r1 x hx => VE.mono hx fun r2 y ⟨i, j, e1, e2, _, q⟩ τ σ H u v w => by
    subst e1 e2
    have e2 := EnvOk.isInt w
    have e1 := EnvOk.isInt (EnvOk.pop w)
    subst e1 e2
    refine ⟨i, j, rfl, _, _, (EnvOk.pop (EnvOk.pop w)).int _, ?_⟩
    rw [show (if j > i then j else i) = max i j by split <;> omega]; exact q) hp hp2 hg
theorem ve_min2 {p : Pos} (hk : Y.X.calm = true) (hm : Y.X.mg "min" = none) (h : I2 Y ρ a b (fun _ _ => True) fun i j => Q .nw (.int (min i j))) (hp : plain a = true := by rfl) (hp2 : plain b = true := by rfl) (hg : Gl Y.X "min" := by rfl) : VE Y ρ (.Call (.Name "min" p) [a, b] [] pos) Q :=
  ve_b2 (call_min2 hk) hm (by decide +kernel) (VE.mono h fun r1 x hx => VE.mono hx fun r2 y ⟨i, j, e1, e2, _, q⟩ τ σ H u v w => by
    subst e1 e2
    have e2 := EnvOk.isInt w
    have e1 := EnvOk.isInt (EnvOk.pop w)
    subst e1 e2
    refine ⟨i, j, rfl, _, _, (EnvOk.pop (EnvOk.pop w)).int _, ?_⟩
    rw [show (if j < i then j else i) = min i j by split <;> omega]; exact q) hp hp2 hg
/-! sorted -/
def sortI (ns : List Int) : List Int := ns.mergeSort (fun a b => decide (a ≤ b))
theorem sortI_perm (ns : List Int) : (sortI ns).Perm ns := List.mergeSort_perm _ _
theorem sortI_sorted (ns : List Int) : (sortI ns).Pairwise (· ≤ ·) := by
  have := List.pairwise_mergeSort (le := fun a b : Int => decide (a ≤ b)) (fun a b c h1 h2 => by simp only [decide_eq_true_eq] at *; omega) (fun a b => by simp only [Bool.or_eq_true, decide_eq_true_eq]; omega) ns
  exact this.imp fun h => by simpa using h
theorem sorted_unique : ∀ {xs ys : List Int}, xs.Perm ys → xs.Pairwise (· ≤ ·) → ys.Pairwise (· ≤ ·) → xs = ys
  | [], ys, p, _, _ => (List.nil_perm.mp p).symm ▸ rfl
  | x :: xs, [], p, _, _ => absurd p.length_eq (by simp)
  | x :: xs, y :: ys, p, h1, h2 => by
    have hx : x ∈ y :: ys := p.mem_iff.mp List.mem_cons_self
    have hy : y ∈ x :: xs := p.mem_iff.mpr List.mem_cons_self
    have a1 : y ≤ x := by
      rcases List.mem_cons.mp hx with e | e
      · omega
      · exact (List.pairwise_cons.mp h2).1 x e
    have a2 : x ≤ y := by
      rcases List.mem_cons.mp hy with e | e
      · omega
      · exact (List.pairwise_cons.mp h1).1 y e
    have e : x = y := by omega
    subst e
    rw [sorted_unique (p.cons_inv) (List.pairwise_cons.mp h1).2 (List.pairwise_cons.mp h2).2]
theorem sortI_eq {ns ys : List Int} (p : ys.Perm ns) (h : ys.Pairwise (· ≤ ·)) : ys = sortI ns := sorted_unique (p.trans (sortI_perm ns).symm) h (sortI_sorted ns)
theorem vn_sorted {p : Pos} (hm : Y.X.mg "sorted" = none) (h : VE Y ρ a fun _ x => ∃ ns : List Int, (x = .lst (ns.map .int) ∨ x = .tup (ns.map .int)) ∧ N .nw (.lst ((sortI ns).map .int))) (hp : plain a = true := by rfl) (hg : Gl Y.X "sorted" := by rfl) : VN Y ρ (.Call (.Name "sorted" p) [a] [] pos) N :=
  vn_b1 cr_sortedU hm (by decide +kernel) (h.mono fun r1 d ⟨ns, e, q⟩ τ σ H v w => by
    have fin : ∀ a, (SqL Y.X.K H a (ns.map V.int) ∨ SqT Y.X.K H a (ns.map V.int)) → v = .ref a → rSortedU Y.X.K [v] H fun z H' => ∃ a r c, z = V.ref a ∧ YE Y ρ σ (T.own a r c :: τ) H' ∧ N r c := fun a hq hv => by
      refine ⟨a, ns, by rw [hv], hq, fun ns' n pm so nn => ⟨n, .nw, .lst ((sortI ns).map .int), rfl, ?_, q⟩⟩
      rw [← sortI_eq pm so]
      exact (EnvOk.fresh (r := .nw) (c := .lst (ns'.map .int)) w nn rfl fun G0 G1 ow w => ⟨_, rfl, Reps.of_ints _⟩).under
    rcases e with e | e
    · subst e
      obtain ⟨a, rfl, hq⟩ := EnvOk.ints w
      exact fin a (.inl (.inl hq)) rfl
    · subst e
      obtain ⟨G0, G1, ow, w2⟩ := w
      obtain ⟨_, a, vs, rfl, hq, h3⟩ := w2.tup (w2.tt _ List.mem_cons_self)
      rw [Reps.ints h3] at hq
      exact fin a (.inr hq) rfl) hp hg
/-! list(x), tuple(x) -/
theorem vn_list {p : Pos} (hm : Y.X.mg "list" = none) (h : VE Y ρ a fun r x => ∃ ds, (x = .lst ds ∨ x = .tup ds) ∧ N r.el (.lst ds)) (hp : plain a = true := by rfl) (hg : Gl Y.X "list" := by rfl) : VN Y ρ (.Call (.Name "list" p) [a] [] pos) N :=
  vn_t1 call_list_of hm (by decide +kernel) (h.mono fun r1 d ⟨ds, e, q⟩ τ σ H v w => by
    rcases e with e | e
    · subst e
      obtain ⟨a, vs, rfl, hq, hl, k⟩ := EnvOk.lst w
      refine ⟨a, vs, rfl, .inl (.inl hq), fun n nn => ⟨n, r1.el, .lst ds, rfl, ?_, q⟩⟩
      exact (EnvOk.fresh (r := r1.el) (c := .lst ds) w nn (el_st r1) fun G0 G1 ow w => ⟨vs, rfl, by have := k G0 G1 ow w; cases r1 <;> exact this⟩).under
    · subst e
      obtain ⟨G0, G1, ow, w⟩ := w
      obtain ⟨_, a, vs, rfl, hq, h3⟩ := w.tup (w.tt _ List.mem_cons_self)
      refine ⟨a, vs, rfl, .inr hq, fun n nn => ⟨n, r1.el, .lst ds, rfl, ?_, q⟩⟩
      exact EnvOk.under ⟨G0, G1, ow, w.fresh nn (el_st r1) (c := .lst ds) ⟨vs, rfl, by cases r1 <;> exact h3⟩⟩) hp hg
theorem ve_tuple {p : Pos} (hm : Y.X.mg "tuple" = none) (h : VE Y ρ a fun r x => ∃ ds, x = .lst ds ∧ Q r.el (.tup ds)) (hp : plain a = true := by rfl) (hg : Gl Y.X "tuple" := by rfl) : VE Y ρ (.Call (.Name "tuple" p) [a] [] pos) Q :=
  ve_t1 call_tuple_of hm (by decide +kernel) (h.mono fun r1 d ⟨ds, e, q⟩ τ σ H v w => by
    subst e
    obtain ⟨a, vs, rfl, hq, hl, k⟩ := EnvOk.lst w
    refine ⟨a, vs, rfl, .inl ⟨.inl hq, fun n nn => ⟨r1.el, .tup ds, ?_, q⟩⟩⟩
    exact (EnvOk.tup (r := r1.el) w nn (el_st r1) fun G0 G1 ow w => by have := k G0 G1 ow w; cases r1 <;> exact this).under) hp hg
/-! ### statements that store -/
theorem mx_el (r1 r2 : Rg) (h1 : r1.st = true) (h2 : r2.st = true) : (r1.mx r2).st = true := by cases r1 <;> cases r2 <;> simp_all [Rg.mx, Rg.st]
/-- x = e -/
theorem v1_set (i : Nat) {x : Str} {p : Pos} {e : Expr} (h : VE Y ρ e fun r d => (r.st = true ∨ d.sc = true) ∧ Φ.nx (ρ.set i (.v (nm r d) d))) (hN : Y.X.N.Nodup) (hi : Y.X.N[i]? = some x := by rfl) (hx : Loc Y.X.env.scope x := by exact Or.inl rfl)
    (hs : swapsWith e (some (.Name x p)) pos.line Y.X.env = pure false := by rfl) (hf : Y.X.fn x = true ∨ Y.X.env.scope.names.lookup x = some .local := by first | exact .inl rfl | exact .inr rfl) : V1 Y ρ (.Assign [.Name x p] e pos) Φ := fun τ σ H w _ =>
  s1.of (ps_set hN hi hx pe_s hs hf) ((h τ σ H w).mono fun v H1 ⟨r, d, w1, hr, q⟩ => ⟨_, EnvOk.set w1 hr, q⟩)
/-- x = e, a new object -/
theorem v1_setN (i : Nat) {x : Str} {p : Pos} {e : Expr} (h : VN Y ρ e fun r c => Φ.nx (ρ.set i (.own r c))) (hN : Y.X.N.Nodup) (hi : Y.X.N[i]? = some x := by rfl) (hx : Loc Y.X.env.scope x := by exact Or.inl rfl)
    (hs : swapsWith e (some (.Name x p)) pos.line Y.X.env = pure false := by rfl) (hf : Y.X.fn x = true ∨ Y.X.env.scope.names.lookup x = some .local := by first | exact .inl rfl | exact .inr rfl) : V1 Y ρ (.Assign [.Name x p] e pos) Φ := fun τ σ H w _ =>
  s1.of (ps_set hN hi hx pe_s hs hf) ((h τ σ H w).mono fun v H1 ⟨a, r, c, e, w1, q⟩ => by subst e; exact ⟨_, EnvOk.setOwn w1, q⟩)
/-- a, b = e -/
def TgOk (X : Cx) (target : Expr) (t : Tg) : Prop := PG X target (gT X.K t)
theorem tg_nm {X : Cx} (i : Nat) {x : Str} {p : Pos} (hN : X.N.Nodup) (hi : X.N[i]? = some x := by rfl) (hx : Loc X.env.scope x := by exact Or.inl rfl) (hf : X.fn x = true ∨ X.env.scope.names.lookup x = some .local := by first | exact .inl rfl | exact .inr rfl) : TgOk X (.Name x p) (.nm i) := by
  unfold TgOk; simp only [gT]; exact pg_name hN hi hx hf
theorem v1_setT {tg e : Expr} (t : Tg) (hg : TgOk Y.X tg t) (h : VE Y ρ e fun r d => bindT t r d ρ Φ.nx) (hs : swapsWithSole [tg] e pos.line Y.X.env = pure false := by rfl) (hw : swappedStores [tg] e Y.X.env = pure none := by rfl) (h1 : List.map (fun x => x.2) (assignEach [tg] Y.X.env) = [assign tg Y.X.env] := by rfl) : V1 Y ρ (.Assign [tg] e pos) Φ := fun τ σ H w _ =>
  s1.of (ps_asg pe_s hg hs hw h1) ((h τ σ H w).mono fun v H1 ⟨r, d, w1, q⟩ => bindT.run (Y := Y) q w1 fun ρ' σ' w2 q2 _ => ⟨ρ', w2, q2⟩)
/-- x op= e, ints -/
theorem v1_augAdd (i : Nat) {x : Str} {p : Pos} {e : Expr} {r : Rg} {n : Int} (hρ : ρ[i]? = some (.v r (.int n))) (h : VE Y ρ e fun _ d => ∃ m, d = .int m ∧ Φ.nx (ρ.set i (.v .nw (.int (n + m))))) (hN : Y.X.N.Nodup) (hi : Y.X.N[i]? = some x := by rfl) (hx : Loc Y.X.env.scope x := by exact Or.inl rfl)
    (hf : Y.X.fn x = true ∨ Y.X.env.scope.names.lookup x = some .local := by first | exact .inl rfl | exact .inr rfl) : V1 Y ρ (.AugAssign (.Name x p) .Add e pos) Φ := fun τ σ H w _ => by
  obtain ⟨v, hv, w1⟩ := EnvOk.slot w hρ
  have ev := EnvOk.isInt w1
  subst ev
  refine s1.of (ps_aug hN hi hx pe_s ip_add hf) ⟨_, hv, ((h τ σ H w).mono fun v H1 ⟨r, d, w1, m, e, q⟩ => ?_)⟩
  subst e
  have ev := EnvOk.isInt w1
  subst ev
  exact ⟨n, m, rfl, rfl, _, EnvOk.set ((EnvOk.pop w1).int (n + m)) (.inl rfl), q⟩
/-- xs.append(e), xs one's own -/
theorem v1_append (i : Nat) {x : Str} {p apos : Pos} {e : Expr} {r : Rg} {ds : List D} (hρ : ρ[i]? = some (.own r (.lst ds))) (h : VE Y ρ e fun r2 d => (nm r2 d).st = true ∧ ds.length < sizeLine ∧ Φ.nx (ρ.set i (.own (r.mx (nm r2 d)) (.lst (ds ++ [d])))))
    (hN : Y.X.N[i]? = some x := by rfl) (hv : Vis Y.X.env.scope x := by first | exact Or.inl rfl | exact Or.inr (Or.inl rfl) | exact Or.inr (Or.inr rfl)) (hd : (x == ("__debug__" : Str)) = false := by decide) (hcd : (x == ("__classdict__" : Str)) = false := by decide)
    (hp : plain e = true := by rfl) (hs : swapsWith (.Call (.Attribute (.Name x p) "append" apos) [e] [] cpos) none pos.line Y.X.env = pure false := by rfl)
    (hbase : attributeBase (.Name x p) "append" Y.X.env (eval (.Name x p) Y.X.env) = eval (.Name x p) Y.X.env := by rfl)
    (hfew : ((backTo cpos (starEach [e] Y.X.env)).all (fun x => !x.1) && (backToKw cpos (keywordEach [] Y.X.env)).all (fun x => x.1.isSome) && decide (([e] : List Expr).length + ([] : List Keyword).length + (if ([] : List Keyword).isEmpty then 0 else 1) < 30)) = true := by rfl)
    (hline : (apos.endLine == cpos.line) = true := by rfl) : V1 Y ρ (.Expr (.Call (.Attribute (.Name x p) "append" apos) [e] [] cpos) pos) Φ := fun τ σ H w hst => by
  refine s1.of (ps_expr (pe_bm PySem.F.plainAttrs_list PySem.F.slot_list_append PySem.F.type_list_append mt_append (pe_var hN hv hd hcd) (pa_cons pe_s pa_nil (star_plain hp)) hbase hfew hline (star_plain hp) rfl) hs) ?_
  obtain ⟨a, o, h1, h2, h3, _⟩ := EnvOk.mutSlot (τ := τ ++ Y.τ) [] w hρ hst
  obtain ⟨G0, G1, ow, w0⟩ := id w
  obtain ⟨vs, e0, _⟩ := h3 _ _ _ w0
  subst e0
  refine ⟨_, h1, .inl ⟨rfl, _, .inl (.inl h2)⟩, (h τ σ H w).mono fun v H1 ⟨r2, d, w1, hr2, hz, q⟩ => ?_⟩
  obtain ⟨a', o', k1, k2, k3, k4⟩ := EnvOk.mutSlot (τ := τ ++ Y.τ) [.v r2 d v] w1 hρ hst
  rw [h1] at k1; cases k1
  obtain ⟨G0, G1, ow, w2⟩ := id w1
  obtain ⟨vs', e0, hvs'⟩ := k3 _ _ _ w2
  subst e0
  obtain ⟨g0, _⟩ := w2.sl i _ hρ
  refine ⟨a, vs', v, rfl, rfl, k2, by rw [← hvs'.len]; exact hz, _, k4 (r.mx (nm r2 d)) (.lst (ds ++ [d])) _ (mx_el _ _ g0 hr2) (fun G0 G1 ow w => ⟨_, rfl, ?_⟩), q⟩
  obtain ⟨vs2, e0, hvs2⟩ := k3 _ _ _ w
  cases e0
  obtain ⟨le1, le2⟩ := Gr.le w.s1 (mx_el _ _ g0 hr2)
  exact (hvs2.mono le1).append (Reps.cons ((RepR.st (RepR.nm (w.tt _ List.mem_cons_self)) hr2).mono le2) Reps.nil)
end
end VL

set_option Elab.async false
set_option linter.all false
set_option maxRecDepth 100000
set_option maxHeartbeats 4000000
/-! VL5: loops, comprehensions, calls. -/
namespace VL
open PySem PySem.Spec PyProof.Rows L2

/-! ### what is walked -/
/-- an iterator that gives the items; keep: what must wait meanwhile -/
def ItOk (Y : Cy) (J : It) (keep : List T) (r : Rg) (items : List D) : Prop :=
  ∀ (ρ : List B) (σ : L2.St) (τ : List T) (H : Hp) (i : Nat), YE Y ρ σ (keep ++ τ) H →
    (∀ d, items[i]? = some d → J.go i H ∧ ∀ x H', J.yld i H x H' → YE Y ρ σ (.v r d x :: (keep ++ τ)) H') ∧ (i = items.length → J.stop i H)
def VI (Y : Cy) (ρ : List B) (tg iter : Expr) (Q : Rg → List D → Prop) : Prop :=
  ∀ τ σ H, YE Y ρ σ τ H → sI Y.X tg iter σ H fun J H' => ∃ keep r items, Stab keep ∧ YE Y ρ σ (keep ++ τ) H' ∧ ItOk Y J keep r items ∧ Q r items

section
variable {Y : Cy} {ρ : List B} {pos : Pos} {a b c tg iter : Expr} {es : List Expr} {Q : Rg → D → Prop} {N : Rg → Ct → Prop} {Φ : Fin} {P : Rg → List D → Prop}
theorem VI.mono {P' : Rg → List D → Prop} (h : VI Y ρ tg iter P) (m : ∀ r l, P r l → P' r l) : VI Y ρ tg iter P' := fun τ σ H w => (h τ σ H w).mono fun _ _ ⟨k, r, l, a, b, c, q⟩ => ⟨k, r, l, a, b, c, m _ _ q⟩
theorem vi_list (h : VE Y ρ a fun r x => r.st = true ∧ ∃ ds, x = .lst ds ∧ P r ds) : VI Y ρ tg a P := fun τ σ H w =>
  sI.of (pi_list pe_s) ((h τ σ H w).mono fun v H1 ⟨r, x, w1, hr, ds, e, q⟩ => by
    subst e
    obtain ⟨p, vs, rfl, hq, hl, _⟩ := EnvOk.lst w1
    refine ⟨p, rfl, ⟨vs, .inl hq⟩, [.v r (.lst ds) (.ref p)], r, ds, Stab.cons hr (fun _ h => by cases h), w1, fun ρ' σ' τ' H' i w' => ?_, q⟩
    obtain ⟨p2, vs2, e2, hq2, hl2, _⟩ := EnvOk.lst w'
    cases e2
    refine ⟨fun d hd => ?_, fun e => ⟨vs2, .inl hq2, by omega⟩⟩
    obtain ⟨z, hz, w2⟩ := EnvOk.item w' rfl hq2 hd
    refine ⟨⟨vs2, z, .inl hq2, hz⟩, fun x H2 ⟨e, hx⟩ => ?_⟩
    subst e
    have := hx vs2 (.inl hq2)
    rw [hz] at this; cases this
    have er : r.el = r := by cases r <;> first | rfl | cases hr
    rw [er] at w2
    exact w2)
theorem vi_tup (h : VE Y ρ a fun r x => ∃ ds, x = .tup ds ∧ P r ds) : VI Y ρ tg a P := fun τ σ H w =>
  sI.of (pi_tup pe_s) ((h τ σ H w).mono fun v H1 ⟨r, x, w1, ds, e, q⟩ => by
    subst e
    have hr : r.st = true := by obtain ⟨_, _, _, w⟩ := id w1; exact (w.tup (w.tt _ List.mem_cons_self)).1
    obtain ⟨p, vs, rfl, hq, hl, _⟩ := EnvOk.tupq w1
    refine ⟨p, rfl, ⟨vs, hq⟩, [.v r (.tup ds) (.ref p)], r, ds, Stab.cons hr (fun _ h => by cases h), w1, fun ρ' σ' τ' H' i w' => ?_, q⟩
    obtain ⟨p2, vs2, e2, hq2, hl2, k⟩ := EnvOk.tupq w'
    cases e2
    refine ⟨fun d hd => ?_, fun e => ⟨vs2, hq2, by omega⟩⟩
    obtain ⟨z, hz, w2⟩ := k i d hd
    refine ⟨⟨vs2, z, hq2, hz⟩, fun x H2 ⟨e, hx⟩ => ?_⟩
    subst e
    have := hx vs2 hq2
    rw [hz] at this; cases this
    have er : r.el = r := by cases r <;> first | rfl | cases hr
    rw [er] at w2
    exact w2)
def rangeI (lo : Int) (n : Nat) : List Int := (List.range n).map fun (i : Nat) => lo + (i : Int)
theorem rangeI_get {lo : Int} {n i : Nat} (h : i < n) : ((rangeI lo n).map D.int)[i]? = some (.int (lo + i)) := by
  unfold rangeI; simp [h]
theorem rangeI_len (lo : Int) (n : Nat) : (rangeI lo n).length = n := by unfold rangeI; simp
theorem itr_ok (lo : Int) (n : Nat) : ItOk Y (Itr lo n) [] .nw ((rangeI lo n).map D.int) := fun ρ' σ' τ' H' i w' => by
  refine ⟨fun d hd => ?_, fun e => ?_⟩
  · have hi : i < n := by
      have := (List.getElem?_eq_some_iff.mp hd).1
      rwa [List.length_map, rangeI_len] at this
    rw [rangeI_get hi] at hd
    cases hd
    refine ⟨hi, fun x H2 ⟨e, hx⟩ => ?_⟩
    subst e hx
    exact w'.int _
  · rw [List.length_map, rangeI_len] at e
    show n ≤ i
    omega
theorem vi_range1 {p : Pos} (hm : Y.X.mg "range" = none) (h : VE Y ρ a fun _ x => ∃ j, x = .int j ∧ -(2 ^ 62) ≤ j ∧ j < 2 ^ 62 ∧ P .nw ((rangeI 0 j.toNat).map D.int)) (hp : plain a = true := by rfl) (hg : Gl Y.X "range" := by rfl) : VI Y ρ tg (.Call (.Name "range" p) [a] [] pos) P := fun τ σ H w =>
  sI.of (pi_range1 hg hm (pa_cons pe_s pa_nil (star_plain hp)) (star_plain hp)) ((h τ σ H w).mono fun v H1 ⟨r, x, w1, j, e, h1, h2, q⟩ => by
    subst e
    have ev := EnvOk.isInt w1
    subst ev
    exact ⟨j, rfl, h1, h2, [], .nw, _, (fun _ h => by cases h), EnvOk.pop w1, itr_ok 0 j.toNat, q⟩)
theorem vi_range2 {p : Pos} (hm : Y.X.mg "range" = none) (h : VE Y ρ a fun _ x => VE Y ρ b fun _ y => ∃ i j, x = .int i ∧ y = .int j ∧ (-(2 ^ 62) ≤ i ∧ i < 2 ^ 62 ∧ -(2 ^ 62) ≤ j ∧ j < 2 ^ 62) ∧ P .nw ((rangeI i (j - i).toNat).map D.int)) (hp : plain a = true := by rfl) (hp2 : plain b = true := by rfl) (hg : Gl Y.X "range" := by rfl) :
    VI Y ρ tg (.Call (.Name "range" p) [a, b] [] pos) P := fun τ σ H w =>
  sI.of (pi_range2 hg hm (pa_cons pe_s (pa_cons pe_s pa_nil (star_plain hp2)) (star_plain hp)) (by rw [star_plain hp, star_plain hp2]; rfl) (star_plain hp2)) ((h τ σ H w).mono fun v H1 ⟨r, x, w1, q1⟩ => (q1 _ σ H1 w1).mono fun u H2 ⟨r2, y, w2, i, j, e1, e2, hb, q⟩ => by
    subst e1 e2
    have e2 := EnvOk.isInt w2
    have e1 := EnvOk.isInt (EnvOk.pop w2)
    subst e1 e2
    exact ⟨i, j, rfl, hb, [], .nw, _, (fun _ h => by cases h), EnvOk.pop (EnvOk.pop w2), itr_ok i (j - i).toNat, q⟩)

/-- for: J what holds ahead of the items that are left -/
theorem v1_for {body : List Stmt} (t : Tg) (hg : TgOk Y.X tg t) (hp : PassesOwn (model Y.X.prog Y.X.w) Y.X.A Y.X.env Y.X.xe) (hc : Y.X.calm = true)
    (h : VI Y ρ tg iter fun r items => ∃ J : List D → List B → Prop, J items ρ ∧ (∀ d rest ρ', J (d :: rest) ρ' → bindT t r d ρ' fun ρ2 => VS Y ρ2 body { Φ with nx := J rest, ct := J rest, bk := Φ.nx }) ∧ ∀ ρ', J [] ρ' → Φ.nx ρ')
    (hs : ∀ x, foldedSetIterable iter Y.X.env x = pure x := by intro _; rfl) :
    V1 Y ρ (.For tg iter body [] pos) Φ := fun τ σ H w hst => by
  refine s1.of (ps_for hp hc pi_s hg pss_s hs) ((h τ σ H w).mono fun It H1 ⟨keep, r, items, hk, w1, ok, J, j0, jt, je⟩ => ?_)
  refine ⟨fun i m σ' H' => m = items.length - i ∧ i ≤ items.length ∧ ∃ ρ', YE Y ρ' σ' (keep ++ τ) H' ∧ J (items.drop i) ρ', ⟨_, rfl, Nat.zero_le _, ρ, w1, j0⟩, ?_⟩
  rintro i m σ' H' ⟨rfl, hi, ρ', w', j⟩
  have hstk : Stab ((keep ++ τ) ++ Y.τ) := fun t ht => by
    rw [List.append_assoc] at ht
    exact (List.mem_append.mp ht).elim (hk t) (hst t)
  obtain ⟨o1, o2⟩ := ok ρ' σ' τ H' i w'
  by_cases hlt : i < items.length
  · have hd : items[i]? = some items[i] := List.getElem?_eq_getElem hlt
    obtain ⟨g1, g2⟩ := o1 _ hd
    have hdrop : items.drop i = items[i] :: items.drop (i + 1) := List.drop_eq_getElem_cons hlt
    rw [hdrop] at j
    refine .inr ⟨g1, fun σ2 H2 => ∃ ρ2, YE Y ρ2 σ2 (keep ++ τ) H2 ∧ J (items.drop (i + 1)) ρ2, fun σ2 H2 ⟨ρ2, a, b⟩ => ⟨_, by omega, rfl, hlt, ρ2, a, b⟩, fun x H2 hy => ?_⟩
    refine bindT.run (Y := Y) (jt _ _ _ j) (g2 x H2 hy) fun ρ2 σ2 w2 q _ => ?_
    refine (q (keep ++ τ) σ2 H2 w2 hstk).mono (fun σ3 H3 q => q) (fun v H3 q => ?_) (fun σ3 H3 ⟨ρ3, w3, q⟩ => ⟨ρ3, ?_, q⟩) (fun σ3 H3 q => q)
    · rcases q with ⟨ρ3, σ3, r3, d3, w3, q⟩ | ⟨ρ3, σ3, a3, r3, c3, e, w3, q⟩
      · refine .inl ⟨ρ3, σ3, r3, d3, ?_, q⟩
        have : EnvOk Y.X.K Y.X.mg Y.Hs Y.Hi ρ3 σ3 (.v r3 d3 v :: (keep ++ (τ ++ Y.τ))) H3 := by rw [← List.append_assoc]; exact w3
        exact this.unders
      · refine .inr ⟨ρ3, σ3, a3, r3, c3, e, ?_, q⟩
        have : EnvOk Y.X.K Y.X.mg Y.Hs Y.Hi ρ3 σ3 (.own a3 r3 c3 :: (keep ++ (τ ++ Y.τ))) H3 := by rw [← List.append_assoc]; exact w3
        exact this.unders
    · have : EnvOk Y.X.K Y.X.mg Y.Hs Y.Hi ρ3 σ3 (keep ++ (τ ++ Y.τ)) H3 := by rw [← List.append_assoc]; exact w3
      exact this.drop keep
  · have e : i = items.length := by omega
    refine .inl ⟨o2 e, ρ', ?_, ?_⟩
    · have : EnvOk Y.X.K Y.X.mg Y.Hs Y.Hi ρ' σ' (keep ++ (τ ++ Y.τ)) H' := by rw [← List.append_assoc]; exact w'
      exact this.drop keep
    · rw [e, List.drop_length] at j
      exact je _ j
/-- while: J with a measure -/
theorem v1_while {body : List Stmt} (hp : PassesOwn (model Y.X.prog Y.X.w) Y.X.A Y.X.env Y.X.xe) (J : Nat → List B → Prop) (h0 : ∃ m, J m ρ)
    (hs : ∀ m ρ', J m ρ' → VT Y ρ' c fun k => (k = true → VS Y ρ' body { Φ with nx := fun ρ2 => ∃ m', m' < m ∧ J m' ρ2, ct := fun ρ2 => ∃ m', m' < m ∧ J m' ρ2, bk := Φ.nx }) ∧ (k = false → Φ.nx ρ')) :
    V1 Y ρ (.While c body [] pos) Φ := fun τ σ H w hst => by
  refine s1.of (ps_while hp pt_s pss_s) ?_
  refine ⟨fun m σ' H' => ∃ ρ', YE Y ρ' σ' τ H' ∧ J m ρ', let ⟨m, j⟩ := h0; ⟨m, ρ, w, j⟩, fun m σ' H' ⟨ρ', w', j⟩ => ?_⟩
  refine ((hs m ρ' j) τ σ' H' w').mono fun k H2 ⟨w2, q1, q2⟩ => ?_
  cases k with
  | true =>
    rw [if_pos rfl]
    refine ⟨fun σ3 H3 => ∃ ρ3, YE Y ρ3 σ3 τ H3 ∧ ∃ m', m' < m ∧ J m' ρ3, fun σ3 H3 ⟨ρ3, w3, m', l, j'⟩ => ⟨m', l, ρ3, w3, j'⟩, ?_⟩
    exact (q1 rfl τ σ' H2 w2 hst).mono (fun σ3 H3 q => q) (fun _ _ q => q) (fun _ _ q => q) (fun _ _ q => q)
  | false => rw [if_neg Bool.false_ne_true]; exact ⟨ρ', w2, q2 rfl⟩
end
end VL

set_option Elab.async false
set_option linter.all false
set_option maxRecDepth 100000
set_option maxHeartbeats 4000000
/-! VL6: list comprehensions. -/
namespace VL
open PySem PySem.Spec PyProof.Rows L2

section
variable {K : PySem.W.Frag} {mg : Mg} {Hs Hi H H' G0 G1 G : Hp} {ρ ρ' : List B} {σ σ' : L2.St} {τ : List T}
/-- other values at slots of which nothing is known -/
theorem EnvOk.other (vs : List Nat) (h : EnvOk K mg Hs Hi ρ' σ' τ H) (b : But vs ρ ρ' σ σ') (hv : ∀ i ∈ vs, ρ[i]? = some .no ∨ ρ[i]? = none) : EnvOk K mg Hs Hi ρ σ τ H := by
  obtain ⟨G0, G1, ow, w⟩ := h
  refine ⟨G0, G1, ow, { w with len := ?_, sl := fun i c e => ?_ }⟩
  · rw [← b.1, ← b.2.1]; exact w.len
  · by_cases hi : i ∈ vs
    · rcases hv i hi with z | z
      · rw [z] at e; cases e; trivial
      · rw [z] at e; cases e
    · obtain ⟨a1, a2⟩ := b.2.2 i hi
      rw [← a1]
      exact w.sl i c (by rw [a2]; exact e)
theorem EnvOk.perm {τ' : List T} (h : EnvOk K mg Hs Hi ρ σ τ H) (p : τ.Perm τ') : EnvOk K mg Hs Hi ρ σ τ' H := by
  obtain ⟨G0, G1, ow, w⟩ := h
  have q := p.filterMap T.cell
  exact ⟨G0, G1, ow, { w with tt := fun t ht => w.tt t (p.mem_iff.mpr ht), tn := q.nodup_iff.mp w.tn, td := fun a ha => w.td a (q.mem_iff.mpr ha), tq := fun a ha hb => w.tq a ((p.filterMap T.tcell).mem_iff.mpr ha) (q.mem_iff.mpr hb) }⟩
theorem wipe_get : ∀ (vs : List Nat) (σ : L2.St) (i : Nat), (wipe σ vs)[i]? = if i ∈ vs then (σ[i]?).map (fun _ => none) else σ[i]?
  | [], σ, i => by simp [wipe]
  | v :: vs, σ, i => by
    unfold wipe
    by_cases e : i = v
    · subst e
      rw [if_pos List.mem_cons_self]
      by_cases hl : i < σ.length
      · rw [List.getElem?_set_self (by rw [wipe_length]; exact hl), List.getElem?_eq_getElem hl]; rfl
      · rw [List.getElem?_eq_none (by rw [List.length_set, wipe_length]; omega), List.getElem?_eq_none (by omega)]; rfl
    · rw [List.getElem?_set_ne (Ne.symm e), wipe_get vs σ i]
      by_cases h : i ∈ vs
      · rw [if_pos h, if_pos (List.mem_cons_of_mem _ h)]
      · rw [if_neg h, if_neg (fun z => (List.mem_cons.mp z).elim e h)]
theorem wipe_but (vs : List Nat) (ρ : List B) (σ : L2.St) : But vs ρ ρ σ (wipe σ vs) := ⟨wipe_length _ _, rfl, fun i hi => ⟨by rw [wipe_get, if_neg hi], rfl⟩⟩
theorem But.symm {l : List Nat} (h : But l ρ ρ' σ σ') : But l ρ' ρ σ' σ := ⟨h.1.symm, h.2.1.symm, fun i hi => ⟨(h.2.2 i hi).1.symm, (h.2.2 i hi).2.symm⟩⟩
theorem But.trans {l : List Nat} {ρ2 : List B} {σ2 : L2.St} (h : But l ρ ρ' σ σ') (h2 : But l ρ' ρ2 σ' σ2) : But l ρ ρ2 σ σ2 := ⟨h2.1.trans h.1, h2.2.1.trans h.2.1, fun i hi => ⟨(h2.2.2 i hi).1.trans (h.2.2 i hi).1, (h2.2.2 i hi).2.trans (h.2.2 i hi).2⟩⟩
theorem But.wid {l l' : List Nat} (h : But l ρ ρ' σ σ') (s : ∀ i ∈ l, i ∈ l') : But l' ρ ρ' σ σ' := ⟨h.1, h.2.1, fun i hi => h.2.2 i fun z => hi (s i z)⟩
theorem wipe_of_but {vs : List Nat} (h : But vs ρ ρ' σ σ') : wipe σ' vs = wipe σ vs := by
  have e := h.1
  apply List.ext_getElem?
  intro i
  rw [wipe_get, wipe_get]
  by_cases hi : i ∈ vs
  · rw [if_pos hi, if_pos hi]
    by_cases hl : i < σ.length
    · rw [List.getElem?_eq_getElem hl, List.getElem?_eq_getElem (show i < σ'.length by rw [e]; exact hl)]; rfl
    · have hl2 : ¬ i < σ'.length := by rw [e]; exact hl
      rw [List.getElem?_eq_none (Nat.le_of_not_lt hl), List.getElem?_eq_none (Nat.le_of_not_lt hl2)]
  · rw [if_neg hi, if_neg hi]; exact (h.2.2 i hi).1
theorem wipe_wipe (vs : List Nat) (σ : L2.St) : wipe (wipe σ vs) vs = wipe σ vs := wipe_of_but (ρ := ([] : List B)) (ρ' := []) ⟨wipe_length _ _, rfl, fun i hi => ⟨by rw [wipe_get, if_neg hi], rfl⟩⟩
end

/-- the context of a comprehension's block -/
abbrev Cy.blk (Y : Cy) (scope : Scope) (s : Shared) (H : Hp) (C : Addr) (cl : List (Str × Addr)) (fp : List Addr) : Cy := { Y with X := Y.X.blk s H scope (compEnvC scope cl C Y.X.env) fp, E := fun _ _ => False }
/-- the tests of a comprehension -/
def VTs (Y : Cy) (ρ : List B) : List Expr → (Bool → Prop) → Prop
  | [], Q => Q true
  | [e], Q => VT Y ρ e Q
  | _, _ => False
def sTs (X : Cx) (es : List Expr) : TT := fun σ H Q => ∀ pins s, Inv X pins σ H s → wpAny (model X.prog X.w) X.A (forIn es true fun c r => if r = true then do let ok ← isTrue c X.env (eval c X.env); pure (ForInStep.yield ok) else pure (ForInStep.yield r)) (TP X pins σ Q) X.xe s
theorem pts_s {X : Cx} {e : List Expr} : PTs X e (sTs X e) := ⟨fun pins s σ H Q I h => h pins s I⟩
theorem VTs.run {Y : Cy} {ρ : List B} {es : List Expr} {P : Bool → Prop} (h : VTs Y ρ es P) : ∀ τ σ H, YE Y ρ σ τ H → sTs Y.X es σ H fun k H' => YE Y ρ σ τ H' ∧ P k := fun τ σ H w => by
  match es, h with
  | [], h => exact fun pins s I => pts_nil.run pins s σ H _ I ⟨w, h⟩
  | [e], h => exact fun pins s I => (pts_one pt_s).run pins s σ H _ I (h τ σ H w)
  | _ :: _ :: _, h => exact h.elim

theorem sTs_mono {X : Cx} {e : List Expr} {σ : L2.St} {H : Hp} {Q Q' : Bool → Hp → Prop} (h : sTs X e σ H Q) (m : ∀ v H, Q v H → Q' v H) : sTs X e σ H Q' := fun pins s I =>
  wpAny_mono (h pins s I) (fun _ _ ⟨H', a, c⟩ => ⟨H', a, m _ _ c⟩) fun _ _ x => x
section
variable {Y : Cy} {ρ : List B} {pos : Pos} {a b c tg iter elt : Expr} {ifs : List Expr} {N : Rg → Ct → Prop}
theorem lc_run {scope : Scope} {own : List (Str × Nat)} (t : Tg) (hv : ∀ i ∈ own.map (·.2), ρ[i]? = some .no ∨ ρ[i]? = none) (hsl : ∀ i ∈ t.sl, i ∈ own.map (·.2))
    (R : Rg) (hR : R.st = true)
    (h : VI Y ρ tg iter fun r items => items.length ≤ sizeLine ∧ ∃ J : List D → List D → Prop, J items [] ∧
      (∀ d rest acc, J (d :: rest) acc → bindT t r d ρ fun ρ2 => ∀ s H C cl fp, VTs (Y.blk scope s H C cl fp) ρ2 ifs fun k => (k = true → ∀ s H C cl fp, VE (Y.blk scope s H C cl fp) ρ2 elt fun r2 d2 => (nm r2 d2).mx R = R ∧ J rest (acc ++ [d2])) ∧ (k = false → J rest acc)) ∧
      ∀ acc, J [] acc → N R (.lst acc)) (τ : List T) (σ : L2.St) (H : Hp) (w : YE Y ρ σ τ H) (Qf : VK) (hQ : ∀ D H' acc, YE Y ρ σ (.own D R (.lst acc) :: τ) H' → N R (.lst acc) → Qf (.ref D) H') :
    tLc (sI Y.X tg iter) (gT Y.X.K t) (fun σ H Q => ∀ s H0 C cl fp, sTs (Y.blk scope s H0 C cl fp).X ifs σ H Q) (fun σ H Q => ∀ s H0 C cl fp, sE (Y.blk scope s H0 C cl fp).X elt σ H Q) (own.map (·.2)) σ H Qf := by
  refine (h τ σ H w).mono fun It H1 ⟨keep, r, items, hk, w1, itok, hlen, J, j0, jt, je⟩ => ?_
  intro D nD
  have mid : ∀ {c : Ct} {σ2 : L2.St} {ρ2 : List B} {H2 : Hp}, YE Y ρ2 σ2 (.own D R c :: (keep ++ τ)) H2 → YE Y ρ2 σ2 (keep ++ (.own D R c :: τ)) H2 := fun {c σ2 ρ2 H2} w => EnvOk.perm w (by
    show (T.own D R c :: ((keep ++ τ) ++ Y.τ)).Perm ((keep ++ (T.own D R c :: τ)) ++ Y.τ)
    rw [List.append_assoc, List.append_assoc, List.cons_append]
    exact List.perm_middle.symm)
  have dim : ∀ {c : Ct} {σ2 : L2.St} {ρ2 : List B} {H2 : Hp}, YE Y ρ2 σ2 (keep ++ (.own D R c :: τ)) H2 → YE Y ρ2 σ2 (.own D R c :: (keep ++ τ)) H2 := fun {c σ2 ρ2 H2} w => EnvOk.perm w (by
    show ((keep ++ (T.own D R c :: τ)) ++ Y.τ).Perm (T.own D R c :: ((keep ++ τ) ++ Y.τ))
    rw [List.append_assoc, List.append_assoc, List.cons_append]
    exact List.perm_middle)
  refine ⟨fun i m H' => m = items.length - i ∧ i ≤ items.length ∧ ∃ acc : List VL.D, acc.length ≤ i ∧ YE Y ρ σ (keep ++ (.own D R (.lst acc) :: τ)) H' ∧ J (items.drop i) acc, ⟨_, rfl, Nat.zero_le _, [], Nat.le_refl _, mid (EnvOk.fresh w1 nD hR fun _ _ _ _ => ⟨[], rfl, Reps.nil⟩), j0⟩, ?_⟩
  rintro i m H' ⟨rfl, hi, acc, hacc, w', j⟩
  obtain ⟨o1, o2⟩ := itok ρ σ (.own D R (.lst acc) :: τ) H' i w'
  by_cases hlt : i < items.length
  · obtain ⟨g1, g2⟩ := o1 _ (List.getElem?_eq_getElem hlt)
    have hdrop : items.drop i = items[i] :: items.drop (i + 1) := List.drop_eq_getElem_cons hlt
    rw [hdrop] at j
    refine .inr ⟨g1, fun H2 => ∃ acc : List VL.D, acc.length ≤ i + 1 ∧ YE Y ρ σ (keep ++ (.own D R (.lst acc) :: τ)) H2 ∧ J (items.drop (i + 1)) acc, fun H2 ⟨acc, a1, a2, a3⟩ => ⟨_, by omega, rfl, hlt, acc, a1, a2, a3⟩, fun x H2 hy => ?_⟩
    have w2 := EnvOk.other (own.map (·.2)) (g2 x H2 hy) (wipe_but (own.map (·.2)) ρ σ).symm hv
    refine bindT.run (Y := Y) (jt _ _ _ j) w2 fun ρ2 σ2 w3 q bt => ⟨(wipe_of_but (bt.wid hsl)).trans (wipe_wipe _ _), fun s H0 C cl fp => ?_⟩
    have back : ∀ {acc' : List VL.D} {H4 : Hp}, YE Y ρ2 σ2 (keep ++ (.own D R (.lst acc') :: τ)) H4 → YE Y ρ σ (keep ++ (.own D R (.lst acc') :: τ)) H4 := fun {acc' H4} w4 =>
      EnvOk.other (own.map (·.2)) w4 ((wipe_but (own.map (·.2)) ρ σ).trans (bt.wid hsl)) hv
    refine sTs_mono (VTs.run (q s H0 C cl fp) (keep ++ (.own D R (.lst acc) :: τ)) σ2 H2 w3) fun k H3 ⟨w4, q1, q2⟩ => ?_
    cases k with
    | false => rw [if_neg Bool.false_ne_true]; exact ⟨acc, by omega, back w4, q2 rfl⟩
    | true =>
      rw [if_pos rfl]
      intro s' H0' C' cl' fp'
      refine (q1 rfl s' H0' C' cl' fp' (keep ++ (.own D R (.lst acc) :: τ)) σ2 H3 w4).mono fun y H4 ⟨r2, d2, w5, hr2, jj⟩ => ?_
      have w6 : EnvOk Y.X.K Y.X.mg Y.Hs Y.Hi ρ2 σ2 (.own D R (.lst acc) :: .v r2 d2 y :: ((keep ++ τ) ++ Y.τ)) H4 := EnvOk.perm w5 (by
        show (T.v r2 d2 y :: ((keep ++ (T.own D R (.lst acc) :: τ)) ++ Y.τ)).Perm (T.own D R (.lst acc) :: T.v r2 d2 y :: ((keep ++ τ) ++ Y.τ))
        rw [List.append_assoc, List.append_assoc, List.cons_append]
        exact (List.Perm.cons _ List.perm_middle).trans (List.Perm.swap _ _ _))
      obtain ⟨G0, G1, ow, w7⟩ := w6
      obtain ⟨_, _, _, o, h3, h4⟩ := w7.tt _ List.mem_cons_self
      obtain ⟨vs, rfl, hvs⟩ := h4
      have hst : ((nm r2 d2).mx R).st = true := by rw [hr2]; exact hR
      have hrep : Rep Y.X.K Y.X.mg (Gr G0 G1 R) d2 y := by
        have := (RepR.st (RepR.nm (w7.tt (.v r2 d2 y) (List.mem_cons_of_mem _ List.mem_cons_self))) (mx_st hst).1).mono (Gr.le w7.s1 hst).1
        rwa [hr2] at this
      refine ⟨vs, h3, ?_, acc ++ [d2], by rw [List.length_append]; simp; omega, back (mid ⟨G0, G1, ow, ?_⟩), jj⟩
      · rw [← hvs.len]; omega
      · exact EnvW.write (EnvW.under w7) hR ⟨_, rfl, hvs.append (Reps.cons hrep Reps.nil)⟩
  · have e : i = items.length := by omega
    rw [e, List.drop_length] at j
    exact .inl ⟨o2 e, hQ D H' acc (show YE Y ρ σ (.own D R (.lst acc) :: τ) H' from EnvOk.unders (τ := τ ++ Y.τ) keep (by have := dim w'; rwa [← List.append_assoc])) (je acc j)⟩
abbrev LcH (Y : Cy) (ρ : List B) (tg iter elt : Expr) (ifs : List Expr) (scope : Scope) (t : Tg) (R : Rg) (P : List D → Prop) : Prop :=
  VI Y ρ tg iter fun r items => items.length ≤ sizeLine ∧ ∃ J : List D → List D → Prop, J items [] ∧
      (∀ d rest acc, J (d :: rest) acc → bindT t r d ρ fun ρ2 => ∀ s H C cl fp, VTs (Y.blk scope s H C cl fp) ρ2 ifs fun k => (k = true → ∀ s H C cl fp, VE (Y.blk scope s H C cl fp) ρ2 elt fun r2 d2 => (nm r2 d2).mx R = R ∧ J rest (acc ++ [d2])) ∧ (k = false → J rest acc)) ∧
      ∀ acc, J [] acc → P acc
theorem vn_lc {scope : Scope} (own : List (Str × Nat)) (t : Tg) (hc : Y.X.calm = true) (hN : Y.X.N.Nodup) (ok : BlkOk Y.X.N Y.X.env.scope scope own)
    (hg : ∀ s H C cl fp, TgOk (Y.blk scope s H C cl fp).X tg t) (hv : ∀ i ∈ own.map (·.2), ρ[i]? = some .no ∨ ρ[i]? = none) (hsl : ∀ i ∈ t.sl, i ∈ own.map (·.2))
    (R : Rg) (hR : R.st = true) (h : LcH Y ρ tg iter elt ifs scope t R fun acc => N R (.lst acc))
    (hs : ∀ x, foldedSetIterable iter Y.X.env x = pure x := by intro _; rfl) : VN Y ρ (.ListComp elt [⟨tg, iter, ifs, 0⟩] scope pos) N := by
  intro τ σ H w
  exact sE.of (pe_lc (own := own) (g := gT Y.X.K t) (tt := fun σ H Q => ∀ s H0 C cl fp, sTs (Y.blk scope s H0 C cl fp).X ifs σ H Q) (te := fun σ H Q => ∀ s H0 C cl fp, sE (Y.blk scope s H0 C cl fp).X elt σ H Q) hc hN pi_s ok hg
    (fun s H0 C cl fp => ⟨fun pins s' σ H Q I q => q s H0 C cl fp pins s' I⟩) (fun s H0 C cl fp => ⟨fun pins s' σ H Q I q => q s H0 C cl fp pins s' I⟩) hs)
    (lc_run (own := own) t hv hsl R hR h τ σ H w _ fun D H' acc w' n => ⟨D, R, .lst acc, rfl, w', n⟩)
/-- y = [..] -/
theorem v1_setLc {scope : Scope} {Φ : Fin} {y : Str} {py spos : Pos} (i : Nat) (own : List (Str × Nat)) (t : Tg) (hc : Y.X.calm = true) (hN : Y.X.N.Nodup) (ok : BlkOk Y.X.N Y.X.env.scope scope own)
    (hg : ∀ s H C cl fp, TgOk (Y.blk scope s H C cl fp).X tg t) (hv : ∀ i ∈ own.map (·.2), ρ[i]? = some .no ∨ ρ[i]? = none) (hsl : ∀ i ∈ t.sl, i ∈ own.map (·.2))
    (R : Rg) (hR : R.st = true) (hsw : swapsWith (.ListComp elt [⟨tg, iter, ifs, 0⟩] scope pos) (some (.Name y py)) spos.line Y.X.env = pure true)
    (h : LcH Y ρ tg iter elt ifs scope t R fun acc => Φ.nx (ρ.set i (.own R (.lst acc))))
    (hy : Y.X.N[i]? = some y := by rfl) (hyl : Y.X.env.scope.names.lookup y = some .local := by rfl)
    (hs : ∀ x, foldedSetIterable iter Y.X.env x = pure x := by intro _; rfl) : V1 Y ρ (.Assign [.Name y py] (.ListComp elt [⟨tg, iter, ifs, 0⟩] scope pos) spos) Φ := by
  intro τ σ H w hst
  exact s1.of (ps_setLc (own := own) (g := gT Y.X.K t) (tt := fun σ H Q => ∀ s H0 C cl fp, sTs (Y.blk scope s H0 C cl fp).X ifs σ H Q) (te := fun σ H Q => ∀ s H0 C cl fp, sE (Y.blk scope s H0 C cl fp).X elt σ H Q) hc hN hy hyl hsw pi_s ok hg
    (fun s H0 C cl fp => ⟨fun pins s' σ H Q I q => q s H0 C cl fp pins s' I⟩) (fun s H0 C cl fp => ⟨fun pins s' σ H Q I q => q s H0 C cl fp pins s' I⟩) hs)
    (lc_run (own := own) (N := fun R c => Φ.nx (ρ.set i (.own R c))) t hv hsl R hR h τ σ H w _ fun D H' acc w' n => ⟨_, EnvOk.setOwn w', n⟩)
end
end VL

set_option Elab.async false
set_option linter.all false
set_option maxRecDepth 100000
set_option maxHeartbeats 4000000
/-! VL7: defs: what a def answers to plain values; calls. -/
namespace VL
open PySem PySem.Spec PyProof.Rows L2

/-- what a def answers -/
inductive Res where
  | ok (r : Rg) (d : D) | new (r : Rg) (c : Ct) | exc (x : Exc)
def InR (Hs H : Hp) : Rg → Hp → Prop
  | .nw, G => ∀ a o, G a = some o → H a = none
  | _, G => Same Hs G ∧ ∀ a o, G a = some o → Hs a ≠ none ∨ H a = none
def Post (K : PySem.W.Frag) (mg : Mg) (Hs H : Hp) : Res → VK → XK → Prop
  | .ok r d, Q, _ => r.st = true ∧ ∀ v H' G, Same H H' → Same G H' → InR Hs H r G → Rep K mg G d v → Q v H'
  | .new r c, Q, _ => r.st = true ∧ ∀ a o H' G, Same H H' → Same G H' → InR Hs H r G → H' a = some o → H a = none → G a = none → RepC K mg G c o → Q (.ref a) H'
  | .exc x, _, E => ∀ cls dd H' G, Same H H' → Same G H' → InR Hs H .nw G → RepX K mg G H' x cls dd → E cls dd H'
def spD (K : PySem.W.Frag) (mg : Mg) (g : List D → Res → Prop) : Sp := fun vs H Q E => ∃ Hs ds res, Same Hs H ∧ Reps K mg Hs ds vs ∧ g ds res ∧ Post K mg Hs H res Q E

/-- what a context must bear -/
structure CyOk (Y : Cy) (k : Nat) : Prop where
  tk : Takes Y.X (WD Y)
  po : PassesOwn (model Y.X.prog Y.X.w) Y.X.A Y.X.env Y.X.xe
  calm : Y.X.calm = true
  rm : Room k Y.X.A
  nd : Y.X.N.Nodup
theorem CyOk.hu {Y : Cy} {k : Nat} (o : CyOk Y k) : Y.X.A.units + 64 < cLine := o.rm.units
theorem Takes.imp {X : Cx} {W W' : WX} (t : Takes X W) (h : ∀ cls d σ H, W' cls d σ H → W cls d σ H) : Takes X W' := fun u s' x => by
  obtain ⟨a, B, sI, pins, σ, H, cls, d, e, I, h1, h2, h3, h4, h5, h6, w⟩ := x
  exact t u s' ⟨a, B, sI, pins, σ, H, cls, d, e, I, h1, h2, h3, h4, h5, h6, h _ _ _ _ w⟩
theorem CyOk.blk {Y : Cy} {k : Nat} (o : CyOk Y k) (scope : Scope) (s : Shared) (H : Hp) (C : Addr) (cl : List (Str × Addr)) (fp : List Addr) : CyOk (Y.blk scope s H C cl fp) k :=
  ⟨takes0.imp fun cls d σ H ⟨_, _, _, _, z⟩ => z, PassesOwn.never, o.calm, o.rm, o.nd⟩

def stA (l : List (Rg × D)) : Bool := l.all fun p => p.1.st || p.2.sc
theorem args_all {K : PySem.W.Frag} {mg : Mg} {G0 G1 Hi H : Hp} (s : Same G1 G0) (s2 : Same G0 H) : ∀ {l : List (Rg × D)} {vs : List V} {τ : List T}, l.length = vs.length → (∀ t ∈ pushA l vs τ, RepT K mg G0 G1 Hi H t) →
    ∃ Hs, Same Hs H ∧ Reps K mg Hs (l.map (·.2)) vs ∧ (stA l = true → Hs = G0) ∧ (∀ t ∈ τ, RepT K mg G0 G1 Hi H t)
  | l, vs, τ, hl, h => by
    have key : ∀ {l : List (Rg × D)} {vs : List V} {τ : List T}, l.length = vs.length → (∀ t ∈ pushA l vs τ, RepT K mg G0 G1 Hi H t) → Reps K mg H (l.map (·.2)) vs ∧ (stA l = true → Reps K mg G0 (l.map (·.2)) vs) ∧ (∀ t ∈ τ, RepT K mg G0 G1 Hi H t) := by
      intro l
      induction l with
      | nil =>
        intro vs τ hl h
        have e : vs = [] := List.length_eq_zero_iff.mp hl.symm
        subst e
        exact ⟨Reps.nil, fun _ => Reps.nil, h⟩
      | cons p l ih =>
        intro vs τ hl h
        cases vs with
        | nil => simp at hl
        | cons v vs =>
          obtain ⟨q1, q2, q3⟩ := ih (τ := .v p.1 p.2 v :: τ) (by simpa using hl) h
          have q4 : RepR K mg G0 G1 H p.1 p.2 v := q3 _ List.mem_cons_self
          refine ⟨Reps.cons ?_ q1, fun hs => ?_, fun t ht => q3 t (List.mem_cons_of_mem _ ht)⟩
          · obtain ⟨r, d⟩ := p
            cases r with
            | nw => exact Rep.mono (s.trans s2) q4
            | od => exact Rep.mono s2 q4
            | tn => obtain ⟨c, a, o, e1, e2, e3, e4⟩ := q4; simp only at e1; subst e1 e2; exact RepC.rep (e4.mono (s.trans s2)) e3
            | to => obtain ⟨c, a, o, e1, e2, e3, e4⟩ := q4; simp only at e1; subst e1 e2; exact RepC.rep (e4.mono s2) e3
          · simp only [stA, List.all_cons, Bool.and_eq_true] at hs
            refine Reps.cons ?_ (q2 hs.2)
            have q5 := RepR.nm q4
            unfold nm at q5
            split at q5
            · exact Rep.mono s q5
            · rename_i hn
              have hr : p.1.st = true := by
                have := hs.1
                rw [Bool.or_eq_true] at this
                exact this.resolve_right hn
              exact (RepR.st q5 hr).mono (by cases p.1 <;> first | exact s | exact Same.refl _)
    obtain ⟨q1, q2, q3⟩ := key hl h
    by_cases hs : stA l = true
    · exact ⟨G0, s2, q2 hs, fun _ => rfl, q3⟩
    · exact ⟨H, Same.refl _, q1, fun z => absurd z hs, q3⟩
/-- both -/
def uni (A B : Hp) : Hp := fun a => match A a with | some o => some o | none => B a
theorem uni_l {A B : Hp} : Same A (uni A B) := fun a o e => by unfold uni; rw [e]
theorem uni_r {A B : Hp} (h : ∀ a o, B a = some o → A a = none) : Same B (uni A B) := fun a o e => by unfold uni; rw [h a o e]; exact e
theorem uni_some {A B : Hp} {a : Addr} {o : HO} (h : uni A B a = some o) : A a = some o ∨ B a = some o := by
  unfold uni at h
  cases e : A a with
  | some u => rw [e] at h; exact .inl h
  | none => rw [e] at h; exact .inr h
section
variable {K : PySem.W.Frag} {mg : Mg} {Hs Hi H H' G0 G1 G : Hp} {ρ : List B} {σ : L2.St} {τ : List T} {ow : Nat → Option (Addr × HO)}
/-- behind a call: new cells -/
theorem EnvW.union (w : EnvW K mg Hs Hi ρ σ τ H G0 G1 ow) (hh : Same H H') (hg : Same G H') (hn : ∀ a o, G a = some o → H a = none) : EnvW K mg Hs Hi ρ σ τ H' (uni G0 G) (uni G1 G) ow := by
  have a0 : ∀ a o, G a = some o → G0 a = none := fun a o e => w.s2.free (hn a o e)
  have a1 : ∀ a o, G a = some o → G1 a = none := fun a o e => w.s1.free (a0 a o e)
  refine w.grow hh uni_l uni_l (fun a o e => ?_) (fun a o e => ?_) (fun a o e => (uni_some e).imp id fun z => hn a o z) fun a o e => (uni_some e).imp id fun z => hn a o z
  · rcases uni_some e with z | z
    · exact uni_l _ _ (w.s1 _ _ z)
    · exact uni_r a0 _ _ z
  · rcases uni_some e with z | z
    · exact hh _ _ (w.s2 _ _ z)
    · exact hg _ _ z
end
/-- what follows a call -/
abbrev After (Y : Cy) (ρ : List B) (l : List (Rg × D)) (Q : Rg → D → Prop) : Res → Prop
  | .ok r d => r.st = true ∧ (nm r d = .nw ∨ stA l = true) ∧ Q (nm r d) d
  | .new r c => r.st = true ∧ (r = .nw ∨ stA l = true) ∧ Q r c.toD
  | .exc x => Y.E x ρ
abbrev AfterN (Y : Cy) (ρ : List B) (l : List (Rg × D)) (N : Rg → Ct → Prop) : Res → Prop
  | .new r c => r.st = true ∧ (r = .nw ∨ stA l = true) ∧ N r c
  | .exc x => Y.E x ρ
  | _ => False
section
variable {Y : Cy} {ρ : List B} {pos : Pos} {Q : Rg → D → Prop} {N : Rg → Ct → Prop}
theorem InR.od {Hs H G : Hp} {r : Rg} (h : InR Hs H r G) (s : Same Hs H) : r = .nw ∨ (Same Hs G ∧ ∀ a o, G a = some o → Hs a ≠ none ∨ H a = none) := by
  cases r with
  | nw => exact .inl rfl
  | _ => exact .inr h
/-- the answer of a call comes to the caller -/
theorem post_of {g : List D → Res → Prop} {l : List (Rg × D)} {vs : List V} {τ : List T} {σ : L2.St} {H : Hp} (hl : l.length = vs.length) (w : EnvOk Y.X.K Y.X.mg Y.Hs Y.Hi ρ σ (pushA l vs (τ ++ Y.τ)) H)
    {res : Res} (hg : g (l.map (·.2)) res) (QV : VK)
    (hok : ∀ r d, res = .ok r d → (nm r d = .nw ∨ stA l = true) ∧ ∀ v H', YE Y ρ σ (.v (nm r d) d v :: τ) H' → QV v H')
    (hnew : ∀ r c, res = .new r c → (r = .nw ∨ stA l = true) ∧ ∀ a H', YE Y ρ σ (.own a r c :: τ) H' → QV (.ref a) H')
    (hexc : ∀ x, res = .exc x → Y.E x ρ) (hst : ∀ r d, res = .ok r d → r.st = true) (hst2 : ∀ r d, res = .new r d → r.st = true) : spD Y.X.K Y.X.mg g vs H QV (WE (WD Y) σ) := by
  obtain ⟨G0, G1, ow, w⟩ := w
  obtain ⟨Hs, s1, rp, sto, _⟩ := args_all w.s1 w.s2 hl w.tt
  have w0 : EnvW Y.X.K Y.X.mg Y.Hs Y.Hi ρ σ (τ ++ Y.τ) H G0 G1 ow := by
    have go : ∀ {l : List (Rg × D)} {vs : List V} {τ' : List T}, EnvW Y.X.K Y.X.mg Y.Hs Y.Hi ρ σ (pushA l vs τ') H G0 G1 ow → EnvW Y.X.K Y.X.mg Y.Hs Y.Hi ρ σ τ' H G0 G1 ow := by
      intro l
      induction l with
      | nil => intro vs τ' h; exact h
      | cons p l ih =>
        intro vs τ' h
        cases vs with
        | nil => exact h
        | cons v vs => exact (ih h).pop
    exact go w
  refine ⟨Hs, _, res, s1, rp, hg, ?_⟩
  -- the grown state, by region
  have grow : ∀ {r : Rg} {G H' : Hp}, r.st = true → Same H H' → Same G H' → InR Hs H r G → (r = .nw ∨ stA l = true) → ∃ G0' G1', EnvW Y.X.K Y.X.mg Y.Hs Y.Hi ρ σ (τ ++ Y.τ) H' G0' G1' ow ∧ Same G (Gr G0' G1' r) ∧ (∀ a o, G0' a = some o → G0 a = some o ∨ G a = some o) := by
    intro r G H' hr hh hg hi hc
    cases r with
    | nw => exact ⟨_, _, w0.union hh hg hi, uni_r fun a o e => w0.s1.free (w0.s2.free (hi a o e)), fun a o e => uni_some e⟩
    | od =>
      have e := sto (hc.resolve_left (by decide))
      subst e
      exact ⟨G, G1, w0.grow hh hi.1 (Same.refl _) (w0.s1.trans hi.1) hg (fun a o e => by
        by_cases z : H a = none
        · exact .inr z
        · left
          have z2 := (hi.2 a o e).resolve_right z
          cases q : Hs a with
          | none => exact absurd q z2
          | some u => rw [hi.1 _ _ q] at e; exact e) (fun _ _ e => .inl e), Same.refl _, fun a o e => .inr e⟩
    | tn => cases hr
    | to => cases hr
  cases res with
  | ok r d =>
    refine ⟨hst r d rfl, fun v H' G hh hg2 hi hr => ?_⟩
    obtain ⟨c, k⟩ := hok r d rfl
    refine k v H' ?_
    by_cases hsc : d.sc = true
    · have e : nm r d = .nw := by unfold nm; rw [if_pos hsc]
      rw [e]
      exact ⟨G0, G1, ow, (w0.heap hh).pushV (r := .nw) (Rep.sc_any hr hsc) rfl⟩
    · have e : nm r d = r := by unfold nm; rw [if_neg hsc]
      rw [e] at c ⊢
      obtain ⟨G0', G1', w', s', _⟩ := grow (hst r d rfl) hh hg2 hi c
      refine ⟨G0', G1', ow, w'.pushV ?_ (hst r d rfl)⟩
      have := hr.mono s'
      cases r with
      | nw => exact this
      | od => exact this
      | tn => exact absurd (hst _ _ rfl) (by decide)
      | to => exact absurd (hst _ _ rfl) (by decide)
  | new r c =>
    refine ⟨hst2 r c rfl, fun a o H' G hh hg2 hi ho hn hga hr => ?_⟩
    obtain ⟨cc, k⟩ := hnew r c rfl
    refine k a H' ?_
    obtain ⟨G0', G1', w', s', hd⟩ := grow (hst2 r c rfl) hh hg2 hi cc
    refine ⟨G0', G1', ow, w'.push (t := .own a r c) ⟨hst2 r c rfl, ?_, w0.hi.free hn, o, ho, hr.mono s'⟩ (fun b e => ?_) fun b e => by cases e⟩
    · cases q : G0' a with
      | none => rfl
      | some u =>
        rcases hd a u q with z | z
        · rw [w0.s2.free hn] at z; cases z
        · rw [hga] at z; cases z
    · cases e
      refine ⟨fun hm => ?_, fun i u e => ?_, fun hm => ?_⟩
      · obtain ⟨t, ht, e⟩ := List.mem_filterMap.mp hm
        have h := w0.tt _ ht
        cases t with
        | v _ _ _ => cases e
        | exc _ _ _ => cases e
        | own x r2 c2 =>
          cases e
          obtain ⟨_, _, _, u, h3, _⟩ := h
          rw [hn] at h3; cases h3
      · have := (w0.ob i a u e).1
        rw [hn] at this; cases this
      · obtain ⟨t, ht, e⟩ := List.mem_filterMap.mp hm
        have h := w0.tt _ ht
        cases t with
        | own _ _ _ => cases e
        | exc _ _ _ => cases e
        | v r2 d v =>
          cases r2 with
          | nw => cases e
          | od => cases e
          | tn => obtain ⟨_, _, _, _, rfl, h3, _⟩ := h; cases e; rw [hn] at h3; cases h3
          | to => obtain ⟨_, _, _, _, rfl, h3, _⟩ := h; cases e; rw [hn] at h3; cases h3
  | exc x =>
    intro cls dd H' G hh hg2 hi hx
    refine ⟨x, ρ, τ, ⟨_, _, ow, (w0.union hh hg2 hi).push (t := .exc x cls dd) ?_ (fun a e => by cases e) (fun a e => by cases e)⟩, hexc x rfl⟩
    exact RepX.up hx (uni_r fun a o e => w0.s1.free (w0.s2.free (hi a o e))) (Same.refl _)
section
variable {x : Str} {p : Pos} {e : Expr} {es : List Expr} {k kk : Nat} {f : Addr} {fd : FuncData} {ps : List Str} {g : List D → Res → Prop}
theorem plain_any {es : List Expr} {env : Env} {pos : Pos} (h : es.all plain = true) : (backTo pos (starEach es env)).any (·.1) = false := by
  induction es with
  | nil => rfl
  | cons e es ih =>
    rw [List.all_cons, Bool.and_eq_true] at h
    rw [star_plain h.1]
    have := ih h.2
    simpa [backTo] using this
/-- f(e, ..) -/
theorem call_run (o : CyOk Y kk) (F : FnOk Y.X.prog Y.X.w Y.X.K Y.X.mg Y.X.base (L2.CX Y.X.prog Y.X.w) k f fd ps (spD Y.X.K Y.X.mg g)) (hk : k ≤ kk) (hm : Y.X.mg x = some (.ref f)) (kp : PySem.W.keepIn Y.X.K (.ref f) = true) (hb : Binds Y.X.K fd ps [])
    (hp : (e :: es).all plain = true) (hg : Gl Y.X x) (hdb : (x == ("__debug__" : Str)) = false) (τ : List T) (σ : L2.St) (H : Hp) (w : YE Y ρ σ τ H) (QV : VK) (P : List (Rg × D) → Res → Prop)
    (h : VA Y ρ (e :: es) fun l => ∃ res, g (l.map (·.2)) res ∧ P l res)
    (hq : ∀ (l : List (Rg × D)) vs H' res, l.length = vs.length → EnvOk Y.X.K Y.X.mg Y.Hs Y.Hi ρ σ (pushA l vs (τ ++ Y.τ)) H' → g (l.map (·.2)) res → P l res → spD Y.X.K Y.X.mg g vs H' QV (WE (WD Y) σ)) :
    sE Y.X (.Call (.Name x p) (e :: es) [] pos) σ H QV := by
  have hp1 := hp
  rw [List.all_cons, Bool.and_eq_true] at hp1
  refine sE.of (pe_callS F (o.rm.mono hk) hg hm kp hb (fun σ => passAt o.tk σ) pa_s hdb (star_plain hp1.1) (plain_any hp1.2)) ?_
  refine (VA.run hp h τ σ H w).mono fun vs H1 ⟨l, hl, _, w1, res, g1, q⟩ => ?_
  have w2 : EnvOk Y.X.K Y.X.mg Y.Hs Y.Hi ρ σ (pushA l vs (τ ++ Y.τ)) H1 := by rw [← pushA_app]; exact w1
  exact hq l vs H1 res hl w2 g1 q
theorem ve_call (o : CyOk Y kk) (F : FnOk Y.X.prog Y.X.w Y.X.K Y.X.mg Y.X.base (L2.CX Y.X.prog Y.X.w) k f fd ps (spD Y.X.K Y.X.mg g)) (hk : k ≤ kk) (hm : Y.X.mg x = some (.ref f)) (kp : PySem.W.keepIn Y.X.K (.ref f) = true) (hb : Binds Y.X.K fd ps [])
    (h : VA Y ρ (e :: es) fun l => ∃ res, g (l.map (·.2)) res ∧ After Y ρ l Q res)
    (hp : (e :: es).all plain = true := by rfl) (hg : Gl Y.X x := by rfl) (hdb : (x == ("__debug__" : Str)) = false := by decide) : VE Y ρ (.Call (.Name x p) (e :: es) [] pos) Q := fun τ σ H w => by
  refine call_run o F hk hm kp hb hp hg hdb τ σ H w _ (fun l res => After Y ρ l Q res) h fun l vs H' res hl w2 g1 q => ?_
  -- a new object is frozen
  refine post_of hl w2 g1 _ (fun r d e => ?_) (fun r c e => ?_) (fun x e => by subst e; exact q) (fun r d e => by subst e; exact q.1) fun r d e => by subst e; exact q.1
  · subst e; exact ⟨q.2.1, fun v H2 w3 => ⟨_, _, w3, q.2.2⟩⟩
  · subst e; exact ⟨q.2.1, fun a H2 w3 => ⟨_, _, EnvOk.freeze w3, q.2.2⟩⟩
theorem vn_call (o : CyOk Y kk) (F : FnOk Y.X.prog Y.X.w Y.X.K Y.X.mg Y.X.base (L2.CX Y.X.prog Y.X.w) k f fd ps (spD Y.X.K Y.X.mg g)) (hk : k ≤ kk) (hm : Y.X.mg x = some (.ref f)) (kp : PySem.W.keepIn Y.X.K (.ref f) = true) (hb : Binds Y.X.K fd ps [])
    (h : VA Y ρ (e :: es) fun l => ∃ res, g (l.map (·.2)) res ∧ AfterN Y ρ l N res)
    (hp : (e :: es).all plain = true := by rfl) (hg : Gl Y.X x := by rfl) (hdb : (x == ("__debug__" : Str)) = false := by decide) : VN Y ρ (.Call (.Name x p) (e :: es) [] pos) N := fun τ σ H w => by
  refine call_run o F hk hm kp hb hp hg hdb τ σ H w _ (fun l res => AfterN Y ρ l N res) h fun l vs H' res hl w2 g1 q => ?_
  refine post_of hl w2 g1 _ (fun r d e => by subst e; exact q.elim) (fun r c e => ?_) (fun x e => by subst e; exact q) (fun r d e => by subst e; exact q.elim) fun r d e => by subst e; exact q.1
  subst e; exact ⟨q.2.1, fun a H2 w3 => ⟨_, _, _, rfl, w3, q.2.2⟩⟩
end
end

/-! ### a def's body -/
abbrev startB (ds : List D) (n : Nat) : List B := ds.map (fun d => .v (nm .od d) d) ++ List.replicate (n - ds.length) .no
abbrev finR (res : Res) : Fin where
  nx := fun _ => ∃ r, res = .ok r .non
  rt := fun r d => ∃ r', res = .ok r' d ∧ r'.st = true ∧ (nm r d = .nw ∨ r' = .od)
  rn := fun r c => ∃ r', r'.st = true ∧ (res = .new r' c ∨ res = .ok r' c.toD) ∧ (r = .nw ∨ r' = .od)
section
variable {P : Program} {w : World} {K : PySem.W.Frag} {mg : Mg} {base : Heap}
theorem start_ok {Hs H : Hp} {N : List Str} {ds : List D} {vs : List V} (s : Same Hs H) (r : Reps K mg Hs ds vs) : EnvOk K mg Hs H (startB ds N.length) (L2.start N vs) [] H := by
  refine ⟨Hs, fun _ => none, fun _ => none, ⟨Same.refl _, (fun _ _ e => by cases e), s, Same.refl _, (fun a o e => .inl (by rw [e]; exact fun z => by cases z)), (fun _ _ e => by cases e), (fun _ _ _ e => by cases e), (fun _ _ _ _ _ e => by cases e), ?_, fun i b e => ?_, (fun _ h => by cases h), List.nodup_nil, (fun _ h => by cases h), fun _ h => by cases h⟩⟩
  · unfold startB L2.start; simp [r.len]
  · unfold startB at e
    unfold L2.start
    by_cases hi : i < ds.length
    · rw [List.getElem?_append_left (by simpa using hi), List.getElem?_map] at e
      rw [List.getElem?_eq_getElem hi] at e
      have e' : b = .v (nm .od ds[i]) ds[i] := (Option.some.inj e).symm
      subst e'
      obtain ⟨v, hv, hr⟩ := r.get (List.getElem?_eq_getElem hi)
      rw [List.getElem?_append_left (by rw [List.length_map, ← r.len]; exact hi), List.getElem?_map, hv]
      unfold nm
      by_cases hsc : ds[i].sc = true
      · rw [if_pos hsc]; exact ⟨rfl, v, rfl, Rep.sc_any hr hsc⟩
      · rw [if_neg hsc]; exact ⟨rfl, v, rfl, hr⟩
    · rw [List.getElem?_append_right (by simpa using hi)] at e
      have hb : b = .no := by
        have := List.mem_of_getElem? e
        exact List.eq_of_mem_replicate this
      subst hb
      trivial
theorem fn_okD {x qual : Str} {st : Stmt} {f : Addr} {fd : FuncData} {N ps : List Str} {k : Nat} {g : List D → Res → Prop} (F : Fun K x qual st f fd) (S : FnScope N ps (defScope st)) (len : ∀ ds res, g ds res → ds.length = ps.length)
    (hbody : ∀ (cdv : Value) (A : Around) (outer : List Env) (s : Shared) (H Hs : Hp) (E : XK) (ds : List D) (res : Res), g ds res →
      CyOk ⟨cxOf (L2.CX P w) P w K mg base N qual (defScope st) f cdv A outer s H E, Hs, H, [], fun x _ => res = .exc x⟩ k →
      VS ⟨cxOf (L2.CX P w) P w K mg base N qual (defScope st) f cdv A outer s H E, Hs, H, [], fun x _ => res = .exc x⟩ (startB ds N.length) (defBody st) (finR res)) :
    FnOk P w K mg base (L2.CX P w) (k + 1) f fd ps (spD K mg g) := by
  refine F.okX S (fun vs H Q E ⟨Hs, ds, res, s, r, h, _⟩ => by rw [← r.len]; exact len ds res h) fun cdv A outer s H vs Q E hr ⟨Hs, ds, res, sm, r, h, post⟩ => ?_
  refine ⟨_, pss_s, ?_⟩
  have tk : Takes (cxOf (L2.CX P w) P w K mg base N qual (defScope st) f cdv A outer s H E) (WD ⟨cxOf (L2.CX P w) P w K mg base N qual (defScope st) f cdv A outer s H E, Hs, H, [], fun x _ => res = .exc x⟩) := by
    refine (takes_of (E := E) rfl rfl rfl rfl).imp fun cls d σ H' ⟨x, ρ, τ, w', e⟩ => ?_
    obtain ⟨G0, G1, ow, w'⟩ := w'
    have e : res = .exc x := e
    subst e
    exact post cls d H' G1 w'.hi (w'.s1.trans w'.s2) (fun a o e => w'.n1 a o e) (w'.tt _ List.mem_cons_self)
  have o : CyOk ⟨cxOf (L2.CX P w) P w K mg base N qual (defScope st) f cdv A outer s H E, Hs, H, [], fun x _ => res = .exc x⟩ k := ⟨tk, passes_of rfl, rfl, hr, S.nd⟩
  have hv0 := hbody cdv A outer s H Hs E ds res h o [] (L2.start N vs) H (start_ok sm r) (fun _ h => by cases h)
  refine hv0.mono (fun σ' H' ⟨ρ, w', r', e⟩ => ?_) (fun v H' q => ?_) (fun _ _ ⟨_, _, z⟩ => z) (fun _ _ ⟨_, _, z⟩ => z)
  · have e : res = .ok r' .non := e
    subst e
    obtain ⟨hr', post⟩ := post
    obtain ⟨G0, G1, ow, w'⟩ := w'
    cases r' with
    | nw => exact post .non H' (fun _ => none) w'.hi (fun _ _ e => by cases e) (fun _ _ e => by cases e) (by simp only [Rep])
    | od => exact post .non H' G0 w'.hi w'.s2 ⟨w'.s0, w'.n0⟩ (by simp only [Rep])
    | tn => cases hr'
    | to => cases hr'
  · rcases q with ⟨ρ, σ', r1, d, w', s1, r', e, hr', c⟩ | ⟨ρ, σ', a, r1, c1, ev, w', r', hr', e, c⟩
    · subst e
      obtain ⟨_, post⟩ := post
      obtain ⟨G0, G1, ow, w'⟩ := w'
      have q := w'.tt _ List.mem_cons_self
      have q2 : Rep K mg (Gr G0 G1 r') d v := by
        have q3 := RepR.nm (K := K) (mg := mg) q
        rcases c with c | c
        · rw [c] at q3
          cases r' with
          | nw => exact q3
          | od => exact Rep.mono w'.s1 q3
          | tn => cases hr'
          | to => cases hr'
        · subst c
          have hst : (nm r1 d).st = true := by
            unfold nm
            split
            · rfl
            · rename_i hn; exact s1.resolve_right hn
          exact (RepR.st q3 hst).mono (w'.g1 _)
      cases r' with
      | nw => exact post v H' G1 w'.hi (w'.s1.trans w'.s2) (fun a o e => w'.n1 a o e) q2
      | od => exact post v H' G0 w'.hi w'.s2 ⟨w'.s0, w'.n0⟩ q2
      | tn => cases hr'
      | to => cases hr'
    · subst ev
      rcases e with e | e
      · subst e
        obtain ⟨_, post⟩ := post
        obtain ⟨G0, G1, ow, w'⟩ := w'
        obtain ⟨h0, h1, h2, u, h3, h4⟩ := w'.tt _ List.mem_cons_self
        have h5 : RepC K mg (Gr G0 G1 r') c1 u := by
          rcases c with c | c
          · subst c
            cases r' with
            | nw => exact h4
            | od => exact h4.mono w'.s1
            | tn => cases hr'
            | to => cases hr'
          · subst c; exact h4.mono (w'.g1 _)
        cases r' with
        | nw => exact post a u H' G1 w'.hi (w'.s1.trans w'.s2) (fun a o e => w'.n1 a o e) h3 h2 (w'.s1.free h1) h5
        | od => exact post a u H' G0 w'.hi w'.s2 ⟨w'.s0, w'.n0⟩ h3 h2 h1 h5
        | tn => cases hr'
        | to => cases hr'
      · subst e
        obtain ⟨_, post⟩ := post
        have hr1 : r1.st = true := by
          obtain ⟨_, _, _, w2⟩ := id w'
          exact (w2.tt _ List.mem_cons_self).1
        obtain ⟨G0, G1, ow, w'⟩ := EnvOk.freeze w'
        have q := w'.tt _ List.mem_cons_self
        have q2 : Rep K mg (Gr G0 G1 r') c1.toD (.ref a) := by
          rcases c with c | c
          · subst c
            cases r' with
            | nw => exact q
            | od => exact Rep.mono w'.s1 q
            | tn => cases hr'
            | to => cases hr'
          · subst c
            cases r1 with
            | nw => exact Rep.mono w'.s1 q
            | od => exact q
            | tn => cases hr1
            | to => cases hr1
        cases r' with
        | nw => exact post _ H' G1 w'.hi (w'.s1.trans w'.s2) (fun a o e => w'.n1 a o e) q2
        | od => exact post _ H' G0 w'.hi w'.s2 ⟨w'.s0, w'.n0⟩ q2
        | tn => cases hr'
        | to => cases hr'
end
end VL

set_option Elab.async false
set_option linter.all false
set_option maxRecDepth 100000
set_option maxHeartbeats 4000000
/-! VX: own exceptions whose __init__ says super().__init__('..') and stores its one argument. -/
namespace PySem
namespace XcX
open PySem.W PySem.Calls PyProof.Rows PySem.HandSPX
def iA (f : Str) (p1 p2 : Pos) : Arguments := { posonlyargs := [], args := [{ arg := "self", annotation := none, pos := p1 }, { arg := f, annotation := none, pos := p2 }], vararg := none, kwonlyargs := [], kw_defaults := [], kwarg := none, defaults := [] }
def iB (f : Str) (m : Str) (j : Nat) (p0 p1 p2 p3 p4 p5 q1 q2 q3 q4 : Pos) : List Stmt :=
  [.Expr (.Call (.Attribute (.Call (.Name "super" p0) [] [] p1) "__init__" p2) [.Constant (.str m) j p3] [] p4) p5, .Assign [.Attribute (.Name "self" q1) f q2] (.Name f q3) q4]
def iS (f : Str) : Scope := { kind := .function, names := [(PySem.Str.ofString "self", .local), (f, .local), (PySem.Str.ofString "__class__", .free), (PySem.Str.ofString "super", .globalImplicit)], isGenerator := false, isCoroutine := false, more := [] }
/-- super().__init__('..') by its parts (where it stands in the text decides) -/
def SupCall (m : Str) (j : Nat) (s0 s1 s2 s3 s4 : Pos) : Prop := ∃ pl : Sem Bool, ∀ env : Env, eval (.Call (.Attribute (.Call (.Name "super" s0) [] [] s1) "__init__" s2) [.Constant (.str m) j s3] [] s4) env = (do
      let ov ← attributeBase (.Call (.Name "super" s0) [] [] s1) "__init__" env (eval (.Call (.Name "super" s0) [] [] s1) env)
      standAt s2.atName
      let (f, first) ← holding [ov] (getMethod ov "__init__" pl)
      callWith s4 f first (backTo s4 (starEach [.Constant (.str m) j s3] env)) [])
/-- what the written part says of the class at C, and of its __init__, at fI, made in the class at D -/
structure XcTxt (prog : Program) (K : Frag) (f : Str) (C fI : Addr) : Prop where
  cls : ∃ nm q N bs bm sn sub ab col dd k0 k1 k2 k3 k5, K.lookup C = some (excClassObj nm q C N bs bm true sn sub ab col dd k0 k1 k2 k3 k5 "ValueError.__new__") ∧ refsVE bm = true
  sa : findIn K (.ref C) "__setattr__" = some (some (.builtin "object.__setattr__"))
  ga : findIn K (.ref C) "__getattribute__" = some (some (.builtin "BaseException.__getattribute__"))
  gg : findIn K (.ref C) "__getattr__" = some none
  noN : findIn K (.ref C) f = some none
  iC : findIn K (.ref C) "__init__" = some (some (.ref fI))
  tC : typeIn K (.ref fI) = some (.type "function")
  kC : keepIn K (.ref C) = true
  exC : subIn K (.ref C) (.type "BaseException") = some true
  tyC : typeIn K (.ref C) = some (.type "type")
  hdC : hasDictIn K C = true
  veC : subIn K (.ref C) (.type "ValueError") = some true
  nS : nsIn K mainGlobals "super" = some none
  nT : nsIn K cStatics "thirdparty.any" = some none
  fn : ∃ (qual : Str) (cc cda D : Addr) (oc : Value) (od : Option Addr) (doc pm : Value) (an : Option Addr) (ct : Value) (osl : Array (Option Value)) (m : Str) (j : Nat) (p1 p2 s0 s1 s2 s3 s4 s5 q1 q2 q3 q4 : Pos)
      (vs : Array Value) (file : Str) (tf : Tok) (ccl cl : Value) (cdd cld : Option Addr) (ccs csl : Array (Option Value)) (cdD : ClassData),
    K.lookup fI = some ⟨oc, od, .func (ksFn "__init__" qual (iA f p1 p2) (iB f m j s0 s1 s2 s3 s4 s5 q1 q2 q3 q4) (iS f) .none .none doc pm an (.ref cda) ct cc), osl⟩ ∧ codeIn K (.ref cda) qual = true ∧
    K.lookup cda = some ⟨ccl, cdd, .fields vs, ccs⟩ ∧ vs[2]? = some (.str file tf) ∧ ((prog.main.file : Str) == file) = true ∧ K.lookup cc = some ⟨cl, cld, .cell (some (.ref D)), csl⟩ ∧ clsIn K D = some cdD ∧ mroIn K C (.ref D) = some true ∧
    ks_superIn K C D "__init__" = some (some (.builtin "ValueError.__init__")) ∧
    (iS f).names.lookup ("super" : Str) = some .globalImplicit ∧ (iS f).names.lookup ("__class__" : Str) = some .free ∧ (iS f).names.lookup ("self" : Str) = some .local ∧ (iS f).names.lookup f = some .local ∧ (∀ x ∈ (iS f).names, x.2 ≠ .cell) ∧
    ¬ f = ("self" : Str) ∧ (f == ("__debug__" : Str)) = false ∧ (prog.main.scope.names.lookup ("super" : Str)).isSome = false ∧ SupCall m j s0 s1 s2 s3 s4 ∧ (∀ u v : Value, bindArgs (ksFn "__init__" qual (iA f p1 p2) (iB f m j s0 s1 s2 s3 s4 s5 q1 q2 q3 q4) (iS f) .none .none doc pm an (.ref cda) ct cc) ⟨[u, v], []⟩ = pure [(("self" : Str), u), (f, v)])
section
variable {prog : Program} {w : World} {A : Around} {E : Value → Shared → Prop} {R : Result → Shared → Prop} {s : Shared} {K : Frag} {mg mb : Str → Option Value} {f : Str} {C fI : Addr}
structure InitEnd (f : Str) (h h' : Heap) (x C dx t1 : Addr) (v : Value) : Prop where
  keep : ∀ b o, b ≠ x → h.get? b = some o → h'.get? b = some o
  obj : h'.get? x = some { cls := .ref C, dict := some dx, data := .fields #[.ref t1, .none, .none, .none, .bool false, .none] }
  dbig : h.objs.size ≤ dx
  dne : dx ≠ x
  ns : h'.Ns1 dx (fun y => if y = f then some v else none)
theorem xc_init (T : XcTxt prog K f C fI) {x t0 : Addr} {v : Value} (X : K.In s.heap) (hlim : s.heap.NoLimit) (hns : s.heap.Ns mainGlobals mg) (hb : s.heap.Ns builtinsNs mb) (hbb : ∀ x : Str, x ≠ "__name__" → mb x = bootBuiltins x)
    (hx : s.heap.get? x = some (excO C t0)) (hnx : K.lookup x = none) (hroom : A.depth < recursionLimit)
    (hq : ∀ h' tk dx t1, InitEnd f s.heap h' x C dx t1 v → R (.ok (.ret .none)) { s with heap := h', toks := tk }) :
    codeAny (model prog w) A (.call (.ref fI) ⟨[.ref x, v], []⟩) R s := by
  obtain ⟨qual, cc, cda, D, oc, od, doc, pm, an, ct, osl, m, j, p1, p2, s0, s1, s2, s3, s4, s5, q1, q2, q3, q4, vs, file, tf, ccl, cl, cdd, cld, ccs, csl, cdD, ho, hcd, hcda, hvs, hfile, hcell, hD, hsub, hsup, n1, n2, n3, n4, n5, hf, hdb, htop, hsc, hbind⟩ := T.fn
  obtain ⟨pl, hsc⟩ := hsc
  obtain ⟨nm, q, N, bs, bm, sn, sub, ab, col, dd, c0, c1, c2, c3, c5, hC, hbm⟩ := T.cls
  have hcl : clsIn K C = some { name := nm, bases := bs, mro := .ref C :: bm, ns := N, qualname := q, hasDict := true, slotNames := sn, subclasses := sub, abstract := ab, collection := col, hasDel := false } := by unfold clsIn; rw [hC] <;> rfl
  refine ks_codeAny_call_defAt (fd := ksFn "__init__" qual (iA f p1 p2) (iB f m j s0 s1 s2 s3 s4 s5 q1 q2 q3 q4) (iS f) .none .none doc pm an (.ref cda) ct cc) (body := iB f m j s0 s1 s2 s3 s4 s5 q1 q2 q3 q4) (binds := [("self", .ref x), (f, v)]) hroom (X _ _ ho) rfl hlim (codeRec_of X hcd) rfl
    (BindsTo.of_eq (hbind _ _)) n5 (fun y hy => ?_) (fun h₁ hn k => ?_) rfl rfl rfl
  · rcases List.mem_cons.mp hy with e | hy
    · subst e; exact n3
    · obtain rfl := List.mem_singleton.mp hy
      exact n4
  have hvf : (fun y => List.lookup y [(("self" : Str), Value.ref x), (f, v)].reverse) f = some v := by simp [List.lookup]
  have hvs' : (fun y => List.lookup y [(("self" : Str), Value.ref x), (f, v)].reverse) ("self" : Str) = some (.ref x) := by
    have e : (("self" : Str) == f) = false := by simpa using fun z => hf z.symm
    simp [List.lookup, e]
  have hxL : s.heap.objs.size ≠ x := Nat.ne_of_gt (Heap.lt_size hx)
  have X₁ : K.In h₁ := X.keeps k
  have hx₁ := k _ _ hx
  have hD1 : ∃ oD, h₁.get? D = some oD ∧ oD.data = .cls cdD := by
    unfold clsIn at hD
    split at hD
    · rename_i c d cd' sl ho
      cases hD
      exact ⟨_, X₁ _ _ ho, rfl⟩
    · cases hD
  obtain ⟨oD, hD1, hD2⟩ := hD1
  have I₁ : InstAt h₁ x (excO C t0) C none := ⟨hx₁, rfl, rfl, trivial⟩
  have FB := F.excBase_ValueError
  have hns₁ : h₁.Ns mainGlobals mg := let ⟨o, es, ep, e, r⟩ := hns; ⟨o, es, ep, k _ _ e, r⟩
  have hb₁ : h₁.Ns builtinsNs mb := let ⟨o, es, ep, e, r⟩ := hb; ⟨o, es, ep, k _ _ e, r⟩
  have z : s.heap.objs.size < h₁.objs.size := hn.lt
  obtain ⟨hh, g, d, tk, os⟩ := s
  -- super().__init__('..')
  refine ks_wpAt_execs_cons (ks_wpAt_Expr_any (ks_wpAt_MethodCall (pl := pl) ?_ (hsc _)) rfl rfl)
  · refine ks_wpAt_super_base (env := ksEnv qual (iS f) hh.objs.size fI (.ref cda) cc) n1 n2 (by decide) rfl (X₁ _ _ ho) rfl rfl rfl (X₁ _ _ hcda) rfl hvs hfile htop ?_
    refine ks_loadName_global rfl n1 (loadGlobal_builtin (env := ksEnv qual (iS f) hh.objs.size fI (.ref cda) cc) hns₁ (mg_none_of X₁ hns₁ T.nS) hb₁ ((hbb _ (by decide +kernel)).trans (by first | boot_by_name | rfl | kernel_rfl)) ⟨rfl, ?_⟩)
    refine wpAny_loadName_free rfl n2 rfl ⟨_, X₁ _ _ hcell, rfl⟩ ?_
    refine wpAny_loadName_local rfl n3 hn hvs' ?_
    refine ks_wpAny_isType_cls hD1 hD2 ⟨rfl, ?_⟩
    refine ks_wpAny_call_super hD1 hD2 hx₁ rfl (fun c e => by cases e) (looks_mroIn X₁ hsub) (fun h₂ hso k₂ => ?_)
    have X₂ : K.In h₂ := X₁.keeps k₂
    have hcC : clsIn K C = some { name := nm, bases := bs, mro := .ref C :: bm, ns := N, qualname := q, hasDict := true, slotNames := sn, subclasses := sub, abstract := ab, collection := col, hasDel := false } := hcl
    unfold ks_superIn at hsup
    rw [hcC] at hsup
    have I₂ : InstAt h₂ x (excO C t0) C none := ⟨k₂ _ _ hx₁, rfl, rfl, trivial⟩
    have hI : Looks (model prog w) h₂ (isInstance (.ref x) (.type "ValueError")) true := I₂.type.andThen (looks_subIn X₂ T.veC)
    refine kxs_getMethod kxs_ValueError hso (looks_opaque X₂ T.nT) (l₀ := .ref C :: bm) (fun A Q E s k q => wpAny_bind ((looks_clsIn X₂ hcC) A _ E s k (wpAny_pure q))) rfl X₂ hsup hI (ks_ne X₂ I₂ hcC) (by decide) ?_
    -- the wrapper, called
    have k₃ : ∀ b o, h₂.get? b = some o → (h₂.push (kxs_mw "ValueError.__init__" x)).get? b = some o := fun b o e => Heap.get?_push_of_some _ e
    have hu : (h₂.push (kxs_mw "ValueError.__init__" x)).get? h₂.objs.size = some (kxs_mw "ValueError.__init__" x) := Heap.get?_push_size _ rfl
    have X₃ := X₂.keeps k₃
    refine kxs_callWith (i := "ValueError.__init__") (x := x) rfl (evalArgs_plain (spliced_cons (Constant_str (k := j) (pos := s3) (spliced_nil ⟨hu, ?_⟩))))
    refine wpAny_call (codeAny_of_tree ?_)
    show wpAny _ _ (callAny (.ref h₂.objs.size) ⟨[.str m _], []⟩) _ _ _
    simp only [callAny]
    refine wpAny_bind (wpAny_load hu ?_)
    simp only [kxs_mw, show (Value.type "method-wrapper" == Value.type "method" || Value.type "method-wrapper" == Value.type "builtin_function_or_method" || Value.type "method-wrapper" == Value.type "method-wrapper") = true by decide, if_true]
    refine KFB.if_so (by decide) ?_
    have hx₃ := k₃ _ _ (k₂ _ _ hx₁)
    refine wpAny_bind (check_bound_init FB.toExcCallFacts (X₃ _ _ hC) hx₃ rfl ?_)
    refine wpAny_bind (wpAny_pure (wpAny_pure ?_))
    refine ⟨plainId_quiet FB.init.plain _, codeAny_builtin FB.initEntry ?_⟩
    refine exc_init_tree (cls := .ref C) (t0 := t0) (dv := none) (c2 := .none) (c3 := .none) (b4 := .bool false) hx₃ (by rw [sizeLine_eq]; exact (by decide : 1 ≤ 16777216)) fun h₄ k₄ hx₄ _ => ?_
    -- self.f = f
    have hxn : ∀ b o, K.lookup b = some o → b ≠ x := fun b o e z => by rw [z, hnx] at e; cases e
    have X₄ : K.In h₄ := fun b o e => k₄ b o (hxn b o e) (X₃ b o e)
    have hn₄ : h₄.Ns hh.objs.size (fun y => List.lookup y [(("self" : Str), Value.ref x), (f, v)].reverse) := let ⟨o, es, ep, e, r⟩ := hn; ⟨o, es, ep, k₄ _ _ hxL (k₃ _ _ (k₂ _ _ e)), r⟩
    refine ks_wpAt_execs_cons (wpAt_of_wpAny (plainObj_wpAny_Assign_Attribute ?_))
    refine wpAny_Name (wpAny_loadName_local rfl n4 hn₄ hvf ?_) hdb
    refine wpAny_Name (wpAny_loadName_local rfl n3 hn₄ hvs' ?_) (by decide)
    refine set_plain X₄ (ox := excO C _) (od := none) ⟨hx₄, rfl, rfl, trivial⟩ T.sa ?_
    refine exc_osa X₄ hx₄ hcl (show refsVE (.ref C :: bm) = true from hbm) rfl T.noN (fun h₅ tk₅ dx k₅ dn dne hx₅ hn₅ => ?_)
    show wpAt _ _ _ (execs [] _) _ _ _
    refine wpAt_of_wpAny (wpAny_execs_nil (hq h₅ tk₅ dx _ ⟨fun b o hb e => k₅ b o hb (k₄ b o hb (k₃ b o (k₂ b o (k b o e)))), hx₅, ?_, dne, hn₅⟩))
    have hLx := hn₄.lt
    exact Nat.le_of_lt (Nat.lt_of_lt_of_le hLx dn)
/-- a made exception -/
structure OwnMade (f : Str) (h h' : Heap) (e C d : Addr) (v : Value) : Prop where
  keep : ∀ b o, h.get? b = some o → h'.get? b = some o
  new : h.objs.size ≤ e
  obj : ∃ oe vs, h'.get? e = some oe ∧ oe.cls = .ref C ∧ oe.dict = some d ∧ oe.data = .fields vs ∧ vs[1]? = some .none
  dbig : h.objs.size ≤ d
  dne : d ≠ e
  ns : h'.Ns1 d (fun y => if y = f then some v else none)
theorem one_size (v : Value) : [v].length ≤ sizeLine := by
  rw [sizeLine_eq]
  exact (by decide : 1 ≤ 16777216)
theorem xc_made (T : XcTxt prog K f C fI) {v : Value} (X : K.In s.heap) (hlim : s.heap.NoLimit) (hns : s.heap.Ns mainGlobals mg) (hb : s.heap.Ns builtinsNs mb) (hbb : ∀ x : Str, x ≠ "__name__" → mb x = bootBuiltins x) (hroom : A.depth + 1 < recursionLimit)
    (hq : ∀ h' tk e d, OwnMade f s.heap h' e C d v → R (.ok (.ret (.ref e))) { s with heap := h', toks := tk }) :
    codeAny (model prog w) A (.call (.ref C) ⟨[v], []⟩) R s := by
  obtain ⟨nm, q, N, bs, bm, sn, sub, ab, col, dd, k0, k1, k2, k3, k5, hC, hbm⟩ := T.cls
  obtain ⟨hp, g, dr, tk, os⟩ := s
  have k : ∀ b o, hp.get? b = some o → ((hp.push (kdv_tup [v])).push (excO C hp.objs.size)).get? b = some o := fun b o e => Heap.get?_push_of_some _ (Heap.get?_push_of_some _ e)
  have hget : ((hp.push (kdv_tup [v])).push (excO C hp.objs.size)).get? (hp.objs.size + 1) = some (excO C hp.objs.size) := by heap_get
  have hnx : K.lookup (hp.objs.size + 1) = none := by
    cases e : K.lookup (hp.objs.size + 1) with
    | none => rfl
    | some o =>
      have z : hp.get? (hp.objs.size + 1) = some o := X _ _ e
      exact absurd (Nat.lt_of_succ_lt (Heap.lt_size z)) (Nat.lt_irrefl _)
  have kn : ∀ {a : Addr} {m : Str → Option Value}, hp.Ns a m → ((hp.push (kdv_tup [v])).push (excO C hp.objs.size)).Ns a m := fun ⟨o, es, ep, e, r⟩ => ⟨o, es, ep, k _ _ e, r⟩
  refine call_own F.excBase_ValueError (fun X => refsVE_contains X bm hbm) (X _ _ hC) (looks_findIn X T.iC) (fun self => bind_fn X self T.tC) (one_size v) ?_
  refine xc_init (s := ⟨(hp.push (kdv_tup [v])).push (excO C hp.objs.size), g, dr, tk, os⟩) T (X.keeps k) (hlim.keeps k) (kn hns) (kn hb) hbb hget hnx ?_ fun h' tk' dx t1 ⟨k', hx, dn, dne, hns'⟩ => ?_
  · show A.depth + 1 < recursionLimit
    exact hroom
  · have old : ∀ b o, hp.get? b = some o → h'.get? b = some o := fun b o e => k' b o (Nat.ne_of_lt (Nat.lt_succ_of_lt (Heap.lt_size e))) (k b o e)
    have z : hp.objs.size + 1 + 1 ≤ dx := by
      first
        | (simpa only [Heap.size_push] using dn)
        | exact dn
        | (have q := dn; rw [Heap.size_push, Heap.size_push] at q; exact q)
    exact ⟨rfl, hq h' tk' (hp.objs.size + 1) dx ⟨old, Nat.le_succ _, ⟨_, _, hx, rfl, rfl, rfl, rfl⟩, Nat.le_trans (Nat.le_trans (Nat.le_succ _) (Nat.le_succ _)) z, dne, hns'⟩⟩
end
end XcX
end PySem
namespace L2
open PySem PySem.Spec PyProof.Rows
theorem relO_xc {f : Str} {v : V} {v' : Value} (r : RelV v v') (y : Str) : RelO (List.lookup y [(f, v)]) (if y = f then some v' else none) := by
  by_cases hw : y = f
  · subst hw
    rw [if_pos rfl]
    have q : List.lookup y [(y, v)] = some v := by simp [List.lookup]
    rw [q]
    exact r
  · rw [if_neg hw]
    have qw : (y == f) = false := by simpa using hw
    have q2 : List.lookup y [(f, v)] = none := by simp [List.lookup, qw]
    rw [q2]
    trivial
section
variable {X : Cx} {C fI : Addr} {f : Str}
/-- C(e) -/
def tMkXc (f : Str) (C : Addr) (ta : TA) : L2.St → Hp → XK → Prop := fun σ H Q => ta σ H fun vs H1 => ∃ v, vs = [v] ∧ ∀ d, H1 d = none → Q (.ref C) (some d) (upd H1 d (.xd [(f, v)]))
theorem pmk_xc {x : Str} {a : Expr} {ta : TA} {p pos : Pos} {k : Nat} (T : PySem.XcX.XcTxt X.prog X.K f C fI) (gC : X.mg x = some (.ref C)) (hr : Room k X.A) (ha : PA X [a] ta) (hg : Gl X x)
    (hdb : (x == ("__debug__" : Str)) = false) (he : starEach (a :: []) X.env = (false, eval a X.env) :: starEach [] X.env) (hpl : (backTo pos (starEach [] X.env)).any (·.1) = false) :
    PMk X (.Call (.Name x p) [a] [] pos) (tMkXc f C ta) := by
  intro pins s σ H Q I h
  refine wpAny_Call_Name_kw (ld_glob I hg gC ?_ hdb)
  refine PySem.W.callWith_K (h₀ := X.base) I.ok.mod.kin T.kC (thn (ha.run pos pins s σ H _ I h) fun us s1 hh => ?_) he hpl
  obtain ⟨vs, H1, I1, r1, v, ev, q1⟩ := hh
  subst ev
  refine ⟨I1.kIn, ?_⟩
  cases r1 with
  | cons rv rn =>
    rename_i v' us'
    cases rn
    show wpAny _ _ (call (.ref C) [v']) _ _ _
    have hlim := I1.nolimit
    have M0 := I1.mod
    obtain ⟨mb, hmb, hbb⟩ := M0.blt
    have kn : ∀ {a : Addr} {m : Str → Option Value}, X.base.Ns a m → s1.heap.Ns a m := fun ⟨o, es, ep, e, r⟩ => ⟨o, es, ep, I1.bk _ _ e, r⟩
    have hns := kn M0.glob
    have hb := kn hmb
    obtain ⟨hp, g, dr, tk, os⟩ := s1
    refine wpAny_call (PySem.XcX.xc_made T I1.kIn hlim hns hb hbb (by have := hr.dp; omega) fun h' tk' e d M => ?_)
    show MkP X pins σ Q (.ref e) ⟨h', g, dr, tk', os⟩
    obtain ⟨oe, fv, hoe, hc, hd, hdat, h1⟩ := M.obj
    have hns := M.ns
    obtain ⟨G', g1, g2⟩ := restrict h' fun b => decide (b ≠ e)
    have gk : ∀ b, b ≠ e → G'.get? b = h'.get? b := fun b hb => g1 b (decide_eq_true hb)
    have ge : G'.get? e = none := g2 e (by simp)
    have old : ∀ b o, hp.get? b = some o → G'.get? b = some o := fun b o q => (gk b (Nat.ne_of_lt (Nat.lt_of_lt_of_le (Heap.lt_size q) M.new))).trans (M.keep b o q)
    have ob : ObjOk X.prog X.w (upd H1 d (.xd [(f, v)])) G' d (.xd [(f, v)]) :=
      ⟨_, hns.at (fun o q => (gk d M.dne).trans q), fun y => relO_xc rv y⟩
    have J : Inv X pins σ (upd H1 d (.xd [(f, v)])) ⟨G', g, dr, tk', os⟩ := I1.laid (t' := tk') old M.dbig ob
    refine ⟨e, oe, fv, ⟨G', g, dr, tk', os⟩, _, .ref C, some d, rfl, J, fun b o q => ?_, ge, hoe, ⟨hc, hd⟩, hdat, h1, ?_, rfl, I1.bare, raises_own T.exC T.tyC, q1 d (I1.hok.fresh M.dbig)⟩
    · by_cases hb : b = e
      · have q' : G'.get? b = some o := q
        rw [hb, ge] at q'; cases q'
      · exact (gk b hb).symm.trans q
    · rw [upd_ne (Ne.symm M.dne)]
      exact I1.hok.fresh M.new
/-- e.f, e the exception that the suite holds (at a; its class cls, its dict d) -/
def tByXc (f : Str) (C : Addr) (a : Addr) (cls : Value) (d : Option Addr) (te : TE) : TE := fun σ H Q => te σ H fun x H1 => x = .ref a ∧ cls = .ref C ∧ ∃ (dd : Addr) (fs : List (Str × V)) (v : V), d = some dd ∧ H1 dd = some (.xd fs) ∧ fs.lookup f = some v ∧ Q v H1
theorem pe_byXc {a : Addr} {oe : Obj} {cls : Value} {d : Option Addr} {pn : List (Addr × Obj)} {e : Expr} {te : TE} {pos : Pos} (ga : PySem.W.findIn X.K (.ref C) "__getattribute__" = some (some (.builtin "BaseException.__getattribute__"))) (gg : PySem.W.findIn X.K (.ref C) "__getattr__" = some none)
    (exC : PySem.W.subIn X.K (.ref C) (.type "BaseException") = some true) (hdC : PySem.W.hasDictIn X.K C = true) (noN : PySem.W.findIn X.K (.ref C) f = some none) (hz : Zc cls d oe) (hf : ∃ vs, oe.data = .fields vs) (he : PE (X.suite a ((a, oe) :: pn)) e te)
    (hb : attributeBase e f X.env (eval e X.env) = eval e X.env) :
    PE (X.suite a ((a, oe) :: pn)) (.Attribute e f pos) (tByXc f C a cls d te) := by
  refine ⟨fun pins s σ H Q I h => ?_⟩
  refine attr_of hb (thn (he.run pins s σ H _ I h) fun u s1 hh => ?_)
  obtain ⟨x, H1, I1, rx, ex, ec, dd, fs, v, ed, ea, l, q⟩ := hh
  subst ex
  obtain rfl : u = Value.ref a := rx
  subst ec
  subst ed
  obtain ⟨ha, _⟩ := I1.pin (a, oe) (List.mem_append_left _ List.mem_cons_self)
  obtain ⟨vs, hd⟩ := hf
  have hx : ObjOk X.prog X.w H1 s1.heap dd (.xd fs) := I1.hok dd _ ea
  obtain ⟨mA, hns, hr⟩ := hx
  obtain ⟨od, ho, hl⟩ := lookIn_ns hns
  obtain ⟨u, hu, ru⟩ := RelO.some_of (v := v) (o := mA f) (by rw [← l]; exact hr f)
  have J : PySem.W.InstAt s1.heap a oe C (some od) := ⟨ha, hz.1, by unfold PySem.W.notCls; rw [hd] <;> rfl, by rw [hz.2]; exact ho⟩
  exact HandSPX.exc_get I1.kIn J ga gg exC (PySem.W.findObj_own hdC noN rfl (by rw [hl, hu])) (handed_of ru) ⟨v, H1, I1.tok _, ru, q⟩
end
end L2

set_option Elab.async false
set_option linter.all false
set_option maxRecDepth 100000
set_option maxHeartbeats 4000000
/-! VL8: raise, try. -/
namespace L2
open PySem PySem.Spec PyProof.Rows
/-- the state behind a suite: the name's slot goes -/
def outE (oi : Option Nat) (D : Ends) : Ends := match oi with
  | none => D
  | some i => { nx := fun σ' H' => D.nx (σ'.set i none) H', rt := D.rt, bk := fun σ' H' => D.bk (σ'.set i none) H', ct := fun σ' H' => D.ct (σ'.set i none) H' }
def inS (oi : Option Nat) (a : Addr) (σ : St) : St := match oi with
  | none => σ
  | some i => σ.set i (some (.ref a))
abbrev Hd := Value × Option Nat × (Addr → Value → Option Addr → TS)
/-- what the clauses wish of an exception of the body, one after the other -/
def wHds (K : PySem.W.Frag) (Wout : WX) (D : Ends) : List Hd → WX
  | [] => Wout
  | (c, oi, ts) :: r => fun cls d σ H => ∃ b, PySem.W.exmOne K cls c = some b ∧ (b = true → ∀ a, H a = none → ts a cls d (outE oi D) (inS oi a σ) H) ∧ (b = false → wHds K Wout D r cls d σ H)
/-- the name of a clause -/
def NmOk (X : Cx) (on : Option Str) (oi : Option Nat) : Prop := match on, oi with
  | none, none => True
  | some n, some i => X.N[i]? = some n ∧ X.env.kindOf n = some .local
  | _, _ => False
inductive HdsX (X : Cx) : List ExceptHandler → List Hd → Prop
  | nil : HdsX X [] []
  | cons {x : Str} {c : Value} {on : Option Str} {oi : Option Nat} {ts : Addr → Value → Option Addr → TS} {b₀ : Stmt} {suite : List Stmt} {np pos' : Pos} {hds : List ExceptHandler} {l : List Hd} (hc : Names X x c) (hn : NmOk X on oi)
      (hsu : ∀ (a : Addr) (oe : Obj) (cls : Value) (d : Option Addr) (pn : List (Addr × Obj)), Zc cls d oe → (∃ vs, oe.data = .fields vs) → PSs (X.suite a ((a, oe) :: pn)) (b₀ :: suite) (ts a cls d)) (r : HdsX X hds l) :
      HdsX X (.ExceptHandler (some (.Name x np)) on (b₀ :: suite) pos' :: hds) ((c, oi, ts) :: l)
section
variable {X : Cx} {body : List Stmt} {h₀ : ExceptHandler} {hds : List ExceptHandler} {l : List Hd} {pos : Pos} {tb : WX → TS} {Wout : WX}
theorem ps_try_hds (hs : X.stack = X.env :: X.outer) (hf : X.env.frame = some X.env.locals) (hN : X.N.Nodup) (tk : Takes X Wout)
    (hb : ∀ (W : WX) (pn : List (Addr × Obj)) (xe : Value → Shared → Prop), Takes (X.tr pn xe) W → PassesOwn (model X.prog X.w) X.A X.env xe → PSs (X.tr pn xe) body (tb W))
    (hh : HdsX X (h₀ :: hds) l) : PS X (.Try body (h₀ :: hds) [] [] pos) (fun D σ H => tb (wHds X.K Wout D l) D σ H) := by
  refine ⟨fun pins s σ H D I h => ?_⟩
  have ok := I.ok
  have hfr : X.A.frames = some (X.env :: X.outer) := by rw [ok.frames, hs]
  refine wpAny_Try_except ?_
  refine wpAny_mono ((hb (wHds X.K Wout D l) (X.pn ++ pins) (fun e s₁ => wpAny (model X.prog X.w) X.A (noteFrame e X.env) (fun _ s₂ => wpAny (model X.prog X.w) X.A (setFlight e none) (fun _ s₃ =>
    wpAny (model X.prog X.w) X.A (handleBy e X.env (h₀ :: hds)) (SP X pins D) X.xe s₃) X.xe s₂) X.xe s₁) (fun u s' xx => ?_) PassesOwn.looking).run [] s σ H D (I.toTry _) h) (fun f s1 hsp => ?_) (fun e s1 he => he)
  · -- the catch
    obtain ⟨a, B, sI, pins', σ', H', cls, d, rfl, J', nb, up, sky, na, os, ag, w⟩ := xx
    have J : Inv X pins σ' H' sI := J'.ofTry ok
    have sky' : Sky B (X.env :: X.outer) a (Zc cls d) X.env.locals s'.heap := by rw [← hs]; exact sky
    show wpAny (model X.prog X.w) X.A (noteFrame (.ref a) X.env) _ _ _
    refine Sky.land Zc.steady hfr hf sky' fun h3 fl3 up3 => ?_
    have J3 : Inv X pins σ' H' { s' with heap := h3 } := J.landed nb fl3.1 (up.trans up3) os ag
    obtain ⟨oe3, vs3, he3, hz3, hd3⟩ := fl3.there
    have notFr : ∀ {h : Heap} {o : Obj} {vs : Array Value}, h.FunFrames B (X.env :: X.outer) → h.get? a = some o → o.data = .fields vs → a ∉ frs (X.env :: X.outer) := fun {h o vs} ff e dd hm => by
      obtain ⟨_, o', e', hnf⟩ := ff.mem hm
      rw [e] at e'; cases e'
      exact hnf _ dd
    have nfr := notFr fl3.2.2.1 he3 hd3
    have nL : a ≠ X.env.locals := fun z => nfr (List.mem_filterMap.mpr ⟨X.env, List.mem_cons_self, by rw [hf, z]⟩)
    have nF : a ∉ X.fs := fun hm => by
      obtain ⟨e, he, q⟩ := List.mem_filterMap.mp hm
      exact nfr (List.mem_filterMap.mpr ⟨e, List.mem_cons_of_mem _ he, q⟩)
    have S3 := J3.suite he3 hd3 na nL nF
    have go : ∀ {hds' : List ExceptHandler} {l' : List Hd}, HdsX X hds' l' → wHds X.K Wout D l' cls d σ' H' →
        wpAny (model X.prog X.w) X.A (handleBy (.ref a) X.env hds') (SP X pins D) X.xe { s' with heap := h3 } := by
      intro hds' l' hk
      induction hk with
      | nil =>
        intro w
        refine wpAny_handleBy_nil ?_
        obtain ⟨k1, k2, k3, oe, vs, T, oT, ts', he, hz, hd, h1, hr⟩ := id fl3
        unfold PySem.passOn
        refine wpAny_bind (wpAny_field he hd h1 ?_)
        rw [if_neg (show ¬ ((Value.ref T == Value.none) = true) from by simp)]
        have fin : wpAny (model X.prog X.w) X.A (setFlight (.ref a) X.env.frame) (fun _ s4 => wpAny (model X.prog X.w) X.A (throw (.ref a) : Sem Flow) (SP X pins D) X.xe s4) X.xe { s' with heap := h3 } := by
          rw [hf]
          refine HandSPX.setFlight_upZ fl3 fun h4 hh4 up4 => wpAny_throw (tk _ _ ?_)
          exact ⟨a, B, sI, pins, σ', H', cls, d, rfl, J, nb, (up.trans up3).trans up4, .inr (.inr (by rw [hs]; exact hh4)), na, os, ag, w⟩
        first
          | exact wpAny_bind (wpAny_pure (wpAny_bind fin))
          | exact wpAny_bind fin
      | @cons x c on oi ts b₀ suite np pos' hds2 l2 hc hn hsu r ih =>
        intro w
        obtain ⟨b, hb1, hyes, hno⟩ := w
        refine wpAny_handleBy_cons (codeAny_handlers_test ?_) (by intro q; cases q)
        have LT : PySem.W.Looks (model X.prog X.w) h3 (typeOf (.ref a)) cls := fun A Q E s k q => wpAny_typeOf_ref (k _ _ he3) (by rw [hz3.1]; exact q)
        have LM := PySem.W.exm_one (M := model X.prog X.w) (J3.kIn) LT hb1
        have test : ∀ {Q : Value → Shared → Prop} {E : Value → Shared → Prop}, Q c { s' with heap := h3 } → wpAny (model X.prog X.w) (X.A.mark (some (.ref a))) (eval (.Name x np) X.env) Q E { s' with heap := h3 } := fun {Q E} q => by
          obtain ⟨hg, hdbg, hm | ⟨hm, hv, hnn⟩⟩ := hc
          · exact ld_glob (X := X.suite a ((a, oe3) :: (X.pn ++ pins))) S3 hg hm q hdbg
          · exact ld_blt (X := X.suite a ((a, oe3) :: (X.pn ++ pins))) S3 hg hm hv q hnn hdbg
        refine test (LM.here ?_)
        cases b with
        | true =>
          cases on with
          | none =>
            cases oi with
            | some i => exact hn.elim
            | none =>
              refine codeAny_handlers_suite ?_
              refine HandSPX.lands_againZ fl3 fun h4 fl4 up4 => ?_
              have J4 : Inv X pins σ' H' { s' with heap := h4 } := J.landed nb fl4.1 ((up.trans up3).trans up4) os ag
              obtain ⟨oe4, vs4, he4, hz4, hd4⟩ := fl4.there
              have S4 := J4.suite he4 hd4 na nL nF
              refine wpAny_mono ((hsu a oe4 cls d (X.pn ++ pins) hz4 ⟨_, hd4⟩).run [] _ _ H' _ S4 (hyes rfl a na)) (fun f s6 hsp => ?_) (fun _ _ z => False.elim z)
              cases f with
              | next =>
                obtain ⟨σ6, H6, S6, q6⟩ := hsp
                exact ⟨_, _, S6.unsuite ok, q6⟩
              | brk =>
                obtain ⟨σ6, H6, S6, q6⟩ := hsp
                exact ⟨_, _, S6.unsuite ok, q6⟩
              | cont =>
                obtain ⟨σ6, H6, S6, q6⟩ := hsp
                exact ⟨_, _, S6.unsuite ok, q6⟩
              | ret u =>
                obtain ⟨v6, σ6, H6, S6, r6, q6⟩ := hsp
                exact ⟨_, _, _, S6.unsuite ok, r6, q6⟩
          | some n =>
            cases oi with
            | none => exact hn.elim
            | some i =>
              obtain ⟨hi, hln⟩ := hn
              refine codeAny_handlers_suite_as ?_
              refine HandSPX.lands_againZ fl3 fun h4 fl4 up4 => ?_
              have J4 : Inv X pins σ' H' { s' with heap := h4 } := J.landed nb fl4.1 ((up.trans up3).trans up4) os ag
              obtain ⟨oe4, vs4, he4, hz4, hd4⟩ := fl4.there
              have S4 := J4.suite he4 hd4 na nL nF
              refine store_ok (X := X.suite a ((a, oe4) :: (X.pn ++ pins))) (v := .ref a) S4 hN hi (.inl hln) rfl (fun s5 S5 => ?_) (.inr hln)
              refine wpAny_mono ((hsu a oe4 cls d (X.pn ++ pins) hz4 ⟨_, hd4⟩).run [] s5 _ H' _ S5 (hyes rfl a na)) (fun f s6 hsp => ?_) (fun _ _ z => False.elim z)
              have end_ : ∀ {σ6 : St} {H6 : Hp} {Q : Shared → Prop}, Inv (X.suite a ((a, oe4) :: (X.pn ++ pins))) [] σ6 H6 s6 → (∀ s7, Inv X pins (σ6.set i none) H6 s7 → Q s7) →
                  wpAny (model X.prog X.w) X.A (do bindName X.env n .none; unbindBehindTheSuite X.env n pos') (fun _ s7 => Q s7) X.xe s6 := fun {σ6 H6 Q} S6 hq => gone_ok (S6.unsuite ok) hN hi hln hq
              cases f with
              | next =>
                obtain ⟨σ6, H6, S6, q6⟩ := hsp
                exact end_ S6 fun s7 J7 => ⟨_, _, J7, q6⟩
              | brk =>
                obtain ⟨σ6, H6, S6, q6⟩ := hsp
                exact end_ S6 fun s7 J7 => ⟨_, _, J7, q6⟩
              | cont =>
                obtain ⟨σ6, H6, S6, q6⟩ := hsp
                exact end_ S6 fun s7 J7 => ⟨_, _, J7, q6⟩
              | ret u =>
                obtain ⟨v6, σ6, H6, S6, r6, q6⟩ := hsp
                exact end_ S6 fun s7 J7 => ⟨_, _, _, J7, r6, q6⟩
        | false =>
          show wpAny _ X.A (handleBy (.ref a) X.env hds2) _ _ _
          exact ih (hno rfl)
    exact go hh w
  · cases f with
    | next =>
      obtain ⟨σ', H', J', q⟩ := hsp
      exact wpAny_execs_nil ⟨σ', H', J'.ofTry ok, q⟩
    | brk =>
      obtain ⟨σ', H', J', q⟩ := hsp
      exact ⟨σ', H', J'.ofTry ok, q⟩
    | cont =>
      obtain ⟨σ', H', J', q⟩ := hsp
      exact ⟨σ', H', J'.ofTry ok, q⟩
    | ret u =>
      obtain ⟨v, σ', H', J', r, q⟩ := hsp
      exact ⟨v, σ', H', J'.ofTry ok, r, q⟩
end
end L2
namespace VL
open PySem PySem.Spec PyProof.Rows L2
theorem lookup_zip {α : Type} : ∀ {ns : List Str} {vs : List α} {j : Nat} {f : Str} {v : α}, ns.Nodup → ns[j]? = some f → vs[j]? = some v → (ns.zip vs).lookup f = some v
  | [], _, _, _, _, _, h, _ => by simp at h
  | _ :: _, [], _, _, _, _, _, h => by simp at h
  | n :: ns, u :: vs, 0, f, v, hu, h1, h2 => by
    simp at h1 h2; subst h1 h2
    simp [List.lookup]
  | n :: ns, u :: vs, j + 1, f, v, hu, h1, h2 => by
    have hne : f ≠ n := fun e => by
      subst e
      exact (List.nodup_cons.mp hu).1 (List.mem_of_getElem? (by simpa using h1))
    have e : (f == n) = false := by simpa using hne
    simp only [List.zip_cons_cons, List.lookup, e]
    exact lookup_zip (List.nodup_cons.mp hu).2 (by simpa using h1) (by simpa using h2)
section
variable {Y : Cy} {ρ : List B} {pos : Pos} {Φ : Fin} {k : Nat}
/-- raise C(e) -/
theorem v1_raise {x f : Str} {C fI : Addr} {a : Expr} {p pos2 : Pos} (o : CyOk Y k) (T : PySem.XcX.XcTxt Y.X.prog Y.X.K f C fI) (gC : Y.X.mg x = some (.ref C))
    (h : VE Y ρ a fun r d => d.sc = true ∧ Y.E ⟨x, [f], [d]⟩ ρ) (hp : plain a = true := by rfl) (hg : Gl Y.X x := by rfl) (hdb : (x == ("__debug__" : Str)) = false := by decide) : V1 Y ρ (.Raise (some (.Call (.Name x p) [a] [] pos)) none pos2) Φ := fun τ σ H w _ =>
  s1.of (ps_raise o.calm o.tk (pmk_xc T gC o.rm (pa_cons pe_s pa_nil (star_plain hp)) hg hdb (star_plain hp) rfl)) ((h τ σ H w).mono fun v H1 ⟨r, d, w1, hs, q⟩ => ⟨v, rfl, fun dn hd => by
    obtain ⟨G0, G1, ow, w2⟩ := w1
    have hr := RepR.nm (w2.tt _ List.mem_cons_self)
    have e : nm r d = .nw := by unfold nm; rw [if_pos hs]
    rw [e] at hr
    refine ⟨⟨x, [f], [d]⟩, ρ, τ, ⟨G0, G1, ow, ((w2.pop).heap (same_upd hd)).push (t := .exc ⟨x, [f], [d]⟩ (.ref C) (some dn)) ?_ (fun a e => by cases e) (fun a e => by cases e)⟩, q⟩
    exact ⟨C, gC, rfl, .inr ⟨dn, [v], rfl, upd_same, rfl, Reps.cons hr Reps.nil⟩⟩⟩)
end
section
variable {K : PySem.W.Frag} {mg : Mg} {Hs Hi H : Hp} {ρ : List B} {σ : L2.St} {τ : List T}
theorem EnvOk.setRaw {i : Nat} {v : V} (h : EnvOk K mg Hs Hi ρ σ τ H) : EnvOk K mg Hs Hi (ρ.set i (.raw v)) (σ.set i (some v)) τ H := by
  obtain ⟨G0, G1, ow, w⟩ := h
  exact ⟨G0, G1, _, w.setB (q := none) rfl (fun a o e => by cases e)⟩
theorem EnvOk.clear {i : Nat} (h : EnvOk K mg Hs Hi ρ σ τ H) : EnvOk K mg Hs Hi (ρ.set i .no) (σ.set i none) τ H := by
  obtain ⟨G0, G1, ow, w⟩ := h
  refine ⟨G0, G1, ow, { w with len := by rw [List.length_set, List.length_set, w.len], sl := fun j c e => ?_ }⟩
  rcases gs e with ⟨rfl, hl, rfl⟩ | ⟨hne, e⟩
  · trivial
  · rw [List.getElem?_set_ne (Ne.symm hne)]; exact w.sl j c e
end
def inB (oi : Option Nat) (a : Addr) (ρ : List B) : List B := match oi with | none => ρ | some i => ρ.set i (.raw (.ref a))
def outF (oi : Option Nat) (Φ : Fin) : Fin := match oi with | none => Φ | some i => { Φ with nx := fun ρ => Φ.nx (ρ.set i .no), bk := fun ρ => Φ.bk (ρ.set i .no), ct := fun ρ => Φ.ct (ρ.set i .no) }
/-- the context of an except suite -/
abbrev Cy.suite (Y : Cy) (x : Exc) (a : Addr) (oe : Obj) (pn : List (Addr × Obj)) (cls : Value) (dd : Option Addr) (τ : List T) : Cy := ⟨Y.X.suite a ((a, oe) :: pn), Y.Hs, Y.Hi, .exc x cls dd :: τ, fun _ _ => False⟩
/-- what the clauses do with an exception -/
def HW (Y : Cy) (Φ : Fin) : List ExceptHandler → List (Value × Option Nat) → Exc → List B → Prop
  | [], [], x, ρ => Y.E x ρ
  | .ExceptHandler (some (.Name _ _)) _ suite _ :: hs, (c, oi) :: l, x, ρ => ∃ b C, Y.X.mg x.c = some (.ref C) ∧ PySem.W.exmOne Y.X.K (.ref C) c = some b ∧
      (b = true → ∀ a oe pn cls dd τ, cls = .ref C → Zc cls dd oe → (∃ vs, oe.data = .fields vs) → VS (Y.suite x a oe pn cls dd τ) (inB oi a ρ) suite (outF oi Φ)) ∧ (b = false → HW Y Φ hs l x ρ)
  | _, _, _, _ => False
/-- the clauses are of the kind that is served -/
def HsOk (X : Cx) : List ExceptHandler → List (Value × Option Nat) → Prop
  | [], [] => True
  | .ExceptHandler (some (.Name x _)) on suite _ :: hs, (c, oi) :: l => Names X x c ∧ NmOk X on oi ∧ suite ≠ [] ∧ HsOk X hs l
  | _, _ => False
section
variable {Y : Cy} {ρ : List B} {pos : Pos} {Φ : Fin} {k : Nat}
abbrev tsOf (X : Cx) (suite : List Stmt) : Addr → Value → Option Addr → TS := fun a cls d D σ H => ∀ oe pn, Zc cls d oe → (∃ vs, oe.data = .fields vs) → sS (X.suite a ((a, oe) :: pn)) suite D σ H
def hdsOf (X : Cx) : List ExceptHandler → List (Value × Option Nat) → List Hd
  | .ExceptHandler _ _ suite _ :: hs, (c, oi) :: l => (c, oi, tsOf X suite) :: hdsOf X hs l
  | _, _ => []
theorem hds_ok {X : Cx} : ∀ {hs : List ExceptHandler} {l : List (Value × Option Nat)}, HsOk X hs l → HdsX X hs (hdsOf X hs l)
  | [], [], _ => .nil
  | [], _ :: _, h => h.elim
  | h0 :: hs, l, h => by
    match h0, l, h with
    | .ExceptHandler (some (.Name x np)) on suite pos', (c, oi) :: l, h =>
      obtain ⟨h1, h2, h3, h4⟩ := h
      cases suite with
      | nil => exact absurd rfl h3
      | cons b₀ suite => exact .cons h1 h2 (fun a oe cls d pn hz hf => ⟨fun pins s σ H D I q => q oe pn hz hf pins s I⟩) (hds_ok h4)
theorem hds_w {D : Ends} {τ0 : List T} (hD : D = lift Y τ0 Φ) (hst : Stab (τ0 ++ Y.τ)) : ∀ {hs : List ExceptHandler} {l : List (Value × Option Nat)} {x : Exc} {ρ : List B} {cls : Value} {dd : Option Addr} {σ : L2.St} {H : Hp} {τ2 : List T},
    HW Y Φ hs l x ρ → EnvOk Y.X.K Y.X.mg Y.Hs Y.Hi ρ σ (.exc x cls dd :: (τ2 ++ (τ0 ++ Y.τ))) H → wHds Y.X.K (WD Y) D (hdsOf Y.X hs l) cls dd σ H
  | [], [], x, ρ, cls, dd, σ, H, τ2, h, w => ⟨x, ρ, τ2 ++ τ0, by
      show EnvOk _ _ _ _ _ _ (.exc x cls dd :: ((τ2 ++ τ0) ++ Y.τ)) _
      rw [List.append_assoc]; exact w, h⟩
  | [], _ :: _, _, _, _, _, _, _, _, h, _ => h.elim
  | h0 :: hs, l, x, ρ, cls, dd, σ, H, τ2, h, w => by
    match h0, l, h with
    | .ExceptHandler (some (.Name xn np)) on suite pos', (c, oi) :: l, h =>
      obtain ⟨b, C, e1, e2, hy, hn⟩ := h
      obtain ⟨G0, G1, ow, w0⟩ := id w
      obtain ⟨C', f1, f2, _⟩ := w0.tt _ List.mem_cons_self
      rw [e1] at f1
      cases f1
      refine ⟨b, by rw [f2]; exact e2, fun hb a na oe pn hz hf => ?_, fun hb => hds_w hD hst (hn hb) w⟩
      have w1 : EnvOk Y.X.K Y.X.mg Y.Hs Y.Hi ρ σ (.exc x cls dd :: (τ0 ++ Y.τ)) H := EnvOk.unders τ2 w
      have w2 : EnvOk Y.X.K Y.X.mg Y.Hs Y.Hi (inB oi a ρ) (inS oi a σ) (.exc x cls dd :: (τ0 ++ Y.τ)) H := by
        cases oi with
        | none => exact w1
        | some i => exact EnvOk.setRaw w1
      have st2 : Stab (.exc x cls dd :: (τ0 ++ Y.τ)) := Stab.cons rfl hst
      refine (hy hb a oe pn cls dd (τ0 ++ Y.τ) f2 hz hf [] (inS oi a σ) H w2 st2).mono (fun σ' H' ⟨ρ', w', q⟩ => ?_) (fun v H' q => ?_) (fun σ' H' ⟨ρ', w', q⟩ => ?_) (fun σ' H' ⟨ρ', w', q⟩ => ?_)
      · subst hD
        cases oi with
        | none => exact ⟨ρ', EnvOk.pop w', q⟩
        | some i => exact ⟨_, EnvOk.clear (EnvOk.pop w'), q⟩
      · subst hD
        have q : (∃ ρ' σ' r d, EnvOk Y.X.K Y.X.mg Y.Hs Y.Hi ρ' σ' (.v r d v :: (.exc x cls dd :: (τ0 ++ Y.τ))) H' ∧ (r.st = true ∨ d.sc = true) ∧ Φ.rt r d) ∨ (∃ ρ' σ' a r c, v = .ref a ∧ EnvOk Y.X.K Y.X.mg Y.Hs Y.Hi ρ' σ' (.own a r c :: (.exc x cls dd :: (τ0 ++ Y.τ))) H' ∧ Φ.rn r c) := by
          cases oi <;> exact q
        have fin : (lift Y τ0 Φ).rt v H' := by
          rcases q with ⟨ρ', σ', r, d, w', q⟩ | ⟨ρ', σ', b, r, c, e, w', q⟩
          · exact .inl ⟨ρ', σ', r, d, EnvOk.under w', q⟩
          · exact .inr ⟨ρ', σ', b, r, c, e, EnvOk.under w', q⟩
        cases oi <;> exact fin
      · subst hD
        cases oi with
        | none => exact ⟨ρ', EnvOk.pop w', q⟩
        | some i => exact ⟨_, EnvOk.clear (EnvOk.pop w'), q⟩
      · subst hD
        cases oi with
        | none => exact ⟨ρ', EnvOk.pop w', q⟩
        | some i => exact ⟨_, EnvOk.clear (EnvOk.pop w'), q⟩
/-- the context of a try's body -/
abbrev Cy.tr (Y : Cy) (Φ : Fin) (hs : List ExceptHandler) (l : List (Value × Option Nat)) (pn : List (Addr × Obj)) (xe : Value → Shared → Prop) (τ : List T) : Cy := ⟨Y.X.tr pn xe, Y.Hs, Y.Hi, τ, HW Y Φ hs l⟩
theorem v1_try {body : List Stmt} {h₀ : ExceptHandler} {hs : List ExceptHandler} (l : List (Value × Option Nat)) (o : CyOk Y k) (hok : HsOk Y.X (h₀ :: hs) l)
    (h : ∀ pn xe τ, CyOk (Y.tr Φ (h₀ :: hs) l pn xe τ) k → VS (Y.tr Φ (h₀ :: hs) l pn xe τ) ρ body Φ) (hstk : Y.X.stack = Y.X.env :: Y.X.outer := by rfl) (hfr : Y.X.env.frame = some Y.X.env.locals := by rfl) : V1 Y ρ (.Try body (h₀ :: hs) [] [] pos) Φ := fun τ σ H w hst => by
  refine fun pins s I => ?_
  refine (ps_try_hds (l := hdsOf Y.X (h₀ :: hs) l) (tb := fun W D' σ' H' => ∀ pn xe, Takes (Y.X.tr pn xe) W → PassesOwn (model Y.X.prog Y.X.w) Y.X.A Y.X.env xe → sS (Y.X.tr pn xe) body D' σ' H') (Wout := WD Y) hstk hfr o.nd o.tk
    (fun W pn xe tk po => ⟨fun pins s σ H D I q => q pn xe tk po pins s I⟩) (hds_ok hok)).run pins s σ H (lift Y τ Φ) I ?_
  intro pn xe tk po
  have o2 : CyOk (Y.tr Φ (h₀ :: hs) l pn xe (τ ++ Y.τ)) k := ⟨tk.imp fun cls d σ H ⟨x, ρ', τ2, w', q⟩ => hds_w rfl hst q w', po, o.calm, o.rm, o.nd⟩
  refine (h pn xe (τ ++ Y.τ) o2 [] σ H w hst).mono (fun _ _ q => q) (fun v H' q => q) (fun _ _ q => q) (fun _ _ q => q)
/-- e.f in a suite -/
theorem ve_exf {x : Exc} {a : Addr} {oe : Obj} {pn : List (Addr × Obj)} {cls : Value} {dd : Option Addr} {τ0 : List T} {n f : Str} {p : Pos} {C : Addr} {d : D} {Q : Rg → D → Prop} (i j : Nat) (hρ : ρ[i]? = some (.raw (.ref a))) (hn : x.ns[j]? = some f) (hu : x.ns.Nodup) (hd : x.ds[j]? = some d) (hsc : d.sc = true) (hC : cls = .ref C)
    (ga : PySem.W.findIn Y.X.K (.ref C) "__getattribute__" = some (some (.builtin "BaseException.__getattribute__"))) (gg : PySem.W.findIn Y.X.K (.ref C) "__getattr__" = some none)
    (exC : PySem.W.subIn Y.X.K (.ref C) (.type "BaseException") = some true) (hdC : PySem.W.hasDictIn Y.X.K C = true) (noN : PySem.W.findIn Y.X.K (.ref C) f = some none) (hz : Zc cls dd oe) (hf : ∃ vs, oe.data = .fields vs) (h : Q .nw d)
    (hN : Y.X.N[i]? = some n := by rfl) (hv : Vis Y.X.env.scope n := by first | exact Or.inl rfl | exact Or.inr (Or.inl rfl) | exact Or.inr (Or.inr rfl)) (hdb : (n == ("__debug__" : Str)) = false := by decide) (hcd : (n == ("__classdict__" : Str)) = false := by decide)
    (hb : attributeBase (.Name n p) f Y.X.env (eval (.Name n p) Y.X.env) = eval (.Name n p) Y.X.env := by rfl) : VE (Y.suite x a oe pn cls dd τ0) ρ (.Attribute (.Name n p) f pos) Q := fun τ σ H w => by
  refine sE.of (pe_byXc (C := C) (X := Y.X) ga gg exC hdC noN hz hf (pe_var (X := Y.X.suite a ((a, oe) :: pn)) hN hv hdb hcd) hb) ?_
  obtain ⟨G0, G1, ow, w0⟩ := id w
  have hs : σ[i]? = some (some (.ref a)) := w0.sl i _ hρ
  have hx : RepX Y.X.K Y.X.mg G1 H x cls dd := w0.tt (.exc x cls dd) (List.mem_append_right _ List.mem_cons_self)
  obtain ⟨C', e1, e2, e3⟩ := hx
  rcases e3 with ⟨e, _⟩ | ⟨dn, vs, f1, f2, f3, f4⟩
  · rw [e] at hn; cases hn
  · obtain ⟨v, g1, g2⟩ := f4.get hd
    refine ⟨_, hs, rfl, hC, dn, x.ns.zip vs, v, f1, f2, ?_, .nw, d, ⟨G0, G1, ow, w0.pushV (r := .nw) g2 rfl⟩, h⟩
    exact lookup_zip hu hn g1
end
end VL

set_option Elab.async false
set_option linter.all false
/-! The functions by which a def's text is read: each construct is a plain function of the slots.
Nothing of the machine is in sight here. -/
namespace VL
open PySem PySem.Spec PyProof.Rows L2
def nmC (r : Rg) (c : Ct) : Rg := match c with | .lst ds => if ds.all D.sc = true then .nw else r | _ => r
inductive EV where
  | v (r : Rg) (d : D) | n (r : Rg) (c : Ct) | x (e : Exc)
abbrev XE := List B → Option EV
inductive Out where
  | nx (ρ : List B) | rt (r : Rg) (d : D) | rn (r : Rg) (c : Ct) | bk (ρ : List B) | ct (ρ : List B) | ex (x : Exc) (ρ : List B)
abbrev XS := List B → Option Out
abbrev OP := Rg → D → Option EV
abbrev OP2 := Rg → D → Rg → D → Option EV
/-- what follows a value -/
def bE (o : Option EV) (k : OP) : Option EV := match o with
  | none => none | some (.v r d) => k r d | some (.n r c) => k r c.toD | some (.x x) => some (.x x)
section
variable (f g h : XE)
def xVar (i : Nat) : XE := fun ρ => match ρ[i]? with
  | some (.v r d) => some (.v r d) | some (.own r c) => some (.v r.tr c.toD) | _ => none
def xC (d : D) : XE := fun _ => some (.v .nw d)
abbrev xInt (i : Int) : XE := xC (.int i)
abbrev xBl (i : Bool) : XE := xC (.bl i)
abbrev xNon : XE := xC .non
abbrev xStr (i : Str) : XE := xC (.str i)
def x1 (op : OP) : XE := fun ρ => bE (f ρ) op
def x2 (op : OP2) : XE := fun ρ => bE (f ρ) fun r x => bE (g ρ) fun r2 y => op r x r2 y
/-! operators -/
def TimesOk (i j : Int) : Prop := CMul i j ∨ CMulW i j
instance (i j : Int) : Decidable (TimesOk i j) := by unfold TimesOk CMul CMulW; infer_instance
instance (i j : Int) : Decidable (CDivW i j) := by unfold CDivW; infer_instance
instance (i j : Int) : Decidable (CPow i j) := by unfold CPow; infer_instance
def vI (i : Int) : Option EV := some (.v .nw (.int i))
def vB (b : Bool) : Option EV := some (.v .nw (.bl b))
def oAdd : OP2 := fun r x r2 y => match x, y with
  | .int i, .int j => vI (i + j)
  | .lst ds, .lst es => if ds.length + es.length ≤ sizeLine then some (.n (nmC (r.el.mx r2.el) (.lst (ds ++ es))) (.lst (ds ++ es))) else none
  | _, _ => none
def oSub : OP2 := fun _ x _ y => match x, y with | .int i, .int j => vI (i - j) | _, _ => none
def oMul : OP2 := fun r x _ y => match x, y with
  | .int i, .int j => if TimesOk i j then vI (i * j) else none
  | .lst ds, .int k => if -(2 ^ 63) ≤ k ∧ k < 2 ^ 63 ∧ ds.length * k.toNat ≤ sizeLine then some (.n (nmC r.el (.lst (List.replicate k.toNat ds).flatten)) (.lst (List.replicate k.toNat ds).flatten)) else none
  | _, _ => none
def oDiv : OP2 := fun _ x _ y => match x, y with | .int i, .int j => if CDivW i j then vI (i / j) else none | _, _ => none
def oMod : OP2 := fun _ x _ y => match x, y with | .int i, .int j => if 0 < j then vI (i % j) else if j ≠ 0 then vI (i.fmod j) else none | _, _ => none
def oPow : OP2 := fun _ x _ y => match x, y with | .int i, .int j => if CPow i j then vI (i ^ j.toNat) else none | _, _ => none
def oNeg : OP := fun _ x => match x with | .int i => vI (-i) | _ => none
/-! comparisons -/
def oLt : OP2 := fun _ x _ y => match x, y with | .int i, .int j => vB (decide (i < j)) | _, _ => none
def oLe : OP2 := fun _ x _ y => match x, y with | .int i, .int j => vB (decide (i ≤ j)) | _, _ => none
def oGt : OP2 := fun _ x _ y => match x, y with | .int i, .int j => vB (decide (j < i)) | _, _ => none
def oGe : OP2 := fun _ x _ y => match x, y with | .int i, .int j => vB (decide (j ≤ i)) | _, _ => none
def oEq : OP2 := fun _ x _ y => match x, y with
  | .int i, .int j => vB (decide (i = j))
  | x, y => if x.eqOk = true ∧ y.eqOk = true then vB (x.eqv y) else none
def oNe : OP2 := fun _ x _ y => match x, y with
  | .int i, .int j => vB (decide (i ≠ j))
  | x, y => if x.eqOk = true ∧ y.eqOk = true then vB (!x.eqv y) else none
def oIsN : OP := fun _ x => vB x.isNon
def oNotN : OP := fun _ x => vB (!x.isNon)
def oIsB (k : Bool) : OP := fun _ x => vB (x.isBl k)
/-- a chain a op b op' c of ints -/
def xChain (op op' : OP2) : XE := fun ρ => bE (f ρ) fun r x => bE (g ρ) fun r2 y => match x, y with
  | .int i, .int j => match op r x r2 y with
    | some (.v _ (.bl true)) => bE (h ρ) fun r3 z => match z with | .int _ => op' r2 y r3 z | _ => none
    | some (.v _ (.bl false)) => vB false
    | _ => none
  | _, _ => none
/-! booleans -/
/-- what follows a truth -/
def bB (o : Option EV) (k : Bool → Option EV) : Option EV := bE o fun _ d => match d with | .bl b => k b | _ => none
def xOne : XE := fun ρ => bB (f ρ) vB
def xNot : XE := fun ρ => bB (f ρ) fun k => vB (!k)
def xAnd : XE := fun ρ => bB (f ρ) fun k => if k = true then bB (g ρ) vB else vB false
def xOr : XE := fun ρ => bB (f ρ) fun k => if k = true then vB true else bB (g ρ) vB
def xIte : XE := fun ρ => bB (f ρ) fun k => if k = true then bE (g ρ) fun r d => some (.v r d) else bE (h ρ) fun r d => some (.v r d)
/-! displays and calls -/
inductive AV where | ok (l : List (Rg × D)) | x (e : Exc)
def xArgs : List XE → List B → Option AV
  | [], _ => some (.ok [])
  | f :: fs, ρ => match f ρ with
    | none => none
    | some (.x x) => some (.x x)
    | some (.v r d) => (match xArgs fs ρ with | some (.ok l) => some (.ok ((r, d) :: l)) | o => o)
    | some (.n r c) => (match xArgs fs ρ with | some (.ok l) => some (.ok ((r, c.toD) :: l)) | o => o)
def bA (o : Option AV) (k : List (Rg × D) → Option EV) : Option EV := match o with
  | none => none | some (.x x) => some (.x x) | some (.ok l) => k l
def xTup (fs : List XE) : XE := fun ρ => bA (xArgs fs ρ) fun l => if (mxA l).st = true then some (.v (mxA l) (.tup (l.map (·.2)))) else none
def xLst (fs : List XE) : XE := fun ρ => bA (xArgs fs ρ) fun l => if (mxA l).st = true then some (.n (mxA l) (.lst (l.map (·.2)))) else none
/-- what a call gives to its caller -/
def afterC (l : List (Rg × D)) : Res → Option EV
  | .ok r d => if r.st = true ∧ (nm r d = .nw ∨ stA l = true) then some (.v (nm r d) d) else none
  | .new r c => if r.st = true ∧ (r = .nw ∨ stA l = true) then some (.n r c) else none
  | .exc x => some (.x x)
def xCall (G : List D → Option Res) (fs : List XE) : XE := fun ρ => bA (xArgs fs ρ) fun l => (G (l.map (·.2))).bind (afterC l)
/-! items, slices, built-in functions -/
def oIx : OP2 := fun r x _ y => match y with
  | .int i => (match x with
    | .lst ds => (atI ds i).bind fun d => some (.v (nm r.el d) d)
    | .tup ds => (atI ds i).bind fun d => some (.v (nm r.el d) d)
    | .str z => if z.length ≤ sizeLine then (atI z.cps.toList i).bind fun c => some (.v .nw (.str ⟨#[c]⟩)) else none
    | .scr ns => (atI ns i).bind vI
    | _ => none)
  | _ => none
def xOpt : Option XE → List B → Option (Option Int ⊕ Exc)
  | none, _ => some (.inl none)
  | some f, ρ => match f ρ with
    | some (.v _ (.int i)) => some (.inl (some i))
    | some (.x x) => some (.inr x)
    | _ => none
def xSl (lo hi : Option XE) : XE := fun ρ => bE (f ρ) fun r x => match xOpt lo ρ with
  | none => none
  | some (.inr x) => some (.x x)
  | some (.inl l) => (match xOpt hi ρ with
    | none => none
    | some (.inr x) => some (.x x)
    | some (.inl u) => match x with | .lst ds => some (.n (nmC r.el (.lst (cutG ds l u))) (.lst (cutG ds l u))) | _ => none)
def oRev : OP := fun r x => match x with | .lst ds => some (.n (nmC r.el (.lst ds.reverse)) (.lst ds.reverse)) | _ => none
/-- the built-in type of a value -/
def D.ty : D → Option String
  | .non => some "NoneType" | .bl _ => some "bool" | .int _ => some "int" | .str _ => some "str" | .lst _ => some "list" | .tup _ => some "tuple" | _ => none
def oIsi (T : String) : OP := fun _ x => (x.ty).bind fun t => (kitB t T).bind vB
def oAbs : OP := fun _ x => match x with | .int i => vI (i.natAbs : Int) | _ => none
def oInt : OP := fun _ x => match x with | .int i => vI i | .bl k => vI (if k then 1 else 0) | _ => none
def oLen : OP := fun _ x => match x with
  | .lst ds => vI ds.length | .tup ds => vI ds.length | .str z => if z.length ≤ sizeLine then vI z.length else none | .scr ns => vI ns.length | _ => none
def D.ints? : List D → Option (List Int)
  | [] => some [] | .int i :: ds => (D.ints? ds).map (i :: ·) | _ :: _ => none
theorem D.ints?_map (ns : List Int) : D.ints? (ns.map .int) = some ns := by
  induction ns with | nil => rfl | cons n ns ih => simp [D.ints?, ih]
theorem D.ints?_some : ∀ {ds : List D} {ns : List Int}, D.ints? ds = some ns → ds = ns.map .int
  | [], ns, h => by cases h; rfl
  | .int i :: ds, ns, h => by
    simp only [D.ints?, Option.map_eq_some_iff] at h
    obtain ⟨m, h1, rfl⟩ := h
    rw [D.ints?_some h1]; rfl
  | .non :: _, _, h | .bl _ :: _, _, h | .str _ :: _, _, h | .lst _ :: _, _, h | .tup _ :: _, _, h | .obj _ _ _ :: _, _, h | .dct _ _ :: _, _, h | .scr _ :: _, _, h => by cases h
def oSum : OP := fun _ x => match x with | .lst ds => (D.ints? ds).bind fun ns => vI ns.sum | _ => none
def maxI : List Int → Int | [] => 0 | [n] => n | n :: ns => max n (maxI ns)
def minI : List Int → Int | [] => 0 | [n] => n | n :: ns => min n (minI ns)
theorem maxI_spec : ∀ {ns : List Int} {m : Int}, m ∈ ns → (∀ y, y ∈ ns → y ≤ m) → m = maxI ns
  | [], _, h, _ => absurd h (List.not_mem_nil)
  | [n], m, h, _ => by simpa [maxI] using h
  | n :: k :: ns, m, h, hm => by
    show m = max n (maxI (k :: ns))
    have hn := hm n List.mem_cons_self
    rcases List.mem_cons.mp h with e | e
    · subst e
      have : maxI (k :: ns) ≤ m := by
        have q : ∀ (l : List Int), l ≠ [] → maxI l ∈ l := by
          intro l
          induction l with
          | nil => intro z; exact absurd rfl z
          | cons a l ih =>
            intro _
            cases l with
            | nil => simp [maxI]
            | cons b l =>
              show max a (maxI (b :: l)) ∈ _
              rcases Int.le_total a (maxI (b :: l)) with z | z
              · rw [Int.max_eq_right z]; exact List.mem_cons_of_mem _ (ih (by simp))
              · rw [Int.max_eq_left z]; exact List.mem_cons_self
        exact hm _ (List.mem_cons_of_mem _ (q _ (by simp)))
      omega
    · have := maxI_spec e fun y hy => hm y (List.mem_cons_of_mem _ hy)
      omega
theorem minI_spec : ∀ {ns : List Int} {m : Int}, m ∈ ns → (∀ y, y ∈ ns → m ≤ y) → m = minI ns
  | [], _, h, _ => absurd h (List.not_mem_nil)
  | [n], m, h, _ => by simpa [minI] using h
  | n :: k :: ns, m, h, hm => by
    show m = min n (minI (k :: ns))
    have hn := hm n List.mem_cons_self
    rcases List.mem_cons.mp h with e | e
    · subst e
      have : m ≤ minI (k :: ns) := by
        have q : ∀ (l : List Int), l ≠ [] → minI l ∈ l := by
          intro l
          induction l with
          | nil => intro z; exact absurd rfl z
          | cons a l ih =>
            intro _
            cases l with
            | nil => simp [minI]
            | cons b l =>
              show min a (minI (b :: l)) ∈ _
              rcases Int.le_total a (minI (b :: l)) with z | z
              · rw [Int.min_eq_left z]; exact List.mem_cons_self
              · rw [Int.min_eq_right z]; exact List.mem_cons_of_mem _ (ih (by simp))
        exact hm _ (List.mem_cons_of_mem _ (q _ (by simp)))
      omega
    · have := minI_spec e fun y hy => hm y (List.mem_cons_of_mem _ hy)
      omega
def oMax : OP := fun _ x => match x with | .lst ds => (D.ints? ds).bind fun ns => if 0 < ns.length then vI (maxI ns) else none | _ => none
def oMin : OP := fun _ x => match x with | .lst ds => (D.ints? ds).bind fun ns => if 0 < ns.length then vI (minI ns) else none | _ => none
def oMax2 : OP2 := fun _ x _ y => match x, y with | .int i, .int j => vI (max i j) | _, _ => none
def oMin2 : OP2 := fun _ x _ y => match x, y with | .int i, .int j => vI (min i j) | _, _ => none
def oSorted : OP := fun _ x => match x with | .lst ds => (D.ints? ds).bind fun ns => some (.n .nw (.lst ((sortI ns).map .int))) | .tup ds => (D.ints? ds).bind fun ns => some (.n .nw (.lst ((sortI ns).map .int))) | _ => none
def oList : OP := fun r x => match x with | .lst ds => some (.n (nmC r.el (.lst ds)) (.lst ds)) | .tup ds => some (.n (nmC r.el (.lst ds)) (.lst ds)) | _ => none
def oTuple : OP := fun r x => match x with | .lst ds => some (.v r.el (.tup ds)) | _ => none
end
/-! ### statements -/
def sNil : XS := fun ρ => some (.nx ρ)
/-- one behind another -/
def bS (o : Option Out) (k : XS) : Option Out := match o with | some (.nx ρ) => k ρ | o => o
def sCons (s t : XS) : XS := fun ρ => bS (s ρ) t
/-- what follows a value in a statement -/
def bV (ρ : List B) (o : Option EV) (k : EV → Option Out) : Option Out := match o with
  | none => none | some (.x x) => some (.ex x ρ) | some o => k o
def sPass : XS := sNil
def sSet (i : Nat) (f : XE) : XS := fun ρ => bV ρ (f ρ) fun
  | .v r d => if r.st = true ∨ d.sc = true then some (.nx (ρ.set i (.v (nm r d) d))) else none
  | .n r c => some (.nx (ρ.set i (.own r c)))
  | .x _ => none
mutual
def bnd : Tg → Rg → D → List B → Option (List B)
  | .nm i, r, d, ρ => if r.st = true ∨ d.sc = true then some (ρ.set i (.v (nm r d) d)) else none
  | .tp l, r, d, ρ => match d with | .tup ds => if ds.length = l.length then bnds l r ds ρ else none | _ => none
def bnds : List Tg → Rg → List D → List B → Option (List B)
  | [], _, [], ρ => some ρ
  | t :: l, r, d :: ds, ρ => (bnd t r d ρ).bind (bnds l r ds)
  | _, _, _, _ => none
end
def sSetT (t : Tg) (f : XE) : XS := fun ρ => bV ρ (f ρ) fun
  | .v r d => (bnd t r d ρ).map .nx
  | _ => none
def sAug (op : OP2) (i : Nat) (f : XE) : XS := fun ρ => match ρ[i]? with
  | some (.v r (.int n)) => bV ρ (f ρ) fun
    | .v r2 d => (match op r (.int n) r2 d with | some (.v _ (.int m)) => some (.nx (ρ.set i (.v .nw (.int m)))) | _ => none)
    | _ => none
  | _ => none
def sApp (i : Nat) (f : XE) : XS := fun ρ => match ρ[i]? with
  | some (.own r (.lst ds)) => bV ρ (f ρ) fun
    | .v r2 d => if (nm r2 d).st = true ∧ ds.length < sizeLine then some (.nx (ρ.set i (.own (r.mx (nm r2 d)) (.lst (ds ++ [d]))))) else none
    | .n r2 c => if r2.st = true ∧ ds.length < sizeLine then some (.nx (ρ.set i (.own (r.mx (nm r2 c.toD)) (.lst (ds ++ [c.toD]))))) else none
    | _ => none
  | _ => none
/-- what follows a truth in a statement -/
def bT (ρ : List B) (o : Option EV) (k : Bool → Option Out) : Option Out := bV ρ o fun | .v _ (.bl b) => k b | _ => none
def sIf (c : XE) (a b : XS) : XS := fun ρ => bT ρ (c ρ) fun k => if k = true then a ρ else b ρ
def sBrk : XS := fun ρ => some (.bk ρ)
def sCt : XS := fun ρ => some (.ct ρ)
def sRet (f : XE) : XS := fun ρ => bV ρ (f ρ) fun
  | .v r d => if r.st = true ∨ d.sc = true then some (.rt r d) else none
  | .n r c => some (.rn r c)
  | .x _ => none
def sRet0 : XS := fun _ => some (.rt .nw .non)
/-- return x of a slot -/
def sRetV (i : Nat) : XS := fun ρ => match ρ[i]? with
  | some (.v r d) => if r.st = true ∨ d.sc = true then some (.rt r d) else none
  | some (.own r c) => some (.rn r c)
  | _ => none
def sExpr (f : XE) : XS := fun ρ => bV ρ (f ρ) fun _ => some (.nx ρ)
/-- an own object is no longer changed -/
def sFrz (i : Nat) : XS := fun ρ => match ρ[i]? with | some (.own r c) => some (.nx (ρ.set i (.v r c.toD))) | some (.v r d) => some (.nx ρ) | _ => none
/-! loops -/
def forE (body : XS) (t : Tg) (r : Rg) : List D → List B → Option Out
  | [], ρ => some (.nx ρ)
  | d :: ds, ρ => (bnd t r d ρ).bind fun ρ2 => match body ρ2 with
    | some (.nx ρ3) => forE body t r ds ρ3
    | some (.ct ρ3) => forE body t r ds ρ3
    | some (.bk ρ3) => some (.nx ρ3)
    | o => o
/-- what a loop walks over -/
inductive IV where | ok (r : Rg) (ds : List D) | x (e : Exc)
abbrev XI := List B → Option IV
def sFor (t : Tg) (it : XI) (body : XS) : XS := fun ρ => match it ρ with
  | none => none | some (.x x) => some (.ex x ρ) | some (.ok r ds) => forE body t r ds ρ
def iSeq (f : XE) : XI := fun ρ => match f ρ with
  | some (.v r (.lst ds)) => if r.st = true then some (.ok r ds) else none
  | some (.v r (.tup ds)) => some (.ok r ds)
  | some (.n r (.lst ds)) => some (.ok r ds)
  | some (.x x) => some (.x x)
  | _ => none
def iRange1 (f : XE) : XI := fun ρ => match f ρ with
  | some (.v _ (.int j)) => if -(2 ^ 62) ≤ j ∧ j < 2 ^ 62 then some (.ok .nw ((rangeI 0 j.toNat).map D.int)) else none
  | some (.x x) => some (.x x)
  | _ => none
def iRange2 (f g : XE) : XI := fun ρ => match f ρ with
  | some (.v _ (.int i)) => (match g ρ with
    | some (.v _ (.int j)) => if -(2 ^ 62) ≤ i ∧ i < 2 ^ 62 ∧ -(2 ^ 62) ≤ j ∧ j < 2 ^ 62 then some (.ok .nw ((rangeI i (j - i).toNat).map D.int)) else none
    | some (.x x) => some (.x x)
    | _ => none)
  | some (.x x) => some (.x x)
  | _ => none
def whE (c : XE) (body : XS) : Nat → List B → Option Out
  | 0, _ => none
  | n + 1, ρ => bT ρ (c ρ) fun k => if k = true then (match body ρ with
      | some (.nx ρ3) => whE c body n ρ3
      | some (.ct ρ3) => whE c body n ρ3
      | some (.bk ρ3) => some (.nx ρ3)
      | o => o) else some (.nx ρ)
open Classical in
noncomputable def sWhile (c : XE) (body : XS) : XS := fun ρ => if h : ∃ n o, whE c body n ρ = some o then some h.choose_spec.choose else none
theorem whE_up {c : XE} {body : XS} : ∀ {n m : Nat} {ρ : List B} {o : Out}, whE c body n ρ = some o → n ≤ m → whE c body m ρ = some o
  | 0, _, _, _, h, _ => by cases h
  | n + 1, 0, _, _, _, l => by omega
  | n + 1, m + 1, ρ, o, h, l => by
    simp only [whE, bT, bV] at h ⊢
    revert h
    cases c ρ with
    | none => exact id
    | some q =>
      cases q with
      | x x => exact id
      | n r c => exact id
      | v r d =>
        cases d with
        | bl k =>
          cases k with
          | false => exact id
          | true =>
            simp only [if_true]
            cases body ρ with
            | none => exact id
            | some o2 =>
              cases o2 with
              | nx ρ3 => intro h; exact whE_up h (by omega)
              | ct ρ3 => intro h; exact whE_up h (by omega)
              | _ => exact id
        | _ => exact id
theorem sWhile_of {c : XE} {body : XS} {n : Nat} {ρ : List B} {o : Out} (h : whE c body n ρ = some o) : sWhile c body ρ = some o := by
  have hx : ∃ n o, whE c body n ρ = some o := ⟨n, o, h⟩
  unfold sWhile
  rw [dif_pos hx]
  have e := hx.choose_spec.choose_spec
  have e1 := whE_up e (Nat.le_max_left _ n)
  have e2 := whE_up h (Nat.le_max_right hx.choose n)
  rw [e1] at e2
  exact e2
theorem sWhile_some {c : XE} {body : XS} {ρ : List B} {o : Out} (h : sWhile c body ρ = some o) : ∃ n, whE c body n ρ = some o := by
  unfold sWhile at h
  split at h
  · rename_i hx
    cases h
    exact ⟨_, hx.choose_spec.choose_spec⟩
  · cases h
/-! comprehensions -/
def lcE (cond : Option XE) (elt : XE) (t : Tg) (r : Rg) (ρ : List B) : List D → Option (Rg × List D)
  | [] => some (.nw, [])
  | d :: ds => (bnd t r d ρ).bind fun ρ2 => match (match cond with | none => some true | some c => (match c ρ2 with | some (.v _ (.bl k)) => some k | _ => none)) with
    | none => none
    | some false => lcE cond elt t r ρ ds
    | some true => (match elt ρ2 with
      | some (.v r2 d2) => if (nm r2 d2).st = true then (lcE cond elt t r ρ ds).map fun p => ((nm r2 d2).mx p.1, d2 :: p.2) else none
      | some (.n r2 c2) => if r2.st = true then (lcE cond elt t r ρ ds).map fun p => ((nm r2 c2.toD).mx p.1, c2.toD :: p.2) else none
      | _ => none)
def noS (ρ : List B) (i : Nat) : Bool := match ρ[i]? with | none => true | some .no => true | _ => false
def xLc (own : List Nat) (t : Tg) (it : XI) (cond : Option XE) (elt : XE) : XE := fun ρ => if own.all (noS ρ) = true then (match it ρ with
  | none => none | some (.x x) => some (.x x)
  | some (.ok r ds) => if ds.length ≤ sizeLine then (lcE cond elt t r ρ ds).map fun p => .n p.1 (.lst p.2) else none) else none
/-! ### a def -/
def endD : Out → Option Res
  | .nx _ => some (.ok .nw .non)
  | .rt r d => if nm r d = .nw then some (.ok .nw d) else if r.st = true then some (.ok .od d) else none
  | .rn r c => if r = .nw then some (.new .nw c) else if r.st = true then some (.new .od c) else none
  | .ex x _ => some (.exc x)
  | _ => none
def runD (np nn : Nat) (body : XS) (ds : List D) : Option Res := if ds.length = np then (body (startB ds nn)).bind endD else none
/-! ### exceptions -/
def sRaise (c f : Str) (e : XE) : XS := fun ρ => bV ρ (e ρ) fun
  | .v _ d => if d.sc = true then some (.ex ⟨c, [f], [d]⟩ ρ) else none
  | _ => none
def sRaise0 (c : Str) : XS := fun ρ => some (.ex ⟨c, [], []⟩ ρ)
/-- a clause: does it take the class; what it does -/
structure XH where
  tk : Str → Option Bool
  oi : Option Nat
  run : Exc → XS
/-- the clause's name goes -/
def clrO (oi : Option Nat) (ρ : List B) : List B := match oi with | none => ρ | some i => ρ.set i .no
def clr (oi : Option Nat) : Out → Option Out
  | .nx ρ => some (.nx (clrO oi ρ)) | .bk ρ => some (.bk (clrO oi ρ)) | .ct ρ => some (.ct (clrO oi ρ)) | .ex _ _ => none | o => some o
def hdE : List XH → Exc → List B → Option Out
  | [], x, ρ => some (.ex x ρ)
  | h :: hs, x, ρ => match h.tk x.c with
    | none => none
    | some false => hdE hs x ρ
    | some true => (h.run x ρ).bind (clr h.oi)
/-- x = (.., e.f, ..) in a clause: the fields of the class c -/
inductive XF where | c (d : D) | f (n : Str)
def XF.get (x : Exc) : XF → Option D
  | .c d => some d
  | .f n => ((x.ns.zip x.ds).lookup n).bind fun d => if d.sc = true then some d else none
def hTup (c : Str) (i j : Nat) (l : List XF) : Exc → XS := fun x ρ => if x.c = c ∧ x.ns.Nodup ∧ i < ρ.length then (l.mapM (XF.get x)).bind fun ds => some (.nx (ρ.set j (.v .nw (.tup ds)))) else none
def sTry (body : XS) (hs : List XH) : XS := fun ρ => match body ρ with
  | some (.ex x ρ2) => hdE hs x ρ2
  | o => o
end VL

set_option Elab.async false
set_option linter.all false
set_option maxHeartbeats 1000000
/-! These functions tell the truth: expressions. -/
namespace VL
open PySem PySem.Spec PyProof.Rows L2
theorem Reps.sc_all {K : PySem.W.Frag} {mg : Mg} {G G' : Hp} : ∀ {ds : List D} {vs : List V}, Reps K mg G ds vs → ds.all D.sc = true → Reps K mg G' ds vs
  | [], _, h, _ => by simpa only [Reps] using h
  | d :: ds, _, h, s => by
    simp only [Reps] at h ⊢
    obtain ⟨v, r, e, h1, h2⟩ := h
    rw [List.all_cons, Bool.and_eq_true] at s
    exact ⟨v, r, e, Rep.sc_any h1 s.1, Reps.sc_all h2 s.2⟩
theorem EnvOk.normO {K : PySem.W.Frag} {mg : Mg} {Hs Hi H : Hp} {ρ : List B} {σ : L2.St} {τ : List T} {a : Addr} {r : Rg} {c : Ct} (h : EnvOk K mg Hs Hi ρ σ (.own a r c :: τ) H) : EnvOk K mg Hs Hi ρ σ (.own a (nmC r c) c :: τ) H := by
  obtain ⟨G0, G1, ow, w⟩ := h
  obtain ⟨hr, _, _, o, ho, hc⟩ := w.tt _ List.mem_cons_self
  have hu : upd H a o = H := by
    funext b
    by_cases e : b = a
    · subst e; rw [upd_same, ho]
    · rw [upd_ne e]
  have hs : (nmC r c).st = true := by unfold nmC; split <;> first | (split <;> first | rfl | exact hr) | exact hr
  have hc2 : RepC K mg (Gr G0 G1 (nmC r c)) c o := by
    cases c with
    | lst ds =>
      unfold nmC
      simp only
      split
      · obtain ⟨vs, e, h⟩ := hc; exact ⟨vs, e, h.sc_all (by assumption)⟩
      · exact hc
    | dct _ _ => exact hc
    | ins _ _ _ => exact hc
  have := w.write (r' := nmC r c) (c' := c) (o' := o) hs hc2
  rw [hu] at this
  exact ⟨G0, G1, ow, this⟩
theorem VN.normC {Y : Cy} {ρ : List B} {e : Expr} {N : Rg → Ct → Prop} (h : VN Y ρ e fun r c => N (nmC r c) c) : VN Y ρ e N := fun τ σ H w => (h τ σ H w).mono fun v H' ⟨a, r, c, e, w', n⟩ => ⟨a, _, c, e, w'.normO, n⟩
structure Wd where
  P : Program
  w : World
  K : PySem.W.Frag
  mg : Mg
  base : Heap
abbrev Cy.wd (Y : Cy) : Wd := ⟨Y.X.prog, Y.X.w, Y.X.K, Y.X.mg, Y.X.base⟩
structure Cst where
  W : Wd
  N : List Str
  sc : Scope
  k : Option Nat
  d : Bool
def KOk (Y : Cy) : Option Nat → Prop | none => True | some k => CyOk Y k
structure Cst.On (C : Cst) (Y : Cy) : Prop where
  w : Y.wd = C.W
  n : Y.X.N = C.N
  s : Y.X.env.scope = C.sc
  k : KOk Y C.k
  fn : C.d = true → ∀ x, Y.X.fn x = true
  st : C.d = true → Y.X.stack = Y.X.env :: Y.X.outer ∧ Y.X.env.frame = some Y.X.env.locals
def blts : List Str := ["abs", "int", "len", "sum", "max", "min", "sorted", "list", "tuple", "range", "isinstance", "bool", "str", "zip", "enumerate", "reversed", "dict", "set", "any", "all", "iter", "super", "ValueError", "RuntimeError", "LookupError"]
class NB (W : Wd) : Prop where
  h : blts.all (fun x => (W.mg x).isNone) = true
theorem NB.of {W : Wd} [b : NB W] {x : Str} (h : x ∈ blts) : W.mg x = none := by
  have := List.all_eq_true.mp b.h x h
  simpa using this
def VX (Y : Cy) (ρ : List B) (e : Expr) : EV → Prop
  | .v r d => VE Y ρ e fun r' d' => r' = r ∧ d' = d
  | .n r c => VN Y ρ e fun r' c' => r' = r ∧ c' = c
  | .x x => Y.E x ρ → VE Y ρ e fun _ _ => False
def SE (Y : Cy) (e : Expr) (f : XE) : Prop := ∀ ρ o, f ρ = some o → VX Y ρ e o
def SndE (C : Cst) (e : Expr) (f : XE) : Prop := ∀ Y, C.On Y → SE Y e f
/-- as a test -/
def VTX (Y : Cy) (ρ : List B) (e : Expr) : EV → Prop
  | .v _ (.bl k) => VT Y ρ e fun b => b = k
  | .x x => Y.E x ρ → VT Y ρ e fun _ => False
  | _ => True
def ST (Y : Cy) (e : Expr) (f : XE) : Prop := ∀ ρ o, f ρ = some o → VTX Y ρ e o
def SndT (C : Cst) (e : Expr) (f : XE) : Prop := ∀ Y, C.On Y → ST Y e f
section
variable {Y : Cy} {ρ : List B} {a b c node : Expr} {f g h : XE} {C : Cst} {o : EV} {pos : Pos}
def OnV (Y : Cy) (ρ : List B) (Q : Rg → D → Prop) : EV → Prop | .v r d => Q r d | .n r c => Q r c.toD | .x x => Y.E x ρ
theorem VX.ve {Q : Rg → D → Prop} (h : VX Y ρ a o) (q : OnV Y ρ Q o) : VE Y ρ a Q := by
  cases o with
  | v r d => exact VE.mono h fun r' d' ⟨e1, e2⟩ => by rw [e1, e2]; exact q
  | n r c => exact VN.ve (VN.mono h fun r' d' ⟨e1, e2⟩ => by rw [e1, e2]; exact q)
  | x x => exact VE.mono (h q) fun _ _ z => z.elim
theorem VX.vn {N : Rg → Ct → Prop} {r : Rg} {c : Ct} (h : VX Y ρ a (.n r c)) (q : N r c) : VN Y ρ a N := VN.mono h fun r' d' ⟨e1, e2⟩ => by rw [e1, e2]; exact q
theorem VX.of {r : Rg} {d : D} (h : ∀ Q : Rg → D → Prop, Q r d → VE Y ρ a Q) : VX Y ρ a (.v r d) := h _ ⟨rfl, rfl⟩
theorem VX.ofN {r : Rg} {d : Ct} (h : ∀ Q : Rg → Ct → Prop, Q r d → VN Y ρ a Q) : VX Y ρ a (.n r d) := h _ ⟨rfl, rfl⟩
theorem bE_some {p : Option EV} {k : OP} (h : bE p k = some o) : (∃ x, p = some (.x x) ∧ o = .x x) ∨ ∃ q r d, p = some q ∧ (q = .v r d ∨ ∃ c, q = .n r c ∧ d = c.toD) ∧ k r d = some o := by
  unfold bE at h
  split at h
  · cases h
  · exact .inr ⟨_, _, _, rfl, .inl rfl, h⟩
  · exact .inr ⟨_, _, _, rfl, .inr ⟨_, rfl, rfl⟩, h⟩
  · cases h; exact .inl ⟨_, rfl, rfl⟩
/-- that a part has its value -/
abbrev Gets (Y : Cy) (ρ : List B) (a : Expr) (r : Rg) (x : D) : Prop := ∀ Q : Rg → D → Prop, Q r x → VE Y ρ a Q
theorem SE.gets (ha : SE Y a f) {q : EV} {r : Rg} {d : D} (e : f ρ = some q) (hq : q = .v r d ∨ ∃ c, q = .n r c ∧ d = c.toD) : Gets Y ρ a r d := fun Q hQ => by
  refine (ha ρ q e).ve ?_
  rcases hq with rfl | ⟨c, rfl, rfl⟩ <;> exact hQ
theorem se1 {op : OP} (ha : SndE C a f) (hx : ∀ Y, C.On Y → ∀ ρ, (VE Y ρ a fun _ _ => False) → VE Y ρ node fun _ _ => False)
    (hk : ∀ Y, C.On Y → ∀ ρ r x o, Gets Y ρ a r x → op r x = some o → VX Y ρ node o) : SndE C node (x1 f op) := fun Y u ρ o e => by
  rcases bE_some e with ⟨x, e1, rfl⟩ | ⟨q, r, d, e1, hq, e2⟩
  · exact fun hE => hx Y u ρ (VX.ve (ha Y u ρ _ e1) hE)
  · exact hk Y u ρ r d o ((ha Y u).gets e1 hq) e2
theorem se2 {op : OP2} (ha : SndE C a f) (hb : SndE C b g) (hx : ∀ Y, C.On Y → ∀ ρ, (VE Y ρ a fun _ _ => VE Y ρ b fun _ _ => False) → VE Y ρ node fun _ _ => False)
    (hk : ∀ Y, C.On Y → ∀ ρ r x r2 y o, Gets Y ρ a r x → Gets Y ρ b r2 y → op r x r2 y = some o → VX Y ρ node o) : SndE C node (x2 f g op) := fun Y u ρ o e => by
  rcases bE_some e with ⟨x, e1, rfl⟩ | ⟨q, r, d, e1, hq, e2⟩
  · exact fun hE => hx Y u ρ (VE.mono (VX.ve (Q := fun _ _ => False) (ha Y u ρ _ e1) hE) fun _ _ z => z.elim)
  · rcases bE_some e2 with ⟨x, e3, rfl⟩ | ⟨q2, r2, d2, e3, hq2, e4⟩
    · exact fun hE => hx Y u ρ (((ha Y u).gets e1 hq) _ (VX.ve (hb Y u ρ _ e3) hE))
    · exact hk Y u ρ r d r2 d2 o ((ha Y u).gets e1 hq) ((hb Y u).gets e3 hq2) e4
/-! names and constants -/
theorem e_var (i : Nat) {x : Str} {p : Pos} (hN : C.N[i]? = some x := by rfl) (hv : Vis C.sc x := by first | exact Or.inl rfl | exact Or.inr (Or.inl rfl) | exact Or.inr (Or.inr rfl))
    (hd : (x == ("__debug__" : Str)) = false := by decide) (hcd : (x == ("__classdict__" : Str)) = false := by decide) : SndE C (.Name x p) (xVar i) := fun Y u ρ o e => by
  rw [← u.n] at hN
  rw [← u.s] at hv
  unfold xVar at e
  split at e
  · cases e; exact VX.of fun Q q => ve_name i (by assumption) q hN hv hd hcd
  · cases e; exact VX.of fun Q q => ve_nameO i (by assumption) q hN hv hd hcd
  · cases e
theorem e_int {i : Int} {j} : SndE C (.Constant (.int i) j pos) (xInt i) := fun Y u ρ o e => by cases e; exact VX.of fun Q q => ve_int q
theorem e_bl {i : Bool} {j} : SndE C (.Constant (.bool i) j pos) (xBl i) := fun Y u ρ o e => by cases e; exact VX.of fun Q q => ve_bl q
theorem e_non {j} : SndE C (.Constant .none j pos) xNon := fun Y u ρ o e => by cases e; exact VX.of fun Q q => ve_non q
theorem e_str {i : Str} {j} : SndE C (.Constant (.str i) j pos) (xStr i) := fun Y u ρ o e => by cases e; exact VX.of fun Q q => ve_str q
abbrev GlS (sc : Scope) (x : Str) : Prop := sc.names.lookup x = some .globalImplicit
theorem Cst.On.gl (u : C.On Y) {x : Str} (h : GlS C.sc x) : Gl Y.X x := by rw [← u.s] at h; exact h
theorem Cst.On.mg (u : C.On Y) : Y.X.mg = C.W.mg := by rw [← u.w]
theorem Cst.On.K (u : C.On Y) : Y.X.K = C.W.K := by rw [← u.w]
theorem Cst.On.nb [NB C.W] (u : C.On Y) {x : Str} (h : x ∈ blts) : Y.X.mg x = none := by rw [u.mg]; exact NB.of h
theorem e_gint {x : Str} {i : Int} {t : Tok} (hm : C.W.mg x = some (.int i t)) (hg : GlS C.sc x := by rfl) (hd : (x == ("__debug__" : Str)) = false := by decide) : SndE C (.Name x pos) (xInt i) := fun Y u ρ o e => by
  cases e; exact VX.of fun Q q => ve_gint (by rw [u.mg]; exact hm) q (u.gl hg) hd
/-! operators -/
theorem i2x {C2 : Int → Int → Prop} {P : Int → Int → Prop} (h : VE Y ρ a fun _ _ => VE Y ρ b fun _ _ => False) : I2 Y ρ a b C2 P := VE.mono h fun _ _ h => VE.mono h fun _ _ z => z.elim
theorem i2v {C2 : Int → Int → Prop} {P : Int → Int → Prop} {r r2 : Rg} {i j : Int} (ga : Gets Y ρ a r (.int i)) (gb : Gets Y ρ b r2 (.int j)) (c : C2 i j) (p : P i j) : I2 Y ρ a b C2 P := ga _ (gb _ ⟨i, j, rfl, rfl, c, p⟩)
theorem e_add (ha : SndE C a f) (hb : SndE C b g) : SndE C (.BinOp a .Add b pos) (x2 f g oAdd) :=
  se2 ha hb (fun Y u ρ h => ve_add (i2x h)) fun Y u ρ r x r2 y o ga gb e => by
    unfold oAdd at e
    split at e
    · cases e; exact VX.of fun Q q => ve_add (i2v ga gb trivial q)
    · split at e
      · cases e
        rename_i hc
        exact VX.ofN fun Q q => VN.normC (vn_cat (ga _ (gb _ ⟨_, _, rfl, rfl, hc, q⟩)))
      · cases e
    · cases e
theorem e_sub (ha : SndE C a f) (hb : SndE C b g) : SndE C (.BinOp a .Sub b pos) (x2 f g oSub) :=
  se2 ha hb (fun Y u ρ h => ve_sub (i2x h)) fun Y u ρ r x r2 y o ga gb e => by
    unfold oSub at e
    split at e
    · cases e; exact VX.of fun Q q => ve_sub (i2v ga gb trivial q)
    · cases e
theorem e_mul (ha : SndE C a f) (hb : SndE C b g) : SndE C (.BinOp a .Mult b pos) (x2 f g oMul) :=
  se2 ha hb (fun Y u ρ h => ve_mul (i2x h)) fun Y u ρ r x r2 y o ga gb e => by
    unfold oMul at e
    split at e
    · split at e
      · cases e
        rename_i hc
        rcases hc with hc | hc
        · exact VX.of fun Q q => ve_mul (i2v ga gb hc q)
        · exact VX.of fun Q q => ve_mulW (i2v ga gb hc q)
      · cases e
    · split at e
      · cases e
        rename_i hc
        exact VX.ofN fun Q q => VN.normC (vn_rep (ga _ (gb _ ⟨_, _, rfl, rfl, hc.1, hc.2.1, hc.2.2, q⟩)))
      · cases e
    · cases e
theorem e_div (ha : SndE C a f) (hb : SndE C b g) : SndE C (.BinOp a .FloorDiv b pos) (x2 f g oDiv) :=
  se2 ha hb (fun Y u ρ h => ve_fdiv (i2x h)) fun Y u ρ r x r2 y o ga gb e => by
    unfold oDiv at e
    split at e
    · split at e
      · cases e
        rename_i hc
        exact VX.of fun Q q => ve_fdiv (i2v ga gb hc q)
      · cases e
    · cases e
theorem e_mod (ha : SndE C a f) (hb : SndE C b g) : SndE C (.BinOp a .Mod b pos) (x2 f g oMod) :=
  se2 ha hb (fun Y u ρ h => ve_mod (i2x h)) fun Y u ρ r x r2 y o ga gb e => by
    unfold oMod at e
    split at e
    · split at e
      · cases e
        rename_i hc
        exact VX.of fun Q q => ve_mod (i2v ga gb hc q)
      · split at e
        · cases e
          rename_i hc
          exact VX.of fun Q q => ve_modN (i2v ga gb hc q)
        · cases e
    · cases e
theorem e_pow (ha : SndE C a f) (hb : SndE C b g) : SndE C (.BinOp a .Pow b pos) (x2 f g oPow) :=
  se2 ha hb (fun Y u ρ h => ve_pow (i2x h)) fun Y u ρ r x r2 y o ga gb e => by
    unfold oPow at e
    split at e
    · split at e
      · cases e
        rename_i hc
        exact VX.of fun Q q => ve_pow (i2v ga gb hc q)
      · cases e
    · cases e
theorem e_neg (ha : SndE C a f) : SndE C (.UnaryOp .USub a pos) (x1 f oNeg) :=
  se1 ha (fun Y u ρ h => ve_neg (VE.mono h fun _ _ z => z.elim)) fun Y u ρ r x o ga e => by
    unfold oNeg at e
    split at e
    · cases e; exact VX.of fun Q q => ve_neg (ga _ ⟨_, rfl, q⟩)
    · cases e
/-! comparisons, as a value and as a test -/
theorem st1 {op : OP} (ha : SndE C a f) (hx : ∀ Y, C.On Y → ∀ ρ, (VE Y ρ a fun _ _ => False) → VT Y ρ node fun _ => False)
    (hk : ∀ Y, C.On Y → ∀ ρ r x k r', Gets Y ρ a r x → op r x = some (.v r' (.bl k)) → VT Y ρ node fun b => b = k) (hn : ∀ r x e, op r x ≠ some (.x e)) : SndT C node (x1 f op) := fun Y u ρ o e => by
  rcases bE_some e with ⟨x, e1, rfl⟩ | ⟨q, r, d, e1, hq, e2⟩
  · exact fun hE => hx Y u ρ (VX.ve (ha Y u ρ _ e1) hE)
  · unfold VTX
    split
    · exact hk Y u ρ r d _ _ ((ha Y u).gets e1 hq) e2
    · exact absurd e2 (hn _ _ _)
    · trivial
theorem st2 {op : OP2} (ha : SndE C a f) (hb : SndE C b g) (hx : ∀ Y, C.On Y → ∀ ρ, (VE Y ρ a fun _ _ => VE Y ρ b fun _ _ => False) → VT Y ρ node fun _ => False)
    (hk : ∀ Y, C.On Y → ∀ ρ r x r2 y k r', Gets Y ρ a r x → Gets Y ρ b r2 y → op r x r2 y = some (.v r' (.bl k)) → VT Y ρ node fun b => b = k) (hn : ∀ r x r2 y e, op r x r2 y ≠ some (.x e)) : SndT C node (x2 f g op) := fun Y u ρ o e => by
  rcases bE_some e with ⟨x, e1, rfl⟩ | ⟨q, r, d, e1, hq, e2⟩
  · exact fun hE => hx Y u ρ (VE.mono (VX.ve (Q := fun _ _ => False) (ha Y u ρ _ e1) hE) fun _ _ z => z.elim)
  · rcases bE_some e2 with ⟨x, e3, rfl⟩ | ⟨q2, r2, d2, e3, hq2, e4⟩
    · exact fun hE => hx Y u ρ (((ha Y u).gets e1 hq) _ (VX.ve (hb Y u ρ _ e3) hE))
    · unfold VTX
      split
      · exact hk Y u ρ r d r2 d2 _ _ ((ha Y u).gets e1 hq) ((hb Y u).gets e3 hq2) e4
      · exact absurd e4 (hn _ _ _ _ _)
      · trivial
/-- an operator of comparison: its function and its rule -/
structure CmpS (C : Cst) (op : CmpOp) (F : OP2) : Prop where
  hn : ∀ r x r2 y o, F r x r2 y = some o → ∃ k, o = .v .nw (.bl k)
  ok : ∀ Y, C.On Y → ∀ ρ a b r x r2 y k, Gets Y ρ a r x → Gets Y ρ b r2 y → F r x r2 y = some (.v .nw (.bl k)) → VC Y ρ op a b fun z => z = k
theorem vc_x {op : CmpOp} {P : Bool → Prop} (h : VE Y ρ a fun _ _ => VE Y ρ b fun _ _ => False) : VC Y ρ op a b P := VE.mono h fun _ _ h => VE.mono h fun _ _ z => z.elim
theorem e_cmp {op : CmpOp} {F : OP2} (s : CmpS C op F) (ha : SndE C a f) (hb : SndE C b g) (hm : behindInMarks op b = false := by first | exact nomark _ | with_unfolding_all rfl) : SndE C (.Compare a [op] [b] pos) (x2 f g F) :=
  se2 ha hb (fun Y u ρ h => ve_c (vc_x h) hm) fun Y u ρ r x r2 y o ga gb e => by
    obtain ⟨k, rfl⟩ := s.hn _ _ _ _ _ e
    exact VX.of fun Q q => ve_c (VE.mono (s.ok Y u ρ a b r x r2 y k ga gb e) fun _ _ h => VE.mono h fun _ _ h τ σ H p v w => (h τ σ H p v w).mono fun z H' ⟨k', e1, w', e2⟩ => ⟨k', e1, w', by subst e2; exact q⟩) hm
theorem t_cmp {op : CmpOp} {F : OP2} (s : CmpS C op F) (ha : SndE C a f) (hb : SndE C b g) (hm : behindInMarks op b = false := by first | exact nomark _ | with_unfolding_all rfl) : SndT C (.Compare a [op] [b] pos) (x2 f g F) :=
  st2 ha hb (fun Y u ρ h => vt_c (vc_x h) hm) (fun Y u ρ r x r2 y k r' ga gb e => by
    obtain ⟨k', e'⟩ := s.hn _ _ _ _ _ e
    cases e'
    exact vt_c (s.ok Y u ρ a b r x r2 y k ga gb e) hm) fun r x r2 y e z => by
    obtain ⟨k', e'⟩ := s.hn _ _ _ _ _ z
    cases e'
theorem oInts {F : OP2} {G : Int → Int → Bool} (hF : ∀ r x r2 y, F r x r2 y = match x, y with | .int i, .int j => vB (G i j) | _, _ => none) {r r2 : Rg} {x y : D} {o : EV} (h : F r x r2 y = some o) : ∃ i j, x = .int i ∧ y = .int j ∧ o = .v .nw (.bl (G i j)) := by
  rw [hF] at h
  split at h
  · cases h; exact ⟨_, _, rfl, rfl, rfl⟩
  · cases h
theorem c_lt : CmpS C .Lt oLt := ⟨fun r x r2 y o e => by obtain ⟨i, j, _, _, e⟩ := oInts (F := oLt) (G := fun i j => decide (i < j)) (fun _ _ _ _ => rfl) e; exact ⟨_, e⟩, fun Y u ρ a b r x r2 y k ga gb e => by
  obtain ⟨i, j, rfl, rfl, e⟩ := oInts (F := oLt) (G := fun i j => decide (i < j)) (fun _ _ _ _ => rfl) e
  cases e; exact vc_lt (i2v ga gb trivial rfl)⟩
theorem c_le : CmpS C .LtE oLe := ⟨fun r x r2 y o e => by obtain ⟨i, j, _, _, e⟩ := oInts (F := oLe) (G := fun i j => decide (i ≤ j)) (fun _ _ _ _ => rfl) e; exact ⟨_, e⟩, fun Y u ρ a b r x r2 y k ga gb e => by
  obtain ⟨i, j, rfl, rfl, e⟩ := oInts (F := oLe) (G := fun i j => decide (i ≤ j)) (fun _ _ _ _ => rfl) e
  cases e; exact vc_le (i2v ga gb trivial rfl)⟩
theorem c_gt : CmpS C .Gt oGt := ⟨fun r x r2 y o e => by obtain ⟨i, j, _, _, e⟩ := oInts (F := oGt) (G := fun i j => decide (j < i)) (fun _ _ _ _ => rfl) e; exact ⟨_, e⟩, fun Y u ρ a b r x r2 y k ga gb e => by
  obtain ⟨i, j, rfl, rfl, e⟩ := oInts (F := oGt) (G := fun i j => decide (j < i)) (fun _ _ _ _ => rfl) e
  cases e; exact vc_gt (i2v ga gb trivial rfl)⟩
theorem c_ge : CmpS C .GtE oGe := ⟨fun r x r2 y o e => by obtain ⟨i, j, _, _, e⟩ := oInts (F := oGe) (G := fun i j => decide (j ≤ i)) (fun _ _ _ _ => rfl) e; exact ⟨_, e⟩, fun Y u ρ a b r x r2 y k ga gb e => by
  obtain ⟨i, j, rfl, rfl, e⟩ := oInts (F := oGe) (G := fun i j => decide (j ≤ i)) (fun _ _ _ _ => rfl) e
  cases e; exact vc_ge (i2v ga gb trivial rfl)⟩
theorem Cst.On.ck {k : Nat} (u : C.On Y) (hk : C.k = some k) : CyOk Y k := by have := u.k; rw [hk] at this; exact this
theorem c_eq {k : Nat} (hk : C.k = some k := by rfl) : CmpS C .Eq oEq := ⟨fun r x r2 y o e => by
    unfold oEq at e
    split at e
    · cases e; exact ⟨_, rfl⟩
    · split at e <;> cases e; exact ⟨_, rfl⟩, fun Y u ρ a b r x r2 y k ga gb e => by
  unfold oEq at e
  split at e
  · cases e; exact vc_eqI (i2v ga gb trivial rfl)
  · split at e
    · cases e
      rename_i h
      exact vc_eq (u.ck hk).hu (ga _ (gb _ ⟨h.1, h.2, rfl⟩))
    · cases e⟩
theorem c_ne {k : Nat} (hk : C.k = some k := by rfl) : CmpS C .NotEq oNe := ⟨fun r x r2 y o e => by
    unfold oNe at e
    split at e
    · cases e; exact ⟨_, rfl⟩
    · split at e <;> cases e; exact ⟨_, rfl⟩, fun Y u ρ a b r x r2 y k ga gb e => by
  unfold oNe at e
  split at e
  · cases e; exact vc_neI (i2v ga gb trivial rfl)
  · split at e
    · cases e
      rename_i h
      exact vc_ne (u.ck hk).hu (ga _ (gb _ ⟨h.1, h.2, rfl⟩))
    · cases e⟩
theorem vB_some {k : Bool} {o : EV} (h : vB k = some o) : o = .v .nw (.bl k) := (Option.some.inj h).symm
theorem e_c1 {op : CmpOp} {F : OP} {G : D → Bool} (hF : ∀ r x, F r x = vB (G x)) (rule : ∀ Y ρ (P : Bool → Prop), (VE Y ρ a fun _ x => P (G x)) → VC Y ρ op a b P) (ha : SndE C a f) (hm : behindInMarks op b = false) : SndE C (.Compare a [op] [b] pos) (x1 f F) :=
  se1 ha (fun Y u ρ h => ve_c (rule Y ρ _ (VE.mono h fun _ _ z => z.elim)) hm) fun Y u ρ r x o ga e => by
    rw [hF] at e
    cases vB_some e
    exact VX.of fun Q q => ve_c (rule Y ρ _ (ga _ q)) hm
theorem t_c1 {op : CmpOp} {F : OP} {G : D → Bool} (hF : ∀ r x, F r x = vB (G x)) (rule : ∀ Y ρ (P : Bool → Prop), (VE Y ρ a fun _ x => P (G x)) → VC Y ρ op a b P) (ha : SndE C a f) (hm : behindInMarks op b = false) : SndT C (.Compare a [op] [b] pos) (x1 f F) :=
  st1 ha (fun Y u ρ h => vt_c (rule Y ρ _ (VE.mono h fun _ _ z => z.elim)) hm) (fun Y u ρ r x k r' ga e => by
    rw [hF] at e
    cases vB_some e
    exact vt_c (rule Y ρ _ (ga _ rfl)) hm) fun r x e z => by rw [hF] at z; cases z
theorem e_isN {j p} (ha : SndE C a f) : SndE C (.Compare a [.Is] [.Constant .none j p] pos) (x1 f oIsN) := e_c1 (G := D.isNon) (fun _ _ => rfl) (fun Y ρ P h => vc_isN h) ha (nomark _)
theorem t_isN {j p} (ha : SndE C a f) : SndT C (.Compare a [.Is] [.Constant .none j p] pos) (x1 f oIsN) := t_c1 (G := D.isNon) (fun _ _ => rfl) (fun Y ρ P h => vc_isN h) ha (nomark _)
theorem e_notN {j p} (ha : SndE C a f) : SndE C (.Compare a [.IsNot] [.Constant .none j p] pos) (x1 f oNotN) := e_c1 (G := fun x => !x.isNon) (fun _ _ => rfl) (fun Y ρ P h => vc_notN h) ha (nomark _)
theorem t_notN {j p} (ha : SndE C a f) : SndT C (.Compare a [.IsNot] [.Constant .none j p] pos) (x1 f oNotN) := t_c1 (G := fun x => !x.isNon) (fun _ _ => rfl) (fun Y ρ P h => vc_notN h) ha (nomark _)
theorem e_isB {j p} {k : Bool} (ha : SndE C a f) : SndE C (.Compare a [.Is] [.Constant (.bool k) j p] pos) (x1 f (oIsB k)) := e_c1 (G := D.isBl k) (fun _ _ => rfl) (fun Y ρ P h => vc_isB h) ha (nomark _)
theorem t_isB {j p} {k : Bool} (ha : SndE C a f) : SndT C (.Compare a [.Is] [.Constant (.bool k) j p] pos) (x1 f (oIsB k)) := t_c1 (G := D.isBl k) (fun _ _ => rfl) (fun Y ρ P h => vc_isB h) ha (nomark _)
end
end VL

set_option Elab.async false
set_option linter.all false
set_option maxHeartbeats 1000000
/-! Chains, booleans, displays, calls, items, built-in functions. -/
namespace VL
open PySem PySem.Spec PyProof.Rows L2
section
variable {Y : Cy} {ρ : List B} {a b c node : Expr} {f g h : XE} {C : Cst} {o : EV} {pos : Pos} {es : List Expr} {fs : List XE}
theorem SE.exc (ha : SE Y a f) {x : Exc} (e : f ρ = some (.x x)) (hE : Y.E x ρ) (Q : Rg → D → Prop) : VE Y ρ a Q := VX.ve (ha ρ _ e) hE
/-! ### chains -/
structure ChS (op : CmpOp) (F : OP2) (G : Int → Int → Bool) : Prop where
  eq : ∀ r i r2 j, F r (.int i) r2 (.int j) = vB (G i j)
  ok : ∀ {X : Cx}, OpR X (compareOp op) (rI0 fun i j => .bl (G i j))
theorem h_lt : ChS .Lt oLt fun i j => decide (i < j) := ⟨fun _ _ _ _ => rfl, op_lt⟩
theorem h_le : ChS .LtE oLe fun i j => decide (i ≤ j) := ⟨fun _ _ _ _ => rfl, op_le⟩
theorem h_gt : ChS .Gt oGt fun i j => decide (j < i) := ⟨fun _ _ _ _ => rfl, op_gt⟩
theorem h_ge : ChS .GtE oGe fun i j => decide (j ≤ i) := ⟨fun _ _ _ _ => rfl, op_ge⟩
theorem h_eq : ChS .Eq oEq fun i j => decide (i = j) := ⟨fun _ _ _ _ => rfl, op_eqI⟩
theorem h_ne : ChS .NotEq oNe fun i j => decide (i ≠ j) := ⟨fun _ _ _ _ => rfl, op_neI⟩
abbrev HC (Y : Cy) (ρ : List B) (a b c : Expr) (G G' : Int → Int → Bool) (P : Bool → Prop) : Prop :=
  VE Y ρ a fun _ x => VE Y ρ b fun _ y => ∃ i j, x = .int i ∧ y = .int j ∧ (G i j = true → VE Y ρ c fun _ z => ∃ l, z = .int l ∧ P (G' j l)) ∧ (G i j = false → P false)
theorem chain_some {op op' : OP2} {G G' : Int → Int → Bool} {o1 o2 : CmpOp} (s : ChS o1 op G) (s' : ChS o2 op' G') (ha : SE Y a f) (hb : SE Y b g) (hc : SE Y c h) (e : xChain f g h op op' ρ = some o) :
    (∃ x, o = .x x ∧ (Y.E x ρ → HC Y ρ a b c G G' fun _ => False)) ∨ ∃ k, o = .v .nw (.bl k) ∧ ∀ (P : Bool → Prop), P k → HC Y ρ a b c G G' P := by
  rcases bE_some e with ⟨x, e1, rfl⟩ | ⟨q, r, d, e1, hq, e2⟩
  · exact .inl ⟨x, rfl, fun hE => ha.exc e1 hE _⟩
  · rcases bE_some e2 with ⟨x, e3, rfl⟩ | ⟨q2, r2, d2, e3, hq2, e4⟩
    · exact .inl ⟨x, rfl, fun hE => (ha.gets e1 hq) _ (hb.exc e3 hE _)⟩
    · have ga := ha.gets e1 hq
      have gb := hb.gets e3 hq2
      split at e4
      · rename_i i j
        rw [s.eq] at e4
        unfold vB at e4
        cases hG : G i j with
        | true =>
          rw [hG] at e4
          rcases bE_some e4 with ⟨x, e5, rfl⟩ | ⟨q3, r3, d3, e5, hq3, e6⟩
          · exact .inl ⟨x, rfl, fun hE => ga _ (gb _ ⟨i, j, rfl, rfl, fun _ => hc.exc e5 hE _, fun z => by rw [hG] at z; cases z⟩)⟩
          · split at e6
            · rename_i l
              rw [s'.eq] at e6
              refine .inr ⟨G' j l, vB_some e6, fun P p => ga _ (gb _ ⟨i, j, rfl, rfl, fun _ => (hc.gets e5 hq3) _ ⟨l, rfl, p⟩, fun z => by rw [hG] at z; cases z⟩)⟩
            · cases e6
        | false =>
          rw [hG] at e4
          refine .inr ⟨false, vB_some e4, fun P p => ga _ (gb _ ⟨i, j, rfl, rfl, fun z => (by rw [hG] at z; cases z), fun _ => p⟩)⟩
      · cases e4
theorem e_chain {op op' : CmpOp} {F F' : OP2} {G G' : Int → Int → Bool} (s : ChS op F G) (s' : ChS op' F' G') (ha : SndE C a f) (hb : SndE C b g) (hc : SndE C c h) (hm : lastMarks [op, op'] [b, c] = false := by with_unfolding_all rfl) :
    SndE C (.Compare a [op, op'] [b, c] pos) (xChain f g h F F') := fun Y u ρ o e => by
  rcases chain_some s s' (ha Y u) (hb Y u) (hc Y u) e with ⟨x, rfl, q⟩ | ⟨k, rfl, q⟩
  · intro hE
    exact ve_chain s.ok s'.ok (VE.mono (q hE) fun _ _ z => VE.mono z fun _ _ ⟨i, j, e1, e2, e3, e4⟩ => ⟨i, j, e1, e2, fun z => VE.mono (e3 z) fun _ _ ⟨_, _, z⟩ => z.elim, fun z => (e4 z).elim⟩) hm
  · exact VX.of fun Q hq => ve_chain s.ok s'.ok (q (fun b => Q .nw (.bl b)) hq) hm
theorem t_chain {op op' : CmpOp} {F F' : OP2} {G G' : Int → Int → Bool} (s : ChS op F G) (s' : ChS op' F' G') (ha : SndE C a f) (hb : SndE C b g) (hc : SndE C c h) (hm : lastMarks [op, op'] [b, c] = false := by with_unfolding_all rfl) :
    SndT C (.Compare a [op, op'] [b, c] pos) (xChain f g h F F') := fun Y u ρ o e => by
  rcases chain_some s s' (ha Y u) (hb Y u) (hc Y u) e with ⟨x, rfl, q⟩ | ⟨k, rfl, q⟩
  · exact fun hE => vt_chain s.ok s'.ok (q hE) hm
  · exact vt_chain s.ok s'.ok (q (fun b => b = k) rfl) hm
/-! ### booleans -/
theorem bB_some {p : Option EV} {k : Bool → Option EV} (h : bB p k = some o) : (∃ x, p = some (.x x) ∧ o = .x x) ∨ ∃ r b, p = some (.v r (.bl b)) ∧ k b = some o := by
  rcases bE_some h with ⟨x, e1, rfl⟩ | ⟨q, r, d, e1, hq, e2⟩
  · exact .inl ⟨x, e1, rfl⟩
  · split at e2
    · rename_i b
      rcases hq with rfl | ⟨c, rfl, hc⟩
      · exact .inr ⟨_, _, e1, e2⟩
      · cases c <;> cases hc
    · cases e2
theorem SE.bl (ha : SE Y a f) {r : Rg} {k : Bool} (e : f ρ = some (.v r (.bl k))) : Gets Y ρ a r (.bl k) := ha.gets e (.inl rfl)
theorem ST.bl (ha : ST Y a f) {r : Rg} {k : Bool} (e : f ρ = some (.v r (.bl k))) : VT Y ρ a fun b => b = k := ha ρ _ e
theorem ST.exc (ha : ST Y a f) {x : Exc} (e : f ρ = some (.x x)) (hE : Y.E x ρ) (P : Bool → Prop) : VT Y ρ a P := VT.mono (ha ρ _ e hE) fun _ z => z.elim
theorem e_not (ha : SndE C a f) : SndE C (.UnaryOp .Not a pos) (xNot f) := fun Y u ρ o e => by
  rcases bB_some e with ⟨x, e1, rfl⟩ | ⟨r, b, e1, e2⟩
  · exact fun hE => ve_not ((ha Y u).exc e1 hE _)
  · cases vB_some e2
    exact VX.of fun Q q => ve_not ((ha Y u).bl e1 _ ⟨b, rfl, q⟩)
theorem t_not (ha : SndT C a f) : SndT C (.UnaryOp .Not a pos) (xNot f) := fun Y u ρ o e => by
  rcases bB_some e with ⟨x, e1, rfl⟩ | ⟨r, b, e1, e2⟩
  · exact fun hE => vt_not ((ha Y u).exc e1 hE _)
  · cases vB_some e2
    exact vt_not (VT.mono ((ha Y u).bl e1) fun k hk => by rw [hk])
theorem VE.norm {Q : Rg → D → Prop} (h : VE Y ρ a fun r d => Q (nm r d) d) : VE Y ρ a Q := fun τ σ H w => (h τ σ H w).mono fun v H' ⟨r, d, w', q⟩ => ⟨_, _, w'.norm, q⟩
theorem SE.bn (ha : SE Y a f) {r : Rg} {k : Bool} (e : f ρ = some (.v r (.bl k))) : Gets Y ρ a .nw (.bl k) := fun Q q => VE.norm ((ha.bl e) (fun r d => Q (nm r d) d) q)
theorem e_one {op} (ha : SndE C a f) : SndE C (.BoolOp op [a] pos) (xOne f) := fun Y u ρ o e => by
  rcases bB_some e with ⟨x, e1, rfl⟩ | ⟨r, b, e1, e2⟩
  · exact fun hE => ve_one ((ha Y u).exc e1 hE _)
  · cases vB_some e2
    exact VX.of fun Q q => ve_one ((ha Y u).bn e1 _ q)
theorem e_and {rest : List Expr} (ha : SndE C a f) (hb : SndE C (.BoolOp .And (b :: rest) pos) g) : SndE C (.BoolOp .And (a :: b :: rest) pos) (xAnd f g) := fun Y u ρ o e => by
  rcases bB_some e with ⟨x, e1, rfl⟩ | ⟨r, k, e1, e2⟩
  · exact fun hE => ve_and ((ha Y u).exc e1 hE _)
  · cases k with
    | true =>
      rw [if_pos rfl] at e2
      rcases bB_some e2 with ⟨x, e3, rfl⟩ | ⟨r2, k2, e3, e4⟩
      · exact fun hE => ve_and ((ha Y u).bl e1 _ ⟨true, rfl, fun _ => (hb Y u).exc e3 hE _, fun z => by cases z⟩)
      · cases vB_some e4
        exact VX.of fun Q q => ve_and ((ha Y u).bl e1 _ ⟨true, rfl, fun _ => (hb Y u).bn e3 _ q, fun z => by cases z⟩)
    | false =>
      rw [if_neg Bool.false_ne_true] at e2
      cases vB_some e2
      exact VX.of fun Q q => ve_and ((ha Y u).bl e1 _ ⟨false, rfl, fun z => (by cases z), fun _ => q⟩)
theorem e_or {rest : List Expr} (ha : SndE C a f) (hb : SndE C (.BoolOp .Or (b :: rest) pos) g) : SndE C (.BoolOp .Or (a :: b :: rest) pos) (xOr f g) := fun Y u ρ o e => by
  rcases bB_some e with ⟨x, e1, rfl⟩ | ⟨r, k, e1, e2⟩
  · exact fun hE => ve_or ((ha Y u).exc e1 hE _)
  · cases k with
    | false =>
      rw [if_neg Bool.false_ne_true] at e2
      rcases bB_some e2 with ⟨x, e3, rfl⟩ | ⟨r2, k2, e3, e4⟩
      · exact fun hE => ve_or ((ha Y u).bl e1 _ ⟨false, rfl, fun _ => (hb Y u).exc e3 hE _, fun z => by cases z⟩)
      · cases vB_some e4
        exact VX.of fun Q q => ve_or ((ha Y u).bl e1 _ ⟨false, rfl, fun _ => (hb Y u).bn e3 _ q, fun z => by cases z⟩)
    | true =>
      rw [if_pos rfl] at e2
      cases vB_some e2
      exact VX.of fun Q q => ve_or ((ha Y u).bl e1 _ ⟨true, rfl, fun z => (by cases z), fun _ => q⟩)
/-- the tails of and, or as tests -/
def SW (Y : Cy) (e : Expr) (f : XE) : Prop := ∀ ρ o, f ρ = some o → match o with
  | .v _ (.bl k) => VW Y ρ e fun b => b = k
  | .x x => Y.E x ρ → VW Y ρ e fun _ => False
  | _ => True
def SndW (C : Cst) (e : Expr) (f : XE) : Prop := ∀ Y, C.On Y → SW Y e f
theorem VW.mono {P P' : Bool → Prop} (h : VW Y ρ a P) (m : ∀ k, P k → P' k) : VW Y ρ a P' := fun τ σ H w whole pins s I => wpAny_mono (h τ σ H w whole pins s I) (fun b s' ⟨H2, I2, w2, q⟩ => ⟨H2, I2, w2, m _ q⟩) fun _ _ x => x
theorem SW.bl (ha : SW Y a f) {r : Rg} {k : Bool} (e : f ρ = some (.v r (.bl k))) : VW Y ρ a fun b => b = k := ha ρ _ e
theorem SW.exc (ha : SW Y a f) {x : Exc} (e : f ρ = some (.x x)) (hE : Y.E x ρ) (P : Bool → Prop) : VW Y ρ a P := VW.mono (ha ρ _ e hE) fun _ z => z.elim
theorem t_w (ha : SndW C a f) : SndT C a f := fun Y u ρ o e => by
  have q := ha Y u ρ o e
  unfold VTX
  split
  · exact vt_w q
  · exact fun hE => vt_w (q hE)
  · trivial
theorem w_and1 (ha : SndT C a f) : SndW C (.BoolOp .And [a] pos) (xOne f) := fun Y u ρ o e => by
  rcases bB_some e with ⟨x, e1, rfl⟩ | ⟨r, b, e1, e2⟩
  · exact fun hE => vw_and1 ((ha Y u).exc e1 hE _)
  · cases vB_some e2
    exact vw_and1 ((ha Y u).bl e1)
theorem w_or1 (ha : SndT C a f) : SndW C (.BoolOp .Or [a] pos) (xOne f) := fun Y u ρ o e => by
  rcases bB_some e with ⟨x, e1, rfl⟩ | ⟨r, b, e1, e2⟩
  · exact fun hE => vw_or1 ((ha Y u).exc e1 hE _)
  · cases vB_some e2
    exact vw_or1 ((ha Y u).bl e1)
theorem w_and {rest : List Expr} (ha : SndT C a f) (hb : SndW C (.BoolOp .And (b :: rest) pos) g) : SndW C (.BoolOp .And (a :: b :: rest) pos) (xAnd f g) := fun Y u ρ o e => by
  rcases bB_some e with ⟨x, e1, rfl⟩ | ⟨r, k, e1, e2⟩
  · exact fun hE => vw_and ((ha Y u).exc e1 hE _)
  · cases k with
    | true =>
      rw [if_pos rfl] at e2
      rcases bB_some e2 with ⟨x, e3, rfl⟩ | ⟨r2, k2, e3, e4⟩
      · exact fun hE => vw_and (VT.mono ((ha Y u).bl e1) fun b hb' => ⟨fun _ => (hb Y u).exc e3 hE _, fun z => by rw [hb'] at z; cases z⟩)
      · cases vB_some e4
        exact vw_and (VT.mono ((ha Y u).bl e1) fun b hb' => ⟨fun _ => (hb Y u).bl e3, fun z => by rw [hb'] at z; cases z⟩)
    | false =>
      rw [if_neg Bool.false_ne_true] at e2
      cases vB_some e2
      exact vw_and (VT.mono ((ha Y u).bl e1) fun b hb' => ⟨fun z => (by rw [hb'] at z; cases z), fun _ => rfl⟩)
theorem w_or {rest : List Expr} (ha : SndT C a f) (hb : SndW C (.BoolOp .Or (b :: rest) pos) g) : SndW C (.BoolOp .Or (a :: b :: rest) pos) (xOr f g) := fun Y u ρ o e => by
  rcases bB_some e with ⟨x, e1, rfl⟩ | ⟨r, k, e1, e2⟩
  · exact fun hE => vw_or ((ha Y u).exc e1 hE _)
  · cases k with
    | false =>
      rw [if_neg Bool.false_ne_true] at e2
      rcases bB_some e2 with ⟨x, e3, rfl⟩ | ⟨r2, k2, e3, e4⟩
      · exact fun hE => vw_or (VT.mono ((ha Y u).bl e1) fun b hb' => ⟨fun _ => (hb Y u).exc e3 hE _, fun z => by rw [hb'] at z; cases z⟩)
      · cases vB_some e4
        exact vw_or (VT.mono ((ha Y u).bl e1) fun b hb' => ⟨fun _ => (hb Y u).bl e3, fun z => by rw [hb'] at z; cases z⟩)
    | true =>
      rw [if_pos rfl] at e2
      cases vB_some e2
      exact vw_or (VT.mono ((ha Y u).bl e1) fun b hb' => ⟨fun z => (by rw [hb'] at z; cases z), fun _ => rfl⟩)
/-- a value as a test -/
theorem t_val (ha : SndE C a f) (he : ∀ (env : Env) whole, isTrue a env whole = (do let v ← whole; standAt a.pos; holding [v] (truthy v)) := by intro _ _; rfl) : SndT C a f := fun Y u ρ o e => by
  unfold VTX
  split
  · exact vt_val ((ha Y u).bl e _ ⟨_, rfl, rfl⟩) (he _)
  · exact fun hE => vt_val ((ha Y u).exc e hE _) (he _)
  · trivial
theorem e_ite (hc : SndT C c f) (ha : SndE C a g) (hb : SndE C b h) : SndE C (.IfExp c a b pos) (xIte f g h) := fun Y u ρ o e => by
  rcases bB_some e with ⟨x, e1, rfl⟩ | ⟨r, k, e1, e2⟩
  · exact fun hE => ve_ite ((hc Y u).exc e1 hE _)
  · cases k with
    | true =>
      rw [if_pos rfl] at e2
      rcases bE_some e2 with ⟨x, e3, rfl⟩ | ⟨q, r2, d2, e3, hq, e4⟩
      · exact fun hE => ve_ite (VT.mono ((hc Y u).bl e1) fun b hb' => ⟨fun _ => (ha Y u).exc e3 hE _, fun z => by rw [hb'] at z; cases z⟩)
      · cases e4
        exact VX.of fun Q q => ve_ite (VT.mono ((hc Y u).bl e1) fun b hb' => ⟨fun _ => (ha Y u).gets e3 hq _ q, fun z => by rw [hb'] at z; cases z⟩)
    | false =>
      rw [if_neg Bool.false_ne_true] at e2
      rcases bE_some e2 with ⟨x, e3, rfl⟩ | ⟨q, r2, d2, e3, hq, e4⟩
      · exact fun hE => ve_ite (VT.mono ((hc Y u).bl e1) fun b hb' => ⟨fun z => (by rw [hb'] at z; cases z), fun _ => (hb Y u).exc e3 hE _⟩)
      · cases e4
        exact VX.of fun Q q => ve_ite (VT.mono ((hc Y u).bl e1) fun b hb' => ⟨fun z => (by rw [hb'] at z; cases z), fun _ => (hb Y u).gets e3 hq _ q⟩)
/-! ### displays and calls -/
inductive SA (C : Cst) : List Expr → List XE → Prop
  | nil : SA C [] []
  | cons {e : Expr} {f : XE} {es : List Expr} {fs : List XE} (h : SndE C e f) (r : SA C es fs) : SA C (e :: es) (f :: fs)
theorem args_some (u : C.On Y) : ∀ {es : List Expr} {fs : List XE} {o : AV}, SA C es fs → xArgs fs ρ = some o → (∃ x, o = .x x ∧ (Y.E x ρ → ∀ Q, VA Y ρ es Q)) ∨ ∃ l, o = .ok l ∧ ∀ Q : List (Rg × D) → Prop, Q l → VA Y ρ es Q
  | _, _, o, .nil, e => by cases e; exact .inr ⟨[], rfl, fun Q q => q⟩
  | _, _, o, .cons (e := e0) (f := f0) (es := es) (fs := fs) h r, e => by
    have key : ∀ q r1 d1, f0 ρ = some q → (q = .v r1 d1 ∨ ∃ c, q = .n r1 c ∧ d1 = c.toD) → (match xArgs fs ρ with | some (.ok l) => some (.ok ((r1, d1) :: l)) | o => o) = some o →
        (∃ x, o = .x x ∧ (Y.E x ρ → ∀ Q, VA Y ρ (e0 :: es) Q)) ∨ ∃ l, o = .ok l ∧ ∀ Q : List (Rg × D) → Prop, Q l → VA Y ρ (e0 :: es) Q := by
      intro q r1 d1 e1 hq e2
      have gq := (h Y u).gets e1 hq
      cases hx : xArgs fs ρ with
      | none => rw [hx] at e2; cases e2
      | some o2 =>
        rcases args_some u r hx with ⟨x, rfl, k⟩ | ⟨l, rfl, k⟩
        · rw [hx] at e2; cases e2
          exact .inl ⟨x, rfl, fun hE Q => gq _ (k hE _)⟩
        · rw [hx] at e2; cases e2
          exact .inr ⟨_, rfl, fun Q q => gq _ (k _ q)⟩
    unfold xArgs at e
    split at e
    · cases e
    · cases e
      exact .inl ⟨_, rfl, fun hE Q => (h Y u).exc (by assumption) hE _⟩
    · exact key _ _ _ (by assumption) (.inl rfl) e
    · exact key _ _ _ (by assumption) (.inr ⟨_, rfl, rfl⟩) e
theorem bA_some {p : Option AV} {k : List (Rg × D) → Option EV} (h : bA p k = some o) : (∃ x, p = some (.x x) ∧ o = .x x) ∨ ∃ l, p = some (.ok l) ∧ k l = some o := by
  unfold bA at h
  split at h
  · cases h
  · cases h; exact .inl ⟨_, rfl, rfl⟩
  · exact .inr ⟨_, rfl, h⟩
theorem e_tup {x1} (hs : SA C es fs) (hp : es.all plain = true := by rfl) (hz : es.length ≤ sizeLine := by decide) : SndE C (.Tuple es x1 pos) (xTup fs) := fun Y u ρ o e => by
  rcases bA_some e with ⟨x, e1, rfl⟩ | ⟨l, e1, e2⟩
  · rcases args_some u hs e1 with ⟨x, z, k⟩ | ⟨l, z, k⟩
    · cases z; exact fun hE => ve_tup (k hE _) hp hz
    · cases z
  · rcases args_some u hs e1 with ⟨x, z, k⟩ | ⟨l, z, k⟩
    · cases z
    · cases z
      split at e2
      · cases e2; exact VX.of fun Q q => ve_tup (k _ ⟨by assumption, q⟩) hp hz
      · cases e2
theorem e_lst (hs : SA C es fs) (hp : es.all plain = true := by rfl) (hz : es.length ≤ sizeLine := by decide) : SndE C (.List es pos) (xLst fs) := fun Y u ρ o e => by
  rcases bA_some e with ⟨x, e1, rfl⟩ | ⟨l, e1, e2⟩
  · rcases args_some u hs e1 with ⟨x, z, k⟩ | ⟨l, z, k⟩
    · cases z; exact fun hE => VN.ve (vn_lst (k hE _) hp hz)
    · cases z
  · rcases args_some u hs e1 with ⟨x, z, k⟩ | ⟨l, z, k⟩
    · cases z
    · cases z
      split at e2
      · cases e2; exact VX.ofN fun Q q => vn_lst (k _ ⟨by assumption, q⟩) hp hz
      · cases e2
/-- a def that may be called: what it gives is told by G -/
structure Cl (W : Wd) (k : Nat) (x : Str) (G : List D → Option Res) : Prop where
  ex : ∃ (f : Addr) (fd : FuncData) (ps : List Str), W.mg x = some (.ref f) ∧ PySem.W.keepIn W.K (.ref f) = true ∧ Binds W.K fd ps [] ∧ FnOk W.P W.w W.K W.mg W.base (L2.CX W.P W.w) k f fd ps (spD W.K W.mg fun ds res => G ds = some res)
theorem e_call {x : Str} {p : Pos} {e0 : Expr} {es : List Expr} {k kk : Nat} {G : List D → Option Res} (F : Cl C.W k x G) (hs : SA C (e0 :: es) fs) (hkk : C.k = some kk := by rfl) (hk : k ≤ kk := by decide) (hp : (e0 :: es).all plain = true := by rfl) (hg : GlS C.sc x := by rfl) (hdb : (x == ("__debug__" : Str)) = false := by decide) :
    SndE C (.Call (.Name x p) (e0 :: es) [] pos) (xCall G fs) := fun Y u ρ o e => by
  have hw := u.w
  obtain ⟨W, N, sc, kc, dd⟩ := C
  cases hw
  obtain ⟨f, fd, ps, hm, kp, hb, hF⟩ := F.ex
  have ok := u.ck hkk
  have gl := u.gl hg
  rcases bA_some e with ⟨x, e1, rfl⟩ | ⟨l, e1, e2⟩
  · rcases args_some u hs e1 with ⟨x, z, k⟩ | ⟨l, z, k⟩
    · cases z; exact fun hE => ve_call ok hF hk hm kp hb (k hE _) hp gl hdb
    · cases z
  · rcases args_some u hs e1 with ⟨x, z, k⟩ | ⟨l, z, k⟩
    · cases z
    · cases z
      rw [Option.bind_eq_some_iff] at e2
      obtain ⟨res, e3, e4⟩ := e2
      cases res with
      | ok r d =>
        unfold afterC at e4
        simp only at e4
        split at e4
        · cases e4
          rename_i hc
          exact VX.of fun Q q => ve_call ok hF hk hm kp hb (k _ ⟨_, e3, hc.1, hc.2, q⟩) hp gl hdb
        · cases e4
      | new r c =>
        unfold afterC at e4
        simp only at e4
        split at e4
        · cases e4
          rename_i hc
          exact VX.ofN fun Q q => vn_call ok hF hk hm kp hb (k _ ⟨_, e3, hc.1, hc.2, q⟩) hp gl hdb
        · cases e4
      | exc x =>
        cases e4
        exact fun hE => ve_call ok hF hk hm kp hb (k _ ⟨_, e3, hE⟩) hp gl hdb
end
end VL

set_option Elab.async false
set_option linter.all false
set_option maxHeartbeats 1000000
/-! Items, slices, built-in functions, comprehensions, what loops walk over. -/
namespace VL
open PySem PySem.Spec PyProof.Rows L2
section
variable {Y : Cy} {ρ : List B} {a b c node tg iter elt : Expr} {f g h : XE} {C : Cst} {o : EV} {pos : Pos} {es : List Expr} {fs : List XE}
theorem e_ix (ha : SndE C a f) (hb : SndE C b g) (hs : PlainIx b := by exact fun _ _ => rfl) : SndE C (.Subscript a b pos) (x2 f g oIx) :=
  se2 ha hb (fun Y u ρ h => ve_ix (VE.mono h fun _ _ h => VE.mono h fun _ _ z => z.elim) hs) fun Y u ρ r x r2 y o ga gb e => by
    unfold oIx at e
    split at e
    · rename_i i
      split at e
      · rw [Option.bind_eq_some_iff] at e
        obtain ⟨d, e1, e2⟩ := e
        cases e2
        exact VX.of fun Q q => ve_ix (ga _ (gb _ ⟨i, rfl, d, e1, q⟩)) hs
      · rw [Option.bind_eq_some_iff] at e
        obtain ⟨d, e1, e2⟩ := e
        cases e2
        exact VX.of fun Q q => ve_ix (ga _ (gb _ ⟨i, rfl, d, e1, q⟩)) hs
      · split at e
        · rw [Option.bind_eq_some_iff] at e
          obtain ⟨d, e1, e2⟩ := e
          cases e2
          exact VX.of fun Q q => ve_ix (ga _ (gb _ ⟨i, rfl, by assumption, d, e1, q⟩)) hs
        · cases e
      · rw [Option.bind_eq_some_iff] at e
        obtain ⟨d, e1, e2⟩ := e
        cases e2
        exact VX.of fun Q q => ve_ix (ga _ (gb _ ⟨i, rfl, d, e1, q⟩)) hs
      · cases e
    · cases e
/-- the bounds of a slice -/
def SndO (C : Cst) : Option Expr → Option XE → Prop
  | none, none => True
  | some e, some f => SndE C e f
  | _, _ => False
theorem opt_some {eo : Option Expr} {fo : Option XE} {r : Option Int ⊕ Exc} (u : C.On Y) (hh : SndO C eo fo) (e : xOpt fo ρ = some r) : (∃ x, r = .inr x ∧ (Y.E x ρ → ∀ P, VO Y ρ eo P)) ∨ ∃ l, r = .inl l ∧ ∀ P : Option Int → Prop, P l → VO Y ρ eo P := by
  match eo, fo, hh with
  | none, none, _ => cases e; exact .inr ⟨none, rfl, fun P p => p⟩
  | some ee, some ff, hh =>
    simp only [xOpt] at e
    split at e
    · cases e
      exact .inr ⟨_, rfl, fun P p => (hh Y u).gets (by assumption) (.inl rfl) _ ⟨_, rfl, p⟩⟩
    · cases e
      exact .inl ⟨_, rfl, fun hE P => (hh Y u).exc (by assumption) hE _⟩
    · cases e
theorem e_slice {lo hi : Option Expr} {fl fh : Option XE} {p2 : Pos} (ha : SndE C a f) (hl : SndO C lo fl) (hh : SndO C hi fh) : SndE C (.Subscript a (.Slice lo hi none p2) pos) (xSl f fl fh) := fun Y u ρ o e => by
  rcases bE_some e with ⟨x, e1, rfl⟩ | ⟨q, r, d, e1, hq, e2⟩
  · exact fun hE => VN.ve (vn_slice ((ha Y u).exc e1 hE _))
  · have ga := (ha Y u).gets e1 hq
    split at e2
    · cases e2
    · cases e2
      rcases opt_some u hl (by assumption) with ⟨x, z, k⟩ | ⟨l, z, k⟩
      · cases z; exact fun hE => VN.ve (vn_slice (ga _ (k hE _)))
      · cases z
    · rcases opt_some u hl (by assumption) with ⟨x, z, k⟩ | ⟨l, z, k⟩
      · cases z
      · cases z
        split at e2
        · cases e2
        · cases e2
          rcases opt_some u hh (by assumption) with ⟨x, z, k2⟩ | ⟨l, z, k2⟩
          · cases z; exact fun hE => VN.ve (vn_slice (ga _ (k _ (k2 hE _))))
          · cases z
        · rcases opt_some u hh (by assumption) with ⟨x, z, k2⟩ | ⟨l, z, k2⟩
          · cases z
          · cases z
            split at e2
            · cases e2
              exact VX.ofN fun Q q => VN.normC (vn_slice (ga _ (k _ (k2 _ ⟨_, rfl, q⟩))))
            · cases e2
theorem e_sl0 {p2 : Pos} (ha : SndE C a f) : SndE C (.Subscript a (.Slice none none none p2) pos) (xSl f none none) := e_slice ha trivial trivial
theorem e_slL {lo : Expr} {p2 : Pos} (ha : SndE C a f) (hl : SndE C lo g) : SndE C (.Subscript a (.Slice (some lo) none none p2) pos) (xSl f (some g) none) := e_slice ha hl trivial
theorem e_slH {hi : Expr} {p2 : Pos} (ha : SndE C a f) (hl : SndE C hi g) : SndE C (.Subscript a (.Slice none (some hi) none p2) pos) (xSl f none (some g)) := e_slice ha trivial hl
theorem e_slLH {lo hi : Expr} {p2 : Pos} (ha : SndE C a f) (hl : SndE C lo g) (hh : SndE C hi h) : SndE C (.Subscript a (.Slice (some lo) (some hi) none p2) pos) (xSl f (some g) (some h)) := e_slice ha hl hh
/-- xs[::-1] -/
theorem vn_rev {N : Rg → Ct → Prop} {k : Nat} {p1 p2 p3 : Pos} (hh : VE Y ρ a fun r x => ∃ ds, x = .lst ds ∧ N r.el (.lst ds.reverse)) : VN Y ρ (.Subscript a (.Slice none none (some (.UnaryOp .USub (.Constant (.int 1) k p1) p2)) p3) pos) N := fun τ σ H w =>
  sE.of (pe_revL pe_s) ((hh τ σ H w).mono fun v H1 ⟨r1, x, w1, ds, e, q⟩ => by
    subst e
    obtain ⟨p, vs, rfl, hq, hl, k⟩ := EnvOk.lst w1
    refine ⟨p, vs, rfl, .inl hq, fun n nn => ⟨n, _, _, rfl, ?_, q⟩⟩
    exact (EnvOk.fresh (r := r1.el) (c := .lst ds.reverse) (o := .lst vs.reverse) w1 nn (el_st r1) fun G0 G1 ow w => ⟨_, rfl, by
      have := (k G0 G1 ow w).rev
      cases r1 <;> exact this⟩).under)
theorem e_rev {k : Nat} {p1 p2 p3 : Pos} (ha : SndE C a f) : SndE C (.Subscript a (.Slice none none (some (.UnaryOp .USub (.Constant (.int 1) k p1) p2)) p3) pos) (x1 f oRev) :=
  se1 ha (fun Y u ρ h => VN.ve (vn_rev (VE.mono h fun _ _ z => z.elim))) fun Y u ρ r x o ga e => by
    unfold oRev at e
    split at e
    · cases e; exact VX.ofN fun Q q => VN.normC (vn_rev (ga _ ⟨_, rfl, q⟩))
    · cases e
/-! ### built-in functions -/
section
variable [NB C.W] {p : Pos}
theorem e_abs (ha : SndE C a f) (hp : plain a = true := by rfl) (hg : GlS C.sc "abs" := by rfl) : SndE C (.Call (.Name "abs" p) [a] [] pos) (x1 f oAbs) :=
  se1 ha (fun Y u ρ h => ve_abs (u.nb (by decide)) (VE.mono h fun _ _ z => z.elim) hp (u.gl hg)) fun Y u ρ r x o ga e => by
    unfold oAbs at e
    split at e
    · cases e; exact VX.of fun Q q => ve_abs (u.nb (by decide)) (ga _ ⟨_, rfl, q⟩) hp (u.gl hg)
    · cases e
theorem e_intc (ha : SndE C a f) (hp : plain a = true := by rfl) (hg : GlS C.sc "int" := by rfl) : SndE C (.Call (.Name "int" p) [a] [] pos) (x1 f oInt) :=
  se1 ha (fun Y u ρ h => ve_intc (u.nb (by decide)) (VE.mono h fun _ _ z => z.elim) hp (u.gl hg)) fun Y u ρ r x o ga e => by
    unfold oInt at e
    split at e
    · cases e; exact VX.of fun Q q => ve_intc (u.nb (by decide)) (ga _ q) hp (u.gl hg)
    · cases e; exact VX.of fun Q q => ve_intc (u.nb (by decide)) (ga _ q) hp (u.gl hg)
    · cases e
theorem e_len (ha : SndE C a f) (hp : plain a = true := by rfl) (hg : GlS C.sc "len" := by rfl) : SndE C (.Call (.Name "len" p) [a] [] pos) (x1 f oLen) :=
  se1 ha (fun Y u ρ h => ve_len (u.nb (by decide)) (VE.mono h fun _ _ z => z.elim) hp (u.gl hg)) fun Y u ρ r x o ga e => by
    unfold oLen at e
    split at e
    · cases e; exact VX.of fun Q q => ve_len (u.nb (by decide)) (ga _ q) hp (u.gl hg)
    · cases e; exact VX.of fun Q q => ve_len (u.nb (by decide)) (ga _ q) hp (u.gl hg)
    · split at e
      · cases e; exact VX.of fun Q q => ve_len (u.nb (by decide)) (ga _ ⟨by assumption, q⟩) hp (u.gl hg)
      · cases e
    · cases e; exact VX.of fun Q q => ve_len (u.nb (by decide)) (ga _ q) hp (u.gl hg)
    · cases e
theorem e_sum {k : Nat} (ha : SndE C a f) (hk : C.k = some k := by rfl) (hp : plain a = true := by rfl) (hg : GlS C.sc "sum" := by rfl) : SndE C (.Call (.Name "sum" p) [a] [] pos) (x1 f oSum) :=
  se1 ha (fun Y u ρ h => ve_sum (u.ck hk).calm (u.nb (by decide)) (VE.mono h fun _ _ z => z.elim) hp (u.gl hg)) fun Y u ρ r x o ga e => by
    unfold oSum at e
    split at e
    · rw [Option.bind_eq_some_iff] at e
      obtain ⟨ns, e1, e2⟩ := e
      cases e2
      exact VX.of fun Q q => ve_sum (u.ck hk).calm (u.nb (by decide)) (ga _ ⟨ns, by rw [D.ints?_some e1], q⟩) hp (u.gl hg)
    · cases e
theorem e_max {k : Nat} (ha : SndE C a f) (hk : C.k = some k := by rfl) (hp : plain a = true := by rfl) (hg : GlS C.sc "max" := by rfl) : SndE C (.Call (.Name "max" p) [a] [] pos) (x1 f oMax) :=
  se1 ha (fun Y u ρ h => ve_max (u.ck hk).calm (u.nb (by decide)) (VE.mono h fun _ _ z => z.elim) hp (u.gl hg)) fun Y u ρ r x o ga e => by
    unfold oMax at e
    split at e
    · rw [Option.bind_eq_some_iff] at e
      obtain ⟨ns, e1, e2⟩ := e
      split at e2
      · cases e2
        exact VX.of fun Q q => ve_max (u.ck hk).calm (u.nb (by decide)) (ga _ ⟨ns, by rw [D.ints?_some e1], by assumption, fun m h1 h2 => by rw [maxI_spec h1 h2]; exact q⟩) hp (u.gl hg)
      · cases e2
    · cases e
theorem e_min {k : Nat} (ha : SndE C a f) (hk : C.k = some k := by rfl) (hp : plain a = true := by rfl) (hg : GlS C.sc "min" := by rfl) : SndE C (.Call (.Name "min" p) [a] [] pos) (x1 f oMin) :=
  se1 ha (fun Y u ρ h => ve_min (u.ck hk).calm (u.nb (by decide)) (VE.mono h fun _ _ z => z.elim) hp (u.gl hg)) fun Y u ρ r x o ga e => by
    unfold oMin at e
    split at e
    · rw [Option.bind_eq_some_iff] at e
      obtain ⟨ns, e1, e2⟩ := e
      split at e2
      · cases e2
        exact VX.of fun Q q => ve_min (u.ck hk).calm (u.nb (by decide)) (ga _ ⟨ns, by rw [D.ints?_some e1], by assumption, fun m h1 h2 => by rw [minI_spec h1 h2]; exact q⟩) hp (u.gl hg)
      · cases e2
    · cases e
theorem e_max2 {k : Nat} (ha : SndE C a f) (hb : SndE C b g) (hk : C.k = some k := by rfl) (hp : plain a = true := by rfl) (hp2 : plain b = true := by rfl) (hg : GlS C.sc "max" := by rfl) : SndE C (.Call (.Name "max" p) [a, b] [] pos) (x2 f g oMax2) :=
  se2 ha hb (fun Y u ρ h => ve_max2 (u.ck hk).calm (u.nb (by decide)) (i2x h) hp hp2 (u.gl hg)) fun Y u ρ r x r2 y o ga gb e => by
    unfold oMax2 at e
    split at e
    · cases e; exact VX.of fun Q q => ve_max2 (u.ck hk).calm (u.nb (by decide)) (i2v ga gb trivial q) hp hp2 (u.gl hg)
    · cases e
theorem e_min2 {k : Nat} (ha : SndE C a f) (hb : SndE C b g) (hk : C.k = some k := by rfl) (hp : plain a = true := by rfl) (hp2 : plain b = true := by rfl) (hg : GlS C.sc "min" := by rfl) : SndE C (.Call (.Name "min" p) [a, b] [] pos) (x2 f g oMin2) :=
  se2 ha hb (fun Y u ρ h => ve_min2 (u.ck hk).calm (u.nb (by decide)) (i2x h) hp hp2 (u.gl hg)) fun Y u ρ r x r2 y o ga gb e => by
    unfold oMin2 at e
    split at e
    · cases e; exact VX.of fun Q q => ve_min2 (u.ck hk).calm (u.nb (by decide)) (i2v ga gb trivial q) hp hp2 (u.gl hg)
    · cases e
theorem e_sorted (ha : SndE C a f) (hp : plain a = true := by rfl) (hg : GlS C.sc "sorted" := by rfl) : SndE C (.Call (.Name "sorted" p) [a] [] pos) (x1 f oSorted) :=
  se1 ha (fun Y u ρ h => VN.ve (vn_sorted (u.nb (by decide)) (VE.mono h fun _ _ z => z.elim) hp (u.gl hg))) fun Y u ρ r x o ga e => by
    unfold oSorted at e
    split at e
    · rw [Option.bind_eq_some_iff] at e
      obtain ⟨ns, e1, e2⟩ := e
      cases e2
      exact VX.ofN fun Q q => vn_sorted (u.nb (by decide)) (ga _ ⟨ns, .inl (by rw [D.ints?_some e1]), q⟩) hp (u.gl hg)
    · rw [Option.bind_eq_some_iff] at e
      obtain ⟨ns, e1, e2⟩ := e
      cases e2
      exact VX.ofN fun Q q => vn_sorted (u.nb (by decide)) (ga _ ⟨ns, .inr (by rw [D.ints?_some e1]), q⟩) hp (u.gl hg)
    · cases e
theorem e_list (ha : SndE C a f) (hp : plain a = true := by rfl) (hg : GlS C.sc "list" := by rfl) : SndE C (.Call (.Name "list" p) [a] [] pos) (x1 f oList) :=
  se1 ha (fun Y u ρ h => VN.ve (vn_list (u.nb (by decide)) (VE.mono h fun _ _ z => z.elim) hp (u.gl hg))) fun Y u ρ r x o ga e => by
    unfold oList at e
    split at e
    · cases e; exact VX.ofN fun Q q => VN.normC (vn_list (u.nb (by decide)) (ga _ ⟨_, .inl rfl, q⟩) hp (u.gl hg))
    · cases e; exact VX.ofN fun Q q => VN.normC (vn_list (u.nb (by decide)) (ga _ ⟨_, .inr rfl, q⟩) hp (u.gl hg))
    · cases e
theorem e_tuple (ha : SndE C a f) (hp : plain a = true := by rfl) (hg : GlS C.sc "tuple" := by rfl) : SndE C (.Call (.Name "tuple" p) [a] [] pos) (x1 f oTuple) :=
  se1 ha (fun Y u ρ h => ve_tuple (u.nb (by decide)) (VE.mono h fun _ _ z => z.elim) hp (u.gl hg)) fun Y u ρ r x o ga e => by
    unfold oTuple at e
    split at e
    · cases e; exact VX.of fun Q q => ve_tuple (u.nb (by decide)) (ga _ ⟨_, rfl, q⟩) hp (u.gl hg)
    · cases e
/-! isinstance of a built-in type -/
theorem ve_isi {x : Str} {T : String} {p q : Pos} {Q : Rg → D → Prop} (hm : Y.X.mg "isinstance" = none) (hm2 : Y.X.mg x = none) (hv : bootBuiltins x = some (.type T)) (hh : VE Y ρ a fun _ d => ∃ t k, d.ty = some t ∧ kitB t T = some k ∧ Q .nw (.bl k))
    (hp : plain a = true) (hg : Gl Y.X "isinstance") (hg2 : Gl Y.X x) (hn : x ≠ "__name__") (hd : (x == ("__debug__" : Str)) = false) : VE Y ρ (.Call (.Name "isinstance" p) [a, .Name x q] [] pos) Q := fun τ σ H w =>
  sE.of (pe_callB (r := rIsi Y.X.K) call_isi hg hm (by decide +kernel) (pa_cons pe_s (pa_cons (pe_bltn hg2 hm2 hv (v := .ty T) rfl hn hd) pa_nil (star_plain rfl)) (star_plain hp)) (by decide) (by decide) (star_plain hp) (by rw [star_plain rfl]; rfl))
    ((hh τ σ H w).mono fun v H1 ⟨r1, d, w1, t, k, e1, e2, q⟩ => by
      refine ⟨v, .ty T, .type t, .type T, k, rfl, .ty T, ?_, kit_ty e2, _, _, (EnvOk.pop w1).bl k, q⟩
      cases d with
      | non => cases e1; cases EnvOk.isNon w1; exact .base .non
      | bl b => cases e1; cases EnvOk.isBl w1; exact .base (.bl b)
      | int b => cases e1; cases EnvOk.isInt w1; exact .base (.int b)
      | str b => cases e1; cases EnvOk.isStr w1; exact .base (.str b)
      | lst ds =>
        cases e1
        obtain ⟨a, vs, rfl, hq, _⟩ := EnvOk.lst w1
        rcases hq with hq | ⟨o, hq⟩
        · exact .base (.lst hq)
        · exact .base (.frz hq)
      | tup ds =>
        cases e1
        obtain ⟨a, vs, rfl, hq, _⟩ := EnvOk.tupq w1
        rcases hq with (hq | ⟨o, hq⟩) | ⟨o, its, n, h1, h2, _⟩
        · exact .base (.tup hq)
        · exact .fTuple hq
        · exact .kTuple h1 h2
      | obj c ns ds => cases e1
      | dct ks ds => cases e1
      | scr _ => cases e1)
theorem e_isi {x : Str} {T : String} {q : Pos} (ha : SndE C a f) (hm2 : x ∈ blts := by decide) (hv : bootBuiltins x = some (.type T) := by decide +kernel) (hp : plain a = true := by rfl) (hg : GlS C.sc "isinstance" := by rfl) (hg2 : GlS C.sc x := by rfl) (hn : x ≠ "__name__" := by decide) (hd : (x == ("__debug__" : Str)) = false := by decide) :
    SndE C (.Call (.Name "isinstance" p) [a, .Name x q] [] pos) (x1 f (oIsi T)) :=
  se1 ha (fun Y u ρ h => ve_isi (u.nb (by decide)) (u.nb hm2) hv (VE.mono h fun _ _ z => z.elim) hp (u.gl hg) (u.gl hg2) hn hd) fun Y u ρ r d o ga e => by
    unfold oIsi at e
    rw [Option.bind_eq_some_iff] at e
    obtain ⟨t, e1, e2⟩ := e
    rw [Option.bind_eq_some_iff] at e2
    obtain ⟨k, e2, e3⟩ := e2
    cases vB_some e3
    exact VX.of fun Q q => ve_isi (u.nb (by decide)) (u.nb hm2) hv (ga _ ⟨t, k, e1, e2, q⟩) hp (u.gl hg) (u.gl hg2) hn hd
end
end
end VL

set_option Elab.async false
set_option linter.all false
set_option maxHeartbeats 1000000
/-! What loops walk over, comprehensions, statements. -/
namespace VL
open PySem PySem.Spec PyProof.Rows L2
section
variable {Y : Cy} {ρ ρ2 : List B} {a b c node tg iter elt : Expr} {f g h : XE} {C : Cst} {o : EV} {pos : Pos} {es : List Expr} {fs : List XE}
def SI (Y : Cy) (tg e : Expr) (it : XI) : Prop := ∀ ρ o, it ρ = some o → match o with
  | .ok r ds => ∀ P : Rg → List D → Prop, P r ds → VI Y ρ tg e P
  | .x x => Y.E x ρ → ∀ P, VI Y ρ tg e P
def SndI (C : Cst) (tg e : Expr) (it : XI) : Prop := ∀ Y, C.On Y → SI Y tg e it
theorem VN.vst {Q : Rg → D → Prop} {N : Rg → Ct → Prop} (h : VN Y ρ a N) (q : ∀ r c, N r c → r.st = true → Q r c.toD) : VE Y ρ a Q := fun τ σ H w => (h τ σ H w).mono fun v H' ⟨p, r, c, e, w', n⟩ => by
  subst e
  have hs : r.st = true := by
    obtain ⟨_, _, _, w2⟩ := id w'
    exact (w2.tt _ List.mem_cons_self).1
  exact ⟨r, c.toD, w'.freeze, q r c n hs⟩
theorem i_seq (ha : SndE C a f) : SndI C tg a (iSeq f) := fun Y u ρ o e => by
  unfold iSeq at e
  split at e
  · split at e
    · cases e
      exact fun P p => vi_list ((ha Y u).gets (by assumption) (.inl rfl) _ ⟨by assumption, _, rfl, p⟩)
    · cases e
  · cases e
    exact fun P p => vi_tup ((ha Y u).gets (by assumption) (.inl rfl) _ ⟨_, rfl, p⟩)
  · cases e
    rename_i r ds e
    exact fun P p => vi_list (VN.vst (ha Y u ρ _ e) fun r' c' ⟨e1, e2⟩ hs => by subst e1 e2; exact ⟨hs, ds, rfl, p⟩)
  · cases e
    exact fun hE P => vi_list ((ha Y u).exc (by assumption) hE _)
  · cases e
theorem i_range1 [NB C.W] {p : Pos} (ha : SndE C a f) (hp : plain a = true := by rfl) (hg : GlS C.sc "range" := by rfl) : SndI C tg (.Call (.Name "range" p) [a] [] pos) (iRange1 f) := fun Y u ρ o e => by
  unfold iRange1 at e
  split at e
  · split at e
    · cases e
      rename_i hc
      exact fun P q => vi_range1 (u.nb (by decide)) ((ha Y u).gets (by assumption) (.inl rfl) _ ⟨_, rfl, hc.1, hc.2, q⟩) hp (u.gl hg)
    · cases e
  · cases e
    exact fun hE P => vi_range1 (u.nb (by decide)) ((ha Y u).exc (by assumption) hE _) hp (u.gl hg)
  · cases e
theorem i_range2 [NB C.W] {p : Pos} (ha : SndE C a f) (hb : SndE C b g) (hp : plain a = true := by rfl) (hp2 : plain b = true := by rfl) (hg : GlS C.sc "range" := by rfl) : SndI C tg (.Call (.Name "range" p) [a, b] [] pos) (iRange2 f g) := fun Y u ρ o e => by
  unfold iRange2 at e
  split at e
  · have ga := (ha Y u).gets (ρ := ρ) (by assumption) (.inl rfl)
    split at e
    · split at e
      · cases e
        rename_i hc
        exact fun P q => vi_range2 (u.nb (by decide)) (ga _ ((hb Y u).gets (by assumption) (.inl rfl) _ ⟨_, _, rfl, rfl, hc, q⟩)) hp hp2 (u.gl hg)
      · cases e
    · cases e
      exact fun hE P => vi_range2 (u.nb (by decide)) (ga _ ((hb Y u).exc (by assumption) hE _)) hp hp2 (u.gl hg)
    · cases e
  · cases e
    exact fun hE P => vi_range2 (u.nb (by decide)) ((ha Y u).exc (by assumption) hE _) hp hp2 (u.gl hg)
  · cases e
/-! ### targets -/
mutual
theorem bnd_ok : ∀ {t : Tg} {r : Rg} {d : D} {ρ ρ2 : List B} {Q : List B → Prop}, bnd t r d ρ = some ρ2 → Q ρ2 → bindT t r d ρ Q
  | .nm i, r, d, ρ, ρ2, Q, e, q => by
    simp only [bnd] at e
    split at e
    · cases e; exact ⟨by assumption, q⟩
    · cases e
  | .tp l, r, d, ρ, ρ2, Q, e, q => by
    simp only [bnd] at e
    split at e
    · split at e
      · exact ⟨_, rfl, by assumption, bnds_ok e q⟩
      · cases e
    · cases e
theorem bnds_ok : ∀ {l : List Tg} {r : Rg} {ds : List D} {ρ ρ2 : List B} {Q : List B → Prop}, bnds l r ds ρ = some ρ2 → Q ρ2 → bindTs l r ds ρ Q
  | [], r, [], ρ, ρ2, Q, e, q => by
    simp only [bnds] at e
    cases e; exact ⟨rfl, q⟩
  | [], r, _ :: _, ρ, ρ2, Q, e, q => by simp [bnds] at e
  | t :: l, r, [], ρ, ρ2, Q, e, q => by simp [bnds] at e
  | t :: l, r, d :: ds, ρ, ρ2, Q, e, q => by
    simp only [bnds] at e
    rw [Option.bind_eq_some_iff] at e
    obtain ⟨ρ3, e1, e2⟩ := e
    exact ⟨d, ds, rfl, bnd_ok e1 (bnds_ok e2 q)⟩
end
/-! ### comprehensions -/
def relS (scope sc : Scope) : Scope := relabel scope { scope := sc, locals := 0, globals := 0, cells := [] }
abbrev Cst.inn (C : Cst) (scope : Scope) : Cst := ⟨C.W, C.N, relS scope C.sc, C.k, false⟩
theorem Cst.On.blk {k : Nat} (u : C.On Y) (hk : C.k = some k) (scope : Scope) (s : Shared) (H : Hp) (D : Addr) (cl : List (Str × Addr)) (fp : List Addr) : (C.inn scope).On (Y.blk scope s H D cl fp) :=
  ⟨u.w, u.n, (by show relabel scope Y.X.env = relS scope C.sc; rw [← u.s]; rfl), (by
    have := (u.ck hk).blk scope s H D cl fp
    show KOk _ C.k
    rw [hk]; exact this), fun z => (by cases z), fun z => (by cases z)⟩
def SndIf (C : Cst) (l : List Expr) : Option XE → Prop
  | none => l = []
  | some f => ∃ e, l = [e] ∧ SndT C e f
theorem if0 : SndIf C [] none := rfl
theorem if1 (h : SndT C a f) : SndIf C [a] (some f) := ⟨_, rfl, h⟩
theorem mxR {x y R : Rg} (hx : x.st = true) (hy : y.st = true) (hR : R.st = true) (h : (x.mx y).mx R = R) : x.mx R = R ∧ y.mx R = R := by
  revert h; revert hx hy hR
  cases x <;> cases y <;> cases R <;> simp [Rg.st, Rg.mx]
theorem lcE_st {cond : Option XE} {fe : XE} {t : Tg} {r : Rg} : ∀ {ds : List D} {p : Rg × List D}, lcE cond fe t r ρ ds = some p → p.1.st = true
  | [], p, e => by cases e; rfl
  | d :: ds, p, e => by
    unfold lcE at e
    rw [Option.bind_eq_some_iff] at e
    obtain ⟨ρ2, e1, e2⟩ := e
    have key : ∀ (x : Rg) (d2 : D), x.st = true → (lcE cond fe t r ρ ds).map (fun p => (x.mx p.1, d2 :: p.2)) = some p → p.1.st = true := by
      intro x d2 hx hm
      rw [Option.map_eq_some_iff] at hm
      obtain ⟨p2, h1, rfl⟩ := hm
      exact mx_el x p2.1 hx (lcE_st h1)
    split at e2
    · cases e2
    · exact lcE_st e2
    · split at e2
      · split at e2
        · exact key _ _ (by assumption) e2
        · cases e2
      · split at e2
        · refine key _ _ ?_ e2
          have : ∀ (r : Rg) (d : D), r.st = true → (nm r d).st = true := fun r d h => by unfold nm; split <;> first | rfl | exact h
          exact this _ _ (by assumption)
        · cases e2
      · cases e2
theorem lc_h {k : Nat} (u : C.On Y) (hk : C.k = some k) {scope : Scope} {t : Tg} {it : XI} {cond : Option XE} {fe : XE} {ifs : List Expr} (hi : SndI C tg iter it) (hc : SndIf (C.inn scope) ifs cond) (he : SndE (C.inn scope) elt fe)
    {r : Rg} {ds : List D} (e1 : it ρ = some (.ok r ds)) (hz : ds.length ≤ sizeLine) {p : Rg × List D} (e2 : lcE cond fe t r ρ ds = some p) {P : List D → Prop} (hP : P p.2) : LcH Y ρ tg iter elt ifs scope t p.1 P := by
  refine hi Y u ρ _ e1 _ ⟨hz, fun rest acc => ∃ p', lcE cond fe t r ρ rest = some p' ∧ p'.1.mx p.1 = p.1 ∧ acc ++ p'.2 = p.2, ⟨p, e2, ?_, rfl⟩, ?_, ?_⟩
  · have := lcE_st e2
    revert this
    cases p.1 <;> simp [Rg.st, Rg.mx]
  · rintro d rest acc ⟨p', e3, h1, h2⟩
    unfold lcE at e3
    rw [Option.bind_eq_some_iff] at e3
    obtain ⟨ρ2, e4, e5⟩ := e3
    refine bnd_ok e4 fun s H Da cl fp => ?_
    have key : ∀ q r2 d2, fe ρ2 = some q → (q = .v r2 d2 ∨ ∃ c, q = .n r2 c ∧ d2 = c.toD) → (nm r2 d2).st = true → (lcE cond fe t r ρ rest).map (fun p => ((nm r2 d2).mx p.1, d2 :: p.2)) = some p' →
        ∀ s H Da cl fp, VE (Y.blk scope s H Da cl fp) ρ2 elt fun r2 d2 => (nm r2 d2).mx p.1 = p.1 ∧ ∃ p', lcE cond fe t r ρ rest = some p' ∧ p'.1.mx p.1 = p.1 ∧ (acc ++ [d2]) ++ p'.2 = p.2 := by
      intro q r2 d2 e6 hq hs hm s H Da cl fp
      rw [Option.map_eq_some_iff] at hm
      obtain ⟨p2, h3, rfl⟩ := hm
      obtain ⟨h4, h5⟩ := mxR hs (lcE_st h3) (lcE_st e2) h1
      exact (he _ (u.blk hk scope s H Da cl fp)).gets e6 hq _ ⟨h4, p2, h3, h5, by simpa using h2⟩
    have key2 : (match fe ρ2 with
      | some (.v r2 d2) => if (nm r2 d2).st = true then (lcE cond fe t r ρ rest).map fun p => ((nm r2 d2).mx p.1, d2 :: p.2) else none
      | some (.n r2 c2) => if r2.st = true then (lcE cond fe t r ρ rest).map fun p => ((nm r2 c2.toD).mx p.1, c2.toD :: p.2) else none
      | _ => none) = some p' → ∀ s H Da cl fp, VE (Y.blk scope s H Da cl fp) ρ2 elt fun r2 d2 => (nm r2 d2).mx p.1 = p.1 ∧ ∃ p', lcE cond fe t r ρ rest = some p' ∧ p'.1.mx p.1 = p.1 ∧ (acc ++ [d2]) ++ p'.2 = p.2 := by
      intro e6
      split at e6
      · split at e6
        · exact key _ _ _ (by assumption) (.inl rfl) (by assumption) e6
        · cases e6
      · split at e6
        · refine key _ _ _ (by assumption) (.inr ⟨_, rfl, rfl⟩) ?_ e6
          have : ∀ (r : Rg) (d : D), r.st = true → (nm r d).st = true := fun r d h => by unfold nm; split <;> first | rfl | exact h
          exact this _ _ (by assumption)
        · cases e6
      · cases e6
    cases cond with
    | none =>
      cases hc
      exact ⟨fun _ => key2 e5, fun z => by cases z⟩
    | some fc =>
        obtain ⟨ec, rfl, hc⟩ := hc
        have uu := u.blk hk scope s H Da cl fp
        simp only at e5
        cases hv : fc ρ2 with
        | none => rw [hv] at e5; cases e5
        | some q =>
          rw [hv] at e5
          cases q with
          | v r3 d3 =>
            cases d3 with
            | bl kk =>
              refine VT.mono ((hc _ uu).bl hv) fun b hb => ?_
              subst hb
              cases b with
              | true => exact ⟨fun _ => key2 e5, fun z => by cases z⟩
              | false => exact ⟨fun z => (by cases z), fun _ => ⟨p', e5, h1, h2⟩⟩
            | _ => cases e5
          | _ => cases e5
  · rintro acc ⟨p', e3, h1, h2⟩
    cases e3
    have e4 : acc = p.2 := by simpa using h2
    rw [e4]; exact hP
/-- a target that is met in each context of C -/
abbrev TgS (C : Cst) (tg : Expr) (t : Tg) : Prop := ∀ Y, C.On Y → TgOk Y.X tg t
theorem g_nm (i : Nat) {x : Str} {p : Pos} (hN : C.N.Nodup) (hi : C.N[i]? = some x := by rfl) (hx : Loc C.sc x := by first | exact Or.inl rfl | exact Or.inr rfl) (hf : C.d = true ∨ C.sc.names.lookup x = some .local := by first | exact Or.inl rfl | exact Or.inr rfl) : TgS C (.Name x p) (.nm i) := fun Y u =>
  tg_nm i (by rw [u.n]; exact hN) (by rw [u.n]; exact hi) (by rw [u.s]; exact hx) (hf.imp (fun h => u.fn h x) fun h => by rw [u.s]; exact h)
end
end VL

set_option Elab.async false
set_option linter.all false
set_option maxHeartbeats 1000000
/-! Statements. -/
namespace VL
open PySem PySem.Spec PyProof.Rows L2
section
variable {Y : Cy} {ρ ρ2 : List B} {a b c node tg iter elt e : Expr} {f g h : XE} {C : Cst} {o : EV} {pos cpos : Pos} {es : List Expr} {fs : List XE} {st : Stmt} {rest body sa sb : List Stmt} {s t : XS} {Φ : Fin}
def OnF (Y : Cy) (Φ : Fin) : Out → Prop
  | .nx ρ => Φ.nx ρ | .rt r d => (r.st = true ∨ d.sc = true) ∧ Φ.rt r d | .rn r c => Φ.rn r c | .bk ρ => Φ.bk ρ | .ct ρ => Φ.ct ρ | .ex x ρ => Y.E x ρ
def Snd1 (C : Cst) (st : Stmt) (s : XS) : Prop := ∀ Y, C.On Y → ∀ ρ o Φ, s ρ = some o → OnF Y Φ o → V1 Y ρ st Φ
def SndS (C : Cst) (st : List Stmt) (s : XS) : Prop := ∀ Y, C.On Y → ∀ ρ o Φ, s ρ = some o → OnF Y Φ o → VS Y ρ st Φ
theorem bS_some {p : Option Out} {k : XS} {o : Out} (h : bS p k = some o) : (∃ ρ, p = some (.nx ρ) ∧ k ρ = some o) ∨ (p = some o ∧ ∀ ρ, o ≠ .nx ρ) := by
  unfold bS at h
  split at h
  · exact .inl ⟨_, rfl, h⟩
  · rename_i hn
    exact .inr ⟨h, fun ρ z => hn ρ (by rw [h, z])⟩
theorem s_nil : SndS C [] sNil := fun Y u ρ o Φ e q => by cases e; exact vs_nil q
theorem s_cons (hs : Snd1 C st s) (ht : SndS C rest t) : SndS C (st :: rest) (sCons s t) := fun Y u ρ o Φ e q => by
  rcases bS_some e with ⟨ρ2, e1, e2⟩ | ⟨e1, hn⟩
  · exact vs_cons (hs Y u ρ _ _ e1 (ht Y u ρ2 o Φ e2 q))
  · refine vs_cons (hs Y u ρ _ _ e1 ?_)
    cases o with
    | nx ρ => exact absurd rfl (hn ρ)
    | rt r d => exact q
    | rn r c => exact q
    | bk ρ => exact q
    | ct ρ => exact q
    | ex x ρ => exact q
theorem s_one (hs : Snd1 C st s) : SndS C [st] s := fun Y u ρ o Φ e q => vs_one (hs Y u ρ o Φ e q)
/-- an own object is left as it is -/
theorem EnvOk.frzSlot {K : PySem.W.Frag} {mg : Mg} {Hs Hi H : Hp} {σ : L2.St} {τ : List T} {i : Nat} {r : Rg} {c : Ct} (h : EnvOk K mg Hs Hi ρ σ τ H) (e : ρ[i]? = some (.own r c)) (st : ∀ t ∈ τ, t.stable = true) : EnvOk K mg Hs Hi (ρ.set i (.v r c.toD)) σ τ H := by
  obtain ⟨a, ha, w⟩ := EnvOk.take h e st
  have hr : r.st = true := by
    obtain ⟨_, _, _, w2⟩ := id w
    exact (w2.tt _ List.mem_cons_self).1
  have w2 := EnvOk.set (i := i) w.freeze (.inl hr)
  have e1 : σ.set i (some (.ref a)) = σ := by
    apply List.ext_getElem?
    intro j
    by_cases hj : j = i
    · subst hj
      rw [List.getElem?_set]
      split
      · split
        · rw [ha]
        · rename_i h1 h2
          exact absurd ((List.getElem?_eq_some_iff.mp ha).1) h2
      · rename_i hh; exact absurd rfl hh
    · rw [List.getElem?_set_ne (Ne.symm hj)]
  have e2 : nm r c.toD = r := by unfold nm; cases c <;> rfl
  rw [e1, e2, List.set_set] at w2
  exact w2
theorem s_frz (i : Nat) (ht : SndS C rest t) : SndS C rest (sCons (sFrz i) t) := fun Y u ρ o Φ e q => by
  rcases bS_some e with ⟨ρ2, e1, e2⟩ | ⟨e1, hn⟩
  · unfold sFrz at e1
    split at e1
    · cases e1
      rename_i he
      exact fun τ σ H w hst => ht Y u _ o Φ e2 q τ σ H (EnvOk.frzSlot w he hst) hst
    · cases e1
      exact ht Y u _ o Φ e2 q
    · cases e1
  · unfold sFrz at e1
    split at e1
    · cases e1; exact absurd rfl (hn _)
    · cases e1; exact absurd rfl (hn _)
    · cases e1
theorem s_pass : Snd1 C (.Pass pos) sPass := fun Y u ρ o Φ e q => by cases e; exact v1_pass q
theorem s_brk : Snd1 C (.Break pos) sBrk := fun Y u ρ o Φ e q => by cases e; exact v1_break q
theorem s_ct : Snd1 C (.Continue pos) sCt := fun Y u ρ o Φ e q => by cases e; exact v1_cont q
theorem s_doc {x j pos'} : Snd1 C (.Expr (.Constant (.str x) j pos) pos') sPass := fun Y u ρ o Φ e q => by cases e; exact v1_doc q
theorem bV_some {p : Option EV} {k : EV → Option Out} {o : Out} (h : bV ρ p k = some o) : (∃ x, p = some (.x x) ∧ o = .ex x ρ) ∨ ∃ q, p = some q ∧ k q = some o ∧ ∀ x, q ≠ .x x := by
  unfold bV at h
  split at h
  · cases h
  · cases h; exact .inl ⟨_, rfl, rfl⟩
  · rename_i hn
    exact .inr ⟨_, rfl, h, fun x z => hn x (by rw [z])⟩
theorem s_set (i : Nat) {x : Str} {p : Pos} (ha : SndE C e f) (hN : C.N.Nodup) (hi : C.N[i]? = some x := by rfl) (hx : Loc C.sc x := by first | exact Or.inl rfl | exact Or.inr rfl) (hd : C.d = true := by rfl)
    (hs : ∀ env : Env, env.scope = C.sc → swapsWith e (some (.Name x p)) pos.line env = pure false := by intro env h; first | rfl | (cases env; cases h; rfl)) : Snd1 C (.Assign [.Name x p] e pos) (sSet i f) := fun Y u ρ o Φ e1 q => by
  have hN' : Y.X.N.Nodup := by rw [u.n]; exact hN
  have hi' : Y.X.N[i]? = some x := by rw [u.n]; exact hi
  have hx' : Loc Y.X.env.scope x := by rw [u.s]; exact hx
  have hf := u.fn hd x
  rcases bV_some e1 with ⟨x1, e2, rfl⟩ | ⟨q1, e2, e3, hn⟩
  · exact v1_set i ((ha Y u).exc e2 q _) hN' hi' hx' (hs _ u.s) (.inl hf)
  · cases q1 with
    | v r d =>
      simp only at e3
      split at e3
      · cases e3
        exact v1_set i ((ha Y u).gets e2 (.inl rfl) _ ⟨by assumption, q⟩) hN' hi' hx' (hs _ u.s) (.inl hf)
      · cases e3
    | n r c =>
      cases e3
      exact v1_setN i ((ha Y u ρ _ e2).vn q) hN' hi' hx' (hs _ u.s) (.inl hf)
    | x x1 => exact absurd rfl (hn x1)
theorem noS_ok {own : List Nat} (h : own.all (noS ρ) = true) : ∀ i ∈ own, ρ[i]? = some .no ∨ ρ[i]? = none := fun i hi => by
  have := List.all_eq_true.mp h i hi
  unfold noS at this
  split at this
  · exact .inr (by assumption)
  · exact .inl (by assumption)
  · cases this
theorem e_lc {k : Nat} {scope : Scope} {ifs : List Expr} {it : XI} {cond : Option XE} {fe : XE} (own : List (Str × Nat)) (t : Tg) (hg : TgS (C.inn scope) tg t) (hi : SndI C tg iter it) (hc : SndIf (C.inn scope) ifs cond) (he : SndE (C.inn scope) elt fe) (hN : C.N.Nodup) (ok : BlkOk C.N C.sc scope own)
    (hk : C.k = some k := by rfl) (hsl : ∀ i ∈ t.sl, i ∈ own.map (·.2) := by decide) (hs : ∀ (env : Env) x, foldedSetIterable iter env x = pure x := by intro _ _; rfl) : SndE C (.ListComp elt [⟨tg, iter, ifs, 0⟩] scope pos) (xLc (own.map (·.2)) t it cond fe) := fun Y u ρ o e => by
  have hN' : Y.X.N.Nodup := by rw [u.n]; exact hN
  have ok' : BlkOk Y.X.N Y.X.env.scope scope own := by rw [u.n, u.s]; exact ok
  unfold xLc at e
  split at e
  · rename_i hv
    split at e
    · cases e
    · cases e
      rename_i x e1
      exact fun hE => VN.ve (vn_lc own t (u.ck hk).calm hN' ok' (fun s H Da cl fp => hg _ (u.blk hk scope s H Da cl fp)) (noS_ok hv) hsl .nw rfl (hi Y u ρ _ e1 hE _) (hs _))
    · rename_i r ds e1
      split at e
      · rename_i h1
        rw [Option.map_eq_some_iff] at e
        obtain ⟨p, e2, rfl⟩ := e
        exact VX.ofN fun Q q => vn_lc own t (u.ck hk).calm hN' ok' (fun s H Da cl fp => hg _ (u.blk hk scope s H Da cl fp)) (noS_ok hv) hsl p.1 (lcE_st e2) (lc_h u hk hi hc he e1 h1 e2 (P := fun acc => Q p.1 (.lst acc)) q) (hs _)
      · cases e
  · cases e
/-- y = [..] -/
theorem s_setLc {k : Nat} {scope : Scope} {ifs : List Expr} {it : XI} {cond : Option XE} {fe : XE} {y : Str} {py spos : Pos} (i : Nat) (own : List (Str × Nat)) (t : Tg) (hg : TgS (C.inn scope) tg t) (hi : SndI C tg iter it) (hc : SndIf (C.inn scope) ifs cond) (he : SndE (C.inn scope) elt fe) (hN : C.N.Nodup) (ok : BlkOk C.N C.sc scope own)
    (hk : C.k = some k := by rfl) (hy : C.N[i]? = some y := by rfl) (hyl : C.sc.names.lookup y = some .local := by rfl) (hsl : ∀ i ∈ t.sl, i ∈ own.map (·.2) := by decide) (hs : ∀ (env : Env) x, foldedSetIterable iter env x = pure x := by intro _ _; rfl)
    (hsw : ∀ env : Env, env.scope = C.sc → swapsWith (.ListComp elt [⟨tg, iter, ifs, 0⟩] scope pos) (some (.Name y py)) spos.line env = pure true := by intro env h; cases env; cases h; rfl) :
    Snd1 C (.Assign [.Name y py] (.ListComp elt [⟨tg, iter, ifs, 0⟩] scope pos) spos) (sSet i (xLc (own.map (·.2)) t it cond fe)) := fun Y u ρ o Φ e q => by
  have hN' : Y.X.N.Nodup := by rw [u.n]; exact hN
  have ok' : BlkOk Y.X.N Y.X.env.scope scope own := by rw [u.n, u.s]; exact ok
  have hy' : Y.X.N[i]? = some y := by rw [u.n]; exact hy
  have hyl' : Y.X.env.scope.names.lookup y = some .local := by rw [u.s]; exact hyl
  have hg' := fun s H Da cl fp => hg _ (u.blk hk scope s H Da cl fp)
  unfold sSet xLc at e
  split at e
  · rename_i hv
    split at e
    · cases e
    · cases e
      rename_i x e1
      exact v1_setLc i own t (u.ck hk).calm hN' ok' hg' (noS_ok hv) hsl .nw rfl (hsw _ u.s) (hi Y u ρ _ e1 q _) hy' hyl' (hs _)
    · rename_i r ds e1
      split at e
      · rename_i h1
        cases e2 : lcE cond fe t r ρ ds with
        | none => rw [e2] at e; cases e
        | some p =>
          rw [e2] at e
          cases e
          exact v1_setLc i own t (u.ck hk).calm hN' ok' hg' (noS_ok hv) hsl p.1 (lcE_st e2) (hsw _ u.s) (lc_h u hk hi hc he e1 h1 e2 (P := fun acc => Φ.nx (ρ.set i (.own p.1 (.lst acc)))) q) hy' hyl' (hs _)
      · cases e
  · cases e
theorem s_setT {tg : Expr} (t : Tg) (hg : TgS C tg t) (ha : SndE C e f) (hs : ∀ env : Env, swapsWithSole [tg] e pos.line env = pure false := by intro _; rfl) (hw : ∀ env : Env, swappedStores [tg] e env = pure none := by intro _; rfl) (h1 : ∀ env : Env, List.map (fun x => x.2) (assignEach [tg] env) = [assign tg env] := by intro _; rfl) : Snd1 C (.Assign [tg] e pos) (sSetT t f) := fun Y u ρ o Φ e1 q => by
  rcases bV_some e1 with ⟨x1, e2, rfl⟩ | ⟨q1, e2, e3, hn⟩
  · exact v1_setT t (hg Y u) ((ha Y u).exc e2 q _) (hs _) (hw _) (h1 _)
  · cases q1 with
    | v r d =>
      simp only [Option.map_eq_some_iff] at e3
      obtain ⟨ρ2, e4, rfl⟩ := e3
      exact v1_setT t (hg Y u) ((ha Y u).gets e2 (.inl rfl) _ (bnd_ok e4 q)) (hs _) (hw _) (h1 _)
    | n r c => cases e3
    | x x1 => exact absurd rfl (hn x1)
theorem s_augAdd (i : Nat) {x : Str} {p : Pos} (ha : SndE C e f) (hN : C.N.Nodup) (hi : C.N[i]? = some x := by rfl) (hx : Loc C.sc x := by first | exact Or.inl rfl | exact Or.inr rfl) (hd : C.d = true := by rfl) : Snd1 C (.AugAssign (.Name x p) .Add e pos) (sAug oAdd i f) := fun Y u ρ o Φ e1 q => by
  have hN' : Y.X.N.Nodup := by rw [u.n]; exact hN
  have hi' : Y.X.N[i]? = some x := by rw [u.n]; exact hi
  have hx' : Loc Y.X.env.scope x := by rw [u.s]; exact hx
  have hf := u.fn hd x
  unfold sAug at e1
  split at e1
  · rename_i r n hρ
    rcases bV_some e1 with ⟨x1, e2, rfl⟩ | ⟨q1, e2, e3, hn⟩
    · exact v1_augAdd i hρ ((ha Y u).exc e2 q _) hN' hi' hx' (.inl hf)
    · cases q1 with
      | v r2 d =>
        cases d with
        | int j =>
          have h3 : some (Out.nx (ρ.set i (.v .nw (.int (n + j))))) = some o := e3
          cases h3
          exact v1_augAdd i hρ ((ha Y u).gets e2 (.inl rfl) _ ⟨j, rfl, q⟩) hN' hi' hx' (.inl hf)
        | _ => exact absurd (show (none : Option Out) = some o from e3) (by intro z; cases z)
      | n r2 c => cases e3
      | x x1 => exact absurd rfl (hn x1)
  · cases e1
theorem s_app (i : Nat) {x : Str} {p apos : Pos} (ha : SndE C e f) (hN : C.N[i]? = some x := by rfl) (hv : Vis C.sc x := by first | exact Or.inl rfl | exact Or.inr (Or.inl rfl) | exact Or.inr (Or.inr rfl)) (hd : (x == ("__debug__" : Str)) = false := by decide) (hcd : (x == ("__classdict__" : Str)) = false := by decide)
    (hp : plain e = true := by rfl) (hs : ∀ env : Env, swapsWith (.Call (.Attribute (.Name x p) "append" apos) [e] [] cpos) none pos.line env = pure false := by intro _; rfl)
    (hbase : ∀ env : Env, attributeBase (.Name x p) "append" env (eval (.Name x p) env) = eval (.Name x p) env := by intro _; rfl)
    (hfew : ∀ env : Env, ((backTo cpos (starEach [e] env)).all (fun x => !x.1) && (backToKw cpos (keywordEach [] env)).all (fun x => x.1.isSome) && decide (([e] : List Expr).length + ([] : List Keyword).length + (if ([] : List Keyword).isEmpty then 0 else 1) < 30)) = true := by intro _; rfl)
    (hline : (apos.endLine == cpos.line) = true := by rfl) : Snd1 C (.Expr (.Call (.Attribute (.Name x p) "append" apos) [e] [] cpos) pos) (sApp i f) := fun Y u ρ o Φ e1 q => by
  have hN' : Y.X.N[i]? = some x := by rw [u.n]; exact hN
  have hv' : Vis Y.X.env.scope x := by rw [u.s]; exact hv
  unfold sApp at e1
  split at e1
  · rename_i r ds hρ
    rcases bV_some e1 with ⟨x1, e2, rfl⟩ | ⟨q1, e2, e3, hn⟩
    · exact v1_append i hρ ((ha Y u).exc e2 q _) hN' hv' hd hcd hp (hs _) (hbase _) (hfew _) hline
    · cases q1 with
      | v r2 d =>
        simp only at e3
        split at e3
        · cases e3
          rename_i hc
          exact v1_append i hρ ((ha Y u).gets e2 (.inl rfl) _ ⟨hc.1, hc.2, q⟩) hN' hv' hd hcd hp (hs _) (hbase _) (hfew _) hline
        · cases e3
      | n r2 c =>
        simp only at e3
        split at e3
        · cases e3
          rename_i hc
          have : (nm r2 c.toD).st = true := by unfold nm; split <;> first | rfl | exact hc.1
          exact v1_append i hρ ((ha Y u).gets e2 (.inr ⟨c, rfl, rfl⟩) _ ⟨this, hc.2, q⟩) hN' hv' hd hcd hp (hs _) (hbase _) (hfew _) hline
        · cases e3
      | x x1 => exact absurd rfl (hn x1)
  · cases e1
theorem bT_some {p : Option EV} {k : Bool → Option Out} {o : Out} (h : bT ρ p k = some o) : (∃ x, p = some (.x x) ∧ o = .ex x ρ) ∨ ∃ r b, p = some (.v r (.bl b)) ∧ k b = some o := by
  rcases bV_some h with ⟨x, e1, e2⟩ | ⟨q, e1, e2, _⟩
  · exact .inl ⟨x, e1, e2⟩
  · split at e2
    · exact .inr ⟨_, _, e1, e2⟩
    · cases e2
theorem s_if (hc : SndT C c f) (ha : SndS C sa s) (hb : SndS C sb t) : Snd1 C (.If c sa sb pos) (sIf f s t) := fun Y u ρ o Φ e q => by
  rcases bT_some e with ⟨x, e1, rfl⟩ | ⟨r, k, e1, e2⟩
  · exact v1_if ((hc Y u).exc e1 q _)
  · refine v1_if (VT.mono ((hc Y u).bl e1) fun b hb' => ?_)
    subst hb'
    cases b with
    | true => exact ⟨fun _ => ha Y u ρ o Φ (by rw [if_pos rfl] at e2; exact e2) q, fun z => by cases z⟩
    | false => exact ⟨fun z => (by cases z), fun _ => hb Y u ρ o Φ (by rw [if_neg Bool.false_ne_true] at e2; exact e2) q⟩
theorem s_ret (ha : SndE C e f) : Snd1 C (.Return (some e) pos) (sRet f) := fun Y u ρ o Φ e1 q => by
  rcases bV_some e1 with ⟨x1, e2, rfl⟩ | ⟨q1, e2, e3, hn⟩
  · exact v1_ret ((ha Y u).exc e2 q _)
  · cases q1 with
    | v r d =>
      simp only at e3
      split at e3
      · cases e3; exact v1_ret ((ha Y u).gets e2 (.inl rfl) _ q)
      · cases e3
    | n r c => cases e3; exact v1_retN ((ha Y u ρ _ e2).vn q)
    | x x1 => exact absurd rfl (hn x1)
theorem s_ret0 : Snd1 C (.Return none pos) sRet0 := fun Y u ρ o Φ e q => by cases e; exact v1_ret0 q.2
theorem s_retV (i : Nat) {x : Str} {p : Pos} (hN : C.N[i]? = some x := by rfl) (hv : Vis C.sc x := by first | exact Or.inl rfl | exact Or.inr (Or.inl rfl) | exact Or.inr (Or.inr rfl))
    (hd : (x == ("__debug__" : Str)) = false := by decide) (hcd : (x == ("__classdict__" : Str)) = false := by decide) : Snd1 C (.Return (some (.Name x p)) pos) (sRetV i) := fun Y u ρ o Φ e q => by
  have hN' : Y.X.N[i]? = some x := by rw [u.n]; exact hN
  have hv' : Vis Y.X.env.scope x := by rw [u.s]; exact hv
  unfold sRetV at e
  split at e
  · split at e
    · cases e; exact v1_ret (ve_name i (by assumption) q hN' hv' hd hcd)
    · cases e
  · cases e; exact v1_retO i (by assumption) q hN' hv' hd hcd
  · cases e
theorem s_expr (ha : SndE C e f) (hs : ∀ env : Env, swapsWith e none pos.line env = pure false := by intro _; rfl) : Snd1 C (.Expr e pos) (sExpr f) := fun Y u ρ o Φ e1 q => by
  rcases bV_some e1 with ⟨x1, e2, rfl⟩ | ⟨q1, e2, e3, hn⟩
  · exact v1_expr ((ha Y u).exc e2 q _) (hs _)
  · cases e3
    refine v1_expr ((ha Y u ρ _ e2).ve ?_) (hs _)
    cases q1 with
    | v r d => exact q
    | n r c => exact q
    | x x1 => exact absurd rfl (hn x1)
/-! loops -/
theorem OnF.stop {J K2 : List B → Prop} {out : Out} (h : OnF Y Φ out) (hn : ∀ ρ, out ≠ .nx ρ ∧ out ≠ .ct ρ ∧ out ≠ .bk ρ) : OnF Y { Φ with nx := J, ct := J, bk := K2 } out := by
  cases out with
  | nx ρ => exact absurd rfl (hn ρ).1
  | ct ρ => exact absurd rfl (hn ρ).2.1
  | bk ρ => exact absurd rfl (hn ρ).2.2
  | rt r d => exact h
  | rn r c => exact h
  | ex x ρ => exact h
theorem s_for {k : Nat} {it : XI} (t : Tg) (hg : TgS C tg t) (hi : SndI C tg iter it) (hb : SndS C body s) (hk : C.k = some k := by rfl) (hs : ∀ (env : Env) x, foldedSetIterable iter env x = pure x := by intro _ _; rfl) : Snd1 C (.For tg iter body [] pos) (sFor t it s) := fun Y u ρ o Φ e q => by
  unfold sFor at e
  split at e
  · cases e
  · cases e
    rename_i x e1
    exact v1_for t (hg Y u) (u.ck hk).po (u.ck hk).calm (hi Y u ρ _ e1 q _) (hs _)
  · rename_i r ds e1
    refine v1_for t (hg Y u) (u.ck hk).po (u.ck hk).calm (hi Y u ρ _ e1 _ ⟨fun rest ρ' => forE s t r rest ρ' = some o, e, ?_, ?_⟩) (hs _)
    · intro d rest ρ' e2
      unfold forE at e2
      rw [Option.bind_eq_some_iff] at e2
      obtain ⟨ρ2, e3, e4⟩ := e2
      refine bnd_ok e3 ?_
      cases hb2 : s ρ2 with
      | none => rw [hb2] at e4; cases e4
      | some out =>
        rw [hb2] at e4
        refine hb Y u ρ2 out _ hb2 ?_
        cases out with
        | nx ρ3 => exact e4
        | ct ρ3 => exact e4
        | bk ρ3 => cases e4; exact q
        | rt r d => cases e4; exact q
        | rn r c => cases e4; exact q
        | ex x ρ => cases e4; exact q
    · intro ρ' e2
      cases e2; exact q
theorem s_while {k : Nat} (hc : SndT C c f) (hb : SndS C body s) (hk : C.k = some k := by rfl) : Snd1 C (.While c body [] pos) (sWhile f s) := fun Y u ρ o Φ e q => by
  obtain ⟨n, e⟩ := sWhile_some e
  refine v1_while (u.ck hk).po (fun m ρ' => whE f s m ρ' = some o) ⟨n, e⟩ fun m ρ' e1 => ?_
  cases m with
  | zero => cases e1
  | succ m =>
    rcases bT_some e1 with ⟨x, e2, rfl⟩ | ⟨r, kk, e2, e3⟩
    · exact (hc Y u).exc e2 q _
    · refine VT.mono ((hc Y u).bl e2) fun b hb' => ?_
      subst hb'
      cases b with
      | false =>
        rw [if_neg Bool.false_ne_true] at e3
        cases e3
        exact ⟨fun z => (by cases z), fun _ => q⟩
      | true =>
        rw [if_pos rfl] at e3
        refine ⟨fun _ => ?_, fun z => by cases z⟩
        cases hb2 : s ρ' with
        | none => rw [hb2] at e3; cases e3
        | some out =>
          rw [hb2] at e3
          refine hb Y u ρ' out _ hb2 ?_
          cases out with
          | nx ρ3 => exact ⟨m, Nat.lt_succ_self m, e3⟩
          | ct ρ3 => exact ⟨m, Nat.lt_succ_self m, e3⟩
          | bk ρ3 => cases e3; exact q
          | rt r d => cases e3; exact q
          | rn r c => cases e3; exact q
          | ex x ρ => cases e3; exact q
end
end VL

set_option Elab.async false
set_option linter.all false
set_option maxHeartbeats 1000000
/-! raise, try, a def. -/
namespace VL
open PySem PySem.Spec PyProof.Rows L2
section
variable {Y : Cy} {ρ ρ2 : List B} {a b c node tg iter elt e : Expr} {f g h : XE} {C : Cst} {o : EV} {pos cpos : Pos} {es : List Expr} {fs : List XE} {st : Stmt} {rest body sa sb : List Stmt} {s t : XS} {Φ : Fin}
/-- an own class of errors with one field -/
structure XcF (W : Wd) (c f : Str) (Ca fI : Addr) : Prop where
  g : W.mg c = some (.ref Ca)
  t : PySem.XcX.XcTxt W.P W.K f Ca fI
theorem s_raise {k : Nat} {x fl : Str} {Ca fI : Addr} {p pos2 : Pos} (T : XcF C.W x fl Ca fI) (ha : SndE C a f) (hk : C.k = some k := by rfl) (hp : plain a = true := by rfl) (hg : GlS C.sc x := by rfl) (hdb : (x == ("__debug__" : Str)) = false := by decide) :
    Snd1 C (.Raise (some (.Call (.Name x p) [a] [] pos)) none pos2) (sRaise x fl f) := fun Y u ρ o Φ e q => by
  have hw := u.w
  obtain ⟨W, N, sc, kc, dd⟩ := C
  cases hw
  rcases bV_some e with ⟨x1, e1, rfl⟩ | ⟨q1, e1, e2, hn⟩
  · exact v1_raise (u.ck hk) T.t T.g ((ha Y u).exc e1 q _) hp (u.gl hg) hdb
  · cases q1 with
    | v r d =>
      simp only at e2
      split at e2
      · cases e2
        exact v1_raise (u.ck hk) T.t T.g ((ha Y u).gets e1 (.inl rfl) _ ⟨by assumption, q⟩) hp (u.gl hg) hdb
      · cases e2
    | n r c => cases e2
    | x x1 => exact absurd rfl (hn x1)
/-! ### try -/
def RunOk (C : Cst) (suite : List Stmt) (oi : Option Nat) (h : XH) : Prop :=
  ∀ Y, C.On Y → ∀ x ρ o o' Φ, h.run x ρ = some o → clr oi o = some o' → OnF Y Φ o' → ∀ Ca, Y.X.mg x.c = some (.ref Ca) → ∀ a oe pn cls dd τ, cls = .ref Ca → Zc cls dd oe → (∃ vs, oe.data = .fields vs) → VS (Y.suite x a oe pn cls dd τ) (inB oi a ρ) suite (outF oi Φ)
def TkOk (W : Wd) (c : Value) (tk : Str → Option Bool) : Prop := ∀ cn b, tk cn = some b → ∃ Ca, W.mg cn = some (.ref Ca) ∧ PySem.W.exmOne W.K (.ref Ca) c = some b
def NmS (C : Cst) (on : Option Str) (oi : Option Nat) : Prop := match on, oi with
  | none, none => True
  | some n, some i => C.N[i]? = some n ∧ C.sc.names.lookup n = some .local
  | _, _ => False
inductive HdOk (C : Cst) : ExceptHandler → XH → (Value × Option Nat) → Prop
  | mk {x : Str} {np pos' : Pos} {on : Option Str} {suite : List Stmt} {c : Value} {h : XH} (hc : C.W.mg x = some c) (hg : GlS C.sc x) (hd : (x == ("__debug__" : Str)) = false) (hn : NmS C on h.oi) (he : suite ≠ []) (ht : TkOk C.W c h.tk) (hr : RunOk C suite h.oi h) :
      HdOk C (.ExceptHandler (some (.Name x np)) on suite pos') h (c, h.oi)
inductive HdsOk (C : Cst) : List ExceptHandler → List XH → List (Value × Option Nat) → Prop
  | nil : HdsOk C [] [] []
  | cons {eh : ExceptHandler} {h : XH} {p : Value × Option Nat} {ehs : List ExceptHandler} {hs : List XH} {l : List (Value × Option Nat)} (h1 : HdOk C eh h p) (r : HdsOk C ehs hs l) : HdsOk C (eh :: ehs) (h :: hs) (p :: l)
theorem nm_ok (u : C.On Y) {on : Option Str} {oi : Option Nat} (hn : NmS C on oi) : NmOk Y.X on oi := by
  cases on with
  | none => cases oi with
    | none => exact trivial
    | some i => exact hn.elim
  | some n => cases oi with
    | none => exact hn.elim
    | some i =>
      obtain ⟨h1, h2⟩ := (show C.N[i]? = some n ∧ C.sc.names.lookup n = some .local from hn)
      exact ⟨by rw [u.n]; exact h1, by rw [← u.s] at h2; exact h2⟩
theorem HdsOk.hsok (u : C.On Y) {ehs : List ExceptHandler} {hs : List XH} {l : List (Value × Option Nat)} (hh : HdsOk C ehs hs l) : HsOk Y.X ehs l := by
  induction hh with
  | nil => exact trivial
  | cons h1 r ih =>
    cases h1 with
    | mk hc hg hd hn he ht hr =>
      refine ⟨⟨u.gl hg, hd, .inl (by rw [u.mg]; exact hc)⟩, ?_, he, ih⟩
      exact nm_ok u hn
theorem HdsOk.hw (u : C.On Y) {ehs : List ExceptHandler} {hs : List XH} {l : List (Value × Option Nat)} {x : Exc} {ρ : List B} {o : Out} (hh : HdsOk C ehs hs l) (e : hdE hs x ρ = some o) (q : OnF Y Φ o) : HW Y Φ ehs l x ρ := by
  induction hh with
  | nil => cases e; exact q
  | @cons eh h p ehs hs l h1 r ih =>
    cases h1 with
    | mk hc hg hd hn he ht hr =>
      unfold hdE at e
      cases ht1 : h.tk x.c with
      | none => rw [ht1] at e; cases e
      | some b =>
        rw [ht1] at e
        obtain ⟨Ca, h1, h2⟩ := ht x.c b ht1
        refine ⟨b, Ca, by rw [u.mg]; exact h1, by rw [u.K]; exact h2, fun hb => ?_, fun hb => ?_⟩
        · subst hb
          simp only [Option.bind_eq_some_iff] at e
          obtain ⟨o1, e1, e2⟩ := e
          exact fun a oe pn cls dd τ h3 h4 h5 => hr Y u x ρ o1 o Φ e1 e2 q Ca (by rw [u.mg]; exact h1) a oe pn cls dd τ h3 h4 h5
        · subst hb
          exact ih e
theorem s_try {k : Nat} {eh : ExceptHandler} {ehs : List ExceptHandler} {hs : List XH} {l : List (Value × Option Nat)} (hb : SndS C body s) (hh : HdsOk C (eh :: ehs) hs l) (hk : C.k = some k := by rfl) (hd : C.d = true := by rfl) : Snd1 C (.Try body (eh :: ehs) [] [] pos) (sTry s hs) := fun Y u ρ o Φ e q => by
  obtain ⟨st1, st2⟩ := u.st hd
  refine v1_try l (u.ck hk) (hh.hsok u) (fun pn xe τ o2 => ?_) st1 st2
  have u2 : C.On (Y.tr Φ (eh :: ehs) l pn xe τ) := ⟨u.w, u.n, u.s, by rw [hk]; exact o2, u.fn, u.st⟩
  unfold sTry at e
  split at e
  · rename_i x ρ2 e1
    exact hb _ u2 ρ _ Φ e1 (hh.hw u e q)
  · rename_i hn
    refine hb _ u2 ρ o Φ e ?_
    cases o with
    | ex x ρ2 => exact absurd e (hn x ρ2)
    | nx ρ => exact q
    | rt r d => exact q
    | rn r c => exact q
    | bk ρ => exact q
    | ct ρ => exact q
abbrev Cst.ex (C : Cst) : Cst := ⟨C.W, C.N, C.sc, none, C.d⟩
theorem Cst.On.suite (u : C.On Y) {x : Exc} {a : Addr} {oe : Obj} {pn : List (Addr × Obj)} {cls : Value} {dd : Option Addr} {τ : List T} : C.ex.On (Y.suite x a oe pn cls dd τ) := ⟨u.w, u.n, u.s, trivial, u.fn, u.st⟩
/-- a suite without a name -/
theorem run_plain {tk : Str → Option Bool} {suite : List Stmt} (hs : SndS C.ex suite s) : RunOk C suite none ⟨tk, none, fun _ => s⟩ := fun Y u x ρ o o' Φ e1 e2 q Ca hm a oe pn cls dd τ h3 h4 h5 => by
  refine hs _ u.suite ρ o _ e1 ?_
  cases o with
  | ex x ρ2 => cases e2
  | nx ρ => cases e2; exact q
  | rt r d => cases e2; exact q
  | rn r c => cases e2; exact q
  | bk ρ => cases e2; exact q
  | ct ρ => cases e2; exact q
/-- the parts of x = (.., e.f, ..) -/
inductive SF (C : Cst) (n : Str) (T : Addr) : List Expr → List XF → Prop
  | nil : SF C n T [] []
  | str {i : Str} {j} {es : List Expr} {l : List XF} {pos : Pos} (r : SF C n T es l) : SF C n T (.Constant (.str i) j pos :: es) (.c (.str i) :: l)
  | int {i : Int} {j} {es : List Expr} {l : List XF} {pos : Pos} (r : SF C n T es l) : SF C n T (.Constant (.int i) j pos :: es) (.c (.int i) :: l)
  | fld {f : Str} {p pos : Pos} {es : List Expr} {l : List XF} (noN : PySem.W.findIn C.W.K (.ref T) f = some none) (r : SF C n T es l) : SF C n T (.Attribute (.Name n p) f pos :: es) (.f f :: l)
theorem zip_lookup : ∀ {ns : List Str} {ds : List D} {f : Str} {d : D}, ns.Nodup → (ns.zip ds).lookup f = some d → ∃ j : Nat, ns[j]? = some f ∧ ds[j]? = some d
  | [], _, _, _, _, e => by simp at e
  | _ :: _, [], _, _, _, e => by simp at e
  | n :: ns, d0 :: ds, f, d, hn, e => by
    rw [List.zip_cons_cons, List.lookup_cons] at e
    split at e
    · rename_i h
      cases e
      have : f = n := by simpa using h
      subst this
      exact ⟨0, rfl, rfl⟩
    · obtain ⟨j, h1, h2⟩ := zip_lookup (List.nodup_cons.mp hn).2 e
      exact ⟨j + 1, h1, h2⟩
end
end VL

set_option Elab.async false
set_option linter.all false
set_option maxHeartbeats 1000000
namespace VL
open PySem PySem.Spec PyProof.Rows L2
section
variable {Y : Cy} {ρ ρ2 : List B} {C : Cst} {pos : Pos} {Φ : Fin}
theorem sf_va {n : Str} {Ta fI a : Addr} {c fl : Str} {x : Exc} {oe : Obj} {pn : List (Addr × Obj)} {cls : Value} {dd : Option Addr} {τ : List T} {i : Nat} (u : C.On Y) (X : XcF C.W c fl Ta fI) (hC : cls = .ref Ca) (hCa : Ca = Ta) (hu : x.ns.Nodup) (hz : Zc cls dd oe) (hf : ∃ vs, oe.data = .fields vs)
    (hρ : ρ[i]? = some (.raw (.ref a))) (hN : C.N[i]? = some n) (hv : C.sc.names.lookup n = some .local) (hdb : (n == ("__debug__" : Str)) = false) (hcd : (n == ("__classdict__" : Str)) = false)
    {es : List Expr} {l : List XF} (h : SF C n Ta es l) : ∀ {ds : List D} {Q : List (Rg × D) → Prop}, l.mapM (XF.get x) = some ds → Q (ds.map fun d => (.nw, d)) → VA (Y.suite x a oe pn cls dd τ) ρ es Q ∧ (∀ d ∈ ds, d.sc = true) := by
  induction h with
  | nil =>
    intro ds Q e q
    have e' : ds = [] := by simpa using e.symm
    subst e'
    exact ⟨q, fun _ h => by cases h⟩
  | str r ih =>
    intro ds Q e q
    rw [List.mapM_cons] at e
    simp only [XF.get, Option.pure_def, Option.bind_eq_bind, Option.bind_some, Option.bind_eq_some_iff] at e
    obtain ⟨ds', e1, e2⟩ := e
    cases e2
    obtain ⟨h1, h2⟩ := ih (Q := fun l => Q ((.nw, _) :: l)) e1 q
    exact ⟨ve_str h1, fun d hd => (List.mem_cons.mp hd).elim (fun e => by subst e; rfl) (h2 d)⟩
  | int r ih =>
    intro ds Q e q
    rw [List.mapM_cons] at e
    simp only [XF.get, Option.pure_def, Option.bind_eq_bind, Option.bind_some, Option.bind_eq_some_iff] at e
    obtain ⟨ds', e1, e2⟩ := e
    cases e2
    obtain ⟨h1, h2⟩ := ih (Q := fun l => Q ((.nw, _) :: l)) e1 q
    exact ⟨ve_int h1, fun d hd => (List.mem_cons.mp hd).elim (fun e => by subst e; rfl) (h2 d)⟩
  | fld noN r ih =>
    intro ds Q e q
    rw [List.mapM_cons] at e
    simp only [XF.get, Option.pure_def, Option.bind_eq_bind, Option.bind_eq_some_iff] at e
    obtain ⟨d, ⟨d0, e1, e2⟩, ds', e3, e4⟩ := e
    split at e2
    · rename_i hsc
      cases e2
      cases e4
      obtain ⟨h1, h2⟩ := ih (Q := fun l => Q ((.nw, d) :: l)) e3 q
      obtain ⟨j, hj1, hj2⟩ := zip_lookup hu e1
      subst hCa
      have hw := u.w
      refine ⟨?_, fun d hd => (List.mem_cons.mp hd).elim (fun e => by subst e; exact hsc) (h2 d)⟩
      have t := X.t
      refine ve_exf i j hρ hj1 hu hj2 hsc hC (by rw [u.K]; exact t.ga) (by rw [u.K]; exact t.gg) (by rw [u.K]; exact t.exC) (by rw [u.K]; exact t.hdC) (by rw [u.K]; exact noN) hz hf h1 (by rw [u.n]; exact hN) (.inl (by rw [u.s]; exact hv)) hdb hcd
    · cases e2
theorem mxA_sc : ∀ {ds : List D}, (∀ d ∈ ds, d.sc = true) → mxA (ds.map fun d => (Rg.nw, d)) = .nw
  | [], _ => rfl
  | d :: ds, h => by
    show (nm .nw d).mx (mxA (ds.map fun d => (Rg.nw, d))) = .nw
    rw [mxA_sc fun d hd => h d (List.mem_cons_of_mem _ hd)]
    unfold nm; split <;> rfl
theorem run_tup {tk : Str → Option Bool} {c fl y n : Str} {Ta fI : Addr} {py p1 : Pos} {x1} {es : List Expr} {l : List XF} (i j : Nat) (X : XcF C.W c fl Ta fI) (h : SF C n Ta es l) (hnd : C.N.Nodup) (hd : C.d = true := by rfl) (hN : C.N[i]? = some n := by rfl) (hv : C.sc.names.lookup n = some .local := by rfl) (hy : C.N[j]? = some y := by rfl) (hyl : Loc C.sc y := by first | exact Or.inl rfl | exact Or.inr rfl)
    (hij : i ≠ j := by decide) (hdb : (n == ("__debug__" : Str)) = false := by decide) (hcd : (n == ("__classdict__" : Str)) = false := by decide) (hp : es.all plain = true := by rfl) (hz : es.length ≤ sizeLine := by decide)
    (hs : ∀ env : Env, swapsWith (.Tuple es x1 p1) (some (.Name y py)) pos.line env = pure false := by intro _; rfl) : RunOk C [.Assign [.Name y py] (.Tuple es x1 p1) pos] (some i) ⟨tk, some i, hTup c i j l⟩ := fun Y u x ρ o o' Φ e1 e2 q Ca hm a oe pn cls dd τ h3 h4 h5 => by
  simp only [hTup] at e1
  split at e1
  · rename_i hc
    obtain ⟨hc, hu, hil⟩ := hc
    rw [Option.bind_eq_some_iff] at e1
    obtain ⟨ds, e3, e4⟩ := e1
    cases e4
    cases e2
    have hCa : Ca = Ta := by
      have := X.g
      rw [← u.mg, ← hc, hm] at this
      cases this; rfl
    have hρ : (ρ.set i (.raw (.ref a)))[i]? = some (.raw (.ref a)) := List.getElem?_set_self hil
    have key := fun (Q : List (Rg × D) → Prop) (hq : Q (ds.map fun d => (.nw, d))) => sf_va (C := C) (pn := pn) (dd := dd) (τ := τ) (Q := Q) u X h3 hCa hu h4 h5 hρ hN hv hdb hcd h e3 hq
    refine vs_one (v1_set j (ve_tup (key _ ?_).1 hp hz) (by rw [u.n]; exact hnd) (by rw [u.n]; exact hy) (by rw [u.s]; exact hyl) (hs _) (.inl (u.fn hd _)))
    have hsc := (key (fun _ => True) trivial).2
    rw [mxA_sc hsc]
    refine ⟨rfl, .inl rfl, ?_⟩
    show Φ.nx _
    have e5 : (List.map (fun x => x.2) (List.map (fun d => (Rg.nw, d)) ds)) = ds := by
      rw [List.map_map]
      exact List.map_id'' (fun _ => rfl) ds
    have q' : Φ.nx (List.set (ρ.set j (.v .nw (.tup ds))) i .no) := q
    rw [e5]
    have e6 : nm .nw (.tup ds) = .nw := rfl
    rw [e6]
    have e7 : (((ρ.set i (.raw (.ref a))).set j (.v .nw (.tup ds))).set i .no) = ((ρ.set j (.v .nw (.tup ds))).set i .no) := by
      rw [List.set_comm _ _ hij, List.set_set]
    show Φ.nx (((ρ.set i (.raw (.ref a))).set j (.v .nw (.tup ds))).set i .no)
    rw [e7]
    exact q'
  · cases e1
end
/-! ### a def -/
theorem fn_def {W : Wd} {x qual : Str} {st : Stmt} {f : Addr} {fd : FuncData} {N ps : List Str} {k : Nat} {body : XS} (F : Fun W.K x qual st f fd) (S : FnScope N ps (defScope st)) (h : SndS ⟨W, N, defScope st, some k, true⟩ (defBody st) body) :
    FnOk W.P W.w W.K W.mg W.base (L2.CX W.P W.w) (k + 1) f fd ps (spD W.K W.mg fun ds res => runD ps.length N.length body ds = some res) := by
  refine fn_okD F S (fun ds res e => ?_) fun cdv A outer s H Hs E ds res e o => ?_
  · unfold runD at e
    split at e
    · assumption
    · cases e
  · unfold runD at e
    split at e
    · rw [Option.bind_eq_some_iff] at e
      obtain ⟨out, e1, e2⟩ := e
      refine h _ ⟨rfl, rfl, rfl, o, fun _ _ => rfl, fun _ => ⟨rfl, rfl⟩⟩ _ out _ e1 ?_
      cases out with
      | nx ρ => cases e2; exact ⟨_, rfl⟩
      | rt r d =>
        unfold endD at e2
        simp only at e2
        split at e2
        · rename_i hn
          cases e2
          refine ⟨?_, .nw, rfl, rfl, .inl hn⟩
          by_cases hs : d.sc = true
          · exact .inr hs
          · unfold nm at hn
            rw [if_neg hs] at hn
            rw [hn]; exact .inl rfl
        · split at e2
          · cases e2
            exact ⟨.inl (by assumption), .od, rfl, rfl, .inr rfl⟩
          · cases e2
      | rn r c =>
        unfold endD at e2
        simp only at e2
        split at e2
        · rename_i hn
          cases e2
          exact ⟨.nw, rfl, .inl rfl, .inl hn⟩
        · split at e2
          · cases e2
            exact ⟨.od, rfl, .inl rfl, .inr rfl⟩
          · cases e2
      | ex x ρ => cases e2; rfl
      | bk ρ => cases e2
      | ct ρ => cases e2
    · cases e
theorem cl_def {W : Wd} {x qual : Str} {st : Stmt} {f : Addr} {fd : FuncData} {N ps : List Str} {k : Nat} {body : XS} (F : Fun W.K x qual st f fd) (hm : W.mg x = some (.ref f)) (S : FnScope N ps (defScope st)) (hb : Binds W.K fd ps []) (h : SndS ⟨W, N, defScope st, some k, true⟩ (defBody st) body) : Cl W (k + 1) x (runD ps.length N.length body) :=
  ⟨f, fd, ps, hm, F.kp, hb, fn_def F S h⟩
theorem s_none {C : Cst} {st : List Stmt} : SndS C st fun _ => none := fun Y u ρ o Φ e q => by cases e
end VL

set_option Elab.async false
set_option linter.all false
set_option maxHeartbeats 1000000
/-! More constructs: unpacking, xs[i] = v, in, written tuples, an unused slot forgotten. -/
namespace VL
open PySem PySem.Spec PyProof.Rows L2
/-! ### functions -/
def sSetL (l : List Tg) (f : XE) : XS := fun ρ => bV ρ (f ρ) fun
  | .v r (.lst ds) => if ds.length = l.length then (bnds l r.el ds ρ).map .nx else none
  | .n r (.lst ds) => if ds.length = l.length then (bnds l r.el ds ρ).map .nx else none
  | .v r (.tup ds) => if ds.length = l.length then (bnds l r ds ρ).map .nx else none
  | _ => none
def sFgt (i : Nat) : XS := fun ρ => some (.nx (ρ.set i .no))
def oIn : OP2 := fun _ x _ y => match y with
  | .lst ds => if x.eqOk = true ∧ D.eqOk (.lst ds) = true then vB (ds.any fun z => z.eqv x) else none
  | .tup ds => if x.eqOk = true ∧ D.eqOk (.tup ds) = true then vB (ds.any fun z => z.eqv x) else none
  | _ => none
def oNin : OP2 := fun _ x _ y => match y with
  | .lst ds => if x.eqOk = true ∧ D.eqOk (.lst ds) = true then vB (!ds.any fun z => z.eqv x) else none
  | .tup ds => if x.eqOk = true ∧ D.eqOk (.tup ds) = true then vB (!ds.any fun z => z.eqv x) else none
  | _ => none
/-- xs[j] = e, xs one's own -/
def sSto (i : Nat) (f g : XE) : XS := fun ρ => match ρ[i]? with
  | some (.own r (.lst ds)) => bV ρ (g ρ) fun
    | .v r2 d => bV ρ (f ρ) fun
      | .v _ (.int k) => (match ixN ds.length k with
        | some j => if (nm r2 d).st = true then some (.nx (ρ.set i (.own (r.mx (nm r2 d)) (.lst (ds.set j d))))) else none
        | none => none)
      | _ => none
    | .n r2 c => bV ρ (f ρ) fun
      | .v _ (.int k) => (match ixN ds.length k with
        | some j => if (nm r2 c.toD).st = true then some (.nx (ρ.set i (.own (r.mx (nm r2 c.toD)) (.lst (ds.set j c.toD))))) else none
        | none => none)
      | _ => none
    | _ => none
  | _ => none
/-! ### they tell the truth -/
section
variable {Y : Cy} {ρ ρ2 : List B} {a b c node tg iter elt e : Expr} {f g h : XE} {C : Cst} {o : EV} {pos cpos : Pos} {es : List Expr} {fs : List XE} {st : Stmt} {rest body sa sb : List Stmt} {s t : XS} {Φ : Fin}
theorem toPs_any {ds : List D} {x : D} : ((toPs ds).any fun z => PyData.eqv z x.toP) = ds.any fun z => z.eqv x := by
  induction ds with
  | nil => rfl
  | cons d ds ih =>
    show (PyData.eqv d.toP x.toP || (toPs ds).any _) = (D.eqv d x || ds.any _)
    rw [ih]; rfl
theorem op_inT {X : Cx} (hu : X.A.units + 65 < cLine) : OpR X (compareOp .In) (fun x y H Q => ∃ d ds, Dp X.K H x d ∧ Dp X.K H y (.tuple ds) ∧ SeqAt.shaped d = true ∧ SeqAt.shaped (.tuple ds) = true ∧ Q (.bl (ds.any fun z => PyData.eqv z d)) H) := by
  intro pins s σ H x y v u Q I rx ry h
  obtain ⟨d, ds, hd, he, sd, se, q⟩ := h
  obtain ⟨as, r1⟩ := Dp.reads I d x v hd rx
  obtain ⟨bs, r2⟩ := Dp.reads I (.tuple ds) y u he ry
  exact SeqAt.in_tuple_reads r2 r1 (SeqAt.canLay_of_shaped se) (SeqAt.canLay_of_shaped sd) (room_in_shaped sd hu) ⟨.bl _, H, I, rfl, q⟩
theorem op_ninT {X : Cx} (hu : X.A.units + 65 < cLine) : OpR X (compareOp .NotIn) (fun x y H Q => ∃ d ds, Dp X.K H x d ∧ Dp X.K H y (.tuple ds) ∧ SeqAt.shaped d = true ∧ SeqAt.shaped (.tuple ds) = true ∧ Q (.bl (!ds.any fun z => PyData.eqv z d)) H) := by
  intro pins s σ H x y v u Q I rx ry h
  obtain ⟨d, ds, hd, he, sd, se, q⟩ := h
  obtain ⟨as, r1⟩ := Dp.reads I d x v hd rx
  obtain ⟨bs, r2⟩ := Dp.reads I (.tuple ds) y u he ry
  exact SeqAt.notIn_tuple_reads r2 r1 (SeqAt.canLay_of_shaped se) (SeqAt.canLay_of_shaped sd) (room_in_shaped sd hu) ⟨.bl _, H, I, rfl, q⟩
theorem CyOk.hu65 {k : Nat} (o : CyOk Y k) : Y.X.A.units + 65 < cLine := by have := o.rm.un; omega
theorem vc_in {P : Bool → Prop} {k : Nat} (o : CyOk Y k) (hh : VE Y ρ a fun _ x => VE Y ρ b fun _ y => ∃ ds, (y = .lst ds ∨ y = .tup ds) ∧ x.eqOk = true ∧ y.eqOk = true ∧ P (ds.any fun z => z.eqv x)) : VC Y ρ .In a b P :=
  VE.mono hh fun r1 x q => VE.mono q fun r2 y ⟨ds, hy, hx, hy2, p⟩ => by
    obtain ⟨px, sx⟩ := eqOk_iff hx
    obtain ⟨py, sy⟩ := eqOk_iff hy2
    rcases hy with rfl | rfl
    · refine cmpw (op_inD o.hu65) fun τ σ H u v w => ?_
      have d2 := EnvOk.dp w py
      have d1 := EnvOk.dp (EnvOk.pop w) px
      exact ⟨_, _, d1, (by simpa only [D.toP] using d2), sx, (by simpa only [D.toP] using sy), _, rfl, EnvOk.pop (EnvOk.pop w), by rw [toPs_any]; exact p⟩
    · refine cmpw (op_inT o.hu65) fun τ σ H u v w => ?_
      have d2 := EnvOk.dp w py
      have d1 := EnvOk.dp (EnvOk.pop w) px
      exact ⟨_, _, d1, (by simpa only [D.toP] using d2), sx, (by simpa only [D.toP] using sy), _, rfl, EnvOk.pop (EnvOk.pop w), by rw [toPs_any]; exact p⟩
theorem vc_nin {P : Bool → Prop} {k : Nat} (o : CyOk Y k) (hh : VE Y ρ a fun _ x => VE Y ρ b fun _ y => ∃ ds, (y = .lst ds ∨ y = .tup ds) ∧ x.eqOk = true ∧ y.eqOk = true ∧ P (!ds.any fun z => z.eqv x)) : VC Y ρ .NotIn a b P :=
  VE.mono hh fun r1 x q => VE.mono q fun r2 y ⟨ds, hy, hx, hy2, p⟩ => by
    obtain ⟨px, sx⟩ := eqOk_iff hx
    obtain ⟨py, sy⟩ := eqOk_iff hy2
    rcases hy with rfl | rfl
    · refine cmpw (op_notInD o.hu65) fun τ σ H u v w => ?_
      have d2 := EnvOk.dp w py
      have d1 := EnvOk.dp (EnvOk.pop w) px
      exact ⟨_, _, d1, (by simpa only [D.toP] using d2), sx, (by simpa only [D.toP] using sy), _, rfl, EnvOk.pop (EnvOk.pop w), by rw [toPs_any]; exact p⟩
    · refine cmpw (op_ninT o.hu65) fun τ σ H u v w => ?_
      have d2 := EnvOk.dp w py
      have d1 := EnvOk.dp (EnvOk.pop w) px
      exact ⟨_, _, d1, (by simpa only [D.toP] using d2), sx, (by simpa only [D.toP] using sy), _, rfl, EnvOk.pop (EnvOk.pop w), by rw [toPs_any]; exact p⟩
theorem c_in {k : Nat} (hk : C.k = some k := by rfl) : CmpS C .In oIn := ⟨fun r x r2 y o e => by
    unfold oIn at e
    split at e
    · split at e <;> cases e; exact ⟨_, rfl⟩
    · split at e <;> cases e; exact ⟨_, rfl⟩
    · (cases e), fun Y u ρ a b r x r2 y k ga gb e => by
  unfold oIn at e
  split at e
  · split at e
    · cases e
      rename_i h
      exact vc_in (u.ck hk) (ga _ (gb _ ⟨_, .inl rfl, h.1, h.2, rfl⟩))
    · cases e
  · split at e
    · cases e
      rename_i h
      exact vc_in (u.ck hk) (ga _ (gb _ ⟨_, .inr rfl, h.1, h.2, rfl⟩))
    · cases e
  · cases e⟩
theorem c_nin {k : Nat} (hk : C.k = some k := by rfl) : CmpS C .NotIn oNin := ⟨fun r x r2 y o e => by
    unfold oNin at e
    split at e
    · split at e <;> cases e; exact ⟨_, rfl⟩
    · split at e <;> cases e; exact ⟨_, rfl⟩
    · (cases e), fun Y u ρ a b r x r2 y k ga gb e => by
  unfold oNin at e
  split at e
  · split at e
    · cases e
      rename_i h
      exact vc_nin (u.ck hk) (ga _ (gb _ ⟨_, .inl rfl, h.1, h.2, rfl⟩))
    · cases e
  · split at e
    · cases e
      rename_i h
      exact vc_nin (u.ck hk) (ga _ (gb _ ⟨_, .inr rfl, h.1, h.2, rfl⟩))
    · cases e
  · cases e⟩
/-- a value that stands in the written part -/
structure GV (W : Wd) (x : Str) (d : D) : Prop where
  ex : ∃ (v : V) (u : Value), W.mg x = some u ∧ RelV v u ∧ Rep W.K W.mg (fun _ => none) d v
theorem e_gval {x : Str} {d : D} (hv : GV C.W x d) (hg : GlS C.sc x := by rfl) (hd : (x == ("__debug__" : Str)) = false := by decide) : SndE C (.Name x pos) (xC d) := fun Y u ρ o e => by
  cases e
  obtain ⟨v, uu, h1, h2, h3⟩ := hv.ex
  refine VX.of fun Q q τ σ H w => sE.of (pe_glob (u.gl hg) (by rw [u.mg]; exact h1) h2 hd) ⟨_, _, w.sc (by rw [u.K, u.mg]; exact h3), q⟩
/-! targets -/
def TgsS (C : Cst) (es : List Expr) (l : List Tg) : Prop := ∀ Y, C.On Y → PGs Y.X es (gTs Y.X.K l)
theorem gs_nil : TgsS C [] [] := fun Y u => by simp only [gTs]; exact pgs_nil
theorem gs_cons {l : List Tg} {tt : Tg} (h1 : TgS C a tt) (h2 : TgsS C es l) (hs : ∀ env : Env, (assignEach (a :: es) env).map (·.2) = assign a env :: (assignEach es env).map (·.2) := by intro _; rfl) : TgsS C (a :: es) (tt :: l) := fun Y u => by
  simp only [gTs]
  exact pgs_cons (h1 Y u) (h2 Y u) (hs _)
theorem g_tp {k kk : Nat} {l : List Tg} (hs : TgsS C es l) (hk : C.k = some kk := by rfl) (hn : ∀ env : Env, (assignEach es env).length = l.length := by intro _; rfl) (hst : ∀ env : Env, (assignEach es env).findIdx? (·.1) = none := by intro _; rfl) : TgS C (.Tuple es k pos) (.tp l) := fun Y u => by
  unfold TgOk
  simp only [gT]
  exact pg_tup (u.ck hk).calm (hs Y u) (hn _) (hst _)
theorem v1_setL {k : Nat} {p1 : Pos} {l : List Tg} (hc : Y.X.calm = true) (hg : PGs Y.X es (gTs Y.X.K l)) (hh : VE Y ρ e fun r d => ∃ ds, d = .lst ds ∧ ds.length = l.length ∧ bindTs l r.el ds ρ Φ.nx)
    (hn : (assignEach es Y.X.env).length = l.length) (hst : (assignEach es Y.X.env).findIdx? (·.1) = none) (hs : swapsWithSole [.Tuple es k p1] e pos.line Y.X.env = pure false) (hw : swappedStores [.Tuple es k p1] e Y.X.env = pure none) (h1 : List.map (fun x => x.2) (assignEach [.Tuple es k p1] Y.X.env) = [assign (.Tuple es k p1) Y.X.env]) :
    V1 Y ρ (.Assign [.Tuple es k p1] e pos) Φ := fun τ σ H w _ =>
  s1.of (ps_asg pe_s (pg_unl (n := l.length) hc hg hn hst) hs hw h1) ((hh τ σ H w).mono fun v H1 ⟨r, d, w1, ds, e1, hl, q⟩ => by
    subst e1
    obtain ⟨a, vs, rfl, hq, hlen, k3⟩ := EnvOk.lst w1
    refine ⟨a, vs, rfl, .inl hq, by omega, ?_⟩
    have w2 : EnvOk Y.X.K Y.X.mg Y.Hs Y.Hi ρ σ (pushA (ds.map fun d => (r.el, d)) vs (τ ++ Y.τ)) H1 := by
      obtain ⟨G0, G1, ow, w3⟩ := id w1
      have k4 := k3 G0 G1 ow w3
      have go : ∀ {ds : List D} {vs : List V} {τ : List T}, Reps Y.X.K Y.X.mg (Gr G0 G1 r.el) ds vs → EnvW Y.X.K Y.X.mg Y.Hs Y.Hi ρ σ τ H1 G0 G1 ow → EnvOk Y.X.K Y.X.mg Y.Hs Y.Hi ρ σ (pushA (ds.map fun d => (r.el, d)) vs τ) H1 := by
        intro ds
        induction ds with
        | nil => intro vs τ h w; exact ⟨_, _, _, w⟩
        | cons d ds ih =>
          intro vs τ h w
          simp only [Reps] at h
          obtain ⟨x, q, rfl, h1, h2⟩ := h
          exact ih h2 (w.pushV (Gr.rep h1) (el_st r))
      exact go k4 w3.pop
    exact bindTs.run (Y := Y) q hlen w2 fun ρ' σ' w2 q2 _ => ⟨ρ', w2, q2⟩)
theorem v1_setTup {k : Nat} {p1 : Pos} {l : List Tg} (hc : Y.X.calm = true) (hg : PGs Y.X es (gTs Y.X.K l)) (hh : VE Y ρ e fun r d => ∃ ds, d = .tup ds ∧ ds.length = l.length ∧ bindTs l r ds ρ Φ.nx)
    (hn : (assignEach es Y.X.env).length = l.length) (hst : (assignEach es Y.X.env).findIdx? (·.1) = none) (hs : swapsWithSole [.Tuple es k p1] e pos.line Y.X.env = pure false) (hw : swappedStores [.Tuple es k p1] e Y.X.env = pure none) (h1 : List.map (fun x => x.2) (assignEach [.Tuple es k p1] Y.X.env) = [assign (.Tuple es k p1) Y.X.env]) :
    V1 Y ρ (.Assign [.Tuple es k p1] e pos) Φ := v1_setT (.tp l) (by unfold TgOk; simp only [gT]; exact pg_tup hc hg hn hst) (VE.mono hh fun r d ⟨ds, e1, e2, e3⟩ => ⟨ds, e1, e2, e3⟩) hs hw h1
theorem s_setL {k kk : Nat} {p1 : Pos} {l : List Tg} (hg : TgsS C es l) (ha : SndE C e f) (hk : C.k = some kk := by rfl) (hn : ∀ env : Env, (assignEach es env).length = l.length := by intro _; rfl) (hst : ∀ env : Env, (assignEach es env).findIdx? (·.1) = none := by intro _; rfl)
    (hs : ∀ env : Env, swapsWithSole [.Tuple es k p1] e pos.line env = pure false := by intro _; rfl) (hw : ∀ env : Env, swappedStores [.Tuple es k p1] e env = pure none := by intro _; rfl) (h1 : ∀ env : Env, List.map (fun x => x.2) (assignEach [.Tuple es k p1] env) = [assign (.Tuple es k p1) env] := by intro _; rfl) :
    Snd1 C (.Assign [.Tuple es k p1] e pos) (sSetL l f) := fun Y u ρ o Φ e1 q => by
  have hc := (u.ck hk).calm
  rcases bV_some e1 with ⟨x1, e2, rfl⟩ | ⟨q1, e2, e3, hnx⟩
  · exact v1_setL hc (hg Y u) ((ha Y u).exc e2 q _) (hn _) (hst _) (hs _) (hw _) (h1 _)
  · split at e3
    · split at e3
      · rw [Option.map_eq_some_iff] at e3
        obtain ⟨ρ2, e4, rfl⟩ := e3
        exact v1_setL hc (hg Y u) ((ha Y u).gets e2 (.inl rfl) _ ⟨_, rfl, by assumption, bnds_ok e4 q⟩) (hn _) (hst _) (hs _) (hw _) (h1 _)
      · cases e3
    · split at e3
      · rw [Option.map_eq_some_iff] at e3
        obtain ⟨ρ2, e4, rfl⟩ := e3
        exact v1_setL hc (hg Y u) ((ha Y u).gets e2 (.inr ⟨_, rfl, rfl⟩) _ ⟨_, rfl, by assumption, bnds_ok e4 q⟩) (hn _) (hst _) (hs _) (hw _) (h1 _)
      · cases e3
    · split at e3
      · rw [Option.map_eq_some_iff] at e3
        obtain ⟨ρ2, e4, rfl⟩ := e3
        exact v1_setTup hc (hg Y u) ((ha Y u).gets e2 (.inl rfl) _ ⟨_, rfl, by assumption, bnds_ok e4 q⟩) (hn _) (hst _) (hs _) (hw _) (h1 _)
      · cases e3
    · cases e3
/-- a slot of which nothing more is asked -/
theorem EnvOk.forget {K : PySem.W.Frag} {mg : Mg} {Hs Hi H : Hp} {σ : L2.St} {τ : List T} {i : Nat} (h : EnvOk K mg Hs Hi ρ σ τ H) : EnvOk K mg Hs Hi (ρ.set i .no) σ τ H := by
  obtain ⟨G0, G1, ow, w⟩ := h
  refine ⟨G0, G1, ow, { w with len := by rw [List.length_set]; exact w.len, sl := fun j b hj => ?_ }⟩
  rcases gs hj with ⟨rfl, _, rfl⟩ | ⟨_, hj⟩
  · trivial
  · exact w.sl j b hj
theorem s_fgt (i : Nat) (ht : SndS C rest t) : SndS C rest (sCons (sFgt i) t) := fun Y u ρ o Φ e q => by
  rcases bS_some e with ⟨ρ2, e1, e2⟩ | ⟨e1, hn⟩
  · cases e1
    exact fun τ σ H w hst => ht Y u _ o Φ e2 q τ σ H (EnvOk.forget w) hst
  · cases e1; exact absurd rfl (hn _)
/-- xs[e] = v, xs one's own: first v, then e -/
theorem v1_sto (i : Nat) {x : Str} {p pos' : Pos} {ee : Expr} {r : Rg} {ds : List D} (hρ : ρ[i]? = some (.own r (.lst ds))) (h : VE Y ρ e fun r2 d => VE Y ρ ee fun _ y => ∃ k j, y = .int k ∧ ixN ds.length k = some j ∧ (nm r2 d).st = true ∧ Φ.nx (ρ.set i (.own (r.mx (nm r2 d)) (.lst (ds.set j d)))))
    (hN : Y.X.N[i]? = some x) (hv : Vis Y.X.env.scope x) (hd : (x == ("__debug__" : Str)) = false) (hcd : (x == ("__classdict__" : Str)) = false)
    (ha : ∀ v, assign (.Subscript (.Name x p) ee pos') Y.X.env v = (do
      let ov ← holding [v] (eval (.Name x p) Y.X.env)
      let iv ← holding [v, ov] (eval ee Y.X.env)
      standAt pos'
      holding [v, ov, iv] (setItem ov iv v)
      release [v, ov, iv] []))
    (hs : swapsWithSole [.Subscript (.Name x p) ee pos'] e pos.line Y.X.env = pure false) (hw : swappedStores [.Subscript (.Name x p) ee pos'] e Y.X.env = pure none) (h1 : List.map (fun x => x.2) (assignEach [.Subscript (.Name x p) ee pos'] Y.X.env) = [assign (.Subscript (.Name x p) ee pos') Y.X.env]) :
    V1 Y ρ (.Assign [.Subscript (.Name x p) ee pos'] e pos) Φ := fun τ σ H w hst => by
  refine s1.of (ps_asg pe_s (pg_sub (pe_var hN hv hd hcd) pe_s set_list ha) hs hw h1) ((h τ σ H w).mono fun v H1 ⟨r2, d, w1, q1⟩ => ?_)
  obtain ⟨a, o, k1, k2, k3, k4⟩ := EnvOk.mutSlot (τ := τ ++ Y.τ) [.v r2 d v] w1 hρ hst
  refine ⟨_, k1, (q1 _ σ H1 w1).mono fun y H2 ⟨r3, d3, w2, kk, j, e2, hj, hst2, q⟩ => ?_⟩
  subst e2
  cases EnvOk.isInt w2
  obtain ⟨a', o', k1', k2', k3', k4'⟩ := EnvOk.mutSlot (τ := τ ++ Y.τ) [.v r3 (.int kk) (.int kk), .v r2 d v] w2 hρ hst
  rw [k1] at k1'; cases k1'
  obtain ⟨G0, G1, ow, w3⟩ := id w2
  obtain ⟨vs, e0, hvs⟩ := k3' _ _ _ w3
  subst e0
  obtain ⟨g0, _⟩ := w3.sl i _ hρ
  refine ⟨a, vs, kk, j, rfl, rfl, k2', by rw [← hvs.len]; exact hj, _, k4' (r.mx (nm r2 d)) (.lst (ds.set j d)) _ (mx_el _ _ g0 hst2) (fun G0 G1 ow w => ⟨_, rfl, ?_⟩), q⟩
  obtain ⟨vs2, e0, hvs2⟩ := k3' _ _ _ w
  cases e0
  obtain ⟨le1, le2⟩ := Gr.le w.s1 (mx_el _ _ g0 hst2)
  exact (hvs2.mono le1).set j ((RepR.st (RepR.nm (w.tt _ (List.mem_cons_of_mem _ List.mem_cons_self))) hst2).mono le2)
theorem s_sto (i : Nat) {x : Str} {p pos' : Pos} {ee : Expr} (hi : SndE C ee f) (ha : SndE C e g) (hN : C.N[i]? = some x := by rfl) (hv : Vis C.sc x := by first | exact Or.inl rfl | exact Or.inr (Or.inl rfl) | exact Or.inr (Or.inr rfl)) (hd : (x == ("__debug__" : Str)) = false := by decide) (hcd : (x == ("__classdict__" : Str)) = false := by decide)
    (hasg : ∀ (env : Env) v, assign (.Subscript (.Name x p) ee pos') env v = (do
      let ov ← holding [v] (eval (.Name x p) env)
      let iv ← holding [v, ov] (eval ee env)
      standAt pos'
      holding [v, ov, iv] (setItem ov iv v)
      release [v, ov, iv] []) := by intro _ _; rfl)
    (hs : ∀ env : Env, swapsWithSole [.Subscript (.Name x p) ee pos'] e pos.line env = pure false := by intro _; rfl) (hw : ∀ env : Env, swappedStores [.Subscript (.Name x p) ee pos'] e env = pure none := by intro _; rfl) (h1 : ∀ env : Env, List.map (fun x => x.2) (assignEach [.Subscript (.Name x p) ee pos'] env) = [assign (.Subscript (.Name x p) ee pos') env] := by intro _; rfl) :
    Snd1 C (.Assign [.Subscript (.Name x p) ee pos'] e pos) (sSto i f g) := fun Y u ρ o Φ e1 q => by
  have hN' : Y.X.N[i]? = some x := by rw [u.n]; exact hN
  have hv' : Vis Y.X.env.scope x := by rw [u.s]; exact hv
  unfold sSto at e1
  split at e1
  · rename_i r ds hρ
    have fin := fun (h : VE Y ρ e fun r2 d => VE Y ρ ee fun _ y => ∃ k j, y = .int k ∧ ixN ds.length k = some j ∧ (nm r2 d).st = true ∧ Φ.nx (ρ.set i (.own (r.mx (nm r2 d)) (.lst (ds.set j d))))) => v1_sto (Φ := Φ) (pos := pos) i hρ h hN' hv' hd hcd (hasg _) (hs _) (hw _) (h1 _)
    rcases bV_some e1 with ⟨x1, e2, rfl⟩ | ⟨q1, e2, e3, hn⟩
    · exact fin ((ha Y u).exc e2 q _)
    · have key : ∀ r2 d, (q1 = .v r2 d ∨ ∃ c, q1 = .n r2 c ∧ d = c.toD) → (bV ρ (f ρ) fun
          | .v _ (.int k) => (match ixN ds.length k with
            | some j => if (nm r2 d).st = true then some (.nx (ρ.set i (.own (r.mx (nm r2 d)) (.lst (ds.set j d))))) else none
            | none => none)
          | _ => none) = some o → V1 Y ρ (.Assign [.Subscript (.Name x p) ee pos'] e pos) Φ := by
        intro r2 d hq e4
        have gv := (ha Y u).gets e2 hq
        rcases bV_some e4 with ⟨x1, e5, rfl⟩ | ⟨q2, e5, e6, hn2⟩
        · exact fin (gv _ ((hi Y u).exc e5 q _))
        · split at e6
          · split at e6
            · split at e6
              · cases e6
                exact fin (gv _ ((hi Y u).gets e5 (.inl rfl) _ ⟨_, _, rfl, by assumption, by assumption, q⟩))
              · cases e6
            · cases e6
          · cases e6
      split at e3
      · exact key _ _ (.inl rfl) e3
      · exact key _ _ (.inr ⟨_, rfl, rfl⟩) e3
      · cases e3
  · cases e1
end
end VL

set_option Elab.async false
set_option linter.all false
set_option maxHeartbeats 1000000
/-! [[..], [..], ..][k]: one of several new lists, still one's own. -/
namespace VL
open PySem PySem.Spec PyProof.Rows L2
def xNews : List XE → List B → Option (List (Rg × Ct) ⊕ Exc)
  | [], _ => some (.inl [])
  | f :: fs, ρ => match f ρ with
    | some (.n r c) => (match xNews fs ρ with | some (.inl l) => some (.inl ((r, c) :: l)) | o => o)
    | some (.x x) => some (.inr x)
    | _ => none
def xSel (fs : List XE) (i : Nat) : XE := fun ρ => match xNews fs ρ, ρ[i]? with
  | some (.inl l), some (.v _ (.int k)) => (atI l k).bind fun p => some (.n p.1 p.2)
  | some (.inr x), _ => some (.x x)
  | _, _ => none
@[reducible] def VNs (Y : Cy) (ρ : List B) : List Expr → (List (Rg × Ct) → Prop) → Prop
  | [], Q => Q []
  | e :: es, Q => VN Y ρ e fun r c => VNs Y ρ es fun l => Q ((r, c) :: l)
def pushO : List (Rg × Ct) → List Addr → List T → List T
  | p :: ps, a :: as, τ => pushO ps as (.own a p.1 p.2 :: τ)
  | _, _, τ => τ
section
variable {Y : Cy} {ρ ρ2 : List B} {a b c e : Expr} {f g h : XE} {C : Cst} {o : EV} {pos : Pos} {es : List Expr} {fs : List XE}
theorem VNs.run : ∀ {es : List Expr} {Q : List (Rg × Ct) → Prop}, (es.all plain = true) → VNs Y ρ es Q → ∀ τ σ H, YE Y ρ σ τ H → sA Y.X es σ H fun vs H' => ∃ (l : List (Rg × Ct)) (as : List Addr), vs = as.map V.ref ∧ l.length = as.length ∧ l.length = es.length ∧ YE Y ρ σ (pushO l as τ) H' ∧ Q l
  | [], Q, _, h, τ, σ, H, w => sA.of pa_nil ⟨[], [], rfl, rfl, rfl, w, h⟩
  | e :: es, Q, hp, h, τ, σ, H, w => by
    rw [List.all_cons, Bool.and_eq_true] at hp
    refine sA.of (pa_cons pe_s pa_s (star_plain hp.1)) ?_
    refine (h τ σ H w).mono fun v H' ⟨a, r, d, e1, w', q⟩ => ?_
    subst e1
    refine (VNs.run hp.2 q _ σ H' w').mono fun vs H2 ⟨l, as, e2, hl, hl2, w2, q2⟩ => ?_
    subst e2
    exact ⟨(r, d) :: l, a :: as, rfl, by simp only [List.length_cons, hl], by simp only [List.length_cons, hl2], w2, q2⟩
theorem pushO_app : ∀ (l : List (Rg × Ct)) (as : List Addr) (τ τ' : List T), pushO l as τ ++ τ' = pushO l as (τ ++ τ')
  | [], _, _, _ => rfl
  | _ :: _, [], _, _ => rfl
  | p :: l, a :: as, τ, τ' => by simp only [pushO]; rw [pushO_app]; rfl
section
variable {K : PySem.W.Frag} {mg : Mg} {Hs Hi H : Hp} {σ : L2.St}
theorem EnvOk.unpushO : ∀ {l : List (Rg × Ct)} {as : List Addr} {τ : List T}, EnvOk K mg Hs Hi ρ σ (pushO l as τ) H → EnvOk K mg Hs Hi ρ σ τ H
  | [], _, _, h => h
  | _ :: _, [], _, h => h
  | p :: l, a :: as, τ, h => (EnvOk.unpushO (l := l) (as := as) h).pop
theorem EnvOk.pickO : ∀ {l : List (Rg × Ct)} {as : List Addr} {τ : List T} {j : Nat} {p : Rg × Ct}, l.length = as.length → EnvOk K mg Hs Hi ρ σ (pushO l as τ) H → l[j]? = some p → ∃ a, as[j]? = some a ∧ EnvOk K mg Hs Hi ρ σ (.own a p.1 p.2 :: τ) H
  | [], _, _, _, _, _, _, e => by simp at e
  | _ :: _, [], _, _, _, hl, _, _ => by simp at hl
  | q :: l, a :: as, τ, 0, p, hl, h, e => by
    simp at e; subst e
    exact ⟨a, rfl, EnvOk.unpushO (l := l) (as := as) h⟩
  | q :: l, a :: as, τ, j + 1, p, hl, h, e => by
    obtain ⟨b, h1, h2⟩ := EnvOk.pickO (l := l) (as := as) (j := j) (by simpa using hl) h (by simpa using e)
    exact ⟨b, by simpa using h1, h2.under⟩
end
theorem vn_sel (i : Nat) {N : Rg → Ct → Prop} {x : Str} {p p1 : Pos} {r : Rg} {k : Int} (hρ : ρ[i]? = some (.v r (.int k))) (hh : VNs Y ρ es fun l => ∃ q, atI l k = some q ∧ N q.1 q.2) (hN : Y.X.N[i]? = some x) (hv : Vis Y.X.env.scope x) (hd : (x == ("__debug__" : Str)) = false) (hcd : (x == ("__classdict__" : Str)) = false)
    (hp : es.all plain = true) (hz : es.length ≤ sizeLine) (hs : PlainIx (.Name x p)) : VN Y ρ (.Subscript (.List es p1) (.Name x p) pos) N := fun τ σ H w => by
  refine sE.of (pe_ix ix_seq (pe_lst pa_s) (pe_var hN hv hd hcd) hs) ((VNs.run hp hh τ σ H w).mono fun vs H1 ⟨l, as, e1, hl, hl2, w1, q, hq, n⟩ => ?_)
  subst e1
  refine ⟨by rw [List.length_map, ← hl, hl2]; exact hz, fun ad had => ?_⟩
  have w2 := EnvOk.heap w1 (same_upd (o := .lst (as.map V.ref)) had)
  have w0 : EnvOk Y.X.K Y.X.mg Y.Hs Y.Hi ρ σ (pushO l as (τ ++ Y.τ)) (upd H1 ad (.lst (as.map V.ref))) := by
    rw [← pushO_app]; exact w2
  obtain ⟨v, hv2, w3⟩ := EnvOk.slot w0 hρ
  cases EnvOk.isInt w3
  obtain ⟨j, hj, he⟩ := atI_map (ys := as.map V.ref) (by rw [List.length_map]; exact hl) hq
  obtain ⟨a, ha, w4⟩ := EnvOk.pickO hl w0 hj
  refine ⟨_, hv2, .inl ⟨ad, _, k, .ref a, rfl, rfl, .inl (.inl upd_same), ?_, a, q.1, q.2, rfl, w4, n⟩⟩
  rw [he, List.getElem?_map, ha]; rfl
theorem news_some (u : C.On Y) {es : List Expr} {fs : List XE} (h : SA C es fs) : ∀ {o : List (Rg × Ct) ⊕ Exc}, xNews fs ρ = some o → (∃ x, o = .inr x ∧ (Y.E x ρ → ∀ Q, VNs Y ρ es Q)) ∨ ∃ l, o = .inl l ∧ ∀ Q : List (Rg × Ct) → Prop, Q l → VNs Y ρ es Q := by
  induction h with
  | nil => intro o e; cases e; exact .inr ⟨[], rfl, fun Q q => q⟩
  | @cons e0 f0 es fs h r ih =>
    intro o e
    unfold xNews at e
    split at e
    · rename_i r1 c1 e1
      cases hx : xNews fs ρ with
      | none => rw [hx] at e; cases e
      | some o2 =>
        rcases ih hx with ⟨x, rfl, k⟩ | ⟨l, rfl, k⟩
        · rw [hx] at e; cases e
          exact .inl ⟨x, rfl, fun hE Q => (h Y u ρ _ e1).vn (k hE _)⟩
        · rw [hx] at e; cases e
          exact .inr ⟨_, rfl, fun Q q => (h Y u ρ _ e1).vn (k _ q)⟩
    · cases e
      rename_i x e1
      exact .inl ⟨_, rfl, fun hE Q τ σ H w => ((h Y u).exc e1 hE (fun _ _ => False) τ σ H w).mono fun v H' ⟨_, _, _, z⟩ => z.elim⟩
    · cases e
theorem e_sel (i : Nat) {x : Str} {p p1 : Pos} (hs : SA C es fs) (hN : C.N[i]? = some x := by rfl) (hv : Vis C.sc x := by first | exact Or.inl rfl | exact Or.inr (Or.inl rfl) | exact Or.inr (Or.inr rfl)) (hd : (x == ("__debug__" : Str)) = false := by decide) (hcd : (x == ("__classdict__" : Str)) = false := by decide)
    (hp : es.all plain = true := by rfl) (hz : es.length ≤ sizeLine := by decide) (hx : PlainIx (.Name x p) := by exact fun _ _ => rfl) : SndE C (.Subscript (.List es p1) (.Name x p) pos) (xSel fs i) := fun Y u ρ o e => by
  have hN' : Y.X.N[i]? = some x := by rw [u.n]; exact hN
  have hv' : Vis Y.X.env.scope x := by rw [u.s]; exact hv
  unfold xSel at e
  split at e
  · rename_i l k e1 hρ
    rw [Option.bind_eq_some_iff] at e
    obtain ⟨q, e2, e3⟩ := e
    cases e3
    rcases news_some u hs e1 with ⟨x, z, _⟩ | ⟨l', z, kk⟩
    · cases z
    · cases z
      exact VX.ofN fun N n => vn_sel i hρ (kk _ ⟨q, e2, n⟩) hN' hv' hd hcd hp hz hx
  · cases e
    rename_i x1 e1
    rcases news_some u hs e1 with ⟨x, z, kk⟩ | ⟨l', z, kk⟩
    · cases z
      exact fun hE τ σ H w => sE.of (pe_ix ix_seq (pe_lst pa_s) (pe_var hN' hv' hd hcd) hx) ((VNs.run hp (kk hE fun _ => False) τ σ H w).mono fun vs H1 ⟨_, _, _, _, _, _, z⟩ => z.elim)
    · cases z
  · cases e
end
end VL

set_option Elab.async false
set_option linter.all false
set_option maxHeartbeats 1000000
/-! math.gcd by its name. -/
namespace VL
open PySem PySem.Spec PyProof.Rows L2
def gcdI (i j : Int) : Int := ((Nat.gcd i.natAbs j.natAbs : Nat) : Int)
def oGcd : OP2 := fun _ x _ y => match x, y with | .int i, .int j => vI (gcdI i j) | _, _ => none
section
variable {Y : Cy} {ρ : List B} {a b : Expr} {f g : XE} {C : Cst} {pos : Pos} {Q : Rg → D → Prop}
theorem ve_gcd {x : Str} {p : Pos} (hm : Y.X.mg x = some (.builtin "math.gcd")) (h : I2 Y ρ a b (fun _ _ => True) fun i j => Q .nw (.int (gcdI i j))) (hg : Gl Y.X x) (hp : plain a = true) (hp2 : plain b = true) (hdb : (x == ("__debug__" : Str)) = false := by decide) : VE Y ρ (.Call (.Name x p) [a, b] [] pos) Q := fun τ σ H w =>
  sE.of (pe_callBfun cr_gcd hg hm (pa_cons pe_s (pa_cons pe_s pa_nil (star_plain hp2)) (star_plain hp)) hdb (star_plain hp) (by rw [star_plain hp2]; rfl)) ((h τ σ H w).mono fun v H1 ⟨r1, d, w1, q⟩ => (q _ σ H1 w1).mono fun u H2 ⟨r2, e, w2, i, j, e1, e2, _, q2⟩ => by
    subst e1 e2
    have e2 := EnvOk.isInt w2
    have e1 := EnvOk.isInt (EnvOk.pop w2)
    subst e1 e2
    exact ⟨i, j, rfl, _, _, (EnvOk.pop (EnvOk.pop w2)).int _, q2⟩)
theorem e_gcd {x : Str} {p : Pos} (hm : C.W.mg x = some (.builtin "math.gcd")) (ha : SndE C a f) (hb : SndE C b g) (hg : GlS C.sc x := by rfl) (hp : plain a = true := by rfl) (hp2 : plain b = true := by rfl) (hdb : (x == ("__debug__" : Str)) = false := by decide) : SndE C (.Call (.Name x p) [a, b] [] pos) (x2 f g oGcd) :=
  se2 ha hb (fun Y u ρ h => ve_gcd (by rw [u.mg]; exact hm) (i2x h) (u.gl hg) hp hp2 hdb) fun Y u ρ r x r2 y o ga gb e => by
    unfold oGcd at e
    split at e
    · cases e; exact VX.of fun Q q => ve_gcd (by rw [u.mg]; exact hm) (i2v ga gb trivial q) (u.gl hg) hp hp2 hdb
    · cases e
end
end VL

set_option Elab.async false
set_option linter.all false
set_option maxHeartbeats 1000000
/-! The end: the law's promise, the facts of the error classes. -/
namespace VL
open PySem PySem.Spec PyProof.Rows L2 PySem.HandSPX
def spLaw (K : PySem.W.Frag) : Sp := fun vs H Q _ => ∃ (a : Addr) (ns : List Int), vs = [.ref a] ∧ SqL K H a (ns.map V.int) ∧ ns.length ≤ 63 ∧ (∀ z ∈ ns, Builtin.Int.intBits z ≤ 1048576) ∧ ∀ H', Q (.bl true) H'
theorem law_fn {P : Program} {w : World} {K : PySem.W.Frag} {mg : Mg} {base : Heap} {k : Nat} {f : Addr} {fd : FuncData} {ps : List Str} {g : List D → Option Res} (F : FnOk P w K mg base (L2.CX P w) k f fd ps (spD K mg fun ds res => g ds = some res))
    (hm : ∀ ns : List Int, ns.length ≤ 63 → (∀ z ∈ ns, Builtin.Int.intBits z ≤ 1048576) → g [.scr ns] = some (.ok .nw (.bl true))) : FnOk P w K mg base (L2.CX P w) k f fd ps (spLaw K) :=
  F.imp fun vs H Q E ⟨a, ns, e, hS, hl, hb, q⟩ => by
    subst e
    refine ⟨H, [.scr ns], .ok .nw (.bl true), Same.refl _, Reps.cons ?_ Reps.nil, hm ns hl hb, rfl, fun v H' G h1 h2 h3 h4 => ?_⟩
    · simp only [Rep]; exact ⟨a, rfl, hS⟩
    · simp only [Rep] at h4
      subst h4; exact q H'
theorem law_walk {l : PySem.W.OpenLaw} {q : Program} {loose : List Str} {XP : (Str → Option Value) → Heap → Prop} {YP : World → Heap → Prop} {d : DefRec} {K : Params → PySem.W.Frag} {k : Nat} (hn : l.most = some 63) (hdf : d.params.defaults = []) (hr : Room k callerA)
    (hY : ∀ (w : World) (h : Heap), YP w h → (K w.params).In h)
    (F : ∀ (w : World) (mg : Str → Option Value) (fa : Addr) (h : Heap), (K w.params).In h → h.Ns mainGlobals mg → mg d.name = some (.ref fa) →
      ∃ fd : FuncData, (∀ (s : Shared) (u : Value), BindsTo s fd ⟨[u], []⟩ [("script", u)]) ∧ ∀ base : Heap, (K w.params).In base → base.Ns mainGlobals mg → FnOk l.prog w (K w.params) mg base (L2.CX l.prog w) k fa fd ["script"] (spLaw (K w.params))) :
    PySem.W.WalkO q loose XP YP l.row.toRowW d [] (fun f vs => PySem.call f vs) :=
  L2.walk_ofB (n := 63) (x := "script") (CX := fun w => L2.CX l.prog w) (sp := fun w => spLaw (K w.params)) hn (by decide) hdf hr hY F (fun _ _ a ns hl hb _ hS => ⟨a, ns, rfl, hS, hl, hb, fun _ => rfl⟩) fun w H s e s' z => by
    obtain ⟨_, _, _, _, _, _, _, _, _, _, _, _, z⟩ := z
    exact z
theorem exm_of {K : PySem.W.Frag} {A S : Addr} {b : Bool} (h1 : PySem.W.subIn K (.ref S) (.type "BaseException") = some true) (h2 : PySem.W.isClsIn K S = true) (h3 : PySem.W.typeIn K (.ref S) = some (.type "type")) (h4 : PySem.W.subIn K (.ref A) (.ref S) = some b) :
    PySem.W.exmOne K (.ref A) (.ref S) = some b := by
  have h2' : (PySem.W.clsIn K S).isSome = true := h2
  unfold PySem.W.exmOne
  simp [h1, PySem.W.kitCls, h2', h3, h4]
theorem blk_ok {N : List Str} {sc scope : Scope} {own : List (Str × Nat)} (kind : scope.kind = .function) (uniq : ∀ y ∈ scope.names, scope.names.lookup y.1 = some y.2) (ix : ∀ p ∈ own, N[p.2]? = some p.1)
    (free : ∀ y ∈ scope.names, y.2 = .free → sc.names.lookup y.1 = some .cell ∨ sc.names.lookup y.1 = some .free) (own' : ∀ y ∈ scope.names, y.2 = .local ∨ y.2 = .cell → y.1 ∈ own.map (·.1) ∨ y.1 ∉ N) : BlkOk N sc scope own := ⟨kind, uniq, ix, free, own'⟩
theorem nb_of {P : Program} {w : World} {K : PySem.W.Frag} {mg : Mg} {base h : Heap} (X : K.In h) (G : h.Ns mainGlobals mg) (z : ∀ x ∈ blts, PySem.W.nsIn K mainGlobals x = some none) : NB ⟨P, w, K, mg, base⟩ := ⟨List.all_eq_true.mpr fun x hx => by
  have := PySem.W.mg_none_of X G (z x hx)
  show (mg x).isNone = true
  rw [this]; rfl⟩
theorem super_of {K : PySem.W.Frag} {C Da N CL : Addr} {nm q : Str} {bs bm sub : List Value} {sn : List Str} {ab : Bool} {col : Option Bool} {dd : Option Addr} {k0 k1 k2 k3 k5 : Option Value} {cdL : ClassData} {name : Str} {r : Option (Option Value)}
    (xL : K.lookup C = some (excClassObj nm q C N bs bm true sn sub ab col dd k0 k1 k2 k3 k5 "ValueError.__new__")) (bL : PySem.W.clsIn K CL = some cdL) (eM : (((Value.ref C) :: bm).dropWhile (· != .ref Da)).drop 1 = cdL.mro) (sL : PySem.W.findIn K (.ref CL) name = r) : PySem.W.ks_superIn K C Da name = r := by
  have hcl : PySem.W.clsIn K C = some { name := nm, bases := bs, mro := .ref C :: bm, ns := N, qualname := q, hasDict := true, slotNames := sn, subclasses := sub, abstract := ab, collection := col, hasDel := false } := by unfold PySem.W.clsIn; rw [xL] <;> rfl
  unfold PySem.W.ks_superIn
  rw [hcl]
  show PySem.W.alongIn K name (((Value.ref C :: bm).dropWhile (· != .ref Da)).drop 1) = r
  rw [eM, ← sL]
  unfold PySem.W.findIn
  unfold PySem.W.clsIn at bL
  split at bL
  · rename_i h
    cases bL
    simp only [h]
  · cases bL
theorem xc_txt {prog : Program} {K : PySem.W.Frag} {f : Str} {C fI cc cda Da N : Addr} {nm q qual m file : Str} {bs bm sub : List Value} {sn : List Str} {ab : Bool} {col : Option Bool} {dd od an cdd cld : Option Addr} {k0 k1 k2 k3 k5 : Option Value} {oc doc pm ct ccl cl : Value} {osl ccs csl : Array (Option Value)}
    {CL : Addr} {cdL : ClassData} {j : Nat} {p1 p2 s0 s1 s2 s3 s4 s5 q1 q2 q3 q4 : Pos} {vs : Array Value} {tf : Tok} {cdD : ClassData}
    (xL : K.lookup C = some (excClassObj nm q C N bs bm true sn sub ab col dd k0 k1 k2 k3 k5 "ValueError.__new__")) (hb : refsVE bm = true)
    (sa : PySem.W.findIn K (.ref C) "__setattr__" = some (some (.builtin "object.__setattr__"))) (ga : PySem.W.findIn K (.ref C) "__getattribute__" = some (some (.builtin "BaseException.__getattribute__"))) (gg : PySem.W.findIn K (.ref C) "__getattr__" = some none)
    (noN : PySem.W.findIn K (.ref C) f = some none) (iC : PySem.W.findIn K (.ref C) "__init__" = some (some (.ref fI))) (tC : PySem.W.typeIn K (.ref fI) = some (.type "function")) (kC : PySem.W.keepIn K (.ref C) = true) (exC : PySem.W.subIn K (.ref C) (.type "BaseException") = some true) (tyC : PySem.W.typeIn K (.ref C) = some (.type "type")) (hdC : PySem.W.hasDictIn K C = true) (veC : PySem.W.subIn K (.ref C) (.type "ValueError") = some true)
    (nS : PySem.W.nsIn K mainGlobals "super" = some none) (nT : PySem.W.nsIn K cStatics "thirdparty.any" = some none)
    (l1 : K.lookup fI = some ⟨oc, od, .func (PySem.W.ksFn "__init__" qual (PySem.XcX.iA f p1 p2) (PySem.XcX.iB f m j s0 s1 s2 s3 s4 s5 q1 q2 q3 q4) (PySem.XcX.iS f) .none .none doc pm an (.ref cda) ct cc), osl⟩) (cI : PySem.W.codeIn K (.ref cda) qual = true) (l2 : K.lookup cda = some ⟨ccl, cdd, .fields vs, ccs⟩) (v2 : vs[2]? = some (.str file tf)) (fe : ((prog.main.file : Str) == file) = true)
    (l3 : K.lookup cc = some ⟨cl, cld, .cell (some (.ref Da)), csl⟩) (cD : PySem.W.clsIn K Da = some cdD) (mD : PySem.W.mroIn K C (.ref Da) = some true) (bL : PySem.W.clsIn K CL = some cdL) (eM : (((Value.ref C) :: bm).dropWhile (· != .ref Da)).drop 1 = cdL.mro) (sL : PySem.W.findIn K (.ref CL) "__init__" = some (some (.builtin "ValueError.__init__")))
    (i1 : (PySem.XcX.iS f).names.lookup ("super" : Str) = some .globalImplicit := by decide +kernel) (i2 : (PySem.XcX.iS f).names.lookup ("__class__" : Str) = some .free := by decide +kernel) (i3 : (PySem.XcX.iS f).names.lookup ("self" : Str) = some .local := by decide +kernel) (i4 : (PySem.XcX.iS f).names.lookup f = some .local := by decide +kernel) (i5 : ∀ x ∈ (PySem.XcX.iS f).names, x.2 ≠ .cell := by decide +kernel)
    (i6 : ¬ f = ("self" : Str) := by decide +kernel) (i7 : (f == ("__debug__" : Str)) = false := by decide +kernel) (i8 : (prog.main.scope.names.lookup ("super" : Str)).isSome = false) (i9 : PySem.XcX.SupCall m j s0 s1 s2 s3 s4)
    (i10 : ∀ u v : Value, bindArgs (PySem.W.ksFn "__init__" qual (PySem.XcX.iA f p1 p2) (PySem.XcX.iB f m j s0 s1 s2 s3 s4 s5 q1 q2 q3 q4) (PySem.XcX.iS f) .none .none doc pm an (.ref cda) ct cc) ⟨[u, v], []⟩ = pure [(("self" : Str), u), (f, v)]) : PySem.XcX.XcTxt prog K f C fI :=
  { cls := ⟨_, _, _, _, _, _, _, _, _, _, _, _, _, _, _, xL, hb⟩, sa := sa, ga := ga, gg := gg, noN := noN, iC := iC, tC := tC, kC := kC, exC := exC, tyC := tyC, hdC := hdC, veC := veC, nS := nS, nT := nT,
    fn := ⟨_, _, _, _, _, _, _, _, _, _, _, _, _, _, _, _, _, _, _, _, _, _, _, _, _, _, _, _, _, _, _, _, _, _, _, l1, cI, l2, v2, fe, l3, cD, mD, super_of xL bL eM sL, i1, i2, i3, i4, i5, i6, i7, i8, i9, i10⟩ }
end VL
namespace VL
open PySem PySem.Spec PyProof.Rows L2
theorem rep_ktup {K : PySem.W.Frag} {mg : Mg} {G : Hp} {b : Addr} {o : Obj} {its : Array Value} {n : Nat} {vs : List V} {ds : List D} (e : K.lookup b = some o) (h1 : o.cls = .type "tuple") (h2 : o.data = .seq its n) (hz : its.size ≤ sizeLine) (hv : Vals vs its.toList) (hr : Reps K mg G ds vs) : Rep K mg G (.tup ds) (.ref b) := by
  simp only [Rep]
  exact ⟨b, vs, rfl, .inr ⟨o, its, n, e, h1, h2, hz, hv⟩, hr⟩
end VL

set_option Elab.async false
set_option linter.all false
set_option maxHeartbeats 1000000
/-! What the functions do, as rules for simp; and the laws' common helpers in plain Lean. -/
namespace VL
open PySem PySem.Spec PyProof.Rows L2
def bitI (b : Bool) : Int := if b then 1 else 0
section
variable {ρ ρ' : List B} {r r2 : Rg} {d x y : D} {c : Ct} {e : Exc} {f g h : XE} {op op' : OP2} {o1 : OP} {s t : XS} {k : OP} {kb : Bool → Option EV} {kt : Bool → Option Out} {kv : EV → Option Out} {b : Bool} {i j : Int} {n : Nat} {o : Out} {l : List (Rg × D)} {fs : List XE}
@[simp] theorem bE_v : bE (some (.v r d)) k = k r d := rfl
@[simp] theorem bE_n : bE (some (.n r c)) k = k r c.toD := rfl
@[simp] theorem bE_x : bE (some (.x e)) k = some (.x e) := rfl
@[simp] theorem bE_none : bE none k = none := rfl
@[simp] theorem bB_v : bB (some (.v r (.bl b))) kb = kb b := rfl
@[simp] theorem bB_x : bB (some (.x e)) kb = some (.x e) := rfl
@[simp] theorem bV_v : bV ρ (some (.v r d)) kv = kv (.v r d) := rfl
@[simp] theorem bV_n : bV ρ (some (.n r c)) kv = kv (.n r c) := rfl
@[simp] theorem bV_x : bV ρ (some (.x e)) kv = some (.ex e ρ) := rfl
@[simp] theorem bV_none : bV ρ none kv = none := rfl
@[simp] theorem bT_v : bT ρ (some (.v r (.bl b))) kt = kt b := rfl
@[simp] theorem bT_x : bT ρ (some (.x e)) kt = some (.ex e ρ) := rfl
@[simp] theorem bS_nx : bS (some (.nx ρ)) s = s ρ := rfl
@[simp] theorem bS_rt : bS (some (.rt r d)) s = some (.rt r d) := rfl
@[simp] theorem bS_rn : bS (some (.rn r c)) s = some (.rn r c) := rfl
@[simp] theorem bS_bk : bS (some (.bk ρ)) s = some (.bk ρ) := rfl
@[simp] theorem bS_ct : bS (some (.ct ρ)) s = some (.ct ρ) := rfl
@[simp] theorem bS_ex : bS (some (.ex e ρ)) s = some (.ex e ρ) := rfl
@[simp] theorem vI_def : vI i = some (.v .nw (.int i)) := rfl
@[simp] theorem vB_def : vB b = some (.v .nw (.bl b)) := rfl
@[simp] theorem xC_ap : xC d ρ = some (.v .nw d) := rfl
@[simp] theorem x1_ap : x1 f o1 ρ = bE (f ρ) o1 := rfl
@[simp] theorem x2_ap : x2 f g op ρ = bE (f ρ) fun r x => bE (g ρ) fun r2 y => op r x r2 y := rfl
@[simp] theorem xNot_ap : xNot f ρ = bB (f ρ) fun k => vB (!k) := rfl
@[simp] theorem xOne_ap : xOne f ρ = bB (f ρ) vB := rfl
@[simp] theorem xAnd_ap : xAnd f g ρ = bB (f ρ) fun k => if k = true then bB (g ρ) vB else vB false := rfl
@[simp] theorem xOr_ap : xOr f g ρ = bB (f ρ) fun k => if k = true then vB true else bB (g ρ) vB := rfl
@[simp] theorem sNil_ap : sNil ρ = some (.nx ρ) := rfl
@[simp] theorem sCons_ap : sCons s t ρ = bS (s ρ) t := rfl
@[simp] theorem sIf_ap : sIf f s t ρ = bT ρ (f ρ) fun k => if k = true then s ρ else t ρ := rfl
@[simp] theorem sRet0_ap : sRet0 ρ = some (.rt .nw .non) := rfl
@[simp] theorem sBrk_ap : sBrk ρ = some (.bk ρ) := rfl
@[simp] theorem sCt_ap : sCt ρ = some (.ct ρ) := rfl
@[simp] theorem sFgt_ap {i : Nat} : sFgt i ρ = some (.nx (ρ.set i .no)) := rfl
@[simp] theorem sRet_ap : sRet f ρ = bV ρ (f ρ) fun
  | .v r d => if r.st = true ∨ d.sc = true then some (.rt r d) else none
  | .n r c => some (.rn r c)
  | .x _ => none := rfl
@[simp] theorem sSet_ap {i : Nat} : sSet i f ρ = bV ρ (f ρ) fun
  | .v r d => if r.st = true ∨ d.sc = true then some (.nx (ρ.set i (.v (nm r d) d))) else none
  | .n r c => some (.nx (ρ.set i (.own r c)))
  | .x _ => none := rfl
@[simp] theorem xVar_ap {i : Nat} : xVar i ρ = match ρ[i]? with
  | some (.v r d) => some (.v r d) | some (.own r c) => some (.v r.tr c.toD) | _ => none := rfl
@[simp] theorem sRetV_ap {i : Nat} : sRetV i ρ = match ρ[i]? with
  | some (.v r d) => if r.st = true ∨ d.sc = true then some (.rt r d) else none
  | some (.own r c) => some (.rn r c)
  | _ => none := rfl
@[simp] theorem sFrz_ap {i : Nat} : sFrz i ρ = match ρ[i]? with | some (.own r c) => some (.nx (ρ.set i (.v r c.toD))) | some (.v r d) => some (.nx ρ) | _ => none := rfl
@[simp] theorem sApp_ap {i : Nat} : sApp i f ρ = match ρ[i]? with
  | some (.own r (.lst ds)) => bV ρ (f ρ) fun
    | .v r2 d => if (nm r2 d).st = true ∧ ds.length < sizeLine then some (.nx (ρ.set i (.own (r.mx (nm r2 d)) (.lst (ds ++ [d]))))) else none
    | .n r2 c => if r2.st = true ∧ ds.length < sizeLine then some (.nx (ρ.set i (.own (r.mx (nm r2 c.toD)) (.lst (ds ++ [c.toD]))))) else none
    | _ => none
  | _ => none := rfl
@[simp] theorem sFor_ap {t : Tg} {it : XI} : sFor t it s ρ = match it ρ with
  | none => none | some (.x x) => some (.ex x ρ) | some (.ok r ds) => forE s t r ds ρ := rfl
@[simp] theorem iSeq_ap : iSeq f ρ = match f ρ with
  | some (.v r (.lst ds)) => if r.st = true then some (.ok r ds) else none
  | some (.v r (.tup ds)) => some (.ok r ds)
  | some (.n r (.lst ds)) => some (.ok r ds)
  | some (.x x) => some (.x x)
  | _ => none := rfl
@[simp] theorem endD_rt {r : Rg} {d : D} : endD (.rt r d) = if nm r d = .nw then some (.ok .nw d) else if r.st = true then some (.ok .od d) else none := rfl
@[simp] theorem endD_rn {r : Rg} {c : Ct} : endD (.rn r c) = if r = .nw then some (.new .nw c) else if r.st = true then some (.new .od c) else none := rfl
@[simp] theorem endD_ex {x : Exc} : endD (.ex x ρ) = some (.exc x) := rfl
@[simp] theorem endD_nx : endD (.nx ρ) = some (.ok .nw .non) := rfl
@[simp] theorem bnd_nm {i : Nat} : bnd (.nm i) r d ρ = if r.st = true ∨ d.sc = true then some (ρ.set i (.v (nm r d) d)) else none := by simp only [bnd]
@[simp] theorem bnd_tp {l : List Tg} {ds : List D} : bnd (.tp l) r (.tup ds) ρ = if ds.length = l.length then bnds l r ds ρ else none := by simp only [bnd]
@[simp] theorem bnds_nil : bnds [] r [] ρ = some ρ := by simp only [bnds]
@[simp] theorem bnds_cons {t : Tg} {l : List Tg} {ds : List D} : bnds (t :: l) r (d :: ds) ρ = (bnd t r d ρ).bind (bnds l r ds) := by simp only [bnds]
@[simp] theorem forE_nil {t : Tg} : forE s t r [] ρ = some (.nx ρ) := rfl
theorem forE_cons {t : Tg} {ds : List D} : forE s t r (d :: ds) ρ = (bnd t r d ρ).bind fun ρ2 => match s ρ2 with
    | some (.nx ρ3) => forE s t r ds ρ3
    | some (.ct ρ3) => forE s t r ds ρ3
    | some (.bk ρ3) => some (.nx ρ3)
    | o => o := rfl
theorem runD_eq {np nn : Nat} {body : XS} {ds : List D} (hl : ds.length = np) : runD np nn body ds = (body (VL.startB ds nn)).bind endD := if_pos hl
/-! operators on values -/
@[simp] theorem oAdd_i : oAdd r (.int i) r2 (.int j) = some (.v .nw (.int (i + j))) := rfl
@[simp] theorem oSub_i : oSub r (.int i) r2 (.int j) = some (.v .nw (.int (i - j))) := rfl
theorem oMul_i (hm : TimesOk i j) : oMul r (.int i) r2 (.int j) = some (.v .nw (.int (i * j))) := if_pos hm
theorem oDiv_i (hm : CDivW i j) : oDiv r (.int i) r2 (.int j) = some (.v .nw (.int (i / j))) := if_pos hm
theorem oMod_i (hm : 0 < j) : oMod r (.int i) r2 (.int j) = some (.v .nw (.int (i % j))) := if_pos hm
theorem oPow_i (hm : CPow i j) : oPow r (.int i) r2 (.int j) = some (.v .nw (.int (i ^ j.toNat))) := if_pos hm
@[simp] theorem oNeg_i : oNeg r (.int i) = some (.v .nw (.int (-i))) := rfl
@[simp] theorem oAbs_i : oAbs r (.int i) = some (.v .nw (.int (i.natAbs : Int))) := rfl
@[simp] theorem oInt_i : oInt r (.int i) = some (.v .nw (.int i)) := rfl
@[simp] theorem oInt_b : oInt r (.bl b) = some (.v .nw (.int (bitI b))) := rfl
@[simp] theorem oLt_i : oLt r (.int i) r2 (.int j) = some (.v .nw (.bl (decide (i < j)))) := rfl
@[simp] theorem oLe_i : oLe r (.int i) r2 (.int j) = some (.v .nw (.bl (decide (i ≤ j)))) := rfl
@[simp] theorem oGt_i : oGt r (.int i) r2 (.int j) = some (.v .nw (.bl (decide (j < i)))) := rfl
@[simp] theorem oGe_i : oGe r (.int i) r2 (.int j) = some (.v .nw (.bl (decide (j ≤ i)))) := rfl
@[simp] theorem oEq_i : oEq r (.int i) r2 (.int j) = some (.v .nw (.bl (decide (i = j)))) := rfl
@[simp] theorem oNe_i : oNe r (.int i) r2 (.int j) = some (.v .nw (.bl (decide (i ≠ j)))) := rfl
@[simp] theorem oIsN_d : oIsN r d = some (.v .nw (.bl d.isNon)) := rfl
@[simp] theorem oNotN_d : oNotN r d = some (.v .nw (.bl (!d.isNon))) := rfl
@[simp] theorem oIsB_d : oIsB b r d = some (.v .nw (.bl (d.isBl b))) := rfl
@[simp] theorem oLen_l {ds : List D} : oLen r (.lst ds) = some (.v .nw (.int ds.length)) := rfl
@[simp] theorem oLen_t {ds : List D} : oLen r (.tup ds) = some (.v .nw (.int ds.length)) := rfl
@[simp] theorem oLen_s {ns : List Int} : oLen r (.scr ns) = some (.v .nw (.int ns.length)) := rfl
@[simp] theorem oList_l {ds : List D} : oList r (.lst ds) = some (.n (nmC r.el (.lst ds)) (.lst ds)) := rfl
@[simp] theorem oList_t {ds : List D} : oList r (.tup ds) = some (.n (nmC r.el (.lst ds)) (.lst ds)) := rfl
@[simp] theorem oTuple_l {ds : List D} : oTuple r (.lst ds) = some (.v r.el (.tup ds)) := rfl
@[simp] theorem oRev_l {ds : List D} : oRev r (.lst ds) = some (.n (nmC r.el (.lst ds.reverse)) (.lst ds.reverse)) := rfl
@[simp] theorem nmC_sc {ds : List D} (h : ds.all D.sc = true) : nmC r (.lst ds) = .nw := if_pos h
@[simp] theorem nmC_rev {ns : List Int} : nmC r (.lst (ns.map .int).reverse) = .nw := if_pos (by simp [D.sc])
@[simp] theorem nmC_ints {ns : List Int} : nmC r (.lst (ns.map .int)) = .nw := by unfold nmC; simp [D.sc]
@[simp] theorem oSorted_l {ns : List Int} : oSorted r (.lst (ns.map .int)) = some (.n .nw (.lst ((sortI ns).map .int))) := by simp [oSorted, D.ints?_map]
@[simp] theorem oSum_l {ns : List Int} : oSum r (.lst (ns.map .int)) = some (.v .nw (.int ns.sum)) := by simp [oSum, D.ints?_map]
theorem atI_nat' {α : Type} {xs : List α} {k : Nat} {x : α} (hx : xs[k]? = some x) : atI xs (k : Int) = some x := atI_nat hx
theorem oIx_l {ds : List D} {k : Nat} (hx : ds[k]? = some d) : oIx r (.lst ds) r2 (.int k) = some (.v (nm r.el d) d) := by simp [oIx, atI_nat' hx]
theorem oIx_t {ds : List D} {k : Nat} (hx : ds[k]? = some d) : oIx r (.tup ds) r2 (.int k) = some (.v (nm r.el d) d) := by simp [oIx, atI_nat' hx]
theorem oIx_s {ns : List Int} {k : Nat} {z : Int} (hx : ns[k]? = some z) : oIx r (.scr ns) r2 (.int k) = some (.v .nw (.int z)) := by simp [oIx, atI_nat' hx]
/-- an int of a list of ints -/
theorem oIx_n {ns : List Int} {k : Nat} {z : Int} (hx : ns[k]? = some z) : oIx r (.lst (ns.map .int)) r2 (.int k) = some (.v .nw (.int z)) := by
  rw [oIx_l (d := .int z) (by rw [List.getElem?_map, hx]; rfl)]; rfl
@[simp] theorem nm_i : nm r (.int i) = .nw := rfl
@[simp] theorem nm_b : nm r (.bl b) = .nw := rfl
@[simp] theorem nm_n : nm r .non = .nw := rfl
@[simp] theorem nm_s {z : Str} : nm r (.str z) = .nw := rfl
@[simp] theorem nm_l {ds : List D} : nm r (.lst ds) = r := rfl
@[simp] theorem nm_t {ds : List D} : nm r (.tup ds) = r := rfl
@[simp] theorem nm_sc {ns : List Int} : nm r (.scr ns) = r := rfl
@[simp] theorem sc_i : (D.int i).sc = true := rfl
@[simp] theorem sc_b : (D.bl b).sc = true := rfl
@[simp] theorem st_nw : Rg.st .nw = true := rfl
@[simp] theorem st_od : Rg.st .od = true := rfl
@[simp] theorem el_nw : Rg.el .nw = .nw := rfl
@[simp] theorem el_od : Rg.el .od = .od := rfl
@[simp] theorem tr_nw : Rg.tr .nw = .tn := rfl
@[simp] theorem tr_od : Rg.tr .od = .to := rfl
@[simp] theorem el_tn : Rg.el .tn = .nw := rfl
@[simp] theorem el_to : Rg.el .to = .od := rfl
@[simp] theorem mx_nw : Rg.mx .nw r = r := rfl
@[simp] theorem mxA_nil : mxA [] = .nw := rfl
@[simp] theorem mxA_cons : mxA ((r, d) :: l) = (nm r d).mx (mxA l) := rfl
@[simp] theorem toD_lst {ds : List D} : Ct.toD (.lst ds) = .lst ds := rfl
end
/-! one statement after the other -/
theorem sc_nx {s t : XS} {ρ ρ' : List B} {o : Option Out} (h1 : s ρ = some (.nx ρ')) (h2 : t ρ' = o) : sCons s t ρ = o := by rw [sCons_ap, h1]; exact h2
theorem sc_rt {s t : XS} {ρ : List B} {r : Rg} {d : D} (h1 : s ρ = some (.rt r d)) : sCons s t ρ = some (.rt r d) := by rw [sCons_ap, h1]; rfl
theorem sc_rn {s t : XS} {ρ : List B} {r : Rg} {c : Ct} (h1 : s ρ = some (.rn r c)) : sCons s t ρ = some (.rn r c) := by rw [sCons_ap, h1]; rfl
theorem sc_ex {s t : XS} {ρ ρ' : List B} {x : Exc} (h1 : s ρ = some (.ex x ρ')) : sCons s t ρ = some (.ex x ρ') := by rw [sCons_ap, h1]; rfl
theorem sc_bk {s t : XS} {ρ ρ' : List B} (h1 : s ρ = some (.bk ρ')) : sCons s t ρ = some (.bk ρ') := by rw [sCons_ap, h1]; rfl
theorem sc_ct {s t : XS} {ρ ρ' : List B} (h1 : s ρ = some (.ct ρ')) : sCons s t ρ = some (.ct ρ') := by rw [sCons_ap, h1]; rfl
theorem if_t {f : XE} {s t : XS} {ρ : List B} {r : Rg} {o : Option Out} (h1 : f ρ = some (.v r (.bl true))) (h2 : s ρ = o) : sIf f s t ρ = o := by rw [sIf_ap, h1, bT_v, if_pos rfl]; exact h2
theorem if_f {f : XE} {s t : XS} {ρ : List B} {r : Rg} {o : Option Out} (h1 : f ρ = some (.v r (.bl false))) (h2 : t ρ = o) : sIf f s t ρ = o := by rw [sIf_ap, h1, bT_v, if_neg Bool.false_ne_true]; exact h2
theorem for_ok {t : Tg} {it : XI} {s : XS} {ρ : List B} {r : Rg} {ds : List D} {o : Option Out} (h1 : it ρ = some (.ok r ds)) (h2 : forE s t r ds ρ = o) : sFor t it s ρ = o := by rw [sFor_ap, h1]; exact h2
theorem set_v {i : Nat} {f : XE} {ρ : List B} {r : Rg} {d : D} (h1 : f ρ = some (.v r d)) (h2 : r.st = true ∨ d.sc = true) : sSet i f ρ = some (.nx (ρ.set i (.v (nm r d) d))) := by rw [sSet_ap, h1, bV_v]; exact if_pos h2
theorem set_n {i : Nat} {f : XE} {ρ : List B} {r : Rg} {c : Ct} (h1 : f ρ = some (.n r c)) : sSet i f ρ = some (.nx (ρ.set i (.own r c))) := by rw [sSet_ap, h1]; rfl
theorem run_of {np nn : Nat} {body : XS} {ds : List D} {out : Out} {res : Option Res} (hl : ds.length = np) (h1 : body (VL.startB ds nn) = some out) (h2 : endD out = res) : runD np nn body ds = res := by rw [runD_eq hl, h1]; exact h2
theorem call_v {G : List D → Option Res} {fs : List XE} {ρ : List B} {l : List (Rg × D)} {r : Rg} {d : D} (h1 : xArgs fs ρ = some (.ok l)) (h2 : G (l.map (·.2)) = some (.ok r d)) (h3 : r.st = true) (h4 : nm r d = .nw ∨ stA l = true) : xCall G fs ρ = some (.v (nm r d) d) := by
  unfold xCall; rw [h1]; show (G _).bind (afterC l) = _; rw [h2]; show afterC l (.ok r d) = _; unfold afterC; exact if_pos ⟨h3, h4⟩
theorem call_n {G : List D → Option Res} {fs : List XE} {ρ : List B} {l : List (Rg × D)} {c : Ct} (h1 : xArgs fs ρ = some (.ok l)) (h2 : G (l.map (·.2)) = some (.new .nw c)) : xCall G fs ρ = some (.n .nw c) := by
  unfold xCall; rw [h1]; show (G _).bind (afterC l) = _; rw [h2]; show afterC l (.new .nw c) = _; unfold afterC; exact if_pos ⟨rfl, .inl rfl⟩
theorem call_x {G : List D → Option Res} {fs : List XE} {ρ : List B} {l : List (Rg × D)} {x : Exc} (h1 : xArgs fs ρ = some (.ok l)) (h2 : G (l.map (·.2)) = some (.exc x)) : xCall G fs ρ = some (.x x) := by
  unfold xCall; rw [h1]; show (G _).bind (afterC l) = _; rw [h2]; rfl
/-! ### cells, draws -/
section
variable {ρ : List B}
/-- arguments whose values are known -/
theorem args_cons {f : XE} {fs : List XE} {r : Rg} {d : D} {l : List (Rg × D)} (h1 : f ρ = some (.v r d)) (h2 : xArgs fs ρ = some (.ok l)) : xArgs (f :: fs) ρ = some (.ok ((r, d) :: l)) := by
  simp [xArgs, h1, h2]
theorem args_consN {f : XE} {fs : List XE} {r : Rg} {c : Ct} {l : List (Rg × D)} (h1 : f ρ = some (.n r c)) (h2 : xArgs fs ρ = some (.ok l)) : xArgs (f :: fs) ρ = some (.ok ((r, c.toD) :: l)) := by
  simp [xArgs, h1, h2]
end
end VL

set_option Elab.async false
set_option linter.all false
set_option maxHeartbeats 1000000
/-! The helpers that most laws share, and what they compute. -/
namespace VL
open PySem PySem.Spec PyProof.Rows L2
noncomputable def cCell : XS := (sCons (sIf (x2 (xVar 1) (x1 (xVar 0) oLen) oLt) (sCons (sRet (x2 (xVar 0) (xVar 1) oIx)) sNil) sNil) (sCons (sRet (xInt 0)) sNil))
noncomputable def fCell : List D → Option Res := runD 2 2 cCell
noncomputable def cDraws : XS := (sCons (sSet 2 (xLst [])) (sCons (sSet 3 (x1 (xVar 0) oAbs)) (sCons (sIf (x2 (xVar 3) (x2 (xInt 10) (xInt 18) oPow) oGe) (sCons (sSet 3 (x2 (xVar 3) (x2 (xInt 10) (xInt 18) oPow) oSub)) (sCons (sFor (.nm 4) (iSeq (xVar 1)) (sCons (sApp 2 (x2 (x1 (xVar 3) oInt) (xVar 4) oMod)) (sCons (sSet 3 (x2 (xVar 3) (xVar 4) oDiv)) sNil))) (sCons (sRetV 2) sNil))) sNil) (sCons (sSet 5 (x2 (x1 (x2 (x2 (xVar 3) (xInt 2) oMul) (x1 (x2 (xVar 0) (xInt 0) oLt) oInt) oAdd) oInt) (xInt 2147483647) oMod)) (sCons (sFor (.nm 4) (iSeq (xVar 1)) (sCons (sSet 5 (x2 (x1 (x2 (x2 (xVar 5) (xInt 48271) oMul) (xInt 69621) oAdd) oInt) (xInt 2147483647) oMod)) (sCons (sSet 6 (x2 (x1 (x2 (x2 (xVar 5) (xVar 5) oMul) (xInt 40692) oAdd) oInt) (xInt 2147483399) oMod)) (sCons (sApp 2 (x2 (x1 (x2 (xVar 6) (xInt 11) oDiv) oInt) (xVar 4) oMod)) sNil)))) (sCons (sRetV 2) sNil))))))
noncomputable def fDraws : List D → Option Res := runD 2 7 cDraws
noncomputable def cRest : XS := (sCons (sIf (x2 (x1 (xVar 0) oAbs) (x2 (xInt 10) (xInt 18) oPow) oGe) (sCons (sRet (x2 (x2 (xInt 10) (xInt 18) oPow) (x2 (x2 (x1 (xVar 0) oAbs) (x2 (xInt 10) (xInt 18) oPow) oSub) (xVar 1) oDiv) oAdd)) sNil) sNil) (sCons (sRet (x2 (x2 (xVar 0) (xInt 7) oMul) (xVar 1) oAdd)) sNil))
noncomputable def fRest : List D → Option Res := runD 2 2 cRest
noncomputable def cSame (G : List D → Option Res) : XS := (sCons (sIf (x1 (xVar 1) oIsN) (sCons (sRet (x1 (xVar 0) oIsN)) sNil) sNil) (sCons (sIf (x1 (xVar 1) (oIsB true)) (sCons (sRet (x1 (xVar 0) (oIsB true))) sNil) sNil) (sCons (sIf (x1 (xVar 1) (oIsB false)) (sCons (sRet (x1 (xVar 0) (oIsB false))) sNil) sNil) (sCons (sIf (x1 (xVar 1) (oIsi "int")) (sCons (sRet (xAnd (x1 (xVar 0) (oIsi "int")) (xAnd (xNot (x1 (xVar 0) (oIsi "bool"))) (xOne (x2 (xVar 0) (xVar 1) oEq))))) sNil) sNil) (sCons (sIf (x1 (xVar 1) (oIsi "str")) (sCons (sRet (xAnd (x1 (xVar 0) (oIsi "str")) (xOne (x2 (xVar 0) (xVar 1) oEq)))) sNil) sNil) (sCons (sIf (xAnd (x1 (xVar 1) (oIsi "list")) (xOne (xNot (x1 (xVar 0) (oIsi "list"))))) (sCons (sRet (xBl false)) sNil) sNil) (sCons (sIf (xAnd (x1 (xVar 1) (oIsi "tuple")) (xOne (xNot (x1 (xVar 0) (oIsi "tuple"))))) (sCons (sRet (xBl false)) sNil) sNil) (sCons (sIf (x2 (x1 (xVar 0) oLen) (x1 (xVar 1) oLen) oNe) (sCons (sRet (xBl false)) sNil) sNil) (sCons (sFgt 2) (sCons (sFor (.nm 2) (iRange1 (x1 (xVar 1) oLen)) (sCons (sIf (xNot (xCall G [(x2 (xVar 0) (xVar 2) oIx), (x2 (xVar 1) (xVar 2) oIx)])) (sCons (sRet (xBl false)) sNil) sNil) (sCons (sFgt 2) sNil))) (sCons (sRet (xBl true)) sNil)))))))))))
noncomputable def fSame : Nat → List D → Option Res
  | 0 => runD 2 3 fun _ => none
  | n + 1 => runD 2 3 (cSame (fSame n))
theorem cell_eq (ns : List Int) (k : Nat) : fCell [.scr ns, .int k] = some (.ok .nw (.int (ns.getD k 0))) := by
  unfold fCell cCell
  unfold runD
  by_cases h : k < ns.length
  · simp [VL.startB, h, oIx_s (List.getElem?_eq_getElem h)]
  · simp [VL.startB, h]
def bigDraws : Int → List Int → List Int
  | _, [] => []
  | rest, l :: ls => rest % l :: bigDraws (rest / l) ls
def lcg : Int → List Int → List Int
  | _, [] => []
  | st, l :: ls => ((((st * 48271 + 69621) % 2147483647) * ((st * 48271 + 69621) % 2147483647) + 40692) % 2147483399 / 11) % l :: lcg ((st * 48271 + 69621) % 2147483647) ls
def draws (cell : Int) (ls : List Int) : List Int :=
  if 1000000000000000000 ≤ (cell.natAbs : Int) then bigDraws ((cell.natAbs : Int) - 1000000000000000000) ls else lcg (((cell.natAbs : Int) * 2 + bitI (decide (cell < 0))) % 2147483647) ls
theorem for_big (c : B) (lim : B) : ∀ (ls : List Int) (acc : List Int) (rest : Int) (b4 b5 b6 : B), (∀ l ∈ ls, CDivW 0 l) → acc.length + ls.length < 1000 →
    ∃ b4' b3', forE (sCons (sApp 2 (x2 (x1 (xVar 3) oInt) (xVar 4) oMod)) (sCons (sSet 3 (x2 (xVar 3) (xVar 4) oDiv)) sNil)) (.nm 4) .od (ls.map .int) [c, lim, .own .nw (.lst (acc.map .int)), .v .nw (.int rest), b4, b5, b6] = some (.nx [c, lim, .own .nw (.lst ((acc ++ bigDraws rest ls).map .int)), b3', b4', b5, b6])
  | [], acc, rest, b4, b5, b6, _, _ => ⟨b4, _, by simp [bigDraws]; rfl⟩
  | l :: ls, acc, rest, b4, b5, b6, h, hz => by
    have hl := h l List.mem_cons_self
    obtain ⟨b4', b3', ih⟩ := for_big c lim ls (acc ++ [rest % l]) (rest / l) (.v .nw (.int l)) b5 b6 (fun x hx => h x (List.mem_cons_of_mem _ hx)) (by simp at hz ⊢; omega)
    refine ⟨b4', b3', ?_⟩
    have hs : acc.length < sizeLine := small1000 (by omega)
    have hd : CDivW rest l := hl
    simp [forE_cons, oMod_i hl.1, oDiv_i hd, hs]
    simpa [bigDraws] using ih
theorem small_mul {i j : Int} (h : -(2 ^ 64) < j ∧ j < 2 ^ 64) : TimesOk i j := .inl (.inr h)
theorem for_lcg (c : B) (lim b3 : B) : ∀ (ls : List Int) (acc : List Int) (st : Int) (b4 b6 : B), (∀ l ∈ ls, CDivW 0 l) → acc.length + ls.length < 1000 →
    ∃ b4' b5' b6', forE (sCons (sSet 5 (x2 (x1 (x2 (x2 (xVar 5) (xInt 48271) oMul) (xInt 69621) oAdd) oInt) (xInt 2147483647) oMod)) (sCons (sSet 6 (x2 (x1 (x2 (x2 (xVar 5) (xVar 5) oMul) (xInt 40692) oAdd) oInt) (xInt 2147483399) oMod)) (sCons (sApp 2 (x2 (x1 (x2 (xVar 6) (xInt 11) oDiv) oInt) (xVar 4) oMod)) sNil))) (.nm 4) .od (ls.map .int) [c, lim, .own .nw (.lst (acc.map .int)), b3, b4, .v .nw (.int st), b6] = some (.nx [c, lim, .own .nw (.lst ((acc ++ lcg st ls).map .int)), b3, b4', b5', b6'])
  | [], acc, st, b4, b6, _, _ => ⟨b4, _, _, by simp [lcg]; exact ⟨rfl, rfl⟩⟩
  | l :: ls, acc, st, b4, b6, h, hz => by
    have hl := h l List.mem_cons_self
    obtain ⟨b4', b5', b6', ih⟩ := for_lcg c lim b3 ls (acc ++ [((((st * 48271 + 69621) % 2147483647) * ((st * 48271 + 69621) % 2147483647) + 40692) % 2147483399 / 11) % l]) ((st * 48271 + 69621) % 2147483647) (.v .nw (.int l)) (.v .nw (.int ((((st * 48271 + 69621) % 2147483647) * ((st * 48271 + 69621) % 2147483647) + 40692) % 2147483399))) (fun x hx => h x (List.mem_cons_of_mem _ hx)) (by simp at hz ⊢; omega)
    refine ⟨b4', b5', b6', ?_⟩
    have hs : acc.length < sizeLine := small1000 (by omega)
    have h1 : TimesOk st 48271 := small_mul (by decide)
    have h2 : TimesOk ((st * 48271 + 69621) % 2147483647) ((st * 48271 + 69621) % 2147483647) := small_mul (by omega)
    have h3 : ∀ z : Int, CDivW z 11 := fun z => ⟨by decide, by decide⟩
    simp [forE_cons, oMod_i hl.1, oMod_i (j := 2147483647) (by decide), oMod_i (j := 2147483399) (by decide), oMul_i h1, oMul_i h2, oDiv_i (h3 _), hs]
    simpa [lcg] using ih
theorem seed_eq (n : Int) (h1 : TimesOk n 2) (c : Int) (ρ : List B) (h0 : ρ[0]? = some (.v .nw (.int c))) (h3 : ρ[3]? = some (.v .nw (.int n))) : (x2 (x1 (x2 (x2 (xVar 3) (xInt 2) oMul) (x1 (x2 (xVar 0) (xInt 0) oLt) oInt) oAdd) oInt) (xInt 2147483647) oMod) ρ = some (.v .nw (.int ((n * 2 + bitI (decide (c < 0))) % 2147483647))) := by
  simp only [x2_ap, x1_ap, xVar_ap, xC_ap, h0, h3, bE_v, oMul_i h1, oLt_i, oInt_b, oInt_i, oAdd_i]
  exact oMod_i (by decide)
theorem draws_eq (c : Int) (ls : List Int) (hl : ∀ l ∈ ls, CDivW 0 l) (hz : ls.length < 1000) : fDraws [.int c, .lst (ls.map .int)] = some (.new .nw (.lst ((draws c ls).map .int))) := by
  unfold fDraws cDraws draws
  have hp : oPow .nw (.int 10) .nw (.int 18) = some (.v .nw (.int (1000000000000000000))) := (oPow_i ⟨by decide, by decide, by decide⟩).trans rfl
  refine run_of (out := .rn .nw (.lst (List.map D.int (if 1000000000000000000 ≤ (c.natAbs : Int) then bigDraws ((c.natAbs : Int) - 1000000000000000000) ls else lcg (((c.natAbs : Int) * 2 + bitI (decide (c < 0))) % 2147483647) ls)))) rfl ?_ rfl
  refine sc_nx (set_n (r := .nw) (c := .lst []) (by simp [xLst, xArgs, bA])) ?_
  refine sc_nx (set_v (r := .nw) (d := .int c.natAbs) (by simp [VL.startB]) (.inl rfl)) ?_
  by_cases h : 1000000000000000000 ≤ (c.natAbs : Int)
  · rw [if_pos h]
    obtain ⟨b4', b3', e⟩ := for_big (.v .nw (.int c)) (.v .od (.lst (ls.map .int))) ls [] ((c.natAbs : Int) - 1000000000000000000) .no .no .no hl (by simpa using hz)
    simp only [List.map_nil, List.nil_append] at e
    refine sc_rn (if_t (r := .nw) (by simp [VL.startB, hp, h]) ?_)
    refine sc_nx (set_v (r := .nw) (d := .int ((c.natAbs : Int) - 1000000000000000000)) (by simp [VL.startB, hp]) (.inl rfl)) ?_
    refine sc_nx (ρ' := _) (by simp [VL.startB]; exact e) ?_
    simp
  · rw [if_neg h]
    have h1 : TimesOk (c.natAbs : Int) 2 := small_mul (by decide)
    have h2 : ∀ z : Int, oMod .nw (.int z) .nw (.int 2147483647) = some (.v .nw (.int (z % 2147483647))) := fun z => oMod_i (by decide)
    obtain ⟨b4', b5', b6', e⟩ := for_lcg (.v .nw (.int c)) (.v .od (.lst (ls.map .int))) (.v .nw (.int c.natAbs)) ls [] (((c.natAbs : Int) * 2 + bitI (decide (c < 0))) % 2147483647) .no .no hl (by simpa using hz)
    simp only [List.map_nil, List.nil_append] at e
    refine sc_nx (if_f (r := .nw) (by simp [VL.startB, hp, h]) rfl) ?_
    refine sc_nx (set_v (r := .nw) (d := .int (((c.natAbs : Int) * 2 + bitI (decide (c < 0))) % 2147483647)) (seed_eq _ h1 c _ rfl rfl) (.inl rfl)) ?_
    refine sc_nx (ρ' := _) (by simp [VL.startB]; exact e) ?_
    simp
theorem rest_eq (c p : Int) (hp : CDivW 0 p) : ∃ z, fRest [.int c, .int p] = some (.ok .nw (.int z)) := by
  have hq : oPow .nw (.int 10) .nw (.int 18) = some (.v .nw (.int (1000000000000000000))) := (oPow_i ⟨by decide, by decide, by decide⟩).trans rfl
  have h1 : TimesOk c 7 := small_mul (by decide)
  have h2 : ∀ z, CDivW z p := fun z => hp
  unfold fRest cRest runD
  by_cases h : 1000000000000000000 ≤ (c.natAbs : Int)
  · simp [VL.startB, hq, h, oDiv_i (h2 _)]
  · simp [VL.startB, hq, h, oMul_i h1]

def LenOk (n : Nat) : Prop := n < 100000
theorem LenOk.rng {n : Nat} (h : LenOk n) : -(2 ^ 62) ≤ (n : Int) ∧ (n : Int) < 2 ^ 62 := by unfold LenOk at h; omega
theorem range_len {ρ : List B} {f : XE} {n : Nat} {r : Rg} (h1 : f ρ = some (.v r (.int n))) (h : LenOk n) : iRange1 f ρ = some (.ok .nw ((rangeI 0 n).map .int)) := by
  unfold iRange1; rw [h1]; exact if_pos h.rng
/-- data that _law_same walks through in n calls -/
def okS : Nat → D → Prop
  | 0, _ => False
  | n + 1, d => match d with
    | .non => True | .bl _ => True | .int _ => True | .str z => PyData.strOk z = true
    | .lst ds => LenOk ds.length ∧ ∀ e ∈ ds, okS n e
    | .tup ds => LenOk ds.length ∧ ∀ e ∈ ds, okS n e
    | _ => False
theorem same_loop {G : List D → Option Res} {d : D} {ds : List D} (hd : d = .lst ds ∨ d = .tup ds) (h : ∀ e ∈ ds, G [e, e] = some (.ok .nw (.bl true))) : ∀ (m : Nat) (ks : List Int) (b : B), ks = rangeI (m : Int) (ds.length - m) → m ≤ ds.length →
    ∃ b', forE (sCons (sIf (xNot (xCall G [(x2 (xVar 0) (xVar 2) oIx), (x2 (xVar 1) (xVar 2) oIx)])) (sCons (sRet (xBl false)) sNil) sNil) (sCons (sFgt 2) sNil)) (.nm 2) .nw (ks.map .int) [.v .od d, .v .od d, b] = some (.nx [.v .od d, .v .od d, b']) := by
  intro m ks
  induction ks generalizing m with
  | nil => intro b _ _; exact ⟨b, by simp⟩
  | cons k ks ih =>
    intro b e hm
    have hlt : m < ds.length := by
      rcases Nat.lt_or_ge m ds.length with z | z
      · exact z
      · have : ds.length - m = 0 := by omega
        rw [this] at e; cases e
    have e2 : rangeI (m : Int) (ds.length - m) = (m : Int) :: rangeI ((m + 1 : Nat) : Int) (ds.length - (m + 1)) := by
      have : ds.length - m = (ds.length - (m + 1)) + 1 := by omega
      rw [this]
      unfold rangeI
      rw [List.range_succ_eq_map, List.map_cons, List.map_map]
      congr 1
      simp
      intros; omega
    rw [e2] at e
    obtain ⟨rfl, rfl⟩ := List.cons.inj e
    obtain ⟨b', e3⟩ := ih (m + 1) .no rfl (by omega)
    refine ⟨b', ?_⟩
    rw [List.map_cons, forE_cons]
    have hx : ds[m]? = some ds[m] := List.getElem?_eq_getElem hlt
    have hg := h ds[m] (List.getElem_mem hlt)
    have hi : ∀ r2, oIx .od d r2 (.int (m : Int)) = some (.v (nm .od ds[m]) ds[m]) := by
      intro r2
      rcases hd with rfl | rfl
      · exact oIx_l hx
      · exact oIx_t hx
    have hc : xCall G [(x2 (xVar 0) (xVar 2) oIx), (x2 (xVar 1) (xVar 2) oIx)] [.v .od d, .v .od d, .v .nw (.int (m : Int))] = some (.v .nw (.bl true)) := by
      refine call_v (r := .nw) (d := .bl true) (args_cons (r := nm .od ds[m]) (d := ds[m]) (by simp [hi]) (args_cons (r := nm .od ds[m]) (d := ds[m]) (by simp [hi]) rfl)) hg rfl (.inl rfl)
    simp [hc]
    exact e3
theorem same_refl (n : Nat) : ∀ d : D, okS n d → fSame n [d, d] = some (.ok .nw (.bl true)) := by
  induction n with
  | zero => intro d h; exact h.elim
  | succ n ih =>
    intro d h
    show runD 2 3 (cSame (fSame n)) [d, d] = _
    unfold cSame
    have hint : ∀ r z, oIsi "int" r z = (z.ty).bind fun t => (kitB t "int").bind vB := fun _ _ => rfl
    cases d with
    | non => exact run_of (out := .rt .nw (.bl true)) rfl (by simp [VL.startB, D.isNon]) rfl
    | bl b =>
      cases b with
      | true => exact run_of (out := .rt .nw (.bl true)) rfl (by simp [VL.startB, D.isNon, D.isBl]) rfl
      | false => exact run_of (out := .rt .nw (.bl true)) rfl (by simp [VL.startB, D.isNon, D.isBl]) rfl
    | int i =>
      have h1 : ∀ r, oIsi "int" r (.int i) = some (.v .nw (.bl true)) := fun r => by show (kitB "int" "int").bind vB = _; rw [show kitB "int" "int" = some true by decide +kernel]; rfl
      have h2 : ∀ r, oIsi "bool" r (.int i) = some (.v .nw (.bl false)) := fun r => by show (kitB "int" "bool").bind vB = _; rw [show kitB "int" "bool" = some false by decide +kernel]; rfl
      exact run_of (out := .rt .nw (.bl true)) rfl (by simp [VL.startB, D.isNon, D.isBl, h1, h2]) rfl
    | str z =>
      have h1 : ∀ r, oIsi "int" r (.str z) = some (.v .nw (.bl false)) := fun r => by show (kitB "str" "int").bind vB = _; rw [show kitB "str" "int" = some false by decide +kernel]; rfl
      have h2 : ∀ r, oIsi "str" r (.str z) = some (.v .nw (.bl true)) := fun r => by show (kitB "str" "str").bind vB = _; rw [show kitB "str" "str" = some true by decide +kernel]; rfl
      have h3 : ∀ r r2, oEq r (.str z) r2 (.str z) = some (.v .nw (.bl true)) := fun r r2 => by
        have e1 : D.eqOk (.str z) = true := by simp [D.eqOk, D.pure, D.toP, SeqAt.shaped]; exact ⟨by simp [PyData.canLay0]; exact h, by first | decide | simp [PyData.depth]⟩
        have e2 : D.eqv (.str z) (.str z) = true := by simp [D.eqv, D.toP, PyData.eqv]
        unfold oEq
        simp only
        rw [if_pos ⟨e1, e1⟩, e2]; rfl
      exact run_of (out := .rt .nw (.bl true)) rfl (by simp [VL.startB, D.isNon, D.isBl, h1, h2, h3]) rfl
    | lst ds =>
      have h1 : ∀ r, oIsi "int" r (.lst ds) = some (.v .nw (.bl false)) := fun r => by show (kitB "list" "int").bind vB = _; rw [show kitB "list" "int" = some false by decide +kernel]; rfl
      have h2 : ∀ r, oIsi "str" r (.lst ds) = some (.v .nw (.bl false)) := fun r => by show (kitB "list" "str").bind vB = _; rw [show kitB "list" "str" = some false by decide +kernel]; rfl
      have h3 : ∀ r, oIsi "list" r (.lst ds) = some (.v .nw (.bl true)) := fun r => by show (kitB "list" "list").bind vB = _; rw [show kitB "list" "list" = some true by decide +kernel]; rfl
      have h4 : ∀ r, oIsi "tuple" r (.lst ds) = some (.v .nw (.bl false)) := fun r => by show (kitB "list" "tuple").bind vB = _; rw [show kitB "list" "tuple" = some false by decide +kernel]; rfl
      obtain ⟨b', e⟩ := same_loop (G := fSame n) (.inl rfl) (fun e he => ih e (h.2 e he)) 0 _ .no rfl (Nat.zero_le _)
      have hr : iRange1 (x1 (xVar 1) oLen) [.v .od (.lst ds), .v .od (.lst ds), .no] = some (.ok .nw ((rangeI 0 ds.length).map .int)) := range_len (r := .nw) (by simp) h.1
      refine run_of (out := .rt .nw (.bl true)) rfl ?_ rfl
      refine sc_nx (if_f (r := .nw) (by simp [VL.startB, D.isNon]) rfl) ?_
      refine sc_nx (if_f (r := .nw) (by simp [VL.startB, D.isBl]) rfl) ?_
      refine sc_nx (if_f (r := .nw) (by simp [VL.startB, D.isBl]) rfl) ?_
      refine sc_nx (if_f (r := .nw) (by simp [VL.startB, h1]) rfl) ?_
      refine sc_nx (if_f (r := .nw) (by simp [VL.startB, h2]) rfl) ?_
      refine sc_nx (if_f (r := .nw) (by simp [VL.startB, h3, h4]) rfl) ?_
      refine sc_nx (if_f (r := .nw) (by simp [VL.startB, h3, h4]) rfl) ?_
      refine sc_nx (if_f (r := .nw) (by simp [VL.startB]) rfl) ?_
      refine sc_nx (ρ' := [.v .od _, .v .od _, .no]) rfl ?_
      refine sc_nx (for_ok hr e) ?_
      simp
    | tup ds =>
      have h1 : ∀ r, oIsi "int" r (.tup ds) = some (.v .nw (.bl false)) := fun r => by show (kitB "tuple" "int").bind vB = _; rw [show kitB "tuple" "int" = some false by decide +kernel]; rfl
      have h2 : ∀ r, oIsi "str" r (.tup ds) = some (.v .nw (.bl false)) := fun r => by show (kitB "tuple" "str").bind vB = _; rw [show kitB "tuple" "str" = some false by decide +kernel]; rfl
      have h3 : ∀ r, oIsi "list" r (.tup ds) = some (.v .nw (.bl false)) := fun r => by show (kitB "tuple" "list").bind vB = _; rw [show kitB "tuple" "list" = some false by decide +kernel]; rfl
      have h4 : ∀ r, oIsi "tuple" r (.tup ds) = some (.v .nw (.bl true)) := fun r => by show (kitB "tuple" "tuple").bind vB = _; rw [show kitB "tuple" "tuple" = some true by decide +kernel]; rfl
      obtain ⟨b', e⟩ := same_loop (G := fSame n) (.inr rfl) (fun e he => ih e (h.2 e he)) 0 _ .no rfl (Nat.zero_le _)
      have hr : iRange1 (x1 (xVar 1) oLen) [.v .od (.tup ds), .v .od (.tup ds), .no] = some (.ok .nw ((rangeI 0 ds.length).map .int)) := range_len (r := .nw) (by simp) h.1
      refine run_of (out := .rt .nw (.bl true)) rfl ?_ rfl
      refine sc_nx (if_f (r := .nw) (by simp [VL.startB, D.isNon]) rfl) ?_
      refine sc_nx (if_f (r := .nw) (by simp [VL.startB, D.isBl]) rfl) ?_
      refine sc_nx (if_f (r := .nw) (by simp [VL.startB, D.isBl]) rfl) ?_
      refine sc_nx (if_f (r := .nw) (by simp [VL.startB, h1]) rfl) ?_
      refine sc_nx (if_f (r := .nw) (by simp [VL.startB, h2]) rfl) ?_
      refine sc_nx (if_f (r := .nw) (by simp [VL.startB, h3, h4]) rfl) ?_
      refine sc_nx (if_f (r := .nw) (by simp [VL.startB, h3, h4]) rfl) ?_
      refine sc_nx (if_f (r := .nw) (by simp [VL.startB]) rfl) ?_
      refine sc_nx (ρ' := [.v .od _, .v .od _, .no]) rfl ?_
      refine sc_nx (for_ok hr e) ?_
      simp
    | obj _ _ _ => exact h.elim
    | dct _ _ => exact h.elim
    | scr _ => exact h.elim
end VL

set_option Elab.async false
set_option linter.all false
set_option maxHeartbeats 1000000
/-! Lists of ints: equality, filtering. -/
namespace VL
open PySem PySem.Spec PyProof.Rows L2
theorem pures_ints (ns : List Int) : pures (ns.map .int) = true := by
  induction ns with
  | nil => rfl
  | cons n ns ih => simp [pures, D.pure, ih]
theorem lay_ints (ns : List Int) : PyData.canLayAll0 (toPs (ns.map .int)) = true := by
  induction ns with
  | nil => simp [toPs, PyData.canLayAll0]
  | cons n ns ih => simp [toPs, D.toP, PyData.canLayAll0, PyData.canLay0, ih]
theorem depth_ints (ns : List Int) : PyData.depthAll (toPs (ns.map .int)) ≤ 1 := by
  induction ns with
  | nil => simp [toPs, PyData.depthAll]
  | cons n ns ih =>
    simp [toPs, D.toP, PyData.depthAll, PyData.depth]
    omega
theorem eqOk_lst (ns : List Int) : D.eqOk (.lst (ns.map .int)) = true := by
  have h := depth_ints ns
  simp [D.eqOk, D.pure, pures_ints, D.toP, SeqAt.shaped, PyData.canLay0, lay_ints, PyData.depth]
  omega
theorem eqOk_tup (ns : List Int) : D.eqOk (.tup (ns.map .int)) = true := by
  have h := depth_ints ns
  simp [D.eqOk, D.pure, pures_ints, D.toP, SeqAt.shaped, PyData.canLay0, lay_ints, PyData.depth]
  omega
theorem eqv_all (as bs : List Int) : PyData.eqvAll (toPs (as.map .int)) (toPs (bs.map .int)) = decide (as = bs) := by
  induction as generalizing bs with
  | nil => cases bs <;> simp [toPs, PyData.eqvAll]
  | cons a as ih =>
    cases bs with
    | nil => simp [toPs, PyData.eqvAll]
    | cons b bs => simp [toPs, D.toP, PyData.eqvAll, PyData.eqv, ih, List.cons.injEq, Bool.decide_and]; rfl
theorem eqv_lst (as bs : List Int) : D.eqv (.lst (as.map .int)) (.lst (bs.map .int)) = decide (as = bs) := by
  simp only [D.eqv, D.toP, PyData.eqv, eqv_all]
theorem eqv_tup (as bs : List Int) : D.eqv (.tup (as.map .int)) (.tup (bs.map .int)) = decide (as = bs) := by
  simp only [D.eqv, D.toP, PyData.eqv, eqv_all]
theorem oEq_lst {r r2 : Rg} (as bs : List Int) : oEq r (.lst (as.map .int)) r2 (.lst (bs.map .int)) = some (.v .nw (.bl (decide (as = bs)))) := by
  unfold oEq; simp only; rw [if_pos ⟨eqOk_lst as, eqOk_lst bs⟩, eqv_lst]; rfl
theorem oEq_tup {r r2 : Rg} (as bs : List Int) : oEq r (.tup (as.map .int)) r2 (.tup (bs.map .int)) = some (.v .nw (.bl (decide (as = bs)))) := by
  unfold oEq; simp only; rw [if_pos ⟨eqOk_tup as, eqOk_tup bs⟩, eqv_tup]; rfl
/-- a comprehension over ints that keeps some -/
theorem lc_filter {c : XE} {i : Nat} {r : Rg} {ρ : List B} {P : Int → Bool} (hi : i < ρ.length) (hc : ∀ n : Int, c (ρ.set i (.v .nw (.int n))) = some (.v .nw (.bl (P n)))) : ∀ ns : List Int, lcE (some c) (xVar i) (.nm i) r ρ (ns.map .int) = some (.nw, (ns.filter P).map .int)
  | [] => rfl
  | n :: ns => by
    have ih := lc_filter (r := r) hi hc ns
    have hx : (ρ.set i (.v .nw (.int n)))[i]? = some (.v .nw (.int n)) := List.getElem?_set_self hi
    rw [List.map_cons, lcE]
    cases hp : P n with
    | true => simp [hc, hp, hx, ih]
    | false => simp [hc, hp, ih]
theorem bigDraws_len (r : Int) (ls : List Int) : (bigDraws r ls).length = ls.length := by
  induction ls generalizing r with
  | nil => rfl
  | cons l ls ih => simp [bigDraws, ih]
theorem lcg_len (r : Int) (ls : List Int) : (lcg r ls).length = ls.length := by
  induction ls generalizing r with
  | nil => rfl
  | cons l ls ih => simp [lcg, ih]
theorem draws_len (c : Int) (ls : List Int) : (draws c ls).length = ls.length := by
  unfold draws; split
  · exact bigDraws_len _ _
  · exact lcg_len _ _
/-- each draw is below its limit -/
def Below : List Int → List Int → Prop
  | [], [] => True
  | x :: xs, l :: ls => (0 ≤ x ∧ x < l) ∧ Below xs ls
  | _, _ => False
theorem bigDraws_below (r : Int) (ls : List Int) (h : ∀ l ∈ ls, 0 < l) : Below (bigDraws r ls) ls := by
  induction ls generalizing r with
  | nil => trivial
  | cons l ls ih =>
    have hl := h l List.mem_cons_self
    exact ⟨⟨Int.emod_nonneg _ (by omega), Int.emod_lt_of_pos _ hl⟩, ih _ fun x hx => h x (List.mem_cons_of_mem _ hx)⟩
theorem lcg_below (r : Int) (ls : List Int) (h : ∀ l ∈ ls, 0 < l) : Below (lcg r ls) ls := by
  induction ls generalizing r with
  | nil => trivial
  | cons l ls ih =>
    have hl := h l List.mem_cons_self
    exact ⟨⟨Int.emod_nonneg _ (by omega), Int.emod_lt_of_pos _ hl⟩, ih _ fun x hx => h x (List.mem_cons_of_mem _ hx)⟩
theorem draws_below (c : Int) (ls : List Int) (h : ∀ l ∈ ls, 0 < l) : Below (draws c ls) ls := by
  unfold draws; split
  · exact bigDraws_below _ _ h
  · exact lcg_below _ _ h
/-- one of a list of ints -/
theorem pick {xs : List Int} {k : Int} {r r2 : Rg} (h : 0 ≤ k ∧ k < xs.length) : ∃ z, xs[k.toNat]? = some z ∧ oIx r (.lst (xs.map .int)) r2 (.int k) = some (.v .nw (.int z)) := by
  have hk : k.toNat < xs.length := by omega
  have e : k = (k.toNat : Int) := by omega
  refine ⟨_, List.getElem?_eq_getElem hk, ?_⟩
  have := oIx_n (r := r) (r2 := r2) (List.getElem?_eq_getElem hk)
  rw [← e] at this; exact this
theorem pickT {xs : List Int} {k : Int} {r r2 : Rg} (h : 0 ≤ k ∧ k < xs.length) : ∃ z, xs[k.toNat]? = some z ∧ oIx r (.tup (xs.map .int)) r2 (.int k) = some (.v .nw (.int z)) := by
  have hk : k.toNat < xs.length := by omega
  have e : k = (k.toNat : Int) := by omega
  refine ⟨_, List.getElem?_eq_getElem hk, ?_⟩
  have := oIx_t (r := r) (r2 := r2) (ds := xs.map .int) (k := k.toNat) (d := .int xs[k.toNat]) (by rw [List.getElem?_map, List.getElem?_eq_getElem hk]; rfl)
  rw [← e] at this; exact this
theorem sto_n {i : Nat} {f g : XE} {ρ : List B} {ns : List Int} {z k : Int} {r r2 : Rg} (hρ : ρ[i]? = some (.own .nw (.lst (ns.map .int)))) (hg : g ρ = some (.v r (.int z))) (hf : f ρ = some (.v r2 (.int k))) (hk : 0 ≤ k ∧ k < ns.length) : sSto i f g ρ = some (.nx (ρ.set i (.own .nw (.lst ((ns.set k.toNat z).map .int))))) := by
  have hx : ixN (ns.map D.int).length k = some k.toNat := by
    unfold ixN; rw [List.length_map, if_pos hk.1, if_pos hk.2]
  unfold sSto
  rw [hρ]
  simp only
  rw [hg, bV_v]
  simp only
  rw [hf, bV_v]
  simp only [hx]
  rw [if_pos (by simp)]
  simp [List.map_set]
theorem setL_n {l : List Tg} {f : XE} {ρ ρ' : List B} {r : Rg} {ds : List D} (h1 : f ρ = some (.n r (.lst ds))) (hl : ds.length = l.length) (h2 : bnds l r.el ds ρ = some ρ') : sSetL l f ρ = some (.nx ρ') := by
  unfold sSetL; rw [h1, bV_n]; simp only; rw [if_pos hl, h2]; rfl
end VL

set_option Elab.async false
set_option linter.all false
set_option maxHeartbeats 1000000
/-! The typed reading: plain Lean functions over typed values, and the rules by which the functions of slots are told by them. -/
namespace VL
open PySem PySem.Spec PyProof.Rows L2
/-! ### results -/
inductive R (α : Type) where | no | ok (a : α) | ex (x : Exc)
def R.bind {α β : Type} : R α → (α → R β) → R β | .no, _ => .no | .ok a, f => f a | .ex x, _ => .ex x
@[simp] theorem R.ok_bind {α β : Type} {a : α} {f : α → R β} : (R.ok a).bind f = f a := rfl
@[simp] theorem R.no_bind {α β : Type} {f : α → R β} : (R.no : R α).bind f = .no := rfl
@[simp] theorem R.ex_bind {α β : Type} {x : Exc} {f : α → R β} : (R.ex x : R α).bind f = .ex x := rfl
open Classical in
noncomputable def gd {α : Type} (p : Prop) (m : R α) : R α := if p then m else .no
theorem gd_t {α : Type} {p : Prop} {m : R α} (h : p) : gd p m = m := by unfold gd; exact if_pos h
theorem gd_f {α : Type} {p : Prop} {m : R α} (h : ¬ p) : gd p m = .no := by unfold gd; exact if_neg h
@[simp] theorem gd_true {α : Type} {m : R α} : gd True m = m := gd_t trivial
@[simp] theorem gd_false {α : Type} {m : R α} : gd False m = .no := gd_f id
theorem gd_and {α : Type} {p q : Prop} {m : R α} : gd (p ∧ q) m = gd p (gd q m) := by
  by_cases hp : p
  · by_cases hq : q
    · simp [hp, hq]
    · simp [hp, hq]
  · simp [hp]
inductive L (S T : Type) where | go (s : S) | bk (s : S) | rt (t : T)
inductive Fi (S T : Type) where | fin (s : S) | rt (t : T)
section
variable {α β S T : Type}
def forP (b : α → S → R S) : List α → S → R S
  | [], s => .ok s
  | a :: as, s => (b a s).bind (forP b as)
def forL (b : α → S → R (L S T)) : List α → S → R (Fi S T)
  | [], s => .ok (.fin s)
  | a :: as, s => (b a s).bind fun
    | .go s => forL b as s
    | .bk s => .ok (.fin s)
    | .rt t => .ok (.rt t)
def mapR (f : α → R β) : List α → R (List β)
  | [] => .ok []
  | a :: as => (f a).bind fun b => (mapR f as).bind fun bs => .ok (b :: bs)
def whN (c : S → R Bool) (b : S → R S) : Nat → S → R S
  | 0, _ => .no
  | n + 1, s => (c s).bind fun k => if k = true then (b s).bind (whN c b n) else .ok s
def whLN (c : S → R Bool) (b : S → R (L S T)) : Nat → S → R (Fi S T)
  | 0, _ => .no
  | n + 1, s => (c s).bind fun k => if k = true then (b s).bind fun
    | .go s => whLN c b n s
    | .bk s => .ok (.fin s)
    | .rt t => .ok (.rt t) else .ok (.fin s)
open Classical in
noncomputable def whP (c : S → R Bool) (b : S → R S) (s : S) : R S := if h : ∃ n, whN c b n s ≠ .no then whN c b h.choose s else .no
open Classical in
noncomputable def whL (c : S → R Bool) (b : S → R (L S T)) (s : S) : R (Fi S T) := if h : ∃ n, whLN c b n s ≠ .no then whLN c b h.choose s else .no
@[simp] theorem forP_nil {b : α → S → R S} {s : S} : forP b [] s = .ok s := rfl
@[simp] theorem forL_nil {b : α → S → R (L S T)} {s : S} : forL b [] s = .ok (.fin s) := rfl
theorem forP_cons {b : α → S → R S} {a : α} {as : List α} {s : S} : forP b (a :: as) s = (b a s).bind (forP b as) := rfl
theorem forL_cons {b : α → S → R (L S T)} {a : α} {as : List α} {s : S} : forL b (a :: as) s = (b a s).bind fun
    | .go s => forL b as s
    | .bk s => .ok (.fin s)
    | .rt t => .ok (.rt t) := rfl
theorem whN_up {c : S → R Bool} {b : S → R S} : ∀ {n m : Nat} {s : S}, whN c b n s ≠ .no → n ≤ m → whN c b m s = whN c b n s
  | 0, _, _, h, _ => absurd rfl h
  | n + 1, 0, _, _, l => by omega
  | n + 1, m + 1, s, h, l => by
    simp only [whN] at h ⊢
    revert h
    cases c s with
    | no => intro h; rfl
    | ex x => intro h; rfl
    | ok k =>
      cases k with
      | false => intro h; rfl
      | true =>
        simp only [R.ok_bind, if_true]
        cases b s with
        | no => intro h; rfl
        | ex x => intro h; rfl
        | ok s2 => intro h; exact whN_up h (by omega)
theorem whLN_up {c : S → R Bool} {b : S → R (L S T)} : ∀ {n m : Nat} {s : S}, whLN c b n s ≠ .no → n ≤ m → whLN c b m s = whLN c b n s
  | 0, _, _, h, _ => absurd rfl h
  | n + 1, 0, _, _, l => by omega
  | n + 1, m + 1, s, h, l => by
    simp only [whLN] at h ⊢
    revert h
    cases c s with
    | no => intro h; rfl
    | ex x => intro h; rfl
    | ok k =>
      cases k with
      | false => intro h; rfl
      | true =>
        simp only [R.ok_bind, if_true]
        cases b s with
        | no => intro h; rfl
        | ex x => intro h; rfl
        | ok s2 =>
          cases s2 with
          | go s2 => intro h; exact whLN_up h (by omega)
          | bk s2 => intro h; rfl
          | rt t => intro h; rfl
theorem whP_of {c : S → R Bool} {b : S → R S} {n : Nat} {s : S} (h : whN c b n s ≠ .no) : whP c b s = whN c b n s := by
  have hx : ∃ n, whN c b n s ≠ .no := ⟨n, h⟩
  unfold whP
  rw [dif_pos hx]
  have e1 := whN_up hx.choose_spec (Nat.le_max_left _ n)
  have e2 := whN_up h (Nat.le_max_right hx.choose n)
  rw [← e1, e2]
theorem whL_of {c : S → R Bool} {b : S → R (L S T)} {n : Nat} {s : S} (h : whLN c b n s ≠ .no) : whL c b s = whLN c b n s := by
  have hx : ∃ n, whLN c b n s ≠ .no := ⟨n, h⟩
  unfold whL
  rw [dif_pos hx]
  have e1 := whLN_up hx.choose_spec (Nat.le_max_left _ n)
  have e2 := whLN_up h (Nat.le_max_right hx.choose n)
  rw [← e1, e2]
theorem whP_some {c : S → R Bool} {b : S → R S} {s : S} (h : whP c b s ≠ .no) : ∃ n, whP c b s = whN c b n s := by
  by_cases hx : ∃ n, whN c b n s ≠ .no
  · exact ⟨hx.choose, by unfold whP; rw [dif_pos hx]⟩
  · exact absurd (by unfold whP; rw [dif_neg hx]) h
theorem whL_some {c : S → R Bool} {b : S → R (L S T)} {s : S} (h : whL c b s ≠ .no) : ∃ n, whL c b s = whLN c b n s := by
  by_cases hx : ∃ n, whLN c b n s ≠ .no
  · exact ⟨hx.choose, by unfold whL; rw [dif_pos hx]⟩
  · exact absurd (by unfold whL; rw [dif_neg hx]) h
/-- a while by an invariant and a measure -/
theorem whN_inv {c : S → R Bool} {b : S → R S} (I : S → Prop) (μ : S → Nat) (hc : ∀ s, I s → ∃ k, c s = .ok k)
    (hb : ∀ s, I s → c s = .ok true → ∃ s2, b s = .ok s2 ∧ I s2 ∧ μ s2 < μ s) : ∀ (n : Nat) (s : S), I s → μ s < n → ∃ s2, whN c b n s = .ok s2 ∧ I s2 ∧ c s2 = .ok false := by
  intro n
  induction n with
  | zero => intro s _ h; omega
  | succ n ih =>
    intro s hs hn
    obtain ⟨k, hk⟩ := hc s hs
    cases k with
    | false => exact ⟨s, by simp [whN, hk], hs, hk⟩
    | true =>
      obtain ⟨s2, h1, h2, h3⟩ := hb s hs hk
      obtain ⟨s3, h4, h5, h6⟩ := ih s2 h2 (by omega)
      exact ⟨s3, by simp [whN, hk, h1, h4], h5, h6⟩
theorem whP_inv {c : S → R Bool} {b : S → R S} (I : S → Prop) (μ : S → Nat) {s : S} (h0 : I s) (hc : ∀ s, I s → ∃ k, c s = .ok k)
    (hb : ∀ s, I s → c s = .ok true → ∃ s2, b s = .ok s2 ∧ I s2 ∧ μ s2 < μ s) : ∃ s2, whP c b s = .ok s2 ∧ I s2 ∧ c s2 = .ok false := by
  obtain ⟨s2, h1, h2⟩ := whN_inv I μ hc hb (μ s + 1) s h0 (by omega)
  exact ⟨s2, by rw [whP_of (n := μ s + 1) (by rw [h1]; intro z; cases z), h1], h2⟩
/-- a for by an invariant over what has been walked -/
theorem forP_inv {b : α → S → R S} (I : List α → S → Prop) {as : List α} (hb : ∀ (pre : List α) (a : α) (post : List α) (s : S), as = pre ++ a :: post → I pre s → ∃ s2, b a s = .ok s2 ∧ I (pre ++ [a]) s2) {s : S} (h0 : I [] s) : ∃ s2, forP b as s = .ok s2 ∧ I as s2 := by
  have go : ∀ (post pre : List α) (s : S), as = pre ++ post → I pre s → ∃ s2, forP b post s = .ok s2 ∧ I as s2 := by
    intro post
    induction post with
    | nil => intro pre s e h; rw [List.append_nil] at e; subst e; exact ⟨s, rfl, h⟩
    | cons a post ih =>
      intro pre s e h
      obtain ⟨s2, h1, h2⟩ := hb pre a post s e h
      obtain ⟨s3, h3, h4⟩ := ih (pre ++ [a]) s2 (by simpa using e) h2
      exact ⟨s3, by rw [forP_cons, h1, R.ok_bind, h3], h4⟩
  exact go as [] s rfl h0
theorem mapR_ok {f : α → R β} {g : α → β} : ∀ {as : List α}, (∀ a ∈ as, f a = .ok (g a)) → mapR f as = .ok (as.map g)
  | [], _ => rfl
  | a :: as, h => by
    simp only [mapR, h a List.mem_cons_self, R.ok_bind, mapR_ok fun x hx => h x (List.mem_cons_of_mem _ hx), List.map_cons]
end
/-! ### typed values as data -/
class Enc (α : Type) where toD : α → D
def toD {α : Type} [Enc α] : α → D := Enc.toD
structure Scr where ns : List Int
structure Tup (α : Type) where l : List α
structure T3 (α β γ : Type) where
  a : α
  b : β
  c : γ
structure T4 (α β γ δ : Type) where
  a : α
  b : β
  c : γ
  d : δ
instance : Enc Int := ⟨.int⟩
instance : Enc Bool := ⟨.bl⟩
instance : Enc Str := ⟨.str⟩
instance : Enc Unit := ⟨fun _ => .non⟩
instance : Enc D := ⟨id⟩
instance : Enc Scr := ⟨fun s => .scr s.ns⟩
instance {α : Type} [Enc α] : Enc (List α) := ⟨fun l => .lst (l.map toD)⟩
instance {α : Type} [Enc α] : Enc (Tup α) := ⟨fun l => .tup (l.l.map toD)⟩
instance {α β : Type} [Enc α] [Enc β] : Enc (α × β) := ⟨fun p => .tup [toD p.1, toD p.2]⟩
instance {α β γ : Type} [Enc α] [Enc β] [Enc γ] : Enc (T3 α β γ) := ⟨fun p => .tup [toD p.a, toD p.b, toD p.c]⟩
instance {α β γ δ : Type} [Enc α] [Enc β] [Enc γ] [Enc δ] : Enc (T4 α β γ δ) := ⟨fun p => .tup [toD p.a, toD p.b, toD p.c, toD p.d]⟩
/-! ### what is told -/
section
variable {α β S T : Type}
def TE (o : Option EV) (m : R α) (f : α → EV) : Prop := match m with | .no => True | .ok a => o = some (f a) | .ex x => o = some (.x x)
def TK (o : Option Out) (m : R α) (P : α → Out → Prop) (X : List B → Prop) : Prop := match m with | .no => True | .ok a => ∃ u, o = some u ∧ P a u | .ex x => ∃ ρ, o = some (.ex x ρ) ∧ X ρ
def TF (o : Option Res) (m : R α) (f : α → Res) : Prop := match m with | .no => True | .ok a => o = some (f a) | .ex x => o = some (.exc x)
def cK (s k : XS) : XS := fun ρ => bS (s ρ) k
/-- what a def's end gives -/
def Rt (mk : α → Res) (v : α) (u : Out) : Prop := endD u = some (mk v)
def isRet : Out → Bool | .rt _ _ => true | .rn _ _ => true | _ => false
def RtL (mk : α → Res) (v : α) (u : Out) : Prop := isRet u = true ∧ endD u = some (mk v)
/-- the end of a loop's body -/
def Lp (J : S → List B) (Q : T → Out → Prop) : L S T → Out → Prop
  | .go s, u => u = .nx (J s) ∨ u = .ct (J s)
  | .bk s, u => u = .bk (J s)
  | .rt t, u => Q t u ∧ isRet u = true
def Nx (J : S → List B) (s : S) (u : Out) : Prop := u = .nx (J s)
def Go (J : S → List B) (s : S) (u : Out) : Prop := u = .nx (J s) ∨ u = .ct (J s)
variable {ρ ρ' : List B} {o : Option Out} {oe : Option EV} {m : R α} {P : α → Out → Prop} {X : List B → Prop} {f : α → EV} {K : α → R β} {g : Prop} {r r2 r3 : Rg} {d x y z : D} {c : Ct} {fe ge he : XE} {t k s : XS} {i j : Nat} {xx : Exc}
theorem TF_of {np nn : Nat} {body : XS} {ds : List D} {mk : α → Res} (hl : ds.length = np) (h : TK (cK body sNil (startB ds nn)) m (Rt mk) (fun _ => True)) : TF (runD np nn body ds) m mk := by
  have e : ∀ o : Option Out, bS o sNil = o := fun o => by cases o with | none => rfl | some o => cases o <;> rfl
  have e2 : cK body sNil (startB ds nn) = body (startB ds nn) := e _
  rw [e2] at h
  rw [runD_eq hl]
  cases m with
  | no => trivial
  | ok a => obtain ⟨u, h1, h2⟩ := h; show (body _).bind endD = _; rw [h1]; exact h2
  | ex x => obtain ⟨u, h1, h2⟩ := h; show (body _).bind endD = _; rw [h1]; rfl
theorem TF_run {o : Option Res} {mk : α → Res} {a : α} (h : TF o m mk) (e : m = .ok a) : o = some (mk a) := by subst e; exact h
/-! expressions -/
theorem TE_gd (h : g → TE oe m f) : TE oe (gd g m) f := by
  by_cases hg : g
  · rw [gd_t hg]; exact h hg
  · rw [gd_f hg]; trivial
theorem TE_atom {γ : Type} {oa : Option EV} {ma : R γ} {fa : γ → EV} {K : γ → R α} (ha : TE oa ma fa) (h1 : ∀ a, oa = some (fa a) → TE oe (K a) f) (h2 : ∀ x, oa = some (.x x) → oe = some (.x x)) : TE oe (ma.bind K) f := by
  cases ma with
  | no => trivial
  | ok a => exact h1 a ha
  | ex x => exact h2 x ha
theorem TE_ok {a : α} (h : oe = some (f a)) : TE oe (.ok a) f := h
theorem TE_call {G : List D → Option Res} {fs : List XE} {l : List (Rg × D)} {mk : α → Res} (ha : xArgs fs ρ = some (.ok l)) (h : TF (G (l.map (·.2))) m mk) (hf : ∀ v, afterC l (mk v) = some (f v)) : TE (xCall G fs ρ) m f := by
  unfold xCall
  rw [ha]
  show TE ((G (l.map (·.2))).bind (afterC l)) m f
  cases m with
  | no => trivial
  | ok a => show _ = _; rw [show G (l.map (·.2)) = some (mk a) from h]; exact hf a
  | ex x => show _ = _; rw [show G (l.map (·.2)) = some (.exc x) from h]; rfl
theorem aft_ok {l : List (Rg × D)} (h : r.st = true ∧ (nm r d = .nw ∨ stA l = true)) : afterC l (.ok r d) = some (.v (nm r d) d) := if_pos h
theorem aft_new {l : List (Rg × D)} (h : r.st = true ∧ (r = .nw ∨ stA l = true)) : afterC l (.new r c) = some (.n r c) := if_pos h
theorem nm_nw : nm .nw d = .nw := by unfold nm; split <;> rfl
theorem TE_and {A : Bool} {mb : R Bool} (ha : fe ρ = some (.v r (.bl A))) (hb : A = true → TE (ge ρ) mb fun v => .v .nw (.bl v)) : TE (xAnd fe ge ρ) (if A = true then mb else .ok false) fun v => .v .nw (.bl v) := by
  rw [xAnd_ap, ha, bB_v]
  cases A with
  | false => rfl
  | true =>
    have h := hb rfl
    simp only [if_true]
    cases mb with
    | no => trivial
    | ok b => show _ = _; rw [show ge ρ = some (.v .nw (.bl b)) from h]; rfl
    | ex x => show _ = _; rw [show ge ρ = some (.x x) from h]; rfl
theorem TE_or {A : Bool} {mb : R Bool} (ha : fe ρ = some (.v r (.bl A))) (hb : A = false → TE (ge ρ) mb fun v => .v .nw (.bl v)) : TE (xOr fe ge ρ) (if A = true then .ok true else mb) fun v => .v .nw (.bl v) := by
  rw [xOr_ap, ha, bB_v]
  cases A with
  | true => rfl
  | false =>
    have h := hb rfl
    simp only [Bool.false_eq_true, if_false]
    cases mb with
    | no => trivial
    | ok b => show _ = _; rw [show ge ρ = some (.v .nw (.bl b)) from h]; rfl
    | ex x => show _ = _; rw [show ge ρ = some (.x x) from h]; rfl
theorem TE_ite {A : Bool} {ma mb : R α} (hc : he ρ = some (.v r (.bl A))) (ha : A = true → TE (fe ρ) ma f) (hb : A = false → TE (ge ρ) mb f) (hf : ∀ a, ∃ r d, f a = .v r d) : TE (xIte he fe ge ρ) (if A = true then ma else mb) f := by
  have key : ∀ (oe : Option EV) (m : R α), TE oe m f → TE (bE oe fun r d => some (.v r d)) m f := fun oe m h => by
    cases m with
    | no => trivial
    | ok a => show _ = _; rw [show oe = some (f a) from h]; obtain ⟨r, d, e⟩ := hf a; rw [e]; rfl
    | ex x => show _ = _; rw [show oe = some (.x x) from h]; rfl
  show TE (bB (he ρ) fun k => if k = true then bE (fe ρ) fun r d => some (.v r d) else bE (ge ρ) fun r d => some (.v r d)) _ _
  rw [hc, bB_v]
  cases A with
  | true => exact key _ _ (ha rfl)
  | false => exact key _ _ (hb rfl)
/-! equations of expressions -/
variable {op : OP2} {o1 : OP} {ev : Option EV} {A B' : Bool} {fs : List XE} {l : List (Rg × D)}
theorem E1 (h1 : fe ρ = some (.v r x)) (h2 : o1 r x = ev) : x1 fe o1 ρ = ev := by rw [x1_ap, h1]; exact h2
theorem E1n (h1 : fe ρ = some (.n r c)) (h2 : o1 r c.toD = ev) : x1 fe o1 ρ = ev := by rw [x1_ap, h1]; exact h2
theorem E1x (h1 : fe ρ = some (.x xx)) : x1 fe o1 ρ = some (.x xx) := by rw [x1_ap, h1]; rfl
theorem E2 (h1 : fe ρ = some (.v r x)) (h2 : ge ρ = some (.v r2 y)) (h3 : op r x r2 y = ev) : x2 fe ge op ρ = ev := by rw [x2_ap, h1, bE_v, h2]; exact h3
theorem E2n {c2 : Ct} (h1 : fe ρ = some (.n r c)) (h2 : ge ρ = some (.v r2 y)) (h3 : op r c.toD r2 y = ev) : x2 fe ge op ρ = ev := by rw [x2_ap, h1, bE_n, h2]; exact h3
theorem E2nl (h1 : fe ρ = some (.n r c)) (h2 : ge ρ = some (.v r2 y)) (h3 : op r c.toD r2 y = ev) : x2 fe ge op ρ = ev := by rw [x2_ap, h1, bE_n, h2]; exact h3
theorem E2nr (h1 : fe ρ = some (.v r x)) (h2 : ge ρ = some (.n r2 c)) (h3 : op r x r2 c.toD = ev) : x2 fe ge op ρ = ev := by rw [x2_ap, h1, bE_v, h2]; exact h3
theorem E2nn {c2 : Ct} (h1 : fe ρ = some (.n r c)) (h2 : ge ρ = some (.n r2 c2)) (h3 : op r c.toD r2 c2.toD = ev) : x2 fe ge op ρ = ev := by rw [x2_ap, h1, bE_n, h2]; exact h3
theorem E2xl (h1 : fe ρ = some (.x xx)) : x2 fe ge op ρ = some (.x xx) := by rw [x2_ap, h1]; rfl
theorem E2xr (h1 : fe ρ = some (.v r x)) (h2 : ge ρ = some (.x xx)) : x2 fe ge op ρ = some (.x xx) := by rw [x2_ap, h1, bE_v, h2]; rfl
theorem E2xrn (h1 : fe ρ = some (.n r c)) (h2 : ge ρ = some (.x xx)) : x2 fe ge op ρ = some (.x xx) := by rw [x2_ap, h1, bE_n, h2]; rfl
theorem Enot (h1 : fe ρ = some (.v r (.bl A))) : xNot fe ρ = some (.v .nw (.bl (!A))) := by rw [xNot_ap, h1]; rfl
theorem Enotx (h1 : fe ρ = some (.x xx)) : xNot fe ρ = some (.x xx) := by rw [xNot_ap, h1]; rfl
theorem Eone (h1 : fe ρ = some (.v r (.bl A))) : xOne fe ρ = some (.v .nw (.bl A)) := by rw [xOne_ap, h1]; rfl
theorem Eonex (h1 : fe ρ = some (.x xx)) : xOne fe ρ = some (.x xx) := by rw [xOne_ap, h1]; rfl
theorem Eand (h1 : fe ρ = some (.v r (.bl A))) (h2 : A = true → ge ρ = some (.v r2 (.bl B'))) : xAnd fe ge ρ = some (.v .nw (.bl (A && B'))) := by
  rw [xAnd_ap, h1, bB_v]
  cases A with
  | false => rfl
  | true => rw [if_pos rfl, h2 rfl]; rfl
theorem Eandx (h1 : fe ρ = some (.x xx)) : xAnd fe ge ρ = some (.x xx) := by rw [xAnd_ap, h1]; rfl
theorem Eor (h1 : fe ρ = some (.v r (.bl A))) (h2 : A = false → ge ρ = some (.v r2 (.bl B'))) : xOr fe ge ρ = some (.v .nw (.bl (A || B'))) := by
  rw [xOr_ap, h1, bB_v]
  cases A with
  | true => rfl
  | false => rw [if_neg Bool.false_ne_true, h2 rfl]; rfl
theorem Eorx (h1 : fe ρ = some (.x xx)) : xOr fe ge ρ = some (.x xx) := by rw [xOr_ap, h1]; rfl
theorem Eite {a b : α} [Enc α] (h1 : he ρ = some (.v r (.bl A))) (h2 : A = true → fe ρ = some (.v r2 (toD a))) (h3 : A = false → ge ρ = some (.v r2 (toD b))) : xIte he fe ge ρ = some (.v r2 (toD (if A = true then a else b))) := by
  show (bB (he ρ) fun k => if k = true then bE (fe ρ) fun r d => some (.v r d) else bE (ge ρ) fun r d => some (.v r d)) = _
  rw [h1, bB_v]
  cases A with
  | true => rw [if_pos rfl, h2 rfl]; rfl
  | false => rw [if_neg Bool.false_ne_true, h3 rfl]; rfl
theorem Eitex (h1 : he ρ = some (.x xx)) : xIte he fe ge ρ = some (.x xx) := by
  show (bB (he ρ) fun k => if k = true then bE (fe ρ) fun r d => some (.v r d) else bE (ge ρ) fun r d => some (.v r d)) = _
  rw [h1]; rfl
theorem Echain {f1 f2 : OP2} {a b c' : Int} (h1 : fe ρ = some (.v r (.int a))) (h2 : ge ρ = some (.v r2 (.int b))) (h3 : f1 r (.int a) r2 (.int b) = some (.v .nw (.bl A))) (h4 : A = true → he ρ = some (.v r3 (.int c'))) (h5 : f2 r2 (.int b) r3 (.int c') = some (.v .nw (.bl B'))) : xChain fe ge he f1 f2 ρ = some (.v .nw (.bl (A && B'))) := by
  unfold xChain
  rw [h1, bE_v, h2, bE_v]
  simp only [h3]
  cases A with
  | false => rfl
  | true => simp only [h4 rfl, bE_v, h5]; rfl
/-! arguments -/
theorem A0 : xArgs [] ρ = some (.ok []) := rfl
theorem A1 (h1 : fe ρ = some (.v r d)) (h2 : xArgs fs ρ = some (.ok l)) : xArgs (fe :: fs) ρ = some (.ok ((r, d) :: l)) := args_cons h1 h2
theorem A1n (h1 : fe ρ = some (.n r c)) (h2 : xArgs fs ρ = some (.ok l)) : xArgs (fe :: fs) ρ = some (.ok ((r, c.toD) :: l)) := args_consN h1 h2
theorem Ax (h1 : fe ρ = some (.x xx)) : xArgs (fe :: fs) ρ = some (.x xx) := by simp [xArgs, h1]
theorem Axs (h1 : fe ρ = some (.v r d)) (h2 : xArgs fs ρ = some (.x xx)) : xArgs (fe :: fs) ρ = some (.x xx) := by simp [xArgs, h1, h2]
theorem Axsn (h1 : fe ρ = some (.n r c)) (h2 : xArgs fs ρ = some (.x xx)) : xArgs (fe :: fs) ρ = some (.x xx) := by simp [xArgs, h1, h2]
theorem Etup (h : xArgs fs ρ = some (.ok l)) (h3 : mxA l = r) (h2 : r.st = true) : xTup fs ρ = some (.v r (.tup (l.map (·.2)))) := by subst h3; unfold xTup; rw [h]; exact if_pos h2
theorem Elst (h : xArgs fs ρ = some (.ok l)) (h3 : mxA l = r) (h2 : r.st = true) : xLst fs ρ = some (.n r (.lst (l.map (·.2)))) := by subst h3; unfold xLst; rw [h]; exact if_pos h2
theorem Etupx (h : xArgs fs ρ = some (.x xx)) : xTup fs ρ = some (.x xx) := by unfold xTup; rw [h]; rfl
theorem Elstx (h : xArgs fs ρ = some (.x xx)) : xLst fs ρ = some (.x xx) := by unfold xLst; rw [h]; rfl
theorem Ecallx {G : List D → Option Res} (h : xArgs fs ρ = some (.x xx)) : xCall G fs ρ = some (.x xx) := by unfold xCall; rw [h]; rfl
end
end VL

set_option Elab.async false
set_option linter.all false
set_option maxHeartbeats 1000000
/-! The typed reading: operators on typed values; statements. -/
namespace VL
open PySem PySem.Spec PyProof.Rows L2
class Sc (α : Type) [Enc α] : Prop where sc : ∀ a : α, (toD a).sc = true
instance : Sc Int := ⟨fun _ => rfl⟩
instance : Sc Bool := ⟨fun _ => rfl⟩
instance : Sc Str := ⟨fun _ => rfl⟩
instance : Sc Unit := ⟨fun _ => rfl⟩
section
variable {α β S T : Type} [Enc α] [Enc β]
variable {ρ ρ' : List B} {o : Option Out} {oe : Option EV} {m : R α} {X : List B → Prop} {g : Prop} {r r2 r3 : Rg} {d x y z : D} {c : Ct} {fe ge he : XE} {t k s : XS} {xx : Exc} {i j : Int} {xs ys : List α} {is js : List Int}
/-! ### operators -/
theorem t_add : oAdd r (toD i) r2 (toD j) = some (.v .nw (toD (i + j))) := rfl
theorem t_sub : oSub r (toD i) r2 (toD j) = some (.v .nw (toD (i - j))) := rfl
theorem t_mul (h : TimesOk i j) : oMul r (toD i) r2 (toD j) = some (.v .nw (toD (i * j))) := oMul_i h
theorem t_div (h : CDivW i j) : oDiv r (toD i) r2 (toD j) = some (.v .nw (toD (i / j))) := oDiv_i h
theorem t_mod (h : 0 < j) : oMod r (toD i) r2 (toD j) = some (.v .nw (toD (i % j))) := oMod_i h
theorem t_powc {k : Int} (h : CPow i j) (e : i ^ j.toNat = k) : oPow r (toD i) r2 (toD j) = some (.v .nw (toD k)) := by rw [← e]; exact oPow_i h
theorem t_pow (h : CPow i j) : oPow r (toD i) r2 (toD j) = some (.v .nw (toD (i ^ j.toNat))) := oPow_i h
theorem t_neg : oNeg r (toD i) = some (.v .nw (toD (-i))) := rfl
theorem t_abs : oAbs r (toD i) = some (.v .nw (toD (i.natAbs : Int))) := rfl
theorem t_inti : oInt r (toD i) = some (.v .nw (toD i)) := rfl
theorem t_intb {b : Bool} : oInt r (toD b) = some (.v .nw (toD (bitI b))) := rfl
theorem t_lt : oLt r (toD i) r2 (toD j) = some (.v .nw (toD (decide (i < j)))) := rfl
theorem t_le : oLe r (toD i) r2 (toD j) = some (.v .nw (toD (decide (i ≤ j)))) := rfl
theorem t_gt : oGt r (toD i) r2 (toD j) = some (.v .nw (toD (decide (j < i)))) := rfl
theorem t_ge : oGe r (toD i) r2 (toD j) = some (.v .nw (toD (decide (j ≤ i)))) := rfl
theorem t_eqi : oEq r (toD i) r2 (toD j) = some (.v .nw (toD (decide (i = j)))) := rfl
theorem t_nei : oNe r (toD i) r2 (toD j) = some (.v .nw (toD (decide (i ≠ j)))) := rfl
theorem eqv_int {i j : Int} : D.eqv (.int i) (.int j) = decide (i = j) := by
  simp [D.eqv, D.toP, PyData.eqv]
  exact Bool.beq_eq_decide_eq i j
def EqOk (x y : D) : Prop := x.eqOk = true ∧ y.eqOk = true
theorem t_eqD (h : EqOk x y) : oEq r x r2 y = some (.v .nw (toD (x.eqv y))) := by
  unfold oEq
  split
  · rw [eqv_int]; rfl
  · rw [if_pos (show x.eqOk = true ∧ y.eqOk = true from h)]; rfl
theorem t_neD (h : EqOk x y) : oNe r x r2 y = some (.v .nw (toD (!x.eqv y))) := by
  unfold oNe
  split
  · rw [eqv_int]; simp [vB, toD, Enc.toD]
  · rw [if_pos (show x.eqOk = true ∧ y.eqOk = true from h)]; rfl
theorem t_eqL : oEq r (toD is) r2 (toD js) = some (.v .nw (toD (decide (is = js)))) := oEq_lst is js
theorem eqOk_str {a : Str} (h : PyData.strOk a = true) : D.eqOk (.str a) = true := by
  simp [D.eqOk, D.pure, D.toP, SeqAt.shaped]; exact ⟨by simp [PyData.canLay0]; exact h, by first | decide | simp [PyData.depth]⟩
theorem eqv_str {a b : Str} : D.eqv (.str a) (.str b) = decide (a = b) := by
  simp [D.eqv, D.toP, PyData.eqv]
  exact Bool.beq_eq_decide_eq a b
def StrOk (a b : Str) : Prop := PyData.strOk a = true ∧ PyData.strOk b = true
theorem t_eqS {a b : Str} (h : StrOk a b) : oEq r (toD a) r2 (toD b) = some (.v .nw (toD (decide (a = b)))) := by
  rw [← eqv_str]; exact t_eqD ⟨eqOk_str h.1, eqOk_str h.2⟩
theorem t_neS {a b : Str} (h : StrOk a b) : oNe r (toD a) r2 (toD b) = some (.v .nw (toD (decide (a ≠ b)))) := by
  have := t_neD (r := r) (r2 := r2) (x := .str a) (y := .str b) ⟨eqOk_str h.1, eqOk_str h.2⟩
  rw [eqv_str] at this
  rw [decide_not]; exact this
theorem t_isi {tt : String} {b : Bool} {TT : String} (h : d.ty = some tt) (h2 : kitB tt TT = some b) : oIsi TT r d = some (.v .nw (toD b)) := by
  unfold oIsi; rw [h]; show (kitB tt TT).bind vB = _; rw [h2]; rfl
theorem t_len : oLen r (toD xs) = some (.v .nw (toD (xs.length : Int))) := by
  show some (EV.v .nw (.int ((xs.map toD).length : Int))) = _
  rw [List.length_map]; rfl
theorem t_lenT {q : Tup α} : oLen r (toD q) = some (.v .nw (toD (q.l.length : Int))) := by
  show some (EV.v .nw (.int ((q.l.map toD).length : Int))) = _
  rw [List.length_map]; rfl
theorem t_lenC {q : Scr} : oLen r (toD q) = some (.v .nw (toD (q.ns.length : Int))) := rfl
theorem t_lenS {q : Str} (h : q.length ≤ sizeLine) : oLen r (toD q) = some (.v .nw (toD (q.length : Int))) := if_pos h
def IxOk {α : Type} (xs : List α) (i : Int) : Prop := -(xs.length : Int) ≤ i ∧ i < xs.length
def ixL {α : Type} [Inhabited α] (xs : List α) (i : Int) : α := (atI xs i).getD default
theorem ixN_ok {n : Nat} {i : Int} (h : -(n : Int) ≤ i ∧ i < n) : ∃ j, ixN n i = some j ∧ j < n ∧ (0 ≤ i → j = i.toNat) := by
  unfold ixN
  by_cases h0 : 0 ≤ i
  · exact ⟨i.toNat, by rw [if_pos h0, if_pos h.2], by omega, fun _ => rfl⟩
  · exact ⟨(i + n).toNat, by rw [if_neg h0, if_pos h.1], by omega, fun z => absurd z h0⟩
theorem ixL_at {α : Type} [Inhabited α] {xs : List α} {i : Int} (h : IxOk xs i) : atI xs i = some (ixL xs i) := by
  obtain ⟨j, e, hj, _⟩ := ixN_ok h
  have : atI xs i = some xs[j] := by unfold atI; rw [e]; show xs[j]? = _; exact List.getElem?_eq_getElem hj
  unfold ixL; rw [this]; rfl
theorem ixL_nat {α : Type} [Inhabited α] {xs : List α} {i : Int} (h : 0 ≤ i ∧ i < xs.length) : ixL xs i = xs[i.toNat]'(by omega) := by
  obtain ⟨j, e, hj, e2⟩ := ixN_ok (n := xs.length) (i := i) ⟨by omega, h.2⟩
  unfold ixL atI
  rw [e]
  have := e2 h.1
  subst this
  show (xs[i.toNat]?).getD default = _
  rw [List.getElem?_eq_getElem hj]; rfl
theorem ixL_mem {α : Type} [Inhabited α] {xs : List α} {i : Int} (h : IxOk xs i) : ixL xs i ∈ xs := by
  obtain ⟨j, e, hj, _⟩ := ixN_ok h
  unfold ixL atI
  rw [e]
  show (xs[j]?).getD default ∈ _
  rw [List.getElem?_eq_getElem hj]; exact List.getElem_mem hj
theorem atI_mp {α β : Type} {f : α → β} {xs : List α} {i : Int} : atI (xs.map f) i = (atI xs i).map f := by
  unfold atI
  rw [List.length_map]
  cases ixN xs.length i with
  | none => rfl
  | some j => show (xs.map f)[j]? = (xs[j]?).map f; rw [List.getElem?_map]
theorem t_ix [Inhabited α] (h : IxOk xs i) : oIx r (toD xs) r2 (toD i) = some (.v (nm r.el (toD (ixL xs i))) (toD (ixL xs i))) := by
  show (atI (xs.map toD) i).bind _ = _
  rw [atI_mp, ixL_at h]; rfl
theorem t_ixT [Inhabited α] {q : Tup α} (h : IxOk q.l i) : oIx r (toD q) r2 (toD i) = some (.v (nm r.el (toD (ixL q.l i))) (toD (ixL q.l i))) := by
  show (atI (q.l.map toD) i).bind _ = _
  rw [atI_mp, ixL_at h]; rfl
theorem t_ixC {q : Scr} (h : IxOk q.ns i) : oIx r (toD q) r2 (toD i) = some (.v .nw (toD (ixL q.ns i))) := by
  show (atI q.ns i).bind vI = _
  rw [ixL_at h]; rfl
theorem t_sum : oSum r (toD is) = some (.v .nw (toD is.sum)) := oSum_l
theorem t_sorted : oSorted r (toD is) = some (.n .nw (.lst ((sortI is).map toD))) := oSorted_l
theorem t_sortedT {q : Tup Int} : oSorted r (toD q) = some (.n .nw (.lst ((sortI q.l).map toD))) := by
  show (D.ints? (q.l.map .int)).bind _ = _
  rw [D.ints?_map]; rfl
theorem t_gcd : oGcd r (toD i) r2 (toD j) = some (.v .nw (toD (gcdI i j))) := rfl
theorem t_max (h : is ≠ []) : oMax r (toD is) = some (.v .nw (toD (maxI is))) := by
  show (D.ints? (is.map .int)).bind _ = _
  rw [D.ints?_map]
  show (if 0 < is.length then vI (maxI is) else none) = _
  rw [if_pos (List.length_pos_iff.mpr h)]; rfl
theorem t_min (h : is ≠ []) : oMin r (toD is) = some (.v .nw (toD (minI is))) := by
  show (D.ints? (is.map .int)).bind _ = _
  rw [D.ints?_map]
  show (if 0 < is.length then vI (minI is) else none) = _
  rw [if_pos (List.length_pos_iff.mpr h)]; rfl
theorem t_max2 : oMax2 r (toD i) r2 (toD j) = some (.v .nw (toD (max i j))) := rfl
theorem t_min2 : oMin2 r (toD i) r2 (toD j) = some (.v .nw (toD (min i j))) := rfl
theorem nmC_nw {c : Ct} : nmC .nw c = .nw := by unfold nmC; split <;> (try split) <;> rfl
theorem nmC_Sc [Sc α] : nmC r (.lst (xs.map toD)) = .nw := if_pos (by
  rw [List.all_eq_true]; intro d hd
  obtain ⟨a, _, rfl⟩ := List.mem_map.mp hd
  exact Sc.sc a)
theorem t_list [Sc α] : oList r (toD xs) = some (.n .nw (.lst (xs.map toD))) := by
  show some (EV.n (nmC r.el (.lst (xs.map toD))) (.lst (xs.map toD))) = _
  rw [nmC_Sc]
theorem t_listn (h : r.el = .nw) : oList r (toD xs) = some (.n .nw (.lst (xs.map toD))) := by
  show some (EV.n (nmC r.el (.lst (xs.map toD))) (.lst (xs.map toD))) = _
  rw [h, nmC_nw]
theorem t_listT [Sc α] {q : Tup α} : oList r (toD q) = some (.n .nw (.lst (q.l.map toD))) := by
  show some (EV.n (nmC r.el (.lst (q.l.map toD))) (.lst (q.l.map toD))) = _
  rw [nmC_Sc]
theorem t_rev [Sc α] : oRev r (toD xs) = some (.n .nw (.lst (xs.reverse.map toD))) := by
  show some (EV.n (nmC r.el (.lst (xs.map toD).reverse)) (.lst (xs.map toD).reverse)) = _
  rw [← List.map_reverse, nmC_Sc]
theorem t_revn (h : r.el = .nw) : oRev r (toD xs) = some (.n .nw (.lst (xs.reverse.map toD))) := by
  show some (EV.n (nmC r.el (.lst (xs.map toD).reverse)) (.lst (xs.map toD).reverse)) = _
  rw [← List.map_reverse, h, nmC_nw]
theorem t_tuple : oTuple r (toD xs) = some (.v r.el (toD (Tup.mk xs))) := rfl
theorem t_addL [Sc α] (h : xs.length + ys.length ≤ sizeLine) : oAdd r (toD xs) r2 (toD ys) = some (.n .nw (.lst ((xs ++ ys).map toD))) := by
  show (if (xs.map toD).length + (ys.map toD).length ≤ sizeLine then some (EV.n (nmC (r.el.mx r2.el) (.lst (xs.map toD ++ ys.map toD))) (.lst (xs.map toD ++ ys.map toD))) else none) = _
  rw [if_pos (by simpa using h), ← List.map_append, nmC_Sc]
theorem t_addLn (h : xs.length + ys.length ≤ sizeLine) (h1 : r.el = .nw) (h2 : r2.el = .nw) : oAdd r (toD xs) r2 (toD ys) = some (.n .nw (.lst ((xs ++ ys).map toD))) := by
  show (if (xs.map toD).length + (ys.map toD).length ≤ sizeLine then some (EV.n (nmC (r.el.mx r2.el) (.lst (xs.map toD ++ ys.map toD))) (.lst (xs.map toD ++ ys.map toD))) else none) = _
  rw [if_pos (by simpa using h), ← List.map_append, h1, h2]; show some (EV.n (nmC .nw _) _) = _; rw [nmC_nw]
def RepOk {α : Type} (xs : List α) (j : Int) : Prop := -(2 ^ 63) ≤ j ∧ j < 2 ^ 63 ∧ xs.length * j.toNat ≤ sizeLine
def repL {α : Type} (xs : List α) (j : Int) : List α := (List.replicate j.toNat xs).flatten
theorem t_mulL [Sc α] (h : RepOk xs j) : oMul r (toD xs) r2 (toD j) = some (.n .nw (.lst ((repL xs j).map toD))) := by
  have e : (List.replicate j.toNat (xs.map toD)).flatten = ((repL xs j).map toD : List D) := by
    unfold repL; rw [List.map_flatten, List.map_replicate]
  show (if -(2 ^ 63) ≤ j ∧ j < 2 ^ 63 ∧ (xs.map toD).length * j.toNat ≤ sizeLine then some (EV.n (nmC r.el (.lst (List.replicate j.toNat (xs.map toD)).flatten)) (.lst (List.replicate j.toNat (xs.map toD)).flatten)) else none) = _
  rw [if_pos (by rw [List.length_map]; exact h), e, nmC_Sc]
theorem t_ini : oIn r (toD i) r2 (toD js) = some (.v .nw (toD (decide (i ∈ js)))) := by
  show (if D.eqOk (.int i) = true ∧ D.eqOk (.lst (js.map D.int)) = true then vB ((js.map D.int).any fun z => D.eqv z (.int i)) else none) = _
  rw [if_pos ⟨by rfl, eqOk_lst js⟩]
  congr 1
  rw [List.any_map]
  induction js with
  | nil => rfl
  | cons j js ih =>
    rw [List.any_cons, ih]
    simp only [Function.comp, eqv_int, List.mem_cons]
    by_cases h : i = j
    · subst h; simp
    · have : ¬ j = i := fun z => h z.symm
      simp [h, this]
theorem t_nini : oNin r (toD i) r2 (toD js) = some (.v .nw (toD (!decide (i ∈ js)))) := by
  have h := t_ini (r := r) (r2 := r2) (i := i) (js := js)
  have e : (if D.eqOk (.int i) = true ∧ D.eqOk (.lst (js.map D.int)) = true then vB ((js.map D.int).any fun z => D.eqv z (.int i)) else none) = some (EV.v .nw (toD (decide (i ∈ js)))) := h
  show (if D.eqOk (.int i) = true ∧ D.eqOk (.lst (js.map D.int)) = true then vB (!(js.map D.int).any fun z => D.eqv z (.int i)) else none) = _
  rw [if_pos ⟨by rfl, eqOk_lst js⟩] at e ⊢
  have e2 : ((js.map D.int).any fun z => D.eqv z (.int i)) = decide (i ∈ js) := by
    have := Option.some.inj e
    injection this with _ h2
    injection h2
  rw [e2]; rfl
theorem t_inT {q : Tup β} (h : D.eqOk (toD x) = true ∧ D.eqOk (toD q) = true) : oIn r x r2 (toD q) = some (.v .nw (toD ((q.l.map toD).any fun z => z.eqv x))) := if_pos h
/-! slices -/
theorem xOpt_n : xOpt none ρ = some (.inl none) := rfl
theorem xOpt_s (h : fe ρ = some (.v r (toD i))) : xOpt (some fe) ρ = some (.inl (some i)) := by
  show (match fe ρ with | some (.v _ (.int i)) => some (Sum.inl (some i)) | some (.x x) => some (Sum.inr x) | _ => none) = _
  rw [h]; rfl
theorem cutG_map {α β : Type} {f : α → β} {xs : List α} {lo hi : Option Int} : cutG (xs.map f) lo hi = (cutG xs lo hi).map f := by
  unfold cutG; rw [List.length_map, List.map_take, List.map_drop]
theorem Esl [Sc α] {lo hi : Option XE} {a b : Option Int} (h : fe ρ = some (.v r (toD xs))) (h1 : xOpt lo ρ = some (.inl a)) (h2 : xOpt hi ρ = some (.inl b)) : xSl fe lo hi ρ = some (.n .nw (.lst ((cutG xs a b).map toD))) := by
  unfold xSl
  rw [h, bE_v, h1]
  simp only
  rw [h2]
  show some (EV.n (nmC r.el (.lst (cutG (xs.map toD) a b))) (.lst (cutG (xs.map toD) a b))) = _
  rw [cutG_map, nmC_Sc]
theorem Esln {lo hi : Option XE} {a b : Option Int} (h : fe ρ = some (.v r (toD xs))) (h1 : xOpt lo ρ = some (.inl a)) (h2 : xOpt hi ρ = some (.inl b)) (hr : r.el = .nw) : xSl fe lo hi ρ = some (.n .nw (.lst ((cutG xs a b).map toD))) := by
  unfold xSl
  rw [h, bE_v, h1]
  simp only
  rw [h2]
  show some (EV.n (nmC r.el (.lst (cutG (xs.map toD) a b))) (.lst (cutG (xs.map toD) a b))) = _
  rw [cutG_map, hr, nmC_nw]
theorem EslN [Sc α] {lo hi : Option XE} {a b : Option Int} (h : fe ρ = some (.n r (.lst (xs.map toD)))) (h1 : xOpt lo ρ = some (.inl a)) (h2 : xOpt hi ρ = some (.inl b)) : xSl fe lo hi ρ = some (.n .nw (.lst ((cutG xs a b).map toD))) := by
  unfold xSl
  rw [h, bE_n, h1]
  simp only
  rw [h2]
  show some (EV.n (nmC r.el (.lst (cutG (xs.map toD) a b))) (.lst (cutG (xs.map toD) a b))) = _
  rw [cutG_map, nmC_Sc]
/-! what is walked over -/
theorem I_v (h : fe ρ = some (.v r (toD xs))) (hr : r.st = true) : iSeq fe ρ = some (.ok r (xs.map toD)) := by unfold iSeq; rw [h]; exact if_pos hr
theorem I_t {q : Tup α} (h : fe ρ = some (.v r (toD q))) : iSeq fe ρ = some (.ok r (q.l.map toD)) := by unfold iSeq; rw [h]; rfl
theorem I_n (h : fe ρ = some (.n r (.lst (xs.map toD)))) : iSeq fe ρ = some (.ok r (xs.map toD)) := by unfold iSeq; rw [h]
theorem I_x (h : fe ρ = some (.x xx)) : iSeq fe ρ = some (.x xx) := by unfold iSeq; rw [h]
def RgOk (i j : Int) : Prop := -(2 ^ 62) ≤ i ∧ i < 2 ^ 62 ∧ -(2 ^ 62) ≤ j ∧ j < 2 ^ 62
def range1 (j : Int) : List Int := rangeI 0 j.toNat
def range2 (i j : Int) : List Int := rangeI i (j - i).toNat
theorem I_r1 (h : fe ρ = some (.v r (toD j))) (hg : RgOk 0 j) : iRange1 fe ρ = some (.ok .nw ((range1 j).map toD)) := by unfold iRange1; rw [h]; exact if_pos hg.2.2
theorem I_r2 (h : fe ρ = some (.v r (toD i))) (h2 : ge ρ = some (.v r2 (toD j))) (hg : RgOk i j) : iRange2 fe ge ρ = some (.ok .nw ((range2 i j).map toD)) := by unfold iRange2; rw [h]; simp only [toD, Enc.toD]; rw [h2]; exact if_pos hg
theorem I_r1x (h : fe ρ = some (.x xx)) : iRange1 fe ρ = some (.x xx) := by unfold iRange1; rw [h]
theorem I_r2x (h : fe ρ = some (.x xx)) : iRange2 fe ge ρ = some (.x xx) := by unfold iRange2; rw [h]
/-! comprehensions -/
/-- what an element's text gives -/
structure LcEl (t : Tg) (r : Rg) (ρ : List B) (elt : XE) (xs : List α) (h : α → β) (r2 : Rg) : Prop where
  el : ∀ x ∈ xs, ∃ ρ2, bnd t r (toD x) ρ = some ρ2 ∧ ∃ r3 r4, elt ρ2 = some (.v r3 (toD (h x))) ∧ nm r3 (toD (h x)) = r4 ∧ r4.st = true ∧ r4 = .nw
theorem lcE_el {tg : Tg} {elt : XE} {h : α → β} : ∀ {xs : List α}, (∀ x ∈ xs, ∃ ρ2, bnd tg r (toD x) ρ = some ρ2 ∧ ∃ r3, elt ρ2 = some (.v r3 (toD (h x))) ∧ nm r3 (toD (h x)) = .nw) → lcE none elt tg r ρ (xs.map toD) = some (.nw, (xs.map h).map toD)
  | [], _ => rfl
  | x :: xs, hx => by
    obtain ⟨ρ2, h1, r3, h2, h3⟩ := hx x List.mem_cons_self
    have ih := lcE_el fun y hy => hx y (List.mem_cons_of_mem _ hy)
    rw [List.map_cons, lcE, h1]
    simp only [Option.bind_some, h2, h3]
    rw [if_pos st_nw, ih]; rfl
theorem lcE_elF {tg : Tg} {cond elt : XE} {h : α → β} {p : α → Bool} : ∀ {xs : List α}, (∀ x ∈ xs, ∃ ρ2, bnd tg r (toD x) ρ = some ρ2 ∧ (∃ r3, cond ρ2 = some (.v r3 (.bl (p x)))) ∧ (p x = true → ∃ r3, elt ρ2 = some (.v r3 (toD (h x))) ∧ nm r3 (toD (h x)) = .nw)) → lcE (some cond) elt tg r ρ (xs.map toD) = some (.nw, ((xs.filter p).map h).map toD)
  | [], _ => rfl
  | x :: xs, hx => by
    obtain ⟨ρ2, h1, ⟨r3, h2⟩, h3⟩ := hx x List.mem_cons_self
    have ih := lcE_elF fun y hy => hx y (List.mem_cons_of_mem _ hy)
    rw [List.map_cons, lcE, h1]
    simp only [Option.bind_some, h2]
    cases hp : p x with
    | false => simp only [hp]; rw [ih, List.filter_cons_of_neg (by simp [hp])]
    | true =>
      obtain ⟨r4, h4, h5⟩ := h3 hp
      simp only [hp, h4, h5]
      rw [if_pos st_nw, ih, List.filter_cons_of_pos hp]; rfl
theorem Elc {own : List Nat} {tg : Tg} {it : XI} {elt : XE} {h : α → β} (hn : own.all (noS ρ) = true) (hi : it ρ = some (.ok r (xs.map toD))) (hz : xs.length ≤ sizeLine) (hx : ∀ x ∈ xs, ∃ ρ2, bnd tg r (toD x) ρ = some ρ2 ∧ ∃ r3, elt ρ2 = some (.v r3 (toD (h x))) ∧ nm r3 (toD (h x)) = .nw) : xLc own tg it none elt ρ = some (.n .nw (.lst ((xs.map h).map toD))) := by
  unfold xLc
  rw [if_pos hn, hi]
  simp only
  rw [if_pos (by simpa using hz), lcE_el hx]; rfl
theorem ElcF {own : List Nat} {tg : Tg} {it : XI} {cond elt : XE} {h : α → β} {p : α → Bool} (hn : own.all (noS ρ) = true) (hi : it ρ = some (.ok r (xs.map toD))) (hz : xs.length ≤ sizeLine) (hx : ∀ x ∈ xs, ∃ ρ2, bnd tg r (toD x) ρ = some ρ2 ∧ (∃ r3, cond ρ2 = some (.v r3 (.bl (p x)))) ∧ (p x = true → ∃ r3, elt ρ2 = some (.v r3 (toD (h x))) ∧ nm r3 (toD (h x)) = .nw)) : xLc own tg it (some cond) elt ρ = some (.n .nw (.lst (((xs.filter p).map h).map toD))) := by
  unfold xLc
  rw [if_pos hn, hi]
  simp only
  rw [if_pos (by simpa using hz), lcE_elF hx]; rfl
theorem Elcx {own : List Nat} {tg : Tg} {it : XI} {cond : Option XE} {elt : XE} (hn : own.all (noS ρ) = true) (hi : it ρ = some (.x xx)) : xLc own tg it cond elt ρ = some (.x xx) := by
  unfold xLc
  rw [if_pos hn, hi]
/-! ### targets -/
theorem b_nm {a : Nat} (h : r.st = true ∨ d.sc = true) : bnd (.nm a) r d ρ = some (ρ.set a (.v (nm r d) d)) := by rw [bnd_nm, if_pos h]
theorem b_nmD {a : Nat} (h : r = .nw) : bnd (.nm a) r d ρ = some (ρ.set a (.v .nw d)) := by subst h; rw [bnd_nm, if_pos (.inl rfl), nm_nw]
theorem b_tp {l : List Tg} {ds : List D} (h : ds.length = l.length) (h2 : bnds l r ds ρ = some ρ') : bnd (.tp l) r (.tup ds) ρ = some ρ' := by rw [bnd_tp, if_pos h]; exact h2
theorem bs_nil : bnds [] r [] ρ = some ρ := bnds_nil
theorem bs_cons {tg : Tg} {l : List Tg} {ds : List D} {ρ2 : List B} (h : bnd tg r d ρ = some ρ2) (h2 : bnds l r ds ρ2 = some ρ') : bnds (tg :: l) r (d :: ds) ρ = some ρ' := by rw [bnds_cons, h]; exact h2
end
/-! ### statements -/
section
variable {α β γ S T : Type}
variable {ρ ρ' : List B} {o : Option Out} {oe : Option EV} {m : R α} {P : α → Out → Prop} {X : List B → Prop} {g : Prop} {r r2 r3 : Rg} {d x y z : D} {c : Ct} {fe ge he : XE} {s t k : XS} {xx : Exc} {i j : Nat}
theorem K_gd (h : g → TK o m P X) : TK o (gd g m) P X := by
  by_cases hg : g
  · rw [gd_t hg]; exact h hg
  · rw [gd_f hg]; trivial
theorem K_atom {ma : R γ} {fa : γ → EV} {K : γ → R α} (ha : TE oe ma fa) (h1 : ∀ a, oe = some (fa a) → TK o (K a) P X) (h2 : ∀ x, oe = some (.x x) → ∃ ρ', o = some (.ex x ρ') ∧ X ρ') : TK o (ma.bind K) P X := by
  cases ma with
  | no => trivial
  | ok a => exact h1 a ha
  | ex x => exact h2 x ha
theorem cK_nx (h : s ρ = some (.nx ρ')) : cK (sCons s t) k ρ = cK t k ρ' := by
  show bS (bS (s ρ) t) k = _
  rw [h]; rfl
theorem K_nx (h : s ρ = some (.nx ρ')) (h2 : TK (cK t k ρ') m P X) : TK (cK (sCons s t) k ρ) m P X := by rw [cK_nx h]; exact h2
theorem x_st (h : s ρ = some (.ex xx ρ')) : cK (sCons s t) k ρ = some (.ex xx ρ') := by
  show bS (bS (s ρ) t) k = _
  rw [h]; rfl
theorem K_nil (h : TK (k ρ) m P X) : TK (cK sNil k ρ) m P X := h
/-- the end of a branch goes on behind it -/
theorem K_out (h : TK (cK t k ρ) m P X) : TK (cK sNil (cK t k) ρ) m P X := h
theorem K_end {a : α} (h : P a (.nx ρ)) : TK (cK sNil sNil ρ) (.ok a) P X := ⟨_, rfl, h⟩
theorem K_set (h1 : fe ρ = some (.v r d)) (h2 : r.st = true ∨ d.sc = true) (h3 : TK (cK t k (ρ.set i (.v (nm r d) d))) m P X) : TK (cK (sCons (sSet i fe) t) k ρ) m P X := K_nx (set_v h1 h2) h3
theorem K_setD (h1 : fe ρ = some (.v .nw d)) (h3 : TK (cK t k (ρ.set i (.v .nw d))) m P X) : TK (cK (sCons (sSet i fe) t) k ρ) m P X := K_nx (by have := set_v (i := i) h1 (.inl rfl); rwa [nm_nw] at this) h3
theorem K_setn (h1 : fe ρ = some (.n r c)) (h3 : TK (cK t k (ρ.set i (.own r c))) m P X) : TK (cK (sCons (sSet i fe) t) k ρ) m P X := K_nx (set_n h1) h3
theorem x_set (h : fe ρ = some (.x xx)) : cK (sCons (sSet i fe) t) k ρ = some (.ex xx ρ) := x_st (by rw [sSet_ap, h]; rfl)
theorem K_fgt (h3 : TK (cK t k (ρ.set i .no)) m P X) : TK (cK (sCons (sFgt i) t) k ρ) m P X := h3
theorem K_frzo (h : ρ[i]? = some (.own r c)) (h3 : TK (cK t k (ρ.set i (.v r c.toD))) m P X) : TK (cK (sCons (sFrz i) t) k ρ) m P X := K_nx (by rw [sFrz_ap, h]) h3
theorem K_frzv (h : ρ[i]? = some (.v r d)) (h3 : TK (cK t k ρ) m P X) : TK (cK (sCons (sFrz i) t) k ρ) m P X := K_nx (by rw [sFrz_ap, h]) h3
theorem K_aug {op : OP2} {n q : Int} (h : ρ[i]? = some (.v r (toD n))) (h1 : fe ρ = some (.v r2 d)) (h2 : op r (toD n) r2 d = some (.v r3 (toD q))) (h3 : TK (cK t k (ρ.set i (.v .nw (toD q)))) m P X) : TK (cK (sCons (sAug op i fe) t) k ρ) m P X := K_nx (by
  show (match ρ[i]? with | some (.v r (.int n)) => _ | _ => none) = _
  rw [h]
  show bV ρ (fe ρ) _ = _
  rw [h1]
  show (match op r (.int n) r2 d with | some (.v _ (.int m)) => some (Out.nx (ρ.set i (.v .nw (.int m)))) | _ => none) = _
  rw [show op r (.int n) r2 d = some (.v r3 (.int q)) from h2]; rfl) h3
theorem x_aug {op : OP2} {n : Int} (h : ρ[i]? = some (.v r (toD n))) (h1 : fe ρ = some (.x xx)) : cK (sCons (sAug op i fe) t) k ρ = some (.ex xx ρ) := x_st (by
  show (match ρ[i]? with | some (.v r (.int n)) => _ | _ => none) = _
  rw [h]
  show bV ρ (fe ρ) _ = _
  rw [h1]; rfl)
def AppOk {α : Type} (xs : List α) : Prop := xs.length < sizeLine
section
variable {ε : Type} [Enc ε] {es : List ε} {a : ε}
theorem K_app (h : ρ[i]? = some (.own r (.lst (es.map toD)))) (h1 : fe ρ = some (.v r2 (toD a))) (hz : AppOk es) (hr : (nm r2 (toD a)).st = true) (h3 : TK (cK t k (ρ.set i (.own (r.mx (nm r2 (toD a))) (.lst ((es ++ [a]).map toD))))) m P X) : TK (cK (sCons (sApp i fe) t) k ρ) m P X := K_nx (by
  rw [sApp_ap, h]
  simp only
  rw [h1, bV_v]
  simp only
  rw [if_pos ⟨hr, by rw [List.length_map]; exact hz⟩, List.map_append]; rfl) h3
theorem K_appn {c2 : Ct} (h : ρ[i]? = some (.own r (.lst (es.map toD)))) (h1 : fe ρ = some (.n r2 c2)) (hc : c2.toD = toD a) (hz : AppOk es) (hr : r2.st = true) (h3 : TK (cK t k (ρ.set i (.own (r.mx (nm r2 (toD a))) (.lst ((es ++ [a]).map toD))))) m P X) : TK (cK (sCons (sApp i fe) t) k ρ) m P X := K_nx (by
  rw [sApp_ap, h]
  simp only
  rw [h1, bV_n]
  simp only
  rw [if_pos ⟨hr, by rw [List.length_map]; exact hz⟩, List.map_append, hc]; rfl) h3
theorem x_app (h : ρ[i]? = some (.own r (.lst (es.map toD)))) (h1 : fe ρ = some (.x xx)) : cK (sCons (sApp i fe) t) k ρ = some (.ex xx ρ) := x_st (by
  rw [sApp_ap, h]
  simp only
  rw [h1]; rfl)
def setL (xs : List ε) (k : Int) (a : ε) : List ε := match ixN xs.length k with | some j => xs.set j a | none => xs
theorem K_sto {kk : Int} {kx : XE} (h : ρ[i]? = some (.own r (.lst (es.map toD)))) (h1 : fe ρ = some (.v r2 (toD a))) (h2 : kx ρ = some (.v r3 (toD kk))) (hz : IxOk es kk) (hr : (nm r2 (toD a)).st = true) (h3 : TK (cK t k (ρ.set i (.own (r.mx (nm r2 (toD a))) (.lst ((setL es kk a).map toD))))) m P X) : TK (cK (sCons (sSto i kx fe) t) k ρ) m P X := K_nx (by
  obtain ⟨jj, e, hj, _⟩ := ixN_ok hz
  unfold sSto
  rw [h]
  simp only
  rw [h1, bV_v]
  simp only
  rw [h2, bV_v]
  simp only [toD, Enc.toD, List.length_map, e]
  have e2 : setL es kk a = es.set jj a := by unfold setL; rw [e]
  rw [e2, List.map_set]
  exact if_pos hr) h3
theorem K_ston {kk : Int} {kx : XE} {c2 : Ct} (h : ρ[i]? = some (.own r (.lst (es.map toD)))) (h1 : fe ρ = some (.n r2 c2)) (hc : c2.toD = toD a) (h2 : kx ρ = some (.v r3 (toD kk))) (hz : IxOk es kk) (hr : (nm r2 (toD a)).st = true) (h3 : TK (cK t k (ρ.set i (.own (r.mx (nm r2 (toD a))) (.lst ((setL es kk a).map toD))))) m P X) : TK (cK (sCons (sSto i kx fe) t) k ρ) m P X := K_nx (by
  obtain ⟨jj, e, hj, _⟩ := ixN_ok hz
  unfold sSto
  rw [h]
  simp only
  rw [h1, bV_n]
  simp only
  rw [h2, bV_v]
  rw [hc]
  simp only [toD, Enc.toD, List.length_map, e]
  have e2 : setL es kk a = es.set jj a := by unfold setL; rw [e]
  rw [e2, List.map_set]
  exact if_pos hr) h3
end
theorem K_setLn {l : List Tg} {ds : List D} (h1 : fe ρ = some (.n r (.lst ds))) (hl : ds.length = l.length) (h2 : bnds l r.el ds ρ = some ρ') (h3 : TK (cK t k ρ') m P X) : TK (cK (sCons (sSetL l fe) t) k ρ) m P X := K_nx (by unfold sSetL; rw [h1, bV_n]; simp only; rw [if_pos hl, h2]; rfl) h3
theorem K_setLv {l : List Tg} {ds : List D} (h1 : fe ρ = some (.v r (.lst ds))) (hl : ds.length = l.length) (h2 : bnds l r.el ds ρ = some ρ') (h3 : TK (cK t k ρ') m P X) : TK (cK (sCons (sSetL l fe) t) k ρ) m P X := K_nx (by unfold sSetL; rw [h1, bV_v]; simp only; rw [if_pos hl, h2]; rfl) h3
theorem K_setLt {l : List Tg} {ds : List D} (h1 : fe ρ = some (.v r (.tup ds))) (hl : ds.length = l.length) (h2 : bnds l r ds ρ = some ρ') (h3 : TK (cK t k ρ') m P X) : TK (cK (sCons (sSetL l fe) t) k ρ) m P X := K_nx (by unfold sSetL; rw [h1, bV_v]; simp only; rw [if_pos hl, h2]; rfl) h3
theorem x_setL {l : List Tg} (h : fe ρ = some (.x xx)) : cK (sCons (sSetL l fe) t) k ρ = some (.ex xx ρ) := x_st (by unfold sSetL; rw [h]; rfl)
theorem K_expr (h1 : fe ρ = some (.v r d)) (h3 : TK (cK t k ρ) m P X) : TK (cK (sCons (sExpr fe) t) k ρ) m P X := K_nx (by unfold sExpr; rw [h1]; rfl) h3
theorem K_exprn (h1 : fe ρ = some (.n r c)) (h3 : TK (cK t k ρ) m P X) : TK (cK (sCons (sExpr fe) t) k ρ) m P X := K_nx (by unfold sExpr; rw [h1]; rfl) h3
theorem x_expr (h : fe ρ = some (.x xx)) : cK (sCons (sExpr fe) t) k ρ = some (.ex xx ρ) := x_st (by unfold sExpr; rw [h]; rfl)
theorem K_pass (h3 : TK (cK t k ρ) m P X) : TK (cK (sCons sPass t) k ρ) m P X := h3
/-! ends -/
theorem K_ret {a : α} (h1 : fe ρ = some (.v r d)) (h2 : r.st = true ∨ d.sc = true) (hp : P a (.rt r d)) : TK (cK (sCons (sRet fe) t) k ρ) (.ok a) P X := by
  refine ⟨.rt r d, ?_, hp⟩
  show bS (bS (sRet fe ρ) t) k = _
  rw [sRet_ap, h1, bV_v]; simp only; rw [if_pos h2]; rfl
theorem K_retn {a : α} (h1 : fe ρ = some (.n r c)) (hp : P a (.rn r c)) : TK (cK (sCons (sRet fe) t) k ρ) (.ok a) P X := by
  refine ⟨.rn r c, ?_, hp⟩
  show bS (bS (sRet fe ρ) t) k = _
  rw [sRet_ap, h1]; rfl
theorem x_ret (h : fe ρ = some (.x xx)) : cK (sCons (sRet fe) t) k ρ = some (.ex xx ρ) := x_st (by rw [sRet_ap, h]; rfl)
theorem K_retVo {a : α} (h1 : ρ[i]? = some (.own r c)) (hp : P a (.rn r c)) : TK (cK (sCons (sRetV i) t) k ρ) (.ok a) P X := by
  refine ⟨.rn r c, ?_, hp⟩
  show bS (bS (sRetV i ρ) t) k = _
  rw [sRetV_ap, h1]; rfl
theorem K_retVv {a : α} (h1 : ρ[i]? = some (.v r d)) (h2 : r.st = true ∨ d.sc = true) (hp : P a (.rt r d)) : TK (cK (sCons (sRetV i) t) k ρ) (.ok a) P X := by
  refine ⟨.rt r d, ?_, hp⟩
  show bS (bS (sRetV i ρ) t) k = _
  rw [sRetV_ap, h1]; simp only; rw [if_pos h2]; rfl
theorem K_ret0 {a : α} (hp : P a (.rt .nw .non)) : TK (cK (sCons sRet0 t) k ρ) (.ok a) P X := ⟨_, rfl, hp⟩
theorem K_brk {a : α} (hp : P a (.bk ρ)) : TK (cK (sCons sBrk t) k ρ) (.ok a) P X := ⟨_, rfl, hp⟩
theorem K_ct {a : α} (hp : P a (.ct ρ)) : TK (cK (sCons sCt t) k ρ) (.ok a) P X := ⟨_, rfl, hp⟩
theorem K_raise {cn fn : Str} (h1 : fe ρ = some (.v r d)) (h2 : d.sc = true) (hX : X ρ) : TK (cK (sCons (sRaise cn fn fe) t) k ρ) (.ex ⟨cn, [fn], [d]⟩ : R α) P X := by
  refine ⟨ρ, ?_, hX⟩
  refine x_st ?_
  unfold sRaise; rw [h1, bV_v]; exact if_pos h2
theorem K_raise0 {cn : Str} (hX : X ρ) : TK (cK (sCons (sRaise0 cn) t) k ρ) (.ex ⟨cn, [], []⟩ : R α) P X := ⟨ρ, rfl, hX⟩
theorem x_raise {cn fn : Str} (h : fe ρ = some (.x xx)) : cK (sCons (sRaise cn fn fe) t) k ρ = some (.ex xx ρ) := x_st (by unfold sRaise; rw [h]; rfl)
/-! ifs -/
theorem K_if {A : Bool} {a b : XS} {ma mb : R α} (hc : fe ρ = some (.v r (.bl A))) (ha : A = true → TK (cK a (cK t k) ρ) ma P X) (hb : A = false → TK (cK b (cK t k) ρ) mb P X) : TK (cK (sCons (sIf fe a b) t) k ρ) (if A = true then ma else mb) P X := by
  cases A with
  | true => have := ha rfl; rw [if_pos rfl]; show TK (bS (bS (sIf fe a b ρ) t) k) _ _ _; rw [if_t hc rfl]; have e : bS (bS (a ρ) t) k = cK a (cK t k) ρ := by
              show _ = bS (a ρ) (fun ρ => bS (t ρ) k)
              cases a ρ with | none => rfl | some o => cases o <;> rfl
            rw [e]; exact this
  | false => have := hb rfl; rw [if_neg Bool.false_ne_true]; show TK (bS (bS (sIf fe a b ρ) t) k) _ _ _; rw [if_f hc rfl]; have e : bS (bS (b ρ) t) k = cK b (cK t k) ρ := by
              show _ = bS (b ρ) (fun ρ => bS (t ρ) k)
              cases b ρ with | none => rfl | some o => cases o <;> rfl
             rw [e]; exact this
theorem x_if {a b : XS} (h : fe ρ = some (.x xx)) : cK (sCons (sIf fe a b) t) k ρ = some (.ex xx ρ) := x_st (by rw [sIf_ap, h]; rfl)
theorem bS_nil (o : Option Out) : bS o sNil = o := by cases o with | none => rfl | some o => cases o <;> rfl
theorem K_ifJ {A : Bool} {a b : XS} {ma mb : R S} {K : S → R α} (J : S → List B) (hc : fe ρ = some (.v r (.bl A))) (ha : A = true → TK (cK a sNil ρ) ma (Nx J) X) (hb : A = false → TK (cK b sNil ρ) mb (Nx J) X) (hk : ∀ s, TK (cK t k (J s)) (K s) P X) : TK (cK (sCons (sIf fe a b) t) k ρ) (R.bind (if A = true then ma else mb) K) P X := by
  have key : ∀ (u : XS) (mu : R S), TK (cK u sNil ρ) mu (Nx J) X → TK (bS (bS (u ρ) t) k) (mu.bind K) P X := fun u mu h => by
    have e : cK u sNil ρ = u ρ := bS_nil _
    rw [e] at h
    cases mu with
    | no => trivial
    | ok s => obtain ⟨w, h1, h2⟩ := h; rw [show w = .nx (J s) from h2] at h1; rw [h1]; exact hk s
    | ex x => obtain ⟨ρ', h1, h2⟩ := h; rw [h1]; exact ⟨ρ', rfl, h2⟩
  show TK (bS (bS (sIf fe a b ρ) t) k) _ _ _
  cases A with
  | true => rw [if_pos rfl, if_t hc rfl]; exact key _ _ (ha rfl)
  | false => rw [if_neg Bool.false_ne_true, if_f hc rfl]; exact key _ _ (hb rfl)
/-! loops -/
theorem forE_P {tg : Tg} {body : XS} {ε : Type} {en : ε → D} {J : S → List B} {b : ε → S → R S} (h2 : ∀ x s, ∃ ρ2, bnd tg r (en x) (J s) = some ρ2 ∧ TK (cK body sNil ρ2) (b x s) (Go J) X) : ∀ (xs : List ε) (s : S), TK (forE body tg r (xs.map en) (J s)) (forP b xs s) (Nx J) X
  | [], s => ⟨_, rfl, rfl⟩
  | x :: xs, s => by
    obtain ⟨ρ2, h3, h4⟩ := h2 x s
    have e : cK body sNil ρ2 = body ρ2 := bS_nil _
    rw [e] at h4
    rw [List.map_cons, forE_cons, h3, forP_cons]
    simp only [Option.bind_some]
    cases hm : b x s with
    | no => trivial
    | ok s2 =>
      rw [hm] at h4
      obtain ⟨u, h5, h6⟩ := h4
      rw [h5]
      rcases h6 with rfl | rfl
      · exact forE_P h2 xs s2
      · exact forE_P h2 xs s2
    | ex x => rw [hm] at h4; obtain ⟨ρ', h5, h6⟩ := h4; rw [h5]; exact ⟨ρ', rfl, h6⟩
theorem forE_L {tg : Tg} {body : XS} {ε : Type} {en : ε → D} {J : S → List B} {Q : T → Out → Prop} {b : ε → S → R (L S T)} (h2 : ∀ x s, ∃ ρ2, bnd tg r (en x) (J s) = some ρ2 ∧ TK (cK body sNil ρ2) (b x s) (Lp J Q) X) : ∀ (xs : List ε) (s : S), TK (forE body tg r (xs.map en) (J s)) (forL b xs s) (fun z u => match z with | .fin s => u = .nx (J s) | .rt t => Q t u ∧ isRet u = true) X
  | [], s => ⟨_, rfl, rfl⟩
  | x :: xs, s => by
    obtain ⟨ρ2, h3, h4⟩ := h2 x s
    have e : cK body sNil ρ2 = body ρ2 := bS_nil _
    rw [e] at h4
    rw [List.map_cons, forE_cons, h3, forL_cons]
    simp only [Option.bind_some]
    cases hm : b x s with
    | no => trivial
    | ok s2 =>
      rw [hm] at h4
      obtain ⟨u, h5, h6⟩ := h4
      rw [h5]
      cases s2 with
      | go s2 =>
        rcases h6 with rfl | rfl
        · exact forE_L h2 xs s2
        · exact forE_L h2 xs s2
      | bk s2 => rw [show u = .bk (J s2) from h6]; exact ⟨_, rfl, rfl⟩
      | rt t => obtain ⟨h7, h8⟩ := h6; refine ⟨u, ?_, h7, h8⟩; cases u <;> first | rfl | (exact absurd h8 (by simp [isRet]))
    | ex x => rw [hm] at h4; obtain ⟨ρ', h5, h6⟩ := h4; rw [h5]; exact ⟨ρ', rfl, h6⟩
theorem K_for {tg : Tg} {it : XI} {body : XS} {ε : Type} {en : ε → D} {xs : List ε} {b : ε → S → R S} {s0 : S} {K : S → R α} (J : S → List B) (h1 : it ρ = some (.ok r (xs.map en))) (h0 : ρ = J s0) (h2 : ∀ x s, ∃ ρ2, bnd tg r (en x) (J s) = some ρ2 ∧ TK (cK body sNil ρ2) (b x s) (Go J) X) (hk : ∀ s, TK (cK t k (J s)) (K s) P X) : TK (cK (sCons (sFor tg it body) t) k ρ) ((forP b xs s0).bind K) P X := by
  have h := forE_P h2 xs s0
  subst h0
  show TK (bS (bS (sFor tg it body _) t) k) _ _ _
  rw [for_ok h1 rfl]
  revert h
  cases forP b xs s0 with
  | no => intro _; trivial
  | ok s => intro ⟨u, h3, h4⟩; rw [h3, show u = .nx (J s) from h4]; exact hk s
  | ex x => intro ⟨ρ', h3, h4⟩; rw [h3]; exact ⟨ρ', rfl, h4⟩
theorem K_forL {tg : Tg} {it : XI} {body : XS} {ε : Type} {en : ε → D} {xs : List ε} {b : ε → S → R (L S T)} {s0 : S} {K : Fi S T → R α} {Q : T → Out → Prop} (J : S → List B) (h1 : it ρ = some (.ok r (xs.map en))) (h0 : ρ = J s0) (h2 : ∀ x s, ∃ ρ2, bnd tg r (en x) (J s) = some ρ2 ∧ TK (cK body sNil ρ2) (b x s) (Lp J Q) X) (hk : ∀ s, TK (cK t k (J s)) (K (.fin s)) P X) (hr : ∀ t u, Q t u → isRet u = true → TK (some u) (K (.rt t)) P X) : TK (cK (sCons (sFor tg it body) t) k ρ) ((forL b xs s0).bind K) P X := by
  have h := forE_L h2 xs s0
  subst h0
  show TK (bS (bS (sFor tg it body _) t) k) _ _ _
  rw [for_ok h1 rfl]
  revert h
  cases forL b xs s0 with
  | no => intro _; trivial
  | ok s =>
    intro ⟨u, h3, h4⟩
    rw [h3]
    cases s with
    | fin s => rw [show u = .nx (J s) from h4]; exact hk s
    | rt t => obtain ⟨h5, h6⟩ := h4; have := hr t u h5 h6; cases u <;> first | exact this | (exact absurd h6 (by simp [isRet]))
  | ex x => intro ⟨ρ', h3, h4⟩; rw [h3]; exact ⟨ρ', rfl, h4⟩
theorem x_for {tg : Tg} {it : XI} {body : XS} (h : it ρ = some (.x xx)) : cK (sCons (sFor tg it body) t) k ρ = some (.ex xx ρ) := x_st (by rw [sFor_ap, h])
theorem whE_P {body : XS} {J : S → List B} {cb : S → R Bool} {b : S → R S} (hX : ∀ s, X (J s)) (hc : ∀ s, TE (fe (J s)) (cb s) fun v => .v .nw (.bl v)) (h2 : ∀ s, TK (cK body sNil (J s)) (b s) (Go J) X) : ∀ (n : Nat) (s : S), TK (whE fe body n (J s)) (whN cb b n s) (Nx J) X
  | 0, s => trivial
  | n + 1, s => by
    have h3 := hc s
    have h4 := h2 s
    have e : cK body sNil (J s) = body (J s) := bS_nil _
    rw [e] at h4
    simp only [whE, whN]
    cases hcs : cb s with
    | no => trivial
    | ex x => rw [hcs] at h3; rw [show fe (J s) = some (.x x) from h3]; exact ⟨_, rfl, hX s⟩
    | ok v =>
      rw [hcs] at h3
      rw [show fe (J s) = some (.v .nw (.bl v)) from h3]
      cases v with
      | false => exact ⟨_, rfl, rfl⟩
      | true =>
        simp only [bT_v, R.ok_bind, if_true]
        cases hm : b s with
        | no => trivial
        | ok s2 =>
          rw [hm] at h4
          obtain ⟨u, h5, h6⟩ := h4
          rw [h5]
          rcases h6 with rfl | rfl
          · exact whE_P hX hc h2 n s2
          · exact whE_P hX hc h2 n s2
        | ex x => rw [hm] at h4; obtain ⟨ρ', h5, h6⟩ := h4; rw [h5]; exact ⟨ρ', rfl, h6⟩
theorem K_while {body : XS} {cb : S → R Bool} {b : S → R S} {s0 : S} {K : S → R α} (J : S → List B) (hX : ∀ s, X (J s)) (h0 : ρ = J s0) (hc : ∀ s, TE (fe (J s)) (cb s) fun v => .v .nw (.bl v)) (h2 : ∀ s, TK (cK body sNil (J s)) (b s) (Go J) X) (hk : ∀ s, TK (cK t k (J s)) (K s) P X) : TK (cK (sCons (sWhile fe body) t) k ρ) ((whP cb b s0).bind K) P X := by
  subst h0
  by_cases hn : whP cb b s0 = .no
  · rw [hn]; trivial
  · obtain ⟨n, e⟩ := whP_some hn
    have h := whE_P hX hc h2 n s0
    rw [← e] at h
    show TK (bS (bS (sWhile fe body _) t) k) _ _ _
    clear e
    revert h hn
    cases whP cb b s0 with
    | no => intro z _; exact absurd rfl z
    | ok s => intro _ ⟨u, h3, h4⟩; rw [sWhile_of h3, show u = .nx (J s) from h4]; exact hk s
    | ex x => intro _ ⟨ρ', h3, h4⟩; rw [sWhile_of h3]; exact ⟨ρ', rfl, h4⟩
theorem whE_L {body : XS} {J : S → List B} {Q : T → Out → Prop} {cb : S → R Bool} {b : S → R (L S T)} (hX : ∀ s, X (J s)) (hc : ∀ s, TE (fe (J s)) (cb s) fun v => .v .nw (.bl v)) (h2 : ∀ s, TK (cK body sNil (J s)) (b s) (Lp J Q) X) : ∀ (n : Nat) (s : S), TK (whE fe body n (J s)) (whLN cb b n s) (fun z u => match z with | .fin s => u = .nx (J s) | .rt t => Q t u ∧ isRet u = true) X
  | 0, s => trivial
  | n + 1, s => by
    have h3 := hc s
    have h4 := h2 s
    have e : cK body sNil (J s) = body (J s) := bS_nil _
    rw [e] at h4
    simp only [whE, whLN]
    cases hcs : cb s with
    | no => trivial
    | ex x => rw [hcs] at h3; rw [show fe (J s) = some (.x x) from h3]; exact ⟨_, rfl, hX s⟩
    | ok v =>
      rw [hcs] at h3
      rw [show fe (J s) = some (.v .nw (.bl v)) from h3]
      cases v with
      | false => exact ⟨_, rfl, rfl⟩
      | true =>
        simp only [bT_v, R.ok_bind, if_true]
        cases hm : b s with
        | no => trivial
        | ok s2 =>
          rw [hm] at h4
          obtain ⟨u, h5, h6⟩ := h4
          rw [h5]
          cases s2 with
          | go s2 =>
            rcases h6 with rfl | rfl
            · exact whE_L hX hc h2 n s2
            · exact whE_L hX hc h2 n s2
          | bk s2 => rw [show u = .bk (J s2) from h6]; exact ⟨_, rfl, rfl⟩
          | rt t => obtain ⟨h7, h8⟩ := h6; refine ⟨u, ?_, h7, h8⟩; cases u <;> first | rfl | (exact absurd h8 (by simp [isRet]))
        | ex x => rw [hm] at h4; obtain ⟨ρ', h5, h6⟩ := h4; rw [h5]; exact ⟨ρ', rfl, h6⟩
theorem K_whileL {body : XS} {cb : S → R Bool} {b : S → R (L S T)} {s0 : S} {K : Fi S T → R α} {Q : T → Out → Prop} (J : S → List B) (hX : ∀ s, X (J s)) (h0 : ρ = J s0) (hc : ∀ s, TE (fe (J s)) (cb s) fun v => .v .nw (.bl v)) (h2 : ∀ s, TK (cK body sNil (J s)) (b s) (Lp J Q) X) (hk : ∀ s, TK (cK t k (J s)) (K (.fin s)) P X) (hr : ∀ t u, Q t u → isRet u = true → TK (some u) (K (.rt t)) P X) : TK (cK (sCons (sWhile fe body) t) k ρ) ((whL cb b s0).bind K) P X := by
  subst h0
  by_cases hn : whL cb b s0 = .no
  · rw [hn]; trivial
  · obtain ⟨n, e⟩ := whL_some hn
    have h := whE_L hX hc h2 n s0
    rw [← e] at h
    show TK (bS (bS (sWhile fe body _) t) k) _ _ _
    clear e
    revert h hn
    cases whL cb b s0 with
    | no => intro z _; exact absurd rfl z
    | ok s =>
      intro _ ⟨u, h3, h4⟩
      rw [sWhile_of h3]
      cases s with
      | fin s => rw [show u = .nx (J s) from h4]; exact hk s
      | rt t => obtain ⟨h5, h6⟩ := h4; have := hr t u h5 h6; cases u <;> first | exact this | (exact absurd h6 (by simp [isRet]))
    | ex x => intro _ ⟨ρ', h3, h4⟩; rw [sWhile_of h3]; exact ⟨ρ', rfl, h4⟩
/-! try -/
def tryR (m : R γ) (K : γ → R α) (H : Exc → R α) : R α := match m with | .no => .no | .ok a => K a | .ex x => H x
@[simp] theorem tryR_ok {a : γ} {K : γ → R α} {H : Exc → R α} : tryR (.ok a) K H = K a := rfl
@[simp] theorem tryR_ex {x : Exc} {K : γ → R α} {H : Exc → R α} : tryR (.ex x) K H = H x := rfl
/-- one clause -/
def clauseR (tk : Option Bool) (a b : R α) : R α := match tk with | none => .no | some true => a | some false => b
@[simp] theorem clauseR_t {a b : R α} : clauseR (some true) a b = a := rfl
@[simp] theorem clauseR_f {a b : R α} : clauseR (some false) a b = b := rfl
/-- behind the clauses -/
def hK (o : Option Out) (t k : XS) : Option Out := bS (bS o t) k
theorem K_try {M : R γ} {body : XS} {hs : List XH} {K : γ → R α} {H : Exc → R α} (J : γ → List B) (Y : List B → Prop) (hb : TK (cK body sNil ρ) M (Nx J) Y) (hk : ∀ a, TK (cK t k (J a)) (K a) P X) (hh : ∀ x ρ2, Y ρ2 → TK (hK (hdE hs x ρ2) t k) (H x) P X) : TK (cK (sCons (sTry body hs) t) k ρ) (tryR M K H) P X := by
  have e : cK body sNil ρ = body ρ := bS_nil _
  rw [e] at hb
  show TK (bS (bS (match body ρ with | some (.ex x ρ2) => hdE hs x ρ2 | o => o) t) k) _ _ _
  cases M with
  | no => trivial
  | ok a => obtain ⟨u, h1, h2⟩ := hb; rw [h1, show u = .nx (J a) from h2]; exact hk a
  | ex x => obtain ⟨ρ2, h1, h2⟩ := hb; rw [h1]; exact hh x ρ2 h2
theorem K_tryE {M : R γ} {body : XS} {hs : List XH} {K : γ → R α} {H : Exc → R α} (J : γ → List B) (hb : TK (cK body sNil ρ) M (Nx J) (fun q => q = ρ)) (hk : ∀ a, TK (cK t k (J a)) (K a) P X) (hh : ∀ x, TK (hK (hdE hs x ρ) t k) (H x) P X) : TK (cK (sCons (sTry body hs) t) k ρ) (tryR M K H) P X :=
  K_try J _ hb hk fun x ρ2 h => by subst h; exact hh x
theorem H_nil {x : Exc} (hX : X ρ) : TK (hK (hdE [] x ρ) t k) (.ex x : R α) P X := ⟨ρ, rfl, hX⟩
theorem H_cons {h : XH} {hs : List XH} {x : Exc} {a b : R α} (ha : h.tk x.c = some true → TK (hK ((h.run x ρ).bind (clr h.oi)) t k) a P X) (hb : TK (hK (hdE hs x ρ) t k) b P X) : TK (hK (hdE (h :: hs) x ρ) t k) (clauseR (h.tk x.c) a b) P X := by
  show TK (hK (match h.tk x.c with | none => none | some false => hdE hs x ρ | some true => (h.run x ρ).bind (clr h.oi)) t k) _ _ _
  cases e : h.tk x.c with
  | none => trivial
  | some v => cases v with | true => exact ha e | false => exact hb
theorem H_consP {tk : Str → Option Bool} {oi : Option Nat} {run : Exc → XS} {hs : List XH} {x : Exc} {a b : R α} (ha : tk x.c = some true → TK (hK ((run x ρ).bind (clr oi)) t k) a P X) (hb : TK (hK (hdE hs x ρ) t k) b P X) : TK (hK (hdE (⟨tk, oi, run⟩ :: hs) x ρ) t k) (clauseR (tk x.c) a b) P X := H_cons (h := ⟨tk, oi, run⟩) ha hb
theorem H_end {oi : Option Nat} (h1 : s ρ = some (.nx ρ')) (h : TK (cK t k (clrO oi ρ')) m P X) : TK (hK ((s ρ).bind (clr oi)) t k) m P X := by rw [h1]; exact h
theorem H_rt {oi : Option Nat} {u : Out} (h1 : s ρ = some u) (hu : isRet u = true) {a : α} (h : P a u) : TK (hK ((s ρ).bind (clr oi)) t k) (.ok a) P X := by
  rw [h1]; refine ⟨u, ?_, h⟩; cases u <;> first | rfl | (exact absurd hu (by simp [isRet]))
/-- the fields of an exception -/
def xFld (x : Exc) (n : Str) : D := ((x.ns.zip x.ds).lookup n).getD .non
def FldOk (x : Exc) (n : Str) : Prop := ∃ d, (x.ns.zip x.ds).lookup n = some d ∧ d.sc = true
theorem XF_f {x : Exc} {n : Str} (h : FldOk x n) : XF.get x (.f n) = some (xFld x n) := by
  obtain ⟨d, h1, h2⟩ := h
  show ((x.ns.zip x.ds).lookup n).bind _ = _
  unfold xFld
  rw [h1]; show (if d.sc = true then some d else none) = _; rw [if_pos h2]; rfl
def ClsOk (x : Exc) (c : Str) : Prop := x.c = c ∧ x.ns.Nodup
theorem H_tup {cn : Str} {l : List XF} {x : Exc} {ds : List D} (hc : ClsOk x cn) (hi : i < ρ.length) (hl : l.mapM (XF.get x) = some ds) : hTup cn i j l x ρ = some (.nx (ρ.set j (.v .nw (.tup ds)))) := by
  unfold hTup; rw [if_pos ⟨hc.1, hc.2, hi⟩, hl]; rfl
/-- an end that is a law's -/
theorem TK_rt {u : Out} {a : α} (h : P a u) : TK (some u) (.ok a) P X := ⟨u, rfl, h⟩
end
/-! ### the helper of all laws -/
noncomputable def sameR (a b : D) : R Bool := gd (a = b ∧ okS 12 a) (.ok true)
theorem q_same {G : List D → Option Res} (hG : ∀ d, okS 12 d → G [d, d] = some (.ok .nw (.bl true))) (a b : D) : TF (G [a, b]) (sameR a b) (fun v => .ok .nw (toD v)) := by
  unfold sameR
  by_cases h : a = b ∧ okS 12 a
  · rw [gd_t h]; obtain ⟨rfl, h⟩ := h; exact hG a h
  · rw [gd_f h]; trivial
end VL

set_option Elab.async false
set_option linter.all false
set_option maxHeartbeats 1000000
/-! The typed reading: names for values, unpacking. -/
namespace VL
open PySem PySem.Spec PyProof.Rows L2
instance : Inhabited D := ⟨.non⟩
instance {α : Type} : Inhabited (Tup α) := ⟨⟨[]⟩⟩
instance : Inhabited Scr := ⟨⟨[]⟩⟩
instance {α β γ : Type} [Inhabited α] [Inhabited β] [Inhabited γ] : Inhabited (T3 α β γ) := ⟨⟨default, default, default⟩⟩
instance {α β γ δ : Type} [Inhabited α] [Inhabited β] [Inhabited γ] [Inhabited δ] : Inhabited (T4 α β γ δ) := ⟨⟨default, default, default, default⟩⟩
section
variable {α β γ S T : Type}
variable {ρ ρ' : List B} {o : Option Out} {m : R α} {P : α → Out → Prop} {X : List B → Prop} {r r2 r3 : Rg} {d x y z : D} {c : Ct} {fe ge he : XE} {s t k : XS} {xx : Exc} {i j : Nat}
/-- a name for a value -/
def lt (a : α) (f : α → β) : β := f a
@[simp] theorem lt_ap {a : α} {f : α → β} : lt a f = f a := rfl
theorem K_setl [Enc γ] {a : γ} {K : γ → R α} (h1 : fe ρ = some (.v r (toD a))) (h2 : ∀ a : γ, r.st = true ∨ (toD a).sc = true) (h3 : ∀ a : γ, TK (cK t k (ρ.set i (.v (nm r (toD a)) (toD a)))) (K a) P X) : TK (cK (sCons (sSet i fe) t) k ρ) (lt a K) P X := K_nx (set_v h1 (h2 a)) (h3 a)
theorem K_setlD {a : D} {K : D → R α} (h1 : fe ρ = some (.v .nw (toD a))) (h3 : ∀ a : D, TK (cK t k (ρ.set i (.v .nw (toD a)))) (K a) P X) : TK (cK (sCons (sSet i fe) t) k ρ) (lt a K) P X := K_setD h1 (h3 a)
theorem K_setnl [Enc γ] {a : List γ} {K : List γ → R α} (h1 : fe ρ = some (.n r (.lst (a.map toD)))) (h3 : ∀ a : List γ, TK (cK t k (ρ.set i (.own r (.lst (a.map toD))))) (K a) P X) : TK (cK (sCons (sSet i fe) t) k ρ) (lt a K) P X := K_nx (set_n h1) (h3 a)
theorem K_augl {op : OP2} {n q : Int} {K : Int → R α} (h : ρ[i]? = some (.v r (toD n))) (h1 : fe ρ = some (.v r2 d)) (h2 : op r (toD n) r2 d = some (.v r3 (toD q))) (h3 : ∀ q : Int, TK (cK t k (ρ.set i (.v .nw (toD q)))) (K q) P X) : TK (cK (sCons (sAug op i fe) t) k ρ) (lt q K) P X := K_aug h h1 h2 (h3 q)
theorem t_ix0 [Enc α] [Enc β] {p : α × β} : oIx r (toD p) r2 (toD (0 : Int)) = some (.v (nm r.el (toD p.1)) (toD p.1)) := rfl
theorem t_ix1 [Enc α] [Enc β] {p : α × β} : oIx r (toD p) r2 (toD (1 : Int)) = some (.v (nm r.el (toD p.2)) (toD p.2)) := rfl
theorem t_ix30 [Enc α] [Enc β] [Enc γ] {p : T3 α β γ} : oIx r (toD p) r2 (toD (0 : Int)) = some (.v (nm r.el (toD p.a)) (toD p.a)) := rfl
theorem t_ix31 [Enc α] [Enc β] [Enc γ] {p : T3 α β γ} : oIx r (toD p) r2 (toD (1 : Int)) = some (.v (nm r.el (toD p.b)) (toD p.b)) := rfl
theorem t_ix32 [Enc α] [Enc β] [Enc γ] {p : T3 α β γ} : oIx r (toD p) r2 (toD (2 : Int)) = some (.v (nm r.el (toD p.c)) (toD p.c)) := rfl
theorem t_len2 [Enc α] [Enc β] {p : α × β} : oLen r (toD p) = some (.v .nw (toD (2 : Int))) := rfl
theorem t_len3 [Enc α] [Enc β] [Enc γ] {p : T3 α β γ} : oLen r (toD p) = some (.v .nw (toD (3 : Int))) := rfl
theorem map_len1 [Enc α] [Inhabited α] {xs : List α} (h : xs.length = 1) : xs.map toD = [toD (ixL xs 0)] := by
  match xs, h with
  | [a0], _ => rfl
theorem map_len2 [Enc α] [Inhabited α] {xs : List α} (h : xs.length = 2) : xs.map toD = [toD (ixL xs 0), toD (ixL xs 1)] := by
  match xs, h with
  | [a0, a1], _ => rfl
theorem map_len3 [Enc α] [Inhabited α] {xs : List α} (h : xs.length = 3) : xs.map toD = [toD (ixL xs 0), toD (ixL xs 1), toD (ixL xs 2)] := by
  match xs, h with
  | [a0, a1, a2], _ => rfl
theorem map_len4 [Enc α] [Inhabited α] {xs : List α} (h : xs.length = 4) : xs.map toD = [toD (ixL xs 0), toD (ixL xs 1), toD (ixL xs 2), toD (ixL xs 3)] := by
  match xs, h with
  | [a0, a1, a2, a3], _ => rfl
theorem map_len5 [Enc α] [Inhabited α] {xs : List α} (h : xs.length = 5) : xs.map toD = [toD (ixL xs 0), toD (ixL xs 1), toD (ixL xs 2), toD (ixL xs 3), toD (ixL xs 4)] := by
  match xs, h with
  | [a0, a1, a2, a3, a4], _ => rfl
theorem map_len6 [Enc α] [Inhabited α] {xs : List α} (h : xs.length = 6) : xs.map toD = [toD (ixL xs 0), toD (ixL xs 1), toD (ixL xs 2), toD (ixL xs 3), toD (ixL xs 4), toD (ixL xs 5)] := by
  match xs, h with
  | [a0, a1, a2, a3, a4, a5], _ => rfl
theorem map_len7 [Enc α] [Inhabited α] {xs : List α} (h : xs.length = 7) : xs.map toD = [toD (ixL xs 0), toD (ixL xs 1), toD (ixL xs 2), toD (ixL xs 3), toD (ixL xs 4), toD (ixL xs 5), toD (ixL xs 6)] := by
  match xs, h with
  | [a0, a1, a2, a3, a4, a5, a6], _ => rfl
theorem map_len8 [Enc α] [Inhabited α] {xs : List α} (h : xs.length = 8) : xs.map toD = [toD (ixL xs 0), toD (ixL xs 1), toD (ixL xs 2), toD (ixL xs 3), toD (ixL xs 4), toD (ixL xs 5), toD (ixL xs 6), toD (ixL xs 7)] := by
  match xs, h with
  | [a0, a1, a2, a3, a4, a5, a6, a7], _ => rfl
theorem map_len9 [Enc α] [Inhabited α] {xs : List α} (h : xs.length = 9) : xs.map toD = [toD (ixL xs 0), toD (ixL xs 1), toD (ixL xs 2), toD (ixL xs 3), toD (ixL xs 4), toD (ixL xs 5), toD (ixL xs 6), toD (ixL xs 7), toD (ixL xs 8)] := by
  match xs, h with
  | [a0, a1, a2, a3, a4, a5, a6, a7, a8], _ => rfl
theorem map_len10 [Enc α] [Inhabited α] {xs : List α} (h : xs.length = 10) : xs.map toD = [toD (ixL xs 0), toD (ixL xs 1), toD (ixL xs 2), toD (ixL xs 3), toD (ixL xs 4), toD (ixL xs 5), toD (ixL xs 6), toD (ixL xs 7), toD (ixL xs 8), toD (ixL xs 9)] := by
  match xs, h with
  | [a0, a1, a2, a3, a4, a5, a6, a7, a8, a9], _ => rfl
theorem map_len11 [Enc α] [Inhabited α] {xs : List α} (h : xs.length = 11) : xs.map toD = [toD (ixL xs 0), toD (ixL xs 1), toD (ixL xs 2), toD (ixL xs 3), toD (ixL xs 4), toD (ixL xs 5), toD (ixL xs 6), toD (ixL xs 7), toD (ixL xs 8), toD (ixL xs 9), toD (ixL xs 10)] := by
  match xs, h with
  | [a0, a1, a2, a3, a4, a5, a6, a7, a8, a9, a10], _ => rfl
theorem map_len12 [Enc α] [Inhabited α] {xs : List α} (h : xs.length = 12) : xs.map toD = [toD (ixL xs 0), toD (ixL xs 1), toD (ixL xs 2), toD (ixL xs 3), toD (ixL xs 4), toD (ixL xs 5), toD (ixL xs 6), toD (ixL xs 7), toD (ixL xs 8), toD (ixL xs 9), toD (ixL xs 10), toD (ixL xs 11)] := by
  match xs, h with
  | [a0, a1, a2, a3, a4, a5, a6, a7, a8, a9, a10, a11], _ => rfl
theorem asEV (o : EV) (h : fe ρ = some o) : fe ρ = some o := h
theorem Ns0 : xNews [] ρ = some (.inl []) := rfl
theorem Ns1 {fs : List XE} {l : List (Rg × Ct)} (h : fe ρ = some (.n r c)) (h2 : xNews fs ρ = some (.inl l)) : xNews (fe :: fs) ρ = some (.inl ((r, c) :: l)) := by simp [xNews, h, h2]
theorem Esel [Enc α] {fs : List XE} {q : List (List α)} {n : Int} (h : xNews fs ρ = some (.inl (q.map fun a => (Rg.nw, Ct.lst (a.map toD))))) (h2 : ρ[i]? = some (.v r (toD n))) (hk : IxOk q n) : xSel fs i ρ = some (.n .nw (.lst ((ixL q n).map toD))) := by
  unfold xSel
  rw [h, h2]
  show (atI (q.map fun a => (Rg.nw, Ct.lst (a.map toD))) n).bind _ = _
  rw [atI_mp, ixL_at hk]; rfl
inductive MapMs (x : Exc) : List XF → List D → Prop
  | nil : MapMs x [] []
  | cons {f : XF} {d : D} {l : List XF} {ds : List D} (h : XF.get x f = some d) (t : MapMs x l ds) : MapMs x (f :: l) (d :: ds)
theorem mapM_of {x : Exc} {l : List XF} {ds : List D} (h : MapMs x l ds) : l.mapM (XF.get x) = some ds := by
  induction h with
  | nil => rfl
  | cons h _ ih => rw [List.mapM_cons, h, ih]; rfl
end
end VL

set_option Elab.async false
set_option linter.all false
set_option maxHeartbeats 1000000
/-! The helpers that most laws share, typed, and what they give. -/
namespace VL
open PySem PySem.Spec PyProof.Rows L2
noncomputable def gCell0 (script : Scr) (k' : Int) : R Int :=
  (if (decide (k' < ((script).ns.length : Int))) = true then
  (gd (IxOk (script).ns k') <|
  .ok (ixL (script).ns k'))
  else
  (.ok (0 : Int)))
noncomputable def gCell (script : Scr) (k' : Int) : R Int :=
  (if (decide (k' < ((script).ns.length : Int))) = true then
  (gd (IxOk (script).ns k') <|
  .ok (ixL (script).ns k'))
  else
  ((if (decide ((0 : Int) < ((script).ns.length : Int))) = true then
  (gd (0 < ((script).ns.length : Int)) <|
  gd (IxOk (script).ns (k' % ((script).ns.length : Int))) <|
  gd (TimesOk (ixL (script).ns (k' % ((script).ns.length : Int))) (31 : Int)) <|
  .ok (((ixL (script).ns (k' % ((script).ns.length : Int))) * (31 : Int)) + k'))
  else
  (.ok (1000000000000000000 : Int)))))
noncomputable def gDraws_b1  (limit_10 : Int) (s9 : (List Int) × Int) : R ((List Int) × Int) :=
  gd (0 < limit_10) <|
  gd (AppOk s9.1) <|
  gd (CDivW s9.2 limit_10) <|
  lt (s9.2 / limit_10) fun rest_14 =>
  .ok ((s9.1 ++ [(s9.2 % limit_10)]), rest_14)
noncomputable def gDraws_b2  (limit_19 : Int) (s18 : (List Int) × Int) : R ((List Int) × Int) :=
  gd (TimesOk s18.2 (48271 : Int)) <|
  gd (0 < (2147483647 : Int)) <|
  lt (((s18.2 * (48271 : Int)) + (69621 : Int)) % (2147483647 : Int)) fun state_22 =>
  gd (TimesOk state_22 state_22) <|
  gd (0 < (2147483399 : Int)) <|
  lt (((state_22 * state_22) + (40692 : Int)) % (2147483399 : Int)) fun square_25 =>
  gd (CDivW square_25 (11 : Int)) <|
  gd (0 < limit_19) <|
  gd (AppOk s18.1) <|
  .ok ((s18.1 ++ [((square_25 / (11 : Int)) % limit_19)]), state_22)
noncomputable def gDraws (cell : Int) (limits : (List Int)) : R (List Int) :=
  lt ((cell).natAbs : Int) fun rest_7 =>
  (if (decide ((1000000000000000000 : Int) ≤ rest_7)) = true then
  (lt (rest_7 - (1000000000000000000 : Int)) fun rest_8 =>
  R.bind (forP gDraws_b1 limits (([] : List Int), rest_8)) fun s9 =>
  .ok s9.1)
  else
  (gd (TimesOk rest_7 (2 : Int)) <|
  gd (0 < (2147483647 : Int)) <|
  lt (((rest_7 * (2 : Int)) + (bitI (decide (cell < (0 : Int))))) % (2147483647 : Int)) fun state_17 =>
  R.bind (forP gDraws_b2 limits (([] : List Int), state_17)) fun s18 =>
  .ok s18.1))
noncomputable def gRest (cell : Int) (product : Int) : R Int :=
  (if (decide ((1000000000000000000 : Int) ≤ ((cell).natAbs : Int))) = true then
  (gd (CDivW (((cell).natAbs : Int) - (1000000000000000000 : Int)) product) <|
  .ok ((1000000000000000000 : Int) + ((((cell).natAbs : Int) - (1000000000000000000 : Int)) / product)))
  else
  (gd (TimesOk cell (7 : Int)) <|
  .ok ((cell * (7 : Int)) + product)))
noncomputable def gInteger_b1  (digit_68 : Int) (s67 : Int) : R (Int) :=
  gd (TimesOk s67 (1000000000 : Int)) <|
  lt ((s67 * (1000000000 : Int)) + digit_68) fun number_70 =>
  .ok number_70
noncomputable def gInteger (cell : Int) (most : Int) : R Int :=
  lt ([(2 : Int), (3 : Int), (1000000000 : Int), (1000000000 : Int), (1000000000 : Int), (1000000000 : Int), (1000000000 : Int), (1000000000 : Int), (1000000000 : Int)] : List Int) fun limits_64 =>
  R.bind (gDraws cell limits_64) fun d65 =>
  R.bind (forP gInteger_b1 (cutG d65 (some (2 : Int)) none) (0 : Int)) fun s67 =>
  lt (most + (1 : Int)) fun bound_71 =>
  gd (IxOk d65 (1 : Int)) <|
  R.bind (if (decide ((ixL d65 (1 : Int)) = (1 : Int))) = true then lt (min bound_71 (1000 : Int)) fun bound_74 =>
  .ok bound_74 else .ok bound_71) fun s75 =>
  gd (IxOk d65 (1 : Int)) <|
  R.bind (if (decide ((ixL d65 (1 : Int)) = (2 : Int))) = true then lt (min s75 (13 : Int)) fun bound_78 =>
  .ok bound_78 else .ok s75) fun s79 =>
  gd (0 < s79) <|
  lt (s67 % s79) fun number_81 =>
  gd (IxOk d65 (0 : Int)) <|
  (if (decide ((ixL d65 (0 : Int)) = (1 : Int))) = true then
  (.ok (-number_81))
  else
  (.ok number_81))
noncomputable def gModulus (cell : Int) (small : Int) (great : Int) : R Int :=
  R.bind (gDraws cell ([(4 : Int), small, great] : List Int)) fun d46 =>
  gd ((d46).length = 3) <|
  (if (decide ((ixL d46 0) = (3 : Int))) = true then
  (.ok ((1 : Int) + (ixL d46 2)))
  else
  (.ok ((1 : Int) + (ixL d46 1))))
noncomputable def gSmooth_b1 (most : Int) (k_38 : Int) (s37 : Int) : R (Int) :=
  gd (IxOk ([(1 : Int), (2 : Int), (2 : Int), (3 : Int), (2 : Int), (5 : Int), (3 : Int), (7 : Int), (11 : Int)] : List Int) k_38) <|
  lt (ixL ([(1 : Int), (2 : Int), (2 : Int), (3 : Int), (2 : Int), (5 : Int), (3 : Int), (7 : Int), (11 : Int)] : List Int) k_38) fun factor_40 =>
  gd (TimesOk s37 factor_40) <|
  (if (decide ((s37 * factor_40) ≤ most)) = true then
  (gd (TimesOk s37 factor_40) <|
  lt (s37 * factor_40) fun number_43 =>
  .ok number_43)
  else
  (.ok s37))
noncomputable def gSmooth (cell : Int) (most : Int) : R Int :=
  R.bind (gDraws cell ([(9 : Int), (9 : Int), (9 : Int), (9 : Int), (9 : Int), (9 : Int), (9 : Int), (9 : Int)] : List Int)) fun d35 =>
  R.bind (forP (gSmooth_b1 most) d35 (1 : Int)) fun s37 =>
  .ok s37
/-! ### indexes, guards -/
section
variable {α β S T : Type}
theorem IxOk_nat {xs : List α} {k : Int} (h : 0 ≤ k ∧ k < xs.length) : IxOk xs k := ⟨by omega, h.2⟩
section
variable [Inhabited α] {a b c d e f g h : α} {l : List α}
theorem ixL_k {xs : List α} {k : Nat} {x : α} (hx : xs[k]? = some x) : ixL xs (k : Int) = x := by
  have hk := (List.getElem?_eq_some_iff.mp hx)
  obtain ⟨h1, h2⟩ := hk
  rw [ixL_nat ⟨by omega, by omega⟩]
  simpa using h2
@[simp] theorem ixL_0 : ixL (a :: l) 0 = a := ixL_k (k := 0) rfl
@[simp] theorem ixL_1 : ixL (a :: b :: l) 1 = b := ixL_k (k := 1) rfl
@[simp] theorem ixL_2 : ixL (a :: b :: c :: l) 2 = c := ixL_k (k := 2) rfl
@[simp] theorem ixL_3 : ixL (a :: b :: c :: d :: l) 3 = d := ixL_k (k := 3) rfl
@[simp] theorem ixL_4 : ixL (a :: b :: c :: d :: e :: l) 4 = e := ixL_k (k := 4) rfl
@[simp] theorem ixL_5 : ixL (a :: b :: c :: d :: e :: f :: l) 5 = f := ixL_k (k := 5) rfl
@[simp] theorem ixL_6 : ixL (a :: b :: c :: d :: e :: f :: g :: l) 6 = g := ixL_k (k := 6) rfl
@[simp] theorem ixL_7 : ixL (a :: b :: c :: d :: e :: f :: g :: h :: l) 7 = h := ixL_k (k := 7) rfl
@[simp] theorem IxOk_0 : IxOk (a :: l) 0 := ⟨by simp; omega, by simp⟩
@[simp] theorem IxOk_1 : IxOk (a :: b :: l) 1 := ⟨by simp; omega, by simp; omega⟩
@[simp] theorem IxOk_2 : IxOk (a :: b :: c :: l) 2 := ⟨by simp; omega, by simp; omega⟩
@[simp] theorem IxOk_3 : IxOk (a :: b :: c :: d :: l) 3 := ⟨by simp; omega, by simp; omega⟩
@[simp] theorem IxOk_4 : IxOk (a :: b :: c :: d :: e :: l) 4 := ⟨by simp; omega, by simp; omega⟩
@[simp] theorem IxOk_5 : IxOk (a :: b :: c :: d :: e :: f :: l) 5 := ⟨by simp; omega, by simp; omega⟩
@[simp] theorem IxOk_6 : IxOk (a :: b :: c :: d :: e :: f :: g :: l) 6 := ⟨by simp; omega, by simp; omega⟩
@[simp] theorem IxOk_7 : IxOk (a :: b :: c :: d :: e :: f :: g :: h :: l) 7 := ⟨by simp; omega, by simp; omega⟩
end
theorem AppOk_of {xs : List α} (h : xs.length < 16000000) : AppOk xs := Nat.lt_of_lt_of_le h (by decide)
theorem szL {n : Nat} (h : n < 16000000) : n ≤ sizeLine := Nat.le_trans (Nat.le_of_lt h) (by decide)
theorem RgOk_of {i j : Int} (h : -1000000000 ≤ i ∧ i ≤ 1000000000 ∧ -1000000000 ≤ j ∧ j ≤ 1000000000) : RgOk i j := ⟨by omega, by omega, by omega, by omega⟩
theorem CDivW_of {i j : Int} (h : 0 < j) (h2 : j < 2 ^ 250) : CDivW i j := ⟨h, by
  have : j.natAbs < 2 ^ 250 := by omega
  have := Nat.log2_lt (n := j.natAbs) (k := 250) (by omega)
  omega⟩
theorem log2_small {n : Nat} (h : n < 2 ^ 250) : n.log2 < 250 ∨ n = 0 := by
  by_cases z : n = 0
  · exact .inr z
  · exact .inl ((Nat.log2_lt z).mpr h)
theorem log2_lt' {n k : Nat} (hk : 0 < k) (h : n < 2 ^ k) : n.log2 < k := by
  by_cases z : n = 0
  · subst z; rw [Nat.log2_zero]; exact hk
  · exact (Nat.log2_lt z).mpr h
theorem times_ok {i j : Int} (hi : i.natAbs < 2 ^ 250) (hj : j.natAbs < 2 ^ 250) : TimesOk i j := .inr (by
  have a := log2_lt' (by decide) hi; have b := log2_lt' (by decide) hj
  show _ + _ < 1000000
  omega)
theorem range1_length (n : Int) : (range1 n).length = n.toNat := by unfold range1 rangeI; simp
theorem mem_range1 {n k : Int} : k ∈ range1 n ↔ 0 ≤ k ∧ k < n := by
  unfold range1 rangeI
  simp only [List.mem_map, List.mem_range]
  constructor
  · rintro ⟨a, h1, rfl⟩; omega
  · intro ⟨h1, h2⟩; exact ⟨k.toNat, by omega, by omega⟩
theorem mem_range2 {m n k : Int} : k ∈ range2 m n ↔ m ≤ k ∧ k < n := by
  unfold range2 rangeI
  simp only [List.mem_map, List.mem_range]
  constructor
  · rintro ⟨a, h1, rfl⟩; omega
  · intro ⟨h1, h2⟩; exact ⟨(k - m).toNat, by omega, by omega⟩
theorem range2_nil {m n : Int} (h : n ≤ m) : range2 m n = [] := by
  unfold range2 rangeI
  rw [show (n - m).toNat = 0 by omega]; rfl
theorem range2_cons {m n : Int} (h : m < n) : range2 m n = m :: range2 (m + 1) n := by
  unfold range2 rangeI
  obtain ⟨k, hk⟩ : ∃ k : Nat, (n - m).toNat = k + 1 := ⟨(n - m).toNat - 1, by omega⟩
  rw [hk, show (n - (m + 1)).toNat = k by omega, List.range_succ_eq_map, List.map_cons, List.map_map]
  congr 1
  · simp
  · apply List.map_congr_left; intro a _; simp only [Function.comp, Nat.succ_eq_add_one]; omega
theorem range1_range2 (n : Int) : range1 n = range2 0 n := by unfold range1 range2; simp
theorem setL_length {xs : List α} {k : Int} {a : α} : (setL xs k a).length = xs.length := by
  unfold setL; split <;> simp
theorem repL_length {xs : List α} {k : Int} : (repL xs k).length = k.toNat * xs.length := by unfold repL; simp
theorem mem_repL {xs : List α} {k : Int} {a : α} (h : a ∈ repL xs k) : a ∈ xs := by
  unfold repL at h
  obtain ⟨l, h1, h2⟩ := List.mem_flatten.mp h
  rw [List.eq_of_mem_replicate h1] at h2; exact h2
end
/-! ### draws -/
theorem gDraws_ok (c : Int) (ls : List Int) (hl : ∀ l ∈ ls, CDivW 0 l) (hz : ls.length < 1000) : gDraws c ls = .ok (draws c ls) := by
  have big : ∀ (ls : List Int) (acc : List Int) (rest : Int), (∀ l ∈ ls, CDivW 0 l) → acc.length + ls.length < 1000 → ∃ r, forP gDraws_b1 ls (acc, rest) = .ok (acc ++ bigDraws rest ls, r) := by
    intro ls
    induction ls with
    | nil => intro acc rest _ _; exact ⟨rest, by simp [bigDraws]⟩
    | cons l ls ih =>
      intro acc rest h hn
      have h1 := h l List.mem_cons_self
      obtain ⟨r, hr⟩ := ih (acc ++ [rest % l]) (rest / l) (fun x hx => h x (List.mem_cons_of_mem _ hx)) (by simp at hn ⊢; omega)
      refine ⟨r, ?_⟩
      have hs : gDraws_b1 l (acc, rest) = .ok (acc ++ [rest % l], rest / l) := by
        unfold gDraws_b1; rw [gd_t h1.1, gd_t (AppOk_of (by simp at hn ⊢; omega)), gd_t (show CDivW rest l from h1), lt_ap]
      rw [forP_cons, hs, R.ok_bind, hr]
      simp [bigDraws]
  have small : ∀ (ls : List Int) (acc : List Int) (st : Int), (∀ l ∈ ls, CDivW 0 l) → acc.length + ls.length < 1000 → ∃ r, forP gDraws_b2 ls (acc, st) = .ok (acc ++ lcg st ls, r) := by
    intro ls
    induction ls with
    | nil => intro acc st _ _; exact ⟨st, by simp [lcg]⟩
    | cons l ls ih =>
      intro acc st h hn
      have h1 := h l List.mem_cons_self
      obtain ⟨r, hr⟩ := ih (acc ++ [((((st * 48271 + 69621) % 2147483647) * ((st * 48271 + 69621) % 2147483647) + 40692) % 2147483399 / 11) % l]) ((st * 48271 + 69621) % 2147483647) (fun x hx => h x (List.mem_cons_of_mem _ hx)) (by simp at hn ⊢; omega)
      refine ⟨r, ?_⟩
      have hs : gDraws_b2 l (acc, st) = .ok (acc ++ [((((st * 48271 + 69621) % 2147483647) * ((st * 48271 + 69621) % 2147483647) + 40692) % 2147483399 / 11) % l], (st * 48271 + 69621) % 2147483647) := by
        unfold gDraws_b2; rw [gd_t (show TimesOk _ _ from small_mul (by decide)), gd_t (show (0 : Int) < 2147483647 by decide), lt_ap, gd_t (show TimesOk _ _ from small_mul (by omega)), gd_t (show (0 : Int) < 2147483399 by decide), lt_ap, gd_t (show CDivW _ 11 from ⟨by decide, by decide⟩), gd_t h1.1, gd_t (AppOk_of (by simp at hn ⊢; omega))]
      rw [forP_cons, hs, R.ok_bind, hr]
      simp [lcg]
  unfold gDraws draws
  rw [lt_ap]
  by_cases h : (1000000000000000000 : Int) ≤ c.natAbs
  · rw [if_pos (by simpa using h), if_pos h, lt_ap]
    obtain ⟨r, hr⟩ := big ls [] ((c.natAbs : Int) - 1000000000000000000) hl (by simpa using hz)
    rw [hr]; rfl
  · rw [if_neg (by simpa using h), if_neg h, gd_t (show TimesOk _ 2 from small_mul (by decide)), gd_t (show (0 : Int) < 2147483647 by decide), lt_ap]
    obtain ⟨r, hr⟩ := small ls [] (((c.natAbs : Int) * 2 + bitI (decide (c < 0))) % 2147483647) hl (by simpa using hz)
    rw [hr]; rfl
/-- limits one may draw below -/
def LimOk (ls : List Int) : Prop := ∀ l ∈ ls, 0 < l ∧ l < 2 ^ 250
theorem LimOk.div {ls : List Int} (h : LimOk ls) : ∀ l ∈ ls, CDivW 0 l := fun l hl => CDivW_of (h l hl).1 (h l hl).2
theorem draws_spec (c : Int) (ls : List Int) (h : LimOk ls) (hz : ls.length < 1000) : ∃ ds, gDraws c ls = .ok ds ∧ Below ds ls := ⟨_, gDraws_ok c ls h.div hz, draws_below c ls fun l hl => (h l hl).1⟩
theorem below1 {xs : List Int} {a : Int} (h : Below xs [a]) : ∃ x, xs = [x] ∧ 0 ≤ x ∧ x < a := by
  match xs, h with
  | [x], h => exact ⟨x, rfl, h.1⟩
theorem below2 {xs : List Int} {a b : Int} (h : Below xs [a, b]) : ∃ x y, xs = [x, y] ∧ (0 ≤ x ∧ x < a) ∧ (0 ≤ y ∧ y < b) := by
  match xs, h with
  | [x, y], h => exact ⟨x, y, rfl, h.1, h.2.1⟩
theorem below3 {xs : List Int} {a b c : Int} (h : Below xs [a, b, c]) : ∃ x y z, xs = [x, y, z] ∧ (0 ≤ x ∧ x < a) ∧ (0 ≤ y ∧ y < b) ∧ (0 ≤ z ∧ z < c) := by
  match xs, h with
  | [x, y, z], h => exact ⟨x, y, z, rfl, h.1, h.2.1, h.2.2.1⟩
theorem below4 {xs : List Int} {a b c d : Int} (h : Below xs [a, b, c, d]) : ∃ x y z w, xs = [x, y, z, w] ∧ (0 ≤ x ∧ x < a) ∧ (0 ≤ y ∧ y < b) ∧ (0 ≤ z ∧ z < c) ∧ (0 ≤ w ∧ w < d) := by
  match xs, h with
  | [x, y, z, w], h => exact ⟨x, y, z, w, rfl, h.1, h.2.1, h.2.2.1, h.2.2.2.1⟩
theorem below5 {xs : List Int} {a b c d e : Int} (h : Below xs [a, b, c, d, e]) : ∃ x y z w v, xs = [x, y, z, w, v] ∧ (0 ≤ x ∧ x < a) ∧ (0 ≤ y ∧ y < b) ∧ (0 ≤ z ∧ z < c) ∧ (0 ≤ w ∧ w < d) ∧ (0 ≤ v ∧ v < e) := by
  match xs, h with
  | [x, y, z, w, v], h => exact ⟨x, y, z, w, v, rfl, h.1, h.2.1, h.2.2.1, h.2.2.2.1, h.2.2.2.2.1⟩
theorem below6' {xs : List Int} {a b c d e f : Int} (h : Below xs [a, b, c, d, e, f]) : ∃ u v w x y z, xs = [u, v, w, x, y, z] ∧ (0 ≤ u ∧ u < a) ∧ (0 ≤ v ∧ v < b) ∧ (0 ≤ w ∧ w < c) ∧ (0 ≤ x ∧ x < d) ∧ (0 ≤ y ∧ y < e) ∧ (0 ≤ z ∧ z < f) := by
  match xs, h with
  | [u, v, w, x, y, z], h => exact ⟨u, v, w, x, y, z, rfl, h.1, h.2.1, h.2.2.1, h.2.2.2.1, h.2.2.2.2.1, h.2.2.2.2.2.1⟩
theorem Below.length {xs ls : List Int} (h : Below xs ls) : xs.length = ls.length := by
  induction ls generalizing xs with
  | nil => match xs, h with | [], _ => rfl
  | cons l ls ih => match xs, h with | x :: xs, h => simp [ih h.2]
theorem Below.rep {xs : List Int} {m : Int} {ls : List Int} (h : Below xs ls) (hl : ∀ l ∈ ls, l = m) : ∀ x ∈ xs, 0 ≤ x ∧ x < m := by
  induction ls generalizing xs with
  | nil => match xs, h with | [], _ => intro x hx; cases hx
  | cons l ls ih =>
    match xs, h with
    | y :: xs, h =>
      intro x hx
      rcases List.mem_cons.mp hx with rfl | hx
      · have := hl l List.mem_cons_self; subst this; exact h.1
      · exact ih h.2 (fun z hz => hl z (List.mem_cons_of_mem _ hz)) x hx
theorem gRest_ok (c p : Int) (hp : 0 < p ∧ p < 2 ^ 250) : ∃ z, gRest c p = .ok z := by
  unfold gRest
  split
  · rw [gd_t (CDivW_of hp.1 hp.2)]; exact ⟨_, rfl⟩
  · rw [gd_t (small_mul (by decide))]; exact ⟨_, rfl⟩
theorem gCell0_ok (s : Scr) (k : Int) (hk : 0 ≤ k) : ∃ z, gCell0 s k = .ok z := by
  unfold gCell0
  split
  · rename_i h; rw [gd_t (IxOk_nat ⟨hk, by simpa using h⟩)]; exact ⟨_, rfl⟩
  · exact ⟨_, rfl⟩
theorem gCell_ok (s : Scr) (k : Int) (hk : 0 ≤ k) : ∃ z, gCell s k = .ok z := by
  unfold gCell
  split
  · rename_i h; rw [gd_t (IxOk_nat ⟨hk, by simpa using h⟩)]; exact ⟨_, rfl⟩
  · split
    · rename_i h
      have h : (0 : Int) < s.ns.length := by simpa using h
      rw [gd_t h, gd_t (IxOk_nat ⟨Int.emod_nonneg _ (by omega), Int.emod_lt_of_pos _ h⟩), gd_t (small_mul (by decide))]
      exact ⟨_, rfl⟩
    · exact ⟨_, rfl⟩
theorem gModulus_ok (c s g : Int) (hs : 0 < s ∧ s < 2 ^ 250) (hg : 0 < g ∧ g < 2 ^ 250) : ∃ z, gModulus c s g = .ok z ∧ 1 ≤ z ∧ (z ≤ s ∨ z ≤ g) := by
  unfold gModulus
  obtain ⟨ds, e, hb⟩ := draws_spec c [4, s, g] (by
    intro l hl
    simp only [List.mem_cons, List.not_mem_nil, or_false] at hl
    rcases hl with rfl | rfl | rfl
    · exact ⟨by decide, by decide⟩
    · exact hs
    · exact hg) (show 3 < 1000 by decide)
  obtain ⟨x, y, z, rfl, h1, h2, h3⟩ := below3 hb
  rw [e, R.ok_bind, gd_t (by rfl)]
  split
  · exact ⟨_, rfl, by simp; omega, by simp; omega⟩
  · exact ⟨_, rfl, by simp; omega, by simp; omega⟩
theorem gSmooth_ok (c m : Int) (hm : 1 ≤ m ∧ m < 2 ^ 64) : ∃ z, gSmooth c m = .ok z ∧ 1 ≤ z ∧ z ≤ m := by
  unfold gSmooth
  obtain ⟨ds, e, hb⟩ := draws_spec c [9, 9, 9, 9, 9, 9, 9, 9] (by
    intro l hl
    simp only [List.mem_cons, List.not_mem_nil, or_false, or_self] at hl
    subst hl; exact ⟨by decide, by decide⟩) (by decide)
  have hd := hb.rep (m := 9) (by simp)
  rw [e, R.ok_bind]
  obtain ⟨z, h1, h2⟩ := forP_inv (as := ds) (s := (1 : Int)) (I := fun _ s => 1 ≤ s ∧ s ≤ m) (b := gSmooth_b1 m) (by
      intro pre k post s hs hI
      have hk := hd k (by rw [hs]; simp)
      have hk2 : k = 0 ∨ k = 1 ∨ k = 2 ∨ k = 3 ∨ k = 4 ∨ k = 5 ∨ k = 6 ∨ k = 7 ∨ k = 8 := by omega
      have hix : IxOk ([(1 : Int), 2, 2, 3, 2, 5, 3, 7, 11] : List Int) k := IxOk_nat ⟨hk.1, by simp; omega⟩
      have hf : 1 ≤ ixL ([(1 : Int), 2, 2, 3, 2, 5, 3, 7, 11] : List Int) k ∧ ixL ([(1 : Int), 2, 2, 3, 2, 5, 3, 7, 11] : List Int) k ≤ 11 := by
        rcases hk2 with rfl | rfl | rfl | rfl | rfl | rfl | rfl | rfl | rfl <;> decide
      unfold gSmooth_b1
      rw [gd_t hix, lt_ap]
      generalize ixL ([(1 : Int), 2, 2, 3, 2, 5, 3, 7, 11] : List Int) k = f at hf
      rw [gd_t (show TimesOk s f from small_mul (by omega))]
      split
      · rename_i h
        have h : s * f ≤ m := by simpa using h
        rw [gd_t (show TimesOk s f from small_mul (by omega))]
        refine ⟨s * f, rfl, ?_, h⟩
        have : (1 : Int) * 1 ≤ s * f := Int.mul_le_mul hI.1 hf.1 (by decide) (by omega)
        simpa using this
      · exact ⟨s, rfl, hI⟩) ⟨by omega, by omega⟩
  rw [h1]; exact ⟨z, rfl, h2⟩
theorem gInteger_ok (c m : Int) (hm : 0 ≤ m) : ∃ z, gInteger c m = .ok z ∧ -m ≤ z ∧ z ≤ m := by
  unfold gInteger
  rw [lt_ap]
  obtain ⟨ds, e, hb⟩ := draws_spec c [2, 3, 1000000000, 1000000000, 1000000000, 1000000000, 1000000000, 1000000000, 1000000000] (by
    intro l hl
    simp only [List.mem_cons, List.not_mem_nil, or_false] at hl
    rcases hl with rfl | rfl | rfl | rfl | rfl | rfl | rfl | rfl | rfl <;> exact ⟨by decide, by decide⟩) (by decide)
  rw [e, R.ok_bind]
  match ds, hb with
  | x0 :: x1 :: l, hb =>
    obtain ⟨z, h1, _⟩ := forP_inv (as := cutG (x0 :: x1 :: l) (some (2 : Int)) none) (s := (0 : Int)) (I := fun _ s => True) (b := gInteger_b1) (by
        intro pre k post s hs hI
        unfold gInteger_b1
        rw [gd_t (show TimesOk s 1000000000 from small_mul (by decide))]
        exact ⟨_, rfl, trivial⟩) trivial
    rw [h1, R.ok_bind, lt_ap, gd_t IxOk_1]
    have key : ∀ bound : Int, 0 < bound → bound ≤ m + 1 → ∃ z', (gd (0 < bound) <|
      lt (z % bound) fun number =>
      gd (IxOk (x0 :: x1 :: l) (0 : Int)) <|
      (if (decide ((ixL (x0 :: x1 :: l) (0 : Int)) = (1 : Int))) = true then
      (.ok (-number))
      else
      (.ok number))) = R.ok z' ∧ -m ≤ z' ∧ z' ≤ m := by
      intro bound h2 h3
      rw [gd_t h2, lt_ap, gd_t IxOk_0]
      have a := Int.emod_nonneg z (show bound ≠ 0 by omega)
      have b := Int.emod_lt_of_pos z h2
      split
      · exact ⟨_, rfl, by omega, by omega⟩
      · exact ⟨_, rfl, by omega, by omega⟩
    split
    · rw [lt_ap, R.ok_bind, gd_t IxOk_1]
      split
      · rw [lt_ap, R.ok_bind]; exact key _ (by omega) (by omega)
      · rw [R.ok_bind]; exact key _ (by omega) (by omega)
    · rw [R.ok_bind, gd_t IxOk_1]
      split
      · rw [lt_ap, R.ok_bind]; exact key _ (by omega) (by omega)
      · rw [R.ok_bind]; exact key _ (by omega) (by omega)
end VL

set_option Elab.async false
set_option linter.all false
set_option maxHeartbeats 1000000
/-! Primes and divisors, in plain Lean; the program's prime powers. -/
namespace VL
open PySem PySem.Spec PyProof.Rows L2
def Pr (p : Int) : Prop := 2 ≤ p ∧ ∀ d : Int, 2 ≤ d → d < p → ¬ d ∣ p
theorem mod0 {a b : Int} : a % b = 0 ↔ b ∣ a := ⟨Int.dvd_of_emod_eq_zero, Int.emod_eq_zero_of_dvd⟩
theorem dvd_le {d n : Int} (hn : 0 < n) (h : d ∣ n) : d ≤ n := Int.le_of_dvd hn h
theorem pow_pos' {p : Int} (hp : 0 < p) : ∀ k : Nat, 0 < p ^ k
  | 0 => by simp
  | k + 1 => by rw [Int.pow_succ]; exact Int.mul_pos (pow_pos' hp k) hp
theorem one_le_pow {p : Int} (hp : 0 < p) (k : Nat) : 1 ≤ p ^ k := pow_pos' hp k
theorem le_mul_of_one {a b : Int} (ha : 0 ≤ a) (hb : 1 ≤ b) : a ≤ a * b := by
  have := Int.mul_le_mul_of_nonneg_left hb ha
  simpa using this
theorem two_pow_le {p : Int} (hp : 2 ≤ p) : ∀ k : Nat, (2 : Int) ^ k ≤ p ^ k
  | 0 => by simp
  | k + 1 => by
    rw [Int.pow_succ, Int.pow_succ]
    exact Int.mul_le_mul (two_pow_le hp k) hp (by decide) (Int.le_of_lt (pow_pos' (by omega) k))
theorem two_pow_mono {a b : Nat} (h : a ≤ b) : (2 : Int) ^ a ≤ 2 ^ b := by
  obtain ⟨k, rfl⟩ := Nat.exists_eq_add_of_le h
  rw [Int.pow_add]
  exact le_mul_of_one (Int.le_of_lt (pow_pos' (by decide) a)) (one_le_pow (by decide) k)
theorem lt_two_pow : ∀ k : Nat, (k : Int) < 2 ^ k
  | 0 => by simp
  | k + 1 => by
    have := lt_two_pow k
    rw [Int.pow_succ]; omega
/-- from (last, product) through the powers to (last', product') -/
def Go' : Int → Int → List (Int × Int) → Int → Int → Prop
  | a, b, [], c, d => a = c ∧ b = d
  | a, b, pe :: l, c, d => a < pe.1 ∧ Pr pe.1 ∧ 1 ≤ pe.2 ∧ Go' pe.1 (b * pe.1 ^ pe.2.toNat) l c d
theorem Go'.snoc {p e : Int} : ∀ {l : List (Int × Int)} {a b c d : Int}, Go' a b l c d → c < p → Pr p → 1 ≤ e → Go' a b (l ++ [(p, e)]) p (d * p ^ e.toNat)
  | [], a, b, c, d, h, h1, h2, h3 => by obtain ⟨rfl, rfl⟩ := h; exact ⟨h1, h2, h3, rfl, rfl⟩
  | pe :: l, a, b, c, d, h, h1, h2, h3 => ⟨h.1, h.2.1, h.2.2.1, h.2.2.2.snoc h1 h2 h3⟩
theorem Go'.le : ∀ {l : List (Int × Int)} {a b c d : Int}, Go' a b l c d → 1 ≤ b → b * 2 ^ l.length ≤ d
  | [], a, b, c, d, h, h1 => by obtain ⟨rfl, rfl⟩ := h; simp
  | pe :: l, a, b, c, d, h, h1 => by
    obtain ⟨h2, h3, h4, h5⟩ := h
    have hp : 0 < pe.1 ^ pe.2.toNat := pow_pos' (by have := h3.1; omega) _
    have h6 := h5.le (by have := Int.mul_pos (show 0 < b by omega) hp; omega)
    obtain ⟨k, hk⟩ : ∃ k, pe.2.toNat = k + 1 := ⟨pe.2.toNat - 1, by omega⟩
    have h7 : 2 ≤ pe.1 ^ pe.2.toNat := by
      have a1 := two_pow_le h3.1 pe.2.toNat
      have a2 : (2 : Int) ^ pe.2.toNat = 2 ^ k * 2 := by rw [hk, Int.pow_succ]
      have a3 := pow_pos' (p := 2) (by decide) k
      omega
    have h8 : b * 2 ≤ b * pe.1 ^ pe.2.toNat := Int.mul_le_mul_of_nonneg_left h7 (by omega)
    have h9 : (b * 2) * 2 ^ l.length ≤ (b * pe.1 ^ pe.2.toNat) * 2 ^ l.length := Int.mul_le_mul_of_nonneg_right h8 (Int.le_of_lt (pow_pos' (by decide) _))
    have e : b * 2 ^ (pe :: l).length = b * 2 * 2 ^ l.length := by
      rw [List.length_cons, Int.pow_succ, Int.mul_assoc, Int.mul_comm (2 ^ l.length) 2]
    omega
theorem Go'.le1 {l : List (Int × Int)} {a b c d : Int} (h : Go' a b l c d) (hb : 1 ≤ b) : b ≤ d := by
  have := h.le hb
  have h2 := le_mul_of_one (a := b) (b := 2 ^ l.length) (by omega) (by have := pow_pos' (p := 2) (by decide) l.length; omega)
  omega
theorem Go'.all : ∀ {l : List (Int × Int)} {a b c d : Int}, Go' a b l c d → ∀ pe ∈ l, a < pe.1 ∧ Pr pe.1 ∧ 1 ≤ pe.2
  | [], _, _, _, _, _, pe, h => by cases h
  | qe :: l, a, b, c, d, h, pe, hm => by
    rcases List.mem_cons.mp hm with rfl | hm
    · exact ⟨h.1, h.2.1, h.2.2.1⟩
    · have := h.2.2.2.all pe hm
      have := h.1
      exact ⟨by omega, (h.2.2.2.all pe hm).2⟩
/-- no divisor from 2 to below q -/
def NoD (q n : Int) : Prop := ∀ d : Int, 2 ≤ d → d < q → ¬ d ∣ n
theorem NoD.of_dvd {q n m : Int} (h : NoD q n) (hm : m ∣ n) : NoD q m := fun d h1 h2 h3 => h d h1 h2 (Int.dvd_trans h3 hm)
theorem NoD.ge {q n : Int} (h : NoD q n) (hn : 2 ≤ n) : q ≤ n := by
  by_cases z : n < q
  · exact absurd (Int.dvd_refl n) (h n hn z)
  · omega
/-- what is left below the square is 1 or a prime -/
theorem NoD.pr {q n : Int} (h : NoD q n) (hn : 2 ≤ n) (hq : 0 < q) (hs : n < q * q) : Pr n := ⟨hn, fun d h1 h2 h3 => by
  obtain ⟨e, he⟩ := h3
  have e1 : q ≤ d := by
    by_cases z : d < q
    · exact absurd ⟨e, he⟩ (h d h1 z)
    · omega
  have e0 : 2 ≤ e := by
    by_cases z : e ≤ 0
    · have : d * e ≤ 0 := Int.mul_nonpos_of_nonneg_of_nonpos (by omega) z
      omega
    · by_cases z2 : e = 1
      · subst z2; omega
      · omega
  have e2 : q ≤ e := by
    by_cases z : e < q
    · exact absurd ⟨d, by rw [he, Int.mul_comm]⟩ (h e e0 z)
    · omega
  have : q * q ≤ d * e := Int.mul_le_mul e1 e2 (by omega) (by omega)
  omega⟩
noncomputable def gPP_b1 (s96 : (List (Int × Int)) × Int × Int) (s98 : Int × Int) : R (Int × Int) :=
  gd (CDivW s98.1 s96.2.2) <|
  lt (s98.1 / s96.2.2) fun rest_101 =>
  lt (s98.2 + (1 : Int)) fun exponent_102 =>
  .ok (rest_101, exponent_102)
noncomputable def gPP_c2 (s96 : (List (Int × Int)) × Int × Int) (s98 : Int × Int) : R Bool :=
  (gd (0 < s96.2.2) (.ok (decide ((s98.1 % s96.2.2) = (0 : Int)))))
noncomputable def gPP_b3  (s96 : (List (Int × Int)) × Int × Int) : R ((List (Int × Int)) × Int × Int) :=
  R.bind (whP (gPP_c2 s96) (gPP_b1 s96) (s96.2.1, (0 : Int))) fun s98 =>
  R.bind (if (decide ((0 : Int) < s98.2)) = true then gd (AppOk s96.1) <|
  .ok (s96.1 ++ [((s96.2.2, s98.2) : (Int × Int))]) else .ok s96.1) fun s105 =>
  lt (s96.2.2 + (1 : Int)) fun prime_106 =>
  .ok (s105, s98.1, prime_106)
noncomputable def gPP_c4  (s96 : (List (Int × Int)) × Int × Int) : R Bool :=
  (gd (TimesOk s96.2.2 s96.2.2) (.ok (decide ((s96.2.2 * s96.2.2) ≤ s96.2.1))))
noncomputable def gPP (number : Int) : R (List (Int × Int)) :=
  R.bind (whP gPP_c4 gPP_b3 (([] : List (Int × Int)), number, (2 : Int))) fun s96 =>
  R.bind (if (decide ((1 : Int) < s96.2.1)) = true then gd (AppOk s96.1) <|
  .ok (s96.1 ++ [((s96.2.1, (1 : Int)) : (Int × Int))]) else .ok s96.1) fun s109 =>
  .ok s109
/-- dividing a prime out -/
theorem divide_out (l : List (Int × Int)) (n0 : Int) {q n : Int} (hq : 2 ≤ q) (hn : 1 ≤ n) (hb : n < 2 ^ 250) (hqb : q < 2 ^ 250) : ∃ r e : Int, whP (gPP_c2 (l, n0, q)) (gPP_b1 (l, n0, q)) (n, (0 : Int)) = .ok (r, e) ∧ 1 ≤ r ∧ 0 ≤ e ∧ n = r * q ^ e.toNat ∧ ¬ q ∣ r := by
  have hcc : ∀ s, gPP_c2 (l, n0, q) s = .ok (decide (s.1 % q = 0)) := fun s => by unfold gPP_c2; rw [gd_t (show 0 < q by omega)]
  obtain ⟨⟨r, e⟩, h1, ⟨h2, h3, h4⟩, h5⟩ := whP_inv (s := (n, (0 : Int))) (I := fun s : Int × Int => 1 ≤ s.1 ∧ 0 ≤ s.2 ∧ n = s.1 * q ^ s.2.toNat) (μ := fun s => s.1.toNat)
    (c := gPP_c2 (l, n0, q)) (b := gPP_b1 (l, n0, q)) ⟨hn, by simp, by simp⟩ (fun s _ => ⟨_, hcc s⟩) (by
      rintro ⟨r, e⟩ ⟨h1, h2, h3⟩ hc
      rw [hcc] at hc
      have hc : r % q = 0 := by simpa using R.ok.inj hc
      have hr : r = r / q * q := (Int.ediv_mul_cancel (mod0.mp hc)).symm
      have h1 : 1 ≤ r := h1
      have hpos : 1 ≤ r / q := by
        by_cases z : r / q ≤ 0
        · have : r / q * q ≤ 0 := Int.mul_nonpos_of_nonpos_of_nonneg z (by omega)
          omega
        · omega
      refine ⟨(r / q, e + 1), by unfold gPP_b1; rw [gd_t (CDivW_of (show 0 < q by omega) hqb)]; rfl, ⟨hpos, by simp at h2 ⊢; omega, ?_⟩, ?_⟩
      · show n = r / q * q ^ (e + 1).toNat
        have h2 : 0 ≤ e := h2
        rw [show (e + 1).toNat = e.toNat + 1 by omega, Int.pow_succ, Int.mul_comm (q ^ e.toNat), ← Int.mul_assoc, ← hr]
        exact h3
      · show (r / q).toNat < r.toNat
        have : r / q * 2 ≤ r / q * q := Int.mul_le_mul_of_nonneg_left hq (by omega)
        omega)
  rw [hcc] at h5
  have h5 : ¬ r % q = 0 := by simpa using R.ok.inj h5
  exact ⟨r, e, h1, h2, h3, h4, fun z => h5 (mod0.mpr z)⟩
theorem Go'.len {l : List (Int × Int)} {c d : Int} (h : Go' 1 1 l c d) {k : Nat} (hd : d < 2 ^ k) : l.length < k := by
  have a1 := h.le (by decide)
  by_cases z : l.length < k
  · exact z
  · have := two_pow_mono (show k ≤ l.length by omega)
    omega
theorem gPP_ok (n : Int) (hn : 1 ≤ n) (hb : n < 2 ^ 124) : ∃ l c, gPP n = .ok l ∧ Go' 1 1 l c n := by
  unfold gPP
  have hcc : ∀ s : List (Int × Int) × Int × Int, 2 ≤ s.2.2 → s.2.2 ≤ n + 1 → gPP_c4 s = .ok (decide (s.2.2 * s.2.2 ≤ s.2.1)) := fun s h1 h2 => by unfold gPP_c4; rw [gd_t (times_ok (by omega) (by omega))]
  obtain ⟨⟨l, r, q⟩, h1, ⟨c, d, i1, i2, i3, i4, i5, i6, i7⟩, h3⟩ := whP_inv (s := (([] : List (Int × Int)), n, (2 : Int)))
    (I := fun s : List (Int × Int) × Int × Int => ∃ c d, Go' 1 1 s.1 c d ∧ n = d * s.2.1 ∧ c < s.2.2 ∧ 2 ≤ s.2.2 ∧ 1 ≤ s.2.1 ∧ NoD s.2.2 s.2.1 ∧ s.2.2 ≤ n + 1)
    (μ := fun s => (s.2.1 + 1 - s.2.2).toNat) (c := gPP_c4) (b := gPP_b3)
    ⟨1, 1, ⟨rfl, rfl⟩, by simp, by simp, by simp, hn, fun d h1 h2 => by simp at h2; omega, by simp; omega⟩
    (fun s ⟨c, d, i1, i2, i3, i4, i5, i6, i7⟩ => ⟨_, hcc s i4 i7⟩) (by
      rintro ⟨l, r, q⟩ ⟨c, d, i1, i2, i3, i4, i5, i6, i7⟩ hc
      rw [hcc _ i4 i7] at hc
      simp only at i1 i2 i3 i4 i5 i6 i7 hc
      have hc : q * q ≤ r := by simpa using R.ok.inj hc
      have hd : 1 ≤ d := i1.le1 (by decide)
      have hrn : r ≤ n := by rw [i2, Int.mul_comm]; exact le_mul_of_one (by omega) hd
      have hdn : d ≤ n := by rw [i2]; exact le_mul_of_one (by omega) i5
      have hqr : q ≤ r := by have := le_mul_of_one (a := q) (b := q) (by omega) (by omega); omega
      obtain ⟨r', e, w1, w2, w3, w4, w5⟩ := divide_out l r (q := q) (n := r) i4 i5 (by omega) (by omega)
      have hr' : r' ≤ r := by rw [w4]; exact le_mul_of_one (by omega) (pow_pos' (by omega) _)
      have hlen : l.length < 124 := i1.len (by omega)
      have hno : NoD (q + 1) r' := fun x h1 h2 h3 => by
        by_cases z : x = q
        · subst z; exact w5 h3
        · exact i6 x h1 (by omega) (Int.dvd_trans h3 ⟨_, w4⟩)
      have hmu : (r' + 1 - (q + 1)).toNat < (r + 1 - q).toNat := by omega
      by_cases he : 0 < e
      · have hdv : q ∣ r := by
          rw [w4]
          obtain ⟨k, hk⟩ : ∃ k, e.toNat = k + 1 := ⟨e.toNat - 1, by omega⟩
          rw [hk, Int.pow_succ, ← Int.mul_assoc]; exact ⟨_, Int.mul_comm _ _⟩
        have hpr : Pr q := ⟨i4, fun x h1 h2 h3 => i6 x h1 h2 (Int.dvd_trans h3 hdv)⟩
        refine ⟨(l ++ [(q, e)], r', q + 1), ?_, ⟨q, d * q ^ e.toNat, i1.snoc i3 hpr (by omega), ?_, by simp; omega, by simp; omega, w2, hno, by simp; omega⟩, hmu⟩
        · unfold gPP_b3
          simp only [w1, R.ok_bind]
          rw [if_pos (by simpa using he), gd_t (AppOk_of (by omega))]; rfl
        · show n = d * q ^ e.toNat * r'
          rw [i2, w4, Int.mul_assoc, Int.mul_comm r']
      · have e0 : e = 0 := by omega
        subst e0
        have : r' = r := by rw [w4]; simp
        subst this
        refine ⟨(l, r', q + 1), ?_, ⟨c, d, i1, i2, by simp; omega, by simp; omega, w2, hno, by simp; omega⟩, hmu⟩
        unfold gPP_b3
        simp only [w1, R.ok_bind]
        rw [if_neg (by simp)]; rfl)
  rw [hcc _ i4 i7] at h3
  simp only at h3 i1 i2 i3 i4 i5 i6 i7
  have h3 : r < q * q := by simpa using R.ok.inj h3
  rw [h1, R.ok_bind]
  simp only
  have hd : 1 ≤ d := i1.le1 (by decide)
  have hdn : d ≤ n := by rw [i2]; exact le_mul_of_one (by omega) i5
  have hlen : l.length < 124 := i1.len (by omega)
  by_cases hr : 1 < r
  · refine ⟨l ++ [(r, 1)], r, ?_, ?_⟩
    · rw [if_pos (by simpa using hr), gd_t (AppOk_of (by omega))]; rfl
    · have := i1.snoc (p := r) (e := 1) (by have := i6.ge (by omega); omega) (i6.pr (by omega) (by omega) h3) (by decide)
      rw [i2]; simpa [Int.pow_succ] using this
  · have r1 : r = 1 := by omega
    subst r1
    refine ⟨l, c, ?_, ?_⟩
    · rw [if_neg (by simp)]; rfl
    · rw [i2, Int.mul_one]; exact i1
end VL

set_option Elab.async false
set_option linter.all false
set_option maxHeartbeats 1000000
/-! Settled forms, typed. -/
namespace VL
open PySem PySem.Spec PyProof.Rows L2
noncomputable def gSettled_b1  (exponent_107 : Int) (s106 : Unit) : R (Unit) :=
  (if (decide (exponent_107 < (1 : Int))) = true then
  (.ex ⟨"OutOfRange", ["number"], [toD (α := Int) (exponent_107)]⟩)
  else
  (.ok ()))
noncomputable def gSettled (exponents : (List Int)) : R Bool :=
  R.bind (forP gSettled_b1 exponents ()) fun s106 =>
  lt (Tup.mk (List.reverse (sortI exponents))) fun ordered_108 =>
  (if (decide (((ordered_108).l.length : Int) = (1 : Int))) = true then
  (.ok true)
  else
  (gd (((decide (((ordered_108).l.length : Int) = (2 : Int))) = true → IxOk (ordered_108).l (1 : Int))) <|
  (if ((decide (((ordered_108).l.length : Int) = (2 : Int))) && (decide ((ixL (ordered_108).l (1 : Int)) = (1 : Int)))) = true then
  (.ok true)
  else
  (gd (D.eqOk (toD (α := (Tup Int)) (ordered_108)) = true ∧ D.eqOk (toD (α := (Tup (Tup Int))) ((⟨[(⟨[]⟩ : Tup Int), (⟨[(2 : Int), (2 : Int)]⟩ : Tup Int), (⟨[(1 : Int), (1 : Int), (1 : Int)]⟩ : Tup Int), (⟨[(2 : Int), (1 : Int), (1 : Int)]⟩ : Tup Int), (⟨[(1 : Int), (1 : Int), (1 : Int), (1 : Int)]⟩ : Tup Int)]⟩ : Tup (Tup Int)))) = true) <|
  .ok (List.any (List.map (toD (α := (Tup Int))) (((⟨[(⟨[]⟩ : Tup Int), (⟨[(2 : Int), (2 : Int)]⟩ : Tup Int), (⟨[(1 : Int), (1 : Int), (1 : Int)]⟩ : Tup Int), (⟨[(2 : Int), (1 : Int), (1 : Int)]⟩ : Tup Int), (⟨[(1 : Int), (1 : Int), (1 : Int), (1 : Int)]⟩ : Tup Int)]⟩ : Tup (Tup Int)) : (Tup (Tup Int))).l)) fun z => D.eqv z (toD (α := (Tup Int)) (ordered_108)))))))
def forms : List (List Int) := [[], [2, 2], [1, 1, 1], [2, 1, 1], [1, 1, 1, 1]]
def settled (ns : List Int) : Bool :=
  let o := (sortI ns).reverse
  decide (o.length = 1) || (decide (o.length = 2) && decide (o.getD 1 0 = 1)) || forms.any fun f => decide (f = o)
theorem any_forms (o : List Int) : ([D.tup [], .tup [.int 2, .int 2], .tup [.int 1, .int 1, .int 1], .tup [.int 2, .int 1, .int 1], .tup [.int 1, .int 1, .int 1, .int 1]].any fun z => z.eqv (.tup (o.map .int))) = forms.any fun f => decide (f = o) := by
  have h : ∀ f : List Int, D.eqv (.tup (f.map .int)) (.tup (o.map .int)) = decide (f = o) := fun f => eqv_tup f o
  have h0 := h []
  have h1 := h [2, 2]
  have h2 := h [1, 1, 1]
  have h3 := h [2, 1, 1]
  have h4 := h [1, 1, 1, 1]
  simp only [List.map_cons, List.map_nil] at h0 h1 h2 h3 h4
  simp only [List.any_cons, List.any_nil, forms, h0, h1, h2, h3, h4]
theorem perm_sum {as bs : List Int} (h : as.Perm bs) : as.sum = bs.sum := by
  induction h with
  | nil => rfl
  | cons x _ ih => simp [ih]
  | swap x y l => simp; omega
  | trans _ _ h1 h2 => exact h1.trans h2
theorem plain_core (s : List Int) (hs : s.Pairwise (· ≤ ·)) (hn : ∀ n ∈ s, 1 ≤ n) :
    (decide (s.reverse.length = 1) || (decide (s.reverse.length = 2) && decide (s.reverse.getD 1 0 = 1)) || forms.any fun f => decide (f = s.reverse)) =
    (if s.length < 2 then true else if s.length = 2 then (decide (0 < (s.filter fun n => decide (n = 1)).length) || decide (s = [2, 2]))
      else if s.length = 3 then (decide (1 < (s.filter fun n => decide (n = 1)).length) && decide (s.sum < 5))
      else (decide ((s.filter fun n => decide (n = 1)).length = 4) && decide (s.length = 4))) := by
  match s, hs, hn with
  | [], _, _ => decide
  | [a], _, _ => simp [forms]
  | [a, b], hs, hn =>
    have h1 := hn a (by simp)
    have h2 : a ≤ b := by simpa using hs
    by_cases ha : a = 1
    · subst ha; simp [forms]
    · have hb : ¬ b = 1 := by omega
      simp [forms, ha, hb]
      rw [Bool.and_comm]; congr 1 <;> (rw [decide_eq_decide]; omega)
  | [a, b, c], hs, hn =>
    have h1 := hn a (by simp)
    have h2 : a ≤ b ∧ a ≤ c ∧ b ≤ c := by simp at hs; omega
    by_cases ha : a = 1
    · by_cases hb : b = 1
      · subst ha; subst hb
        by_cases hc : c = 1
        · subst hc; decide
        · by_cases hc2 : c = 2
          · subst hc2; decide
          · have h4 : ¬ 2 = c := by omega
            have h5 : ¬ 1 = c := by omega
            have h6 : ¬ (1 + (1 + c) < 5) := by omega
            simp [forms, hc, h4, h5, h6]
      · have hc : ¬ c = 1 := by omega
        subst ha; simp [forms, hb, hc]; omega
    · have hb : ¬ b = 1 := by omega
      have hc : ¬ c = 1 := by omega
      simp [forms, ha, hb, hc]; omega
  | [a, b, c, d], hs, hn =>
    have h1 := hn a (by simp)
    have h2 : a ≤ b ∧ b ≤ c ∧ c ≤ d := by simp at hs; omega
    by_cases hd : d = 1
    · have ha : a = 1 := by omega
      have hb : b = 1 := by omega
      have hc : c = 1 := by omega
      subst ha; subst hb; subst hc; subst hd; decide
    · have : (([a, b, c, d] : List Int).filter fun n => decide (n = 1)).length ≤ 3 := by
        have e : ([a, b, c, d] : List Int) = [a, b, c] ++ [d] := rfl
        rw [e, List.filter_append, List.length_append]
        have := List.length_filter_le (fun n : Int => decide (n = 1)) [a, b, c]
        simp [hd] at this ⊢
        omega
      have h5 : ¬ (([a, b, c, d] : List Int).filter fun n => decide (n = 1)).length = 4 := by omega
      rw [if_neg (by simp), if_neg (by simp), if_neg (by simp)]
      simp only [h5]
      simp [forms]; omega
  | a :: b :: c :: d :: e :: t, _, _ =>
    rw [if_neg (by simp), if_neg (by simp), if_neg (by simp)]
    have h1 : ∀ f ∈ forms, f ≠ (a :: b :: c :: d :: e :: t).reverse := by
      intro f hf h
      have := congrArg List.length h
      simp [forms] at hf
      rcases hf with rfl | rfl | rfl | rfl | rfl <;> simp at this
    have h2 : (forms.any fun f => decide (f = (a :: b :: c :: d :: e :: t).reverse)) = false := by
      rw [List.any_eq_false]; intro f hf; simpa using h1 f hf
    rw [h2]
    simp

/-- by counting -/
def counted (ns : List Int) : Bool :=
  if ns.length < 2 then true else if ns.length = 2 then (decide (0 < (ns.filter fun n => decide (n = 1)).length) || decide (ns = [2, 2]))
      else if ns.length = 3 then (decide (1 < (ns.filter fun n => decide (n = 1)).length) && decide (ns.sum < 5))
      else (decide ((ns.filter fun n => decide (n = 1)).length = 4) && decide (ns.length = 4))
theorem settled_counted (ns : List Int) (hn : ∀ n ∈ ns, 1 ≤ n) : settled ns = counted ns := by
  have hp := sortI_perm ns
  have hs := sortI_sorted ns
  have hl := hp.length_eq
  have ho : (ns.filter fun n => decide (n = 1)).length = ((sortI ns).filter fun n => decide (n = 1)).length := ((hp.filter _).length_eq).symm
  have hsum : ns.sum = (sortI ns).sum := (perm_sum hp).symm
  have h22 : decide (ns = [2, 2]) = decide (sortI ns = [2, 2]) := by
    rw [decide_eq_decide]
    have e : ([2, 2] : List Int) = List.replicate 2 2 := rfl
    constructor
    · intro h; rw [h, e] at hp; rw [h]; exact (List.perm_replicate.mp hp)
    · intro h; rw [h, e] at hp; exact (List.perm_replicate.mp hp.symm)
  have key := plain_core (sortI ns) hs fun n h => hn n (hp.mem_iff.mp h)
  have e : settled ns = (decide ((sortI ns).reverse.length = 1) || (decide ((sortI ns).reverse.length = 2) && decide ((sortI ns).reverse.getD 1 0 = 1)) || forms.any fun f => decide (f = (sortI ns).reverse)) := rfl
  unfold counted
  rw [e, key, ho, hsum, h22, ← hl]
theorem gSettled_loop : ∀ (ns : List Int), (∀ n ∈ ns, 1 ≤ n) → forP gSettled_b1 ns () = .ok ()
  | [], _ => rfl
  | n :: ns, h => by
    have := h n List.mem_cons_self
    rw [forP_cons, gSettled_b1, if_neg (by simp; omega), R.ok_bind]
    exact gSettled_loop ns fun x hx => h x (List.mem_cons_of_mem _ hx)
theorem gSettled_loopx : ∀ (ns : List Int) (z : Int), ns.find? (fun n => decide (n < 1)) = some z → forP gSettled_b1 ns () = .ex ⟨"OutOfRange", ["number"], [toD z]⟩
  | [], z, h => by simp at h
  | n :: ns, z, h => by
    rw [forP_cons, gSettled_b1]
    by_cases hn : n < 1
    · rw [List.find?_cons_of_pos (by simpa using hn)] at h
      cases h
      rw [if_pos (by simpa using hn)]; rfl
    · rw [List.find?_cons_of_neg (by simpa using hn)] at h
      rw [if_neg (by simpa using hn), R.ok_bind]
      exact gSettled_loopx ns z h
theorem eqOk_forms : D.eqOk (toD (α := (Tup (Tup Int))) ((⟨[(⟨[]⟩ : Tup Int), (⟨[(2 : Int), (2 : Int)]⟩ : Tup Int), (⟨[(1 : Int), (1 : Int), (1 : Int)]⟩ : Tup Int), (⟨[(2 : Int), (1 : Int), (1 : Int)]⟩ : Tup Int), (⟨[(1 : Int), (1 : Int), (1 : Int), (1 : Int)]⟩ : Tup Int)]⟩ : Tup (Tup Int)))) = true := by decide +kernel
/-- what stands behind the loop -/
theorem gSettled_tail (o : List Int) : (lt (Tup.mk o) fun ordered_108 =>
  (if (decide (((ordered_108).l.length : Int) = (1 : Int))) = true then
  (.ok true)
  else
  (gd (((decide (((ordered_108).l.length : Int) = (2 : Int))) = true → IxOk (ordered_108).l (1 : Int))) <|
  (if ((decide (((ordered_108).l.length : Int) = (2 : Int))) && (decide ((ixL (ordered_108).l (1 : Int)) = (1 : Int)))) = true then
  (.ok true)
  else
  (gd (D.eqOk (toD (α := (Tup Int)) (ordered_108)) = true ∧ D.eqOk (toD (α := (Tup (Tup Int))) ((⟨[(⟨[]⟩ : Tup Int), (⟨[(2 : Int), (2 : Int)]⟩ : Tup Int), (⟨[(1 : Int), (1 : Int), (1 : Int)]⟩ : Tup Int), (⟨[(2 : Int), (1 : Int), (1 : Int)]⟩ : Tup Int), (⟨[(1 : Int), (1 : Int), (1 : Int), (1 : Int)]⟩ : Tup Int)]⟩ : Tup (Tup Int)))) = true) <|
  .ok (List.any (List.map (toD (α := (Tup Int))) (((⟨[(⟨[]⟩ : Tup Int), (⟨[(2 : Int), (2 : Int)]⟩ : Tup Int), (⟨[(1 : Int), (1 : Int), (1 : Int)]⟩ : Tup Int), (⟨[(2 : Int), (1 : Int), (1 : Int)]⟩ : Tup Int), (⟨[(1 : Int), (1 : Int), (1 : Int), (1 : Int)]⟩ : Tup Int)]⟩ : Tup (Tup Int)) : (Tup (Tup Int))).l)) fun z => D.eqv z (toD (α := (Tup Int)) (ordered_108)))))) : R Bool)) = .ok (decide (o.length = 1) || (decide (o.length = 2) && decide (o.getD 1 0 = 1)) || forms.any fun f => decide (f = o)) := by
  have hany : (List.any (List.map (toD (α := (Tup Int))) (((⟨[(⟨[]⟩ : Tup Int), (⟨[(2 : Int), (2 : Int)]⟩ : Tup Int), (⟨[(1 : Int), (1 : Int), (1 : Int)]⟩ : Tup Int), (⟨[(2 : Int), (1 : Int), (1 : Int)]⟩ : Tup Int), (⟨[(1 : Int), (1 : Int), (1 : Int), (1 : Int)]⟩ : Tup Int)]⟩ : Tup (Tup Int)) : (Tup (Tup Int))).l)) fun z => D.eqv z (toD (α := (Tup Int)) (Tup.mk o))) = forms.any fun f => decide (f = o) := any_forms o
  have hok : D.eqOk (toD (α := (Tup Int)) (Tup.mk o)) = true := eqOk_tup o
  rw [lt_ap]
  by_cases h1 : o.length = 1
  · rw [if_pos (by simp; omega)]; simp [h1]
  · rw [if_neg (by simp; omega)]
    by_cases h2 : o.length = 2
    · obtain ⟨a, b, rfl⟩ : ∃ a b, o = [a, b] := by
        match o, h2 with
        | [a, b], _ => exact ⟨a, b, rfl⟩
      rw [gd_t (fun _ => IxOk_1), ixL_1]
      by_cases h3 : b = 1
      · subst h3; simp
      · rw [if_neg (by simp [h3]), gd_t ⟨hok, eqOk_forms⟩, hany]
        simp [h3]
    · rw [gd_t (fun z => absurd (by simpa using z) (by omega)), if_neg (by simp; omega), gd_t ⟨hok, eqOk_forms⟩, hany]
      simp [h1, h2]
theorem gSettled_ok (ns : List Int) (h : ∀ n ∈ ns, 1 ≤ n) : gSettled ns = .ok (settled ns) := by
  unfold gSettled
  rw [gSettled_loop ns h, R.ok_bind]
  exact gSettled_tail _
theorem gSettled_ex (ns : List Int) (z : Int) (h : ns.find? (fun n => decide (n < 1)) = some z) : gSettled ns = .ex ⟨"OutOfRange", ["number"], [toD z]⟩ := by
  unfold gSettled
  rw [gSettled_loopx ns z h]; rfl
/-! words of all laws -/
theorem sameR_of {a b : D} (h : a = b) (h2 : okS 12 a) : sameR a b = .ok true := by unfold sameR; exact gd_t ⟨h, h2⟩
theorem okS_pair {a : Str} {d : D} (h : PyData.strOk a = true) (h2 : okS 11 d) : okS 12 (.tup [.str a, d]) := by
  refine ⟨by unfold LenOk; show 2 < 100000; decide, fun e he => ?_⟩
  simp only [List.mem_cons, List.not_mem_nil, or_false] at he
  rcases he with rfl | rfl
  · exact h
  · exact h2
theorem okS_ints (n : Nat) (ns : List Int) (h : ns.length < 100000) : okS (n + 2) (toD ns) := by
  refine ⟨by unfold LenOk; rw [List.length_map]; exact h, fun e he => ?_⟩
  obtain ⟨z, _, rfl⟩ := List.mem_map.mp he
  trivial
theorem sok_none : PyData.strOk "none" = true := by decide +kernel
theorem sok_oor : PyData.strOk "OutOfRange" = true := by decide +kernel
theorem ne_oor_none : ¬ ("OutOfRange" : Str) = "none" := by decide +kernel
theorem d1 (c m : Int) (h : 0 < m ∧ m < 2 ^ 250) : ∃ x, gDraws c [m] = .ok [x] ∧ 0 ≤ x ∧ x < m := by
  obtain ⟨ds, e, hb⟩ := draws_spec c [m] (by intro l hl; simp at hl; subst hl; exact h) (show 1 < 1000 by decide)
  obtain ⟨x, rfl, h1, h2⟩ := below1 hb
  exact ⟨x, e, h1, h2⟩
end VL

set_option Elab.async false
set_option linter.all false
set_option maxRecDepth 100000
set_option maxHeartbeats 4000000
/-! Objects of own classes: fields, properties, calls of any head. -/
namespace VL
open PySem PySem.Spec PyProof.Rows L2
section
variable {K : PySem.W.Frag} {mg : Mg} {Hs Hi H H' G0 G1 G : Hp} {ρ : List B} {σ : L2.St} {τ : List T} {ow : Nat → Option (Addr × HO)}
theorem EnvW.obj {r : Rg} {c : Str} {ns : List Str} {ds : List D} {v : V} (w : EnvW K mg Hs Hi ρ σ τ H G0 G1 ow) (h : RepR K mg G0 G1 H r (.obj c ns ds) v) :
    ∃ a C dx vs, v = .ref a ∧ mg c = some (.ref C) ∧ H a = some (.ins C dx (ns.zip vs)) ∧ ns.length = ds.length ∧ Reps K mg (Gr G0 G1 r.el) ds vs := by
  cases r with
  | nw =>
    simp only [RepR, Rep] at h
    obtain ⟨a, C, dx, vs, h1, h2, h3, h4, h5⟩ := h
    exact ⟨a, C, dx, vs, h1, h2, w.s2 _ _ (w.s1 _ _ h3), h4, h5⟩
  | od =>
    simp only [RepR, Rep] at h
    obtain ⟨a, C, dx, vs, h1, h2, h3, h4, h5⟩ := h
    exact ⟨a, C, dx, vs, h1, h2, w.s2 _ _ h3, h4, h5⟩
  | tn =>
    obtain ⟨ct, a, o, e, h1, h2, h3⟩ := h
    cases ct with
    | lst _ => cases e
    | dct _ _ => cases e
    | ins c' ns' ds' => cases e; obtain ⟨C, dx, vs, k1, rfl, k3, k4⟩ := h3; exact ⟨a, C, dx, vs, h1, k1, h2, k3, k4⟩
  | to =>
    obtain ⟨ct, a, o, e, h1, h2, h3⟩ := h
    cases ct with
    | lst _ => cases e
    | dct _ _ => cases e
    | ins c' ns' ds' => cases e; obtain ⟨C, dx, vs, k1, rfl, k3, k4⟩ := h3; exact ⟨a, C, dx, vs, h1, k1, h2, k3, k4⟩
theorem zipD_lookup {f : Str} : ∀ {ns : List Str} {ds : List D} {vs : List V} {d : D}, ns.length = ds.length → Reps K mg G ds vs → (ns.zip ds).lookup f = some d → ∃ v, (ns.zip vs).lookup f = some v ∧ Rep K mg G d v
  | [], _, _, _, _, _, e => by simp at e
  | n :: ns, [], _, _, hl, _, _ => by simp at hl
  | n :: ns, x :: ds, vs, d, hl, h, e => by
    simp only [Reps] at h
    obtain ⟨v, r, rfl, h1, h2⟩ := h
    rw [List.zip_cons_cons, List.lookup_cons] at e ⊢
    split at e
    · cases e; exact ⟨v, rfl, h1⟩
    · exact zipD_lookup (by simpa using hl) h2 e
theorem zip_lookup_none {f : Str} {α β : Type} : ∀ {ns : List Str} {ds : List α} {vs : List β}, ns.length = ds.length → ds.length = vs.length → (ns.zip ds).lookup f = none → (ns.zip vs).lookup f = none
  | [], _, _, _, _, _ => by simp
  | n :: ns, [], _, hl, _, _ => by simp at hl
  | n :: ns, x :: ds, [], _, h, _ => by simp at h
  | n :: ns, x :: ds, v :: vs, hl, h, e => by
    rw [List.zip_cons_cons, List.lookup_cons] at e ⊢
    split at e
    · cases e
    · exact zip_lookup_none (by simpa using hl) (by simpa using h) e
end
/-- the facts of an own class -/
structure ObF (W : Wd) (c : Str) (C : Addr) : Prop where
  mg : W.mg c = some (.ref C)
  cls : L2.Cls W.K C
def oFld (c f : Str) : OP := fun r x => match x with
  | .obj c' ns ds => if c' = c then ((ns.zip ds).lookup f).bind fun d => some (.v r.el d) else none
  | _ => none
/-- a constant of the class, read off an object -/
def oCon (c f : Str) (i : Int) : OP := fun r x => match x with
  | .obj c' ns ds => if c' = c ∧ (ns.zip ds).lookup f = none then vI i else none
  | _ => none
section
variable {Y : Cy} {ρ : List B} {a b e : Expr} {f g : XE} {C : Cst} {o : EV} {pos apos : Pos} {es : List Expr} {fs : List XE} {Q : Rg → D → Prop}
theorem ve_fld {c n : Str} {Ca : Addr} (hm : Y.X.mg c = some (.ref Ca)) (cl : L2.Cls Y.X.K Ca) (na : L2.NoAttr Y.X.K Ca n)
    (h : VE Y ρ a fun r x => ∃ ns ds d, x = .obj c ns ds ∧ (ns.zip ds).lookup n = some d ∧ Q r.el d) (hb : attributeBase a n Y.X.env (eval a Y.X.env) = eval a Y.X.env) : VE Y ρ (.Attribute a n pos) Q := fun τ σ H w =>
  sE.of (pe_fld pe_s hb) ((h τ σ H w).mono fun v H1 ⟨r, x, w1, ns, ds, d, e, hl, q⟩ => by
    subst e
    obtain ⟨G0, G1, ow, w1⟩ := w1
    obtain ⟨ad, C2, dx, vs, h1, h2, h3, h4, h5⟩ := w1.obj (w1.tt _ List.mem_cons_self)
    rw [hm] at h2
    cases h2
    obtain ⟨u, k1, k2⟩ := zipD_lookup h4 h5 hl
    exact ⟨ad, Ca, dx, _, u, h1, h3, cl, na, k1, r.el, d, ⟨G0, G1, ow, (w1.pushV (Gr.rep k2) (el_st r)).under⟩, q⟩)
theorem ve_con {c n : Str} {Ca : Addr} {i : Int} {u : Value} (hm : Y.X.mg c = some (.ref Ca)) (cl : L2.Cls Y.X.K Ca) (cn : L2.Con Y.X.K Ca n (.int i) u)
    (h : VE Y ρ a fun r x => ∃ ns ds, x = .obj c ns ds ∧ (ns.zip ds).lookup n = none ∧ Q .nw (.int i)) (hb : attributeBase a n Y.X.env (eval a Y.X.env) = eval a Y.X.env) : VE Y ρ (.Attribute a n pos) Q := fun τ σ H w =>
  sE.of (pe_con pe_s hb) ((h τ σ H w).mono fun v H1 ⟨r, x, w1, ns, ds, e, hl, q⟩ => by
    subst e
    obtain ⟨G0, G1, ow, w2⟩ := id w1
    obtain ⟨ad, C2, dx, vs, h1, h2, h3, h4, h5⟩ := w2.obj (w2.tt _ List.mem_cons_self)
    rw [hm] at h2
    cases h2
    exact ⟨ad, Ca, dx, _, .int i, u, h1, h3, cl, cn, zip_lookup_none h4 h5.len hl, _, _, (EnvOk.pop w1).int _, q⟩)
theorem e_fld {c n : Str} {Ca : Addr} (F : ObF C.W c Ca) (na : L2.NoAttr C.W.K Ca n) (ha : SndE C a f) (hb : ∀ env : Env, attributeBase a n env (eval a env) = eval a env := by intro _; rfl) : SndE C (.Attribute a n pos) (x1 f (oFld c n)) :=
  se1 ha (fun Y u ρ h => by
    have hw := u.w; cases C; cases hw
    exact ve_fld F.mg F.cls na (VE.mono h fun _ _ z => z.elim) (hb _)) fun Y u ρ r x o ga e => by
    have hw := u.w; cases C; cases hw
    unfold oFld at e
    split at e
    · rename_i c' ns ds
      split at e
      · rename_i hc
        subst hc
        rw [Option.bind_eq_some_iff] at e
        obtain ⟨d, e1, e2⟩ := e
        cases e2
        exact VX.of fun Q q => ve_fld F.mg F.cls na (ga _ ⟨ns, ds, d, rfl, e1, q⟩) (hb _)
      · cases e
    · cases e
theorem e_con {c n : Str} {Ca : Addr} {i : Int} {uv : Value} (F : ObF C.W c Ca) (cn : L2.Con C.W.K Ca n (.int i) uv) (ha : SndE C a f) (hb : ∀ env : Env, attributeBase a n env (eval a env) = eval a env := by intro _; rfl) : SndE C (.Attribute a n pos) (x1 f (oCon c n i)) :=
  se1 ha (fun Y u ρ h => by
    have hw := u.w; cases C; cases hw
    exact ve_con F.mg F.cls cn (VE.mono h fun _ _ z => z.elim) (hb _)) fun Y u ρ r x o ga e => by
    have hw := u.w; cases C; cases hw
    unfold oCon at e
    split at e
    · rename_i c' ns ds
      split at e
      · rename_i hc
        obtain ⟨rfl, hl⟩ := hc
        cases e
        exact VX.of fun Q q => ve_con F.mg F.cls cn (ga _ ⟨ns, ds, rfl, hl, q⟩) (hb _)
      · cases e
    · cases e
/-! ### calls of any head -/
structure CallHd (C : Cst) (node : Expr) (es : List Expr) (G : List D → Option Res) : Prop where
  run : ∀ Y, C.On Y → ∀ ρ (P : List (Rg × D) → Res → Prop) τ σ H QV, YE Y ρ σ τ H → VA Y ρ es (fun l => ∃ res, G (l.map (·.2)) = some res ∧ P l res) →
    (∀ (l : List (Rg × D)) vs H' res, l.length = vs.length → EnvOk Y.X.K Y.X.mg Y.Hs Y.Hi ρ σ (pushA l vs (τ ++ Y.τ)) H' → G (l.map (·.2)) = some res → P l res → spD Y.X.K Y.X.mg (fun ds res => G ds = some res) vs H' QV (WE (WD Y) σ)) →
    sE Y.X node σ H QV
section
variable {node : Expr} {G : List D → Option Res}
theorem CallHd.ve (h : CallHd C node es G) (u : C.On Y) (hv : VA Y ρ es fun l => ∃ res, G (l.map (·.2)) = some res ∧ After Y ρ l Q res) : VE Y ρ node Q := fun τ σ H w => by
  refine h.run Y u ρ (fun l res => After Y ρ l Q res) τ σ H _ w hv fun l vs H' res hl w2 g1 q => ?_
  refine post_of (g := fun ds res => G ds = some res) hl w2 g1 _ (fun r d e => ?_) (fun r c e => ?_) (fun x e => by subst e; exact q) (fun r d e => by subst e; exact q.1) fun r d e => by subst e; exact q.1
  · subst e; exact ⟨q.2.1, fun v H2 w3 => ⟨_, _, w3, q.2.2⟩⟩
  · subst e; exact ⟨q.2.1, fun a H2 w3 => ⟨_, _, EnvOk.freeze w3, q.2.2⟩⟩
theorem CallHd.vn {N : Rg → Ct → Prop} (h : CallHd C node es G) (u : C.On Y) (hv : VA Y ρ es fun l => ∃ res, G (l.map (·.2)) = some res ∧ AfterN Y ρ l N res) : VN Y ρ node N := fun τ σ H w => by
  refine h.run Y u ρ (fun l res => AfterN Y ρ l N res) τ σ H _ w hv fun l vs H' res hl w2 g1 q => ?_
  refine post_of (g := fun ds res => G ds = some res) hl w2 g1 _ (fun r d e => by subst e; exact q.elim) (fun r c e => ?_) (fun x e => by subst e; exact q) (fun r d e => by subst e; exact q.elim) fun r d e => by subst e; exact q.1
  subst e; exact ⟨q.2.1, fun a H2 w3 => ⟨_, _, _, rfl, w3, q.2.2⟩⟩
theorem e_hd (F : CallHd C node es G) (hs : SA C es fs) : SndE C node (xCall G fs) := fun Y u ρ o e => by
  rcases bA_some e with ⟨x, e1, rfl⟩ | ⟨l, e1, e2⟩
  · rcases args_some u hs e1 with ⟨x, z, k⟩ | ⟨l, z, k⟩
    · cases z; exact fun hE => F.ve u (k hE _)
    · cases z
  · rcases args_some u hs e1 with ⟨x, z, k⟩ | ⟨l, z, k⟩
    · cases z
    · cases z
      rw [Option.bind_eq_some_iff] at e2
      obtain ⟨res, e3, e4⟩ := e2
      cases res with
      | ok r d =>
        unfold afterC at e4
        simp only at e4
        split at e4
        · cases e4
          rename_i hc
          exact VX.of fun Q q => F.ve u (k _ ⟨_, e3, hc.1, hc.2, q⟩)
        · cases e4
      | new r c =>
        unfold afterC at e4
        simp only at e4
        split at e4
        · cases e4
          rename_i hc
          exact VX.ofN fun Q q => F.vn u (k _ ⟨_, e3, hc.1, hc.2, q⟩)
        · cases e4
      | exc x =>
        cases e4
        exact fun hE => F.ve u (k _ ⟨_, e3, hE⟩)
end
/-- what is waiting represents an object -/
theorem EnvOk.objAt {K : PySem.W.Frag} {mg : Mg} {Hs Hi H : Hp} {σ : L2.St} {τ : List T} {r : Rg} {c : Str} {ns : List Str} {ds : List D} {v : V} (w : EnvOk K mg Hs Hi ρ σ (.v r (.obj c ns ds) v :: τ) H) :
    ∃ a C dx vs, v = .ref a ∧ mg c = some (.ref C) ∧ H a = some (.ins C dx (ns.zip vs)) ∧ ns.length = ds.length ∧ ds.length = vs.length := by
  obtain ⟨G0, G1, ow, w⟩ := w
  obtain ⟨a, C, dx, vs, h1, h2, h3, h4, h5⟩ := w.obj (w.tt _ List.mem_cons_self)
  exact ⟨a, C, dx, vs, h1, h2, h3, h4, h5.len⟩
/-- a def for objects of one class -/
def onObj (c : Str) (G : List D → Option Res) : List D → Option Res := fun ds => match ds with
  | .obj c' ns xs :: r => if c' = c then G (.obj c' ns xs :: r) else none
  | _ => none
theorem onObj_some {c : Str} {G : List D → Option Res} {ds : List D} {res : Res} (h : onObj c G ds = some res) : ∃ ns xs r, ds = .obj c ns xs :: r ∧ G ds = some res := by
  unfold onObj at h
  split at h
  · rename_i c' ns xs r
    split at h
    · rename_i e; subst e; exact ⟨ns, xs, r, rfl, h⟩
    · cases h
  · cases h
/-- raising nothing -/
def noExc (G : List D → Option Res) : List D → Option Res := fun ds => match G ds with | some (.exc _) => none | o => o
theorem noExc_some {G : List D → Option Res} {ds : List D} {res : Res} (h : noExc G ds = some res) : G ds = some res ∧ ∀ x, res ≠ .exc x := by
  unfold noExc at h
  split at h
  · cases h
  · rename_i hn; exact ⟨h, fun x e => hn x (by rw [h, e])⟩
/-- a def at an address keeps its promise -/
structure Fd (W : Wd) (k : Nat) (g : Addr) (G : List D → Option Res) : Prop where
  ex : ∃ (fd : FuncData) (ps : List Str), Binds W.K fd ps [] ∧ FnOk W.P W.w W.K W.mg W.base (L2.CX W.P W.w) k g fd ps (spD W.K W.mg fun ds res => G ds = some res)
/-- e.f, a property -/
theorem hd_prop {c n : Str} {Ca p g : Addr} {k kk : Nat} {G : List D → Option Res} (F : ObF C.W c Ca) (hp : L2.PropOf C.W.K Ca n p g) (hG : Fd C.W k g G) (hkk : C.k = some kk := by rfl) (hk : k + 1 ≤ kk := by decide)
    (hb : ∀ env : Env, attributeBase a n env (eval a env) = eval a env := by intro _; rfl) : CallHd C (.Attribute a n pos) [a] (onObj c (noExc G)) := ⟨fun Y u ρ P τ σ H QV w hv hq => by
  have hw := u.w
  have ok := u.ck hkk
  obtain ⟨W, N, sc, kc, dd⟩ := C
  cases hw
  obtain ⟨fd, ps, hbd, hF⟩ := hG.ex
  refine sE.of (pe_prop (E := fun _ _ _ => False) pe_s F.cls hp hF (ok.rm.mono hk) hbd .nil (fun _ _ _ _ _ _ _ h => by
    obtain ⟨_, _, _, _, _, _, _, _, _, _, _, _, z⟩ := h; exact z) (hb _)) ?_
  refine (hv τ σ H w).mono fun v H1 ⟨r, d, w1, res, g1, pl⟩ => ?_
  obtain ⟨ns, xs, rr, e, g2⟩ := onObj_some g1
  cases e
  obtain ⟨ad, C2, dx, vs, h1, h2, h3, h4, h5⟩ := EnvOk.objAt w1
  have h6 := F.mg.symm.trans h2
  cases h6
  subst h1
  obtain ⟨g3, hne⟩ := noExc_some g2
  refine ⟨ad, dx, _, rfl, h3, ?_⟩
  obtain ⟨Hs, ds, res2, s1, rp, gg, post⟩ := hq [(r, .obj c ns xs)] [.ref ad] H1 res rfl w1 g1 pl
  obtain ⟨ns', xs', rr', e', g4⟩ := onObj_some gg
  obtain ⟨g5, hne2⟩ := noExc_some g4
  refine ⟨Hs, ds, res2, s1, rp, g5, ?_⟩
  cases res2 with
  | ok r d => exact post
  | new r c => exact post
  | exc x => exact absurd rfl (hne2 x)⟩
end
end VL

set_option Elab.async false
set_option linter.all false
set_option maxRecDepth 100000
set_option maxHeartbeats 4000000
/-! Objects of own classes: the constructor, self.f = e, methods. -/
namespace L2
open PySem PySem.Spec PyProof.Rows
section
variable {X : Cx} {CX : CXT} {k : Nat} {fi C : Addr} {fd : FuncData} {ps : List Str} {sp : Sp} {E : St → XK} {x m : Str} {p pos apos : Pos} {e o : Expr} {es : List Expr} {ta : TE} {t : TA}
/-- C(..): the wish of exceptions by the caller's slots -/
def tMakeZ (C : Addr) (sp : Sp) (E : St → XK) (t : TA) : TE := fun σ H Q => t σ H fun vs H1 => ∀ x dx, H1 x = none → H1 dx = none → dx ≠ x →
  sp (.ref x :: vs) (upd (upd H1 dx (.own x)) x (.ins C dx [])) (fun v H2 => v = .non ∧ Q (.ref x) H2) (E σ)
theorem run_makeZ {pn : List (Addr × Obj)} {σ : St} {H : Hp} {s0 : Shared} {Q : VK} {us : List Value} {vs : List V} (M : Mk X.K C fi) (F : FnOk X.prog X.w X.K X.mg X.base CX k fi fd ps sp) (hr : Room (k + 1) X.A) (hb : Binds X.K fd ps [])
    (hx : PassesAt CX X σ (E σ)) (I : Inv X pn σ H s0) (r : Vals vs us)
    (h : ∀ x dx, H x = none → H dx = none → dx ≠ x → sp (.ref x :: vs) (upd (upd H dx (.own x)) x (.ins C dx [])) (fun v H2 => v = .non ∧ Q (.ref x) H2) (E σ)) :
    wpAny (model X.prog X.w) X.A (call (.ref C) us) (EP X pn σ Q) X.xe s0 := by
  have q0 := h (s0.heap.objs.size + 1) s0.heap.objs.size (I.hok.fresh (Nat.le_succ _)) (I.hok.fresh (Nat.le_refl _)) (Nat.ne_of_lt (Nat.lt_succ_self _))
  have J := Inv.made (C := C) I
  have rr : Vals (V.ref (s0.heap.objs.size + 1) :: vs) (Value.ref (s0.heap.objs.size + 1) :: us) := .cons rfl r
  have hlen : (Value.ref (s0.heap.objs.size + 1) :: us).length = ps.length := by rw [← rr.length]; exact F.len _ _ _ _ q0
  have b := hb _ (Value.ref (s0.heap.objs.size + 1) :: us) J.kIn (by rw [List.append_nil]; exact hlen)
  rw [List.append_nil] at b
  have run := F.run _ X.stack _ _ ⟨Value.ref (s0.heap.objs.size + 1) :: us, []⟩ (Value.ref (s0.heap.objs.size + 1) :: us) _ _ (E σ) (hr.make C us []) (J.env0.make C us []) b rr q0
  refine wpAny_call (make_map (f := fi) I.kIn M.makes M.init (beq_iff_eq.mp M.fn) (codeAny_mono run fun res s2 hres => ?_))
  match res, hres with
  | .error e, hres => exact hx pn _ _ e s2 J hres
  | .ok (.ret u), hres =>
    obtain ⟨v, H', J3, rv, ev, q3⟩ := J.after hres
    subst ev
    exact ⟨rv, ⟨V.ref (s0.heap.objs.size + 1), H', J3, rfl, q3⟩⟩
  | .ok .next, hres => exact hres.elim
  | .ok .brk, hres => exact hres.elim
  | .ok .cont, hres => exact hres.elim
theorem pe_makeZ (M : Mk X.K C fi) (F : FnOk X.prog X.w X.K X.mg X.base CX k fi fd ps sp) (hr : Room (k + 1) X.A) (hg : Gl X x) (hm : X.mg x = some (.ref C)) (hb : Binds X.K fd ps []) (hx : ∀ σ, PassesAt CX X σ (E σ))
    (ha : PA X (e :: es) t) (hdb : (x == ("__debug__" : Str)) = false) (he : starEach (e :: es) X.env = (false, eval e X.env) :: starEach es X.env) (hpl : (backTo pos (starEach es X.env)).any (·.1) = false) :
    PE X (.Call (.Name x p) (e :: es) [] pos) (tMakeZ C sp E t) := ⟨fun pn s0 σ H Q I h =>
  wpAny_Call_Name_kw (ld_glob I hg hm (PySem.W.callWith_K (h₀ := X.base) I.ok.mod.kin M.kp (thn (ha.run pos pn s0 σ H _ I h) fun _ _ ⟨_, _, I1, r, q⟩ => ⟨I1.kIn, run_makeZ M F hr hb (hx σ) I1 r q⟩) he hpl) hdb)⟩
/-- o.m(..): likewise -/
def tMethZ (C : Addr) (m : Str) (sp : Sp) (E : St → XK) (ta : TE) (t : TA) : TE := fun σ H Q => ta σ H fun x H1 => ∃ a dx fs, x = .ref a ∧ H1 a = some (.ins C dx fs) ∧ fs.lookup m = none ∧
  t σ H1 fun vs H2 => sp (x :: vs) H2 Q (E σ)
theorem pe_methZ {pl : Sem Bool} (he : PE X o ta) (c : Cls X.K C) (hm : Meth X.K C m fi) (F : FnOk X.prog X.w X.K X.mg X.base CX k fi fd ps sp) (hr : Room k X.A) (hb : Binds X.K fd ps []) (hx : ∀ σ, PassesAt CX X σ (E σ)) (ha : PA X (e :: es) t)
    (hst : starEach (e :: es) X.env = (false, eval e X.env) :: starEach es X.env) (hpl : (backTo pos (starEach es X.env)).any (·.1) = false)
    (ht : eval (.Call (.Attribute o m apos) (e :: es) [] pos) X.env = (do
      let ov ← eval o X.env
      standAt apos.atName
      let (f, first) ← holding [ov] (getMethod ov m pl)
      callWith pos f first (backTo pos (starEach (e :: es) X.env)) (backToKw pos (keywordEach [] X.env)))) :
    PE X (.Call (.Attribute o m apos) (e :: es) [] pos) (tMethZ C m sp E ta t) := ⟨fun pn s0 σ H Q I h =>
  PySem.W.methodCall_KW (pl := pl) (thn (he.run pn s0 σ H _ I h) fun u s1 ⟨x, H1, I1, rx, a, dx, fs, ex, ea, l, q⟩ => by
    subst ex
    obtain rfl : u = Value.ref a := rx
    exact getmeth_ok I1 ea c hm l (PySem.W.callWith_K (first := [.ref a]) (h₀ := X.base) I.ok.mod.kin hm.kp (thn (ha.run pos pn s1 σ H1 _ I1 q) fun us s2 ⟨vs, H2, I2, r, q2⟩ =>
      ⟨I2.kIn, run_fnS (us := .ref a :: us) (vs := .ref a :: vs) F hr hb (hx σ) I2 (.cons rfl r) q2⟩) hst hpl)) ht⟩
theorem pe_methZ0 {pl : Sem Bool} (he : PE X o ta) (c : Cls X.K C) (hm : Meth X.K C m fi) (F : FnOk X.prog X.w X.K X.mg X.base CX k fi fd ps sp) (hr : Room k X.A) (hb : Binds X.K fd ps []) (hx : ∀ σ, PassesAt CX X σ (E σ))
    (ht : eval (.Call (.Attribute o m apos) [] [] pos) X.env = (do
      let ov ← eval o X.env
      standAt apos.atName
      let (f, first) ← holding [ov] (getMethod ov m pl)
      callWith pos f first (backTo pos (starEach [] X.env)) (backToKw pos (keywordEach [] X.env)))) :
    PE X (.Call (.Attribute o m apos) [] [] pos) (tMethZ C m sp E ta tNil) := ⟨fun pn s0 σ H Q I h =>
  PySem.W.methodCall_KW (pl := pl) (thn (he.run pn s0 σ H _ I h) fun u s1 ⟨x, H1, I1, rx, a, dx, fs, ex, ea, l, q⟩ => by
    subst ex
    obtain rfl : u = Value.ref a := rx
    exact getmeth_ok I1 ea c hm l (PySem.W.callWith_K0 (first := [.ref a]) I1.kIn hm.kp (run_fnS (us := [.ref a]) (vs := [.ref a]) F hr hb (hx σ) I1 (.cons rfl .nil) q))) ht⟩
end
end L2
namespace VL
open PySem PySem.Spec PyProof.Rows L2
/-! ### self.f = e -/
theorem put_zip {f : Str} {v : V} : ∀ {ns : List Str} {vs : List V}, ns.length = vs.length → f ∉ ns → putF f v (ns.zip vs) = (ns ++ [f]).zip (vs ++ [v])
  | [], [], _, _ => rfl
  | [], _ :: _, h, _ => by simp at h
  | _ :: _, [], h, _ => by simp at h
  | n :: ns, u :: vs, h, hn => by
    have h1 : ¬ n = f := fun e => hn (by rw [e]; exact List.mem_cons_self)
    have h2 : f ∉ ns := fun e => hn (List.mem_cons_of_mem _ e)
    show (if n = f then (n, v) :: ns.zip vs else (n, u) :: putF f v (ns.zip vs)) = (n, u) :: ((ns ++ [f]).zip (vs ++ [v]))
    rw [if_neg h1, put_zip (by simpa using h) h2]
/-- self.f = e at an own object of the class c -/
def sPut (i : Nat) (c f : Str) (e : XE) : XS := fun ρ => match ρ[i]? with
  | some (.own r (.ins c' ns ds)) => if c' = c ∧ f ∉ ns ∧ ns.length < 1000 then bV ρ (e ρ) fun
      | .v r2 d => if (nm r2 d).st = true then some (.nx (ρ.set i (.own (r.mx (nm r2 d)) (.ins c (ns ++ [f]) (ds ++ [d]))))) else none
      | .n r2 t => if r2.st = true then some (.nx (ρ.set i (.own (r.mx (nm r2 t.toD)) (.ins c (ns ++ [f]) (ds ++ [t.toD]))))) else none
      | _ => none
    else none
  | _ => none
section
variable {Y : Cy} {ρ : List B} {pos : Pos} {Φ : Fin} {C : Cst} {g : XE}
theorem put_core (i : Nat) {x c f : Str} {p apos : Pos} {e : Expr} {r : Rg} {ns : List Str} {ds : List D} {Ca : Addr} {τ : List T} {σ : L2.St} {H : Hp} {D : Ends} (hm : Y.X.mg c = some (.ref Ca)) (cl : L2.Cls Y.X.K Ca) (na : L2.NoAttr Y.X.K Ca f) (hρ : ρ[i]? = some (.own r (.ins c ns ds))) (hf : f ∉ ns) (hl : ns.length < 1000)
    (hst : Stab (τ ++ Y.τ)) (w : YE Y ρ σ τ H) (h : VE Y ρ e fun r2 d => (nm r2 d).st = true ∧ ∀ H', YE Y (ρ.set i (.own (r.mx (nm r2 d)) (.ins c (ns ++ [f]) (ds ++ [d])))) σ τ H' → D.nx σ H')
    (hN : Y.X.N[i]? = some x) (hv : Vis Y.X.env.scope x) (hd : (x == ("__debug__" : Str)) = false) (hcd : (x == ("__classdict__" : Str)) = false) (hs : swapsWith e (some (.Attribute (.Name x p) f apos)) pos.line Y.X.env = pure false) :
    s1 Y.X (.Assign [.Attribute (.Name x p) f apos] e pos) D σ H := by
  refine s1.of (ps_fld (pe_var hN hv hd hcd) pe_s hs) ((h τ σ H w).mono fun v H1 ⟨r2, d, w1, hr2, q⟩ => ?_)
  obtain ⟨a, o, k1, k2, k3, k4⟩ := EnvOk.mutSlot (τ := τ ++ Y.τ) [.v r2 d v] w1 hρ hst
  obtain ⟨G0, G1, ow, w2⟩ := id w1
  obtain ⟨C2, dx, vs, m1, e0, l0, hvs⟩ := k3 _ _ _ w2
  subst e0
  have m2 := hm.symm.trans m1
  cases m2
  obtain ⟨g0, _⟩ := w2.sl i _ hρ
  have hz : (ns.zip vs).length < 1000 := by rw [List.length_zip]; omega
  refine ⟨_, k1, a, Ca, dx, _, rfl, k2, cl, na, hz, q _ (k4 (r.mx (nm r2 d)) (.ins c (ns ++ [f]) (ds ++ [d])) _ (mx_el _ _ g0 hr2) (fun G0 G1 ow w => ⟨Ca, dx, vs ++ [v], hm, ?_, ?_, ?_⟩))⟩
  · rw [put_zip (by rw [l0, hvs.len]) hf]
  · rw [List.length_append, List.length_append, l0]
    rfl
  · obtain ⟨C3, dx3, vs3, m3, e3, l3, hvs3⟩ := k3 _ _ _ w
    have hh : vs3 = vs := by
      have e4 : ns.zip vs = ns.zip vs3 := by injection e3
      have l4 : vs.length = vs3.length := by rw [← hvs.len, ← hvs3.len]
      have l5 : ns.length = vs.length := by rw [l0, hvs.len]
      have := congrArg (List.map Prod.snd) e4
      rw [List.map_snd_zip (by omega), List.map_snd_zip (by omega)] at this
      exact this.symm
    subst hh
    obtain ⟨le1, le2⟩ := Gr.le w.s1 (mx_el _ _ g0 hr2)
    exact (hvs3.mono le1).append (Reps.cons ((RepR.st (RepR.nm (w.tt _ List.mem_cons_self)) hr2).mono le2) Reps.nil)
theorem v1_put (i : Nat) {x c f : Str} {p apos : Pos} {e : Expr} {r : Rg} {ns : List Str} {ds : List D} {Ca : Addr} (hm : Y.X.mg c = some (.ref Ca)) (cl : L2.Cls Y.X.K Ca) (na : L2.NoAttr Y.X.K Ca f) (hρ : ρ[i]? = some (.own r (.ins c ns ds))) (hf : f ∉ ns) (hl : ns.length < 1000)
    (h : VE Y ρ e fun r2 d => (nm r2 d).st = true ∧ Φ.nx (ρ.set i (.own (r.mx (nm r2 d)) (.ins c (ns ++ [f]) (ds ++ [d])))))
    (hN : Y.X.N[i]? = some x) (hv : Vis Y.X.env.scope x) (hd : (x == ("__debug__" : Str)) = false) (hcd : (x == ("__classdict__" : Str)) = false) (hs : swapsWith e (some (.Attribute (.Name x p) f apos)) pos.line Y.X.env = pure false) :
    V1 Y ρ (.Assign [.Attribute (.Name x p) f apos] e pos) Φ := fun τ σ H w hst =>
  put_core i hm cl na hρ hf hl hst w (VE.mono h fun r2 d ⟨q1, q2⟩ => ⟨q1, fun H' w' => ⟨_, w', q2⟩⟩) hN hv hd hcd hs
theorem s_put (i : Nat) {x c f : Str} {p apos : Pos} {e : Expr} {Ca : Addr} (F : ObF C.W c Ca) (na : L2.NoAttr C.W.K Ca f) (ha : SndE C e g) (hN : C.N[i]? = some x := by rfl) (hv : Vis C.sc x := by first | exact Or.inl rfl | exact Or.inr (Or.inl rfl) | exact Or.inr (Or.inr rfl)) (hd : (x == ("__debug__" : Str)) = false := by decide) (hcd : (x == ("__classdict__" : Str)) = false := by decide)
    (hs : ∀ env : Env, swapsWith e (some (.Attribute (.Name x p) f apos)) pos.line env = pure false := by intro _; rfl) : Snd1 C (.Assign [.Attribute (.Name x p) f apos] e pos) (sPut i c f g) := fun Y u ρ o Φ e1 q => by
  have hN' : Y.X.N[i]? = some x := by rw [u.n]; exact hN
  have hv' : Vis Y.X.env.scope x := by rw [u.s]; exact hv
  have hm : Y.X.mg c = some (.ref Ca) := by rw [u.mg]; exact F.mg
  have cl : L2.Cls Y.X.K Ca := by rw [u.K]; exact F.cls
  have na' : L2.NoAttr Y.X.K Ca f := by rw [u.K]; exact na
  unfold sPut at e1
  split at e1
  · rename_i r c' ns ds hρ
    split at e1
    · rename_i hc
      obtain ⟨rfl, hf, hl⟩ := hc
      rcases bV_some e1 with ⟨x1, e2, rfl⟩ | ⟨q1, e2, e3, hn⟩
      · exact v1_put i hm cl na' hρ hf hl ((ha Y u).exc e2 q _) hN' hv' hd hcd (hs _)
      · cases q1 with
        | v r2 d =>
          simp only at e3
          split at e3
          · cases e3
            rename_i hc
            exact v1_put i hm cl na' hρ hf hl ((ha Y u).gets e2 (.inl rfl) _ ⟨hc, q⟩) hN' hv' hd hcd (hs _)
          · cases e3
        | n r2 t =>
          simp only at e3
          split at e3
          · cases e3
            rename_i hc
            have : (nm r2 t.toD).st = true := by unfold nm; split <;> first | rfl | exact hc
            exact v1_put i hm cl na' hρ hf hl ((ha Y u).gets e2 (.inr ⟨t, rfl, rfl⟩) _ ⟨this, q⟩) hN' hv' hd hcd (hs _)
          · cases e3
        | x x1 => exact absurd rfl (hn x1)
    · cases e1
  · cases e1
end
/-! ### __init__ -/
/-- what self is worth meanwhile -/
abbrev IS := Rg × List Str × List D
abbrev XIs := IS → List B → Option Res
abbrev ownV (c : Str) (s : IS) (ρ : List B) : List B := ρ.set 0 (.own s.1 (.ins c s.2.1 s.2.2))
def isX (x : Addr) (ρ : List B) : Bool := match ρ[(0 : Nat)]? with | some (.raw (.ref a)) => decide (a = x) | _ => false
theorem isX_of {x : Addr} {ρ : List B} (h : isX x ρ = true) : ρ[0]? = some (.raw (.ref x)) := by
  unfold isX at h
  split at h
  · rename_i a e; rw [e, of_decide_eq_true h]
  · cases h
def iEnd (c : Str) : XIs := fun s _ => some (.new s.1 (.ins c s.2.1 s.2.2))
/-- a statement where self is not in sight -/
def iStm (x : Addr) (f : XS) (k : XIs) : XIs := fun s ρ => match f ρ with
  | some (.nx ρ2) => if isX x ρ2 = true then k s ρ2 else none
  | some (.ex e _) => some (.exc e)
  | _ => none
/-- if t: (something that raises) -/
def iGd (c : Str) (t : XE) (b : XS) (k : XIs) : XIs := fun s ρ => match t (ownV c s ρ) with
  | some (.v _ (.bl true)) => (match b (ownV c s ρ) with | some (.ex e _) => some (.exc e) | _ => none)
  | some (.v _ (.bl false)) => k s ρ
  | some (.x e) => some (.exc e)
  | _ => none
/-- self.f = e -/
def iPut (c f : Str) (e : XE) (k : XIs) : XIs := fun s ρ => if f ∉ s.2.1 ∧ s.2.1.length < 1000 then (match e (ownV c s ρ) with
  | some (.v r2 d) => if (nm r2 d).st = true then k (s.1.mx (nm r2 d), s.2.1 ++ [f], s.2.2 ++ [d]) ρ else none
  | some (.n r2 t) => if r2.st = true then k (s.1.mx (nm r2 t.toD), s.2.1 ++ [f], s.2.2 ++ [t.toD]) ρ else none
  | some (.x e) => some (.exc e)
  | _ => none) else none
abbrev startI (x : Addr) (ds : List D) (n : Nat) : List B := .raw (.ref x) :: startB ds (n - 1)
open Classical in
/-- what a constructor gives: the same wherever the new object lies -/
noncomputable def runI (np nn : Nat) (body : Addr → XIs) (ds : List D) : Option Res := if h : ds.length + 1 = np ∧ ∃ res, ∀ x, body x (.nw, [], []) (startI x ds nn) = some res then some h.2.choose else none
theorem runI_some {np nn : Nat} {body : Addr → XIs} {ds : List D} {res : Res} (h : runI np nn body ds = some res) : ds.length + 1 = np ∧ ∀ x, body x (.nw, [], []) (startI x ds nn) = some res := by
  unfold runI at h
  split at h
  · rename_i hh; cases h; exact ⟨hh.1, hh.2.choose_spec⟩
  · cases h
theorem runI_of {np nn : Nat} {body : Addr → XIs} {ds : List D} {res : Res} (h1 : ds.length + 1 = np) (h : ∀ x, body x (.nw, [], []) (startI x ds nn) = some res) : runI np nn body ds = some res := by
  have hx : ds.length + 1 = np ∧ ∃ res, ∀ x, body x (.nw, [], []) (startI x ds nn) = some res := ⟨h1, res, h⟩
  unfold runI
  rw [dif_pos hx]
  exact (hx.2.choose_spec 0).symm.trans (h 0)
def DI (Y : Cy) (x : Addr) (res : Res) : Ends where
  nx := fun σ H => ∃ ρ r c, res = .new r c ∧ EnvOk Y.X.K Y.X.mg Y.Hs Y.Hi ρ σ [.own x r c] H
  rt := fun _ _ => False
  bk := fun _ _ => False
  ct := fun _ _ => False
structure SndN (C : Cst) (c : Str) (x : Addr) (st : List Stmt) (k : XIs) : Prop where
  run : ∀ Y, C.On Y → Y.τ = [] → ∀ s ρ res, k s ρ = some res → (∀ e, res = .exc e → ∀ ρ', Y.E e ρ') → ∀ σ H, ρ[0]? = some (.raw (.ref x)) → EnvOk Y.X.K Y.X.mg Y.Hs Y.Hi ρ σ [.own x s.1 (.ins c s.2.1 s.2.2)] H → sS Y.X st (DI Y x res) σ H
section
variable {C : Cst} {c : Str} {x : Addr} {st : Stmt} {rest : List Stmt} {k : XIs} {f : XS} {pos : Pos}
/-- self as one's own slot, and back -/
theorem EnvOk.toOwn {K : PySem.W.Frag} {mg : Mg} {Hs Hi H : Hp} {ρ : List B} {σ : L2.St} {τ : List T} {r : Rg} {ct : Ct} (hρ : ρ[0]? = some (.raw (.ref x))) (w : EnvOk K mg Hs Hi ρ σ (.own x r ct :: τ) H) : σ[0]? = some (some (.ref x)) ∧ EnvOk K mg Hs Hi (ρ.set 0 (.own r ct)) σ τ H := by
  have hσ : σ[0]? = some (some (.ref x)) := by
    obtain ⟨G0, G1, ow, w⟩ := w
    exact w.sl 0 _ hρ
  refine ⟨hσ, ?_⟩
  have := EnvOk.setOwn (i := 0) w
  have e : σ.set 0 (some (.ref x)) = σ := by
    cases σ with
    | nil => cases hσ
    | cons a σ => simp at hσ; subst hσ; rfl
  rw [e] at this
  exact this
theorem EnvOk.ofOwn {K : PySem.W.Frag} {mg : Mg} {Hs Hi H : Hp} {ρ ρ0 : List B} {σ : L2.St} {τ : List T} {r : Rg} {ct : Ct} (hρ : ρ[0]? = some (.raw (.ref x))) (h0 : ρ0 = ρ.set 0 (.own r ct)) (hσ : σ[0]? = some (some (.ref x))) (st : ∀ t ∈ τ, t.stable = true) (w : EnvOk K mg Hs Hi ρ0 σ τ H) :
    EnvOk K mg Hs Hi ρ σ (.own x r ct :: τ) H := by
  subst h0
  have hl : 0 < ρ.length := (List.getElem?_eq_some_iff.mp hρ).1
  obtain ⟨a, h1, h2⟩ := EnvOk.take (i := 0) w (List.getElem?_set_self hl) st
  rw [hσ] at h1
  cases h1
  rw [List.set_set] at h2
  have e : ρ.set 0 (.raw (.ref x)) = ρ := by
    cases ρ with
    | nil => cases hρ
    | cons a ρ => simp at hρ; subst hρ; rfl
  rw [e] at h2
  exact h2
theorem i_nil : SndN C c x [] (iEnd c) := ⟨fun Y u ht s ρ res e hE σ H hρ w => by
  cases e
  exact sS.of pss_nil ⟨ρ, _, _, rfl, w⟩⟩
theorem i_stm (h1 : Snd1 C st f) (h2 : SndN C c x rest k) : SndN C c x (st :: rest) (iStm x f k) := ⟨fun Y u ht s ρ res e hE σ H hρ w => by
  refine sS.of (pss_cons ps_s pss_s) ?_
  obtain ⟨X, Hs, Hi, τ, E⟩ := Y
  cases ht
  have hst : Stab ([] ++ [T.own x s.1 (.ins c s.2.1 s.2.2)]) := fun t h => by
    obtain ⟨_, _, _, w0⟩ := id w
    cases List.mem_singleton.mp h
    exact (w0.tt _ List.mem_cons_self).1
  have u2 : C.On ⟨X, Hs, Hi, [.own x s.1 (.ins c s.2.1 s.2.2)], E⟩ := ⟨u.w, u.n, u.s, by
    have hk := u.k
    cases hc : C.k with
    | none => trivial
    | some kk =>
      rw [hc] at hk
      exact ⟨Takes.imp hk.tk fun cls d σ H ⟨y, ρ', τ', w', q⟩ => ⟨y, ρ', τ' ++ [.own x s.1 (.ins c s.2.1 s.2.2)], by
        show EnvOk _ _ _ _ _ _ (.exc y cls d :: ((τ' ++ [T.own x s.1 (.ins c s.2.1 s.2.2)]) ++ [])) _
        rw [List.append_nil]; exact w', q⟩, hk.po, hk.calm, hk.rm, hk.nd⟩, u.fn, u.st⟩
  unfold iStm at e
  cases ho : f ρ with
  | none => rw [ho] at e; cases e
  | some o =>
    rw [ho] at e
    cases o with
    | nx ρ2 =>
      simp only at e
      split at e
      · rename_i hx
        refine (h1 _ u2 ρ _ { nx := fun ρ' => ρ' = ρ2, rt := fun _ _ => False, rn := fun _ _ => False } ho rfl [] σ H w hst).mono (fun σ' H' ⟨ρ', w', e'⟩ => ?_) (fun v H' q => ?_) (fun _ _ ⟨_, _, z⟩ => z.elim) fun _ _ ⟨_, _, z⟩ => z.elim
        · subst e'
          exact h2.run ⟨X, Hs, Hi, [], E⟩ u rfl s ρ' res e hE σ' H' (isX_of hx) w'
        · rcases q with ⟨_, _, _, _, _, _, z⟩ | ⟨_, _, _, _, _, _, _, z⟩ <;> exact z.elim
      · cases e
    | ex y ρ2 =>
      cases e
      refine (h1 _ u2 ρ _ { nx := fun _ => False, rt := fun _ _ => False, rn := fun _ _ => False } ho (hE y rfl _) [] σ H w hst).mono (fun σ' H' ⟨ρ', w', e'⟩ => e'.elim) (fun v H' q => ?_) (fun _ _ ⟨_, _, z⟩ => z.elim) fun _ _ ⟨_, _, z⟩ => z.elim
      rcases q with ⟨_, _, _, _, _, _, z⟩ | ⟨_, _, _, _, _, _, _, z⟩ <;> exact z.elim
    | rt r d => cases e
    | rn r d => cases e
    | bk ρ => cases e
    | ct ρ => cases e⟩
theorem i_put {x0 f : Str} {p apos : Pos} {e : Expr} {g : XE} {Ca : Addr} (F : ObF C.W c Ca) (na : L2.NoAttr C.W.K Ca f) (ha : SndE C e g) (h2 : SndN C c x rest k) (hN : C.N[0]? = some x0 := by rfl) (hv : Vis C.sc x0 := by first | exact Or.inl rfl | exact Or.inr (Or.inl rfl) | exact Or.inr (Or.inr rfl)) (hd : (x0 == ("__debug__" : Str)) = false := by decide) (hcd : (x0 == ("__classdict__" : Str)) = false := by decide)
    (hs : ∀ env : Env, swapsWith e (some (.Attribute (.Name x0 p) f apos)) pos.line env = pure false := by intro _; rfl) : SndN C c x (.Assign [.Attribute (.Name x0 p) f apos] e pos :: rest) (iPut c f g k) := ⟨fun Y u ht s ρ res e1 hE σ H hρ w => by
  have hm : Y.X.mg c = some (.ref Ca) := by rw [u.mg]; exact F.mg
  have cl : L2.Cls Y.X.K Ca := by rw [u.K]; exact F.cls
  have na' : L2.NoAttr Y.X.K Ca f := by rw [u.K]; exact na
  have hN' : Y.X.N[0]? = some x0 := by rw [u.n]; exact hN
  have hv' : Vis Y.X.env.scope x0 := by rw [u.s]; exact hv
  obtain ⟨r, ns, ds⟩ := s
  obtain ⟨hσ, w1⟩ := EnvOk.toOwn hρ w
  have hl0 : 0 < ρ.length := (List.getElem?_eq_some_iff.mp hρ).1
  have hown : (ownV c (r, ns, ds) ρ)[0]? = some (.own r (.ins c ns ds)) := List.getElem?_set_self hl0
  have hst : Stab ([] ++ Y.τ) := by rw [ht]; exact fun _ h => by cases h
  have w2 : YE Y (ownV c (r, ns, ds) ρ) σ [] H := by show EnvOk _ _ _ _ _ _ ([] ++ Y.τ) _; rw [ht]; exact w1
  refine sS.of (pss_cons ps_s pss_s) ?_
  unfold iPut at e1
  split at e1
  · rename_i hc
    obtain ⟨hf, hl⟩ := hc
    have fin : ∀ {r2 : Rg} {d : D} {H' : Hp}, k (r.mx (nm r2 d), ns ++ [f], ds ++ [d]) ρ = some res → YE Y ((ownV c (r, ns, ds) ρ).set 0 (.own (r.mx (nm r2 d)) (.ins c (ns ++ [f]) (ds ++ [d])))) σ [] H' → sS Y.X rest (DI Y x res) σ H' := fun {r2 d H'} hk w' => by
      have w'' : EnvOk Y.X.K Y.X.mg Y.Hs Y.Hi ((ownV c (r, ns, ds) ρ).set 0 (.own (r.mx (nm r2 d)) (.ins c (ns ++ [f]) (ds ++ [d])))) σ [] H' := by
        have q : EnvOk Y.X.K Y.X.mg Y.Hs Y.Hi _ σ ([] ++ Y.τ) H' := w'
        rw [ht] at q
        exact q
      exact h2.run Y u ht _ ρ res hk hE σ H' hρ (EnvOk.ofOwn hρ (List.set_set _) hσ (fun _ h => by cases h) w'')
    cases ho : g (ownV c (r, ns, ds) ρ) with
    | none => rw [ho] at e1; cases e1
    | some o =>
      rw [ho] at e1
      cases o with
      | v r2 d =>
        simp only at e1
        split at e1
        · rename_i hr
          exact put_core (D := { DI Y x res with nx := fun σ' H' => sS Y.X rest (DI Y x res) σ' H' }) 0 hm cl na' hown hf hl hst w2 ((ha Y u).gets ho (.inl rfl) _ ⟨hr, fun H' w' => fin e1 w'⟩) hN' hv' hd hcd (hs _)
        · cases e1
      | n r2 t =>
        simp only at e1
        split at e1
        · rename_i hr
          have : (nm r2 t.toD).st = true := by unfold nm; split <;> first | rfl | exact hr
          exact put_core (D := { DI Y x res with nx := fun σ' H' => sS Y.X rest (DI Y x res) σ' H' }) 0 hm cl na' hown hf hl hst w2 ((ha Y u).gets ho (.inr ⟨t, rfl, rfl⟩) _ ⟨this, fun H' w' => fin e1 w'⟩) hN' hv' hd hcd (hs _)
        · cases e1
      | x y =>
        cases e1
        exact put_core (D := { DI Y x (.exc y) with nx := fun σ' H' => sS Y.X rest (DI Y x (.exc y)) σ' H' }) 0 hm cl na' hown hf hl hst w2 (VE.mono (ha Y u _ _ ho (hE y rfl _)) fun _ _ z => z.elim) hN' hv' hd hcd (hs _)
  · cases e1⟩
theorem i_gd {t : Expr} {body : List Stmt} {ft : XE} {fb : XS} (hT : SndT C t ft) (hB : SndS C body fb) (h2 : SndN C c x rest k) : SndN C c x (.If t body [] pos :: rest) (iGd c ft fb k) := ⟨fun Y u ht s ρ res e1 hE σ H hρ w => by
  obtain ⟨r, ns, ds⟩ := s
  obtain ⟨hσ, w1⟩ := EnvOk.toOwn hρ w
  have hst : Stab ([] ++ Y.τ) := by rw [ht]; exact fun _ h => by cases h
  have w2 : YE Y (ownV c (r, ns, ds) ρ) σ [] H := by show EnvOk _ _ _ _ _ _ ([] ++ Y.τ) _; rw [ht]; exact w1
  have key : VT Y (ownV c (r, ns, ds) ρ) t fun b => (b = true → ∃ y ρ2, fb (ownV c (r, ns, ds) ρ) = some (.ex y ρ2) ∧ res = .exc y) ∧ (b = false → k (r, ns, ds) ρ = some res) := by
    unfold iGd at e1
    cases ho : ft (ownV c (r, ns, ds) ρ) with
    | none => rw [ho] at e1; cases e1
    | some o =>
      rw [ho] at e1
      have h := hT Y u _ _ ho
      cases o with
      | v r2 d =>
        cases d with
        | bl b =>
          refine VT.mono h fun b' e => ?_
          subst e
          cases b' with
          | true =>
            refine ⟨fun _ => ?_, fun z => by cases z⟩
            simp only at e1
            split at e1
            · rename_i y ρ2 hy; cases e1; exact ⟨y, ρ2, hy, rfl⟩
            · cases e1
          | false => exact ⟨(fun z => by cases z), fun _ => e1⟩
        | _ => cases e1
      | n r2 d => cases e1
      | x y => cases e1; exact VT.mono (h (hE y rfl _)) fun _ z => z.elim
  refine sS.of (pss_cons ps_s pss_s) (s1.of (ps_if pt_s pss_s pss_s) ((key [] σ H w2).mono fun b H' ⟨w', q1, q2⟩ => ?_))
  cases b with
  | true =>
    rw [if_pos rfl]
    obtain ⟨y, ρ2, hy, rfl⟩ := q1 rfl
    refine (hB Y u _ _ { nx := fun _ => False, rt := fun _ _ => False, rn := fun _ _ => False } hy (hE y rfl _) [] σ H' w' hst).mono (fun _ _ ⟨_, _, z⟩ => z.elim) (fun v H' q => ?_) (fun _ _ ⟨_, _, z⟩ => z.elim) fun _ _ ⟨_, _, z⟩ => z.elim
    rcases q with ⟨_, _, _, _, _, _, z⟩ | ⟨_, _, _, _, _, _, _, z⟩ <;> exact z.elim
  | false =>
    rw [if_neg Bool.false_ne_true]
    have w'' : EnvOk Y.X.K Y.X.mg Y.Hs Y.Hi (ownV c (r, ns, ds) ρ) σ [] H' := by
      have q : EnvOk Y.X.K Y.X.mg Y.Hs Y.Hi _ σ ([] ++ Y.τ) H' := w'
      rw [ht] at q
      exact q
    exact sS.of pss_nil (h2.run Y u ht _ ρ res (q2 rfl) hE σ H' hρ (EnvOk.ofOwn hρ rfl hσ (fun _ h => by cases h) w''))⟩
end
def PostI (K : PySem.W.Frag) (mg : Mg) (Hs H : Hp) (x : Addr) : Res → VK → XK → Prop
  | .ok _ _, _, _ => False
  | .new r c, Q, _ => r.st = true ∧ ∀ o H' G, Same H H' → Same G H' → InR Hs H r G → H' x = some o → G x = none → RepC K mg G c o → Q .non H'
  | .exc e, _, E => ∀ cls dd H' G, Same H H' → Same G H' → InR Hs H .nw G → RepX K mg G H' e cls dd → E cls dd H'
def spI (K : PySem.W.Frag) (mg : Mg) (C : Addr) (g : List D → Res → Prop) : Sp := fun vs H Q E => ∃ x dx ws H0 Hs ds res, vs = .ref x :: ws ∧ H = upd (upd H0 dx (.own x)) x (.ins C dx []) ∧ H0 x = none ∧ H0 dx = none ∧ dx ≠ x ∧
  Same Hs H0 ∧ Reps K mg Hs ds ws ∧ g ds res ∧ PostI K mg Hs H0 x res Q E
/-- an __init__ keeps its promise -/
structure FdI (W : Wd) (k : Nat) (g C : Addr) (G : List D → Option Res) : Prop where
  ex : ∃ (fd : FuncData) (ps : List Str), Binds W.K fd ps [] ∧ FnOk W.P W.w W.K W.mg W.base (L2.CX W.P W.w) k g fd ps (spI W.K W.mg C fun ds res => G ds = some res)
/-- a constructor gives what is new -/
def noOk (G : List D → Option Res) : List D → Option Res := fun ds => match G ds with | some (.ok _ _) => none | o => o
theorem noOk_some {G : List D → Option Res} {ds : List D} {res : Res} (h : noOk G ds = some res) : G ds = some res ∧ ∀ r d, res ≠ .ok r d := by
  unfold noOk at h
  split at h
  · cases h
  · rename_i hn; exact ⟨h, fun r d e => hn r d (by rw [h, e])⟩
section
variable {C : Cst} {G : List D → Option Res} {pos : Pos}
/-- C(e, ..) -/
theorem hd_make {c : Str} {p : Pos} {e : Expr} {es : List Expr} {Ca g : Addr} {k kk : Nat} (F : ObF C.W c Ca) (M : L2.Mk C.W.K Ca g) (hG : FdI C.W k g Ca G) (hkk : C.k = some kk := by rfl) (hk : k + 1 ≤ kk := by decide)
    (hp : (e :: es).all plain = true := by rfl) (hg : GlS C.sc c := by rfl) (hdb : (c == ("__debug__" : Str)) = false := by decide) : CallHd C (.Call (.Name c p) (e :: es) [] pos) (e :: es) (noOk G) := ⟨fun Y u ρ P τ σ H QV w hv hq => by
  have gl := u.gl hg
  have hw := u.w
  have ok := u.ck hkk
  obtain ⟨W, N, sc, kc, dd⟩ := C
  cases hw
  obtain ⟨fd, ps, hbd, hF⟩ := hG.ex
  have hp1 := hp
  rw [List.all_cons, Bool.and_eq_true] at hp1
  refine sE.of (pe_makeZ M hF (ok.rm.mono hk) gl F.mg hbd (fun σ => passAt ok.tk σ) pa_s hdb (star_plain hp1.1) (plain_any hp1.2)) ?_
  refine (VA.run hp hv τ σ H w).mono fun vs H1 ⟨l, hl, _, w1, res, g1, q⟩ => fun x dx hx hdx hne => ?_
  have w2 : EnvOk Y.X.K Y.X.mg Y.Hs Y.Hi ρ σ (pushA l vs (τ ++ Y.τ)) H1 := by rw [← pushA_app]; exact w1
  obtain ⟨Hs, ds, res2, s1, rp, gg, post⟩ := hq l vs H1 res hl w2 g1 q
  obtain ⟨gg, hno⟩ := noOk_some gg
  refine ⟨x, dx, vs, H1, Hs, ds, res2, rfl, rfl, hx, hdx, hne, s1, rp, gg, ?_⟩
  cases res2 with
  | ok r d => exact hno _ _ rfl
  | new r c => exact ⟨post.1, fun o H' G a1 a2 a3 a4 a5 a6 => ⟨rfl, post.2 x o H' G a1 a2 a3 a4 hx a5 a6⟩⟩
  | exc e => exact post⟩
end
theorem startI_ok {K : PySem.W.Frag} {mg : Mg} {Hs H0 : Hp} {x dx Ca : Addr} {c : Str} {N : List Str} {ds : List D} {ws : List V} (hm : mg c = some (.ref Ca)) (hx : H0 x = none) (hdx : H0 dx = none) (s : Same Hs H0) (r : Reps K mg Hs ds ws) (hN : 0 < N.length) :
    EnvOk K mg Hs H0 (startI x ds N.length) (L2.start N (.ref x :: ws)) [.own x .nw (.ins c [] [])] (upd (upd H0 dx (.own x)) x (.ins Ca dx [])) := by
  have sH : Same H0 (upd (upd H0 dx (.own x)) x (.ins Ca dx [])) := fun b u e => by
    rw [upd_ne (ne_of_none e hx), upd_ne (ne_of_none e hdx)]; exact e
  have hl : N.tail.length = N.length - 1 := List.length_tail
  have hst : L2.start N (.ref x :: ws) = some (.ref x) :: L2.start N.tail ws := by
    unfold L2.start
    rw [hl]
    simp only [List.map_cons, List.length_cons, List.cons_append]
    rw [show N.length - (ws.length + 1) = N.length - 1 - ws.length from by omega]
  refine ⟨Hs, fun _ => none, fun j => none, ⟨Same.refl _, (fun _ _ e => by cases e), s.trans sH, sH, (fun a o e => .inl (by rw [e]; exact fun z => by cases z)), (fun _ _ e => by cases e), (fun j a o e => by cases e), (fun i j a o o' e f => by cases e), ?_, fun i b e => ?_, (fun t h => ?_), by simp [T.cell], (fun a _ i o e => by cases e), fun a h => by simp [T.tcell] at h⟩⟩
  · rw [hst]
    unfold L2.start
    simp [r.len, hl]
  · rw [hst]
    cases i with
    | zero =>
      have e' : b = .raw (.ref x) := by simpa using e.symm
      subst e'
      rfl
    | succ i =>
      rw [List.getElem?_cons_succ] at e
      rw [List.getElem?_cons_succ]
      by_cases hi : i < ds.length
      · rw [List.getElem?_append_left (by simpa using hi), List.getElem?_map, List.getElem?_eq_getElem hi] at e
        have e' : b = .v (nm .od ds[i]) ds[i] := (Option.some.inj e).symm
        subst e'
        obtain ⟨v, hv, hr⟩ := r.get (List.getElem?_eq_getElem hi)
        unfold L2.start
        rw [List.getElem?_append_left (by rw [List.length_map, ← r.len]; exact hi), List.getElem?_map, hv]
        unfold nm
        by_cases hsc : ds[i].sc = true
        · rw [if_pos hsc]; exact ⟨rfl, v, rfl, Rep.sc_any hr hsc⟩
        · rw [if_neg hsc]; exact ⟨rfl, v, rfl, hr⟩
      · rw [List.getElem?_append_right (by simpa using hi)] at e
        have hb : b = .no := List.eq_of_mem_replicate (List.mem_of_getElem? e)
        subst hb
        trivial
  · cases List.mem_singleton.mp h
    exact ⟨rfl, s.free hx, hx, _, upd_same, Ca, dx, [], hm, rfl, rfl, Reps.nil⟩
theorem fn_init {W : Wd} {c x qual : Str} {st : Stmt} {f Ca : Addr} {fd : FuncData} {N ps : List Str} {k : Nat} {body : Addr → XIs} (hm : W.mg c = some (.ref Ca)) (F : Fun W.K x qual st f fd) (S : FnScope N ps (defScope st)) (hN : 0 < N.length) (h : ∀ x, SndN ⟨W, N, defScope st, some k, true⟩ c x (defBody st) (body x)) :
    FnOk W.P W.w W.K W.mg W.base (L2.CX W.P W.w) (k + 1) f fd ps (spI W.K W.mg Ca fun ds res => runI ps.length N.length body ds = some res) := by
  refine F.okX S (fun vs H Q E ⟨x, dx, ws, H0, Hs, ds, res, e1, _, _, _, _, _, r, g, _⟩ => ?_) fun cdv A outer s H vs Q E hr ⟨x, dx, ws, H0, Hs, ds, res, e1, e2, hx, hdx, hne, sm, r, g, post⟩ => ?_
  · subst e1
    rw [List.length_cons, ← r.len]
    exact (runI_some g).1
  · subst e1 e2
    refine ⟨_, pss_s, ?_⟩
    have g1 := (runI_some g).2 x
    have tk : Takes (cxOf (L2.CX W.P W.w) W.P W.w W.K W.mg W.base N qual (defScope st) f cdv A outer s (upd (upd H0 dx (.own x)) x (.ins Ca dx [])) E) (WD ⟨cxOf (L2.CX W.P W.w) W.P W.w W.K W.mg W.base N qual (defScope st) f cdv A outer s (upd (upd H0 dx (.own x)) x (.ins Ca dx [])) E, Hs, H0, [], fun x _ => res = .exc x⟩) := by
      refine (takes_of (E := E) rfl rfl rfl rfl).imp fun cls d σ H' ⟨y, ρ, τ, w', e⟩ => ?_
      obtain ⟨G0, G1, ow, w'⟩ := w'
      have e : res = .exc y := e
      subst e
      exact post cls d H' G1 w'.hi (w'.s1.trans w'.s2) (fun a o e => w'.n1 a o e) (w'.tt _ List.mem_cons_self)
    have o : CyOk ⟨cxOf (L2.CX W.P W.w) W.P W.w W.K W.mg W.base N qual (defScope st) f cdv A outer s (upd (upd H0 dx (.own x)) x (.ins Ca dx [])) E, Hs, H0, [], fun x _ => res = .exc x⟩ k := ⟨tk, passes_of rfl, rfl, hr, S.nd⟩
    refine ((h x).run _ ⟨rfl, rfl, rfl, o, fun _ _ => rfl, fun _ => ⟨rfl, rfl⟩⟩ rfl (.nw, [], []) _ res g1 (fun e he _ => he) (L2.start N (.ref x :: ws)) _ rfl (startI_ok hm hx hdx sm r hN)).mono (fun σ' H' ⟨ρ, r1, ct, e, w'⟩ => ?_) (fun _ _ z => z.elim) (fun _ _ z => z.elim) fun _ _ z => z.elim
    subst e
    obtain ⟨hr', post⟩ := post
    obtain ⟨G0, G1, ow, w'⟩ := w'
    obtain ⟨h0, h1, h2, u, h3, h4⟩ := w'.tt _ List.mem_cons_self
    cases r1 with
    | nw => exact post u H' G1 w'.hi (w'.s1.trans w'.s2) (fun a o e => w'.n1 a o e) h3 (w'.s1.free h1) h4
    | od => exact post u H' G0 w'.hi w'.s2 ⟨w'.s0, w'.n0⟩ h3 h1 h4
    | tn => cases hr'
    | to => cases hr'
end VL

set_option Elab.async false
set_option linter.all false
set_option maxRecDepth 100000
set_option maxHeartbeats 4000000
/-! Objects of own classes: isinstance, len, methods, operators, comparisons, in; errors with a text; len(set(xs)). -/
namespace L2
open PySem PySem.Spec PyProof.Rows
section
variable {X : Cx} {a b : Expr} {ta tb : TE} {pos : Pos}
/-- a two-place operation, the wish by the slots -/
def OpRZ (X : Cx) (f : Value → Value → Sem Value) (r : St → R2) : Prop :=
  ∀ (pn : List (Addr × Obj)) (s0 : Shared) (σ : St) (H : Hp) (x y : V) (v u : Value) (Q : VK), Inv X pn σ H s0 → RelV x v → RelV y u → r σ x y H Q → wpAny (model X.prog X.w) X.A (f v u) (EP X pn σ Q) X.xe s0
def tOpZ (r : St → R2) (ta tb : TE) : TE := fun σ H Q => ta σ H fun x H1 => tb σ H1 fun y H2 => r σ x y H2 Q
theorem pe_opZ {op : Operator} {r : St → R2} (ho : OpRZ X (binaryOp op) r) (ha : PE X a ta) (hb : PE X b tb) : PE X (.BinOp a op b pos) (tOpZ r ta tb) :=
  ⟨fun pn s0 σ H Q I h => wpAny_BinOp (binT ha hb I h fun v u s2 x y H2 I2 rx ry q => ho pn s2 σ H2 x y v u Q I2 rx ry q)⟩
theorem pe_cmpZ {op : CmpOp} {r : St → R2} (ho : OpRZ X (compareOp op) r) (ha : PE X a ta) (hb : PE X b tb) (hm : behindInMarks op b = false) : PE X (.Compare a [op] [b] pos) (tOpZ r ta tb) :=
  ⟨fun pn s0 σ H Q I h => wpAny_Compare1 (binT ha hb I h fun v u s2 x y H2 I2 rx ry q => ho pn s2 σ H2 x y v u Q I2 rx ry q) hm⟩
end
/-- what a binary operator of an own class asks for an int on the right -/
structure BinI (K : PySem.W.Frag) (C : Addr) (op : Operator) (f : Addr) (fo ro rc : Option Value) : Prop where
  hs : PySem.W.findIn K (.ref C) (PySem.dunder op.info.2) = some (some (.ref f))
  hf : PySem.W.isFn K (.ref f) = true
  hc : PySem.W.selfFirst K C = true
  hr : PySem.W.findIn K (.ref C) (dunderR op.info.2) = some rc
  hp : rc = none ∨ ∃ g : Addr, rc = some (.ref g)
  h1 : PySem.W.findIn K (.type "int") (PySem.dunder op.info.2) = some fo
  h2 : PySem.W.findIn K (.type "int") (dunderR op.info.2) = some ro
  sub : PySem.W.subIn K (.type "int") (.ref C) = some false
section
variable {X : Cx} {CX : CXT} {k : Nat} {C f : Addr} {fd : FuncData} {ps : List Str} {sp : Sp} {E : St → XK}
/-- own op int -/
def rBinI (C : Addr) (sp : Sp) (E : St → XK) : St → R2 := fun σ x y H Q => ∃ a dx fs j, x = .ref a ∧ y = .int j ∧ H a = some (.ins C dx fs) ∧ sp [x, y] H Q (E σ)
theorem op_binI {op : Operator} {fo ro rc : Option Value} (B : BinI X.K C op f fo ro rc) (F : FnOk X.prog X.w X.K X.mg X.base CX k f fd ps sp) (hr : Room k X.A) (hb : Binds X.K fd ps []) (hx : ∀ σ, PassesAt CX X σ (E σ)) : OpRZ X (binaryOp op) (rBinI C sp E) := by
  rintro pn s0 σ H x y v u Q I rx ry ⟨a, dx, fs, j, rfl, rfl, ea, q⟩
  cases (show v = Value.ref a from rx)
  obtain ⟨t, rfl⟩ := (show ∃ t, u = Value.int j t from ry)
  obtain ⟨mA, O, _⟩ := ins_get I.hok ea
  obtain ⟨od, J, _⟩ := O.look
  obtain ⟨m, hF⟩ := I.fr
  refine PySem.W.ksp_binT (T := "int") hF I.ok.mod.kin J rfl B.hc B.hs B.hf B.hr B.hp B.h1 B.h2 B.sub ?_
  refine wpAny_mono (run_fnS (us := [.ref a, .int j t]) (vs := [.ref a, .int j]) F hr hb (hx σ) I (.cons rfl (.cons ⟨t, rfl⟩ .nil)) q) (fun w s' z => ?_) fun _ _ x => x
  obtain ⟨z', H', I', rz, qz⟩ := z
  exact SlX.cmpback rz ⟨z', H', I', rz, qz⟩
/-- own op own, of one class -/
def rBinO (C : Addr) (sp : Sp) (E : St → XK) : St → R2 := fun σ x y H Q => ∃ a dx fs b dy gs, x = .ref a ∧ y = .ref b ∧ H a = some (.ins C dx fs) ∧ H b = some (.ins C dy gs) ∧ sp [x, y] H Q (E σ)
theorem op_binO {op : Operator} (hs : PySem.W.findIn X.K (.ref C) (PySem.dunder op.info.2) = some (some (.ref f))) (hf : PySem.W.isFn X.K (.ref f) = true) (hc : PySem.W.selfFirst X.K C = true) (F : FnOk X.prog X.w X.K X.mg X.base CX k f fd ps sp) (hr : Room k X.A) (hb : Binds X.K fd ps []) (hx : ∀ σ, PassesAt CX X σ (E σ)) :
    OpRZ X (binaryOp op) (rBinO C sp E) := by
  rintro pn s0 σ H x y v u Q I rx ry ⟨a, dx, fs, b, dy, gs, rfl, rfl, ea, eb, q⟩
  cases (show v = Value.ref a from rx)
  cases (show u = Value.ref b from ry)
  obtain ⟨mA, O, _⟩ := ins_get I.hok ea
  obtain ⟨od, J, _⟩ := O.look
  obtain ⟨mB, O2, _⟩ := ins_get I.hok eb
  obtain ⟨od2, J2, _⟩ := O2.look
  obtain ⟨m, hF⟩ := I.fr
  refine PySem.W.binop_K hF I.ok.mod.kin J J2.type hc hs hf ?_
  refine wpAny_mono (run_fnS (us := [.ref a, .ref b]) (vs := [.ref a, .ref b]) F hr hb (hx σ) I (.cons rfl (.cons rfl .nil)) q) (fun w s' z => ?_) fun _ _ x => x
  obtain ⟨z', H', I', rz, qz⟩ := z
  exact SlX.cmpback rz ⟨z', H', I', rz, qz⟩
theorem op_cmpO {op : CmpOp} (hop : ∀ a b, compareOp op a b = richCompare op a b) (hs : PySem.W.findIn X.K (.ref C) (cmpInfo op).2.1 = some (some (.ref f))) (hf : PySem.W.isFn X.K (.ref f) = true) (F : FnOk X.prog X.w X.K X.mg X.base CX k f fd ps sp) (hr : Room k X.A) (hb : Binds X.K fd ps []) (hx : ∀ σ, PassesAt CX X σ (E σ)) :
    OpRZ X (compareOp op) (rBinO C sp E) := by
  rintro pn s0 σ H x y v u Q I rx ry ⟨a, dx, fs, b, dy, gs, rfl, rfl, ea, eb, q⟩
  cases (show v = Value.ref a from rx)
  cases (show u = Value.ref b from ry)
  obtain ⟨mA, O, _⟩ := ins_get I.hok ea
  obtain ⟨od, J, _⟩ := O.look
  obtain ⟨mB, O2, _⟩ := ins_get I.hok eb
  obtain ⟨od2, J2, _⟩ := O2.look
  obtain ⟨m, hF⟩ := I.fr
  rw [hop]
  refine PySem.W.cmp_K (op := op) (tb := .ref C) hr.units0 hF I.ok.mod.kin J J2.type (by simp [PySem.W.notFirst]) hs hf ?_
  refine wpAny_mono (run_fnS (us := [.ref a, .ref b]) (vs := [.ref a, .ref b]) F hr hb (hx σ) I (.cons rfl (.cons rfl .nil)) q) (fun w s' z => ?_) fun _ _ x => x
  obtain ⟨z', H', I', rz, qz⟩ := z
  exact SlX.cmpback rz ⟨z', H', I', rz, qz⟩
/-- v in own -/
def rInO (C : Addr) (sp : Sp) (E : St → XK) : St → R2 := fun σ x y H Q => ∃ b dx fs, y = .ref b ∧ H b = some (.ins C dx fs) ∧ sp [y, x] H (fun z H' => ∃ k, z = .bl k ∧ Q (.bl k) H') (E σ)
theorem op_inO (hs : PySem.W.findIn X.K (.ref C) "__contains__" = some (some (.ref f))) (hf : PySem.W.isFn X.K (.ref f) = true) (F : FnOk X.prog X.w X.K X.mg X.base CX k f fd ps sp) (hr : Room k X.A) (hb : Binds X.K fd ps []) (hx : ∀ σ, PassesAt CX X σ (E σ)) : OpRZ X (compareOp .In) (rInO C sp E) := by
  rintro pn s0 σ H x y v u Q I rx ry ⟨b, dx, fs, rfl, eb, q⟩
  cases (show u = Value.ref b from ry)
  obtain ⟨mA, O, _⟩ := ins_get I.hok eb
  obtain ⟨od, J, _⟩ := O.look
  obtain ⟨m, hF⟩ := I.fr
  refine PySem.W.in_K hF I.ok.mod.kin J hs hf ?_
  refine wpAny_mono (run_fnS (us := [.ref b, v]) (vs := [.ref b, x]) F hr hb (hx σ) I (.cons rfl (.cons rx .nil)) q) (fun w s' z => ?_) fun _ _ x => x
  obtain ⟨z', H', I', rz, k, ez, qz⟩ := z
  subst ez
  cases (show w = Value.bool k from rz)
  exact wpAny_truthy_bool ⟨.bl k, H', I', rfl, qz⟩
/-- -own -/
def tNegZ (C : Addr) (sp : Sp) (E : St → XK) (ta : TE) : TE := fun σ H Q => ta σ H fun x H1 => ∃ a dx fs, x = .ref a ∧ H1 a = some (.ins C dx fs) ∧ sp [x] H1 Q (E σ)
theorem pe_negZ {a : Expr} {ta : TE} {pos : Pos} (hs : PySem.W.findIn X.K (.ref C) "__neg__" = some (some (.ref f))) (hf : PySem.W.isFn X.K (.ref f) = true) (F : FnOk X.prog X.w X.K X.mg X.base CX k f fd ps sp) (hr : Room k X.A) (hb : Binds X.K fd ps []) (hx : ∀ σ, PassesAt CX X σ (E σ)) (ha : PE X a ta) :
    PE X (.UnaryOp .USub a pos) (tNegZ C sp E ta) := ⟨fun pn s0 σ H Q I h => UnaryOp_ (thn (ha.run pn s0 σ H _ I h) fun v s1 ⟨x, H1, I1, r1, a', dx, fs, ex, ea, q⟩ => by
  subst ex
  cases (show v = Value.ref a' from r1)
  obtain ⟨mA, O, _⟩ := ins_get I1.hok ea
  obtain ⟨od, J, _⟩ := O.look
  obtain ⟨m, hF⟩ := I1.fr
  exact PySem.W.ksp_neg hF I1.ok.mod.kin J hs hf (run_fnS (us := [.ref a']) (vs := [.ref a']) F hr hb (hx σ) I1 (.cons rfl .nil) q))⟩
/-- len(own) -/
def tLenZ (C : Addr) (sp : Sp) (E : St → XK) (ta : TE) : TE := fun σ H Q => ta σ H fun x H1 => ∃ a dx fs, x = .ref a ∧ H1 a = some (.ins C dx fs) ∧ sp [x] H1 (fun z H' => ∃ n : Int, z = .int n ∧ (0 ≤ n ∧ n < 2 ^ 63) ∧ Q (.int n) H') (E σ)
theorem PassesAt.in1 {σ : St} {E : XK} (h : PassesAt CX X σ E) : PassesAt CX X σ E := h
theorem pe_lenZ {a : Expr} {ta : TE} {p pos : Pos} (hs : PySem.W.findIn X.K (.ref C) "__len__" = some (some (.ref f))) (hf : PySem.W.isFn X.K (.ref f) = true) (F : FnOk X.prog X.w X.K X.mg X.base CX k f fd ps sp) (hr : Room (k + 1) X.A) (hb : Binds X.K fd ps []) (hx : ∀ σ, PassesAt CX X σ (E σ)) (hg : Gl X "len") (hm : X.mg "len" = none) (ha : PE X a ta)
    (na : starEach [a] X.env = (false, eval a X.env) :: starEach [] X.env) : PE X (.Call (.Name "len" p) [a] [] pos) (tLenZ C sp E ta) := ⟨fun pn s0 σ H Q I h => by
  refine wpAny_Call_Name_kw (ld_blt I hg hm PySem.boot_len ?_)
  refine PyProof.Rows.callWith_builtin1 (PyProof.Rows.args_cons (thn (ha.run pn s0 σ H _ I h) fun v s1 ⟨x, H1, I1, r1, a', dx, fs, ex, ea, q⟩ => PyProof.Rows.args_nil ?_) na) na rfl
  subst ex
  cases (show v = Value.ref a' from r1)
  obtain ⟨mA, O, _⟩ := ins_get I1.hok ea
  obtain ⟨od, J, _⟩ := O.look
  obtain ⟨m, hF⟩ := I1.fr
  refine PySem.W.len_K hF I1.ok.mod.kin J hs hf (wpAny_call (codeAny_mono (F.run X.A.in1 X.stack s1 H1 ⟨[.ref a'], []⟩ [.ref a'] [.ref a'] _ (E σ) hr.in1 I1.env0.in1 ?_ (.cons rfl .nil) q) fun r s' hq => ?_))
  · have hl : ([Value.ref a']).length = ps.length := by
      have := F.len _ _ _ _ q
      exact this
    have b := hb s1 [.ref a'] I1.kIn (by rw [List.append_nil]; exact hl)
    rw [List.append_nil] at b
    exact b
  · cases r with
    | error e => exact hx σ pn H1 s1 e s' I1 hq
    | ok fl =>
      cases fl with
      | ret u =>
        obtain ⟨z, H', I', rz, n, ez, hn, qz⟩ := I1.after hq
        subst ez
        obtain ⟨t, rfl⟩ := (show ∃ t, u = Value.int n t from rz)
        exact ⟨hn, .int n, H', I'.tok _, ⟨_, rfl⟩, qz⟩
      | next => exact False.elim hq
      | brk => exact False.elim hq
      | cont => exact False.elim hq⟩
/-- what isinstance asks of an own class -/
structure IsF (K : PySem.W.Frag) (C : Addr) : Prop where
  cl : Cls K C
  ca : PySem.W.findIn K (.ref C) "__class__" = some (some (.builtin "object.__class__"))
  cn : PySem.W.specialIn K (.builtin "object.__class__") "__get__" = some (some (.builtin "getset_descriptor.__get__"))
  ct : PySem.W.takesIn K (.builtin "object.__class__") = some true
  cm : PySem.W.mroIn K C (.type "object") = some true
  me : PySem.W.kitOne K (.ref C) (.ref C) = some true
theorem call_isZ (c : IsF X.K C) : CallR X (.builtin "isinstance") (fun xs H Q => ∃ a dx fs, xs = [.ref a, .ref C] ∧ H a = some (.ins C dx fs) ∧ Q (.bl true) H) := by
  rintro pn s0 σ H xs us Q I r ⟨a, dx, fs, rfl, ha, q⟩
  obtain ⟨u, w', rfl, ru, rw'⟩ := vals2 r
  cases rw'
  exact isinst_ok I ru (TyOf.ins ha c.cl c.ca c.cn c.ct c.cm) c.me fun tk => ⟨.bl true, H, I.tok _, rfl, q⟩
end
end L2
/-- how many are different -/
def PyProof_dcount (ns : List Int) : Nat := (PyProof.Rows.firstMet (fun i => ns.getD i 0) ns.length).length
namespace RZ
open PySem PySem.Spec PyProof.Rows L2
def tLenSetZ (K : PySem.W.Frag) (ta : TE) : TE := fun σ H Q => ta σ H fun x H1 => ∃ (l : Addr) (ns : List Int), x = .ref l ∧ SqL K H1 l (ns.map V.int) ∧ ns.length ≤ 4000 ∧ Q (.int (PyProof_dcount ns : Nat)) H1
theorem pe_lenSetZ {X : Cx} {a : Expr} {ta : TE} {p p2 q pos : Pos} (hg : Gl X "len") (hm : X.mg "len" = none) (hg2 : Gl X "set") (hm2 : X.mg "set" = none) (ha : PE X a ta) (hc : X.calm = true)
    (na : starEach [a] X.env = (false, eval a X.env) :: starEach [] X.env) : PE X (.Call (.Name "len" p) [.Call (.Name "set" p2) [a] [] q] [] pos) (tLenSetZ X.K ta) := ⟨fun pn s0 σ H Q I h => by
  refine Call_ (ld_blt I hg hm PySem.boot_len (PyProof.Rows.callWith_builtin1 (PyProof.Rows.args_cons ?_ rfl) rfl rfl))
  refine Call_ (ld_blt I hg2 hm2 boot_set (PyProof.Rows.callWith_type1 (PyProof.Rows.args_cons (thn (ha.run pn s0 σ H _ I h) fun v s1 ⟨x, H1, I1, r1, q1⟩ => PyProof.Rows.args_nil ?_) na) na rfl))
  obtain ⟨l, ns, rfl, hq, hl, q1⟩ := q1
  cases r1
  obtain ⟨its, r, pl, hz⟩ := I1.list hq
  have hlen : its.toArray.size = ns.length := by rw [List.size_toArray, ← r.length, List.length_map]
  refine call_set_list (I1.ok.hd hc) pl.isList (by simpa using intsAre_vals r) (by rw [hlen]; unfold scanBound; omega) fun h' tk hS hk => PyProof.Rows.args_nil ?_
  rw [hlen] at hS
  obtain ⟨o, es, ep, t, ho, hex, hd, _, _, _, hf, hn⟩ := hS
  have hle := firstMet_length_le (fun i => ns.getD i 0) ns.length
  have I2 : Inv X pn σ H1 { s1 with heap := h', toks := tk } := I1.kept fun b o e => hk b o (Heap.lt_size e) e
  exact call_len_set ho hex hd hf (by rw [hn] <;> omega) ⟨.int (PyProof_dcount ns : Nat), H1, I2.tok _, ⟨_, by rw [hn]; rfl⟩, q1⟩⟩
end RZ
namespace VL
open PySem PySem.Spec PyProof.Rows L2
def oLenSet : OP := fun _ x => match x with | .lst ds => (D.ints? ds).bind fun ns => if ns.length ≤ 4000 then vI (PyProof_dcount ns : Nat) else none | _ => none
section
variable {C : Cst} {G : List D → Option Res} {pos : Pos} {a b : Expr} {Y : Cy} {ρ : List B} {f : XE}
/-- raise C('text'), a class without a field -/
structure Xc0 (W : Wd) (c : Str) (Ca : Addr) : Prop where
  g : W.mg c = some (.ref Ca)
  x : PySem.W.excIn W.K Ca [.type "ValueError", .type "Exception", .type "BaseException", .type "object"] "ValueError.__new__" = true
  kp : PySem.W.keepIn W.K (.ref Ca) = true
  be : PySem.W.subIn W.K (.ref Ca) (.type "BaseException") = some true
  ty : PySem.W.typeIn W.K (.ref Ca) = some (.type "type")
theorem s_raise0 {k : Nat} {x m : Str} {j : Nat} {Ca : Addr} {p p2 pos2 : Pos} (T : Xc0 C.W x Ca) (hk : C.k = some k := by rfl) (hg : GlS C.sc x := by rfl) (hdb : (x == ("__debug__" : Str)) = false := by decide) :
    Snd1 C (.Raise (some (.Call (.Name x p) [.Constant (.str m) j p2] [] pos)) none pos2) (sRaise0 x) := fun Y u ρ o Φ e q => by
  have hw := u.w
  obtain ⟨W, N, sc, kc, dd⟩ := C
  cases hw
  cases e
  have o := u.ck hk
  intro τ σ H w hst
  refine s1.of (ps_raise o.calm o.tk (pmk_own PySem.F.excBase_ValueError T.x T.g T.kp (raises_own T.be T.ty) (u.gl hg) hdb)) ?_
  obtain ⟨G0, G1, ow, w⟩ := w
  exact ⟨⟨x, [], []⟩, ρ, τ, ⟨G0, G1, ow, w.push (t := .exc ⟨x, [], []⟩ (.ref Ca) none) ⟨Ca, T.g, rfl, .inl ⟨rfl, rfl, rfl⟩⟩ (fun a e => by cases e) fun a e => by cases e⟩, q⟩
/-- own op int -/
def onOI (c : Str) (G : List D → Option Res) : List D → Option Res := fun ds => match ds with
  | [.obj c' ns xs, .int j] => if c' = c then G [.obj c' ns xs, .int j] else none
  | _ => none
theorem onOI_some {c : Str} {G : List D → Option Res} {ds : List D} {res : Res} (h : onOI c G ds = some res) : ∃ ns xs j, ds = [.obj c ns xs, .int j] ∧ G ds = some res := by
  unfold onOI at h
  split at h
  · rename_i c' ns xs j
    split at h
    · rename_i e; subst e; exact ⟨ns, xs, j, rfl, h⟩
    · cases h
  · cases h
/-- own op own -/
def onOO (c : Str) (G : List D → Option Res) : List D → Option Res := fun ds => match ds with
  | [.obj c' ns xs, .obj c2 ms ys] => if c' = c ∧ c2 = c then G [.obj c' ns xs, .obj c2 ms ys] else none
  | _ => none
theorem onOO_some {c : Str} {G : List D → Option Res} {ds : List D} {res : Res} (h : onOO c G ds = some res) : ∃ ns xs ms ys, ds = [.obj c ns xs, .obj c ms ys] ∧ G ds = some res := by
  unfold onOO at h
  split at h
  · rename_i c' ns xs c2 ms ys
    split at h
    · rename_i e; obtain ⟨rfl, rfl⟩ := e; exact ⟨ns, xs, ms, ys, rfl, h⟩
    · cases h
  · cases h
/-- x in own -/
def onIn (c : Str) (G : List D → Option Res) : List D → Option Res := fun ds => match ds with
  | [x, .obj c' ns xs] => if c' = c then (match G [.obj c' ns xs, x] with | some (.ok r (.bl k)) => some (.ok r (.bl k)) | some (.exc e) => some (.exc e) | _ => none) else none
  | _ => none
theorem onIn_some {c : Str} {G : List D → Option Res} {ds : List D} {res : Res} (h : onIn c G ds = some res) : ∃ x ns xs, ds = [x, .obj c ns xs] ∧ G [.obj c ns xs, x] = some res ∧ ((∃ r k, res = .ok r (.bl k)) ∨ ∃ e, res = .exc e) := by
  unfold onIn at h
  split at h
  · rename_i x c' ns xs
    split at h
    · rename_i e
      subst e
      split at h
      · rename_i r k hg; cases h; exact ⟨x, ns, xs, rfl, hg, .inl ⟨r, k, rfl⟩⟩
      · rename_i e hg; cases h; exact ⟨x, ns, xs, rfl, hg, .inr ⟨e, rfl⟩⟩
      · cases h
    · cases h
  · cases h
/-- len(own) -/
def onLen (c : Str) (G : List D → Option Res) : List D → Option Res := fun ds => match ds with
  | [.obj c' ns xs] => if c' = c then (match G [.obj c' ns xs] with | some (.ok r (.int n)) => if 0 ≤ n ∧ n < 2 ^ 63 then some (.ok r (.int n)) else none | some (.exc e) => some (.exc e) | _ => none) else none
  | _ => none
theorem onLen_some {c : Str} {G : List D → Option Res} {ds : List D} {res : Res} (h : onLen c G ds = some res) : ∃ ns xs, ds = [.obj c ns xs] ∧ G ds = some res ∧ ((∃ r n, res = .ok r (.int n) ∧ 0 ≤ n ∧ n < 2 ^ 63) ∨ ∃ e, res = .exc e) := by
  unfold onLen at h
  split at h
  · rename_i c' ns xs
    split at h
    · rename_i e
      subst e
      split at h
      · rename_i r n hg
        split at h
        · rename_i hn; cases h; exact ⟨ns, xs, rfl, hg, .inl ⟨r, n, rfl, hn⟩⟩
        · cases h
      · rename_i e hg; cases h; exact ⟨ns, xs, rfl, hg, .inr ⟨e, rfl⟩⟩
      · cases h
    · cases h
  · cases h
variable {c : Str} {Ca g : Addr} {k kk : Nat}
theorem hd_binI {op : Operator} {fo ro rc : Option Value} (F : ObF C.W c Ca) (B : BinI C.W.K Ca op g fo ro rc) (hG : Fd C.W k g G) (hkk : C.k = some kk := by rfl) (hk : k ≤ kk := by decide) : CallHd C (.BinOp a op b pos) [a, b] (onOI c G) := ⟨fun Y u ρ P τ σ H QV w hv hq => by
  have hw := u.w
  have ok := u.ck hkk
  obtain ⟨W, N, sc, kc, dd⟩ := C
  cases hw
  obtain ⟨fd, ps, hbd, hF⟩ := hG.ex
  refine sE.of (pe_opZ (op_binI B hF (ok.rm.mono hk) hbd (fun σ => passAt ok.tk σ)) pe_s pe_s) ((hv τ σ H w).mono fun v H1 ⟨r, d, w1, hb⟩ => (hb _ σ H1 w1).mono fun z H2 ⟨r2, d2, w2, res, g1, pl⟩ => ?_)
  obtain ⟨ns, xs, j, e, _⟩ := onOI_some g1
  obtain ⟨rfl, e2⟩ := List.cons.inj e
  obtain ⟨rfl, _⟩ := List.cons.inj e2
  have ez := EnvOk.isInt w2
  subst ez
  obtain ⟨ad, C2, dx, vs, h1, h2, h3, h4, h5⟩ := EnvOk.objAt (EnvOk.pop w2)
  have h6 := F.mg.symm.trans h2
  cases h6
  subst h1
  obtain ⟨Hs, ds, res2, s1, rp, gg, post⟩ := hq [(r, .obj c ns xs), (r2, .int j)] [.ref ad, .int j] H2 res rfl w2 g1 pl
  obtain ⟨_, _, _, _, gg⟩ := onOI_some gg
  exact ⟨ad, dx, _, j, rfl, rfl, h3, Hs, ds, res2, s1, rp, gg, post⟩⟩
theorem hd_binO {op : Operator} (F : ObF C.W c Ca) (hs : PySem.W.findIn C.W.K (.ref Ca) (PySem.dunder op.info.2) = some (some (.ref g))) (hf : PySem.W.isFn C.W.K (.ref g) = true) (hc : PySem.W.selfFirst C.W.K Ca = true) (hG : Fd C.W k g G) (hkk : C.k = some kk := by rfl) (hk : k ≤ kk := by decide) :
    CallHd C (.BinOp a op b pos) [a, b] (onOO c G) := ⟨fun Y u ρ P τ σ H QV w hv hq => by
  have hw := u.w
  have ok := u.ck hkk
  obtain ⟨W, N, sc, kc, dd⟩ := C
  cases hw
  obtain ⟨fd, ps, hbd, hF⟩ := hG.ex
  refine sE.of (pe_opZ (op_binO hs hf hc hF (ok.rm.mono hk) hbd (fun σ => passAt ok.tk σ)) pe_s pe_s) ((hv τ σ H w).mono fun v H1 ⟨r, d, w1, hb⟩ => (hb _ σ H1 w1).mono fun z H2 ⟨r2, d2, w2, res, g1, pl⟩ => ?_)
  obtain ⟨ns, xs, ms, ys, e, _⟩ := onOO_some g1
  obtain ⟨rfl, e2⟩ := List.cons.inj e
  obtain ⟨rfl, _⟩ := List.cons.inj e2
  obtain ⟨ad, C2, dx, vs, h1, h2, h3, h4, h5⟩ := EnvOk.objAt (EnvOk.pop w2)
  obtain ⟨bd, C3, dy, us, j1, j2, j3, j4, j5⟩ := EnvOk.objAt w2
  have h6 := F.mg.symm.trans h2
  cases h6
  have h7 := F.mg.symm.trans j2
  cases h7
  subst h1 j1
  obtain ⟨Hs, ds, res2, s1, rp, gg, post⟩ := hq [(r, .obj c ns xs), (r2, .obj c ms ys)] [.ref ad, .ref bd] H2 res rfl w2 g1 pl
  obtain ⟨_, _, _, _, _, gg⟩ := onOO_some gg
  exact ⟨ad, dx, _, bd, dy, _, rfl, rfl, h3, j3, Hs, ds, res2, s1, rp, gg, post⟩⟩
theorem hd_cmpO {op : CmpOp} (hop : ∀ a b, compareOp op a b = richCompare op a b) (F : ObF C.W c Ca) (hs : PySem.W.findIn C.W.K (.ref Ca) (cmpInfo op).2.1 = some (some (.ref g))) (hf : PySem.W.isFn C.W.K (.ref g) = true) (hG : Fd C.W k g G) (hkk : C.k = some kk := by rfl) (hk : k ≤ kk := by decide) (hm : behindInMarks op b = false := by first | exact nomark _ | with_unfolding_all rfl) :
    CallHd C (.Compare a [op] [b] pos) [a, b] (onOO c G) := ⟨fun Y u ρ P τ σ H QV w hv hq => by
  have hw := u.w
  have ok := u.ck hkk
  obtain ⟨W, N, sc, kc, dd⟩ := C
  cases hw
  obtain ⟨fd, ps, hbd, hF⟩ := hG.ex
  refine sE.of (pe_cmpZ (op_cmpO hop hs hf hF (ok.rm.mono hk) hbd (fun σ => passAt ok.tk σ)) pe_s pe_s hm) ((hv τ σ H w).mono fun v H1 ⟨r, d, w1, hb⟩ => (hb _ σ H1 w1).mono fun z H2 ⟨r2, d2, w2, res, g1, pl⟩ => ?_)
  obtain ⟨ns, xs, ms, ys, e, _⟩ := onOO_some g1
  obtain ⟨rfl, e2⟩ := List.cons.inj e
  obtain ⟨rfl, _⟩ := List.cons.inj e2
  obtain ⟨ad, C2, dx, vs, h1, h2, h3, h4, h5⟩ := EnvOk.objAt (EnvOk.pop w2)
  obtain ⟨bd, C3, dy, us, j1, j2, j3, j4, j5⟩ := EnvOk.objAt w2
  have h6 := F.mg.symm.trans h2
  cases h6
  have h7 := F.mg.symm.trans j2
  cases h7
  subst h1 j1
  obtain ⟨Hs, ds, res2, s1, rp, gg, post⟩ := hq [(r, .obj c ns xs), (r2, .obj c ms ys)] [.ref ad, .ref bd] H2 res rfl w2 g1 pl
  obtain ⟨_, _, _, _, _, gg⟩ := onOO_some gg
  exact ⟨ad, dx, _, bd, dy, _, rfl, rfl, h3, j3, Hs, ds, res2, s1, rp, gg, post⟩⟩
theorem hd_in (F : ObF C.W c Ca) (hs : PySem.W.findIn C.W.K (.ref Ca) "__contains__" = some (some (.ref g))) (hf : PySem.W.isFn C.W.K (.ref g) = true) (hG : Fd C.W k g G) (hkk : C.k = some kk := by rfl) (hk : k ≤ kk := by decide) (hm : behindInMarks .In b = false := by first | exact nomark _ | with_unfolding_all rfl) :
    CallHd C (.Compare a [.In] [b] pos) [a, b] (onIn c G) := ⟨fun Y u ρ P τ σ H QV w hv hq => by
  have hw := u.w
  have ok := u.ck hkk
  obtain ⟨W, N, sc, kc, dd⟩ := C
  cases hw
  obtain ⟨fd, ps, hbd, hF⟩ := hG.ex
  refine sE.of (pe_cmpZ (op_inO hs hf hF (ok.rm.mono hk) hbd (fun σ => passAt ok.tk σ)) pe_s pe_s hm) ((hv τ σ H w).mono fun v H1 ⟨r, d, w1, hb⟩ => (hb _ σ H1 w1).mono fun z H2 ⟨r2, d2, w2, res, g1, pl⟩ => ?_)
  obtain ⟨x, ns, xs, e, _, _⟩ := onIn_some g1
  obtain ⟨rfl, e2⟩ := List.cons.inj e
  obtain ⟨rfl, _⟩ := List.cons.inj e2
  obtain ⟨ad, C2, dx, vs, h1, h2, h3, h4, h5⟩ := EnvOk.objAt w2
  have h6 := F.mg.symm.trans h2
  cases h6
  subst h1
  obtain ⟨Hs, ds, res2, s1, rp, gg, post⟩ := hq [(r, d), (r2, .obj c ns xs)] [v, .ref ad] H2 res rfl w2 g1 pl
  obtain ⟨x3, ns3, xs3, e3, gg2, hr⟩ := onIn_some gg
  clear gg
  subst e3
  refine ⟨ad, dx, _, rfl, h3, Hs, _, res2, s1, ?_, gg2, ?_⟩
  · simp only [Reps] at rp ⊢
    obtain ⟨v1, r1, e1, p1, v2, r2, e2, p2, e3⟩ := rp
    subst e3 e2
    cases e1
    exact ⟨_, _, rfl, p2, _, _, rfl, p1, rfl⟩
  · rcases hr with ⟨r3, k3, rfl⟩ | ⟨e, rfl⟩
    · exact ⟨post.1, fun v3 H3 G3 q1 q2 q3 q4 => ⟨k3, (by simpa only [Rep] using q4), by have := post.2 v3 H3 G3 q1 q2 q3 q4; simp only [Rep] at q4; rw [q4] at this; exact this⟩⟩
    · exact post⟩
theorem hd_neg (F : ObF C.W c Ca) (hs : PySem.W.findIn C.W.K (.ref Ca) "__neg__" = some (some (.ref g))) (hf : PySem.W.isFn C.W.K (.ref g) = true) (hG : Fd C.W k g G) (hkk : C.k = some kk := by rfl) (hk : k ≤ kk := by decide) : CallHd C (.UnaryOp .USub a pos) [a] (onObj c G) := ⟨fun Y u ρ P τ σ H QV w hv hq => by
  have hw := u.w
  have ok := u.ck hkk
  obtain ⟨W, N, sc, kc, dd⟩ := C
  cases hw
  obtain ⟨fd, ps, hbd, hF⟩ := hG.ex
  refine sE.of (pe_negZ hs hf hF (ok.rm.mono hk) hbd (fun σ => passAt ok.tk σ) pe_s) ((hv τ σ H w).mono fun v H1 ⟨r, d, w1, res, g1, pl⟩ => ?_)
  obtain ⟨ns, xs, rr, e, _⟩ := onObj_some g1
  cases e
  obtain ⟨ad, C2, dx, vs, h1, h2, h3, h4, h5⟩ := EnvOk.objAt w1
  have h6 := F.mg.symm.trans h2
  cases h6
  subst h1
  obtain ⟨Hs, ds, res2, s1, rp, gg, post⟩ := hq [(r, .obj c ns xs)] [.ref ad] H1 res rfl w1 g1 pl
  obtain ⟨_, _, _, _, gg⟩ := onObj_some gg
  exact ⟨ad, dx, _, rfl, h3, Hs, ds, res2, s1, rp, gg, post⟩⟩
theorem hd_len {p : Pos} [NB C.W] (F : ObF C.W c Ca) (hs : PySem.W.findIn C.W.K (.ref Ca) "__len__" = some (some (.ref g))) (hf : PySem.W.isFn C.W.K (.ref g) = true) (hG : Fd C.W k g G) (hkk : C.k = some kk := by rfl) (hk : k + 1 ≤ kk := by decide) (hp : plain a = true := by rfl) (hg : GlS C.sc "len" := by rfl) :
    CallHd C (.Call (.Name "len" p) [a] [] pos) [a] (onLen c G) := ⟨fun Y u ρ P τ σ H QV w hv hq => by
  have nb : Y.X.mg "len" = none := u.nb (by decide)
  have gl := u.gl hg
  have hw := u.w
  have ok := u.ck hkk
  obtain ⟨W, N, sc, kc, dd⟩ := C
  cases hw
  obtain ⟨fd, ps, hbd, hF⟩ := hG.ex
  refine sE.of (pe_lenZ hs hf hF (ok.rm.mono hk) hbd (fun σ => passAt ok.tk σ) gl nb pe_s (star_plain hp)) ((hv τ σ H w).mono fun v H1 ⟨r, d, w1, res, g1, pl⟩ => ?_)
  obtain ⟨ns, xs, e, _, _⟩ := onLen_some g1
  cases e
  obtain ⟨ad, C2, dx, vs, h1, h2, h3, h4, h5⟩ := EnvOk.objAt w1
  have h6 := F.mg.symm.trans h2
  cases h6
  subst h1
  obtain ⟨Hs, ds, res2, s1, rp, gg, post⟩ := hq [(r, .obj c ns xs)] [.ref ad] H1 res rfl w1 g1 pl
  obtain ⟨_, _, _, gg, hr⟩ := onLen_some gg
  refine ⟨ad, dx, _, rfl, h3, Hs, ds, res2, s1, rp, gg, ?_⟩
  rcases hr with ⟨r3, n3, rfl, hn⟩ | ⟨e, rfl⟩
  · exact ⟨post.1, fun v3 H3 G3 q1 q2 q3 q4 => ⟨n3, (by simpa only [Rep] using q4), hn, by have := post.2 v3 H3 G3 q1 q2 q3 q4; simp only [Rep] at q4; rw [q4] at this; exact this⟩⟩
  · exact post⟩
/-- isinstance(x, C), x of the class C -/
def oIsC (c : Str) : OP := fun _ x => match x with | .obj c' _ _ => if c' = c then vB true else none | _ => none
theorem ve_isC {p q : Pos} {Q : Rg → D → Prop} (hm : Y.X.mg "isinstance" = none) (hc : Y.X.mg c = some (.ref Ca)) (I : IsF Y.X.K Ca) (hh : VE Y ρ a fun _ d => ∃ ns ds, d = .obj c ns ds ∧ Q .nw (.bl true))
    (hp : plain a = true) (hg : Gl Y.X "isinstance") (hg2 : Gl Y.X c) (hd : (c == ("__debug__" : Str)) = false) : VE Y ρ (.Call (.Name "isinstance" p) [a, .Name c q] [] pos) Q := fun τ σ H w =>
  sE.of (pe_callB (call_isZ I) hg hm (by decide +kernel) (pa_cons pe_s (pa_cons (pe_glob (v := .ref Ca) hg2 hc rfl hd) pa_nil (star_plain rfl)) (star_plain hp)) (by decide) (by decide) (star_plain hp) (by rw [star_plain rfl]; rfl))
    ((hh τ σ H w).mono fun v H1 ⟨r1, d, w1, ns, ds, e, qq⟩ => by
      subst e
      obtain ⟨ad, C2, dx, vs, h1, h2, h3, h4, h5⟩ := EnvOk.objAt w1
      have h6 := hc.symm.trans h2
      cases h6
      subst h1
      exact ⟨ad, dx, _, rfl, h3, _, _, (EnvOk.pop w1).bl true, qq⟩)
theorem e_isC {p q : Pos} [NB C.W] (F : ObF C.W c Ca) (I : IsF C.W.K Ca) (ha : SndE C a f) (hp : plain a = true := by rfl) (hg : GlS C.sc "isinstance" := by rfl) (hg2 : GlS C.sc c := by rfl) (hd : (c == ("__debug__" : Str)) = false := by decide) :
    SndE C (.Call (.Name "isinstance" p) [a, .Name c q] [] pos) (x1 f (oIsC c)) :=
  se1 ha (fun Y u ρ h => ve_isC (u.nb (by decide)) (by rw [u.mg]; exact F.mg) (by rw [u.K]; exact I) (VE.mono h fun _ _ z => z.elim) hp (u.gl hg) (u.gl hg2) hd) fun Y u ρ r d o ga e => by
    unfold oIsC at e
    split at e
    · split at e
      · rename_i hc
        subst hc
        cases e
        exact VX.of fun Q q => ve_isC (u.nb (by decide)) (by rw [u.mg]; exact F.mg) (by rw [u.K]; exact I) (ga _ ⟨_, _, rfl, q⟩) hp (u.gl hg) (u.gl hg2) hd
      · cases e
    · cases e
theorem ve_lenset {p p2 q : Pos} {Q : Rg → D → Prop} {k : Nat} (o : CyOk Y k) (hm : Y.X.mg "len" = none) (hm2 : Y.X.mg "set" = none) (hg : Gl Y.X "len") (hg2 : Gl Y.X "set") (hh : VE Y ρ a fun _ d => ∃ ns : List Int, d = .lst (ns.map .int) ∧ ns.length ≤ 4000 ∧ Q .nw (.int (PyProof_dcount ns : Nat)))
    (hp : plain a = true) : VE Y ρ (.Call (.Name "len" p) [.Call (.Name "set" p2) [a] [] q] [] pos) Q := fun τ σ H w =>
  sE.of (RZ.pe_lenSetZ hg hm hg2 hm2 pe_s o.calm (star_plain hp)) ((hh τ σ H w).mono fun v H1 ⟨r1, d, w1, ns, e, hl, qq⟩ => by
    subst e
    obtain ⟨ad, e1, hq⟩ := EnvOk.ints w1
    exact ⟨ad, ns, e1, .inl hq, hl, _, _, (EnvOk.pop w1).int _, qq⟩)
theorem e_lenset {p p2 q : Pos} {k : Nat} [NB C.W] (ha : SndE C a f) (hk : C.k = some k := by rfl) (hp : plain a = true := by rfl) (hg : GlS C.sc "len" := by rfl) (hg2 : GlS C.sc "set" := by rfl) : SndE C (.Call (.Name "len" p) [.Call (.Name "set" p2) [a] [] q] [] pos) (x1 f oLenSet) :=
  se1 ha (fun Y u ρ h => ve_lenset (u.ck hk) (u.nb (by decide)) (u.nb (by decide)) (u.gl hg) (u.gl hg2) (VE.mono h fun _ _ z => z.elim) hp) fun Y u ρ r d o ga e => by
    unfold oLenSet at e
    split at e
    · rename_i ds
      rw [Option.bind_eq_some_iff] at e
      obtain ⟨ns, e1, e2⟩ := e
      split at e2
      · rename_i hl
        cases e2
        rw [D.ints?_some e1] at ga
        exact VX.of fun Q q => ve_lenset (u.ck hk) (u.nb (by decide)) (u.nb (by decide)) (u.gl hg) (u.gl hg2) (ga _ ⟨ns, rfl, hl, q⟩) hp
      · cases e2
    · cases e
end
end VL

set_option Elab.async false
set_option linter.all false
set_option maxRecDepth 100000
set_option maxHeartbeats 4000000
/-! A new object as a value. -/
namespace VL
open PySem PySem.Spec PyProof.Rows L2
/-- a new object that is no longer changed -/
def xFz (f : XE) : XE := fun ρ => match f ρ with | some (.n r c) => some (.v r c.toD) | o => o
theorem e_fz {C : Cst} {e : Expr} {f : XE} (h : SndE C e f) : SndE C e (xFz f) := fun Y u ρ o eq => by
  unfold xFz at eq
  split at eq
  · rename_i r c hf
    cases eq
    exact VX.of fun Q q => VN.ve (VN.mono (h Y u ρ _ hf) fun r' c' ⟨e1, e2⟩ => by rw [e1, e2]; exact q)
  · exact h Y u ρ o eq
section
variable {C : Cst} {c : Str} {x : Addr} {rest : List Stmt} {k : XIs}
theorem fd_of {W : Wd} {x qual : Str} {st : Stmt} {f : Addr} {fd : FuncData} {N ps : List Str} {k : Nat} {body : XS} (F : Fun W.K x qual st f fd) (S : FnScope N ps (defScope st)) (hb : Binds W.K fd ps []) (h : SndS ⟨W, N, defScope st, some k, true⟩ (defBody st) body) : Fd W (k + 1) f (runD ps.length N.length body) :=
  ⟨fd, ps, hb, fn_def F S h⟩
theorem fdi_of {W : Wd} {c x qual : Str} {st : Stmt} {f Ca : Addr} {fd : FuncData} {N ps : List Str} {k : Nat} {body : Addr → XIs} (hm : W.mg c = some (.ref Ca)) (F : Fun W.K x qual st f fd) (S : FnScope N ps (defScope st)) (hb : Binds W.K fd ps []) (hN : 0 < N.length) (h : ∀ x, SndN ⟨W, N, defScope st, some k, true⟩ c x (defBody st) (body x)) :
    FdI W (k + 1) f Ca (runI ps.length N.length body) := ⟨fd, ps, hb, fn_init hm F S hN h⟩
end
end VL

set_option Elab.async false
set_option linter.all false
set_option maxRecDepth 100000
set_option maxHeartbeats 4000000
/-! Lots as data; their constructor, typed. -/
namespace VL
open PySem PySem.Spec PyProof.Rows L2
structure LotT where
  n : Int
  ms : List Int
def ctLot (l : LotT) : Ct := .ins "Lot" ["modulus", "_members"] [.int l.n, .lst (l.ms.map .int)]
instance : Enc LotT := ⟨fun l => (ctLot l).toD⟩
theorem toD_lot (l : LotT) : toD l = .obj "Lot" ["modulus", "_members"] [.int l.n, .lst (l.ms.map .int)] := rfl
theorem t_Lot_modulus {r : Rg} {l : LotT} : oFld "Lot" "modulus" r (toD l) = some (.v r.el (toD l.n)) := by
  have h1 : (("modulus" : Str) == "modulus") = true := by decide +kernel
  have e : ((["modulus", "_members"] : List Str).zip [D.int l.n, .lst (l.ms.map .int)]).lookup ("modulus" : Str) = some (D.int l.n) := by
    simp only [List.zip_cons_cons, List.lookup, h1]
  rw [toD_lot]
  simp only [oFld, if_true]
  rw [e]
  rfl
theorem t_Lot__members {r : Rg} {l : LotT} : oFld "Lot" "_members" r (toD l) = some (.v r.el (toD l.ms)) := by
  rw [toD_lot]
  simp only [oFld, if_true]
  have h1 : (("_members" : Str) == "modulus") = false := by decide +kernel
  have h2 : (("_members" : Str) == "_members") = true := by decide +kernel
  have e : ((["modulus", "_members"] : List Str).zip [D.int l.n, .lst (l.ms.map .int)]).lookup ("_members" : Str) = some (D.lst (l.ms.map .int)) := by
    simp only [List.zip_cons_cons, List.lookup, h1, h2]
  rw [e]
  rfl
theorem t_Lot_LARGEST {r : Rg} {l : LotT} : oCon "Lot" "LARGEST" 1000 r (toD l) = some (.v .nw (toD (1000 : Int))) := by
  have h1 : (("LARGEST" : Str) == "modulus") = false := by decide +kernel
  have h2 : (("LARGEST" : Str) == "_members") = false := by decide +kernel
  have e : ((["modulus", "_members"] : List Str).zip [D.int l.n, .lst (l.ms.map .int)]).lookup ("LARGEST" : Str) = none := by
    simp only [List.zip_cons_cons, List.lookup, h1, h2, List.zip_nil_right]
  rw [toD_lot]
  simp only [oCon, e, and_self, if_true]
  rfl
theorem t_isLot {r : Rg} {l : LotT} : oIsC "Lot" r (toD l) = some (.v .nw (toD true)) := by
  rw [toD_lot]; simp only [oIsC, if_true]; rfl
section
variable {α β : Type} {G : List D → Option Res} {m : R α} {mk : α → Res} {ds : List D}
def R.nx : R α → R α | .ex _ => .no | m => m
theorem TF_noExc (h : TF (G ds) m mk) (hm : ∀ a x, mk a ≠ .exc x) : TF (noExc G ds) (R.nx m) mk := by
  cases m with
  | no => trivial
  | ex x => trivial
  | ok a =>
    have h : G ds = some (mk a) := h
    show noExc G ds = some (mk a)
    unfold noExc
    rw [h]
    cases hk : mk a with
    | exc x => exact absurd hk (hm a x)
    | ok r d => rfl
    | new r c => rfl
theorem TF_noOk (h : TF (G ds) m mk) (hm : ∀ a r d, mk a ≠ .ok r d) : TF (noOk G ds) m mk := by
  cases m with
  | no => trivial
  | ex x => have h : G ds = some (.exc x) := h; show noOk G ds = _; unfold noOk; rw [h]
  | ok a =>
    have h : G ds = some (mk a) := h
    show noOk G ds = some (mk a)
    unfold noOk
    rw [h]
    cases hk : mk a with
    | ok r d => exact absurd hk (hm a r d)
    | exc x => rfl
    | new r c => rfl
theorem TF_onObj {c : Str} {ns : List Str} {xs r : List D} (h : TF (G (.obj c ns xs :: r)) m mk) : TF (onObj c G (.obj c ns xs :: r)) m mk := by
  have e : onObj c G (.obj c ns xs :: r) = G (.obj c ns xs :: r) := if_pos rfl
  rw [e]; exact h
theorem TF_onOI {c : Str} {ns : List Str} {xs : List D} {j : Int} (h : TF (G [.obj c ns xs, .int j]) m mk) : TF (onOI c G [.obj c ns xs, .int j]) m mk := by
  have e : onOI c G [.obj c ns xs, .int j] = G [.obj c ns xs, .int j] := if_pos rfl
  rw [e]; exact h
theorem TF_onOO {c : Str} {ns ms : List Str} {xs ys : List D} (h : TF (G [.obj c ns xs, .obj c ms ys]) m mk) : TF (onOO c G [.obj c ns xs, .obj c ms ys]) m mk := by
  have e : onOO c G [.obj c ns xs, .obj c ms ys] = G [.obj c ns xs, .obj c ms ys] := if_pos ⟨rfl, rfl⟩
  rw [e]; exact h
theorem TF_onIn {c : Str} {ns : List Str} {xs : List D} {d : D} {m : R Bool} {r : Rg} (h : TF (G [.obj c ns xs, d]) m fun b => .ok r (toD b)) : TF (onIn c G [d, .obj c ns xs]) m fun b => .ok r (toD b) := by
  cases m with
  | no => trivial
  | ex x => have h : G [.obj c ns xs, d] = some (.exc x) := h; show onIn c G _ = _; unfold onIn; simp only [if_true, h]
  | ok a => have h : G [.obj c ns xs, d] = some (.ok r (.bl a)) := h; show onIn c G _ = some (.ok r (.bl a)); unfold onIn; simp only [if_true, h]
theorem TF_onLen {c : Str} {ns : List Str} {xs : List D} {m : R Int} {r : Rg} (h : TF (G [.obj c ns xs]) m fun b => .ok r (toD b)) : TF (onLen c G [.obj c ns xs]) (m.bind fun n => gd (0 ≤ n ∧ n < 2 ^ 63) (.ok n)) fun b => .ok r (toD b) := by
  cases m with
  | no => trivial
  | ex x => have h : G [.obj c ns xs] = some (.exc x) := h; show onLen c G _ = _; unfold onLen; simp only [if_true, h]
  | ok a =>
    have h : G [.obj c ns xs] = some (.ok r (.int a)) := h
    show TF _ (gd (0 ≤ a ∧ a < 2 ^ 63) (.ok a)) _
    by_cases hn : 0 ≤ a ∧ a < 2 ^ 63
    · rw [gd_t hn]; show onLen c G _ = some (.ok r (.int a)); unfold onLen; simp only [if_true, h, if_pos hn]
    · rw [gd_f hn]; trivial
theorem TE_fz {f : XE} {ρ : List B} {g : α → Rg} {c : α → Ct} (h : TE (f ρ) m fun a => .n (g a) (c a)) : TE (xFz f ρ) m fun a => .v (g a) (c a).toD := by
  cases m with
  | no => trivial
  | ok a => have h : f ρ = some (.n (g a) (c a)) := h; show xFz f ρ = _; unfold xFz; rw [h]
  | ex x => have h : f ρ = some (.x x) := h; show xFz f ρ = _; unfold xFz; rw [h]
theorem Efzx {f : XE} {ρ : List B} {x : Exc} (h : f ρ = some (.x x)) : xFz f ρ = some (.x x) := by unfold xFz; rw [h]
end
section
variable {G : List D → Option Res} {α : Type} {m : R α} {mk : α → Res} {l k : LotT} {r : List D}
theorem TL_obj (h : TF (G (toD l :: r)) m mk) : TF (onObj "Lot" G (toD l :: r)) m mk := TF_onObj h
theorem TL_prop (h : TF (G [toD l]) m mk) (hm : ∀ a x, mk a ≠ .exc x) : TF (onObj "Lot" (noExc G) [toD l]) (R.nx m) mk := TF_onObj (TF_noExc h hm)
theorem TL_oi {j : Int} (h : TF (G [toD l, toD j]) m mk) : TF (onOI "Lot" G [toD l, toD j]) m mk := TF_onOI h
theorem TL_oo (h : TF (G [toD l, toD k]) m mk) : TF (onOO "Lot" G [toD l, toD k]) m mk := TF_onOO h
theorem TL_in {d : D} {m : R Bool} {rg : Rg} (h : TF (G [toD l, d]) m fun b => .ok rg (toD b)) : TF (onIn "Lot" G [d, toD l]) m fun b => .ok rg (toD b) := TF_onIn h
theorem TL_len {m : R Int} {rg : Rg} (h : TF (G [toD l]) m fun b => .ok rg (toD b)) : TF (onLen "Lot" G [toD l]) (m.bind fun n => gd (0 ≤ n ∧ n < 2 ^ 63) (.ok n)) fun b => .ok rg (toD b) := TF_onLen h
end
/-- a value that is a lot -/
def asLot : D → LotT := fun d => match d with | .obj _ _ [.int n, .lst ds] => ⟨n, (D.ints? ds).getD []⟩ | _ => ⟨0, []⟩
theorem asLot_toD (l : LotT) : asLot (toD l) = l := by
  show (⟨l.n, (D.ints? (l.ms.map .int)).getD []⟩ : LotT) = l
  rw [D.ints?_map]; rfl
theorem E_as {fe : XE} {ρ : List B} {r : Rg} {d : D} (pf : fe ρ = some (.v r d)) (h : d = toD (asLot d)) : fe ρ = some (.v r (toD (asLot d))) := by rw [← h]; exact pf
/-! ### comprehensions whose parts call -/
section
variable {α β : Type} [Enc α] [Enc β] {xs : List α} {ρ : List B} {r : Rg}
def lcR {α β : Type} (f : α → R β) : List α → R (List β)
  | [] => .ok []
  | a :: l => (R.nx (f a)).bind fun b => (lcR f l).bind fun r => .ok (b :: r)
def compR {α β : Type} (c : α → R Bool) (f : α → R β) : List α → R (List β)
  | [] => .ok []
  | a :: l => (R.nx (c a)).bind fun k => if k = true then (R.nx (f a)).bind fun b => (compR c f l).bind fun r => .ok (b :: r) else compR c f l
def one {α : Type} : α → R Bool := fun _ => .ok true
def lcc (cond : Option XE) (ρ2 : List B) : Option Bool := match cond with | none => some true | some c => (match c ρ2 with | some (.v _ (.bl k)) => some k | _ => none)
def CondOk (cond : Option XE) (ρ2 : List B) (m : R Bool) : Prop := match m with | .ok k => lcc cond ρ2 = some k | _ => True
theorem cond_none {ρ2 : List B} : CondOk none ρ2 (.ok true) := rfl
theorem cond_some {c : XE} {ρ2 : List B} {m : R Bool} (h : TE (c ρ2) m fun k => .v .nw (.bl k)) : CondOk (some c) ρ2 m := by
  cases m with
  | no => trivial
  | ex y => trivial
  | ok k =>
    have h : c ρ2 = some (.v .nw (.bl k)) := h
    show (match c ρ2 with | some (.v _ (.bl k)) => some k | _ => none) = some k
    rw [h]
theorem lcE_cons {cond : Option XE} {elt : XE} {t : Tg} {d : D} {ds : List D} : lcE cond elt t r ρ (d :: ds) = (bnd t r d ρ).bind fun ρ2 => match lcc cond ρ2 with
    | none => none
    | some false => lcE cond elt t r ρ ds
    | some true => (match elt ρ2 with
      | some (.v r2 d2) => if (nm r2 d2).st = true then (lcE cond elt t r ρ ds).map fun p => ((nm r2 d2).mx p.1, d2 :: p.2) else none
      | some (.n r2 c2) => if r2.st = true then (lcE cond elt t r ρ ds).map fun p => ((nm r2 c2.toD).mx p.1, c2.toD :: p.2) else none
      | _ => none) := by cases cond <;> rfl
theorem lcE_ok {cond : Option XE} {elt : XE} {tg : Tg} {c : α → R Bool} {f : α → R β} : ∀ {xs : List α}, (∀ x ∈ xs, ∃ ρ2, bnd tg r (toD x) ρ = some ρ2 ∧ CondOk cond ρ2 (c x) ∧ (c x = .ok true → ∃ r3, TE (elt ρ2) (f x) (fun b => .v r3 (toD b)) ∧ ∀ b : β, nm r3 (toD b) = .nw)) →
    ∀ m, compR c f xs = m → (match m with | .ok l => lcE cond elt tg r ρ (xs.map toD) = some (.nw, l.map toD) | .no => True | .ex _ => False)
  | [], _, m, e => by subst e; rfl
  | x :: xs, h, m, e => by
    obtain ⟨ρ2, h1, h2, h3⟩ := h x List.mem_cons_self
    have ih := lcE_ok (xs := xs) fun y hy => h y (List.mem_cons_of_mem _ hy)
    cases hc : c x with
    | no => simp only [compR, hc, R.nx, R.no_bind] at e; subst e; trivial
    | ex y => simp only [compR, hc, R.nx, R.no_bind] at e; subst e; trivial
    | ok k =>
      rw [hc] at h2
      have hk : lcc cond ρ2 = some k := h2
      cases k with
      | false =>
        simp only [compR, hc, R.nx, R.ok_bind, Bool.false_eq_true, if_false] at e
        have := ih m e
        cases m with
        | no => trivial
        | ex y => exact this
        | ok l =>
          show lcE cond elt tg r ρ (toD x :: xs.map toD) = _
          rw [lcE_cons, h1]
          simp only [Option.bind_some, hk]
          exact this
      | true =>
        obtain ⟨r3, h4, h5⟩ := h3 hc
        simp only [compR, hc, R.nx, R.ok_bind, if_true] at e
        cases hf : f x with
        | no => simp only [hf, R.nx, R.no_bind] at e; subst e; trivial
        | ex y => simp only [hf, R.nx, R.no_bind] at e; subst e; trivial
        | ok b =>
          rw [hf] at h4
          have h4 : elt ρ2 = some (.v r3 (toD b)) := h4
          simp only [hf, R.nx, R.ok_bind] at e
          cases hr : compR c f xs with
          | no => rw [hr] at e; simp only [R.no_bind] at e; subst e; trivial
          | ex y => exact (ih _ hr).elim
          | ok l =>
            have hl : lcE cond elt tg r ρ (xs.map toD) = some (.nw, l.map toD) := ih _ hr
            rw [hr] at e
            simp only [R.ok_bind] at e
            subst e
            show lcE cond elt tg r ρ (toD x :: xs.map toD) = _
            rw [lcE_cons, h1]
            simp only [Option.bind_some, hk, h4, h5 b]
            rw [if_pos (show Rg.nw.st = true from rfl), hl]
            rfl
theorem TE_lcF {own : List Nat} {tg : Tg} {it : XI} {cond : Option XE} {elt : XE} {c : α → R Bool} {f : α → R β} (hn : own.all (noS ρ) = true) (hi : it ρ = some (.ok r (xs.map toD))) (hz : xs.length ≤ sizeLine)
    (h : ∀ x ∈ xs, ∃ ρ2, bnd tg r (toD x) ρ = some ρ2 ∧ CondOk cond ρ2 (c x) ∧ (c x = .ok true → ∃ r3, TE (elt ρ2) (f x) (fun b => .v r3 (toD b)) ∧ ∀ b : β, nm r3 (toD b) = .nw)) :
    TE (xLc own tg it cond elt ρ) (compR c f xs) fun l => .n .nw (.lst (l.map toD)) := by
  have k := lcE_ok h
  cases hr : compR c f xs with
  | no => trivial
  | ex y => exact (k _ hr).elim
  | ok l =>
    have hl : lcE cond elt tg r ρ (xs.map toD) = some (.nw, l.map toD) := k _ hr
    show xLc own tg it cond elt ρ = _
    unfold xLc
    rw [if_pos hn, hi]
    simp only
    rw [if_pos (by rw [List.length_map]; exact hz), hl]
    rfl
theorem compR_one {f : α → R β} : ∀ xs : List α, compR one f xs = lcR f xs
  | [] => rfl
  | x :: xs => by
    show (R.nx (one x)).bind _ = _
    show (R.nx (f x)).bind (fun b => (compR one f xs).bind fun r => .ok (b :: r)) = _
    rw [compR_one xs]
    rfl
theorem TE_lc {own : List Nat} {tg : Tg} {it : XI} {elt : XE} {f : α → R β} (hn : own.all (noS ρ) = true) (hi : it ρ = some (.ok r (xs.map toD))) (hz : xs.length ≤ sizeLine)
    (h : ∀ x ∈ xs, ∃ ρ2, bnd tg r (toD x) ρ = some ρ2 ∧ ∃ r3, TE (elt ρ2) (f x) (fun b => .v r3 (toD b)) ∧ ∀ b : β, nm r3 (toD b) = .nw) : TE (xLc own tg it none elt ρ) (lcR f xs) fun l => .n .nw (.lst (l.map toD)) := by
  rw [← compR_one]
  exact TE_lcF hn hi hz fun x hx => by
    obtain ⟨ρ2, h1, r3, h2, h3⟩ := h x hx
    exact ⟨ρ2, h1, cond_none, fun _ => ⟨r3, h2, h3⟩⟩
end
/-! ### the constructor -/
noncomputable def c_Lot_init (G : List D → Option Res) (x : Addr) : XIs :=
  iGd "Lot" (xNot (xChain (xInt 1) (xVar 1) (x1 (xVar 0) (oCon "Lot" "LARGEST" 1000)) oLe oLe)) (sCons (sRaise "InvalidModulus" "modulus" (xVar 1)) sNil) <|
  iGd "Lot" (x2 (x1 (xVar 2) oLen) (xInt 0) oEq) (sCons (sRaise0 "EmptyLot") sNil) <|
  iStm x (sSet 3 (xLc [4] (.nm 4) (iSeq (xVar 2)) none (x2 (xVar 4) (xVar 1) oMod))) <|
  iGd "Lot" (x2 (x1 (xVar 3) oLenSet) (x1 (xVar 3) oLen) oLt) (sCons (sRaise "RepeatedMember" "number" (xCall G [xVar 3])) sNil) <|
  iPut "Lot" "modulus" (xVar 1) <| iPut "Lot" "_members" (x1 (xVar 3) oSorted) (iEnd "Lot")
noncomputable def f_Lot_init (G : List D → Option Res) : List D → Option Res := runI 3 5 (c_Lot_init G)
/-- Lot(n, ms), told -/
noncomputable def pLot (pG : List Int → R D) (n : Int) (ms : List Int) : R LotT :=
  if 1 ≤ n ∧ n ≤ 1000 then
    if ms = [] then .ex ⟨"EmptyLot", [], []⟩
    else gd (ms.length ≤ 4000) <|
      if PyProof_dcount (ms.map (· % n)) < ms.length then (pG (ms.map (· % n))).bind fun d => gd (d.sc = true) (.ex ⟨"RepeatedMember", ["number"], [d]⟩)
      else .ok ⟨n, sortI (ms.map (· % n))⟩
  else .ex ⟨"InvalidModulus", ["modulus"], [.int n]⟩
theorem q_Lot_init {G : List D → Option Res} {pG : List Int → R D} (hG : ∀ l : List Int, TF (G [toD l]) (pG l) fun v => .ok .nw v) (n : Int) (ms : List Int) : TF (f_Lot_init G [toD n, toD ms]) (pLot pG n ms) (fun l => .new .nw (ctLot l)) := by
  have run : ∀ res : Res, (∀ x, c_Lot_init G x (.nw, [], []) (startI x [toD n, toD ms] 5) = some res) → f_Lot_init G [toD n, toD ms] = some res := fun res h => runI_of rfl h
  have hs : ∀ x, startI x [toD n, toD ms] 5 = [.raw (.ref x), .v .nw (toD n), .v .od (toD ms), .no, .no] := fun x => rfl
  have t1 : ∀ x, xNot (xChain (xInt 1) (xVar 1) (x1 (xVar 0) (oCon "Lot" "LARGEST" 1000)) oLe oLe) [.own .nw (.ins "Lot" [] []), .v .nw (toD n), .v .od (toD ms), .no, (x : B)] = some (.v .nw (.bl (!(decide (1 ≤ n) && decide (n ≤ 1000))))) := fun x => by
    have h0 : x1 (xVar 0) (oCon "Lot" "LARGEST" 1000) [.own .nw (.ins "Lot" [] []), .v .nw (toD n), .v .od (toD ms), .no, (x : B)] = some (.v .nw (.int 1000)) := by
      show oCon "Lot" "LARGEST" 1000 .tn (.obj "Lot" [] []) = _
      simp [oCon, vI]
    unfold xNot xChain
    rw [h0]
    by_cases h1 : 1 ≤ n
    · by_cases h2 : n ≤ 1000
      · simp [xVar, xC, bE, bB, oLe, vB, toD, Enc.toD, h1, h2]
      · simp [xVar, xC, bE, bB, oLe, vB, toD, Enc.toD, h1, h2]
    · simp [xVar, xC, bE, bB, oLe, vB, toD, Enc.toD, h1]
  unfold pLot
  by_cases hn : 1 ≤ n ∧ n ≤ 1000
  · rw [if_pos hn]
    have hb1 : (!(decide (1 ≤ n) && decide (n ≤ 1000))) = false := by simp [hn.1, hn.2]
    have t2 : ∀ x : B, x2 (x1 (xVar 2) oLen) (xInt 0) oEq [.own .nw (.ins "Lot" [] []), .v .nw (toD n), .v .od (toD ms), .no, x] = some (.v .nw (.bl (decide ((ms.length : Int) = 0)))) := fun x =>
      E2 (E1 (rfl : xVar 2 _ = some (.v .od (toD ms))) t_len) (rfl : xC (.int 0) _ = some (.v .nw (toD (0 : Int)))) t_eqi
    by_cases hms : ms = []
    · rw [if_pos hms]
      subst hms
      refine run _ fun x => ?_
      rw [hs]
      unfold c_Lot_init
      simp only [iGd, List.set_cons_zero, ownV, t1, hb1, t2]
      rfl
    · rw [if_neg hms]
      by_cases hz : ms.length ≤ 4000
      · rw [gd_t hz]
        have hb2 : decide ((ms.length : Int) = 0) = false := by
          have : ms.length ≠ 0 := fun e => hms (List.length_eq_zero_iff.mp e)
          simp; exact hms
        have t3 : ∀ x : Addr, sSet 3 (xLc [4] (.nm 4) (iSeq (xVar 2)) none (x2 (xVar 4) (xVar 1) oMod)) [.raw (.ref x), .v .nw (toD n), .v .od (toD ms), .no, .no] = some (.nx [.raw (.ref x), .v .nw (toD n), .v .od (toD ms), .own .nw (.lst ((ms.map (· % n)).map toD)), .no]) := fun x => by
          have := Elc (own := [4]) (tg := .nm 4) (it := iSeq (xVar 2)) (elt := x2 (xVar 4) (xVar 1) oMod) (ρ := [.raw (.ref x), .v .nw (toD n), .v .od (toD ms), .no, .no]) (h := fun x1 : Int => (x1 % n : Int)) rfl (I_v (xs := ms) (rfl : xVar 2 _ = some (.v .od (toD ms))) rfl) (by
            have : sizeLine = _ := sizeLine_eq
            omega) fun x1 hm => ⟨_, (b_nm (.inr rfl)), _, (E2 (rfl : xVar 4 _ = some (.v .nw (toD (α := Int) x1))) (rfl : xVar 1 _ = some (.v .nw (toD n))) (t_mod (by omega))), by first | rfl | exact nm_nw⟩
          unfold sSet
          rw [this]
          rfl
        have t4 : ∀ x : B, x2 (x1 (xVar 3) oLenSet) (x1 (xVar 3) oLen) oLt [.own .nw (.ins "Lot" [] []), .v .nw (toD n), .v .od (toD ms), .own .nw (.lst ((ms.map (· % n)).map toD)), x] = some (.v .nw (.bl (decide (PyProof_dcount (ms.map (· % n)) < ms.length)))) := fun x => by
          have h1 : x1 (xVar 3) oLenSet [.own .nw (.ins "Lot" [] []), .v .nw (toD n), .v .od (toD ms), .own .nw (.lst ((ms.map (· % n)).map toD)), x] = some (.v .nw (.int (PyProof_dcount (ms.map (· % n)) : Nat))) := by
            show ((D.ints? ((ms.map (· % n)).map .int)).bind fun ns => if ns.length ≤ 4000 then vI (PyProof_dcount ns : Nat) else none) = _
            rw [D.ints?_map]
            show (if (ms.map (· % n)).length ≤ 4000 then _ else none) = _
            rw [if_pos (by simpa using hz)]
            rfl
          have h2 : x1 (xVar 3) oLen [.own .nw (.ins "Lot" [] []), .v .nw (toD n), .v .od (toD ms), .own .nw (.lst ((ms.map (· % n)).map toD)), x] = some (.v .nw (.int (ms.length : Int))) := by
            show vI ((((ms.map (· % n)).map (toD (α := Int))).length : Nat) : Int) = _
            rw [List.length_map, List.length_map]
            rfl
          refine E2 h1 h2 ?_
          show vB (decide (((PyProof_dcount (ms.map (· % n)) : Nat) : Int) < (ms.length : Int))) = _
          unfold vB
          congr 4
          exact propext Int.ofNat_lt
        by_cases hd : PyProof_dcount (ms.map (· % n)) < ms.length
        · rw [if_pos hd]
          have hb3 : decide (PyProof_dcount (ms.map (· % n)) < ms.length) = true := by simpa using hd
          have hg := hG (ms.map (· % n))
          have call : ∀ (ρ : List B), ρ[3]? = some (.own .nw (.lst ((ms.map (· % n)).map toD))) → TE (xCall G [xVar 3] ρ) (pG (ms.map (· % n))) (fun v => .v .nw v) := fun ρ hρ =>
            TE_call (f := fun v => EV.v .nw v) (l := [(.tn, toD (ms.map (· % n)))]) (by
              have : xVar 3 ρ = some (.v .tn (toD (ms.map (· % n)))) := by unfold xVar; rw [hρ]; rfl
              unfold xArgs; rw [this]; rfl) hg (fun v => (aft_ok ⟨rfl, .inl nm_nw⟩).trans (by rw [nm_nw]))
          have step : ∀ res : Res, (∀ ρ : List B, ρ[3]? = some (.own .nw (.lst ((ms.map (· % n)).map toD))) → ∃ e ρ', sCons (sRaise "RepeatedMember" "number" (xCall G [xVar 3])) sNil ρ = some (.ex e ρ') ∧ res = .exc e) → f_Lot_init G [toD n, toD ms] = some res := fun res hr => run _ fun x => by
            rw [hs]
            unfold c_Lot_init
            simp only [iGd, List.set_cons_zero, ownV, t1, hb1, t2, hb2, iStm, t3, t4, hb3]
            obtain ⟨e, ρ', e1, e2⟩ := hr [.own .nw (.ins "Lot" [] []), .v .nw (toD n), .v .od (toD ms), .own .nw (.lst ((ms.map (· % n)).map toD)), .no] rfl
            have hx : isX x [.raw (.ref x), .v .nw (toD n), .v .od (toD ms), .own .nw (.lst ((ms.map (· % n)).map toD)), .no] = true := by simp [isX]
            rw [if_pos hx, e1, e2]
          cases hp : pG (ms.map (· % n)) with
          | no => trivial
          | ok d =>
            show TF _ (gd (d.sc = true) _) _
            by_cases hsc : d.sc = true
            · rw [gd_t hsc]
              refine step _ fun ρ hρ => ?_
              have hc := call ρ hρ
              rw [hp] at hc
              have hc : xCall G [xVar 3] ρ = some (.v .nw d) := hc
              refine ⟨⟨"RepeatedMember", ["number"], [d]⟩, ρ, ?_, rfl⟩
              show bS (sRaise _ _ _ ρ) sNil = _
              unfold sRaise
              rw [hc]
              simp only [bV, hsc, if_true, bS]
            · rw [gd_f hsc]; trivial
          | ex y =>
            refine step _ fun ρ hρ => ?_
            have hc := call ρ hρ
            rw [hp] at hc
            have hc : xCall G [xVar 3] ρ = some (.x y) := hc
            refine ⟨y, ρ, ?_, rfl⟩
            show bS (sRaise _ _ _ ρ) sNil = _
            unfold sRaise
            rw [hc]
            simp only [bV, bS]
        · rw [if_neg hd]
          have hb3 : decide (PyProof_dcount (ms.map (· % n)) < ms.length) = false := by simpa using hd
          refine run _ fun x => ?_
          rw [hs]
          unfold c_Lot_init
          simp only [iGd, List.set_cons_zero, ownV, t1, hb1, t2, hb2, iStm, t3, t4, hb3]
          have hx : isX x [.raw (.ref x), .v .nw (toD n), .v .od (toD ms), .own .nw (.lst ((ms.map (· % n)).map toD)), .no] = true := by simp [isX]
          rw [if_pos hx]
          have h5 : ∀ s : IS, x1 (xVar 3) oSorted [.own s.1 (.ins "Lot" s.2.1 s.2.2), .v .nw (toD n), .v .od (toD ms), .own .nw (.lst ((ms.map (· % n)).map toD)), .no] = some (.n .nw (.lst ((sortI (ms.map (· % n))).map toD))) := fun s =>
            E1 (rfl : xVar 3 _ = some (.v .tn (toD (ms.map (· % n))))) t_sorted
          have h6 : ¬ (("_members" : Str) ∈ (["modulus"] : List Str)) := by decide +kernel
          have h7 : ((["modulus"] : List Str)).length < 1000 := by decide
          simp only [iPut, ownV, List.set_cons_zero]
          rw [if_pos ⟨by simp, by decide⟩]
          have h8 : xVar 1 [B.own .nw (.ins "Lot" [] []), .v .nw (toD n), .v .od (toD ms), .own .nw (.lst ((ms.map (· % n)).map toD)), .no] = some (.v .nw (toD n)) := rfl
          rw [h8]
          simp only
          rw [if_pos (show (nm .nw (toD n)).st = true from rfl), if_pos ⟨by simpa using h6, by simp⟩]
          have h9 := h5 (Rg.nw.mx (nm .nw (toD n)), ([] : List Str) ++ [("modulus" : Str)], ([] : List D) ++ [toD n])
          rw [h9]
          rfl
      · rw [gd_f hz]; trivial
  · rw [if_neg hn]
    have hb1 : (!(decide (1 ≤ n) && decide (n ≤ 1000))) = true := by
      by_cases h1 : 1 ≤ n
      · have h2 : ¬ n ≤ 1000 := fun h => hn ⟨h1, h⟩
        simp [h1, h2]
      · simp [h1]
    refine run _ fun x => ?_
    rw [hs]
    unfold c_Lot_init
    simp only [iGd, List.set_cons_zero, ownV, t1, hb1]
    rfl
end VL

set_option linter.all false
set_option maxHeartbeats 1000000
/-! Lots: plain laws. -/
namespace VL
open PySem L2 PyProof.Rows
/-- the first that occurs earlier -/
def fr : List Int → List Int → Option Int
  | _, [] => none
  | acc, x :: xs => if x ∈ acc then some x else fr (acc ++ [x]) xs
theorem fr_mem : ∀ {xs acc : List Int} {r : Int}, fr acc xs = some r → r ∈ xs
  | [], _, _, h => by cases h
  | x :: xs, acc, r, h => by
    unfold fr at h
    split at h
    · cases h; exact List.mem_cons_self
    · exact List.mem_cons_of_mem _ (fr_mem h)
theorem fr_nodup : ∀ {xs acc : List Int}, acc.Nodup → fr acc xs = none → (acc ++ xs).Nodup
  | [], acc, h, _ => by simpa using h
  | x :: xs, acc, h, e => by
    unfold fr at e
    split at e
    · cases e
    · rename_i hx
      have := fr_nodup (xs := xs) (acc := acc ++ [x]) (by
        rw [List.nodup_append]
        exact ⟨h, by simp, fun a ha b hb => by simp at hb; subst hb; exact fun e => hx (e ▸ ha)⟩) e
      simpa using this
theorem fr_of_nodup : ∀ {xs acc : List Int}, (acc ++ xs).Nodup → fr acc xs = none
  | [], _, _ => rfl
  | x :: xs, acc, h => by
    unfold fr
    have hx : x ∉ acc := fun hm => by
      rw [List.nodup_append] at h
      exact h.2.2 x hm x List.mem_cons_self rfl
    rw [if_neg hx]
    exact fr_of_nodup (by simpa using h)
def stp (acc : List Int) (x : Int) : List Int := if acc.any (· == x) then acc else acc ++ [x]
theorem stp_mem {acc : List Int} {x : Int} (h : x ∈ acc) : stp acc x = acc := by
  unfold stp; rw [if_pos (by simpa using h)]
theorem stp_no {acc : List Int} {x : Int} (h : x ∉ acc) : stp acc x = acc ++ [x] := by
  unfold stp; rw [if_neg (by simpa using h)]
theorem dd_le : ∀ (xs acc : List Int), (xs.foldl stp acc).length ≤ acc.length + xs.length
  | [], acc => by simp
  | x :: xs, acc => by
    rw [List.foldl_cons]
    refine Nat.le_trans (dd_le xs _) ?_
    by_cases hx : x ∈ acc
    · rw [stp_mem hx, List.length_cons]; omega
    · rw [stp_no hx, List.length_append, List.length_singleton, List.length_cons]; omega
theorem dd_fr : ∀ (xs acc : List Int), (fr acc xs = none → xs.foldl stp acc = acc ++ xs) ∧ (∀ r, fr acc xs = some r → (xs.foldl stp acc).length < acc.length + xs.length)
  | [], acc => ⟨fun _ => by simp, fun r h => by cases h⟩
  | x :: xs, acc => by
    rw [List.foldl_cons]
    unfold fr
    by_cases hx : x ∈ acc
    · rw [if_pos hx, stp_mem hx]
      refine ⟨(fun h => by cases h), fun r _ => ?_⟩
      have := dd_le xs acc
      rw [List.length_cons]
      omega
    · rw [if_neg hx, stp_no hx]
      obtain ⟨h1, h2⟩ := dd_fr xs (acc ++ [x])
      refine ⟨(fun h => by rw [h1 h]; simp), fun r h => ?_⟩
      have := h2 r h
      rw [List.length_append, List.length_singleton] at this
      rw [List.length_cons]
      omega
theorem getD_range (ns : List Int) : (List.range ns.length).map (fun i => ns.getD i 0) = ns := by
  apply List.ext_getElem
  · simp
  · intro i h1 h2
    simp [List.getD_eq_getElem?_getD, List.getElem?_eq_getElem h2]
theorem dcount_eq (ns : List Int) : PyProof_dcount ns = (ns.foldl stp []).length := by
  unfold PyProof_dcount PyProof.Rows.firstMet
  rw [getD_range]
  rfl
theorem dcount_lt (ns : List Int) : PyProof_dcount ns < ns.length ↔ fr [] ns ≠ none := by
  rw [dcount_eq]
  obtain ⟨h1, h2⟩ := dd_fr ns []
  cases h : fr [] ns with
  | none => rw [h1 h]; simp
  | some r => have := h2 r h; simpa using this
/-! arrays -/
theorem setL_at {xs : List Int} {k j a : Int} (hk : 0 ≤ k ∧ k < xs.length) (hj : 0 ≤ j ∧ j < xs.length) : ixL (setL xs k a) j = if j = k then a else ixL xs j := by
  have hs : setL xs k a = xs.set k.toNat a := by
    unfold setL ixN
    rw [if_pos hk.1, if_pos hk.2]
  rw [ixL_nat (by rw [hs, List.length_set]; exact hj), ixL_nat hj]
  simp only [hs, List.getElem_set]
  by_cases h : j = k
  · subst h; simp
  · rw [if_neg (by omega), if_neg h]
theorem repL_at {a : Int} {n j : Int} (hj : 0 ≤ j ∧ j < n) : ixL (repL [a] n) j = a := by
  have hl : (repL [a] n).length = n.toNat := by rw [repL_length]; simp
  rw [ixL_nat (by rw [hl]; omega)]
  have : ∀ x ∈ repL [a] n, x = a := by
    intro x hx
    unfold repL at hx
    simp at hx
    exact hx.2
  exact this _ (List.getElem_mem _)
/-! sorted -/
theorem sortI_pw (ns : List Int) : (sortI ns).Pairwise (· ≤ ·) := by
  have := List.pairwise_mergeSort (le := fun a b : Int => decide (a ≤ b)) (fun a b c h1 h2 => by simp at *; omega) (fun a b => by simp; omega) ns
  exact this.imp fun h => by simpa using h
theorem sortI_lt {ns : List Int} (h : ns.Nodup) : (sortI ns).Pairwise (· < ·) := by
  have h1 := sortI_pw ns
  have h2 : (sortI ns).Nodup := (sortI_perm ns).nodup_iff.mpr h
  rw [List.Nodup] at h2
  exact (h1.and h2).imp fun {a b} h => by have := h.1; have := h.2; omega
end VL

set_option Elab.async false
set_option linter.all false
set_option maxRecDepth 100000
set_option maxHeartbeats 4000000
/-! Walking over an own object whose __iter__ gives a list's iterator. -/
namespace L2
open PySem PySem.Spec PyProof.Rows
/-- a def that keeps a promise which knows how large the heap was at the call -/
structure FnN (P : Program) (w : World) (K : PySem.W.Frag) (mg : Str → Option Value) (base : Heap) (CX : CXT) (k : Nat) (f : Addr) (fd : FuncData) (ps : List Str) (sp : Nat → Sp) : Prop where
  len : ∀ n vs H Q E, sp n vs H Q E → vs.length = ps.length
  run : ∀ (A : Around) (outer : List Env) (s0 : Shared) (H : Hp) (args : Args) (us : List Value) (vs : List V) (Q : VK) (E : XK), Room k A → Env0 P w K mg base A outer s0 H → BindsTo s0 fd args (ps.zip us) → Vals vs us → sp s0.heap.objs.size vs H Q E →
    codeAny (model P w) A (.call (.ref f) args) (CR CX outer P w H s0 Q E) s0
theorem fnN_of {CX : CXT} {P : Program} {w : World} {K : PySem.W.Frag} {mg : Str → Option Value} {base : Heap} {k : Nat} {f : Addr} {nm qual : Str} {params : Arguments} {body : List Stmt} {scope : Scope} {dV kV doc pm cdv ct oc : Value} {an od : Option Addr}
    {osl : Array (Option Value)} {N ps : List Str} {sp : Nat → Sp} (lk : K.lookup f = some ⟨oc, od, .func (PySem.W.fnOf nm qual params body scope dV kV doc pm an cdv ct), osl⟩) (hcd : PySem.W.codeIn K cdv qual = true) (S : FnScope N ps scope) (len : ∀ n vs H Q E, sp n vs H Q E → vs.length = ps.length)
    (hbody : ∀ (A : Around) (outer : List Env) (s0 : Shared) (H : Hp) (vs : List V) (Q : VK) (E : XK), Room k (A.deeper (envOfC qual scope s0.heap.objs.size f cdv)) → sp s0.heap.objs.size vs H Q E → ∃ t, PSs (cxOf CX P w K mg base N qual scope f cdv A outer s0 H E) body t ∧ t { nx := fun _ H' => Q .non H', rt := Q } (start N vs) H) :
    FnN P w K mg base CX (k + 1) f (PySem.W.fnOf nm qual params body scope dV kV doc pm an cdv ct) ps sp := ⟨len, fun A outer s0 H args us vs Q E hr e0 hb r hsp => by
  have hl := len _ _ _ _ _ hsp
  have kin : K.In s0.heap := e0.mod.kin.keeps fun b o e => (e0.bs b o e).1
  have nolim : s0.heap.NoLimit := e0.mod.nolimit.keeps fun b o e => (e0.bs b o e).1
  refine codeAny_call_function hr.depth (kin _ _ lk) rfl S.co S.gen rfl (PySem.W.codeRec_of kin hcd) (hb _ _ _ _ (wpAny_newFunctionEnv_cells S.kind (fun ⟨n, v⟩ hy => ?_) fun env he s1 x => ?_))
  · rcases S.par n (List.of_mem_zip hy).1 with q | q
    · exact .inl q
    · exact .inr ⟨q, PySem.W.cellsFrom_some _ _ _ (.inl q)⟩
  · subst he
    refine ⟨nolim.keeps x.toInCall.keep, codeAny_func ?_⟩
    obtain ⟨t, ht, hq⟩ := hbody A outer s0 H vs Q E (hr.deeper _) hsp
    have J0 : Inv (cxOf CX P w K mg base N qual scope f cdv A outer s0 H E) [] (start N vs) H s1 := inv_start S hr.hd e0 hl r x
    refine wpAny_mono (ht.run [] s1 (start N vs) H _ J0 hq) (fun fl s2 hs => ?_) fun e s2 hs => hs
    match fl, hs with
    | .ret u, hs =>
      obtain ⟨v, σ', H', J, rv, q⟩ := hs
      exact ⟨v, H', J.os, J.bare, J.base, J.hok, rv, q⟩
    | .next, hs =>
      obtain ⟨σ', H', J, q⟩ := hs
      exact ⟨V.non, H', J.os, J.bare, J.base, J.hok, rfl, q⟩
    | .brk, hs => exact (hs.choose_spec.choose_spec.2).elim
    | .cont, hs => exact (hs.choose_spec.choose_spec.2).elim⟩
/-- its promise: a young iterator over the list at the field -/
def spIt (K : PySem.W.Frag) (C : Addr) (fld : Str) : Nat → Sp := fun n vs H Q _ => ∃ a dx fs l zs, vs = [.ref a] ∧ H a = some (.ins C dx fs) ∧ fs.lookup fld = some (.ref l) ∧ SqL K H l zs ∧ ∀ it, H it = none → n ≤ it → Q (.ref it) (upd H it (ItO l it 0))
theorem special_li : typeLookup (.type "list_iterator") "__next__" = pure (some (.builtin "list_iterator.__next__")) := by rw [typeLookup_type, builtinLookup_eq_fast]; kernel_rfl
section
variable {X : Cx} {k : Nat} {C f : Addr} {fd : FuncData} {ps : List Str} {fld : Str} {tg e : Expr} {te : TE}
def iOwn (K : PySem.W.Frag) (C : Addr) (fld : Str) (te : TE) : TI := fun σ H R => te σ H fun x H1 => ∃ a dx fs l, x = .ref a ∧ H1 a = some (.ins C dx fs) ∧ fs.lookup fld = some (.ref l) ∧ (∃ xs, SqL K H1 l xs) ∧ R (Itl K l) H1
theorem pi_own (hs : PySem.W.findIn X.K (.ref C) "__iter__" = some (some (.ref f))) (hf : PySem.W.isFn X.K (.ref f) = true) (F : FnN X.prog X.w X.K X.mg X.base (CX X.prog X.w) k f fd ps (spIt X.K C fld)) (hr : Room k X.A) (hb : Binds X.K fd ps []) (he : PE X e te) : PI X tg e (iOwn X.K C fld te) :=
  ⟨fun pn s0 σ H R I h => thn (he.run pn s0 σ H _ I h) fun u s1 ⟨x, H1, I1, rx, a, dx, fs, l, ex, ea, hl, ⟨xs, hq⟩, q⟩ => by
    subst ex
    cases rx
    obtain ⟨mA, O, _⟩ := ins_get I1.hok ea
    obtain ⟨od, J, _⟩ := O.look
    obtain ⟨m, hF⟩ := I1.fr
    have hsp : spIt X.K C fld s1.heap.objs.size [.ref a] H1 (fun v H' => ∃ it, v = .ref it ∧ H1 it = none ∧ s1.heap.objs.size ≤ it ∧ H' = upd H1 it (ItO l it 0)) E0 := ⟨a, dx, fs, l, xs, rfl, ea, hl, hq, fun it h1 h2 => ⟨it, rfl, h1, h2, rfl⟩⟩
    have hlen : ([Value.ref a]).length = ps.length := F.len _ _ _ _ _ hsp
    have b := hb s1 [.ref a] I1.kIn (by rw [List.append_nil]; exact hlen)
    rw [List.append_nil] at b
    refine PySem.W.owit_iter hF I1.ok.mod.kin J hs hf (wpAny_call (codeAny_mono (F.run X.A X.stack s1 H1 ⟨[.ref a], []⟩ [.ref a] [.ref a] _ E0 hr I1.env0 b (.cons rfl .nil) hsp) fun r s2 hres => ?_))
    match r, hres with
    | .error er, hres => exact passL pn σ H1 s1 er s2 I1 hres
    | .ok .next, hres => exact hres.elim
    | .ok .brk, hres => exact hres.elim
    | .ok .cont, hres => exact hres.elim
    | .ok (.ret u), hres =>
      obtain ⟨v, H', I3, rv, it, ev, hn, hle, eH⟩ := I1.after hres
      subst ev eH
      cases rv
      have hit := itO_get I3 upd_same
      unfold PySem.W.OwitIt
      refine wpAny_bind (wpAny_typeOf_ref hit (wpAny_of_eq special_li ?_))
      refine ⟨it, [it], fun i h => h.IsListIter it l i, Itl X.K l, H1, rfl, ?_, turn_list l it, ⟨_, hit, rfl, rfl⟩, fun c hc => ?_, q⟩
      · have := ItX.inv_drop I3 (upd_same : upd H1 it (ItO l it 0) it = some (ItO l it 0))
        rwa [ItX.dropH_upd hn] at this
      · have : c = it := by simpa using hc
        subst this
        have := ItX.inv_fp I3 (upd_same : upd H1 c (ItO l c 0) c = some (ItO l c 0)) (Nat.le_trans I1.sz hle)
        rwa [ItX.dropH_upd hn] at this⟩
end
end L2

set_option Elab.async false
set_option linter.all false
set_option maxRecDepth 100000
set_option maxHeartbeats 4000000
/-! for x in own. -/
namespace VL
open PySem PySem.Spec PyProof.Rows L2
/-- walking over an own object: the items of its list -/
def iOwnS (c fld : Str) (f : XE) : XI := fun ρ => match f ρ with
  | some (.v r (.obj c' ns ds)) => if c' = c then (match (ns.zip ds).lookup fld with | some (.lst xs) => some (.ok r.el xs) | _ => none) else none
  | some (.x x) => some (.x x)
  | _ => none
/-- an __iter__ at an address keeps its promise -/
structure FdIt (W : Wd) (k : Nat) (g C : Addr) (fld : Str) : Prop where
  ex : ∃ (fd : FuncData) (ps : List Str), Binds W.K fd ps [] ∧ FnN W.P W.w W.K W.mg W.base (L2.CX W.P W.w) k g fd ps (spIt W.K C fld)
section
variable {Y : Cy} {ρ : List B} {a tg : Expr} {P : Rg → List D → Prop} {C : Cst} {f : XE}
theorem vi_own {c fld : Str} {Ca g : Addr} {k : Nat} {fd : FuncData} {ps : List Str} (hm : Y.X.mg c = some (.ref Ca)) (hs : PySem.W.findIn Y.X.K (.ref Ca) "__iter__" = some (some (.ref g))) (hf : PySem.W.isFn Y.X.K (.ref g) = true) (F : FnN Y.X.prog Y.X.w Y.X.K Y.X.mg Y.X.base (L2.CX Y.X.prog Y.X.w) k g fd ps (spIt Y.X.K Ca fld)) (hr : Room k Y.X.A) (hb : Binds Y.X.K fd ps [])
    (h : VE Y ρ a fun r x => ∃ ns ds xs, x = .obj c ns ds ∧ (ns.zip ds).lookup fld = some (.lst xs) ∧ P r.el xs) : VI Y ρ tg a P := fun τ σ H w =>
  sI.of (pi_own hs hf F hr hb pe_s) ((h τ σ H w).mono fun v H1 ⟨r, x, w1, ns, ds, xs, e, hl, q⟩ => by
    subst e
    obtain ⟨G0, G1, ow, w1⟩ := w1
    obtain ⟨ad, C2, dx, vs, h1, h2, h3, h4, h5⟩ := w1.obj (w1.tt _ List.mem_cons_self)
    have h6 := hm.symm.trans h2
    cases h6
    subst h1
    obtain ⟨u, k1, k2⟩ := zipD_lookup h4 h5 hl
    have w2 : YE Y ρ σ (.v r.el (.lst xs) u :: τ) H1 := ⟨G0, G1, ow, (w1.pushV (Gr.rep k2) (el_st r)).under⟩
    obtain ⟨p, zs, rfl, hq, hl2, _⟩ := EnvOk.lst w2
    refine ⟨ad, dx, _, p, rfl, h3, k1, ⟨zs, .inl hq⟩, [.v r.el (.lst xs) (.ref p)], r.el, xs, Stab.cons (el_st r) (fun _ h => by cases h), w2, fun ρ' σ' τ' H' i w' => ?_, q⟩
    obtain ⟨p2, vs2, e2, hq2, hl2, _⟩ := EnvOk.lst w'
    cases e2
    refine ⟨fun d hd => ?_, fun e => ⟨vs2, .inl hq2, by omega⟩⟩
    obtain ⟨z, hz, w2⟩ := EnvOk.item w' rfl hq2 hd
    refine ⟨⟨vs2, z, .inl hq2, hz⟩, fun x H2 ⟨e, hx⟩ => ?_⟩
    subst e
    have := hx vs2 (.inl hq2)
    rw [hz] at this; cases this
    have er : r.el.el = r.el := by cases r <;> rfl
    rw [er] at w2
    exact w2)
theorem i_own {c fld : Str} {Ca g : Addr} {k kk : Nat} (F : ObF C.W c Ca) (hs : PySem.W.findIn C.W.K (.ref Ca) "__iter__" = some (some (.ref g))) (hf : PySem.W.isFn C.W.K (.ref g) = true) (hG : FdIt C.W k g Ca fld) (ha : SndE C a f) (hkk : C.k = some kk := by rfl) (hk : k ≤ kk := by decide) :
    SndI C tg a (iOwnS c fld f) := fun Y u ρ o e => by
  have hw := u.w
  have ok := u.ck hkk
  obtain ⟨W, N, sc, kc, dd⟩ := C
  cases hw
  obtain ⟨fd, ps, hbd, hF⟩ := hG.ex
  unfold iOwnS at e
  split at e
  · split at e
    · rename_i hc
      subst hc
      split at e
      · rename_i hl
        cases e
        exact fun P p => vi_own F.mg hs hf hF (ok.rm.mono hk) hbd ((ha Y u).gets (by assumption) (.inl rfl) _ ⟨_, _, _, rfl, hl, p⟩)
      · cases e
    · cases e
  · cases e
    exact fun hE P => vi_own F.mg hs hf hF (ok.rm.mono hk) hbd ((ha Y u).exc (by assumption) hE _)
  · cases e
end
/-- return iter(self.fld) -/
theorem fdit_of {W : Wd} [NB W] {c qual fld : Str} {st : Stmt} {g Ca : Addr} {fd : FuncData} {N : List Str} {p1 p2 p3 p4 p5 : Pos} (F : Fun W.K "__iter__" qual st g fd) (O : ObF W c Ca) (na : L2.NoAttr W.K Ca fld) (S : FnScope N ["self"] (defScope st)) (hN : N[0]? = some ("self" : Str)) (hb : Binds W.K fd ["self"] [])
    (hbody : defBody st = [.Return (some (.Call (.Name "iter" p1) [.Attribute (.Name "self" p2) fld p3] [] p4)) p5]) (hv : Vis (defScope st) "self") (hg : GlS (defScope st) "iter") : FdIt W 1 g Ca fld := by
  obtain ⟨oc, od, kV, doc, pm, an, cdv, ct, osl, rfl, lk, hcd⟩ := F.ex
  refine ⟨_, ["self"], hb, fnN_of (k := 0) lk hcd S (fun n vs H Q E ⟨_, _, _, _, _, e, _⟩ => by rw [e]; rfl) fun A outer s0 H vs Q E hr ⟨a, dx, fs, l, zs, e, ea, hl, hq, q⟩ => ?_⟩
  subst e
  rw [hbody]
  refine ⟨_, pss_one (ps_ret (pe_callB ItX.call_iterN hg (NB.of (by decide)) boot_iter (pa_cons (pe_fld (pe_var (i := 0) hN hv (by decide) (by decide)) (by rfl)) pa_nil (by rfl)) (by decide) (by decide) (by rfl) (by rfl))), ?_⟩
  exact ⟨.ref a, rfl, a, Ca, dx, fs, .ref l, rfl, ea, O.cls, na, hl, l, zs, rfl, hq, fun it h1 h2 => q it h1 h2⟩
end VL

set_option Elab.async false
set_option linter.all false
set_option maxRecDepth 100000
set_option maxHeartbeats 4000000
/-! list(own), where __iter__ gives a list's iterator and __len__ an int. -/
namespace L2
open PySem PySem.Spec PyProof.Rows
section
variable {X : Cx} {pn : List (Addr × Obj)} {σ : L2.St} {A1 : Around} {q it l : Addr} {Rs : Result → Shared → Prop}
theorem li_loop (hh : A1.in1.handled = none) (hql : q ≠ l) (xs : List V) : ∀ (d i : Nat) (acc : List V) (H : Hp) (s : Shared), xs.length = i + d → acc.length = i → Inv X pn σ H s → H q = some (.lst acc) → Rd H l (.lst xs) → s.heap.IsListIter it l i → FpOk X pn H it →
    (∀ H' s', Inv X pn σ H' s' → (∀ b, b ≠ q → H' b = H b) → H' q = some (.lst (acc ++ xs.drop i)) → Rs (.ok (.ret .none)) s') → codeAny (model X.prog X.w) A1 (.builtin "list.extend.loop" ⟨[.ref q, .ref it, .none], []⟩) Rs s := by
  intro d
  induction d with
  | zero =>
    intro i acc H s hx ha I hq hl hit hf hdone
    obtain ⟨f0, f1, f2, f3, f4, f5⟩ := hf
    obtain ⟨its, rv, p, hz⟩ := I.list (.inl hl)
    have hlen := rv.length
    refine codeAny_builtin PySem.F.entry_extend_loop ?_
    rw [Around.under_plainId PySem.F.plain_extend_loop _]
    show wpAny _ A1.in1 (pyNext (.ref it) >>= _) _ _ s
    refine wpAny_bind (wpAny_pyNext_list_end hh hit p.isList (by simp; omega) fun h' eb => wpAny_pure (hdone H _ (I.turned (t' := s.toks) (fun b o hb e => eb b o hb e) f0 f1 f3 f4 f5) (fun _ _ => rfl) ?_))
    rw [List.drop_eq_nil_of_le (by omega), List.append_nil]
    exact hq
  | succ d ih =>
    intro i acc H s hx ha I hq hl hit hf hdone
    obtain ⟨f0, f1, f2, f3, f4, f5⟩ := id hf
    obtain ⟨its, rv, p, hz⟩ := I.list (.inl hl)
    have hlen := rv.length
    have hi : i < xs.length := by omega
    obtain ⟨u, hu, ru⟩ := rv.get (List.getElem?_eq_getElem hi)
    have nq : it ≠ q := fun z => by rw [z, hq] at f0; cases f0
    refine codeAny_builtin PySem.F.entry_extend_loop ?_
    rw [Around.under_plainId PySem.F.plain_extend_loop _]
    show wpAny _ A1.in1 (pyNext (.ref it) >>= _) _ _ s
    refine wpAny_bind (wpAny_pyNext_list_item hit p.isList (x := u) (by simpa using hu) fun h' st' sb => ?_)
    have I1 : Inv X pn σ H { s with heap := h' } := I.turned (t' := s.toks) (fun b o hb e => (sb.2 b hb).trans e) f0 f1 f3 f4 f5
    show wpAny _ A1.in1 (updateSeq q (·.push u) >>= _) _ _ _
    obtain ⟨z, its2, k, r2, hl2, e⟩ := I1.lstM hq
    refine wpAny_bind (wpAny_updateSeq e rfl (wpAny_pure ⟨plainId_quiet PySem.F.plain_extend_loop _, ?_⟩) (by rw [List.size_toArray]; omega) (by show (its2.toArray.push u).size ≤ sizeLine + 1; rw [Array.size_push, List.size_toArray]; omega))
    have I2 := I1.lset (its' := its2 ++ [u]) (ys := acc ++ [xs[i]]) (t' := s.toks) (f := (·.push u)) hq e (by simp) (r2.append (.cons ru .nil)) (by rw [List.length_append, List.length_singleton]; omega)
    refine ih (i + 1) (acc ++ [xs[i]]) _ _ (by omega) (by rw [List.length_append, List.length_singleton]; omega) I2 upd_same ?_ ?_ ?_ fun H' s' J hb hq' => hdone H' s' J (fun b hne => by rw [hb b hne, upd_ne hne]) (by rw [hq', List.append_assoc, List.drop_eq_getElem_cons hi]; rfl)
    · rcases hl with h | ⟨o, h⟩
      · exact .inl (by rw [upd_ne (Ne.symm hql)]; exact h)
      · exact .inr ⟨o, by rw [upd_ne (Ne.symm hql)]; exact h⟩
    · exact st'.at fun o eo => by
        show (h'.update q _).get? it = some o
        rw [Heap.get?_update_ne _ _ _ _ nq]
        exact eo
    · exact ⟨by rw [upd_ne nq]; exact f0, f1, f2, f3, f4, f5⟩
/-- the length is asked for a hint -/
theorem hintZ {A2 : Around} {a C dx gl : Addr} {fs : List (Str × V)} {k : Nat} {fd : FuncData} {ps : List Str} {sp : Sp} {Q : Bool → Shared → Prop} {E : Value → Shared → Prop} {s : Shared} {H : Hp} (I : Inv X pn σ H s) (ea : H a = some (.ins C dx fs))
    (hs : PySem.W.findIn X.K (.ref C) "__len__" = some (some (.ref gl))) (hf : PySem.W.isFn X.K (.ref gl) = true) (F : FnOk X.prog X.w X.K X.mg X.base (CX X.prog X.w) k gl fd ps sp) (sb : Sub X (k + 1) A2) (hb : Binds X.K fd ps [])
    (h : sp [.ref a] H (fun z H3 => Same H H3 ∧ ∃ n : Int, z = .int n ∧ 0 ≤ n ∧ n ≤ sizeLine) E0) (hq : ∀ bb s' H3, Inv X pn σ H3 s' → Same H H3 → Q bb s') : wpAny (model X.prog X.w) A2 (Builtin.List.listLengthHint (.ref a)) Q E s := by
  obtain ⟨mA, O, _⟩ := ins_get I.hok ea
  obtain ⟨od, J, _⟩ := O.look
  obtain ⟨m, hF⟩ := I.fr
  have hl : ([Value.ref a]).length = ps.length := F.len _ _ _ _ h
  have b := hb s [.ref a] I.kIn (by rw [List.append_nil]; exact hl)
  rw [List.append_nil] at b
  have e0 : Env0 X.prog X.w X.K X.mg X.base A2.in1 X.stack s H := by
    have e := I.env0
    exact ⟨by show A2.frames = _; rw [sb.fr]; exact e.frames, e.mod, e.bs, e.bsz, e.funs, e.frf, e.hok, e.bare⟩
  unfold Builtin.List.listLengthHint
  refine wpAny_bind (wpAny_bind (J.type.here ((PySem.W.looks_findIn I.kIn hs).here ?_)))
  refine PySem.W.KFB.if_not rfl ?_
  refine PySem.W.KFB.if_so rfl ?_
  refine wpAny_bind (wpAny_rule ?_)
  refine wpAny_bind (wpAny_attempt (PySem.W.len_K hF I.ok.mod.kin J hs hf (wpAny_call (codeAny_mono (F.run A2.in1 X.stack s H ⟨[.ref a], []⟩ [.ref a] [.ref a] _ E0 sb.room.in1 e0 b (.cons rfl .nil) h) fun r s2 hres => ?_))))
  match r, hres with
  | .error er, hres => obtain ⟨_, _, _, _, _, _, _, _, _, _, _, _, z⟩ := hres; exact z.elim
  | .ok .next, hres => exact hres.elim
  | .ok .brk, hres => exact hres.elim
  | .ok .cont, hres => exact hres.elim
  | .ok (.ret u), hres =>
    obtain ⟨v, H3, I3, rv, sm, n, ev, h0, h1⟩ := I.after hres
    subst ev
    obtain ⟨t, rfl⟩ := (show ∃ t, u = Value.int n t from rv)
    refine ⟨⟨h0, by rw [sizeLine_eq] at h1; omega⟩, ?_⟩
    refine wpAny_bind (wpAny_of_eq (a := some n) rfl ?_)
    refine PySem.W.KFB.if_not ?_ (wpAny_pure (hq _ _ H3 (I3.tok _) sm))
    show decide (n.toNat > sizeLine) = false
    exact decide_eq_false (by omega)
/-- list(o) -/
def rListZ (C : Addr) (fld : Str) (sp : Sp) : List V → Hp → VK → Prop := fun xs H Q => ∃ a dx fs l zs, xs = [.ref a] ∧ H a = some (.ins C dx fs) ∧ fs.lookup fld = some (.ref l) ∧ Rd H l (.lst zs) ∧
  (∀ H2, Same H H2 → sp [.ref a] H2 (fun z H3 => Same H2 H3 ∧ ∃ n : Int, z = .int n ∧ 0 ≤ n ∧ n ≤ sizeLine) E0) ∧ ∀ q H', H q = none → Same H H' → H' q = some (.lst zs) → Q (.ref q) H'
theorem call_listZ {C gi gl : Addr} {fld : Str} {ki kl n : Nat} {fdi fdl : FuncData} {psi psl : List Str} {sp : Sp} (hsi : PySem.W.findIn X.K (.ref C) "__iter__" = some (some (.ref gi))) (hfi : PySem.W.isFn X.K (.ref gi) = true) (FI : FnN X.prog X.w X.K X.mg X.base (CX X.prog X.w) ki gi fdi psi (spIt X.K C fld)) (bi : Binds X.K fdi psi [])
    (hsl : PySem.W.findIn X.K (.ref C) "__len__" = some (some (.ref gl))) (hfl : PySem.W.isFn X.K (.ref gl) = true) (FL : FnOk X.prog X.w X.K X.mg X.base (CX X.prog X.w) kl gl fdl psl sp) (bl : Binds X.K fdl psl []) (hr : Room (n + 3) X.A) (h1 : ki ≤ n + 1) (h2 : kl ≤ n) : CallR X (.type "list") (rListZ C fld sp) := by
  rintro pn s0 σ H xs us Q I rv ⟨a, dx, fs, l, zs, rfl, ha, hlk, hlz, hsp, hq⟩
  obtain ⟨u, rfl, ru⟩ := rv.one
  cases ru
  have sb : Sub X (n + 1) X.A.in1.in1 := Sub.in1 (Sub.in1 (⟨hr, rfl⟩ : Sub X (n + 3) X.A))
  refine callType_codes (Q₁ := fun obj s₁ => obj = .ref s0.heap.objs.size ∧ s₁ = { s0 with heap := s0.heap.push { cls := .type "list", data := .seq #[] } }) PySem.F.called_list (PySem.F.typeCall_list_1 _) PySem.F.entry_list_init (code_list_new _ ⟨rfl, rfl⟩) fun obj s₁ h₁ => ?_
  obtain ⟨rfl, rfl⟩ := h₁
  have hS : (s0.heap.push { cls := .type "list", data := .seq #[] }).get? s0.heap.objs.size = some { cls := .type "list", data := .seq #[] } := Heap.get?_push_size _ rfl
  refine ⟨⟨_, hS, rfl⟩, PySem.F.args_list_init_2 _ _, ?_⟩
  generalize hqe : s0.heap.objs.size = q at hS ⊢
  have fr : H q = none := by rw [← hqe]; exact I.hok.fresh (Nat.le_refl _)
  have J1 : Inv X pn σ (upd H q (.lst [])) { s0 with heap := s0.heap.push { cls := .type "list", data := .seq #[] } } := by rw [← hqe]; exact I.lnew (its := []) (t' := s0.toks) .nil (Nat.zero_le _)
  show wpAny _ _ (do let old ← Builtin.List.listItems (.ref q); Builtin.List.listUpdate (.ref q) (fun _ => #[]); letGo old.toList.reverse; Builtin.List.listExtendWith (.ref q) (.ref a) .none) _ _ _
  unfold Builtin.List.listItems
  refine wpAny_bind (wpAny_bind (wpAny_seqItems hS rfl (wpAny_pure ?_)))
  show wpAny _ _ (updateSeq q (fun _ => #[]) >>= fun _ => letGo (#[] : Array Value).toList.reverse >>= fun _ => Builtin.List.listExtendWith (.ref q) (.ref a) .none) _ _ _
  refine wpAny_bind (wpAny_updateSeq hS rfl (wpAny_bind (wpAny_letGo ?_)))
  have J2 := J1.lset (f := fun _ => #[]) (its := []) (its' := []) (ys := []) (t' := s0.toks) upd_same hS rfl .nil (Nat.zero_le _)
  rw [upd_upd] at J2
  have sm : Same H (upd H q (.lst [])) := fun b o e => by rw [upd_ne (ne_of_none e fr)]; exact e
  have ha2 : upd H q (.lst []) a = some (.ins C dx fs) := sm _ _ ha
  have hl2 : Rd (upd H q (.lst [])) l (.lst zs) := by
    rcases hlz with z | ⟨o, z⟩
    · exact .inl (sm _ _ z)
    · exact .inr ⟨o, sm _ _ z⟩
  have hql : q ≠ l := fun z => by
    subst z
    rcases hlz with z | ⟨o, z⟩
    · rw [fr] at z; cases z
    · rw [fr] at z; cases z
  refine (fun key : ∀ t0, Inv X pn σ (upd H q (.lst [])) t0 → wpAny _ _ _ _ _ t0 => key _ J2) ?_
  clear J2 J1 hS
  intro t0 J2
  have hqa : q ≠ a := fun z => by rw [← z, fr] at ha; cases ha
  have hh : X.A.in1.in1.handled = none := sb.room.hd
  obtain ⟨mA, O, _⟩ := ins_get J2.hok ha2
  obtain ⟨od, IA, _⟩ := O.look
  obtain ⟨m0, hF⟩ := J2.fr
  unfold Builtin.List.listExtendWith
  refine wpAny_bind (IA.type.here ?_)
  have c1 : Builtin.List.listSameRef (.ref q) (.ref a) = false := by simp [Builtin.List.listSameRef, hqa]
  have c2 : (Value.ref C == Value.type "list") = false := rfl
  have c3 : (Value.ref C == Value.type "tuple") = false := rfl
  simp only [c1, c2, c3, Bool.or_false, Bool.false_eq_true, if_false]
  have e0 : Env0 X.prog X.w X.K X.mg X.base X.A.in1.in1 X.stack t0 (upd H q (.lst [])) := by
    have e := J2.env0
    exact ⟨by rw [sb.fr]; exact e.frames, e.mod, e.bs, e.bsz, e.funs, e.frf, e.hok, e.bare⟩
  have hspI : spIt X.K C fld t0.heap.objs.size [.ref a] (upd H q (.lst [])) (fun v H' => ∃ it, v = .ref it ∧ (upd H q (.lst [])) it = none ∧ t0.heap.objs.size ≤ it ∧ H' = upd (upd H q (.lst [])) it (ItO l it 0)) E0 := ⟨a, dx, fs, l, zs, rfl, ha2, hlk, .inl hl2, fun it h1 h2 => ⟨it, rfl, h1, h2, rfl⟩⟩
  have hleni : ([Value.ref a]).length = psi.length := FI.len _ _ _ _ _ hspI
  have bb := bi t0 [.ref a] J2.kIn (by rw [List.append_nil]; exact hleni)
  rw [List.append_nil] at bb
  refine wpAny_bind (PySem.W.owit_iter hF J2.ok.mod.kin IA hsi hfi (wpAny_call (codeAny_mono (FI.run X.A.in1.in1 X.stack t0 (upd H q (.lst [])) ⟨[.ref a], []⟩ [.ref a] [.ref a] _ E0 (sb.room.mono h1) e0 bb (.cons rfl .nil) hspI) fun r s2 hres => ?_)))
  match r, hres with
  | .error er, hres => obtain ⟨_, _, _, _, _, _, _, _, _, _, _, _, z⟩ := hres; exact z.elim
  | .ok .next, hres => exact hres.elim
  | .ok .brk, hres => exact hres.elim
  | .ok .cont, hres => exact hres.elim
  | .ok (.ret u), hres =>
    obtain ⟨v, H', J3, rv, it, ev, hn, hle, eH⟩ := J2.after hres
    subst ev eH
    cases rv
    have hit := itO_get J3 upd_same
    have itq : it ≠ q := fun z => by rw [z, upd_same] at hn; cases hn
    have hnI : H it = none := by rwa [upd_ne itq] at hn
    unfold PySem.W.OwitIt
    refine wpAny_bind (wpAny_typeOf_ref hit (wpAny_of_eq special_li ?_))
    have sm3 : Same H (upd (upd H q (.lst [])) it (ItO l it 0)) := fun b o e => by rw [upd_ne (ne_of_none e hnI)]; exact sm _ _ e
    refine wpAny_bind (wpAny_holding (hintZ J3 (sm3 _ _ ha) hsl hfl FL (sb.mono (by omega)) bl (hsp _ sm3) fun hb4 s4 H4 J4 sm4 => ?_))
    have h4it : H4 it = some (ItO l it 0) := sm4 _ _ upd_same
    have h4q : H4 q = some (.lst []) := sm4 _ _ (by rw [upd_ne (Ne.symm itq), upd_same])
    have hit4 := itO_get J4 h4it
    have J5 := ItX.inv_drop J4 h4it
    have fp := ItX.inv_fp J4 h4it (Nat.le_trans J2.sz hle)
    have h5 : ∀ b o, H b = some o → ItX.dropH H4 it b = some o := fun b o e => by rw [ItX.dropH_ne (ne_of_none e hnI)]; exact sm4 _ _ (sm3 _ _ e)
    have h5q : ItX.dropH H4 it q = some (.lst []) := by rw [ItX.dropH_ne (Ne.symm itq)]; exact h4q
    have h5l : Rd (ItX.dropH H4 it) l (.lst zs) := by
      rcases hlz with z | ⟨o, z⟩
      · exact .inl (h5 _ _ z)
      · exact .inr ⟨o, h5 _ _ z⟩
    have done : ∀ H' s', Inv X pn σ H' s' → (∀ b, b ≠ q → H' b = ItX.dropH H4 it b) → H' q = some (.lst ([] ++ zs.drop 0)) → wants (fun r s₂ => r = .none ∧ EP X pn σ Q (.ref q) s₂) X.xe (.ok (.ret .none)) s' := fun H' s' J hb hq' =>
      ⟨rfl, .ref q, H', J, rfl, hq q H' fr (fun b o e => by rw [hb b (ne_of_none e fr)]; exact h5 b o e) (by rw [hq']; rfl)⟩
    obtain ⟨z, its, kk, r3, hl3, e3⟩ := J5.lstM h5q
    cases r3
    refine wpAny_ite_split (fun _ => ?_) (fun _ => wpAny_pure ⟨plainId_quiet PySem.F.plain_extend_loop _, li_loop (A1 := X.A.in1) hh hql zs zs.length 0 [] _ _ (by simp) rfl J5 h5q h5l (show s4.heap.IsListIter it l 0 from ⟨_, hit4, rfl, rfl⟩) fp done⟩)
    refine wpAny_bind (wpAny_rule (wpAny_bind ?_))
    show wpAny _ _ (updateSeq q (·.push .none) >>= fun _ => updateSeq q (·.pop)) _ _ _
    refine wpAny_bind (wpAny_updateSeq e3 rfl ?_)
    have J6 := J5.lset (f := (·.push Value.none)) (its' := [Value.none]) (ys := [.non]) (t' := s4.toks) h5q e3 (by simp) (.cons rfl .nil) (by rw [List.length_singleton, sizeLine_eq]; decide)
    obtain ⟨z4, its4, k4, r4, hl4, e4⟩ := J6.lstM upd_same
    obtain ⟨u4, rfl, ru4⟩ := r4.one
    refine wpAny_updateSeq e4 rfl (wpAny_pure ⟨plainId_quiet PySem.F.plain_extend_loop _, ?_⟩) (by show 1 ≤ sizeLine; rw [sizeLine_eq]; decide) (by show 0 ≤ sizeLine + 1; exact Nat.zero_le _)
    have J7 := J6.lset (f := (·.pop)) (its := [u4]) (its' := []) (ys := []) (t' := s4.toks) upd_same e4 (by rfl) .nil (Nat.zero_le _)
    rw [upd_upd] at J7
    have hH : upd (ItX.dropH H4 it) q (.lst []) = ItX.dropH H4 it := by
      funext b
      by_cases hb : b = q
      · rw [hb, upd_same, h5q]
      · rw [upd_ne hb]
    rw [hH] at J7
    refine li_loop (A1 := X.A.in1) hh hql zs zs.length 0 [] _ _ (by simp) rfl J7 h5q h5l ?_ fp done
    refine ⟨GNX.itObj l 0, ?_, rfl, rfl⟩
    show ((s4.heap.update q _).update q _).get? it = _
    rw [Heap.get?_update_ne _ _ _ _ itq, Heap.get?_update_ne _ _ _ _ itq]
    exact hit4
end
end L2

set_option Elab.async false
set_option linter.all false
set_option maxRecDepth 100000
set_option maxHeartbeats 4000000
/-! list(own). -/
namespace VL
open PySem PySem.Spec PyProof.Rows L2
theorem EnvW.fresh2 {K : PySem.W.Frag} {mg : Mg} {Hs Hi H H' : Hp} {ρ : List B} {σ : L2.St} {τ : List T} {G0 G1 : Hp} {ow : Nat → Option (Addr × HO)} {p : Addr} {o : HO} {r : Rg} {c : Ct} (w : EnvW K mg Hs Hi ρ σ τ H G0 G1 ow) (hp : H p = none) (sm : Same H H') (ho : H' p = some o) (hr : r.st = true) (h : RepC K mg (Gr G0 G1 r) c o) : EnvW K mg Hs Hi ρ σ (.own p r c :: τ) H' G0 G1 ow := by
  refine (w.heap sm).push (t := .own p r c) ⟨hr, w.none0 hp, w.noneI hp, o, ho, h⟩ (fun a e => ?_) fun a e => by cases e
  cases e
  refine ⟨fun hm => ?_, fun i o' e => ?_, fun hm => ?_⟩
  · obtain ⟨t, ht, e⟩ := List.mem_filterMap.mp hm
    cases t with
    | v _ _ _ => cases e
    | exc _ _ _ => cases e
    | own x r' c' =>
      cases e
      obtain ⟨_, _, _, o', h3, _⟩ := w.tt _ ht
      rw [hp] at h3; cases h3
  · have := (w.ob i p o' e).1
    rw [hp] at this; cases this
  · obtain ⟨t, ht, e⟩ := List.mem_filterMap.mp hm
    have h := w.tt _ ht
    cases t with
    | own _ _ _ => cases e
    | exc _ _ _ => cases e
    | v r d v =>
      cases r with
      | nw => cases e
      | od => cases e
      | tn =>
        obtain ⟨c, a, o', _, rfl, h3, _⟩ := h
        cases e
        rw [hp] at h3; cases h3
      | to =>
        obtain ⟨c, a, o', _, rfl, h3, _⟩ := h
        cases e
        rw [hp] at h3; cases h3
def oListO (c fld : Str) (G : List D → Option Res) : OP := fun r x => match x with
  | .obj c' ns ds => if c' = c then (match (ns.zip ds).lookup fld, G [.obj c' ns ds] with
    | some (.lst xs), some (.ok rg (.int n)) => if rg.st = true ∧ 0 ≤ n ∧ n ≤ sizeLine then some (.n (nmC r.el (.lst xs)) (.lst xs)) else none
    | _, _ => none) else none
  | _ => none
section
variable {Y : Cy} {ρ : List B} {a : Expr} {C : Cst} {f : XE} {pos : Pos} {G : List D → Option Res}
theorem vn_listO {c fld : Str} {Ca gi gl : Addr} {ki kl n kk : Nat} {fdi fdl : FuncData} {psi psl : List Str} {N : Rg → Ct → Prop} {p : Pos} (o : CyOk Y kk) (hm : Y.X.mg c = some (.ref Ca)) (hsi : PySem.W.findIn Y.X.K (.ref Ca) "__iter__" = some (some (.ref gi))) (hfi : PySem.W.isFn Y.X.K (.ref gi) = true)
    (FI : FnN Y.X.prog Y.X.w Y.X.K Y.X.mg Y.X.base (L2.CX Y.X.prog Y.X.w) ki gi fdi psi (spIt Y.X.K Ca fld)) (bi : Binds Y.X.K fdi psi []) (hsl : PySem.W.findIn Y.X.K (.ref Ca) "__len__" = some (some (.ref gl))) (hfl : PySem.W.isFn Y.X.K (.ref gl) = true)
    (FL : FnOk Y.X.prog Y.X.w Y.X.K Y.X.mg Y.X.base (L2.CX Y.X.prog Y.X.w) kl gl fdl psl (spD Y.X.K Y.X.mg fun ds res => G ds = some res)) (bl : Binds Y.X.K fdl psl []) (hk : n + 3 ≤ kk) (h1 : ki ≤ n + 1) (h2 : kl ≤ n) (nb : Y.X.mg "list" = none) (hg : Gl Y.X "list") (hp : plain a = true)
    (h : VE Y ρ a fun r x => ∃ ns ds xs rg m, x = .obj c ns ds ∧ (ns.zip ds).lookup fld = some (.lst xs) ∧ G [x] = some (.ok rg (.int m)) ∧ rg.st = true ∧ 0 ≤ m ∧ m ≤ sizeLine ∧ N r.el (.lst xs)) : VN Y ρ (.Call (.Name "list" p) [a] [] pos) N := fun τ σ H w =>
  sE.of (pe_callTy (call_listZ (n := n) hsi hfi FI bi hsl hfl FL bl (o.rm.mono hk) h1 h2) hg nb (by decide +kernel) (pa_cons pe_s pa_nil (star_plain hp)) (by decide) (by decide) (star_plain hp) rfl) ((h τ σ H w).mono fun v H1 ⟨r, x, w1, ns, ds, xs, rg, m, e, hl, hG, hrg, hm0, hm1, q⟩ => by
    subst e
    obtain ⟨G0, G1, ow, w1⟩ := w1
    obtain ⟨ad, C2, dx, vs, e1, e2, e3, e4, e5⟩ := w1.obj (w1.tt _ List.mem_cons_self)
    have e6 := hm.symm.trans e2
    cases e6
    subst e1
    obtain ⟨u, k1, k2⟩ := zipD_lookup e4 e5 hl
    simp only [Rep] at k2
    obtain ⟨l, zs, rfl, k3, k4⟩ := k2
    have gs : Same (Gr G0 G1 r.el) H1 := (w1.g1 _).trans w1.s2
    refine ⟨ad, dx, _, l, zs, rfl, e3, k1, Same.rd gs k3, fun H2 sm => ⟨H1, [.obj c ns ds], .ok rg (.int m), sm, Reps.cons (by simp only [Rep]; exact ⟨ad, Ca, dx, vs, rfl, hm, e3, e4, e5.mono gs⟩) Reps.nil, hG, hrg, fun v3 H3 G3 s1 _ _ hv => ⟨s1, m, (by simpa only [Rep] using hv), hm0, hm1⟩⟩, fun q' H' hq sm hq' => ?_⟩
    exact ⟨q', r.el, .lst xs, rfl, ⟨G0, G1, ow, w1.pop.fresh2 hq sm hq' (el_st r) ⟨zs, rfl, k4⟩⟩, q⟩)
theorem e_listO {c fld : Str} {Ca gi gl : Addr} {ki kl kk : Nat} {p : Pos} [NB C.W] (F : ObF C.W c Ca) (hsi : PySem.W.findIn C.W.K (.ref Ca) "__iter__" = some (some (.ref gi))) (hfi : PySem.W.isFn C.W.K (.ref gi) = true) (FI : FdIt C.W ki gi Ca fld) (hsl : PySem.W.findIn C.W.K (.ref Ca) "__len__" = some (some (.ref gl))) (hfl : PySem.W.isFn C.W.K (.ref gl) = true) (FL : Fd C.W kl gl G) (ha : SndE C a f)
    (hkk : C.k = some kk := by rfl) (hk : kl + 3 ≤ kk := by decide) (h1 : ki ≤ kl + 1 := by decide) (hp : plain a = true := by rfl) (hg : GlS C.sc "list" := by rfl) : SndE C (.Call (.Name "list" p) [a] [] pos) (x1 f (oListO c fld G)) :=
  se1 ha (fun Y u ρ h => by
    have nb : Y.X.mg "list" = none := u.nb (by decide)
    have gl' := u.gl hg
    have hw := u.w
    have ok := u.ck hkk
    obtain ⟨W, N, sc, kc, dd⟩ := C
    cases hw
    obtain ⟨fdi, psi, bi, hFI⟩ := FI.ex
    obtain ⟨fdl, psl, bl, hFL⟩ := FL.ex
    exact VN.ve (vn_listO (N := fun _ _ => False) ok F.mg hsi hfi hFI bi hsl hfl hFL bl hk h1 (Nat.le_refl _) nb gl' hp (VE.mono h fun _ _ z => z.elim))) fun Y u ρ r d o ga e => by
    have nb : Y.X.mg "list" = none := u.nb (by decide)
    have gl' := u.gl hg
    have hw := u.w
    have ok := u.ck hkk
    obtain ⟨W, N, sc, kc, dd⟩ := C
    cases hw
    obtain ⟨fdi, psi, bi, hFI⟩ := FI.ex
    obtain ⟨fdl, psl, bl, hFL⟩ := FL.ex
    unfold oListO at e
    split at e
    · split at e
      · rename_i hc
        subst hc
        split at e
        · rename_i hl hG
          split at e
          · rename_i hn
            cases e
            exact VX.ofN fun Q q => VN.normC (vn_listO ok F.mg hsi hfi hFI bi hsl hfl hFL bl hk h1 (Nat.le_refl _) nb gl' hp (ga _ ⟨_, _, _, _, _, rfl, hl, hG, hn.1, hn.2.1, hn.2.2, q⟩))
          · cases e
        · cases e
      · cases e
    · cases e
end
/-! typed -/
theorem I_own {fe : XE} {ρ : List B} {r : Rg} {l : LotT} (h : fe ρ = some (.v r (toD l))) : iOwnS "Lot" "_members" fe ρ = some (.ok r.el (l.ms.map toD)) := by
  have := t_Lot__members (r := r) (l := l)
  unfold iOwnS
  rw [h, toD_lot]
  rw [toD_lot] at this
  simp only [oFld, if_true] at this ⊢
  cases e : ((["modulus", "_members"] : List Str).zip [D.int l.n, .lst (l.ms.map .int)]).lookup ("_members" : Str) with
  | none => rw [e] at this; cases this
  | some d =>
    rw [e] at this
    have : d = .lst (l.ms.map .int) := by
      have h2 : some (EV.v r.el d) = some (EV.v r.el (toD l.ms)) := this
      injection h2 with h3
      injection h3
    subst this
    rfl
theorem I_ownx {fe : XE} {ρ : List B} {x : Exc} (h : fe ρ = some (.x x)) : iOwnS "Lot" "_members" fe ρ = some (.x x) := by unfold iOwnS; rw [h]
theorem TL_list {G : List D → Option Res} {fe : XE} {ρ : List B} {r : Rg} {l : LotT} {m : R Int} (h : fe ρ = some (.v r (toD l))) (hG : TF (G [toD l]) m fun v => .ok .nw (toD v)) :
    TE (x1 fe (oListO "Lot" "_members" G) ρ) ((R.nx m).bind fun n => gd (0 ≤ n ∧ n ≤ sizeLine) (.ok l.ms)) fun v => .n .nw (.lst (v.map toD)) := by
  cases m with
  | no => trivial
  | ex x => trivial
  | ok n =>
    have hG : G [toD l] = some (.ok .nw (.int n)) := hG
    show TE _ (gd (0 ≤ n ∧ n ≤ sizeLine) (.ok l.ms)) _
    by_cases hn : 0 ≤ n ∧ n ≤ sizeLine
    · rw [gd_t hn]
      show x1 fe _ ρ = some (.n .nw (.lst (l.ms.map toD)))
      refine E1 h ?_
      rw [toD_lot] at hG ⊢
      have h1 : (("_members" : Str) == "modulus") = false := by decide +kernel
      have h2 : (("_members" : Str) == "_members") = true := by decide +kernel
      have e : ((["modulus", "_members"] : List Str).zip [D.int l.n, .lst (l.ms.map .int)]).lookup ("_members" : Str) = some (D.lst (l.ms.map .int)) := by
        simp only [List.zip_cons_cons, List.lookup, h1, h2]
      simp only [oListO, if_true, e, hG]
      rw [if_pos ⟨rfl, hn.1, hn.2⟩]
      have hs : (l.ms.map D.int).all D.sc = true := by simp [D.sc]
      unfold nmC
      simp only [hs, if_true]
      rfl
    · rw [gd_f hn]; trivial
end VL

set_option Elab.async false
set_option linter.all false
set_option maxRecDepth 100000
set_option maxHeartbeats 4000000
/-! int * own. -/
namespace PySem.W
open PySem PySem.Calls PyProof.Rows
theorem int_mul_own (a : Int) (t : Tok) (x dx C : Addr) :
    Meets (Builtin.«int.__mul__» ⟨[.int a t, .ref x], []⟩) (fun _ R s => s.heap.get? x = some (instObj C dx) ∧ R (.ok (.ret Value.notImplemented)) s) :=
  .of_wp fun prog w A R s h => by obtain ⟨hp, g, d, tk, os⟩ := s; obtain ⟨hl, h⟩ := h; unfold instObj at hl; wp_walk using wpAny_loadPart' hl; exact ⟨_, rfl, h⟩
section
variable {prog : Program} {w : World} {A : Around} {E : Value → Shared → Prop} {s : Shared} {K : Frag} {x C L f g dx : Addr} {h₀ : Heap} {m : Str → Option Value} {od : Option Obj}
theorem ksp_rmul {j : Int} {t : Tok} {fo ro : Option Value} {Q : Value → Shared → Prop} (Fq : Fr h₀ L s.heap m) (X₀ : K.In h₀) (I : InstAt s.heap x (instObj C dx) C od) (hc : selfFirst K C = true)
    (hs : findIn K (.ref C) "__rmul__" = some (some (.ref f))) (hf : isFn K (.ref f) = true) (hm : findIn K (.ref C) "__mul__" = some (some (.ref g)))
    (h1 : findIn K (.type "int") "__mul__" = some fo) (h2 : findIn K (.type "int") "__rmul__" = some ro) (hsub : subIn K (.ref C) (.type "int") = some false)
    (h : wpAny (model prog w) A (call (.ref f) [.ref x, .int j t]) (CmpBack Q) E s) : wpAny (model prog w) A (binaryOp .Mult (.int j t) (.ref x)) Q E s := by
  have X := X₀.keeps Fq.keep
  obtain ⟨cd, rest, hcd, hmr⟩ := ksp_first hc
  have one := ksp_try X I hs hf h
  have dec : wpAny (model prog w) A (tryMethod (.int j t) "__mul__" (.ref x)) (fun r s' => r = none ∧ s' = s) E s :=
    wpAny_tryMethod_declines (typeIs_int s j t) F.slot_int_mul (call_meets F.slot_int_mul (typeIs_int s j t) F.entry_int_mul (F.args_int_mul_2 _ _) (int_mul_own j t x dx C) ⟨I.at_, rfl, rfl, rfl⟩)
  obtain ⟨hh, g', d, tt, os⟩ := s
  have L1 : Looks (model prog w) hh (typeOf (.ref x)) (.ref C) := I.type
  have L2 : Looks (model prog w) hh (typeOf (.int j t)) (.type "int") := Looks.of_pure rfl
  have L3 : Looks (model prog w) hh (fillsNumberSlot (.ref C) "mul") true := fills_K X hcd hmr hm
  have L4 : Looks (model prog w) hh (fillsNumberSlot (.type "int") "mul") ((fo.isSome && !isSeqSlot fo) || (ro.isSome && !isSeqSlot ro)) := ksp_fillsT X h1 h2
  have L5 : Looks (model prog w) hh (isSubtype (.ref C) (.type "int")) false := looks_subIn X hsub
  have L7 : Looks (model prog w) hh (numberSlotInPython (.type "int") "mul") false := Looks.of_pure rfl
  generalize ((fo.isSome && !isSeqSlot fo) || (ro.isSome && !isSeqSlot ro)) = left at L4
  have hne : (Value.type "int" == Value.ref C) = false := Bool.eq_false_iff.mpr fun q => by cases beq_iff_eq.mp q
  have hi : Operator.Mult.info = ("*", "mul") := rfl
  simp only [binaryOp, hi]
  refine wpAny_holding (wpAny_bind ?_)
  unfold binaryOp1
  refine wpAny_bind (L2.at (wpAny_bind (L1.at (wpAny_bind (L4.at ?_)))))
  simp only [hne, Bool.false_eq_true, if_false]
  cases left with
  | false =>
    ksp_lk
    refine wpAny_mono one (fun r s' hr' => ?_) fun _ _ e => e
    obtain ⟨v, rfl, hq⟩ := hr'
    ksp_lk
    exact hq
  | true =>
    ksp_lk
    refine wpAny_mono dec (fun r s' hr' => ?_) fun _ _ e => e
    obtain ⟨rfl, rfl⟩ := hr'
    ksp_lk
    refine wpAny_mono one (fun r s' hr' => ?_) fun _ _ e => e
    obtain ⟨v, rfl, hq⟩ := hr'
    ksp_lk
    exact hq
end
end PySem.W
namespace L2
open PySem PySem.Spec PyProof.Rows
/-- what int * own asks of the class -/
structure BinR (K : PySem.W.Frag) (C f g : Addr) (fo ro : Option Value) : Prop where
  hs : PySem.W.findIn K (.ref C) "__rmul__" = some (some (.ref f))
  hf : PySem.W.isFn K (.ref f) = true
  hm : PySem.W.findIn K (.ref C) "__mul__" = some (some (.ref g))
  hc : PySem.W.selfFirst K C = true
  h1 : PySem.W.findIn K (.type "int") "__mul__" = some fo
  h2 : PySem.W.findIn K (.type "int") "__rmul__" = some ro
  sub : PySem.W.subIn K (.ref C) (.type "int") = some false
section
variable {X : Cx} {CX : CXT} {k : Nat} {C f g : Addr} {fd : FuncData} {ps : List Str} {sp : Sp} {E : St → XK}
def rBinR (C : Addr) (sp : Sp) (E : St → XK) : St → R2 := fun σ x y H Q => ∃ a dx fs j, x = .int j ∧ y = .ref a ∧ H a = some (.ins C dx fs) ∧ sp [y, x] H Q (E σ)
theorem op_binR {fo ro : Option Value} (B : BinR X.K C f g fo ro) (F : FnOk X.prog X.w X.K X.mg X.base CX k f fd ps sp) (hr : Room k X.A) (hb : Binds X.K fd ps []) (hx : ∀ σ, PassesAt CX X σ (E σ)) : OpRZ X (binaryOp .Mult) (rBinR C sp E) := by
  rintro pn s0 σ H x y v u Q I rx ry ⟨a, dx, fs, j, rfl, rfl, ea, q⟩
  cases (show u = Value.ref a from ry)
  obtain ⟨t, rfl⟩ := (show ∃ t, v = Value.int j t from rx)
  obtain ⟨mA, O, _⟩ := ins_get I.hok ea
  obtain ⟨od, J, _⟩ := O.look
  obtain ⟨m, hF⟩ := I.fr
  refine PySem.W.ksp_rmul hF I.ok.mod.kin J B.hc B.hs B.hf B.hm B.h1 B.h2 B.sub ?_
  refine wpAny_mono (run_fnS (us := [.ref a, .int j t]) (vs := [.ref a, .int j]) F hr hb (hx σ) I (.cons rfl (.cons ⟨t, rfl⟩ .nil)) q) (fun w s' z => ?_) fun _ _ x => x
  obtain ⟨z', H', I', rz, qz⟩ := z
  exact SlX.cmpback rz ⟨z', H', I', rz, qz⟩
end
end L2
namespace VL
open PySem PySem.Spec PyProof.Rows L2
section
variable {C : Cst} {G : List D → Option Res} {pos : Pos} {a b : Expr} {Y : Cy} {ρ : List B} {f : XE}
/-- int * own -/
def onIO (c : Str) (G : List D → Option Res) : List D → Option Res := fun ds => match ds with
  | [.int j, .obj c' ns xs] => if c' = c then G [.obj c' ns xs, .int j] else none
  | _ => none
theorem onIO_some {c : Str} {G : List D → Option Res} {ds : List D} {res : Res} (h : onIO c G ds = some res) : ∃ ns xs j, ds = [.int j, .obj c ns xs] ∧ G [.obj c ns xs, .int j] = some res := by
  unfold onIO at h
  split at h
  · rename_i j c' ns xs
    split at h
    · rename_i e; subst e; exact ⟨ns, xs, j, rfl, h⟩
    · cases h
  · cases h
variable {c : Str} {Ca g g2 : Addr} {k kk : Nat}
theorem hd_binR {fo ro : Option Value} (F : ObF C.W c Ca) (B : BinR C.W.K Ca g g2 fo ro) (hG : Fd C.W k g G) (hkk : C.k = some kk := by rfl) (hk : k ≤ kk := by decide) : CallHd C (.BinOp a .Mult b pos) [a, b] (onIO c G) := ⟨fun Y u ρ P τ σ H QV w hv hq => by
  have hw := u.w
  have ok := u.ck hkk
  obtain ⟨W, N, sc, kc, dd⟩ := C
  cases hw
  obtain ⟨fd, ps, hbd, hF⟩ := hG.ex
  refine sE.of (pe_opZ (op_binR B hF (ok.rm.mono hk) hbd (fun σ => passAt ok.tk σ)) pe_s pe_s) ((hv τ σ H w).mono fun v H1 ⟨r, d, w1, hb⟩ => (hb _ σ H1 w1).mono fun z H2 ⟨r2, d2, w2, res, g1, pl⟩ => ?_)
  obtain ⟨ns, xs, j, e, _⟩ := onIO_some g1
  obtain ⟨rfl, e2⟩ := List.cons.inj e
  obtain ⟨rfl, _⟩ := List.cons.inj e2
  have ez := EnvOk.isInt (EnvOk.pop w2)
  subst ez
  obtain ⟨ad, C2, dx, vs, h1, h2, h3, h4, h5⟩ := EnvOk.objAt w2
  have h6 := F.mg.symm.trans h2
  cases h6
  subst h1
  obtain ⟨Hs, ds, res2, s1, rp, gg, post⟩ := hq [(r, .int j), (r2, .obj c ns xs)] [.int j, .ref ad] H2 res rfl w2 g1 pl
  obtain ⟨ns3, xs3, j3, e3, gg2⟩ := onIO_some gg
  subst e3
  refine ⟨ad, dx, _, j, rfl, rfl, h3, Hs, _, res2, s1, ?_, gg2, post⟩
  simp only [Reps] at rp ⊢
  obtain ⟨v1, r1, e1, p1, v2, r2, e2, p2, e3⟩ := rp
  subst e3 e2
  cases e1
  exact ⟨_, _, rfl, p2, _, _, rfl, p1, rfl⟩⟩
theorem TF_onIO {α : Type} {m : R α} {mk : α → Res} {ns : List Str} {xs : List D} {j : Int} (h : TF (G [.obj c ns xs, .int j]) m mk) : TF (onIO c G [.int j, .obj c ns xs]) m mk := by
  have e : onIO c G [.int j, .obj c ns xs] = G [.obj c ns xs, .int j] := if_pos rfl
  rw [e]; exact h
theorem TL_io {α : Type} {m : R α} {mk : α → Res} {l : LotT} {j : Int} (h : TF (G [toD l, toD j]) m mk) : TF (onIO "Lot" G [toD j, toD l]) m mk := TF_onIO h
end
end VL

set_option Elab.async false
set_option linter.all false
set_option maxRecDepth 100000
set_option maxHeartbeats 4000000
/-! a, b = x, y with plain local names. -/
namespace VL
open PySem PySem.Spec PyProof.Rows L2
def sPar (i j : Nat) (fs : List XE) : XS := fun ρ => match xArgs fs ρ with
  | some (.ok [(r1, d1), (r2, d2)]) => if (r1.st = true ∨ d1.sc = true) ∧ (r2.st = true ∨ d2.sc = true) then some (.nx ((ρ.set i (.v (nm r1 d1) d1)).set j (.v (nm r2 d2) d2))) else none
  | some (.x x) => some (.ex x ρ)
  | _ => none
section
variable {C : Cst} {Y : Cy} {ρ : List B} {Φ : Fin} {pos px py pt : Pos} {a b : Expr} {kt k2} {pt2 : Pos} {x y : Str}
theorem v1_par {k : Nat} (o : CyOk Y k) (i j : Nat) (hN : Y.X.N.Nodup) (hi : Y.X.N[i]? = some x) (hj : Y.X.N[j]? = some y) (hij : i ≠ j) (hx : Y.X.env.scope.names.lookup x = some .local) (hy : Y.X.env.scope.names.lookup y = some .local)
    (hw : swappedStores [.Tuple [.Name x px, .Name y py] kt pt] (.Tuple [a, b] k2 pt2) Y.X.env = pure (some [x, y])) (hs : swapsWithSole [.Tuple [.Name x px, .Name y py] kt pt] (.Tuple [a, b] k2 pt2) pos.line Y.X.env = pure false)
    (hp : [a, b].all plain = true)
    (h : VA Y ρ [a, b] fun l => ∃ r1 d1 r2 d2, l = [(r1, d1), (r2, d2)] ∧ (r1.st = true ∨ d1.sc = true) ∧ (r2.st = true ∨ d2.sc = true) ∧ Φ.nx ((ρ.set i (.v (nm r1 d1) d1)).set j (.v (nm r2 d2) d2))) :
    V1 Y ρ (.Assign [.Tuple [.Name x px, .Name y py] kt pt] (.Tuple [a, b] k2 pt2) pos) Φ := fun τ σ H w _ =>
  s1.of (ps_par o.calm hN hi hj hij hx hy pa_s hw hs) ((VA.run hp h τ σ H w).mono fun vs H1 ⟨l, hl, hl2, w1, r1, d1, r2, d2, e, s1, s2, q⟩ => by
    subst e
    obtain ⟨v1, v2, rfl⟩ : ∃ v1 v2, vs = [v1, v2] := by
      match vs, hl with
      | [v1, v2], _ => exact ⟨v1, v2, rfl⟩
    refine ⟨v1, v2, rfl, _, ?_, q⟩
    have w2 : EnvOk Y.X.K Y.X.mg Y.Hs Y.Hi ρ σ (.v r2 d2 v2 :: .v r1 d1 v1 :: (τ ++ Y.τ)) H1 := w1
    have w3 := EnvOk.set (i := i) (EnvOk.set (i := j) w2 s2) s1
    rw [List.set_comm _ _ (Ne.symm hij), List.set_comm _ _ (Ne.symm hij)] at w3
    exact w3)
theorem s_par (i j : Nat) {k : Nat} {fs : List XE} (ha : SA C [a, b] fs) (hN : C.N.Nodup) (hk : C.k = some k := by rfl) (hi : C.N[i]? = some x := by rfl) (hj : C.N[j]? = some y := by rfl) (hij : i ≠ j := by decide) (hx : C.sc.names.lookup x = some .local := by rfl) (hy : C.sc.names.lookup y = some .local := by rfl)
    (hw : ∀ env : Env, env.scope = C.sc → swappedStores [.Tuple [.Name x px, .Name y py] kt pt] (.Tuple [a, b] k2 pt2) env = pure (some [x, y]) := by intro env h; cases env; cases h; rfl)
    (hs : ∀ env : Env, swapsWithSole [.Tuple [.Name x px, .Name y py] kt pt] (.Tuple [a, b] k2 pt2) pos.line env = pure false := by intro _; rfl) (hp : [a, b].all plain = true := by rfl) :
    Snd1 C (.Assign [.Tuple [.Name x px, .Name y py] kt pt] (.Tuple [a, b] k2 pt2) pos) (sPar i j fs) := fun Y u ρ o Φ e q => by
  have ok := u.ck hk
  have hN' : Y.X.N.Nodup := by rw [u.n]; exact hN
  have hi' : Y.X.N[i]? = some x := by rw [u.n]; exact hi
  have hj' : Y.X.N[j]? = some y := by rw [u.n]; exact hj
  have hx' : Y.X.env.scope.names.lookup x = some .local := by rw [u.s]; exact hx
  have hy' : Y.X.env.scope.names.lookup y = some .local := by rw [u.s]; exact hy
  refine v1_par ok i j hN' hi' hj' hij hx' hy' (hw _ u.s) (hs _) hp ?_
  unfold sPar at e
  split at e
  · rename_i r1 d1 r2 d2 e1
    split at e
    · rename_i hc
      cases e
      rcases args_some u ha e1 with ⟨x, z, k⟩ | ⟨l, z, k⟩
      · cases z
      · cases z
        exact k _ ⟨r1, d1, r2, d2, rfl, hc.1, hc.2, q⟩
    · cases e
  · rename_i x1 e1
    cases e
    rcases args_some u ha e1 with ⟨x, z, k⟩ | ⟨l, z, k⟩
    · cases z
      exact k q _
    · cases z
  · cases e
end
section
variable {α : Type} {k t : XS} {ρ : List B} {m : R α} {P : α → Out → Prop} {X : List B → Prop} {i j : Nat} {fs : List XE} {r1 r2 : Rg} {d1 d2 : D} {xx : Exc}
theorem K_par (h : xArgs fs ρ = some (.ok [(r1, d1), (r2, d2)])) (h1 : r1.st = true ∨ d1.sc = true) (h2 : r2.st = true ∨ d2.sc = true) (h3 : TK (cK t k ((ρ.set i (.v (nm r1 d1) d1)).set j (.v (nm r2 d2) d2))) m P X) : TK (cK (sCons (sPar i j fs) t) k ρ) m P X :=
  K_nx (by unfold sPar; rw [h]; exact if_pos ⟨h1, h2⟩) h3
theorem K_parl {γ δ : Type} [Enc γ] [Enc δ] {a : γ} {b : δ} {K : γ → δ → R α} (h : xArgs fs ρ = some (.ok [(r1, toD a), (r2, toD b)])) (h1 : ∀ a : γ, r1.st = true ∨ (toD a).sc = true) (h2 : ∀ b : δ, r2.st = true ∨ (toD b).sc = true)
    (h3 : ∀ (a : γ) (b : δ), TK (cK t k ((ρ.set i (.v (nm r1 (toD a)) (toD a))).set j (.v (nm r2 (toD b)) (toD b)))) (K a b) P X) : TK (cK (sCons (sPar i j fs) t) k ρ) (lt a fun a => lt b fun b => K a b) P X := K_par h (h1 a) (h2 b) (h3 a b)
theorem x_par (h : xArgs fs ρ = some (.x xx)) : cK (sCons (sPar i j fs) t) k ρ = some (.ex xx ρ) := x_st (by unfold sPar; rw [h])
end
end VL

set_option Elab.async false
set_option linter.all false
set_option maxHeartbeats 1000000
/-! What the laws draw: residues, members handed in; the constructor's first_repeated. (The defs are as gen2 prints them.) -/
namespace VL
open PySem PySem.Spec PyProof.Rows L2
noncomputable def gMembers_b  (number_82 : Int) (s81 : (List Int)) : R ((List Int)) :=
  (if (!(decide (number_82 ∈ s81))) = true then
  (gd (AppOk s81) <|
  .ok (s81 ++ [number_82]))
  else
  (.ok s81))
noncomputable def gMembers (cell : Int) (n' : Int) (most : Int) : R (List Int) :=
  R.bind (gDraws cell ([most] : List Int)) fun d72 =>
  gd (IxOk d72 (0 : Int)) <|
  lt ((1 : Int) + (ixL d72 (0 : Int))) fun size_75 =>
  R.bind (gRest cell most) fun v76 =>
  gd (RepOk ([n'] : List Int) size_75) <|
  R.bind (gDraws v76 (repL ([n'] : List Int) size_75)) fun d79 =>
  R.bind (forP gMembers_b d79 ([] : List Int)) fun s81 =>
  .ok s81
noncomputable def gAny_b (script : Scr) (start' : Int) (n' : Int) (part_46 : Int) (s45 : (List Int)) : R ((List Int)) :=
  gd (TimesOk (60 : Int) part_46) <|
  lt (min (60 : Int) (max (0 : Int) (n' - ((60 : Int) * part_46)))) fun size_48 =>
  R.bind (gCell script (start' + part_46)) fun v49 =>
  gd (RepOk ([(2 : Int)] : List Int) size_48) <|
  R.bind (gDraws v49 (repL ([(2 : Int)] : List Int) size_48)) fun d52 =>
  gd (RgOk 0 size_48) <|
  gd (((range1 size_48)).length ≤ sizeLine) <|
  gd (∀ x55 ∈ (range1 size_48), IxOk d52 x55) <|
  gd (∀ x55 ∈ (range1 size_48), (decide ((ixL d52 x55) = (1 : Int))) = true → TimesOk (60 : Int) part_46) <|
  gd ((s45).length + ((List.map (fun x55 : Int => (((60 : Int) * part_46) + x55)) (List.filter (fun x55 : Int => (decide ((ixL d52 x55) = (1 : Int)))) (range1 size_48)))).length ≤ sizeLine) <|
  lt (s45 ++ (List.map (fun x55 : Int => (((60 : Int) * part_46) + x55)) (List.filter (fun x55 : Int => (decide ((ixL d52 x55) = (1 : Int)))) (range1 size_48)))) fun row_62 =>
  .ok row_62
noncomputable def gAny (script : Scr) (start' : Int) (n' : Int) : R (List Int) :=
  gd (RgOk 0 (17 : Int)) <|
  R.bind (forP (gAny_b script start' n') (range1 (17 : Int)) ([] : List Int)) fun s45 =>
  R.bind (if (decide (((s45).length : Int) = (0 : Int))) = true then lt ([(0 : Int)] : List Int) fun row_64 =>
  .ok row_64 else .ok s45) fun s65 =>
  .ok s65
noncomputable def gResidues (script : Scr) (place : Int) (start' : Int) (n' : Int) : R (List Int) :=
  R.bind (gCell script place) fun v34 =>
  R.bind (gDraws v34 ([(8 : Int), n', (min n' (60 : Int))] : List Int)) fun d36 =>
  gd ((d36).length = 3) <|
  (if (decide ((ixL d36 0) = (7 : Int))) = true then
  (gd (RgOk 0 ((ixL d36 2) + (1 : Int))) <|
  gd (((range1 ((ixL d36 2) + (1 : Int)))).length ≤ sizeLine) <|
  gd (∀ x40 ∈ (range1 ((ixL d36 2) + (1 : Int))), 0 < n') <|
  .ok (List.map (fun x40 : Int => (((ixL d36 1) + x40) % n')) (range1 ((ixL d36 2) + (1 : Int)))))
  else
  ((if (decide ((ixL d36 0) = (6 : Int))) = true then
  (R.bind (gAny script start' n') fun v66 =>
  .ok v66)
  else
  (R.bind (gRest v34 (8 : Int)) fun v70 =>
  R.bind (gMembers v70 n' (20 : Int)) fun v84 =>
  .ok v84))))
noncomputable def gHanded (cell : Int) (n' : Int) (members : (List Int)) : R (List Int) :=
  R.bind (gDraws cell ([((members).length : Int), (2 : Int), (4 : Int)] : List Int)) fun d96 =>
  gd ((d96).length = 3) <|
  gd (((cutG members (some (ixL d96 0)) none)).length + ((cutG members none (some (ixL d96 0)))).length ≤ sizeLine) <|
  lt ((cutG members (some (ixL d96 0)) none) ++ (cutG members none (some (ixL d96 0)))) fun row_100 =>
  R.bind (if (decide ((ixL d96 1) = (1 : Int))) = true then lt (List.reverse row_100) fun row_102 =>
  .ok row_102 else .ok row_100) fun s103 =>
  gd (RgOk 0 ((s103).length : Int)) <|
  gd (((range1 ((s103).length : Int))).length ≤ sizeLine) <|
  gd (∀ x105 ∈ (range1 ((s103).length : Int)), IxOk s103 x105) <|
  gd (∀ x105 ∈ (range1 ((s103).length : Int)), 0 < (3 : Int)) <|
  gd (∀ x105 ∈ (range1 ((s103).length : Int)), TimesOk ((x105 % (3 : Int)) - (1 : Int)) n') <|
  gd (∀ x105 ∈ (range1 ((s103).length : Int)), TimesOk (((x105 % (3 : Int)) - (1 : Int)) * n') (ixL d96 2)) <|
  .ok (List.map (fun x105 : Int => ((ixL s103 x105) + ((((x105 % (3 : Int)) - (1 : Int)) * n') * (ixL d96 2)))) (range1 ((s103).length : Int)))
noncomputable def gFirst_b (residues : (List Int)) (at_124 : Int) (s123 : Unit) : R (L (Unit) D) :=
  gd (IxOk residues at_124) <|
  (if (decide ((ixL residues at_124) ∈ (cutG residues none (some at_124)))) = true then
  (gd (IxOk residues at_124) <|
  .ok (.rt (toD (α := Int) ((ixL residues at_124)))))
  else
  (.ok (.go ())))
noncomputable def gFirst (residues : (List Int)) : R D :=
  gd (RgOk (1 : Int) ((residues).length : Int)) <|
  R.bind (forL (gFirst_b residues) (range2 (1 : Int) ((residues).length : Int)) ()) fun z => match z with | .rt t => .ok t | .fin s123 => (.ok (toD (α := Unit) (())))
theorem cut_take {xs : List Int} {k : Nat} (h : k ≤ xs.length) : cutG xs none (some (k : Int)) = xs.take k := by
  unfold cutG
  rw [HT.sIx_none, HT.sIx_nat, Nat.min_eq_left h, List.drop_zero, Nat.sub_zero]
theorem first_loop (l : List Int) : ∀ (d k : Nat), l.length = k + d →
    (∀ r, fr (l.take k) (l.drop k) = some r → forL (gFirst_b l) (range2 (k : Int) (l.length : Int)) () = .ok (.rt (.int r))) ∧ (fr (l.take k) (l.drop k) = none → forL (gFirst_b l) (range2 (k : Int) (l.length : Int)) () = .ok (.fin ()))
  | 0, k, hl => by
    rw [range2_nil (by omega), List.drop_eq_nil_of_le (by omega)]
    exact ⟨(fun r h => by cases h), fun _ => rfl⟩
  | d + 1, k, hl => by
    have hk : k < l.length := by omega
    have hix : IxOk l (k : Int) := IxOk_nat (by omega)
    have hx : ixL l (k : Int) = l[k] := ixL_k (List.getElem?_eq_getElem hk)
    rw [range2_cons (by omega), forL_cons]
    have hb : gFirst_b l (k : Int) () = if l[k] ∈ l.take k then .ok (.rt (.int l[k])) else .ok (.go ()) := by
      unfold gFirst_b
      rw [gd_t hix, hx, cut_take (by omega)]
      by_cases hm : l[k] ∈ l.take k
      · rw [if_pos (by simpa using hm), if_pos hm, gd_t hix]; rfl
      · rw [if_neg (by simpa using hm), if_neg hm]
    rw [hb]
    have hd : l.drop k = l[k] :: l.drop (k + 1) := List.drop_eq_getElem_cons hk
    rw [hd]
    unfold fr
    have ht : l.take k ++ [l[k]] = l.take (k + 1) := by rw [List.take_add_one, List.getElem?_eq_getElem hk]; rfl
    by_cases hm : l[k] ∈ l.take k
    · rw [if_pos hm, if_pos hm]
      exact ⟨(fun r e => by cases e; rfl), fun e => by cases e⟩
    · rw [if_neg hm, if_neg hm, ht]
      have := first_loop l d (k + 1) (by omega)
      simpa using this
theorem first_ok (l : List Int) (r : Int) (hz : l.length < 100000) (h : fr [] l = some r) : gFirst l = .ok (.int r) := by
  cases l with
  | nil => cases h
  | cons a t =>
    unfold gFirst
    rw [gd_t (RgOk_of (by simp only [List.length_cons] at hz ⊢; omega))]
    have hh : fr ((a :: t).take 1) ((a :: t).drop 1) = some r := h
    have := (first_loop (a :: t) t.length 1 (by simp; omega)).1 r hh
    have e : ((1 : Nat) : Int) = 1 := rfl
    rw [e] at this
    rw [this]
    rfl
theorem d2 (c a b : Int) (ha : 0 < a ∧ a < 2 ^ 250) (hb : 0 < b ∧ b < 2 ^ 250) : ∃ x y, gDraws c [a, b] = .ok [x, y] ∧ (0 ≤ x ∧ x < a) ∧ (0 ≤ y ∧ y < b) := by
  obtain ⟨ds, e, h⟩ := draws_spec c [a, b] (by intro l hl; simp at hl; rcases hl with rfl | rfl <;> assumption) (show 2 < 1000 by decide)
  obtain ⟨x, y, rfl, h1, h2⟩ := below2 h
  exact ⟨x, y, e, h1, h2⟩
theorem lcR_ok {α β : Type} {f : α → R β} : ∀ {xs : List α}, (∀ x ∈ xs, ∃ y, f x = .ok y) → ∃ l, lcR f xs = .ok l ∧ l.length = xs.length
  | [], _ => ⟨[], rfl, rfl⟩
  | x :: xs, h => by
    obtain ⟨y, hy⟩ := h x List.mem_cons_self
    obtain ⟨l, hl, hn⟩ := lcR_ok (xs := xs) fun z hz => h z (List.mem_cons_of_mem _ hz)
    exact ⟨y :: l, by unfold lcR; rw [hy]; simp only [R.nx, R.ok_bind]; rw [hl]; rfl, by simp [hn]⟩
theorem members_loop : ∀ (ds acc : List Int), acc.length + ds.length < 10000 → ∃ l, forP gMembers_b ds acc = .ok l ∧ acc.length ≤ l.length ∧ l.length ≤ acc.length + ds.length ∧ (ds ≠ [] → 1 ≤ l.length)
  | [], acc, _ => ⟨acc, rfl, Nat.le_refl _, by simp, fun h => absurd rfl h⟩
  | d :: ds, acc, h => by
    rw [List.length_cons] at h
    have hb : gMembers_b d acc = if d ∈ acc then .ok acc else .ok (acc ++ [d]) := by
      unfold gMembers_b
      by_cases hd : d ∈ acc
      · rw [if_neg (by simpa using hd), if_pos hd]
      · rw [if_pos (by simpa using hd), gd_t (AppOk_of (by omega)), if_neg hd]
    rw [forP_cons, hb]
    by_cases hd : d ∈ acc
    · rw [if_pos hd, R.ok_bind]
      obtain ⟨l, h1, h2, h3, _⟩ := members_loop ds acc (by omega)
      refine ⟨l, h1, h2, by rw [List.length_cons]; omega, fun _ => ?_⟩
      have : 0 < acc.length := List.length_pos_iff.mpr (fun e => by rw [e] at hd; cases hd)
      omega
    · rw [if_neg hd, R.ok_bind]
      obtain ⟨l, h1, h2, h3, _⟩ := members_loop ds (acc ++ [d]) (by rw [List.length_append, List.length_singleton]; omega)
      rw [List.length_append, List.length_singleton] at h2 h3
      exact ⟨l, h1, by omega, by rw [List.length_cons]; omega, fun _ => by omega⟩
theorem members_ok (c n m : Int) (hn : 1 ≤ n ∧ n ≤ 1000) (hm : 1 ≤ m ∧ m ≤ 100) : ∃ l, gMembers c n m = .ok l ∧ 1 ≤ l.length ∧ (l.length : Int) ≤ m := by
  unfold gMembers
  obtain ⟨x, h1, hx⟩ := d1 c m (by omega)
  obtain ⟨v, h2⟩ := gRest_ok c m (by omega)
  have hl : (repL [n] (1 + x)).length = (1 + x).toNat := by rw [repL_length]; simp
  obtain ⟨ds, h3, hb⟩ := draws_spec v (repL [n] (1 + x)) (by
    intro l hl
    unfold repL at hl
    simp at hl
    omega) (by rw [hl]; omega)
  have hd := hb.length
  rw [hl] at hd
  rw [h1, R.ok_bind, gd_t IxOk_0, lt_ap, ixL_0, h2, R.ok_bind, gd_t (show RepOk [n] (1 + x) from ⟨by omega, by omega, by
        rw [show ([n] : List Int).length = 1 from rfl]; exact szL (by omega)⟩), h3, R.ok_bind]
  obtain ⟨l, h4, _, h5, h6⟩ := members_loop ds [] (by simp; omega)
  rw [h4]
  refine ⟨l, rfl, h6 fun e => ?_, ?_⟩
  · rw [e] at hd; simp at hd; omega
  · simp at h5; omega
theorem cut_le {xs : List Int} {a b : Option Int} : (cutG xs a b).length ≤ xs.length := by
  unfold cutG
  rw [List.length_take, List.length_drop]
  omega
theorem below_all {n : Int} : ∀ {xs ls : List Int}, Below xs ls → (∀ l ∈ ls, l = n) → ∀ x ∈ xs, 0 ≤ x ∧ x < n
  | [], [], _, _ => fun x hx => by cases hx
  | x :: xs, l :: ls, h, hl => fun y hy => by
    have e := hl l List.mem_cons_self
    subst e
    rcases List.mem_cons.mp hy with rfl | hy
    · exact h.1
    · exact below_all h.2 (fun z hz => hl z (List.mem_cons_of_mem _ hz)) y hy
  | [], _ :: _, h, _ => fun x hx => by cases hx
  | _ :: _, [], h, _ => h.elim
/-- a set of residues of n -/
structure Rs (n : Int) (l : List Int) : Prop where
  nd : l.Nodup
  rg : ∀ x ∈ l, 0 ≤ x ∧ x < n
  ne : 1 ≤ l.length
theorem nodup_len : ∀ (n : Nat) (l : List Int), l.Nodup → (∀ x ∈ l, 0 ≤ x ∧ x < (n : Int)) → l.length ≤ n
  | 0, l, _, h => by
    cases l with
    | nil => simp
    | cons a l => have := h a List.mem_cons_self; omega
  | n + 1, l, hd, h => by
    have h2 : (l.erase (n : Int)).length ≤ n := nodup_len n _ (hd.erase _) fun x hx => by
      have hm := List.mem_of_mem_erase hx
      have := h x hm
      have hne : x ≠ (n : Int) := fun e => by
        subst e
        exact (List.Nodup.not_mem_erase hd) hx
      omega
    by_cases hm : (n : Int) ∈ l
    · rw [List.length_erase_of_mem hm] at h2; omega
    · rw [List.erase_of_not_mem hm] at h2; omega
theorem Rs.le {n : Int} {l : List Int} (h : Rs n l) (hn : 0 ≤ n) : (l.length : Int) ≤ n := by
  have := nodup_len n.toNat l h.nd fun x hx => by have := h.rg x hx; omega
  omega
theorem gMembers_loop : ∀ (ds acc : List Int), acc.Nodup → acc.length + ds.length < 10000 → ∃ l, forP gMembers_b ds acc = .ok l ∧ l.Nodup ∧ (∀ x ∈ l, x ∈ acc ∨ x ∈ ds) ∧ (acc.length ≤ l.length) ∧ (ds ≠ [] → 1 ≤ l.length)
  | [], acc, hn, _ => ⟨acc, rfl, hn, fun x hx => .inl hx, Nat.le_refl _, fun h => absurd rfl h⟩
  | d :: ds, acc, hn, h => by
    rw [List.length_cons] at h
    have hb : gMembers_b d acc = if d ∈ acc then .ok acc else .ok (acc ++ [d]) := by
      unfold gMembers_b
      by_cases hd : d ∈ acc
      · rw [if_neg (by simpa using hd), if_pos hd]
      · rw [if_pos (by simpa using hd), gd_t (AppOk_of (by omega)), if_neg hd]
    rw [forP_cons, hb]
    by_cases hd : d ∈ acc
    · rw [if_pos hd, R.ok_bind]
      obtain ⟨l, h1, h2, h3, h4, _⟩ := gMembers_loop ds acc hn (by omega)
      refine ⟨l, h1, h2, fun x hx => (h3 x hx).imp id (List.mem_cons_of_mem _), h4, fun _ => ?_⟩
      have : 0 < acc.length := List.length_pos_iff.mpr (fun e => by rw [e] at hd; cases hd)
      omega
    · rw [if_neg hd, R.ok_bind]
      obtain ⟨l, h1, h2, h3, h4, _⟩ := gMembers_loop ds (acc ++ [d]) (by
        rw [List.nodup_append]
        exact ⟨hn, by simp, fun a ha b hb => by simp at hb; subst hb; exact fun e => hd (e ▸ ha)⟩) (by rw [List.length_append, List.length_singleton]; omega)
      rw [List.length_append, List.length_singleton] at h4
      refine ⟨l, h1, h2, fun x hx => ?_, by omega, fun _ => by omega⟩
      rcases h3 x hx with h | h
      · rcases List.mem_append.mp h with h | h
        · exact .inl h
        · simp at h; subst h; exact .inr List.mem_cons_self
      · exact .inr (List.mem_cons_of_mem _ h)
theorem gMembers_rs (c n m : Int) (hn : 1 ≤ n ∧ n ≤ 1000) (hm : 1 ≤ m ∧ m ≤ 100) : ∃ l, gMembers c n m = .ok l ∧ Rs n l := by
  unfold gMembers
  obtain ⟨x, h1, hx⟩ := d1 c m (by omega)
  obtain ⟨v, h2⟩ := gRest_ok c m (by omega)
  have hl : (repL [n] (1 + x)).length = (1 + x).toNat := by rw [repL_length]; simp
  have hall : ∀ l ∈ repL [n] (1 + x), l = n := by
    intro l hl
    unfold repL at hl
    simp at hl
    exact hl.2
  obtain ⟨ds, h3, hb⟩ := draws_spec v (repL [n] (1 + x)) (fun l hl => by rw [hall l hl]; omega) (by rw [hl]; omega)
  have hd := hb.length
  rw [hl] at hd
  rw [h1, R.ok_bind, gd_t IxOk_0, lt_ap, ixL_0, h2, R.ok_bind, gd_t (show RepOk [n] (1 + x) from ⟨by omega, by omega, by
        rw [show ([n] : List Int).length = 1 from rfl]; exact szL (by omega)⟩), h3, R.ok_bind]
  obtain ⟨l, h4, h5, h6, _, h7⟩ := gMembers_loop ds [] (by simp) (by simp; omega)
  rw [h4]
  refine ⟨l, rfl, h5, fun y hy => ?_, h7 fun e => by rw [e] at hd; simp at hd; omega⟩
  rcases h6 y hy with h | h
  · cases h
  · exact below_all hb hall y h
theorem range1_get {n : Int} {i : Nat} (h : (i : Int) < n) : (range1 n)[i]? = some (i : Int) := by
  unfold range1 rangeI
  rw [List.getElem?_map, List.getElem?_range (by omega)]
  simp
theorem range1_mem {n x : Int} : x ∈ range1 n ↔ 0 ≤ x ∧ x < n := by
  unfold range1 rangeI
  simp only [List.mem_map, List.mem_range]
  constructor
  · rintro ⟨a, h, rfl⟩; omega
  · intro h; exact ⟨x.toNat, by omega, by omega⟩
theorem range1_nodup (n : Int) : (range1 n).Nodup := by
  unfold range1 rangeI
  exact List.Pairwise.map _ (fun a b h e => h (by omega)) List.nodup_range
theorem gAny_step (s : Scr) (k n : Int) (hk : 0 ≤ k) (hn : 1 ≤ n ∧ n ≤ 1000) (p : Int) (hp : 0 ≤ p ∧ p < 17) (acc : List Int) (h1 : acc.Nodup) (h2 : ∀ x ∈ acc, 0 ≤ x ∧ x < n ∧ x < 60 * p) :
    ∃ l, gAny_b s k n p acc = .ok l ∧ l.Nodup ∧ ∀ x ∈ l, 0 ≤ x ∧ x < n ∧ x < 60 * (p + 1) := by
  unfold gAny_b
  have hal : acc.length ≤ n.toNat := nodup_len n.toNat acc h1 fun x hx => by have := h2 x hx; omega
  have hsz : 0 ≤ min (60 : Int) (max 0 (n - 60 * p)) ∧ min (60 : Int) (max 0 (n - 60 * p)) ≤ 60 ∧ (0 < min (60 : Int) (max 0 (n - 60 * p)) → 60 * p + min (60 : Int) (max 0 (n - 60 * p)) ≤ n) := by omega
  rw [gd_t (times_ok (by omega) (by omega)), lt_ap]
  generalize min (60 : Int) (max 0 (n - 60 * p)) = sz at hsz
  obtain ⟨v, e1⟩ := gCell_ok s (k + p) (by omega)
  have hl : (repL [(2 : Int)] sz).length = sz.toNat := by rw [repL_length]; simp
  obtain ⟨ds, e2, hb⟩ := draws_spec v (repL [(2 : Int)] sz) (fun l hl => by
    unfold repL at hl
    simp at hl
    omega) (by rw [hl]; omega)
  have hd := hb.length
  rw [hl] at hd
  have hfl : (List.map (fun x55 : Int => ((60 * p) + x55)) (List.filter (fun x55 : Int => (decide ((ixL ds x55) = (1 : Int)))) (range1 sz))).length ≤ 60 := by
    rw [List.length_map]
    have := List.length_filter_le (fun x55 : Int => (decide ((ixL ds x55) = (1 : Int)))) (range1 sz)
    rw [range1_length] at this
    omega
  rw [e1, R.ok_bind, gd_t (show RepOk [(2 : Int)] sz from ⟨by omega, by omega, by
        rw [show ([(2 : Int)] : List Int).length = 1 from rfl]; exact szL (by omega)⟩), e2, R.ok_bind, gd_t (RgOk_of (by omega)), gd_t (szL (by rw [range1_length]; omega)), gd_t (fun x hx => by
        have := range1_mem.mp hx
        exact IxOk_nat (by omega)), gd_t (fun x hx _ => times_ok (by omega) (by omega)), gd_t (szL (by omega)), lt_ap]
  refine ⟨_, rfl, ?_, fun x hx => ?_⟩
  · rw [List.nodup_append]
    refine ⟨h1, List.Pairwise.map _ (fun a b h e => h (by omega)) (List.Pairwise.filter _ (range1_nodup sz)), fun a ha b hb e => ?_⟩
    subst e
    have h3 := h2 a ha
    obtain ⟨y, hy, rfl⟩ := List.mem_map.mp hb
    have := range1_mem.mp (List.mem_filter.mp hy).1
    omega
  · rcases List.mem_append.mp hx with h | h
    · have := h2 x h; omega
    · obtain ⟨y, hy, rfl⟩ := List.mem_map.mp h
      have := range1_mem.mp (List.mem_filter.mp hy).1
      omega
theorem gAny_rs (s : Scr) (k n : Int) (hk : 0 ≤ k) (hn : 1 ≤ n ∧ n ≤ 1000) : ∃ l, gAny s k n = .ok l ∧ Rs n l := by
  unfold gAny
  rw [gd_t (RgOk_of (by omega))]
  obtain ⟨l, e1, h1, h2⟩ := forP_inv (b := gAny_b s k n) (as := range1 17) (fun pre acc => acc.Nodup ∧ ∀ x ∈ acc, 0 ≤ x ∧ x < n ∧ x < 60 * (pre.length : Int)) (fun pre a post acc e h => by
    have ha : (range1 17)[pre.length]? = some a := by rw [e]; simp
    have hlt : pre.length < 17 := by
      have : (range1 17).length = 17 := by rw [range1_length]; rfl
      rw [e, List.length_append, List.length_cons] at this
      omega
    rw [range1_get (by omega)] at ha
    cases ha
    obtain ⟨l, h3, h4, h5⟩ := gAny_step s k n hk hn (pre.length : Int) (by omega) acc h.1 h.2
    exact ⟨l, h3, h4, fun x hx => by have := h5 x hx; rw [List.length_append, List.length_singleton]; push_cast; omega⟩) (s := []) ⟨by simp, fun x hx => by cases hx⟩
  rw [e1, R.ok_bind]
  by_cases hz : l.length = 0
  · rw [if_pos (by simpa using hz), lt_ap, R.ok_bind]
    exact ⟨[0], rfl, by simp, fun x hx => by simp at hx; subst hx; omega, by simp⟩
  · rw [if_neg (by simp; intro e; rw [e] at hz; exact hz rfl), R.ok_bind]
    exact ⟨l, rfl, h1, fun x hx => by have := h2 x hx; omega, by omega⟩
theorem mod_inj {n a b : Int} (hn : 0 < n) (h : a % n = b % n) (h1 : a - b < n) (h2 : b - a < n) : a = b := by
  have hd : n ∣ a - b := Int.dvd_of_emod_eq_zero (by rw [Int.sub_emod, h]; simp)
  obtain ⟨q, hq⟩ := hd
  by_cases h0 : q = 0
  · subst h0; omega
  · by_cases hp : 1 ≤ q
    · have : n * 1 ≤ n * q := Int.mul_le_mul_of_nonneg_left hp (by omega)
      omega
    · have : n * q ≤ n * (-1) := Int.mul_le_mul_of_nonneg_left (by omega) (by omega)
      omega
theorem gResidues_rs (s : Scr) (pl k n : Int) (hpl : 0 ≤ pl) (hk : 0 ≤ k) (hn : 1 ≤ n ∧ n ≤ 1000) : ∃ l, gResidues s pl k n = .ok l ∧ Rs n l := by
  unfold gResidues
  obtain ⟨v, e1⟩ := gCell_ok s pl hpl
  obtain ⟨ds, e2, hb⟩ := draws_spec v [8, n, min n 60] (by intro l hl; simp at hl; omega) (show 3 < 1000 by decide)
  obtain ⟨x, y, z, rfl, hx, hy, hz⟩ := below3 hb
  rw [e1, R.ok_bind, e2, R.ok_bind, gd_t (show ([x, y, z] : List Int).length = 3 from rfl), ixL_0, ixL_1, ixL_2]
  by_cases h7 : x = 7
  · rw [if_pos (by simpa using h7), gd_t (RgOk_of (by omega)), gd_t (szL (by rw [range1_length]; omega)), gd_t (fun _ _ => by omega)]
    refine ⟨_, rfl, ?_, fun w hw => ?_, ?_⟩
    · have h1 : (range1 (z + 1)).Pairwise fun a b => (y + a) % n ≠ (y + b) % n := by
        refine List.Pairwise.imp_of_mem (fun {a b} ha hb hne e => ?_) (range1_nodup (z + 1))
        have h1 := range1_mem.mp ha
        have h2 := range1_mem.mp hb
        exact hne (by have := mod_inj (by omega) e (by omega) (by omega); omega)
      exact List.Pairwise.map _ (fun a b h => h) h1
    · obtain ⟨a, _, rfl⟩ := List.mem_map.mp hw
      exact ⟨Int.emod_nonneg _ (by omega), Int.emod_lt_of_pos _ (by omega)⟩
    · rw [List.length_map, range1_length]; omega
  · rw [if_neg (by simpa using h7)]
    by_cases h6 : x = 6
    · obtain ⟨l, e3, h⟩ := gAny_rs s k n hk hn
      rw [if_pos (by simpa using h6), e3]
      exact ⟨l, rfl, h⟩
    · obtain ⟨r, e3⟩ := gRest_ok v 8 (by decide)
      obtain ⟨l, e4, h⟩ := gMembers_rs r n 20 hn (by decide)
      rw [if_neg (by simpa using h6), e3, R.ok_bind, e4]
      exact ⟨l, rfl, h⟩
theorem cut_drop {xs : List Int} {k : Nat} (h : k ≤ xs.length) : cutG xs (some (k : Int)) none = xs.drop k := by
  unfold cutG
  rw [HT.sIx_none, HT.sIx_nat, Nat.min_eq_left h, List.take_of_length_le (by rw [List.length_drop]; omega)]
theorem map_ixL (s : List Int) : (range1 (s.length : Int)).map (ixL s) = s := by
  apply List.ext_getElem?
  intro i
  rw [List.getElem?_map]
  by_cases hi : i < s.length
  · rw [range1_get (by omega), List.getElem?_eq_getElem hi]
    show some (ixL s (i : Int)) = _
    rw [ixL_k (List.getElem?_eq_getElem hi)]
  · rw [List.getElem?_eq_none (by rw [range1_length]; omega), List.getElem?_eq_none (by omega)]
    rfl
theorem gHanded_ok (c n : Int) (mem : List Int) (hn : 1 ≤ n ∧ n ≤ 1000) (hm : Rs n mem) : ∃ h, gHanded c n mem = .ok h ∧ (h.map (· % n)).Perm mem ∧ h.length = mem.length := by
  have hle := hm.le (by omega)
  have hne := hm.ne
  unfold gHanded
  obtain ⟨ds, e2, hb⟩ := draws_spec c [(mem.length : Int), 2, 4] (by intro l hl; simp at hl; omega) (show 3 < 1000 by decide)
  obtain ⟨x, y, z, rfl, hx, hy, hz⟩ := below3 hb
  obtain ⟨k, rfl⟩ : ∃ k : Nat, x = k := ⟨x.toNat, by omega⟩
  rw [e2, R.ok_bind, gd_t (show ([(k : Int), y, z] : List Int).length = 3 from rfl), ixL_0, ixL_1, ixL_2, cut_drop (by omega), cut_take (by omega), gd_t (szL (by rw [List.length_drop, List.length_take]; omega)), lt_ap]
  have p1 : (mem.drop k ++ mem.take k).Perm mem := List.perm_append_comm.trans (by rw [List.take_append_drop])
  obtain ⟨s, e3, p2⟩ : ∃ s : List Int, (if decide (y = 1) = true then lt (List.reverse (mem.drop k ++ mem.take k)) fun row_102 => R.ok row_102 else R.ok (mem.drop k ++ mem.take k)) = R.ok s ∧ s.Perm mem := by
    by_cases h : y = 1
    · exact ⟨_, by rw [if_pos (by simpa using h), lt_ap], (List.reverse_perm _).trans p1⟩
    · exact ⟨_, by rw [if_neg (by simpa using h)], p1⟩
  have hl := p2.length_eq
  rw [e3, R.ok_bind, gd_t (RgOk_of (by omega)), gd_t (szL (by rw [range1_length]; omega)), gd_t (fun a ha => by have := range1_mem.mp ha; exact IxOk_nat (by omega)), gd_t (fun _ _ => by decide), gd_t (fun a ha => times_ok (by omega) (by omega)), gd_t (fun a ha => times_ok (by
    have h1 : (a % 3 - 1) = -1 ∨ (a % 3 - 1) = 0 ∨ (a % 3 - 1) = 1 := by omega
    rcases h1 with h | h | h <;> rw [h] <;> omega) (by omega))]
  refine ⟨_, rfl, ?_, by rw [List.length_map, range1_length]; omega⟩
  rw [List.map_map]
  have : (range1 (s.length : Int)).map ((fun x => x % n) ∘ fun x105 : Int => ((ixL s x105) + ((((x105 % (3 : Int)) - (1 : Int)) * n) * z))) = (range1 (s.length : Int)).map (ixL s) := by
    refine List.map_congr_left fun a ha => ?_
    have h1 := range1_mem.mp ha
    have h2 := hm.rg (ixL s a) (p2.mem_iff.mp (ixL_mem (IxOk_nat h1)))
    show (ixL s a + (((a % 3) - 1) * n) * z) % n = ixL s a
    rw [show (((a % 3) - 1) * n) * z = n * (((a % 3) - 1) * z) from by rw [Int.mul_comm ((a % 3) - 1) n, Int.mul_assoc], Int.add_mul_emod_self_left]
    exact Int.emod_eq_of_lt h2.1 h2.2
  rw [this, map_ixL]
  exact p2
end VL

set_option Elab.async false
set_option linter.all false
set_option maxHeartbeats 1000000
/-! Lots made by operations. -/
namespace VL
open PySem PySem.Spec PyProof.Rows L2
theorem sortI_congr {a b : List Int} (h : a.Perm b) : sortI a = sortI b :=
  List.Perm.eq_of_pairwise (fun x y _ _ h1 h2 => by omega) (sortI_pw a) (sortI_pw b) ((sortI_perm a).trans (h.trans (sortI_perm b).symm))
/-- the residues of numbers -/
abbrev rsd (n : Int) (h : List Int) : List Int := h.map fun x : Int => x % n
/-- the lot of numbers -/
abbrev lotOf (n : Int) (l : List Int) : LotT := ⟨n, sortI (rsd n l)⟩
/-- numbers that make a lot -/
structure Nu (n : Int) (l : List Int) : Prop where
  hn : 1 ≤ n ∧ n ≤ 1000
  nd : (rsd n l).Nodup
  ne : l ≠ []
theorem Nu.le {n : Int} {l : List Int} (h : Nu n l) : l.length ≤ 1000 := by
  have h0 := h.hn
  have := nodup_len n.toNat (rsd n l) h.nd fun x hx => by
    obtain ⟨a, _, rfl⟩ := List.mem_map.mp hx
    have := Int.emod_nonneg a (show n ≠ 0 by omega)
    have := Int.emod_lt_of_pos a (show 0 < n by omega)
    omega
  rw [List.length_map] at this
  omega
theorem rsd_rsd (n : Int) (l : List Int) : rsd n (rsd n l) = rsd n l := by
  unfold rsd
  rw [List.map_map]
  exact List.map_congr_left fun a _ => Int.emod_emod _ _
theorem Rs.nu {n : Int} {l : List Int} (hn : 1 ≤ n ∧ n ≤ 1000) (h : Rs n l) : Nu n l ∧ rsd n l = l := by
  have e : rsd n l = l := by
    have : l.map (fun x : Int => x % n) = l.map id := List.map_congr_left fun a ha => by
      have := h.rg a ha
      exact Int.emod_eq_of_lt this.1 this.2
    unfold rsd
    rw [this, List.map_id]
  refine ⟨⟨hn, by rw [e]; exact h.nd, fun z => ?_⟩, e⟩
  have := h.ne
  rw [z] at this
  simp at this
theorem pLot_nu {n : Int} {l : List Int} (h : Nu n l) : pLot gFirst n l = .ok (lotOf n l) := by
  have hle := h.le
  unfold pLot
  rw [if_pos h.hn, if_neg h.ne, gd_t (by omega), if_neg]
  intro hd
  exact (dcount_lt (rsd n l)).mp (by rw [List.length_map]; exact hd) (fr_of_nodup (by simpa using h.nd))
theorem Nu.perm {n : Int} {l k : List Int} (h : Nu n l) (p : (rsd n k).Perm (rsd n l)) : Nu n k ∧ lotOf n k = lotOf n l := by
  refine ⟨⟨h.hn, p.nodup_iff.mpr h.nd, fun z => ?_⟩, by unfold lotOf; rw [sortI_congr p]⟩
  have := p.length_eq
  rw [z] at this
  simp at this
  exact h.ne (List.length_eq_zero_iff.mp (by omega))
/-- f that respects residues, and tells them apart -/
structure Mf (n : Int) (f : Int → Int) : Prop where
  eq : ∀ x, f (x % n) % n = f x % n
  inj : ∀ x y, 0 ≤ x ∧ x < n → 0 ≤ y ∧ y < n → f x % n = f y % n → x = y
theorem Mf.nu {n : Int} {f : Int → Int} {l : List Int} (m : Mf n f) (h : Nu n l) : Nu n (l.map f) ∧ Nu n ((sortI (rsd n l)).map f) ∧ lotOf n ((sortI (rsd n l)).map f) = lotOf n (l.map f) := by
  have hn := h.hn
  have e : rsd n ((rsd n l).map f) = rsd n (l.map f) := by
    unfold rsd
    rw [List.map_map, List.map_map, List.map_map]
    exact List.map_congr_left fun a _ => m.eq a
  have hl : Nu n (l.map f) := by
    refine ⟨hn, ?_, fun z => h.ne (List.map_eq_nil_iff.mp z)⟩
    rw [← e]
    unfold rsd
    rw [List.map_map, List.Nodup, List.pairwise_map]
    refine List.Pairwise.imp_of_mem (fun {a b} ha hb hne z => hne (m.inj a b ?_ ?_ z)) h.nd
    · obtain ⟨x, _, rfl⟩ := List.mem_map.mp ha
      exact ⟨Int.emod_nonneg _ (by omega), Int.emod_lt_of_pos _ (by omega)⟩
    · obtain ⟨x, _, rfl⟩ := List.mem_map.mp hb
      exact ⟨Int.emod_nonneg _ (by omega), Int.emod_lt_of_pos _ (by omega)⟩
  have p : (rsd n ((sortI (rsd n l)).map f)).Perm (rsd n (l.map f)) := by
    rw [← e]
    exact (((sortI_perm (rsd n l)).map f).map _)
  obtain ⟨h1, h2⟩ := hl.perm p
  exact ⟨hl, h1, h2⟩
theorem mf_add (n k : Int) (hn : 0 < n) : Mf n (fun x => x + k) := ⟨fun x => by simp [Int.add_emod], fun x y hx hy h => by
  have := mod_inj hn h (by omega) (by omega); omega⟩
theorem mf_sub (n k : Int) (hn : 0 < n) : Mf n (fun x => x - k) := ⟨fun x => by simp [Int.sub_emod], fun x y hx hy h => by
  have := mod_inj hn h (by omega) (by omega); omega⟩
theorem mf_neg (n : Int) (hn : 0 < n) : Mf n (fun x => -x) := ⟨fun x => by
  rw [show -(x % n) = 0 - x % n from by omega, show -x = 0 - x from by omega, Int.sub_emod, Int.emod_emod, ← Int.sub_emod], fun x y hx hy h => by
  have := mod_inj hn h (by omega) (by omega); omega⟩
theorem eqOk_pairL (n : Int) (ms : List Int) : D.eqOk (toD (α := Int × List Int) (n, ms)) = true := by
  have h := depth_ints ms
  show D.eqOk (.tup [.int n, .lst (ms.map .int)]) = true
  have hm : max (PyData.depthAll (toPs (ms.map .int))) 0 ≤ 1 := by omega
  simp [D.eqOk, D.pure, pures, pures_ints, D.toP, toPs, SeqAt.shaped, PyData.canLay0, PyData.canLayAll0, lay_ints, PyData.depth, PyData.depthAll]
  omega
theorem eqv_pairL (n m : Int) (as bs : List Int) : D.eqv (toD (α := Int × List Int) (n, as)) (toD (α := Int × List Int) (m, bs)) = decide (n = m ∧ as = bs) := by
  show D.eqv (.tup [.int n, .lst (as.map .int)]) (.tup [.int m, .lst (bs.map .int)]) = _
  simp [D.eqv, D.toP, toPs, PyData.eqv, PyData.eqvAll, eqv_all, Bool.decide_and]
  rfl
end VL

set_option Elab.async false
set_option linter.all false
set_option maxHeartbeats 1000000
/-! Two members that agree: residues_of and the laws' _law_twice. (The defs are as gen2 prints them.) -/
namespace VL
open PySem PySem.Spec PyProof.Rows L2
noncomputable def gResOf_b (residues_218 : (List Int)) (at_221 : Int) (s220 : Unit) : R (Unit) :=
  gd (IxOk residues_218 at_221) <|
  gd (IxOk residues_218 (at_221 - (1 : Int))) <|
  (if (decide ((ixL residues_218 at_221) = (ixL residues_218 (at_221 - (1 : Int))))) = true then
  (gd (IxOk residues_218 at_221) <|
  .ex ⟨"Clash", ["residue"], [toD (α := Int) ((ixL residues_218 at_221))]⟩)
  else
  (.ok ()))
noncomputable def gResOf (modulus : Int) (numbers : (List Int)) : R (List Int) :=
  gd ((numbers).length ≤ sizeLine) <|
  gd (∀ x214 ∈ numbers, 0 < modulus) <|
  lt (sortI (List.map (fun x214 : Int => (x214 % modulus)) numbers)) fun residues_218 =>
  gd (RgOk (1 : Int) ((residues_218).length : Int)) <|
  R.bind (forP (gResOf_b residues_218) (range2 (1 : Int) ((residues_218).length : Int)) ()) fun s220 =>
  .ok residues_218
noncomputable def gTwice_b1 (s197 : (List Int)) (residue_205 : Int) (s204 : Unit) : R (L (Unit) (Str × Int)) :=
  gd (IxOk s197 residue_205) <|
  (if (decide ((1 : Int) < (ixL s197 residue_205))) = true then
  (.ok (.rt ((("Clash" : Str), residue_205) : (Str × Int))))
  else
  (.ok (.go ())))
noncomputable def gTwice_b2 (n' : Int) (number_198 : Int) (s197 : (List Int)) : R ((List Int)) :=
  gd (0 < n') <|
  lt (number_198 % n') fun at_200 =>
  gd (IxOk s197 at_200) <|
  gd (IxOk s197 at_200) <|
  .ok (setL s197 at_200 ((ixL s197 at_200) + (1 : Int)))
noncomputable def gTwice (n' : Int) (numbers : (List Int)) : R (Str × Int) :=
  gd (RepOk ([(0 : Int)] : List Int) n') <|
  lt (repL ([(0 : Int)] : List Int) n') fun counts_196 =>
  R.bind (forP (gTwice_b2 n') numbers counts_196) fun s197 =>
  gd (RgOk 0 n') <|
  R.bind (forL (gTwice_b1 s197) (range1 n') ()) fun z => match z with | .rt t => .ok t | .fin s204 => (.ok ((("none" : Str), (0 : Int)) : (Str × Int)))
/-- the first of a sorted list that is met twice -/
def fd : List Int → Option Int
  | a :: b :: l => if b = a then some b else fd (b :: l)
  | _ => none
theorem fd_none : ∀ {l : List Int}, l.Pairwise (· ≤ ·) → fd l = none → l.Pairwise (· < ·)
  | [], _, _ => List.Pairwise.nil
  | [a], _, _ => by simp
  | a :: b :: l, h, e => by
    unfold fd at e
    split at e
    · cases e
    · rename_i hne
      rw [List.pairwise_cons] at h
      have ih := fd_none h.2 e
      rw [List.pairwise_cons]
      refine ⟨fun x hx => ?_, ih⟩
      have h1 := h.1 b List.mem_cons_self
      rcases List.mem_cons.mp hx with rfl | hx
      · omega
      · rw [List.pairwise_cons] at ih
        have := ih.1 x hx
        omega
theorem fd_some : ∀ {l : List Int} {r : Int}, l.Pairwise (· ≤ ·) → fd l = some r → 2 ≤ l.count r ∧ ∀ x, 2 ≤ l.count x → r ≤ x
  | [], r, _, e => by cases e
  | [a], r, _, e => by cases e
  | a :: b :: l, r, h, e => by
    unfold fd at e
    rw [List.pairwise_cons] at h
    have hb := h.2
    rw [List.pairwise_cons] at hb
    split at e
    · rename_i hab
      cases e
      subst hab
      refine ⟨by simp [List.count_cons], fun x hx => ?_⟩
      have hm : x ∈ b :: b :: l := List.count_pos_iff.mp (by omega)
      rcases List.mem_cons.mp hm with rfl | hm
      · omega
      · exact h.1 x hm
    · rename_i hne
      obtain ⟨h1, h2⟩ := fd_some h.2 e
      refine ⟨?_, fun x hx => ?_⟩
      · rw [List.count_cons]; split <;> omega
      have hr := h2
      by_cases hxa : x = a
      · subst hxa
        have hc : 0 < (b :: l).count x := by
          rw [List.count_cons_self] at hx
          omega
        have hm : x ∈ b :: l := List.count_pos_iff.mp hc
        have h3 := h.1 b List.mem_cons_self
        rcases List.mem_cons.mp hm with e1 | hm
        · exact absurd e1.symm hne
        · have := hb.1 x hm; omega
      · refine h2 x ?_
        rw [List.count_cons] at hx
        have : (a == x) = false := by simpa using fun e => hxa e.symm
        rw [this] at hx
        simpa using hx
theorem resOf_loop (s : List Int) : ∀ (d k : Nat), s.length = k + 1 + d → forP (gResOf_b s) (range2 ((k : Int) + 1) (s.length : Int)) () = (match fd (s.drop k) with | some r => .ex ⟨"Clash", ["residue"], [.int r]⟩ | none => .ok ())
  | 0, k, hl => by
    rw [range2_nil (by omega)]
    have : s.drop k = [s[k]'(by omega)] := by
      rw [List.drop_eq_getElem_cons (by omega), List.drop_eq_nil_of_le (by omega)]
    rw [this]
    rfl
  | d + 1, k, hl => by
    have h1 : k < s.length := by omega
    have h2 : k + 1 < s.length := by omega
    have hb : gResOf_b s ((k : Int) + 1) () = if s[k + 1] = s[k] then .ex ⟨"Clash", ["residue"], [.int s[k + 1]]⟩ else .ok () := by
      unfold gResOf_b
      have e1 : ixL s ((k : Int) + 1) = s[k + 1] := by
        have := ixL_k (xs := s) (k := k + 1) (List.getElem?_eq_getElem h2)
        push_cast at this
        exact this
      have e2 : ixL s ((k : Int) + 1 - 1) = s[k] := by
        have := ixL_k (xs := s) (k := k) (List.getElem?_eq_getElem h1)
        rw [show (k : Int) + 1 - 1 = k from by omega]
        exact this
      rw [gd_t (IxOk_nat (by omega)), gd_t (IxOk_nat (by omega)), e1, e2]
      by_cases h : s[k + 1] = s[k]
      · rw [if_pos (by simpa using h), gd_t (IxOk_nat (by omega)), if_pos h]; rfl
      · rw [if_neg (by simpa using h), if_neg h]
    rw [range2_cons (by omega), forP_cons, hb, List.drop_eq_getElem_cons h1, List.drop_eq_getElem_cons h2]
    unfold fd
    by_cases h : s[k + 1] = s[k]
    · rw [if_pos h, if_pos h]; rfl
    · rw [if_neg h, if_neg h, R.ok_bind]
      have ih := resOf_loop s d (k + 1) (by omega)
      rw [List.drop_eq_getElem_cons h2] at ih
      push_cast at ih
      exact ih
theorem resOf_ok (n : Int) (l : List Int) (hn : 0 < n) (hl : 1 ≤ l.length ∧ l.length ≤ 100000) : gResOf n l = (match fd (sortI (rsd n l)) with | some r => .ex ⟨"Clash", ["residue"], [.int r]⟩ | none => .ok (sortI (rsd n l))) := by
  have hlen : (sortI (rsd n l)).length = l.length := by rw [(sortI_perm _).length_eq, List.length_map]
  unfold gResOf
  rw [gd_t (szL (by omega)), gd_t (fun _ _ => hn), lt_ap, gd_t (RgOk_of (by rw [show (sortI (List.map (fun x214 : Int => (x214 % n)) l)).length = l.length from hlen]; omega))]
  have := resOf_loop (sortI (rsd n l)) (l.length - 1) 0 (by omega)
  rw [show ((0 : Nat) : Int) + 1 = 1 from rfl, List.drop_zero] at this
  rw [show sortI (List.map (fun x214 : Int => (x214 % n)) l) = sortI (rsd n l) from rfl, this]
  cases fd (sortI (rsd n l)) <;> rfl
theorem tw_counts (n : Int) (hn : 1 ≤ n) : ∀ (hs acc seen : List Int), seen.length = n.toNat → (∀ j, 0 ≤ j ∧ j < n → ixL seen j = (acc.count j : Nat)) →
    ∃ s, forP (gTwice_b2 n) hs seen = .ok s ∧ s.length = n.toNat ∧ ∀ j, 0 ≤ j ∧ j < n → ixL s j = ((acc ++ rsd n hs).count j : Nat)
  | [], acc, seen, hl, hj => ⟨seen, rfl, hl, by simpa using hj⟩
  | h :: hs, acc, seen, hl, hj => by
    have hm : 0 ≤ h % n ∧ h % n < n := ⟨Int.emod_nonneg _ (by omega), Int.emod_lt_of_pos _ (by omega)⟩
    have hm2 : 0 ≤ h % n ∧ h % n < seen.length := by rw [hl]; omega
    have hb : gTwice_b2 n h seen = .ok (setL seen (h % n) (ixL seen (h % n) + 1)) := by
      unfold gTwice_b2
      rw [gd_t (by omega), lt_ap, gd_t (IxOk_nat hm2), gd_t (IxOk_nat hm2)]
    rw [forP_cons, hb, R.ok_bind]
    obtain ⟨s, h1, h2, h3⟩ := tw_counts n hn hs (acc ++ [h % n]) (setL seen (h % n) (ixL seen (h % n) + 1)) (by rw [setL_length]; exact hl) fun j hjn => by
      rw [setL_at hm2 (by rw [hl]; omega), hj _ hm, hj j hjn, List.count_append]
      by_cases e : j = h % n
      · subst e; simp
      · have : ((h % n) == j) = false := by simpa using fun z => e z.symm
        simp [e, List.count_cons, this]
    exact ⟨s, h1, h2, fun j hjn => by rw [h3 j hjn]; simp⟩
theorem tw_find (s : List Int) : ∀ as : List Int, (∀ a ∈ as, 0 ≤ a ∧ a < s.length) → forL (gTwice_b1 s) as () = (match as.find? (fun a => decide (1 < ixL s a)) with | some r => .ok (.rt (("Clash" : Str), r)) | none => .ok (.fin ()))
  | [], _ => rfl
  | a :: as, h => by
    have ha := h a List.mem_cons_self
    have ih := tw_find s as fun b hb => h b (List.mem_cons_of_mem _ hb)
    have hb : gTwice_b1 s a () = if 1 < ixL s a then .ok (.rt (("Clash" : Str), a)) else .ok (.go ()) := by
      unfold gTwice_b1
      rw [gd_t (IxOk_nat ha)]
      by_cases h : 1 < ixL s a
      · rw [if_pos (by simpa using h), if_pos h]
      · rw [if_neg (by simpa using h), if_neg h]
    rw [forL_cons, hb, List.find?_cons]
    by_cases h : 1 < ixL s a
    · rw [if_pos h, show decide (1 < ixL s a) = true from by simpa using h]; rfl
    · rw [if_neg h, show decide (1 < ixL s a) = false from by simpa using h]; exact ih
theorem range1_split {n r : Int} (h : 0 ≤ r ∧ r < n) : ∃ bs, range1 n = range1 r ++ r :: bs := by
  refine ⟨(range1 n).drop (r.toNat + 1), ?_⟩
  have hlen : (range1 n).length = n.toNat := range1_length n
  have h1 : range1 n = (range1 n).take r.toNat ++ (range1 n).drop r.toNat := (List.take_append_drop _ _).symm
  have h2 : (range1 n).drop r.toNat = (range1 n)[r.toNat]'(by omega) :: (range1 n).drop (r.toNat + 1) := List.drop_eq_getElem_cons (by omega)
  have h3 : (range1 n)[r.toNat]'(by omega) = r := by
    have := range1_get (n := n) (i := r.toNat) (by omega)
    rw [List.getElem?_eq_getElem (by omega)] at this
    have := Option.some.inj this
    omega
  have h4 : (range1 n).take r.toNat = range1 r := by
    apply List.ext_getElem?
    intro i
    rw [List.getElem?_take]
    by_cases hi : i < r.toNat
    · rw [if_pos hi, range1_get (by omega), range1_get (by omega)]
    · rw [if_neg hi, List.getElem?_eq_none (by rw [range1_length]; omega)]
  rw [h2, h3, h4] at h1
  exact h1
theorem twice_ok (n : Int) (l : List Int) (hn : 1 ≤ n ∧ n ≤ 1000) : gTwice n l = .ok (match fd (sortI (rsd n l)) with | some r => ("Clash", r) | none => ("none", 0)) := by
  unfold gTwice
  obtain ⟨s, h1, h2, h3⟩ := tw_counts n hn.1 l [] (repL [0] n) (by rw [repL_length]; simp) fun j hj => by rw [repL_at hj]; simp
  rw [gd_t (show RepOk [(0 : Int)] n from ⟨by omega, by omega, by
        rw [show ([(0 : Int)] : List Int).length = 1 from rfl]; exact szL (by omega)⟩), lt_ap, h1, R.ok_bind, gd_t (RgOk_of (by omega)), tw_find s (range1 n) fun a ha => by have := range1_mem.mp ha; omega]
  have hp := sortI_perm (rsd n l)
  have hcnt : ∀ j, 0 ≤ j ∧ j < n → ixL s j = ((sortI (rsd n l)).count j : Nat) := fun j hj => by rw [h3 j hj, List.nil_append, hp.count_eq]
  cases e : fd (sortI (rsd n l)) with
  | none =>
    have nd : (sortI (rsd n l)).Nodup := (fd_none (sortI_pw _) e).imp fun {a b} h => by omega
    have : (range1 n).find? (fun a => decide (1 < ixL s a)) = none := by
      rw [List.find?_eq_none]
      intro a ha
      have hj := range1_mem.mp ha
      rw [hcnt a hj]
      have := List.nodup_iff_count.mp nd a
      simp
      omega
    rw [this]
    rfl
  | some r =>
    obtain ⟨g1, g2⟩ := fd_some (sortI_pw _) e
    have hm : r ∈ rsd n l := hp.mem_iff.mp (List.count_pos_iff.mp (by omega))
    obtain ⟨x, _, rfl⟩ := List.mem_map.mp hm
    have hr : 0 ≤ x % n ∧ x % n < n := ⟨Int.emod_nonneg _ (by omega), Int.emod_lt_of_pos _ (by omega)⟩
    obtain ⟨bs, hs⟩ := range1_split hr
    have : (range1 n).find? (fun a => decide (1 < ixL s a)) = some (x % n) := by
      rw [List.find?_eq_some_iff_append]
      refine ⟨by rw [hcnt _ hr]; simp; omega, range1 (x % n), bs, hs, fun a ha => ?_⟩
      have hj := range1_mem.mp ha
      have hc := hcnt a (by omega)
      rw [hc]
      by_cases h2 : 2 ≤ (sortI (rsd n l)).count a
      · have := g2 a h2; omega
      · simp; omega
    rw [this]
    rfl
end VL

set_option Elab.async false
set_option linter.all false
set_option maxHeartbeats 1000000
/-! What the laws ask of a lot; sums and products; the laws' gcd. -/
namespace VL
open PySem PySem.Spec PyProof.Rows L2
noncomputable def gLGcd_b1  (k_135 : Int) (s134 : Int × Int) : R (L (Int × Int) Int) :=
  (if (decide (s134.2 = (0 : Int))) = true then
  (.ok (.rt s134.1))
  else
  (gd (0 < s134.2) <|
  lt s134.2 fun one_137 =>
  lt (s134.1 % s134.2) fun other_138 =>
  .ok (.go (one_137, other_138))))
noncomputable def gLGcd (one : Int) (other' : Int) : R Int :=
  lt ((one).natAbs : Int) fun one_131 =>
  lt ((other').natAbs : Int) fun other_132 =>
  gd (RgOk 0 (600 : Int)) <|
  R.bind (forL gLGcd_b1 (range1 (600 : Int)) (one_131, other_132)) fun z => match z with | .rt t => .ok t | .fin s134 => (.ok s134.1)
noncomputable def gLotMembers (self : LotT) : R (List Int) :=
  .ok self.ms
noncomputable def gLotLen (self : LotT) : R Int :=
  .ok ((self.ms).length : Int)
noncomputable def gLotContains (self : LotT) (number : Int) : R Bool :=
  gd (0 < self.n) <|
  .ok (decide ((number % self.n) ∈ self.ms))
noncomputable def gLIsLot_b1 (lot : LotT) (n' : Int) (due_274 : (List Int)) (number_294 : Int) (s293 : Unit) : R (L (Unit) Bool) :=
  R.bind (gLotContains lot number_294) fun v296 =>
  gd (0 < n') <|
  R.bind (sameR (toD (α := Bool) (v296)) (toD (α := Bool) ((decide ((number_294 % n') ∈ due_274))))) fun v299 =>
  (if (!v299) = true then
  (.ok (.rt false))
  else
  (.ok (.go ())))
noncomputable def gLIsLot (lot : LotT) (n' : Int) (members : (List Int)) : R Bool :=
  R.bind ((if (!true) = true then .ok true else (R.bind (sameR (toD (α := Int) (lot.n)) (toD (α := Int) (n'))) fun v266 => .ok (!v266)))) fun b268 =>
  (if b268 = true then
  (.ok false)
  else
  (gd ((members).length ≤ sizeLine) <|
  gd (∀ x270 ∈ members, 0 < n') <|
  lt (sortI (List.map (fun x270 : Int => (x270 % n')) members)) fun due_274 =>
  R.bind (R.nx (gLotMembers lot)) fun v275 =>
  R.bind (sameR (toD (α := (List Int)) (v275)) (toD (α := (List Int)) (due_274))) fun v277 =>
  R.bind ((if (!v277) = true then .ok true else (R.bind (R.bind (R.nx (gLotLen lot)) fun n => gd (0 ≤ n ∧ n ≤ sizeLine) (.ok lot.ms)) fun v279 => R.bind (sameR (toD (α := (List Int)) (v279)) (toD (α := (List Int)) (due_274))) fun v281 => R.bind ((if (!v281) = true then .ok true else (R.bind (R.bind (gLotLen lot) fun n => gd (0 ≤ n ∧ n < 2 ^ 63) (.ok n)) fun v283 => R.bind (sameR (toD (α := Int) (v283)) (toD (α := Int) (((due_274).length : Int)))) fun v285 => .ok (!v285)))) fun b287 => .ok b287))) fun b289 =>
  (if b289 = true then
  (.ok false)
  else
  (gd (IxOk due_274 (0 : Int)) <|
  gd (IxOk due_274 (-1 : Int)) <|
  R.bind (forL (gLIsLot_b1 lot n' due_274) ([(0 : Int), (n' - (1 : Int)), (ixL due_274 (0 : Int)), ((ixL due_274 (-1 : Int)) - n')] : List Int) ()) fun z => match z with | .rt t => .ok t | .fin s293 => (.ok true)))))
section
variable {n : Int} {l : List Int}
theorem sl_len (h : Nu n l) : (sortI (rsd n l)).length = l.length := by rw [(sortI_perm _).length_eq, List.length_map]
theorem gAsk_ok (hn : 1 ≤ n) (lot : LotT) (hl : lot.n = n) : ∀ ns : List Int, forL (gLIsLot_b1 lot n lot.ms) ns () = .ok (.fin ())
  | [] => rfl
  | m :: ns => by
    have hb : gLIsLot_b1 lot n lot.ms m () = .ok (.go ()) := by
      unfold gLIsLot_b1 gLotContains
      have sb : ∀ b : Bool, sameR (toD b) (toD b) = .ok true := fun b => sameR_of rfl trivial
      rw [hl, gd_t (by omega), R.ok_bind, gd_t (by omega), sb, R.ok_bind, if_neg (by decide)]
    rw [forL_cons, hb]
    exact gAsk_ok hn lot hl ns
/-- a lot is as its members say -/
theorem gIs_ok (h : Nu n l) {k : List Int} (hk : k.length < 16000000) (hs : sortI (rsd n k) = sortI (rsd n l)) : gLIsLot (lotOf n l) n k = .ok true := by
  have hle := h.le
  have hn := h.hn
  have hl := sl_len h
  have hpos : 0 < l.length := List.length_pos_iff.mpr h.ne
  have s1 : sameR (toD n) (toD n) = .ok true := sameR_of rfl trivial
  have s2 : sameR (toD (sortI (rsd n l))) (toD (sortI (rsd n l))) = .ok true := sameR_of rfl (okS_ints 10 _ (by rw [hl]; omega))
  have s3 : sameR (toD ((l.length : Int))) (toD ((l.length : Int))) = .ok true := sameR_of rfl trivial
  have hsz : (l.length : Int) ≤ sizeLine := by
    have := szL (n := l.length) (by omega)
    omega
  unfold gLIsLot gLotMembers gLotLen
  simp only [Bool.not_true, Bool.false_eq_true, if_false, R.ok_bind, R.nx, s1, hl]
  rw [gd_t (szL hk), gd_t (fun _ _ => by omega), lt_ap]
  rw [show sortI (List.map (fun x : Int => (x % n)) k) = sortI (rsd n l) from hs, s2, R.ok_bind]
  simp only [Bool.not_true, Bool.false_eq_true, if_false]
  rw [gd_t ⟨by omega, hsz⟩, R.ok_bind, s2, R.ok_bind]
  simp only [Bool.not_true, Bool.false_eq_true, if_false]
  rw [gd_t (show 0 ≤ (l.length : Int) ∧ (l.length : Int) < 2 ^ 63 from by omega), R.ok_bind, hl, s3, R.ok_bind, R.ok_bind, R.ok_bind]
  simp only [Bool.not_true, Bool.false_eq_true, if_false]
  rw [gd_t (IxOk_nat (by rw [hl]; omega)), gd_t (show IxOk (sortI (rsd n l)) (-1) from ⟨by rw [hl]; omega, by rw [hl]; omega⟩), gAsk_ok hn.1 (lotOf n l) rfl]
  rfl
theorem gIs_ok1 (h : Nu n l) : gLIsLot (lotOf n l) n l = .ok true := gIs_ok h (by have := h.le; omega) rfl
/-- the lot of residues that are asked to differ -/
theorem resLot_ok (hn : 1 ≤ n ∧ n ≤ 1000) (hl : 1 ≤ l.length ∧ l.length ≤ 100000) : (R.bind (gResOf n l) fun v => R.bind (pLot gFirst n v) fun w => .ok w) = (match fd (sortI (rsd n l)) with | some r => .ex ⟨"Clash", ["residue"], [.int r]⟩ | none => .ok (lotOf n l)) := by
  rw [resOf_ok n l (by omega) hl]
  cases e : fd (sortI (rsd n l)) with
  | some r => rfl
  | none =>
    have nd : (rsd n l).Nodup := (sortI_perm (rsd n l)).nodup_iff.mp ((fd_none (sortI_pw _) e).imp fun {a b} h => by omega)
    have nu : Nu n l := ⟨by omega, nd, fun z => by rw [z] at hl; simp at hl⟩
    obtain ⟨nu2, e2⟩ := nu.perm (k := sortI (rsd n l)) (((sortI_perm _).map _).trans (by rw [show (rsd n l).map (fun x : Int => x % n) = rsd n l from rsd_rsd n l]))
    show (R.bind (R.ok (sortI (rsd n l))) fun v => R.bind (pLot gFirst n v) fun w => .ok w) = .ok (lotOf n l)
    rw [R.ok_bind, pLot_nu nu2, e2]
    rfl
theorem fd_nu (hn : 1 ≤ n ∧ n ≤ 1000) (hl : l ≠ []) (e : fd (sortI (rsd n l)) = none) : Nu n l :=
  ⟨hn, (sortI_perm (rsd n l)).nodup_iff.mp ((fd_none (sortI_pw _) e).imp fun {a b} h => by omega), hl⟩
end
/-- what is due: the least that two agree at -/
def dueC (n : Int) (l : List Int) : Str × Int := match fd (sortI (rsd n l)) with | some r => ("Clash", r) | none => ("none", 0)
theorem twice_due (n : Int) (l : List Int) (hn : 1 ≤ n ∧ n ≤ 1000) : gTwice n l = .ok (dueC n l) := twice_ok n l hn
theorem sok_clash : PyData.strOk "Clash" = true := by decide +kernel
theorem ne_clash : ¬ ("Clash" : Str) = "none" := by decide +kernel
/-! the laws' gcd -/
theorem gcd_step {a b : Int} (ha : 0 ≤ a) (hb : 0 ≤ b) : Int.gcd a b = Int.gcd b (a % b) := by
  obtain ⟨m, rfl⟩ := Int.eq_ofNat_of_zero_le ha
  obtain ⟨k, rfl⟩ := Int.eq_ofNat_of_zero_le hb
  rw [← Int.natCast_emod, Int.gcd_natCast_natCast, Int.gcd_natCast_natCast, Nat.gcd_comm m k, Nat.gcd_rec k m, Nat.gcd_comm]
theorem gGcd_loop : ∀ (k : Nat) (xs : List Int) (a b : Int), 0 ≤ a → 0 ≤ b → b < 2 ^ k → 2 * k + 1 ≤ xs.length → forL gLGcd_b1 xs (a, b) = .ok (.rt (Int.gcd a b : Int))
  | k, [], a, b, _, _, _, h => by simp at h
  | k, x :: xs, a, b, ha, hb, hk, h => by
    by_cases z : b = 0
    · subst z
      rw [forL_cons]
      unfold gLGcd_b1
      rw [if_pos (by simp)]
      show R.ok (Fi.rt a) = _
      rw [Int.gcd_zero_right]
      congr 2 <;> omega
    · have s1 : ∀ a b : Int, ¬ b = 0 → 0 ≤ b → gLGcd_b1 x (a, b) = .ok (.go (b, a % b)) := fun a b z hb => by
        unfold gLGcd_b1
        rw [if_neg (by simpa using z), gd_t (show 0 < b by omega)]
        rfl
      have s2 : ∀ (x : Int) (a b : Int), ¬ b = 0 → 0 ≤ b → gLGcd_b1 x (a, b) = .ok (.go (b, a % b)) := fun x a b z hb => by
        unfold gLGcd_b1
        rw [if_neg (by simpa using z), gd_t (show 0 < b by omega)]
        rfl
      have hg : Int.gcd a b = Int.gcd b (a % b) := gcd_step ha hb
      have hr := Int.emod_nonneg a z
      have hr2 := Int.emod_lt_of_pos a (show 0 < b by omega)
      rw [forL_cons, s1 a b z hb]
      show forL gLGcd_b1 xs (b, a % b) = _
      rw [hg]
      generalize a % b = r at *
      match k, hk with
      | 0, hk => omega
      | k + 1, hk =>
        match xs, h with
        | [], h => simp at h
        | y :: ys, h =>
          by_cases z2 : r = 0
          · subst z2
            rw [forL_cons]
            unfold gLGcd_b1
            rw [if_pos (by simp)]
            show R.ok (Fi.rt b) = _
            rw [Int.gcd_zero_right]
            congr 2 <;> omega
          · have hg2 : Int.gcd b r = Int.gcd r (b % r) := gcd_step hb hr
            rw [forL_cons, s2 y b r z2 hr]
            show forL gLGcd_b1 ys (r, b % r) = _
            rw [hg2]
            have q1 := Int.emod_nonneg b z2
            have q2 := Int.emod_lt_of_pos b (show 0 < r by omega)
            have q3 : r * 1 ≤ r * (b / r) := Int.mul_le_mul_of_nonneg_left (Int.le_ediv_of_mul_le (by omega) (by omega)) hr
            have q4 := Int.mul_ediv_add_emod b r
            refine gGcd_loop k ys r (b % r) hr q1 ?_ (by simp at h; omega)
            have : (2 : Int) ^ (k + 1) = 2 ^ k * 2 := by rw [Int.pow_succ]
            omega
theorem gGcd_ok (a b : Int) (hb : b.natAbs < 2 ^ 250) : gLGcd a b = .ok (Int.gcd a b : Int) := by
  unfold gLGcd
  rw [lt_ap, lt_ap, gd_t (RgOk_of (by omega)), gGcd_loop 250 (range1 600) _ _ (by omega) (by omega) (by
    have : ((b.natAbs : Nat) : Int) < ((2 ^ 250 : Nat) : Int) := by omega
    simpa using this) (by rw [range1_length]; decide)]
  simp only [R.ok_bind]
  congr 2
end VL

set_option Elab.async false
set_option linter.all false
set_option maxRecDepth 100000
set_option maxHeartbeats 4000000
namespace K12
open PySem PySem.Spec PyProof.Rows L2 VL
def tk_Clash : Str → Option Bool := fun c => if c = "Clash" then some true else if c = "InvalidModulus" then some false else if c = "EmptyLot" then some false else if c = "RepeatedMember" then some false else none
def tk_LotsError : Str → Option Bool := fun c => if c = "Clash" then some true else if c = "InvalidModulus" then some true else if c = "EmptyLot" then some true else if c = "RepeatedMember" then some true else none
/-- _law_cell: 0 script, 1 k -/
noncomputable def c_l_cell : XS := (sCons (sIf (x2 (xVar 1) (x1 (xVar 0) oLen) oLt) (sCons (sRet (x2 (xVar 0) (xVar 1) oIx)) sNil) sNil) (sCons (sIf (x2 (x1 (xVar 0) oLen) (xInt 0) oGt) (sCons (sRet (x2 (x2 (x2 (xVar 0) (x2 (x1 (xVar 1) oInt) (x1 (xVar 0) oLen) oMod) oIx) (xInt 31) oMul) (xVar 1) oAdd)) sNil) sNil) (sCons (sRet (x2 (xInt 10) (xInt 18) oPow)) sNil)))
noncomputable def f_l_cell : List D → Option Res := runD 2 2 c_l_cell
/-- _law_draws: 0 cell, 1 limits, 2 row, 3 rest, 4 limit, 5 state, 6 square -/
noncomputable def c_l_draws : XS := (sCons (sSet 2 (xLst [])) (sCons (sSet 3 (x1 (xVar 0) oAbs)) (sCons (sIf (x2 (xVar 3) (x2 (xInt 10) (xInt 18) oPow) oGe) (sCons (sSet 3 (x2 (xVar 3) (x2 (xInt 10) (xInt 18) oPow) oSub)) (sCons (sFgt 4) (sCons (sFor (.nm 4) (iSeq (xVar 1)) (sCons (sApp 2 (x2 (x1 (xVar 3) oInt) (xVar 4) oMod)) (sCons (sSet 3 (x2 (xVar 3) (xVar 4) oDiv)) (sCons (sFgt 4) sNil)))) (sCons (sRetV 2) sNil)))) sNil) (sCons (sSet 5 (x2 (x1 (x2 (x2 (xVar 3) (xInt 2) oMul) (x1 (x2 (xVar 0) (xInt 0) oLt) oInt) oAdd) oInt) (xInt 2147483647) oMod)) (sCons (sFgt 4) (sCons (sFgt 6) (sCons (sFor (.nm 4) (iSeq (xVar 1)) (sCons (sSet 5 (x2 (x1 (x2 (x2 (xVar 5) (xInt 48271) oMul) (xInt 69621) oAdd) oInt) (xInt 2147483647) oMod)) (sCons (sSet 6 (x2 (x1 (x2 (x2 (xVar 5) (xVar 5) oMul) (xInt 40692) oAdd) oInt) (xInt 2147483399) oMod)) (sCons (sApp 2 (x2 (x1 (x2 (xVar 6) (xInt 11) oDiv) oInt) (xVar 4) oMod)) (sCons (sFgt 4) (sCons (sFgt 6) sNil)))))) (sCons (sRetV 2) sNil))))))))
noncomputable def f_l_draws : List D → Option Res := runD 2 7 c_l_draws
/-- _law_modulus: 0 cell, 1 small, 2 great, 3 kind, 4 low, 5 high -/
noncomputable def c_l_modulus : XS := (sCons (sSetL [(.nm 3), (.nm 4), (.nm 5)] (xCall f_l_draws [(xVar 0), (xLst [(xInt 4), (xVar 1), (xVar 2)])])) (sCons (sIf (x2 (xVar 3) (xInt 3) oEq) (sCons (sRet (x2 (xInt 1) (xVar 5) oAdd)) sNil) sNil) (sCons (sRet (x2 (xInt 1) (xVar 4) oAdd)) sNil)))
noncomputable def f_l_modulus : List D → Option Res := runD 3 6 c_l_modulus
/-- _law_handed: 0 cell, 1 n, 2 members, 3 turn, 4 back, 5 wide, 6 row, 7 k -/
noncomputable def c_l_handed : XS := (sCons (sSetL [(.nm 3), (.nm 4), (.nm 5)] (xCall f_l_draws [(xVar 0), (xLst [(x1 (xVar 2) oLen), (xInt 2), (xInt 4)])])) (sCons (sSet 6 (x2 (xSl (xVar 2) (some (xVar 3)) none) (xSl (xVar 2) none (some (xVar 3))) oAdd)) (sCons (sIf (x2 (xVar 4) (xInt 1) oEq) (sCons (sSet 6 (x1 (xVar 6) oRev)) sNil) sNil) (sCons (sRet (xLc [7] (.nm 7) (iRange1 (x1 (xVar 6) oLen)) none (x2 (x2 (xVar 6) (xVar 7) oIx) (x2 (x2 (x2 (x2 (xVar 7) (xInt 3) oMod) (xInt 1) oSub) (xVar 1) oMul) (xVar 5) oMul) oAdd))) sNil))))
noncomputable def f_l_handed : List D → Option Res := runD 3 8 c_l_handed
/-- _law_same: 0 actual, 1 expected, 2 k -/
noncomputable def c_l_same (G : List D → Option Res) : XS := (sCons (sIf (x1 (xVar 1) oIsN) (sCons (sRet (x1 (xVar 0) oIsN)) sNil) sNil) (sCons (sIf (x1 (xVar 1) (oIsB true)) (sCons (sRet (x1 (xVar 0) (oIsB true))) sNil) sNil) (sCons (sIf (x1 (xVar 1) (oIsB false)) (sCons (sRet (x1 (xVar 0) (oIsB false))) sNil) sNil) (sCons (sIf (x1 (xVar 1) (oIsi "int")) (sCons (sRet (xAnd (x1 (xVar 0) (oIsi "int")) (xAnd (xNot (x1 (xVar 0) (oIsi "bool"))) (xOne (x2 (xVar 0) (xVar 1) oEq))))) sNil) sNil) (sCons (sIf (x1 (xVar 1) (oIsi "str")) (sCons (sRet (xAnd (x1 (xVar 0) (oIsi "str")) (xOne (x2 (xVar 0) (xVar 1) oEq)))) sNil) sNil) (sCons (sIf (xAnd (x1 (xVar 1) (oIsi "list")) (xOne (xNot (x1 (xVar 0) (oIsi "list"))))) (sCons (sRet (xBl false)) sNil) sNil) (sCons (sIf (xAnd (x1 (xVar 1) (oIsi "tuple")) (xOne (xNot (x1 (xVar 0) (oIsi "tuple"))))) (sCons (sRet (xBl false)) sNil) sNil) (sCons (sIf (x2 (x1 (xVar 0) oLen) (x1 (xVar 1) oLen) oNe) (sCons (sRet (xBl false)) sNil) sNil) (sCons (sFgt 2) (sCons (sFor (.nm 2) (iRange1 (x1 (xVar 1) oLen)) (sCons (sIf (xNot (xCall G [(x2 (xVar 0) (xVar 2) oIx), (x2 (xVar 1) (xVar 2) oIx)])) (sCons (sRet (xBl false)) sNil) sNil) (sCons (sFgt 2) sNil))) (sCons (sRet (xBl true)) sNil)))))))))))
noncomputable def f_l_same : Nat → List D → Option Res
  | 0 => runD 2 3 fun _ => none
  | n + 1 => runD 2 3 (c_l_same (f_l_same n))
/-- Lot.members: 0 self -/
noncomputable def c_Lot_members : XS := (sCons (sRet (x1 (x1 (xVar 0) (oFld "Lot" "_members")) oList)) sNil)
noncomputable def f_Lot_members : List D → Option Res := runD 1 1 c_Lot_members
/-- Lot.__len__: 0 self -/
noncomputable def c_Lot___len__ : XS := (sCons (sRet (x1 (x1 (xVar 0) (oFld "Lot" "_members")) oLen)) sNil)
noncomputable def f_Lot___len__ : List D → Option Res := runD 1 1 c_Lot___len__
/-- Lot.__contains__: 0 self, 1 number -/
noncomputable def c_Lot___contains__ : XS := (sCons (sRet (x2 (x2 (xVar 1) (x1 (xVar 0) (oFld "Lot" "modulus")) oMod) (x1 (xVar 0) (oFld "Lot" "_members")) oIn)) sNil)
noncomputable def f_Lot___contains__ : List D → Option Res := runD 2 2 c_Lot___contains__
/-- _law_is_lot: 0 lot, 1 n, 2 members, 3 due, 4 number, 5 member -/
noncomputable def c_l_is_lot : XS := (sCons (sIf (xOr (xNot (x1 (xVar 0) (oIsC "Lot"))) (xOne (xNot (xCall (f_l_same 12) [(x1 (xVar 0) (oFld "Lot" "modulus")), (xVar 1)])))) (sCons (sRet (xBl false)) sNil) sNil) (sCons (sSet 3 (x1 (xLc [5] (.nm 5) (iSeq (xVar 2)) none (x1 (x2 (x1 (xVar 5) oInt) (xVar 1) oMod) oInt)) oSorted)) (sCons (sIf (xOr (xNot (xCall (f_l_same 12) [(xCall (onObj "Lot" (noExc f_Lot_members)) [(xVar 0)]), (xVar 3)])) (xOr (xNot (xCall (f_l_same 12) [(x1 (xVar 0) (oListO "Lot" "_members" f_Lot___len__)), (xVar 3)])) (xOne (xNot (xCall (f_l_same 12) [(xCall (onLen "Lot" f_Lot___len__) [(xVar 0)]), (x1 (xVar 3) oLen)]))))) (sCons (sRet (xBl false)) sNil) sNil) (sCons (sFgt 4) (sCons (sFor (.nm 4) (iSeq (xLst [(xInt 0), (x2 (xVar 1) (xInt 1) oSub), (x2 (xVar 3) (xInt 0) oIx), (x2 (x2 (xVar 3) (x1 (xInt 1) oNeg) oIx) (xVar 1) oSub)])) (sCons (sIf (xNot (xCall (f_l_same 12) [(xCall (onIn "Lot" f_Lot___contains__) [(xVar 4), (xVar 0)]), (x2 (x2 (x1 (xVar 4) oInt) (xVar 1) oMod) (xVar 3) oIn)])) (sCons (sRet (xBl false)) sNil) sNil) (sCons (sFgt 4) sNil))) (sCons (sRet (xBl true)) sNil))))))
noncomputable def f_l_is_lot : List D → Option Res := runD 3 6 c_l_is_lot
/-- _law_rest: 0 cell, 1 product -/
noncomputable def c_l_rest : XS := (sCons (sIf (x2 (x1 (xVar 0) oAbs) (x2 (xInt 10) (xInt 18) oPow) oGe) (sCons (sRet (x2 (x2 (xInt 10) (xInt 18) oPow) (x2 (x2 (x1 (xVar 0) oAbs) (x2 (xInt 10) (xInt 18) oPow) oSub) (xVar 1) oDiv) oAdd)) sNil) sNil) (sCons (sRet (x2 (x2 (xVar 0) (xInt 7) oMul) (xVar 1) oAdd)) sNil))
noncomputable def f_l_rest : List D → Option Res := runD 2 2 c_l_rest
/-- _law_members: 0 cell, 1 n, 2 most, 3 size, 4 row, 5 number -/
noncomputable def c_l_members : XS := (sCons (sSet 3 (x2 (xInt 1) (x2 (xCall f_l_draws [(xVar 0), (xLst [(xVar 2)])]) (xInt 0) oIx) oAdd)) (sCons (sSet 4 (xLst [])) (sCons (sFgt 5) (sCons (sFor (.nm 5) (iSeq (xCall f_l_draws [(xCall f_l_rest [(xVar 0), (xVar 2)]), (x2 (xLst [(xVar 1)]) (xVar 3) oMul)])) (sCons (sIf (x2 (xVar 5) (xVar 4) oNin) (sCons (sFrz 5) (sCons (sApp 4 (xVar 5)) sNil)) sNil) (sCons (sFgt 5) sNil))) (sCons (sRetV 4) sNil)))))
noncomputable def f_l_members : List D → Option Res := runD 3 6 c_l_members
/-- _law_any_set: 0 script, 1 start, 2 n, 3 row, 4 part, 5 size, 6 digits, 7 k -/
noncomputable def c_l_any_set : XS := (sCons (sSet 3 (xLst [])) (sCons (sFgt 4) (sCons (sFgt 5) (sCons (sFgt 6) (sCons (sFor (.nm 4) (iRange1 (xInt 17)) (sCons (sSet 5 (x2 (xInt 60) (x2 (xInt 0) (x2 (xVar 2) (x2 (xInt 60) (xVar 4) oMul) oSub) oMax2) oMin2)) (sCons (sSet 6 (xCall f_l_draws [(xCall f_l_cell [(xVar 0), (x2 (xVar 1) (xVar 4) oAdd)]), (x2 (xLst [(xInt 2)]) (xVar 5) oMul)])) (sCons (sSet 3 (x2 (xVar 3) (xLc [7] (.nm 7) (iRange1 (xVar 5)) (some (x2 (x2 (xVar 6) (xVar 7) oIx) (xInt 1) oEq)) (x2 (x2 (xInt 60) (xVar 4) oMul) (xVar 7) oAdd)) oAdd)) (sCons (sFgt 4) (sCons (sFgt 5) (sCons (sFgt 6) sNil))))))) (sCons (sIf (x2 (x1 (xVar 3) oLen) (xInt 0) oEq) (sCons (sSet 3 (xLst [(xInt 0)])) sNil) sNil) (sCons (sRetV 3) sNil)))))))
noncomputable def f_l_any_set : List D → Option Res := runD 3 8 c_l_any_set
/-- _law_residues: 0 script, 1 place, 2 start, 3 n, 4 cell, 5 kind, 6 first, 7 more, 8 k -/
noncomputable def c_l_residues : XS := (sCons (sSet 4 (xCall f_l_cell [(xVar 0), (xVar 1)])) (sCons (sSetL [(.nm 5), (.nm 6), (.nm 7)] (xCall f_l_draws [(xVar 4), (xLst [(xInt 8), (xVar 3), (x2 (xVar 3) (xInt 60) oMin2)])])) (sCons (sIf (x2 (xVar 5) (xInt 7) oEq) (sCons (sRet (xLc [8] (.nm 8) (iRange1 (x2 (xVar 7) (xInt 1) oAdd)) none (x2 (x1 (x2 (xVar 6) (xVar 8) oAdd) oInt) (xVar 3) oMod))) sNil) sNil) (sCons (sIf (x2 (xVar 5) (xInt 6) oEq) (sCons (sRet (xCall f_l_any_set [(xVar 0), (xVar 2), (xVar 3)])) sNil) sNil) (sCons (sRet (xCall f_l_members [(xCall f_l_rest [(xVar 4), (xInt 8)]), (xVar 3), (xInt 20)])) sNil)))))
noncomputable def f_l_residues : List D → Option Res := runD 4 9 c_l_residues
/-- _law_twice: 0 n, 1 numbers, 2 counts, 3 number, 4 at, 5 residue -/
noncomputable def c_l_twice : XS := (sCons (sSet 2 (x2 (xLst [(xInt 0)]) (xVar 0) oMul)) (sCons (sFgt 3) (sCons (sFgt 4) (sCons (sFor (.nm 3) (iSeq (xVar 1)) (sCons (sSet 4 (x2 (x1 (xVar 3) oInt) (xVar 0) oMod)) (sCons (sSto 2 (xVar 4) (x2 (x2 (xVar 2) (xVar 4) oIx) (xInt 1) oAdd)) (sCons (sFgt 3) (sCons (sFgt 4) sNil))))) (sCons (sFgt 5) (sCons (sFor (.nm 5) (iRange1 (xVar 0)) (sCons (sIf (x2 (x2 (xVar 2) (xVar 5) oIx) (xInt 1) oGt) (sCons (sFrz 5) (sCons (sRet (xTup [(xStr "Clash"), (xVar 5)])) sNil)) sNil) (sCons (sFgt 5) sNil))) (sCons (sRet (xTup [(xStr "none"), (xInt 0)])) sNil)))))))
noncomputable def f_l_twice : List D → Option Res := runD 2 6 c_l_twice
/-- _law_integer: 0 cell, 1 most, 2 limits, 3 digits, 4 number, 5 digit, 6 bound -/
noncomputable def c_l_integer : XS := (sCons (sSet 2 (xLst [(xInt 2), (xInt 3), (x2 (xInt 10) (xInt 9) oPow), (x2 (xInt 10) (xInt 9) oPow), (x2 (xInt 10) (xInt 9) oPow), (x2 (xInt 10) (xInt 9) oPow), (x2 (xInt 10) (xInt 9) oPow), (x2 (xInt 10) (xInt 9) oPow), (x2 (xInt 10) (xInt 9) oPow)])) (sCons (sSet 3 (xCall f_l_draws [(xVar 0), (xVar 2)])) (sCons (sSet 4 (xInt 0)) (sCons (sFgt 5) (sCons (sFor (.nm 5) (iSeq (xSl (xVar 3) (some (xInt 2)) none)) (sCons (sSet 4 (x2 (x2 (xVar 4) (x2 (xInt 10) (xInt 9) oPow) oMul) (xVar 5) oAdd)) (sCons (sFgt 5) sNil))) (sCons (sSet 6 (x2 (xVar 1) (xInt 1) oAdd)) (sCons (sIf (x2 (x2 (xVar 3) (xInt 1) oIx) (xInt 1) oEq) (sCons (sSet 6 (x2 (xVar 6) (xInt 1000) oMin2)) sNil) sNil) (sCons (sIf (x2 (x2 (xVar 3) (xInt 1) oIx) (xInt 2) oEq) (sCons (sSet 6 (x2 (xVar 6) (xInt 13) oMin2)) sNil) sNil) (sCons (sSet 4 (x2 (x1 (xVar 4) oInt) (xVar 6) oMod)) (sCons (sIf (x2 (x2 (xVar 3) (xInt 0) oIx) (xInt 1) oEq) (sCons (sRet (x1 (xVar 4) oNeg)) sNil) sNil) (sCons (sRetV 4) sNil)))))))))))
noncomputable def f_l_integer : List D → Option Res := runD 2 7 c_l_integer
/-- _law_gcd: 0 one, 1 other, 2 k -/
noncomputable def c_l_gcd : XS := (sCons (sSet 0 (x1 (xVar 0) oAbs)) (sCons (sSet 1 (x1 (xVar 1) oAbs)) (sCons (sFgt 2) (sCons (sFor (.nm 2) (iRange1 (xInt 600)) (sCons (sIf (x2 (xVar 1) (xInt 0) oEq) (sCons (sRetV 0) sNil) sNil) (sCons (sPar 0 1 [(xVar 1), (x2 (x1 (xVar 0) oInt) (xVar 1) oMod)]) (sCons (sFgt 2) sNil)))) (sCons (sRetV 0) sNil)))))
noncomputable def f_l_gcd : List D → Option Res := runD 2 3 c_l_gcd
/-- _law_coprime: 0 start, 1 n, 2 turn -/
noncomputable def c_l_coprime : XS := (sCons (sFgt 2) (sCons (sFor (.nm 2) (iRange1 (xVar 1)) (sCons (sIf (x2 (xCall f_l_gcd [(x2 (xVar 0) (xVar 2) oAdd), (xVar 1)]) (xInt 1) oEq) (sCons (sRet (x2 (xVar 0) (xVar 2) oAdd)) sNil) sNil) (sCons (sFgt 2) sNil))) (sCons (sRet (xInt 1)) sNil)))
noncomputable def f_l_coprime : List D → Option Res := runD 2 3 c_l_coprime
/-- _law_factor: 0 script, 1 n, 2 kind, 3 start -/
noncomputable def c_l_factor : XS := (sCons (sSetL [(.nm 2), (.nm 3)] (xCall f_l_draws [(xCall f_l_cell [(xVar 0), (xInt 3)]), (xLst [(xInt 8), (xVar 1)])])) (sCons (sIf (x2 (xVar 2) (xInt 4) oLt) (sCons (sRet (x2 (xCall f_l_coprime [(xVar 3), (xVar 1)]) (x2 (xVar 1) (xCall f_l_integer [(xCall f_l_cell [(xVar 0), (xInt 4)]), (x2 (xInt 10) (xInt 56) oPow)]) oMul) oAdd)) sNil) sNil) (sCons (sIf (x2 (xVar 2) (xInt 4) oEq) (sCons (sRet (x1 (xInt 1) oNeg)) sNil) sNil) (sCons (sIf (x2 (xVar 2) (xInt 5) oEq) (sCons (sRet (x2 (xVar 1) (xCall f_l_integer [(xCall f_l_cell [(xVar 0), (xInt 4)]), (x2 (xInt 10) (xInt 56) oPow)]) oMul)) sNil) sNil) (sCons (sRet (xCall f_l_integer [(xCall f_l_cell [(xVar 0), (xInt 4)]), (x2 (x2 (xInt 10) (xInt 60) oPow) (xInt 1) oSub)])) sNil)))))
noncomputable def f_l_factor : List D → Option Res := runD 2 4 c_l_factor
/-- residues_of: 0 modulus, 1 numbers, 2 residues, 3 at, 4 number -/
noncomputable def c_p_residues_of : XS := (sCons (sSet 2 (x1 (xLc [4] (.nm 4) (iSeq (xVar 1)) none (x2 (xVar 4) (xVar 0) oMod)) oSorted)) (sCons (sFgt 3) (sCons (sFor (.nm 3) (iRange2 (xInt 1) (x1 (xVar 2) oLen)) (sCons (sIf (x2 (x2 (xVar 2) (xVar 3) oIx) (x2 (xVar 2) (x2 (xVar 3) (xInt 1) oSub) oIx) oEq) (sCons (sRaise "Clash" "residue" (x2 (xVar 2) (xVar 3) oIx)) sNil) sNil) (sCons (sFgt 3) sNil))) (sCons (sRetV 2) sNil))))
noncomputable def f_p_residues_of : List D → Option Res := runD 2 5 c_p_residues_of
/-- first_repeated: 0 residues, 1 at -/
noncomputable def c_p_first_repeated : XS := (sCons (sFgt 1) (sCons (sFor (.nm 1) (iRange2 (xInt 1) (x1 (xVar 0) oLen)) (sCons (sIf (x2 (x2 (xVar 0) (xVar 1) oIx) (xSl (xVar 0) none (some (xVar 1))) oIn) (sCons (sRet (x2 (xVar 0) (xVar 1) oIx)) sNil) sNil) (sCons (sFgt 1) sNil))) (sCons (sRet xNon) sNil)))
noncomputable def f_p_first_repeated : List D → Option Res := runD 1 2 c_p_first_repeated
/-- Lot.__mul__: 0 self, 1 factor, 2 member -/
noncomputable def c_Lot___mul__ : XS := (sCons (sRet (xFz (xCall (noOk (f_Lot_init f_p_first_repeated)) [(x1 (xVar 0) (oFld "Lot" "modulus")), (xCall f_p_residues_of [(x1 (xVar 0) (oFld "Lot" "modulus")), (xLc [2] (.nm 2) (iSeq (x1 (xVar 0) (oFld "Lot" "_members"))) none (x2 (xVar 2) (xVar 1) oMul))])]))) sNil)
noncomputable def f_Lot___mul__ : List D → Option Res := runD 2 3 c_Lot___mul__
/-- Lot.__rmul__: 0 self, 1 factor, 2 member -/
noncomputable def c_Lot___rmul__ : XS := (sCons (sRet (xFz (xCall (noOk (f_Lot_init f_p_first_repeated)) [(x1 (xVar 0) (oFld "Lot" "modulus")), (xCall f_p_residues_of [(x1 (xVar 0) (oFld "Lot" "modulus")), (xLc [2] (.nm 2) (iSeq (x1 (xVar 0) (oFld "Lot" "_members"))) none (x2 (xVar 2) (xVar 1) oMul))])]))) sNil)
noncomputable def f_Lot___rmul__ : List D → Option Res := runD 2 3 c_Lot___rmul__
/-- _law_times: 0 lot, 1 t, 2 side, 3 told, 4 got, 5 e -/
noncomputable def c_l_times : XS := (sCons (sSet 3 (xTup [(xStr "none"), (xInt 0)])) (sCons (sSet 4 xNon) (sCons (sTry (sCons (sIf (x2 (xVar 2) (xInt 0) oEq) (sCons (sSet 4 (xCall (onOI "Lot" f_Lot___mul__) [(xVar 0), (xVar 1)])) sNil) (sCons (sSet 4 (xCall (onIO "Lot" f_Lot___rmul__) [(xVar 1), (xVar 0)])) sNil)) sNil) [⟨tk_Clash, some 5, hTup "Clash" 5 3 [.c (.str "Clash"), .f "residue"]⟩, ⟨tk_LotsError, none, fun _ => (sCons (sSet 3 (xTup [(xStr "LotsError"), (xInt 0)])) sNil)⟩]) (sCons (sFrz 3) (sCons (sFrz 4) (sCons (sRet (xTup [(xVar 3), (xVar 4)])) sNil))))))
noncomputable def f_l_times : List D → Option Res := runD 3 6 c_l_times
/-- law: 0 script, 1 n, 2 residues, 3 lot, 4 t, 5 products, 6 due, 7 side, 8 answer, 9 residue -/
noncomputable def c_law : XS := (sCons (sSet 1 (xCall f_l_modulus [(xCall f_l_cell [(xVar 0), (xInt 0)]), (xInt 12), (xInt 1000)])) (sCons (sSet 2 (xCall f_l_residues [(xVar 0), (xInt 1), (xInt 20), (xVar 1)])) (sCons (sSet 3 (xFz (xCall (noOk (f_Lot_init f_p_first_repeated)) [(xVar 1), (xCall f_l_handed [(xCall f_l_cell [(xVar 0), (xInt 2)]), (xVar 1), (xVar 2)])]))) (sCons (sSet 4 (xCall f_l_factor [(xVar 0), (xVar 1)])) (sCons (sFrz 2) (sCons (sSet 5 (xLc [9] (.nm 9) (iSeq (xVar 2)) none (x2 (xVar 9) (xVar 4) oMul))) (sCons (sSet 6 (xCall f_l_twice [(xVar 1), (xVar 5)])) (sCons (sFgt 7) (sCons (sFgt 8) (sCons (sFor (.nm 7) (iSeq (xLst [(xInt 0), (xInt 1), (xInt 0)])) (sCons (sSet 8 (xCall f_l_times [(xVar 3), (xVar 4), (xVar 7)])) (sCons (sIf (xNot (xCall (f_l_same 12) [(x2 (xVar 8) (xInt 0) oIx), (xVar 6)])) (sCons (sRet (xBl false)) sNil) sNil) (sCons (sIf (xAnd (x2 (x2 (xVar 6) (xInt 0) oIx) (xStr "none") oEq) (xOne (xNot (xCall f_l_is_lot [(x2 (xVar 8) (xInt 1) oIx), (xVar 1), (xVar 5)])))) (sCons (sRet (xBl false)) sNil) sNil) (sCons (sIf (xNot (xCall f_l_is_lot [(xVar 3), (xVar 1), (xVar 2)])) (sCons (sRet (xBl false)) sNil) sNil) (sCons (sFgt 7) (sCons (sFgt 8) sNil))))))) (sCons (sRet (xBl true)) sNil)))))))))))
noncomputable def f_law : List D → Option Res := runD 1 10 c_law
end K12

set_option Elab.async false
set_option linter.all false
set_option maxRecDepth 100000
set_option maxHeartbeats 4000000
namespace K12
open PySem PySem.Spec PyProof.Rows L2 VL
noncomputable def p_l_cell (script : Scr) (k' : Int) : R Int :=
  (if (decide (k' < ((script).ns.length : Int))) = true then
  (gd (IxOk (script).ns k') <|
  .ok (ixL (script).ns k'))
  else
  ((if (decide ((0 : Int) < ((script).ns.length : Int))) = true then
  (gd (0 < ((script).ns.length : Int)) <|
  gd (IxOk (script).ns (k' % ((script).ns.length : Int))) <|
  gd (TimesOk (ixL (script).ns (k' % ((script).ns.length : Int))) (31 : Int)) <|
  .ok (((ixL (script).ns (k' % ((script).ns.length : Int))) * (31 : Int)) + k'))
  else
  (.ok (1000000000000000000 : Int)))))
theorem q_l_cell (script : Scr) (k' : Int) : TF (f_l_cell [toD script, toD k']) (p_l_cell script k') (fun v => .ok .nw (toD v)) := by
  unfold f_l_cell c_l_cell p_l_cell
  refine TF_of rfl ?_
  refine K_if (E2 (rfl : xVar 1 _ = some (.v .nw (toD (α := Int) (k')))) (E1 (rfl : xVar 0 _ = some (.v .od (toD (α := Scr) (script)))) t_lenC) t_lt) (fun hA => ?_) (fun hA => ?_)
  · refine K_gd fun h1 => ?_
    exact K_ret (E2 (rfl : xVar 0 _ = some (.v .od (toD (α := Scr) (script)))) (rfl : xVar 1 _ = some (.v .nw (toD (α := Int) (k')))) (t_ixC h1)) (.inr rfl) rfl
  · refine K_out ?_
    refine K_if (E2 (E1 (rfl : xVar 0 _ = some (.v .od (toD (α := Scr) (script)))) t_lenC) (rfl : xC (.int 0) _ = some (.v .nw (toD (0 : Int)))) t_gt) (fun hA => ?_) (fun hA => ?_)
    · refine K_gd fun h2 => ?_
      refine K_gd fun h3 => ?_
      refine K_gd fun h4 => ?_
      exact K_ret (E2 (E2 (E2 (rfl : xVar 0 _ = some (.v .od (toD (α := Scr) (script)))) (E2 (E1 (rfl : xVar 1 _ = some (.v .nw (toD (α := Int) (k')))) t_inti) (E1 (rfl : xVar 0 _ = some (.v .od (toD (α := Scr) (script)))) t_lenC) (t_mod h2)) (t_ixC h3)) (rfl : xC (.int 31) _ = some (.v .nw (toD (31 : Int)))) (t_mul h4)) (rfl : xVar 1 _ = some (.v .nw (toD (α := Int) (k')))) t_add) (.inr rfl) rfl
    · refine K_out ?_
      exact K_ret (asEV (.v .nw (toD (1000000000000000000 : Int))) (E2 (rfl : xC (.int 10) _ = some (.v .nw (toD (10 : Int)))) (rfl : xC (.int 18) _ = some (.v .nw (toD (18 : Int)))) (t_powc ⟨by decide, by decide, by decide⟩ (by decide +kernel)))) (.inr rfl) rfl
noncomputable def p_l_draws_b1  (limit_10 : Int) (s9 : (List Int) × Int) : R ((List Int) × Int) :=
  gd (0 < limit_10) <|
  gd (AppOk s9.1) <|
  gd (CDivW s9.2 limit_10) <|
  lt (s9.2 / limit_10) fun rest_14 =>
  .ok ((s9.1 ++ [(s9.2 % limit_10)]), rest_14)
noncomputable def p_l_draws_b2  (limit_19 : Int) (s18 : (List Int) × Int) : R ((List Int) × Int) :=
  gd (TimesOk s18.2 (48271 : Int)) <|
  gd (0 < (2147483647 : Int)) <|
  lt (((s18.2 * (48271 : Int)) + (69621 : Int)) % (2147483647 : Int)) fun state_22 =>
  gd (TimesOk state_22 state_22) <|
  gd (0 < (2147483399 : Int)) <|
  lt (((state_22 * state_22) + (40692 : Int)) % (2147483399 : Int)) fun square_25 =>
  gd (CDivW square_25 (11 : Int)) <|
  gd (0 < limit_19) <|
  gd (AppOk s18.1) <|
  .ok ((s18.1 ++ [((square_25 / (11 : Int)) % limit_19)]), state_22)
noncomputable def p_l_draws (cell : Int) (limits : (List Int)) : R (List Int) :=
  lt ((cell).natAbs : Int) fun rest_7 =>
  (if (decide ((1000000000000000000 : Int) ≤ rest_7)) = true then
  (lt (rest_7 - (1000000000000000000 : Int)) fun rest_8 =>
  R.bind (forP p_l_draws_b1 limits (([] : List Int), rest_8)) fun s9 =>
  .ok s9.1)
  else
  (gd (TimesOk rest_7 (2 : Int)) <|
  gd (0 < (2147483647 : Int)) <|
  lt (((rest_7 * (2 : Int)) + (bitI (decide (cell < (0 : Int))))) % (2147483647 : Int)) fun state_17 =>
  R.bind (forP p_l_draws_b2 limits (([] : List Int), state_17)) fun s18 =>
  .ok s18.1))
theorem q_l_draws (cell : Int) (limits : (List Int)) : TF (f_l_draws [toD cell, toD limits]) (p_l_draws cell limits) (fun v => .new .nw (.lst (v.map toD))) := by
  unfold f_l_draws c_l_draws p_l_draws
  refine TF_of rfl ?_
  refine K_setn (asEV (.n .nw (.lst (List.map toD ([] : List Int)))) (Elst A0 (by first | rfl | simp [nm_nw]) rfl)) ?_
  refine K_setl (E1 (rfl : xVar 0 _ = some (.v .nw (toD (α := Int) (cell)))) t_abs) (fun _ => .inr rfl) fun rest_7 => ?_
  refine K_if (E2 (rfl : xVar 3 _ = some (.v .nw (toD (α := Int) (rest_7)))) (asEV (.v .nw (toD (1000000000000000000 : Int))) (E2 (rfl : xC (.int 10) _ = some (.v .nw (toD (10 : Int)))) (rfl : xC (.int 18) _ = some (.v .nw (toD (18 : Int)))) (t_powc ⟨by decide, by decide, by decide⟩ (by decide +kernel)))) t_ge) (fun hA => ?_) (fun hA => ?_)
  · refine K_setl (E2 (rfl : xVar 3 _ = some (.v .nw (toD (α := Int) (rest_7)))) (asEV (.v .nw (toD (1000000000000000000 : Int))) (E2 (rfl : xC (.int 10) _ = some (.v .nw (toD (10 : Int)))) (rfl : xC (.int 18) _ = some (.v .nw (toD (18 : Int)))) (t_powc ⟨by decide, by decide, by decide⟩ (by decide +kernel)))) t_sub) (fun _ => .inr rfl) fun rest_8 => ?_
    refine K_fgt ?_
    refine K_for (en := toD (α := Int)) (fun s9 : (List Int) × Int => [.v .nw (toD (α := Int) (cell)), .v .od (toD (α := (List Int)) (limits)), .own .nw (.lst (List.map (toD (α := Int)) (s9.1))), .v .nw (toD (α := Int) (s9.2)), .no, .no, .no]) (I_v (rfl : xVar 1 _ = some (.v .od (toD (α := (List Int)) (limits)))) rfl) rfl (fun limit_10 s9 => ⟨_, (b_nm (.inl rfl)), ?_⟩) fun s9 => ?_
    · unfold p_l_draws_b1
      refine K_gd fun h11 => ?_
      refine K_gd fun h12 => ?_
      refine K_app (es := s9.1) (a := ((s9.2 % limit_10) : Int)) rfl (E2 (E1 (rfl : xVar 3 _ = some (.v .nw (toD (α := Int) (s9.2)))) t_inti) (rfl : xVar 4 _ = some (.v .nw (toD (α := Int) (limit_10)))) (t_mod h11)) h12 rfl ?_
      refine K_gd fun h13 => ?_
      refine K_setl (E2 (rfl : xVar 3 _ = some (.v .nw (toD (α := Int) (s9.2)))) (rfl : xVar 4 _ = some (.v .nw (toD (α := Int) (limit_10)))) (t_div h13)) (fun _ => .inr rfl) fun rest_14 => ?_
      refine K_fgt ?_
      exact K_end (.inl rfl)
    exact K_retVo rfl rfl
  · refine K_out ?_
    refine K_gd fun h15 => ?_
    refine K_gd fun h16 => ?_
    refine K_setl (E2 (E1 (E2 (E2 (rfl : xVar 3 _ = some (.v .nw (toD (α := Int) (rest_7)))) (rfl : xC (.int 2) _ = some (.v .nw (toD (2 : Int)))) (t_mul h15)) (E1 (E2 (rfl : xVar 0 _ = some (.v .nw (toD (α := Int) (cell)))) (rfl : xC (.int 0) _ = some (.v .nw (toD (0 : Int)))) t_lt) t_intb) t_add) t_inti) (rfl : xC (.int 2147483647) _ = some (.v .nw (toD (2147483647 : Int)))) (t_mod h16)) (fun _ => .inr rfl) fun state_17 => ?_
    refine K_fgt ?_
    refine K_fgt ?_
    refine K_for (en := toD (α := Int)) (fun s18 : (List Int) × Int => [.v .nw (toD (α := Int) (cell)), .v .od (toD (α := (List Int)) (limits)), .own .nw (.lst (List.map (toD (α := Int)) (s18.1))), .v .nw (toD (α := Int) (rest_7)), .no, .v .nw (toD (α := Int) (s18.2)), .no]) (I_v (rfl : xVar 1 _ = some (.v .od (toD (α := (List Int)) (limits)))) rfl) rfl (fun limit_19 s18 => ⟨_, (b_nm (.inl rfl)), ?_⟩) fun s18 => ?_
    · unfold p_l_draws_b2
      refine K_gd fun h20 => ?_
      refine K_gd fun h21 => ?_
      refine K_setl (E2 (E1 (E2 (E2 (rfl : xVar 5 _ = some (.v .nw (toD (α := Int) (s18.2)))) (rfl : xC (.int 48271) _ = some (.v .nw (toD (48271 : Int)))) (t_mul h20)) (rfl : xC (.int 69621) _ = some (.v .nw (toD (69621 : Int)))) t_add) t_inti) (rfl : xC (.int 2147483647) _ = some (.v .nw (toD (2147483647 : Int)))) (t_mod h21)) (fun _ => .inr rfl) fun state_22 => ?_
      refine K_gd fun h23 => ?_
      refine K_gd fun h24 => ?_
      refine K_setl (E2 (E1 (E2 (E2 (rfl : xVar 5 _ = some (.v .nw (toD (α := Int) (state_22)))) (rfl : xVar 5 _ = some (.v .nw (toD (α := Int) (state_22)))) (t_mul h23)) (rfl : xC (.int 40692) _ = some (.v .nw (toD (40692 : Int)))) t_add) t_inti) (rfl : xC (.int 2147483399) _ = some (.v .nw (toD (2147483399 : Int)))) (t_mod h24)) (fun _ => .inr rfl) fun square_25 => ?_
      refine K_gd fun h26 => ?_
      refine K_gd fun h27 => ?_
      refine K_gd fun h28 => ?_
      refine K_app (es := s18.1) (a := (((square_25 / (11 : Int)) % limit_19) : Int)) rfl (E2 (E1 (E2 (rfl : xVar 6 _ = some (.v .nw (toD (α := Int) (square_25)))) (rfl : xC (.int 11) _ = some (.v .nw (toD (11 : Int)))) (t_div h26)) t_inti) (rfl : xVar 4 _ = some (.v .nw (toD (α := Int) (limit_19)))) (t_mod h27)) h28 rfl ?_
      refine K_fgt ?_
      refine K_fgt ?_
      exact K_end (.inl rfl)
    exact K_retVo rfl rfl
noncomputable def p_l_modulus (cell : Int) (small : Int) (great : Int) : R Int :=
  R.bind (p_l_draws cell ([(4 : Int), small, great] : List Int)) fun d29 =>
  gd ((d29).length = 3) <|
  (if (decide ((ixL d29 0) = (3 : Int))) = true then
  (.ok ((1 : Int) + (ixL d29 2)))
  else
  (.ok ((1 : Int) + (ixL d29 1))))
theorem q_l_modulus (cell : Int) (small : Int) (great : Int) : TF (f_l_modulus [toD cell, toD small, toD great]) (p_l_modulus cell small great) (fun v => .ok .nw (toD v)) := by
  unfold f_l_modulus c_l_modulus p_l_modulus
  refine TF_of rfl ?_
  refine K_atom (TE_call (f := fun v => .n .nw (.lst (v.map toD))) (A1 (rfl : xVar 0 _ = some (.v .nw (toD (α := Int) (cell)))) (A1n (asEV (.n .nw (.lst (List.map toD ([(4 : Int), small, great] : List Int)))) (Elst (A1 (rfl : xC (.int 4) _ = some (.v .nw (toD (4 : Int)))) (A1 (rfl : xVar 1 _ = some (.v .nw (toD (α := Int) (small)))) (A1 (rfl : xVar 2 _ = some (.v .nw (toD (α := Int) (great)))) A0))) (by first | rfl | simp [nm_nw]) rfl)) A0)) (q_l_draws cell ([(4 : Int), small, great] : List Int)) (fun v => aft_new ⟨rfl, .inl rfl⟩)) (fun d29 h30 => ?_) (fun x hx => ⟨_, x_setL hx, trivial⟩)
  refine K_gd fun h31 => ?_
  refine K_setLn (h30.trans (by rw [map_len3 h31])) rfl (bs_cons (b_nm (.inl rfl)) (bs_cons (b_nm (.inl rfl)) (bs_cons (b_nm (.inl rfl)) bs_nil))) ?_
  refine K_if (E2 (rfl : xVar 3 _ = some (.v .nw (toD (α := Int) ((ixL d29 0))))) (rfl : xC (.int 3) _ = some (.v .nw (toD (3 : Int)))) t_eqi) (fun hA => ?_) (fun hA => ?_)
  · exact K_ret (E2 (rfl : xC (.int 1) _ = some (.v .nw (toD (1 : Int)))) (rfl : xVar 5 _ = some (.v .nw (toD (α := Int) ((ixL d29 2))))) t_add) (.inr rfl) rfl
  · refine K_out ?_
    exact K_ret (E2 (rfl : xC (.int 1) _ = some (.v .nw (toD (1 : Int)))) (rfl : xVar 4 _ = some (.v .nw (toD (α := Int) ((ixL d29 1))))) t_add) (.inr rfl) rfl
noncomputable def p_l_any_set_b1 (script : Scr) (start' : Int) (n' : Int) (part_46 : Int) (s45 : (List Int)) : R ((List Int)) :=
  gd (TimesOk (60 : Int) part_46) <|
  lt (min (60 : Int) (max (0 : Int) (n' - ((60 : Int) * part_46)))) fun size_48 =>
  R.bind (p_l_cell script (start' + part_46)) fun v49 =>
  gd (RepOk ([(2 : Int)] : List Int) size_48) <|
  R.bind (p_l_draws v49 (repL ([(2 : Int)] : List Int) size_48)) fun d52 =>
  gd (RgOk 0 size_48) <|
  gd (((range1 size_48)).length ≤ sizeLine) <|
  gd (∀ x55 ∈ (range1 size_48), IxOk d52 x55) <|
  gd (∀ x55 ∈ (range1 size_48), (decide ((ixL d52 x55) = (1 : Int))) = true → TimesOk (60 : Int) part_46) <|
  gd ((s45).length + ((List.map (fun x55 : Int => (((60 : Int) * part_46) + x55)) (List.filter (fun x55 : Int => (decide ((ixL d52 x55) = (1 : Int)))) (range1 size_48)))).length ≤ sizeLine) <|
  lt (s45 ++ (List.map (fun x55 : Int => (((60 : Int) * part_46) + x55)) (List.filter (fun x55 : Int => (decide ((ixL d52 x55) = (1 : Int)))) (range1 size_48)))) fun row_62 =>
  .ok row_62
noncomputable def p_l_any_set (script : Scr) (start' : Int) (n' : Int) : R (List Int) :=
  gd (RgOk 0 (17 : Int)) <|
  R.bind (forP (p_l_any_set_b1 script start' n') (range1 (17 : Int)) ([] : List Int)) fun s45 =>
  R.bind (if (decide (((s45).length : Int) = (0 : Int))) = true then lt ([(0 : Int)] : List Int) fun row_64 =>
  .ok row_64 else .ok s45) fun s65 =>
  .ok s65
theorem q_l_any_set (script : Scr) (start' : Int) (n' : Int) : TF (f_l_any_set [toD script, toD start', toD n']) (p_l_any_set script start' n') (fun v => .new .nw (.lst (v.map toD))) := by
  unfold f_l_any_set c_l_any_set p_l_any_set
  refine TF_of rfl ?_
  refine K_setn (asEV (.n .nw (.lst (List.map toD ([] : List Int)))) (Elst A0 (by first | rfl | simp [nm_nw]) rfl)) ?_
  refine K_fgt ?_
  refine K_fgt ?_
  refine K_fgt ?_
  refine K_gd fun h44 => ?_
  refine K_for (en := toD (α := Int)) (fun s45 : (List Int) => [.v .od (toD (α := Scr) (script)), .v .nw (toD (α := Int) (start')), .v .nw (toD (α := Int) (n')), .own .nw (.lst (List.map (toD (α := Int)) (s45))), .no, .no, .no, .no]) (I_r1 (rfl : xC (.int 17) _ = some (.v .nw (toD (17 : Int)))) h44) rfl (fun part_46 s45 => ⟨_, (b_nm (.inl rfl)), ?_⟩) fun s45 => ?_
  · unfold p_l_any_set_b1
    refine K_gd fun h47 => ?_
    refine K_setl (E2 (rfl : xC (.int 60) _ = some (.v .nw (toD (60 : Int)))) (E2 (rfl : xC (.int 0) _ = some (.v .nw (toD (0 : Int)))) (E2 (rfl : xVar 2 _ = some (.v .nw (toD (α := Int) (n')))) (E2 (rfl : xC (.int 60) _ = some (.v .nw (toD (60 : Int)))) (rfl : xVar 4 _ = some (.v .nw (toD (α := Int) (part_46)))) (t_mul h47)) t_sub) t_max2) t_min2) (fun _ => .inr rfl) fun size_48 => ?_
    refine K_atom (TE_call (f := fun v => .v .nw (toD v)) (A1 (rfl : xVar 0 _ = some (.v .od (toD (α := Scr) (script)))) (A1 (E2 (rfl : xVar 1 _ = some (.v .nw (toD (α := Int) (start')))) (rfl : xVar 4 _ = some (.v .nw (toD (α := Int) (part_46)))) t_add) A0)) (q_l_cell script (start' + part_46)) (fun v => (aft_ok ⟨rfl, .inl nm_nw⟩).trans (by rw [nm_nw]))) (fun v49 h50 => ?_) (fun x hx => ⟨_, x_set (Ecallx (Ax hx)), trivial⟩)
    refine K_gd fun h51 => ?_
    refine K_atom (TE_call (f := fun v => .n .nw (.lst (v.map toD))) (A1 h50 (A1n (E2nl (asEV (.n .nw (.lst (List.map toD ([(2 : Int)] : List Int)))) (Elst (A1 (rfl : xC (.int 2) _ = some (.v .nw (toD (2 : Int)))) A0) (by first | rfl | simp [nm_nw]) rfl)) (rfl : xVar 5 _ = some (.v .nw (toD (α := Int) (size_48)))) (t_mulL h51)) A0)) (q_l_draws v49 (repL ([(2 : Int)] : List Int) size_48)) (fun v => aft_new ⟨rfl, .inl rfl⟩)) (fun d52 h53 => ?_) (fun x hx => ⟨_, x_set hx, trivial⟩)
    refine K_setn h53 ?_
    refine K_gd fun h54 => ?_
    refine K_gd fun h56 => ?_
    refine K_gd fun h59 => ?_
    refine K_gd fun h60 => ?_
    refine K_gd fun h61 => ?_
    refine K_setnl (E2nr (rfl : xVar 3 _ = some (.v .tn (toD (α := (List Int)) (s45)))) (ElcF (h := fun x55 : Int => ((((60 : Int) * part_46) + x55) : Int)) (p := fun x55 : Int => (decide ((ixL d52 x55) = (1 : Int)))) rfl (I_r1 (rfl : xVar 5 _ = some (.v .nw (toD (α := Int) (size_48)))) h54) h56 fun x55 hm => ⟨_, (b_nm (.inl rfl)), (have h57 := h59 x55 hm; ⟨_, (E2 (E2 (rfl : xVar 6 _ = some (.v .tn (toD (α := (List Int)) (d52)))) (rfl : xVar 7 _ = some (.v .nw (toD (α := Int) (x55)))) (t_ix h57)) (rfl : xC (.int 1) _ = some (.v .nw (toD (1 : Int)))) t_eqi)⟩), fun hp => have h57 := h59 x55 hm; have h58 := h60 x55 hm hp; ⟨_, (E2 (E2 (rfl : xC (.int 60) _ = some (.v .nw (toD (60 : Int)))) (rfl : xVar 4 _ = some (.v .nw (toD (α := Int) (part_46)))) (t_mul h58)) (rfl : xVar 7 _ = some (.v .nw (toD (α := Int) (x55)))) t_add), by first | rfl | exact nm_nw⟩⟩) (t_addL h61)) fun row_62 => ?_
    refine K_fgt ?_
    refine K_fgt ?_
    refine K_fgt ?_
    exact K_end (.inl rfl)
  refine K_ifJ (fun s65 : (List Int) => [.v .od (toD (α := Scr) (script)), .v .nw (toD (α := Int) (start')), .v .nw (toD (α := Int) (n')), .own .nw (.lst (List.map (toD (α := Int)) (s65))), .no, .no, .no, .no]) (E2 (E1 (rfl : xVar 3 _ = some (.v .tn (toD (α := (List Int)) (s45)))) t_len) (rfl : xC (.int 0) _ = some (.v .nw (toD (0 : Int)))) t_eqi) (fun hA => ?_) (fun hA => ?_) fun s65 => ?_
  · refine K_setnl (asEV (.n .nw (.lst (List.map toD ([(0 : Int)] : List Int)))) (Elst (A1 (rfl : xC (.int 0) _ = some (.v .nw (toD (0 : Int)))) A0) (by first | rfl | simp [nm_nw]) rfl)) fun row_64 => ?_
    exact K_end rfl
  · exact K_end rfl
  exact K_retVo rfl rfl
noncomputable def p_l_rest (cell : Int) (product : Int) : R Int :=
  (if (decide ((1000000000000000000 : Int) ≤ ((cell).natAbs : Int))) = true then
  (gd (CDivW (((cell).natAbs : Int) - (1000000000000000000 : Int)) product) <|
  .ok ((1000000000000000000 : Int) + ((((cell).natAbs : Int) - (1000000000000000000 : Int)) / product)))
  else
  (gd (TimesOk cell (7 : Int)) <|
  .ok ((cell * (7 : Int)) + product)))
theorem q_l_rest (cell : Int) (product : Int) : TF (f_l_rest [toD cell, toD product]) (p_l_rest cell product) (fun v => .ok .nw (toD v)) := by
  unfold f_l_rest c_l_rest p_l_rest
  refine TF_of rfl ?_
  refine K_if (E2 (E1 (rfl : xVar 0 _ = some (.v .nw (toD (α := Int) (cell)))) t_abs) (asEV (.v .nw (toD (1000000000000000000 : Int))) (E2 (rfl : xC (.int 10) _ = some (.v .nw (toD (10 : Int)))) (rfl : xC (.int 18) _ = some (.v .nw (toD (18 : Int)))) (t_powc ⟨by decide, by decide, by decide⟩ (by decide +kernel)))) t_ge) (fun hA => ?_) (fun hA => ?_)
  · refine K_gd fun h68 => ?_
    exact K_ret (E2 (asEV (.v .nw (toD (1000000000000000000 : Int))) (E2 (rfl : xC (.int 10) _ = some (.v .nw (toD (10 : Int)))) (rfl : xC (.int 18) _ = some (.v .nw (toD (18 : Int)))) (t_powc ⟨by decide, by decide, by decide⟩ (by decide +kernel)))) (E2 (E2 (E1 (rfl : xVar 0 _ = some (.v .nw (toD (α := Int) (cell)))) t_abs) (asEV (.v .nw (toD (1000000000000000000 : Int))) (E2 (rfl : xC (.int 10) _ = some (.v .nw (toD (10 : Int)))) (rfl : xC (.int 18) _ = some (.v .nw (toD (18 : Int)))) (t_powc ⟨by decide, by decide, by decide⟩ (by decide +kernel)))) t_sub) (rfl : xVar 1 _ = some (.v .nw (toD (α := Int) (product)))) (t_div h68)) t_add) (.inr rfl) rfl
  · refine K_out ?_
    refine K_gd fun h69 => ?_
    exact K_ret (E2 (E2 (rfl : xVar 0 _ = some (.v .nw (toD (α := Int) (cell)))) (rfl : xC (.int 7) _ = some (.v .nw (toD (7 : Int)))) (t_mul h69)) (rfl : xVar 1 _ = some (.v .nw (toD (α := Int) (product)))) t_add) (.inr rfl) rfl
noncomputable def p_l_members_b1  (number_82 : Int) (s81 : (List Int)) : R ((List Int)) :=
  (if (!(decide (number_82 ∈ s81))) = true then
  (gd (AppOk s81) <|
  .ok (s81 ++ [number_82]))
  else
  (.ok s81))
noncomputable def p_l_members (cell : Int) (n' : Int) (most : Int) : R (List Int) :=
  R.bind (p_l_draws cell ([most] : List Int)) fun d72 =>
  gd (IxOk d72 (0 : Int)) <|
  lt ((1 : Int) + (ixL d72 (0 : Int))) fun size_75 =>
  R.bind (p_l_rest cell most) fun v76 =>
  gd (RepOk ([n'] : List Int) size_75) <|
  R.bind (p_l_draws v76 (repL ([n'] : List Int) size_75)) fun d79 =>
  R.bind (forP p_l_members_b1 d79 ([] : List Int)) fun s81 =>
  .ok s81
theorem q_l_members (cell : Int) (n' : Int) (most : Int) : TF (f_l_members [toD cell, toD n', toD most]) (p_l_members cell n' most) (fun v => .new .nw (.lst (v.map toD))) := by
  unfold f_l_members c_l_members p_l_members
  refine TF_of rfl ?_
  refine K_atom (TE_call (f := fun v => .n .nw (.lst (v.map toD))) (A1 (rfl : xVar 0 _ = some (.v .nw (toD (α := Int) (cell)))) (A1n (asEV (.n .nw (.lst (List.map toD ([most] : List Int)))) (Elst (A1 (rfl : xVar 2 _ = some (.v .nw (toD (α := Int) (most)))) A0) (by first | rfl | simp [nm_nw]) rfl)) A0)) (q_l_draws cell ([most] : List Int)) (fun v => aft_new ⟨rfl, .inl rfl⟩)) (fun d72 h73 => ?_) (fun x hx => ⟨_, x_set (E2xr (rfl : xC (.int 1) _ = some (.v .nw (toD (1 : Int)))) (E2xl hx)), trivial⟩)
  refine K_gd fun h74 => ?_
  refine K_setl (E2 (rfl : xC (.int 1) _ = some (.v .nw (toD (1 : Int)))) (E2nl h73 (rfl : xC (.int 0) _ = some (.v .nw (toD (0 : Int)))) (t_ix h74)) t_add) (fun _ => .inr rfl) fun size_75 => ?_
  refine K_setn (asEV (.n .nw (.lst (List.map toD ([] : List Int)))) (Elst A0 (by first | rfl | simp [nm_nw]) rfl)) ?_
  refine K_fgt ?_
  refine K_atom (TE_call (f := fun v => .v .nw (toD v)) (A1 (rfl : xVar 0 _ = some (.v .nw (toD (α := Int) (cell)))) (A1 (rfl : xVar 2 _ = some (.v .nw (toD (α := Int) (most)))) A0)) (q_l_rest cell most) (fun v => (aft_ok ⟨rfl, .inl nm_nw⟩).trans (by rw [nm_nw]))) (fun v76 h77 => ?_) (fun x hx => ⟨_, x_for (I_x (Ecallx (Ax hx))), trivial⟩)
  refine K_gd fun h78 => ?_
  refine K_atom (TE_call (f := fun v => .n .nw (.lst (v.map toD))) (A1 h77 (A1n (E2nl (asEV (.n .nw (.lst (List.map toD ([n'] : List Int)))) (Elst (A1 (rfl : xVar 1 _ = some (.v .nw (toD (α := Int) (n')))) A0) (by first | rfl | simp [nm_nw]) rfl)) (rfl : xVar 3 _ = some (.v .nw (toD (α := Int) (size_75)))) (t_mulL h78)) A0)) (q_l_draws v76 (repL ([n'] : List Int) size_75)) (fun v => aft_new ⟨rfl, .inl rfl⟩)) (fun d79 h80 => ?_) (fun x hx => ⟨_, x_for (I_x hx), trivial⟩)
  refine K_for (en := toD (α := Int)) (fun s81 : (List Int) => [.v .nw (toD (α := Int) (cell)), .v .nw (toD (α := Int) (n')), .v .nw (toD (α := Int) (most)), .v .nw (toD (α := Int) (size_75)), .own .nw (.lst (List.map (toD (α := Int)) (s81))), .no]) (I_n h80) rfl (fun number_82 s81 => ⟨_, (b_nm (.inl rfl)), ?_⟩) fun s81 => ?_
  · unfold p_l_members_b1
    refine K_if (E2 (rfl : xVar 5 _ = some (.v .nw (toD (α := Int) (number_82)))) (rfl : xVar 4 _ = some (.v .tn (toD (α := (List Int)) (s81)))) t_nini) (fun hA => ?_) (fun hA => ?_)
    · refine K_frzv rfl ?_
      refine K_gd fun h83 => ?_
      refine K_app (es := s81) (a := (number_82 : Int)) rfl (rfl : xVar 5 _ = some (.v .nw (toD (α := Int) (number_82)))) h83 rfl ?_
      refine K_out ?_
      refine K_fgt ?_
      exact K_end (.inl rfl)
    · refine K_out ?_
      refine K_fgt ?_
      exact K_end (.inl rfl)
  exact K_retVo rfl rfl
noncomputable def p_l_residues (script : Scr) (place : Int) (start' : Int) (n' : Int) : R (List Int) :=
  R.bind (p_l_cell script place) fun v34 =>
  R.bind (p_l_draws v34 ([(8 : Int), n', (min n' (60 : Int))] : List Int)) fun d36 =>
  gd ((d36).length = 3) <|
  (if (decide ((ixL d36 0) = (7 : Int))) = true then
  (gd (RgOk 0 ((ixL d36 2) + (1 : Int))) <|
  gd (((range1 ((ixL d36 2) + (1 : Int)))).length ≤ sizeLine) <|
  gd (∀ x40 ∈ (range1 ((ixL d36 2) + (1 : Int))), 0 < n') <|
  .ok (List.map (fun x40 : Int => (((ixL d36 1) + x40) % n')) (range1 ((ixL d36 2) + (1 : Int)))))
  else
  ((if (decide ((ixL d36 0) = (6 : Int))) = true then
  (R.bind (p_l_any_set script start' n') fun v66 =>
  .ok v66)
  else
  (R.bind (p_l_rest v34 (8 : Int)) fun v70 =>
  R.bind (p_l_members v70 n' (20 : Int)) fun v84 =>
  .ok v84))))
theorem q_l_residues (script : Scr) (place : Int) (start' : Int) (n' : Int) : TF (f_l_residues [toD script, toD place, toD start', toD n']) (p_l_residues script place start' n') (fun v => .new .nw (.lst (v.map toD))) := by
  unfold f_l_residues c_l_residues p_l_residues
  refine TF_of rfl ?_
  refine K_atom (TE_call (f := fun v => .v .nw (toD v)) (A1 (rfl : xVar 0 _ = some (.v .od (toD (α := Scr) (script)))) (A1 (rfl : xVar 1 _ = some (.v .nw (toD (α := Int) (place)))) A0)) (q_l_cell script place) (fun v => (aft_ok ⟨rfl, .inl nm_nw⟩).trans (by rw [nm_nw]))) (fun v34 h35 => ?_) (fun x hx => ⟨_, x_set hx, trivial⟩)
  refine K_set h35 (.inr rfl) ?_
  refine K_atom (TE_call (f := fun v => .n .nw (.lst (v.map toD))) (A1 (rfl : xVar 4 _ = some (.v .nw (toD (α := Int) (v34)))) (A1n (asEV (.n .nw (.lst (List.map toD ([(8 : Int), n', (min n' (60 : Int))] : List Int)))) (Elst (A1 (rfl : xC (.int 8) _ = some (.v .nw (toD (8 : Int)))) (A1 (rfl : xVar 3 _ = some (.v .nw (toD (α := Int) (n')))) (A1 (E2 (rfl : xVar 3 _ = some (.v .nw (toD (α := Int) (n')))) (rfl : xC (.int 60) _ = some (.v .nw (toD (60 : Int)))) t_min2) A0))) (by first | rfl | simp [nm_nw]) rfl)) A0)) (q_l_draws v34 ([(8 : Int), n', (min n' (60 : Int))] : List Int)) (fun v => aft_new ⟨rfl, .inl rfl⟩)) (fun d36 h37 => ?_) (fun x hx => ⟨_, x_setL hx, trivial⟩)
  refine K_gd fun h38 => ?_
  refine K_setLn (h37.trans (by rw [map_len3 h38])) rfl (bs_cons (b_nm (.inl rfl)) (bs_cons (b_nm (.inl rfl)) (bs_cons (b_nm (.inl rfl)) bs_nil))) ?_
  refine K_if (E2 (rfl : xVar 5 _ = some (.v .nw (toD (α := Int) ((ixL d36 0))))) (rfl : xC (.int 7) _ = some (.v .nw (toD (7 : Int)))) t_eqi) (fun hA => ?_) (fun hA => ?_)
  · refine K_gd fun h39 => ?_
    refine K_gd fun h41 => ?_
    refine K_gd fun h43 => ?_
    exact K_retn (Elc (h := fun x40 : Int => ((((ixL d36 1) + x40) % n') : Int)) rfl (I_r1 (E2 (rfl : xVar 7 _ = some (.v .nw (toD (α := Int) ((ixL d36 2))))) (rfl : xC (.int 1) _ = some (.v .nw (toD (1 : Int)))) t_add) h39) h41 fun x40 hm => have h42 := h43 x40 hm; ⟨_, (b_nm (.inl rfl)), _, (E2 (E1 (E2 (rfl : xVar 6 _ = some (.v .nw (toD (α := Int) ((ixL d36 1))))) (rfl : xVar 8 _ = some (.v .nw (toD (α := Int) (x40)))) t_add) t_inti) (rfl : xVar 3 _ = some (.v .nw (toD (α := Int) (n')))) (t_mod h42)), by first | rfl | exact nm_nw⟩) rfl
  · refine K_out ?_
    refine K_if (E2 (rfl : xVar 5 _ = some (.v .nw (toD (α := Int) ((ixL d36 0))))) (rfl : xC (.int 6) _ = some (.v .nw (toD (6 : Int)))) t_eqi) (fun hA => ?_) (fun hA => ?_)
    · refine K_atom (TE_call (f := fun v => .n .nw (.lst (v.map toD))) (A1 (rfl : xVar 0 _ = some (.v .od (toD (α := Scr) (script)))) (A1 (rfl : xVar 2 _ = some (.v .nw (toD (α := Int) (start')))) (A1 (rfl : xVar 3 _ = some (.v .nw (toD (α := Int) (n')))) A0))) (q_l_any_set script start' n') (fun v => aft_new ⟨rfl, .inl rfl⟩)) (fun v66 h67 => ?_) (fun x hx => ⟨_, x_ret hx, trivial⟩)
      exact K_retn h67 rfl
    · refine K_out ?_
      refine K_atom (TE_call (f := fun v => .v .nw (toD v)) (A1 (rfl : xVar 4 _ = some (.v .nw (toD (α := Int) (v34)))) (A1 (rfl : xC (.int 8) _ = some (.v .nw (toD (8 : Int)))) A0)) (q_l_rest v34 (8 : Int)) (fun v => (aft_ok ⟨rfl, .inl nm_nw⟩).trans (by rw [nm_nw]))) (fun v70 h71 => ?_) (fun x hx => ⟨_, x_ret (Ecallx (Ax hx)), trivial⟩)
      refine K_atom (TE_call (f := fun v => .n .nw (.lst (v.map toD))) (A1 h71 (A1 (rfl : xVar 3 _ = some (.v .nw (toD (α := Int) (n')))) (A1 (rfl : xC (.int 20) _ = some (.v .nw (toD (20 : Int)))) A0))) (q_l_members v70 n' (20 : Int)) (fun v => aft_new ⟨rfl, .inl rfl⟩)) (fun v84 h85 => ?_) (fun x hx => ⟨_, x_ret hx, trivial⟩)
      exact K_retn h85 rfl
noncomputable def p_l_handed (cell : Int) (n' : Int) (members : (List Int)) : R (List Int) :=
  R.bind (p_l_draws cell ([((members).length : Int), (2 : Int), (4 : Int)] : List Int)) fun d90 =>
  gd ((d90).length = 3) <|
  gd (((cutG members (some (ixL d90 0)) none)).length + ((cutG members none (some (ixL d90 0)))).length ≤ sizeLine) <|
  lt ((cutG members (some (ixL d90 0)) none) ++ (cutG members none (some (ixL d90 0)))) fun row_94 =>
  R.bind (if (decide ((ixL d90 1) = (1 : Int))) = true then lt (List.reverse row_94) fun row_96 =>
  .ok row_96 else .ok row_94) fun s97 =>
  gd (RgOk 0 ((s97).length : Int)) <|
  gd (((range1 ((s97).length : Int))).length ≤ sizeLine) <|
  gd (∀ x99 ∈ (range1 ((s97).length : Int)), IxOk s97 x99) <|
  gd (∀ x99 ∈ (range1 ((s97).length : Int)), 0 < (3 : Int)) <|
  gd (∀ x99 ∈ (range1 ((s97).length : Int)), TimesOk ((x99 % (3 : Int)) - (1 : Int)) n') <|
  gd (∀ x99 ∈ (range1 ((s97).length : Int)), TimesOk (((x99 % (3 : Int)) - (1 : Int)) * n') (ixL d90 2)) <|
  .ok (List.map (fun x99 : Int => ((ixL s97 x99) + ((((x99 % (3 : Int)) - (1 : Int)) * n') * (ixL d90 2)))) (range1 ((s97).length : Int)))
theorem q_l_handed (cell : Int) (n' : Int) (members : (List Int)) : TF (f_l_handed [toD cell, toD n', toD members]) (p_l_handed cell n' members) (fun v => .new .nw (.lst (v.map toD))) := by
  unfold f_l_handed c_l_handed p_l_handed
  refine TF_of rfl ?_
  refine K_atom (TE_call (f := fun v => .n .nw (.lst (v.map toD))) (A1 (rfl : xVar 0 _ = some (.v .nw (toD (α := Int) (cell)))) (A1n (asEV (.n .nw (.lst (List.map toD ([((members).length : Int), (2 : Int), (4 : Int)] : List Int)))) (Elst (A1 (E1 (rfl : xVar 2 _ = some (.v .od (toD (α := (List Int)) (members)))) t_len) (A1 (rfl : xC (.int 2) _ = some (.v .nw (toD (2 : Int)))) (A1 (rfl : xC (.int 4) _ = some (.v .nw (toD (4 : Int)))) A0))) (by first | rfl | simp [nm_nw]) rfl)) A0)) (q_l_draws cell ([((members).length : Int), (2 : Int), (4 : Int)] : List Int)) (fun v => aft_new ⟨rfl, .inl rfl⟩)) (fun d90 h91 => ?_) (fun x hx => ⟨_, x_setL hx, trivial⟩)
  refine K_gd fun h92 => ?_
  refine K_setLn (h91.trans (by rw [map_len3 h92])) rfl (bs_cons (b_nm (.inl rfl)) (bs_cons (b_nm (.inl rfl)) (bs_cons (b_nm (.inl rfl)) bs_nil))) ?_
  refine K_gd fun h93 => ?_
  refine K_setnl (E2nn (Esl (rfl : xVar 2 _ = some (.v .od (toD (α := (List Int)) (members)))) (xOpt_s (rfl : xVar 3 _ = some (.v .nw (toD (α := Int) ((ixL d90 0)))))) xOpt_n) (Esl (rfl : xVar 2 _ = some (.v .od (toD (α := (List Int)) (members)))) xOpt_n (xOpt_s (rfl : xVar 3 _ = some (.v .nw (toD (α := Int) ((ixL d90 0))))))) (t_addL h93)) fun row_94 => ?_
  refine K_ifJ (fun s97 : (List Int) => [.v .nw (toD (α := Int) (cell)), .v .nw (toD (α := Int) (n')), .v .od (toD (α := (List Int)) (members)), .v .nw (toD (α := Int) ((ixL d90 0))), .v .nw (toD (α := Int) ((ixL d90 1))), .v .nw (toD (α := Int) ((ixL d90 2))), .own .nw (.lst (List.map (toD (α := Int)) (s97))), .no]) (E2 (rfl : xVar 4 _ = some (.v .nw (toD (α := Int) ((ixL d90 1))))) (rfl : xC (.int 1) _ = some (.v .nw (toD (1 : Int)))) t_eqi) (fun hA => ?_) (fun hA => ?_) fun s97 => ?_
  · refine K_setnl (E1 (rfl : xVar 6 _ = some (.v .tn (toD (α := (List Int)) (row_94)))) t_rev) fun row_96 => ?_
    exact K_end rfl
  · exact K_end rfl
  refine K_gd fun h98 => ?_
  refine K_gd fun h100 => ?_
  refine K_gd fun h105 => ?_
  refine K_gd fun h106 => ?_
  refine K_gd fun h107 => ?_
  refine K_gd fun h108 => ?_
  exact K_retn (Elc (h := fun x99 : Int => (((ixL s97 x99) + ((((x99 % (3 : Int)) - (1 : Int)) * n') * (ixL d90 2))) : Int)) rfl (I_r1 (E1 (rfl : xVar 6 _ = some (.v .tn (toD (α := (List Int)) (s97)))) t_len) h98) h100 fun x99 hm => have h101 := h105 x99 hm; have h102 := h106 x99 hm; have h103 := h107 x99 hm; have h104 := h108 x99 hm; ⟨_, (b_nm (.inl rfl)), _, (E2 (E2 (rfl : xVar 6 _ = some (.v .tn (toD (α := (List Int)) (s97)))) (rfl : xVar 7 _ = some (.v .nw (toD (α := Int) (x99)))) (t_ix h101)) (E2 (E2 (E2 (E2 (rfl : xVar 7 _ = some (.v .nw (toD (α := Int) (x99)))) (rfl : xC (.int 3) _ = some (.v .nw (toD (3 : Int)))) (t_mod h102)) (rfl : xC (.int 1) _ = some (.v .nw (toD (1 : Int)))) t_sub) (rfl : xVar 1 _ = some (.v .nw (toD (α := Int) (n')))) (t_mul h103)) (rfl : xVar 5 _ = some (.v .nw (toD (α := Int) ((ixL d90 2))))) (t_mul h104)) t_add), by first | rfl | exact nm_nw⟩) rfl
noncomputable def p_p_first_repeated_b1 (residues : (List Int)) (at_118 : Int) (s117 : Unit) : R (L (Unit) D) :=
  gd (IxOk residues at_118) <|
  (if (decide ((ixL residues at_118) ∈ (cutG residues none (some at_118)))) = true then
  (gd (IxOk residues at_118) <|
  .ok (.rt (toD (α := Int) ((ixL residues at_118)))))
  else
  (.ok (.go ())))
noncomputable def p_p_first_repeated (residues : (List Int)) : R D :=
  gd (RgOk (1 : Int) ((residues).length : Int)) <|
  R.bind (forL (p_p_first_repeated_b1 residues) (range2 (1 : Int) ((residues).length : Int)) ()) fun z => match z with | .rt t => .ok t | .fin s117 => (.ok (toD (α := Unit) (())))
theorem q_p_first_repeated (residues : (List Int)) : TF (f_p_first_repeated [toD residues]) (p_p_first_repeated residues) (fun v => .ok .nw (toD v)) := by
  unfold f_p_first_repeated c_p_first_repeated p_p_first_repeated
  refine TF_of rfl ?_
  refine K_fgt ?_
  refine K_gd fun h116 => ?_
  refine K_forL (T := D) (Q := (Rt (fun v => .ok .nw (toD v)))) (en := toD (α := Int)) (fun s117 : Unit => [.v .od (toD (α := (List Int)) (residues)), .no]) (I_r2 (rfl : xC (.int 1) _ = some (.v .nw (toD (1 : Int)))) (E1 (rfl : xVar 0 _ = some (.v .od (toD (α := (List Int)) (residues)))) t_len) h116) rfl (fun at_118 s117 => ⟨_, (b_nm (.inl rfl)), ?_⟩) (fun s117 => ?_) (fun t u hq hu => TK_rt hq)
  · unfold p_p_first_repeated_b1
    refine K_gd fun h119 => ?_
    refine K_if (E2nr (E2 (rfl : xVar 0 _ = some (.v .od (toD (α := (List Int)) (residues)))) (rfl : xVar 1 _ = some (.v .nw (toD (α := Int) (at_118)))) (t_ix h119)) (Esl (rfl : xVar 0 _ = some (.v .od (toD (α := (List Int)) (residues)))) xOpt_n (xOpt_s (rfl : xVar 1 _ = some (.v .nw (toD (α := Int) (at_118)))))) t_ini) (fun hA => ?_) (fun hA => ?_)
    · refine K_gd fun h120 => ?_
      exact K_ret (E2 (rfl : xVar 0 _ = some (.v .od (toD (α := (List Int)) (residues)))) (rfl : xVar 1 _ = some (.v .nw (toD (α := Int) (at_118)))) (t_ix h120)) (.inr rfl) ⟨rfl, rfl⟩
    · refine K_out ?_
      refine K_fgt ?_
      exact K_end (.inl rfl)
  exact K_ret rfl (.inr rfl) rfl
noncomputable def p_l_gcd_b1  (k_135 : Int) (s134 : Int × Int) : R (L (Int × Int) Int) :=
  (if (decide (s134.2 = (0 : Int))) = true then
  (.ok (.rt s134.1))
  else
  (gd (0 < s134.2) <|
  lt s134.2 fun one_137 =>
  lt (s134.1 % s134.2) fun other_138 =>
  .ok (.go (one_137, other_138))))
noncomputable def p_l_gcd (one : Int) (other' : Int) : R Int :=
  lt ((one).natAbs : Int) fun one_131 =>
  lt ((other').natAbs : Int) fun other_132 =>
  gd (RgOk 0 (600 : Int)) <|
  R.bind (forL p_l_gcd_b1 (range1 (600 : Int)) (one_131, other_132)) fun z => match z with | .rt t => .ok t | .fin s134 => (.ok s134.1)
theorem q_l_gcd (one : Int) (other' : Int) : TF (f_l_gcd [toD one, toD other']) (p_l_gcd one other') (fun v => .ok .nw (toD v)) := by
  unfold f_l_gcd c_l_gcd p_l_gcd
  refine TF_of rfl ?_
  refine K_setl (E1 (rfl : xVar 0 _ = some (.v .nw (toD (α := Int) (one)))) t_abs) (fun _ => .inr rfl) fun one_131 => ?_
  refine K_setl (E1 (rfl : xVar 1 _ = some (.v .nw (toD (α := Int) (other')))) t_abs) (fun _ => .inr rfl) fun other_132 => ?_
  refine K_fgt ?_
  refine K_gd fun h133 => ?_
  refine K_forL (T := Int) (Q := (Rt (fun v => .ok .nw (toD v)))) (en := toD (α := Int)) (fun s134 : Int × Int => [.v .nw (toD (α := Int) (s134.1)), .v .nw (toD (α := Int) (s134.2)), .no]) (I_r1 (rfl : xC (.int 600) _ = some (.v .nw (toD (600 : Int)))) h133) rfl (fun k_135 s134 => ⟨_, (b_nm (.inl rfl)), ?_⟩) (fun s134 => ?_) (fun t u hq hu => TK_rt hq)
  · unfold p_l_gcd_b1
    refine K_if (E2 (rfl : xVar 1 _ = some (.v .nw (toD (α := Int) (s134.2)))) (rfl : xC (.int 0) _ = some (.v .nw (toD (0 : Int)))) t_eqi) (fun hA => ?_) (fun hA => ?_)
    · exact K_retVv rfl (.inr rfl) ⟨rfl, rfl⟩
    · refine K_out ?_
      refine K_gd fun h136 => ?_
      refine K_parl (A1 (rfl : xVar 1 _ = some (.v .nw (toD (α := Int) (s134.2)))) (A1 (E2 (E1 (rfl : xVar 0 _ = some (.v .nw (toD (α := Int) (s134.1)))) t_inti) (rfl : xVar 1 _ = some (.v .nw (toD (α := Int) (s134.2)))) (t_mod h136)) A0)) (fun _ => .inr rfl) (fun _ => .inr rfl) fun one_137 other_138 => ?_
      refine K_fgt ?_
      exact K_end (.inl rfl)
  exact K_retVv rfl (.inr rfl) rfl
noncomputable def p_l_coprime_b1 (start' : Int) (n' : Int) (turn_130 : Int) (s129 : Unit) : R (L (Unit) Int) :=
  R.bind (p_l_gcd (start' + turn_130) n') fun v139 =>
  (if (decide (v139 = (1 : Int))) = true then
  (.ok (.rt (start' + turn_130)))
  else
  (.ok (.go ())))
noncomputable def p_l_coprime (start' : Int) (n' : Int) : R Int :=
  gd (RgOk 0 n') <|
  R.bind (forL (p_l_coprime_b1 start' n') (range1 n') ()) fun z => match z with | .rt t => .ok t | .fin s129 => (.ok (1 : Int))
theorem q_l_coprime (start' : Int) (n' : Int) : TF (f_l_coprime [toD start', toD n']) (p_l_coprime start' n') (fun v => .ok .nw (toD v)) := by
  unfold f_l_coprime c_l_coprime p_l_coprime
  refine TF_of rfl ?_
  refine K_fgt ?_
  refine K_gd fun h128 => ?_
  refine K_forL (T := Int) (Q := (Rt (fun v => .ok .nw (toD v)))) (en := toD (α := Int)) (fun s129 : Unit => [.v .nw (toD (α := Int) (start')), .v .nw (toD (α := Int) (n')), .no]) (I_r1 (rfl : xVar 1 _ = some (.v .nw (toD (α := Int) (n')))) h128) rfl (fun turn_130 s129 => ⟨_, (b_nm (.inl rfl)), ?_⟩) (fun s129 => ?_) (fun t u hq hu => TK_rt hq)
  · unfold p_l_coprime_b1
    refine K_atom (TE_call (f := fun v => .v .nw (toD v)) (A1 (E2 (rfl : xVar 0 _ = some (.v .nw (toD (α := Int) (start')))) (rfl : xVar 2 _ = some (.v .nw (toD (α := Int) (turn_130)))) t_add) (A1 (rfl : xVar 1 _ = some (.v .nw (toD (α := Int) (n')))) A0)) (q_l_gcd (start' + turn_130) n') (fun v => (aft_ok ⟨rfl, .inl nm_nw⟩).trans (by rw [nm_nw]))) (fun v139 h140 => ?_) (fun x hx => ⟨_, x_if (E2xl hx), trivial⟩)
    refine K_if (E2 h140 (rfl : xC (.int 1) _ = some (.v .nw (toD (1 : Int)))) t_eqi) (fun hA => ?_) (fun hA => ?_)
    · exact K_ret (E2 (rfl : xVar 0 _ = some (.v .nw (toD (α := Int) (start')))) (rfl : xVar 2 _ = some (.v .nw (toD (α := Int) (turn_130)))) t_add) (.inr rfl) ⟨rfl, rfl⟩
    · refine K_out ?_
      refine K_fgt ?_
      exact K_end (.inl rfl)
  exact K_ret (rfl : xC (.int 1) _ = some (.v .nw (toD (1 : Int)))) (.inr rfl) rfl
noncomputable def p_l_integer_b1  (digit_149 : Int) (s148 : Int) : R (Int) :=
  gd (TimesOk s148 (1000000000 : Int)) <|
  lt ((s148 * (1000000000 : Int)) + digit_149) fun number_151 =>
  .ok number_151
noncomputable def p_l_integer (cell : Int) (most : Int) : R Int :=
  lt ([(2 : Int), (3 : Int), (1000000000 : Int), (1000000000 : Int), (1000000000 : Int), (1000000000 : Int), (1000000000 : Int), (1000000000 : Int), (1000000000 : Int)] : List Int) fun limits_145 =>
  R.bind (p_l_draws cell limits_145) fun d146 =>
  R.bind (forP p_l_integer_b1 (cutG d146 (some (2 : Int)) none) (0 : Int)) fun s148 =>
  lt (most + (1 : Int)) fun bound_152 =>
  gd (IxOk d146 (1 : Int)) <|
  R.bind (if (decide ((ixL d146 (1 : Int)) = (1 : Int))) = true then lt (min bound_152 (1000 : Int)) fun bound_155 =>
  .ok bound_155 else .ok bound_152) fun s156 =>
  gd (IxOk d146 (1 : Int)) <|
  R.bind (if (decide ((ixL d146 (1 : Int)) = (2 : Int))) = true then lt (min s156 (13 : Int)) fun bound_159 =>
  .ok bound_159 else .ok s156) fun s160 =>
  gd (0 < s160) <|
  lt (s148 % s160) fun number_162 =>
  gd (IxOk d146 (0 : Int)) <|
  (if (decide ((ixL d146 (0 : Int)) = (1 : Int))) = true then
  (.ok (-number_162))
  else
  (.ok number_162))
theorem q_l_integer (cell : Int) (most : Int) : TF (f_l_integer [toD cell, toD most]) (p_l_integer cell most) (fun v => .ok .nw (toD v)) := by
  unfold f_l_integer c_l_integer p_l_integer
  refine TF_of rfl ?_
  refine K_setnl (asEV (.n .nw (.lst (List.map toD ([(2 : Int), (3 : Int), (1000000000 : Int), (1000000000 : Int), (1000000000 : Int), (1000000000 : Int), (1000000000 : Int), (1000000000 : Int), (1000000000 : Int)] : List Int)))) (Elst (A1 (rfl : xC (.int 2) _ = some (.v .nw (toD (2 : Int)))) (A1 (rfl : xC (.int 3) _ = some (.v .nw (toD (3 : Int)))) (A1 (asEV (.v .nw (toD (1000000000 : Int))) (E2 (rfl : xC (.int 10) _ = some (.v .nw (toD (10 : Int)))) (rfl : xC (.int 9) _ = some (.v .nw (toD (9 : Int)))) (t_powc ⟨by decide, by decide, by decide⟩ (by decide +kernel)))) (A1 (asEV (.v .nw (toD (1000000000 : Int))) (E2 (rfl : xC (.int 10) _ = some (.v .nw (toD (10 : Int)))) (rfl : xC (.int 9) _ = some (.v .nw (toD (9 : Int)))) (t_powc ⟨by decide, by decide, by decide⟩ (by decide +kernel)))) (A1 (asEV (.v .nw (toD (1000000000 : Int))) (E2 (rfl : xC (.int 10) _ = some (.v .nw (toD (10 : Int)))) (rfl : xC (.int 9) _ = some (.v .nw (toD (9 : Int)))) (t_powc ⟨by decide, by decide, by decide⟩ (by decide +kernel)))) (A1 (asEV (.v .nw (toD (1000000000 : Int))) (E2 (rfl : xC (.int 10) _ = some (.v .nw (toD (10 : Int)))) (rfl : xC (.int 9) _ = some (.v .nw (toD (9 : Int)))) (t_powc ⟨by decide, by decide, by decide⟩ (by decide +kernel)))) (A1 (asEV (.v .nw (toD (1000000000 : Int))) (E2 (rfl : xC (.int 10) _ = some (.v .nw (toD (10 : Int)))) (rfl : xC (.int 9) _ = some (.v .nw (toD (9 : Int)))) (t_powc ⟨by decide, by decide, by decide⟩ (by decide +kernel)))) (A1 (asEV (.v .nw (toD (1000000000 : Int))) (E2 (rfl : xC (.int 10) _ = some (.v .nw (toD (10 : Int)))) (rfl : xC (.int 9) _ = some (.v .nw (toD (9 : Int)))) (t_powc ⟨by decide, by decide, by decide⟩ (by decide +kernel)))) (A1 (asEV (.v .nw (toD (1000000000 : Int))) (E2 (rfl : xC (.int 10) _ = some (.v .nw (toD (10 : Int)))) (rfl : xC (.int 9) _ = some (.v .nw (toD (9 : Int)))) (t_powc ⟨by decide, by decide, by decide⟩ (by decide +kernel)))) A0))))))))) (by first | rfl | simp [nm_nw]) rfl)) fun limits_145 => ?_
  refine K_atom (TE_call (f := fun v => .n .nw (.lst (v.map toD))) (A1 (rfl : xVar 0 _ = some (.v .nw (toD (α := Int) (cell)))) (A1 (rfl : xVar 2 _ = some (.v .tn (toD (α := (List Int)) (limits_145)))) A0)) (q_l_draws cell limits_145) (fun v => aft_new ⟨rfl, .inl rfl⟩)) (fun d146 h147 => ?_) (fun x hx => ⟨_, x_set hx, trivial⟩)
  refine K_setn h147 ?_
  refine K_set (rfl : xC (.int 0) _ = some (.v .nw (toD (0 : Int)))) (.inr rfl) ?_
  refine K_fgt ?_
  refine K_for (en := toD (α := Int)) (fun s148 : Int => [.v .nw (toD (α := Int) (cell)), .v .nw (toD (α := Int) (most)), .own .nw (.lst (List.map (toD (α := Int)) (limits_145))), .own .nw (.lst (List.map (toD (α := Int)) (d146))), .v .nw (toD (α := Int) (s148)), .no, .no]) (I_n (Esl (rfl : xVar 3 _ = some (.v .tn (toD (α := (List Int)) (d146)))) (xOpt_s (rfl : xC (.int 2) _ = some (.v .nw (toD (2 : Int))))) xOpt_n)) rfl (fun digit_149 s148 => ⟨_, (b_nm (.inl rfl)), ?_⟩) fun s148 => ?_
  · unfold p_l_integer_b1
    refine K_gd fun h150 => ?_
    refine K_setl (E2 (E2 (rfl : xVar 4 _ = some (.v .nw (toD (α := Int) (s148)))) (asEV (.v .nw (toD (1000000000 : Int))) (E2 (rfl : xC (.int 10) _ = some (.v .nw (toD (10 : Int)))) (rfl : xC (.int 9) _ = some (.v .nw (toD (9 : Int)))) (t_powc ⟨by decide, by decide, by decide⟩ (by decide +kernel)))) (t_mul h150)) (rfl : xVar 5 _ = some (.v .nw (toD (α := Int) (digit_149)))) t_add) (fun _ => .inr rfl) fun number_151 => ?_
    refine K_fgt ?_
    exact K_end (.inl rfl)
  refine K_setl (E2 (rfl : xVar 1 _ = some (.v .nw (toD (α := Int) (most)))) (rfl : xC (.int 1) _ = some (.v .nw (toD (1 : Int)))) t_add) (fun _ => .inr rfl) fun bound_152 => ?_
  refine K_gd fun h153 => ?_
  refine K_ifJ (fun s156 : Int => [.v .nw (toD (α := Int) (cell)), .v .nw (toD (α := Int) (most)), .own .nw (.lst (List.map (toD (α := Int)) (limits_145))), .own .nw (.lst (List.map (toD (α := Int)) (d146))), .v .nw (toD (α := Int) (s148)), .no, .v .nw (toD (α := Int) (s156))]) (E2 (E2 (rfl : xVar 3 _ = some (.v .tn (toD (α := (List Int)) (d146)))) (rfl : xC (.int 1) _ = some (.v .nw (toD (1 : Int)))) (t_ix h153)) (rfl : xC (.int 1) _ = some (.v .nw (toD (1 : Int)))) t_eqi) (fun hA => ?_) (fun hA => ?_) fun s156 => ?_
  · refine K_setl (E2 (rfl : xVar 6 _ = some (.v .nw (toD (α := Int) (bound_152)))) (rfl : xC (.int 1000) _ = some (.v .nw (toD (1000 : Int)))) t_min2) (fun _ => .inr rfl) fun bound_155 => ?_
    exact K_end rfl
  · exact K_end rfl
  refine K_gd fun h157 => ?_
  refine K_ifJ (fun s160 : Int => [.v .nw (toD (α := Int) (cell)), .v .nw (toD (α := Int) (most)), .own .nw (.lst (List.map (toD (α := Int)) (limits_145))), .own .nw (.lst (List.map (toD (α := Int)) (d146))), .v .nw (toD (α := Int) (s148)), .no, .v .nw (toD (α := Int) (s160))]) (E2 (E2 (rfl : xVar 3 _ = some (.v .tn (toD (α := (List Int)) (d146)))) (rfl : xC (.int 1) _ = some (.v .nw (toD (1 : Int)))) (t_ix h157)) (rfl : xC (.int 2) _ = some (.v .nw (toD (2 : Int)))) t_eqi) (fun hA => ?_) (fun hA => ?_) fun s160 => ?_
  · refine K_setl (E2 (rfl : xVar 6 _ = some (.v .nw (toD (α := Int) (s156)))) (rfl : xC (.int 13) _ = some (.v .nw (toD (13 : Int)))) t_min2) (fun _ => .inr rfl) fun bound_159 => ?_
    exact K_end rfl
  · exact K_end rfl
  refine K_gd fun h161 => ?_
  refine K_setl (E2 (E1 (rfl : xVar 4 _ = some (.v .nw (toD (α := Int) (s148)))) t_inti) (rfl : xVar 6 _ = some (.v .nw (toD (α := Int) (s160)))) (t_mod h161)) (fun _ => .inr rfl) fun number_162 => ?_
  refine K_gd fun h163 => ?_
  refine K_if (E2 (E2 (rfl : xVar 3 _ = some (.v .tn (toD (α := (List Int)) (d146)))) (rfl : xC (.int 0) _ = some (.v .nw (toD (0 : Int)))) (t_ix h163)) (rfl : xC (.int 1) _ = some (.v .nw (toD (1 : Int)))) t_eqi) (fun hA => ?_) (fun hA => ?_)
  · exact K_ret (E1 (rfl : xVar 4 _ = some (.v .nw (toD (α := Int) (number_162)))) t_neg) (.inr rfl) rfl
  · refine K_out ?_
    exact K_retVv rfl (.inr rfl) rfl
noncomputable def p_l_factor (script : Scr) (n' : Int) : R Int :=
  R.bind (p_l_cell script (3 : Int)) fun v123 =>
  R.bind (p_l_draws v123 ([(8 : Int), n'] : List Int)) fun d125 =>
  gd ((d125).length = 2) <|
  (if (decide ((ixL d125 0) < (4 : Int))) = true then
  (R.bind (p_l_coprime (ixL d125 1) n') fun v141 =>
  R.bind (p_l_cell script (4 : Int)) fun v143 =>
  R.bind (p_l_integer v143 (100000000000000000000000000000000000000000000000000000000 : Int)) fun v164 =>
  gd (TimesOk n' v164) <|
  .ok (v141 + (n' * v164)))
  else
  ((if (decide ((ixL d125 0) = (4 : Int))) = true then
  (.ok (-1 : Int))
  else
  ((if (decide ((ixL d125 0) = (5 : Int))) = true then
  (R.bind (p_l_cell script (4 : Int)) fun v167 =>
  R.bind (p_l_integer v167 (100000000000000000000000000000000000000000000000000000000 : Int)) fun v169 =>
  gd (TimesOk n' v169) <|
  .ok (n' * v169))
  else
  (R.bind (p_l_cell script (4 : Int)) fun v172 =>
  R.bind (p_l_integer v172 ((1000000000000000000000000000000000000000000000000000000000000 : Int) - (1 : Int))) fun v174 =>
  .ok v174))))))
theorem q_l_factor (script : Scr) (n' : Int) : TF (f_l_factor [toD script, toD n']) (p_l_factor script n') (fun v => .ok .nw (toD v)) := by
  unfold f_l_factor c_l_factor p_l_factor
  refine TF_of rfl ?_
  refine K_atom (TE_call (f := fun v => .v .nw (toD v)) (A1 (rfl : xVar 0 _ = some (.v .od (toD (α := Scr) (script)))) (A1 (rfl : xC (.int 3) _ = some (.v .nw (toD (3 : Int)))) A0)) (q_l_cell script (3 : Int)) (fun v => (aft_ok ⟨rfl, .inl nm_nw⟩).trans (by rw [nm_nw]))) (fun v123 h124 => ?_) (fun x hx => ⟨_, x_setL (Ecallx (Ax hx)), trivial⟩)
  refine K_atom (TE_call (f := fun v => .n .nw (.lst (v.map toD))) (A1 h124 (A1n (asEV (.n .nw (.lst (List.map toD ([(8 : Int), n'] : List Int)))) (Elst (A1 (rfl : xC (.int 8) _ = some (.v .nw (toD (8 : Int)))) (A1 (rfl : xVar 1 _ = some (.v .nw (toD (α := Int) (n')))) A0)) (by first | rfl | simp [nm_nw]) rfl)) A0)) (q_l_draws v123 ([(8 : Int), n'] : List Int)) (fun v => aft_new ⟨rfl, .inl rfl⟩)) (fun d125 h126 => ?_) (fun x hx => ⟨_, x_setL hx, trivial⟩)
  refine K_gd fun h127 => ?_
  refine K_setLn (h126.trans (by rw [map_len2 h127])) rfl (bs_cons (b_nm (.inl rfl)) (bs_cons (b_nm (.inl rfl)) bs_nil)) ?_
  refine K_if (E2 (rfl : xVar 2 _ = some (.v .nw (toD (α := Int) ((ixL d125 0))))) (rfl : xC (.int 4) _ = some (.v .nw (toD (4 : Int)))) t_lt) (fun hA => ?_) (fun hA => ?_)
  · refine K_atom (TE_call (f := fun v => .v .nw (toD v)) (A1 (rfl : xVar 3 _ = some (.v .nw (toD (α := Int) ((ixL d125 1))))) (A1 (rfl : xVar 1 _ = some (.v .nw (toD (α := Int) (n')))) A0)) (q_l_coprime (ixL d125 1) n') (fun v => (aft_ok ⟨rfl, .inl nm_nw⟩).trans (by rw [nm_nw]))) (fun v141 h142 => ?_) (fun x hx => ⟨_, x_ret (E2xl hx), trivial⟩)
    refine K_atom (TE_call (f := fun v => .v .nw (toD v)) (A1 (rfl : xVar 0 _ = some (.v .od (toD (α := Scr) (script)))) (A1 (rfl : xC (.int 4) _ = some (.v .nw (toD (4 : Int)))) A0)) (q_l_cell script (4 : Int)) (fun v => (aft_ok ⟨rfl, .inl nm_nw⟩).trans (by rw [nm_nw]))) (fun v143 h144 => ?_) (fun x hx => ⟨_, x_ret (E2xr h142 (E2xr (rfl : xVar 1 _ = some (.v .nw (toD (α := Int) (n')))) (Ecallx (Ax hx)))), trivial⟩)
    refine K_atom (TE_call (f := fun v => .v .nw (toD v)) (A1 h144 (A1 (asEV (.v .nw (toD (100000000000000000000000000000000000000000000000000000000 : Int))) (E2 (rfl : xC (.int 10) _ = some (.v .nw (toD (10 : Int)))) (rfl : xC (.int 56) _ = some (.v .nw (toD (56 : Int)))) (t_powc ⟨by decide, by decide, by decide⟩ (by decide +kernel)))) A0)) (q_l_integer v143 (100000000000000000000000000000000000000000000000000000000 : Int)) (fun v => (aft_ok ⟨rfl, .inl nm_nw⟩).trans (by rw [nm_nw]))) (fun v164 h165 => ?_) (fun x hx => ⟨_, x_ret (E2xr h142 (E2xr (rfl : xVar 1 _ = some (.v .nw (toD (α := Int) (n')))) hx)), trivial⟩)
    refine K_gd fun h166 => ?_
    exact K_ret (E2 h142 (E2 (rfl : xVar 1 _ = some (.v .nw (toD (α := Int) (n')))) h165 (t_mul h166)) t_add) (.inr rfl) rfl
  · refine K_out ?_
    refine K_if (E2 (rfl : xVar 2 _ = some (.v .nw (toD (α := Int) ((ixL d125 0))))) (rfl : xC (.int 4) _ = some (.v .nw (toD (4 : Int)))) t_eqi) (fun hA => ?_) (fun hA => ?_)
    · exact K_ret (E1 (rfl : xC (.int 1) _ = some (.v .nw (toD (1 : Int)))) t_neg) (.inr rfl) rfl
    · refine K_out ?_
      refine K_if (E2 (rfl : xVar 2 _ = some (.v .nw (toD (α := Int) ((ixL d125 0))))) (rfl : xC (.int 5) _ = some (.v .nw (toD (5 : Int)))) t_eqi) (fun hA => ?_) (fun hA => ?_)
      · refine K_atom (TE_call (f := fun v => .v .nw (toD v)) (A1 (rfl : xVar 0 _ = some (.v .od (toD (α := Scr) (script)))) (A1 (rfl : xC (.int 4) _ = some (.v .nw (toD (4 : Int)))) A0)) (q_l_cell script (4 : Int)) (fun v => (aft_ok ⟨rfl, .inl nm_nw⟩).trans (by rw [nm_nw]))) (fun v167 h168 => ?_) (fun x hx => ⟨_, x_ret (E2xr (rfl : xVar 1 _ = some (.v .nw (toD (α := Int) (n')))) (Ecallx (Ax hx))), trivial⟩)
        refine K_atom (TE_call (f := fun v => .v .nw (toD v)) (A1 h168 (A1 (asEV (.v .nw (toD (100000000000000000000000000000000000000000000000000000000 : Int))) (E2 (rfl : xC (.int 10) _ = some (.v .nw (toD (10 : Int)))) (rfl : xC (.int 56) _ = some (.v .nw (toD (56 : Int)))) (t_powc ⟨by decide, by decide, by decide⟩ (by decide +kernel)))) A0)) (q_l_integer v167 (100000000000000000000000000000000000000000000000000000000 : Int)) (fun v => (aft_ok ⟨rfl, .inl nm_nw⟩).trans (by rw [nm_nw]))) (fun v169 h170 => ?_) (fun x hx => ⟨_, x_ret (E2xr (rfl : xVar 1 _ = some (.v .nw (toD (α := Int) (n')))) hx), trivial⟩)
        refine K_gd fun h171 => ?_
        exact K_ret (E2 (rfl : xVar 1 _ = some (.v .nw (toD (α := Int) (n')))) h170 (t_mul h171)) (.inr rfl) rfl
      · refine K_out ?_
        refine K_atom (TE_call (f := fun v => .v .nw (toD v)) (A1 (rfl : xVar 0 _ = some (.v .od (toD (α := Scr) (script)))) (A1 (rfl : xC (.int 4) _ = some (.v .nw (toD (4 : Int)))) A0)) (q_l_cell script (4 : Int)) (fun v => (aft_ok ⟨rfl, .inl nm_nw⟩).trans (by rw [nm_nw]))) (fun v172 h173 => ?_) (fun x hx => ⟨_, x_ret (Ecallx (Ax hx)), trivial⟩)
        refine K_atom (TE_call (f := fun v => .v .nw (toD v)) (A1 h173 (A1 (E2 (asEV (.v .nw (toD (1000000000000000000000000000000000000000000000000000000000000 : Int))) (E2 (rfl : xC (.int 10) _ = some (.v .nw (toD (10 : Int)))) (rfl : xC (.int 60) _ = some (.v .nw (toD (60 : Int)))) (t_powc ⟨by decide, by decide, by decide⟩ (by decide +kernel)))) (rfl : xC (.int 1) _ = some (.v .nw (toD (1 : Int)))) t_sub) A0)) (q_l_integer v172 ((1000000000000000000000000000000000000000000000000000000000000 : Int) - (1 : Int))) (fun v => (aft_ok ⟨rfl, .inl nm_nw⟩).trans (by rw [nm_nw]))) (fun v174 h175 => ?_) (fun x hx => ⟨_, x_ret hx, trivial⟩)
        exact K_ret h175 (.inr rfl) rfl
noncomputable def p_l_twice_b1 (s185 : (List Int)) (residue_193 : Int) (s192 : Unit) : R (L (Unit) (Str × Int)) :=
  gd (IxOk s185 residue_193) <|
  (if (decide ((1 : Int) < (ixL s185 residue_193))) = true then
  (.ok (.rt ((("Clash" : Str), residue_193) : (Str × Int))))
  else
  (.ok (.go ())))
noncomputable def p_l_twice_b2 (n' : Int) (number_186 : Int) (s185 : (List Int)) : R ((List Int)) :=
  gd (0 < n') <|
  lt (number_186 % n') fun at_188 =>
  gd (IxOk s185 at_188) <|
  gd (IxOk s185 at_188) <|
  .ok (setL s185 at_188 ((ixL s185 at_188) + (1 : Int)))
noncomputable def p_l_twice (n' : Int) (numbers : (List Int)) : R (Str × Int) :=
  gd (RepOk ([(0 : Int)] : List Int) n') <|
  lt (repL ([(0 : Int)] : List Int) n') fun counts_184 =>
  R.bind (forP (p_l_twice_b2 n') numbers counts_184) fun s185 =>
  gd (RgOk 0 n') <|
  R.bind (forL (p_l_twice_b1 s185) (range1 n') ()) fun z => match z with | .rt t => .ok t | .fin s192 => (.ok ((("none" : Str), (0 : Int)) : (Str × Int)))
theorem q_l_twice (n' : Int) (numbers : (List Int)) : TF (f_l_twice [toD n', toD numbers]) (p_l_twice n' numbers) (fun v => .ok .nw (toD v)) := by
  unfold f_l_twice c_l_twice p_l_twice
  refine TF_of rfl ?_
  refine K_gd fun h183 => ?_
  refine K_setnl (E2nl (asEV (.n .nw (.lst (List.map toD ([(0 : Int)] : List Int)))) (Elst (A1 (rfl : xC (.int 0) _ = some (.v .nw (toD (0 : Int)))) A0) (by first | rfl | simp [nm_nw]) rfl)) (rfl : xVar 0 _ = some (.v .nw (toD (α := Int) (n')))) (t_mulL h183)) fun counts_184 => ?_
  refine K_fgt ?_
  refine K_fgt ?_
  refine K_for (en := toD (α := Int)) (fun s185 : (List Int) => [.v .nw (toD (α := Int) (n')), .v .od (toD (α := (List Int)) (numbers)), .own .nw (.lst (List.map (toD (α := Int)) (s185))), .no, .no, .no]) (I_v (rfl : xVar 1 _ = some (.v .od (toD (α := (List Int)) (numbers)))) rfl) rfl (fun number_186 s185 => ⟨_, (b_nm (.inl rfl)), ?_⟩) fun s185 => ?_
  · unfold p_l_twice_b2
    refine K_gd fun h187 => ?_
    refine K_setl (E2 (E1 (rfl : xVar 3 _ = some (.v .nw (toD (α := Int) (number_186)))) t_inti) (rfl : xVar 0 _ = some (.v .nw (toD (α := Int) (n')))) (t_mod h187)) (fun _ => .inr rfl) fun at_188 => ?_
    refine K_gd fun h189 => ?_
    refine K_gd fun h190 => ?_
    refine K_sto (es := s185) (a := (((ixL s185 at_188) + (1 : Int)) : Int)) rfl (E2 (E2 (rfl : xVar 2 _ = some (.v .tn (toD (α := (List Int)) (s185)))) (rfl : xVar 4 _ = some (.v .nw (toD (α := Int) (at_188)))) (t_ix h189)) (rfl : xC (.int 1) _ = some (.v .nw (toD (1 : Int)))) t_add) (rfl : xVar 4 _ = some (.v .nw (toD (α := Int) (at_188)))) h190 rfl ?_
    refine K_fgt ?_
    refine K_fgt ?_
    exact K_end (.inl rfl)
  refine K_fgt ?_
  refine K_gd fun h191 => ?_
  refine K_forL (T := (Str × Int)) (Q := (Rt (fun v => .ok .nw (toD v)))) (en := toD (α := Int)) (fun s192 : Unit => [.v .nw (toD (α := Int) (n')), .v .od (toD (α := (List Int)) (numbers)), .own .nw (.lst (List.map (toD (α := Int)) (s185))), .no, .no, .no]) (I_r1 (rfl : xVar 0 _ = some (.v .nw (toD (α := Int) (n')))) h191) rfl (fun residue_193 s192 => ⟨_, (b_nm (.inl rfl)), ?_⟩) (fun s192 => ?_) (fun t u hq hu => TK_rt hq)
  · unfold p_l_twice_b1
    refine K_gd fun h194 => ?_
    refine K_if (E2 (E2 (rfl : xVar 2 _ = some (.v .tn (toD (α := (List Int)) (s185)))) (rfl : xVar 5 _ = some (.v .nw (toD (α := Int) (residue_193)))) (t_ix h194)) (rfl : xC (.int 1) _ = some (.v .nw (toD (1 : Int)))) t_gt) (fun hA => ?_) (fun hA => ?_)
    · refine K_frzv rfl ?_
      exact K_ret (asEV (.v .nw (toD (α := (Str × Int)) (((("Clash" : Str), residue_193) : (Str × Int))))) (Etup (A1 (rfl : xC (.str "Clash") _ = some (.v .nw (toD ("Clash" : Str)))) (A1 (rfl : xVar 5 _ = some (.v .nw (toD (α := Int) (residue_193)))) A0)) (by first | rfl | simp [nm_nw]) rfl)) (.inl rfl) ⟨rfl, rfl⟩
    · refine K_out ?_
      refine K_fgt ?_
      exact K_end (.inl rfl)
  exact K_ret (asEV (.v .nw (toD (α := (Str × Int)) (((("none" : Str), (0 : Int)) : (Str × Int))))) (Etup (A1 (rfl : xC (.str "none") _ = some (.v .nw (toD ("none" : Str)))) (A1 (rfl : xC (.int 0) _ = some (.v .nw (toD (0 : Int)))) A0)) (by first | rfl | simp [nm_nw]) rfl)) (.inl rfl) rfl
noncomputable def p_p_residues_of_b1 (residues_208 : (List Int)) (at_211 : Int) (s210 : Unit) : R (Unit) :=
  gd (IxOk residues_208 at_211) <|
  gd (IxOk residues_208 (at_211 - (1 : Int))) <|
  (if (decide ((ixL residues_208 at_211) = (ixL residues_208 (at_211 - (1 : Int))))) = true then
  (gd (IxOk residues_208 at_211) <|
  .ex ⟨"Clash", ["residue"], [toD (α := Int) ((ixL residues_208 at_211))]⟩)
  else
  (.ok ()))
noncomputable def p_p_residues_of (modulus : Int) (numbers : (List Int)) : R (List Int) :=
  gd ((numbers).length ≤ sizeLine) <|
  gd (∀ x204 ∈ numbers, 0 < modulus) <|
  lt (sortI (List.map (fun x204 : Int => (x204 % modulus)) numbers)) fun residues_208 =>
  gd (RgOk (1 : Int) ((residues_208).length : Int)) <|
  R.bind (forP (p_p_residues_of_b1 residues_208) (range2 (1 : Int) ((residues_208).length : Int)) ()) fun s210 =>
  .ok residues_208
theorem q_p_residues_of (modulus : Int) (numbers : (List Int)) : TF (f_p_residues_of [toD modulus, toD numbers]) (p_p_residues_of modulus numbers) (fun v => .new .nw (.lst (v.map toD))) := by
  unfold f_p_residues_of c_p_residues_of p_p_residues_of
  refine TF_of rfl ?_
  refine K_gd fun h205 => ?_
  refine K_gd fun h207 => ?_
  refine K_setnl (E1n (Elc (h := fun x204 : Int => ((x204 % modulus) : Int)) rfl (I_v (rfl : xVar 1 _ = some (.v .od (toD (α := (List Int)) (numbers)))) rfl) h205 fun x204 hm => have h206 := h207 x204 hm; ⟨_, (b_nm (.inl rfl)), _, (E2 (rfl : xVar 4 _ = some (.v .nw (toD (α := Int) (x204)))) (rfl : xVar 0 _ = some (.v .nw (toD (α := Int) (modulus)))) (t_mod h206)), by first | rfl | exact nm_nw⟩) t_sorted) fun residues_208 => ?_
  refine K_fgt ?_
  refine K_gd fun h209 => ?_
  refine K_for (en := toD (α := Int)) (fun s210 : Unit => [.v .nw (toD (α := Int) (modulus)), .v .od (toD (α := (List Int)) (numbers)), .own .nw (.lst (List.map (toD (α := Int)) (residues_208))), .no, .no]) (I_r2 (rfl : xC (.int 1) _ = some (.v .nw (toD (1 : Int)))) (E1 (rfl : xVar 2 _ = some (.v .tn (toD (α := (List Int)) (residues_208)))) t_len) h209) rfl (fun at_211 s210 => ⟨_, (b_nm (.inl rfl)), ?_⟩) fun s210 => ?_
  · unfold p_p_residues_of_b1
    refine K_gd fun h212 => ?_
    refine K_gd fun h213 => ?_
    refine K_if (E2 (E2 (rfl : xVar 2 _ = some (.v .tn (toD (α := (List Int)) (residues_208)))) (rfl : xVar 3 _ = some (.v .nw (toD (α := Int) (at_211)))) (t_ix h212)) (E2 (rfl : xVar 2 _ = some (.v .tn (toD (α := (List Int)) (residues_208)))) (E2 (rfl : xVar 3 _ = some (.v .nw (toD (α := Int) (at_211)))) (rfl : xC (.int 1) _ = some (.v .nw (toD (1 : Int)))) t_sub) (t_ix h213)) t_eqi) (fun hA => ?_) (fun hA => ?_)
    · refine K_gd fun h214 => ?_
      exact K_raise (E2 (rfl : xVar 2 _ = some (.v .tn (toD (α := (List Int)) (residues_208)))) (rfl : xVar 3 _ = some (.v .nw (toD (α := Int) (at_211)))) (t_ix h214)) rfl trivial
    · refine K_out ?_
      refine K_fgt ?_
      exact K_end (.inl rfl)
  exact K_retVo rfl rfl
noncomputable def p_Lot___mul__ (self : LotT) (factor : Int) : R LotT :=
  gd ((self.ms).length ≤ sizeLine) <|
  gd (∀ x200 ∈ self.ms, TimesOk x200 factor) <|
  R.bind (p_p_residues_of self.n (List.map (fun x200 : Int => (x200 * factor)) self.ms)) fun v215 =>
  R.bind (pLot p_p_first_repeated self.n v215) fun v217 =>
  .ok v217
theorem q_Lot___mul__ (self : LotT) (factor : Int) : TF (f_Lot___mul__ [toD self, toD factor]) (p_Lot___mul__ self factor) (fun v => .ok .nw (toD v)) := by
  unfold f_Lot___mul__ c_Lot___mul__ p_Lot___mul__
  refine TF_of rfl ?_
  refine K_gd fun h201 => ?_
  refine K_gd fun h203 => ?_
  refine K_atom (TE_call (f := fun v => .n .nw (.lst (v.map toD))) (A1 (E1 (rfl : xVar 0 _ = some (.v .od (toD (α := LotT) (self)))) t_Lot_modulus) (A1n (Elc (h := fun x200 : Int => ((x200 * factor) : Int)) rfl (I_v (E1 (rfl : xVar 0 _ = some (.v .od (toD (α := LotT) (self)))) t_Lot__members) rfl) h201 fun x200 hm => have h202 := h203 x200 hm; ⟨_, (b_nm (.inl rfl)), _, (E2 (rfl : xVar 2 _ = some (.v .nw (toD (α := Int) (x200)))) (rfl : xVar 1 _ = some (.v .nw (toD (α := Int) (factor)))) (t_mul h202)), by first | rfl | exact nm_nw⟩) A0)) (q_p_residues_of self.n (List.map (fun x200 : Int => (x200 * factor)) self.ms)) (fun v => aft_new ⟨rfl, .inl rfl⟩)) (fun v215 h216 => ?_) (fun x hx => ⟨_, x_ret (Efzx (Ecallx (Axs (E1 (rfl : xVar 0 _ = some (.v .od (toD (α := LotT) (self)))) t_Lot_modulus) (Ax hx)))), trivial⟩)
  refine K_atom (TE_fz (TE_call (f := fun v => .n .nw (ctLot v)) (A1 (E1 (rfl : xVar 0 _ = some (.v .od (toD (α := LotT) (self)))) t_Lot_modulus) (A1n h216 A0)) (TF_noOk (q_Lot_init (fun l => q_p_first_repeated l) self.n v215) (fun _ _ _ h => by cases h)) (fun v => aft_new ⟨rfl, .inl rfl⟩))) (fun v217 h218 => ?_) (fun x hx => ⟨_, x_ret hx, trivial⟩)
  exact K_ret h218 (.inl rfl) rfl
noncomputable def p_Lot___rmul__ (self : LotT) (factor : Int) : R LotT :=
  gd ((self.ms).length ≤ sizeLine) <|
  gd (∀ x221 ∈ self.ms, TimesOk x221 factor) <|
  R.bind (p_p_residues_of self.n (List.map (fun x221 : Int => (x221 * factor)) self.ms)) fun v225 =>
  R.bind (pLot p_p_first_repeated self.n v225) fun v227 =>
  .ok v227
theorem q_Lot___rmul__ (self : LotT) (factor : Int) : TF (f_Lot___rmul__ [toD self, toD factor]) (p_Lot___rmul__ self factor) (fun v => .ok .nw (toD v)) := by
  unfold f_Lot___rmul__ c_Lot___rmul__ p_Lot___rmul__
  refine TF_of rfl ?_
  refine K_gd fun h222 => ?_
  refine K_gd fun h224 => ?_
  refine K_atom (TE_call (f := fun v => .n .nw (.lst (v.map toD))) (A1 (E1 (rfl : xVar 0 _ = some (.v .od (toD (α := LotT) (self)))) t_Lot_modulus) (A1n (Elc (h := fun x221 : Int => ((x221 * factor) : Int)) rfl (I_v (E1 (rfl : xVar 0 _ = some (.v .od (toD (α := LotT) (self)))) t_Lot__members) rfl) h222 fun x221 hm => have h223 := h224 x221 hm; ⟨_, (b_nm (.inl rfl)), _, (E2 (rfl : xVar 2 _ = some (.v .nw (toD (α := Int) (x221)))) (rfl : xVar 1 _ = some (.v .nw (toD (α := Int) (factor)))) (t_mul h223)), by first | rfl | exact nm_nw⟩) A0)) (q_p_residues_of self.n (List.map (fun x221 : Int => (x221 * factor)) self.ms)) (fun v => aft_new ⟨rfl, .inl rfl⟩)) (fun v225 h226 => ?_) (fun x hx => ⟨_, x_ret (Efzx (Ecallx (Axs (E1 (rfl : xVar 0 _ = some (.v .od (toD (α := LotT) (self)))) t_Lot_modulus) (Ax hx)))), trivial⟩)
  refine K_atom (TE_fz (TE_call (f := fun v => .n .nw (ctLot v)) (A1 (E1 (rfl : xVar 0 _ = some (.v .od (toD (α := LotT) (self)))) t_Lot_modulus) (A1n h226 A0)) (TF_noOk (q_Lot_init (fun l => q_p_first_repeated l) self.n v225) (fun _ _ _ h => by cases h)) (fun v => aft_new ⟨rfl, .inl rfl⟩))) (fun v227 h228 => ?_) (fun x hx => ⟨_, x_ret hx, trivial⟩)
  exact K_ret h228 (.inl rfl) rfl
noncomputable def p_l_times (lot : LotT) (t' : Int) (side : Int) : R ((Str × D) × D) :=
  lt ((("none" : Str), (0 : Int)) : (Str × Int)) fun told_248 =>
  tryR ((if (decide (side = (0 : Int))) = true then
  (R.bind (p_Lot___mul__ lot t') fun v253 =>
  .ok v253)
  else
  (R.bind (p_Lot___rmul__ lot t') fun v255 =>
  .ok v255)) : R (LotT)) (fun s257 : LotT =>
  .ok (((((told_248, s257) : ((Str × Int) × LotT)).1).1, (toD (α := Int) ((((told_248, s257) : ((Str × Int) × LotT)).1).2))), (toD (α := LotT) (((told_248, s257) : ((Str × Int) × LotT)).2)))) fun x =>
  clauseR (tk_Clash x.c)
  (gd (ClsOk x "Clash") <|
  gd (FldOk x "residue") <|
  .ok (((((("Clash" : Str), (xFld x "residue")) : (Str × D)), ()) : ((Str × D) × Unit)).1, (toD (α := Unit) (((((("Clash" : Str), (xFld x "residue")) : (Str × D)), ()) : ((Str × D) × Unit)).2))))
  (clauseR (tk_LotsError x.c)
  (.ok (((((((("LotsError" : Str), (0 : Int)) : (Str × Int)), ()) : ((Str × Int) × Unit)).1).1, (toD (α := Int) ((((((("LotsError" : Str), (0 : Int)) : (Str × Int)), ()) : ((Str × Int) × Unit)).1).2))), (toD (α := Unit) (((((("LotsError" : Str), (0 : Int)) : (Str × Int)), ()) : ((Str × Int) × Unit)).2))))
  (.ex x))
theorem q_l_times (lot : LotT) (t' : Int) (side : Int) : TF (f_l_times [toD lot, toD t', toD side]) (p_l_times lot t' side) (fun v => .ok .nw (toD v)) := by
  unfold f_l_times c_l_times p_l_times
  refine TF_of rfl ?_
  refine K_setl (asEV (.v .nw (toD (α := (Str × Int)) (((("none" : Str), (0 : Int)) : (Str × Int))))) (Etup (A1 (rfl : xC (.str "none") _ = some (.v .nw (toD ("none" : Str)))) (A1 (rfl : xC (.int 0) _ = some (.v .nw (toD (0 : Int)))) A0)) (by first | rfl | simp [nm_nw]) rfl)) (fun _ => .inl rfl) fun told_248 => ?_
  refine K_set rfl (.inr rfl) ?_
  refine K_tryE (fun s257 : LotT => [.v .od (toD (α := LotT) (lot)), .v .nw (toD (α := Int) (t')), .v .nw (toD (α := Int) (side)), .v .nw (toD (α := (Str × Int)) (told_248)), .v .nw (toD (α := LotT) (s257)), .no]) ?_ (fun s257 => ?_) (fun x => ?_)
  · refine K_if (E2 (rfl : xVar 2 _ = some (.v .nw (toD (α := Int) (side)))) (rfl : xC (.int 0) _ = some (.v .nw (toD (0 : Int)))) t_eqi) (fun hA => ?_) (fun hA => ?_)
    · refine K_atom (TE_call (f := fun v => .v .nw (toD v)) (A1 (rfl : xVar 0 _ = some (.v .od (toD (α := LotT) (lot)))) (A1 (rfl : xVar 1 _ = some (.v .nw (toD (α := Int) (t')))) A0)) (TL_oi (q_Lot___mul__ lot t')) (fun v => (aft_ok ⟨rfl, .inl nm_nw⟩).trans (by rw [nm_nw]))) (fun v253 h254 => ?_) (fun x hx => ⟨_, x_set hx, rfl⟩)
      refine K_set h254 (.inl rfl) ?_
      refine K_out ?_
      exact K_end rfl
    · refine K_atom (TE_call (f := fun v => .v .nw (toD v)) (A1 (rfl : xVar 1 _ = some (.v .nw (toD (α := Int) (t')))) (A1 (rfl : xVar 0 _ = some (.v .od (toD (α := LotT) (lot)))) A0)) (TL_io (q_Lot___rmul__ lot t')) (fun v => (aft_ok ⟨rfl, .inl nm_nw⟩).trans (by rw [nm_nw]))) (fun v255 h256 => ?_) (fun x hx => ⟨_, x_set hx, rfl⟩)
      refine K_set h256 (.inl rfl) ?_
      refine K_out ?_
      exact K_end rfl
  · refine K_frzv rfl ?_
    refine K_frzv rfl ?_
    exact K_ret (asEV (.v .nw (toD (α := ((Str × Int) × LotT)) (((told_248, s257) : ((Str × Int) × LotT))))) (Etup (A1 (rfl : xVar 3 _ = some (.v .nw (toD (α := (Str × Int)) (told_248)))) (A1 (rfl : xVar 4 _ = some (.v .nw (toD (α := LotT) (s257)))) A0)) (by first | rfl | simp [nm_nw]) rfl)) (.inl rfl) rfl
  refine H_consP (fun hA => ?_) ?_
  · refine K_gd fun h258 => ?_
    refine K_gd fun h259 => ?_
    refine H_end (H_tup (ds := [toD (α := Str) (("Clash" : Str)), toD (α := D) ((xFld x "residue"))]) h258 (by first | exact Nat.lt_of_sub_eq_succ rfl | decide | simp) (mapM_of (.cons rfl (.cons (XF_f h259) .nil)))) ?_
    refine K_frzv rfl ?_
    refine K_frzv rfl ?_
    exact K_ret (asEV (.v .nw (toD (α := ((Str × D) × Unit)) (((((("Clash" : Str), (xFld x "residue")) : (Str × D)), ()) : ((Str × D) × Unit))))) (Etup (A1 (rfl : xVar 3 _ = some (.v .nw (toD (α := (Str × D)) (((("Clash" : Str), (xFld x "residue")) : (Str × D)))))) (A1 (rfl : xVar 4 _ = some (.v .nw (toD (α := Unit) (())))) A0)) (by first | rfl | simp [nm_nw]) rfl)) (.inl rfl) rfl
  refine H_consP (fun hA => ?_) ?_
  · refine H_end (sc_nx (set_v (asEV (.v .nw (toD (α := (Str × Int)) (((("LotsError" : Str), (0 : Int)) : (Str × Int))))) (Etup (A1 (rfl : xC (.str "LotsError") _ = some (.v .nw (toD ("LotsError" : Str)))) (A1 (rfl : xC (.int 0) _ = some (.v .nw (toD (0 : Int)))) A0)) (by first | rfl | simp [nm_nw]) rfl)) (.inl rfl)) rfl) ?_
    refine K_frzv rfl ?_
    refine K_frzv rfl ?_
    exact K_ret (asEV (.v .nw (toD (α := ((Str × Int) × Unit)) (((((("LotsError" : Str), (0 : Int)) : (Str × Int)), ()) : ((Str × Int) × Unit))))) (Etup (A1 (rfl : xVar 3 _ = some (.v .nw (toD (α := (Str × Int)) (((("LotsError" : Str), (0 : Int)) : (Str × Int)))))) (A1 (rfl : xVar 4 _ = some (.v .nw (toD (α := Unit) (())))) A0)) (by first | rfl | simp [nm_nw]) rfl)) (.inl rfl) rfl
  exact H_nil trivial
theorem same_eq : ∀ n, f_l_same n = fSame n
  | 0 => rfl
  | n + 1 => by show runD 2 3 (c_l_same (f_l_same n)) = runD 2 3 (cSame (fSame n)); rw [same_eq n]; rfl
theorem q_l_same (a b : D) : TF (f_l_same 12 [a, b]) (sameR a b) (fun v => .ok .nw (toD v)) := by
  rw [same_eq]; exact q_same (fun d h => same_refl 12 d h) a b
noncomputable def p_Lot_members (self : LotT) : R (List Int) :=
  .ok self.ms
theorem q_Lot_members (self : LotT) : TF (f_Lot_members [toD self]) (p_Lot_members self) (fun v => .new .nw (.lst (v.map toD))) := by
  unfold f_Lot_members c_Lot_members p_Lot_members
  refine TF_of rfl ?_
  exact K_retn (E1 (E1 (rfl : xVar 0 _ = some (.v .od (toD (α := LotT) (self)))) t_Lot__members) t_list) rfl
noncomputable def p_Lot___len__ (self : LotT) : R Int :=
  .ok ((self.ms).length : Int)
theorem q_Lot___len__ (self : LotT) : TF (f_Lot___len__ [toD self]) (p_Lot___len__ self) (fun v => .ok .nw (toD v)) := by
  unfold f_Lot___len__ c_Lot___len__ p_Lot___len__
  refine TF_of rfl ?_
  exact K_ret (E1 (E1 (rfl : xVar 0 _ = some (.v .od (toD (α := LotT) (self)))) t_Lot__members) t_len) (.inr rfl) rfl
noncomputable def p_Lot___contains__ (self : LotT) (number : Int) : R Bool :=
  gd (0 < self.n) <|
  .ok (decide ((number % self.n) ∈ self.ms))
theorem q_Lot___contains__ (self : LotT) (number : Int) : TF (f_Lot___contains__ [toD self, toD number]) (p_Lot___contains__ self number) (fun v => .ok .nw (toD v)) := by
  unfold f_Lot___contains__ c_Lot___contains__ p_Lot___contains__
  refine TF_of rfl ?_
  refine K_gd fun h295 => ?_
  exact K_ret (E2 (E2 (rfl : xVar 1 _ = some (.v .nw (toD (α := Int) (number)))) (E1 (rfl : xVar 0 _ = some (.v .od (toD (α := LotT) (self)))) t_Lot_modulus) (t_mod h295)) (E1 (rfl : xVar 0 _ = some (.v .od (toD (α := LotT) (self)))) t_Lot__members) t_ini) (.inr rfl) rfl
noncomputable def p_l_is_lot_b1 (lot : LotT) (n' : Int) (due_274 : (List Int)) (number_294 : Int) (s293 : Unit) : R (L (Unit) Bool) :=
  R.bind (p_Lot___contains__ lot number_294) fun v296 =>
  gd (0 < n') <|
  R.bind (sameR (toD (α := Bool) (v296)) (toD (α := Bool) ((decide ((number_294 % n') ∈ due_274))))) fun v299 =>
  (if (!v299) = true then
  (.ok (.rt false))
  else
  (.ok (.go ())))
noncomputable def p_l_is_lot (lot : LotT) (n' : Int) (members : (List Int)) : R Bool :=
  R.bind ((if (!true) = true then .ok true else (R.bind (sameR (toD (α := Int) (lot.n)) (toD (α := Int) (n'))) fun v266 => .ok (!v266)))) fun b268 =>
  (if b268 = true then
  (.ok false)
  else
  (gd ((members).length ≤ sizeLine) <|
  gd (∀ x270 ∈ members, 0 < n') <|
  lt (sortI (List.map (fun x270 : Int => (x270 % n')) members)) fun due_274 =>
  R.bind (R.nx (p_Lot_members lot)) fun v275 =>
  R.bind (sameR (toD (α := (List Int)) (v275)) (toD (α := (List Int)) (due_274))) fun v277 =>
  R.bind ((if (!v277) = true then .ok true else (R.bind (R.bind (R.nx (p_Lot___len__ lot)) fun n => gd (0 ≤ n ∧ n ≤ sizeLine) (.ok lot.ms)) fun v279 => R.bind (sameR (toD (α := (List Int)) (v279)) (toD (α := (List Int)) (due_274))) fun v281 => R.bind ((if (!v281) = true then .ok true else (R.bind (R.bind (p_Lot___len__ lot) fun n => gd (0 ≤ n ∧ n < 2 ^ 63) (.ok n)) fun v283 => R.bind (sameR (toD (α := Int) (v283)) (toD (α := Int) (((due_274).length : Int)))) fun v285 => .ok (!v285)))) fun b287 => .ok b287))) fun b289 =>
  (if b289 = true then
  (.ok false)
  else
  (gd (IxOk due_274 (0 : Int)) <|
  gd (IxOk due_274 (-1 : Int)) <|
  R.bind (forL (p_l_is_lot_b1 lot n' due_274) ([(0 : Int), (n' - (1 : Int)), (ixL due_274 (0 : Int)), ((ixL due_274 (-1 : Int)) - n')] : List Int) ()) fun z => match z with | .rt t => .ok t | .fin s293 => (.ok true)))))
theorem q_l_is_lot (lot : LotT) (n' : Int) (members : (List Int)) : TF (f_l_is_lot [toD lot, toD n', toD members]) (p_l_is_lot lot n' members) (fun v => .ok .nw (toD v)) := by
  unfold f_l_is_lot c_l_is_lot p_l_is_lot
  refine TF_of rfl ?_
  refine K_atom (TE_or (Enot (asEV (.v .nw (toD true)) (E1 (rfl : xVar 0 _ = some (.v .od (toD (α := LotT) (lot)))) t_isLot))) fun hA => (TE_atom (TE_call (f := fun v => .v .nw (toD v)) (A1 (E1 (rfl : xVar 0 _ = some (.v .od (toD (α := LotT) (lot)))) t_Lot_modulus) (A1 (rfl : xVar 1 _ = some (.v .nw (toD (α := Int) (n')))) A0)) (q_l_same (toD (α := Int) (lot.n)) (toD (α := Int) (n'))) (fun v => (aft_ok ⟨rfl, .inl nm_nw⟩).trans (by rw [nm_nw]))) (fun v266 h267 => TE_ok (Eone (Enot h267))) (fun x hx => (Eonex (Enotx hx))))) (fun b268 h269 => ?_) (fun x hx => ⟨_, x_if hx, trivial⟩)
  refine K_if h269 (fun hA => ?_) (fun hA => ?_)
  · exact K_ret (rfl : xC (.bl false) _ = some (.v .nw (toD false))) (.inr rfl) rfl
  · refine K_out ?_
    refine K_gd fun h271 => ?_
    refine K_gd fun h273 => ?_
    refine K_setnl (E1n (Elc (h := fun x270 : Int => ((x270 % n') : Int)) rfl (I_v (rfl : xVar 2 _ = some (.v .od (toD (α := (List Int)) (members)))) rfl) h271 fun x270 hm => have h272 := h273 x270 hm; ⟨_, (b_nm (.inl rfl)), _, (E1 (E2 (E1 (rfl : xVar 5 _ = some (.v .nw (toD (α := Int) (x270)))) t_inti) (rfl : xVar 1 _ = some (.v .nw (toD (α := Int) (n')))) (t_mod h272)) t_inti), by first | rfl | exact nm_nw⟩) t_sorted) fun due_274 => ?_
    refine K_atom (TE_call (f := fun v => .n .nw (.lst (v.map toD))) (A1 (rfl : xVar 0 _ = some (.v .od (toD (α := LotT) (lot)))) A0) (TL_prop (q_Lot_members lot) (fun _ _ h => by cases h)) (fun v => aft_new ⟨rfl, .inl rfl⟩)) (fun v275 h276 => ?_) (fun x hx => ⟨_, x_if (Eorx (Enotx (Ecallx (Ax hx)))), trivial⟩)
    refine K_atom (TE_call (f := fun v => .v .nw (toD v)) (A1n h276 (A1 (rfl : xVar 3 _ = some (.v .tn (toD (α := (List Int)) (due_274)))) A0)) (q_l_same (toD (α := (List Int)) (v275)) (toD (α := (List Int)) (due_274))) (fun v => (aft_ok ⟨rfl, .inl nm_nw⟩).trans (by rw [nm_nw]))) (fun v277 h278 => ?_) (fun x hx => ⟨_, x_if (Eorx (Enotx hx)), trivial⟩)
    refine K_atom (TE_or (Enot h278) fun hA => (TE_atom (TL_list (rfl : xVar 0 _ = some (.v .od (toD (α := LotT) (lot)))) (q_Lot___len__ lot)) (fun v279 h280 => TE_atom (TE_call (f := fun v => .v .nw (toD v)) (A1n h280 (A1 (rfl : xVar 3 _ = some (.v .tn (toD (α := (List Int)) (due_274)))) A0)) (q_l_same (toD (α := (List Int)) (v279)) (toD (α := (List Int)) (due_274))) (fun v => (aft_ok ⟨rfl, .inl nm_nw⟩).trans (by rw [nm_nw]))) (fun v281 h282 => TE_atom (TE_or (Enot h282) fun hA => (TE_atom (TE_call (f := fun v => .v .nw (toD v)) (A1 (rfl : xVar 0 _ = some (.v .od (toD (α := LotT) (lot)))) A0) (TL_len (q_Lot___len__ lot)) (fun v => (aft_ok ⟨rfl, .inl nm_nw⟩).trans (by rw [nm_nw]))) (fun v283 h284 => TE_atom (TE_call (f := fun v => .v .nw (toD v)) (A1 h284 (A1 (E1 (rfl : xVar 3 _ = some (.v .tn (toD (α := (List Int)) (due_274)))) t_len) A0)) (q_l_same (toD (α := Int) (v283)) (toD (α := Int) (((due_274).length : Int)))) (fun v => (aft_ok ⟨rfl, .inl nm_nw⟩).trans (by rw [nm_nw]))) (fun v285 h286 => TE_ok (Eone (Enot h286))) (fun x hx => (Eonex (Enotx hx)))) (fun x hx => (Eonex (Enotx (Ecallx (Ax hx))))))) (fun b287 h288 => TE_ok h288) (fun x hx => hx)) (fun x hx => (Eorx (Enotx hx)))) (fun x hx => (Eorx (Enotx (Ecallx (Ax hx))))))) (fun b289 h290 => ?_) (fun x hx => ⟨_, x_if hx, trivial⟩)
    refine K_if h290 (fun hA => ?_) (fun hA => ?_)
    · exact K_ret (rfl : xC (.bl false) _ = some (.v .nw (toD false))) (.inr rfl) rfl
    · refine K_out ?_
      refine K_fgt ?_
      refine K_gd fun h291 => ?_
      refine K_gd fun h292 => ?_
      refine K_forL (T := Bool) (Q := (Rt (fun v => .ok .nw (toD v)))) (en := toD (α := Int)) (fun s293 : Unit => [.v .od (toD (α := LotT) (lot)), .v .nw (toD (α := Int) (n')), .v .od (toD (α := (List Int)) (members)), .own .nw (.lst (List.map (toD (α := Int)) (due_274))), .no, .no]) (I_n (asEV (.n .nw (.lst (List.map toD ([(0 : Int), (n' - (1 : Int)), (ixL due_274 (0 : Int)), ((ixL due_274 (-1 : Int)) - n')] : List Int)))) (Elst (A1 (rfl : xC (.int 0) _ = some (.v .nw (toD (0 : Int)))) (A1 (E2 (rfl : xVar 1 _ = some (.v .nw (toD (α := Int) (n')))) (rfl : xC (.int 1) _ = some (.v .nw (toD (1 : Int)))) t_sub) (A1 (E2 (rfl : xVar 3 _ = some (.v .tn (toD (α := (List Int)) (due_274)))) (rfl : xC (.int 0) _ = some (.v .nw (toD (0 : Int)))) (t_ix h291)) (A1 (E2 (E2 (rfl : xVar 3 _ = some (.v .tn (toD (α := (List Int)) (due_274)))) (E1 (rfl : xC (.int 1) _ = some (.v .nw (toD (1 : Int)))) t_neg) (t_ix h292)) (rfl : xVar 1 _ = some (.v .nw (toD (α := Int) (n')))) t_sub) A0)))) (by first | rfl | simp [nm_nw]) rfl))) rfl (fun number_294 s293 => ⟨_, (b_nm (.inl rfl)), ?_⟩) (fun s293 => ?_) (fun t u hq hu => TK_rt hq)
      · unfold p_l_is_lot_b1
        refine K_atom (TE_call (f := fun v => .v .nw (toD v)) (A1 (rfl : xVar 4 _ = some (.v .nw (toD (α := Int) (number_294)))) (A1 (rfl : xVar 0 _ = some (.v .od (toD (α := LotT) (lot)))) A0)) (TL_in (q_Lot___contains__ lot number_294)) (fun v => (aft_ok ⟨rfl, .inl nm_nw⟩).trans (by rw [nm_nw]))) (fun v296 h297 => ?_) (fun x hx => ⟨_, x_if (Enotx (Ecallx (Ax hx))), trivial⟩)
        refine K_gd fun h298 => ?_
        refine K_atom (TE_call (f := fun v => .v .nw (toD v)) (A1 h297 (A1 (E2 (E2 (E1 (rfl : xVar 4 _ = some (.v .nw (toD (α := Int) (number_294)))) t_inti) (rfl : xVar 1 _ = some (.v .nw (toD (α := Int) (n')))) (t_mod h298)) (rfl : xVar 3 _ = some (.v .tn (toD (α := (List Int)) (due_274)))) t_ini) A0)) (q_l_same (toD (α := Bool) (v296)) (toD (α := Bool) ((decide ((number_294 % n') ∈ due_274))))) (fun v => (aft_ok ⟨rfl, .inl nm_nw⟩).trans (by rw [nm_nw]))) (fun v299 h300 => ?_) (fun x hx => ⟨_, x_if (Enotx hx), trivial⟩)
        refine K_if (Enot h300) (fun hA => ?_) (fun hA => ?_)
        · exact K_ret (rfl : xC (.bl false) _ = some (.v .nw (toD false))) (.inr rfl) ⟨rfl, rfl⟩
        · refine K_out ?_
          refine K_fgt ?_
          exact K_end (.inl rfl)
      exact K_ret (rfl : xC (.bl true) _ = some (.v .nw (toD true))) (.inr rfl) rfl
noncomputable def p_law_b1 (v32 : Int) (v86 : (List Int)) (v121 : LotT) (v176 : Int) (products_182 : (List Int)) (v195 : (Str × Int)) (side_198 : Int) (s197 : Unit) : R (L (Unit) Bool) :=
  R.bind (p_l_times v121 v176 side_198) fun v260 =>
  R.bind (sameR (toD (α := (Str × D)) (v260.1)) (toD (α := (Str × Int)) (v195))) fun v262 =>
  (if (!v262) = true then
  (.ok (.rt false))
  else
  (gd (StrOk v195.1 ("none" : Str)) <|
  R.bind ((if (decide (v195.1 = ("none" : Str))) = true then (gd (v260.2 = toD (asLot v260.2)) (R.bind (p_l_is_lot (asLot v260.2) v32 products_182) fun v301 => .ok (!v301))) else .ok false)) fun b303 =>
  (if b303 = true then
  (.ok (.rt false))
  else
  (R.bind (p_l_is_lot v121 v32 v86) fun v305 =>
  (if (!v305) = true then
  (.ok (.rt false))
  else
  (.ok (.go ())))))))
noncomputable def p_law (script : Scr) : R Bool :=
  R.bind (p_l_cell script (0 : Int)) fun v5 =>
  R.bind (p_l_modulus v5 (12 : Int) (1000 : Int)) fun v32 =>
  R.bind (p_l_residues script (1 : Int) (20 : Int) v32) fun v86 =>
  R.bind (p_l_cell script (2 : Int)) fun v88 =>
  R.bind (p_l_handed v88 v32 v86) fun v109 =>
  R.bind (pLot p_p_first_repeated v32 v109) fun v121 =>
  R.bind (p_l_factor script v32) fun v176 =>
  gd ((v86).length ≤ sizeLine) <|
  gd (∀ x178 ∈ v86, TimesOk x178 v176) <|
  lt (List.map (fun x178 : Int => (x178 * v176)) v86) fun products_182 =>
  R.bind (p_l_twice v32 products_182) fun v195 =>
  R.bind (forL (p_law_b1 v32 v86 v121 v176 products_182 v195) ([(0 : Int), (1 : Int), (0 : Int)] : List Int) ()) fun z => match z with | .rt t => .ok t | .fin s197 => (.ok true)
theorem q_law (script : Scr) : TF (f_law [toD script]) (p_law script) (fun v => .ok .nw (toD v)) := by
  unfold f_law c_law p_law
  refine TF_of rfl ?_
  refine K_atom (TE_call (f := fun v => .v .nw (toD v)) (A1 (rfl : xVar 0 _ = some (.v .od (toD (α := Scr) (script)))) (A1 (rfl : xC (.int 0) _ = some (.v .nw (toD (0 : Int)))) A0)) (q_l_cell script (0 : Int)) (fun v => (aft_ok ⟨rfl, .inl nm_nw⟩).trans (by rw [nm_nw]))) (fun v5 h6 => ?_) (fun x hx => ⟨_, x_set (Ecallx (Ax hx)), trivial⟩)
  refine K_atom (TE_call (f := fun v => .v .nw (toD v)) (A1 h6 (A1 (rfl : xC (.int 12) _ = some (.v .nw (toD (12 : Int)))) (A1 (rfl : xC (.int 1000) _ = some (.v .nw (toD (1000 : Int)))) A0))) (q_l_modulus v5 (12 : Int) (1000 : Int)) (fun v => (aft_ok ⟨rfl, .inl nm_nw⟩).trans (by rw [nm_nw]))) (fun v32 h33 => ?_) (fun x hx => ⟨_, x_set hx, trivial⟩)
  refine K_set h33 (.inr rfl) ?_
  refine K_atom (TE_call (f := fun v => .n .nw (.lst (v.map toD))) (A1 (rfl : xVar 0 _ = some (.v .od (toD (α := Scr) (script)))) (A1 (rfl : xC (.int 1) _ = some (.v .nw (toD (1 : Int)))) (A1 (rfl : xC (.int 20) _ = some (.v .nw (toD (20 : Int)))) (A1 (rfl : xVar 1 _ = some (.v .nw (toD (α := Int) (v32)))) A0)))) (q_l_residues script (1 : Int) (20 : Int) v32) (fun v => aft_new ⟨rfl, .inl rfl⟩)) (fun v86 h87 => ?_) (fun x hx => ⟨_, x_set hx, trivial⟩)
  refine K_setn h87 ?_
  refine K_atom (TE_call (f := fun v => .v .nw (toD v)) (A1 (rfl : xVar 0 _ = some (.v .od (toD (α := Scr) (script)))) (A1 (rfl : xC (.int 2) _ = some (.v .nw (toD (2 : Int)))) A0)) (q_l_cell script (2 : Int)) (fun v => (aft_ok ⟨rfl, .inl nm_nw⟩).trans (by rw [nm_nw]))) (fun v88 h89 => ?_) (fun x hx => ⟨_, x_set (Efzx (Ecallx (Axs (rfl : xVar 1 _ = some (.v .nw (toD (α := Int) (v32)))) (Ax (Ecallx (Ax hx)))))), trivial⟩)
  refine K_atom (TE_call (f := fun v => .n .nw (.lst (v.map toD))) (A1 h89 (A1 (rfl : xVar 1 _ = some (.v .nw (toD (α := Int) (v32)))) (A1 (rfl : xVar 2 _ = some (.v .tn (toD (α := (List Int)) (v86)))) A0))) (q_l_handed v88 v32 v86) (fun v => aft_new ⟨rfl, .inl rfl⟩)) (fun v109 h110 => ?_) (fun x hx => ⟨_, x_set (Efzx (Ecallx (Axs (rfl : xVar 1 _ = some (.v .nw (toD (α := Int) (v32)))) (Ax hx)))), trivial⟩)
  refine K_atom (TE_fz (TE_call (f := fun v => .n .nw (ctLot v)) (A1 (rfl : xVar 1 _ = some (.v .nw (toD (α := Int) (v32)))) (A1n h110 A0)) (TF_noOk (q_Lot_init (fun l => q_p_first_repeated l) v32 v109) (fun _ _ _ h => by cases h)) (fun v => aft_new ⟨rfl, .inl rfl⟩))) (fun v121 h122 => ?_) (fun x hx => ⟨_, x_set hx, trivial⟩)
  refine K_set h122 (.inl rfl) ?_
  refine K_atom (TE_call (f := fun v => .v .nw (toD v)) (A1 (rfl : xVar 0 _ = some (.v .od (toD (α := Scr) (script)))) (A1 (rfl : xVar 1 _ = some (.v .nw (toD (α := Int) (v32)))) A0)) (q_l_factor script v32) (fun v => (aft_ok ⟨rfl, .inl nm_nw⟩).trans (by rw [nm_nw]))) (fun v176 h177 => ?_) (fun x hx => ⟨_, x_set hx, trivial⟩)
  refine K_set h177 (.inr rfl) ?_
  refine K_frzo rfl ?_
  refine K_gd fun h179 => ?_
  refine K_gd fun h181 => ?_
  refine K_setnl (Elc (h := fun x178 : Int => ((x178 * v176) : Int)) rfl (I_v (rfl : xVar 2 _ = some (.v .nw (toD (α := (List Int)) (v86)))) rfl) h179 fun x178 hm => have h180 := h181 x178 hm; ⟨_, (b_nm (.inl rfl)), _, (E2 (rfl : xVar 9 _ = some (.v .nw (toD (α := Int) (x178)))) (rfl : xVar 4 _ = some (.v .nw (toD (α := Int) (v176)))) (t_mul h180)), by first | rfl | exact nm_nw⟩) fun products_182 => ?_
  refine K_atom (TE_call (f := fun v => .v .nw (toD v)) (A1 (rfl : xVar 1 _ = some (.v .nw (toD (α := Int) (v32)))) (A1 (rfl : xVar 5 _ = some (.v .tn (toD (α := (List Int)) (products_182)))) A0)) (q_l_twice v32 products_182) (fun v => (aft_ok ⟨rfl, .inl nm_nw⟩).trans (by rw [nm_nw]))) (fun v195 h196 => ?_) (fun x hx => ⟨_, x_set hx, trivial⟩)
  refine K_set h196 (.inl rfl) ?_
  refine K_fgt ?_
  refine K_fgt ?_
  refine K_forL (T := Bool) (Q := (Rt (fun v => .ok .nw (toD v)))) (en := toD (α := Int)) (fun s197 : Unit => [.v .od (toD (α := Scr) (script)), .v .nw (toD (α := Int) (v32)), .v .nw (toD (α := (List Int)) (v86)), .v .nw (toD (α := LotT) (v121)), .v .nw (toD (α := Int) (v176)), .own .nw (.lst (List.map (toD (α := Int)) (products_182))), .v .nw (toD (α := (Str × Int)) (v195)), .no, .no, .no]) (I_n (asEV (.n .nw (.lst (List.map toD ([(0 : Int), (1 : Int), (0 : Int)] : List Int)))) (Elst (A1 (rfl : xC (.int 0) _ = some (.v .nw (toD (0 : Int)))) (A1 (rfl : xC (.int 1) _ = some (.v .nw (toD (1 : Int)))) (A1 (rfl : xC (.int 0) _ = some (.v .nw (toD (0 : Int)))) A0))) (by first | rfl | simp [nm_nw]) rfl))) rfl (fun side_198 s197 => ⟨_, (b_nm (.inl rfl)), ?_⟩) (fun s197 => ?_) (fun t u hq hu => TK_rt hq)
  · unfold p_law_b1
    refine K_atom (TE_call (f := fun v => .v .nw (toD v)) (A1 (rfl : xVar 3 _ = some (.v .nw (toD (α := LotT) (v121)))) (A1 (rfl : xVar 4 _ = some (.v .nw (toD (α := Int) (v176)))) (A1 (rfl : xVar 7 _ = some (.v .nw (toD (α := Int) (side_198)))) A0))) (q_l_times v121 v176 side_198) (fun v => (aft_ok ⟨rfl, .inl nm_nw⟩).trans (by rw [nm_nw]))) (fun v260 h261 => ?_) (fun x hx => ⟨_, x_set hx, trivial⟩)
    refine K_set h261 (.inl rfl) ?_
    refine K_atom (TE_call (f := fun v => .v .nw (toD v)) (A1 (E2 (rfl : xVar 8 _ = some (.v .nw (toD (α := ((Str × D) × D)) (v260)))) (rfl : xC (.int 0) _ = some (.v .nw (toD (0 : Int)))) t_ix0) (A1 (rfl : xVar 6 _ = some (.v .nw (toD (α := (Str × Int)) (v195)))) A0)) (q_l_same (toD (α := (Str × D)) (v260.1)) (toD (α := (Str × Int)) (v195))) (fun v => (aft_ok ⟨rfl, .inl nm_nw⟩).trans (by rw [nm_nw]))) (fun v262 h263 => ?_) (fun x hx => ⟨_, x_if (Enotx hx), trivial⟩)
    refine K_if (Enot h263) (fun hA => ?_) (fun hA => ?_)
    · exact K_ret (rfl : xC (.bl false) _ = some (.v .nw (toD false))) (.inr rfl) ⟨rfl, rfl⟩
    · refine K_out ?_
      refine K_gd fun h264 => ?_
      refine K_atom (TE_and (E2 (E2 (rfl : xVar 6 _ = some (.v .nw (toD (α := (Str × Int)) (v195)))) (rfl : xC (.int 0) _ = some (.v .nw (toD (0 : Int)))) t_ix0) (rfl : xC (.str "none") _ = some (.v .nw (toD ("none" : Str)))) (t_eqS h264)) fun hA => (TE_gd fun h265 => TE_atom (TE_call (f := fun v => .v .nw (toD v)) (A1 (E_as (E2 (rfl : xVar 8 _ = some (.v .nw (toD (α := ((Str × D) × D)) (v260)))) (rfl : xC (.int 1) _ = some (.v .nw (toD (1 : Int)))) t_ix1) h265) (A1 (rfl : xVar 1 _ = some (.v .nw (toD (α := Int) (v32)))) (A1 (rfl : xVar 5 _ = some (.v .tn (toD (α := (List Int)) (products_182)))) A0))) (q_l_is_lot (asLot v260.2) v32 products_182) (fun v => (aft_ok ⟨rfl, .inl nm_nw⟩).trans (by rw [nm_nw]))) (fun v301 h302 => TE_ok (Eone (Enot h302))) (fun x hx => (Eonex (Enotx hx))))) (fun b303 h304 => ?_) (fun x hx => ⟨_, x_if hx, trivial⟩)
      refine K_if h304 (fun hA => ?_) (fun hA => ?_)
      · exact K_ret (rfl : xC (.bl false) _ = some (.v .nw (toD false))) (.inr rfl) ⟨rfl, rfl⟩
      · refine K_out ?_
        refine K_atom (TE_call (f := fun v => .v .nw (toD v)) (A1 (rfl : xVar 3 _ = some (.v .nw (toD (α := LotT) (v121)))) (A1 (rfl : xVar 1 _ = some (.v .nw (toD (α := Int) (v32)))) (A1 (rfl : xVar 2 _ = some (.v .nw (toD (α := (List Int)) (v86)))) A0))) (q_l_is_lot v121 v32 v86) (fun v => (aft_ok ⟨rfl, .inl nm_nw⟩).trans (by rw [nm_nw]))) (fun v305 h306 => ?_) (fun x hx => ⟨_, x_if (Enotx hx), trivial⟩)
        refine K_if (Enot h306) (fun hA => ?_) (fun hA => ?_)
        · exact K_ret (rfl : xC (.bl false) _ = some (.v .nw (toD false))) (.inr rfl) ⟨rfl, rfl⟩
        · refine K_out ?_
          refine K_fgt ?_
          refine K_fgt ?_
          exact K_end (.inl rfl)
  exact K_ret (rfl : xC (.bl true) _ = some (.v .nw (toD true))) (.inr rfl) rfl
end K12

set_option Elab.async false
set_option linter.all false
set_option maxHeartbeats 1000000
namespace K12
open PySem PySem.Spec PyProof.Rows L2 VL
theorem e_cell : p_l_cell = gCell := rfl
theorem e_draws : p_l_draws = gDraws := rfl
theorem e_integer : p_l_integer = gInteger := rfl
theorem e_modulus : p_l_modulus = gModulus := rfl
theorem e_residues : p_l_residues = gResidues := rfl
theorem e_handed : p_l_handed = gHanded := rfl
theorem e_first : p_p_first_repeated = gFirst := rfl
theorem e_resof : p_p_residues_of = gResOf := rfl
theorem e_twice : p_l_twice = gTwice := rfl
theorem e_is : p_l_is_lot = gLIsLot := rfl
theorem e_gcd : p_l_gcd = gLGcd := rfl
theorem cop_loop (s n : Int) (hn : n.natAbs < 2 ^ 250) : ∀ ts : List Int, (∀ t ∈ ts, 0 ≤ t ∧ t < n) → (∃ t, 0 ≤ t ∧ t < n ∧ forL (p_l_coprime_b1 s n) ts () = .ok (.rt (s + t))) ∨ forL (p_l_coprime_b1 s n) ts () = .ok (.fin ())
  | [], _ => .inr rfl
  | t :: ts, h => by
    have ht := h t List.mem_cons_self
    rw [forL_cons]
    unfold p_l_coprime_b1
    rw [e_gcd, gGcd_ok _ _ hn, R.ok_bind]
    split
    · exact .inl ⟨t, ht.1, ht.2, rfl⟩
    · exact cop_loop s n hn ts fun x hx => h x (List.mem_cons_of_mem _ hx)
theorem cop_ok (s n : Int) (hn : 1 ≤ n ∧ n ≤ 1000) : ∃ z, p_l_coprime s n = .ok z ∧ (z = 1 ∨ (s ≤ z ∧ z < s + n)) := by
  unfold p_l_coprime
  rw [gd_t (RgOk_of (by omega))]
  rcases cop_loop s n (by omega) (range1 n) (fun t ht => range1_mem.mp ht) with ⟨t, h1, h2, h3⟩ | h
  · rw [h3]; exact ⟨_, rfl, .inr (by omega)⟩
  · rw [h]; exact ⟨_, rfl, .inl rfl⟩
theorem factor_ok (s : Scr) (n : Int) (hn : 1 ≤ n ∧ n ≤ 1000) : ∃ t, p_l_factor s n = .ok t ∧ t.natAbs < 2 ^ 240 := by
  unfold p_l_factor
  rw [e_cell, e_draws, e_integer]
  obtain ⟨v, a1⟩ := gCell_ok s 3 (by decide)
  obtain ⟨w, a2⟩ := gCell_ok s 4 (by decide)
  obtain ⟨x, y, a3, hx, hy⟩ := d2 v 8 n (by decide) (by omega)
  rw [a1, R.ok_bind, a3, R.ok_bind, gd_t (show ([x, y] : List Int).length = 2 from rfl), ixL_0, ixL_1, a2]
  simp only [R.ok_bind]
  obtain ⟨z, a4, h4⟩ := gInteger_ok w 100000000000000000000000000000000000000000000000000000000 (by decide)
  obtain ⟨u, a5, h5⟩ := gInteger_ok w ((1000000000000000000000000000000000000000000000000000000000000 : Int) - 1) (by decide)
  have hz : n * z ≤ 1000 * 100000000000000000000000000000000000000000000000000000000 ∧ -(1000 * 100000000000000000000000000000000000000000000000000000000) ≤ n * z := by
    have e1 : n * z ≤ n * 100000000000000000000000000000000000000000000000000000000 := Int.mul_le_mul_of_nonneg_left h4.2 (by omega)
    have e2 : n * (-100000000000000000000000000000000000000000000000000000000) ≤ n * z := Int.mul_le_mul_of_nonneg_left h4.1 (by omega)
    omega
  split
  · obtain ⟨c, a6, h6⟩ := cop_ok y n hn
    rw [a6, R.ok_bind, a4, R.ok_bind, gd_t (times_ok (by omega) (by omega))]
    exact ⟨_, rfl, by omega⟩
  · split
    · exact ⟨_, rfl, by decide⟩
    · split
      · rw [a4, R.ok_bind, gd_t (times_ok (by omega) (by omega))]
        exact ⟨_, rfl, by omega⟩
      · rw [a5, R.ok_bind]
        exact ⟨_, rfl, by omega⟩
section
variable {n t : Int} {l : List Int}
theorem mul_ok (hn : 1 ≤ n ∧ n ≤ 1000) (hl : Rs n l) (ht : t.natAbs < 2 ^ 240) : p_Lot___mul__ ⟨n, sortI l⟩ t = (match fd (sortI (rsd n (l.map fun x => x * t))) with | some r => .ex ⟨"Clash", ["residue"], [.int r]⟩ | none => .ok (lotOf n (l.map fun x => x * t))) := by
  have hle := hl.le (by omega)
  have hne := hl.ne
  have hlen : (sortI l).length = l.length := (sortI_perm _).length_eq
  have pm : ((sortI l).map fun x => x * t).Perm (l.map fun x => x * t) := (sortI_perm l).map _
  have e1 : sortI (rsd n ((sortI l).map fun x => x * t)) = sortI (rsd n (l.map fun x => x * t)) := sortI_congr (pm.map _)
  unfold p_Lot___mul__
  rw [gd_t (szL (by show (sortI l).length < _; omega)), gd_t (fun x hx => by
    have := hl.rg x ((sortI_perm l).mem_iff.mp hx)
    exact times_ok (by omega) (by omega)), e_resof, e_first]
  have := resLot_ok (n := n) (l := (sortI l).map fun x => x * t) hn (by rw [List.length_map]; omega)
  unfold lotOf at this ⊢
  rw [e1] at this
  exact this
theorem turn_ok (hn : 1 ≤ n ∧ n ≤ 1000) (hl : Rs n l) (ht : t.natAbs < 2 ^ 240) (side : Int) : p_law_b1 n l ⟨n, sortI l⟩ t (l.map fun x => x * t) (dueC n (l.map fun x => x * t)) side () = .ok (.go ()) := by
  have hle := hl.le (by omega)
  have hne := hl.ne
  obtain ⟨nu, er⟩ := hl.nu hn
  have eL : (⟨n, sortI l⟩ : LotT) = lotOf n l := by unfold lotOf; rw [er]
  have hm := mul_ok hn hl ht
  have hq : (if decide (side = (0 : Int)) = true then (R.bind (p_Lot___mul__ ⟨n, sortI l⟩ t) fun v253 => .ok v253) else (R.bind (p_Lot___rmul__ ⟨n, sortI l⟩ t) fun v255 => R.ok v255)) = (match fd (sortI (rsd n (l.map fun x => x * t))) with | some r => .ex ⟨"Clash", ["residue"], [.int r]⟩ | none => .ok (lotOf n (l.map fun x => x * t))) := by
    rw [show p_Lot___rmul__ = p_Lot___mul__ from rfl, hm]
    cases fd (sortI (rsd n (l.map fun x => x * t))) <;> split <;> rfl
  unfold p_law_b1 p_l_times dueC
  rw [lt_ap, hq, e_is]
  cases e : fd (sortI (rsd n (l.map fun x => x * t))) with
  | some r =>
    simp only [tryR_ex]
    rw [show tk_Clash "Clash" = some true by decide +kernel, clauseR_t, gd_t ⟨rfl, by simp⟩, gd_t ⟨.int r, rfl, rfl⟩, R.ok_bind]
    have s1 : sameR (toD (α := Str × D) ("Clash", toD r)) (toD (α := Str × Int) ("Clash", r)) = .ok true := sameR_of rfl (okS_pair sok_clash trivial)
    simp only
    rw [show (xFld ⟨"Clash", ["residue"], [.int r]⟩ "residue") = toD r from rfl, s1, R.ok_bind, if_neg (by decide), gd_t ⟨sok_clash, sok_none⟩, if_neg (by simpa using ne_clash), R.ok_bind, if_neg (by decide), eL, gIs_ok1 nu]
    rfl
  | none =>
    have s1 : sameR (toD (α := Str × D) ("none", toD (0 : Int))) (toD (α := Str × Int) ("none", 0)) = .ok true := sameR_of rfl (okS_pair sok_none trivial)
    have nu2 := fd_nu (l := l.map fun x => x * t) hn (by intro z; simp at z; subst z; simp at hne) e
    simp only [tryR_ok, R.ok_bind]
    rw [s1, R.ok_bind, if_neg (by decide), gd_t ⟨sok_none, sok_none⟩, if_pos (by decide), asLot_toD, gd_t rfl, gIs_ok1 nu2, R.ok_bind, R.ok_bind, if_neg (by decide), eL, gIs_ok1 nu]
    rfl
end
theorem p_law_ok (s : Scr) : p_law s = .ok true := by
  unfold p_law
  rw [e_cell, e_modulus, e_residues, e_handed, e_first, e_twice]
  obtain ⟨a, a1⟩ := gCell_ok s 0 (by decide)
  obtain ⟨n, a2, a3, a4⟩ := gModulus_ok a 12 1000 (by decide) (by decide)
  have hn : 1 ≤ n ∧ n ≤ 1000 := by omega
  obtain ⟨res, a5, hr⟩ := gResidues_rs s 1 20 n (by decide) (by decide) hn
  obtain ⟨nu, er⟩ := hr.nu hn
  obtain ⟨c, c1⟩ := gCell_ok s 2 (by decide)
  obtain ⟨h, c2, c3, c4⟩ := gHanded_ok c n res hn hr
  obtain ⟨nh, eh⟩ := nu.perm (k := h) (by rw [er]; exact c3)
  obtain ⟨t, d1, d2⟩ := factor_ok s n hn
  have hle := hr.le (by omega)
  have eL : lotOf n res = (⟨n, sortI res⟩ : LotT) := by unfold lotOf; rw [er]
  rw [a1, R.ok_bind, a2, R.ok_bind, a5, R.ok_bind, c1, R.ok_bind, c2, R.ok_bind, pLot_nu nh, eh, R.ok_bind, d1, R.ok_bind, gd_t (szL (by omega)), gd_t (fun x hx => by
    have := hr.rg x hx
    exact times_ok (by omega) (by omega)), lt_ap, twice_due n _ hn, R.ok_bind, eL]
  have hl : ∀ ts : List Int, forL (p_law_b1 n res ⟨n, sortI res⟩ t (res.map fun x => x * t) (dueC n (res.map fun x => x * t))) ts () = .ok (.fin ()) := fun ts => by
    induction ts with
    | nil => rfl
    | cons x ts ih => rw [forL_cons, turn_ok hn hr d2 x]; exact ih
  rw [hl]
  rfl
theorem math (ns : List Int) (_ : ns.length ≤ 63) (_ : ∀ z ∈ ns, Builtin.Int.intBits z ≤ 1048576) : f_law [.scr ns] = some (.ok .nw (.bl true)) := by
  have := TF_run (q_law ⟨ns⟩) (p_law_ok ⟨ns⟩)
  exact this
end K12

set_option Elab.async false
set_option linter.all false
set_option maxRecDepth 100000
set_option maxHeartbeats 4000000
namespace K12
open PySem PySem.Spec PyProof.Rows L2 VL
def top (i : Nat) : Stmt := PySem.Challenge.pw_twolots_k12_multiply.main.body.getD i (.Pass ⟨0, 0, 0, 0⟩)
abbrev N_l_cell : List Str := ["script", "k"]
theorem nd_l_cell : N_l_cell.Nodup := by decide +kernel
theorem sc_l_cell : FnScope N_l_cell ["script", "k"] (defScope (top 22)) := ⟨rfl, rfl, rfl, nd_l_cell, rfl, by decide +kernel, by decide +kernel⟩
theorem w_l_cell {W : Wd} [NB W]   : SndS ⟨W, N_l_cell, defScope (top 22), some 0, true⟩ (defBody (top 22)) c_l_cell :=
  (s_cons (s_if (t_cmp c_lt (e_var 1) (e_len (e_var 0))) (s_cons (s_ret (e_ix (e_var 0) (e_var 1))) s_nil) s_nil) (s_cons (s_if (t_cmp c_gt (e_len (e_var 0)) e_int) (s_cons (s_ret (e_add (e_mul (e_ix (e_var 0) (e_mod (e_intc (e_var 1)) (e_len (e_var 0)))) e_int) (e_var 1))) s_nil) s_nil) (s_cons (s_ret (e_pow e_int e_int)) s_nil)))
abbrev N_l_draws : List Str := ["cell", "limits", "row", "rest", "limit", "state", "square"]
theorem nd_l_draws : N_l_draws.Nodup := by decide +kernel
theorem sc_l_draws : FnScope N_l_draws ["cell", "limits"] (defScope (top 23)) := ⟨rfl, rfl, rfl, nd_l_draws, rfl, by decide +kernel, by decide +kernel⟩
theorem w_l_draws {W : Wd} [NB W]   : SndS ⟨W, N_l_draws, defScope (top 23), some 0, true⟩ (defBody (top 23)) c_l_draws :=
  (s_cons (s_set 2 (e_lst .nil) nd_l_draws) (s_cons (s_set 3 (e_abs (e_var 0)) nd_l_draws) (s_cons (s_if (t_cmp c_ge (e_var 3) (e_pow e_int e_int)) (s_cons (s_set 3 (e_sub (e_var 3) (e_pow e_int e_int)) nd_l_draws) (s_fgt 4 (s_cons (s_for (.nm 4) (g_nm 4 nd_l_draws) (i_seq (e_var 1)) (s_cons (s_app 2 (e_mod (e_intc (e_var 3)) (e_var 4))) (s_cons (s_set 3 (e_div (e_var 3) (e_var 4)) nd_l_draws) (s_fgt 4 s_nil)))) (s_cons (s_retV 2) s_nil)))) s_nil) (s_cons (s_set 5 (e_mod (e_intc (e_add (e_mul (e_var 3) e_int) (e_intc (e_cmp c_lt (e_var 0) e_int)))) e_int) nd_l_draws) (s_fgt 4 (s_fgt 6 (s_cons (s_for (.nm 4) (g_nm 4 nd_l_draws) (i_seq (e_var 1)) (s_cons (s_set 5 (e_mod (e_intc (e_add (e_mul (e_var 5) e_int) e_int)) e_int) nd_l_draws) (s_cons (s_set 6 (e_mod (e_intc (e_add (e_mul (e_var 5) (e_var 5)) e_int)) e_int) nd_l_draws) (s_cons (s_app 2 (e_mod (e_intc (e_div (e_var 6) e_int)) (e_var 4))) (s_fgt 4 (s_fgt 6 s_nil)))))) (s_cons (s_retV 2) s_nil))))))))
abbrev N_l_modulus : List Str := ["cell", "small", "great", "kind", "low", "high"]
theorem nd_l_modulus : N_l_modulus.Nodup := by decide +kernel
theorem sc_l_modulus : FnScope N_l_modulus ["cell", "small", "great"] (defScope (top 26)) := ⟨rfl, rfl, rfl, nd_l_modulus, rfl, by decide +kernel, by decide +kernel⟩
theorem w_l_modulus {W : Wd} [NB W]  (h__law_draws : Cl W 1 "_law_draws" f_l_draws) : SndS ⟨W, N_l_modulus, defScope (top 26), some 1, true⟩ (defBody (top 26)) c_l_modulus :=
  (s_cons (s_setL (gs_cons (g_nm 3 nd_l_modulus) (gs_cons (g_nm 4 nd_l_modulus) (gs_cons (g_nm 5 nd_l_modulus) gs_nil))) (e_call h__law_draws (.cons (e_var 0) (.cons (e_lst (.cons e_int (.cons (e_var 1) (.cons (e_var 2) .nil)))) .nil)))) (s_cons (s_if (t_cmp c_eq (e_var 3) e_int) (s_cons (s_ret (e_add e_int (e_var 5))) s_nil) s_nil) (s_cons (s_ret (e_add e_int (e_var 4))) s_nil)))
abbrev N_l_handed : List Str := ["cell", "n", "members", "turn", "back", "wide", "row", "k"]
theorem nd_l_handed : N_l_handed.Nodup := by decide +kernel
theorem sc_l_handed : FnScope N_l_handed ["cell", "n", "members"] (defScope (top 28)) := ⟨rfl, rfl, rfl, nd_l_handed, rfl, by decide +kernel, by decide +kernel⟩
theorem w_l_handed {W : Wd} [NB W]  (h__law_draws : Cl W 1 "_law_draws" f_l_draws) : SndS ⟨W, N_l_handed, defScope (top 28), some 1, true⟩ (defBody (top 28)) c_l_handed :=
  (s_cons (s_setL (gs_cons (g_nm 3 nd_l_handed) (gs_cons (g_nm 4 nd_l_handed) (gs_cons (g_nm 5 nd_l_handed) gs_nil))) (e_call h__law_draws (.cons (e_var 0) (.cons (e_lst (.cons (e_len (e_var 2)) (.cons e_int (.cons e_int .nil)))) .nil)))) (s_cons (s_set 6 (e_add (e_slL (e_var 2) (e_var 3)) (e_slH (e_var 2) (e_var 3))) nd_l_handed) (s_cons (s_if (t_cmp c_eq (e_var 4) e_int) (s_cons (s_set 6 (e_rev (e_var 6)) nd_l_handed) s_nil) s_nil) (s_cons (s_ret (e_lc [("k", 7)] (.nm 7) (g_nm 7 nd_l_handed) (i_range1 (e_len (e_var 6))) if0 (e_add (e_ix (e_var 6) (e_var 7)) (e_mul (e_mul (e_sub (e_mod (e_var 7) e_int) e_int) (e_var 1)) (e_var 5))) nd_l_handed (blk_ok (N := N_l_handed) (sc := defScope (top 28)) rfl (by decide +kernel) (by decide +kernel) (by decide +kernel) (by decide +kernel)))) s_nil))))
abbrev N_l_same : List Str := ["actual", "expected", "k"]
theorem nd_l_same : N_l_same.Nodup := by decide +kernel
theorem sc_l_same : FnScope N_l_same ["actual", "expected"] (defScope (top 29)) := ⟨rfl, rfl, rfl, nd_l_same, rfl, by decide +kernel, by decide +kernel⟩
theorem w_l_same {W : Wd} [NB W]  {G : List D → Option Res} {k : Nat}  (h__law_same : Cl W k "_law_same" G) (hk : 0 ≤ k) : SndS ⟨W, N_l_same, defScope (top 29), some k, true⟩ (defBody (top 29)) (c_l_same G) :=
  (s_cons (s_if (t_isN (e_var 1)) (s_cons (s_ret (e_isN (e_var 0))) s_nil) s_nil) (s_cons (s_if (t_isB (e_var 1)) (s_cons (s_ret (e_isB (e_var 0))) s_nil) s_nil) (s_cons (s_if (t_isB (e_var 1)) (s_cons (s_ret (e_isB (e_var 0))) s_nil) s_nil) (s_cons (s_if (t_val (e_isi (e_var 1))) (s_cons (s_ret (e_and (e_isi (e_var 0)) (e_and (e_not (e_isi (e_var 0))) (e_one (e_cmp c_eq (e_var 0) (e_var 1)))))) s_nil) s_nil) (s_cons (s_if (t_val (e_isi (e_var 1))) (s_cons (s_ret (e_and (e_isi (e_var 0)) (e_one (e_cmp c_eq (e_var 0) (e_var 1))))) s_nil) s_nil) (s_cons (s_if (t_w (w_and (t_val (e_isi (e_var 1))) (w_and1 (t_not (t_val (e_isi (e_var 0))))))) (s_cons (s_ret e_bl) s_nil) s_nil) (s_cons (s_if (t_w (w_and (t_val (e_isi (e_var 1))) (w_and1 (t_not (t_val (e_isi (e_var 0))))))) (s_cons (s_ret e_bl) s_nil) s_nil) (s_cons (s_if (t_cmp c_ne (e_len (e_var 0)) (e_len (e_var 1))) (s_cons (s_ret e_bl) s_nil) s_nil) (s_fgt 2 (s_cons (s_for (.nm 2) (g_nm 2 nd_l_same) (i_range1 (e_len (e_var 1))) (s_cons (s_if (t_not (t_val (e_call h__law_same (.cons (e_ix (e_var 0) (e_var 2)) (.cons (e_ix (e_var 1) (e_var 2)) .nil)) (hk := Nat.le_refl _)))) (s_cons (s_ret e_bl) s_nil) s_nil) (s_fgt 2 s_nil))) (s_cons (s_ret e_bl) s_nil)))))))))))
abbrev N_Lot_members : List Str := ["self"]
theorem nd_Lot_members : N_Lot_members.Nodup := by decide +kernel
theorem sc_Lot_members : FnScope N_Lot_members ["self"] (defScope (inClass (top 20) 5)) := ⟨rfl, rfl, rfl, nd_Lot_members, rfl, by decide +kernel, by decide +kernel⟩
theorem w_Lot_members {W : Wd} [NB W] {C_Lot : Addr} (F_Lot : ObF W "Lot" C_Lot) (n_Lot__members : L2.NoAttr W.K C_Lot "_members") : SndS ⟨W, N_Lot_members, defScope (inClass (top 20) 5), some 0, true⟩ (defBody (inClass (top 20) 5)) c_Lot_members :=
  (s_cons (s_ret (e_list (e_fld F_Lot n_Lot__members (e_var 0)))) s_nil)
abbrev N_Lot___len__ : List Str := ["self"]
theorem nd_Lot___len__ : N_Lot___len__.Nodup := by decide +kernel
theorem sc_Lot___len__ : FnScope N_Lot___len__ ["self"] (defScope (inClass (top 20) 9)) := ⟨rfl, rfl, rfl, nd_Lot___len__, rfl, by decide +kernel, by decide +kernel⟩
theorem w_Lot___len__ {W : Wd} [NB W] {C_Lot : Addr} (F_Lot : ObF W "Lot" C_Lot) (n_Lot__members : L2.NoAttr W.K C_Lot "_members") : SndS ⟨W, N_Lot___len__, defScope (inClass (top 20) 9), some 0, true⟩ (defBody (inClass (top 20) 9)) c_Lot___len__ :=
  (s_cons (s_ret (e_len (e_fld F_Lot n_Lot__members (e_var 0)))) s_nil)
abbrev N_Lot___iter__ : List Str := ["self"]
theorem nd_Lot___iter__ : N_Lot___iter__.Nodup := by decide +kernel
theorem sc_Lot___iter__ : FnScope N_Lot___iter__ ["self"] (defScope (inClass (top 20) 10)) := ⟨rfl, rfl, rfl, nd_Lot___iter__, rfl, by decide +kernel, by decide +kernel⟩
abbrev N_Lot___contains__ : List Str := ["self", "number"]
theorem nd_Lot___contains__ : N_Lot___contains__.Nodup := by decide +kernel
theorem sc_Lot___contains__ : FnScope N_Lot___contains__ ["self", "number"] (defScope (inClass (top 20) 11)) := ⟨rfl, rfl, rfl, nd_Lot___contains__, rfl, by decide +kernel, by decide +kernel⟩
theorem w_Lot___contains__ {W : Wd} [NB W] {C_Lot : Addr} (F_Lot : ObF W "Lot" C_Lot) (n_Lot__members : L2.NoAttr W.K C_Lot "_members") (n_Lot_modulus : L2.NoAttr W.K C_Lot "modulus") : SndS ⟨W, N_Lot___contains__, defScope (inClass (top 20) 11), some 0, true⟩ (defBody (inClass (top 20) 11)) c_Lot___contains__ :=
  (s_cons (s_ret (e_cmp c_in (e_mod (e_var 1) (e_fld F_Lot n_Lot_modulus (e_var 0))) (e_fld F_Lot n_Lot__members (e_var 0)))) s_nil)
abbrev N_l_is_lot : List Str := ["lot", "n", "members", "due", "number", "member"]
theorem nd_l_is_lot : N_l_is_lot.Nodup := by decide +kernel
theorem sc_l_is_lot : FnScope N_l_is_lot ["lot", "n", "members"] (defScope (top 30)) := ⟨rfl, rfl, rfl, nd_l_is_lot, rfl, by decide +kernel, by decide +kernel⟩
theorem w_l_is_lot {W : Wd} [NB W] {C_Lot A_Lot___contains__ A_Lot___iter__ A_Lot___len__ A_Lot_members P_Lot_members : Addr} (h__law_same : Cl W 13 "_law_same" (f_l_same 12)) (F_Lot : ObF W "Lot" C_Lot) (z_Lot : L2.IsF W.K C_Lot) (n_Lot_modulus : L2.NoAttr W.K C_Lot "modulus") (s_Lot___contains__ : PySem.W.findIn W.K (.ref C_Lot) "__contains__" = some (some (.ref A_Lot___contains__)) ∧ PySem.W.isFn W.K (.ref A_Lot___contains__) = true) (i_Lot___contains__ : Fd W 1 A_Lot___contains__ f_Lot___contains__) (s_Lot___iter__ : PySem.W.findIn W.K (.ref C_Lot) "__iter__" = some (some (.ref A_Lot___iter__)) ∧ PySem.W.isFn W.K (.ref A_Lot___iter__) = true) (t_Lot___iter__ : FdIt W 1 A_Lot___iter__ C_Lot "_members") (s_Lot___len__ : PySem.W.findIn W.K (.ref C_Lot) "__len__" = some (some (.ref A_Lot___len__)) ∧ PySem.W.isFn W.K (.ref A_Lot___len__) = true) (i_Lot___len__ : Fd W 1 A_Lot___len__ f_Lot___len__) (p_Lot_members : L2.PropOf W.K C_Lot "members" P_Lot_members A_Lot_members) (i_Lot_members : Fd W 1 A_Lot_members f_Lot_members) : SndS ⟨W, N_l_is_lot, defScope (top 30), some 13, true⟩ (defBody (top 30)) c_l_is_lot :=
  (s_cons (s_if (t_w (w_or (t_not (t_val (e_isC F_Lot z_Lot (e_var 0)))) (w_or1 (t_not (t_val (e_call h__law_same (.cons (e_fld F_Lot n_Lot_modulus (e_var 0)) (.cons (e_var 1) .nil)))))))) (s_cons (s_ret e_bl) s_nil) s_nil) (s_cons (s_set 3 (e_sorted (e_lc [("member", 5)] (.nm 5) (g_nm 5 nd_l_is_lot) (i_seq (e_var 2)) if0 (e_intc (e_mod (e_intc (e_var 5)) (e_var 1))) nd_l_is_lot (blk_ok (N := N_l_is_lot) (sc := defScope (top 30)) rfl (by decide +kernel) (by decide +kernel) (by decide +kernel) (by decide +kernel)))) nd_l_is_lot) (s_cons (s_if (t_w (w_or (t_not (t_val (e_call h__law_same (.cons (e_hd (hd_prop F_Lot p_Lot_members i_Lot_members) (.cons (e_var 0) .nil)) (.cons (e_var 3) .nil))))) (w_or (t_not (t_val (e_call h__law_same (.cons (e_listO F_Lot s_Lot___iter__.1 s_Lot___iter__.2 t_Lot___iter__ s_Lot___len__.1 s_Lot___len__.2 i_Lot___len__ (e_var 0)) (.cons (e_var 3) .nil))))) (w_or1 (t_not (t_val (e_call h__law_same (.cons (e_hd (hd_len F_Lot s_Lot___len__.1 s_Lot___len__.2 i_Lot___len__) (.cons (e_var 0) .nil)) (.cons (e_len (e_var 3)) .nil))))))))) (s_cons (s_ret e_bl) s_nil) s_nil) (s_fgt 4 (s_cons (s_for (.nm 4) (g_nm 4 nd_l_is_lot) (i_seq (e_lst (.cons e_int (.cons (e_sub (e_var 1) e_int) (.cons (e_ix (e_var 3) e_int) (.cons (e_sub (e_ix (e_var 3) (e_neg e_int)) (e_var 1)) .nil)))))) (s_cons (s_if (t_not (t_val (e_call h__law_same (.cons (e_hd (hd_in F_Lot s_Lot___contains__.1 s_Lot___contains__.2 i_Lot___contains__) (.cons (e_var 4) (.cons (e_var 0) .nil))) (.cons (e_cmp c_in (e_mod (e_intc (e_var 4)) (e_var 1)) (e_var 3)) .nil))))) (s_cons (s_ret e_bl) s_nil) s_nil) (s_fgt 4 s_nil))) (s_cons (s_ret e_bl) s_nil))))))
abbrev N_l_rest : List Str := ["cell", "product"]
theorem nd_l_rest : N_l_rest.Nodup := by decide +kernel
theorem sc_l_rest : FnScope N_l_rest ["cell", "product"] (defScope (top 24)) := ⟨rfl, rfl, rfl, nd_l_rest, rfl, by decide +kernel, by decide +kernel⟩
theorem w_l_rest {W : Wd} [NB W]   : SndS ⟨W, N_l_rest, defScope (top 24), some 0, true⟩ (defBody (top 24)) c_l_rest :=
  (s_cons (s_if (t_cmp c_ge (e_abs (e_var 0)) (e_pow e_int e_int)) (s_cons (s_ret (e_add (e_pow e_int e_int) (e_div (e_sub (e_abs (e_var 0)) (e_pow e_int e_int)) (e_var 1)))) s_nil) s_nil) (s_cons (s_ret (e_add (e_mul (e_var 0) e_int) (e_var 1))) s_nil))
abbrev N_l_members : List Str := ["cell", "n", "most", "size", "row", "number"]
theorem nd_l_members : N_l_members.Nodup := by decide +kernel
theorem sc_l_members : FnScope N_l_members ["cell", "n", "most"] (defScope (top 27)) := ⟨rfl, rfl, rfl, nd_l_members, rfl, by decide +kernel, by decide +kernel⟩
theorem w_l_members {W : Wd} [NB W]  (h__law_draws : Cl W 1 "_law_draws" f_l_draws) (h__law_rest : Cl W 1 "_law_rest" f_l_rest) : SndS ⟨W, N_l_members, defScope (top 27), some 1, true⟩ (defBody (top 27)) c_l_members :=
  (s_cons (s_set 3 (e_add e_int (e_ix (e_call h__law_draws (.cons (e_var 0) (.cons (e_lst (.cons (e_var 2) .nil)) .nil))) e_int)) nd_l_members) (s_cons (s_set 4 (e_lst .nil) nd_l_members) (s_fgt 5 (s_cons (s_for (.nm 5) (g_nm 5 nd_l_members) (i_seq (e_call h__law_draws (.cons (e_call h__law_rest (.cons (e_var 0) (.cons (e_var 2) .nil))) (.cons (e_mul (e_lst (.cons (e_var 1) .nil)) (e_var 3)) .nil)))) (s_cons (s_if (t_cmp c_nin (e_var 5) (e_var 4)) (s_frz 5 (s_cons (s_app 4 (e_var 5)) s_nil)) s_nil) (s_fgt 5 s_nil))) (s_cons (s_retV 4) s_nil)))))
abbrev N_l_any_set : List Str := ["script", "start", "n", "row", "part", "size", "digits", "k"]
theorem nd_l_any_set : N_l_any_set.Nodup := by decide +kernel
theorem sc_l_any_set : FnScope N_l_any_set ["script", "start", "n"] (defScope (top 32)) := ⟨rfl, rfl, rfl, nd_l_any_set, rfl, by decide +kernel, by decide +kernel⟩
theorem w_l_any_set {W : Wd} [NB W]  (h__law_cell : Cl W 1 "_law_cell" f_l_cell) (h__law_draws : Cl W 1 "_law_draws" f_l_draws) : SndS ⟨W, N_l_any_set, defScope (top 32), some 1, true⟩ (defBody (top 32)) c_l_any_set :=
  (s_cons (s_set 3 (e_lst .nil) nd_l_any_set) (s_fgt 4 (s_fgt 5 (s_fgt 6 (s_cons (s_for (.nm 4) (g_nm 4 nd_l_any_set) (i_range1 e_int) (s_cons (s_set 5 (e_min2 e_int (e_max2 e_int (e_sub (e_var 2) (e_mul e_int (e_var 4))))) nd_l_any_set) (s_cons (s_set 6 (e_call h__law_draws (.cons (e_call h__law_cell (.cons (e_var 0) (.cons (e_add (e_var 1) (e_var 4)) .nil))) (.cons (e_mul (e_lst (.cons e_int .nil)) (e_var 5)) .nil))) nd_l_any_set) (s_cons (s_set 3 (e_add (e_var 3) (e_lc [("k", 7)] (.nm 7) (g_nm 7 nd_l_any_set) (i_range1 (e_var 5)) (if1 (t_cmp c_eq (e_ix (e_var 6) (e_var 7)) e_int)) (e_add (e_mul e_int (e_var 4)) (e_var 7)) nd_l_any_set (blk_ok (N := N_l_any_set) (sc := defScope (top 32)) rfl (by decide +kernel) (by decide +kernel) (by decide +kernel) (by decide +kernel)))) nd_l_any_set) (s_fgt 4 (s_fgt 5 (s_fgt 6 s_nil))))))) (s_cons (s_if (t_cmp c_eq (e_len (e_var 3)) e_int) (s_cons (s_set 3 (e_lst (.cons e_int .nil)) nd_l_any_set) s_nil) s_nil) (s_cons (s_retV 3) s_nil)))))))
abbrev N_l_residues : List Str := ["script", "place", "start", "n", "cell", "kind", "first", "more", "k"]
theorem nd_l_residues : N_l_residues.Nodup := by decide +kernel
theorem sc_l_residues : FnScope N_l_residues ["script", "place", "start", "n"] (defScope (top 33)) := ⟨rfl, rfl, rfl, nd_l_residues, rfl, by decide +kernel, by decide +kernel⟩
theorem w_l_residues {W : Wd} [NB W]  (h__law_cell : Cl W 1 "_law_cell" f_l_cell) (h__law_draws : Cl W 1 "_law_draws" f_l_draws) (h__law_rest : Cl W 1 "_law_rest" f_l_rest) (h__law_members : Cl W 2 "_law_members" f_l_members) (h__law_any_set : Cl W 2 "_law_any_set" f_l_any_set) : SndS ⟨W, N_l_residues, defScope (top 33), some 2, true⟩ (defBody (top 33)) c_l_residues :=
  (s_cons (s_set 4 (e_call h__law_cell (.cons (e_var 0) (.cons (e_var 1) .nil))) nd_l_residues) (s_cons (s_setL (gs_cons (g_nm 5 nd_l_residues) (gs_cons (g_nm 6 nd_l_residues) (gs_cons (g_nm 7 nd_l_residues) gs_nil))) (e_call h__law_draws (.cons (e_var 4) (.cons (e_lst (.cons e_int (.cons (e_var 3) (.cons (e_min2 (e_var 3) e_int) .nil)))) .nil)))) (s_cons (s_if (t_cmp c_eq (e_var 5) e_int) (s_cons (s_ret (e_lc [("k", 8)] (.nm 8) (g_nm 8 nd_l_residues) (i_range1 (e_add (e_var 7) e_int)) if0 (e_mod (e_intc (e_add (e_var 6) (e_var 8))) (e_var 3)) nd_l_residues (blk_ok (N := N_l_residues) (sc := defScope (top 33)) rfl (by decide +kernel) (by decide +kernel) (by decide +kernel) (by decide +kernel)))) s_nil) s_nil) (s_cons (s_if (t_cmp c_eq (e_var 5) e_int) (s_cons (s_ret (e_call h__law_any_set (.cons (e_var 0) (.cons (e_var 2) (.cons (e_var 3) .nil))))) s_nil) s_nil) (s_cons (s_ret (e_call h__law_members (.cons (e_call h__law_rest (.cons (e_var 4) (.cons e_int .nil))) (.cons (e_var 3) (.cons e_int .nil))))) s_nil)))))
abbrev N_l_twice : List Str := ["n", "numbers", "counts", "number", "at", "residue"]
theorem nd_l_twice : N_l_twice.Nodup := by decide +kernel
theorem sc_l_twice : FnScope N_l_twice ["n", "numbers"] (defScope (top 34)) := ⟨rfl, rfl, rfl, nd_l_twice, rfl, by decide +kernel, by decide +kernel⟩
theorem w_l_twice {W : Wd} [NB W]   : SndS ⟨W, N_l_twice, defScope (top 34), some 0, true⟩ (defBody (top 34)) c_l_twice :=
  (s_cons (s_set 2 (e_mul (e_lst (.cons e_int .nil)) (e_var 0)) nd_l_twice) (s_fgt 3 (s_fgt 4 (s_cons (s_for (.nm 3) (g_nm 3 nd_l_twice) (i_seq (e_var 1)) (s_cons (s_set 4 (e_mod (e_intc (e_var 3)) (e_var 0)) nd_l_twice) (s_cons (s_sto 2 (e_var 4) (e_add (e_ix (e_var 2) (e_var 4)) e_int)) (s_fgt 3 (s_fgt 4 s_nil))))) (s_fgt 5 (s_cons (s_for (.nm 5) (g_nm 5 nd_l_twice) (i_range1 (e_var 0)) (s_cons (s_if (t_cmp c_gt (e_ix (e_var 2) (e_var 5)) e_int) (s_frz 5 (s_cons (s_ret (e_tup (.cons e_str (.cons (e_var 5) .nil)))) s_nil)) s_nil) (s_fgt 5 s_nil))) (s_cons (s_ret (e_tup (.cons e_str (.cons e_int .nil)))) s_nil)))))))
abbrev N_l_integer : List Str := ["cell", "most", "limits", "digits", "number", "digit", "bound"]
theorem nd_l_integer : N_l_integer.Nodup := by decide +kernel
theorem sc_l_integer : FnScope N_l_integer ["cell", "most"] (defScope (top 25)) := ⟨rfl, rfl, rfl, nd_l_integer, rfl, by decide +kernel, by decide +kernel⟩
theorem w_l_integer {W : Wd} [NB W]  (h__law_draws : Cl W 1 "_law_draws" f_l_draws) : SndS ⟨W, N_l_integer, defScope (top 25), some 1, true⟩ (defBody (top 25)) c_l_integer :=
  (s_cons (s_set 2 (e_lst (.cons e_int (.cons e_int (.cons (e_pow e_int e_int) (.cons (e_pow e_int e_int) (.cons (e_pow e_int e_int) (.cons (e_pow e_int e_int) (.cons (e_pow e_int e_int) (.cons (e_pow e_int e_int) (.cons (e_pow e_int e_int) .nil)))))))))) nd_l_integer) (s_cons (s_set 3 (e_call h__law_draws (.cons (e_var 0) (.cons (e_var 2) .nil))) nd_l_integer) (s_cons (s_set 4 e_int nd_l_integer) (s_fgt 5 (s_cons (s_for (.nm 5) (g_nm 5 nd_l_integer) (i_seq (e_slL (e_var 3) e_int)) (s_cons (s_set 4 (e_add (e_mul (e_var 4) (e_pow e_int e_int)) (e_var 5)) nd_l_integer) (s_fgt 5 s_nil))) (s_cons (s_set 6 (e_add (e_var 1) e_int) nd_l_integer) (s_cons (s_if (t_cmp c_eq (e_ix (e_var 3) e_int) e_int) (s_cons (s_set 6 (e_min2 (e_var 6) e_int) nd_l_integer) s_nil) s_nil) (s_cons (s_if (t_cmp c_eq (e_ix (e_var 3) e_int) e_int) (s_cons (s_set 6 (e_min2 (e_var 6) e_int) nd_l_integer) s_nil) s_nil) (s_cons (s_set 4 (e_mod (e_intc (e_var 4)) (e_var 6)) nd_l_integer) (s_cons (s_if (t_cmp c_eq (e_ix (e_var 3) e_int) e_int) (s_cons (s_ret (e_neg (e_var 4))) s_nil) s_nil) (s_cons (s_retV 4) s_nil)))))))))))
abbrev N_l_gcd : List Str := ["one", "other", "k"]
theorem nd_l_gcd : N_l_gcd.Nodup := by decide +kernel
theorem sc_l_gcd : FnScope N_l_gcd ["one", "other"] (defScope (top 31)) := ⟨rfl, rfl, rfl, nd_l_gcd, rfl, by decide +kernel, by decide +kernel⟩
theorem w_l_gcd {W : Wd} [NB W]   : SndS ⟨W, N_l_gcd, defScope (top 31), some 0, true⟩ (defBody (top 31)) c_l_gcd :=
  (s_cons (s_set 0 (e_abs (e_var 0)) nd_l_gcd) (s_cons (s_set 1 (e_abs (e_var 1)) nd_l_gcd) (s_fgt 2 (s_cons (s_for (.nm 2) (g_nm 2 nd_l_gcd) (i_range1 e_int) (s_cons (s_if (t_cmp c_eq (e_var 1) e_int) (s_cons (s_retV 0) s_nil) s_nil) (s_cons (s_par 0 1 (.cons (e_var 1) (.cons (e_mod (e_intc (e_var 0)) (e_var 1)) .nil)) nd_l_gcd) (s_fgt 2 s_nil)))) (s_cons (s_retV 0) s_nil)))))
abbrev N_l_coprime : List Str := ["start", "n", "turn"]
theorem nd_l_coprime : N_l_coprime.Nodup := by decide +kernel
theorem sc_l_coprime : FnScope N_l_coprime ["start", "n"] (defScope (top 35)) := ⟨rfl, rfl, rfl, nd_l_coprime, rfl, by decide +kernel, by decide +kernel⟩
theorem w_l_coprime {W : Wd} [NB W]  (h__law_gcd : Cl W 1 "_law_gcd" f_l_gcd) : SndS ⟨W, N_l_coprime, defScope (top 35), some 1, true⟩ (defBody (top 35)) c_l_coprime :=
  (s_fgt 2 (s_cons (s_for (.nm 2) (g_nm 2 nd_l_coprime) (i_range1 (e_var 1)) (s_cons (s_if (t_cmp c_eq (e_call h__law_gcd (.cons (e_add (e_var 0) (e_var 2)) (.cons (e_var 1) .nil))) e_int) (s_cons (s_ret (e_add (e_var 0) (e_var 2))) s_nil) s_nil) (s_fgt 2 s_nil))) (s_cons (s_ret e_int) s_nil)))
abbrev N_l_factor : List Str := ["script", "n", "kind", "start"]
theorem nd_l_factor : N_l_factor.Nodup := by decide +kernel
theorem sc_l_factor : FnScope N_l_factor ["script", "n"] (defScope (top 36)) := ⟨rfl, rfl, rfl, nd_l_factor, rfl, by decide +kernel, by decide +kernel⟩
theorem w_l_factor {W : Wd} [NB W]  (h__law_cell : Cl W 1 "_law_cell" f_l_cell) (h__law_draws : Cl W 1 "_law_draws" f_l_draws) (h__law_integer : Cl W 2 "_law_integer" f_l_integer) (h__law_coprime : Cl W 2 "_law_coprime" f_l_coprime) : SndS ⟨W, N_l_factor, defScope (top 36), some 2, true⟩ (defBody (top 36)) c_l_factor :=
  (s_cons (s_setL (gs_cons (g_nm 2 nd_l_factor) (gs_cons (g_nm 3 nd_l_factor) gs_nil)) (e_call h__law_draws (.cons (e_call h__law_cell (.cons (e_var 0) (.cons e_int .nil))) (.cons (e_lst (.cons e_int (.cons (e_var 1) .nil))) .nil)))) (s_cons (s_if (t_cmp c_lt (e_var 2) e_int) (s_cons (s_ret (e_add (e_call h__law_coprime (.cons (e_var 3) (.cons (e_var 1) .nil))) (e_mul (e_var 1) (e_call h__law_integer (.cons (e_call h__law_cell (.cons (e_var 0) (.cons e_int .nil))) (.cons (e_pow e_int e_int) .nil)))))) s_nil) s_nil) (s_cons (s_if (t_cmp c_eq (e_var 2) e_int) (s_cons (s_ret (e_neg e_int)) s_nil) s_nil) (s_cons (s_if (t_cmp c_eq (e_var 2) e_int) (s_cons (s_ret (e_mul (e_var 1) (e_call h__law_integer (.cons (e_call h__law_cell (.cons (e_var 0) (.cons e_int .nil))) (.cons (e_pow e_int e_int) .nil))))) s_nil) s_nil) (s_cons (s_ret (e_call h__law_integer (.cons (e_call h__law_cell (.cons (e_var 0) (.cons e_int .nil))) (.cons (e_sub (e_pow e_int e_int) e_int) .nil)))) s_nil)))))
abbrev N_p_residues_of : List Str := ["modulus", "numbers", "residues", "at", "number"]
theorem nd_p_residues_of : N_p_residues_of.Nodup := by decide +kernel
theorem sc_p_residues_of : FnScope N_p_residues_of ["modulus", "numbers"] (defScope (top 18)) := ⟨rfl, rfl, rfl, nd_p_residues_of, rfl, by decide +kernel, by decide +kernel⟩
theorem w_p_residues_of {W : Wd} [NB W] {C_Clash I_Clash : Addr} (x_Clash : XcF W "Clash" "residue" C_Clash I_Clash) : SndS ⟨W, N_p_residues_of, defScope (top 18), some 0, true⟩ (defBody (top 18)) c_p_residues_of :=
  (s_cons (s_set 2 (e_sorted (e_lc [("number", 4)] (.nm 4) (g_nm 4 nd_p_residues_of) (i_seq (e_var 1)) if0 (e_mod (e_var 4) (e_var 0)) nd_p_residues_of (blk_ok (N := N_p_residues_of) (sc := defScope (top 18)) rfl (by decide +kernel) (by decide +kernel) (by decide +kernel) (by decide +kernel)))) nd_p_residues_of) (s_fgt 3 (s_cons (s_for (.nm 3) (g_nm 3 nd_p_residues_of) (i_range2 e_int (e_len (e_var 2))) (s_cons (s_if (t_cmp c_eq (e_ix (e_var 2) (e_var 3)) (e_ix (e_var 2) (e_sub (e_var 3) e_int))) (s_cons (s_raise x_Clash (e_ix (e_var 2) (e_var 3))) s_nil) s_nil) (s_fgt 3 s_nil))) (s_cons (s_retV 2) s_nil))))
abbrev N_p_first_repeated : List Str := ["residues", "at"]
theorem nd_p_first_repeated : N_p_first_repeated.Nodup := by decide +kernel
theorem sc_p_first_repeated : FnScope N_p_first_repeated ["residues"] (defScope (top 19)) := ⟨rfl, rfl, rfl, nd_p_first_repeated, rfl, by decide +kernel, by decide +kernel⟩
theorem w_p_first_repeated {W : Wd} [NB W]   : SndS ⟨W, N_p_first_repeated, defScope (top 19), some 0, true⟩ (defBody (top 19)) c_p_first_repeated :=
  (s_fgt 1 (s_cons (s_for (.nm 1) (g_nm 1 nd_p_first_repeated) (i_range2 e_int (e_len (e_var 0))) (s_cons (s_if (t_cmp c_in (e_ix (e_var 0) (e_var 1)) (e_slH (e_var 0) (e_var 1))) (s_cons (s_ret (e_ix (e_var 0) (e_var 1))) s_nil) s_nil) (s_fgt 1 s_nil))) (s_cons (s_ret e_non) s_nil)))
abbrev N_Lot___init__ : List Str := ["self", "modulus", "members", "residues", "member"]
theorem nd_Lot___init__ : N_Lot___init__.Nodup := by decide +kernel
theorem sc_Lot___init__ : FnScope N_Lot___init__ ["self", "modulus", "members"] (defScope (inClass (top 20) 1)) := ⟨rfl, rfl, rfl, nd_Lot___init__, rfl, by decide +kernel, by decide +kernel⟩
theorem w_Lot___init__ {W : Wd} [NB W] {C_InvalidModulus C_RepeatedMember I_InvalidModulus I_RepeatedMember C_Lot C_EmptyLot : Addr} {t_Lot_LARGEST : Tok} (h_first_repeated : Cl W 1 "first_repeated" f_p_first_repeated) (x_InvalidModulus : XcF W "InvalidModulus" "modulus" C_InvalidModulus I_InvalidModulus) (x_RepeatedMember : XcF W "RepeatedMember" "number" C_RepeatedMember I_RepeatedMember) (F_Lot : ObF W "Lot" C_Lot) (k_Lot_LARGEST : L2.Con W.K C_Lot "LARGEST" (.int 1000) (.int 1000 t_Lot_LARGEST)) (n_Lot__members : L2.NoAttr W.K C_Lot "_members") (n_Lot_modulus : L2.NoAttr W.K C_Lot "modulus") (y_EmptyLot : Xc0 W "EmptyLot" C_EmptyLot) (x : Addr) : SndN ⟨W, N_Lot___init__, defScope (inClass (top 20) 1), some 1, true⟩ "Lot" x (defBody (inClass (top 20) 1)) (c_Lot_init f_p_first_repeated x) :=
  (i_gd (t_not (t_chain h_le h_le e_int (e_var 1) (e_con F_Lot k_Lot_LARGEST (e_var 0)))) (s_cons (s_raise x_InvalidModulus (e_var 1)) s_nil) (i_gd (t_cmp c_eq (e_len (e_var 2)) e_int) (s_cons (s_raise0 y_EmptyLot) s_nil) (i_stm (s_setLc 3 [("member", 4)] (.nm 4) (g_nm 4 nd_Lot___init__) (i_seq (e_var 2)) if0 (e_mod (e_var 4) (e_var 1)) nd_Lot___init__ (blk_ok (N := N_Lot___init__) (sc := defScope (inClass (top 20) 1)) rfl (by decide +kernel) (by decide +kernel) (by decide +kernel) (by decide +kernel))) (i_gd (t_cmp c_lt (e_lenset (e_var 3)) (e_len (e_var 3))) (s_cons (s_raise x_RepeatedMember (e_call h_first_repeated (.cons (e_var 3) .nil))) s_nil) (i_put F_Lot n_Lot_modulus (e_var 1) (i_put F_Lot n_Lot__members (e_sorted (e_var 3)) i_nil))))))
abbrev N_Lot___mul__ : List Str := ["self", "factor", "member"]
theorem nd_Lot___mul__ : N_Lot___mul__.Nodup := by decide +kernel
theorem sc_Lot___mul__ : FnScope N_Lot___mul__ ["self", "factor"] (defScope (inClass (top 20) 19)) := ⟨rfl, rfl, rfl, nd_Lot___mul__, rfl, by decide +kernel, by decide +kernel⟩
theorem w_Lot___mul__ {W : Wd} [NB W] {C_Lot A_Lot___init__ : Addr} (h_residues_of : Cl W 1 "residues_of" f_p_residues_of) (F_Lot : ObF W "Lot" C_Lot) (n_Lot__members : L2.NoAttr W.K C_Lot "_members") (n_Lot_modulus : L2.NoAttr W.K C_Lot "modulus") (M_Lot : L2.Mk W.K C_Lot A_Lot___init__) (i_Lot___init__ : FdI W 2 A_Lot___init__ C_Lot (f_Lot_init f_p_first_repeated)) : SndS ⟨W, N_Lot___mul__, defScope (inClass (top 20) 19), some 3, true⟩ (defBody (inClass (top 20) 19)) c_Lot___mul__ :=
  (s_cons (s_ret (e_fz (e_hd (hd_make F_Lot M_Lot i_Lot___init__) (.cons (e_fld F_Lot n_Lot_modulus (e_var 0)) (.cons (e_call h_residues_of (.cons (e_fld F_Lot n_Lot_modulus (e_var 0)) (.cons (e_lc [("member", 2)] (.nm 2) (g_nm 2 nd_Lot___mul__) (i_seq (e_fld F_Lot n_Lot__members (e_var 0))) if0 (e_mul (e_var 2) (e_var 1)) nd_Lot___mul__ (blk_ok (N := N_Lot___mul__) (sc := defScope (inClass (top 20) 19)) rfl (by decide +kernel) (by decide +kernel) (by decide +kernel) (by decide +kernel))) .nil))) .nil))))) s_nil)
abbrev N_Lot___rmul__ : List Str := ["self", "factor", "member"]
theorem nd_Lot___rmul__ : N_Lot___rmul__.Nodup := by decide +kernel
theorem sc_Lot___rmul__ : FnScope N_Lot___rmul__ ["self", "factor"] (defScope (inClass (top 20) 20)) := ⟨rfl, rfl, rfl, nd_Lot___rmul__, rfl, by decide +kernel, by decide +kernel⟩
theorem w_Lot___rmul__ {W : Wd} [NB W] {C_Lot A_Lot___init__ : Addr} (h_residues_of : Cl W 1 "residues_of" f_p_residues_of) (F_Lot : ObF W "Lot" C_Lot) (n_Lot__members : L2.NoAttr W.K C_Lot "_members") (n_Lot_modulus : L2.NoAttr W.K C_Lot "modulus") (M_Lot : L2.Mk W.K C_Lot A_Lot___init__) (i_Lot___init__ : FdI W 2 A_Lot___init__ C_Lot (f_Lot_init f_p_first_repeated)) : SndS ⟨W, N_Lot___rmul__, defScope (inClass (top 20) 20), some 3, true⟩ (defBody (inClass (top 20) 20)) c_Lot___rmul__ :=
  (s_cons (s_ret (e_fz (e_hd (hd_make F_Lot M_Lot i_Lot___init__) (.cons (e_fld F_Lot n_Lot_modulus (e_var 0)) (.cons (e_call h_residues_of (.cons (e_fld F_Lot n_Lot_modulus (e_var 0)) (.cons (e_lc [("member", 2)] (.nm 2) (g_nm 2 nd_Lot___rmul__) (i_seq (e_fld F_Lot n_Lot__members (e_var 0))) if0 (e_mul (e_var 2) (e_var 1)) nd_Lot___rmul__ (blk_ok (N := N_Lot___rmul__) (sc := defScope (inClass (top 20) 20)) rfl (by decide +kernel) (by decide +kernel) (by decide +kernel) (by decide +kernel))) .nil))) .nil))))) s_nil)
abbrev N_l_times : List Str := ["lot", "t", "side", "told", "got", "e"]
theorem nd_l_times : N_l_times.Nodup := by decide +kernel
theorem sc_l_times : FnScope N_l_times ["lot", "t", "side"] (defScope (top 37)) := ⟨rfl, rfl, rfl, nd_l_times, rfl, by decide +kernel, by decide +kernel⟩
theorem w_l_times {W : Wd} [NB W] {C_Clash C_LotsError I_Clash C_Lot A_Lot___mul__ A_Lot___rmul__ M_Lot : Addr} {u1_Lot___mul__ u2_Lot___mul__ u3_Lot___mul__ u1_Lot___rmul__ u2_Lot___rmul__ : Option Value} (x_Clash : XcF W "Clash" "residue" C_Clash I_Clash) (m_Clash : W.mg "Clash" = some (.ref C_Clash)) (k_Clash : TkOk W (.ref C_Clash) tk_Clash) (m_LotsError : W.mg "LotsError" = some (.ref C_LotsError)) (k_LotsError : TkOk W (.ref C_LotsError) tk_LotsError) (F_Lot : ObF W "Lot" C_Lot) (b_Lot___mul__ : L2.BinI W.K C_Lot .Mult A_Lot___mul__ u1_Lot___mul__ u2_Lot___mul__ u3_Lot___mul__) (i_Lot___mul__ : Fd W 4 A_Lot___mul__ f_Lot___mul__) (b_Lot___rmul__ : L2.BinR W.K C_Lot A_Lot___rmul__ M_Lot u1_Lot___rmul__ u2_Lot___rmul__) (i_Lot___rmul__ : Fd W 4 A_Lot___rmul__ f_Lot___rmul__) : SndS ⟨W, N_l_times, defScope (top 37), some 4, true⟩ (defBody (top 37)) c_l_times :=
  (s_cons (s_set 3 (e_tup (.cons e_str (.cons e_int .nil))) nd_l_times) (s_cons (s_set 4 e_non nd_l_times) (s_cons (s_try (s_cons (s_if (t_cmp c_eq (e_var 2) e_int) (s_cons (s_set 4 (e_hd (hd_binI F_Lot b_Lot___mul__ i_Lot___mul__) (.cons (e_var 0) (.cons (e_var 1) .nil))) nd_l_times) s_nil) (s_cons (s_set 4 (e_hd (hd_binR F_Lot b_Lot___rmul__ i_Lot___rmul__) (.cons (e_var 1) (.cons (e_var 0) .nil))) nd_l_times) s_nil)) s_nil) (.cons (.mk m_Clash rfl (by decide) ⟨rfl, rfl⟩ (by simp) k_Clash (run_tup 5 3 x_Clash (.str (.fld x_Clash.t.noN .nil)) nd_l_times)) (.cons (.mk m_LotsError rfl (by decide) trivial (by simp) k_LotsError (run_plain (s_cons (s_set 3 (e_tup (.cons e_str (.cons e_int .nil))) nd_l_times) s_nil))) .nil))) (s_frz 3 (s_frz 4 (s_cons (s_ret (e_tup (.cons (e_var 3) (.cons (e_var 4) .nil)))) s_nil))))))
abbrev N_law : List Str := ["script", "n", "residues", "lot", "t", "products", "due", "side", "answer", "residue"]
theorem nd_law : N_law.Nodup := by decide +kernel
theorem sc_law : FnScope N_law ["script"] (defScope (top 38)) := ⟨rfl, rfl, rfl, nd_law, rfl, by decide +kernel, by decide +kernel⟩
theorem w_law {W : Wd} [NB W] {C_Lot A_Lot___init__ : Addr} (h__law_cell : Cl W 1 "_law_cell" f_l_cell) (h__law_modulus : Cl W 2 "_law_modulus" f_l_modulus) (h__law_handed : Cl W 2 "_law_handed" f_l_handed) (h__law_same : Cl W 13 "_law_same" (f_l_same 12)) (h__law_is_lot : Cl W 14 "_law_is_lot" f_l_is_lot) (h__law_residues : Cl W 3 "_law_residues" f_l_residues) (h__law_twice : Cl W 1 "_law_twice" f_l_twice) (h__law_factor : Cl W 3 "_law_factor" f_l_factor) (h__law_times : Cl W 5 "_law_times" f_l_times) (F_Lot : ObF W "Lot" C_Lot) (M_Lot : L2.Mk W.K C_Lot A_Lot___init__) (i_Lot___init__ : FdI W 2 A_Lot___init__ C_Lot (f_Lot_init f_p_first_repeated)) : SndS ⟨W, N_law, defScope (top 38), some 14, true⟩ (defBody (top 38)) c_law :=
  (s_cons (s_set 1 (e_call h__law_modulus (.cons (e_call h__law_cell (.cons (e_var 0) (.cons e_int .nil))) (.cons e_int (.cons e_int .nil)))) nd_law) (s_cons (s_set 2 (e_call h__law_residues (.cons (e_var 0) (.cons e_int (.cons e_int (.cons (e_var 1) .nil))))) nd_law) (s_cons (s_set 3 (e_fz (e_hd (hd_make F_Lot M_Lot i_Lot___init__) (.cons (e_var 1) (.cons (e_call h__law_handed (.cons (e_call h__law_cell (.cons (e_var 0) (.cons e_int .nil))) (.cons (e_var 1) (.cons (e_var 2) .nil)))) .nil)))) nd_law) (s_cons (s_set 4 (e_call h__law_factor (.cons (e_var 0) (.cons (e_var 1) .nil))) nd_law) (s_frz 2 (s_cons (s_setLc 5 [("residue", 9)] (.nm 9) (g_nm 9 nd_law) (i_seq (e_var 2)) if0 (e_mul (e_var 9) (e_var 4)) nd_law (blk_ok (N := N_law) (sc := defScope (top 38)) rfl (by decide +kernel) (by decide +kernel) (by decide +kernel) (by decide +kernel))) (s_cons (s_set 6 (e_call h__law_twice (.cons (e_var 1) (.cons (e_var 5) .nil))) nd_law) (s_fgt 7 (s_fgt 8 (s_cons (s_for (.nm 7) (g_nm 7 nd_law) (i_seq (e_lst (.cons e_int (.cons e_int (.cons e_int .nil))))) (s_cons (s_set 8 (e_call h__law_times (.cons (e_var 3) (.cons (e_var 4) (.cons (e_var 7) .nil)))) nd_law) (s_cons (s_if (t_not (t_val (e_call h__law_same (.cons (e_ix (e_var 8) e_int) (.cons (e_var 6) .nil))))) (s_cons (s_ret e_bl) s_nil) s_nil) (s_cons (s_if (t_w (w_and (t_cmp c_eq (e_ix (e_var 6) e_int) e_str) (w_and1 (t_not (t_val (e_call h__law_is_lot (.cons (e_ix (e_var 8) e_int) (.cons (e_var 1) (.cons (e_var 5) .nil))))))))) (s_cons (s_ret e_bl) s_nil) s_nil) (s_cons (s_if (t_not (t_val (e_call h__law_is_lot (.cons (e_var 3) (.cons (e_var 1) (.cons (e_var 2) .nil)))))) (s_cons (s_ret e_bl) s_nil) s_nil) (s_fgt 7 (s_fgt 8 s_nil))))))) (s_cons (s_ret e_bl) s_nil)))))))))))
end K12

set_option Elab.async false
set_option linter.all false
set_option maxRecDepth 100000
set_option maxHeartbeats 4000000
namespace K12
open PySem PySem.Spec PyProof.Rows L2 VL PySem.HandSPX
theorem all_mk {l : PySem.W.OpenLaw} {w : World} {K : PySem.W.Frag} {h : Heap} {mg : Str → Option Value} {fa : Addr} (X : K.In h) (G : h.Ns mainGlobals mg) (hfa : mg "law" = some (.ref fa))
    {C_Clash : Addr}
    {I_Clash cc_Clash cda_Clash Da_Clash N_Clash : Addr} {nm_Clash q_Clash qu_Clash m_Clash fi_Clash : Str} {bs_Clash bm_Clash su_Clash : List Value} {sn_Clash : List Str} {ab_Clash : Bool} {col_Clash : Option Bool} {dd_Clash od_Clash an_Clash cdd_Clash cld_Clash : Option Addr} {k0_Clash k1_Clash k2_Clash k3_Clash k5_Clash : Option Value} {oc_Clash doc_Clash pm_Clash ct_Clash ccl_Clash cl_Clash : Value} {osl_Clash ccs_Clash csl_Clash : Array (Option Value)} {j_Clash : Nat} {p1_Clash p2_Clash s0_Clash s1_Clash s2_Clash s3_Clash s4_Clash s5_Clash q1_Clash q2_Clash q3_Clash q4_Clash : Pos} {vs_Clash : Array Value} {tf_Clash : Tok} {cdD_Clash cdL_Clash : ClassData} {CL_Clash : Addr}
    {C_InvalidModulus : Addr}
    {I_InvalidModulus cc_InvalidModulus cda_InvalidModulus Da_InvalidModulus N_InvalidModulus : Addr} {nm_InvalidModulus q_InvalidModulus qu_InvalidModulus m_InvalidModulus fi_InvalidModulus : Str} {bs_InvalidModulus bm_InvalidModulus su_InvalidModulus : List Value} {sn_InvalidModulus : List Str} {ab_InvalidModulus : Bool} {col_InvalidModulus : Option Bool} {dd_InvalidModulus od_InvalidModulus an_InvalidModulus cdd_InvalidModulus cld_InvalidModulus : Option Addr} {k0_InvalidModulus k1_InvalidModulus k2_InvalidModulus k3_InvalidModulus k5_InvalidModulus : Option Value} {oc_InvalidModulus doc_InvalidModulus pm_InvalidModulus ct_InvalidModulus ccl_InvalidModulus cl_InvalidModulus : Value} {osl_InvalidModulus ccs_InvalidModulus csl_InvalidModulus : Array (Option Value)} {j_InvalidModulus : Nat} {p1_InvalidModulus p2_InvalidModulus s0_InvalidModulus s1_InvalidModulus s2_InvalidModulus s3_InvalidModulus s4_InvalidModulus s5_InvalidModulus q1_InvalidModulus q2_InvalidModulus q3_InvalidModulus q4_InvalidModulus : Pos} {vs_InvalidModulus : Array Value} {tf_InvalidModulus : Tok} {cdD_InvalidModulus cdL_InvalidModulus : ClassData} {CL_InvalidModulus : Addr}
    {C_RepeatedMember : Addr}
    {I_RepeatedMember cc_RepeatedMember cda_RepeatedMember Da_RepeatedMember N_RepeatedMember : Addr} {nm_RepeatedMember q_RepeatedMember qu_RepeatedMember m_RepeatedMember fi_RepeatedMember : Str} {bs_RepeatedMember bm_RepeatedMember su_RepeatedMember : List Value} {sn_RepeatedMember : List Str} {ab_RepeatedMember : Bool} {col_RepeatedMember : Option Bool} {dd_RepeatedMember od_RepeatedMember an_RepeatedMember cdd_RepeatedMember cld_RepeatedMember : Option Addr} {k0_RepeatedMember k1_RepeatedMember k2_RepeatedMember k3_RepeatedMember k5_RepeatedMember : Option Value} {oc_RepeatedMember doc_RepeatedMember pm_RepeatedMember ct_RepeatedMember ccl_RepeatedMember cl_RepeatedMember : Value} {osl_RepeatedMember ccs_RepeatedMember csl_RepeatedMember : Array (Option Value)} {j_RepeatedMember : Nat} {p1_RepeatedMember p2_RepeatedMember s0_RepeatedMember s1_RepeatedMember s2_RepeatedMember s3_RepeatedMember s4_RepeatedMember s5_RepeatedMember q1_RepeatedMember q2_RepeatedMember q3_RepeatedMember q4_RepeatedMember : Pos} {vs_RepeatedMember : Array Value} {tf_RepeatedMember : Tok} {cdD_RepeatedMember cdL_RepeatedMember : ClassData} {CL_RepeatedMember : Addr}
    {C_LotsError : Addr}
    {C_EmptyLot : Addr}
    {C_Lot : Addr}
    {t_Lot_LARGEST : Tok}
    {A_l_cell : Addr} {od_l_cell an_l_cell : Option Addr} {sl_l_cell : Array (Option Value)} {oc_l_cell kV_l_cell dc_l_cell pm_l_cell cd_l_cell ct_l_cell : Value}
    {A_l_draws : Addr} {od_l_draws an_l_draws : Option Addr} {sl_l_draws : Array (Option Value)} {oc_l_draws kV_l_draws dc_l_draws pm_l_draws cd_l_draws ct_l_draws : Value}
    {A_l_modulus : Addr} {od_l_modulus an_l_modulus : Option Addr} {sl_l_modulus : Array (Option Value)} {oc_l_modulus kV_l_modulus dc_l_modulus pm_l_modulus cd_l_modulus ct_l_modulus : Value}
    {A_l_handed : Addr} {od_l_handed an_l_handed : Option Addr} {sl_l_handed : Array (Option Value)} {oc_l_handed kV_l_handed dc_l_handed pm_l_handed cd_l_handed ct_l_handed : Value}
    {A_l_same : Addr} {od_l_same an_l_same : Option Addr} {sl_l_same : Array (Option Value)} {oc_l_same kV_l_same dc_l_same pm_l_same cd_l_same ct_l_same : Value}
    {A_Lot_members : Addr} {od_Lot_members an_Lot_members : Option Addr} {sl_Lot_members : Array (Option Value)} {oc_Lot_members kV_Lot_members dc_Lot_members pm_Lot_members cd_Lot_members ct_Lot_members : Value}
    {P_Lot_members : Addr} {rr_Lot_members : List Value}
    {A_Lot___len__ : Addr} {od_Lot___len__ an_Lot___len__ : Option Addr} {sl_Lot___len__ : Array (Option Value)} {oc_Lot___len__ kV_Lot___len__ dc_Lot___len__ pm_Lot___len__ cd_Lot___len__ ct_Lot___len__ : Value}
    {A_Lot___iter__ : Addr} {od_Lot___iter__ an_Lot___iter__ : Option Addr} {sl_Lot___iter__ : Array (Option Value)} {oc_Lot___iter__ kV_Lot___iter__ dc_Lot___iter__ pm_Lot___iter__ cd_Lot___iter__ ct_Lot___iter__ : Value}
    {A_Lot___contains__ : Addr} {od_Lot___contains__ an_Lot___contains__ : Option Addr} {sl_Lot___contains__ : Array (Option Value)} {oc_Lot___contains__ kV_Lot___contains__ dc_Lot___contains__ pm_Lot___contains__ cd_Lot___contains__ ct_Lot___contains__ : Value}
    {A_l_is_lot : Addr} {od_l_is_lot an_l_is_lot : Option Addr} {sl_l_is_lot : Array (Option Value)} {oc_l_is_lot kV_l_is_lot dc_l_is_lot pm_l_is_lot cd_l_is_lot ct_l_is_lot : Value}
    {A_l_rest : Addr} {od_l_rest an_l_rest : Option Addr} {sl_l_rest : Array (Option Value)} {oc_l_rest kV_l_rest dc_l_rest pm_l_rest cd_l_rest ct_l_rest : Value}
    {A_l_members : Addr} {od_l_members an_l_members : Option Addr} {sl_l_members : Array (Option Value)} {oc_l_members kV_l_members dc_l_members pm_l_members cd_l_members ct_l_members : Value}
    {A_l_any_set : Addr} {od_l_any_set an_l_any_set : Option Addr} {sl_l_any_set : Array (Option Value)} {oc_l_any_set kV_l_any_set dc_l_any_set pm_l_any_set cd_l_any_set ct_l_any_set : Value}
    {A_l_residues : Addr} {od_l_residues an_l_residues : Option Addr} {sl_l_residues : Array (Option Value)} {oc_l_residues kV_l_residues dc_l_residues pm_l_residues cd_l_residues ct_l_residues : Value}
    {A_l_twice : Addr} {od_l_twice an_l_twice : Option Addr} {sl_l_twice : Array (Option Value)} {oc_l_twice kV_l_twice dc_l_twice pm_l_twice cd_l_twice ct_l_twice : Value}
    {A_l_integer : Addr} {od_l_integer an_l_integer : Option Addr} {sl_l_integer : Array (Option Value)} {oc_l_integer kV_l_integer dc_l_integer pm_l_integer cd_l_integer ct_l_integer : Value}
    {A_l_gcd : Addr} {od_l_gcd an_l_gcd : Option Addr} {sl_l_gcd : Array (Option Value)} {oc_l_gcd kV_l_gcd dc_l_gcd pm_l_gcd cd_l_gcd ct_l_gcd : Value}
    {A_l_coprime : Addr} {od_l_coprime an_l_coprime : Option Addr} {sl_l_coprime : Array (Option Value)} {oc_l_coprime kV_l_coprime dc_l_coprime pm_l_coprime cd_l_coprime ct_l_coprime : Value}
    {A_l_factor : Addr} {od_l_factor an_l_factor : Option Addr} {sl_l_factor : Array (Option Value)} {oc_l_factor kV_l_factor dc_l_factor pm_l_factor cd_l_factor ct_l_factor : Value}
    {A_p_residues_of : Addr} {od_p_residues_of an_p_residues_of : Option Addr} {sl_p_residues_of : Array (Option Value)} {oc_p_residues_of kV_p_residues_of dc_p_residues_of pm_p_residues_of cd_p_residues_of ct_p_residues_of : Value}
    {A_p_first_repeated : Addr} {od_p_first_repeated an_p_first_repeated : Option Addr} {sl_p_first_repeated : Array (Option Value)} {oc_p_first_repeated kV_p_first_repeated dc_p_first_repeated pm_p_first_repeated cd_p_first_repeated ct_p_first_repeated : Value}
    {A_Lot___init__ : Addr} {od_Lot___init__ an_Lot___init__ : Option Addr} {sl_Lot___init__ : Array (Option Value)} {oc_Lot___init__ kV_Lot___init__ dc_Lot___init__ pm_Lot___init__ cd_Lot___init__ ct_Lot___init__ : Value}
    {A_Lot___mul__ : Addr} {od_Lot___mul__ an_Lot___mul__ : Option Addr} {sl_Lot___mul__ : Array (Option Value)} {oc_Lot___mul__ kV_Lot___mul__ dc_Lot___mul__ pm_Lot___mul__ cd_Lot___mul__ ct_Lot___mul__ : Value}
    {u1_Lot___mul__ u2_Lot___mul__ u3_Lot___mul__ : Option Value}
    {A_Lot___rmul__ : Addr} {od_Lot___rmul__ an_Lot___rmul__ : Option Addr} {sl_Lot___rmul__ : Array (Option Value)} {oc_Lot___rmul__ kV_Lot___rmul__ dc_Lot___rmul__ pm_Lot___rmul__ cd_Lot___rmul__ ct_Lot___rmul__ : Value}
    {u1_Lot___rmul__ u2_Lot___rmul__ : Option Value} {Mm_Lot___rmul__ : Addr}
    {A_l_times : Addr} {od_l_times an_l_times : Option Addr} {sl_l_times : Array (Option Value)} {oc_l_times kV_l_times dc_l_times pm_l_times cd_l_times ct_l_times : Value}
    {A_law : Addr} {od_law an_law : Option Addr} {sl_law : Array (Option Value)} {oc_law kV_law dc_law pm_law cd_law ct_law : Value}
    (a_Clash : PySem.W.nsIn K mainGlobals "Clash" = some (some (.ref C_Clash)))
    (ic_Clash : PySem.W.isClsIn K C_Clash = true)
    (ty_Clash : PySem.W.typeIn K (.ref C_Clash) = some (.type "type"))
    (ex_Clash : PySem.W.subIn K (.ref C_Clash) (.type "BaseException") = some true)
    (xL_Clash : K.lookup C_Clash = some (excClassObj nm_Clash q_Clash C_Clash N_Clash bs_Clash bm_Clash true sn_Clash su_Clash ab_Clash col_Clash dd_Clash k0_Clash k1_Clash k2_Clash k3_Clash k5_Clash "ValueError.__new__"))
    (hb_Clash : refsVE bm_Clash = true)
    (sa_Clash : PySem.W.findIn K (.ref C_Clash) "__setattr__" = some (some (.builtin "object.__setattr__")))
    (ga_Clash : PySem.W.findIn K (.ref C_Clash) "__getattribute__" = some (some (.builtin "BaseException.__getattribute__")))
    (gg_Clash : PySem.W.findIn K (.ref C_Clash) "__getattr__" = some none)
    (noN_Clash : PySem.W.findIn K (.ref C_Clash) "residue" = some none)
    (iC_Clash : PySem.W.findIn K (.ref C_Clash) "__init__" = some (some (.ref I_Clash)))
    (tC_Clash : PySem.W.typeIn K (.ref I_Clash) = some (.type "function"))
    (kC_Clash : PySem.W.keepIn K (.ref C_Clash) = true)
    (hd_Clash : PySem.W.hasDictIn K C_Clash = true)
    (ve_Clash : PySem.W.subIn K (.ref C_Clash) (.type "ValueError") = some true)
    (l1_Clash : K.lookup I_Clash = some ⟨oc_Clash, od_Clash, .func (PySem.W.ksFn "__init__" qu_Clash (PySem.XcX.iA "residue" p1_Clash p2_Clash) (PySem.XcX.iB "residue" m_Clash j_Clash s0_Clash s1_Clash s2_Clash s3_Clash s4_Clash s5_Clash q1_Clash q2_Clash q3_Clash q4_Clash) (PySem.XcX.iS "residue") .none .none doc_Clash pm_Clash an_Clash (.ref cda_Clash) ct_Clash cc_Clash), osl_Clash⟩)
    (cI_Clash : PySem.W.codeIn K (.ref cda_Clash) qu_Clash = true)
    (l2_Clash : K.lookup cda_Clash = some ⟨ccl_Clash, cdd_Clash, .fields vs_Clash, ccs_Clash⟩)
    (v2_Clash : vs_Clash[2]? = some (.str fi_Clash tf_Clash))
    (fe_Clash : ((l.prog.main.file : Str) == fi_Clash) = true)
    (l3_Clash : K.lookup cc_Clash = some ⟨cl_Clash, cld_Clash, .cell (some (.ref Da_Clash)), csl_Clash⟩)
    (cD_Clash : PySem.W.clsIn K Da_Clash = some cdD_Clash)
    (mD_Clash : PySem.W.mroIn K C_Clash (.ref Da_Clash) = some true)
    (aL_Clash : PySem.W.nsIn K mainGlobals "LotsError" = some (some (.ref CL_Clash)))
    (bL_Clash : PySem.W.clsIn K CL_Clash = some cdL_Clash)
    (eM_Clash : (((Value.ref C_Clash) :: bm_Clash).dropWhile (· != .ref Da_Clash)).drop 1 = cdL_Clash.mro)
    (sL_Clash : PySem.W.findIn K (.ref CL_Clash) "__init__" = some (some (.builtin "ValueError.__init__")))
    (i9_Clash : PySem.XcX.SupCall m_Clash j_Clash s0_Clash s1_Clash s2_Clash s3_Clash s4_Clash)
    (i10_Clash : ∀ u v : Value, bindArgs (PySem.W.ksFn "__init__" qu_Clash (PySem.XcX.iA "residue" p1_Clash p2_Clash) (PySem.XcX.iB "residue" m_Clash j_Clash s0_Clash s1_Clash s2_Clash s3_Clash s4_Clash s5_Clash q1_Clash q2_Clash q3_Clash q4_Clash) (PySem.XcX.iS "residue") .none .none doc_Clash pm_Clash an_Clash (.ref cda_Clash) ct_Clash cc_Clash) ⟨[u, v], []⟩ = pure [(("self" : Str), u), ("residue", v)])
    (a_InvalidModulus : PySem.W.nsIn K mainGlobals "InvalidModulus" = some (some (.ref C_InvalidModulus)))
    (ic_InvalidModulus : PySem.W.isClsIn K C_InvalidModulus = true)
    (ty_InvalidModulus : PySem.W.typeIn K (.ref C_InvalidModulus) = some (.type "type"))
    (ex_InvalidModulus : PySem.W.subIn K (.ref C_InvalidModulus) (.type "BaseException") = some true)
    (xL_InvalidModulus : K.lookup C_InvalidModulus = some (excClassObj nm_InvalidModulus q_InvalidModulus C_InvalidModulus N_InvalidModulus bs_InvalidModulus bm_InvalidModulus true sn_InvalidModulus su_InvalidModulus ab_InvalidModulus col_InvalidModulus dd_InvalidModulus k0_InvalidModulus k1_InvalidModulus k2_InvalidModulus k3_InvalidModulus k5_InvalidModulus "ValueError.__new__"))
    (hb_InvalidModulus : refsVE bm_InvalidModulus = true)
    (sa_InvalidModulus : PySem.W.findIn K (.ref C_InvalidModulus) "__setattr__" = some (some (.builtin "object.__setattr__")))
    (ga_InvalidModulus : PySem.W.findIn K (.ref C_InvalidModulus) "__getattribute__" = some (some (.builtin "BaseException.__getattribute__")))
    (gg_InvalidModulus : PySem.W.findIn K (.ref C_InvalidModulus) "__getattr__" = some none)
    (noN_InvalidModulus : PySem.W.findIn K (.ref C_InvalidModulus) "modulus" = some none)
    (iC_InvalidModulus : PySem.W.findIn K (.ref C_InvalidModulus) "__init__" = some (some (.ref I_InvalidModulus)))
    (tC_InvalidModulus : PySem.W.typeIn K (.ref I_InvalidModulus) = some (.type "function"))
    (kC_InvalidModulus : PySem.W.keepIn K (.ref C_InvalidModulus) = true)
    (hd_InvalidModulus : PySem.W.hasDictIn K C_InvalidModulus = true)
    (ve_InvalidModulus : PySem.W.subIn K (.ref C_InvalidModulus) (.type "ValueError") = some true)
    (l1_InvalidModulus : K.lookup I_InvalidModulus = some ⟨oc_InvalidModulus, od_InvalidModulus, .func (PySem.W.ksFn "__init__" qu_InvalidModulus (PySem.XcX.iA "modulus" p1_InvalidModulus p2_InvalidModulus) (PySem.XcX.iB "modulus" m_InvalidModulus j_InvalidModulus s0_InvalidModulus s1_InvalidModulus s2_InvalidModulus s3_InvalidModulus s4_InvalidModulus s5_InvalidModulus q1_InvalidModulus q2_InvalidModulus q3_InvalidModulus q4_InvalidModulus) (PySem.XcX.iS "modulus") .none .none doc_InvalidModulus pm_InvalidModulus an_InvalidModulus (.ref cda_InvalidModulus) ct_InvalidModulus cc_InvalidModulus), osl_InvalidModulus⟩)
    (cI_InvalidModulus : PySem.W.codeIn K (.ref cda_InvalidModulus) qu_InvalidModulus = true)
    (l2_InvalidModulus : K.lookup cda_InvalidModulus = some ⟨ccl_InvalidModulus, cdd_InvalidModulus, .fields vs_InvalidModulus, ccs_InvalidModulus⟩)
    (v2_InvalidModulus : vs_InvalidModulus[2]? = some (.str fi_InvalidModulus tf_InvalidModulus))
    (fe_InvalidModulus : ((l.prog.main.file : Str) == fi_InvalidModulus) = true)
    (l3_InvalidModulus : K.lookup cc_InvalidModulus = some ⟨cl_InvalidModulus, cld_InvalidModulus, .cell (some (.ref Da_InvalidModulus)), csl_InvalidModulus⟩)
    (cD_InvalidModulus : PySem.W.clsIn K Da_InvalidModulus = some cdD_InvalidModulus)
    (mD_InvalidModulus : PySem.W.mroIn K C_InvalidModulus (.ref Da_InvalidModulus) = some true)
    (aL_InvalidModulus : PySem.W.nsIn K mainGlobals "LotsError" = some (some (.ref CL_InvalidModulus)))
    (bL_InvalidModulus : PySem.W.clsIn K CL_InvalidModulus = some cdL_InvalidModulus)
    (eM_InvalidModulus : (((Value.ref C_InvalidModulus) :: bm_InvalidModulus).dropWhile (· != .ref Da_InvalidModulus)).drop 1 = cdL_InvalidModulus.mro)
    (sL_InvalidModulus : PySem.W.findIn K (.ref CL_InvalidModulus) "__init__" = some (some (.builtin "ValueError.__init__")))
    (i9_InvalidModulus : PySem.XcX.SupCall m_InvalidModulus j_InvalidModulus s0_InvalidModulus s1_InvalidModulus s2_InvalidModulus s3_InvalidModulus s4_InvalidModulus)
    (i10_InvalidModulus : ∀ u v : Value, bindArgs (PySem.W.ksFn "__init__" qu_InvalidModulus (PySem.XcX.iA "modulus" p1_InvalidModulus p2_InvalidModulus) (PySem.XcX.iB "modulus" m_InvalidModulus j_InvalidModulus s0_InvalidModulus s1_InvalidModulus s2_InvalidModulus s3_InvalidModulus s4_InvalidModulus s5_InvalidModulus q1_InvalidModulus q2_InvalidModulus q3_InvalidModulus q4_InvalidModulus) (PySem.XcX.iS "modulus") .none .none doc_InvalidModulus pm_InvalidModulus an_InvalidModulus (.ref cda_InvalidModulus) ct_InvalidModulus cc_InvalidModulus) ⟨[u, v], []⟩ = pure [(("self" : Str), u), ("modulus", v)])
    (a_RepeatedMember : PySem.W.nsIn K mainGlobals "RepeatedMember" = some (some (.ref C_RepeatedMember)))
    (ic_RepeatedMember : PySem.W.isClsIn K C_RepeatedMember = true)
    (ty_RepeatedMember : PySem.W.typeIn K (.ref C_RepeatedMember) = some (.type "type"))
    (ex_RepeatedMember : PySem.W.subIn K (.ref C_RepeatedMember) (.type "BaseException") = some true)
    (xL_RepeatedMember : K.lookup C_RepeatedMember = some (excClassObj nm_RepeatedMember q_RepeatedMember C_RepeatedMember N_RepeatedMember bs_RepeatedMember bm_RepeatedMember true sn_RepeatedMember su_RepeatedMember ab_RepeatedMember col_RepeatedMember dd_RepeatedMember k0_RepeatedMember k1_RepeatedMember k2_RepeatedMember k3_RepeatedMember k5_RepeatedMember "ValueError.__new__"))
    (hb_RepeatedMember : refsVE bm_RepeatedMember = true)
    (sa_RepeatedMember : PySem.W.findIn K (.ref C_RepeatedMember) "__setattr__" = some (some (.builtin "object.__setattr__")))
    (ga_RepeatedMember : PySem.W.findIn K (.ref C_RepeatedMember) "__getattribute__" = some (some (.builtin "BaseException.__getattribute__")))
    (gg_RepeatedMember : PySem.W.findIn K (.ref C_RepeatedMember) "__getattr__" = some none)
    (noN_RepeatedMember : PySem.W.findIn K (.ref C_RepeatedMember) "number" = some none)
    (iC_RepeatedMember : PySem.W.findIn K (.ref C_RepeatedMember) "__init__" = some (some (.ref I_RepeatedMember)))
    (tC_RepeatedMember : PySem.W.typeIn K (.ref I_RepeatedMember) = some (.type "function"))
    (kC_RepeatedMember : PySem.W.keepIn K (.ref C_RepeatedMember) = true)
    (hd_RepeatedMember : PySem.W.hasDictIn K C_RepeatedMember = true)
    (ve_RepeatedMember : PySem.W.subIn K (.ref C_RepeatedMember) (.type "ValueError") = some true)
    (l1_RepeatedMember : K.lookup I_RepeatedMember = some ⟨oc_RepeatedMember, od_RepeatedMember, .func (PySem.W.ksFn "__init__" qu_RepeatedMember (PySem.XcX.iA "number" p1_RepeatedMember p2_RepeatedMember) (PySem.XcX.iB "number" m_RepeatedMember j_RepeatedMember s0_RepeatedMember s1_RepeatedMember s2_RepeatedMember s3_RepeatedMember s4_RepeatedMember s5_RepeatedMember q1_RepeatedMember q2_RepeatedMember q3_RepeatedMember q4_RepeatedMember) (PySem.XcX.iS "number") .none .none doc_RepeatedMember pm_RepeatedMember an_RepeatedMember (.ref cda_RepeatedMember) ct_RepeatedMember cc_RepeatedMember), osl_RepeatedMember⟩)
    (cI_RepeatedMember : PySem.W.codeIn K (.ref cda_RepeatedMember) qu_RepeatedMember = true)
    (l2_RepeatedMember : K.lookup cda_RepeatedMember = some ⟨ccl_RepeatedMember, cdd_RepeatedMember, .fields vs_RepeatedMember, ccs_RepeatedMember⟩)
    (v2_RepeatedMember : vs_RepeatedMember[2]? = some (.str fi_RepeatedMember tf_RepeatedMember))
    (fe_RepeatedMember : ((l.prog.main.file : Str) == fi_RepeatedMember) = true)
    (l3_RepeatedMember : K.lookup cc_RepeatedMember = some ⟨cl_RepeatedMember, cld_RepeatedMember, .cell (some (.ref Da_RepeatedMember)), csl_RepeatedMember⟩)
    (cD_RepeatedMember : PySem.W.clsIn K Da_RepeatedMember = some cdD_RepeatedMember)
    (mD_RepeatedMember : PySem.W.mroIn K C_RepeatedMember (.ref Da_RepeatedMember) = some true)
    (aL_RepeatedMember : PySem.W.nsIn K mainGlobals "LotsError" = some (some (.ref CL_RepeatedMember)))
    (bL_RepeatedMember : PySem.W.clsIn K CL_RepeatedMember = some cdL_RepeatedMember)
    (eM_RepeatedMember : (((Value.ref C_RepeatedMember) :: bm_RepeatedMember).dropWhile (· != .ref Da_RepeatedMember)).drop 1 = cdL_RepeatedMember.mro)
    (sL_RepeatedMember : PySem.W.findIn K (.ref CL_RepeatedMember) "__init__" = some (some (.builtin "ValueError.__init__")))
    (i9_RepeatedMember : PySem.XcX.SupCall m_RepeatedMember j_RepeatedMember s0_RepeatedMember s1_RepeatedMember s2_RepeatedMember s3_RepeatedMember s4_RepeatedMember)
    (i10_RepeatedMember : ∀ u v : Value, bindArgs (PySem.W.ksFn "__init__" qu_RepeatedMember (PySem.XcX.iA "number" p1_RepeatedMember p2_RepeatedMember) (PySem.XcX.iB "number" m_RepeatedMember j_RepeatedMember s0_RepeatedMember s1_RepeatedMember s2_RepeatedMember s3_RepeatedMember s4_RepeatedMember s5_RepeatedMember q1_RepeatedMember q2_RepeatedMember q3_RepeatedMember q4_RepeatedMember) (PySem.XcX.iS "number") .none .none doc_RepeatedMember pm_RepeatedMember an_RepeatedMember (.ref cda_RepeatedMember) ct_RepeatedMember cc_RepeatedMember) ⟨[u, v], []⟩ = pure [(("self" : Str), u), ("number", v)])
    (a_LotsError : PySem.W.nsIn K mainGlobals "LotsError" = some (some (.ref C_LotsError)))
    (ic_LotsError : PySem.W.isClsIn K C_LotsError = true)
    (ty_LotsError : PySem.W.typeIn K (.ref C_LotsError) = some (.type "type"))
    (ex_LotsError : PySem.W.subIn K (.ref C_LotsError) (.type "BaseException") = some true)
    (a_EmptyLot : PySem.W.nsIn K mainGlobals "EmptyLot" = some (some (.ref C_EmptyLot)))
    (ic_EmptyLot : PySem.W.isClsIn K C_EmptyLot = true)
    (ty_EmptyLot : PySem.W.typeIn K (.ref C_EmptyLot) = some (.type "type"))
    (ex_EmptyLot : PySem.W.subIn K (.ref C_EmptyLot) (.type "BaseException") = some true)
    (xI_EmptyLot : PySem.W.excIn K C_EmptyLot [.type "ValueError", .type "Exception", .type "BaseException", .type "object"] "ValueError.__new__" = true)
    (kC_EmptyLot : PySem.W.keepIn K (.ref C_EmptyLot) = true)
    (nS : PySem.W.nsIn K mainGlobals "super" = some none)
    (nT : PySem.W.nsIn K cStatics "thirdparty.any" = some none)
    (nM : (l.prog.main.scope.names.lookup ("super" : Str)).isSome = false)
    (s_Clash_Clash : PySem.W.subIn K (.ref C_Clash) (.ref C_Clash) = some true)
    (s_InvalidModulus_Clash : PySem.W.subIn K (.ref C_InvalidModulus) (.ref C_Clash) = some false)
    (s_EmptyLot_Clash : PySem.W.subIn K (.ref C_EmptyLot) (.ref C_Clash) = some false)
    (s_RepeatedMember_Clash : PySem.W.subIn K (.ref C_RepeatedMember) (.ref C_Clash) = some false)
    (s_Clash_LotsError : PySem.W.subIn K (.ref C_Clash) (.ref C_LotsError) = some true)
    (s_InvalidModulus_LotsError : PySem.W.subIn K (.ref C_InvalidModulus) (.ref C_LotsError) = some true)
    (s_EmptyLot_LotsError : PySem.W.subIn K (.ref C_EmptyLot) (.ref C_LotsError) = some true)
    (s_RepeatedMember_LotsError : PySem.W.subIn K (.ref C_RepeatedMember) (.ref C_LotsError) = some true)
    (a_Lot : PySem.W.nsIn K mainGlobals "Lot" = some (some (.ref C_Lot)))
    (pg_Lot : PySem.W.plainGet K C_Lot Str.empty = true)
    (hd_Lot : PySem.W.hasDictIn K C_Lot = true)
    (po_Lot : PySem.W.plainOver K C_Lot = true)
    (sa_Lot : PySem.W.findIn K (.ref C_Lot) "__setattr__" = some (some (.builtin "object.__setattr__")))
    (ka_Lot_LARGEST : PySem.W.findIn K (.ref C_Lot) "LARGEST" = some (some (.int 1000 t_Lot_LARGEST)))
    (kg_Lot_LARGEST : PySem.W.specialIn K (.int 1000 t_Lot_LARGEST) "__get__" = some none)
    (za_Lot : PySem.W.findIn K (.ref C_Lot) "__class__" = some (some (.builtin "object.__class__")))
    (zn_Lot : PySem.W.specialIn K (.builtin "object.__class__") "__get__" = some (some (.builtin "getset_descriptor.__get__")))
    (zt_Lot : PySem.W.takesIn K (.builtin "object.__class__") = some true)
    (zm_Lot : PySem.W.mroIn K C_Lot (.type "object") = some true)
    (mk_Lot : PySem.W.makesIn K C_Lot = true)
    (mc_Lot : PySem.W.keepIn K (.ref C_Lot) = true)
    (n_Lot__members : PySem.W.findIn K (.ref C_Lot) "_members" = some none)
    (n_Lot_modulus : PySem.W.findIn K (.ref C_Lot) "modulus" = some none)
    (a_l_cell : PySem.W.nsIn K mainGlobals "_law_cell" = some (some (.ref A_l_cell)))
    (l_l_cell : K.lookup A_l_cell = some ⟨oc_l_cell, od_l_cell, .func (PySem.W.fnOf "_law_cell" "_law_cell" (defArgs (top 22)) (defBody (top 22)) (defScope (top 22)) .none kV_l_cell dc_l_cell pm_l_cell an_l_cell cd_l_cell ct_l_cell), sl_l_cell⟩)
    (c_l_cell : PySem.W.codeIn K cd_l_cell "_law_cell" = true)
    (k_l_cell : PySem.W.keepIn K (.ref A_l_cell) = true)
    (a_l_draws : PySem.W.nsIn K mainGlobals "_law_draws" = some (some (.ref A_l_draws)))
    (l_l_draws : K.lookup A_l_draws = some ⟨oc_l_draws, od_l_draws, .func (PySem.W.fnOf "_law_draws" "_law_draws" (defArgs (top 23)) (defBody (top 23)) (defScope (top 23)) .none kV_l_draws dc_l_draws pm_l_draws an_l_draws cd_l_draws ct_l_draws), sl_l_draws⟩)
    (c_l_draws : PySem.W.codeIn K cd_l_draws "_law_draws" = true)
    (k_l_draws : PySem.W.keepIn K (.ref A_l_draws) = true)
    (a_l_modulus : PySem.W.nsIn K mainGlobals "_law_modulus" = some (some (.ref A_l_modulus)))
    (l_l_modulus : K.lookup A_l_modulus = some ⟨oc_l_modulus, od_l_modulus, .func (PySem.W.fnOf "_law_modulus" "_law_modulus" (defArgs (top 26)) (defBody (top 26)) (defScope (top 26)) .none kV_l_modulus dc_l_modulus pm_l_modulus an_l_modulus cd_l_modulus ct_l_modulus), sl_l_modulus⟩)
    (c_l_modulus : PySem.W.codeIn K cd_l_modulus "_law_modulus" = true)
    (k_l_modulus : PySem.W.keepIn K (.ref A_l_modulus) = true)
    (a_l_handed : PySem.W.nsIn K mainGlobals "_law_handed" = some (some (.ref A_l_handed)))
    (l_l_handed : K.lookup A_l_handed = some ⟨oc_l_handed, od_l_handed, .func (PySem.W.fnOf "_law_handed" "_law_handed" (defArgs (top 28)) (defBody (top 28)) (defScope (top 28)) .none kV_l_handed dc_l_handed pm_l_handed an_l_handed cd_l_handed ct_l_handed), sl_l_handed⟩)
    (c_l_handed : PySem.W.codeIn K cd_l_handed "_law_handed" = true)
    (k_l_handed : PySem.W.keepIn K (.ref A_l_handed) = true)
    (a_l_same : PySem.W.nsIn K mainGlobals "_law_same" = some (some (.ref A_l_same)))
    (l_l_same : K.lookup A_l_same = some ⟨oc_l_same, od_l_same, .func (PySem.W.fnOf "_law_same" "_law_same" (defArgs (top 29)) (defBody (top 29)) (defScope (top 29)) .none kV_l_same dc_l_same pm_l_same an_l_same cd_l_same ct_l_same), sl_l_same⟩)
    (c_l_same : PySem.W.codeIn K cd_l_same "_law_same" = true)
    (k_l_same : PySem.W.keepIn K (.ref A_l_same) = true)
    (a_Lot_members : PySem.W.findIn K (.ref C_Lot) "members" = some (some (.ref P_Lot_members)))
    (g_Lot_members : PySem.W.specialIn K (.ref P_Lot_members) "__get__" = some (some (.builtin "property.__get__")))
    (t_Lot_members : PySem.W.takesIn K (.ref P_Lot_members) = some true)
    (r_Lot_members : PySem.W.recIn K P_Lot_members "property" = some (.ref A_Lot_members :: rr_Lot_members))
    (if_Lot_members : PySem.W.isFn K (.ref A_Lot_members) = true)
    (l_Lot_members : K.lookup A_Lot_members = some ⟨oc_Lot_members, od_Lot_members, .func (PySem.W.fnOf "members" "Lot.members" (defArgs (inClass (top 20) 5)) (defBody (inClass (top 20) 5)) (defScope (inClass (top 20) 5)) .none kV_Lot_members dc_Lot_members pm_Lot_members an_Lot_members cd_Lot_members ct_Lot_members), sl_Lot_members⟩)
    (c_Lot_members : PySem.W.codeIn K cd_Lot_members "Lot.members" = true)
    (k_Lot_members : PySem.W.keepIn K (.ref A_Lot_members) = true)
    (a_Lot___len__ : PySem.W.findIn K (.ref C_Lot) "__len__" = some (some (.ref A_Lot___len__)))
    (if_Lot___len__ : PySem.W.isFn K (.ref A_Lot___len__) = true)
    (l_Lot___len__ : K.lookup A_Lot___len__ = some ⟨oc_Lot___len__, od_Lot___len__, .func (PySem.W.fnOf "__len__" "Lot.__len__" (defArgs (inClass (top 20) 9)) (defBody (inClass (top 20) 9)) (defScope (inClass (top 20) 9)) .none kV_Lot___len__ dc_Lot___len__ pm_Lot___len__ an_Lot___len__ cd_Lot___len__ ct_Lot___len__), sl_Lot___len__⟩)
    (c_Lot___len__ : PySem.W.codeIn K cd_Lot___len__ "Lot.__len__" = true)
    (k_Lot___len__ : PySem.W.keepIn K (.ref A_Lot___len__) = true)
    (a_Lot___iter__ : PySem.W.findIn K (.ref C_Lot) "__iter__" = some (some (.ref A_Lot___iter__)))
    (if_Lot___iter__ : PySem.W.isFn K (.ref A_Lot___iter__) = true)
    (l_Lot___iter__ : K.lookup A_Lot___iter__ = some ⟨oc_Lot___iter__, od_Lot___iter__, .func (PySem.W.fnOf "__iter__" "Lot.__iter__" (defArgs (inClass (top 20) 10)) (defBody (inClass (top 20) 10)) (defScope (inClass (top 20) 10)) .none kV_Lot___iter__ dc_Lot___iter__ pm_Lot___iter__ an_Lot___iter__ cd_Lot___iter__ ct_Lot___iter__), sl_Lot___iter__⟩)
    (c_Lot___iter__ : PySem.W.codeIn K cd_Lot___iter__ "Lot.__iter__" = true)
    (k_Lot___iter__ : PySem.W.keepIn K (.ref A_Lot___iter__) = true)
    (a_Lot___contains__ : PySem.W.findIn K (.ref C_Lot) "__contains__" = some (some (.ref A_Lot___contains__)))
    (if_Lot___contains__ : PySem.W.isFn K (.ref A_Lot___contains__) = true)
    (l_Lot___contains__ : K.lookup A_Lot___contains__ = some ⟨oc_Lot___contains__, od_Lot___contains__, .func (PySem.W.fnOf "__contains__" "Lot.__contains__" (defArgs (inClass (top 20) 11)) (defBody (inClass (top 20) 11)) (defScope (inClass (top 20) 11)) .none kV_Lot___contains__ dc_Lot___contains__ pm_Lot___contains__ an_Lot___contains__ cd_Lot___contains__ ct_Lot___contains__), sl_Lot___contains__⟩)
    (c_Lot___contains__ : PySem.W.codeIn K cd_Lot___contains__ "Lot.__contains__" = true)
    (k_Lot___contains__ : PySem.W.keepIn K (.ref A_Lot___contains__) = true)
    (a_l_is_lot : PySem.W.nsIn K mainGlobals "_law_is_lot" = some (some (.ref A_l_is_lot)))
    (l_l_is_lot : K.lookup A_l_is_lot = some ⟨oc_l_is_lot, od_l_is_lot, .func (PySem.W.fnOf "_law_is_lot" "_law_is_lot" (defArgs (top 30)) (defBody (top 30)) (defScope (top 30)) .none kV_l_is_lot dc_l_is_lot pm_l_is_lot an_l_is_lot cd_l_is_lot ct_l_is_lot), sl_l_is_lot⟩)
    (c_l_is_lot : PySem.W.codeIn K cd_l_is_lot "_law_is_lot" = true)
    (k_l_is_lot : PySem.W.keepIn K (.ref A_l_is_lot) = true)
    (a_l_rest : PySem.W.nsIn K mainGlobals "_law_rest" = some (some (.ref A_l_rest)))
    (l_l_rest : K.lookup A_l_rest = some ⟨oc_l_rest, od_l_rest, .func (PySem.W.fnOf "_law_rest" "_law_rest" (defArgs (top 24)) (defBody (top 24)) (defScope (top 24)) .none kV_l_rest dc_l_rest pm_l_rest an_l_rest cd_l_rest ct_l_rest), sl_l_rest⟩)
    (c_l_rest : PySem.W.codeIn K cd_l_rest "_law_rest" = true)
    (k_l_rest : PySem.W.keepIn K (.ref A_l_rest) = true)
    (a_l_members : PySem.W.nsIn K mainGlobals "_law_members" = some (some (.ref A_l_members)))
    (l_l_members : K.lookup A_l_members = some ⟨oc_l_members, od_l_members, .func (PySem.W.fnOf "_law_members" "_law_members" (defArgs (top 27)) (defBody (top 27)) (defScope (top 27)) .none kV_l_members dc_l_members pm_l_members an_l_members cd_l_members ct_l_members), sl_l_members⟩)
    (c_l_members : PySem.W.codeIn K cd_l_members "_law_members" = true)
    (k_l_members : PySem.W.keepIn K (.ref A_l_members) = true)
    (a_l_any_set : PySem.W.nsIn K mainGlobals "_law_any_set" = some (some (.ref A_l_any_set)))
    (l_l_any_set : K.lookup A_l_any_set = some ⟨oc_l_any_set, od_l_any_set, .func (PySem.W.fnOf "_law_any_set" "_law_any_set" (defArgs (top 32)) (defBody (top 32)) (defScope (top 32)) .none kV_l_any_set dc_l_any_set pm_l_any_set an_l_any_set cd_l_any_set ct_l_any_set), sl_l_any_set⟩)
    (c_l_any_set : PySem.W.codeIn K cd_l_any_set "_law_any_set" = true)
    (k_l_any_set : PySem.W.keepIn K (.ref A_l_any_set) = true)
    (a_l_residues : PySem.W.nsIn K mainGlobals "_law_residues" = some (some (.ref A_l_residues)))
    (l_l_residues : K.lookup A_l_residues = some ⟨oc_l_residues, od_l_residues, .func (PySem.W.fnOf "_law_residues" "_law_residues" (defArgs (top 33)) (defBody (top 33)) (defScope (top 33)) .none kV_l_residues dc_l_residues pm_l_residues an_l_residues cd_l_residues ct_l_residues), sl_l_residues⟩)
    (c_l_residues : PySem.W.codeIn K cd_l_residues "_law_residues" = true)
    (k_l_residues : PySem.W.keepIn K (.ref A_l_residues) = true)
    (a_l_twice : PySem.W.nsIn K mainGlobals "_law_twice" = some (some (.ref A_l_twice)))
    (l_l_twice : K.lookup A_l_twice = some ⟨oc_l_twice, od_l_twice, .func (PySem.W.fnOf "_law_twice" "_law_twice" (defArgs (top 34)) (defBody (top 34)) (defScope (top 34)) .none kV_l_twice dc_l_twice pm_l_twice an_l_twice cd_l_twice ct_l_twice), sl_l_twice⟩)
    (c_l_twice : PySem.W.codeIn K cd_l_twice "_law_twice" = true)
    (k_l_twice : PySem.W.keepIn K (.ref A_l_twice) = true)
    (a_l_integer : PySem.W.nsIn K mainGlobals "_law_integer" = some (some (.ref A_l_integer)))
    (l_l_integer : K.lookup A_l_integer = some ⟨oc_l_integer, od_l_integer, .func (PySem.W.fnOf "_law_integer" "_law_integer" (defArgs (top 25)) (defBody (top 25)) (defScope (top 25)) .none kV_l_integer dc_l_integer pm_l_integer an_l_integer cd_l_integer ct_l_integer), sl_l_integer⟩)
    (c_l_integer : PySem.W.codeIn K cd_l_integer "_law_integer" = true)
    (k_l_integer : PySem.W.keepIn K (.ref A_l_integer) = true)
    (a_l_gcd : PySem.W.nsIn K mainGlobals "_law_gcd" = some (some (.ref A_l_gcd)))
    (l_l_gcd : K.lookup A_l_gcd = some ⟨oc_l_gcd, od_l_gcd, .func (PySem.W.fnOf "_law_gcd" "_law_gcd" (defArgs (top 31)) (defBody (top 31)) (defScope (top 31)) .none kV_l_gcd dc_l_gcd pm_l_gcd an_l_gcd cd_l_gcd ct_l_gcd), sl_l_gcd⟩)
    (c_l_gcd : PySem.W.codeIn K cd_l_gcd "_law_gcd" = true)
    (k_l_gcd : PySem.W.keepIn K (.ref A_l_gcd) = true)
    (a_l_coprime : PySem.W.nsIn K mainGlobals "_law_coprime" = some (some (.ref A_l_coprime)))
    (l_l_coprime : K.lookup A_l_coprime = some ⟨oc_l_coprime, od_l_coprime, .func (PySem.W.fnOf "_law_coprime" "_law_coprime" (defArgs (top 35)) (defBody (top 35)) (defScope (top 35)) .none kV_l_coprime dc_l_coprime pm_l_coprime an_l_coprime cd_l_coprime ct_l_coprime), sl_l_coprime⟩)
    (c_l_coprime : PySem.W.codeIn K cd_l_coprime "_law_coprime" = true)
    (k_l_coprime : PySem.W.keepIn K (.ref A_l_coprime) = true)
    (a_l_factor : PySem.W.nsIn K mainGlobals "_law_factor" = some (some (.ref A_l_factor)))
    (l_l_factor : K.lookup A_l_factor = some ⟨oc_l_factor, od_l_factor, .func (PySem.W.fnOf "_law_factor" "_law_factor" (defArgs (top 36)) (defBody (top 36)) (defScope (top 36)) .none kV_l_factor dc_l_factor pm_l_factor an_l_factor cd_l_factor ct_l_factor), sl_l_factor⟩)
    (c_l_factor : PySem.W.codeIn K cd_l_factor "_law_factor" = true)
    (k_l_factor : PySem.W.keepIn K (.ref A_l_factor) = true)
    (a_p_residues_of : PySem.W.nsIn K mainGlobals "residues_of" = some (some (.ref A_p_residues_of)))
    (l_p_residues_of : K.lookup A_p_residues_of = some ⟨oc_p_residues_of, od_p_residues_of, .func (PySem.W.fnOf "residues_of" "residues_of" (defArgs (top 18)) (defBody (top 18)) (defScope (top 18)) .none kV_p_residues_of dc_p_residues_of pm_p_residues_of an_p_residues_of cd_p_residues_of ct_p_residues_of), sl_p_residues_of⟩)
    (c_p_residues_of : PySem.W.codeIn K cd_p_residues_of "residues_of" = true)
    (k_p_residues_of : PySem.W.keepIn K (.ref A_p_residues_of) = true)
    (a_p_first_repeated : PySem.W.nsIn K mainGlobals "first_repeated" = some (some (.ref A_p_first_repeated)))
    (l_p_first_repeated : K.lookup A_p_first_repeated = some ⟨oc_p_first_repeated, od_p_first_repeated, .func (PySem.W.fnOf "first_repeated" "first_repeated" (defArgs (top 19)) (defBody (top 19)) (defScope (top 19)) .none kV_p_first_repeated dc_p_first_repeated pm_p_first_repeated an_p_first_repeated cd_p_first_repeated ct_p_first_repeated), sl_p_first_repeated⟩)
    (c_p_first_repeated : PySem.W.codeIn K cd_p_first_repeated "first_repeated" = true)
    (k_p_first_repeated : PySem.W.keepIn K (.ref A_p_first_repeated) = true)
    (a_Lot___init__ : PySem.W.findIn K (.ref C_Lot) "__init__" = some (some (.ref A_Lot___init__)))
    (if_Lot___init__ : PySem.W.isFn K (.ref A_Lot___init__) = true)
    (l_Lot___init__ : K.lookup A_Lot___init__ = some ⟨oc_Lot___init__, od_Lot___init__, .func (PySem.W.fnOf "__init__" "Lot.__init__" (defArgs (inClass (top 20) 1)) (defBody (inClass (top 20) 1)) (defScope (inClass (top 20) 1)) .none kV_Lot___init__ dc_Lot___init__ pm_Lot___init__ an_Lot___init__ cd_Lot___init__ ct_Lot___init__), sl_Lot___init__⟩)
    (c_Lot___init__ : PySem.W.codeIn K cd_Lot___init__ "Lot.__init__" = true)
    (k_Lot___init__ : PySem.W.keepIn K (.ref A_Lot___init__) = true)
    (a_Lot___mul__ : PySem.W.findIn K (.ref C_Lot) "__mul__" = some (some (.ref A_Lot___mul__)))
    (if_Lot___mul__ : PySem.W.isFn K (.ref A_Lot___mul__) = true)
    (v1_Lot___mul__ : PySem.W.selfFirst K C_Lot = true)
    (v2q_Lot___mul__ : PySem.W.findIn K (.ref C_Lot) "__rmul__" = some u3_Lot___mul__)
    (v3_Lot___mul__ : PySem.W.findIn K (.type "int") "__mul__" = some u1_Lot___mul__)
    (v4_Lot___mul__ : PySem.W.findIn K (.type "int") "__rmul__" = some u2_Lot___mul__)
    (v5_Lot___mul__ : PySem.W.subIn K (.type "int") (.ref C_Lot) = some false)
    (v6_Lot___mul__ : u3_Lot___mul__ = none ∨ ∃ g : Addr, u3_Lot___mul__ = some (.ref g))
    (l_Lot___mul__ : K.lookup A_Lot___mul__ = some ⟨oc_Lot___mul__, od_Lot___mul__, .func (PySem.W.fnOf "__mul__" "Lot.__mul__" (defArgs (inClass (top 20) 19)) (defBody (inClass (top 20) 19)) (defScope (inClass (top 20) 19)) .none kV_Lot___mul__ dc_Lot___mul__ pm_Lot___mul__ an_Lot___mul__ cd_Lot___mul__ ct_Lot___mul__), sl_Lot___mul__⟩)
    (c_Lot___mul__ : PySem.W.codeIn K cd_Lot___mul__ "Lot.__mul__" = true)
    (k_Lot___mul__ : PySem.W.keepIn K (.ref A_Lot___mul__) = true)
    (a_Lot___rmul__ : PySem.W.findIn K (.ref C_Lot) "__rmul__" = some (some (.ref A_Lot___rmul__)))
    (if_Lot___rmul__ : PySem.W.isFn K (.ref A_Lot___rmul__) = true)
    (v0_Lot___rmul__ : PySem.W.findIn K (.ref C_Lot) "__mul__" = some (some (.ref Mm_Lot___rmul__)))
    (v1_Lot___rmul__ : PySem.W.selfFirst K C_Lot = true)
    (v3_Lot___rmul__ : PySem.W.findIn K (.type "int") "__mul__" = some u1_Lot___rmul__)
    (v4_Lot___rmul__ : PySem.W.findIn K (.type "int") "__rmul__" = some u2_Lot___rmul__)
    (v5_Lot___rmul__ : PySem.W.subIn K (.ref C_Lot) (.type "int") = some false)
    (l_Lot___rmul__ : K.lookup A_Lot___rmul__ = some ⟨oc_Lot___rmul__, od_Lot___rmul__, .func (PySem.W.fnOf "__rmul__" "Lot.__rmul__" (defArgs (inClass (top 20) 20)) (defBody (inClass (top 20) 20)) (defScope (inClass (top 20) 20)) .none kV_Lot___rmul__ dc_Lot___rmul__ pm_Lot___rmul__ an_Lot___rmul__ cd_Lot___rmul__ ct_Lot___rmul__), sl_Lot___rmul__⟩)
    (c_Lot___rmul__ : PySem.W.codeIn K cd_Lot___rmul__ "Lot.__rmul__" = true)
    (k_Lot___rmul__ : PySem.W.keepIn K (.ref A_Lot___rmul__) = true)
    (a_l_times : PySem.W.nsIn K mainGlobals "_law_times" = some (some (.ref A_l_times)))
    (l_l_times : K.lookup A_l_times = some ⟨oc_l_times, od_l_times, .func (PySem.W.fnOf "_law_times" "_law_times" (defArgs (top 37)) (defBody (top 37)) (defScope (top 37)) .none kV_l_times dc_l_times pm_l_times an_l_times cd_l_times ct_l_times), sl_l_times⟩)
    (c_l_times : PySem.W.codeIn K cd_l_times "_law_times" = true)
    (k_l_times : PySem.W.keepIn K (.ref A_l_times) = true)
    (a_law : PySem.W.nsIn K mainGlobals "law" = some (some (.ref A_law)))
    (l_law : K.lookup A_law = some ⟨oc_law, od_law, .func (PySem.W.fnOf "law" "law" (defArgs (top 38)) (defBody (top 38)) (defScope (top 38)) .none kV_law dc_law pm_law an_law cd_law ct_law), sl_law⟩)
    (c_law : PySem.W.codeIn K cd_law "law" = true)
    (k_law : PySem.W.keepIn K (.ref A_law) = true)
    (nb : ∀ x ∈ blts, PySem.W.nsIn K mainGlobals x = some none)
    (math : ∀ ns : List Int, ns.length ≤ 63 → (∀ z ∈ ns, Builtin.Int.intBits z ≤ 1048576) → f_law [.scr ns] = some (.ok .nw (.bl true))) :
    ∃ fd : FuncData, (∀ (s : Shared) (v : Value), BindsTo s fd ⟨[v], []⟩ [("script", v)]) ∧ ∀ base : Heap, K.In base → base.Ns mainGlobals mg → FnOk l.prog w K mg base (L2.CX l.prog w) 15 fa fd ["script"] (spLaw K) := by
  have e := hfa.symm.trans (PySem.W.mg_of X G a_law)
  cases e
  have F_l_cell := fun_mk (st := (top 22)) l_l_cell c_l_cell k_l_cell
  have b_l_cell := F_l_cell.binds (ps := ["script", "k"]) fun _ _ _ _ _ _ us hl => match us, hl with | [_, _], _ => rfl
  have F_l_draws := fun_mk (st := (top 23)) l_l_draws c_l_draws k_l_draws
  have b_l_draws := F_l_draws.binds (ps := ["cell", "limits"]) fun _ _ _ _ _ _ us hl => match us, hl with | [_, _], _ => rfl
  have F_l_modulus := fun_mk (st := (top 26)) l_l_modulus c_l_modulus k_l_modulus
  have b_l_modulus := F_l_modulus.binds (ps := ["cell", "small", "great"]) fun _ _ _ _ _ _ us hl => match us, hl with | [_, _, _], _ => rfl
  have F_l_handed := fun_mk (st := (top 28)) l_l_handed c_l_handed k_l_handed
  have b_l_handed := F_l_handed.binds (ps := ["cell", "n", "members"]) fun _ _ _ _ _ _ us hl => match us, hl with | [_, _, _], _ => rfl
  have F_l_same := fun_mk (st := (top 29)) l_l_same c_l_same k_l_same
  have b_l_same := F_l_same.binds (ps := ["actual", "expected"]) fun _ _ _ _ _ _ us hl => match us, hl with | [_, _], _ => rfl
  have F_Lot_members := fun_mk (st := (inClass (top 20) 5)) l_Lot_members c_Lot_members k_Lot_members
  have b_Lot_members := F_Lot_members.binds (ps := ["self"]) fun _ _ _ _ _ _ us hl => match us, hl with | [_], _ => rfl
  have F_Lot___len__ := fun_mk (st := (inClass (top 20) 9)) l_Lot___len__ c_Lot___len__ k_Lot___len__
  have b_Lot___len__ := F_Lot___len__.binds (ps := ["self"]) fun _ _ _ _ _ _ us hl => match us, hl with | [_], _ => rfl
  have F_Lot___iter__ := fun_mk (st := (inClass (top 20) 10)) l_Lot___iter__ c_Lot___iter__ k_Lot___iter__
  have b_Lot___iter__ := F_Lot___iter__.binds (ps := ["self"]) fun _ _ _ _ _ _ us hl => match us, hl with | [_], _ => rfl
  have F_Lot___contains__ := fun_mk (st := (inClass (top 20) 11)) l_Lot___contains__ c_Lot___contains__ k_Lot___contains__
  have b_Lot___contains__ := F_Lot___contains__.binds (ps := ["self", "number"]) fun _ _ _ _ _ _ us hl => match us, hl with | [_, _], _ => rfl
  have F_l_is_lot := fun_mk (st := (top 30)) l_l_is_lot c_l_is_lot k_l_is_lot
  have b_l_is_lot := F_l_is_lot.binds (ps := ["lot", "n", "members"]) fun _ _ _ _ _ _ us hl => match us, hl with | [_, _, _], _ => rfl
  have F_l_rest := fun_mk (st := (top 24)) l_l_rest c_l_rest k_l_rest
  have b_l_rest := F_l_rest.binds (ps := ["cell", "product"]) fun _ _ _ _ _ _ us hl => match us, hl with | [_, _], _ => rfl
  have F_l_members := fun_mk (st := (top 27)) l_l_members c_l_members k_l_members
  have b_l_members := F_l_members.binds (ps := ["cell", "n", "most"]) fun _ _ _ _ _ _ us hl => match us, hl with | [_, _, _], _ => rfl
  have F_l_any_set := fun_mk (st := (top 32)) l_l_any_set c_l_any_set k_l_any_set
  have b_l_any_set := F_l_any_set.binds (ps := ["script", "start", "n"]) fun _ _ _ _ _ _ us hl => match us, hl with | [_, _, _], _ => rfl
  have F_l_residues := fun_mk (st := (top 33)) l_l_residues c_l_residues k_l_residues
  have b_l_residues := F_l_residues.binds (ps := ["script", "place", "start", "n"]) fun _ _ _ _ _ _ us hl => match us, hl with | [_, _, _, _], _ => rfl
  have F_l_twice := fun_mk (st := (top 34)) l_l_twice c_l_twice k_l_twice
  have b_l_twice := F_l_twice.binds (ps := ["n", "numbers"]) fun _ _ _ _ _ _ us hl => match us, hl with | [_, _], _ => rfl
  have F_l_integer := fun_mk (st := (top 25)) l_l_integer c_l_integer k_l_integer
  have b_l_integer := F_l_integer.binds (ps := ["cell", "most"]) fun _ _ _ _ _ _ us hl => match us, hl with | [_, _], _ => rfl
  have F_l_gcd := fun_mk (st := (top 31)) l_l_gcd c_l_gcd k_l_gcd
  have b_l_gcd := F_l_gcd.binds (ps := ["one", "other"]) fun _ _ _ _ _ _ us hl => match us, hl with | [_, _], _ => rfl
  have F_l_coprime := fun_mk (st := (top 35)) l_l_coprime c_l_coprime k_l_coprime
  have b_l_coprime := F_l_coprime.binds (ps := ["start", "n"]) fun _ _ _ _ _ _ us hl => match us, hl with | [_, _], _ => rfl
  have F_l_factor := fun_mk (st := (top 36)) l_l_factor c_l_factor k_l_factor
  have b_l_factor := F_l_factor.binds (ps := ["script", "n"]) fun _ _ _ _ _ _ us hl => match us, hl with | [_, _], _ => rfl
  have F_p_residues_of := fun_mk (st := (top 18)) l_p_residues_of c_p_residues_of k_p_residues_of
  have b_p_residues_of := F_p_residues_of.binds (ps := ["modulus", "numbers"]) fun _ _ _ _ _ _ us hl => match us, hl with | [_, _], _ => rfl
  have F_p_first_repeated := fun_mk (st := (top 19)) l_p_first_repeated c_p_first_repeated k_p_first_repeated
  have b_p_first_repeated := F_p_first_repeated.binds (ps := ["residues"]) fun _ _ _ _ _ _ us hl => match us, hl with | [_], _ => rfl
  have F_Lot___init__ := fun_mk (st := (inClass (top 20) 1)) l_Lot___init__ c_Lot___init__ k_Lot___init__
  have b_Lot___init__ := F_Lot___init__.binds (ps := ["self", "modulus", "members"]) fun _ _ _ _ _ _ us hl => match us, hl with | [_, _, _], _ => rfl
  have F_Lot___mul__ := fun_mk (st := (inClass (top 20) 19)) l_Lot___mul__ c_Lot___mul__ k_Lot___mul__
  have b_Lot___mul__ := F_Lot___mul__.binds (ps := ["self", "factor"]) fun _ _ _ _ _ _ us hl => match us, hl with | [_, _], _ => rfl
  have F_Lot___rmul__ := fun_mk (st := (inClass (top 20) 20)) l_Lot___rmul__ c_Lot___rmul__ k_Lot___rmul__
  have b_Lot___rmul__ := F_Lot___rmul__.binds (ps := ["self", "factor"]) fun _ _ _ _ _ _ us hl => match us, hl with | [_, _], _ => rfl
  have F_l_times := fun_mk (st := (top 37)) l_l_times c_l_times k_l_times
  have b_l_times := F_l_times.binds (ps := ["lot", "t", "side"]) fun _ _ _ _ _ _ us hl => match us, hl with | [_, _, _], _ => rfl
  have F_law := fun_mk (st := (top 38)) l_law c_law k_law
  refine ⟨PySem.W.fnOf "law" "law" (defArgs (top 38)) (defBody (top 38)) (defScope (top 38)) .none kV_law dc_law pm_law an_law cd_law ct_law, fun s v => .of_eq rfl, fun base _ _ => ?_⟩
  have nbI : NB (⟨l.prog, w, K, mg, base⟩ : Wd) := nb_of X G nb
  have x_Clash : XcF (⟨l.prog, w, K, mg, base⟩ : Wd) "Clash" "residue" C_Clash I_Clash := ⟨PySem.W.mg_of X G a_Clash, xc_txt xL_Clash hb_Clash sa_Clash ga_Clash gg_Clash noN_Clash iC_Clash tC_Clash kC_Clash ex_Clash ty_Clash hd_Clash ve_Clash nS nT l1_Clash cI_Clash l2_Clash v2_Clash fe_Clash l3_Clash cD_Clash mD_Clash bL_Clash eM_Clash sL_Clash (i8 := nM) (i9 := i9_Clash) (i10 := i10_Clash)⟩
  have x_InvalidModulus : XcF (⟨l.prog, w, K, mg, base⟩ : Wd) "InvalidModulus" "modulus" C_InvalidModulus I_InvalidModulus := ⟨PySem.W.mg_of X G a_InvalidModulus, xc_txt xL_InvalidModulus hb_InvalidModulus sa_InvalidModulus ga_InvalidModulus gg_InvalidModulus noN_InvalidModulus iC_InvalidModulus tC_InvalidModulus kC_InvalidModulus ex_InvalidModulus ty_InvalidModulus hd_InvalidModulus ve_InvalidModulus nS nT l1_InvalidModulus cI_InvalidModulus l2_InvalidModulus v2_InvalidModulus fe_InvalidModulus l3_InvalidModulus cD_InvalidModulus mD_InvalidModulus bL_InvalidModulus eM_InvalidModulus sL_InvalidModulus (i8 := nM) (i9 := i9_InvalidModulus) (i10 := i10_InvalidModulus)⟩
  have x_RepeatedMember : XcF (⟨l.prog, w, K, mg, base⟩ : Wd) "RepeatedMember" "number" C_RepeatedMember I_RepeatedMember := ⟨PySem.W.mg_of X G a_RepeatedMember, xc_txt xL_RepeatedMember hb_RepeatedMember sa_RepeatedMember ga_RepeatedMember gg_RepeatedMember noN_RepeatedMember iC_RepeatedMember tC_RepeatedMember kC_RepeatedMember ex_RepeatedMember ty_RepeatedMember hd_RepeatedMember ve_RepeatedMember nS nT l1_RepeatedMember cI_RepeatedMember l2_RepeatedMember v2_RepeatedMember fe_RepeatedMember l3_RepeatedMember cD_RepeatedMember mD_RepeatedMember bL_RepeatedMember eM_RepeatedMember sL_RepeatedMember (i8 := nM) (i9 := i9_RepeatedMember) (i10 := i10_RepeatedMember)⟩
  have m_Clash : (⟨l.prog, w, K, mg, base⟩ : Wd).mg "Clash" = some (.ref C_Clash) := PySem.W.mg_of X G a_Clash
  have k_Clash : TkOk (⟨l.prog, w, K, mg, base⟩ : Wd) (.ref C_Clash) tk_Clash := fun cn b e => by
    unfold tk_Clash at e
    split at e
    · rename_i hc; subst hc; cases e; exact ⟨C_Clash, PySem.W.mg_of X G a_Clash, exm_of ex_Clash ic_Clash ty_Clash s_Clash_Clash⟩
    split at e
    · rename_i hc; subst hc; cases e; exact ⟨C_InvalidModulus, PySem.W.mg_of X G a_InvalidModulus, exm_of ex_Clash ic_Clash ty_Clash s_InvalidModulus_Clash⟩
    split at e
    · rename_i hc; subst hc; cases e; exact ⟨C_EmptyLot, PySem.W.mg_of X G a_EmptyLot, exm_of ex_Clash ic_Clash ty_Clash s_EmptyLot_Clash⟩
    split at e
    · rename_i hc; subst hc; cases e; exact ⟨C_RepeatedMember, PySem.W.mg_of X G a_RepeatedMember, exm_of ex_Clash ic_Clash ty_Clash s_RepeatedMember_Clash⟩
    cases e
  have m_LotsError : (⟨l.prog, w, K, mg, base⟩ : Wd).mg "LotsError" = some (.ref C_LotsError) := PySem.W.mg_of X G a_LotsError
  have k_LotsError : TkOk (⟨l.prog, w, K, mg, base⟩ : Wd) (.ref C_LotsError) tk_LotsError := fun cn b e => by
    unfold tk_LotsError at e
    split at e
    · rename_i hc; subst hc; cases e; exact ⟨C_Clash, PySem.W.mg_of X G a_Clash, exm_of ex_LotsError ic_LotsError ty_LotsError s_Clash_LotsError⟩
    split at e
    · rename_i hc; subst hc; cases e; exact ⟨C_InvalidModulus, PySem.W.mg_of X G a_InvalidModulus, exm_of ex_LotsError ic_LotsError ty_LotsError s_InvalidModulus_LotsError⟩
    split at e
    · rename_i hc; subst hc; cases e; exact ⟨C_EmptyLot, PySem.W.mg_of X G a_EmptyLot, exm_of ex_LotsError ic_LotsError ty_LotsError s_EmptyLot_LotsError⟩
    split at e
    · rename_i hc; subst hc; cases e; exact ⟨C_RepeatedMember, PySem.W.mg_of X G a_RepeatedMember, exm_of ex_LotsError ic_LotsError ty_LotsError s_RepeatedMember_LotsError⟩
    cases e
  have y_EmptyLot : Xc0 (⟨l.prog, w, K, mg, base⟩ : Wd) "EmptyLot" C_EmptyLot := ⟨PySem.W.mg_of X G a_EmptyLot, xI_EmptyLot, kC_EmptyLot, ex_EmptyLot, ty_EmptyLot⟩
  have F_Lot : ObF (⟨l.prog, w, K, mg, base⟩ : Wd) "Lot" C_Lot := ⟨PySem.W.mg_of X G a_Lot, ⟨pg_Lot, hd_Lot, po_Lot, sa_Lot⟩⟩
  have k_Lot_LARGEST : L2.Con K C_Lot "LARGEST" (.int 1000) (.int 1000 t_Lot_LARGEST) := ⟨ka_Lot_LARGEST, ⟨_, rfl⟩, kg_Lot_LARGEST, by decide +kernel⟩
  have z_Lot : L2.IsF K C_Lot := ⟨F_Lot.cls, za_Lot, zn_Lot, zt_Lot, zm_Lot, (by unfold PySem.W.kitOne; rw [if_pos (beq_self_eq_true _)])⟩
  have M_Lot : L2.Mk K C_Lot A_Lot___init__ := ⟨mk_Lot, a_Lot___init__, if_Lot___init__, mc_Lot⟩
  have h__law_cell : Cl (⟨l.prog, w, K, mg, base⟩ : Wd) 1 "_law_cell" f_l_cell := cl_def (W := (⟨l.prog, w, K, mg, base⟩ : Wd)) (k := 0) F_l_cell (PySem.W.mg_of X G a_l_cell) sc_l_cell b_l_cell (w_l_cell )
  have h__law_draws : Cl (⟨l.prog, w, K, mg, base⟩ : Wd) 1 "_law_draws" f_l_draws := cl_def (W := (⟨l.prog, w, K, mg, base⟩ : Wd)) (k := 0) F_l_draws (PySem.W.mg_of X G a_l_draws) sc_l_draws b_l_draws (w_l_draws )
  have h__law_modulus : Cl (⟨l.prog, w, K, mg, base⟩ : Wd) 2 "_law_modulus" f_l_modulus := cl_def (W := (⟨l.prog, w, K, mg, base⟩ : Wd)) (k := 1) F_l_modulus (PySem.W.mg_of X G a_l_modulus) sc_l_modulus b_l_modulus (w_l_modulus h__law_draws)
  have h__law_handed : Cl (⟨l.prog, w, K, mg, base⟩ : Wd) 2 "_law_handed" f_l_handed := cl_def (W := (⟨l.prog, w, K, mg, base⟩ : Wd)) (k := 1) F_l_handed (PySem.W.mg_of X G a_l_handed) sc_l_handed b_l_handed (w_l_handed h__law_draws)
  have h__law_same : Cl (⟨l.prog, w, K, mg, base⟩ : Wd) 13 "_law_same" (f_l_same 12) := by
    have go : ∀ n : Nat, Cl (⟨l.prog, w, K, mg, base⟩ : Wd) (0 + n + 1) "_law_same" (f_l_same n) := by
      intro n
      induction n with
      | zero => exact cl_def (W := (⟨l.prog, w, K, mg, base⟩ : Wd)) (k := 0) F_l_same (PySem.W.mg_of X G a_l_same) sc_l_same b_l_same s_none
      | succ n ih => exact cl_def (W := (⟨l.prog, w, K, mg, base⟩ : Wd)) (k := 0 + n + 1) F_l_same (PySem.W.mg_of X G a_l_same) sc_l_same b_l_same (w_l_same  ih (by omega))
    exact go 12
  have i_Lot_members : Fd (⟨l.prog, w, K, mg, base⟩ : Wd) 1 A_Lot_members f_Lot_members := fd_of (W := (⟨l.prog, w, K, mg, base⟩ : Wd)) (k := 0) F_Lot_members sc_Lot_members b_Lot_members (w_Lot_members F_Lot n_Lot__members)
  have p_Lot_members : L2.PropOf K C_Lot "members" P_Lot_members A_Lot_members := ⟨a_Lot_members, g_Lot_members, t_Lot_members, ⟨_, r_Lot_members⟩⟩
  have i_Lot___len__ : Fd (⟨l.prog, w, K, mg, base⟩ : Wd) 1 A_Lot___len__ f_Lot___len__ := fd_of (W := (⟨l.prog, w, K, mg, base⟩ : Wd)) (k := 0) F_Lot___len__ sc_Lot___len__ b_Lot___len__ (w_Lot___len__ F_Lot n_Lot__members)
  have s_Lot___len__ := And.intro a_Lot___len__ if_Lot___len__
  have s_Lot___iter__ := And.intro a_Lot___iter__ if_Lot___iter__
  have t_Lot___iter__ : FdIt (⟨l.prog, w, K, mg, base⟩ : Wd) 1 A_Lot___iter__ C_Lot "_members" := fdit_of (W := (⟨l.prog, w, K, mg, base⟩ : Wd)) F_Lot___iter__ F_Lot n_Lot__members sc_Lot___iter__ rfl b_Lot___iter__ (by exact rfl) (by first | exact Or.inl rfl | exact Or.inr (Or.inl rfl) | exact Or.inr (Or.inr rfl)) rfl
  have i_Lot___contains__ : Fd (⟨l.prog, w, K, mg, base⟩ : Wd) 1 A_Lot___contains__ f_Lot___contains__ := fd_of (W := (⟨l.prog, w, K, mg, base⟩ : Wd)) (k := 0) F_Lot___contains__ sc_Lot___contains__ b_Lot___contains__ (w_Lot___contains__ F_Lot n_Lot__members n_Lot_modulus)
  have s_Lot___contains__ := And.intro a_Lot___contains__ if_Lot___contains__
  have h__law_is_lot : Cl (⟨l.prog, w, K, mg, base⟩ : Wd) 14 "_law_is_lot" f_l_is_lot := cl_def (W := (⟨l.prog, w, K, mg, base⟩ : Wd)) (k := 13) F_l_is_lot (PySem.W.mg_of X G a_l_is_lot) sc_l_is_lot b_l_is_lot (w_l_is_lot h__law_same F_Lot z_Lot n_Lot_modulus s_Lot___contains__ i_Lot___contains__ s_Lot___iter__ t_Lot___iter__ s_Lot___len__ i_Lot___len__ p_Lot_members i_Lot_members)
  have h__law_rest : Cl (⟨l.prog, w, K, mg, base⟩ : Wd) 1 "_law_rest" f_l_rest := cl_def (W := (⟨l.prog, w, K, mg, base⟩ : Wd)) (k := 0) F_l_rest (PySem.W.mg_of X G a_l_rest) sc_l_rest b_l_rest (w_l_rest )
  have h__law_members : Cl (⟨l.prog, w, K, mg, base⟩ : Wd) 2 "_law_members" f_l_members := cl_def (W := (⟨l.prog, w, K, mg, base⟩ : Wd)) (k := 1) F_l_members (PySem.W.mg_of X G a_l_members) sc_l_members b_l_members (w_l_members h__law_draws h__law_rest)
  have h__law_any_set : Cl (⟨l.prog, w, K, mg, base⟩ : Wd) 2 "_law_any_set" f_l_any_set := cl_def (W := (⟨l.prog, w, K, mg, base⟩ : Wd)) (k := 1) F_l_any_set (PySem.W.mg_of X G a_l_any_set) sc_l_any_set b_l_any_set (w_l_any_set h__law_cell h__law_draws)
  have h__law_residues : Cl (⟨l.prog, w, K, mg, base⟩ : Wd) 3 "_law_residues" f_l_residues := cl_def (W := (⟨l.prog, w, K, mg, base⟩ : Wd)) (k := 2) F_l_residues (PySem.W.mg_of X G a_l_residues) sc_l_residues b_l_residues (w_l_residues h__law_cell h__law_draws h__law_rest h__law_members h__law_any_set)
  have h__law_twice : Cl (⟨l.prog, w, K, mg, base⟩ : Wd) 1 "_law_twice" f_l_twice := cl_def (W := (⟨l.prog, w, K, mg, base⟩ : Wd)) (k := 0) F_l_twice (PySem.W.mg_of X G a_l_twice) sc_l_twice b_l_twice (w_l_twice )
  have h__law_integer : Cl (⟨l.prog, w, K, mg, base⟩ : Wd) 2 "_law_integer" f_l_integer := cl_def (W := (⟨l.prog, w, K, mg, base⟩ : Wd)) (k := 1) F_l_integer (PySem.W.mg_of X G a_l_integer) sc_l_integer b_l_integer (w_l_integer h__law_draws)
  have h__law_gcd : Cl (⟨l.prog, w, K, mg, base⟩ : Wd) 1 "_law_gcd" f_l_gcd := cl_def (W := (⟨l.prog, w, K, mg, base⟩ : Wd)) (k := 0) F_l_gcd (PySem.W.mg_of X G a_l_gcd) sc_l_gcd b_l_gcd (w_l_gcd )
  have h__law_coprime : Cl (⟨l.prog, w, K, mg, base⟩ : Wd) 2 "_law_coprime" f_l_coprime := cl_def (W := (⟨l.prog, w, K, mg, base⟩ : Wd)) (k := 1) F_l_coprime (PySem.W.mg_of X G a_l_coprime) sc_l_coprime b_l_coprime (w_l_coprime h__law_gcd)
  have h__law_factor : Cl (⟨l.prog, w, K, mg, base⟩ : Wd) 3 "_law_factor" f_l_factor := cl_def (W := (⟨l.prog, w, K, mg, base⟩ : Wd)) (k := 2) F_l_factor (PySem.W.mg_of X G a_l_factor) sc_l_factor b_l_factor (w_l_factor h__law_cell h__law_draws h__law_integer h__law_coprime)
  have h_residues_of : Cl (⟨l.prog, w, K, mg, base⟩ : Wd) 1 "residues_of" f_p_residues_of := cl_def (W := (⟨l.prog, w, K, mg, base⟩ : Wd)) (k := 0) F_p_residues_of (PySem.W.mg_of X G a_p_residues_of) sc_p_residues_of b_p_residues_of (w_p_residues_of x_Clash)
  have h_first_repeated : Cl (⟨l.prog, w, K, mg, base⟩ : Wd) 1 "first_repeated" f_p_first_repeated := cl_def (W := (⟨l.prog, w, K, mg, base⟩ : Wd)) (k := 0) F_p_first_repeated (PySem.W.mg_of X G a_p_first_repeated) sc_p_first_repeated b_p_first_repeated (w_p_first_repeated )
  have i_Lot___init__ : FdI (⟨l.prog, w, K, mg, base⟩ : Wd) 2 A_Lot___init__ C_Lot (f_Lot_init f_p_first_repeated) := fdi_of (W := (⟨l.prog, w, K, mg, base⟩ : Wd)) (k := 1) F_Lot.mg F_Lot___init__ sc_Lot___init__ b_Lot___init__ (by decide) (fun x => w_Lot___init__ h_first_repeated x_InvalidModulus x_RepeatedMember F_Lot k_Lot_LARGEST n_Lot__members n_Lot_modulus y_EmptyLot x)
  have i_Lot___mul__ : Fd (⟨l.prog, w, K, mg, base⟩ : Wd) 4 A_Lot___mul__ f_Lot___mul__ := fd_of (W := (⟨l.prog, w, K, mg, base⟩ : Wd)) (k := 3) F_Lot___mul__ sc_Lot___mul__ b_Lot___mul__ (w_Lot___mul__ h_residues_of F_Lot n_Lot__members n_Lot_modulus M_Lot i_Lot___init__)
  have b_Lot___mul__I : L2.BinI K C_Lot .Mult A_Lot___mul__ u1_Lot___mul__ u2_Lot___mul__ u3_Lot___mul__ := ⟨a_Lot___mul__, if_Lot___mul__, v1_Lot___mul__, v2q_Lot___mul__, v6_Lot___mul__, v3_Lot___mul__, v4_Lot___mul__, v5_Lot___mul__⟩
  have b_Lot___mul__ := b_Lot___mul__I
  have i_Lot___rmul__ : Fd (⟨l.prog, w, K, mg, base⟩ : Wd) 4 A_Lot___rmul__ f_Lot___rmul__ := fd_of (W := (⟨l.prog, w, K, mg, base⟩ : Wd)) (k := 3) F_Lot___rmul__ sc_Lot___rmul__ b_Lot___rmul__ (w_Lot___rmul__ h_residues_of F_Lot n_Lot__members n_Lot_modulus M_Lot i_Lot___init__)
  have b_Lot___rmul__ : L2.BinR K C_Lot A_Lot___rmul__ Mm_Lot___rmul__ u1_Lot___rmul__ u2_Lot___rmul__ := ⟨a_Lot___rmul__, if_Lot___rmul__, v0_Lot___rmul__, v1_Lot___rmul__, v3_Lot___rmul__, v4_Lot___rmul__, v5_Lot___rmul__⟩
  have h__law_times : Cl (⟨l.prog, w, K, mg, base⟩ : Wd) 5 "_law_times" f_l_times := cl_def (W := (⟨l.prog, w, K, mg, base⟩ : Wd)) (k := 4) F_l_times (PySem.W.mg_of X G a_l_times) sc_l_times b_l_times (w_l_times x_Clash m_Clash k_Clash m_LotsError k_LotsError F_Lot b_Lot___mul__ i_Lot___mul__ b_Lot___rmul__ i_Lot___rmul__)
  exact law_fn (fn_def (W := (⟨l.prog, w, K, mg, base⟩ : Wd)) (k := 14) F_law sc_law (w_law h__law_cell h__law_modulus h__law_handed h__law_same h__law_is_lot h__law_residues h__law_twice h__law_factor h__law_times F_Lot M_Lot i_Lot___init__)) math
end K12
open PySem PySem.W PyProof.Rows
set_option maxRecDepth 100000 in
set_option maxHeartbeats 0 in
theorem PySem.Challenge.cw_twolots_k12_multiply_holds : PySem.Challenge.rw_twolots_k12_multiply.Holds := by
  w_on; o_law; k_head; (case hw => w_witness2)
  k_fill
  refine VL.law_walk (k := 15) rfl rfl ⟨rfl, by decide, by decide⟩ (fun w h Y => PySem.W.kIn_of Y) ?F
  case F =>
    intro w mg fa h KX G hmg
    refine' K12.all_mk KX G hmg ?a_Clash ?ic_Clash ?ty_Clash ?ex_Clash ?xL_Clash ?hb_Clash ?sa_Clash ?ga_Clash ?gg_Clash ?noN_Clash ?iC_Clash ?tC_Clash ?kC_Clash ?hd_Clash ?ve_Clash ?l1_Clash ?cI_Clash ?l2_Clash ?v2_Clash ?fe_Clash ?l3_Clash ?cD_Clash ?mD_Clash ?aL_Clash ?bL_Clash ?eM_Clash ?sL_Clash ?i9_Clash ?i10_Clash ?a_InvalidModulus ?ic_InvalidModulus ?ty_InvalidModulus ?ex_InvalidModulus ?xL_InvalidModulus ?hb_InvalidModulus ?sa_InvalidModulus ?ga_InvalidModulus ?gg_InvalidModulus ?noN_InvalidModulus ?iC_InvalidModulus ?tC_InvalidModulus ?kC_InvalidModulus ?hd_InvalidModulus ?ve_InvalidModulus ?l1_InvalidModulus ?cI_InvalidModulus ?l2_InvalidModulus ?v2_InvalidModulus ?fe_InvalidModulus ?l3_InvalidModulus ?cD_InvalidModulus ?mD_InvalidModulus ?aL_InvalidModulus ?bL_InvalidModulus ?eM_InvalidModulus ?sL_InvalidModulus ?i9_InvalidModulus ?i10_InvalidModulus ?a_RepeatedMember ?ic_RepeatedMember ?ty_RepeatedMember ?ex_RepeatedMember ?xL_RepeatedMember ?hb_RepeatedMember ?sa_RepeatedMember ?ga_RepeatedMember ?gg_RepeatedMember ?noN_RepeatedMember ?iC_RepeatedMember ?tC_RepeatedMember ?kC_RepeatedMember ?hd_RepeatedMember ?ve_RepeatedMember ?l1_RepeatedMember ?cI_RepeatedMember ?l2_RepeatedMember ?v2_RepeatedMember ?fe_RepeatedMember ?l3_RepeatedMember ?cD_RepeatedMember ?mD_RepeatedMember ?aL_RepeatedMember ?bL_RepeatedMember ?eM_RepeatedMember ?sL_RepeatedMember ?i9_RepeatedMember ?i10_RepeatedMember ?a_LotsError ?ic_LotsError ?ty_LotsError ?ex_LotsError ?a_EmptyLot ?ic_EmptyLot ?ty_EmptyLot ?ex_EmptyLot ?xI_EmptyLot ?kC_EmptyLot ?nS ?nT ?nM ?s_Clash_Clash ?s_InvalidModulus_Clash ?s_EmptyLot_Clash ?s_RepeatedMember_Clash ?s_Clash_LotsError ?s_InvalidModulus_LotsError ?s_EmptyLot_LotsError ?s_RepeatedMember_LotsError ?a_Lot ?pg_Lot ?hd_Lot ?po_Lot ?sa_Lot ?ka_Lot_LARGEST ?kg_Lot_LARGEST ?za_Lot ?zn_Lot ?zt_Lot ?zm_Lot ?mk_Lot ?mc_Lot ?n_Lot__members ?n_Lot_modulus ?a_l_cell ?l_l_cell ?c_l_cell ?k_l_cell ?a_l_draws ?l_l_draws ?c_l_draws ?k_l_draws ?a_l_modulus ?l_l_modulus ?c_l_modulus ?k_l_modulus ?a_l_handed ?l_l_handed ?c_l_handed ?k_l_handed ?a_l_same ?l_l_same ?c_l_same ?k_l_same ?a_Lot_members ?g_Lot_members ?t_Lot_members ?r_Lot_members ?if_Lot_members ?l_Lot_members ?c_Lot_members ?k_Lot_members ?a_Lot___len__ ?if_Lot___len__ ?l_Lot___len__ ?c_Lot___len__ ?k_Lot___len__ ?a_Lot___iter__ ?if_Lot___iter__ ?l_Lot___iter__ ?c_Lot___iter__ ?k_Lot___iter__ ?a_Lot___contains__ ?if_Lot___contains__ ?l_Lot___contains__ ?c_Lot___contains__ ?k_Lot___contains__ ?a_l_is_lot ?l_l_is_lot ?c_l_is_lot ?k_l_is_lot ?a_l_rest ?l_l_rest ?c_l_rest ?k_l_rest ?a_l_members ?l_l_members ?c_l_members ?k_l_members ?a_l_any_set ?l_l_any_set ?c_l_any_set ?k_l_any_set ?a_l_residues ?l_l_residues ?c_l_residues ?k_l_residues ?a_l_twice ?l_l_twice ?c_l_twice ?k_l_twice ?a_l_integer ?l_l_integer ?c_l_integer ?k_l_integer ?a_l_gcd ?l_l_gcd ?c_l_gcd ?k_l_gcd ?a_l_coprime ?l_l_coprime ?c_l_coprime ?k_l_coprime ?a_l_factor ?l_l_factor ?c_l_factor ?k_l_factor ?a_p_residues_of ?l_p_residues_of ?c_p_residues_of ?k_p_residues_of ?a_p_first_repeated ?l_p_first_repeated ?c_p_first_repeated ?k_p_first_repeated ?a_Lot___init__ ?if_Lot___init__ ?l_Lot___init__ ?c_Lot___init__ ?k_Lot___init__ ?a_Lot___mul__ ?if_Lot___mul__ ?v1_Lot___mul__ ?v2q_Lot___mul__ ?v3_Lot___mul__ ?v4_Lot___mul__ ?v5_Lot___mul__ ?v6_Lot___mul__ ?l_Lot___mul__ ?c_Lot___mul__ ?k_Lot___mul__ ?a_Lot___rmul__ ?if_Lot___rmul__ ?v0_Lot___rmul__ ?v1_Lot___rmul__ ?v3_Lot___rmul__ ?v4_Lot___rmul__ ?v5_Lot___rmul__ ?l_Lot___rmul__ ?c_Lot___rmul__ ?k_Lot___rmul__ ?a_l_times ?l_l_times ?c_l_times ?k_l_times ?a_law ?l_law ?c_law ?k_law ?nb K12.math
    (case a_Clash => k_is)
    (case ic_Clash => k_is)
    (case ty_Clash => k_is)
    (case ex_Clash => k_is)
    (case xL_Clash => k_is)
    (case hb_Clash => decide +kernel)
    (case sa_Clash => k_is)
    (case ga_Clash => k_is)
    (case gg_Clash => k_is)
    (case noN_Clash => k_is)
    (case iC_Clash => k_is)
    (case tC_Clash => k_is)
    (case kC_Clash => k_is)
    (case hd_Clash => k_is)
    (case ve_Clash => k_is)
    (case l1_Clash => k_is)
    (case cI_Clash => k_is)
    (case l2_Clash => k_is)
    (case v2_Clash => rfl)
    (case fe_Clash => decide +kernel)
    (case l3_Clash => k_is)
    (case cD_Clash => k_is)
    (case mD_Clash => k_is)
    (case aL_Clash => k_is)
    (case bL_Clash => k_is)
    (case eM_Clash => rfl)
    (case sL_Clash => k_is)
    (case i9_Clash => exact ⟨_, fun _ => rfl⟩)
    (case i10_Clash => intro _ _; rfl)
    (case a_InvalidModulus => k_is)
    (case ic_InvalidModulus => k_is)
    (case ty_InvalidModulus => k_is)
    (case ex_InvalidModulus => k_is)
    (case xL_InvalidModulus => k_is)
    (case hb_InvalidModulus => decide +kernel)
    (case sa_InvalidModulus => k_is)
    (case ga_InvalidModulus => k_is)
    (case gg_InvalidModulus => k_is)
    (case noN_InvalidModulus => k_is)
    (case iC_InvalidModulus => k_is)
    (case tC_InvalidModulus => k_is)
    (case kC_InvalidModulus => k_is)
    (case hd_InvalidModulus => k_is)
    (case ve_InvalidModulus => k_is)
    (case l1_InvalidModulus => k_is)
    (case cI_InvalidModulus => k_is)
    (case l2_InvalidModulus => k_is)
    (case v2_InvalidModulus => rfl)
    (case fe_InvalidModulus => decide +kernel)
    (case l3_InvalidModulus => k_is)
    (case cD_InvalidModulus => k_is)
    (case mD_InvalidModulus => k_is)
    (case aL_InvalidModulus => k_is)
    (case bL_InvalidModulus => k_is)
    (case eM_InvalidModulus => rfl)
    (case sL_InvalidModulus => k_is)
    (case i9_InvalidModulus => exact ⟨_, fun _ => rfl⟩)
    (case i10_InvalidModulus => intro _ _; rfl)
    (case a_RepeatedMember => k_is)
    (case ic_RepeatedMember => k_is)
    (case ty_RepeatedMember => k_is)
    (case ex_RepeatedMember => k_is)
    (case xL_RepeatedMember => k_is)
    (case hb_RepeatedMember => decide +kernel)
    (case sa_RepeatedMember => k_is)
    (case ga_RepeatedMember => k_is)
    (case gg_RepeatedMember => k_is)
    (case noN_RepeatedMember => k_is)
    (case iC_RepeatedMember => k_is)
    (case tC_RepeatedMember => k_is)
    (case kC_RepeatedMember => k_is)
    (case hd_RepeatedMember => k_is)
    (case ve_RepeatedMember => k_is)
    (case l1_RepeatedMember => k_is)
    (case cI_RepeatedMember => k_is)
    (case l2_RepeatedMember => k_is)
    (case v2_RepeatedMember => rfl)
    (case fe_RepeatedMember => decide +kernel)
    (case l3_RepeatedMember => k_is)
    (case cD_RepeatedMember => k_is)
    (case mD_RepeatedMember => k_is)
    (case aL_RepeatedMember => k_is)
    (case bL_RepeatedMember => k_is)
    (case eM_RepeatedMember => rfl)
    (case sL_RepeatedMember => k_is)
    (case i9_RepeatedMember => exact ⟨_, fun _ => rfl⟩)
    (case i10_RepeatedMember => intro _ _; rfl)
    (case a_LotsError => k_is)
    (case ic_LotsError => k_is)
    (case ty_LotsError => k_is)
    (case ex_LotsError => k_is)
    (case a_EmptyLot => k_is)
    (case ic_EmptyLot => k_is)
    (case ty_EmptyLot => k_is)
    (case ex_EmptyLot => k_is)
    (case xI_EmptyLot => k_exc)
    (case kC_EmptyLot => k_is)
    (case nS => k_is)
    (case nT => k_is)
    (case nM => decide +kernel)
    (case s_Clash_Clash => k_is)
    (case s_InvalidModulus_Clash => k_is)
    (case s_EmptyLot_Clash => k_is)
    (case s_RepeatedMember_Clash => k_is)
    (case s_Clash_LotsError => k_is)
    (case s_InvalidModulus_LotsError => k_is)
    (case s_EmptyLot_LotsError => k_is)
    (case s_RepeatedMember_LotsError => k_is)
    (case a_Lot => k_is)
    (case pg_Lot => k_is)
    (case hd_Lot => k_is)
    (case po_Lot => k_is)
    (case sa_Lot => k_is)
    (case ka_Lot_LARGEST => k_is)
    (case kg_Lot_LARGEST => k_is)
    (case za_Lot => k_is)
    (case zn_Lot => k_is)
    (case zt_Lot => k_is)
    (case zm_Lot => k_is)
    (case mk_Lot => k_is)
    (case mc_Lot => k_is)
    (case n_Lot__members => k_is)
    (case n_Lot_modulus => k_is)
    (case a_l_cell => k_is)
    (case l_l_cell => k_is)
    (case c_l_cell => k_is)
    (case k_l_cell => k_is)
    (case a_l_draws => k_is)
    (case l_l_draws => k_is)
    (case c_l_draws => k_is)
    (case k_l_draws => k_is)
    (case a_l_modulus => k_is)
    (case l_l_modulus => k_is)
    (case c_l_modulus => k_is)
    (case k_l_modulus => k_is)
    (case a_l_handed => k_is)
    (case l_l_handed => k_is)
    (case c_l_handed => k_is)
    (case k_l_handed => k_is)
    (case a_l_same => k_is)
    (case l_l_same => k_is)
    (case c_l_same => k_is)
    (case k_l_same => k_is)
    (case a_Lot_members => k_is)
    (case g_Lot_members => k_is)
    (case t_Lot_members => k_is)
    (case r_Lot_members => k_is)
    (case if_Lot_members => k_is)
    (case l_Lot_members => k_is)
    (case c_Lot_members => k_is)
    (case k_Lot_members => k_is)
    (case a_Lot___len__ => k_is)
    (case if_Lot___len__ => k_is)
    (case l_Lot___len__ => k_is)
    (case c_Lot___len__ => k_is)
    (case k_Lot___len__ => k_is)
    (case a_Lot___iter__ => k_is)
    (case if_Lot___iter__ => k_is)
    (case l_Lot___iter__ => k_is)
    (case c_Lot___iter__ => k_is)
    (case k_Lot___iter__ => k_is)
    (case a_Lot___contains__ => k_is)
    (case if_Lot___contains__ => k_is)
    (case l_Lot___contains__ => k_is)
    (case c_Lot___contains__ => k_is)
    (case k_Lot___contains__ => k_is)
    (case a_l_is_lot => k_is)
    (case l_l_is_lot => k_is)
    (case c_l_is_lot => k_is)
    (case k_l_is_lot => k_is)
    (case a_l_rest => k_is)
    (case l_l_rest => k_is)
    (case c_l_rest => k_is)
    (case k_l_rest => k_is)
    (case a_l_members => k_is)
    (case l_l_members => k_is)
    (case c_l_members => k_is)
    (case k_l_members => k_is)
    (case a_l_any_set => k_is)
    (case l_l_any_set => k_is)
    (case c_l_any_set => k_is)
    (case k_l_any_set => k_is)
    (case a_l_residues => k_is)
    (case l_l_residues => k_is)
    (case c_l_residues => k_is)
    (case k_l_residues => k_is)
    (case a_l_twice => k_is)
    (case l_l_twice => k_is)
    (case c_l_twice => k_is)
    (case k_l_twice => k_is)
    (case a_l_integer => k_is)
    (case l_l_integer => k_is)
    (case c_l_integer => k_is)
    (case k_l_integer => k_is)
    (case a_l_gcd => k_is)
    (case l_l_gcd => k_is)
    (case c_l_gcd => k_is)
    (case k_l_gcd => k_is)
    (case a_l_coprime => k_is)
    (case l_l_coprime => k_is)
    (case c_l_coprime => k_is)
    (case k_l_coprime => k_is)
    (case a_l_factor => k_is)
    (case l_l_factor => k_is)
    (case c_l_factor => k_is)
    (case k_l_factor => k_is)
    (case a_p_residues_of => k_is)
    (case l_p_residues_of => k_is)
    (case c_p_residues_of => k_is)
    (case k_p_residues_of => k_is)
    (case a_p_first_repeated => k_is)
    (case l_p_first_repeated => k_is)
    (case c_p_first_repeated => k_is)
    (case k_p_first_repeated => k_is)
    (case a_Lot___init__ => k_is)
    (case if_Lot___init__ => k_is)
    (case l_Lot___init__ => k_is)
    (case c_Lot___init__ => k_is)
    (case k_Lot___init__ => k_is)
    (case a_Lot___mul__ => k_is)
    (case if_Lot___mul__ => k_is)
    (case v1_Lot___mul__ => k_is)
    (case v2q_Lot___mul__ => k_is)
    (case v3_Lot___mul__ => k_is)
    (case v4_Lot___mul__ => k_is)
    (case v5_Lot___mul__ => k_is)
    (case v6_Lot___mul__ => first | exact .inl rfl | exact .inr ⟨_, rfl⟩)
    (case l_Lot___mul__ => k_is)
    (case c_Lot___mul__ => k_is)
    (case k_Lot___mul__ => k_is)
    (case a_Lot___rmul__ => k_is)
    (case if_Lot___rmul__ => k_is)
    (case v0_Lot___rmul__ => k_is)
    (case v1_Lot___rmul__ => k_is)
    (case v3_Lot___rmul__ => k_is)
    (case v4_Lot___rmul__ => k_is)
    (case v5_Lot___rmul__ => k_is)
    (case l_Lot___rmul__ => k_is)
    (case c_Lot___rmul__ => k_is)
    (case k_Lot___rmul__ => k_is)
    (case a_l_times => k_is)
    (case l_l_times => k_is)
    (case c_l_times => k_is)
    (case k_l_times => k_is)
    (case a_law => k_is)
    (case l_law => k_is)
    (case c_law => k_is)
    (case k_law => k_is)
    (case nb => simp only [VL.blts, List.forall_mem_cons, List.not_mem_nil, false_implies, implies_true, and_true]; (repeat' (first | apply And.intro)); all_goals k_is)

