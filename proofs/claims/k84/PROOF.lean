import PyProof.Rows.All
import Wide.All
import OpenK.AllK
import Wide.FinOn
import HandS.ForMost
import HandS.ForExc
import HandS.TryMany
import HandS.ExcInit
import HandS.ExcField
import HandS.ExcIs
import HandS.HotCalls
import HandS.DictComp
import HandS.CallSlots
import HandS.Wide
import HandS.TupAny
import HandS.IsInst
import HandS.Conv
import HandS.Zip
import PyProof.TupleOfSeq
import HandS.SetFor
import KE.GoesMore
import HandS.NoneIn
import HandS.TupMul
import HandS.SetKeys
import HandS.Style
import PyProof.DictMoreH
import PyProof.FactsLen
import HandS.TupLen
import HandS.RaiseMore
import PySem.Challenge.RW_normalrealm_k84_ranks
set_option Elab.async false
set_option linter.all false
set_option maxRecDepth 100000
set_option maxHeartbeats 2000000
/-! Data, own cells, and the relation to the abstract heap. -/
namespace Dt
open PySem PySem.Spec L2
/-- plain data, as it is read off a frozen part of the heap -/
inductive D where
  | non
  | bl (b : Bool)
  | int (i : Int)
  | str (x : Str)
  | ref (a : Addr)
  | ty (n : String)
  | lst (xs : List D)
  | scr (xs : List D)
  | tup (xs : List D)
  | dct (kvs : List (Key × D))
  | ins (C : Addr) (fs : List (Str × D))
mutual
inductive Dq (K : PySem.W.Frag) (G : Hp) : V → D → Prop
  | non : Dq K G .non .non
  | bl (b : Bool) : Dq K G (.bl b) (.bl b)
  | int (i : Int) : Dq K G (.int i) (.int i)
  | str (x : Str) : Dq K G (.str x) (.str x)
  | ref (a : Addr) : Dq K G (.ref a) (.ref a)
  | ty (n : String) : Dq K G (.ty n) (.ty n)
  | lst {a : Addr} {vs : List V} {ds : List D} : G a = some (.lst vs) → DqA K G vs ds → Dq K G (.ref a) (.lst ds)
  | scr {a : Addr} {vs : List V} {ds : List D} : SqL K G a vs → DqA K G vs ds → Dq K G (.ref a) (.scr ds)
  | tup {a : Addr} {vs : List V} {ds : List D} : SqT K G a vs → DqA K G vs ds → Dq K G (.ref a) (.tup ds)
  | dct {a : Addr} {ws : List (Key × V)} {kvs : List (Key × D)} : G a = some (.dK ws) → DqK K G ws kvs → Dq K G (.ref a) (.dct kvs)
  | ins {a C dx : Addr} {ws : List (Str × V)} {fs : List (Str × D)} : G a = some (.ins C dx ws) → DqF K G ws fs → Dq K G (.ref a) (.ins C fs)
inductive DqA (K : PySem.W.Frag) (G : Hp) : List V → List D → Prop
  | nil : DqA K G [] []
  | cons {v : V} {vs : List V} {d : D} {ds : List D} : Dq K G v d → DqA K G vs ds → DqA K G (v :: vs) (d :: ds)
inductive DqK (K : PySem.W.Frag) (G : Hp) : List (Key × V) → List (Key × D) → Prop
  | nil : DqK K G [] []
  | cons {k : Key} {v : V} {vs : List (Key × V)} {d : D} {ds : List (Key × D)} : Dq K G v d → DqK K G vs ds → DqK K G ((k, v) :: vs) ((k, d) :: ds)
inductive DqF (K : PySem.W.Frag) (G : Hp) : List (Str × V) → List (Str × D) → Prop
  | nil : DqF K G [] []
  | cons {k : Str} {v : V} {vs : List (Str × V)} {d : D} {ds : List (Str × D)} : Dq K G v d → DqF K G vs ds → DqF K G ((k, v) :: vs) ((k, d) :: ds)
end
theorem Same.tseq {K : PySem.W.Frag} {H H' : Hp} {a : Addr} {xs : List V} (e : Same H H') (h : SqT K H a xs) : SqT K H' a xs := by
  rcases h with (h | ⟨o, h⟩) | h
  · exact .inl (.inl (e _ _ h))
  · exact .inl (.inr ⟨o, e _ _ h⟩)
  · exact .inr h
section
variable {K : PySem.W.Frag} {G G' : Hp}
mutual
theorem Dq.mono (e : Same G G') : ∀ {v : V} {d : D}, Dq K G v d → Dq K G' v d
  | _, _, .non => .non
  | _, _, .bl b => .bl b
  | _, _, .int i => .int i
  | _, _, .str x => .str x
  | _, _, .ref a => .ref a
  | _, _, .ty n => .ty n
  | _, _, .lst h t => .lst (e _ _ h) (DqA.mono e t)
  | _, _, .scr h t => .scr (e.seq h) (DqA.mono e t)
  | _, _, .tup h t => .tup (Same.tseq e h) (DqA.mono e t)
  | _, _, .dct h t => .dct (e _ _ h) (DqK.mono e t)
  | _, _, .ins h t => .ins (e _ _ h) (DqF.mono e t)
theorem DqA.mono (e : Same G G') : ∀ {v : List V} {d : List D}, DqA K G v d → DqA K G' v d
  | _, _, .nil => .nil
  | _, _, .cons h t => .cons (Dq.mono e h) (DqA.mono e t)
theorem DqK.mono (e : Same G G') : ∀ {v : List (Key × V)} {d : List (Key × D)}, DqK K G v d → DqK K G' v d
  | _, _, .nil => .nil
  | _, _, .cons h t => .cons (Dq.mono e h) (DqK.mono e t)
theorem DqF.mono (e : Same G G') : ∀ {v : List (Str × V)} {d : List (Str × D)}, DqF K G v d → DqF K G' v d
  | _, _, .nil => .nil
  | _, _, .cons h t => .cons (Dq.mono e h) (DqF.mono e t)
end
end
/-! ### values with own cells -/
inductive DV where
  | dat (d : D)
  | own (k : Nat)
/-- a cell of the store: what may still change -/
inductive Cell where
  | gone
  | lst (xs : List DV)
  | dK (kvs : List (Key × DV))
  | dT (kvs : List (List Key × DV))
  | ins (C : Addr) (fs : List (Str × DV))
  | xd (d : Addr) (fs : List (Str × DV))
  | lk (o : HO) (kvs : List (Key × DV))
  | tp (ks : List Key)
abbrev Store := List Cell
abbrev Slots := List (Option DV)
abbrev DV.i (n : Int) : DV := .dat (.int n)
abbrev DV.b (c : Bool) : DV := .dat (.bl c)
abbrev DV.n : DV := .dat .non
abbrev DV.s (x : Str) : DV := .dat (.str x)
/-- where the cells stand, what is frozen, how many cells there are -/
structure Wd where
  A : Nat → Addr
  G : Hp
  n : Nat
structure Wd.le (W W' : Wd) : Prop where
  n : W.n ≤ W'.n
  A : ∀ k, k < W.n → W'.A k = W.A k
  G : Same W.G W'.G
theorem Wd.le.rfl' {W : Wd} : W.le W := ⟨Nat.le_refl _, fun _ _ => rfl, Same.refl _⟩
theorem Wd.le.trans {W1 W2 W3 : Wd} (a : W1.le W2) (b : W2.le W3) : W1.le W3 :=
  ⟨Nat.le_trans a.n b.n, fun k h => (b.A k (Nat.lt_of_lt_of_le h a.n)).trans (a.A k h), a.G.trans b.G⟩
def Rel (K : PySem.W.Frag) (W : Wd) : DV → V → Prop
  | .dat d, v => Dq K W.G v d
  | .own k, v => k < W.n ∧ v = .ref (W.A k)
theorem Rel.mono {K : PySem.W.Frag} {W W' : Wd} (e : W.le W') : ∀ {dv : DV} {v : V}, Rel K W dv v → Rel K W' dv v
  | .dat _, _, h => Dq.mono e.G h
  | .own k, _, ⟨h, h'⟩ => ⟨Nat.lt_of_lt_of_le h e.n, by rw [h', e.A k h]⟩
abbrev Rels (K : PySem.W.Frag) (W : Wd) : List DV → List V → Prop := Paired (Rel K W)
abbrev RelK {κ : Type} (K : PySem.W.Frag) (W : Wd) : List (κ × DV) → List (κ × V) → Prop := Paired fun (p : κ × DV) (q : κ × V) => p.1 = q.1 ∧ Rel K W p.2 q.2
theorem Rels.mono {K : PySem.W.Frag} {W W' : Wd} (e : W.le W') {dvs : List DV} {vs : List V} (h : Rels K W dvs vs) : Rels K W' dvs vs := Paired.mapP h fun _ _ r => r.mono e
theorem RelK.mono {κ : Type} {K : PySem.W.Frag} {W W' : Wd} (e : W.le W') {dvs : List (κ × DV)} {vs : List (κ × V)} (h : RelK K W dvs vs) : RelK K W' dvs vs := Paired.mapP h fun _ _ r => ⟨r.1, r.2.mono e⟩
def CellOk (K : PySem.W.Frag) (W : Wd) (H : Hp) (k : Nat) : Cell → Prop
  | .gone => True
  | .lst xs => W.G (W.A k) = none ∧ ∃ vs, H (W.A k) = some (.lst vs) ∧ Rels K W xs vs
  | .dK kvs => W.G (W.A k) = none ∧ ∃ ws, H (W.A k) = some (.dK ws) ∧ RelK K W kvs ws
  | .dT kvs => W.G (W.A k) = none ∧ ∃ ws, H (W.A k) = some (.dT ws) ∧ RelK K W kvs ws
  | .ins C fs => W.G (W.A k) = none ∧ ∃ dx ws, H (W.A k) = some (.ins C dx ws) ∧ RelK K W fs ws
  | .xd d fs => W.G (W.A k) = none ∧ W.A k = d ∧ ∃ ws, H (W.A k) = some (.xd ws) ∧ RelK K W fs ws
  | .lk o kvs => W.G (W.A k) = none ∧ H (W.A k) = some o ∧ ∃ ob ws, o = .frz ob (.dK ws) ∧ RelK K W kvs ws
  | .tp ks => W.G (W.A k) = none ∧ H (W.A k) = some (.tup (ks.map kV))
/-- the store as it stands in the heap -/
structure StOk (K : PySem.W.Frag) (W : Wd) (H : Hp) (μ : Store) : Prop where
  n : W.n = μ.length
  ex : Same W.G H
  cell : ∀ k c, μ[k]? = some c → CellOk K W H k c
  inj : ∀ i j ci cj, μ[i]? = some ci → μ[j]? = some cj → ci ≠ .gone → cj ≠ .gone → W.A i = W.A j → i = j
/-- the slots of a frame -/
structure SlOk (K : PySem.W.Frag) (W : Wd) (σ : St) (δ : Slots) : Prop where
  len : σ.length = δ.length
  get : ∀ (i : Nat) (dv : DV), δ[i]? = some (some dv) → ∃ v, σ[i]? = some (some v) ∧ Rel K W dv v
theorem SlOk.mono {K : PySem.W.Frag} {W W' : Wd} {σ : St} {δ : Slots} (e : W.le W') (h : SlOk K W σ δ) : SlOk K W' σ δ :=
  ⟨h.len, fun i dv g => let ⟨v, a, b⟩ := h.get i dv g; ⟨v, a, b.mono e⟩⟩
theorem SlOk.set {K : PySem.W.Frag} {W : Wd} {σ : St} {δ : Slots} {dv : DV} {v : V} (h : SlOk K W σ δ) (r : Rel K W dv v) (i : Nat) : SlOk K W (σ.set i (some v)) (δ.set i (some dv)) := by
  refine ⟨by rw [List.length_set, List.length_set]; exact h.len, fun j dv' g => ?_⟩
  by_cases e : i = j
  · subst e
    have hl : i < δ.length := by
      have := (List.getElem?_eq_some_iff.mp g).1
      rwa [List.length_set] at this
    rw [List.getElem?_set_self hl] at g
    cases g
    exact ⟨v, List.getElem?_set_self (by rw [h.len]; exact hl), r⟩
  · rw [List.getElem?_set_ne e] at g
    obtain ⟨u, a, b⟩ := h.get j dv' g
    exact ⟨u, by rw [List.getElem?_set_ne e]; exact a, b⟩
theorem SlOk.setNone {K : PySem.W.Frag} {W : Wd} {σ : St} {δ : Slots} (h : SlOk K W σ δ) (i : Nat) : SlOk K W (σ.set i none) (δ.set i none) := by
  refine ⟨by rw [List.length_set, List.length_set]; exact h.len, fun j dv' g => ?_⟩
  by_cases e : i = j
  · subst e
    have hl : i < δ.length := by
      have := (List.getElem?_eq_some_iff.mp g).1
      rwa [List.length_set] at this
    rw [List.getElem?_set_self hl] at g
    cases g
  · rw [List.getElem?_set_ne e] at g
    obtain ⟨u, a, b⟩ := h.get j dv' g
    exact ⟨u, by rw [List.getElem?_set_ne e]; exact a, b⟩
/-- a slot is forgotten -/
theorem SlOk.drop {K : PySem.W.Frag} {W : Wd} {σ : St} {δ : Slots} (h : SlOk K W σ δ) (i : Nat) : SlOk K W σ (δ.set i none) := by
  refine ⟨by rw [List.length_set]; exact h.len, fun j dv' g => ?_⟩
  by_cases e : i = j
  · subst e
    have hl : i < δ.length := by
      have := (List.getElem?_eq_some_iff.mp g).1
      rwa [List.length_set] at this
    rw [List.getElem?_set_self hl] at g
    cases g
  · rw [List.getElem?_set_ne e] at g
    exact h.get j dv' g
section
variable {K : PySem.W.Frag} {W W' : Wd} {H H' : Hp} {μ : Store} {k : Nat} {p : Addr} {o : HO}
theorem CellOk.live {c : Cell} (h : CellOk K W H k c) (n : c ≠ .gone) : W.G (W.A k) = none ∧ ∃ o, H (W.A k) = some o := by
  cases c with
  | gone => exact absurd rfl n
  | lst xs => exact ⟨h.1, let ⟨vs, e, _⟩ := h.2; ⟨_, e⟩⟩
  | dK kvs => exact ⟨h.1, let ⟨vs, e, _⟩ := h.2; ⟨_, e⟩⟩
  | dT kvs => exact ⟨h.1, let ⟨vs, e, _⟩ := h.2; ⟨_, e⟩⟩
  | ins C fs => exact ⟨h.1, let ⟨dx, vs, e, _⟩ := h.2; ⟨_, e⟩⟩
  | xd d fs => exact ⟨h.1, let ⟨_, vs, e, _⟩ := h.2; ⟨_, e⟩⟩
  | lk o kvs => exact ⟨h.1, _, h.2.1⟩
  | tp ks => exact ⟨h.1, _, h.2⟩
/-- a cell is what it was, where its place and the frozen part around it are -/
theorem CellOk.stay {c : Cell} (h : CellOk K W H k c) (le : W.le W') (hk : k < W.n) (hg : W.G (W.A k) = none → W'.G (W.A k) = none) (hh : ∀ o, H (W.A k) = some o → H' (W.A k) = some o) : CellOk K W' H' k c := by
  have ea := le.A k hk
  cases c with
  | gone => trivial
  | lst xs =>
    obtain ⟨a, vs, e, r⟩ := h
    exact ⟨by rw [ea]; exact hg a, vs, by rw [ea]; exact hh _ e, r.mono le⟩
  | dK kvs =>
    obtain ⟨a, vs, e, r⟩ := h
    exact ⟨by rw [ea]; exact hg a, vs, by rw [ea]; exact hh _ e, r.mono le⟩
  | dT kvs =>
    obtain ⟨a, vs, e, r⟩ := h
    exact ⟨by rw [ea]; exact hg a, vs, by rw [ea]; exact hh _ e, r.mono le⟩
  | ins C fs =>
    obtain ⟨a, dx, vs, e, r⟩ := h
    exact ⟨by rw [ea]; exact hg a, dx, vs, by rw [ea]; exact hh _ e, r.mono le⟩
  | xd d fs =>
    obtain ⟨a, z, vs, e, r⟩ := h
    exact ⟨by rw [ea]; exact hg a, by rw [ea]; exact z, vs, by rw [ea]; exact hh _ e, r.mono le⟩
  | lk o kvs =>
    obtain ⟨a, e, ob, ws, q, r⟩ := h
    exact ⟨by rw [ea]; exact hg a, by rw [ea]; exact hh _ e, ob, ws, q, r.mono le⟩
  | tp ks =>
    obtain ⟨a, e⟩ := h
    exact ⟨by rw [ea]; exact hg a, by rw [ea]; exact hh _ e⟩
theorem StOk.lt {c : Cell} (S : StOk K W H μ) (h : μ[k]? = some c) : k < W.n := by
  rw [S.n]
  exact (List.getElem?_eq_some_iff.mp h).1
/-- a new frozen object -/
theorem StOk.newG (S : StOk K W H μ) (hp : H p = none) : W.le { W with G := upd W.G p o } ∧ StOk K { W with G := upd W.G p o } (upd H p o) μ := by
  have hg : W.G p = none := S.ex.free hp
  have le : W.le { W with G := upd W.G p o } := ⟨Nat.le_refl _, fun _ _ => rfl, fun b u e => by
    show upd W.G p o b = some u
    rw [upd_ne (ne_of_none e hg)]
    exact e⟩
  refine ⟨le, S.n, fun b u e => ?_, fun k c h => ?_, S.inj⟩
  · have e' : upd W.G p o b = some u := e
    by_cases hb : b = p
    · subst hb
      rw [upd_same] at e' ⊢
      exact e'
    · rw [upd_ne hb] at e' ⊢
      exact S.ex b u e'
  · by_cases hn : c = .gone
    · subst hn
      trivial
    · have hc := S.cell k c h
      obtain ⟨_, u, hu⟩ := hc.live hn
      have ne : W.A k ≠ p := ne_of_none hu hp
      refine hc.stay le (S.lt h) (fun z => ?_) (fun u z => ?_)
      · show upd W.G p o (W.A k) = none
        rw [upd_ne ne]
        exact z
      · rw [upd_ne ne]
        exact z
/-- the heap grows beside -/
theorem StOk.grow (S : StOk K W H μ) (e : Same H H') : StOk K W H' μ :=
  ⟨S.n, S.ex.trans e, fun k c h => (S.cell k c h).stay Wd.le.rfl' (S.lt h) (fun z => z) fun o z => e _ _ z, S.inj⟩
/-- a new cell -/
def Wd.push (W : Wd) (p : Addr) : Wd := { A := fun k => if k = W.n then p else W.A k, G := W.G, n := W.n + 1 }
theorem Wd.push_le (W : Wd) (p : Addr) : W.le (W.push p) := ⟨Nat.le_succ _, fun k h => if_neg (Nat.ne_of_lt h), Same.refl _⟩
theorem Wd.push_at (W : Wd) (p : Addr) : (W.push p).A W.n = p := if_pos rfl
theorem StOk.newC {c : Cell} (S : StOk K W H μ) (hp : H p = none) (ex : Same H H') (hc : CellOk K (W.push p) H' W.n c) : StOk K (W.push p) H' (μ ++ [c]) := by
  have S' := S.grow ex
  have gp : W.G p = none := S.ex.free hp
  have old : ∀ {k : Nat}, k < W.n → (W.push p).A k = W.A k := fun h => (W.push_le p).A _ h
  have at' : ∀ {k : Nat} {c' : Cell}, (μ ++ [c])[k]? = some c' → (μ[k]? = some c' ∧ k < W.n) ∨ (k = W.n ∧ c' = c) := fun {k c'} h => by
    by_cases hk : k < μ.length
    · rw [List.getElem?_append_left hk] at h
      exact .inl ⟨h, by rw [S.n]; exact hk⟩
    · have hk' := (List.getElem?_eq_some_iff.mp h).1
      rw [List.length_append, List.length_singleton] at hk'
      have e : k = μ.length := by omega
      subst e
      rw [List.getElem?_append_right (Nat.le_refl _), Nat.sub_self] at h
      exact .inr ⟨S.n.symm, (Option.some.inj h).symm⟩
  refine ⟨by show W.n + 1 = _; rw [List.length_append, List.length_singleton, S.n], S'.ex, fun k c' h => ?_, fun i j ci cj hi hj ni nj e => ?_⟩
  · rcases at' h with ⟨h, hk⟩ | ⟨rfl, rfl⟩
    · exact (S'.cell k c' h).stay (W.push_le p) hk (fun z => z) fun o z => z
    · exact hc
  · have apart : ∀ {k : Nat} {c' : Cell}, μ[k]? = some c' → c' ≠ .gone → W.A k ≠ p := fun h n z => by
      obtain ⟨_, u, hu⟩ := (S.cell _ _ h).live n
      rw [z, hp] at hu
      cases hu
    rcases at' hi with ⟨hi, li⟩ | ⟨rfl, rfl⟩
    · rcases at' hj with ⟨hj, lj⟩ | ⟨ej, _⟩
      · rw [old li, old lj] at e
        exact S.inj i j ci cj hi hj ni nj e
      · rw [old li, ej, Wd.push_at] at e
        exact absurd e (apart hi ni)
    · rcases at' hj with ⟨hj, lj⟩ | ⟨rfl, rfl⟩
      · rw [old lj, Wd.push_at] at e
        exact absurd e.symm (apart hj nj)
      · rfl
/-- a cell changes -/
theorem StOk.setC {c c' : Cell} (S : StOk K W H μ) (h : μ[k]? = some c) (hn : c ≠ .gone) (hc : CellOk K W (upd H (W.A k) o) k c') : StOk K W (upd H (W.A k) o) (μ.set k c') := by
  obtain ⟨g0, u, hu⟩ := (S.cell k c h).live hn
  have hl : k < μ.length := (List.getElem?_eq_some_iff.mp h).1
  have at' : ∀ {i : Nat} {ci : Cell}, (μ.set k c')[i]? = some ci → (i = k ∧ ci = c') ∨ (i ≠ k ∧ μ[i]? = some ci) := fun {i ci} e => by
    by_cases z : k = i
    · subst z
      rw [List.getElem?_set_self hl] at e
      exact .inl ⟨rfl, (Option.some.inj e).symm⟩
    · rw [List.getElem?_set_ne z] at e
      exact .inr ⟨fun q => z q.symm, e⟩
  refine ⟨by rw [List.length_set]; exact S.n, fun b v e => ?_, fun i ci e => ?_, fun i j ci cj hi hj ni nj e => ?_⟩
  · rw [upd_ne (ne_of_none e g0)]
    exact S.ex b v e
  · rcases at' e with ⟨rfl, rfl⟩ | ⟨ne, e⟩
    · exact hc
    · by_cases z : ci = .gone
      · subst z
        trivial
      · refine (S.cell i ci e).stay Wd.le.rfl' (S.lt e) (fun q => q) fun v q => ?_
        rw [upd_ne fun q' => ne (S.inj i k ci c e h z hn q')]
        exact q
  · rcases at' hi with ⟨ei, _⟩ | ⟨zi, hi⟩
    · rcases at' hj with ⟨ej, _⟩ | ⟨zj, hj⟩
      · rw [ei, ej]
      · rw [ei] at e ⊢
        exact S.inj k j c cj h hj hn nj e
    · rcases at' hj with ⟨ej, _⟩ | ⟨zj, hj⟩
      · rw [ej] at e ⊢
        exact S.inj i k ci c hi h ni hn e
      · exact S.inj i j ci cj hi hj ni nj e
/-- a cell is let go -/
theorem StOk.gone (S : StOk K W H μ) (k : Nat) : StOk K W H (μ.set k .gone) := by
  have at' : ∀ {i : Nat} {ci : Cell}, (μ.set k .gone)[i]? = some ci → ci ≠ .gone → μ[i]? = some ci := fun {i ci} e n => by
    by_cases z : k = i
    · subst z
      have hl : k < μ.length := by
        have := (List.getElem?_eq_some_iff.mp e).1
        rwa [List.length_set] at this
      rw [List.getElem?_set_self hl] at e
      exact absurd (Option.some.inj e).symm n
    · rw [List.getElem?_set_ne z] at e
      exact e
  refine ⟨by rw [List.length_set]; exact S.n, S.ex, fun i ci e => ?_, fun i j ci cj hi hj ni nj e => S.inj i j ci cj (at' hi ni) (at' hj nj) ni nj e⟩
  by_cases z : ci = .gone
  · subst z
    trivial
  · exact S.cell i ci (at' e z)
/-- a cell becomes frozen -/
theorem StOk.freeze {c : Cell} (S : StOk K W H μ) (h : μ[k]? = some c) (hn : c ≠ .gone) (hu : H (W.A k) = some o) :
    W.le { W with G := upd W.G (W.A k) o } ∧ StOk K { W with G := upd W.G (W.A k) o } H (μ.set k .gone) := by
  obtain ⟨g0, _, _⟩ := (S.cell k c h).live hn
  have le : W.le { W with G := upd W.G (W.A k) o } := ⟨Nat.le_refl _, fun _ _ => rfl, fun b u e => by
    show upd W.G (W.A k) o b = some u
    rw [upd_ne (ne_of_none e g0)]
    exact e⟩
  have S' := S.gone k
  refine ⟨le, S'.n, fun b u e => ?_, fun i ci e => ?_, S'.inj⟩
  · have e' : upd W.G (W.A k) o b = some u := e
    by_cases hb : b = W.A k
    · subst hb
      rw [upd_same] at e'
      cases e'
      exact hu
    · rw [upd_ne hb] at e'
      exact S.ex b u e'
  · by_cases z : ci = .gone
    · subst z
      trivial
    · have hk : i ≠ k := fun q => by
        subst q
        have hl : i < μ.length := (List.getElem?_eq_some_iff.mp h).1
        rw [List.getElem?_set_self hl] at e
        exact z (Option.some.inj e).symm
      have e0 : μ[i]? = some ci := by
        rw [List.getElem?_set_ne fun q => hk q.symm] at e
        exact e
      have ne : W.A i ≠ W.A k := fun q => hk (S.inj i k ci c e0 h z hn q)
      refine (S.cell i ci e0).stay le (S.lt e0) (fun q => ?_) fun v q => q
      show upd W.G (W.A k) o (W.A i) = none
      rw [upd_ne ne]
      exact q
end
/-! ### what a def may leave behind -/
def DV.under (n : Nat) : DV → Bool
  | .dat _ => true
  | .own k => decide (k < n)
def Cell.under (n : Nat) : Cell → Bool
  | .gone => true
  | .lst xs => xs.all (DV.under n)
  | .dK kvs => kvs.all fun p => p.2.under n
  | .dT kvs => kvs.all fun p => p.2.under n
  | .ins _ fs => fs.all fun p => p.2.under n
  | .xd _ fs => fs.all fun p => p.2.under n
  | .lk _ kvs => kvs.all fun p => p.2.under n
  | .tp _ => true
structure Keep (μ μ' : Store) : Prop where
  len : μ.length ≤ μ'.length
  cell : ∀ (k : Nat) (c : Cell), μ'[k]? = some c → μ[k]? = some c ∨ c.under μ'.length = true
theorem Keep.refl (μ : Store) : Keep μ μ := ⟨Nat.le_refl _, fun _ _ h => .inl h⟩
theorem Keep.set {μ : Store} {k : Nat} {c : Cell} (h : c.under μ.length = true) : Keep μ (μ.set k c) := by
  refine ⟨by rw [List.length_set]; exact Nat.le_refl _, fun i ci e => ?_⟩
  by_cases z : k = i
  · subst z
    have hl : k < μ.length := by
      have := (List.getElem?_eq_some_iff.mp e).1
      rwa [List.length_set] at this
    rw [List.getElem?_set_self hl] at e
    cases e
    exact .inr (by rw [List.length_set]; exact h)
  · rw [List.getElem?_set_ne z] at e
    exact .inl e
section
variable {K : PySem.W.Frag} {W W' : Wd} {H H' : Hp} {μ μ' : Store} {n : Nat}
theorem Rel.cut : ∀ {dv : DV} {v : V}, Rel K W dv v → dv.under n = true → Rel K { W with n := n } dv v
  | .dat _, _, h, _ => h
  | .own _, _, ⟨_, h⟩, z => ⟨of_decide_eq_true z, h⟩
theorem Rels.cut : ∀ {dvs : List DV} {vs : List V}, Rels K W dvs vs → dvs.all (DV.under n) = true → Rels K { W with n := n } dvs vs
  | _, _, .nil, _ => .nil
  | _, _, .cons r t, z => by
    have z' := Bool.and_eq_true_iff.mp z
    exact .cons (r.cut z'.1) (Rels.cut t z'.2)
theorem RelK.cut {κ : Type} : ∀ {dvs : List (κ × DV)} {vs : List (κ × V)}, RelK K W dvs vs → (dvs.all fun p => p.2.under n) = true → RelK K { W with n := n } dvs vs
  | _, _, .nil, _ => .nil
  | _, _, .cons r t, z => by
    have z' := Bool.and_eq_true_iff.mp z
    exact .cons ⟨r.1, r.2.cut z'.1⟩ (RelK.cut t z'.2)
theorem CellOk.cut {k : Nat} {c : Cell} (h : CellOk K W H k c) (z : c.under n = true) : CellOk K { W with n := n } H k c := by
  cases c with
  | gone => trivial
  | lst xs => exact ⟨h.1, let ⟨vs, e, r⟩ := h.2; ⟨vs, e, r.cut z⟩⟩
  | dK xs => exact ⟨h.1, let ⟨vs, e, r⟩ := h.2; ⟨vs, e, RelK.cut r z⟩⟩
  | dT xs => exact ⟨h.1, let ⟨vs, e, r⟩ := h.2; ⟨vs, e, RelK.cut r z⟩⟩
  | ins C xs => exact ⟨h.1, let ⟨dx, vs, e, r⟩ := h.2; ⟨dx, vs, e, RelK.cut r z⟩⟩
  | xd d xs => exact ⟨h.1, let ⟨q, vs, e, r⟩ := h.2; ⟨q, vs, e, RelK.cut r z⟩⟩
  | lk o xs => exact ⟨h.1, h.2.1, let ⟨ob, ws, q, r⟩ := h.2.2; ⟨ob, ws, q, RelK.cut r z⟩⟩
  | tp ks => exact h
theorem Rel.under (h : Rel K W dv v) : dv.under W.n = true := by
  cases dv with
  | dat _ => rfl
  | own k => exact decide_eq_true h.1
theorem Rels.under : ∀ {dvs : List DV} {vs : List V}, Rels K W dvs vs → dvs.all (DV.under W.n) = true
  | _, _, .nil => rfl
  | _, _, .cons r t => Bool.and_eq_true_iff.mpr ⟨r.under, Rels.under t⟩
theorem RelK.under {κ : Type} : ∀ {dvs : List (κ × DV)} {vs : List (κ × V)}, RelK K W dvs vs → (dvs.all fun p => p.2.under W.n) = true
  | _, _, .nil => rfl
  | _, _, .cons r t => Bool.and_eq_true_iff.mpr ⟨r.2.under, RelK.under t⟩
theorem CellOk.under {k : Nat} {c : Cell} (h : CellOk K W H k c) : c.under W.n = true := by
  cases c with
  | gone => rfl
  | lst xs => exact let ⟨_, _, r⟩ := h.2; r.under
  | dK xs => exact let ⟨_, _, r⟩ := h.2; RelK.under r
  | dT xs => exact let ⟨_, _, r⟩ := h.2; RelK.under r
  | ins C xs => exact let ⟨_, _, _, r⟩ := h.2; RelK.under r
  | xd d xs => exact let ⟨_, _, _, r⟩ := h.2; RelK.under r
  | lk o xs => exact let ⟨_, _, _, r⟩ := h.2.2; RelK.under r
  | tp ks => rfl
theorem DV.under_mono {n m : Nat} (h : n ≤ m) : ∀ {dv : DV}, dv.under n = true → dv.under m = true
  | .dat _, _ => rfl
  | .own _, z => decide_eq_true (Nat.lt_of_lt_of_le (of_decide_eq_true z) h)
theorem all_mono {α : Type} {p q : α → Bool} (h : ∀ a, p a = true → q a = true) : ∀ {l : List α}, l.all p = true → l.all q = true
  | [], _ => rfl
  | a :: l, z => by
    have z' := Bool.and_eq_true_iff.mp z
    exact Bool.and_eq_true_iff.mpr ⟨h a z'.1, all_mono h z'.2⟩
theorem Cell.under_mono {n m : Nat} (h : n ≤ m) {c : Cell} (z : c.under n = true) : c.under m = true := by
  cases c with
  | gone => rfl
  | lst xs => exact all_mono (fun _ => DV.under_mono h) z
  | dK xs => exact all_mono (p := fun p : Key × DV => p.2.under n) (fun _ => DV.under_mono h) z
  | dT xs => exact all_mono (p := fun p : List Key × DV => p.2.under n) (fun _ => DV.under_mono h) z
  | ins C xs => exact all_mono (p := fun p : Str × DV => p.2.under n) (fun _ => DV.under_mono h) z
  | xd d xs => exact all_mono (p := fun p : Str × DV => p.2.under n) (fun _ => DV.under_mono h) z
  | lk o xs => exact all_mono (p := fun p : Key × DV => p.2.under n) (fun _ => DV.under_mono h) z
  | tp ks => rfl
/-- cells at the end are let go -/
theorem StOk.take {junk : Store} (S0 : StOk K W H μ) (S : StOk K W' H' (μ' ++ junk)) (kp : Keep μ μ') : StOk K { W' with n := μ'.length } H' μ' := by
  have at' : ∀ {i : Nat} {ci : Cell}, μ'[i]? = some ci → (μ' ++ junk)[i]? = some ci := fun {i ci} e => by
    rw [List.getElem?_append_left (List.getElem?_eq_some_iff.mp e).1]
    exact e
  refine ⟨rfl, S.ex, fun k c e => (S.cell k c (at' e)).cut ?_, fun i j ci cj hi hj => S.inj i j ci cj (at' hi) (at' hj)⟩
  rcases kp.cell k c e with h | h
  · have := (S0.cell k c h).under
    rw [S0.n] at this
    exact Cell.under_mono kp.len this
  · exact h
end
/-! ### a step: what is frozen stays, what no cell holds stays -/
def Off (W : Wd) (μ : Store) (a : Addr) : Prop := ∀ (k : Nat) (c : Cell), μ[k]? = some c → c ≠ .gone → W.A k ≠ a
/-- an exception's own dict, beside all cells -/
structure XdAt (K : PySem.W.Frag) (W : Wd) (H : Hp) (μ : Store) (d : Addr) (fs : List (Str × DV)) : Prop where
  at_ : ∃ ws, H d = some (.xd ws) ∧ RelK K W fs ws
  free : W.G d = none
  off : Off W μ d
structure Go (W : Wd) (H : Hp) (μ : Store) (W' : Wd) (H' : Hp) (μ' : Store) : Prop where
  le : W.le W'
  fr : ∀ a o, H a = some o → W.G a = none → Off W μ a → H' a = some o ∧ W'.G a = none ∧ Off W' μ' a
/-- q is nobody's -/
def Nq (W : Wd) (H : Hp) (μ : Store) (q : Addr) : Prop := ∀ o, H q = some o → W.G q = none → Off W μ q → False
theorem Nq.none {W : Wd} {H : Hp} {μ : Store} {q : Addr} (h : H q = none) : Nq W H μ q := fun o e _ _ => by
  rw [h] at e
  cases e
theorem Nq.back {W W' : Wd} {H H' : Hp} {μ μ' : Store} {q : Addr} (g : Go W H μ W' H' μ') (h : Nq W' H' μ' q) : Nq W H μ q := fun o e z f => by
  obtain ⟨h1, h2, h3⟩ := g.fr q o e z f
  exact h o h1 h2 h3
/-- slots and store -/
structure At (K : PySem.W.Frag) (W : Wd) (H : Hp) (σ : L2.St) (δ : Slots) (μ : Store) : Prop where
  st : StOk K W H μ
  sl : SlOk K W σ δ
section
variable {K : PySem.W.Frag} {W W' W1 W2 : Wd} {H H' H1 H2 : Hp} {μ μ' μ1 μ2 : Store} {σ : L2.St} {δ : Slots} {p : Addr} {o : HO} {k : Nat}
theorem Go.refl : Go W H μ W H μ := ⟨Wd.le.rfl', fun _ _ h g f => ⟨h, g, f⟩⟩
theorem Go.trans (a : Go W H μ W1 H1 μ1) (b : Go W1 H1 μ1 W2 H2 μ2) : Go W H μ W2 H2 μ2 :=
  ⟨a.le.trans b.le, fun x o h g f => let ⟨h1, g1, f1⟩ := a.fr x o h g f; b.fr x o h1 g1 f1⟩
theorem At.le (h : At K W H σ δ μ) (g : Go W H μ W' H' μ') (s : StOk K W' H' μ') : At K W' H' σ δ μ' := ⟨s, h.sl.mono g.le⟩
theorem Off.push (S : StOk K W H μ) {a : Addr} {c : Cell} (f : Off W μ a) (n : a ≠ p) : Off (W.push p) (μ ++ [c]) a := fun i ci e z => by
  by_cases hk : i < μ.length
  · rw [List.getElem?_append_left hk] at e
    rw [(W.push_le p).A i (by rw [S.n]; exact hk)]
    exact f i ci e z
  · have hk' := (List.getElem?_eq_some_iff.mp e).1
    rw [List.length_append, List.length_singleton] at hk'
    have q : i = W.n := by rw [S.n]; omega
    rw [q, Wd.push_at]
    exact n.symm
theorem Off.set {a : Addr} {c : Cell} (f : Off W μ a) (hl : ∃ c0, μ[k]? = some c0 ∧ c0 ≠ .gone) : Off W (μ.set k c) a := fun i ci e z => by
  by_cases q : k = i
  · subst q
    obtain ⟨c0, h0, n0⟩ := hl
    exact f k c0 h0 n0
  · rw [List.getElem?_set_ne q] at e
    exact f i ci e z
theorem Off.gone {a : Addr} (f : Off W μ a) : Off W (μ.set k .gone) a := fun i ci e z => by
  by_cases q : k = i
  · subst q
    have hl : k < μ.length := by
      have := (List.getElem?_eq_some_iff.mp e).1
      rwa [List.length_set] at this
    rw [List.getElem?_set_self hl] at e
    exact absurd (Option.some.inj e).symm z
  · rw [List.getElem?_set_ne q] at e
    exact f i ci e z
/-- a new frozen object -/
theorem go_newG (S : StOk K W H μ) (hp : H p = none) : Go W H μ { W with G := upd W.G p o } (upd H p o) μ ∧ StOk K { W with G := upd W.G p o } (upd H p o) μ := by
  obtain ⟨le, s⟩ := S.newG (o := o) hp
  refine ⟨⟨le, fun a u h g f => ⟨?_, ?_, f⟩⟩, s⟩
  · rw [upd_ne (ne_of_none h hp)]
    exact h
  · show upd W.G p o a = none
    rw [upd_ne (ne_of_none h hp)]
    exact g
/-- a new cell -/
theorem go_newC {c : Cell} (S : StOk K W H μ) (hp : H p = none) (hc : CellOk K (W.push p) (upd H p o) W.n c) : Go W H μ (W.push p) (upd H p o) (μ ++ [c]) ∧ StOk K (W.push p) (upd H p o) (μ ++ [c]) := by
  have ex : Same H (upd H p o) := fun b u e => by
    rw [upd_ne (ne_of_none e hp)]
    exact e
  exact ⟨⟨W.push_le p, fun a u h g f => ⟨ex a u h, g, f.push S (ne_of_none h hp)⟩⟩, S.newC hp ex hc⟩
/-- a cell changes -/
theorem go_setC {c c' : Cell} (S : StOk K W H μ) (h : μ[k]? = some c) (hn : c ≠ .gone) (hc : CellOk K W (upd H (W.A k) o) k c') : Go W H μ W (upd H (W.A k) o) (μ.set k c') ∧ StOk K W (upd H (W.A k) o) (μ.set k c') := by
  refine ⟨⟨Wd.le.rfl', fun a u e g f => ⟨?_, g, f.set ⟨c, h, hn⟩⟩⟩, S.setC h hn hc⟩
  rw [upd_ne fun z => f k c h hn z.symm]
  exact e
theorem go_freeze {c : Cell} (S : StOk K W H μ) (h : μ[k]? = some c) (hn : c ≠ .gone) (hu : H (W.A k) = some o) :
    Go W H μ { W with G := upd W.G (W.A k) o } H (μ.set k .gone) ∧ StOk K { W with G := upd W.G (W.A k) o } H (μ.set k .gone) := by
  obtain ⟨le, s⟩ := S.freeze h hn hu
  refine ⟨⟨le, fun a u e g f => ⟨e, ?_, f.gone⟩⟩, s⟩
  show upd W.G (W.A k) o a = none
  rw [upd_ne fun z => f k c h hn z.symm]
  exact g
theorem go_take {junk : Store} (S0 : StOk K W H μ) (S : StOk K W' H' (μ' ++ junk)) (g : Go W H μ W' H' (μ' ++ junk)) (kp : Keep μ μ') : Go W H μ { W' with n := μ'.length } H' μ' ∧ StOk K { W' with n := μ'.length } H' μ' := by
  refine ⟨⟨⟨by rw [S0.n]; exact kp.len, g.le.A, g.le.G⟩, fun a u e z f => ?_⟩, S0.take S kp⟩
  obtain ⟨h1, h2, h3⟩ := g.fr a u e z f
  exact ⟨h1, h2, fun i ci q => h3 i ci (by rw [List.getElem?_append_left (List.getElem?_eq_some_iff.mp q).1]; exact q)⟩
/-- something beside all this changes -/
theorem StOk.beside (S : StOk K W H μ) (g : W.G p = none) (f : Off W μ p) : StOk K W (upd H p o) μ := by
  refine ⟨S.n, fun b u e => ?_, fun i ci e => ?_, S.inj⟩
  · rw [upd_ne (ne_of_none e g)]
    exact S.ex b u e
  · by_cases z : ci = .gone
    · subst z
      trivial
    · refine (S.cell i ci e).stay Wd.le.rfl' (S.lt e) (fun q => q) fun v q => ?_
      rw [upd_ne (f i ci e z)]
      exact q
theorem Off.fresh (S : StOk K W H μ) (h : H p = none) : Off W μ p := fun i ci e z q => by
  obtain ⟨_, u, hu⟩ := (S.cell i ci e).live z
  rw [q, h] at hu
  cases hu
end
end Dt
set_option maxHeartbeats 2000000
/-! Deterministic big-step judgements over data, each proved of the model by the hand layer's rules. -/
namespace Dt
open PySem PySem.Spec L2
/-! ### the weakest wishes themselves -/
structure semE (X : Cx) (e : Expr) (σ : L2.St) (H : Hp) (Q : VK) : Prop where
  run : ∀ pins s, Inv X pins σ H s → wpAny (model X.prog X.w) X.A (eval e X.env) (EP X pins σ Q) X.xe s
structure semT (X : Cx) (e : Expr) (σ : L2.St) (H : Hp) (Q : Bool → Hp → Prop) : Prop where
  run : ∀ pins s, Inv X pins σ H s → wpAny (model X.prog X.w) X.A (isTrue e X.env (eval e X.env)) (TP X pins σ Q) X.xe s
structure semW (X : Cx) (e : Expr) (σ : L2.St) (H : Hp) (Q : Bool → Hp → Prop) : Prop where
  run : ∀ whole pins s, Inv X pins σ H s → wpAny (model X.prog X.w) X.A (isTrue e X.env whole) (TP X pins σ Q) X.xe s
structure semS (X : Cx) (st : Stmt) (D : Ends) (σ : L2.St) (H : Hp) : Prop where
  run : ∀ pins s, Inv X pins σ H s → wpAny (model X.prog X.w) X.A (exec st X.env) (SP X pins D) X.xe s
structure semB (X : Cx) (st : List Stmt) (D : Ends) (σ : L2.St) (H : Hp) : Prop where
  run : ∀ pins s, Inv X pins σ H s → wpAny (model X.prog X.w) X.A (execs st X.env) (SP X pins D) X.xe s
section
variable {X : Cx} {e : Expr} {st : Stmt} {sts : List Stmt} {te : TE} {tt : TT} {ts : TS} {σ : L2.St} {H : Hp} {D : Ends}
theorem semE_pe : PE X e (semE X e) := ⟨fun pins s σ H Q I h => h.run pins s I⟩
theorem semT_pt : PT X e (semT X e) := ⟨fun pins s σ H Q I h => h.run pins s I⟩
theorem semW_pw : PW X e (semW X e) := ⟨fun wh pins s σ H Q I h => h.run wh pins s I⟩
theorem semS_ps : PS X st (semS X st) := ⟨fun pins s σ H D I h => h.run pins s I⟩
theorem semB_ps : PSs X sts (semB X sts) := ⟨fun pins s σ H D I h => h.run pins s I⟩
theorem semE_of (h : PE X e te) {Q : VK} (q : te σ H Q) : semE X e σ H Q := ⟨fun pins s I => h.run pins s σ H Q I q⟩
theorem semT_of (h : PT X e tt) {Q : Bool → Hp → Prop} (q : tt σ H Q) : semT X e σ H Q := ⟨fun pins s I => h.run pins s σ H Q I q⟩
theorem semW_of (h : PW X e tt) {Q : Bool → Hp → Prop} (q : tt σ H Q) : semW X e σ H Q := ⟨fun wh pins s I => h.run wh pins s σ H Q I q⟩
theorem semS_of (h : PS X st ts) (q : ts D σ H) : semS X st D σ H := ⟨fun pins s I => h.run pins s σ H D I q⟩
theorem semB_of (h : PSs X sts ts) (q : ts D σ H) : semB X sts D σ H := ⟨fun pins s I => h.run pins s σ H D I q⟩
end
/-! ### the judgements -/
abbrev Flds := List (Str × DV)
/-- an expression gives dv and leaves μ' -/
def Ev (X : Cx) (e : Expr) (δ : Slots) (μ : Store) (dv : DV) (μ' : Store) : Prop :=
  ∀ W H σ (Q : VK), At X.K W H σ δ μ → (∀ W' H' v, Go W H μ W' H' μ' → At X.K W' H' σ δ μ' → Rel X.K W' dv v → Q v H') → semE X e σ H Q
/-- an expression raises an exception of the class at C with such fields -/
def Er (X : Cx) (T : WX) (e : Expr) (δ : Slots) (μ : Store) (C : Addr) (fs : Flds) (μ' : Store) : Prop :=
  ∀ W H σ (Q : VK), At X.K W H σ δ μ → (∀ W' H' d, Go W H μ W' H' μ' → At X.K W' H' σ δ μ' → XdAt X.K W' H' μ' d fs → Nq W H μ d → T (.ref C) (some d) σ H') → semE X e σ H Q
def Et (X : Cx) (e : Expr) (δ : Slots) (μ : Store) (b : Bool) (μ' : Store) : Prop :=
  ∀ W H σ (Q : Bool → Hp → Prop), At X.K W H σ δ μ → (∀ W' H', Go W H μ W' H' μ' → At X.K W' H' σ δ μ' → Q b H') → semT X e σ H Q
def Ew (X : Cx) (e : Expr) (δ : Slots) (μ : Store) (b : Bool) (μ' : Store) : Prop :=
  ∀ W H σ (Q : Bool → Hp → Prop), At X.K W H σ δ μ → (∀ W' H', Go W H μ W' H' μ' → At X.K W' H' σ δ μ' → Q b H') → semW X e σ H Q
def semA (X : Cx) : List Expr → TA
  | [] => tNil
  | e :: es => tCons (semE X e) (semA X es)
structure Ea (X : Cx) (es : List Expr) (δ : Slots) (μ : Store) (dvs : List DV) (μ' : Store) : Prop where
  pa : PA X es (semA X es)
  ev : ∀ W H σ (Q : List V → Hp → Prop), At X.K W H σ δ μ → (∀ W' H' vs, Go W H μ W' H' μ' → At X.K W' H' σ δ μ' → Rels X.K W' dvs vs → Q vs H') → semA X es σ H Q
/-- how a statement ends -/
inductive Out where
  | nx (δ : Slots) (μ : Store)
  | rt (dv : DV) (μ : Store)
  | bk (δ : Slots) (μ : Store)
  | ct (δ : Slots) (μ : Store)
  | ex (C : Addr) (fs : Flds) (δ : Slots) (μ : Store)
def Post (K : PySem.W.Frag) (W : Wd) (H : Hp) (μ : Store) (D : Ends) (T : WX) : Out → Prop
  | .nx δ' μ' => ∀ W' H' σ', Go W H μ W' H' μ' → At K W' H' σ' δ' μ' → D.nx σ' H'
  | .rt dv μ' => ∀ W' H' v, Go W H μ W' H' μ' → StOk K W' H' μ' → Rel K W' dv v → D.rt v H'
  | .bk δ' μ' => ∀ W' H' σ', Go W H μ W' H' μ' → At K W' H' σ' δ' μ' → D.bk σ' H'
  | .ct δ' μ' => ∀ W' H' σ', Go W H μ W' H' μ' → At K W' H' σ' δ' μ' → D.ct σ' H'
  | .ex C fs δ' μ' => ∀ W' H' σ' d, Go W H μ W' H' μ' → At K W' H' σ' δ' μ' → XdAt K W' H' μ' d fs → Nq W H μ d → T (.ref C) (some d) σ' H'
theorem Post.from {K : PySem.W.Frag} {W W1 : Wd} {H H1 : Hp} {μ μ1 : Store} {D : Ends} {T : WX} (g : Go W H μ W1 H1 μ1) : ∀ {o : Out}, Post K W H μ D T o → Post K W1 H1 μ1 D T o
  | .nx _ _, h => fun W' H' σ' g' a => h W' H' σ' (g.trans g') a
  | .rt _ _, h => fun W' H' v g' a r => h W' H' v (g.trans g') a r
  | .bk _ _, h => fun W' H' σ' g' a => h W' H' σ' (g.trans g') a
  | .ct _ _, h => fun W' H' σ' g' a => h W' H' σ' (g.trans g') a
  | .ex _ _ _ _, h => fun W' H' σ' d g' a hd nq => h W' H' σ' d (g.trans g') a hd (nq.back g)
def Xs (X : Cx) (T : WX) (st : Stmt) (δ : Slots) (μ : Store) (o : Out) : Prop := ∀ W H σ D, At X.K W H σ δ μ → Post X.K W H μ D T o → semS X st D σ H
def Xb (X : Cx) (T : WX) (sts : List Stmt) (δ : Slots) (μ : Store) (o : Out) : Prop := ∀ W H σ D, At X.K W H σ δ μ → Post X.K W H μ D T o → semB X sts D σ H
section
variable {X : Cx} {T : WX} {δ δ' δ1 : Slots} {μ μ' μ1 μ2 μ3 : Store} {e a b c : Expr} {es : List Expr} {dv dv1 dv2 : DV} {dvs : List DV} {pos p : Pos} {i j : Int} {d d1 d2 : D} {ds : List D}
/-! ### names, constants -/
theorem Rel.iv {K : PySem.W.Frag} {W : Wd} {i : Int} {v : V} (h : Rel K W (.dat (.int i)) v) : v = .int i := by cases (show Dq K W.G v (.int i) from h); rfl
theorem Rel.bv {K : PySem.W.Frag} {W : Wd} {b : Bool} {v : V} (h : Rel K W (.dat (.bl b)) v) : v = .bl b := by cases (show Dq K W.G v (.bl b) from h); rfl
theorem Rel.sv {K : PySem.W.Frag} {W : Wd} {x : Str} {v : V} (h : Rel K W (.dat (.str x)) v) : v = .str x := by cases (show Dq K W.G v (.str x) from h); rfl
theorem Rel.nv {K : PySem.W.Frag} {W : Wd} {v : V} (h : Rel K W (.dat .non) v) : v = .non := by cases (show Dq K W.G v .non from h); rfl
theorem Rel.rv {K : PySem.W.Frag} {W : Wd} {a : Addr} {v : V} (h : Rel K W (.dat (.ref a)) v) : v = .ref a := by cases (show Dq K W.G v (.ref a) from h); rfl
/-- what needs no object is so at once -/
theorem Ev.now {te : TE} (h : PE X e te) (q : ∀ W H σ (Q : VK), At X.K W H σ δ μ → (∀ v, Rel X.K W dv v → Q v H) → te σ H Q) : Ev X e δ μ dv μ :=
  fun W H σ Q A k => semE_of h (q W H σ Q A fun v r => k W H v .refl A r)
theorem Ev.var (i : Nat) {x : Str} (h : δ[i]? = some (some dv)) (hN : X.N[i]? = some x := by rfl) (hv : Vis X.env.scope x := by first | exact Or.inl rfl | exact Or.inr (Or.inl rfl) | exact Or.inr (Or.inr rfl))
    (hd : (x == ("__debug__" : Str)) = false := by decide) (hcd : (x == ("__classdict__" : Str)) = false := by decide) : Ev X (.Name x p) δ μ dv μ :=
  .now (pe_var hN hv hd hcd) fun W H σ Q A k => let ⟨v, e, r⟩ := A.sl.get i dv h; ⟨v, e, k v r⟩
theorem Ev.int {k : Nat} : Ev X (.Constant (.int i) k p) δ μ (.i i) μ := .now pe_int fun _ _ _ _ _ k => k _ (Dq.int i)
theorem Ev.bl {v : Bool} {k : Nat} : Ev X (.Constant (.bool v) k p) δ μ (.b v) μ := .now pe_bl fun _ _ _ _ _ k => k _ (Dq.bl v)
theorem Ev.non {k : Nat} : Ev X (.Constant .none k p) δ μ .n μ := .now pe_non fun _ _ _ _ _ k => k _ Dq.non
theorem Ev.str {x : Str} {k : Nat} : Ev X (.Constant (.str x) k p) δ μ (.s x) μ := .now pe_str fun _ _ _ _ _ k => k _ (Dq.str x)
/-- a class of the module as a value -/
theorem Ev.cls {x : Str} {C : Addr} (hm : X.mg x = some (.ref C)) (hg : Gl X x := by rfl) (hd : (x == ("__debug__" : Str)) = false := by decide) : Ev X (.Name x p) δ μ (.dat (.ref C)) μ :=
  .now (pe_glob (v := .ref C) hg hm rfl hd) fun _ _ _ _ _ k => k _ (Dq.ref C)
theorem Ev.to {dv' : DV} (h : Ev X e δ μ dv μ') (q : dv = dv') : Ev X e δ μ dv' μ' := q ▸ h
theorem Ev.tos {μ'' : Store} (h : Ev X e δ μ dv μ') (q : μ' = μ'') : Ev X e δ μ dv μ'' := q ▸ h
/-! ### two operands -/
def OpS (X : Cx) (f : Value → Value → Sem Value) (a b : DV) (μ : Store) (r : DV) (μ' : Store) : Prop :=
  ∃ r2 : R2, OpR X f r2 ∧ ∀ W H σ δ x y (Q : VK), At X.K W H σ δ μ → Rel X.K W a x → Rel X.K W b y → (∀ W' H' v, Go W H μ W' H' μ' → At X.K W' H' σ δ μ' → Rel X.K W' r v → Q v H') → r2 x y H Q
theorem Ev.two {r2 : R2} {te : TE → TE → TE} {dv3 : DV} (ht : ∀ ta tb, te ta tb = tOp r2 ta tb) (hp : PE X c (te (semE X a) (semE X b))) (ha : Ev X a δ μ dv μ1) (hb : Ev X b δ μ1 dv1 μ2)
    (q : ∀ W H σ δ x y (Q : VK), At X.K W H σ δ μ2 → Rel X.K W dv x → Rel X.K W dv1 y → (∀ W' H' v, Go W H μ2 W' H' μ3 → At X.K W' H' σ δ μ3 → Rel X.K W' dv3 v → Q v H') → r2 x y H Q) : Ev X c δ μ dv3 μ3 := by
  intro W H σ Q A k
  refine semE_of hp ?_
  rw [ht]
  refine ha W H σ _ A fun W1 H1 x g1 A1 r1 => hb W1 H1 σ _ A1 fun W2 H2 y g2 A2 r2' => ?_
  exact q W2 H2 σ δ x y Q A2 (r1.mono g2.le) r2' fun W' H' v g A' r => k W' H' v ((g1.trans g2).trans g) A' r
theorem Ev.bin {op : Operator} (ha : Ev X a δ μ dv μ1) (hb : Ev X b δ μ1 dv1 μ2) (ho : OpS X (binaryOp op) dv dv1 μ2 dv2 μ3) : Ev X (.BinOp a op b pos) δ μ dv2 μ3 :=
  let ⟨_, h, q⟩ := ho
  .two (te := fun ta tb => tOp _ ta tb) (fun _ _ => rfl) (pe_op h semE_pe semE_pe) ha hb q
theorem Ev.cmp {op : CmpOp} (ha : Ev X a δ μ dv μ1) (hb : Ev X b δ μ1 dv1 μ2) (ho : OpS X (compareOp op) dv dv1 μ2 dv2 μ3) (hm : behindInMarks op b = false := by first | exact nomark _ | rfl) : Ev X (.Compare a [op] [b] pos) δ μ dv2 μ3 :=
  let ⟨_, h, q⟩ := ho
  .two (te := fun ta tb => tOp _ ta tb) (fun _ _ => rfl) (pe_cmpR h semE_pe semE_pe hm) ha hb q
theorem OpS.I0 {f : Value → Value → Sem Value} {g : Int → Int → V} {i j : Int} {r : DV} (h : OpR X f (rI0 g)) (e : ∀ W : Wd, Rel X.K W r (g i j)) : OpS X f (.i i) (.i j) μ r μ :=
  ⟨_, h, fun W H σ δ x y Q A rx ry k => ⟨i, j, rx.iv, ry.iv, k W H _ .refl A (e W)⟩⟩
theorem OpS.I {f : Value → Value → Sem Value} {C : Int → Int → Prop} {g : Int → Int → V} {i j : Int} {r : DV} (h : OpR X f (rI C g)) (hc : C i j) (e : ∀ W : Wd, Rel X.K W r (g i j)) : OpS X f (.i i) (.i j) μ r μ :=
  ⟨_, h, fun W H σ δ x y Q A rx ry k => ⟨i, j, rx.iv, ry.iv, hc, k W H _ .refl A (e W)⟩⟩
theorem OpS.add : OpS X (binaryOp .Add) (.i i) (.i j) μ (.i (i + j)) μ := .I0 op_add fun _ => Dq.int _
theorem OpS.sub : OpS X (binaryOp .Sub) (.i i) (.i j) μ (.i (i - j)) μ := .I0 op_sub fun _ => Dq.int _
theorem OpS.mul (h : CMul i j) : OpS X (binaryOp .Mult) (.i i) (.i j) μ (.i (i * j)) μ := .I op_mul h fun _ => Dq.int _
theorem OpS.modP (h : 0 < j) : OpS X (binaryOp .Mod) (.i i) (.i j) μ (.i (i % j)) μ := .I op_mod h fun _ => Dq.int _
theorem OpS.fdiv (h : CDiv i j) : OpS X (binaryOp .FloorDiv) (.i i) (.i j) μ (.i (i / j)) μ := .I op_fdiv h fun _ => Dq.int _
theorem OpS.pow (h : CPow i j) : OpS X (binaryOp .Pow) (.i i) (.i j) μ (.i (i ^ j.toNat)) μ := .I op_pow h fun _ => Dq.int _
theorem OpS.lt : OpS X (compareOp .Lt) (.i i) (.i j) μ (.b (decide (i < j))) μ := .I0 op_lt fun _ => Dq.bl _
theorem OpS.le : OpS X (compareOp .LtE) (.i i) (.i j) μ (.b (decide (i ≤ j))) μ := .I0 op_le fun _ => Dq.bl _
theorem OpS.gt : OpS X (compareOp .Gt) (.i i) (.i j) μ (.b (decide (j < i))) μ := .I0 op_gt fun _ => Dq.bl _
theorem OpS.ge : OpS X (compareOp .GtE) (.i i) (.i j) μ (.b (decide (j ≤ i))) μ := .I0 op_ge fun _ => Dq.bl _
theorem OpS.eqI : OpS X (compareOp .Eq) (.i i) (.i j) μ (.b (decide (i = j))) μ :=
  ⟨_, op_eq, fun W H σ δ x y Q A rx ry k => by
    rw [rx.iv, ry.iv]
    refine ⟨rfl, k W H _ .refl A ?_⟩
    have e : decide (V.int i = V.int j) = decide (i = j) := decide_eq_decide.mpr ⟨fun h => V.int.inj h, fun h => by rw [h]⟩
    rw [e]
    exact Dq.bl _⟩
theorem OpS.neI : OpS X (compareOp .NotEq) (.i i) (.i j) μ (.b (!decide (i = j))) μ :=
  ⟨_, op_ne, fun W H σ δ x y Q A rx ry k => by
    rw [rx.iv, ry.iv]
    refine ⟨rfl, k W H _ .refl A ?_⟩
    have e : decide (V.int i = V.int j) = decide (i = j) := decide_eq_decide.mpr ⟨fun h => V.int.inj h, fun h => by rw [h]⟩
    rw [e]
    exact Dq.bl _⟩
theorem OpS.eqS {x y : Str} : OpS X (compareOp .Eq) (.s x) (.s y) μ (.b (decide (x = y))) μ :=
  ⟨_, op_eq, fun W H σ δ u v Q A rx ry k => by
    rw [rx.sv, ry.sv]
    refine ⟨rfl, k W H _ .refl A ?_⟩
    have e : decide (V.str x = V.str y) = decide (x = y) := decide_eq_decide.mpr ⟨fun h => V.str.inj h, fun h => by rw [h]⟩
    rw [e]
    exact Dq.bl _⟩
theorem OpS.neS {x y : Str} : OpS X (compareOp .NotEq) (.s x) (.s y) μ (.b (!decide (x = y))) μ :=
  ⟨_, op_ne, fun W H σ δ u v Q A rx ry k => by
    rw [rx.sv, ry.sv]
    refine ⟨rfl, k W H _ .refl A ?_⟩
    have e : decide (V.str x = V.str y) = decide (x = y) := decide_eq_decide.mpr ⟨fun h => V.str.inj h, fun h => by rw [h]⟩
    rw [e]
    exact Dq.bl _⟩
def isNon : DV → Bool
  | .dat .non => true
  | _ => false
theorem Rel.non_iff {K : PySem.W.Frag} {W : Wd} {dv : DV} {v : V} (h : Rel K W dv v) : decide (v = .non) = isNon dv := by
  cases dv with
  | own k =>
    obtain ⟨_, e⟩ := h
    subst e
    rfl
  | dat d =>
    have h' : Dq K W.G v d := h
    cases h' <;> rfl
theorem OpS.isN : OpS X (compareOp .Is) dv .n μ (.b (isNon dv)) μ :=
  ⟨_, op_isN, fun W H σ δ x y Q A rx ry k => ⟨ry.nv, by
    rw [rx.non_iff]
    exact k W H _ .refl A (Dq.bl _)⟩⟩
theorem OpS.notN : OpS X (compareOp .IsNot) dv .n μ (.b (!isNon dv)) μ :=
  ⟨_, op_notN, fun W H σ δ x y Q A rx ry k => ⟨ry.nv, by
    rw [rx.non_iff]
    exact k W H _ .refl A (Dq.bl _)⟩⟩
theorem Ev.neg (ha : Ev X a δ μ (.i i) μ1) : Ev X (.UnaryOp .USub a pos) δ μ (.i (-i)) μ1 := fun W H σ Q A k =>
  semE_of (pe_un un_neg semE_pe) (ha W H σ _ A fun W1 H1 x g1 A1 r1 => ⟨i, r1.iv, k W1 H1 _ g1 A1 (Dq.int _)⟩)
/-! ### tests -/
theorem Et.val (h : Ev X e δ μ (.b v) μ') (he : ∀ whole, isTrue e X.env whole = (do let v ← whole; standAt e.pos; holding [v] (truthy v)) := by intro _; rfl) : Et X e δ μ v μ' := fun W H σ Q A k =>
  semT_of (pt_val semE_pe he) (h W H σ _ A fun W1 H1 x g1 A1 r1 => ⟨v, r1.bv, k W1 H1 g1 A1⟩)
theorem Et.cmp {op : CmpOp} {v : Bool} (ha : Ev X a δ μ dv μ1) (hb : Ev X b δ μ1 dv1 μ2) (ho : OpS X (compareOp op) dv dv1 μ2 (.b v) μ3) (hm : behindInMarks op b = false := by first | exact nomark _ | rfl) : Et X (.Compare a [op] [b] pos) δ μ v μ3 := by
  obtain ⟨r2, h, q⟩ := ho
  intro W H σ Q A k
  refine semT_of (pt_cmpR h semE_pe semE_pe hm) ?_
  refine ha W H σ _ A fun W1 H1 x g1 A1 r1 => hb W1 H1 σ _ A1 fun W2 H2 y g2 A2 r2' => ?_
  exact q W2 H2 σ δ x y _ A2 (r1.mono g2.le) r2' fun W' H' u g A' r => ⟨v, r.bv, k W' H' ((g1.trans g2).trans g) A'⟩
theorem Et.not {v : Bool} (h : Et X a δ μ v μ') : Et X (.UnaryOp .Not a pos) δ μ (!v) μ' := fun W H σ Q A k =>
  semT_of (pt_not semT_pt) (h W H σ _ A fun W1 H1 g1 A1 => k W1 H1 g1 A1)
theorem Et.w {v : Bool} (h : Ew X e δ μ v μ') : Et X e δ μ v μ' := fun W H σ Q A k => semT_of semW_pw.pt (h W H σ _ A k)
theorem Ew.and1 {v : Bool} (h : Et X a δ μ v μ') : Ew X (.BoolOp .And [a] pos) δ μ v μ' := fun W H σ Q A k => semW_of (pw_and1 semT_pt) (h W H σ _ A k)
theorem Ew.or1 {v : Bool} (h : Et X a δ μ v μ') : Ew X (.BoolOp .Or [a] pos) δ μ v μ' := fun W H σ Q A k => semW_of (pw_or1 semT_pt) (h W H σ _ A k)
theorem Ew.andT {v : Bool} (h : Et X a δ μ true μ1) (hb : Ew X (.BoolOp .And (b :: es) pos) δ μ1 v μ') : Ew X (.BoolOp .And (a :: b :: es) pos) δ μ v μ' := fun W H σ Q A k =>
  semW_of (pw_and semT_pt semW_pw) (h W H σ _ A fun W1 H1 g1 A1 => iteT (hb W1 H1 σ _ A1 fun W2 H2 g2 A2 => k W2 H2 (g1.trans g2) A2))
theorem Ew.andF (h : Et X a δ μ false μ1) : Ew X (.BoolOp .And (a :: b :: es) pos) δ μ false μ1 := fun W H σ Q A k =>
  semW_of (pw_and semT_pt semW_pw) (h W H σ _ A fun W1 H1 g1 A1 => iteF (k W1 H1 g1 A1))
theorem Ew.orT (h : Et X a δ μ true μ1) : Ew X (.BoolOp .Or (a :: b :: es) pos) δ μ true μ1 := fun W H σ Q A k =>
  semW_of (pw_or semT_pt semW_pw) (h W H σ _ A fun W1 H1 g1 A1 => iteT (k W1 H1 g1 A1))
theorem Ew.orF {v : Bool} (h : Et X a δ μ false μ1) (hb : Ew X (.BoolOp .Or (b :: es) pos) δ μ1 v μ') : Ew X (.BoolOp .Or (a :: b :: es) pos) δ μ v μ' := fun W H σ Q A k =>
  semW_of (pw_or semT_pt semW_pw) (h W H σ _ A fun W1 H1 g1 A1 => iteF (hb W1 H1 σ _ A1 fun W2 H2 g2 A2 => k W2 H2 (g1.trans g2) A2))
/-- .. where the store stays -/
theorem Ew.and {u v : Bool} (h : Et X a δ μ u μ) (hb : u = true → Ew X (.BoolOp .And (b :: es) pos) δ μ v μ) : Ew X (.BoolOp .And (a :: b :: es) pos) δ μ (u && v) μ := by
  cases u with
  | true => exact .andT h (hb rfl)
  | false => exact .andF h
theorem Ew.or {u v : Bool} (h : Et X a δ μ u μ) (hb : u = false → Ew X (.BoolOp .Or (b :: es) pos) δ μ v μ) : Ew X (.BoolOp .Or (a :: b :: es) pos) δ μ (u || v) μ := by
  cases u with
  | true => exact .orT h
  | false => exact .orF h (hb rfl)
theorem Et.to {u v : Bool} (h : Et X e δ μ u μ') (q : u = v) : Et X e δ μ v μ' := q ▸ h
/-! ### and, or, not as values (truth values) -/
theorem Ev.last {op : BoolOp} (h : Ev X a δ μ dv μ') : Ev X (.BoolOp op [a] pos) δ μ dv μ' := fun W H σ Q A k => semE_of (pe_one semE_pe) (h W H σ _ A k)
theorem Ev.andT (h : Ev X a δ μ (.b true) μ1) (hb : Ev X (.BoolOp .And (b :: es) pos) δ μ1 dv μ') : Ev X (.BoolOp .And (a :: b :: es) pos) δ μ dv μ' := fun W H σ Q A k =>
  semE_of (pe_and semE_pe semE_pe) (h W H σ _ A fun W1 H1 x g1 A1 r1 => ⟨true, r1.bv, iteT (hb W1 H1 σ _ A1 fun W2 H2 y g2 A2 r2 => k W2 H2 y (g1.trans g2) A2 r2)⟩)
theorem Ev.andF (h : Ev X a δ μ (.b false) μ1) : Ev X (.BoolOp .And (a :: b :: es) pos) δ μ (.b false) μ1 := fun W H σ Q A k =>
  semE_of (pe_and semE_pe semE_pe) (h W H σ _ A fun W1 H1 x g1 A1 r1 => ⟨false, r1.bv, iteF (k W1 H1 _ g1 A1 (Dq.bl _))⟩)
theorem Ev.orT (h : Ev X a δ μ (.b true) μ1) : Ev X (.BoolOp .Or (a :: b :: es) pos) δ μ (.b true) μ1 := fun W H σ Q A k =>
  semE_of (pe_or semE_pe semE_pe) (h W H σ _ A fun W1 H1 x g1 A1 r1 => ⟨true, r1.bv, iteT (k W1 H1 _ g1 A1 (Dq.bl _))⟩)
theorem Ev.orF (h : Ev X a δ μ (.b false) μ1) (hb : Ev X (.BoolOp .Or (b :: es) pos) δ μ1 dv μ') : Ev X (.BoolOp .Or (a :: b :: es) pos) δ μ dv μ' := fun W H σ Q A k =>
  semE_of (pe_or semE_pe semE_pe) (h W H σ _ A fun W1 H1 x g1 A1 r1 => ⟨false, r1.bv, iteF (hb W1 H1 σ _ A1 fun W2 H2 y g2 A2 r2 => k W2 H2 y (g1.trans g2) A2 r2)⟩)
theorem Ev.and {u v : Bool} (h : Ev X a δ μ (.b u) μ) (hb : u = true → Ev X (.BoolOp .And (b :: es) pos) δ μ (.b v) μ) : Ev X (.BoolOp .And (a :: b :: es) pos) δ μ (.b (u && v)) μ := by
  cases u with
  | true => exact .andT h (hb rfl)
  | false => exact .andF h
theorem Ev.or {u v : Bool} (h : Ev X a δ μ (.b u) μ) (hb : u = false → Ev X (.BoolOp .Or (b :: es) pos) δ μ (.b v) μ) : Ev X (.BoolOp .Or (a :: b :: es) pos) δ μ (.b (u || v)) μ := by
  cases u with
  | true => exact .orT h
  | false => exact .orF h (hb rfl)
theorem Ev.not {v : Bool} (h : Ev X a δ μ (.b v) μ') : Ev X (.UnaryOp .Not a pos) δ μ (.b (!v)) μ' := fun W H σ Q A k =>
  semE_of (pe_not semE_pe) (h W H σ _ A fun W1 H1 x g1 A1 r1 => ⟨v, r1.bv, k W1 H1 _ g1 A1 (Dq.bl _)⟩)
theorem Ev.ifT (h : Et X c δ μ true μ1) (ha : Ev X a δ μ1 dv μ') : Ev X (.IfExp c a b pos) δ μ dv μ' := fun W H σ Q A k =>
  semE_of (pe_ifExp semT_pt semE_pe semE_pe) (h W H σ _ A fun W1 H1 g1 A1 => iteT (ha W1 H1 σ _ A1 fun W2 H2 y g2 A2 r2 => k W2 H2 y (g1.trans g2) A2 r2))
theorem Ev.ifF (h : Et X c δ μ false μ1) (hb : Ev X b δ μ1 dv μ') : Ev X (.IfExp c a b pos) δ μ dv μ' := fun W H σ Q A k =>
  semE_of (pe_ifExp semT_pt semE_pe semE_pe) (h W H σ _ A fun W1 H1 g1 A1 => iteF (hb W1 H1 σ _ A1 fun W2 H2 y g2 A2 r2 => k W2 H2 y (g1.trans g2) A2 r2))
theorem Er.ifT {C : Addr} {fs : Flds} (h : Et X c δ μ true μ1) (ha : Er X T a δ μ1 C fs μ') : Er X T (.IfExp c a b pos) δ μ C fs μ' := fun W H σ Q A k =>
  semE_of (pe_ifExp semT_pt semE_pe semE_pe) (h W H σ _ A fun W1 H1 g1 A1 => iteT (ha W1 H1 σ _ A1 fun W2 H2 y g2 A2 hd nq => k W2 H2 y (g1.trans g2) A2 hd (nq.back g1)))
theorem Er.ifF {C : Addr} {fs : Flds} (h : Et X c δ μ false μ1) (hb : Er X T b δ μ1 C fs μ') : Er X T (.IfExp c a b pos) δ μ C fs μ' := fun W H σ Q A k =>
  semE_of (pe_ifExp semT_pt semE_pe semE_pe) (h W H σ _ A fun W1 H1 g1 A1 => iteF (hb W1 H1 σ _ A1 fun W2 H2 y g2 A2 hd nq => k W2 H2 y (g1.trans g2) A2 hd (nq.back g1)))
/-! ### arguments, displays -/
theorem Ea.nil : Ea X [] δ μ [] μ := ⟨pa_nil, fun W H σ Q A k => k W H [] .refl A .nil⟩
theorem Ea.cons (h : Ev X e δ μ dv μ1) (hr : Ea X es δ μ1 dvs μ2) (hs : starEach (e :: es) X.env = (false, eval e X.env) :: starEach es X.env := by rfl) : Ea X (e :: es) δ μ (dv :: dvs) μ2 :=
  ⟨pa_cons semE_pe hr.pa hs, fun W H σ Q A k => h W H σ _ A fun W1 H1 x g1 A1 r1 => hr.ev W1 H1 σ _ A1 fun W2 H2 xs g2 A2 r2 => k W2 H2 (x :: xs) (g1.trans g2) A2 (.cons (r1.mono g2.le) r2)⟩
theorem DqA.of {K : PySem.W.Frag} {W : Wd} : ∀ {ds : List D} {vs : List V}, Rels K W (ds.map DV.dat) vs → DqA K W.G vs ds
  | [], _, h => by cases h; exact .nil
  | d :: ds, _, h => by
    cases h with
    | cons r t => exact .cons r (DqA.of t)
theorem DqA.rels {K : PySem.W.Frag} {W : Wd} : ∀ {ds : List D} {vs : List V}, DqA K W.G vs ds → Rels K W (ds.map DV.dat) vs
  | _, _, .nil => .nil
  | _, _, .cons h t => .cons h (DqA.rels t)
theorem Rels.len {K : PySem.W.Frag} {W : Wd} {dvs : List DV} {vs : List V} (h : Rels K W dvs vs) : dvs.length = vs.length := Paired.length h
theorem Ev.tup {x1} (h : Ea X es δ μ (ds.map DV.dat) μ') (hl : ds.length ≤ 1000000 := by exact Nat.le_of_ble_eq_true rfl) : Ev X (.Tuple es x1 pos) δ μ (.dat (.tup ds)) μ' := fun W H σ Q A k =>
  semE_of (pe_tup h.pa) (h.ev W H σ _ A fun W1 H1 vs g1 A1 r1 => ⟨by
    rw [← r1.len, List.length_map, sizeLine_eq]
    omega, fun p hp => by
    obtain ⟨g, s⟩ := go_newG (o := .tup vs) A1.st hp
    exact k _ _ _ (g1.trans g) (A1.le g s) (Dq.tup (SqT.of upd_same) (DqA.of (r1.mono g.le)))⟩)
theorem Ev.lst (h : Ea X es δ μ (ds.map DV.dat) μ') (hl : ds.length ≤ 1000000 := by exact Nat.le_of_ble_eq_true rfl) : Ev X (.List es pos) δ μ (.dat (.lst ds)) μ' := fun W H σ Q A k =>
  semE_of (pe_lst h.pa) (h.ev W H σ _ A fun W1 H1 vs g1 A1 r1 => ⟨by
    rw [← r1.len, List.length_map, sizeLine_eq]
    omega, fun p hp => by
    obtain ⟨g, s⟩ := go_newG (o := .lst vs) A1.st hp
    exact k _ _ _ (g1.trans g) (A1.le g s) (Dq.lst upd_same (DqA.of (r1.mono g.le)))⟩)
/-- a list as an own cell -/
theorem Ev.lstO (h : Ea X es δ μ dvs μ') (hl : dvs.length ≤ 1000000 := by exact Nat.le_of_ble_eq_true rfl) : Ev X (.List es pos) δ μ (.own μ'.length) (μ' ++ [.lst dvs]) := fun W H σ Q A k =>
  semE_of (pe_lst h.pa) (h.ev W H σ _ A fun W1 H1 vs g1 A1 r1 => ⟨by
    rw [← r1.len, sizeLine_eq]
    omega, fun p hp => by
    have gp : W1.G p = none := A1.st.ex.free hp
    obtain ⟨g, s⟩ := go_newC (o := .lst vs) (c := .lst dvs) A1.st hp ⟨by rw [Wd.push_at]; exact gp, vs, by rw [Wd.push_at]; exact upd_same, r1.mono (W1.push_le p)⟩
    refine k _ _ _ (g1.trans g) (A1.le g s) ⟨by rw [← A1.st.n]; exact Nat.lt_succ_self _, ?_⟩
    rw [← A1.st.n, Wd.push_at]⟩)
end
end Dt
set_option maxHeartbeats 2000000
/-! Statements, loops, defs and their calls. -/
namespace Dt
open PySem PySem.Spec L2
def Out.isNx : Out → Bool
  | .nx _ _ => true
  | _ => false
theorem Post.other {K : PySem.W.Frag} {W : Wd} {H : Hp} {μ : Store} {D : Ends} {T : WX} {n : L2.St → Hp → Prop} : ∀ {o : Out}, o.isNx = false → Post K W H μ D T o → Post K W H μ { D with nx := n } T o
  | .nx _ _, h, _ => nomatch h
  | .rt _ _, _, q => q
  | .bk _ _, _, q => q
  | .ct _ _, _, q => q
  | .ex _ _ _ _, _, q => q
section
variable {X : Cx} {T : WX} {δ δ' δ1 δ2 : Slots} {μ μ' μ1 μ2 μ3 : Store} {e a b c : Expr} {es : List Expr} {st : Stmt} {sts rest : List Stmt} {o : Out} {dv dv1 dv2 : DV} {dvs : List DV} {pos p p' : Pos} {i j k : Nat}
theorem Xb.nil : Xb X T [] δ μ (.nx δ μ) := fun W H σ D A P => semB_of pss_nil (P W H σ .refl A)
theorem Xb.cons (h : Xs X T st δ μ (.nx δ1 μ1)) (hr : Xb X T rest δ1 μ1 o) : Xb X T (st :: rest) δ μ o := fun W H σ D A P =>
  semB_of (pss_cons semS_ps semB_ps) (h W H σ _ A fun W' H' σ' g A' => hr W' H' σ' D A' (P.from g))
theorem Xb.stop (h : Xs X T st δ μ o) (n : o.isNx = false := by rfl) : Xb X T (st :: rest) δ μ o := fun W H σ D A P =>
  semB_of (pss_cons semS_ps semB_ps) (h W H σ _ A (P.other n))
theorem Xb.one (h : Xs X T st δ μ o) : Xb X T [st] δ μ o := fun W H σ D A P => semB_of (pss_one semS_ps) (h W H σ D A P)
theorem Xs.set (i : Nat) {x : Str} (h : Ev X e δ μ dv μ') (nd : X.N.Nodup) (hi : X.N[i]? = some x := by rfl) (hx : Loc X.env.scope x := by first | exact Or.inl rfl | exact Or.inr rfl) (hs : swapsWith e (some (.Name x p')) pos.line X.env = pure false := by rfl)
    (hf : X.fn x = true ∨ X.env.scope.names.lookup x = some .local := by first | exact .inl rfl | exact .inr rfl) : Xs X T (.Assign [.Name x p'] e pos) δ μ (.nx (δ.set i (some dv)) μ') := fun W H σ D A P =>
  semS_of (ps_set nd hi hx semE_pe hs hf) (h W H σ _ A fun W' H' v g A' r => P W' H' _ g ⟨A'.st, A'.sl.set r i⟩)
theorem Xs.ret (h : Ev X e δ μ dv μ') : Xs X T (.Return (some e) pos) δ μ (.rt dv μ') := fun W H σ D A P =>
  semS_of (ps_ret semE_pe) (h W H σ _ A fun W' H' v g A' r => P W' H' v g A'.st r)
theorem Xs.retN : Xs X T (.Return none pos) δ μ (.rt .n μ) := fun W H σ D A P => semS_of ps_retN (P W H _ .refl A.st Dq.non)
theorem Xs.expr (h : Ev X e δ μ dv μ') (hs : swapsWith e none pos.line X.env = pure false := by rfl) : Xs X T (.Expr e pos) δ μ (.nx δ μ') := fun W H σ D A P =>
  semS_of (ps_expr semE_pe hs) (h W H σ _ A fun W' H' v g A' r => P W' H' _ g A')
theorem Xs.ifT {x y : List Stmt} (h : Et X c δ μ true μ1) (hb : Xb X T x δ μ1 o) : Xs X T (.If c x y pos) δ μ o := fun W H σ D A P =>
  semS_of (ps_if semT_pt semB_ps semB_ps) (h W H σ _ A fun W1 H1 g A1 => iteT (hb W1 H1 σ D A1 (P.from g)))
theorem Xs.ifF {x y : List Stmt} (h : Et X c δ μ false μ1) (hb : Xb X T y δ μ1 o) : Xs X T (.If c x y pos) δ μ o := fun W H σ D A P =>
  semS_of (ps_if semT_pt semB_ps semB_ps) (h W H σ _ A fun W1 H1 g A1 => iteF (hb W1 H1 σ D A1 (P.from g)))
theorem Xs.ifB {x y : List Stmt} {v : Bool} (h : Et X c δ μ v μ1) (h1 : v = true → Xb X T x δ μ1 o) (h2 : v = false → Xb X T y δ μ1 o) : Xs X T (.If c x y pos) δ μ o := by
  cases v with
  | true => exact .ifT h (h1 rfl)
  | false => exact .ifF h (h2 rfl)
theorem Xs.pass : Xs X T (.Pass pos) δ μ (.nx δ μ) := fun W H σ D A P => semS_of ps_pass (P W H σ .refl A)
theorem Xs.brk : Xs X T (.Break pos) δ μ (.bk δ μ) := fun W H σ D A P => semS_of ps_break (P W H σ .refl A)
theorem Xs.cont : Xs X T (.Continue pos) δ μ (.ct δ μ) := fun W H σ D A P => semS_of ps_continue (P W H σ .refl A)
/-- what is raised -/
theorem Xs.exprE {C : Addr} {fs : Flds} (h : Er X T e δ μ C fs μ') (hs : swapsWith e none pos.line X.env = pure false := by rfl) : Xs X T (.Expr e pos) δ μ (.ex C fs δ μ') := fun W H σ D A P =>
  semS_of (ps_expr semE_pe hs) (h W H σ _ A fun W' H' d g A' r nq => P W' H' _ d g A' r nq)
theorem Xs.retE {C : Addr} {fs : Flds} (h : Er X T e δ μ C fs μ') : Xs X T (.Return (some e) pos) δ μ (.ex C fs δ μ') := fun W H σ D A P =>
  semS_of (ps_ret semE_pe) (h W H σ _ A fun W' H' d g A' r nq => P W' H' _ d g A' r nq)
theorem Xs.setE (i : Nat) {x : Str} {C : Addr} {fs : Flds} (h : Er X T e δ μ C fs μ') (nd : X.N.Nodup) (hi : X.N[i]? = some x := by rfl) (hx : Loc X.env.scope x := by first | exact Or.inl rfl | exact Or.inr rfl) (hs : swapsWith e (some (.Name x p')) pos.line X.env = pure false := by rfl)
    (hf : X.fn x = true ∨ X.env.scope.names.lookup x = some .local := by first | exact .inl rfl | exact .inr rfl) : Xs X T (.Assign [.Name x p'] e pos) δ μ (.ex C fs δ μ') := fun W H σ D A P =>
  semS_of (ps_set nd hi hx semE_pe hs hf) (h W H σ _ A fun W' H' d g A' r nq => P W' H' _ d g A' r nq)
/-- slots may be forgotten ahead of a block -/
theorem Xb.forget (i : Nat) (h : Xb X T sts (δ.set i none) μ o) : Xb X T sts δ μ o := fun W H σ D A P => h W H σ D ⟨A.st, A.sl.drop i⟩ P
/-! ### cells that change -/
theorem Paired.get' {α β : Type} {F : α → β → Prop} : ∀ {xs : List α} {ys : List β} {n : Nat} {x : α}, Paired F xs ys → xs[n]? = some x → ∃ y, ys[n]? = some y ∧ F x y
  | _, _, _, _, .nil, e => by simp at e
  | _, _, 0, _, .cons r _, e => by
    simp at e
    subst e
    exact ⟨_, rfl, r⟩
  | _, _, n + 1, x, .cons _ t, e => by
    obtain ⟨u, h1, h2⟩ := Paired.get' (n := n) (x := x) t (by simpa using e)
    exact ⟨u, by simpa using h1, h2⟩
theorem Paired.set' {α β : Type} {F : α → β → Prop} {x : α} {y : β} (r : F x y) : ∀ {xs : List α} {ys : List β} (n : Nat), Paired F xs ys → Paired F (xs.set n x) (ys.set n y)
  | _, _, _, .nil => .nil
  | _, _, 0, .cons _ t => .cons r t
  | _, _, n + 1, .cons q t => .cons q (Paired.set' r n t)
theorem Paired.app {α β : Type} {F : α → β → Prop} : ∀ {xs xs' : List α} {ys ys' : List β}, Paired F xs ys → Paired F xs' ys' → Paired F (xs ++ xs') (ys ++ ys')
  | _, _, _, _, .nil, h => h
  | _, _, _, _, .cons r t, h => .cons r (Paired.app t h)
theorem Paired.erase {α β : Type} {F : α → β → Prop} : ∀ {xs : List α} {ys : List β} (n : Nat), Paired F xs ys → Paired F (xs.eraseIdx n) (ys.eraseIdx n)
  | _, _, _, .nil => .nil
  | _, _, 0, .cons _ t => t
  | _, _, n + 1, .cons r t => .cons r (Paired.erase n t)
theorem Paired.dropL {α β : Type} {F : α → β → Prop} : ∀ {xs : List α} {ys : List β}, Paired F xs ys → Paired F xs.dropLast ys.dropLast
  | _, _, .nil => .nil
  | _, _, .cons r .nil => .nil
  | _, _, .cons r (.cons r' t) => .cons r (Paired.dropL (.cons r' t))
theorem Paired.cut {α β : Type} {F : α → β → Prop} : ∀ {xs : List α} {ys : List β} (n : Nat), Paired F xs ys → Paired F (xs.drop n) (ys.drop n)
  | _, _, 0, h => h
  | _, _, _ + 1, .nil => .nil
  | _, _, n + 1, .cons _ t => Paired.cut n t
theorem Paired.first {α β : Type} {F : α → β → Prop} : ∀ {xs : List α} {ys : List β} (n : Nat), Paired F xs ys → Paired F (xs.take n) (ys.take n)
  | _, _, 0, _ => .nil
  | _, _, _ + 1, .nil => .nil
  | _, _, n + 1, .cons r t => .cons r (Paired.first n t)
/-- xs[i] = e, xs an own list -/
theorem Xs.setItem {n : Int} {xs : List DV} {ip : Pos} (he : Ev X e δ μ dv μ1) (ho : Ev X a δ μ1 (.own k) μ2) (hi : Ev X b δ μ2 (.i n) μ3) (hk : μ3[k]? = some (.lst xs)) (hj : ixN xs.length n = some j)
    (ha : ∀ v, assign (.Subscript a b ip) X.env v = (do
      let ov ← holding [v] (eval a X.env)
      let iv ← holding [v, ov] (eval b X.env)
      standAt ip
      holding [v, ov, iv] (setItem ov iv v)
      release [v, ov, iv] []) := by intro _; rfl)
    (h1 : swapsWithSole [.Subscript a b ip] e pos.line X.env = pure false := by rfl) (h2 : swappedStores [.Subscript a b ip] e X.env = pure none := by rfl) (h3 : (assignEach [.Subscript a b ip] X.env).map (·.2) = [assign (.Subscript a b ip) X.env] := by rfl) :
    Xs X T (.Assign [.Subscript a b ip] e pos) δ μ (.nx δ (μ3.set k (.lst (xs.set j dv)))) := fun W H σ D A P => by
  refine semS_of (ps_asg semE_pe (pg_sub semE_pe semE_pe set_list ha) h1 h2 h3) ?_
  refine he W H σ _ A fun W1 H1 x g1 A1 r1 => ?_
  refine ho W1 H1 σ _ A1 fun W2 H2 y g2 A2 r2 => ?_
  refine hi W2 H2 σ _ A2 fun W3 H3 z g3 A3 r3 => ?_
  obtain ⟨g0, vs, hv, rl⟩ := A3.st.cell k _ hk
  obtain ⟨lt, ey⟩ := r2.mono g3.le
  have rx := r1.mono (g2.trans g3).le
  refine ⟨W3.A k, vs, n, j, ey, r3.iv, hv, by rw [← rl.len]; exact hj, ?_⟩
  obtain ⟨g, s⟩ := go_setC (o := .lst (vs.set j x)) (c' := .lst (xs.set j dv)) A3.st hk (by intro q; cases q) ⟨g0, _, upd_same, Paired.set' rx j rl⟩
  exact P _ _ σ (((g1.trans g2).trans g3).trans g) (A3.le g s)
/-- xs.append(e) -/
theorem Ev.append {xs : List DV} {ap : Pos} (ho : Ev X a δ μ (.own k) μ1) (he : Ev X e δ μ1 dv μ2) (hk : μ2[k]? = some (.lst xs)) (hz : xs.length < 1000000) (hk1 : ∃ ys, μ1[k]? = some (.lst ys))
    (hbase : attributeBase a "append" X.env (eval a X.env) = eval a X.env := by rfl)
    (hfew : ((backTo pos (starEach [e] X.env)).all (fun x => !x.1) && (backToKw pos (keywordEach [] X.env)).all (fun x => x.1.isSome)
      && decide ([e].length + ([] : List Keyword).length + (if ([] : List Keyword).isEmpty then 0 else 1) < 30)) = true := by rfl)
    (hline : (ap.endLine == pos.line) = true := by rfl) (hs : starEach [e] X.env = (false, eval e X.env) :: starEach [] X.env := by rfl) :
    Ev X (.Call (.Attribute a "append" ap) [e] [] pos) δ μ .n (μ2.set k (.lst (xs ++ [dv]))) := fun W H σ Q A q => by
  refine semE_of (pe_bm PySem.F.plainAttrs_list PySem.F.slot_list_append PySem.F.type_list_append mt_append semE_pe (pa_cons semE_pe pa_nil hs) hbase hfew hline hs) ?_
  refine ho W H σ _ A fun W1 H1 x g1 A1 r1 => ?_
  obtain ⟨ys, hy⟩ := hk1
  obtain ⟨_, us, hu, _⟩ := A1.st.cell k _ hy
  obtain ⟨lt, ex⟩ := r1
  subst ex
  refine ⟨.inl ⟨rfl, _, SqL.of hu⟩, he W1 H1 σ _ A1 fun W2 H2 y g2 A2 r2 => ?_⟩
  obtain ⟨g0, vs, hv, rl⟩ := A2.st.cell k _ hk
  have eA : W2.A k = W1.A k := g2.le.A k lt
  refine ⟨W2.A k, vs, y, by rw [eA], rfl, hv, by rw [← rl.len, sizeLine_eq]; omega, ?_⟩
  obtain ⟨g, s⟩ := go_setC (o := .lst (vs ++ [y])) (c' := .lst (xs ++ [dv])) A2.st hk (by intro q; cases q) ⟨g0, _, upd_same, Paired.app rl (.cons r2 .nil)⟩
  exact q _ _ _ ((g1.trans g2).trans g) (A2.le g s) Dq.non
/-- xs.pop(e) -/
theorem Ev.popAt {xs : List DV} {ap : Pos} {n : Int} (ho : Ev X a δ μ (.own k) μ1) (he : Ev X e δ μ1 (.i n) μ2) (hk : μ2[k]? = some (.lst xs)) (hk1 : ∃ ys, μ1[k]? = some (.lst ys)) (h0 : 0 ≤ n) (h9 : n < 1000000) (hv : xs[n.toNat]? = some dv)
    (hbase : attributeBase a "pop" X.env (eval a X.env) = eval a X.env := by rfl)
    (hfew : ((backTo pos (starEach [e] X.env)).all (fun x => !x.1) && (backToKw pos (keywordEach [] X.env)).all (fun x => x.1.isSome)
      && decide ([e].length + ([] : List Keyword).length + (if ([] : List Keyword).isEmpty then 0 else 1) < 30)) = true := by rfl)
    (hline : (ap.endLine == pos.line) = true := by rfl) (hs : starEach [e] X.env = (false, eval e X.env) :: starEach [] X.env := by rfl) :
    Ev X (.Call (.Attribute a "pop" ap) [e] [] pos) δ μ dv (μ2.set k (.lst (xs.eraseIdx n.toNat))) := fun W H σ Q A q => by
  refine semE_of (pe_bm PySem.F.plainAttrs_list PySem.F.slot_list_pop PySem.F.type_list_pop mt_popAt semE_pe (pa_cons semE_pe pa_nil hs) hbase hfew hline hs) ?_
  refine ho W H σ _ A fun W1 H1 x g1 A1 r1 => ?_
  obtain ⟨ys, hy⟩ := hk1
  obtain ⟨_, us, hu, _⟩ := A1.st.cell k _ hy
  obtain ⟨lt, ex⟩ := r1
  subst ex
  refine ⟨.inl ⟨rfl, _, SqL.of hu⟩, he W1 H1 σ _ A1 fun W2 H2 y g2 A2 r2 => ?_⟩
  obtain ⟨g0, vs, hv', rl⟩ := A2.st.cell k _ hk
  have eA : W2.A k = W1.A k := g2.le.A k lt
  obtain ⟨u, hu', ru⟩ := Paired.get' rl hv
  have hlen : n.toNat < vs.length := (List.getElem?_eq_some_iff.mp hu').1
  refine ⟨W2.A k, vs, n, n.toNat, u, by rw [eA], by rw [r2.iv], hv', by omega, by omega, seqIndex_of h0 (by omega), hu', ?_⟩
  obtain ⟨g, s⟩ := go_setC (o := .lst (vs.eraseIdx n.toNat)) (c' := .lst (xs.eraseIdx n.toNat)) A2.st hk (by intro q; cases q) ⟨g0, _, upd_same, Paired.erase _ rl⟩
  exact q _ _ _ ((g1.trans g2).trans g) (A2.le g s) (ru.mono g.le)
/-! ### loops: the body over the items, one by one -/
inductive It1 (R : DV → Slots → Store → Out → Prop) : List DV → Slots → Store → Out → Prop
  | nil {δ : Slots} {μ : Store} : It1 R [] δ μ (.nx δ μ)
  | next {x : DV} {xs : List DV} {δ δ1 : Slots} {μ μ1 : Store} {o : Out} : R x δ μ (.nx δ1 μ1) → It1 R xs δ1 μ1 o → It1 R (x :: xs) δ μ o
  | cont {x : DV} {xs : List DV} {δ δ1 : Slots} {μ μ1 : Store} {o : Out} : R x δ μ (.ct δ1 μ1) → It1 R xs δ1 μ1 o → It1 R (x :: xs) δ μ o
  | brk {x : DV} {xs : List DV} {δ δ1 : Slots} {μ μ1 : Store} : R x δ μ (.bk δ1 μ1) → It1 R (x :: xs) δ μ (.nx δ1 μ1)
  | ret {x : DV} {xs : List DV} {δ : Slots} {μ μ1 : Store} {dv : DV} : R x δ μ (.rt dv μ1) → It1 R (x :: xs) δ μ (.rt dv μ1)
  | exc {x : DV} {xs : List DV} {δ δ1 : Slots} {μ μ1 : Store} {C : Addr} {fs : Flds} : R x δ μ (.ex C fs δ1 μ1) → It1 R (x :: xs) δ μ (.ex C fs δ1 μ1)
/-- the invariant that the hand layer's loops ask for -/
def ItAt (K : PySem.W.Frag) (W0 : Wd) (H0 : Hp) (μ0 : Store) (R : DV → Slots → Store → Out → Prop) (xs : List DV) (o : Out) (i : Nat) (σ : L2.St) (H : Hp) : Prop :=
  ∃ W δ μ, Go W0 H0 μ0 W H μ ∧ At K W H σ δ μ ∧ It1 R (xs.drop i) δ μ o
theorem drop_cons {α : Type} {xs : List α} {i : Nat} {x : α} (h : xs[i]? = some x) : xs.drop i = x :: xs.drop (i + 1) := by
  obtain ⟨hl, e⟩ := List.getElem?_eq_some_iff.mp h
  rw [List.drop_eq_getElem_cons hl, e]
theorem it_turn {K : PySem.W.Frag} {W0 : Wd} {H0 : Hp} {μ0 : Store} {R : DV → Slots → Store → Out → Prop} {xs : List DV} {o : Out} {D : Ends} {g : TG} {tb : TS} {i : Nat} {x : DV} {v : V} {σ : L2.St} {H : Hp}
    (P : Post K W0 H0 μ0 D T o) (hR : ∀ W H σ δ μ o', At K W H σ δ μ → Rel K W x v → R x δ μ o' → ∀ D', Post K W H μ D' T o' → g v σ H fun σ2 H2 => tb D' σ2 H2)
    (hx : xs[i]? = some x) (hv : Rel K W0 x v) (h : ItAt K W0 H0 μ0 R xs o i σ H) :
    g v σ H fun σ2 H2 => tb { D with nx := ItAt K W0 H0 μ0 R xs o (i + 1), ct := ItAt K W0 H0 μ0 R xs o (i + 1), bk := D.nx } σ2 H2 := by
  obtain ⟨W, δ, μ, g0, A, it⟩ := h
  rw [drop_cons hx] at it
  have rv := hv.mono g0.le
  cases it with
  | next h1 h2 => exact hR W H σ δ μ _ A rv h1 _ fun W' H' σ' g' A' => ⟨W', _, _, g0.trans g', A', h2⟩
  | cont h1 h2 => exact hR W H σ δ μ _ A rv h1 _ fun W' H' σ' g' A' => ⟨W', _, _, g0.trans g', A', h2⟩
  | brk h1 => exact hR W H σ δ μ _ A rv h1 _ fun W' H' σ' g' A' => P W' H' σ' (g0.trans g') A'
  | ret h1 => exact hR W H σ δ μ _ A rv h1 _ fun W' H' v' g' A' r => P W' H' v' (g0.trans g') A' r
  | exc h1 => exact hR W H σ δ μ _ A rv h1 _ fun W' H' σ' d g' A' r nq => P W' H' σ' d (g0.trans g') A' r (nq.back g0)
theorem it_done {K : PySem.W.Frag} {W0 : Wd} {H0 : Hp} {μ0 : Store} {R : DV → Slots → Store → Out → Prop} {xs : List DV} {o : Out} {D : Ends} {σ : L2.St} {H : Hp} (P : Post K W0 H0 μ0 D T o) (h : ItAt K W0 H0 μ0 R xs o xs.length σ H) : D.nx σ H := by
  obtain ⟨W, δ, μ, g0, A, it⟩ := h
  rw [List.drop_length] at it
  cases it
  exact P W H σ g0 A
/-- the body with the loop's name in slot j -/
abbrev Body (X : Cx) (T : WX) (j : Nat) (body : List Stmt) : DV → Slots → Store → Out → Prop := fun x δ μ o => Xb X T body (δ.set j (some x)) μ o
theorem body_R {body : List Stmt} {x : DV} {v : V} : ∀ W H σ δ μ o', At X.K W H σ δ μ → Rel X.K W x v → Body X T j body x δ μ o' → ∀ D', Post X.K W H μ D' T o' → gName j v σ H fun σ2 H2 => semB X body D' σ2 H2 :=
  fun W H σ δ μ o' A r h D' P => h W H _ D' ⟨A.st, A.sl.set r j⟩ P
theorem Rels.atL {K : PySem.W.Frag} {W : Wd} {ds : List D} {vs : List V} {n : Nat} {v : V} (h : DqA K W.G vs ds) (e : vs[n]? = some v) : ∃ d, (ds.map DV.dat)[n]? = some (.dat d) ∧ Rel K W (.dat d) v := by
  have r := DqA.rels h
  have hl : n < (ds.map DV.dat).length := by
    rw [r.len]
    exact (List.getElem?_eq_some_iff.mp e).1
  obtain ⟨u, hu, ru⟩ := Paired.get' r (List.getElem?_eq_getElem hl)
  rw [e] at hu
  cases hu
  rw [List.length_map] at hl
  refine ⟨ds[n], ?_, ?_⟩
  · rw [List.getElem?_map, List.getElem?_eq_getElem hl]
    rfl
  · have q : (ds.map DV.dat)[n] = .dat ds[n] := by rw [List.getElem_map]
    rw [q] at ru
    exact ru
theorem Xs.forL {x : Str} {ds : List D} {body : List Stmt} (hc : X.calm = true) (nd : X.N.Nodup) (hp : PassesOwn (model X.prog X.w) X.A X.env X.xe) (j : Nat) (h : Ev X e δ μ (.dat (.lst ds)) μ1) (it : It1 (Body X T j body) (ds.map DV.dat) δ μ1 o)
    (hi : X.N[j]? = some x := by rfl) (hx : Loc X.env.scope x := by first | exact Or.inl rfl | exact Or.inr rfl) (hf : X.fn x = true ∨ X.env.scope.names.lookup x = some .local := by first | exact .inl rfl | exact .inr rfl)
    (hs : ∀ x, foldedSetIterable e X.env x = pure x := by intro _; rfl) : Xs X T (.For (.Name x p) e body [] pos) δ μ o := fun W H σ D A P => by
  refine semS_of (ps_for hp hc (pi_list semE_pe) (pg_name nd hi hx hf) semB_ps hs) ?_
  refine h W H σ _ A fun W1 H1 v g1 A1 r1 => ?_
  cases (show Dq X.K W1.G v (.lst ds) from r1) with
  | lst hq hd =>
    rename_i al vs
    have P1 := P.from g1
    refine ⟨al, rfl, ⟨_, SqL.of (A1.st.ex _ _ hq)⟩, for_list (K := X.K) (xs := vs) (ItAt X.K W1 H1 μ1 (Body X T j body) (ds.map DV.dat) o) ⟨W1, δ, μ1, .refl, A1, it⟩ ?_ ?_ ?_⟩
    · rintro i σ' H' _ ⟨W', _, _, g', A', _⟩
      exact SqL.of (A'.st.ex _ _ (g'.le.G _ _ hq))
    · intro i u σ' H' hu hI
      obtain ⟨d, hd', rd⟩ := Rels.atL hd hu
      exact it_turn P1 body_R hd' rd hI
    · intro σ' H' hI
      have el : vs.length = (ds.map DV.dat).length := (DqA.rels hd).len.symm
      rw [el] at hI
      exact it_done P1 hI
theorem Xs.forT {x : Str} {ds : List D} {body : List Stmt} (hc : X.calm = true) (nd : X.N.Nodup) (hp : PassesOwn (model X.prog X.w) X.A X.env X.xe) (j : Nat) (h : Ev X e δ μ (.dat (.tup ds)) μ1) (it : It1 (Body X T j body) (ds.map DV.dat) δ μ1 o)
    (hi : X.N[j]? = some x := by rfl) (hx : Loc X.env.scope x := by first | exact Or.inl rfl | exact Or.inr rfl) (hf : X.fn x = true ∨ X.env.scope.names.lookup x = some .local := by first | exact .inl rfl | exact .inr rfl)
    (hs : ∀ x, foldedSetIterable e X.env x = pure x := by intro _; rfl) : Xs X T (.For (.Name x p) e body [] pos) δ μ o := fun W H σ D A P => by
  refine semS_of (ps_for hp hc (pi_tup semE_pe) (pg_name nd hi hx hf) semB_ps hs) ?_
  refine h W H σ _ A fun W1 H1 v g1 A1 r1 => ?_
  cases (show Dq X.K W1.G v (.tup ds) from r1) with
  | tup hq hd =>
    rename_i al vs
    have P1 := P.from g1
    refine ⟨al, rfl, ⟨_, Same.tseq A1.st.ex hq⟩, for_tup (K := X.K) (xs := vs) (ItAt X.K W1 H1 μ1 (Body X T j body) (ds.map DV.dat) o) ⟨W1, δ, μ1, .refl, A1, it⟩ ?_ ?_ ?_⟩
    · rintro i σ' H' _ ⟨W', _, _, g', A', _⟩
      exact Same.tseq A'.st.ex (Same.tseq g'.le.G hq)
    · intro i u σ' H' hu hI
      obtain ⟨d, hd', rd⟩ := Rels.atL hd hu
      exact it_turn P1 body_R hd' rd hI
    · intro σ' H' hI
      have el : vs.length = (ds.map DV.dat).length := (DqA.rels hd).len.symm
      rw [el] at hI
      exact it_done P1 hI
/-- the ints lo, lo + 1, .. -/
def upto (lo : Int) (n : Nat) : List DV := (List.range n).map fun (m : Nat) => .i (lo + (m : Int))
theorem upto_len (lo : Int) (n : Nat) : (upto lo n).length = n := by simp [upto]
theorem upto_at {lo : Int} {n m : Nat} (h : m < n) : (upto lo n)[m]? = some (.i (lo + (m : Int))) := by
  unfold upto
  rw [List.getElem?_map, List.getElem?_range h]
  rfl
theorem Xs.forR1 {x : Str} {n : Int} {body : List Stmt} {rp : Pos} (hc : X.calm = true) (nd : X.N.Nodup) (hp : PassesOwn (model X.prog X.w) X.A X.env X.xe) (hm : X.mg "range" = none) (j : Nat) (h : Ev X e δ μ (.i n) μ1) (hn : n < 1000000) (hn0 : -1000000 < n) (it : It1 (Body X T j body) (upto 0 n.toNat) δ μ1 o)
    (hg : Gl X "range" := by rfl) (hi : X.N[j]? = some x := by rfl) (hx : Loc X.env.scope x := by first | exact Or.inl rfl | exact Or.inr rfl) (hf : X.fn x = true ∨ X.env.scope.names.lookup x = some .local := by first | exact .inl rfl | exact .inr rfl)
    (hst : starEach [e] X.env = [(false, eval e X.env)] := by rfl)
    (hs : ∀ x, foldedSetIterable (.Call (.Name "range" p') [e] [] rp) X.env x = pure x := by intro _; rfl) : Xs X T (.For (.Name x p) (.Call (.Name "range" p') [e] [] rp) body [] pos) δ μ o := fun W H σ D A P => by
  refine semS_of (ps_for hp hc (pi_range1 hg hm (pa_cons semE_pe pa_nil hst) hst) (pg_name nd hi hx hf) semB_ps hs) ?_
  refine h W H σ _ A fun W1 H1 v g1 A1 r1 => ?_
  have P1 := P.from g1
  refine ⟨n, by rw [r1.iv], by omega, by omega, for_range (lo := 0) (n := n.toNat) (ItAt X.K W1 H1 μ1 (Body X T j body) (upto 0 n.toNat) o) ⟨W1, δ, μ1, .refl, A1, it⟩ ?_ ?_⟩
  · intro i σ' H' hi hI
    exact it_turn P1 body_R (upto_at hi) (Dq.int _) hI
  · intro σ' H' hI
    exact it_done P1 (by rw [upto_len]; exact hI)
/-- while: turns that end -/
inductive Wh (X : Cx) (T : WX) (c : Expr) (body : List Stmt) : Slots → Store → Out → Nat → Prop
  | no {δ : Slots} {μ μ1 : Store} {m : Nat} : Et X c δ μ false μ1 → Wh X T c body δ μ (.nx δ μ1) m
  | next {δ δ1 : Slots} {μ μ1 μ2 : Store} {o : Out} {m : Nat} : Et X c δ μ true μ1 → Xb X T body δ μ1 (.nx δ1 μ2) → Wh X T c body δ1 μ2 o m → Wh X T c body δ μ o (m + 1)
  | ret {δ : Slots} {μ μ1 μ2 : Store} {dv : DV} {m : Nat} : Et X c δ μ true μ1 → Xb X T body δ μ1 (.rt dv μ2) → Wh X T c body δ μ (.rt dv μ2) m
theorem Xs.while {body : List Stmt} {m : Nat} (hp : PassesOwn (model X.prog X.w) X.A X.env X.xe) (h : Wh X T c body δ μ o m) : Xs X T (.While c body [] pos) δ μ o := fun W H σ D A P => by
  refine semS_of (ps_while hp semT_pt semB_ps) ?_
  refine ⟨fun m σ' H' => ∃ W' δ' μ', Go W H μ W' H' μ' ∧ At X.K W' H' σ' δ' μ' ∧ Wh X T c body δ' μ' o m, ⟨m, W, δ, μ, .refl, A, h⟩, ?_⟩
  rintro m σ' H' ⟨W', δ', μ', g', A', w⟩
  cases w with
  | no h1 => exact h1 W' H' σ' _ A' fun W1 H1 g1 A1 => iteF (P W1 H1 σ' (g'.trans g1) A1)
  | next h1 h2 h3 => exact h1 W' H' σ' _ A' fun W1 H1 g1 A1 => iteT ⟨_, fun _ _ z => z, h2 W1 H1 σ' _ A1 fun W2 H2 σ2 g2 A2 => ⟨_, Nat.lt_succ_self _, W2, _, _, (g'.trans g1).trans g2, A2, h3⟩⟩
  | ret h1 h2 => exact h1 W' H' σ' _ A' fun W1 H1 g1 A1 => iteT ⟨fun _ _ => False, fun _ _ z => z.elim, h2 W1 H1 σ' _ A1 fun W2 H2 v g2 A2 r => P W2 H2 v ((g'.trans g1).trans g2) A2 r⟩
end
end Dt
set_option maxHeartbeats 4000000
/-! Exceptions whose context is None (L2N of HandS.ExcCtx): what the other texts need of it. -/
namespace L2
open PySem PySem.Spec PyProof.Rows
theorem passN {X : Cx} : Passes (L2N.CX X.prog X.w) X E0 := fun _ _ _ _ _ _ _ h => by
  obtain ⟨_, _, _, _, _, _, _, _, _, _, _, _, z⟩ := h
  exact z.elim
theorem Fun.okN {P : Program} {w : World} {K : PySem.W.Frag} {mg : Str → Option Value} {base : Heap} {x qual : Str} {st : Stmt} {f : Addr} {fd : FuncData} {N ps : List Str} {k : Nat} {sp : Sp} (F : Fun K x qual st f fd) (S : FnScope N ps (defScope st)) (len : ∀ vs H Q E, sp vs H Q E → vs.length = ps.length)
    (hbody : ∀ (cdv : Value) (A : Around) (outer : List Env) (s : Shared) (H : Hp) (vs : List V) (Q : VK) (E : XK), Room k (A.deeper (envOfC qual (defScope st) s.heap.objs.size f cdv)) → sp vs H Q E →
      ∃ t, PSs (cxOf (L2N.CX P w) P w K mg base N qual (defScope st) f cdv A outer s H E) (defBody st) t ∧ t { nx := fun _ H' => Q .non H', rt := Q } (start N vs) H) : FnOk P w K mg base (L2N.CX P w) (k + 1) f fd ps sp := by
  obtain ⟨oc, od, kV, doc, pm, an, cdv, ct, osl, rfl, lk, hcd⟩ := F.ex
  exact fn_of lk hcd S len fun A outer s H vs Q E hr hsp => hbody cdv A outer s H vs Q E hr hsp
section
variable {X : Cx} {o e : Expr} {es : List Expr} {to te : TE} {ta : TA} {f : Str} {p p' p1 p2 pos : Pos}
theorem pmk_oexN {CX : CXT} {x : Str} {C fI : Addr} {k : Nat} {fd : FuncData} {ps : List Str} {sp : Sp} {ds : List Value} {dvs : List V} (T : OexC X.K C) (iC : PySem.W.findIn X.K (.ref C) "__init__" = some (some (.ref fI))) (tI : PySem.W.typeIn X.K (.ref fI) = some (.type "function"))
    (F1 : FnOk X.prog X.w X.K X.mg X.base CX k fI fd ps sp) (hr : Room (k + 1) X.A) (hb : Binds X.K fd ps ds) (hd : Vals dvs ds) (hx : Passes CX X (fun _ _ _ => False)) (hg : Gl X x) (hm : X.mg x = some (.ref C)) (ha : PA X (e :: es) ta)
    (hdb : (x == ("__debug__" : Str)) = false := by decide) (he : starEach (e :: es) X.env = (false, eval e X.env) :: starEach es X.env := by rfl) (hpl : (backTo pos (starEach es X.env)).any (·.1) = false := by rfl) :
    L2N.PMk X (.Call (.Name x p) (e :: es) [] pos) (tMkO C sp dvs ta) := by
  intro pins s σ H Q I h
  obtain ⟨nm, q, N, bs, bm, sn, sub, ab, col, dd, k0, k1, k2, k3, k5, hC, hbm⟩ := T.cls
  refine wpAny_Call_Name_kw (ld_glob I hg hm ?_ hdb)
  refine PySem.W.callWith_K (h₀ := X.base) I.ok.mod.kin T.kC (thn (ha.run pos pins s σ H _ I h) fun us s1 ⟨vs, H1, I1, r1, hz, q1⟩ => ⟨I1.kIn, ?_⟩) he hpl
  show wpAny _ _ (call (.ref C) us) _ _ _
  obtain ⟨hp, g, dr, tk, os⟩ := s1
  have hsz : hp.objs.size ≤ hp.objs.size + 1 := Nat.le_succ _
  have hn : H1 (hp.objs.size + 1) = none := I1.hok.fresh hsz
  have hq := q1 (hp.objs.size + 1) hn
  have kk : ∀ b o, hp.get? b = some o → ((hp.push (PySem.W.kdv_tup us)).push (PySem.HandSPX.excO C hp.objs.size)).get? b = some o := fun b o e => Heap.get?_push_of_some _ (Heap.get?_push_of_some _ e)
  have hget : ((hp.push (PySem.W.kdv_tup us)).push (PySem.HandSPX.excO C hp.objs.size)).get? (hp.objs.size + 1) = some (PySem.HandSPX.excO C hp.objs.size) := by heap_get
  have I2 : Inv X pins σ (upd H1 (hp.objs.size + 1) (exo (hp.objs.size + 1) C none)) ⟨(hp.push (PySem.W.kdv_tup us)).push (PySem.HandSPX.excO C hp.objs.size), g, dr, tk, os⟩ :=
    I1.laid (t' := tk) (a := hp.objs.size + 1) (o := exo (hp.objs.size + 1) C none) (h' := (hp.push (PySem.W.kdv_tup us)).push (PySem.HandSPX.excO C hp.objs.size)) kk hsz (exo_ok hget)
  have r2 : Vals (V.ref (hp.objs.size + 1) :: (vs ++ dvs)) (Value.ref (hp.objs.size + 1) :: (us ++ ds)) := .cons rfl (r1.append hd)
  have hl : (Value.ref (hp.objs.size + 1) :: us ++ ds).length = ps.length := by
    have e := r2.length
    rw [F1.len _ _ _ _ hq] at e
    exact e.symm
  have hus : us.length ≤ sizeLine := by
    rw [← Paired.length r1, sizeLine_eq]
    omega
  refine wpAny_call (PySem.HandSPX.call_own F.excBase_ValueError (fun Y => PySem.HandSPX.refsVE_contains Y bm hbm) (I1.kIn _ _ hC) (PySem.W.looks_findIn I1.kIn iC) (fun self => PySem.W.bind_fn I1.kIn self tI) hus
    (codeAny_mono (F1.run _ X.stack _ _ ⟨Value.ref (hp.objs.size + 1) :: us, []⟩ (Value.ref (hp.objs.size + 1) :: (us ++ ds)) _ _ (fun _ _ _ => False) (hr.make C us []) (I2.env0.make C us []) (hb _ (Value.ref (hp.objs.size + 1) :: us) I2.kIn hl) r2 hq) fun r s' hq' => ?_))
  cases r with
  | error er => exact hx pins σ _ _ er s' I2 hq'
  | ok fl =>
    cases fl with
    | ret u =>
      obtain ⟨v, H2, os2, bare2, un2, hok2, rv, ev, d, fs, ea, ed, hd1, q2⟩ := hq'
      subst ev
      obtain ⟨h2, g2, d2, t2, os'⟩ := s'
      obtain ⟨t0, G, J, kG, ge, hoe, na⟩ := mk_end0 (d2 := d2) (t2 := t2) I1 hsz kk un2 hok2 os2 bare2 ea ed hd1
      refine ⟨rv, _, _, _, ⟨G, g2, d2, t2, os'⟩, _, .ref C, some d, rfl, J, kG, ge, hoe, ⟨rfl, rfl, fun vs hv => ?_⟩, rfl, rfl, na, rfl, bare2, raises_own T.exC T.tyC, q2⟩
      cases hv
      rfl
    | next => exact False.elim hq'
    | brk => exact False.elim hq'
    | cont => exact False.elim hq'
end
end L2
set_option maxHeartbeats 2000000
/-! Defs and calls, built-ins, subscripts, comprehensions. -/
namespace Dt
open PySem PySem.Spec L2
open PyProof.Rows (envOfC)
/-! ### defs -/
inductive FO where
  | ret (dv : DV) (μ : Store)
  | exc (C : Addr) (fs : Flds) (μ : Store)
def PostF (K : PySem.W.Frag) (W : Wd) (H : Hp) (μ : Store) (Q : VK) (E : XK) : FO → Prop
  | .ret dv μ' => ∀ W' H' v, Go W H μ W' H' μ' → StOk K W' H' μ' → Rel K W' dv v → Q v H'
  | .exc C fs μ' => ∀ W' H' d, Go W H μ W' H' μ' → StOk K W' H' μ' → XdAt K W' H' μ' d fs → Nq W H μ d → E (.ref C) (some d) H'
/-- the promise: called with such values at such a store it ends so -/
abbrev Pr := List DV → Store → FO → Prop
def spD (K : PySem.W.Frag) (n : Nat) (P : Pr) : Sp := fun vs H Q E => ∃ W μ dvs o, dvs.length = n ∧ StOk K W H μ ∧ Rels K W dvs vs ∧ P dvs μ o ∧ PostF K W H μ Q E o
theorem spD.len {K : PySem.W.Frag} {n : Nat} {P : Pr} {vs : List V} {H : Hp} {Q : VK} {E : XK} (h : spD K n P vs H Q E) : vs.length = n := by
  obtain ⟨W, μ, dvs, o, hl, _, r, _⟩ := h
  rw [← r.len, hl]
/-- how a body's end becomes the def's -/
inductive Ends' : Out → FO → Store → Store → Prop
  | ret {dv : DV} {μ0 μ' junk : Store} : Keep μ0 μ' → dv.under μ'.length = true → Ends' (.rt dv (μ' ++ junk)) (.ret dv μ') μ0 junk
  | nx {δ : Slots} {μ0 μ' junk : Store} : Keep μ0 μ' → Ends' (.nx δ (μ' ++ junk)) (.ret .n μ') μ0 junk
  | exc {C : Addr} {fs : Flds} {δ : Slots} {μ0 μ' junk : Store} : Keep μ0 μ' → (fs.all fun p => p.2.under μ'.length) = true → Ends' (.ex C fs δ (μ' ++ junk)) (.exc C fs μ') μ0 junk
/-- a body does what the def promises -/
def Bd (X : Cx) (T : WX) (body : List Stmt) (δ : Slots) (μ : Store) (o : FO) : Prop := ∃ o' junk, Xb X T body δ μ o' ∧ Ends' o' o μ junk
theorem Keep.apd {μ junk : Store} : Keep μ μ := Keep.refl μ
def startD (n : Nat) (dvs : List DV) : Slots := dvs.map some ++ List.replicate (n - dvs.length) none
theorem slok_start {K : PySem.W.Frag} {W : Wd} {N : List Str} {dvs : List DV} {vs : List V} (r : Rels K W dvs vs) : SlOk K W (L2.start N vs) (startD N.length dvs) := by
  have hl := r.len
  refine ⟨?_, fun i dv h => ?_⟩
  · unfold L2.start startD
    rw [List.length_append, List.length_append, List.length_map, List.length_map, List.length_replicate, List.length_replicate, hl]
  · unfold startD at h
    by_cases hi : i < dvs.length
    · rw [List.getElem?_append_left (by rw [List.length_map]; exact hi), List.getElem?_map] at h
      obtain ⟨d, hd, e⟩ := Option.map_eq_some_iff.mp h
      cases e
      obtain ⟨v, hv, rv⟩ := Paired.get' r hd
      refine ⟨v, ?_, rv⟩
      unfold L2.start
      rw [List.getElem?_append_left (by rw [List.length_map, ← hl]; exact hi), List.getElem?_map, hv]
      rfl
    · rw [List.getElem?_append_right (by rw [List.length_map]; omega), List.getElem?_replicate] at h
      split at h <;> cases h
section
variable {P : Program} {w : World} {K : PySem.W.Frag} {mg : Str → Option Value} {base : Heap}
/-- what the body must do -/
theorem body_sp {X : Cx} {T : WX} {N : List Str} {n : Nat} {body : List Stmt} {Pm : Pr} {vs : List V} {H : Hp} {Q : VK} {E : XK} (hX : X.N = N) (hT : T = fun cls d _ H => E cls d H) (h : spD X.K n Pm vs H Q E)
    (hb : ∀ dvs μ o, dvs.length = n → Pm dvs μ o → ∃ o' junk, Xb X T body (startD N.length dvs) μ o' ∧ Ends' o' o μ junk) : semB X body { nx := fun _ H' => Q .non H', rt := Q } (L2.start N vs) H := by
  obtain ⟨W, μ, dvs, o, hl, S, r, hp, post⟩ := h
  obtain ⟨o', junk, hx, he⟩ := hb dvs μ o hl hp
  refine hx W H _ _ ⟨S, slok_start r⟩ ?_
  cases he with
  | ret kp z =>
    rename_i dv μ'
    intro W' H' v g s rv
    obtain ⟨g', s'⟩ := go_take S s g kp
    exact post _ _ v g' s' (rv.cut z)
  | nx kp =>
    intro W' H' σ' g a
    obtain ⟨g', s'⟩ := go_take S a.st g kp
    exact post _ _ _ g' s' Dq.non
  | exc kp z =>
    rename_i C fs δ μ'
    intro W' H' σ' d g a x nq
    obtain ⟨g', s'⟩ := go_take S a.st g kp
    rw [hT]
    obtain ⟨⟨ws, hw, rw'⟩, fr, of⟩ := x
    exact post _ _ d g' s' ⟨⟨ws, hw, RelK.cut rw' z⟩, fr, fun i c q => of i c (by rw [List.getElem?_append_left (List.getElem?_eq_some_iff.mp q).1]; exact q)⟩ nq
/-- a def of the text keeps the promise, by its body -/
theorem fn_D {x qual : Str} {st : Stmt} {f : Addr} {fd : FuncData} {N ps : List Str} {k : Nat} {Pm : Pr} (F : Fun K x qual st f fd) (S : FnScope N ps (defScope st))
    (hb : ∀ (cdv : Value) (A : Around) (outer : List Env) (s : Shared) (H : Hp) (E : XK), Room k (A.deeper (envOfC qual (defScope st) s.heap.objs.size f cdv)) →
      L2N.Takes (cxOf (L2N.CX P w) P w K mg base N qual (defScope st) f cdv A outer s H E) (fun cls d _ H => E cls d H) →
      PassesOwn (model P w) (cxOf (L2N.CX P w) P w K mg base N qual (defScope st) f cdv A outer s H E).A (cxOf (L2N.CX P w) P w K mg base N qual (defScope st) f cdv A outer s H E).env (cxOf (L2N.CX P w) P w K mg base N qual (defScope st) f cdv A outer s H E).xe →
      ∀ dvs μ o, dvs.length = ps.length → Pm dvs μ o → Bd (cxOf (L2N.CX P w) P w K mg base N qual (defScope st) f cdv A outer s H E) (fun cls d _ H => E cls d H) (defBody st) (startD N.length dvs) μ o) :
    FnOk P w K mg base (L2N.CX P w) (k + 1) f fd ps (spD K ps.length Pm) := by
  refine F.okN S (fun vs H Q E h => h.len) (fun cdv A outer s H vs Q E hr h => ⟨_, semB_ps, ?_⟩)
  exact body_sp (N := N) rfl rfl h (hb cdv A outer s H E hr (L2N.takes_of rfl rfl rfl rfl) (passes_of rfl))
/-- a def that stands under its name -/
structure Df (P : Program) (w : World) (K : PySem.W.Frag) (mg : Str → Option Value) (base : Heap) (x : Str) (k n : Nat) (Pm : Pr) : Prop where
  ex : ∃ f fd ps, FnOk P w K mg base (L2N.CX P w) k f fd ps (spD K n Pm) ∧ mg x = some (.ref f) ∧ PySem.W.keepIn K (.ref f) = true ∧ Binds K fd ps []
theorem Df.mk' {x qual : Str} {st : Stmt} {f : Addr} {fd : FuncData} {ps : List Str} {k : Nat} {Pm : Pr} (F : Fun K x qual st f fd) (hm : mg x = some (.ref f)) (b : Binds K fd ps []) (h : FnOk P w K mg base (L2N.CX P w) k f fd ps (spD K ps.length Pm)) : Df P w K mg base x k ps.length Pm :=
  ⟨f, fd, ps, h, hm, F.kp, b⟩
end
section
variable {X : Cx} {T : WX} {δ δ' δ1 δ2 : Slots} {μ μ' μ1 μ2 μ3 : Store} {e a b c : Expr} {es : List Expr} {st : Stmt} {sts rest : List Stmt} {o : Out} {dv dv1 dv2 : DV} {dvs : List DV} {pos p p' : Pos} {i j k n : Nat} {x : Str} {Pm : Pr}
theorem Ev.call (D : Df X.prog X.w X.K X.mg X.base x k n Pm) (hr : Room k X.A) (ha : Ea X (e :: es) δ μ dvs μ1) (h : Pm dvs μ1 (.ret dv μ')) (hl : dvs.length = n := by rfl) (hg : Gl X x := by rfl) (hdb : (x == ("__debug__" : Str)) = false := by decide)
    (he : starEach (e :: es) X.env = (false, eval e X.env) :: starEach es X.env := by rfl) (hpl : (backTo pos (starEach es X.env)).any (·.1) = false := by rfl) : Ev X (.Call (.Name x p) (e :: es) [] pos) δ μ dv μ' := fun W H σ Q A q => by
  obtain ⟨f, fd, ps, F, hm, hk, hb⟩ := D.ex
  refine semE_of (pe_call F hr hg hm hk hb .nil passN ha.pa hdb he hpl) ?_
  refine ha.ev W H σ _ A fun W1 H1 vs g1 A1 r1 => ?_
  refine ⟨W1, μ1, dvs, _, hl, A1.st, by rw [List.append_nil]; exact r1, h, fun W' H' v g s r => q W' H' v (g1.trans g) (A1.le g s) r⟩
theorem Er.call {C : Addr} {fs : Flds} (tk : L2N.Takes X T) (D : Df X.prog X.w X.K X.mg X.base x k n Pm) (hr : Room k X.A) (ha : Ea X (e :: es) δ μ dvs μ1) (h : Pm dvs μ1 (.exc C fs μ')) (hl : dvs.length = n := by rfl) (hg : Gl X x := by rfl) (hdb : (x == ("__debug__" : Str)) = false := by decide)
    (he : starEach (e :: es) X.env = (false, eval e X.env) :: starEach es X.env := by rfl) (hpl : (backTo pos (starEach es X.env)).any (·.1) = false := by rfl) : Er X T (.Call (.Name x p) (e :: es) [] pos) δ μ C fs μ' := fun W H σ Q A q => by
  obtain ⟨f, fd, ps, F, hm, hk, hb⟩ := D.ex
  refine semE_of (pe_callS F hr hg hm hk hb (fun σ => L2N.passAt tk σ) ha.pa hdb he hpl) ?_
  refine ha.ev W H σ _ A fun W1 H1 vs g1 A1 r1 => ?_
  refine ⟨W1, μ1, dvs, _, hl, A1.st, r1, h, fun W' H' d g s r nq => ?_⟩
  exact q W' H' d (g1.trans g) (A1.le g s) r (nq.back g1)
/-! ### built-ins -/
def CallS (X : Cx) (f : Value) (dvs : List DV) (μ : Store) (r : DV) (μ' : Store) : Prop :=
  ∃ rr : List V → Hp → VK → Prop, CallR X f rr ∧ ∀ W H σ δ vs (Q : VK), At X.K W H σ δ μ → Rels X.K W dvs vs → (∀ W' H' v, Go W H μ W' H' μ' → At X.K W' H' σ δ μ' → Rel X.K W' r v → Q v H') → rr vs H Q
theorem Ev.blt {id : String} (hm : X.mg x = none) (ha : Ea X (e :: es) δ μ dvs μ1) (h : CallS X (.builtin id) dvs μ1 dv μ') (hv : bootBuiltins x = some (.builtin id) := by first | rfl | decide +kernel) (hg : Gl X x := by rfl) (hn : x ≠ "__name__" := by decide) (hdb : (x == ("__debug__" : Str)) = false := by decide)
    (he : starEach (e :: es) X.env = (false, eval e X.env) :: starEach es X.env := by rfl) (hpl : (backTo pos (starEach es X.env)).any (·.1) = false := by rfl) : Ev X (.Call (.Name x p) (e :: es) [] pos) δ μ dv μ' := fun W H σ Q A q => by
  obtain ⟨rr, hc, h⟩ := h
  refine semE_of (pe_callB hc hg hm hv ha.pa hn hdb he hpl) ?_
  refine ha.ev W H σ _ A fun W1 H1 vs g1 A1 r1 => ?_
  exact h W1 H1 σ δ vs Q A1 r1 fun W' H' v g A' r => q W' H' v (g1.trans g) A' r
theorem Ev.tyc {id : String} (hm : X.mg x = none) (ha : Ea X (e :: es) δ μ dvs μ1) (h : CallS X (.type id) dvs μ1 dv μ') (hv : bootBuiltins x = some (.type id) := by first | rfl | decide +kernel) (hg : Gl X x := by rfl) (hn : x ≠ "__name__" := by decide) (hdb : (x == ("__debug__" : Str)) = false := by decide)
    (he : starEach (e :: es) X.env = (false, eval e X.env) :: starEach es X.env := by rfl) (hpl : (backTo pos (starEach es X.env)).any (·.1) = false := by rfl) : Ev X (.Call (.Name x p) (e :: es) [] pos) δ μ dv μ' := fun W H σ Q A q => by
  obtain ⟨rr, hc, h⟩ := h
  refine semE_of (pe_callTy hc hg hm hv ha.pa hn hdb he hpl) ?_
  refine ha.ev W H σ _ A fun W1 H1 vs g1 A1 r1 => ?_
  exact h W1 H1 σ δ vs Q A1 r1 fun W' H' v g A' r => q W' H' v (g1.trans g) A' r
/-- a built-in type as a value -/
theorem Ev.ty {id : String} (hm : X.mg x = none) (hv : bootBuiltins x = some (.type id) := by first | rfl | decide +kernel) (hg : Gl X x := by rfl) (hn : x ≠ "__name__" := by decide) (hdb : (x == ("__debug__" : Str)) = false := by decide) : Ev X (.Name x p) δ μ (.dat (.ty id)) μ :=
  .now (pe_bltn (v := .ty id) hg hm hv rfl hn hdb) fun _ _ _ _ _ k => k _ (Dq.ty id)
theorem Rels.one {K : PySem.W.Frag} {W : Wd} {vs : List V} (h : Rels K W [dv] vs) : ∃ v, vs = [v] ∧ Rel K W dv v := by
  cases h with
  | cons r t => cases t; exact ⟨_, rfl, r⟩
theorem Rels.two {K : PySem.W.Frag} {W : Wd} {vs : List V} (h : Rels K W [dv, dv1] vs) : ∃ v u, vs = [v, u] ∧ Rel K W dv v ∧ Rel K W dv1 u := by
  cases h with
  | cons r t => cases t with
    | cons r' t' => cases t'; exact ⟨_, _, rfl, r, r'⟩
/-- the built-in type of a datum -/
def tyOf : D → Option String
  | .non => some "NoneType"
  | .bl _ => some "bool"
  | .int _ => some "int"
  | .str _ => some "str"
  | .lst _ => some "list"
  | .tup _ => some "tuple"
  | .dct _ => some "dict"
  | _ => none
theorem tyx_of {K : PySem.W.Frag} {G H : Hp} (e : Same G H) {v : V} {d : D} {t : String} (h : Dq K G v d) (ht : tyOf d = some t) : TyX K H v (.type t) := by
  cases h with
  | non => cases ht; exact .base .non
  | bl b => cases ht; exact .base (.bl b)
  | int i => cases ht; exact .base (.int i)
  | str s => cases ht; exact .base (.str s)
  | ref a => cases ht
  | ty n => cases ht
  | lst h _ => cases ht; exact .base (.lst (e _ _ h))
  | scr h _ => cases ht
  | tup h _ =>
    cases ht
    rcases h with (h | ⟨o, h⟩) | ⟨o, its, n, hk, hc, _⟩
    · exact .base (.tup (e _ _ h))
    · exact .fTuple (e _ _ h)
    · exact .kTuple hk hc
  | dct h _ => cases ht; exact .base (.dK (e _ _ h))
  | ins h _ => cases ht
theorem CallS.isi {d : D} {t u : String} {r : Bool} (ht : tyOf d = some t) (hk : kitB t u = some r) : CallS X (.builtin "isinstance") [.dat d, .dat (.ty u)] μ (.b r) μ :=
  ⟨_, call_isi, fun W H σ δ vs Q A rv q => by
    obtain ⟨v, c, rfl, r1, r2⟩ := Rels.two rv
    have hc : c = .ty u := by cases (show Dq X.K W.G c (.ty u) from r2); rfl
    subst hc
    exact ⟨v, _, _, _, r, rfl, .ty u, tyx_of A.st.ex r1 ht, kit_ty hk, q W H _ .refl A (Dq.bl r)⟩⟩
/-- isinstance(x, (C, ..)), the tuple of types just made -/
theorem DqA.tys {K : PySem.W.Frag} {G : Hp} : ∀ {us : List String} {vs : List V}, DqA K G vs (us.map D.ty) → Paired ClsV vs (us.map Value.type)
  | [], _, h => by cases h; exact .nil
  | u :: us, _, h => by
    cases h with
    | cons h t =>
      cases h
      exact .cons (.ty u) (DqA.tys t)
def kitsB (t : String) : List String → Option Bool
  | [] => some false
  | u :: us => match kitB t u with
    | some true => some true
    | some false => kitsB t us
    | none => none
theorem kits_ok {K : PySem.W.Frag} {t : String} : ∀ {us : List String} {r : Bool}, kitsB t us = some r → PySem.W.kitAny K (.type t) (us.map Value.type) = some r
  | [], r, h => by
    cases h
    exact kitAny_nil
  | u :: us, r, h => by
    unfold kitsB at h
    split at h
    · rename_i e
      cases h
      exact kitAny_cons (kit_ty e) (fun z => nomatch z) fun _ => rfl
    · rename_i e
      exact kitAny_cons (kit_ty e) (fun _ => kits_ok h) fun z => nomatch z
    · cases h
/-! ### views of what may be read -/
def LV (μ : Store) (dv : DV) (xs : List DV) : Prop := (∃ ds, dv = .dat (.lst ds) ∧ xs = ds.map DV.dat) ∨ ∃ k, dv = .own k ∧ μ[k]? = some (.lst xs)
theorem LV.dt {ds : List D} : LV μ (.dat (.lst ds)) (ds.map DV.dat) := .inl ⟨ds, rfl, rfl⟩
theorem LV.ow {xs : List DV} (h : μ[k]? = some (.lst xs)) : LV μ (.own k) xs := .inr ⟨k, rfl, h⟩
theorem LV.sq {K : PySem.W.Frag} {W : Wd} {H : Hp} {xs : List DV} {v : V} (h : LV μ dv xs) (S : StOk K W H μ) (r : Rel K W dv v) : ∃ q vs, v = .ref q ∧ H q = some (.lst vs) ∧ Rels K W xs vs := by
  rcases h with ⟨ds, rfl, rfl⟩ | ⟨k, rfl, hk⟩
  · cases (show Dq K W.G v (.lst ds) from r) with
    | lst h t => exact ⟨_, _, rfl, S.ex _ _ h, DqA.rels t⟩
  · obtain ⟨_, vs, hv, rl⟩ := S.cell k _ hk
    exact ⟨_, vs, r.2, hv, rl⟩
theorem tv_sq {K : PySem.W.Frag} {W : Wd} {H : Hp} {ds : List D} {v : V} (S : StOk K W H μ) (r : Rel K W (.dat (.tup ds)) v) : ∃ q vs, v = .ref q ∧ SqT K H q vs ∧ DqA K W.G vs ds := by
  cases (show Dq K W.G v (.tup ds) from r) with
  | tup h t => exact ⟨_, _, rfl, Same.tseq S.ex h, t⟩
theorem CallS.lenL {xs : List DV} (h : LV μ dv xs) : CallS X (.builtin "len") [dv] μ (.i xs.length) μ :=
  ⟨_, call_len_seq, fun W H σ δ vs Q A rv q => by
    obtain ⟨v, rfl, r⟩ := Rels.one rv
    obtain ⟨a, us, rfl, hs, rl⟩ := h.sq A.st r
    refine ⟨a, us, rfl, .inl (SqL.of hs), ?_⟩
    rw [← rl.len]
    exact q W H _ .refl A (Dq.int _)⟩
theorem CallS.lenT {ds : List D} : CallS X (.builtin "len") [.dat (.tup ds)] μ (.i ds.length) μ :=
  ⟨_, call_len_seq, fun W H σ δ vs Q A rv q => by
    obtain ⟨v, rfl, r⟩ := Rels.one rv
    obtain ⟨a, us, rfl, hs, rl⟩ := tv_sq A.st r
    refine ⟨a, us, rfl, .inr hs, ?_⟩
    have e : us.length = ds.length := by rw [← (DqA.rels rl).len, List.length_map]
    rw [e]
    exact q W H _ .refl A (Dq.int _)⟩
theorem CallS.intI {m : Int} : CallS X (.type "int") [.i m] μ (.i m) μ :=
  ⟨_, call_int1, fun W H σ δ vs Q A rv q => by
    obtain ⟨v, rfl, r⟩ := Rels.one rv
    exact .inl ⟨m, by rw [r.iv], q W H _ .refl A (Dq.int _)⟩⟩
theorem CallS.intB {v : Bool} : CallS X (.type "int") [.b v] μ (.i (if v then 1 else 0)) μ :=
  ⟨_, call_int1, fun W H σ δ vs Q A rv q => by
    obtain ⟨u, rfl, r⟩ := Rels.one rv
    exact .inr ⟨v, by rw [r.bv], q W H _ .refl A (Dq.int _)⟩⟩
theorem CallS.boolI {m : Int} : CallS X (.type "bool") [.i m] μ (.b (m != 0)) μ :=
  ⟨_, call_bool1, fun W H σ δ vs Q A rv q => by
    obtain ⟨v, rfl, r⟩ := Rels.one rv
    exact .inl ⟨m, by rw [r.iv], q W H _ .refl A (Dq.bl _)⟩⟩
theorem CallS.abs {m : Int} : CallS X (.builtin "abs") [.i m] μ (.i (if m < 0 then -m else m)) μ :=
  ⟨_, call_abs, fun W H σ δ vs Q A rv q => by
    obtain ⟨v, rfl, r⟩ := Rels.one rv
    exact ⟨m, by rw [r.iv], q W H _ .refl A (Dq.int _)⟩⟩
theorem CallS.max2 {m m' : Int} (hc : X.calm = true) : CallS X (.builtin "max") [.i m, .i m'] μ (.i (if m' > m then m' else m)) μ :=
  ⟨_, call_max2 hc, fun W H σ δ vs Q A rv q => by
    obtain ⟨v, u, rfl, r, r'⟩ := Rels.two rv
    exact ⟨m, m', by rw [r.iv, r'.iv], q W H _ .refl A (Dq.int _)⟩⟩
theorem CallS.min2 {m m' : Int} (hc : X.calm = true) : CallS X (.builtin "min") [.i m, .i m'] μ (.i (if m' < m then m' else m)) μ :=
  ⟨_, call_min2 hc, fun W H σ δ vs Q A rv q => by
    obtain ⟨v, u, rfl, r, r'⟩ := Rels.two rv
    exact ⟨m, m', by rw [r.iv, r'.iv], q W H _ .refl A (Dq.int _)⟩⟩
/-- list(xs), tuple(xs) -/
theorem newLst {W : Wd} {H : Hp} {σ : L2.St} {vs : List V} {ds : List D} {Q : VK} {q : Addr} (A : At X.K W H σ δ μ) (hn : H q = none) (t : DqA X.K W.G vs ds) (k : ∀ W' H' v, Go W H μ W' H' μ → At X.K W' H' σ δ μ → Rel X.K W' (.dat (.lst ds)) v → Q v H') : Q (.ref q) (upd H q (.lst vs)) := by
  obtain ⟨g, s⟩ := go_newG (o := .lst vs) A.st hn
  exact k _ _ _ g (A.le g s) (Dq.lst upd_same (DqA.mono g.le.G t))
theorem newTup {W : Wd} {H : Hp} {σ : L2.St} {vs : List V} {ds : List D} {Q : VK} {q : Addr} (A : At X.K W H σ δ μ) (hn : H q = none) (t : DqA X.K W.G vs ds) (k : ∀ W' H' v, Go W H μ W' H' μ → At X.K W' H' σ δ μ → Rel X.K W' (.dat (.tup ds)) v → Q v H') : Q (.ref q) (upd H q (.tup vs)) := by
  obtain ⟨g, s⟩ := go_newG (o := .tup vs) A.st hn
  exact k _ _ _ g (A.le g s) (Dq.tup (SqT.of upd_same) (DqA.mono g.le.G t))
theorem newOwn {W : Wd} {H : Hp} {σ : L2.St} {vs : List V} {xs : List DV} {Q : VK} {q : Addr} (A : At X.K W H σ δ μ) (hn : H q = none) (t : Rels X.K W xs vs) (k : ∀ W' H' v, Go W H μ W' H' (μ ++ [.lst xs]) → At X.K W' H' σ δ (μ ++ [.lst xs]) → Rel X.K W' (.own μ.length) v → Q v H') : Q (.ref q) (upd H q (.lst vs)) := by
  have gp : W.G q = none := A.st.ex.free hn
  obtain ⟨g, s⟩ := go_newC (o := .lst vs) (c := .lst xs) A.st hn ⟨by rw [Wd.push_at]; exact gp, vs, by rw [Wd.push_at]; exact upd_same, t.mono (W.push_le q)⟩
  refine k _ _ _ g (A.le g s) ⟨by rw [← A.st.n]; exact Nat.lt_succ_self _, ?_⟩
  rw [← A.st.n, Wd.push_at]
theorem CallS.listO {xs : List DV} (h : LV μ dv xs) : CallS X (.type "list") [dv] μ (.own μ.length) (μ ++ [.lst xs]) :=
  ⟨_, call_list_of, fun W H σ δ vs Q A rv q => by
    obtain ⟨v, rfl, r⟩ := Rels.one rv
    obtain ⟨a, us, rfl, hs, rl⟩ := h.sq A.st r
    exact ⟨a, us, rfl, .inl (SqL.of hs), fun l hl => newOwn A hl rl q⟩⟩
theorem CallS.listTO {ds : List D} : CallS X (.type "list") [.dat (.tup ds)] μ (.own μ.length) (μ ++ [.lst (ds.map DV.dat)]) :=
  ⟨_, call_list_of, fun W H σ δ vs Q A rv q => by
    obtain ⟨v, rfl, r⟩ := Rels.one rv
    obtain ⟨a, us, rfl, hs, rl⟩ := tv_sq A.st r
    exact ⟨a, us, rfl, .inr hs, fun l hl => newOwn A hl (DqA.rels rl) q⟩⟩
theorem CallS.listT {ds : List D} : CallS X (.type "list") [.dat (.tup ds)] μ (.dat (.lst ds)) μ :=
  ⟨_, call_list_of, fun W H σ δ vs Q A rv q => by
    obtain ⟨v, rfl, r⟩ := Rels.one rv
    obtain ⟨a, us, rfl, hs, rl⟩ := tv_sq A.st r
    exact ⟨a, us, rfl, .inr hs, fun l hl => newLst A hl rl q⟩⟩
theorem CallS.tupL {ds : List D} (h : LV μ dv (ds.map DV.dat)) : CallS X (.type "tuple") [dv] μ (.dat (.tup ds)) μ :=
  ⟨_, call_tuple_of, fun W H σ δ vs Q A rv q => by
    obtain ⟨v, rfl, r⟩ := Rels.one rv
    obtain ⟨a, us, rfl, hs, rl⟩ := h.sq A.st r
    exact ⟨a, us, rfl, .inl ⟨SqL.of hs, fun l hl => newTup A hl (DqA.of rl) q⟩⟩⟩
/-- all, any of truth values -/
theorem DqA.bls {K : PySem.W.Frag} {G : Hp} : ∀ {bs : List Bool} {vs : List V}, DqA K G vs (bs.map D.bl) → vs = bs.map V.bl
  | [], _, h => by cases h; rfl
  | b :: bs, _, h => by
    cases h with
    | cons h t =>
      cases h
      rw [DqA.bls t]
      rfl
theorem DqA.ints {K : PySem.W.Frag} {G : Hp} : ∀ {ns : List Int} {vs : List V}, DqA K G vs (ns.map D.int) → vs = ns.map V.int
  | [], _, h => by cases h; rfl
  | b :: bs, _, h => by
    cases h with
    | cons h t =>
      cases h
      rw [DqA.ints t]
      rfl
theorem ints_dq {K : PySem.W.Frag} {G : Hp} : ∀ (ns : List Int), DqA K G (ns.map V.int) (ns.map D.int)
  | [] => .nil
  | n :: ns => .cons (.int n) (ints_dq ns)
theorem CallS.all {bs : List Bool} (hc : X.calm = true) : CallS X (.builtin "all") [.dat (.lst (bs.map D.bl))] μ (.b (bs.all id)) μ :=
  ⟨_, cr_all hc, fun W H σ δ vs Q A rv q => by
    obtain ⟨v, rfl, r⟩ := Rels.one rv
    cases (show Dq X.K W.G v (.lst (bs.map D.bl)) from r) with
    | lst h t =>
      rw [DqA.bls t] at h
      exact ⟨_, bs, rfl, SqL.of (A.st.ex _ _ h), q W H _ .refl A (Dq.bl _)⟩⟩
theorem CallS.any {bs : List Bool} (hc : X.calm = true) : CallS X (.builtin "any") [.dat (.lst (bs.map D.bl))] μ (.b (bs.any id)) μ :=
  ⟨_, cr_any hc, fun W H σ δ vs Q A rv q => by
    obtain ⟨v, rfl, r⟩ := Rels.one rv
    cases (show Dq X.K W.G v (.lst (bs.map D.bl)) from r) with
    | lst h t =>
      rw [DqA.bls t] at h
      exact ⟨_, bs, rfl, SqL.of (A.st.ex _ _ h), q W H _ .refl A (Dq.bl _)⟩⟩
theorem CallS.sum {ns : List Int} (hc : X.calm = true) : CallS X (.builtin "sum") [.dat (.lst (ns.map D.int))] μ (.i ns.sum) μ :=
  ⟨_, cr_sum hc, fun W H σ δ vs Q A rv q => by
    obtain ⟨v, rfl, r⟩ := Rels.one rv
    cases (show Dq X.K W.G v (.lst (ns.map D.int)) from r) with
    | lst h t =>
      rw [DqA.ints t] at h
      exact ⟨_, ns, rfl, SqL.of (A.st.ex _ _ h), q W H _ .refl A (Dq.int _)⟩⟩
/-- two ascending lists of the same ints are one -/
theorem asc_unique : ∀ {xs ys : List Int}, xs.Perm ys → xs.Pairwise (· ≤ ·) → ys.Pairwise (· ≤ ·) → xs = ys
  | [], _, h, _, _ => (List.perm_nil.mp h.symm).symm
  | x :: xs, ys, h, hx, hy => by
    cases ys with
    | nil => exact absurd h.length_eq (by simp)
    | cons y ys =>
      have mx : x ∈ y :: ys := h.mem_iff.mp List.mem_cons_self
      have my : y ∈ x :: xs := h.mem_iff.mpr List.mem_cons_self
      have e : x = y := by
        rcases List.mem_cons.mp mx with q | q
        · exact q
        · rcases List.mem_cons.mp my with z | z
          · exact z.symm
          · exact Int.le_antisymm ((List.pairwise_cons.mp hx).1 y z) ((List.pairwise_cons.mp hy).1 x q)
      subst e
      rw [asc_unique (List.Perm.cons_inv h) (List.pairwise_cons.mp hx).2 (List.pairwise_cons.mp hy).2]
theorem CallS.sorted {ns ms : List Int} (h : LV μ dv (ns.map fun n => DV.i n)) (hl : ns.length < 64) (hp : ms.Perm ns) (ho : ms.Pairwise (· ≤ ·)) : CallS X (.builtin "sorted") [dv] μ (.dat (.lst (ms.map D.int))) μ :=
  ⟨_, cr_sorted, fun W H σ δ vs Q A rv q => by
    obtain ⟨v, rfl, r⟩ := Rels.one rv
    obtain ⟨a, us, rfl, hs, rl⟩ := h.sq A.st r
    have e : us = ns.map V.int := by
      have z : (ns.map fun n => DV.i n) = (ns.map D.int).map DV.dat := by rw [List.map_map]; rfl
      rw [z] at rl
      exact DqA.ints (DqA.of rl)
    rw [e] at hs
    refine ⟨a, ns, rfl, SqL.of hs, hl, fun ns' l p1 p2 hn => ?_⟩
    have e2 : ns' = ms := asc_unique (p1.trans hp.symm) p2 ho
    rw [e2]
    exact newLst A hn (ints_dq ms) q⟩
end
end Dt
set_option maxHeartbeats 2000000
/-! Subscripts, membership, dicts, slices, comprehensions. -/
namespace Dt
open PySem PySem.Spec L2
open PyProof.Rows (envOfC)
section
variable {X : Cx} {T : WX} {δ δ' δ1 δ2 : Slots} {μ μ' μ1 μ2 μ3 : Store} {e a b c : Expr} {es : List Expr} {st : Stmt} {sts rest : List Stmt} {o : Out} {dv dv1 dv2 : DV} {dvs : List DV} {pos p p' : Pos} {i j k n : Nat} {x : Str}
/-! ### subscripts -/
theorem atI_rel {α β : Type} {F : α → β → Prop} {xs : List α} {ys : List β} {m : Int} {y : α} (h : Paired F xs ys) (e : atI xs m = some y) : ∃ z, atI ys m = some z ∧ F y z := by
  unfold atI at e ⊢
  rw [← Paired.length h]
  obtain ⟨q, hq, hy⟩ := Option.bind_eq_some_iff.mp e
  obtain ⟨z, hz, r⟩ := Paired.get' h hy
  exact ⟨z, by rw [hq]; exact hz, r⟩
theorem atI_map {α β : Type} (f : α → β) {xs : List α} {m : Int} {y : α} (e : atI xs m = some y) : atI (xs.map f) m = some (f y) := by
  unfold atI at e ⊢
  rw [List.length_map]
  obtain ⟨q, hq, hy⟩ := Option.bind_eq_some_iff.mp e
  rw [hq]
  show (xs.map f)[q]? = _
  rw [List.getElem?_map, hy]
  rfl
theorem Ev.ixL {xs : List DV} {m : Int} (ha : Ev X a δ μ dv μ1) (hb : Ev X b δ μ1 (.i m) μ2) (hv : LV μ2 dv xs) (h : atI xs m = some dv2) (hs : PlainIx b := by exact fun _ _ => rfl) : Ev X (.Subscript a b pos) δ μ dv2 μ2 :=
  .two (te := fun ta tb => tOp _ ta tb) (fun _ _ => rfl) (pe_ix ix_list semE_pe semE_pe hs) ha hb fun W H σ δ x y Q A rx ry q => by
    obtain ⟨al, vs, rfl, hh, rl⟩ := hv.sq A.st rx
    obtain ⟨z, hz, rz⟩ := atI_rel rl h
    exact ⟨al, vs, m, z, rfl, ry.iv, SqL.of hh, hz, q W H z .refl A rz⟩
theorem Ev.ixD {ds : List D} {m : Int} {d : D} (ha : Ev X a δ μ (.dat (.lst ds)) μ1) (hb : Ev X b δ μ1 (.i m) μ2) (h : atI ds m = some d) (hs : PlainIx b := by exact fun _ _ => rfl) : Ev X (.Subscript a b pos) δ μ (.dat d) μ2 :=
  .ixL ha hb .dt (atI_map DV.dat h) hs
theorem Ev.ixO {xs : List DV} {m : Int} (ha : Ev X a δ μ (.own k) μ1) (hb : Ev X b δ μ1 (.i m) μ2) (hk : μ2[k]? = some (.lst xs)) (h : atI xs m = some dv2) (hs : PlainIx b := by exact fun _ _ => rfl) : Ev X (.Subscript a b pos) δ μ dv2 μ2 :=
  .ixL ha hb (.ow hk) h hs
theorem Ev.ixT {ds : List D} {m : Int} {d : D} (ha : Ev X a δ μ (.dat (.tup ds)) μ1) (hb : Ev X b δ μ1 (.i m) μ2) (h : atI ds m = some d) (hs : PlainIx b := by exact fun _ _ => rfl) : Ev X (.Subscript a b pos) δ μ (.dat d) μ2 :=
  .two (te := fun ta tb => tOp _ ta tb) (fun _ _ => rfl) (pe_ix ix_tup semE_pe semE_pe hs) ha hb fun W H σ δ x y Q A rx ry q => by
    obtain ⟨al, vs, rfl, hh, rl⟩ := tv_sq A.st rx
    obtain ⟨z, hz, rz⟩ := atI_rel (DqA.rels rl) (atI_map DV.dat h)
    exact ⟨al, vs, m, z, rfl, ry.iv, hh, hz, q W H z .refl A rz⟩
/-! ### membership: flat items -/
def flatD : D → Bool
  | .non => true
  | .bl _ => true
  | .int _ => true
  | .str _ => true
  | _ => false
def toV : D → V
  | .non => .non
  | .bl b => .bl b
  | .int i => .int i
  | .str s => .str s
  | _ => .non
theorem dq_flat {K : PySem.W.Frag} {G : Hp} {v : V} {d : D} (h : Dq K G v d) (f : flatD d = true) : v = toV d ∧ flatV v = true := by
  cases h <;> first | exact ⟨rfl, rfl⟩ | exact absurd (show false = true from f) Bool.false_ne_true
theorem dqa_flat {K : PySem.W.Frag} {G : Hp} : ∀ {vs : List V} {ds : List D}, DqA K G vs ds → ds.all flatD = true → vs = ds.map toV ∧ vs.all flatV = true
  | _, _, .nil, _ => ⟨rfl, rfl⟩
  | _, _, .cons h t, f => by
    have f' := Bool.and_eq_true_iff.mp f
    obtain ⟨e1, e2⟩ := dq_flat h f'.1
    obtain ⟨e3, e4⟩ := dqa_flat t f'.2
    exact ⟨by rw [e3, e1]; rfl, Bool.and_eq_true_iff.mpr ⟨e2, e4⟩⟩
def inD (d : D) (ds : List D) : Bool := inV (toV d) (ds.map toV)
theorem flat_ints (ns : List Int) : (ns.map D.int).all flatD = true := by
  induction ns with
  | nil => rfl
  | cons n ns ih => exact Bool.and_eq_true_iff.mpr ⟨rfl, ih⟩
theorem inD_ints (m : Int) (ns : List Int) : inD (.int m) (ns.map D.int) = decide (m ∈ ns) := by
  unfold inD inV
  rw [List.map_map, List.any_map]
  have e : ((fun y => eqV y (toV (.int m))) ∘ (toV ∘ D.int)) = fun q => q == m := by funext q; rfl
  rw [e]
  induction ns with
  | nil => rfl
  | cons z zs ih =>
    rw [List.any_cons, ih]
    by_cases q : z = m
    · subst q
      simp
    · have q1 : (z == m) = false := by simpa using q
      have q2 : ¬ m = z := fun h => q h.symm
      rw [q1, Bool.false_or]
      exact decide_eq_decide.mpr (by simp [q2])
theorem OpS.inGen {neg : Bool} {f : Value → Value → Sem Value} {d : D} {ds : List D} (ho : OpR X f (rIn X.K neg)) (hd : flatD d = true) (hf : ds.all flatD = true) (hv : LV μ dv (ds.map DV.dat) ∨ dv = .dat (.tup ds)) :
    OpS X f (.dat d) dv μ (.b (if neg then !inD d ds else inD d ds)) μ :=
  ⟨_, ho, fun W H σ δ x y Q A rx ry q => by
    obtain ⟨ex, fx⟩ := dq_flat (show Dq X.K W.G x d from rx) hd
    subst ex
    have go : ∀ al vs, y = .ref al → (SqL X.K H al vs ∨ SqT X.K H al vs) → DqA X.K W.G vs ds → rIn X.K neg (toV d) y H Q := fun al vs ey hs t => by
      obtain ⟨e1, e2⟩ := dqa_flat t hf
      refine ⟨al, vs, ey, hs, fx, e2, ?_⟩
      rw [e1]
      exact q W H _ .refl A (Dq.bl _)
    rcases hv with hv | rfl
    · obtain ⟨al, vs, ey, hh, rl⟩ := hv.sq A.st ry
      exact go al vs ey (.inl (SqL.of hh)) (DqA.of rl)
    · obtain ⟨al, vs, ey, hh, t⟩ := tv_sq A.st ry
      exact go al vs ey (.inr hh) t⟩
theorem ints_dv (ns : List Int) : (ns.map fun n => DV.i n) = (ns.map D.int).map DV.dat := by
  rw [List.map_map]
  rfl
theorem OpS.inL {m : Int} {ns : List Int} (hv : LV μ dv (ns.map fun n => DV.i n)) : OpS X (compareOp .In) (.i m) dv μ (.b (decide (m ∈ ns))) μ := by
  have h := OpS.inGen (X := X) (μ := μ) (dv := dv) (d := .int m) (ds := ns.map D.int) op_in_seq rfl (flat_ints ns) (.inl (by rw [← ints_dv]; exact hv))
  rw [inD_ints] at h
  exact h
theorem OpS.ninL {m : Int} {ns : List Int} (hv : LV μ dv (ns.map fun n => DV.i n)) : OpS X (compareOp .NotIn) (.i m) dv μ (.b (!decide (m ∈ ns))) μ := by
  have h := OpS.inGen (X := X) (μ := μ) (dv := dv) (d := .int m) (ds := ns.map D.int) op_notIn_seq rfl (flat_ints ns) (.inl (by rw [← ints_dv]; exact hv))
  rw [inD_ints] at h
  exact h
theorem OpS.inT {m : Int} {ns : List Int} : OpS X (compareOp .In) (.i m) (.dat (.tup (ns.map D.int))) μ (.b (decide (m ∈ ns))) μ := by
  have h := OpS.inGen (X := X) (μ := μ) (dv := .dat (.tup (ns.map D.int))) (d := .int m) (ds := ns.map D.int) op_in_seq rfl (flat_ints ns) (.inr rfl)
  rw [inD_ints] at h
  exact h
theorem OpS.ninT {m : Int} {ns : List Int} : OpS X (compareOp .NotIn) (.i m) (.dat (.tup (ns.map D.int))) μ (.b (!decide (m ∈ ns))) μ := by
  have h := OpS.inGen (X := X) (μ := μ) (dv := .dat (.tup (ns.map D.int))) (d := .int m) (ds := ns.map D.int) op_notIn_seq rfl (flat_ints ns) (.inr rfl)
  rw [inD_ints] at h
  exact h
/-! ### dicts: keys ints and texts -/
section
variable {κ : Type} [DecidableEq κ]
def lookK (kvs : List (κ × DV)) (q : κ) : Option DV := (kvs.find? fun kv => decide (kv.1 = q)).map (·.2)
def putD (kvs : List (κ × DV)) (q : κ) (v : DV) : List (κ × DV) :=
  if (kvs.any fun kv => decide (kv.1 = q)) = true then kvs.map (fun kv => if kv.1 = q then (kv.1, v) else kv) else kvs ++ [(q, v)]
theorem lookK_rel {K : PySem.W.Frag} {W : Wd} {q : κ} : ∀ {kvs : List (κ × DV)} {ws : List (κ × V)}, RelK K W kvs ws → (lookK kvs q = none ∧ valV ws q = none) ∨ ∃ d v, lookK kvs q = some d ∧ valV ws q = some v ∧ Rel K W d v
  | _, _, .nil => .inl ⟨rfl, rfl⟩
  | p :: kvs, u :: ws, .cons r t => by
    by_cases h : p.1 = q
    · have h' : u.1 = q := r.1 ▸ h
      exact .inr ⟨p.2, u.2, by simp [lookK, List.find?_cons, h], valV_pos h', r.2⟩
    · have h' : ¬ u.1 = q := r.1 ▸ h
      have e : lookK (p :: kvs) q = lookK kvs q := by simp [lookK, List.find?_cons, h]
      rw [e, valV_neg h']
      exact lookK_rel t
theorem anyK_rel {K : PySem.W.Frag} {W : Wd} {q : κ} : ∀ {kvs : List (κ × DV)} {ws : List (κ × V)}, RelK K W kvs ws → (kvs.any fun kv => decide (kv.1 = q)) = (ws.any fun kv => decide (kv.1 = q))
  | _, _, .nil => rfl
  | p :: kvs, u :: ws, .cons r t => by
    rw [List.any_cons, List.any_cons, r.1, anyK_rel t]
theorem putD_rel {K : PySem.W.Frag} {W : Wd} {q : κ} {d : DV} {v : V} (r : Rel K W d v) {kvs : List (κ × DV)} {ws : List (κ × V)} (h : RelK K W kvs ws) : RelK K W (putD kvs q d) (putK ws q v) := by
  unfold putD putK
  rw [anyK_rel h]
  split
  · have go : ∀ {kvs : List (κ × DV)} {ws : List (κ × V)}, RelK K W kvs ws → RelK K W (kvs.map fun kv => if kv.1 = q then (kv.1, d) else kv) (ws.map fun kv => if kv.1 = q then (kv.1, v) else kv) := by
      intro kvs ws h
      induction h with
      | nil => exact .nil
      | @cons p u ps us rr t ih =>
        rw [List.map_cons, List.map_cons]
        refine .cons ?_ ih
        rw [rr.1]
        by_cases z : u.1 = q
        · rw [if_pos z, if_pos z]
          exact ⟨rfl, r⟩
        · rw [if_neg z, if_neg z]
          exact rr
    exact go h
  · exact Paired.app h (.cons ⟨rfl, r⟩ .nil)
end
def keyD : Key → D
  | .inl m => .int m
  | .inr s => .str s
theorem key_rel {K : PySem.W.Frag} {W : Wd} {q : Key} {v : V} (h : Rel K W (.dat (keyD q)) v) : v = kV q := by
  cases q with
  | inl m => exact Rel.iv h
  | inr s => exact Rel.sv h
theorem dget_of {K : PySem.W.Frag} {W : Wd} {H : Hp} {kvs : List (Key × DV)} {v : V} (S : StOk K W H μ) (hk : μ[k]? = some (.dK kvs)) (r : Rel K W (.own k) v) : ∃ ws, v = .ref (W.A k) ∧ H (W.A k) = some (.dK ws) ∧ RelK K W kvs ws := by
  obtain ⟨_, ws, hw, rl⟩ := S.cell k _ hk
  exact ⟨ws, r.2, hw, rl⟩
/-- {} as an own cell -/
theorem Ev.dnew : Ev X (.Dict [] [] pos) δ μ (.own μ.length) (μ ++ [.dK []]) := fun W H σ Q A q => by
  refine semE_of pe_dnewK fun l hl => ?_
  have gp : W.G l = none := A.st.ex.free hl
  obtain ⟨g, s⟩ := go_newC (o := .dK []) (c := .dK []) A.st hl ⟨by rw [Wd.push_at]; exact gp, [], by rw [Wd.push_at]; exact upd_same, .nil⟩
  refine q _ _ _ g (A.le g s) ⟨by rw [← A.st.n]; exact Nat.lt_succ_self _, ?_⟩
  rw [← A.st.n, Wd.push_at]
/-- y in d, y not in d -/
theorem OpE.din {kvs : List (Key × DV)} {q : Key} (hu : X.A.units + 1 < cLine) (ha : Ev X a δ μ (.dat (keyD q)) μ1) (hb : Ev X b δ μ1 (.own k) μ2) (hk : μ2[k]? = some (.dK kvs)) (hm : behindInMarks .In b = false := by rfl) :
    Ev X (.Compare a [.In] [b] pos) δ μ (.b (lookK kvs q).isSome) μ2 := fun W H σ Q A kk => by
  refine semE_of (pe_cmp (pc_din hu semE_pe semE_pe) hm) ?_
  refine ha W H σ _ A fun W1 H1 y g1 A1 r1 => hb W1 H1 σ _ A1 fun W2 H2 x g2 A2 r2 => ?_
  obtain ⟨ws, ex, hw, rl⟩ := dget_of A2.st hk r2
  refine ⟨_, _, ex, by rw [key_rel r1]; exact DGet.k hw, ?_⟩
  have e : (valV ws q).isSome = (lookK kvs q).isSome := by
    rcases lookK_rel (q := q) rl with ⟨e1, e2⟩ | ⟨d, v, e1, e2, _⟩ <;> rw [e1, e2] <;> rfl
  rw [e]
  exact kk W2 H2 _ (g1.trans g2) A2 (Dq.bl _)
theorem OpE.dnin {kvs : List (Key × DV)} {q : Key} (hu : X.A.units + 1 < cLine) (ha : Ev X a δ μ (.dat (keyD q)) μ1) (hb : Ev X b δ μ1 (.own k) μ2) (hk : μ2[k]? = some (.dK kvs)) (hm : behindInMarks .NotIn b = false := by rfl) :
    Ev X (.Compare a [.NotIn] [b] pos) δ μ (.b (!(lookK kvs q).isSome)) μ2 := fun W H σ Q A kk => by
  refine semE_of (pe_cmp (pc_dnotin hu semE_pe semE_pe) hm) ?_
  refine ha W H σ _ A fun W1 H1 y g1 A1 r1 => hb W1 H1 σ _ A1 fun W2 H2 x g2 A2 r2 => ?_
  obtain ⟨ws, ex, hw, rl⟩ := dget_of A2.st hk r2
  refine ⟨_, _, ex, by rw [key_rel r1]; exact DGet.k hw, ?_⟩
  have e : (valV ws q).isSome = (lookK kvs q).isSome := by
    rcases lookK_rel (q := q) rl with ⟨e1, e2⟩ | ⟨d, v, e1, e2, _⟩ <;> rw [e1, e2] <;> rfl
  rw [e]
  exact kk W2 H2 _ (g1.trans g2) A2 (Dq.bl _)
/-- .. as tests -/
theorem Et.din {kvs : List (Key × DV)} {q : Key} (hu : X.A.units + 1 < cLine) (ha : Ev X a δ μ (.dat (keyD q)) μ1) (hb : Ev X b δ μ1 (.own k) μ2) (hk : μ2[k]? = some (.dK kvs)) (hm : behindInMarks .In b = false := by rfl) :
    Et X (.Compare a [.In] [b] pos) δ μ (lookK kvs q).isSome μ2 := fun W H σ Q A kk => by
  refine semT_of (pt_cmp (pc_din hu semE_pe semE_pe) hm) ?_
  refine ha W H σ _ A fun W1 H1 y g1 A1 r1 => hb W1 H1 σ _ A1 fun W2 H2 x g2 A2 r2 => ?_
  obtain ⟨ws, ex, hw, rl⟩ := dget_of A2.st hk r2
  have e : (valV ws q).isSome = (lookK kvs q).isSome := by
    rcases lookK_rel (q := q) rl with ⟨e1, e2⟩ | ⟨d, v, e1, e2, _⟩ <;> rw [e1, e2] <;> rfl
  exact ⟨_, _, ex, by rw [key_rel r1]; exact DGet.k hw, _, by rw [e], kk W2 H2 (g1.trans g2) A2⟩
theorem Et.dnin {kvs : List (Key × DV)} {q : Key} (hu : X.A.units + 1 < cLine) (ha : Ev X a δ μ (.dat (keyD q)) μ1) (hb : Ev X b δ μ1 (.own k) μ2) (hk : μ2[k]? = some (.dK kvs)) (hm : behindInMarks .NotIn b = false := by rfl) :
    Et X (.Compare a [.NotIn] [b] pos) δ μ (!(lookK kvs q).isSome) μ2 := fun W H σ Q A kk => by
  refine semT_of (pt_cmp (pc_dnotin hu semE_pe semE_pe) hm) ?_
  refine ha W H σ _ A fun W1 H1 y g1 A1 r1 => hb W1 H1 σ _ A1 fun W2 H2 x g2 A2 r2 => ?_
  obtain ⟨ws, ex, hw, rl⟩ := dget_of A2.st hk r2
  have e : (valV ws q).isSome = (lookK kvs q).isSome := by
    rcases lookK_rel (q := q) rl with ⟨e1, e2⟩ | ⟨d, v, e1, e2, _⟩ <;> rw [e1, e2] <;> rfl
  exact ⟨_, _, ex, by rw [key_rel r1]; exact DGet.k hw, _, by rw [e], kk W2 H2 (g1.trans g2) A2⟩
/-- d[y] -/
theorem Ev.dget {kvs : List (Key × DV)} {q : Key} (hu : X.A.units + 1 < cLine) (ha : Ev X a δ μ (.own k) μ1) (hb : Ev X b δ μ1 (.dat (keyD q)) μ2) (hk : μ2[k]? = some (.dK kvs)) (h : lookK kvs q = some dv) (hs : NoSl b := by exact fun _ _ => rfl) :
    Ev X (.Subscript a b pos) δ μ dv μ2 := fun W H σ Q A kk => by
  refine semE_of (pe_dget hu semE_pe semE_pe hs) ?_
  refine ha W H σ _ A fun W1 H1 x g1 A1 r1 => hb W1 H1 σ _ A1 fun W2 H2 y g2 A2 r2 => ?_
  obtain ⟨ws, ex, hw, rl⟩ := dget_of A2.st hk (r1.mono g2.le)
  rcases lookK_rel (q := q) rl with ⟨e1, e2⟩ | ⟨d, v, e1, e2, rv⟩
  · rw [h] at e1
    cases e1
  · rw [h] at e1
    cases e1
    exact ⟨_, v, ex, by rw [key_rel r2, ← e2]; exact DGet.k hw, kk W2 H2 v (g1.trans g2) A2 rv⟩
/-- d[y] = e -/
theorem Xs.dput {kvs : List (Key × DV)} {q : Key} (hu : X.A.units + 1 < cLine) (he : Ev X e δ μ dv μ1) (ha : Ev X a δ μ1 (.own k) μ2) (hb : Ev X b δ μ2 (.dat (keyD q)) μ3) (hk : μ3[k]? = some (.dK kvs)) (hl : kvs.length < 1000000)
    (hs : swapsWith e (some (.Subscript a b p)) pos.line X.env = pure false := by rfl) : Xs X T (.Assign [.Subscript a b p] e pos) δ μ (.nx δ (μ3.set k (.dK (putD kvs q dv)))) := fun W H σ D A P => by
  refine semS_of (ps_dput hu semE_pe semE_pe semE_pe hs) ?_
  refine he W H σ _ A fun W1 H1 v g1 A1 r1 => ha W1 H1 σ _ A1 fun W2 H2 x g2 A2 r2 => hb W2 H2 σ _ A2 fun W3 H3 y g3 A3 r3 => ?_
  obtain ⟨ws, ex, hw, rl⟩ := dget_of A3.st hk (r2.mono g3.le)
  have g0 : W3.G (W3.A k) = none := (A3.st.cell k _ hk).1
  obtain ⟨g, s⟩ := go_setC (o := .dK (putK ws q v)) (c' := .dK (putD kvs q dv)) A3.st hk (by intro z; cases z) ⟨g0, _, upd_same, putD_rel (r1.mono (g2.trans g3).le) rl⟩
  refine ⟨_, _, ex, by rw [key_rel r3]; exact DPut.k hw (by rw [← Paired.length rl, sizeLine_eq]; omega), P _ _ σ (((g1.trans g2).trans g3).trans g) (A3.le g s)⟩
/-! ### slices, tuples put together -/
def cutD {α : Type} (xs : List α) (lo hi : Option Int) : List α := (xs.drop (HT.sIx xs.length 0 lo)).take (HT.sIx xs.length xs.length hi - HT.sIx xs.length 0 lo)
theorem Paired.cutD {α β : Type} {F : α → β → Prop} {xs : List α} {ys : List β} (lo hi : Option Int) (h : Paired F xs ys) : Paired F (Dt.cutD xs lo hi) (Dt.cutD ys lo hi) := by
  unfold Dt.cutD
  rw [Paired.length h]
  exact Paired.first _ (Paired.cut _ h)
/-- a part of a slice -/
def Eo (X : Cx) (e : Option Expr) (δ : Slots) (μ : Store) (m : Option Int) (μ' : Store) : Prop :=
  ∃ t : TO, PO X e t ∧ ∀ W H σ (Q : Option Int → Hp → Prop), At X.K W H σ δ μ → (∀ W' H', Go W H μ W' H' μ' → At X.K W' H' σ δ μ' → Q m H') → t σ H Q
theorem Eo.no : Eo X none δ μ none μ := ⟨_, po_none, fun W H σ Q A k => k W H .refl A⟩
theorem Eo.at {m : Int} (h : Ev X e δ μ (.i m) μ') : Eo X (some e) δ μ (some m) μ' := ⟨_, po_some semE_pe, fun W H σ Q A k => h W H σ _ A fun W' H' v g A' r => ⟨m, r.iv, k W' H' g A'⟩⟩
theorem Ev.slice {r : V → Option Int → Option Int → Hp → VK → Prop} {lo hi : Option Expr} {m1 m2 : Option Int} {p2 : Pos} (hr : SlR X r) (ha : Ev X a δ μ dv μ1) (hl : Eo X lo δ μ1 m1 μ2) (hh : Eo X hi δ μ2 m2 μ3)
    (h : ∀ W H σ v (Q : VK), At X.K W H σ δ μ3 → Rel X.K W dv v → (∀ W' H' u, Go W H μ3 W' H' μ' → At X.K W' H' σ δ μ' → Rel X.K W' dv2 u → Q u H') → r v m1 m2 H Q) : Ev X (.Subscript a (.Slice lo hi none p2) pos) δ μ dv2 μ' := fun W H σ Q A k => by
  obtain ⟨t1, p1, e1⟩ := hl
  obtain ⟨t2, p2', e2⟩ := hh
  refine semE_of (pe_slice hr semE_pe p1 p2') ?_
  refine ha W H σ _ A fun W1 H1 v g1 A1 r1 => e1 W1 H1 σ _ A1 fun W2 H2 g2 A2 => e2 W2 H2 σ _ A2 fun W3 H3 g3 A3 => ?_
  exact h W3 H3 σ v Q A3 (r1.mono (g2.trans g3).le) fun W' H' u g A' r => k W' H' u (((g1.trans g2).trans g3).trans g) A' r
/-- the script's first ones -/
theorem Ev.sliceS {ds : List D} {lo hi : Option Expr} {m1 m2 : Option Int} {p2 : Pos} (ha : Ev X a δ μ (.dat (.scr ds)) μ1) (hl : Eo X lo δ μ1 m1 μ2) (hh : Eo X hi δ μ2 m2 μ3) : Ev X (.Subscript a (.Slice lo hi none p2) pos) δ μ (.dat (.lst (cutD ds m1 m2))) μ3 :=
  .slice sl_list ha hl hh fun W H σ v Q A r k => by
    cases (show Dq X.K W.G v (.scr ds) from r) with
    | scr h t =>
      refine ⟨_, _, rfl, A.st.ex.seq h, fun q hq => newLst A hq ?_ k⟩
      have z := Paired.cutD m1 m2 (DqA.rels t)
      have e : cutD (ds.map DV.dat) m1 m2 = (cutD ds m1 m2).map DV.dat := by
        unfold cutD
        rw [List.length_map, List.map_take, List.map_drop]
      rw [e] at z
      exact DqA.of z
theorem cutD_map {α β : Type} (f : α → β) (xs : List α) (lo hi : Option Int) : cutD (xs.map f) lo hi = (cutD xs lo hi).map f := by
  unfold cutD
  rw [List.length_map, List.map_take, List.map_drop]
theorem Ev.sliceT {ds : List D} {lo hi : Option Expr} {m1 m2 : Option Int} {p2 : Pos} (ha : Ev X a δ μ (.dat (.tup ds)) μ1) (hl : Eo X lo δ μ1 m1 μ2) (hh : Eo X hi δ μ2 m2 μ3) : Ev X (.Subscript a (.Slice lo hi none p2) pos) δ μ (.dat (.tup (cutD ds m1 m2))) μ3 :=
  .slice sl_tupA ha hl hh fun W H σ v Q A r k => by
    obtain ⟨al, vs, rfl, hh, t⟩ := tv_sq A.st r
    have el : vs.length = ds.length := by rw [← (DqA.rels t).len, List.length_map]
    refine ⟨al, vs, rfl, hh, fun ⟨w1, w2⟩ => ?_, fun _ q hq => newTup A hq ?_ k⟩
    · have e : cutD ds m1 m2 = ds := by
        unfold cutD
        rw [← el, w1, w2, el]
        simp
      rw [e] at k
      exact k W H _ .refl A r
    · have z := Paired.cutD m1 m2 (DqA.rels t)
      rw [cutD_map] at z
      exact DqA.of z
theorem DqA.app {K : PySem.W.Frag} {G : Hp} : ∀ {vs us : List V} {ds es : List D}, DqA K G vs ds → DqA K G us es → DqA K G (vs ++ us) (ds ++ es)
  | _, _, _, _, .nil, h => h
  | _, _, _, _, .cons r t, h => .cons r (DqA.app t h)
theorem OpS.catT {ds es : List D} (hl : ds.length + es.length ≤ 1000000) : OpS X (binaryOp .Add) (.dat (.tup ds)) (.dat (.tup es)) μ (.dat (.tup (ds ++ es))) μ :=
  ⟨_, op_catA, fun W H σ δ x y Q A rx ry k => by
    obtain ⟨al, vs, rfl, ha, ta⟩ := tv_sq A.st rx
    obtain ⟨bl, us, rfl, hb, tb⟩ := tv_sq A.st ry
    have e1 : vs.length = ds.length := by rw [← (DqA.rels ta).len, List.length_map]
    have e2 : us.length = es.length := by rw [← (DqA.rels tb).len, List.length_map]
    refine ⟨al, bl, vs, us, rfl, rfl, ha, hb, by rw [e1, e2, sizeLine_eq]; omega, fun z => ?_, fun _ z => ?_, fun _ _ q hq => newTup A hq (DqA.app ta tb) k⟩
    · have z' : ds = [] := List.eq_nil_of_length_eq_zero (by rw [← e1, z]; rfl)
      rw [z', List.nil_append] at k
      exact k W H _ .refl A ry
    · have z' : es = [] := List.eq_nil_of_length_eq_zero (by rw [← e2, z]; rfl)
      rw [z', List.append_nil] at k
      exact k W H _ .refl A rx⟩
theorem OpS.catL {xs ys : List D} {dw : DV} (h1 : LV μ dv (xs.map DV.dat)) (h2 : LV μ dw (ys.map DV.dat)) (hl : xs.length + ys.length ≤ 1000000) : OpS X (binaryOp .Add) dv dw μ (.dat (.lst (xs ++ ys))) μ :=
  ⟨_, op_cat, fun W H σ δ x y Q A rx ry k => by
    obtain ⟨al, vs, rfl, ha, ra⟩ := h1.sq A.st rx
    obtain ⟨bl, us, rfl, hb, rb⟩ := h2.sq A.st ry
    refine ⟨al, bl, vs, us, rfl, rfl, ha, hb, ?_, fun q hq => newLst A hq (DqA.app (DqA.of ra) (DqA.of rb)) k⟩
    rw [← ra.len, ← rb.len, List.length_map, List.length_map, sizeLine_eq]
    omega⟩
theorem DqA.rep {K : PySem.W.Frag} {G : Hp} {vs : List V} {ds : List D} (h : DqA K G vs ds) : ∀ m : Nat, DqA K G (List.replicate m vs).flatten (List.replicate m ds).flatten
  | 0 => .nil
  | m + 1 => by
    rw [List.replicate_succ, List.replicate_succ, List.flatten_cons, List.flatten_cons]
    exact DqA.app h (DqA.rep h m)
theorem OpS.repL {xs : List D} {m : Int} (h0 : 0 ≤ m) (hl : xs.length * m.toNat ≤ 1000000) (hm : m < 1000000) : OpS X (binaryOp .Mult) (.dat (.lst xs)) (.i m) μ (.dat (.lst (List.replicate m.toNat xs).flatten)) μ :=
  ⟨_, op_rep, fun W H σ δ x y Q A rx ry k => by
    obtain ⟨al, vs, rfl, ha, ra⟩ := LV.dt.sq A.st rx
    refine ⟨al, m, vs, rfl, ry.iv, ha, by omega, by omega, ?_, fun q hq => newLst A hq (DqA.rep (DqA.of ra) _) k⟩
    rw [← ra.len, List.length_map, sizeLine_eq]
    omega⟩
theorem flatV_ints (ns : List Int) : (ns.map V.int).all flatV = true := by
  induction ns with
  | nil => rfl
  | cons z zs ih => exact Bool.and_eq_true_iff.mpr ⟨rfl, ih⟩
/-- xs.index(y), ints -/
theorem Ev.index {ns : List Int} {m : Int} {q : Nat} {ap : Pos} (ho : Ev X a δ μ dv μ1) (he : Ev X e δ μ1 (.i m) μ2) (hv1 : LV μ1 dv (ns.map fun n => DV.i n)) (hv : LV μ2 dv (ns.map fun n => DV.i n)) (hq : ns[q]? = some m) (hn : ∀ r, r < q → ns[r]? ≠ some m)
    (hbase : attributeBase a "index" X.env (eval a X.env) = eval a X.env := by rfl)
    (hfew : ((backTo pos (starEach [e] X.env)).all (fun x => !x.1) && (backToKw pos (keywordEach [] X.env)).all (fun x => x.1.isSome)
      && decide ([e].length + ([] : List Keyword).length + (if ([] : List Keyword).isEmpty then 0 else 1) < 30)) = true := by rfl)
    (hline : (ap.endLine == pos.line) = true := by rfl) (hs : starEach [e] X.env = (false, eval e X.env) :: starEach [] X.env := by rfl) :
    Ev X (.Call (.Attribute a "index" ap) [e] [] pos) δ μ (.i (q : Int)) μ2 := fun W H σ Q A kk => by
  refine semE_of (pe_bm PySem.F.plainAttrs_list PySem.F.slot_list_index PySem.F.type_list_index mt_index semE_pe (pa_cons semE_pe pa_nil hs) hbase hfew hline hs) ?_
  refine ho W H σ _ A fun W1 H1 x g1 A1 r1 => ?_
  obtain ⟨al, vs, ex, hh, rl⟩ := hv1.sq A1.st r1
  subst ex
  refine ⟨.inl ⟨rfl, _, SqL.of hh⟩, he W1 H1 σ _ A1 fun W2 H2 y g2 A2 r2 => ?_⟩
  obtain ⟨bl, us, eb, hb, rb⟩ := hv.sq A2.st (r1.mono g2.le)
  cases eb
  rw [ints_dv] at rb
  have eu : us = ns.map V.int := DqA.ints (DqA.of rb)
  subst eu
  have fl : (ns.map V.int).all flatV = true := flatV_ints ns
  refine ⟨al, _, .int m, q, .int m, rfl, by rw [r2.iv], SqL.of hb, rfl, fl, by rw [List.getElem?_map, hq]; rfl, ?_, fun r z hr hz => ?_, kk W2 H2 _ (g1.trans g2) A2 (Dq.int _)⟩
  · show (m == m) = true
    exact beq_self_eq_true m
  · rw [List.getElem?_map] at hz
    obtain ⟨u, hu, eu⟩ := Option.map_eq_some_iff.mp hz
    subst eu
    show (u == m) = false
    exact beq_eq_false_iff_ne.mpr fun z => hn r hr (by rw [hu, z])
/-- list(range(n)) -/
theorem rgV_eq (m : Int) : rgV 0 m = ((List.range m.toNat).map fun (q : Nat) => (q : Int)).map V.int := by
  unfold rgV
  rw [List.map_map, Int.sub_zero]
  refine List.map_congr_left fun q _ => ?_
  show V.int (0 + (q : Int)) = V.int (q : Int)
  rw [Int.zero_add]
def rangeI (m : Int) : List Int := (List.range m.toNat).map fun (q : Nat) => (q : Int)
theorem Ev.listRg {m : Int} {rp : Pos} (hc : X.calm = true) (hm1 : X.mg "list" = none) (hm2 : X.mg "range" = none) (h : Ev X e δ μ (.i m) μ') (h0 : 0 ≤ m) (h1 : m < 1000000) (hg1 : Gl X "list" := by rfl) (hg2 : Gl X "range" := by rfl)
    (na : starEach [e] X.env = (false, eval e X.env) :: starEach [] X.env := by rfl) (na2 : starEach [.Call (.Name "range" rp) [e] [] p'] X.env = (false, eval (.Call (.Name "range" rp) [e] [] p') X.env) :: starEach [] X.env := by rfl) :
    Ev X (.Call (.Name "list" p) [.Call (.Name "range" rp) [e] [] p'] [] pos) δ μ (.dat (.lst ((rangeI m).map D.int))) μ' := fun W H σ Q A k => by
  refine semE_of (pe_listRg hc hg1 hm1 (prg_1 hg2 hm2 semE_pe na) na2) ?_
  refine h W H σ _ A fun W1 H1 v g1 A1 r1 => ⟨m, r1.iv, RgOk.of_le (Int.le_refl _) (by omega) (by omega) h0, fun q hq => ?_⟩
  rw [rgV_eq]
  exact newLst A1 hq (ints_dq _) fun W' H' u g A' r => k W' H' u (g1.trans g) A' r
theorem Ev.listRgO {m : Int} {rp : Pos} (hc : X.calm = true) (hm1 : X.mg "list" = none) (hm2 : X.mg "range" = none) (h : Ev X e δ μ (.i m) μ') (h0 : 0 ≤ m) (h1 : m < 1000000) (hg1 : Gl X "list" := by rfl) (hg2 : Gl X "range" := by rfl)
    (na : starEach [e] X.env = (false, eval e X.env) :: starEach [] X.env := by rfl) (na2 : starEach [.Call (.Name "range" rp) [e] [] p'] X.env = (false, eval (.Call (.Name "range" rp) [e] [] p') X.env) :: starEach [] X.env := by rfl) :
    Ev X (.Call (.Name "list" p) [.Call (.Name "range" rp) [e] [] p'] [] pos) δ μ (.own μ'.length) (μ' ++ [.lst ((rangeI m).map fun n => DV.i n)]) := fun W H σ Q A k => by
  refine semE_of (pe_listRg hc hg1 hm1 (prg_1 hg2 hm2 semE_pe na) na2) ?_
  refine h W H σ _ A fun W1 H1 v g1 A1 r1 => ⟨m, r1.iv, RgOk.of_le (Int.le_refl _) (by omega) (by omega) h0, fun q hq => ?_⟩
  rw [rgV_eq]
  refine newOwn A1 hq ?_ fun W' H' u g A' r => k W' H' u (g1.trans g) A' r
  have z := DqA.rels (W := W1) (ints_dq (K := X.K) (G := W1.G) (rangeI m))
  rw [← ints_dv] at z
  exact z
end
end Dt
set_option maxHeartbeats 2000000
/-! Comprehensions. -/
namespace Dt
open PySem PySem.Spec L2
open PyProof.Rows (envOfC)
theorem SlOk.wipe1 {K : PySem.W.Frag} {W : Wd} {σ : L2.St} {δ : Slots} (h : SlOk K W σ δ) {v : V} {x : DV} (r : Rel K W x v) (j : Nat) : SlOk K W ((L2.wipe σ [j]).set j (some v)) (δ.set j (some x)) := by
  have e : (L2.wipe σ [j]).set j (some v) = σ.set j (some v) := by
    show (σ.set j none).set j (some v) = _
    rw [List.set_set]
  rw [e]
  exact h.set r j
theorem wipe_back (σ : L2.St) (j : Nat) (v : V) : L2.wipe ((L2.wipe σ [j]).set j (some v)) [j] = L2.wipe σ [j] := by
  show ((σ.set j none).set j (some v)).set j none = σ.set j none
  rw [List.set_set, List.set_set]
/-- the block's context -/
abbrev bk (X : Cx) (s : Shared) (H : Hp) (scope : Scope) (cl : List (Str × Addr)) (C : Addr) (fp : List Addr) : Cx := X.blk s H scope (compEnvC scope cl C X.env) fp
def semI (X : Cx) (scope : Scope) : List Expr → TT
  | [] => tYes
  | c :: _ => fun σ H Q => ∀ s H0 cl C fp, semT (bk X s H0 scope cl C fp) c σ H Q
def semK (X : Cx) (scope : Scope) (e : Expr) : TE := fun σ H Q => ∀ s H0 cl C fp, semE (bk X s H0 scope cl C fp) e σ H Q
theorem semI_pts {X : Cx} {scope : Scope} {ifs : List Expr} (h : ifs.length ≤ 1) (s : Shared) (H : Hp) (C : Addr) (cl : List (Str × Addr)) (fp : List Addr) : PTs (X.blk s H scope (compEnvC scope cl C X.env) fp) ifs (semI X scope ifs) := by
  match ifs, h with
  | [], _ => exact pts_nil
  | [c], _ => exact pts_one ⟨fun pins s1 σ H1 Q I q => (q s H cl C fp).run pins s1 I⟩
theorem semK_pe {X : Cx} {scope : Scope} {e : Expr} (s : Shared) (H : Hp) (C : Addr) (cl : List (Str × Addr)) (fp : List Addr) : PE (X.blk s H scope (compEnvC scope cl C X.env) fp) e (semK X scope e) :=
  ⟨fun pins s1 σ H1 Q I q => (q s H cl C fp).run pins s1 I⟩
/-- the tests, the element in the block -/
def Ei (X : Cx) (scope : Scope) (ifs : List Expr) (δ : Slots) (μ : Store) (b : Bool) (μ' : Store) : Prop :=
  ∀ W H σ (Q : Bool → Hp → Prop), At X.K W H σ δ μ → (∀ W' H', Go W H μ W' H' μ' → At X.K W' H' σ δ μ' → Q b H') → semI X scope ifs σ H Q
def Ek (X : Cx) (scope : Scope) (e : Expr) (δ : Slots) (μ : Store) (dv : DV) (μ' : Store) : Prop :=
  ∀ W H σ (Q : VK), At X.K W H σ δ μ → (∀ W' H' v, Go W H μ W' H' μ' → At X.K W' H' σ δ μ' → Rel X.K W' dv v → Q v H') → semK X scope e σ H Q
/-- a fresh list, not yet told apart: frozen or a cell -/
def FreshL (X : Cx) (t : TE) (δ : Slots) (μ : Store) (ys : List DV) (μ' : Store) : Prop :=
  ∀ W H σ (Q : VK), At X.K W H σ δ μ → (∀ W' H' q acc, Go W H μ W' H' μ' → At X.K W' H' σ δ μ' → H' q = some (.lst acc) → Nq W H μ q → W'.G q = none → Off W' μ' q → Rels X.K W' ys acc → Q (.ref q) H') → t σ H Q
section
variable {X : Cx} {T : WX} {δ δ' δ1 δ2 : Slots} {μ μ' μ1 μ2 μ3 : Store} {e a b c : Expr} {es : List Expr} {st : Stmt} {sts rest : List Stmt} {dv dv1 dv2 : DV} {dvs : List DV} {pos p p' : Pos} {i j k n : Nat} {x : Str} {scope : Scope} {ifs : List Expr}
theorem Ei.nil : Ei X scope [] δ μ true μ := fun W H σ Q A k => k W H .refl A
theorem Ei.one {v : Bool} (h : ∀ s H0 cl C fp, Et (bk X s H0 scope cl C fp) c δ μ v μ') : Ei X scope [c] δ μ v μ' := fun W H σ Q A k s H0 cl C fp => h s H0 cl C fp W H σ Q A k
theorem Ek.of (h : ∀ s H0 cl C fp, Ev (bk X s H0 scope cl C fp) e δ μ dv μ') : Ek X scope e δ μ dv μ' := fun W H σ Q A k s H0 cl C fp => h s H0 cl C fp W H σ Q A k
/-- what stands beside becomes frozen -/
theorem adoptG {K : PySem.W.Frag} {W0 W : Wd} {H0 H : Hp} {μ0 : Store} {q : Addr} {u : HO} (g : Go W0 H0 μ0 W H μ) (S : StOk K W H μ) (h0 : Nq W0 H0 μ0 q) (hq : H q = some u) (gq : W.G q = none) (of : Off W μ q) :
    Go W0 H0 μ0 { W with G := upd W.G q u } H μ ∧ W.le { W with G := upd W.G q u } ∧ StOk K { W with G := upd W.G q u } H μ := by
  have le : W.le { W with G := upd W.G q u } := ⟨Nat.le_refl _, fun _ _ => rfl, fun b v e => by
    show upd W.G q u b = some v
    rw [upd_ne (ne_of_none e gq)]
    exact e⟩
  refine ⟨⟨g.le.trans le, fun a v e z f => ?_⟩, le, ⟨S.n, fun b v e => ?_, fun i c e => ?_, S.inj⟩⟩
  · obtain ⟨h1, h2, h3⟩ := g.fr a v e z f
    refine ⟨h1, ?_, h3⟩
    show upd W.G q u a = none
    have ne : a ≠ q := fun w => by
      subst w
      exact h0 v e z f
    rw [upd_ne ne]
    exact h2
  · have e' : upd W.G q u b = some v := e
    by_cases hb : b = q
    · rw [hb, upd_same] at e'
      rw [hb, ← e']
      exact hq
    · rw [upd_ne hb] at e'
      exact S.ex b v e'
  · by_cases z : c = .gone
    · subst z
      trivial
    · refine (S.cell i c e).stay le (S.lt e) (fun w => ?_) fun v w => w
      show upd W.G q u (W.A i) = none
      rw [upd_ne (of i c e z)]
      exact w
/-- .. or a cell -/
theorem adoptC {K : PySem.W.Frag} {W0 W : Wd} {H0 H : Hp} {μ0 : Store} {q : Addr} {cl : Cell} (g : Go W0 H0 μ0 W H μ) (S : StOk K W H μ) (h0 : Nq W0 H0 μ0 q) (of : Off W μ q) (hc : CellOk K (W.push q) H W.n cl) :
    Go W0 H0 μ0 (W.push q) H (μ ++ [cl]) ∧ StOk K (W.push q) H (μ ++ [cl]) := by
  have old : ∀ {k : Nat}, k < W.n → (W.push q).A k = W.A k := fun h => (W.push_le q).A _ h
  have at' : ∀ {k : Nat} {c' : Cell}, (μ ++ [cl])[k]? = some c' → (μ[k]? = some c' ∧ k < W.n) ∨ (k = W.n ∧ c' = cl) := fun {k c'} h => by
    by_cases hk : k < μ.length
    · rw [List.getElem?_append_left hk] at h
      exact .inl ⟨h, by rw [S.n]; exact hk⟩
    · have hk' := (List.getElem?_eq_some_iff.mp h).1
      rw [List.length_append, List.length_singleton] at hk'
      have e : k = μ.length := by omega
      subst e
      rw [List.getElem?_append_right (Nat.le_refl _), Nat.sub_self] at h
      exact .inr ⟨S.n.symm, (Option.some.inj h).symm⟩
  refine ⟨⟨g.le.trans (W.push_le q), fun a v e z f => ?_⟩, ⟨by show W.n + 1 = _; rw [List.length_append, List.length_singleton, S.n], S.ex, fun k c' h => ?_, fun i j ci cj hi hj ni nj e => ?_⟩⟩
  · obtain ⟨h1, h2, h3⟩ := g.fr a v e z f
    refine ⟨h1, h2, fun i ci ei zi => ?_⟩
    rcases at' ei with ⟨ei, li⟩ | ⟨ei, _⟩
    · rw [old li]
      exact h3 i ci ei zi
    · rw [ei, Wd.push_at]
      exact fun w => by
        subst w
        exact h0 v e z f
  · rcases at' h with ⟨h, hk⟩ | ⟨rfl, rfl⟩
    · exact (S.cell k c' h).stay (W.push_le q) hk (fun z => z) fun o z => z
    · exact hc
  · rcases at' hi with ⟨hi, li⟩ | ⟨ei, _⟩
    · rcases at' hj with ⟨hj, lj⟩ | ⟨ej, _⟩
      · rw [old li, old lj] at e
        exact S.inj i j ci cj hi hj ni nj e
      · rw [old li, ej, Wd.push_at] at e
        exact absurd e (of i ci hi ni)
    · rcases at' hj with ⟨hj, lj⟩ | ⟨ej, _⟩
      · rw [old lj, ei, Wd.push_at] at e
        exact absurd e.symm (of j cj hj nj)
      · rw [ei, ej]
theorem FreshL.frz {t : TE} {ds : List D} {W : Wd} {H : Hp} {σ : L2.St} {Q : VK} (h : FreshL X t δ μ (ds.map DV.dat) μ') (A : At X.K W H σ δ μ) (k : ∀ W' H' v, Go W H μ W' H' μ' → At X.K W' H' σ δ μ' → Rel X.K W' (.dat (.lst ds)) v → Q v H') : t σ H Q :=
  h W H σ Q A fun W' H' q acc g A' hq h0 gq of r => by
    obtain ⟨g2, le, s⟩ := adoptG g A'.st h0 hq gq of
    exact k _ _ _ g2 ⟨s, A'.sl.mono le⟩ (Dq.lst upd_same (DqA.of (r.mono le)))
theorem FreshL.cell {t : TE} {ys : List DV} {W : Wd} {H : Hp} {σ : L2.St} {Q : VK} (h : FreshL X t δ μ ys μ') (A : At X.K W H σ δ μ) (k : ∀ W' H' v, Go W H μ W' H' (μ' ++ [.lst ys]) → At X.K W' H' σ δ (μ' ++ [.lst ys]) → Rel X.K W' (.own μ'.length) v → Q v H') : t σ H Q :=
  h W H σ Q A fun W' H' q acc g A' hq h0 gq of r => by
    obtain ⟨g2, s⟩ := adoptC (cl := .lst ys) g A'.st h0 of ⟨by rw [Wd.push_at]; exact gq, acc, by rw [Wd.push_at]; exact hq, r.mono (W'.push_le q)⟩
    refine k _ _ _ g2 ⟨s, A'.sl.mono (W'.push_le q)⟩ ⟨by rw [← A'.st.n]; exact Nat.lt_succ_self _, ?_⟩
    rw [← A'.st.n, Wd.push_at]
/-- the turns of a comprehension -/
inductive Lc (R : DV → Store → Option DV → Store → Prop) : List DV → Store → List DV → Store → Prop
  | nil {μ : Store} : Lc R [] μ [] μ
  | keep {x y : DV} {xs ys : List DV} {μ μ1 μ2 : Store} : R x μ (some y) μ1 → Lc R xs μ1 ys μ2 → Lc R (x :: xs) μ (y :: ys) μ2
  | skip {x : DV} {xs ys : List DV} {μ μ1 μ2 : Store} : R x μ none μ1 → Lc R xs μ1 ys μ2 → Lc R (x :: xs) μ ys μ2
inductive El (X : Cx) (scope : Scope) (ifs : List Expr) (elt : Expr) (j : Nat) (δ : Slots) : DV → Store → Option DV → Store → Prop
  | yes {x y : DV} {μ μ1 μ2 : Store} : Ei X scope ifs (δ.set j (some x)) μ true μ1 → Ek X scope elt (δ.set j (some x)) μ1 y μ2 → El X scope ifs elt j δ x μ (some y) μ2
  | no {x : DV} {μ μ1 : Store} : Ei X scope ifs (δ.set j (some x)) μ false μ1 → El X scope ifs elt j δ x μ none μ1
/-- without tests -/
theorem El.go {elt : Expr} {dx : DV} (h : Ek X scope elt (δ.set j (some dx)) μ dv μ') : El X scope [] elt j δ dx μ (some dv) μ' := .yes .nil h
def LcAt (K : PySem.W.Frag) (W0 : Wd) (H0 : Hp) (μ0 : Store) (R : DV → Store → Option DV → Store → Prop) (xs ys : List DV) (μf : Store) (σ : L2.St) (δ : Slots) (q : Addr) (i : Nat) (H : Hp) : Prop :=
  ∃ W μ y1 y2 acc, Go W0 H0 μ0 W H μ ∧ At K W H σ δ μ ∧ H q = some (.lst acc) ∧ W.G q = none ∧ Off W μ q ∧ Rels K W y1 acc ∧ ys = y1 ++ y2 ∧ Lc R (xs.drop i) μ y2 μf
theorem lc_step {elt : Expr} {W0 : Wd} {H0 H : Hp} {μ0 μf : Store} {σ : L2.St} {xs ys : List DV} {q : Addr} {m : Nat} {dx : DV} {v : V} (hys : ys.length ≤ 1000000) (h0 : H0 q = none) (hx : xs[m]? = some dx) (rv : Rel X.K W0 dx v)
    (h : LcAt X.K W0 H0 μ0 (El X scope ifs elt j δ) xs ys μf σ δ q m H) :
    gName j v (L2.wipe σ [j]) H fun σ2 H2 => L2.wipe σ2 [j] = L2.wipe σ [j] ∧ semI X scope ifs σ2 H2 fun b H3 =>
      if b = true then semK X scope elt σ2 H3 fun y H4 => ∃ acc, H4 q = some (.lst acc) ∧ acc.length < sizeLine ∧ LcAt X.K W0 H0 μ0 (El X scope ifs elt j δ) xs ys μf σ δ q (m + 1) (upd H4 q (.lst (acc ++ [y])))
      else LcAt X.K W0 H0 μ0 (El X scope ifs elt j δ) xs ys μf σ δ q (m + 1) H3 := by
  obtain ⟨W, μ, y1, y2, acc, g0, A, hq, gq, of, ra, ey, it⟩ := h
  rw [drop_cons hx] at it
  have A' : At X.K W H ((L2.wipe σ [j]).set j (some v)) (δ.set j (some dx)) μ := ⟨A.st, A.sl.wipe1 (rv.mono g0.le) j⟩
  refine ⟨wipe_back σ j v, ?_⟩
  cases it with
  | @keep _ y _ ys' _ μ1 _ h1 h2 =>
    cases h1 with
    | yes hi he =>
      refine hi W H _ _ A' fun W1 H1 g1 A1 => iteT (he W1 H1 _ _ A1 fun W2 H2 u g2 A2 r2 => ?_)
      have g12 := g1.trans g2
      obtain ⟨hq2, gq2, of2⟩ := g12.fr q _ hq gq of
      refine ⟨acc, hq2, ?_, W2, μ1, y1 ++ [y], ys', acc ++ [u], ⟨(g0.trans g12).le, fun w o e z f => ?_⟩, ⟨A2.st.beside gq2 of2, A.sl.mono g12.le⟩, upd_same, gq2, of2, Paired.app (Rels.mono g12.le ra) (.cons r2 .nil), ?_, h2⟩
      · rw [← ra.len]
        have l : ys.length = y1.length + (y :: ys').length := by rw [ey, List.length_append]
        rw [List.length_cons] at l
        rw [sizeLine_eq]
        omega
      · obtain ⟨w1, w2, w3⟩ := (g0.trans g12).fr w o e z f
        exact ⟨by rw [upd_ne (ne_of_none e h0)]; exact w1, w2, w3⟩
      · rw [ey, List.append_assoc]
        rfl
  | skip h1 h2 =>
    cases h1 with
    | no hi =>
      refine hi W H _ _ A' fun W1 H1 g1 A1 => iteF ?_
      obtain ⟨hq2, gq2, of2⟩ := g1.fr q _ hq gq of
      exact ⟨W1, _, y1, y2, acc, g0.trans g1, ⟨A1.st, A.sl.mono g1.le⟩, hq2, gq2, of2, Rels.mono g1.le ra, ey, h2⟩
theorem lc_start {W0 : Wd} {H0 : Hp} {μ0 μf : Store} {σ : L2.St} {R : DV → Store → Option DV → Store → Prop} {xs ys : List DV} {q : Addr} (A : At X.K W0 H0 σ δ μ0) (h0 : H0 q = none) (it : Lc R xs μ0 ys μf) : LcAt X.K W0 H0 μ0 R xs ys μf σ δ q 0 (upd H0 q (.lst [])) := by
  have gq : W0.G q = none := A.st.ex.free h0
  have of := Off.fresh A.st h0
  exact ⟨W0, μ0, [], ys, [], ⟨Wd.le.rfl', fun w o e z f => ⟨by rw [upd_ne (ne_of_none e h0)]; exact e, z, f⟩⟩, ⟨A.st.beside gq of, A.sl⟩, upd_same, gq, of, .nil, rfl, it⟩
theorem lc_fin {W0 : Wd} {H0 H : Hp} {μ0 μf : Store} {σ : L2.St} {R : DV → Store → Option DV → Store → Prop} {xs ys : List DV} {q : Addr} {Q : VK} (h0 : H0 q = none) (h : LcAt X.K W0 H0 μ0 R xs ys μf σ δ q xs.length H)
    (k : ∀ W' H' q acc, Go W0 H0 μ0 W' H' μf → At X.K W' H' σ δ μf → H' q = some (.lst acc) → Nq W0 H0 μ0 q → W'.G q = none → Off W' μf q → Rels X.K W' ys acc → Q (.ref q) H') : Q (.ref q) H := by
  obtain ⟨W, μ, y1, y2, acc, g0, A, hq, gq, of, ra, ey, it⟩ := h
  rw [List.drop_length] at it
  cases it
  rw [List.append_nil] at ey
  subst ey
  exact k W H q acc g0 A hq (.none h0) gq of ra
/-- over a list, a tuple, a range -/
theorem lcL {elt : Expr} {ds : List D} {ys : List DV} {μf : Store} (h : Ev X e δ μ (.dat (.lst ds)) μ1) (it : Lc (El X scope ifs elt j δ) (ds.map DV.dat) μ1 ys μf) (hys : ys.length ≤ 1000000) :
    FreshL X (tLc (iList X.K (semE X e)) (gName j) (semI X scope ifs) (semK X scope elt) [j]) δ μ ys μf := fun W H σ Q A k => by
  refine h W H σ _ A fun W1 H1 v g1 A1 r1 => ?_
  cases (show Dq X.K W1.G v (.lst ds) from r1) with
  | lst hq hd =>
    rename_i al vs
    refine ⟨al, rfl, ⟨_, SqL.of (A1.st.ex _ _ hq)⟩, fun q h0 => lc_list (K := X.K) (xs := vs) (LcAt X.K W1 H1 μ1 (El X scope ifs elt j δ) (ds.map DV.dat) ys μf σ δ q) (lc_start A1 h0 it) ?_ ?_ ?_⟩
    · rintro i H' _ ⟨W', _, _, _, _, g', A', _⟩
      exact SqL.of (A'.st.ex _ _ (g'.le.G _ _ hq))
    · intro i u H' hu hI
      obtain ⟨d, hd', rd⟩ := Rels.atL hd hu
      exact lc_step hys h0 hd' rd hI
    · intro H' hI
      have el : vs.length = (ds.map DV.dat).length := (DqA.rels hd).len.symm
      rw [el] at hI
      exact lc_fin h0 hI fun W' H' q acc g A' hq h0 gq of r => k W' H' q acc (g1.trans g) A' hq (h0.back g1) gq of r
theorem lcT {elt : Expr} {ds : List D} {ys : List DV} {μf : Store} (h : Ev X e δ μ (.dat (.tup ds)) μ1) (it : Lc (El X scope ifs elt j δ) (ds.map DV.dat) μ1 ys μf) (hys : ys.length ≤ 1000000) :
    FreshL X (tLc (iTup X.K (semE X e)) (gName j) (semI X scope ifs) (semK X scope elt) [j]) δ μ ys μf := fun W H σ Q A k => by
  refine h W H σ _ A fun W1 H1 v g1 A1 r1 => ?_
  cases (show Dq X.K W1.G v (.tup ds) from r1) with
  | tup hq hd =>
    rename_i al vs
    refine ⟨al, rfl, ⟨_, Same.tseq A1.st.ex hq⟩, fun q h0 => lc_tup (K := X.K) (xs := vs) (LcAt X.K W1 H1 μ1 (El X scope ifs elt j δ) (ds.map DV.dat) ys μf σ δ q) (lc_start A1 h0 it) ?_ ?_ ?_⟩
    · rintro i H' _ ⟨W', _, _, _, _, g', A', _⟩
      exact Same.tseq A'.st.ex (Same.tseq g'.le.G hq)
    · intro i u H' hu hI
      obtain ⟨d, hd', rd⟩ := Rels.atL hd hu
      exact lc_step hys h0 hd' rd hI
    · intro H' hI
      have el : vs.length = (ds.map DV.dat).length := (DqA.rels hd).len.symm
      rw [el] at hI
      exact lc_fin h0 hI fun W' H' q acc g A' hq h0 gq of r => k W' H' q acc (g1.trans g) A' hq (h0.back g1) gq of r
theorem lcR {elt : Expr} {m : Int} {ys : List DV} {μf : Store} (h : Ev X e δ μ (.i m) μ1) (hm : m < 1000000) (hm0 : -1000000 < m) (it : Lc (El X scope ifs elt j δ) (upto 0 m.toNat) μ1 ys μf) (hys : ys.length ≤ 1000000) :
    FreshL X (tLc (iRng1 (tCons (semE X e) tNil)) (gName j) (semI X scope ifs) (semK X scope elt) [j]) δ μ ys μf := fun W H σ Q A k => by
  refine h W H σ _ A fun W1 H1 v g1 A1 r1 => ?_
  refine ⟨m, by rw [r1.iv], by omega, by omega, fun q h0 => lc_range (lo := 0) (n := m.toNat) (LcAt X.K W1 H1 μ1 (El X scope ifs elt j δ) (upto 0 m.toNat) ys μf σ δ q) (lc_start A1 h0 it) ?_ ?_⟩
  · intro i H' hi hI
    exact lc_step hys h0 (upto_at hi) (Dq.int _) hI
  · intro H' hI
    exact lc_fin h0 (xs := upto 0 m.toNat) (by rw [upto_len]; exact hI) fun W' H' q acc g A' hq h0 gq of r => k W' H' q acc (g1.trans g) A' hq (h0.back g1) gq of r
/-! ### the expression, the statement; frozen, a cell -/
abbrev TgOk (X : Cx) (scope : Scope) (tg : Expr) (g : TG) : Prop := ∀ (s : Shared) (H : Hp) (C : Addr) (cl : List (Str × Addr)) (fp : List Addr), PG (X.blk s H scope (compEnvC scope cl C X.env) fp) tg g
theorem Ev.lcOf {iter elt tg : Expr} {wi : TI} {ds : List D} {μf : Store} (hc : X.calm = true) (nd : X.N.Nodup) (hi : PI X tg iter wi) (ok : BlkOk X.N X.env.scope scope [(x, j)]) (hg : TgOk X scope tg (gName j)) (h1 : ifs.length ≤ 1)
    (hf : FreshL X (tLc wi (gName j) (semI X scope ifs) (semK X scope elt) [j]) δ μ (ds.map DV.dat) μf) (hs : ∀ y, foldedSetIterable iter X.env y = pure y := by intro _; rfl) : Ev X (.ListComp elt [⟨tg, iter, ifs, 0⟩] scope pos) δ μ (.dat (.lst ds)) μf := fun W H σ Q A k =>
  semE_of (pe_lc hc nd hi ok hg (semI_pts h1) semK_pe hs) (hf.frz A k)
theorem Ev.lcOwn {iter elt tg : Expr} {wi : TI} {ys : List DV} {μf : Store} (hc : X.calm = true) (nd : X.N.Nodup) (hi : PI X tg iter wi) (ok : BlkOk X.N X.env.scope scope [(x, j)]) (hg : TgOk X scope tg (gName j)) (h1 : ifs.length ≤ 1)
    (hf : FreshL X (tLc wi (gName j) (semI X scope ifs) (semK X scope elt) [j]) δ μ ys μf) (hs : ∀ y, foldedSetIterable iter X.env y = pure y := by intro _; rfl) : Ev X (.ListComp elt [⟨tg, iter, ifs, 0⟩] scope pos) δ μ (.own μf.length) (μf ++ [.lst ys]) := fun W H σ Q A k =>
  semE_of (pe_lc hc nd hi ok hg (semI_pts h1) semK_pe hs) (hf.cell A k)
theorem Xs.lcOf (i : Nat) {iter elt tg : Expr} {wi : TI} {ds : List D} {μf : Store} {y : Str} {py : Pos} (hc : X.calm = true) (nd : X.N.Nodup) (hi : PI X tg iter wi) (ok : BlkOk X.N X.env.scope scope [(x, j)]) (hg : TgOk X scope tg (gName j)) (h1 : ifs.length ≤ 1)
    (hf : FreshL X (tLc wi (gName j) (semI X scope ifs) (semK X scope elt) [j]) δ μ (ds.map DV.dat) μf) (hy : X.N[i]? = some y := by rfl) (hyl : X.env.scope.names.lookup y = some .local := by rfl)
    (hsw : swapsWith (.ListComp elt [⟨tg, iter, ifs, 0⟩] scope p) (some (.Name y py)) pos.line X.env = pure true := by exact sw_true rfl rfl rfl (by decide +kernel)) (hs : ∀ y, foldedSetIterable iter X.env y = pure y := by intro _; rfl) :
    Xs X T (.Assign [.Name y py] (.ListComp elt [⟨tg, iter, ifs, 0⟩] scope p) pos) δ μ (.nx (δ.set i (some (.dat (.lst ds)))) μf) := fun W H σ D A P =>
  semS_of (ps_setLc hc nd hy hyl hsw hi ok hg (semI_pts h1) semK_pe hs) (hf.frz (Q := fun v H' => gName i v σ H' D.nx) A fun W' H' v g A' r => P W' H' _ g ⟨A'.st, A'.sl.set r i⟩)
theorem Xs.lcOwn (i : Nat) {iter elt tg : Expr} {wi : TI} {ys : List DV} {μf : Store} {y : Str} {py : Pos} (hc : X.calm = true) (nd : X.N.Nodup) (hi : PI X tg iter wi) (ok : BlkOk X.N X.env.scope scope [(x, j)]) (hg : TgOk X scope tg (gName j)) (h1 : ifs.length ≤ 1)
    (hf : FreshL X (tLc wi (gName j) (semI X scope ifs) (semK X scope elt) [j]) δ μ ys μf) (hy : X.N[i]? = some y := by rfl) (hyl : X.env.scope.names.lookup y = some .local := by rfl)
    (hsw : swapsWith (.ListComp elt [⟨tg, iter, ifs, 0⟩] scope p) (some (.Name y py)) pos.line X.env = pure true := by exact sw_true rfl rfl rfl (by decide +kernel)) (hs : ∀ y, foldedSetIterable iter X.env y = pure y := by intro _; rfl) :
    Xs X T (.Assign [.Name y py] (.ListComp elt [⟨tg, iter, ifs, 0⟩] scope p) pos) δ μ (.nx (δ.set i (some (.own μf.length))) (μf ++ [.lst ys])) := fun W H σ D A P =>
  semS_of (ps_setLc hc nd hy hyl hsw hi ok hg (semI_pts h1) semK_pe hs) (hf.cell (Q := fun v H' => gName i v σ H' D.nx) A fun W' H' v g A' r => P W' H' _ g ⟨A'.st, A'.sl.set r i⟩)
/-- a pure comprehension over items: each gives f of it -/
theorem Lc.map {R : DV → Store → Option DV → Store → Prop} {f : DV → DV} : ∀ {xs : List DV}, (∀ x ∈ xs, R x μ (some (f x)) μ) → Lc R xs μ (xs.map f) μ
  | [], _ => .nil
  | x :: xs, h => .keep (h x List.mem_cons_self) (Lc.map fun y hy => h y (List.mem_cons_of_mem _ hy))
theorem Lc.mapD {α : Type} {R : DV → Store → Option DV → Store → Prop} {f : α → DV} {g : α → DV} : ∀ {xs : List α}, (∀ x ∈ xs, R (f x) μ (some (g x)) μ) → Lc R (xs.map f) μ (xs.map g) μ
  | [], _ => .nil
  | x :: xs, h => .keep (h x List.mem_cons_self) (Lc.mapD fun y hy => h y (List.mem_cons_of_mem _ hy))
end
end Dt
set_option maxHeartbeats 2000000
/-! Dict comprehensions over enumerate, loops over enumerate; what is raised; what is caught. -/
namespace Dt
open PySem PySem.Spec L2
open PyProof.Rows (envOfC)
def wipeD (δ : Slots) : List Nat → Slots
  | [] => δ
  | v :: vs => (wipeD δ vs).set v none
theorem SlOk.wipeS {K : PySem.W.Frag} {W : Wd} {σ : L2.St} {δ : Slots} (h : SlOk K W σ δ) : ∀ vs : List Nat, SlOk K W (L2.wipe σ vs) (wipeD δ vs)
  | [] => h
  | v :: vs => (SlOk.wipeS h vs).setNone v
theorem wipe_two {σ : L2.St} {i j : Nat} (h : i ≠ j) (x y : Option V) : L2.wipe (((L2.wipe σ [i, j]).set i x).set j y) [i, j] = L2.wipe σ [i, j] := by
  show (((((σ.set j none).set i none).set i x).set j y).set j none).set i none = (σ.set j none).set i none
  rw [List.set_set, List.set_set, List.set_comm _ _ h, List.set_set, List.set_set]
section
variable {X : Cx} {T : WX} {δ δ' δ1 δ2 : Slots} {μ μ' μ1 μ2 μ3 : Store} {e a b c : Expr} {es : List Expr} {st : Stmt} {sts rest : List Stmt} {o : Out} {dv dv1 dv2 : DV} {dvs : List DV} {pos p p' : Pos} {i j k n : Nat} {x y : Str} {scope : Scope} {ifs : List Expr}
/-- the slots of a turn of enumerate in a block -/
def enSl (i j : Nat) (δ : Slots) (m : Nat) (x : DV) : Slots := ((wipeD δ [i, j]).set i (some (.i (m : Int)))).set j (some x)
/-- the turns of {k: v for i, x in enumerate(xs)}, pure: each gives a key and a value -/
structure DcT (X : Cx) (scope : Scope) (kx vx : Expr) (i j : Nat) (δ : Slots) (μ : Store) (ds : List D) (kvs : List (Key × DV)) : Prop where
  len : kvs.length = ds.length
  turn : ∀ m d q, ds[m]? = some d → kvs[m]? = some q → Ek X scope kx (enSl i j δ m (.dat d)) μ (.dat (keyD q.1)) μ ∧ Ek X scope vx (enSl i j δ m (.dat d)) μ q.2 μ
def putsD (kvs : List (Key × DV)) : List (Key × DV) := kvs.foldl (fun acc q => putD acc q.1 q.2) []
theorem putD_len (kvs : List (Key × DV)) (q : Key) (v : DV) : (putD kvs q v).length ≤ kvs.length + 1 := by
  unfold putD
  split
  · rw [List.length_map]; omega
  · rw [List.length_append, List.length_singleton]; omega
theorem puts_len (more kvs : List (Key × DV)) : (more.foldl (fun acc q => putD acc q.1 q.2) kvs).length ≤ kvs.length + more.length := by
  induction more generalizing kvs with
  | nil => exact Nat.le_refl _
  | cons q more ih =>
    have h1 := ih (putD kvs q.1 q.2)
    have h2 := putD_len kvs q.1 q.2
    rw [List.foldl_cons, List.length_cons]
    omega
theorem take_succ_of {α : Type} {l : List α} {m : Nat} {x : α} (h : l[m]? = some x) : l.take (m + 1) = l.take m ++ [x] := by
  rw [List.take_add_one, h]
  rfl
def DcAt (K : PySem.W.Frag) (W0 : Wd) (H0 : Hp) (μ0 : Store) (kvs : List (Key × DV)) (σ : L2.St) (δ : Slots) (q : Addr) (m : Nat) (H : Hp) : Prop :=
  ∃ W ws, Go W0 H0 μ0 W H μ0 ∧ At K W H σ δ μ0 ∧ H q = some (.dK ws) ∧ W.G q = none ∧ Off W μ0 q ∧ RelK K W (putsD (kvs.take m)) ws
theorem Go.sides {W : Wd} {H H' : Hp} {μ : Store} (e : Same H H') : Go W H μ W H' μ := ⟨Wd.le.rfl', fun w u z g f => ⟨e _ _ z, g, f⟩⟩
/-- {k: v for i, x in enumerate(xs)} as an own cell -/
theorem Ev.dcEn {kx vx : Expr} {ds : List D} {kvs : List (Key × DV)} {ep tp pi pj : Pos} {kk : Nat} (hc : X.calm = true) (nd : X.N.Nodup) (hm : X.mg "enumerate" = none) (hij : i ≠ j) (h : Ev X e δ μ (.dat (.lst ds)) μ1) (hl : ds.length ≤ 100000)
    (ok : BlkOk X.N X.env.scope scope [(x, i), (y, j)]) (t : DcT X scope kx vx i j δ μ1 ds kvs)
    (hti : ∀ (s : Shared) (H : Hp) (C : Addr) (cl : List (Str × Addr)) (fp : List Addr), PG (X.blk s H scope (compEnvC scope cl C X.env) fp) (.Tuple [.Name x pi, .Name y pj] kk tp) (gTup X.K 2 (gCons (gName i) (gCons (gName j) gNil))))
    (hg : Gl X "enumerate" := by rfl) (hst : starEach [e] X.env = [(false, eval e X.env)] := by rfl)
    (hs : ∀ z, foldedSetIterable (.Call (.Name "enumerate" p') [e] [] ep) X.env z = pure z := by intro _; rfl) :
    Ev X (.DictComp kx vx [⟨.Tuple [.Name x pi, .Name y pj] kk tp, .Call (.Name "enumerate" p') [e] [] ep, [], 0⟩] scope pos) δ μ (.own μ1.length) (μ1 ++ [.dK (putsD kvs)]) := fun W H σ Q A k => by
  refine semE_of (pe_dc hc nd (pi_enum hg hm (pa_cons semE_pe pa_nil hst) hst) ok hti (fun _ _ _ _ _ => pts_nil) (semK_pe (e := kx)) (semK_pe (e := vx)) hs) ?_
  refine h W H σ _ A fun W1 H1 v g1 A1 r1 => ?_
  cases (show Dq X.K W1.G v (.lst ds) from r1) with
  | lst hq hd =>
    rename_i al vs
    refine ⟨al, vs, rfl, SqL.of (A1.st.ex _ _ hq), fun q h0 => ?_⟩
    have ev : vs.length = ds.length := by rw [← (DqA.rels hd).len, List.length_map]
    have stays : ∀ {m : Nat} {H' : Hp}, DcAt X.K W1 H1 μ1 kvs σ δ q m H' → H' al = some (.lst vs) := fun ⟨W', _, g', A', _⟩ => A'.st.ex _ _ (g'.le.G _ _ hq)
    have gq : W1.G q = none := A1.st.ex.free h0
    have of := Off.fresh A1.st h0
    have start : DcAt X.K W1 H1 μ1 kvs σ δ q 0 (upd H1 q (.dK [])) := ⟨W1, [], ⟨Wd.le.rfl', fun w o e z f => ⟨by rw [upd_ne (ne_of_none e h0)]; exact e, z, f⟩⟩, ⟨A1.st.beside gq of, A1.sl⟩, upd_same, gq, of, .nil⟩
    refine ⟨fun m z H' => z = ds.length - m ∧ m ≤ ds.length ∧ DcAt X.K W1 H1 μ1 kvs σ δ q m H', ⟨_, rfl, Nat.zero_le _, start⟩, ?_⟩
    rintro m z H' ⟨rfl, hm', hI⟩
    by_cases hlt : m < ds.length
    · refine .inr ⟨⟨vs, vs[m], SqL.of (stays hI), by simp [ev, hlt]⟩, fun H' => DcAt X.K W1 H1 μ1 kvs σ δ q (m + 1) H', fun H2 h2 => ⟨_, by omega, rfl, hlt, h2⟩, ?_⟩
      rintro xv H2 ⟨Tn, u, rfl, hT, rfl, hu⟩
      have hu' := hu vs (SqL.of (stays hI))
      obtain ⟨W', ws, g', A', hws, gq', of', rl⟩ := hI
      have sm : Same H' (upd H' Tn (.tup [.int (m : Nat), u])) := fun w o z => by rw [upd_ne (ne_of_none z hT)]; exact z
      have A2 : At X.K W' (upd H' Tn (.tup [.int (m : Nat), u])) σ δ μ1 := ⟨A'.st.grow sm, A'.sl⟩
      obtain ⟨d, hd', rd⟩ := Rels.atL hd hu'
      have hdm : ds[m]? = some d := by
        rw [List.getElem?_map] at hd'
        obtain ⟨d0, e0, e1⟩ := Option.map_eq_some_iff.mp hd'
        cases e1
        exact e0
      have hkl : m < kvs.length := by rw [t.len]; exact hlt
      obtain ⟨t1, t2⟩ := t.turn m d kvs[m] hdm (List.getElem?_eq_getElem hkl)
      refine ⟨Tn, _, rfl, SqT.of upd_same, rfl, _, _, rfl, _, _, rfl, rfl, ?_⟩
      have A3 : At X.K W' (upd H' Tn (.tup [.int (m : Nat), u])) (((L2.wipe σ [i, j]).set i (some (.int (m : Nat)))).set j (some u)) (enSl i j δ m (.dat d)) μ1 :=
        ⟨A2.st, ((A2.sl.wipeS [i, j]).set (dv := .i (m : Int)) (Dq.int _) i).set (rd.mono g'.le) j⟩
      refine ⟨wipe_two hij _ _, ?_⟩
      refine t1 W' _ _ _ A3 fun W4 H4 kv g4 A4 r4 => t2 W4 H4 _ _ A4 fun W5 H5 vv g5 A5 r5 => ?_
      have gg := (Go.sides (W := W') (μ := μ1) sm).trans (g4.trans g5)
      obtain ⟨hq5, gq5, of5⟩ := gg.fr q _ hws gq' of'
      refine ⟨ws, kvs[m].1, key_rel r4, hq5, ?_, W5, _, ⟨(g'.trans gg).le, fun w o e z f => ?_⟩, ⟨A5.st.beside gq5 of5, A'.sl.mono gg.le⟩, upd_same, gq5, of5, ?_⟩
      · rw [← Paired.length rl]
        have h1 := puts_len (kvs.take m) []
        have h2 : (kvs.take m).length ≤ m := by rw [List.length_take]; omega
        have h3 : (putsD (kvs.take m)).length ≤ m := by
          unfold putsD
          simp only [List.length_nil] at h1
          omega
        rw [sizeLine_eq]
        omega
      · obtain ⟨w1, w2, w3⟩ := (g'.trans gg).fr w o e z f
        exact ⟨by rw [upd_ne (ne_of_none e h0)]; exact w1, w2, w3⟩
      · have et : putsD (kvs.take (m + 1)) = putD (putsD (kvs.take m)) kvs[m].1 kvs[m].2 := by
          unfold putsD
          rw [take_succ_of (List.getElem?_eq_getElem hkl), List.foldl_append]
          rfl
        rw [et]
        exact putD_rel r5 (RelK.mono gg.le rl)
    · have em : m = ds.length := by omega
      subst em
      refine .inl ⟨⟨vs, SqL.of (stays hI), by omega⟩, ?_⟩
      obtain ⟨W', ws, g', A', hws, gq', of', rl⟩ := hI
      have ek : kvs.take ds.length = kvs := by rw [← t.len]; exact List.take_length
      rw [ek] at rl
      obtain ⟨g2, s⟩ := adoptC (cl := .dK (putsD kvs)) (g1.trans g') A'.st ((Nq.none h0).back g1) of' ⟨by rw [Wd.push_at]; exact gq', ws, by rw [Wd.push_at]; exact hws, RelK.mono (W'.push_le q) rl⟩
      refine k _ _ _ g2 ⟨s, A'.sl.mono (W'.push_le q)⟩ ⟨by rw [← A'.st.n]; exact Nat.lt_succ_self _, ?_⟩
      rw [← A'.st.n, Wd.push_at]
/-! ### an own exception with one field, raised -/
def spXI (C : Addr) (f : Str) : Sp := fun vs H Q _ => ∃ (w : Addr) (v : V), vs = [.ref w, v] ∧ H w = some (exo w C none) ∧ ∀ d, H d = none → d ≠ w → Q .non (upd (upd H d (exd d [(f, v)])) w (exo w C (some d)))
theorem ok_xinit {P : Program} {w : World} {K : PySem.W.Frag} {mg : Str → Option Value} {base : Heap} {q f : Str} {st : Stmt} {fI C : Addr} {fd : FuncData} {p1 p2 p3 p4 : Pos} (F : Fun K "__init__" q st fI fd) (S : FnScope ["self", f] ["self", f] (defScope st))
    (hb : defBody st = [.Assign [.Attribute (.Name "self" p1) f p2] (.Name f p3) p4]) (hd : (f == ("__debug__" : Str)) = false) (hcd : (f == ("__classdict__" : Str)) = false) (h0 : Vis (defScope st) "self") (h1 : Vis (defScope st) f)
    (TC : OexC K C) (no : PySem.W.findIn K (.ref C) f = some none) : FnOk P w K mg base CX0 1 fI fd ["self", f] (spXI C f) := by
  refine F.ok S (fun vs H Q E h => ?_) (fun cdv A outer s H vs Q E hr h => ?_)
  · obtain ⟨_, _, rfl, _⟩ := h
    rfl
  · obtain ⟨w', v, rfl, hw, kq⟩ := h
    rw [hb]
    refine ⟨_, pss_one (ps_ost (pe_var (i := 0) rfl h0) (pe_var (i := 1) rfl h1 hd hcd) rfl), ?_⟩
    exact ⟨v, rfl, .ref w', rfl, w', C, rfl, TC, no, .inl ⟨hw, fun dx hdx ne => kq dx hdx ne⟩⟩
/-- what is known of such a class -/
structure ExC (P : Program) (w : World) (K : PySem.W.Frag) (mg : Str → Option Value) (base : Heap) (x : Str) (C : Addr) (f : Str) : Prop where
  oex : OexC K C
  mg_ : mg x = some (.ref C)
  ini : ∃ fI fd, PySem.W.findIn K (.ref C) "__init__" = some (some (.ref fI)) ∧ PySem.W.typeIn K (.ref fI) = some (.type "function") ∧ FnOk P w K mg base CX0 1 fI fd ["self", f] (spXI C f) ∧ Binds K fd ["self", f] []
theorem Xs.raise {C : Addr} {f : Str} {p2 : Pos} (tk : L2N.Takes X T) (hc : X.calm = true) (E : ExC X.prog X.w X.K X.mg X.base x C f) (hr : Room 2 X.A) (he : Ev X e δ μ dv μ1) (hg : Gl X x := by rfl) (hdb : (x == ("__debug__" : Str)) = false := by decide)
    (hst : starEach [e] X.env = (false, eval e X.env) :: starEach [] X.env := by rfl) : Xs X T (.Raise (some (.Call (.Name x p) [e] [] p2)) none pos) δ μ (.ex C [(f, dv)] δ μ1) := fun W H σ D A P => by
  obtain ⟨fI, fd, h1, h2, F, hb⟩ := E.ini
  refine semS_of (L2N.ps_raise hc tk (pmk_oexN E.oex h1 h2 F hr hb .nil pass0 hg E.mg_ (pa_cons semE_pe pa_nil hst) hdb hst)) ?_
  refine he W H σ _ A fun W1 H1 v g1 A1 r1 => ⟨by show 1 ≤ 1000; decide, fun w hw => ?_⟩
  refine ⟨w, v, rfl, upd_same, fun d hd ne => ⟨rfl, d, [(f, v)], upd_same, by rw [upd_ne ne, upd_same], ?_, ?_⟩⟩
  · rw [upd_ne ne] at hd
    exact hd
  · have hd1 : H1 d = none := by
      rw [upd_ne ne] at hd
      exact hd
    have eH : upd (L2.del (upd (upd (upd H1 w (exo w C none)) d (exd d [(f, v)])) w (exo w C (some d))) w) d (.xd [(f, v)]) = upd H1 d (.xd [(f, v)]) := by
      funext z
      by_cases zd : z = d
      · rw [zd, upd_same, upd_same]
      · rw [upd_ne zd, upd_ne zd]
        by_cases zw : z = w
        · rw [zw, del_same, hw]
        · rw [del_ne zw, upd_ne zw, upd_ne zd, upd_ne zw]
    rw [eH]
    have sm : Same H1 (upd H1 d (.xd [(f, v)])) := fun z o e => by rw [upd_ne (ne_of_none e hd1)]; exact e
    exact P W1 _ σ d (g1.trans (Go.sides sm)) ⟨A1.st.grow sm, A1.sl⟩ ⟨⟨_, upd_same, .cons ⟨rfl, r1⟩ .nil⟩, A1.st.ex.free hd1, Off.fresh A1.st hd1⟩ ((Nq.none hd1).back g1)
end
end Dt
set_option maxHeartbeats 4000000
/-! try with several clauses that name the exception; repr; defs that are called where nothing is being shown. -/
namespace L2
open PySem PySem.Spec PyProof.Rows
/-- several clauses 'except x as n', one after the other -/
def wManyAs (K : PySem.W.Frag) (Wout : WX) (D : Ends) : List (Value × Nat × (Addr → Value → Option Addr → TS)) → WX
  | [] => Wout
  | (c, i, ts) :: r => fun cls d σ H => ∃ b, PySem.W.exmOne K cls c = some b ∧
      (b = true → ∀ a, H a = none → ts a cls d { nx := fun σ' H' => D.nx (σ'.set i none) H', rt := D.rt, bk := fun σ' H' => D.bk (σ'.set i none) H', ct := fun σ' H' => D.ct (σ'.set i none) H' } (σ.set i (some (.ref a))) H) ∧
      (b = false → wManyAs K Wout D r cls d σ H)
inductive HdsAs (X : Cx) : List ExceptHandler → List (Value × Nat × (Addr → Value → Option Addr → TS)) → Prop
  | nil : HdsAs X [] []
  | cons {x n : Str} {c : Value} {i : Nat} {ts : Addr → Value → Option Addr → TS} {b₀ : Stmt} {suite : List Stmt} {np pos' : Pos} {hds : List ExceptHandler} {l : List (Value × Nat × (Addr → Value → Option Addr → TS))}
      (hi : X.N[i]? = some n) (hln : X.env.kindOf n = some .local) (hc : Names X x c)
      (hsu : ∀ (a : Addr) (oe : Obj) (cls : Value) (d : Option Addr) (pn : List (Addr × Obj)), L2N.Zn cls d oe → (∃ vs, oe.data = .fields vs) → PSs (X.suite a ((a, oe) :: pn)) (b₀ :: suite) (ts a cls d)) (r : HdsAs X hds l) :
      HdsAs X (.ExceptHandler (some (.Name x np)) (some n) (b₀ :: suite) pos' :: hds) ((c, i, ts) :: l)
section
variable {X : Cx} {body : List Stmt} {h₀ : ExceptHandler} {hds : List ExceptHandler} {l : List (Value × Nat × (Addr → Value → Option Addr → TS))} {pos : Pos} {tb : WX → TS} {Wout : WX}
theorem ps_try_manyAs (hs : X.stack = X.env :: X.outer) (hf : X.env.frame = some X.env.locals) (hN : X.N.Nodup) (tk : L2N.Takes X Wout)
    (hb : ∀ (W : WX) (pn : List (Addr × Obj)) (xe : Value → Shared → Prop), L2N.Takes (X.tr pn xe) W → PassesOwn (model X.prog X.w) X.A X.env xe → PSs (X.tr pn xe) body (tb W))
    (hh : HdsAs X (h₀ :: hds) l) : PS X (.Try body (h₀ :: hds) [] [] pos) (fun D σ H => tb (wManyAs X.K Wout D l) D σ H) := by
  refine ⟨fun pins s σ H D I h => ?_⟩
  have ok := I.ok
  have hfr : X.A.frames = some (X.env :: X.outer) := by rw [ok.frames, hs]
  refine wpAny_Try_except ?_
  refine wpAny_mono ((hb (wManyAs X.K Wout D l) (X.pn ++ pins) (fun e s₁ => wpAny (model X.prog X.w) X.A (noteFrame e X.env) (fun _ s₂ => wpAny (model X.prog X.w) X.A (setFlight e none) (fun _ s₃ =>
    wpAny (model X.prog X.w) X.A (handleBy e X.env (h₀ :: hds)) (SP X pins D) X.xe s₃) X.xe s₂) X.xe s₁) (fun u s' xx => ?hX) PassesOwn.looking).run [] s σ H D (I.toTry _) h) (fun f s1 hsp => ?hN) (fun e s1 he => he)
  case hX =>
    obtain ⟨a, B, sI, pins', σ', H', cls, d, rfl, J', nb, up, sky, na, os, ag, w⟩ := xx
    have J : Inv X pins σ' H' sI := J'.ofTry ok
    have sky1 : Sky B (X.env :: X.outer) a (L2N.Zn cls d) X.env.locals s'.heap := by rw [← hs]; exact sky
    show wpAny (model X.prog X.w) X.A (noteFrame (.ref a) X.env) _ _ _
    refine L2N.Sky.land L2N.Zn.steady hfr hf sky1 fun h3 fl3 up3 => ?_
    have J3 : Inv X pins σ' H' { s' with heap := h3 } := J.landed nb fl3.1 (up.trans up3) os ag
    obtain ⟨oe3, vs3, he3, hz3, hd3⟩ := fl3.there
    have nfr : a ∉ frs (X.env :: X.outer) := fun hm => by
      obtain ⟨_, o', e', hnf⟩ := (fl3.2.2.1).mem hm
      rw [he3] at e'
      cases e'
      exact hnf _ hd3
    have nL : a ≠ X.env.locals := fun z => nfr (List.mem_filterMap.mpr ⟨X.env, List.mem_cons_self, by rw [hf, z]⟩)
    have nF : a ∉ X.fs := fun hm => by
      obtain ⟨e, he, q⟩ := List.mem_filterMap.mp hm
      exact nfr (List.mem_filterMap.mpr ⟨e, List.mem_cons_of_mem _ he, q⟩)
    have S3 := J3.suite he3 hd3 na nL nF
    have go : ∀ {hds' : List ExceptHandler} {l' : List (Value × Nat × (Addr → Value → Option Addr → TS))}, HdsAs X hds' l' → wManyAs X.K Wout D l' cls d σ' H' →
        wpAny (model X.prog X.w) X.A (handleBy (.ref a) X.env hds') (SP X pins D) X.xe { s' with heap := h3 } := by
      intro hds' l' hk
      induction hk with
      | nil =>
        intro w
        refine wpAny_handleBy_nil ?_
        obtain ⟨k1, k2, k3, oe, vs, T, oT, ts', he, hz, hd, h1, hr⟩ := id fl3
        unfold PySem.passOn
        refine wpAny_bind (wpAny_field he hd h1 ?_)
        rw [if_neg (show ¬ ((Value.ref T == Value.none) = true) from by simp)]
        have fin : wpAny (model X.prog X.w) X.A (setFlight (.ref a) X.env.frame) (fun _ s4 => wpAny (model X.prog X.w) X.A (throw (.ref a) : Sem Flow) (SP X pins D) X.xe s4) X.xe { s' with heap := h3 } := by
          rw [hf]
          refine HandSPX.setFlight_upZ fl3 fun h4 hh4 up4 => wpAny_throw (tk _ _ ?_)
          exact ⟨a, B, sI, pins, σ', H', cls, d, rfl, J, nb, (up.trans up3).trans up4, .inr (.inr (by rw [hs]; exact hh4)), na, os, ag, w⟩
        first
          | exact wpAny_bind (wpAny_pure (wpAny_bind fin))
          | exact wpAny_bind fin
      | @cons x n c i ts b₀ suite np pos' hds2 l2 hi hln hc hsu r ih =>
        intro w
        obtain ⟨b, hb1, hyes, hno⟩ := w
        have hloc : Loc X.env.scope n := .inl hln
        refine wpAny_handleBy_cons (codeAny_handlers_test ?_) (by intro q; cases q)
        have LT : PySem.W.Looks (model X.prog X.w) h3 (typeOf (.ref a)) cls := fun A Q E s k q => wpAny_typeOf_ref (k _ _ he3) (by rw [hz3.1]; exact q)
        have LM := PySem.W.exm_one (M := model X.prog X.w) (J3.kIn) LT hb1
        have test : ∀ {Q : Value → Shared → Prop} {E : Value → Shared → Prop}, Q c { s' with heap := h3 } → wpAny (model X.prog X.w) (X.A.mark (some (.ref a))) (eval (.Name x np) X.env) Q E { s' with heap := h3 } := fun {Q E} q => by
          obtain ⟨hg, hdbg, hm | ⟨hm, hv, hnn⟩⟩ := hc
          · exact ld_glob (X := X.suite a ((a, oe3) :: (X.pn ++ pins))) S3 hg hm q hdbg
          · exact ld_blt (X := X.suite a ((a, oe3) :: (X.pn ++ pins))) S3 hg hm hv q hnn hdbg
        refine test (LM.here ?_)
        cases b with
        | false =>
          show wpAny _ X.A (handleBy (.ref a) X.env hds2) _ _ _
          exact ih (hno rfl)
        | true =>
          refine codeAny_handlers_suite_as ?_
          refine HandSPX.lands_againZ fl3 fun h4 fl4 up4 => ?_
          have J4 : Inv X pins σ' H' { s' with heap := h4 } := J.landed nb fl4.1 ((up.trans up3).trans up4) os ag
          obtain ⟨oe4, vs4, he4, hz4, hd4⟩ := fl4.there
          have S4 := J4.suite he4 hd4 na nL nF
          refine store_ok (X := X.suite a ((a, oe4) :: (X.pn ++ pins))) (v := .ref a) S4 hN hi hloc rfl (fun s5 S5 => ?_) (.inr hln)
          refine wpAny_mono ((hsu a oe4 cls d (X.pn ++ pins) hz4 ⟨_, hd4⟩).run [] s5 _ H' _ S5 (hyes rfl a na)) (fun f s6 hsp => ?_) (fun _ _ z => False.elim z)
          have out : ∀ {σ6 : St} {H6 : Hp} {Q : Shared → Prop}, Inv (X.suite a ((a, oe4) :: (X.pn ++ pins))) [] σ6 H6 s6 → (∀ s7, Inv X pins (σ6.set i none) H6 s7 → Q s7) →
              wpAny (model X.prog X.w) X.A (do bindName X.env n .none; unbindBehindTheSuite X.env n pos') (fun _ s7 => Q s7) X.xe s6 := fun {σ6 H6 Q} S6 hq => gone_ok (S6.unsuite ok) hN hi hln hq
          cases f with
          | next =>
            obtain ⟨σ6, H6, S6, q6⟩ := hsp
            exact out S6 fun s7 J7 => ⟨_, _, J7, q6⟩
          | brk =>
            obtain ⟨σ6, H6, S6, q6⟩ := hsp
            exact out S6 fun s7 J7 => ⟨_, _, J7, q6⟩
          | cont =>
            obtain ⟨σ6, H6, S6, q6⟩ := hsp
            exact out S6 fun s7 J7 => ⟨_, _, J7, q6⟩
          | ret u =>
            obtain ⟨v6, σ6, H6, S6, r6, q6⟩ := hsp
            exact out S6 fun s7 J7 => ⟨_, _, _, J7, r6, q6⟩
    exact go hh w
  case hN =>
    cases f with
    | next =>
      obtain ⟨σ', H', J', q⟩ := hsp
      exact wpAny_execs_nil ⟨σ', H', J'.ofTry ok, q⟩
    | brk =>
      obtain ⟨σ', H', J', q⟩ := hsp
      exact ⟨σ', H', J'.ofTry ok, q⟩
    | cont =>
      obtain ⟨σ', H', J', q⟩ := hsp
      exact ⟨σ', H', J'.ofTry ok, q⟩
    | ret u =>
      obtain ⟨v, σ', H', J', r, q⟩ := hsp
      exact ⟨v, σ', H', J'.ofTry ok, r, q⟩
end
end L2
set_option maxHeartbeats 4000000
/-! What is caught, at the level of data; data as texts. -/
namespace Dt
open PySem PySem.Spec L2
open PyProof.Rows (envOfC)
/-- a suite's body at the caught exception -/
def semSu (X : Cx) (suite : List Stmt) : Addr → Value → Option Addr → TS := fun a cls d D σ H => ∀ oe pn, L2N.Zn cls d oe → (∃ vs, oe.data = .fields vs) → semB (X.suite a ((a, oe) :: pn)) suite D σ H
abbrev noT : WX := fun _ _ _ _ => False
/-- a suite's end, behind it: the name is gone, the cells at the end are let go -/
inductive Aft (i : Nat) (μ : Store) : Out → Out → Prop
  | rt {dv : DV} {μ2 junk : Store} : Keep μ μ2 → dv.under μ2.length = true → Aft i μ (.rt dv (μ2 ++ junk)) (.rt dv μ2)
  | nx {δ : Slots} {μ2 junk : Store} : Keep μ μ2 → (∀ (m k : Nat), δ[m]? = some (some (.own k)) → k < μ2.length) → Aft i μ (.nx δ (μ2 ++ junk)) (.nx (δ.set i none) μ2)
inductive Catch (X : Cx) (C : Addr) (fs : Flds) (δ : Slots) (μ : Store) : List (Value × Nat × (Addr → Value → Option Addr → TS)) → Out → Prop
  | miss {c : Value} {i : Nat} {ts : Addr → Value → Option Addr → TS} {l : List (Value × Nat × (Addr → Value → Option Addr → TS))} {o : Out} : PySem.W.exmOne X.K (.ref C) c = some false → Catch X C fs δ μ l o → Catch X C fs δ μ ((c, i, ts) :: l) o
  | hit {c : Value} {i : Nat} {suite : List Stmt} {l : List (Value × Nat × (Addr → Value → Option Addr → TS))} {o : Out} : PySem.W.exmOne X.K (.ref C) c = some true →
      (∀ a oe d pn, L2N.Zn (.ref C) (some d) oe → (∃ vs, oe.data = .fields vs) → ∃ o', Xb (X.suite a ((a, oe) :: pn)) noT suite (δ.set i (some (.dat (.ref a)))) (μ ++ [.xd d fs]) o' ∧ Aft i μ o' o) →
      Catch X C fs δ μ ((c, i, semSu X suite) :: l) o
theorem cutSl {K : PySem.W.Frag} {W : Wd} {σ : L2.St} {δ : Slots} {n : Nat} (h : SlOk K W σ δ) (hk : ∀ (m k : Nat), δ[m]? = some (some (.own k)) → k < n) : SlOk K { W with n := n } σ δ :=
  ⟨h.len, fun m dv e => let ⟨v, a, r⟩ := h.get m dv e; ⟨v, a, by
    cases dv with
    | dat d => exact r
    | own k => exact ⟨hk m k e, r.2⟩⟩⟩
theorem go_cut {K : PySem.W.Frag} {W0 W W' : Wd} {H0 H H' : Hp} {μ0 μ μ' junk : Store} (S0 : StOk K W0 H0 μ0) (S : StOk K W' H' (μ' ++ junk)) (g : Go W H μ W' H' (μ' ++ junk)) (kp : Keep μ0 μ') (hn : W.n ≤ μ'.length) :
    Go W H μ { W' with n := μ'.length } H' μ' ∧ StOk K { W' with n := μ'.length } H' μ' := by
  refine ⟨⟨⟨hn, g.le.A, g.le.G⟩, fun a u e z f => ?_⟩, S0.take S kp⟩
  obtain ⟨h1, h2, h3⟩ := g.fr a u e z f
  exact ⟨h1, h2, fun i ci q => h3 i ci (by rw [List.getElem?_append_left (List.getElem?_eq_some_iff.mp q).1]; exact q)⟩
section
variable {X : Cx} {T : WX} {δ δ' δ1 δ2 : Slots} {μ μ' μ1 μ2 μ3 : Store} {e a b c : Expr} {es : List Expr} {body : List Stmt} {o o1 : Out} {dv dv1 dv2 : DV} {dvs : List DV} {pos p p' : Pos} {i j k n : Nat} {x y : Str} {h₀ : ExceptHandler} {hds : List ExceptHandler}
  {l : List (Value × Nat × (Addr → Value → Option Addr → TS))}
theorem HdsAs.add (i : Nat) {x n : Str} {c : Value} {b₀ : Stmt} {suite : List Stmt} {np pos' : Pos} (r : HdsAs X hds l) (hc : Names X x c) (hi : X.N[i]? = some n := by rfl) (hln : X.env.kindOf n = some .local := by rfl) :
    HdsAs X (.ExceptHandler (some (.Name x np)) (some n) (b₀ :: suite) pos' :: hds) ((c, i, semSu X (b₀ :: suite)) :: l) :=
  .cons hi hln hc (fun _ oe _ _ pn hz hf => ⟨fun pins s σ H D I h => (h oe pn hz hf).run pins s I⟩) r
/-- the try's body, whatever is wished of its exceptions -/
def BodyTr (X : Cx) (body : List Stmt) (δ : Slots) (μ : Store) (o : Out) : Prop := ∀ (pn : List (Addr × Obj)) (xe : Value → Shared → Prop) (W : WX), L2N.Takes (X.tr pn xe) W → PassesOwn (model X.prog X.w) X.A X.env xe → Xb (X.tr pn xe) W body δ μ o
theorem Xs.tryAny (hs : X.stack = X.env :: X.outer) (hf : X.env.frame = some X.env.locals) (nd : X.N.Nodup) (tk : L2N.Takes X T) (hh : HdsAs X (h₀ :: hds) l) (hb : BodyTr X body δ μ o1)
    (hgo : ∀ W H D, Post X.K W H μ D T o → Post X.K W H μ D (wManyAs X.K T D l) o1) : Xs X T (.Try body (h₀ :: hds) [] [] pos) δ μ o := fun W H σ D A P => by
  refine semS_of (ps_try_manyAs hs hf nd tk (tb := fun W' => fun D σ H => ∀ pn xe, L2N.Takes (X.tr pn xe) W' → PassesOwn (model X.prog X.w) X.A X.env xe → semB (X.tr pn xe) body D σ H) (fun W' pn xe t q => ⟨fun pins s σ H D I h => (h pn xe t q).run pins s I⟩) hh) ?_
  intro pn xe t q
  exact hb pn xe _ t q W H σ D A (hgo W H D P)
theorem Xs.tryV (hs : X.stack = X.env :: X.outer) (hf : X.env.frame = some X.env.locals) (nd : X.N.Nodup) (tk : L2N.Takes X T) (hh : HdsAs X (h₀ :: hds) l) (hb : BodyTr X body δ μ o) (hn : ∀ C fs d m, o ≠ .ex C fs d m) : Xs X T (.Try body (h₀ :: hds) [] [] pos) δ μ o :=
  .tryAny hs hf nd tk hh hb fun W H D P => by
    cases o with
    | ex C fs d m => exact absurd rfl (hn C fs d m)
    | nx _ _ => exact P
    | rt _ _ => exact P
    | bk _ _ => exact P
    | ct _ _ => exact P
theorem Xs.tryE {C : Addr} {fs : Flds} (hs : X.stack = X.env :: X.outer) (hf : X.env.frame = some X.env.locals) (nd : X.N.Nodup) (tk : L2N.Takes X T) (hh : HdsAs X (h₀ :: hds) l) (hb : BodyTr X body δ μ (.ex C fs δ1 μ1)) (hc : Catch X C fs δ1 μ1 l o) : Xs X T (.Try body (h₀ :: hds) [] [] pos) δ μ o :=
  .tryAny hs hf nd tk hh hb fun W H D P => by
    intro W' H' σ' d g A' xd nq
    clear hh
    induction hc with
    | miss h1 _ ih => exact ⟨false, h1, (fun z => nomatch z), fun _ => ih P⟩
    | @hit c i suite l o h1 h2 =>
      refine ⟨true, h1, fun _ w na => ?_, (fun z => nomatch z)⟩
      intro oe pn hz hfl
      obtain ⟨o', hx, aft⟩ := h2 w oe d pn hz hfl
      obtain ⟨⟨ws, hws, rl⟩, gd, od⟩ := xd
      obtain ⟨g2, s2⟩ := adoptC (cl := .xd d fs) g A'.st nq od ⟨by rw [Wd.push_at]; exact gd, Wd.push_at _ _, ws, by rw [Wd.push_at]; exact hws, RelK.mono (W'.push_le d) rl⟩
      have A2 : At X.K (W'.push d) H' (σ'.set i (some (.ref w))) (δ1.set i (some (.dat (.ref w)))) (μ1 ++ [.xd d fs]) := ⟨s2, (A'.sl.mono (W'.push_le d)).set (dv := .dat (.ref w)) (Dq.ref w) i⟩
      refine hx (W'.push d) H' _ _ A2 ?_
      have hn : ∀ {μ2 : Store}, Keep μ1 μ2 → W.n ≤ μ2.length := fun kp => Nat.le_trans (Nat.le_trans g.le.n (Nat.le_of_eq A'.st.n)) kp.len
      cases aft with
      | rt kp z =>
        intro W3 H3 v g3 s3 r3
        obtain ⟨g4, s4⟩ := go_cut A'.st s3 (g2.trans g3) kp (hn kp)
        exact P _ _ v g4 s4 (r3.cut z)
      | nx kp z =>
        intro W3 H3 σ3 g3 a3
        obtain ⟨g4, s4⟩ := go_cut A'.st a3.st (g2.trans g3) kp (hn kp)
        exact P _ _ _ g4 ⟨s4, (cutSl a3.sl z).setNone i⟩
end
end Dt
set_option maxHeartbeats 4000000
/-! Data as Python data: ==, repr; a caught exception's field; keywords; tuples sorted; wide products. -/
namespace Dt
open PySem PySem.Spec L2
open PyProof.Rows (envOfC)
/-! ### data as data of the repr roads -/
mutual
def toPy : D → PyData
  | .non => .none
  | .bl b => .bool b
  | .int i => .int i
  | .str x => .str x
  | .lst xs => .list (toPys xs)
  | .scr xs => .list (toPys xs)
  | .tup xs => .tuple (toPys xs)
  | _ => .none
def toPys : List D → List PyData
  | [] => []
  | x :: xs => toPy x :: toPys xs
end
mutual
/-- none, bools, ints of 39 digits, short texts, lists, tuples -/
def okB : D → Bool
  | .non => true
  | .bl _ => true
  | .int i => decide (i.natAbs < 10 ^ 39)
  | .str x => x.cps.toList.all (fun c => decide (c < 128))
  | .lst xs => okBs xs
  | .scr xs => okBs xs
  | .tup xs => okBs xs
  | _ => false
def okBs : List D → Bool
  | [] => true
  | x :: xs => okB x && okBs xs
end
mutual
def dep : D → Nat
  | .lst xs => deps xs + 1
  | .scr xs => deps xs + 1
  | .tup xs => deps xs + 1
  | _ => 0
def deps : List D → Nat
  | [] => 0
  | x :: xs => max (dep x) (deps xs)
end
mutual
def blk : D → Nat
  | .str x => x.cps.size
  | .lst xs => blks xs
  | .scr xs => blks xs
  | .tup xs => blks xs
  | _ => 0
def blks : List D → Nat
  | [] => 0
  | x :: xs => blk x + 1 + blks xs
end
mutual
theorem toPy_dep : ∀ d : D, (toPy d).depth ≤ dep d
  | .non => Nat.le_refl _
  | .bl _ => Nat.le_refl _
  | .int _ => Nat.le_refl _
  | .str _ => Nat.le_refl _
  | .lst xs => Nat.succ_le_succ (toPys_dep xs)
  | .scr xs => Nat.succ_le_succ (toPys_dep xs)
  | .tup xs => Nat.succ_le_succ (toPys_dep xs)
  | .ref _ => Nat.le_refl _
  | .ty _ => Nat.le_refl _
  | .dct _ => Nat.le_refl _
  | .ins _ _ => Nat.le_refl _
theorem toPys_dep : ∀ ds : List D, PyData.depthAll (toPys ds) ≤ deps ds
  | [] => Nat.le_refl _
  | x :: xs => by
    have h1 := toPy_dep x
    have h2 := toPys_dep xs
    show max (toPy x).depth (PyData.depthAll (toPys xs)) ≤ max (dep x) (deps xs)
    omega
end
mutual
theorem toPy_blk : ∀ d : D, (toPy d).bulk ≤ blk d
  | .non => Nat.le_refl _
  | .bl _ => Nat.le_refl _
  | .int _ => Nat.le_refl _
  | .str _ => Nat.le_refl _
  | .lst xs => toPys_blk xs
  | .scr xs => toPys_blk xs
  | .tup xs => toPys_blk xs
  | .ref _ => Nat.le_refl _
  | .ty _ => Nat.le_refl _
  | .dct _ => Nat.le_refl _
  | .ins _ _ => Nat.le_refl _
theorem toPys_blk : ∀ ds : List D, PyData.bulkAll (toPys ds) ≤ blks ds
  | [] => Nat.le_refl _
  | x :: xs => by
    have h1 := toPy_blk x
    have h2 := toPys_blk xs
    show (toPy x).bulk + 1 + PyData.bulkAll (toPys xs) ≤ blk x + 1 + blks xs
    omega
end
theorem int_log {i : Int} (h : i.natAbs < 10 ^ 39) : i.natAbs.log2 < 1920 := by
  by_cases z : i.natAbs = 0
  · rw [z]; decide
  · refine (Nat.log2_lt z).mpr (Nat.lt_trans h ?_)
    decide +kernel
theorem int_short {i : Int} (h : i.natAbs < 10 ^ 39) : ((PyData.int i).shown).length ≤ 40 := by
  have e := int_text_length_le10 (k := 39) (by decide) h
  show (Str.ofString (toString i)).length ≤ 40
  rw [ofString_length]
  exact e
mutual
theorem ok_show : ∀ d : D, okB d = true → (toPy d).showable = true ∧ (toPy d).hasDict = false ∧ (toPy d).leavesShort 40 = true ∧ (toPy d).canLay0 = true
  | .non, _ => by simp [toPy, PyData.showable, PyData.hasDict, PyData.leavesShort, PyData.canLay0]
  | .bl _, _ => by simp [toPy, PyData.showable, PyData.hasDict, PyData.leavesShort, PyData.canLay0]
  | .int i, h => by
    have h' : i.natAbs < 10 ^ 39 := of_decide_eq_true h
    exact ⟨decide_eq_true (int_log h'), rfl, decide_eq_true (int_short h'), rfl⟩
  | .str x, h => by
    have h' : (x.cps.toList.all fun c => decide (c < 128)) = true := h
    refine ⟨rfl, rfl, ?_, ?_⟩
    · show (x.cps.toList.all fun c => decide (c < 16 ^ 8)) = true
      rw [List.all_eq_true] at h' ⊢
      intro c hc
      have := of_decide_eq_true (h' c hc)
      exact decide_eq_true (by omega)
    · show (x.cps.all fun c => decide (c < 0x110000)) = true
      rw [← Array.all_toList]
      rw [List.all_eq_true] at h' ⊢
      intro c hc
      have := of_decide_eq_true (h' c hc)
      exact decide_eq_true (by omega)
  | .lst xs, h => ok_shows xs h
  | .scr xs, h => ok_shows xs h
  | .tup xs, h => ok_shows xs h
  | .ref _, h => by cases h
  | .ty _, h => by cases h
  | .dct _, h => by cases h
  | .ins _ _, h => by cases h
theorem ok_shows : ∀ ds : List D, okBs ds = true → PyData.showableAll (toPys ds) = true ∧ PyData.hasDictAll (toPys ds) = false ∧ PyData.leavesShortAll 40 (toPys ds) = true ∧ PyData.canLayAll0 (toPys ds) = true
  | [], _ => ⟨rfl, rfl, rfl, rfl⟩
  | x :: xs, h => by
    have h' := Bool.and_eq_true_iff.mp (show (okB x && okBs xs) = true from h)
    obtain ⟨a1, a2, a3, a4⟩ := ok_show x h'.1
    obtain ⟨b1, b2, b3, b4⟩ := ok_shows xs h'.2
    exact ⟨Bool.and_eq_true_iff.mpr ⟨a1, b1⟩, Bool.or_eq_false_iff.mpr ⟨a2, b2⟩, Bool.and_eq_true_iff.mpr ⟨a3, b3⟩, Bool.and_eq_true_iff.mpr ⟨a4, b4⟩⟩
end
section
variable {K : PySem.W.Frag} {G H : Hp}
mutual
theorem Dq.dp (e : Same G H) : ∀ {v : V} {d : D}, Dq K G v d → okB d = true → Dp K H v (toPy d)
  | _, _, .non, _ => .non
  | _, _, .bl b, _ => .bl b
  | _, _, .int i, _ => .int i
  | _, _, .str x, _ => .str x
  | _, _, .ref a, h => by cases h
  | _, _, .ty n, h => by cases h
  | _, _, .lst h t, z => .lst (SqL.of (e _ _ h)) (DqA.dp e t z)
  | _, _, .scr h t, z => .lst (e.seq h) (DqA.dp e t z)
  | _, _, .tup h t, z => .tup (Same.tseq e h) (DqA.dp e t z)
  | _, _, .dct h t, z => by cases z
  | _, _, .ins h t, z => by cases z
theorem DqA.dp (e : Same G H) : ∀ {v : List V} {d : List D}, DqA K G v d → okBs d = true → DpAll K H v (toPys d)
  | _, _, .nil, _ => .nil
  | _, _, .cons h t, z =>
    have z' := Bool.and_eq_true_iff.mp (show (_ && _) = true from z)
    .cons (Dq.dp e h z'.1) (DqA.dp e t z'.2)
end
end
/-! ### small data: nesting, bulk -/
structure Sho (m n : Nat) (d : D) : Prop where
  ok : okB d = true
  dp : dep d ≤ m
  bk : blk d ≤ n
structure Shos (m n : Nat) (ds : List D) : Prop where
  ok : okBs ds = true
  dp : deps ds ≤ m
  bk : blks ds ≤ n
theorem Sho.mono {m n m' n' : Nat} {d : D} (h : Sho m n d) (h1 : m ≤ m') (h2 : n ≤ n') : Sho m' n' d := ⟨h.ok, Nat.le_trans h.dp h1, Nat.le_trans h.bk h2⟩
theorem Sho.int {m n : Nat} {i : Int} (h : i.natAbs < 10 ^ 39) : Sho m n (.int i) := ⟨decide_eq_true h, Nat.zero_le _, Nat.zero_le _⟩
theorem Sho.bl {m n : Nat} {b : Bool} : Sho m n (.bl b) := ⟨rfl, Nat.zero_le _, Nat.zero_le _⟩
theorem Sho.non {m n : Nat} : Sho m n .non := ⟨rfl, Nat.zero_le _, Nat.zero_le _⟩
theorem Sho.str {m n : Nat} {x : Str} (h : x.cps.toList.all (fun c => decide (c < 128)) = true := by decide) (hn : x.cps.size ≤ n := by decide) : Sho m n (.str x) := ⟨h, Nat.zero_le _, hn⟩
theorem Shos.nil {m n : Nat} : Shos m n [] := ⟨rfl, Nat.zero_le _, Nat.zero_le _⟩
theorem Shos.cons {m n k : Nat} {d : D} {ds : List D} (h : Sho m k d) (t : Shos m n ds) : Shos m (k + 1 + n) (d :: ds) :=
  ⟨Bool.and_eq_true_iff.mpr ⟨h.ok, t.ok⟩, Nat.max_le.mpr ⟨h.dp, t.dp⟩, by have := h.bk; have := t.bk; show blk d + 1 + blks ds ≤ _; omega⟩
theorem Shos.all {m k : Nat} : ∀ {ds : List D}, (∀ d ∈ ds, Sho m k d) → Shos m (ds.length * (k + 1)) ds
  | [], _ => ⟨rfl, Nat.zero_le _, Nat.zero_le _⟩
  | d :: ds, h => by
    have t := Shos.all (m := m) (k := k) fun x hx => h x (List.mem_cons_of_mem _ hx)
    have z := Shos.cons (h d List.mem_cons_self) t
    refine ⟨z.ok, z.dp, Nat.le_trans z.bk (Nat.le_of_eq ?_)⟩
    rw [List.length_cons, Nat.add_mul]
    omega
theorem Shos.mono {m n m' n' : Nat} {d : List D} (h : Shos m n d) (h1 : m ≤ m') (h2 : n ≤ n') : Shos m' n' d := ⟨h.ok, Nat.le_trans h.dp h1, Nat.le_trans h.bk h2⟩
theorem Sho.lst {m n : Nat} {ds : List D} (h : Shos m n ds) : Sho (m + 1) n (.lst ds) := ⟨h.ok, Nat.succ_le_succ h.dp, h.bk⟩
theorem Sho.tup {m n : Nat} {ds : List D} (h : Shos m n ds) : Sho (m + 1) n (.tup ds) := ⟨h.ok, Nat.succ_le_succ h.dp, h.bk⟩
theorem Sho.shaped {m n : Nat} {d : D} (h : Sho m n d) (hm : m ≤ 60) : SeqAt.shaped (toPy d) = true :=
  Bool.and_eq_true_iff.mpr ⟨(ok_show d h.ok).2.2.2, decide_eq_true (by have := toPy_dep d; have := h.dp; omega)⟩
theorem Sho.len {m n : Nat} {d : D} (h : Sho m n d) (hn : n ≤ 300000) : (toPy d).shown.length ≤ sizeLine := by
  have e := PyData.shown_le_bulk 40 (by decide) (toPy d) (ok_show d h.ok).2.2.1
  have e1 := toPy_blk d
  have e2 := h.bk
  rw [sizeLine_eq]
  omega
/-- a list, a tuple -/
def dispD : D → Bool
  | .lst _ => true
  | .scr _ => true
  | .tup _ => true
  | _ => false
/-- the text of a datum -/
def txt (d : D) : Str := (toPy d).shown
section
variable {X : Cx} {T : WX} {δ δ' δ1 δ2 : Slots} {μ μ' μ1 μ2 μ3 : Store} {e a b c : Expr} {es : List Expr} {dv dv1 dv2 : DV} {dvs : List DV} {pos p p' : Pos} {i j k n m : Nat} {x y : Str} {d d' : D}
theorem CallS.repr (hg : X.A.guards = some []) (hu : X.A.units + 64 < cLine) (h : Sho m n d) (hm : m ≤ 60) (hn : n ≤ 300000) (hd : dispD d = true) : CallS X (.builtin "repr") [.dat d] μ (.s (txt d)) μ :=
  ⟨fun vs H Q => ∃ v, vs = [v] ∧ Dp X.K H v (toPy d) ∧ Q (.str (txt d)) H, fun pins s σ H xs us Q I r hh => by
    obtain ⟨v, rfl, hp, q⟩ := hh
    obtain ⟨u, rfl, ru⟩ := vals1 r
    obtain ⟨as, rd⟩ := Dp.reads I (toPy d) v u hp ru
    obtain ⟨s1, s2, s3, s4⟩ := ok_show d h.ok
    have hdis : PyProof.Rows.isDisplay (toPy d) = true := by
      cases d <;> first | rfl | cases hd
    obtain ⟨al, rfl⟩ := PyProof.Rows.isRef_of_reads rd hdis
    have hdp := toPy_dep d
    have hdd := h.dp
    exact repr_of_reads' rd s1 (PyData.noDict_hsm s2) hg (by omega) (fun _ _ z => z) (fun h' u tk hk => ⟨.str (txt d), H, I.kept (t' := tk) hk, ⟨_, rfl⟩, q⟩) (h.len hn), fun W H σ δ vs Q A rv q => by
    obtain ⟨v, rfl, r⟩ := Rels.one rv
    exact ⟨v, rfl, Dq.dp A.st.ex (show Dq X.K W.G v d from r) h.ok, q W H _ .refl A (Dq.str _)⟩⟩
theorem OpS.eqP {m' n' : Nat} (hu : X.A.units + 64 < cLine) (h : Sho m n d) (h' : Sho m' n' d') (hm : m ≤ 60) (hm' : m' ≤ 60) : OpS X (compareOp .Eq) (.dat d) (.dat d') μ (.b (PyData.eqv (toPy d) (toPy d'))) μ :=
  ⟨_, op_eqD hu, fun W H σ δ x y Q A rx ry q => ⟨_, _, Dq.dp A.st.ex (show Dq X.K W.G x d from rx) h.ok, Dq.dp A.st.ex (show Dq X.K W.G y d' from ry) h'.ok, h.shaped hm, h'.shaped hm', q W H _ .refl A (Dq.bl _)⟩⟩
theorem eqv_int (a b : Int) : PyData.eqv (.int a) (.int b) = (a == b) := by rw [PyData.eqv]
theorem eqv_ints : ∀ (ns ms : List Int), PyData.eqvAll (toPys (ns.map D.int)) (toPys (ms.map D.int)) = decide (ns = ms)
  | [], [] => by simp [toPys, PyData.eqvAll]
  | [], _ :: _ => by simp [toPys, PyData.eqvAll]
  | _ :: _, [] => by simp [toPys, PyData.eqvAll]
  | a :: ns, b :: ms => by
    show PyData.eqvAll (.int a :: toPys (ns.map D.int)) (.int b :: toPys (ms.map D.int)) = _
    rw [PyData.eqvAll, eqv_ints ns ms, eqv_int]
    by_cases h1 : a = b
    · subst h1
      simp
    · have : (a == b) = false := by simpa using h1
      rw [this, Bool.false_and]
      symm
      simp [h1]
/-- two lists of ints -/
theorem OpS.eqLs {ns ms : List Int} (hu : X.A.units + 64 < cLine) (h1 : ∀ n ∈ ns, n.natAbs < 10 ^ 39) (h2 : ∀ n ∈ ms, n.natAbs < 10 ^ 39) : OpS X (compareOp .Eq) (.dat (.lst (ns.map D.int))) (.dat (.lst (ms.map D.int))) μ (.b (decide (ns = ms))) μ := by
  have sh : ∀ {ks : List Int}, (∀ n ∈ ks, n.natAbs < 10 ^ 39) → Sho 1 (((ks.map D.int).length) * (0 + 1)) (.lst (ks.map D.int)) := fun hk => .lst (.all fun d hd => by
    obtain ⟨n, hn, rfl⟩ := List.mem_map.mp hd
    exact .int (hk n hn))
  have h := OpS.eqP (X := X) (μ := μ) hu (sh h1) (sh h2) (by decide) (by decide)
  have e : PyData.eqv (toPy (.lst (ns.map D.int))) (toPy (.lst (ms.map D.int))) = decide (ns = ms) := by
    show PyData.eqv (.list _) (.list _) = _
    rw [PyData.eqv]
    exact eqv_ints ns ms
  rw [e] at h
  exact h
/-- the field of the exception that the suite holds -/
theorem Ev.xf {al C : Addr} {oe : Obj} {dd : Addr} {pn : List (Addr × Obj)} {f : Str} {fs : Flds} (TC : XfC X.K C) (hno : PySem.W.findIn X.K (.ref C) f = some none) (hz : L2N.Zn (.ref C) (some dd) oe) (hf : ∃ vs, oe.data = .fields vs)
    (he : Ev (X.suite al ((al, oe) :: pn)) e δ μ (.dat (.ref al)) μ) (hk : μ[k]? = some (.xd dd fs)) (hl : fs.lookup f = some dv) (hb : attributeBase e f X.env (eval e X.env) = eval e X.env := by rfl) :
    Ev (X.suite al ((al, oe) :: pn)) (.Attribute e f pos) δ μ dv μ := fun W H σ Q A q => by
  refine semE_of (pe_xf TC hno hz.zc hf semE_pe hb) ?_
  refine he W H σ _ A fun W1 H1 v g1 A1 r1 => ?_
  obtain ⟨_, ea, ws, hw, rl⟩ := A1.st.cell k _ hk
  rw [ea] at hw
  have lk : ∀ {fs : Flds} {ws : List (Str × V)}, RelK X.K W1 fs ws → fs.lookup f = some dv → ∃ u, ws.lookup f = some u ∧ Rel X.K W1 dv u := by
    intro fs ws h
    induction h with
    | nil => intro z; cases z
    | @cons p u ps us rr t ih =>
      intro z
      obtain ⟨pk, pv⟩ := p
      obtain ⟨uk, uv⟩ := u
      obtain ⟨e1, e2⟩ := rr
      have e1' : pk = uk := e1
      subst e1'
      rw [List.lookup_cons] at z ⊢
      split at z
      · cases z
        exact ⟨uv, rfl, e2⟩
      · exact ih z
  obtain ⟨u, hu, ru⟩ := lk rl hl
  exact ⟨Rel.rv r1, rfl, dd, ws, u, rfl, hw, hu, q W1 H1 u g1 A1 ru⟩
/-- a wide product -/
theorem OpS.mulW {i j : Int} {a b : Nat} (ha : i.natAbs < 2 ^ a) (hb : j.natAbs < 2 ^ b) (h0 : 0 < a) (h1 : 0 < b) (h : a + b ≤ 1000000) : OpS X (binaryOp .Mult) (.i i) (.i j) μ (.i (i * j)) μ :=
  .I op_mulW (wide_mul ha hb h0 h1 h) fun _ => Dq.int _
end
end Dt
set_option maxHeartbeats 4000000
/-! Defs that are called where nothing is being shown (their bodies may show containers); calls with keywords alone; tuples sorted. -/
namespace L2
open PySem PySem.Spec PyProof.Rows
structure FnA (P : Program) (w : World) (K : PySem.W.Frag) (mg : Str → Option Value) (base : Heap) (CX : CXT) (k : Nat) (f : Addr) (fd : FuncData) (ps : List Str) (sp : Sp) : Prop where
  len : ∀ vs H Q E, sp vs H Q E → vs.length = ps.length
  run : ∀ (A : Around) (outer : List Env) (s : Shared) (H : Hp) (args : Args) (us : List Value) (vs : List V) (Q : VK) (E : XK), Room k A → A.guards = some [] → Env0 P w K mg base A outer s H → BindsTo s fd args (ps.zip us) → Vals vs us → sp vs H Q E →
    codeAny (model P w) A (.call (.ref f) args) (CR CX outer P w H s Q E) s
/-- by its body -/
theorem Fun.okA {P : Program} {w : World} {K : PySem.W.Frag} {mg : Str → Option Value} {base : Heap} {x qual : Str} {st : Stmt} {f : Addr} {fd : FuncData} {N ps : List Str} {k : Nat} {sp : Sp} (F : Fun K x qual st f fd) (S : FnScope N ps (defScope st)) (len : ∀ vs H Q E, sp vs H Q E → vs.length = ps.length)
    (hbody : ∀ (cdv : Value) (A : Around) (outer : List Env) (s : Shared) (H : Hp) (vs : List V) (Q : VK) (E : XK), A.guards = some [] → Room k (A.deeper (envOfC qual (defScope st) s.heap.objs.size f cdv)) → sp vs H Q E →
      ∃ t, PSs (cxOf (L2N.CX P w) P w K mg base N qual (defScope st) f cdv A outer s H E) (defBody st) t ∧ t { nx := fun _ H' => Q .non H', rt := Q } (start N vs) H) : FnA P w K mg base (L2N.CX P w) (k + 1) f fd ps sp := by
  obtain ⟨oc, od, kV, doc, pm, an, cdv, ct, osl, rfl, lk, hcd⟩ := F.ex
  refine ⟨len, fun A outer s H args us vs Q E hr hga e0 hb r hsp => ?_⟩
  have hl := len _ _ _ _ hsp
  have KX : K.In s.heap := e0.mod.kin.keeps fun b o e => (e0.bs b o e).1
  have lim : s.heap.NoLimit := e0.mod.nolimit.keeps fun b o e => (e0.bs b o e).1
  have kinds : ∀ y ∈ ps.zip us, (defScope st).names.lookup y.1 = some .local ∨ ((defScope st).names.lookup y.1 = some .cell ∧ ((cellsFrom (s.heap.objs.size + 1) (defScope st).names []).lookup y.1).isSome = true) := fun ⟨n, v⟩ hy =>
    (S.par n (List.of_mem_zip hy).1).imp id fun q => ⟨q, PySem.W.cellsFrom_some _ _ _ (.inl q)⟩
  refine codeAny_call_function hr.depth (KX _ _ lk) rfl S.co S.gen rfl (PySem.W.codeRec_of KX hcd) (hb _ _ _ _ ?_)
  refine wpAny_newFunctionEnv_cells S.kind kinds fun env he s1 x => ?_
  subst he
  refine ⟨lim.keeps x.toInCall.keep, codeAny_func ?_⟩
  obtain ⟨t, ht, hq⟩ := hbody cdv A outer s H vs Q E hga (hr.deeper _) hsp
  have I := inv_start (CX := L2N.CX P w) (E := E) S hr.hd e0 hl r x
  refine wpAny_mono (ht.run [] s1 (start N vs) H _ I hq) (fun fl s' hs => ?_) fun e s' hs => hs
  cases fl with
  | ret u =>
    obtain ⟨v, σ', H', J, rv, q⟩ := hs
    exact ⟨v, H', J.os, J.bare, J.base, J.hok, rv, q⟩
  | next =>
    obtain ⟨σ', H', J, q⟩ := hs
    exact ⟨V.non, H', J.os, J.bare, J.base, J.hok, rfl, q⟩
  | brk =>
    obtain ⟨_, _, _, q⟩ := hs
    exact False.elim q
  | cont =>
    obtain ⟨_, _, _, q⟩ := hs
    exact False.elim q
section
variable {X : Cx} {CX : CXT} {k : Nat} {f C : Addr} {fd : FuncData} {ps ks : List Str} {sp : Sp} {E : St → XK} {x m : Str} {p pos apos : Pos} {e o : Expr} {es : List Expr} {ta : TE} {t tk : TA} {kws : List Keyword}
theorem pe_callA (F : FnA X.prog X.w X.K X.mg X.base CX k f fd ps sp) (hr : Room k X.A) (hga : X.A.guards = some []) (hg : Gl X x) (hm : X.mg x = some (.ref f)) (hk : PySem.W.keepIn X.K (.ref f) = true) (hb : Binds X.K fd ps []) (hx : ∀ σ, PassesAt CX X σ (E σ))
    (ha : PA X (e :: es) t) (hdb : (x == ("__debug__" : Str)) = false := by decide) (he : starEach (e :: es) X.env = (false, eval e X.env) :: starEach es X.env := by rfl) (hpl : (backTo pos (starEach es X.env)).any (·.1) = false := by rfl) :
    PE X (.Call (.Name x p) (e :: es) [] pos) (tCallS sp E t) := by
  refine ⟨fun pins s σ H Q I h => ?_⟩
  refine wpAny_Call_Name_kw (ld_glob I hg hm ?_ hdb)
  refine PySem.W.callWith_K (h₀ := X.base) I.ok.mod.kin hk (thn (ha.run pos pins s σ H _ I h) fun us s1 ⟨vs, H1, I1, r, q⟩ => ⟨I1.kIn, ?_⟩) he hpl
  have hl : us.length = ps.length := by rw [← r.length]; exact F.len _ _ _ _ q
  have b := hb s1 us I1.kIn (by rw [List.append_nil]; exact hl)
  rw [List.append_nil] at b
  refine wpAny_call (codeAny_mono (F.run X.A X.stack s1 H1 ⟨us, []⟩ us vs Q (E σ) hr hga I1.env0 b r q) fun r s' hq => ?_)
  cases r with
  | error e => exact hx σ pins H1 s1 e s' I1 hq
  | ok fl =>
    cases fl with
    | ret u => exact I1.after hq
    | next => exact False.elim hq
    | brk => exact False.elim hq
    | cont => exact False.elim hq
/-- f(k = v, ..): the keywords stand in the reverse of the parameters' order -/
structure RBinds (K : PySem.W.Frag) (fd : FuncData) (ps ks : List Str) : Prop where
  to : ∀ (s : Shared) (ws : List Value), K.In s.heap → ws.length = ps.length → BindsTo s fd ⟨[], ks.zip ws⟩ (ps.zip ws.reverse)
theorem Vals.rev : ∀ {vs : List V} {us : List Value}, Vals vs us → Vals vs.reverse us.reverse
  | _, _, .nil => .nil
  | _, _, .cons r t => by
    rw [List.reverse_cons, List.reverse_cons]
    exact (Vals.rev t).append (.cons r .nil)
def tCallR (sp : Sp) (E : St → XK) (tk : TA) : TE := fun σ H Q => tk σ H fun zs H1 => sp zs.reverse H1 Q (E σ)
theorem pe_callR (F : FnOk X.prog X.w X.K X.mg X.base CX k f fd ps sp) (hr : Room k X.A) (hg : Gl X x) (hm : X.mg x = some (.ref f)) (hk : PySem.W.keepIn X.K (.ref f) = true) (hb : RBinds X.K fd ps ks) (hx : ∀ σ, PassesAt CX X σ (E σ))
    (hkw : PK X kws tk) (hall : (backToKw pos (keywordEach kws X.env)).all (·.1.isSome) = true := by rfl) (hks : (backToKw pos (keywordEach kws X.env)).filterMap (·.1) = ks := by rfl)
    (hdb : (x == ("__debug__" : Str)) = false := by decide) (hpl : ((backTo pos (starEach [] X.env)).any (·.1) || (backToKw pos (keywordEach kws X.env)).any (·.1.isNone)) = false := by rfl) :
    PE X (.Call (.Name x p) [] kws pos) (tCallR sp E tk) := by
  refine ⟨fun pins s σ H Q I h => ?_⟩
  refine wpAny_Call_Name_kw (ld_glob I hg hm ?_ hdb)
  refine PySem.W.callWith_KW0 (h₀ := X.base) I.ok.mod.kin hk hall ?_ hpl
  refine thn (hkw.run pos pins s σ H _ I h) fun ws s1 ⟨zs, H1, I1, rz, q⟩ => ⟨I1.kIn, ?_⟩
  rw [hks]
  have r2 : Vals zs.reverse ws.reverse := rz.rev
  have hl : ws.length = ps.length := by
    have := F.len _ _ _ _ q
    rw [← this, List.length_reverse, rz.length]
  refine wpAny_call (codeAny_mono (F.run X.A X.stack s1 H1 ⟨[], ks.zip ws⟩ ws.reverse zs.reverse Q (E σ) hr I1.env0 (hb.to s1 ws I1.kIn hl) r2 q) fun r s' hq => ?_)
  cases r with
  | error e => exact hx σ pins H1 s1 e s' I1 hq
  | ok fl =>
    cases fl with
    | ret u => exact I1.after hq
    | next => exact False.elim hq
    | brk => exact False.elim hq
    | cont => exact False.elim hq
end
end L2
namespace Dt
open PySem PySem.Spec L2
open PyProof.Rows (envOfC)
section
variable {P : Program} {w : World} {K : PySem.W.Frag} {mg : Str → Option Value} {base : Heap}
theorem fn_DA {x qual : Str} {st : Stmt} {f : Addr} {fd : FuncData} {N ps : List Str} {k : Nat} {Pm : Pr} (F : Fun K x qual st f fd) (S : FnScope N ps (defScope st))
    (hb : ∀ (cdv : Value) (A : Around) (outer : List Env) (s : Shared) (H : Hp) (E : XK), Room k (A.deeper (envOfC qual (defScope st) s.heap.objs.size f cdv)) →
      (cxOf (L2N.CX P w) P w K mg base N qual (defScope st) f cdv A outer s H E).A.guards = some [] →
      L2N.Takes (cxOf (L2N.CX P w) P w K mg base N qual (defScope st) f cdv A outer s H E) (fun cls d _ H => E cls d H) →
      PassesOwn (model P w) (cxOf (L2N.CX P w) P w K mg base N qual (defScope st) f cdv A outer s H E).A (cxOf (L2N.CX P w) P w K mg base N qual (defScope st) f cdv A outer s H E).env (cxOf (L2N.CX P w) P w K mg base N qual (defScope st) f cdv A outer s H E).xe →
      ∀ dvs μ o, dvs.length = ps.length → Pm dvs μ o → Bd (cxOf (L2N.CX P w) P w K mg base N qual (defScope st) f cdv A outer s H E) (fun cls d _ H => E cls d H) (defBody st) (startD N.length dvs) μ o) :
    FnA P w K mg base (L2N.CX P w) (k + 1) f fd ps (spD K ps.length Pm) := by
  refine F.okA S (fun vs H Q E h => h.len) (fun cdv A outer s H vs Q E hga hr h => ⟨_, semB_ps, ?_⟩)
  exact body_sp (N := N) rfl rfl h (hb cdv A outer s H E hr hga (L2N.takes_of rfl rfl rfl rfl) (passes_of rfl))
structure DfA (P : Program) (w : World) (K : PySem.W.Frag) (mg : Str → Option Value) (base : Heap) (x : Str) (k n : Nat) (Pm : Pr) : Prop where
  ex : ∃ f fd ps, FnA P w K mg base (L2N.CX P w) k f fd ps (spD K n Pm) ∧ mg x = some (.ref f) ∧ PySem.W.keepIn K (.ref f) = true ∧ Binds K fd ps []
theorem DfA.mk' {x qual : Str} {st : Stmt} {f : Addr} {fd : FuncData} {ps : List Str} {k : Nat} {Pm : Pr} (F : Fun K x qual st f fd) (hm : mg x = some (.ref f)) (b : Binds K fd ps []) (h : FnA P w K mg base (L2N.CX P w) k f fd ps (spD K ps.length Pm)) : DfA P w K mg base x k ps.length Pm :=
  ⟨f, fd, ps, h, hm, F.kp, b⟩
/-- a def that is called by keywords alone, these in the reverse order -/
structure DfR (P : Program) (w : World) (K : PySem.W.Frag) (mg : Str → Option Value) (base : Heap) (x : Str) (k n : Nat) (ks : List Str) (Pm : Pr) : Prop where
  ex : ∃ f fd ps, FnOk P w K mg base (L2N.CX P w) k f fd ps (spD K n Pm) ∧ mg x = some (.ref f) ∧ PySem.W.keepIn K (.ref f) = true ∧ RBinds K fd ps ks
end
def semKw (X : Cx) : List Keyword → TA
  | [] => tNil
  | ⟨_, e, _⟩ :: ks => tCons (semE X e) (semKw X ks)
/-- the keywords' values -/
structure Ekw (X : Cx) (kws : List Keyword) (δ : Slots) (μ : Store) (dvs : List DV) (μ' : Store) : Prop where
  pk : PK X kws (semKw X kws)
  ev : ∀ W H σ (Q : List V → Hp → Prop), At X.K W H σ δ μ → (∀ W' H' vs, Go W H μ W' H' μ' → At X.K W' H' σ δ μ' → Rels X.K W' dvs vs → Q vs H') → semKw X kws σ H Q
theorem Rels.rev {K : PySem.W.Frag} {W : Wd} : ∀ {dvs : List DV} {vs : List V}, Rels K W dvs vs → Rels K W dvs.reverse vs.reverse
  | _, _, .nil => .nil
  | _, _, .cons r t => by
    rw [List.reverse_cons, List.reverse_cons]
    exact Paired.app (Rels.rev t) (.cons r .nil)
section
variable {X : Cx} {T : WX} {δ δ' δ1 δ2 : Slots} {μ μ' μ1 μ2 μ3 : Store} {e a b c : Expr} {es : List Expr} {dv dv1 dv2 : DV} {dvs : List DV} {pos p p' kpos : Pos} {i j k n m : Nat} {x y : Str} {d d' : D} {Pm : Pr} {kws : List Keyword} {ks : List Str} {nm : Option Str}
theorem Ekw.nil : Ekw X [] δ μ [] μ := ⟨pk_nil, fun W H σ Q A k => k W H [] .refl A .nil⟩
theorem Ekw.cons (h : Ev X e δ μ dv μ1) (hr : Ekw X kws δ μ1 dvs μ2) : Ekw X (⟨nm, e, kpos⟩ :: kws) δ μ (dv :: dvs) μ2 :=
  ⟨pk_cons semE_pe hr.pk, fun W H σ Q A k => h W H σ _ A fun W1 H1 x g1 A1 r1 => hr.ev W1 H1 σ _ A1 fun W2 H2 xs g2 A2 r2 => k W2 H2 (x :: xs) (g1.trans g2) A2 (.cons (r1.mono g2.le) r2)⟩
theorem Ev.callA (D : DfA X.prog X.w X.K X.mg X.base x k n Pm) (hr : Room k X.A) (hga : X.A.guards = some []) (tk : L2N.Takes X T) (ha : Ea X (e :: es) δ μ dvs μ1) (h : Pm dvs μ1 (.ret dv μ')) (hl : dvs.length = n := by rfl) (hg : Gl X x := by rfl) (hdb : (x == ("__debug__" : Str)) = false := by decide)
    (he : starEach (e :: es) X.env = (false, eval e X.env) :: starEach es X.env := by rfl) (hpl : (backTo pos (starEach es X.env)).any (·.1) = false := by rfl) : Ev X (.Call (.Name x p) (e :: es) [] pos) δ μ dv μ' := fun W H σ Q A q => by
  obtain ⟨f, fd, ps, F, hm, hk, hb⟩ := D.ex
  refine semE_of (pe_callA F hr hga hg hm hk hb (fun σ => L2N.passAt tk σ) ha.pa hdb he hpl) ?_
  refine ha.ev W H σ _ A fun W1 H1 vs g1 A1 r1 => ?_
  exact ⟨W1, μ1, dvs, _, hl, A1.st, r1, h, fun W' H' v g s r => q W' H' v (g1.trans g) (A1.le g s) r⟩
theorem Ev.callR (tk : L2N.Takes X T) (D : DfR X.prog X.w X.K X.mg X.base x k n ks Pm) (hr : Room k X.A) (ha : Ekw X kws δ μ dvs μ1) (h : Pm dvs.reverse μ1 (.ret dv μ')) (hl : dvs.length = n := by rfl) (hg : Gl X x := by rfl)
    (hall : (backToKw pos (keywordEach kws X.env)).all (·.1.isSome) = true := by rfl) (hks : (backToKw pos (keywordEach kws X.env)).filterMap (·.1) = ks := by rfl)
    (hdb : (x == ("__debug__" : Str)) = false := by decide) (hpl : ((backTo pos (starEach [] X.env)).any (·.1) || (backToKw pos (keywordEach kws X.env)).any (·.1.isNone)) = false := by rfl) : Ev X (.Call (.Name x p) [] kws pos) δ μ dv μ' := fun W H σ Q A q => by
  obtain ⟨f, fd, ps, F, hm, hk, hb⟩ := D.ex
  refine semE_of (pe_callR F hr hg hm hk hb (fun σ => L2N.passAt tk σ) ha.pk hall hks hdb hpl) ?_
  refine ha.ev W H σ _ A fun W1 H1 vs g1 A1 r1 => ?_
  exact ⟨W1, μ1, dvs.reverse, _, by rw [List.length_reverse]; exact hl, A1.st, Rels.rev r1, h, fun W' H' v g s r => q W' H' v (g1.trans g) (A1.le g s) r⟩
theorem Er.callR {C : Addr} {fs : Flds} (tk : L2N.Takes X T) (D : DfR X.prog X.w X.K X.mg X.base x k n ks Pm) (hr : Room k X.A) (ha : Ekw X kws δ μ dvs μ1) (h : Pm dvs.reverse μ1 (.exc C fs μ')) (hl : dvs.length = n := by rfl) (hg : Gl X x := by rfl)
    (hall : (backToKw pos (keywordEach kws X.env)).all (·.1.isSome) = true := by rfl) (hks : (backToKw pos (keywordEach kws X.env)).filterMap (·.1) = ks := by rfl)
    (hdb : (x == ("__debug__" : Str)) = false := by decide) (hpl : ((backTo pos (starEach [] X.env)).any (·.1) || (backToKw pos (keywordEach kws X.env)).any (·.1.isNone)) = false := by rfl) : Er X T (.Call (.Name x p) [] kws pos) δ μ C fs μ' := fun W H σ Q A q => by
  obtain ⟨f, fd, ps, F, hm, hk, hb⟩ := D.ex
  refine semE_of (pe_callR F hr hg hm hk hb (fun σ => L2N.passAt tk σ) ha.pk hall hks hdb hpl) ?_
  refine ha.ev W H σ _ A fun W1 H1 vs g1 A1 r1 => ?_
  exact ⟨W1, μ1, dvs.reverse, _, by rw [List.length_reverse]; exact hl, A1.st, Rels.rev r1, h, fun W' H' d g s r nq => q W' H' d (g1.trans g) (A1.le g s) r (nq.back g1)⟩
end
end Dt
set_option maxHeartbeats 4000000
/-! sorted of a tuple of ints; the end of a row whose defs show containers. -/
namespace L2
open PySem PySem.Spec PyProof.Rows
theorem sorted_intsT {prog : Program} {w : World} {A : Around} {E : Value → Shared → Prop} {s : Shared} {l : Addr} {o : Obj} {vs : List Value} {n : Nat} {ns : List Int} {Q : Value → Shared → Prop} (ho : s.heap.get? l = some o) (hc : o.cls = .type "tuple") (hd : o.data = .seq vs.toArray n) (hI : IntsAre vs ns) (h64 : vs.length < 64)
    (h : ∀ (h' : Heap) (p : Addr) (out : Array Value) (ns' : List Int) (e : Nat), (∃ h1 : Heap, (∀ b u, s.heap.get? b = some u → h1.get? b = some u) ∧ h1.objs.size ≤ p ∧ ∀ b u, h1.get? b = some u → h'.get? b = some u) → h'.get? p = some (seqObj "list" out e) → IntsAre out.toList ns' → ns'.Perm ns → ns'.Pairwise (· ≤ ·) → Q (.ref p) { s with heap := h' }) :
    wpAny (model prog w) A (call (.builtin "sorted") [.ref l]) Q E s := by
  refine Calls.call_function_entry kind_sorted plain_sorted entry_sorted (args_sorted1 _) ?_
  unfold Builtin.«sorted»
  refine wpAny_bind (m := checkCount "sorted" 1 1 _) (wpAny_pure ?_)
  refine wpAny_bind (wpAny_collect_seq l (.inr rfl) ho hc hd (fun h1 k1 => ?_) (by rw [List.size_toArray, sizeLine_eq]; omega))
  refine wpAny_bind (wpAny_newList ?_)
  show wpAny _ _ _ _ _ { s with heap := h1.push (seqObj "list" vs.toArray 0) }
  have hoL : (h1.push (seqObj "list" vs.toArray 0)).get? h1.objs.size = some (seqObj "list" vs.toArray 0) := Heap.get?_push_size _ rfl
  refine wpAny_bind (wpAny_holding (wpAny_call_entry slot_list_sort ⟨_, hoL, rfl⟩ entry_list_sort (list_sort_tree hoL hI h64 fun out ns' a1 a2 a3 => ⟨_, rfl, ?_⟩) (args_list_sort _)))
  obtain ⟨e, he⟩ := sortedHeap_at (out := out) hoL
  refine wpAny_pure ⟨_, rfl, h _ _ out ns' e ⟨h1, k1, Nat.le_refl _, fun b u hb => ?_⟩ he a1 a2 a3⟩
  have lt := Heap.lt_size hb
  rw [sortedHeap_old (Nat.ne_of_lt lt) (by rw [size_push']; exact Nat.lt_succ_of_lt lt)]
  exact Heap.get?_push_of_some _ hb
theorem cr_sortedT {X : Cx} : CallR X (.builtin "sorted") (fun vs H Q => ∃ (a : Addr) (ns : List Int), vs = [V.ref a] ∧ SqT X.K H a (ns.map V.int) ∧ ns.length < 64 ∧
    ∀ (ns' : List Int) (p : Addr), ns'.Perm ns → ns'.Pairwise (· ≤ ·) → H p = none → Q (.ref p) (upd H p (.lst (ns'.map V.int)))) := by
  intro pins s σ H vs us Q I r h
  obtain ⟨a, ns, rfl, hs, h64, q⟩ := h
  obtain ⟨its, rv, ⟨o, ho, hc, n, hd⟩, _⟩ := I.tuple hs
  rw [Vals.ref1 r]
  have hi := rv.ints
  refine sorted_intsT ho hc hd hi (by rw [hi.length]; exact h64) fun h' p out ns' e ⟨h1, k1, hp, k2⟩ he z1 z2 z3 => ?_
  have hlen : (ns'.map V.int).length ≤ sizeLine := by rw [List.length_map, z2.length_eq]; exact small64 h64
  have I1 : Inv X pins σ H { s with heap := h1, toks := s.toks } := I.kept k1
  exact ⟨.ref p, upd H p (.lst (ns'.map V.int)), I1.laid (h' := h') (t' := s.toks) k2 hp ⟨hlen, out.toList, e, vals_of_ints z1, he⟩, rfl, q ns' _ z2 z3 (I1.hok.fresh hp)⟩
end L2
namespace Dt
open PySem PySem.Spec L2
theorem CallS.sortedT {X : Cx} {μ : Store} {ns ms : List Int} (hl : ns.length < 64) (hp : ms.Perm ns) (ho : ms.Pairwise (· ≤ ·)) : CallS X (.builtin "sorted") [.dat (.tup (ns.map D.int))] μ (.dat (.lst (ms.map D.int))) μ :=
  ⟨_, cr_sortedT, fun W H σ δ vs Q A rv q => by
    obtain ⟨v, rfl, r⟩ := Rels.one rv
    obtain ⟨a, us, rfl, hs, t⟩ := tv_sq A.st r
    rw [DqA.ints t] at hs
    refine ⟨a, ns, rfl, hs, hl, fun ns' l p1 p2 hn => ?_⟩
    have e2 : ns' = ms := asc_unique (p1.trans hp.symm) p2 ho
    rw [e2]
    exact newLst A hn (ints_dq ms) q⟩
end Dt
set_option maxHeartbeats 4000000
/-! The end of a row whose defs show containers. -/
namespace L2
open PySem PySem.Spec PyProof.Rows
theorem caller_guards : callerA.guards = some [] := rfl
/-- at the caller, with an abstract heap that tracks the script at most -/
theorem law_at {P : Program} {w : World} {K : PySem.W.Frag} {mg mb : Str → Option Value} {k : Nat} {fa a : Addr} {fd : FuncData} {x : Str} {sp : Sp} {s₁ : Shared} {H : Hp}
    (KX : K.In s₁.heap) (hns : s₁.heap.Ns mainGlobals mg) (hb : s₁.heap.Ns builtinsNs mb) (hbb : ∀ x : Str, x ≠ "__name__" → mb x = bootBuiltins x) (hlim : s₁.heap.NoLimit) (hg : s₁.gens = #[]) (hr : Room k callerA)
    (F : ∀ base : Heap, K.In base → base.Ns mainGlobals mg → FnA P w K mg base (L2N.CX P w) k fa fd [x] sp) (hbind : ∀ (s : Shared) (u : Value), BindsTo s fd ⟨[u], []⟩ [(x, u)])
    (hsp : sp [.ref a] H (fun v _ => v = .bl true) fun _ _ _ => False) (hO : Only H) (hok : HOk P w H s₁.heap) (hA : ∀ b, H b ≠ none → b = a) (hK : H a ≠ none → K.lookup a = none)
    (hD : ∀ (o : Obj) (es : Array DictEntry) (ep : Nat), s₁.heap.get? a = some o → o.data ≠ .dict es ep) :
    codeAny (model P w) callerA (.call (.ref fa) ⟨[.ref a], []⟩) (fun r s' => r = .ok (.ret (.bool true)) ∧ OldK s₁.heap s'.heap ∧ s'.os = s₁.os ∧ AllBare s'.gens) s₁ := by
  have none_of : ∀ {b : Addr} {o : Obj}, s₁.heap.get? b = some o → b ≠ a → H b = none := fun {b o} _ ne => by
    cases q : H b with
    | none => rfl
    | some u => exact absurd (hA b (by rw [q]; exact Option.some_ne_none u)) ne
  have ns_of : ∀ {b : Addr} {m : Str → Option Value}, s₁.heap.Ns b m → (hidT s₁.heap H).Ns b m := fun {b m} ⟨o, es, ep, e, d, r⟩ =>
    ⟨o, es, ep, hidT_get e (none_of e fun z => hD o es ep (z ▸ e) d), d, r⟩
  have Kb : K.In (hidT s₁.heap H) := fun b o e => hidT_get (KX b o e) (by
    by_cases z : b = a
    · subst z
      cases q : H b with
      | none => rfl
      | some u =>
        have := hK (by rw [q]; exact Option.some_ne_none u)
        rw [e] at this
        cases this
    · exact none_of (KX b o e) z)
  have hM : Mod K mg (hidT s₁.heap H) := ⟨Kb, ns_of hns, ⟨mb, ns_of hb, hbb⟩, let ⟨mc, h1, h2⟩ := hlim; ⟨mc, ns_of h1, h2⟩⟩
  have e0 : Env0 P w K mg (hidT s₁.heap H) callerA [] s₁ H := ⟨rfl, hM, fun b o e => of_hidT e, Nat.le_of_eq (hidT_size _ _), trivial, fun b hb => absurd (show b ∈ ([] : List Addr) from hb) List.not_mem_nil, hok, .of_eq hg⟩
  refine codeAny_mono ((F _ Kb (ns_of hns)).run callerA [] s₁ H ⟨[.ref a], []⟩ [.ref a] [.ref a] _ _ hr caller_guards e0 (hbind s₁ (.ref a)) (.cons rfl .nil) hsp) fun r s' h => ?_
  cases r with
  | error e =>
    obtain ⟨_, _, _, _, _, _, _, _, _, _, _, _, z⟩ := (show L2N.CX P w [] H s₁ (fun _ _ _ => False) e s' from h)
    exact z.elim
  | ok fl =>
    cases fl with
    | next => exact False.elim h
    | brk => exact False.elim h
    | cont => exact False.elim h
    | ret u =>
      obtain ⟨v, H', os, bare, un, hok', r', q⟩ := h
      have q' : v = .bl true := q
      subst q'
      obtain rfl : u = Value.bool true := r'
      refine ⟨rfl, OldK.of_keep fun b o e => ?_, os, bare⟩
      cases q : H b with
      | none => exact un.keep b o e q (fun z => absurd (show b ∈ ([] : List Addr) from z) List.not_mem_nil) (by simp)
      | some u =>
        rcases hO b with z | ⟨ob, xs, z⟩
        · rw [q] at z
          cases z
        · obtain ⟨e1, _⟩ := hok b _ z
          obtain ⟨e2, _⟩ := hok' b _ (un.frzs b ob _ z)
          rw [e] at e1
          cases e1
          exact e2
theorem law_callA {P : Program} {w : World} {K : PySem.W.Frag} {mg mb : Str → Option Value} {k : Nat} {fa a : Addr} {fd : FuncData} {x : Str} {sp : Sp} {s₁ : Shared} {vs : List Value} {ns : List Int}
    (KX : K.In s₁.heap) (hns : s₁.heap.Ns mainGlobals mg) (hb : s₁.heap.Ns builtinsNs mb) (hbb : ∀ x : Str, x ≠ "__name__" → mb x = bootBuiltins x) (hlim : s₁.heap.NoLimit) (hg : s₁.gens = #[])
    (ha : s₁.heap.get? a = some { cls := .type "list", data := .seq vs.toArray }) (hi : IntsAre vs ns) (hl : ns.length ≤ sizeLine) (hr : Room k callerA)
    (F : ∀ base : Heap, K.In base → base.Ns mainGlobals mg → FnA P w K mg base (L2N.CX P w) k fa fd [x] sp) (hbind : ∀ (s : Shared) (u : Value), BindsTo s fd ⟨[u], []⟩ [(x, u)])
    (hsp : ∀ H : Hp, Only H → SqL K H a (ns.map V.int) → sp [.ref a] H (fun v _ => v = .bl true) fun _ _ _ => False) :
    codeAny (model P w) callerA (.call (.ref fa) ⟨[.ref a], []⟩) (fun r s' => r = .ok (.ret (.bool true)) ∧ OldK s₁.heap s'.heap ∧ s'.os = s₁.os ∧ AllBare s'.gens) s₁ := by
  have rv := vals_ints hi
  have lenV := hi.length
  have hD : ∀ (o : Obj) (es : Array DictEntry) (ep : Nat), s₁.heap.get? a = some o → o.data ≠ .dict es ep := fun o es ep e d => by
    rw [ha] at e
    cases e
    cases d
  cases hk : K.lookup a with
  | some o =>
    have e := KX a o hk
    rw [ha] at e
    cases e
    have hO : Only fun _ => none := fun _ => .inl rfl
    refine law_at KX hns hb hbb hlim hg hr F hbind (hsp (fun _ => none) hO ?_) hO (fun b u z => ?_) (fun b z => absurd rfl z) (fun z => absurd rfl z) hD
    · exact .inr ⟨_, vs.toArray, _, hk, rfl, rfl, rfl, by rw [List.size_toArray, lenV]; exact hl, by simpa using rv⟩
    · have z' : (none : Option HO) = some u := z
      cases z'
  | none =>
    have atA : ∀ {b : Addr} {u : HO}, (if b = a then some (HO.frz { cls := .type "list", data := .seq vs.toArray } (.lst (ns.map V.int))) else none) = some u → b = a ∧ u = HO.frz { cls := .type "list", data := .seq vs.toArray } (.lst (ns.map V.int)) := fun {b u} z => by
      by_cases q : b = a
      · rw [if_pos q] at z
        cases z
        exact ⟨q, rfl⟩
      · rw [if_neg q] at z
        cases z
    have hO : Only fun b => if b = a then some (.frz { cls := .type "list", data := .seq vs.toArray } (.lst (ns.map V.int))) else none := fun b => by
      by_cases q : b = a
      · exact .inr ⟨_, _, if_pos q⟩
      · exact .inl (if_neg q)
    refine law_at KX hns hb hbb hlim hg hr F hbind (hsp _ hO (.inl (.inr ⟨{ cls := .type "list", data := .seq vs.toArray }, if_pos rfl⟩))) hO (fun b u z => ?_) (fun b z => ?_) (fun _ => hk) hD
    · obtain ⟨rfl, rfl⟩ := atA z
      exact ⟨ha, by rw [List.length_map]; exact hl, vs, _, rv, ha⟩
    · by_cases q : b = a
      · exact q
      · exact absurd (if_neg q) z
theorem walk_ofA {l : PySem.W.OpenLaw} {n k : Nat} {q : Program} {loose : List Str} {XP : (Str → Option Value) → Heap → Prop} {YP : World → Heap → Prop} {d : DefRec} {K : Params → PySem.W.Frag} {sp : World → Sp} {x : Str}
    (hn : l.most = some n) (hn2 : n ≤ sizeLine) (hdf : d.params.defaults = []) (hr : Room k callerA)
    (hY : ∀ (w : World) (h : Heap), YP w h → (K w.params).In h)
    (F : ∀ (w : World) (mg : Str → Option Value) (fa : Addr) (h : Heap), (K w.params).In h → h.Ns mainGlobals mg → mg d.name = some (.ref fa) →
      ∃ fd : FuncData, (∀ (s : Shared) (u : Value), BindsTo s fd ⟨[u], []⟩ [(x, u)]) ∧
        ∀ base : Heap, (K w.params).In base → base.Ns mainGlobals mg → FnA l.prog w (K w.params) mg base (L2N.CX l.prog w) k fa fd [x] (sp w))
    (hsp : ∀ (w : World) (H : Hp) (a : Addr) (ns : List Int), ns.length ≤ n → Only H → SqL (K w.params) H a (ns.map V.int) → sp w [.ref a] H (fun v _ => v = .bl true) fun _ _ _ => False) :
    PySem.W.WalkO q loose XP YP l.row.toRowW d [] (fun f vs => PySem.call f vs) := by
  refine Att.attach_call hn hdf fun w s₀ s₁ mg mb fa o pm cd doc a vs ns G Y ho hd hcd hmg hobj hints hlen hg => ?_
  have KX := hY w _ Y
  obtain ⟨fd, hb, hF⟩ := F w mg fa _ KX G.T.g hmg
  exact law_callA KX G.T.g G.T.b G.T.builtins G.T.nolimit hg hobj hints (Nat.le_trans hlen hn2) hr hF hb fun H hO hS => hsp w H a ns hlen hO hS
end L2
set_option maxHeartbeats 4000000
/-! List comprehensions in a def that an except suite calls (lc_core of HandS.Comp turned to a handled exception). -/
namespace HotX
open PySem PySem.Spec PyProof.Rows
section
variable {prog : Program} {w : World} {A : Around} {E : Value → Shared → Prop} {s : Shared}
theorem pyNext_list_end_hot {it l x1 : Addr} {i : Nat} {items : Array Value} {Q : Option Value → Shared → Prop} (hot : HotAt A x1 s.heap) (hne : x1 ≠ it)
    (hit : s.heap.IsListIter it l i) (hl : s.heap.IsList l items) (hx : items[i]? = none)
    (hQ : ∀ h', Heap.ExtBut it s.heap h' → Q none { s with heap := h' }) : wpAny (model prog w) A (pyNext (.ref it)) Q E s := by
  obtain ⟨hh, o1, vs1, h1, d1, c1⟩ := hot
  obtain ⟨o, ho, hc, hd⟩ := id hit
  obtain ⟨ol, hol, _, nl, hdl⟩ := hl
  unfold pyNext
  refine wpAny_bind (wpAny_attempt (wpAny_callSpecial?_slot (name := Str.ofString "__next__") hit.typeIs slot_listiter_next
    (wpAny_call_entry slot_listiter_next hit.typeIs entry_listiter_next ?_ (args_listiter_next _))))
  show wpAny _ _ (field (.ref it) 0 >>= _) _ _ s
  refine wpAny_bind (wpAny_field ho hd (x := .ref l) rfl ?_)
  show wpAny _ _ (if (Value.ref l == Value.none) = true then _ else _) _ _ s
  rw [if_neg (show ¬ ((Value.ref l == Value.none) = true) from Bool.false_ne_true)]
  show wpAny _ _ (field (.ref it) 1 >>= _) _ _ s
  refine wpAny_bind (wpAny_field ho hd (x := .int i 0) rfl ?_)
  show wpAny _ _ (seqItems? (.ref l) >>= _) _ _ s
  refine wpAny_bind (wpAny_seqItems hol hdl ?_)
  simp only [Int.toNat_natCast, hx]
  refine wpAny_bind (wpAny_rule (wpAny_bind (wpAny_setField ho hd (by simp) ?_)))
  show wpAny _ _ (newExc (.type "StopIteration") [] >>= _) _ _ _
  refine wpAny_bind ?_
  simp only [newExc, newTuple]
  refine wpAny_bind (wpAny_newObj_type ?_ (by size_fits))
  refine wpAny_bind (m := firstArgMember _ _) (wpAny_of_eq (a := Value.none) (by first | rfl | (simp only [firstArgMember]; rfl)) ?_)
  refine wpAny_newObj_type ?_ (by size_fits)
  have h1' := (Heap.SameBut.update s.heap it (Obj.mapFields (·.setIfInBounds 0 .none))).extBut x1 o1 hne h1
  refine raiseNew_hot ⟨hh, o1, vs1, Heap.get?_push_of_some _ (Heap.get?_push_of_some _ h1'), d1, c1⟩ (Nat.ne_of_lt (Heap.lt_size (Heap.get?_push_of_some _ h1'))) (Heap.get?_push_size _ rfl) rfl (by first | (simp; done) | (simp; omega) | (simp only [Array.size_append]; simp; omega)) ?_
  refine wpAny_bind (wpAny_isInstance (T := "StopIteration") (b := true) ⟨_, Heap.get?_update_self _ (Heap.get?_push_size _ rfl) rfl, rfl⟩ isSubtype_stop ?_)
  refine wpAny_pure (hQ _ fun b o hb e => ?_)
  have e1 := (Heap.SameBut.update s.heap it (Obj.mapFields (·.setIfInBounds 0 .none))).extBut b o hb e
  rw [Heap.get?_update_other _ _ (Nat.ne_of_gt (Heap.lt_size (Heap.get?_push_of_some _ e1)))]
  exact Heap.get?_push_of_some _ (Heap.get?_push_of_some _ e1)
end
end HotX
namespace L2
abbrev Cx.blkP (X : Cx) (s : PySem.Shared) (H : Hp) (scope : PySem.Scope) (cenv : PySem.Env) (fp : List PySem.Addr) : Cx := { X.blk s H scope cenv fp with pn := X.pn }
theorem Inv.toP {X : Cx} {s : PySem.Shared} {H0 H : Hp} {scope : PySem.Scope} {cenv : PySem.Env} {fp : List PySem.Addr} {σ : St} {s' : PySem.Shared} (I : Inv (X.blk s H0 scope cenv fp) [] σ H s')
    (h : ∀ p ∈ X.pn, s'.heap.get? p.1 = some p.2 ∧ H p.1 = none ∧ p.1 ≠ cenv.locals ∧ p.1 ∉ frs X.stack ∧ ∀ v, p.2.data ≠ .cell v) : Inv (X.blkP s H0 scope cenv fp) [] σ H s' := by
  obtain ⟨k, i2, i3, i4, i5, i6, i7, i8, i9, i10, i11⟩ := I
  exact ⟨⟨k.mod, k.kind, k.glob, k.blt, k.above, k.inj, k.has, k.cab, k.hd, k.frames, k.stk, k.exf, k.bs, k.bsz, k.noex, k.exfs, k.funs, k.frf⟩, i2, i3, i4, i5, i6, i7, i8, fun p hp => h p (by simpa using hp), i10, i11⟩
end L2
namespace L2H
open PySem PySem.Spec PyProof.Rows L2 HotX
theorem turn_listH {P : Program} {w : World} {K : PySem.W.Frag} {tg : Expr} (a it : Addr) : TurnH P w K tg (Itl K a) [it] it (fun i h => h.IsListIter it a i) where
  mem := by simp
  obj := fun i h st b hb => by
    have e : b = it := by simpa using hb
    subst e
    obtain ⟨o, e, c, d⟩ := st
    exact ⟨o, e, fun v z => by rw [d] at z; cases z⟩
  keep := fun i h h' st k => st.at fun o e => k it (by simp) o e
  item := by
    intro X hP hw hK hc i pins s σ H E I hf st hg
    subst hP hw hK
    obtain ⟨xs, x, hq, hx⟩ := hg
    obtain ⟨its, rv, p, hz⟩ := I.list hq
    obtain ⟨u, hu, ru⟩ := rv.get hx
    obtain ⟨f0, f1, f2, f3, f4, f5⟩ := hf it (by simp)
    refine wpAny_pyNext_list_item st p.isList (x := u) (by simpa using hu) fun h' st' sb => ?_
    have I1 : Inv X pins σ H { s with heap := h' } := I.turned (t' := s.toks) (fun b o hb e => (sb.2 b hb).trans e) f0 f1 f3 f4 f5
    obtain ⟨o, e, c, d⟩ := id st'
    exact ⟨u, rfl, go_of (s := { s with heap := h' }) e c d (by decide) ⟨x, H, I1, ru, ⟨rfl, fun ys hy => by rw [I.list_inj hy hq]; exact hx⟩, st', fun b hb => (hf b hb).1⟩⟩
  done := by
    intro X hP hw hK hc i pins s σ H E I hf st hg
    subst hP hw hK
    obtain ⟨xs, hq, hx⟩ := hg
    obtain ⟨its, rv, p, hz⟩ := I.list hq
    obtain ⟨f0, f1, f2, f3, f4, f5⟩ := hf it (by simp)
    have hl := rv.length
    obtain ⟨q, ⟨hh, v1, e1, c1⟩, hp⟩ := hc
    have P1 := (I.pin q (List.mem_append_left _ hp)).1
    exact pyNext_list_end_hot (x1 := q.1) ⟨hh, q.2, v1, P1, e1, c1⟩ (f5 q (List.mem_append_left _ hp)) st p.isList (by simp; omega) fun h' eb => ⟨rfl, I.turned (t' := s.toks) (fun b o hb e => eb b o hb e) f0 f1 f3 f4 f5⟩
  self := fun _ _ _ _ _ st h => wpAny_pyIter_listiter st h
theorem pi_listH {X : Cx} {tg l : Expr} {tl : TE} (hl : PE X l tl) : PIH X tg l (iList X.K tl) := by
  refine ⟨fun pins s σ H R I h => ?_⟩
  refine thn (hl.run pins s σ H _ I h) fun v s1 ⟨x, H1, I1, r1, q1⟩ => ?_
  obtain ⟨a, e, ⟨xs, hq⟩, q⟩ := q1
  subst e
  cases r1
  obtain ⟨its, rv, p, hz⟩ := I1.list hq
  refine wpAny_pyIter_list p.isList ?_
  refine ⟨s1.heap.objs.size, [s1.heap.objs.size], _, _, H1, rfl, I1.kept (t' := s1.toks) fun b o e => Heap.get?_push_of_some _ e, turn_listH a _, ⟨_, Heap.get?_push_size _ rfl, rfl, rfl⟩, fun b hb => ?_, q⟩
  have e : b = s1.heap.objs.size := by simpa using hb
  subst e
  exact I1.fpOk (Nat.le_refl _) (I1.hok.fresh (Nat.le_refl _))
section
variable {X : Cx}
theorem lc_coreH {pins : List (Addr × Obj)} {s : Shared} {σ : St} {H : Hp} {Q : VK} {elt tg iter : Expr} {ifs : List Expr} {scope : Scope} {own : List (Str × Nat)} {pos pos' : Pos} {wi : TI} {g : TG} {tt : TT} {te : TE} {use : Option (Value → Sem Unit)} {Qf : Value → Shared → Prop}
    (hc : HotC X) (hN : X.N.Nodup) (I : Inv X pins σ H s) (hi : PIH X tg iter wi) (ok : BlkOk X.N X.env.scope scope own)
    (hg : ∀ (s : Shared) (H : Hp) (C : Addr) (cl : List (Str × Addr)) (fp : List Addr), PG (X.blkP s H scope (compEnvC scope cl C X.env) fp) tg g) (ht : ∀ (s : Shared) (H : Hp) (C : Addr) (cl : List (Str × Addr)) (fp : List Addr), PTs (X.blkP s H scope (compEnvC scope cl C X.env) fp) ifs tt)
    (he : ∀ (s : Shared) (H : Hp) (C : Addr) (cl : List (Str × Addr)) (fp : List Addr), PE (X.blkP s H scope (compEnvC scope cl C X.env) fp) elt te) (hs : ∀ x, foldedSetIterable iter X.env x = pure x)
    (h : tLc wi g tt te (own.map (·.2)) σ H Q)
    (hRR : ∀ D C s' m H', Inv X pins σ H' s' → Q (.ref D) H' → s'.heap.Ns C m → FpOk X pins H' C → compPost (model X.prog X.w) X.A X.xe use Qf (.ref D) C (.ok .next) s') :
    wpAny (model X.prog X.w) X.A (comprehension (.ListComp elt [⟨tg, iter, ifs, 0⟩] scope pos) scope X.env pos' (newList []) false (eval iter X.env) use) Qf X.xe s := by
  have hfree : ∀ y ∈ scope.names, y.2 = .free → ∃ c, X.env.cells.lookup y.1 = some c := fun y hy e => by
    rcases ok.free y hy e with k | k
    · exact I.ok.has _ (.inl k)
    · exact I.ok.has _ (.inr k)
  refine wpAny_comprehension_free (use := use) rfl hs (closure_ok hfree) ok.kind (fun y hy e => by rw [ok.uniq y hy, e])
    (thn (hi.run pins s σ H _ I h) fun xv s1 hx => thn hx fun itv s2 h2 => ?_)
  obtain ⟨it, fp, tn, J, H2, e, I2, T, st2, f2, q⟩ := h2
  subst e
  refine wpAny_newObj_type (newEnv_comp ?_) (by show 0 ≤ sizeLine; decide)
  generalize hD : s2.heap.objs.size = D
  have hDn : H2 D = none := I2.hok.fresh (Nat.le_of_eq hD)
  obtain ⟨W, ⟨m0, w0⟩, turn⟩ := q D hDn
  -- the new list
  generalize hs3 : ({ s2 with heap := s2.heap.push { cls := .type "list", data := .seq ([] : List Value).toArray } } : Shared) = s3
  have I3 : Inv X pins σ (upd H2 D (.lst [])) s3 := by
    rw [← hs3]
    refine I2.laid (t' := s2.toks) (fun b o e => Heap.get?_push_of_some _ e) (Nat.le_of_eq hD) ⟨Nat.zero_le _, [], 0, .nil, ?_⟩
    rw [← hD]
    exact Heap.get?_push_size _ rfl
  have h3 : s3.heap = s2.heap.push { cls := .type "list", data := .seq ([] : List Value).toArray } := by rw [← hs3]
  have sz : ∀ b ∈ fp, b < s2.heap.objs.size := fun b hb => by
    obtain ⟨o, e, _⟩ := T.obj _ _ st2 b hb
    exact Heap.lt_size e
  have f3 : ∀ b ∈ fp, FpOk X pins (upd H2 D (.lst [])) b ∧ b < s3.heap.objs.size := fun b hb => by
    have hlt := sz b hb
    refine ⟨⟨?_, (f2 b hb).2⟩, by rw [h3, Heap.size_push]; exact Nat.lt_succ_of_lt hlt⟩
    rw [upd_ne (by rw [← hD]; exact Nat.ne_of_lt hlt)]
    exact (f2 b hb).1
  have st3 : tn 0 s3.heap := T.keep _ _ _ st2 fun b _ o e => by rw [h3]; exact Heap.get?_push_of_some _ e
  have I4 := (block_start I3 ok hN f3).toP fun p hp => by
    obtain ⟨p1, p2, p3, p4, p5⟩ := I3.pin p (List.mem_append_left _ hp)
    exact ⟨pushCells_keeps _ _ _ _ (Heap.get?_push_of_some _ p1), p2, Nat.ne_of_lt (Heap.lt_size p1), fun z => (List.mem_cons.mp (I3.stkSub p.1 z)).elim p3 p4, p5⟩
  have pg := hg s3 (upd H2 D (.lst [])) s3.heap.objs.size (cellsFrom (s3.heap.objs.size + 1) scope.names (cloFrom X.env.cells scope.names [])) fp
  have pt := ht s3 (upd H2 D (.lst [])) s3.heap.objs.size (cellsFrom (s3.heap.objs.size + 1) scope.names (cloFrom X.env.cells scope.names [])) fp
  have pe := he s3 (upd H2 D (.lst [])) s3.heap.objs.size (cellsFrom (s3.heap.objs.size + 1) scope.names (cloFrom X.env.cells scope.names [])) fp
  show codeAny _ _ (.compStart (.ListComp elt [⟨tg, iter, ifs, 0⟩] scope pos) 0 (.ref it) (.ref D) (compEnvC scope (cellsFrom (s3.heap.objs.size + 1) scope.names (cloFrom X.env.cells scope.names [])) s3.heap.objs.size X.env)) (compPost (model X.prog X.w) X.A X.xe use Qf (.ref D) s3.heap.objs.size) { s3 with heap := pushCells (s3.heap.push { cls := .type "dict", data := .dict #[] }) scope.names }
  have nfp : ∀ b ∈ fp, (upd H2 D (.lst [])) b = none := fun b hb => (f3 b hb).1.1
  generalize hce : compEnvC scope (cellsFrom (s3.heap.objs.size + 1) scope.names (cloFrom X.env.cells scope.names [])) s3.heap.objs.size X.env = ce at I4 pg pt pe ⊢
  have cL : ce.locals = s3.heap.objs.size := by subst hce; rfl
  generalize hH3 : upd H2 D (.lst []) = H3 at I3 I4 pg pt pe w0 nfp f3
  generalize hs4 : ({ s3 with heap := pushCells (s3.heap.push { cls := .type "dict", data := .dict #[] }) scope.names } : Shared) = s4 at I4 ⊢
  have st4 : tn 0 s4.heap := T.keep _ _ _ st3 fun b _ o e => by rw [← hs4]; exact pushCells_keeps _ _ _ _ (Heap.get?_push_of_some _ e)
  have stat : ∀ {σ' : St} {H' : Hp} {s' : Shared}, Inv (X.blkP s3 H3 scope ce fp) [] σ' H' s' → (∀ b ∈ fp, H' b = none) → ∀ b ∈ fp, FpOk (X.blkP s3 H3 scope ce fp) [] H' b := fun {σ' H' s'} I' hn b hb =>
    ⟨hn b hb, (I'.ok.exf b hb).1, I'.ok.exfs b hb, .inl hb, fun x c e => (I'.ok.exf b hb).2 x c e, fun p hp => (f3 b hb).1.2.2.2.2.2 p (List.mem_append_left _ (by simpa using hp))⟩
  have loop : codeAny (model X.prog X.w) X.A (.compLoop (.ListComp elt [⟨tg, iter, ifs, 0⟩] scope pos) 0 (.ref it) (.ref D) ce) (compPost (model X.prog X.w) X.A X.xe use Qf (.ref D) s3.heap.objs.size) s4 := by
    refine compLoop_any (fun n s' => ∃ i H', Inv (X.blkP s3 H3 scope ce fp) [] (wipe σ (own.map (·.2))) H' s' ∧ tn i s'.heap ∧ (∀ b ∈ fp, H' b = none) ∧ W i n H') ?_ m0 ⟨0, H3, I4, st4, nfp, w0⟩
    rintro n s5 ⟨i, H5, I5, st5, n5, w5⟩
    rcases turn i n H5 w5 with ⟨stop, qq⟩ | ⟨go, Nx, hNx, step⟩
    · have td := T.done (X.blkP s3 H3 scope ce fp) rfl rfl rfl hc i [] s5 _ H5 (fun _ _ => False) I5 (stat I5 n5) st5 stop
      refine thnF td fun r s6 ⟨hr, I6⟩ => ?_
      subst hr
      -- back in the def's context
      have I7 : Inv X pins σ H5 s6 := I3.call' (ch := fp) I6.os I6.base I6.hok I6.bare fun b hb => ⟨(f3 b hb).1.2.2.2.1, (f3 b hb).1.2.1, (f3 b hb).1.2.2.2.2.1, (f3 b hb).1.2.2.2.2.2⟩
      have nC : H5 s3.heap.objs.size = none := by
        have z : H5 ce.locals = none := I6.free
        rw [cL] at z
        exact z
      obtain ⟨m, hn, _⟩ := I6.loc
      have hn : s6.heap.Ns ce.locals m := hn
      rw [cL] at hn
      exact hRR D s3.heap.objs.size s6 m H5 I7 qq hn (I3.fpOk (Nat.le_refl _) nC)
    · have ti := T.item (X.blkP s3 H3 scope ce fp) rfl rfl rfl hc i [] s5 _ H5 (fun _ _ => False) I5 (stat I5 n5) st5 go
      refine thnF ti fun r s6 ⟨u, hr, h6⟩ => ?_
      subst hr
      refine thnF h6 fun _ s7 ⟨x, H7, I7, r7, y7, st7, n7⟩ => ?_
      have I7' := I7.pinned (stat I7 n7) (T.obj _ _ st7)
      refine thnF (pg.run _ s7 _ H7 x u _ I7' r7 (step x H7 y7)) fun _ s8 ⟨σ8, H8, I8, hw8, q8⟩ => ?_
      refine thnF (pt.run _ s8 σ8 H8 _ I8 q8) fun b s9 ⟨H9, I9, q9⟩ => ?_
      -- the turn's end
      have fin : ∀ {s' : Shared} {H' : Hp}, Inv (X.blkP s3 H3 scope ce fp) ([] ++ pinsAt fp s7.heap) σ8 H' s' → Nx H' → ∃ m, m < n ∧ ∃ i H', Inv (X.blkP s3 H3 scope ce fp) [] (wipe σ (own.map (·.2))) H' s' ∧ tn i s'.heap ∧ (∀ b ∈ fp, H' b = none) ∧ W i m H' := fun {s' H'} I' nx => by
        obtain ⟨m', hm, w'⟩ := hNx H' nx
        have pin' : ∀ b ∈ fp, ∀ o, s7.heap.get? b = some o → s'.heap.get? b = some o ∧ H' b = none := fun b hb o e =>
          let z := I'.pin (b, o) (List.mem_append_right _ (List.mem_append_right _ (mem_pinsAt hb e)))
          ⟨z.1, z.2.1⟩
        have hl : (wipe σ (own.map (·.2))).length = σ8.length := by rw [← hw8, wipe_length]
        refine ⟨m', hm, i + 1, H', (I'.unpinned (pins := [])).weak hl (fun j v e => ?_), T.keep _ _ _ st7 fun b hb o e => (pin' b hb o e).1, fun b hb => ?_, w'⟩
        · rw [← hw8] at e
          exact (wipe_some e).1
        · obtain ⟨o, e, _⟩ := T.obj _ _ st7 b hb
          exact (pin' b hb o e).2
      cases b with
      | false =>
        simp only [Bool.false_eq_true, if_false] at q9 ⊢
        exact fin I9 q9
      | true =>
        simp only [if_true] at q9 ⊢
        refine thnF (pe.run _ s9 σ8 H9 _ I9 q9) fun z s10 ⟨yv, H10, I10, r10, acc, hD10, hz10, nx⟩ => ?_
        exact app_ok (X := X.blkP s3 H3 scope ce fp) I10 hD10 hz10 r10 fun s11 I11 => fin I11 nx
  exact codeAny_compStart_list loop (T.self X.A 0 _ _ _ st4 loop)
theorem pe_lcH {elt tg iter : Expr} {ifs : List Expr} {scope : Scope} {own : List (Str × Nat)} {pos : Pos} {wi : TI} {g : TG} {tt : TT} {te : TE} (hc : HotC X) (hN : X.N.Nodup) (hi : PIH X tg iter wi) (ok : BlkOk X.N X.env.scope scope own)
    (hg : ∀ (s : Shared) (H : Hp) (C : Addr) (cl : List (Str × Addr)) (fp : List Addr), PG (X.blkP s H scope (compEnvC scope cl C X.env) fp) tg g) (ht : ∀ (s : Shared) (H : Hp) (C : Addr) (cl : List (Str × Addr)) (fp : List Addr), PTs (X.blkP s H scope (compEnvC scope cl C X.env) fp) ifs tt)
    (he : ∀ (s : Shared) (H : Hp) (C : Addr) (cl : List (Str × Addr)) (fp : List Addr), PE (X.blkP s H scope (compEnvC scope cl C X.env) fp) elt te) (hs : ∀ x, foldedSetIterable iter X.env x = pure x := by intro _; rfl) :
    PE X (.ListComp elt [⟨tg, iter, ifs, 0⟩] scope pos) (tLc wi g tt te (own.map (·.2))) := by
  refine ⟨fun pins s σ H Q I h => ?_⟩
  rw [eval_ListComp]
  refine lc_coreH hc hN I hi ok hg ht he hs h fun D C s' m H' I' q hn f => ⟨m, hn, fun h'' sb => ?_⟩
  obtain ⟨f0, f1, f2, f3, f4, f5⟩ := f
  exact ⟨.ref D, H', I'.turned (t' := s'.toks) (fun b o hb e => (sb.2 b hb).trans e) f0 f1 f3 f4 f5, rfl, q⟩
end
end L2H
set_option maxHeartbeats 4000000
/-! A def that an except suite calls with the exception it holds. -/
namespace PySem.W
open PySem PySem.Spec PySem.Calls PyProof.Rows
section
variable {prog : Program} {w : World} {A : Around} {E : Value → Shared → Prop} {s : Shared} {K : Frag} {x D : Addr} {ox : Obj} {od : Option Obj}
theorem findObj_dataO {C : Addr} {name : Str} {a g : Value} (hc : (clsIn K C).isSome = true) (ha : findIn K (.ref C) name = some (some a)) (hg : specialIn K a "__get__" = some (some g)) (ht : takesIn K a = some true) : findObj K C od name = some (.bind g a) := by
  obtain ⟨cd, hc⟩ := Option.isSome_iff_exists.mp hc
  unfold findObj
  rw [hc, Option.bind_some, ha, Option.bind_some]
  simp [hg, ht]
/-- kin_classE of HandS.ExcIs for an error with its own dict -/
theorem kin_classO {Q : Option Value → Shared → Prop} (C : L2.ExcC K D)
    (X : K.In s.heap) (I : InstAt s.heap x ox D od) (h : Q (some (.ref D)) { s with toks := s.toks + 1 }) : wpAny (model prog w) A (getAttr? (.ref x) "__class__") Q E s := by
  have hf : findObj K D od "__class__" = some (.bind (.builtin "getset_descriptor.__get__") (.builtin "object.__class__")) := findObj_dataO (by obtain ⟨cd, hc, _⟩ := any_some C.hd; rw [hc]; rfl) C.ha C.hn C.ht
  obtain ⟨hp, g, d, t, os⟩ := s
  have L0 := I.type (M := model prog w)
  have L1 := looks_findIn (M := model prog w) X C.hg
  have L2 := looks_findIn (M := model prog w) X C.hk
  have L3 := looks_find (M := model prog w) X I hf
  have sub : Looks (model prog w) hp (isInstance (.ref x) (.type "BaseException")) true := L0.andThen (looks_subIn X C.hs)
  have hx0 : (false && onTheHeap (Value.builtin "BaseException.__getattribute__")) = false := rfl
  have hx2 : (Value.builtin "BaseException.__getattribute__" == Value.builtin "object.__getattribute__") = false := by decide +kernel
  have hx1 : (onTheHeap (Value.ref D) && Value.builtin "BaseException.__getattribute__" == Value.builtin "object.__getattribute__") = false := by rw [hx2]; rfl
  unfold getAttr? getAttrBy? getAttrBy
  refine wpAny_bind (wpAny_mkText (wpAny_bind (wpAny_attempt (wpAny_holding (wpAny_bind (L0.at (wpAny_bind (L1.at ?_))))))))
  show wpAny _ _ (if (onTheHeap (Value.ref D) && Value.builtin "BaseException.__getattribute__" == Value.builtin "object.__getattribute__") = true then _ else _) _ _ _
  rw [hx1, if_neg Bool.false_ne_true]
  unfold getAttrByItsOwn hookBefore
  refine wpAny_bind ?_
  rw [if_pos (show onTheHeap (Value.ref D) = true from rfl)]
  refine L2.at ?_
  refine wpAny_bind (wpAny_attempt (wpAny_holding ?_))
  unfold callGetattribute
  rw [hx0, if_neg Bool.false_ne_true]
  unfold boundAndCalled
  rw [PySem.F.excAttr_ValueError.ga.bind (.ref x)]
  refine wpAny_bind (wpAny_pure ?_)
  show wpAny _ _ (call (.builtin "BaseException.__getattribute__") [.ref x, .str "__class__" t]) _ _ _
  refine wpAny_call (codeAny_call_builtin PySem.F.excAttr_ValueError.ga.plain PySem.F.entry_bexc_ga ?_)
  refine @check_slot (model prog w) _ _ ⟨hp, g, d, t + 1, os⟩ "BaseException.__getattribute__" "BaseException" "__getattribute__" (.ref x) [.str "__class__" t] [] _ (by decide +kernel) (by decide +kernel) sub (PySem.F.args_bexc_ga (.ref x) (.str "__class__" t)) ?_
  unfold Builtin.«object.__getattribute__»
  refine wpAny_bind (wpAny_of_eq (a := ((Value.ref x : Value), [Value.str "__class__" t])) (by first | rfl | (simp only [slotArgs]; rfl)) ?_)
  refine wpAny_bind (wpAny_pure (wpAny_bind (L0.at (wpAny_bind (L3.at ?_)))))
  show wpAny _ _ (holding [Value.builtin "object.__class__"] (call (.builtin "getset_descriptor.__get__") [.builtin "object.__class__", .ref x, .ref D]) >>= ret) _ _ _
  refine wpAny_bind (wpAny_holding (wpAny_call (class_get (s := ⟨hp, g, d, t + 1, os⟩) (ox := ox) (od := od) X I C.hm ?_)))
  refine wpAny_pure ?_
  show wpAny _ _ (handedOut (.ref D)) _ _ _
  rw [handedOut_of (v := .ref D) rfl]
  first
    | exact wpAny_pure (wpAny_pure h)
    | exact wpAny_pure h
    | exact wpAny_pure (wpAny_bind (wpAny_pure (wpAny_pure h)))
theorem kitx_excO (C : L2.ExcC K D) : KitX K (.ref x) (.ref D) (fun h => InstAt h x ox D od) where
  ty := fun _ _ _ I => I.type
  it := fun _ _ X _ => by
    obtain ⟨cdD, hcD, _⟩ := any_some C.hd
    unfold clsIn at hcD
    split at hcD
    · rename_i c' d' cd' sl' ho
      intro A' Q' E' s' k q
      unfold isType loadHead
      exact wpAny_bind (wpAny_loadPart (k _ _ (X _ _ ho)) (wpAny_pure q))
    · cases hcD
  ne := (handS_kitx_exc (x := x) (ox := ox) C.hg C.hk C.hs C.hd C.ha C.hn C.ht C.hm).ne
  ca := fun X I k => kin_classO C X I k
end
end PySem.W
namespace L2H
open PySem PySem.Spec PyProof.Rows L2 HotX
/-- isinstance(e, c), e the exception that is handled, with its own dict at dd -/
theorem call_isX {X : Cx} {a D dd : Addr} {oe : Obj} (C : ExcC X.K D) (hp : (a, oe) ∈ X.pn) (hz : L2N.Zn (.ref D) (some dd) oe) (hf : ∃ vs, oe.data = .fields vs) :
    CallR X (.builtin "isinstance") (fun xs H Q => ∃ (c : V) (cv : Value) (b : Bool) (ws : List (Str × V)), xs = [.ref a, c] ∧ (∀ u, RelV c u → u = cv) ∧ H dd = some (.xd ws) ∧ PySem.W.kitOne X.K (.ref D) cv = some b ∧ Q (.bl b) H) := by
  intro pins s σ H xs us Q I r h
  obtain ⟨c, cv, b, ws, rfl, hcv, ea, e, q⟩ := h
  cases r with
  | cons rx rr =>
    cases rr with
    | cons rt rr =>
      cases rr
      cases rx
      have ec := hcv _ rt
      subst ec
      obtain ⟨hget, _⟩ := I.pin (a, oe) (List.mem_append.mpr (.inl hp))
      obtain ⟨vs, hv⟩ := hf
      obtain ⟨mA, hns, hr⟩ := (show ObjOk X.prog X.w H s.heap dd (.xd ws) from I.hok dd _ ea)
      obtain ⟨od, ho, hl⟩ := lookIn_ns hns
      have J : PySem.W.InstAt s.heap a oe D (some od) := ⟨hget, hz.1, by unfold PySem.W.notCls; rw [hv] <;> rfl, by rw [hz.2.1]; exact ho⟩
      exact PySem.W.kia_one (PySem.W.kitx_excO C) I.kIn J e (fun z => nomatch z) fun tk => ⟨.bl b, H, I.kept (t' := tk) fun _ _ z => z, rfl, q⟩
/-- a def's promise at the exception p that is handled -/
structure FnE (P : Program) (w : World) (K : PySem.W.Frag) (mg : Str → Option Value) (base : Heap) (k : Nat) (f : Addr) (fd : FuncData) (ps : List Str) (sp : Addr × Obj → Sp) : Prop where
  len : ∀ p vs H Q E, sp p vs H Q E → vs.length = ps.length
  run : ∀ (A : Around) (outer : List Env) (s : Shared) (H : Hp) (args : Args) (us : List Value) (vs : List V) (Q : VK) (E : XK) (p : Addr × Obj), RoomH k A → Hot1 A p → PinOk outer H s p → Env0 P w K mg base A outer s H → BindsTo s fd args (ps.zip us) → Vals vs us → sp p vs H Q E →
    codeAny (model P w) A (.call (.ref f) args) (CR CX0 outer P w H s Q E) s
theorem Fun.okE {P : Program} {w : World} {K : PySem.W.Frag} {mg : Str → Option Value} {base : Heap} {x qual : Str} {st : Stmt} {f : Addr} {fd : FuncData} {N ps : List Str} {k : Nat} {sp : Addr × Obj → Sp} (F : Fun K x qual st f fd) (S : FnScope N ps (defScope st)) (len : ∀ p vs H Q E, sp p vs H Q E → vs.length = ps.length)
    (hbody : ∀ (cdv : Value) (A : Around) (outer : List Env) (s : Shared) (H : Hp) (vs : List V) (Q : VK) (E : XK) (p : Addr × Obj), Hot1 A p → RoomH k (A.deeper (envOfC qual (defScope st) s.heap.objs.size f cdv)) → sp p vs H Q E →
      ∃ t, PSs (cxH CX0 P w K mg base N qual (defScope st) f cdv A outer s H E p) (defBody st) t ∧ t { nx := fun _ H' => Q .non H', rt := Q } (L2.start N vs) H) : FnE P w K mg base (k + 1) f fd ps sp := by
  obtain ⟨oc, od, kV, doc, pm, an, cdv, ct, osl, rfl, lk, hcd⟩ := F.ex
  refine ⟨len, fun A outer s H args us vs Q E p hr hot hpin e0 hb r hsp => ?_⟩
  have hl := len _ _ _ _ _ hsp
  have KX : K.In s.heap := e0.mod.kin.keeps fun b o e => (e0.bs b o e).1
  have lim : s.heap.NoLimit := e0.mod.nolimit.keeps fun b o e => (e0.bs b o e).1
  have kinds : ∀ y ∈ ps.zip us, (defScope st).names.lookup y.1 = some .local ∨ ((defScope st).names.lookup y.1 = some .cell ∧ ((cellsFrom (s.heap.objs.size + 1) (defScope st).names []).lookup y.1).isSome = true) := fun ⟨n, v⟩ hy =>
    (S.par n (List.of_mem_zip hy).1).imp id fun q => ⟨q, PySem.W.cellsFrom_some _ _ _ (.inl q)⟩
  refine codeAny_call_function hr.depth (KX _ _ lk) rfl S.co S.gen rfl (PySem.W.codeRec_of KX hcd) (hb _ _ _ _ ?_)
  refine wpAny_newFunctionEnv_cells S.kind kinds fun env he s1 x => ?_
  subst he
  refine ⟨lim.keeps x.toInCall.keep, codeAny_func ?_⟩
  obtain ⟨t, ht, hq⟩ := hbody cdv A outer s H vs Q E p hot (hr.deeper _) hsp
  have I := inv_startH (CX := CX0) (E := E) S hpin e0 hl r x
  refine wpAny_mono (ht.run [] s1 (L2.start N vs) H _ I hq) (fun fl s' hs => ?_) fun e s' hs => hs
  cases fl with
  | ret u =>
    obtain ⟨v, σ', H', J, rv, q⟩ := hs
    exact ⟨v, H', J.os, J.bare, J.base, J.hok, rv, q⟩
  | next =>
    obtain ⟨σ', H', J, q⟩ := hs
    exact ⟨V.non, H', J.os, J.bare, J.base, J.hok, rfl, q⟩
  | brk =>
    obtain ⟨_, _, _, q⟩ := hs
    exact False.elim q
  | cont =>
    obtain ⟨_, _, _, q⟩ := hs
    exact False.elim q
section
variable {X : Cx} {k : Nat} {f : Addr} {fd : FuncData} {ps : List Str} {sp : Addr × Obj → Sp} {x : Str} {q pos : Pos} {e : Expr} {es : List Expr} {t : TA} {p : Addr × Obj}
def tCallE (sp : Sp) (t : TA) : TE := fun σ H Q => t σ H fun vs H1 => sp vs H1 Q fun _ _ _ => False
theorem pe_callE (F : FnE X.prog X.w X.K X.mg X.base k f fd ps sp) (hr : RoomH k X.A) (hot : Hot1 X.A p) (hp : p ∈ X.pn) (hg : Gl X x) (hm : X.mg x = some (.ref f)) (hk : PySem.W.keepIn X.K (.ref f) = true) (hb : Binds X.K fd ps [])
    (ha : PA X (e :: es) t) (hdb : (x == ("__debug__" : Str)) = false := by decide) (he : starEach (e :: es) X.env = (false, eval e X.env) :: starEach es X.env := by rfl) (hpl : (backTo pos (starEach es X.env)).any (·.1) = false := by rfl) :
    PE X (.Call (.Name x q) (e :: es) [] pos) (tCallE (sp p) t) := by
  refine ⟨fun pins s σ H Q I h => ?_⟩
  refine wpAny_Call_Name_kw (ld_glob I hg hm ?_ hdb)
  refine PySem.W.callWith_K (h₀ := X.base) I.ok.mod.kin hk (thn (ha.run pos pins s σ H _ I h) fun us s1 ⟨vs, H1, I1, r, q⟩ => ⟨I1.kIn, ?_⟩) he hpl
  have hl : us.length = ps.length := by rw [← r.length]; exact F.len _ _ _ _ _ q
  have b := hb s1 us I1.kIn (by rw [List.append_nil]; exact hl)
  rw [List.append_nil] at b
  have P1 := I1.pin p (List.mem_append_left _ hp)
  have hpin : PinOk X.stack H1 s1 p := ⟨P1.1, P1.2.1, fun hm => (List.mem_cons.mp (I1.stkSub p.1 hm)).elim P1.2.2.1 P1.2.2.2.1, P1.2.2.2.2⟩
  refine wpAny_call (codeAny_mono (F.run X.A X.stack s1 H1 ⟨us, []⟩ us vs Q _ p hr hot hpin I1.env0 b r q) fun r s' hq => ?_)
  cases r with
  | error e => exact (show False from hq).elim
  | ok fl =>
    cases fl with
    | ret u => exact I1.after hq
    | next => exact False.elim hq
    | brk => exact False.elim hq
    | cont => exact False.elim hq
end
end L2H
namespace Dt
open PySem PySem.Spec L2
open PyProof.Rows (envOfC)
/-! ### comprehensions at any tests and elements -/
def EiT (K : PySem.W.Frag) (tt : TT) (δ : Slots) (μ : Store) (b : Bool) (μ' : Store) : Prop :=
  ∀ W H σ (Q : Bool → Hp → Prop), At K W H σ δ μ → (∀ W' H', Go W H μ W' H' μ' → At K W' H' σ δ μ' → Q b H') → tt σ H Q
def EkT (K : PySem.W.Frag) (te : TE) (δ : Slots) (μ : Store) (dv : DV) (μ' : Store) : Prop :=
  ∀ W H σ (Q : VK), At K W H σ δ μ → (∀ W' H' v, Go W H μ W' H' μ' → At K W' H' σ δ μ' → Rel K W' dv v → Q v H') → te σ H Q
inductive ElT (K : PySem.W.Frag) (tt : TT) (te : TE) (j : Nat) (δ : Slots) : DV → Store → Option DV → Store → Prop
  | yes {x y : DV} {μ μ1 μ2 : Store} : EiT K tt (δ.set j (some x)) μ true μ1 → EkT K te (δ.set j (some x)) μ1 y μ2 → ElT K tt te j δ x μ (some y) μ2
  | no {x : DV} {μ μ1 : Store} : EiT K tt (δ.set j (some x)) μ false μ1 → ElT K tt te j δ x μ none μ1
section
variable {X : Cx} {δ : Slots} {tt : TT} {te : TE} {j : Nat}
theorem lc_stepT {K : PySem.W.Frag} {W0 : Wd} {H0 H : Hp} {μ0 μf : Store} {σ : L2.St} {xs ys : List DV} {q : Addr} {m : Nat} {dx : DV} {v : V} (hys : ys.length ≤ 1000000) (h0 : H0 q = none) (hx : xs[m]? = some dx) (rv : Rel K W0 dx v)
    (h : LcAt K W0 H0 μ0 (ElT K tt te j δ) xs ys μf σ δ q m H) :
    gName j v (L2.wipe σ [j]) H fun σ2 H2 => L2.wipe σ2 [j] = L2.wipe σ [j] ∧ tt σ2 H2 fun b H3 =>
      if b = true then te σ2 H3 fun y H4 => ∃ acc, H4 q = some (.lst acc) ∧ acc.length < sizeLine ∧ LcAt K W0 H0 μ0 (ElT K tt te j δ) xs ys μf σ δ q (m + 1) (upd H4 q (.lst (acc ++ [y])))
      else LcAt K W0 H0 μ0 (ElT K tt te j δ) xs ys μf σ δ q (m + 1) H3 := by
  obtain ⟨W, μ, y1, y2, acc, g0, A, hq, gq, of, ra, ey, it⟩ := h
  rw [drop_cons hx] at it
  have A' : At K W H ((L2.wipe σ [j]).set j (some v)) (δ.set j (some dx)) μ := ⟨A.st, A.sl.wipe1 (rv.mono g0.le) j⟩
  refine ⟨wipe_back σ j v, ?_⟩
  cases it with
  | @keep _ y _ ys' _ μ1 _ h1 h2 =>
    cases h1 with
    | yes hi he =>
      refine hi W H _ _ A' fun W1 H1 g1 A1 => iteT (he W1 H1 _ _ A1 fun W2 H2 u g2 A2 r2 => ?_)
      have g12 := g1.trans g2
      obtain ⟨hq2, gq2, of2⟩ := g12.fr q _ hq gq of
      refine ⟨acc, hq2, ?_, W2, μ1, y1 ++ [y], ys', acc ++ [u], ⟨(g0.trans g12).le, fun w o e z f => ?_⟩, ⟨A2.st.beside gq2 of2, A.sl.mono g12.le⟩, upd_same, gq2, of2, Paired.app (Rels.mono g12.le ra) (.cons r2 .nil), ?_, h2⟩
      · rw [← ra.len]
        have l : ys.length = y1.length + (y :: ys').length := by rw [ey, List.length_append]
        rw [List.length_cons] at l
        rw [sizeLine_eq]
        omega
      · obtain ⟨w1, w2, w3⟩ := (g0.trans g12).fr w o e z f
        exact ⟨by rw [upd_ne (ne_of_none e h0)]; exact w1, w2, w3⟩
      · rw [ey, List.append_assoc]
        rfl
  | skip h1 h2 =>
    cases h1 with
    | no hi =>
      refine hi W H _ _ A' fun W1 H1 g1 A1 => iteF ?_
      obtain ⟨hq2, gq2, of2⟩ := g1.fr q _ hq gq of
      exact ⟨W1, _, y1, y2, acc, g0.trans g1, ⟨A1.st, A.sl.mono g1.le⟩, hq2, gq2, of2, Rels.mono g1.le ra, ey, h2⟩
theorem lc_startT {K : PySem.W.Frag} {W0 : Wd} {H0 : Hp} {μ0 μf : Store} {σ : L2.St} {R : DV → Store → Option DV → Store → Prop} {xs ys : List DV} {q : Addr} (A : At K W0 H0 σ δ μ0) (h0 : H0 q = none) (it : Lc R xs μ0 ys μf) : LcAt K W0 H0 μ0 R xs ys μf σ δ q 0 (upd H0 q (.lst [])) := by
  have gq : W0.G q = none := A.st.ex.free h0
  have of := Off.fresh A.st h0
  exact ⟨W0, μ0, [], ys, [], ⟨Wd.le.rfl', fun w o e z f => ⟨by rw [upd_ne (ne_of_none e h0)]; exact e, z, f⟩⟩, ⟨A.st.beside gq of, A.sl⟩, upd_same, gq, of, .nil, rfl, it⟩
theorem lc_finT {K : PySem.W.Frag} {W0 : Wd} {H0 H : Hp} {μ0 μf : Store} {σ : L2.St} {R : DV → Store → Option DV → Store → Prop} {xs ys : List DV} {q : Addr} {Q : VK} (h0 : H0 q = none) (h : LcAt K W0 H0 μ0 R xs ys μf σ δ q xs.length H)
    (k : ∀ W' H' q acc, Go W0 H0 μ0 W' H' μf → At K W' H' σ δ μf → H' q = some (.lst acc) → Nq W0 H0 μ0 q → W'.G q = none → Off W' μf q → Rels K W' ys acc → Q (.ref q) H') : Q (.ref q) H := by
  obtain ⟨W, μ, y1, y2, acc, g0, A, hq, gq, of, ra, ey, it⟩ := h
  rw [List.drop_length] at it
  cases it
  rw [List.append_nil] at ey
  subst ey
  exact k W H q acc g0 A hq (.none h0) gq of ra
theorem lcLT {e : Expr} {ds : List D} {ys : List DV} {μ μ1 μf : Store} (h : Ev X e δ μ (.dat (.lst ds)) μ1) (it : Lc (ElT X.K tt te j δ) (ds.map DV.dat) μ1 ys μf) (hys : ys.length ≤ 1000000) :
    FreshL X (tLc (iList X.K (semE X e)) (gName j) tt te [j]) δ μ ys μf := fun W H σ Q A k => by
  refine h W H σ _ A fun W1 H1 v g1 A1 r1 => ?_
  cases (show Dq X.K W1.G v (.lst ds) from r1) with
  | lst hq hd =>
    rename_i al vs
    refine ⟨al, rfl, ⟨_, SqL.of (A1.st.ex _ _ hq)⟩, fun q h0 => lc_list (K := X.K) (xs := vs) (LcAt X.K W1 H1 μ1 (ElT X.K tt te j δ) (ds.map DV.dat) ys μf σ δ q) (lc_startT A1 h0 it) ?_ ?_ ?_⟩
    · rintro i H' _ ⟨W', _, _, _, _, g', A', _⟩
      exact SqL.of (A'.st.ex _ _ (g'.le.G _ _ hq))
    · intro i u H' hu hI
      obtain ⟨d, hd', rd⟩ := Rels.atL hd hu
      exact lc_stepT hys h0 hd' rd hI
    · intro H' hI
      have el : vs.length = (ds.map DV.dat).length := (DqA.rels hd).len.symm
      rw [el] at hI
      exact lc_finT h0 hI fun W' H' q acc g A' hq h0 gq of r => k W' H' q acc (g1.trans g) A' hq (h0.back g1) gq of r
end
/-! ### promises at the handled exception -/
abbrev PrE := Addr × Obj → List DV → Store → DV → Store → Prop
def spE (K : PySem.W.Frag) (n : Nat) (Pm : PrE) (p : Addr × Obj) : Sp := fun vs H Q _ => ∃ W μ dvs dv μ', dvs.length = n ∧ StOk K W H μ ∧ Rels K W dvs vs ∧ Pm p dvs μ dv μ' ∧ ∀ W' H' v, Go W H μ W' H' μ' → StOk K W' H' μ' → Rel K W' dv v → Q v H'
theorem fn_E {P : Program} {w : World} {K : PySem.W.Frag} {mg : Str → Option Value} {base : Heap} {x qual : Str} {st : Stmt} {f : Addr} {fd : FuncData} {N ps : List Str} {k : Nat} {Pm : PrE} (F : Fun K x qual st f fd) (S : FnScope N ps (defScope st))
    (hb : ∀ (cdv : Value) (A : Around) (outer : List Env) (s : Shared) (H : Hp) (E : XK) (p : Addr × Obj), L2H.Hot1 A p → L2H.RoomH k (A.deeper (envOfC qual (defScope st) s.heap.objs.size f cdv)) →
      ∀ dvs μ dv μ', dvs.length = ps.length → Pm p dvs μ dv μ' → ∃ junk, Xb (L2H.cxH CX0 P w K mg base N qual (defScope st) f cdv A outer s H E p) noT (defBody st) (startD N.length dvs) μ (.rt dv (μ' ++ junk)) ∧ Keep μ μ' ∧ dv.under μ'.length = true) :
    L2H.FnE P w K mg base (k + 1) f fd ps (spE K ps.length Pm) := by
  refine L2H.Fun.okE F S (fun p vs H Q E h => ?_) (fun cdv A outer s H vs Q E p hot hr h => ⟨_, semB_ps, ?_⟩)
  · obtain ⟨W, μ, dvs, dv, μ', hl, _, r, _⟩ := h
    rw [← r.len, hl]
  · obtain ⟨W, μ, dvs, dv, μ', hl, S', r, hp, post⟩ := h
    obtain ⟨junk, hx, kp, z⟩ := hb cdv A outer s H E p hot hr dvs μ dv μ' hl hp
    refine hx W H _ _ ⟨S', slok_start r⟩ ?_
    intro W' H' v g s' rv
    obtain ⟨g', s2⟩ := go_take S' s' g kp
    exact post _ _ v g' s2 (rv.cut z)
structure DfE (P : Program) (w : World) (K : PySem.W.Frag) (mg : Str → Option Value) (base : Heap) (x : Str) (k n : Nat) (Pm : PrE) : Prop where
  ex : ∃ f fd ps, L2H.FnE P w K mg base k f fd ps (spE K n Pm) ∧ mg x = some (.ref f) ∧ PySem.W.keepIn K (.ref f) = true ∧ Binds K fd ps []
section
variable {X : Cx} {T : WX} {δ δ' δ1 δ2 : Slots} {μ μ' μ1 μ2 μ3 : Store} {e a b c : Expr} {es : List Expr} {dv dv1 dv2 : DV} {dvs : List DV} {pos p p' : Pos} {i j k n m : Nat} {x y : Str} {d d' : D} {Pm : PrE}
theorem Ev.callE {pp : Addr × Obj} (D : DfE X.prog X.w X.K X.mg X.base x k n Pm) (hr : L2H.RoomH k X.A) (hot : L2H.Hot1 X.A pp) (hpn : pp ∈ X.pn) (ha : Ea X (e :: es) δ μ dvs μ1) (h : Pm pp dvs μ1 dv μ') (hl : dvs.length = n := by rfl) (hg : Gl X x := by rfl) (hdb : (x == ("__debug__" : Str)) = false := by decide)
    (he : starEach (e :: es) X.env = (false, eval e X.env) :: starEach es X.env := by rfl) (hpl : (backTo pos (starEach es X.env)).any (·.1) = false := by rfl) : Ev X (.Call (.Name x p) (e :: es) [] pos) δ μ dv μ' := fun W H σ Q A q => by
  obtain ⟨f, fd, ps, F, hm, hk, hb⟩ := D.ex
  refine semE_of (L2H.pe_callE F hr hot hpn hg hm hk hb ha.pa hdb he hpl) ?_
  refine ha.ev W H σ _ A fun W1 H1 vs g1 A1 r1 => ?_
  exact ⟨W1, μ1, dvs, dv, μ', hl, A1.st, r1, h, fun W' H' v g s r => q W' H' v (g1.trans g) (A1.le g s) r⟩
theorem CallS.isX {a C dd : Addr} {oe : Obj} {fs : Flds} {c : D} {cv : Value} {r : Bool} (E : ExcC X.K C) (hp : (a, oe) ∈ X.pn) (hz : L2N.Zn (.ref C) (some dd) oe) (hf : ∃ vs, oe.data = .fields vs) (hk : μ[k]? = some (.xd dd fs))
    (hc : (∃ y, c = .ref y ∧ cv = .ref y) ∨ ∃ y, c = .ty y ∧ cv = .type y) (hr : PySem.W.kitOne X.K (.ref C) cv = some r) : CallS X (.builtin "isinstance") [.dat (.ref a), .dat c] μ (.b r) μ :=
  ⟨_, L2H.call_isX E hp hz hf, fun W H σ δ vs Q A rv q => by
    obtain ⟨v, u, rfl, r1, r2⟩ := Rels.two rv
    obtain ⟨_, ea, ws, hw, _⟩ := A.st.cell k _ hk
    rw [ea] at hw
    refine ⟨u, cv, r, ws, by rw [Rel.rv r1], fun z hz => ?_, hw, hr, q W H _ .refl A (Dq.bl r)⟩
    rcases hc with ⟨y, rfl, rfl⟩ | ⟨y, rfl, rfl⟩
    · have e := Rel.rv r2
      subst e
      exact hz
    · have e : u = .ty y := by cases (show Dq X.K W.G u (.ty y) from r2); rfl
      subst e
      exact hz⟩
/-- the block's context where an exception is handled -/
abbrev bkH (X : Cx) (s : Shared) (H : Hp) (scope : Scope) (cl : List (Str × Addr)) (C : Addr) (fp : List Addr) : Cx := X.blkP s H scope (compEnvC scope cl C X.env) fp
def semKH (X : Cx) (scope : Scope) (e : Expr) : TE := fun σ H Q => ∀ s H0 cl C fp, semE (bkH X s H0 scope cl C fp) e σ H Q
def semTH (X : Cx) (scope : Scope) (e : Expr) : TT := fun σ H Q => ∀ s H0 cl C fp, semT (bkH X s H0 scope cl C fp) e σ H Q
/-- [elt for x in a list if test] there -/
theorem Ev.lcOfH {scope : Scope} {iter elt tst tg : Expr} {ds ds' : List D} {μf : Store} (hc : L2H.HotC X) (nd : X.N.Nodup) (ok : BlkOk X.N X.env.scope scope [(x, j)])
    (hg : ∀ (s : Shared) (H : Hp) (C : Addr) (cl : List (Str × Addr)) (fp : List Addr), PG (X.blkP s H scope (compEnvC scope cl C X.env) fp) tg (gName j))
    (h : Ev X iter δ μ (.dat (.lst ds)) μ1) (it : Lc (ElT X.K (semTH X scope tst) (semKH X scope elt) j δ) (ds.map DV.dat) μ1 (ds'.map DV.dat) μf) (hys : ds'.length ≤ 1000000)
    (hs : ∀ y, foldedSetIterable iter X.env y = pure y := by intro _; rfl) : Ev X (.ListComp elt [⟨tg, iter, [tst], 0⟩] scope pos) δ μ (.dat (.lst ds')) μf := fun W H σ Q A k =>
  semE_of (L2H.pe_lcH hc nd (L2H.pi_listH semE_pe) ok hg (tt := semTH X scope tst) (te := semKH X scope elt) (fun s H C cl fp => pts_one ⟨fun pins s1 σ H1 Q I q => (q s H cl C fp).run pins s1 I⟩) (fun s H C cl fp => ⟨fun pins s1 σ H1 Q I q => (q s H cl C fp).run pins s1 I⟩) hs)
    ((lcLT (ys := ds'.map DV.dat) h it (by rw [List.length_map]; exact hys)).frz A k)
end
end Dt
set_option maxHeartbeats 4000000
/-! Small tools for walks: an own list becomes frozen, slots are forgotten, cells behind a store. -/
namespace Dt
open PySem PySem.Spec L2
section
variable {X : Cx} {T : WX} {δ δ' δ1 δ2 : Slots} {μ μ' μ1 μ2 μ3 : Store} {e a b c : Expr} {es : List Expr} {st : Stmt} {sts rest : List Stmt} {o : Out} {dv dv1 dv2 : DV} {dvs : List DV} {pos p p' : Pos} {i j k n : Nat} {x y : Str} {ds : List D}
theorem Ev.frz (h : Ev X e δ μ (.own k) μ') (hk : μ'[k]? = some (.lst (ds.map DV.dat))) : Ev X e δ μ (.dat (.lst ds)) (μ'.set k .gone) := fun W H σ Q A q =>
  h W H σ Q A fun W1 H1 v g1 A1 r1 => by
    obtain ⟨g0, vs, hv, rl⟩ := A1.st.cell k _ hk
    obtain ⟨g, s⟩ := go_freeze A1.st hk (by intro z; cases z) hv
    have ev : v = .ref (W1.A k) := r1.2
    subst ev
    exact q _ _ _ (g1.trans g) (A1.le g s) (Dq.lst upd_same (DqA.of (Rels.mono g.le rl)))
/-- slots are forgotten behind a block -/
theorem Xb.drop (j : Nat) (h : Xb X T sts δ μ (.nx δ1 μ1)) : Xb X T sts δ μ (.nx (δ1.set j none) μ1) := fun W H σ D A P =>
  h W H σ D A fun W' H' σ' g A' => P W' H' σ' g ⟨A'.st, A'.sl.drop j⟩
theorem Xb.to (h : Xb X T sts δ μ o) {o' : Out} (e : o = o') : Xb X T sts δ μ o' := e ▸ h
theorem Xs.to (h : Xs X T st δ μ o) {o' : Out} (e : o = o') : Xs X T st δ μ o' := e ▸ h
theorem Xs.tos (h : Xs X T st δ μ (.nx δ1 μ1)) (e : μ1 = μ2) : Xs X T st δ μ (.nx δ1 μ2) := e ▸ h
end
theorem gL {α : Type} {μ L : List α} (i : Nat) : (μ ++ L)[μ.length + i]? = L[i]? := by
  rw [List.getElem?_append_right (Nat.le_add_right _ _), Nat.add_sub_cancel_left]
theorem gL0 {α : Type} {μ L : List α} {x : α} : (μ ++ x :: L)[μ.length]? = some x := gL (μ := μ) (L := x :: L) 0
theorem gL1 {α : Type} {μ L : List α} {x y : α} : (μ ++ x :: y :: L)[μ.length + 1]? = some y := gL (μ := μ) (L := x :: y :: L) 1
theorem sL {α : Type} {μ L : List α} (i : Nat) {x : α} : (μ ++ L).set (μ.length + i) x = μ ++ L.set i x := by
  rw [List.set_append_right _ _ (Nat.le_add_right _ _), Nat.add_sub_cancel_left]
theorem sL0 {α : Type} {μ L : List α} {x y : α} : (μ ++ x :: L).set μ.length y = μ ++ y :: L := sL (μ := μ) (L := x :: L) 0
theorem sL1 {α : Type} {μ L : List α} {x y z : α} : (μ ++ x :: y :: L).set (μ.length + 1) z = μ ++ x :: z :: L := sL (μ := μ) (L := x :: y :: L) 1
/-- loops whose turns go on: the state by the number of turns -/
theorem It1.fold {R : DV → Slots → Store → Out → Prop} (δ : Nat → Slots) (μ : Nat → Store) : ∀ (xs : List DV) (m : Nat), (∀ i x, xs[i]? = some x → R x (δ (m + i)) (μ (m + i)) (.nx (δ (m + i + 1)) (μ (m + i + 1)))) → It1 R xs (δ m) (μ m) (.nx (δ (m + xs.length)) (μ (m + xs.length)))
  | [], m, _ => .nil
  | x :: xs, m, h => by
    have h0 := h 0 x rfl
    have t := It1.fold δ μ xs (m + 1) fun i y hy => by
      have := h (i + 1) y hy
      have e : m + (i + 1) = m + 1 + i := by omega
      rw [e] at this
      exact this
    have e : m + 1 + xs.length = m + (x :: xs).length := by rw [List.length_cons]; omega
    rw [e] at t
    exact .next h0 t
section
variable {X : Cx} {T : WX} {δ δ' : Slots} {μ μ' J : Store} {body : List Stmt} {dv : DV} {C : Addr} {fs : Flds}
theorem Bd.ret (h : Xb X T body δ μ (.rt dv μ')) (kp : Keep μ μ' := by exact Keep.refl _) (z : dv.under μ'.length = true := by rfl) : Bd X T body δ μ (.ret dv μ') := by
  have e := Ends'.ret (junk := []) kp z
  rw [List.append_nil] at e
  exact ⟨_, [], h, e⟩
theorem Bd.retJ (h : Xb X T body δ μ (.rt dv (μ' ++ J))) (kp : Keep μ μ' := by exact Keep.refl _) (z : dv.under μ'.length = true := by rfl) : Bd X T body δ μ (.ret dv μ') := ⟨_, J, h, .ret kp z⟩
theorem Bd.non (h : Xb X T body δ μ (.nx δ' μ')) (kp : Keep μ μ' := by exact Keep.refl _) : Bd X T body δ μ (.ret .n μ') := by
  have e := Ends'.nx (δ := δ') (junk := []) kp
  rw [List.append_nil] at e
  exact ⟨_, [], h, e⟩
theorem Bd.exc (h : Xb X T body δ μ (.ex C fs δ' μ')) (kp : Keep μ μ' := by exact Keep.refl _) (z : (fs.all fun p => p.2.under μ'.length) = true := by rfl) : Bd X T body δ μ (.exc C fs μ') := by
  have e := Ends'.exc (C := C) (δ := δ') (junk := []) kp z
  rw [List.append_nil] at e
  exact ⟨_, [], h, e⟩
theorem Bd.excJ (h : Xb X T body δ μ (.ex C fs δ' (μ' ++ J))) (kp : Keep μ μ' := by exact Keep.refl _) (z : (fs.all fun p => p.2.under μ'.length) = true := by rfl) : Bd X T body δ μ (.exc C fs μ') := ⟨_, J, h, .exc kp z⟩
end
/-- {k: v} as an own cell -/
theorem Ev.d1 {X : Cx} {δ : Slots} {μ : Store} {kx vx : Expr} {q : Key} {dv : DV} {pos : Pos} (hk : Ev X kx δ μ (.dat (keyD q)) μ) (hv : Ev X vx δ μ dv μ) : Ev X (.Dict [some kx] [vx] pos) δ μ (.own μ.length) (μ ++ [.dK [(q, dv)]]) := fun W H σ Q A k => by
  refine semE_of (pe_disp (pps_cons semE_pe semE_pe pps_nil) rfl rfl (by simp) (by show 1 ≤ 15; decide)) fun p hp => ?_
  have gp : W.G p = none := A.st.ex.free hp
  have of := Off.fresh A.st hp
  have A0 : At X.K W (upd H p (.dK [])) σ δ μ := ⟨A.st.beside gp of, A.sl⟩
  refine hk W _ σ _ A0 fun W1 H1 x g1 A1 r1 => hv W1 H1 σ _ A1 fun W2 H2 y g2 A2 r2 => ?_
  have g12 := g1.trans g2
  obtain ⟨h1, h2, h3⟩ := g12.fr p _ upd_same gp of
  have ex := key_rel r1
  subst ex
  refine ⟨h1, [(q, y)], rfl, (by show 1 ≤ 15; decide), ?_⟩
  have g : Go W H μ W2 (upd H2 p (.dK [(q, y)])) μ := ⟨g12.le, fun a o e z f => by
    have ne := ne_of_none e hp
    obtain ⟨w1, w2, w3⟩ := g12.fr a o (by rw [upd_ne ne]; exact e) z f
    exact ⟨by rw [upd_ne ne]; exact w1, w2, w3⟩⟩
  have S2 : StOk X.K W2 (upd H2 p (.dK [(q, y)])) μ := A2.st.beside h2 h3
  obtain ⟨g4, s4⟩ := adoptC (cl := .dK [(q, dv)]) g S2 (.none hp) h3 ⟨by rw [Wd.push_at]; exact h2, [(q, y)], by rw [Wd.push_at]; exact upd_same, .cons ⟨rfl, r2.mono (W2.push_le p)⟩ .nil⟩
  refine k _ _ _ g4 ⟨s4, A2.sl.mono (W2.push_le p)⟩ ⟨by rw [← A2.st.n]; exact Nat.lt_succ_self _, ?_⟩
  rw [← A2.st.n, Wd.push_at]
/-- the store grows -/
theorem gLl {α : Type} {μ L : List α} : (μ ++ L).length = μ.length + L.length := List.length_append
section
variable {X : Cx} {δ : Slots} {μ μ' : Store} {a : Expr} {pos : Pos}
theorem Et.notT (h : Et X a δ μ false μ') : Et X (.UnaryOp .Not a pos) δ μ true μ' := Et.not h
theorem Et.notF (h : Et X a δ μ true μ') : Et X (.UnaryOp .Not a pos) δ μ false μ' := Et.not h
end
/-! ### what is seen of the text by computing -/
def nodB : List Str → Bool
  | [] => true
  | x :: xs => !(xs.contains x) && nodB xs
theorem nod_of : ∀ {l : List Str}, nodB l = true → l.Nodup
  | [], _ => List.nodup_nil
  | x :: xs, h => by
    obtain ⟨h1, h2⟩ := Bool.and_eq_true_iff.mp (show (!(xs.contains x) && nodB xs) = true from h)
    refine List.nodup_cons.mpr ⟨fun m => ?_, nod_of h2⟩
    rw [List.contains_iff_mem.mpr m] at h1
    cases h1
def kindB (k k' : NameKind) : Bool := decide (k = k')
def blkB (N : List Str) (sc scope : Scope) (own : List (Str × Nat)) : Bool :=
  decide (scope.kind = .function) && (scope.names.all (fun y => decide (scope.names.lookup y.1 = some y.2)) && (own.all (fun p => decide (N[p.2]? = some p.1)) &&
    (scope.names.all (fun y => !(kindB y.2 .free) || (decide (sc.names.lookup y.1 = some .cell) || decide (sc.names.lookup y.1 = some .free))) &&
      scope.names.all (fun y => !(kindB y.2 .local || kindB y.2 .cell) || ((own.map (·.1)).contains y.1 || !(N.contains y.1))))))
theorem blk_of {N : List Str} {sc scope : Scope} {own : List (Str × Nat)} (h : blkB N sc scope own = true) : BlkOk N sc scope own := by
  obtain ⟨h1, h⟩ := Bool.and_eq_true_iff.mp h
  obtain ⟨h2, h⟩ := Bool.and_eq_true_iff.mp h
  obtain ⟨h3, h⟩ := Bool.and_eq_true_iff.mp h
  obtain ⟨h4, h5⟩ := Bool.and_eq_true_iff.mp h
  refine ⟨of_decide_eq_true h1, fun y hy => of_decide_eq_true (List.all_eq_true.mp h2 y hy), fun p hp => of_decide_eq_true (List.all_eq_true.mp h3 p hp), fun y hy e => ?_, fun y hy e => ?_⟩
  · have z := List.all_eq_true.mp h4 y hy
    rw [show kindB y.2 .free = true from decide_eq_true e] at z
    rcases Bool.or_eq_true_iff.mp (show (decide (sc.names.lookup y.1 = some .cell) || decide (sc.names.lookup y.1 = some .free)) = true from z) with z | z
    · exact .inl (of_decide_eq_true z)
    · exact .inr (of_decide_eq_true z)
  · have z := List.all_eq_true.mp h5 y hy
    have k : (kindB y.2 .local || kindB y.2 .cell) = true := by
      rcases e with e | e
      · exact Bool.or_eq_true_iff.mpr (.inl (decide_eq_true e))
      · exact Bool.or_eq_true_iff.mpr (.inr (decide_eq_true e))
    rw [k] at z
    rcases Bool.or_eq_true_iff.mp (show ((own.map (·.1)).contains y.1 || !(N.contains y.1)) = true from z) with z | z
    · exact .inl (List.contains_iff_mem.mp z)
    · refine .inr fun m => ?_
      rw [List.contains_iff_mem.mpr m] at z
      cases z
section
variable {X : Cx} {T : WX} {δ : Slots} {μ : Store} {x : Str} {elt iter : Expr} {scope : Scope} {pos tp : Pos} {ds : List D}
/-- [elt for x in ..], each turn pure -/
theorem Ev.lcTm (j : Nat) (f : D → D) (h : Ev X iter δ μ (.dat (.tup ds)) μ) (he : ∀ d ∈ ds, ∀ s H0 cl C fp, Ev (bk X s H0 scope cl C fp) elt (δ.set j (some (.dat d))) μ (.dat (f d)) μ) (hl : ds.length ≤ 1000000)
    (hi : X.N[j]? = some x := by rfl) (hc : X.calm = true := by rfl) (nd : X.N.Nodup := by exact nod_of rfl) (ok : BlkOk X.N X.env.scope scope [(x, j)] := by exact blk_of rfl)
    (hg : TgOk X scope (.Name x tp) (gName j) := by first | exact fun _ _ _ _ _ => pg_name (nod_of rfl) rfl (.inl rfl) | exact fun _ _ _ _ _ => pg_name (nod_of rfl) rfl (.inr rfl)) (hs : ∀ y, foldedSetIterable iter X.env y = pure y := by intro _; rfl) :
    Ev X (.ListComp elt [⟨.Name x tp, iter, [], 0⟩] scope pos) δ μ (.dat (.lst (ds.map f))) μ :=
  .lcOf hc nd (pi_tup semE_pe) ok hg (Nat.zero_le _) (lcT (μ1 := μ) h (by rw [List.map_map]; exact Lc.mapD fun d hd => El.go (Ek.of fun s H0 cl C fp => he d hd s H0 cl C fp)) (by simp; exact hl)) hs
theorem Ev.lcLm (j : Nat) (f : D → D) (h : Ev X iter δ μ (.dat (.lst ds)) μ) (he : ∀ d ∈ ds, ∀ s H0 cl C fp, Ev (bk X s H0 scope cl C fp) elt (δ.set j (some (.dat d))) μ (.dat (f d)) μ) (hl : ds.length ≤ 1000000)
    (hi : X.N[j]? = some x := by rfl) (hc : X.calm = true := by rfl) (nd : X.N.Nodup := by exact nod_of rfl) (ok : BlkOk X.N X.env.scope scope [(x, j)] := by exact blk_of rfl)
    (hg : TgOk X scope (.Name x tp) (gName j) := by first | exact fun _ _ _ _ _ => pg_name (nod_of rfl) rfl (.inl rfl) | exact fun _ _ _ _ _ => pg_name (nod_of rfl) rfl (.inr rfl)) (hs : ∀ y, foldedSetIterable iter X.env y = pure y := by intro _; rfl) :
    Ev X (.ListComp elt [⟨.Name x tp, iter, [], 0⟩] scope pos) δ μ (.dat (.lst (ds.map f))) μ :=
  .lcOf hc nd (pi_list semE_pe) ok hg (Nat.zero_le _) (lcL (μ1 := μ) h (by rw [List.map_map]; exact Lc.mapD fun d hd => El.go (Ek.of fun s H0 cl C fp => he d hd s H0 cl C fp)) (by simp; exact hl)) hs
end
/-- loops as folds -/
theorem It1.foldL {α S : Type} {R : DV → Slots → Store → Out → Prop} {f : α → DV} (δ : S → Slots) (μ : S → Store) (g : S → α → S) (I : S → Prop) (J : α → Prop) (h : ∀ s a, I s → J a → I (g s a) ∧ R (f a) (δ s) (μ s) (.nx (δ (g s a)) (μ (g s a)))) :
    ∀ (as : List α) (s : S), I s → (∀ a ∈ as, J a) → It1 R (as.map f) (δ s) (μ s) (.nx (δ (as.foldl g s)) (μ (as.foldl g s)))
  | [], _, _, _ => .nil
  | a :: as, s, hs, ha => by
    obtain ⟨h1, h2⟩ := h s a hs (ha a List.mem_cons_self)
    exact .next h2 (It1.foldL δ μ g I J h as (g s a) h1 fun b hb => ha b (List.mem_cons_of_mem _ hb))
theorem It1.foldD {α S : Type} {R : DV → Slots → Store → Out → Prop} {f : α → D} (δ : S → Slots) (μ : S → Store) (g : S → α → S) (I : S → Prop) (J : α → Prop) (h : ∀ s a, I s → J a → I (g s a) ∧ R (.dat (f a)) (δ s) (μ s) (.nx (δ (g s a)) (μ (g s a)))) (as : List α) (s : S) (hs : I s) (ha : ∀ a ∈ as, J a) :
    It1 R ((as.map f).map DV.dat) (δ s) (μ s) (.nx (δ (as.foldl g s)) (μ (as.foldl g s))) := by
  rw [List.map_map]
  exact It1.foldL δ μ g I J h as s hs ha
theorem It1.foldU {S : Type} {R : DV → Slots → Store → Out → Prop} {n : Nat} (δ : S → Slots) (μ : S → Store) (g : S → Nat → S) (I : Nat → S → Prop) (h : ∀ s (m : Nat), m < n → I m s → I (m + 1) (g s m) ∧ R (.i (m : Int)) (δ s) (μ s) (.nx (δ (g s m)) (μ (g s m)))) (s : S) (hs : I 0 s) :
    It1 R (upto 0 n) (δ s) (μ s) (.nx (δ ((List.range n).foldl g s)) (μ ((List.range n).foldl g s))) ∧ I n ((List.range n).foldl g s) := by
  have key : ∀ (k m : Nat) (s : S), m + k = n → I m s → It1 R ((List.range' m k).map fun (m : Nat) => DV.i (0 + (m : Int))) (δ s) (μ s) (.nx (δ ((List.range' m k).foldl g s)) (μ ((List.range' m k).foldl g s))) ∧ I n ((List.range' m k).foldl g s) := by
    intro k
    induction k with
    | zero =>
      intro m s e hi
      have : m = n := by omega
      subst this
      exact ⟨.nil, hi⟩
    | succ k ih =>
      intro m s e hi
      obtain ⟨h1, h2⟩ := h s m (by omega) hi
      obtain ⟨i1, i2⟩ := ih (m + 1) (g s m) (by omega) h1
      rw [List.range'_succ, List.map_cons, List.foldl_cons]
      refine ⟨.next ?_ i1, i2⟩
      rw [Int.zero_add]
      exact h2
  have := key n 0 s (by omega) hs
  rw [← List.range_eq_range'] at this
  exact this
theorem Wh.fold {S : Type} {X : Cx} {T : WX} {c : Expr} {body : List Stmt} (δ : S → Slots) (μ : S → Store) (g : S → S) (I : S → Prop) (meas : S → Nat) (fin : S)
    (h : ∀ s, I s → (Et X c (δ s) (μ s) false (μ s) ∧ s = fin) ∨ (Et X c (δ s) (μ s) true (μ s) ∧ Xb X T body (δ s) (μ s) (.nx (δ (g s)) (μ (g s))) ∧ I (g s) ∧ meas (g s) < meas s)) :
    ∀ (m : Nat) (s : S), meas s ≤ m → I s → Wh X T c body (δ s) (μ s) (.nx (δ fin) (μ fin)) m := by
  intro m
  induction m with
  | zero =>
    intro s hm hi
    rcases h s hi with ⟨h1, rfl⟩ | ⟨_, _, _, h4⟩
    · exact .no h1
    · omega
  | succ m ih =>
    intro s hm hi
    rcases h s hi with ⟨h1, rfl⟩ | ⟨h1, h2, h3, h4⟩
    · exact .no h1
    · exact .next h1 h2 (ih (g s) (by omega) h3)
/-- slots forgotten -/
def Wk : Slots → Slots → Prop
  | [], [] => True
  | a :: as, b :: bs => (b = a ∨ b = none) ∧ Wk as bs
  | _, _ => False
theorem Wk.sl {K : PySem.W.Frag} {W : Wd} : ∀ {δ1 δ2 : Slots} {σ : L2.St}, Wk δ1 δ2 → SlOk K W σ δ1 → SlOk K W σ δ2 := fun {δ1 δ2 σ} h s => by
  have key : ∀ (δ1 δ2 : Slots), Wk δ1 δ2 → δ1.length = δ2.length ∧ ∀ (i : Nat) (dv : DV), δ2[i]? = some (some dv) → δ1[i]? = some (some dv) := by
    intro δ1
    induction δ1 with
    | nil =>
      intro δ2 h
      cases δ2 with
      | nil => exact ⟨rfl, fun i dv e => by simp at e⟩
      | cons _ _ => exact h.elim
    | cons a as ih =>
      intro δ2 h
      cases δ2 with
      | nil => exact h.elim
      | cons b bs =>
        obtain ⟨h1, h2⟩ := h
        obtain ⟨i1, i2⟩ := ih bs h2
        refine ⟨by rw [List.length_cons, List.length_cons, i1], fun i dv e => ?_⟩
        cases i with
        | zero =>
          simp only [List.getElem?_cons_zero] at e ⊢
          rcases h1 with h1 | h1
          · rw [← h1]; exact e
          · rw [h1] at e; cases e
        | succ i =>
          simp only [List.getElem?_cons_succ] at e ⊢
          exact i2 i dv e
  obtain ⟨k1, k2⟩ := key δ1 δ2 h
  exact ⟨s.len.trans k1, fun i dv e => s.get i dv (k2 i dv e)⟩
theorem Xb.wk {X : Cx} {T : WX} {δ δ1 δ2 : Slots} {μ μ1 : Store} {sts : List Stmt} (h : Xb X T sts δ μ (.nx δ1 μ1)) (w : Wk δ1 δ2 := by repeat' first | exact True.intro | refine ⟨.inl rfl, ?_⟩ | refine ⟨.inr rfl, ?_⟩) : Xb X T sts δ μ (.nx δ2 μ1) := fun W H σ D A P =>
  h W H σ D A fun W' H' σ' g A' => P W' H' σ' g ⟨A'.st, w.sl A'.sl⟩
theorem It1.foldI {α S : Type} {R : DV → Slots → Store → Out → Prop} {f : α → D} {N : Nat} (δ : S → Slots) (μ : S → Store) (g : S → α → S) (I : Nat → S → Prop) : ∀ (as : List α) (h : ∀ s m a, m < N → a ∈ as → I m s → I (m + 1) (g s a) ∧ R (.dat (f a)) (δ s) (μ s) (.nx (δ (g s a)) (μ (g s a)))) (m : Nat) (s : S) (_ : m + as.length ≤ N) (_ : I m s),
    It1 R ((as.map f).map DV.dat) (δ s) (μ s) (.nx (δ (as.foldl g s)) (μ (as.foldl g s)))
  | [], _, _, _, _, _ => .nil
  | a :: as, h, m, s, hN, hs => by
    rw [List.length_cons] at hN
    obtain ⟨h1, h2⟩ := h s m a (by omega) List.mem_cons_self hs
    exact .next h2 (It1.foldI δ μ g I as (fun s m b hm hb => h s m b hm (List.mem_cons_of_mem _ hb)) (m + 1) (g s a) (by omega) h1)
section
variable {X : Cx} {T : WX} {δ : Slots} {μ μ1 : Store} {x : Str} {elt iter e : Expr} {scope : Scope} {pos tp rp p' : Pos} {α : Type}
theorem Ev.lcTa (j : Nat) (as : List α) (f0 g : α → D) (h : Ev X iter δ μ (.dat (.tup (as.map f0))) μ) (he : ∀ a ∈ as, ∀ s H0 cl C fp, Ev (bk X s H0 scope cl C fp) elt (δ.set j (some (.dat (f0 a)))) μ (.dat (g a)) μ) (hl : as.length ≤ 1000000)
    (hi : X.N[j]? = some x := by rfl) (hc : X.calm = true := by rfl) (nd : X.N.Nodup := by exact nod_of rfl) (ok : BlkOk X.N X.env.scope scope [(x, j)] := by exact blk_of rfl)
    (hg : TgOk X scope (.Name x tp) (gName j) := by first | exact fun _ _ _ _ _ => pg_name (nod_of rfl) rfl (.inl rfl) | exact fun _ _ _ _ _ => pg_name (nod_of rfl) rfl (.inr rfl)) (hs : ∀ y, foldedSetIterable iter X.env y = pure y := by intro _; rfl) :
    Ev X (.ListComp elt [⟨.Name x tp, iter, [], 0⟩] scope pos) δ μ (.dat (.lst (as.map g))) μ :=
  .lcOf hc nd (pi_tup semE_pe) ok hg (Nat.zero_le _) (lcT (μ1 := μ) h (by rw [List.map_map, List.map_map]; exact Lc.mapD fun a ha => El.go (Ek.of fun s H0 cl C fp => he a ha s H0 cl C fp)) (by simp; exact hl)) hs
theorem Ev.lcLa (j : Nat) (as : List α) (f0 g : α → D) (h : Ev X iter δ μ (.dat (.lst (as.map f0))) μ) (he : ∀ a ∈ as, ∀ s H0 cl C fp, Ev (bk X s H0 scope cl C fp) elt (δ.set j (some (.dat (f0 a)))) μ (.dat (g a)) μ) (hl : as.length ≤ 1000000)
    (hi : X.N[j]? = some x := by rfl) (hc : X.calm = true := by rfl) (nd : X.N.Nodup := by exact nod_of rfl) (ok : BlkOk X.N X.env.scope scope [(x, j)] := by exact blk_of rfl)
    (hg : TgOk X scope (.Name x tp) (gName j) := by first | exact fun _ _ _ _ _ => pg_name (nod_of rfl) rfl (.inl rfl) | exact fun _ _ _ _ _ => pg_name (nod_of rfl) rfl (.inr rfl)) (hs : ∀ y, foldedSetIterable iter X.env y = pure y := by intro _; rfl) :
    Ev X (.ListComp elt [⟨.Name x tp, iter, [], 0⟩] scope pos) δ μ (.dat (.lst (as.map g))) μ :=
  .lcOf hc nd (pi_list semE_pe) ok hg (Nat.zero_le _) (lcL (μ1 := μ) h (by rw [List.map_map, List.map_map]; exact Lc.mapD fun a ha => El.go (Ek.of fun s H0 cl C fp => he a ha s H0 cl C fp)) (by simp; exact hl)) hs
end
section
variable {α : Type} {J L : List α} {c x y z u : α}
theorem hL0 : (c :: (J ++ x :: L))[J.length + 1]? = some x := gL0 (μ := c :: J)
theorem hL1 : (c :: (J ++ x :: y :: L))[J.length + 1 + 1]? = some y := gL1 (μ := c :: J)
theorem hL2 : (c :: (J ++ x :: y :: z :: L))[J.length + 1 + 2]? = some z := gL (μ := c :: J) (L := x :: y :: z :: L) 2
theorem kL0 : (c :: (J ++ x :: L)).set (J.length + 1) u = c :: (J ++ u :: L) := sL0 (μ := c :: J)
theorem kL1 : (c :: (J ++ x :: y :: L)).set (J.length + 1 + 1) u = c :: (J ++ x :: u :: L) := sL1 (μ := c :: J)
theorem kL2 : (c :: (J ++ x :: y :: z :: L)).set (J.length + 1 + 2) u = c :: (J ++ x :: y :: u :: L) := sL (μ := c :: J) (L := x :: y :: z :: L) 2
end
end Dt
set_option maxHeartbeats 4000000
/-! More tools for walks: a slot's own list becomes frozen, cells at the end are let go, comprehensions over a range, try without a name. -/
namespace Dt
open PySem PySem.Spec L2
section
variable {X : Cx} {T : WX} {δ δ' δ1 δ2 : Slots} {μ μ' μ1 μ2 μ3 junk : Store} {e a b c : Expr} {es : List Expr} {st : Stmt} {sts rest body : List Stmt} {o : Out} {dv dv1 dv2 : DV} {dvs : List DV} {pos p p' tp rp : Pos} {i j k n : Nat} {x y : Str} {ds : List D} {scope : Scope} {elt : Expr}
theorem Xb.frzS (i k : Nat) (ds : List D) (h : Xb X T sts δ μ (.nx δ1 μ1)) (hi : δ1[i]? = some (some (.own k))) (hk : μ1[k]? = some (.lst (ds.map DV.dat))) : Xb X T sts δ μ (.nx (δ1.set i (some (.dat (.lst ds)))) (μ1.set k .gone)) := fun W H σ D A P =>
  h W H σ D A fun W' H' σ' g A' => by
    obtain ⟨g0, vs, hv, rl⟩ := A'.st.cell k _ hk
    obtain ⟨g2, s⟩ := go_freeze A'.st hk (by intro z; cases z) hv
    obtain ⟨v, hv', rv⟩ := A'.sl.get i _ hi
    have ev : v = .ref (W'.A k) := rv.2
    subst ev
    refine P _ _ σ' (g.trans g2) ⟨s, ?_⟩
    have sl2 := (A'.sl.mono g2.le)
    have rd : Rel X.K { W' with G := upd W'.G (W'.A k) (.lst vs) } (.dat (.lst ds)) (.ref (W'.A k)) := Dq.lst upd_same (DqA.of (Rels.mono g2.le rl))
    refine ⟨by rw [List.length_set]; exact sl2.len, fun m dm hm => ?_⟩
    by_cases e : i = m
    · subst e
      have hl : i < δ1.length := (List.getElem?_eq_some_iff.mp hi).1
      rw [List.getElem?_set_self hl] at hm
      cases hm
      exact ⟨_, hv', rd⟩
    · rw [List.getElem?_set_ne e] at hm
      exact sl2.get m dm hm
theorem Xb.cut (h : Xb X T sts δ μ (.nx δ1 (μ1 ++ junk))) (kp : Keep μ μ1) (hk : ∀ (m k : Nat), δ1[m]? = some (some (.own k)) → k < μ1.length) : Xb X T sts δ μ (.nx δ1 μ1) := fun W H σ D A P =>
  h W H σ D A fun W' H' σ' g A' => by
    have hn : W.n ≤ μ1.length := by rw [A.st.n]; exact kp.len
    obtain ⟨g4, s4⟩ := go_cut A.st A'.st g kp hn
    exact P _ _ _ g4 ⟨s4, cutSl A'.sl hk⟩
/-- [elt for x in range(n)], each turn pure -/
theorem Ev.lcRa {m : Nat} {g : Nat → D} (j : Nat) (hm : X.mg "range" = none) (h : Ev X e δ μ (.i (m : Int)) μ) (hml : m < 1000000) (he : ∀ i, i < m → ∀ s H0 cl C fp, Ev (bk X s H0 scope cl C fp) elt (δ.set j (some (.i (i : Int)))) μ (.dat (g i)) μ)
    (hi : X.N[j]? = some x := by rfl) (hc : X.calm = true := by rfl) (nd : X.N.Nodup := by exact nod_of rfl) (ok : BlkOk X.N X.env.scope scope [(x, j)] := by exact blk_of rfl)
    (hg : TgOk X scope (.Name x tp) (gName j) := by first | exact fun _ _ _ _ _ => pg_name (nod_of rfl) rfl (.inl rfl) | exact fun _ _ _ _ _ => pg_name (nod_of rfl) rfl (.inr rfl)) (hgl : Gl X "range" := by rfl) (hst : starEach [e] X.env = [(false, eval e X.env)] := by rfl)
    (hs : ∀ y, foldedSetIterable (.Call (.Name "range" p') [e] [] rp) X.env y = pure y := by intro _; rfl) :
    Ev X (.ListComp elt [⟨.Name x tp, .Call (.Name "range" p') [e] [] rp, [], 0⟩] scope pos) δ μ (.dat (.lst ((List.range m).map g))) μ := by
  have it : Lc (El X scope [] elt j δ) (upto 0 m) μ (((List.range m).map g).map DV.dat) μ := by
    unfold upto
    rw [List.map_map]
    refine Lc.mapD fun i hi => El.go (Ek.of fun s H0 cl C fp => ?_)
    have := he i (List.mem_range.mp hi) s H0 cl C fp
    rw [Int.zero_add]
    exact this
  exact .lcOf hc nd (pi_range1 hgl hm (pa_cons semE_pe pa_nil hst) hst) ok hg (Nat.zero_le _) (lcR h (by omega) (by omega) it (by rw [List.length_map, List.length_map, List.length_range]; omega)) hs
/-- try: body, except C: .. where the body ends in a value -/
theorem Xs.tryN {h₀ : ExceptHandler} {hds : List ExceptHandler} {l : List (Value × (Addr → Value → Option Addr → TS))} (hs : X.stack = X.env :: X.outer) (hf : X.env.frame = some X.env.locals) (tk : L2N.Takes X T) (hh : L2N.HdsOk X (h₀ :: hds) l) (hb : BodyTr X body δ μ o) (hn : ∀ C fs d m, o ≠ .ex C fs d m) : Xs X T (.Try body (h₀ :: hds) [] [] pos) δ μ o := fun W H σ D A P => by
  refine semS_of (L2N.ps_try_many hs hf tk (tb := fun W' => fun D σ H => ∀ pn xe, L2N.Takes (X.tr pn xe) W' → PassesOwn (model X.prog X.w) X.A X.env xe → semB (X.tr pn xe) body D σ H) (fun W' pn xe t q => ⟨fun pins s σ H D I h => (h pn xe t q).run pins s I⟩) hh) ?_
  intro pn xe t q
  refine hb pn xe _ t q W H σ D A ?_
  cases o with
  | ex C fs d m => exact absurd rfl (hn C fs d m)
  | nx _ _ => exact P
  | rt _ _ => exact P
  | bk _ _ => exact P
  | ct _ _ => exact P
end
section
variable {X : Cx} {T : WX} {δ : Slots} {μ μ1 : Store} {x : Str} {elt iter e : Expr} {scope : Scope} {pos tp rp p' : Pos} {α : Type}
theorem Ev.lcLb (j : Nat) (as : List α) (f0 g : α → D) (h : Ev X iter δ μ (.dat (.lst (as.map f0))) μ1) (he : ∀ a ∈ as, ∀ s H0 cl C fp, Ev (bk X s H0 scope cl C fp) elt (δ.set j (some (.dat (f0 a)))) μ1 (.dat (g a)) μ1) (hl : as.length ≤ 1000000)
    (hi : X.N[j]? = some x := by rfl) (hc : X.calm = true := by rfl) (nd : X.N.Nodup := by exact nod_of rfl) (ok : BlkOk X.N X.env.scope scope [(x, j)] := by exact blk_of rfl)
    (hg : TgOk X scope (.Name x tp) (gName j) := by first | exact fun _ _ _ _ _ => pg_name (nod_of rfl) rfl (.inl rfl) | exact fun _ _ _ _ _ => pg_name (nod_of rfl) rfl (.inr rfl)) (hs : ∀ y, foldedSetIterable iter X.env y = pure y := by intro _; rfl) :
    Ev X (.ListComp elt [⟨.Name x tp, iter, [], 0⟩] scope pos) δ μ (.dat (.lst (as.map g))) μ1 :=
  .lcOf hc nd (pi_list semE_pe) ok hg (Nat.zero_le _) (lcL (μ1 := μ1) h (by rw [List.map_map, List.map_map]; exact Lc.mapD fun a ha => El.go (Ek.of fun s H0 cl C fp => he a ha s H0 cl C fp)) (by simp; exact hl)) hs
end
/-- the cells that slots hold lie below n -/
def OwnB (n : Nat) : Slots → Prop
  | [] => True
  | some (.own k) :: r => k < n ∧ OwnB n r
  | _ :: r => OwnB n r
theorem OwnB.of {n : Nat} : ∀ {δ : Slots}, OwnB n δ → ∀ (m k : Nat), δ[m]? = some (some (.own k)) → k < n
  | [], _, m, k, h => by simp at h
  | a :: r, hb, 0, k, h => by
    simp only [List.getElem?_cons_zero] at h
    cases h
    exact hb.1
  | a :: r, hb, m + 1, k, h => by
    simp only [List.getElem?_cons_succ] at h
    have hr : OwnB n r := by
      match a, hb with
      | none, hb => exact hb
      | some (.dat _), hb => exact hb
      | some (.own _), hb => exact hb.2
    exact OwnB.of hr m k h
end Dt
set_option maxHeartbeats 4000000
/-! Own dicts that a loop or a comprehension walks (locked while it does); loops over zip; list.pop(), list.remove(x). -/
namespace L2
open PySem PySem.Spec
theorem for_keys {d : Addr} {ob : Obj} {kvs : List (Key × V)} {g : TG} {tb : TS} {D : Ends} {σ : St} {H : Hp} (Pv : Nat → St → Hp → Prop) (h0 : Pv 0 σ H) (hq : ∀ i σ H, Pv i σ H → H d = some (.frz ob (.dK kvs)))
    (hs : ∀ i k v σ H, kvs[i]? = some (k, v) → Pv i σ H → g (kV k) σ H fun σ2 H2 => tb { D with nx := Pv (i + 1), ct := Pv (i + 1), bk := D.nx } σ2 H2) (hd : ∀ σ H, Pv kvs.length σ H → D.nx σ H) :
    ∃ W : Nat → Nat → St → Hp → Prop, (∃ m, W 0 m σ H) ∧ ∀ i m σ H, W i m σ H →
      ((Itk d ob kvs).stop i H ∧ D.nx σ H) ∨ ((Itk d ob kvs).go i H ∧ ∃ N : St → Hp → Prop, (∀ σ' H', N σ' H' → ∃ m', m' < m ∧ W (i + 1) m' σ' H') ∧ ∀ x H', (Itk d ob kvs).yld i H x H' → g x σ H' fun σ2 H2 => tb { D with nx := N, ct := N, bk := D.nx } σ2 H2) := by
  refine ⟨fun i m σ H => m = kvs.length - i ∧ i ≤ kvs.length ∧ Pv i σ H, ⟨kvs.length, rfl, Nat.zero_le _, h0⟩, ?_⟩
  rintro i m σ H ⟨rfl, hi, p⟩
  have q := hq i σ H p
  by_cases hlt : i < kvs.length
  · refine .inr ⟨⟨q, hlt⟩, Pv (i + 1), fun σ' H' p' => ⟨kvs.length - (i + 1), by omega, rfl, hlt, p'⟩, fun x H' y => ?_⟩
    obtain ⟨rfl, k, v, hk, rfl⟩ := y
    exact hs i k v σ _ hk p
  · have e : i = kvs.length := by omega
    subst e
    exact .inl ⟨⟨q, Nat.le_refl _⟩, hd σ H p⟩
section
variable {X : Cx}
theorem ps_setDc {i : Nat} {y : Str} {py : Pos} {kx vx tg iter : Expr} {ifs : List Expr} {scope : Scope} {own : List (Str × Nat)} {pos spos : Pos} {wi : TI} {g : TG} {tt : TT} {tk tv : TE} (hc : X.calm = true) (hN : X.N.Nodup) (hy : X.N[i]? = some y) (hyl : X.env.scope.names.lookup y = some .local)
    (hsw : swapsWith (.DictComp kx vx [⟨tg, iter, ifs, 0⟩] scope pos) (some (.Name y py)) spos.line X.env = pure true) (hi : PI X tg iter wi) (ok : BlkOk X.N X.env.scope scope own)
    (hg : ∀ (s : Shared) (H : Hp) (C : Addr) (cl : List (Str × Addr)) (fp : List Addr), PG (X.blk s H scope (compEnvC scope cl C X.env) fp) tg g) (ht : ∀ (s : Shared) (H : Hp) (C : Addr) (cl : List (Str × Addr)) (fp : List Addr), PTs (X.blk s H scope (compEnvC scope cl C X.env) fp) ifs tt)
    (hk : ∀ (s : Shared) (H : Hp) (C : Addr) (cl : List (Str × Addr)) (fp : List Addr), PE (X.blk s H scope (compEnvC scope cl C X.env) fp) kx tk)
    (he : ∀ (s : Shared) (H : Hp) (C : Addr) (cl : List (Str × Addr)) (fp : List Addr), PE (X.blk s H scope (compEnvC scope cl C X.env) fp) vx tv) (hs : ∀ x, foldedSetIterable iter X.env x = pure x := by intro _; rfl) :
    PS X (.Assign [.Name y py] (.DictComp kx vx [⟨tg, iter, ifs, 0⟩] scope pos) spos) (tAsg (tDc wi g tt tk tv (own.map (·.2))) (gName i)) := by
  refine ⟨fun pins s σ H D I h => ?_⟩
  rw [exec_Assign_Name_used _ _ _ _ hsw]
  refine wpAny_bind (wpAny_standAt (wpAny_bind ?_))
  show wpAny _ X.A (do let _ ← comprehension (.DictComp kx vx [⟨tg, iter, ifs, 0⟩] scope pos) scope X.env (firstIterPos [⟨tg, iter, ifs, 0⟩] pos) newDict false (eval iter X.env) (some (assign (.Name y py) X.env))) _ _ s
  have h : tDc wi g tt tk tv (own.map (·.2)) σ H (fun x H1 => gName i x σ H1 D.nx) := h
  refine wpAny_bind (thn (dc_core (Qf := fun _ s' => SP X pins D .next s') hc hN I hi ok hg ht hk he hs h fun L C s' m H' I' q hn f => ?_) fun _ s' hq => wpAny_pure (wpAny_pure hq))
  show wpAny _ _ (assign (.Name y py) X.env (.ref L)) _ _ _
  refine wpAny_assign_Name (store_ok2 (v := V.ref L) I' hN hy (.inl hyl) rfl (fun s2 I2 ⟨a, sb, ha⟩ => ?_) (.inr hyl))
  obtain ⟨f0, f1, f2, f3, f4, f5⟩ := f
  have haC : C ≠ a := by
    rcases ha with z | z
    · rw [z]; exact f1
    · exact fun e => f4 y a z e.symm
  refine ⟨m, hn.sameBut sb haC, fun h3 sb3 => ?_⟩
  exact ⟨_, H', I2.turned (t' := s2.toks) (fun b o hb e => (sb3.2 b hb).trans e) f0 f1 f3 f4 f5, q⟩
theorem sw_trueD {kx vx : Expr} {gs : List Comprehension} {scope : Scope} {pos py : Pos} {y : Str} {l : Nat} {env : Env} (hk : env.scope.kind = .function) (hy : env.scope.names.lookup y = some .local) (hl : (py.line == pos.line) = true)
    (ha : (scope.names.any fun (n, k) => n == y && (k == .local || k == .cell)) = false) : swapsWith (.DictComp kx vx gs scope pos) (some (.Name y py)) l env = pure true := by
  have ky : env.kindOf y = some .local := hy
  have hb : env.blockKind = .function := by unfold Env.blockKind; rw [hk]; rfl
  unfold swapsWith
  simp only [hb, ky, ha, Expr.pos, hl]
  rfl
end
end L2
namespace Dt
open PySem PySem.Spec L2
open PyProof.Rows (envOfC)
/-- a dict that may be read: its own cell, or locked -/
def DKat (μ : Store) (k : Nat) (kvs : List (Key × DV)) : Prop := μ[k]? = some (.dK kvs) ∨ ∃ o, μ[k]? = some (.lk o kvs)
theorem DKat.sq {K : PySem.W.Frag} {W : Wd} {H : Hp} {μ : Store} {k : Nat} {kvs : List (Key × DV)} {v : V} (h : DKat μ k kvs) (S : StOk K W H μ) (r : Rel K W (.own k) v) : ∃ ws, v = .ref (W.A k) ∧ RelK K W kvs ws ∧ ∀ q, DGet H (W.A k) (kV q) (valV ws q) := by
  rcases h with h | ⟨o, h⟩
  · obtain ⟨_, ws, e, rl⟩ := S.cell k _ h
    exact ⟨ws, r.2, rl, fun q => DGet.k e⟩
  · obtain ⟨_, e, ob, ws, rfl, rl⟩ := S.cell k _ h
    exact ⟨ws, r.2, rl, fun q => .inl ⟨ws, q, .inr ⟨ob, e⟩, rfl, rfl⟩⟩
theorem set_back {α : Type} {l : List α} {k : Nat} {x y : α} (h : l[k]? = some y) : (l.set k x).set k y = l := by
  rw [List.set_set]
  exact List.ext_getElem? fun i => by
    by_cases e : k = i
    · subst e
      rw [List.getElem?_set_self (List.getElem?_eq_some_iff.mp h).1, h]
    · rw [List.getElem?_set_ne e]
section
variable {X : Cx} {T : WX} {δ δ' δ1 δ2 : Slots} {μ μ' μ1 μ2 μ3 : Store} {e a b c : Expr} {es : List Expr} {st : Stmt} {sts rest body : List Stmt} {o : Out} {dv dv1 dv2 : DV} {dvs : List DV} {pos p p' : Pos} {i j k n : Nat} {x y : Str} {scope : Scope}
theorem Ev.dgetK {kvs : List (Key × DV)} {q : Key} (hu : X.A.units + 1 < cLine) (ha : Ev X a δ μ (.own k) μ1) (hb : Ev X b δ μ1 (.dat (keyD q)) μ2) (hk : DKat μ2 k kvs) (h : lookK kvs q = some dv) (hs : NoSl b := by exact fun _ _ => rfl) :
    Ev X (.Subscript a b pos) δ μ dv μ2 := fun W H σ Q A kk => by
  refine semE_of (pe_dget hu semE_pe semE_pe hs) ?_
  refine ha W H σ _ A fun W1 H1 x g1 A1 r1 => hb W1 H1 σ _ A1 fun W2 H2 y g2 A2 r2 => ?_
  obtain ⟨ws, ex, rl, hg⟩ := hk.sq A2.st (r1.mono g2.le)
  rcases lookK_rel (q := q) rl with ⟨e1, e2⟩ | ⟨d, v, e1, e2, rv⟩
  · rw [h] at e1
    cases e1
  · rw [h] at e1
    cases e1
    exact ⟨_, v, ex, by rw [key_rel r2, ← e2]; exact hg q, kk W2 H2 v (g1.trans g2) A2 rv⟩
theorem it_turnW {K : PySem.W.Frag} {W0 W : Wd} {H0 : Hp} {μ0 : Store} {R : DV → Slots → Store → Out → Prop} {xs : List DV} {D : Ends} {g : TG} {tb : TS} {x : DV} {v : V} {σ : L2.St} {H : Hp}
    (P : Post K W0 H0 μ0 D T o) (hR : ∀ W H σ δ μ o', At K W H σ δ μ → Rel K W x v → R x δ μ o' → ∀ D', Post K W H μ D' T o' → g v σ H fun σ2 H2 => tb D' σ2 H2)
    (hx : xs[i]? = some x) (g0 : Go W0 H0 μ0 W H μ) (A : At K W H σ δ μ) (it : It1 R (xs.drop i) δ μ o) (rv : Rel K W x v) :
    g v σ H fun σ2 H2 => tb { D with nx := ItAt K W0 H0 μ0 R xs o (i + 1), ct := ItAt K W0 H0 μ0 R xs o (i + 1), bk := D.nx } σ2 H2 := by
  rw [drop_cons hx] at it
  cases it with
  | next h1 h2 => exact hR W H σ δ μ _ A rv h1 _ fun W' H' σ' g' A' => ⟨W', _, _, g0.trans g', A', h2⟩
  | cont h1 h2 => exact hR W H σ δ μ _ A rv h1 _ fun W' H' σ' g' A' => ⟨W', _, _, g0.trans g', A', h2⟩
  | brk h1 => exact hR W H σ δ μ _ A rv h1 _ fun W' H' σ' g' A' => P W' H' σ' (g0.trans g') A'
  | ret h1 => exact hR W H σ δ μ _ A rv h1 _ fun W' H' v' g' A' r => P W' H' v' (g0.trans g') A' r
  | exc h1 => exact hR W H σ δ μ _ A rv h1 _ fun W' H' σ' d g' A' r nq => P W' H' σ' d (g0.trans g') A' r (nq.back g0)
theorem keyD_rel {K : PySem.W.Frag} {W : Wd} (q : Key) : Rel K W (.dat (keyD q)) (kV q) := by
  cases q with
  | inl m => exact Dq.int m
  | inr s => exact Dq.str s
/-- a walk over an own dict: locked, and open again -/
theorem lockGo {K : PySem.W.Frag} {W : Wd} {H : Hp} {kvs : List (Key × DV)} {ws : List (Key × V)} {ob : Obj} (A : At K W H σ δ μ) (hk : μ[k]? = some (.dK kvs)) (g0 : W.G (W.A k) = none) (rl : RelK K W kvs ws) :
    Go W H μ W (upd H (W.A k) (.frz ob (.dK ws))) (μ.set k (.lk (.frz ob (.dK ws)) kvs)) ∧ At K W (upd H (W.A k) (.frz ob (.dK ws))) σ δ (μ.set k (.lk (.frz ob (.dK ws)) kvs)) := by
  obtain ⟨g, s⟩ := go_setC (o := .frz ob (.dK ws)) (c' := .lk (.frz ob (.dK ws)) kvs) A.st hk (by intro z; cases z) ⟨g0, upd_same, ob, ws, rfl, rl⟩
  exact ⟨g, A.le g s⟩
theorem openGo {K : PySem.W.Frag} {W : Wd} {H : Hp} {σ : L2.St} {kvs : List (Key × DV)} {ws : List (Key × V)} {ob : Obj} (A : At K W H σ δ μ) (hk : μ[k]? = some (.lk (.frz ob (.dK ws)) kvs)) :
    H (W.A k) = some (.frz ob (.dK ws)) ∧ Go W H μ W (upd H (W.A k) (.dK ws)) (μ.set k (.dK kvs)) ∧ At K W (upd H (W.A k) (.dK ws)) σ δ (μ.set k (.dK kvs)) := by
  obtain ⟨g0, e, ob', ws', q, rl⟩ := A.st.cell k _ hk
  cases q
  obtain ⟨g, s⟩ := go_setC (o := .dK ws) (c' := .dK kvs) A.st hk (by intro z; cases z) ⟨g0, ws, upd_same, rl⟩
  exact ⟨e, g, A.le g s⟩
theorem Paired.getR {α β : Type} {F : α → β → Prop} : ∀ {xs : List α} {ys : List β} {n : Nat} {y : β}, Paired F xs ys → ys[n]? = some y → ∃ x, xs[n]? = some x ∧ F x y
  | _, _, _, _, .nil, e => by simp at e
  | _, _, 0, _, .cons r _, e => by
    simp at e
    subst e
    exact ⟨_, rfl, r⟩
  | _, _, n + 1, y, .cons _ t, e => by
    obtain ⟨u, h1, h2⟩ := Paired.getR (n := n) (y := y) t (by simpa using e)
    exact ⟨u, by simpa using h1, h2⟩
/-- the body, the dict in cell k locked ahead of each turn -/
def BodyK (X : Cx) (T : WX) (j : Nat) (body : List Stmt) (k : Nat) (u : HO) (kvs : List (Key × DV)) : DV → Slots → Store → Out → Prop := fun x δ μ o => μ[k]? = some (.lk u kvs) ∧ Body X T j body x δ μ o
theorem it_lk {u : HO} {kvs : List (Key × DV)} {xs : List DV} {μf : Store} (h : It1 (BodyK X T j body k u kvs) xs δ μ (.nx δ' μf)) (hf : μf[k]? = some (.lk u kvs)) : μ[k]? = some (.lk u kvs) := by
  cases h with
  | nil => exact hf
  | next h1 _ => exact h1.1
  | cont h1 _ => exact h1.1
  | brk h1 => exact h1.1
/-- for x in d, d an own dict that the body leaves as it is -/
theorem Xs.forD {kvs : List (Key × DV)} (hc : X.calm = true) (nd : X.N.Nodup) (hp : PassesOwn (model X.prog X.w) X.A X.env X.xe) (j : Nat) (h : ∀ o, Ev X e δ (μ.set k (.lk o kvs)) (.own k) (μ.set k (.lk o kvs))) (hk : μ[k]? = some (.dK kvs)) (hk2 : μ2[k]? = some (.dK kvs))
    (it : ∀ o, It1 (BodyK X T j body k o kvs) (kvs.map fun q => DV.dat (keyD q.1)) δ (μ.set k (.lk o kvs)) (.nx δ2 (μ2.set k (.lk o kvs))))
    (hi : X.N[j]? = some x := by rfl) (hx : Loc X.env.scope x := by first | exact Or.inl rfl | exact Or.inr rfl) (hf : X.fn x = true ∨ X.env.scope.names.lookup x = some .local := by first | exact .inl rfl | exact .inr rfl)
    (hs : ∀ x, foldedSetIterable e X.env x = pure x := by intro _; rfl) : Xs X T (.For (.Name x p) e body [] pos) δ μ (.nx δ2 μ2) := fun W H σ D A P => by
  refine semS_of (ps_lock (ps_for hp hc (pi_keys semE_pe) (pg_name nd hi hx hf) semB_ps hs)) ?_
  obtain ⟨g0, ws, hw, rl⟩ := A.st.cell k _ hk
  have hkn := A.st.lt hk
  refine ⟨W.A k, .dK ws, hw, trivial, fun ob => ?_⟩
  obtain ⟨gl, A1⟩ := lockGo (ob := ob) A hk g0 rl
  refine h _ W _ σ _ A1 fun W1 H1 v g1 A2 r1 => ?_
  have hl : k < μ.length := (List.getElem?_eq_some_iff.mp hk).1
  have hl2 : k < μ2.length := (List.getElem?_eq_some_iff.mp hk2).1
  obtain ⟨e1, _, _⟩ := openGo A2 (List.getElem?_set_self hl)
  have eA1 : W1.A k = W.A k := g1.le.A k hkn
  have g01 := gl.trans g1
  refine ⟨W1.A k, ob, r1.2, .inl ⟨ws, e1, ?_⟩⟩
  have P1 : Post X.K W1 H1 (μ.set k (.lk (.frz ob (.dK ws)) kvs)) ⟨fun σ' H' => H' (W.A k) = some (.frz ob (.dK ws)) ∧ D.nx σ' (upd H' (W.A k) (.dK ws)), fun v H' => H' (W.A k) = some (.frz ob (.dK ws)) ∧ D.rt v (upd H' (W.A k) (.dK ws)), fun σ' H' => H' (W.A k) = some (.frz ob (.dK ws)) ∧ D.bk σ' (upd H' (W.A k) (.dK ws)), fun σ' H' => H' (W.A k) = some (.frz ob (.dK ws)) ∧ D.ct σ' (upd H' (W.A k) (.dK ws))⟩ T (.nx δ2 (μ2.set k (.lk (.frz ob (.dK ws)) kvs))) := fun W' H' σ' g' A' => by
    obtain ⟨e2, g2, A3⟩ := openGo A' (List.getElem?_set_self hl2)
    have eA : W'.A k = W.A k := (g01.trans g').le.A k hkn
    rw [set_back hk2] at g2 A3
    rw [eA] at e2 g2 A3
    exact ⟨e2, P W' _ σ' ((g01.trans g').trans g2) A3⟩
  have el : (kvs.map fun q => DV.dat (keyD q.1)).length = ws.length := by rw [List.length_map]; exact Paired.length rl
  refine for_keys (kvs := ws) (ItAt X.K W1 H1 (μ.set k (.lk (.frz ob (.dK ws)) kvs)) (BodyK X T j body k (.frz ob (.dK ws)) kvs) (kvs.map fun q => DV.dat (keyD q.1)) (.nx δ2 (μ2.set k (.lk (.frz ob (.dK ws)) kvs)))) ⟨W1, δ, _, .refl, A2, it _⟩ ?_ ?_ ?_
  · rintro i σ' H' ⟨W', δ', μ', g', A', it'⟩
    obtain ⟨e2, _, _⟩ := openGo A' (it_lk it' (List.getElem?_set_self hl2))
    rw [show W1.A k = W'.A k from (g'.le.A k (Nat.lt_of_lt_of_le hkn g01.le.n)).symm]
    exact e2
  · rintro i q u σ' H' hq hI
    obtain ⟨z, hz, rz⟩ := Paired.getR rl hq
    exact it_turn P1 (fun W H σ δ μ o' A r h D' P => body_R W H σ δ μ o' A r h.2 D' P) (x := .dat (keyD z.1)) (by rw [List.getElem?_map, hz]; rfl) (by have e : z.1 = q := rz.1; rw [e]; exact keyD_rel _) hI
  · intro σ' H' hI
    exact it_done P1 (by rw [el]; exact hI)
/-- {k: v for x in d} as an own cell, d an own dict -/
structure DkT (X : Cx) (scope : Scope) (kx vx : Expr) (j : Nat) (δ : Slots) (μ : Store) (ks : List Key) (out : List (Key × DV)) : Prop where
  len : out.length = ks.length
  turn : ∀ (m : Nat) (q : Key) (r : Key × DV), ks[m]? = some q → out[m]? = some r → Ek X scope kx (δ.set j (some (.dat (keyD q)))) μ (.dat (keyD r.1)) μ ∧ Ek X scope vx (δ.set j (some (.dat (keyD q)))) μ r.2 μ
theorem dcK_go {kx vx : Expr} {W : Wd} {H : Hp} {σ : L2.St} {kvs out : List (Key × DV)} {ws : List (Key × V)} {ob : Obj} {Q : VK} (A : At X.K W H σ δ μ) (h : ∀ o, Ev X e δ (μ.set k (.lk o kvs)) (.own k) (μ.set k (.lk o kvs))) (hk : μ[k]? = some (.dK kvs)) (hz : kvs.length ≤ 100000)
    (g0 : W.G (W.A k) = none) (rl : RelK X.K W kvs ws) (t : ∀ o, DkT X scope kx vx j δ (μ.set k (.lk o kvs)) (kvs.map (·.1)) out)
    (kk : ∀ W' H' v, Go W H μ W' H' (μ ++ [.dK (putsD out)]) → At X.K W' H' σ δ (μ ++ [.dK (putsD out)]) → Rel X.K W' (.own μ.length) v → Q v H') :
    tDc (iKeys (semE X e)) (gName j) tYes (semK X scope kx) (semK X scope vx) [j] σ (upd H (W.A k) (.frz ob (.dK ws))) (fun v H' => H' (W.A k) = some (.frz ob (.dK ws)) ∧ Q v (upd H' (W.A k) (.dK ws))) := by
  have hkn := A.st.lt hk
  have hl : k < μ.length := (List.getElem?_eq_some_iff.mp hk).1
  obtain ⟨gl, A1⟩ := lockGo (ob := ob) A hk g0 rl
  refine h _ W _ σ _ A1 fun W1 H1 v g1 A2 r1 => ?_
  obtain ⟨e1, _, _⟩ := openGo A2 (List.getElem?_set_self hl)
  have t := t (.frz ob (.dK ws))
  generalize hμ1 : μ.set k (.lk (.frz ob (.dK ws)) kvs) = μ1 at *
  have hk1 : μ1[k]? = some (.lk (.frz ob (.dK ws)) kvs) := by rw [← hμ1]; exact List.getElem?_set_self hl
  have g01 := gl.trans g1
  have el : kvs.length = ws.length := Paired.length rl
  refine ⟨W1.A k, ob, r1.2, .inl ⟨ws, e1, fun q h0 => ?_⟩⟩
  have at_ : ∀ {W' : Wd} {H' : Hp}, Go W1 H1 μ1 W' H' μ1 → At X.K W' H' σ δ μ1 → H' (W1.A k) = some (.frz ob (.dK ws)) := fun {W' H'} g' A' => by
    obtain ⟨e2, _, _⟩ := openGo A' hk1
    rw [← g'.le.A k (Nat.lt_of_lt_of_le hkn g01.le.n)]
    exact e2
  have gq : W1.G q = none := A2.st.ex.free h0
  have of := Off.fresh A2.st h0
  have start : DcAt X.K W1 H1 μ1 out σ δ q 0 (upd H1 q (.dK [])) := ⟨W1, [], ⟨Wd.le.rfl', fun w o e z f => ⟨by rw [upd_ne (ne_of_none e h0)]; exact e, z, f⟩⟩, ⟨A2.st.beside gq of, A2.sl⟩, upd_same, gq, of, .nil⟩
  refine ⟨fun m z H' => z = kvs.length - m ∧ m ≤ kvs.length ∧ DcAt X.K W1 H1 μ1 out σ δ q m H', ⟨_, rfl, Nat.zero_le _, start⟩, ?_⟩
  rintro m z H' ⟨rfl, hm', hI⟩
  have hI0 := hI
  obtain ⟨W', wsq, g', A', hws, gq', of', rlq⟩ := hI
  have lkd := at_ g' A'
  by_cases hlt : m < kvs.length
  · refine .inr ⟨⟨lkd, by rw [← el]; exact hlt⟩, fun H' => DcAt X.K W1 H1 μ1 out σ δ q (m + 1) H', fun H2 h2 => ⟨_, by omega, rfl, hlt, h2⟩, ?_⟩
    rintro xv H2 ⟨rfl, kq, vq, hkq, rfl⟩
    obtain ⟨zz, hzz, rz⟩ := Paired.getR rl hkq
    have ekq : zz.1 = kq := rz.1
    have hkm : (kvs.map (·.1))[m]? = some kq := by rw [List.getElem?_map, hzz, ← ekq]; rfl
    have hol : m < out.length := by rw [t.len, List.length_map]; exact hlt
    obtain ⟨t1, t2⟩ := t.turn m kq out[m] hkm (List.getElem?_eq_getElem hol)
    have A3 : At X.K W' _ ((L2.wipe σ [j]).set j (some (kV kq))) (δ.set j (some (.dat (keyD kq)))) μ1 := ⟨A'.st, A'.sl.wipe1 (keyD_rel kq) j⟩
    refine ⟨wipe_back σ j _, ?_⟩
    refine t1 W' _ _ _ A3 fun W4 H4 kv g4 A4 r4 => t2 W4 H4 _ _ A4 fun W5 H5 vv g5 A5 r5 => ?_
    have gg := g4.trans g5
    obtain ⟨hq5, gq5, of5⟩ := gg.fr q _ hws gq' of'
    refine ⟨wsq, out[m].1, key_rel r4, hq5, ?_, W5, _, ⟨(g'.trans gg).le, fun w o e z f => ?_⟩, ⟨A5.st.beside gq5 of5, A'.sl.mono gg.le⟩, upd_same, gq5, of5, ?_⟩
    · rw [← Paired.length rlq]
      have h1 := puts_len (out.take m) []
      have h2 : (out.take m).length ≤ m := by rw [List.length_take]; omega
      have h3 : (putsD (out.take m)).length ≤ m := by
        unfold putsD
        simp only [List.length_nil] at h1
        omega
      rw [sizeLine_eq]
      omega
    · obtain ⟨w1, w2, w3⟩ := (g'.trans gg).fr w o e z f
      exact ⟨by rw [upd_ne (ne_of_none e h0)]; exact w1, w2, w3⟩
    · have et : putsD (out.take (m + 1)) = putD (putsD (out.take m)) out[m].1 out[m].2 := by
        unfold putsD
        rw [take_succ_of (List.getElem?_eq_getElem hol), List.foldl_append]
        rfl
      rw [et]
      exact putD_rel r5 (RelK.mono gg.le rlq)
  · have em : m = kvs.length := by omega
    subst em
    refine .inl ⟨⟨lkd, by rw [el]; exact Nat.le_refl _⟩, ?_⟩
    have ek : out.take kvs.length = out := by
      have : kvs.length = out.length := by rw [t.len, List.length_map]
      rw [this]
      exact List.take_length
    rw [ek] at rlq
    obtain ⟨g2, s⟩ := adoptC (cl := .dK (putsD out)) (g01.trans g') A'.st ((Nq.none h0).back g01) of' ⟨by rw [Wd.push_at]; exact gq', wsq, by rw [Wd.push_at]; exact hws, RelK.mono (W'.push_le q) rlq⟩
    have A6 : At X.K (W'.push q) H' σ δ (μ1 ++ [.dK (putsD out)]) := ⟨s, A'.sl.mono (W'.push_le q)⟩
    have hk6 : (μ1 ++ [.dK (putsD out)])[k]? = some (.lk (.frz ob (.dK ws)) kvs) := by
      rw [List.getElem?_append_left (List.getElem?_eq_some_iff.mp hk1).1]
      exact hk1
    obtain ⟨e6, g6, A7⟩ := openGo A6 hk6
    have eA : (W'.push q).A k = W.A k := (g2.le).A k hkn
    rw [eA] at e6 g6 A7
    have eμ : (μ1 ++ [Cell.dK (putsD out)]).set k (.dK kvs) = μ ++ [.dK (putsD out)] := by
      rw [List.set_append_left _ _ (List.getElem?_eq_some_iff.mp hk1).1, ← hμ1, set_back hk]
    rw [eμ] at g6 A7
    refine ⟨e6, kk _ _ _ (g2.trans g6) A7 ⟨?_, ?_⟩⟩
    · have := A7.st.n
      rw [List.length_append, List.length_singleton] at this
      rw [this]
      exact Nat.lt_succ_self _
    · have en : W'.n = μ1.length := A'.st.n
      have el1 : μ1.length = μ.length := by rw [← hμ1, List.length_set]
      rw [← el1, ← en, Wd.push_at]
theorem Ev.dcK {kx vx tg : Expr} {kvs out : List (Key × DV)} (hc : X.calm = true) (nd : X.N.Nodup) (h : ∀ o, Ev X e δ (μ.set k (.lk o kvs)) (.own k) (μ.set k (.lk o kvs))) (hk : μ[k]? = some (.dK kvs)) (hz : kvs.length ≤ 100000)
    (t : ∀ o, DkT X scope kx vx j δ (μ.set k (.lk o kvs)) (kvs.map (·.1)) out) (ok : BlkOk X.N X.env.scope scope [(x, j)]) (hg : TgOk X scope tg (gName j)) (hs : ∀ z, foldedSetIterable e X.env z = pure z := by intro _; rfl) :
    Ev X (.DictComp kx vx [⟨tg, e, [], 0⟩] scope pos) δ μ (.own μ.length) (μ ++ [.dK (putsD out)]) := fun W H σ Q A kk => by
  refine semE_of (pe_lock (pe_dc hc nd (pi_keys semE_pe) ok hg (fun _ _ _ _ _ => pts_nil) (semK_pe (e := kx)) (semK_pe (e := vx)) hs)) ?_
  obtain ⟨g0, ws, hw, rl⟩ := A.st.cell k _ hk
  exact ⟨W.A k, .dK ws, hw, trivial, fun ob => dcK_go A h hk hz g0 rl t kk⟩
theorem Xs.dcK (i : Nat) {kx vx tg : Expr} {kvs out : List (Key × DV)} {y : Str} {py : Pos} (hc : X.calm = true) (nd : X.N.Nodup) (h : ∀ o, Ev X e δ (μ.set k (.lk o kvs)) (.own k) (μ.set k (.lk o kvs))) (hk : μ[k]? = some (.dK kvs)) (hz : kvs.length ≤ 100000)
    (t : ∀ o, DkT X scope kx vx j δ (μ.set k (.lk o kvs)) (kvs.map (·.1)) out) (ok : BlkOk X.N X.env.scope scope [(x, j)]) (hg : TgOk X scope tg (gName j)) (hy : X.N[i]? = some y := by rfl) (hyl : X.env.scope.names.lookup y = some .local := by rfl)
    (hsw : swapsWith (.DictComp kx vx [⟨tg, e, [], 0⟩] scope p) (some (.Name y py)) pos.line X.env = pure true := by exact sw_trueD rfl rfl rfl (by decide +kernel)) (hs : ∀ z, foldedSetIterable e X.env z = pure z := by intro _; rfl) :
    Xs X T (.Assign [.Name y py] (.DictComp kx vx [⟨tg, e, [], 0⟩] scope p) pos) δ μ (.nx (δ.set i (some (.own μ.length))) (μ ++ [.dK (putsD out)])) := fun W H σ D A P => by
  refine semS_of (ps_lock (ps_setDc hc nd hy hyl hsw (pi_keys semE_pe) ok hg (fun _ _ _ _ _ => pts_nil) (semK_pe (e := kx)) (semK_pe (e := vx)) hs)) ?_
  obtain ⟨g0, ws, hw, rl⟩ := A.st.cell k _ hk
  exact ⟨W.A k, .dK ws, hw, trivial, fun ob => dcK_go (Q := fun v H' => D.nx (σ.set i (some v)) H') A h hk hz g0 rl t fun W' H' v g' A' r => P W' H' _ g' ⟨A'.st, A'.sl.set r i⟩⟩
/-! ### for x, y in zip(xs, ys) -/
abbrev Body2 (X : Cx) (T : WX) (i j : Nat) (body : List Stmt) : DV → Slots → Store → Out → Prop := fun d δ μ o => ∃ d1 d2, d = .dat (.tup [d1, d2]) ∧ Xb X T body ((δ.set i (some (.dat d1))).set j (some (.dat d2))) μ o
theorem body2_R {d : DV} {v : V} : ∀ W H σ δ μ o', At X.K W H σ δ μ → Rel X.K W d v → Body2 X T i j body d δ μ o' → ∀ D', Post X.K W H μ D' T o' → gTup X.K 2 (gCons (gName i) (gCons (gName j) gNil)) v σ H fun σ2 H2 => semB X body D' σ2 H2 :=
  fun W H σ δ μ o' A r h D' P => by
    obtain ⟨d1, d2, rfl, hb⟩ := h
    obtain ⟨q, vs, rfl, hs, t⟩ := tv_sq A.st r
    cases t with
    | cons r1 t => cases t with
      | cons r2 t =>
        cases t
        exact ⟨q, _, rfl, hs, rfl, _, _, rfl, _, _, rfl, rfl, hb W H _ D' ⟨A.st, (A.sl.set (dv := .dat d1) r1 i).set (dv := .dat d2) r2 j⟩ P⟩
theorem Xs.forZ {ds es' : List D} {x y : Str} {p' zp tp pi pj : Pos} {kk : Nat} (hl : ds.length = es'.length) (hc : X.calm = true) (nd : X.N.Nodup) (hp : PassesOwn (model X.prog X.w) X.A X.env X.xe) (hm : X.mg "zip" = none) (i j : Nat)
    (h : Ea X [a, b] δ μ [.dat (.tup ds), .dat (.tup es')] μ1) (it : It1 (Body2 X T i j body) ((ds.zip es').map fun q => DV.dat (.tup [q.1, q.2])) δ μ1 o)
    (hi : X.N[i]? = some x := by rfl) (hx : Loc X.env.scope x := by first | exact Or.inl rfl | exact Or.inr rfl) (hf : X.fn x = true ∨ X.env.scope.names.lookup x = some .local := by first | exact .inl rfl | exact .inr rfl)
    (hj : X.N[j]? = some y := by rfl) (hy : Loc X.env.scope y := by first | exact Or.inl rfl | exact Or.inr rfl) (hfy : X.fn y = true ∨ X.env.scope.names.lookup y = some .local := by first | exact .inl rfl | exact .inr rfl)
    (hgl : Gl X "zip" := by rfl) (hst : starEach [a, b] X.env = (false, eval a X.env) :: starEach [b] X.env := by rfl) (hpl : (backTo zp (starEach [b] X.env)).any (·.1) = false := by rfl)
    (hs1 : (assignEach [.Name x pi, .Name y pj] X.env).map (·.2) = assign (.Name x pi) X.env :: (assignEach [.Name y pj] X.env).map (·.2) := by rfl) (hs2 : (assignEach [.Name y pj] X.env).map (·.2) = assign (.Name y pj) X.env :: (assignEach [] X.env).map (·.2) := by rfl)
    (hn : (assignEach [.Name x pi, .Name y pj] X.env).length = 2 := by rfl) (hst2 : (assignEach [.Name x pi, .Name y pj] X.env).findIdx? (·.1) = none := by rfl)
    (hs : ∀ z, foldedSetIterable (.Call (.Name "zip" p') [a, b] [] zp) X.env z = pure z := by intro _; rfl) :
    Xs X T (.For (.Tuple [.Name x pi, .Name y pj] kk tp) (.Call (.Name "zip" p') [a, b] [] zp) body [] pos) δ μ o := fun W H σ D A P => by
  refine semS_of (ps_for hp hc (RZ.pi_zipA hgl hm h.pa hst hpl) (pg_tup hc (pgs_cons (pg_name nd hi hx hf) (pgs_cons (pg_name nd hj hy hfy) pgs_nil hs2) hs1) hn hst2) semB_ps hs) ?_
  unfold tFor RZ.iZipA
  refine h.ev W H σ _ A fun W1 H1 vs g1 A1 r1 => ?_
  obtain ⟨v1, v2, rfl, ra, rb⟩ := Rels.two r1
  cases (show Dq X.K W1.G v1 (.tup ds) from ra) with
  | tup hq1 t1 =>
    rename_i q1 us
    cases (show Dq X.K W1.G v2 (.tup es') from rb) with
    | tup hq2 t2 =>
      rename_i q2 ws
      have P1 := P.from g1
      have l1 : us.length = ds.length := by rw [← (DqA.rels t1).len, List.length_map]
      have l2 : ws.length = es'.length := by rw [← (DqA.rels t2).len, List.length_map]
      refine ⟨q1, q2, us, ws, rfl, .inr ⟨Same.tseq A1.st.ex hq1, Same.tseq A1.st.ex hq2, RZ.for_zipT (xs := us) (ys := ws) (by rw [l1, l2, hl]) (ItAt X.K W1 H1 μ1 (Body2 X T i j body) ((ds.zip es').map fun (q : Dt.D × Dt.D) => DV.dat (.tup [q.1, q.2])) o) ⟨W1, δ, μ1, .refl, A1, it⟩ ?_ ?_ ?_⟩⟩
      · rintro m σ' H' ⟨W', _, _, g', A', _⟩
        exact ⟨Same.tseq A'.st.ex (Same.tseq g'.le.G hq1), Same.tseq A'.st.ex (Same.tseq g'.le.G hq2)⟩
      · rintro m u1 u2 Tn σ' H' hu1 hu2 ⟨W', δ', μ', g', A', it'⟩ hT
        obtain ⟨z1, hz1, rz1⟩ := Rels.atL t1 hu1
        obtain ⟨z2, hz2, rz2⟩ := Rels.atL t2 hu2
        obtain ⟨gn, sn⟩ := go_newG (o := .tup [u1, u2]) A'.st hT
        have hx1 : (((ds.zip es').map fun q => DV.dat (.tup [q.1, q.2])))[m]? = some (.dat (.tup [z1, z2])) := by
          rw [List.getElem?_map] at hz1 hz2
          obtain ⟨w1, e1, e1'⟩ := Option.map_eq_some_iff.mp hz1
          obtain ⟨w2, e2, e2'⟩ := Option.map_eq_some_iff.mp hz2
          cases e1'
          cases e2'
          rw [List.getElem?_map, show (ds.zip es')[m]? = some (z1, z2) from List.getElem?_zip_eq_some.mpr ⟨e1, e2⟩]
          rfl
        have gg := g'.le.trans gn.le
        exact it_turnW P1 body2_R hx1 (g'.trans gn) (A'.le gn sn) it' (Dq.tup (SqT.of upd_same) (.cons (rz1.mono gg) (.cons (rz2.mono gg) .nil)))
      · intro σ' H' hI
        have el : us.length = ((ds.zip es').map fun q => DV.dat (.tup [q.1, q.2])).length := by rw [List.length_map, List.length_zip, l1]; omega
        rw [el] at hI
        exact it_done P1 hI
/-! ### xs.pop(), xs.remove(y) -/
theorem Ev.pop0 {xs : List DV} {ap : Pos} (ho : Ev X a δ μ (.own k) μ1) (hk : μ1[k]? = some (.lst xs)) (hv : xs[xs.length - 1]? = some dv)
    (hbase : attributeBase a "pop" X.env (eval a X.env) = eval a X.env := by rfl) (hline : (ap.endLine == pos.line) = true := by rfl) :
    Ev X (.Call (.Attribute a "pop" ap) [] [] pos) δ μ dv (μ1.set k (.lst xs.dropLast)) := fun W H σ Q A q => by
  refine semE_of (pe_bm0 PySem.F.plainAttrs_list PySem.F.slot_list_pop PySem.F.type_list_pop mt_pop semE_pe hbase hline) ?_
  refine ho W H σ _ A fun W1 H1 x g1 A1 r1 => ?_
  obtain ⟨g0, vs, hv', rl⟩ := A1.st.cell k _ hk
  obtain ⟨lt, ex⟩ := r1
  subst ex
  obtain ⟨u, hu', ru⟩ := Paired.get' rl hv
  rw [Paired.length rl] at hu'
  refine ⟨.inl ⟨rfl, _, SqL.of hv'⟩, W1.A k, vs, u, rfl, rfl, hv', hu', ?_⟩
  obtain ⟨g, s⟩ := go_setC (o := .lst vs.dropLast) (c' := .lst xs.dropLast) A1.st hk (by intro q; cases q) ⟨g0, _, upd_same, Paired.dropL rl⟩
  exact q _ _ _ (g1.trans g) (A1.le g s) (ru.mono g.le)
theorem Ev.remove {ns : List Int} {m : Int} {q : Nat} {ap : Pos} (ho : Ev X a δ μ (.own k) μ1) (he : Ev X e δ μ1 (.i m) μ2) (hk1 : ∃ ys, μ1[k]? = some (.lst ys)) (hk : μ2[k]? = some (.lst (ns.map fun n => DV.i n))) (hq : ns[q]? = some m) (hn : ∀ r, r < q → ns[r]? ≠ some m)
    (hbase : attributeBase a "remove" X.env (eval a X.env) = eval a X.env := by rfl)
    (hfew : ((backTo pos (starEach [e] X.env)).all (fun x => !x.1) && (backToKw pos (keywordEach [] X.env)).all (fun x => x.1.isSome)
      && decide ([e].length + ([] : List Keyword).length + (if ([] : List Keyword).isEmpty then 0 else 1) < 30)) = true := by rfl)
    (hline : (ap.endLine == pos.line) = true := by rfl) (hs : starEach [e] X.env = (false, eval e X.env) :: starEach [] X.env := by rfl) :
    Ev X (.Call (.Attribute a "remove" ap) [e] [] pos) δ μ .n (μ2.set k (.lst ((ns.eraseIdx q).map fun n => DV.i n))) := fun W H σ Q A kk => by
  refine semE_of (pe_bm PySem.F.plainAttrs_list PySem.F.slot_list_remove PySem.F.type_list_remove mt_remove semE_pe (pa_cons semE_pe pa_nil hs) hbase hfew hline hs) ?_
  refine ho W H σ _ A fun W1 H1 x g1 A1 r1 => ?_
  obtain ⟨ys, hy⟩ := hk1
  obtain ⟨_, us, hu, _⟩ := A1.st.cell k _ hy
  obtain ⟨lt, ex⟩ := r1
  subst ex
  refine ⟨.inl ⟨rfl, _, SqL.of hu⟩, he W1 H1 σ _ A1 fun W2 H2 y g2 A2 r2 => ?_⟩
  obtain ⟨g0, vs, hv, rl⟩ := A2.st.cell k _ hk
  have eA : W2.A k = W1.A k := g2.le.A k lt
  have rl' := rl
  rw [ints_dv] at rl'
  have ev : vs = ns.map V.int := DqA.ints (DqA.of rl')
  subst ev
  refine ⟨W2.A k, ns, m, q, by rw [eA], by rw [r2.iv], hv, hq, fun r hr => hn r hr, ?_⟩
  have rn := DqA.rels (W := W2) (ints_dq (K := X.K) (G := W2.G) (ns.eraseIdx q))
  rw [← ints_dv] at rn
  obtain ⟨g, s⟩ := go_setC (o := .lst ((ns.eraseIdx q).map V.int)) (c' := .lst ((ns.eraseIdx q).map fun n => DV.i n)) A2.st hk (by intro z; cases z) ⟨g0, _, upd_same, rn⟩
  exact kk _ _ _ ((g1.trans g2).trans g) (A2.le g s) Dq.non
theorem CallS.lenK {kvs : List (Key × DV)} (h : μ[k]? = some (.dK kvs)) : CallS X (.builtin "len") [.own k] μ (.i kvs.length) μ :=
  ⟨_, call_lenD, fun W H σ δ vs Q A rv q => by
    obtain ⟨v, rfl, r⟩ := Rels.one rv
    obtain ⟨_, ws, hw, rl⟩ := A.st.cell k _ h
    have ev : v = .ref (W.A k) := r.2
    subst ev
    refine ⟨_, ws, rfl, hw, ?_⟩
    rw [← Paired.length rl]
    exact q W H _ .refl A (Dq.int _)⟩
/-! ### for x in xs, xs an own list that the body leaves as it is -/
def BodyL (X : Cx) (T : WX) (j : Nat) (body : List Stmt) (k : Nat) (xs : List DV) : DV → Slots → Store → Out → Prop := fun x δ μ o => μ[k]? = some (.lst xs) ∧ Body X T j body x δ μ o
theorem it_ls {xs ys : List DV} (h : It1 (BodyL X T j body k ys) xs δ μ o) (hf : ∀ δ' μf, o = .nx δ' μf → μf[k]? = some (.lst ys)) : μ[k]? = some (.lst ys) := by
  cases h with
  | nil => exact hf _ _ rfl
  | next h1 _ => exact h1.1
  | cont h1 _ => exact h1.1
  | brk h1 => exact h1.1
  | ret h1 => exact h1.1
  | exc h1 => exact h1.1
theorem Xs.forO {xs : List DV} (hc : X.calm = true) (nd : X.N.Nodup) (hp : PassesOwn (model X.prog X.w) X.A X.env X.xe) (j : Nat) (h : Ev X e δ μ (.own k) μ1) (it : It1 (BodyL X T j body k xs) xs δ μ1 o) (hf : ∀ δ' μf, o = .nx δ' μf → μf[k]? = some (.lst xs))
    (hi : X.N[j]? = some x := by rfl) (hx : Loc X.env.scope x := by first | exact Or.inl rfl | exact Or.inr rfl) (hfn : X.fn x = true ∨ X.env.scope.names.lookup x = some .local := by first | exact .inl rfl | exact .inr rfl)
    (hs : ∀ x, foldedSetIterable e X.env x = pure x := by intro _; rfl) : Xs X T (.For (.Name x p) e body [] pos) δ μ o := fun W H σ D A P => by
  refine semS_of (ps_for hp hc (pi_list semE_pe) (pg_name nd hi hx hfn) semB_ps hs) ?_
  refine h W H σ _ A fun W1 H1 v g1 A1 r1 => ?_
  have hk1 := it_ls it hf
  obtain ⟨_, vs, hv, rl⟩ := A1.st.cell k _ hk1
  have hkn : k < W1.n := A1.st.lt hk1
  have ev : v = .ref (W1.A k) := r1.2
  subst ev
  have P1 := P.from g1
  have el : vs.length = xs.length := (Paired.length rl).symm
  refine ⟨W1.A k, rfl, ⟨_, SqL.of hv⟩, fun i m σ' H' => m = xs.length - i ∧ i ≤ xs.length ∧ ItAt X.K W1 H1 μ1 (BodyL X T j body k xs) xs o i σ' H', ⟨_, rfl, Nat.zero_le _, W1, δ, μ1, .refl, A1, it⟩, ?_⟩
  rintro i m σ' H' ⟨rfl, hi', W', δ', μ', g', A', it'⟩
  have hk' := it_ls it' hf
  obtain ⟨_, us, hu, ru⟩ := A'.st.cell k _ hk'
  rw [g'.le.A k hkn] at hu
  have elu : us.length = xs.length := (Paired.length ru).symm
  by_cases hlt : i < xs.length
  · have hui : us[i]? = some us[i] := List.getElem?_eq_getElem (by omega)
    refine .inr ⟨⟨us, us[i], SqL.of hu, hui⟩, fun σ2 H2 => ItAt X.K W1 H1 μ1 (BodyL X T j body k xs) xs o (i + 1) σ2 H2, fun σ2 H2 h2 => ⟨_, by omega, rfl, hlt, h2⟩, fun u H2 hy => ?_⟩
    obtain ⟨rfl, hyy⟩ := hy
    have e := hyy us (SqL.of hu)
    obtain ⟨dx, hdx, rdx⟩ := Paired.getR ru e
    exact it_turnW P1 (fun W H σ δ μ o' A r h D' P => body_R W H σ δ μ o' A r h.2 D' P) hdx g' A' it' rdx
  · have e : i = xs.length := by omega
    subst e
    exact .inl ⟨⟨us, SqL.of hu, by omega⟩, it_done P1 ⟨W', δ', μ', g', A', it'⟩⟩
end
end Dt
set_option maxHeartbeats 4000000
/-! Instances of own classes: fields, methods, making, freezing, len by an own def. -/
namespace Dt
open PySem PySem.Spec L2
open PyProof.Rows (envOfC)
section
variable {K : PySem.W.Frag} {W : Wd}
theorem same_upd {H : Hp} {p : Addr} {o : HO} (h : H p = none) : Same H (upd H p o) := fun z u e => by rw [upd_ne (ne_of_none e h)]; exact e
theorem lookF_rel {f : Str} : ∀ {fs : List (Str × DV)} {ws : List (Str × V)}, RelK K W fs ws → (fs.lookup f = none ∧ ws.lookup f = none) ∨ ∃ d v, fs.lookup f = some d ∧ ws.lookup f = some v ∧ Rel K W d v
  | _, _, .nil => .inl ⟨rfl, rfl⟩
  | (a, d) :: fs, (b, v) :: ws, .cons r t => by
    have e : a = b := r.1
    subst e
    rw [List.lookup_cons, List.lookup_cons]
    cases f == a with
    | true => exact .inr ⟨d, v, rfl, rfl, r.2⟩
    | false => exact lookF_rel t
theorem lookF_some {f : Str} {fs : List (Str × DV)} {ws : List (Str × V)} {d : DV} (h : RelK K W fs ws) (e : fs.lookup f = some d) : ∃ v, ws.lookup f = some v ∧ Rel K W d v := by
  rcases lookF_rel (f := f) h with ⟨e1, _⟩ | ⟨d', v, e1, e2, r⟩
  · rw [e1] at e; cases e
  · rw [e1] at e; cases e; exact ⟨v, e2, r⟩
theorem lookF_none {f : Str} {fs : List (Str × DV)} {ws : List (Str × V)} (h : RelK K W fs ws) (e : fs.lookup f = none) : ws.lookup f = none := by
  rcases lookF_rel (f := f) h with ⟨_, e2⟩ | ⟨d', v, e1, e2, r⟩
  · exact e2
  · rw [e1] at e; cases e
def putFD (f : Str) (v : DV) : Flds → Flds
  | [] => [(f, v)]
  | (g, x) :: r => if g = f then (g, v) :: r else (g, x) :: putFD f v r
theorem putFD_rel {f : Str} {d : DV} {v : V} (rv : Rel K W d v) : ∀ {fs : List (Str × DV)} {ws : List (Str × V)}, RelK K W fs ws → RelK K W (putFD f d fs) (putF f v ws)
  | _, _, .nil => .cons ⟨rfl, rv⟩ .nil
  | (a, x) :: fs, (b, y) :: ws, .cons r t => by
    have e : a = b := r.1
    subst e
    unfold putFD putF
    by_cases h : a = f
    · rw [if_pos h, if_pos h]
      exact .cons ⟨rfl, rv⟩ t
    · rw [if_neg h, if_neg h]
      exact .cons r (putFD_rel rv t)
def datF (fs : List (Str × D)) : Flds := fs.map fun p => (p.1, .dat p.2)
theorem DqF.rel : ∀ {ws : List (Str × V)} {fs : List (Str × D)}, DqF K W.G ws fs → RelK K W (datF fs) ws
  | _, _, .nil => .nil
  | _, _, .cons h t => .cons ⟨rfl, h⟩ (DqF.rel t)
theorem DqF.of : ∀ {fs : List (Str × D)} {ws : List (Str × V)}, RelK K W (datF fs) ws → DqF K W.G ws fs
  | [], _, h => by cases h; exact .nil
  | (a, d) :: fs, _, h => by
    cases h with
    | @cons _ q _ ws r t =>
      obtain ⟨b, v⟩ := q
      have e : a = b := r.1
      subst e
      exact .cons r.2 (DqF.of t)
/-- an instance: an own cell or a frozen one -/
inductive InsV (μ : Store) : DV → Addr → Flds → Prop
  | own {k : Nat} {C : Addr} {fs : Flds} : μ[k]? = some (.ins C fs) → InsV μ (.own k) C fs
  | dat {C : Addr} {fs : List (Str × D)} : InsV μ (.dat (.ins C fs)) C (datF fs)
theorem InsV.at {H : Hp} {μ : Store} {dv : DV} {C : Addr} {fs : Flds} {v : V} (h : InsV μ dv C fs) (S : StOk K W H μ) (r : Rel K W dv v) : ∃ a dx ws, v = .ref a ∧ H a = some (.ins C dx ws) ∧ RelK K W fs ws := by
  cases h with
  | own hk =>
    obtain ⟨_, dx, ws, e, rl⟩ := S.cell _ _ hk
    exact ⟨_, dx, ws, r.2, e, rl⟩
  | dat =>
    have r' : Dq K W.G v (.ins C _) := r
    cases r' with
    | ins hg t => exact ⟨_, _, _, rfl, S.ex _ _ hg, DqF.rel t⟩
end
/-- what of the class is asked -/
structure ClsK (K : PySem.W.Frag) (C : Addr) (ns : List Str) : Prop where
  cl : Cls K C
  no : ∀ f, ns.contains f = true → NoAttr K C f
/-- a method that stands in its class -/
structure Dm (P : Program) (w : World) (K : PySem.W.Frag) (mg : Str → Option Value) (base : Heap) (C : Addr) (m : Str) (k n : Nat) (Pm : Pr) : Prop where
  ex : ∃ f fd ps, FnOk P w K mg base (L2N.CX P w) k f fd ps (spD K n Pm) ∧ Meth K C m f ∧ Binds K fd ps []
/-- __init__ -/
structure Di (P : Program) (w : World) (K : PySem.W.Frag) (mg : Str → Option Value) (base : Heap) (x : Str) (C : Addr) (k n : Nat) (Pm : Pr) : Prop where
  ex : ∃ f fd ps, FnOk P w K mg base (L2N.CX P w) k f fd ps (spD K n Pm) ∧ Mk K C f ∧ Binds K fd ps []
  mg : mg x = some (.ref C)
section
variable {X : Cx} {T : WX} {δ δ' δ1 δ2 : Slots} {μ μ' μ1 μ2 μ3 junk : Store} {e a b c o value : Expr} {es : List Expr} {st : Stmt} {sts rest body : List Stmt} {dv dv1 dv2 : DV} {dvs : List DV} {pos p p' apos : Pos} {i j k n : Nat} {x y f m : Str} {C : Addr} {fs : Flds} {Pm : Pr} {ns : List Str} {d : D}
theorem Ev.fld (c : ClsK X.K C ns) (h : Ev X e δ μ dv μ') (hi : InsV μ' dv C fs) (hl : fs.lookup f = some dv1) (hn : ns.contains f = true := by rfl) (hb : attributeBase e f X.env (eval e X.env) = eval e X.env := by rfl) : Ev X (.Attribute e f pos) δ μ dv1 μ' := fun W H σ Q A q =>
  semE_of (pe_fld semE_pe hb) (h W H σ _ A fun W1 H1 v g1 A1 r1 => by
    obtain ⟨a, dx, ws, ev, ho, rl⟩ := hi.at A1.st r1
    obtain ⟨u, hu, ru⟩ := lookF_some rl hl
    exact ⟨a, C, dx, ws, u, ev, ho, c.cl, c.no f hn, hu, q W1 H1 u g1 A1 ru⟩)
theorem Xs.fld (c : ClsK X.K C ns) (hv : Ev X value δ μ dv μ1) (h : Ev X e δ μ1 (.own k) μ2) (hk : μ2[k]? = some (.ins C fs)) (hl : fs.length < 1000 := by exact Nat.le_of_ble_eq_true rfl) (hn : ns.contains f = true := by rfl)
    (hs : swapsWith value (some (.Attribute e f p')) pos.line X.env = pure false := by rfl) : Xs X T (.Assign [.Attribute e f p'] value pos) δ μ (.nx δ (μ2.set k (.ins C (putFD f dv fs)))) := fun W H σ D A P =>
  semS_of (ps_fld semE_pe semE_pe hs) (hv W H σ _ A fun W1 H1 y g1 A1 r1 => h W1 H1 σ _ A1 fun W2 H2 v g2 A2 r2 => by
    obtain ⟨g0, dx, ws, ho, rl⟩ := A2.st.cell _ _ hk
    have ry := r1.mono g2.le
    obtain ⟨g, s⟩ := go_setC (o := .ins C dx (putF f y ws)) (c' := .ins C (putFD f dv fs)) A2.st hk (by intro z; cases z) ⟨g0, dx, _, upd_same, putFD_rel ry rl⟩
    exact ⟨W2.A k, C, dx, ws, r2.2, ho, c.cl, c.no f hn, by rw [← Paired.length rl]; exact hl, P W2 _ σ ((g1.trans g2).trans g) (A2.le g s)⟩)
theorem Ev.meth {pl : Sem Bool} (c : ClsK X.K C ns) (D : Dm X.prog X.w X.K X.mg X.base C m k n Pm) (hr : Room k X.A) (h : Ev X o δ μ dv μ1) (hi : InsV μ1 dv C fs) (hl : fs.lookup m = none) (ha : Ea X (e :: es) δ μ1 dvs μ2) (hp : Pm (dv :: dvs) μ2 (.ret dv1 μ3)) (hn : dvs.length + 1 = n := by rfl)
    (hst : starEach (e :: es) X.env = (false, eval e X.env) :: starEach es X.env := by rfl) (hpl : (backTo pos (starEach es X.env)).any (·.1) = false := by rfl)
    (ht : eval (.Call (.Attribute o m apos) (e :: es) [] pos) X.env = (do
      let ov ← eval o X.env
      standAt apos.atName
      let (f, first) ← holding [ov] (getMethod ov m pl)
      callWith pos f first (backTo pos (starEach (e :: es) X.env)) (backToKw pos (keywordEach [] X.env))) := by rfl) :
    Ev X (.Call (.Attribute o m apos) (e :: es) [] pos) δ μ dv1 μ3 := fun W H σ Q A q => by
  obtain ⟨f, fd, ps, F, hm, hb⟩ := D.ex
  refine semE_of (pe_meth (pl := pl) semE_pe c.cl hm F hr hb .nil passN ha.pa hst hpl ht) (h W H σ _ A fun W1 H1 v g1 A1 r1 => ?_)
  obtain ⟨a, dx, ws, ev, ho, rl⟩ := hi.at A1.st r1
  refine ⟨a, dx, ws, ev, ho, lookF_none rl hl, ha.ev W1 H1 σ _ A1 fun W2 H2 vs g2 A2 r2 => ?_⟩
  exact ⟨W2, μ2, dv :: dvs, _, hn, A2.st, by rw [List.append_nil]; exact .cons (r1.mono g2.le) r2, hp, fun W' H' v' g s r => q W' H' v' ((g1.trans g2).trans g) (A2.le g s) r⟩
theorem Ev.meth0 {pl : Sem Bool} (c : ClsK X.K C ns) (D : Dm X.prog X.w X.K X.mg X.base C m k 1 Pm) (hr : Room k X.A) (h : Ev X o δ μ dv μ1) (hi : InsV μ1 dv C fs) (hl : fs.lookup m = none) (hp : Pm [dv] μ1 (.ret dv1 μ3))
    (ht : eval (.Call (.Attribute o m apos) [] [] pos) X.env = (do
      let ov ← eval o X.env
      standAt apos.atName
      let (f, first) ← holding [ov] (getMethod ov m pl)
      callWith pos f first (backTo pos (starEach [] X.env)) (backToKw pos (keywordEach [] X.env))) := by rfl) :
    Ev X (.Call (.Attribute o m apos) [] [] pos) δ μ dv1 μ3 := fun W H σ Q A q => by
  obtain ⟨f, fd, ps, F, hm, hb⟩ := D.ex
  refine semE_of (pe_meth0 (pl := pl) semE_pe c.cl hm F hr hb .nil passN ht) (h W H σ _ A fun W1 H1 v g1 A1 r1 => ?_)
  obtain ⟨a, dx, ws, ev, ho, rl⟩ := hi.at A1.st r1
  refine ⟨a, dx, ws, ev, ho, lookF_none rl hl, ?_⟩
  exact ⟨W1, μ1, [dv], _, rfl, A1.st, .cons r1 .nil, hp, fun W' H' v' g s r => q W' H' v' (g1.trans g) (A1.le g s) r⟩
/-- C(e, ..): a new own instance -/
theorem Ev.make (D : Di X.prog X.w X.K X.mg X.base x C k n Pm) (hr : Room (k + 1) X.A) (ha : Ea X (e :: es) δ μ dvs μ1) (hp : Pm (.own μ1.length :: dvs) (μ1 ++ [.ins C []]) (.ret .n μ')) (hn : dvs.length + 1 = n := by rfl) (hg : Gl X x := by rfl) (hdb : (x == ("__debug__" : Str)) = false := by decide)
    (he : starEach (e :: es) X.env = (false, eval e X.env) :: starEach es X.env := by rfl) (hpl : (backTo pos (starEach es X.env)).any (·.1) = false := by rfl) : Ev X (.Call (.Name x p) (e :: es) [] pos) δ μ (.own μ1.length) μ' := fun W H σ Q A q => by
  obtain ⟨f, fd, ps, F, M, hb⟩ := D.ex
  refine semE_of (pe_make M F hr hg D.mg hb .nil passN ha.pa hdb he hpl) (ha.ev W H σ _ A fun W1 H1 vs g1 A1 r1 => fun x dx hx hdx ne => ?_)
  have gs : Go W1 H1 μ1 W1 (upd H1 dx (.own x)) μ1 := Go.sides (same_upd hdx)
  have S1 : StOk X.K W1 (upd H1 dx (.own x)) μ1 := A1.st.grow (same_upd hdx)
  have hx' : (upd H1 dx (HO.own x)) x = none := by rw [upd_ne (fun z => ne z.symm)]; exact hx
  have gp : W1.G x = none := A1.st.ex.free hx
  obtain ⟨g2, S2⟩ := go_newC (o := .ins C dx []) (c := .ins C []) S1 hx' ⟨by rw [Wd.push_at]; exact gp, dx, [], by rw [Wd.push_at]; exact upd_same, .nil⟩
  have rs : Rel X.K (W1.push x) (.own μ1.length) (.ref x) := ⟨by rw [← A1.st.n]; exact Nat.lt_succ_self _, by rw [← A1.st.n, Wd.push_at]⟩
  refine ⟨W1.push x, _, .own μ1.length :: dvs, _, hn, S2, by rw [List.append_nil]; exact .cons rs (r1.mono g2.le), hp, fun W' H' v' g s r => ⟨r.nv, ?_⟩⟩
  exact q W' H' _ (((g1.trans gs).trans g2).trans g) ⟨s, (A1.sl.mono g2.le).mono g.le⟩ (rs.mono g.le)
/-- an own instance becomes frozen -/
theorem Ev.frzI {fs : List (Str × D)} (h : Ev X e δ μ (.own k) μ') (hk : μ'[k]? = some (.ins C (datF fs))) : Ev X e δ μ (.dat (.ins C fs)) (μ'.set k .gone) := fun W H σ Q A q =>
  h W H σ Q A fun W1 H1 v g1 A1 r1 => by
    obtain ⟨g0, dx, vs, hv, rl⟩ := A1.st.cell k _ hk
    obtain ⟨g, s⟩ := go_freeze A1.st hk (by intro z; cases z) hv
    have ev : v = .ref (W1.A k) := r1.2
    subst ev
    exact q _ _ _ (g1.trans g) (A1.le g s) (Dq.ins upd_same (DqF.of (RelK.mono g.le rl)))
/-- cells at the end are let go -/
theorem Ev.cut (h : Ev X e δ μ dv (μ' ++ junk)) (kp : Keep μ μ') (hd : dv.under μ'.length = true) : Ev X e δ μ dv μ' := fun W H σ Q A q =>
  h W H σ Q A fun W1 H1 v g1 A1 r1 => by
    have hn : W.n ≤ μ'.length := by rw [A.st.n]; exact kp.len
    obtain ⟨g4, s4⟩ := go_cut A.st A1.st g1 kp hn
    exact q _ _ _ g4 ⟨s4, A.sl.mono g4.le⟩ (Rel.cut r1 hd)
/-- C(e, ..): a frozen instance, no cell is left -/
theorem Ev.makeF {fs : List (Str × D)} (D : Di X.prog X.w X.K X.mg X.base x C k n Pm) (hr : Room (k + 1) X.A) (ha : Ea X (e :: es) δ μ dvs μ1) (hp : Pm (.own μ1.length :: dvs) (μ1 ++ [.ins C []]) (.ret .n (μ1 ++ [.ins C (datF fs)]))) (kp : Keep μ μ1 := by exact Keep.refl _) (hn : dvs.length + 1 = n := by rfl) (hg : Gl X x := by rfl) (hdb : (x == ("__debug__" : Str)) = false := by decide)
    (he : starEach (e :: es) X.env = (false, eval e X.env) :: starEach es X.env := by rfl) (hpl : (backTo pos (starEach es X.env)).any (·.1) = false := by rfl) : Ev X (.Call (.Name x p) (e :: es) [] pos) δ μ (.dat (.ins C fs)) μ1 :=
  Ev.cut (junk := [.gone]) ((Ev.frzI (Ev.make D hr ha hp hn hg hdb he hpl) gL0).tos sL0) kp rfl
end
end Dt
set_option maxHeartbeats 4000000
/-! for i, x in enumerate(tuple). -/
namespace PySem
theorem meets_enumerate_newT {v : Value} {o : Obj} {H : Heap → Prop} (B : Begins v o H) :
    Meets (Builtin.«enumerate.__new__» ⟨[.type "enumerate", v], []⟩) (fun _ R s => H s.heap ∧
      R (.ok (.ret (.ref (s.heap.push o).objs.size))) { s with heap := (s.heap.push o).push { cls := .type "enumerate", data := .fields #[.none, .bool false, .ref s.heap.objs.size, rawInt 0, .none, .none] } }) :=
  .of_wp fun prog w A R s h => by
    obtain ⟨hp, g, d, tk, os⟩ := s; obtain ⟨h1, h⟩ := h
    have hsub := sub_enumerate
    have q1 : ∀ {A' : Around} {E : Value → Shared → Prop} {Q : Value → Shared → Prop}, Q (.ref hp.objs.size) ⟨hp.push o, g, d, tk, os⟩ → wpAny (model prog w) A' (pyIter v) Q E ⟨hp, g, d, tk, os⟩ :=
      fun q => B.iter prog w _ _ ⟨hp, g, d, tk, os⟩ _ h1 q
    wp_walk using q1
    refine wpAny_stack_any fun st => wpAny_pure ?_
    split
    · rename_i c _ _ _ _ _
      cases (c == Value.type "enumerate")
      · wp_walk using q1
        exact ⟨_, rfl, h⟩
      · wp_walk using q1
        exact ⟨_, rfl, h⟩
    · wp_walk using q1
      exact ⟨_, rfl, h⟩
theorem enumT_begins {prog : Program} {w : World} {A : Around} {E : Value → Shared → Prop} {s : Shared} {v : Value} {o : Obj} {H : Heap → Prop} {Q : Value → Shared → Prop} (B : Begins v o H) (h1 : H s.heap)
    (h : ∀ h', IsEnum h' (s.heap.objs.size + 1) s.heap.objs.size 0 .none → h'.get? s.heap.objs.size = some o → h'.objs.size = s.heap.objs.size + 2 →
      (∀ b o, s.heap.get? b = some o → h'.get? b = some o) → Q (.ref (s.heap.objs.size + 1)) { s with heap := h' }) :
    wpAny (model prog w) A (call (.type "enumerate") [v]) Q E s := by
  refine callType_new F.called_enumerate (by decide) (F.typeCall_enumerate_1 _) (F.newCall_enumerate_1 _) (fun obj => F.args_object_init_2 obj _) F.entry_enumerate_new
    (meets_enumerate_newT B) ⟨h1, ?_⟩
  have hz : (s.heap.push o).objs.size = s.heap.objs.size + 1 := Heap.size_push ..
  show _ ∧ _
  rw [hz]
  have he : IsEnum ((s.heap.push o).push { cls := .type "enumerate", data := .fields #[.none, .bool false, .ref s.heap.objs.size, rawInt 0, .none, .none] }) (s.heap.objs.size + 1) s.heap.objs.size 0 .none := by
    have := Heap.get?_push_size (s.heap.push o) (o := { cls := .type "enumerate", data := .fields #[.none, .bool false, .ref s.heap.objs.size, rawInt 0, .none, .none] }) rfl
    rw [hz] at this; exact this
  refine ⟨⟨_, he, rfl⟩, h _ he (Heap.get?_push_of_some _ (Heap.get?_push_size _ B.free)) (by rw [Heap.size_push, hz]) fun b o x => Heap.get?_push_of_some _ (Heap.get?_push_of_some _ x)⟩
end PySem
namespace L2
open PySem PySem.Spec PyProof.Rows
def IteT (K : PySem.W.Frag) (a : Addr) : It :=
  ⟨fun i H => ∃ (xs : List V) (x : V), SqT K H a xs ∧ xs[i]? = some x, fun i H v H' => ∃ T x, v = .ref T ∧ H T = none ∧ H' = upd H T (.tup [.int (i : Nat), x]) ∧ ∀ xs, SqT K H a xs → xs[i]? = some x, fun i H => ∃ xs : List V, SqT K H a xs ∧ xs.length ≤ i⟩
theorem turn_enumT {P : Program} {w : World} {K : PySem.W.Frag} {elts : List Expr} {kk : Nat} {tpos : Pos} (a e it : Addr) (hai : a ≠ it) (hae : e ≠ a) :
    Turn P w K (.Tuple elts kk tpos) (IteT K a) [e, it] e (fun i h => (∃ old, IsEnum h e it ((i : Nat) : Int) old) ∧ h.IsTupleIter it a i ∧ e ≠ it) where
  mem := by simp
  obj := fun i h st b hb => by
    obtain ⟨⟨old, he⟩, ⟨o, ho, hc, hd⟩, _⟩ := st
    have e' : b = e ∨ b = it := by simpa using hb
    rcases e' with z | z
    · rw [z]; exact ⟨_, he, fun v q => nomatch q⟩
    · rw [z]; exact ⟨o, ho, fun v q => by rw [hd] at q; cases q⟩
  keep := fun i h h' st k => let ⟨⟨old, he⟩, hi, hne⟩ := st; ⟨⟨old, k e (by simp) _ he⟩, hi.at fun o q => k it (by simp) o q, hne⟩
  item := by
    intro X hP hw hK hc i pins s σ H E I hf st hg
    subst hP hw hK
    obtain ⟨⟨old, he⟩, hit, hne⟩ := st
    obtain ⟨xs, x, hq, hx⟩ := hg
    obtain ⟨its, rv, p, hz⟩ := I.tuple hq
    obtain ⟨u, hu, ru⟩ := rv.get hx
    have hel : e < s.heap.objs.size := Heap.lt_size he
    have hil : it < s.heap.objs.size := by obtain ⟨_, q, _⟩ := hit; exact Heap.lt_size q
    have D := Draws.tuple (prog := X.prog) (w := X.w) (A := X.A.in1) (show X.A.in1.handled = none from I.ok.hd hc) it a hai its.toArray
    have hlt : i < its.toArray.size := by
      have := (List.getElem?_eq_some_iff.mp hu).1
      simpa using this
    refine wpAny_pyNext_enum_itemD D he ⟨hit, show s.heap.IsTuple a its.toArray from p⟩ hlt hne (by simp; exact ⟨hne, hae⟩) fun x' h' tk hPx ho st' hT hsz hk => ?_
    have ex : x' = u := by
      have : its[i]? = some x' := by simpa using hPx
      rw [hu] at this
      exact (Option.some.inj this).symm
    subst ex
    refine ⟨_, rfl, wpAny_letOwnedTupleGo_enum (s := { s with heap := h', toks := tk + 1 }) ho fun h'' he' sb => ?_⟩
    have hT2 : h''.get? s.heap.objs.size = some { cls := .type "tuple", data := .seq #[.int i tk, x'] } := (sb.2 _ (Nat.ne_of_gt hel)).trans hT
    have new : ObjOk X.prog X.w (upd H s.heap.objs.size (.tup [.int (i : Nat), x])) h'' s.heap.objs.size (.tup [.int (i : Nat), x]) :=
      ⟨by show 2 ≤ sizeLine; decide, [.int i tk, x'], .cons ⟨_, rfl⟩ (.cons ru .nil), ⟨_, hT2, rfl, _, rfl⟩⟩
    have I1 : Inv X pins σ (upd H s.heap.objs.size (.tup [.int (i : Nat), x])) { s with heap := h'', toks := tk + 1 } :=
      I.turnedNew (ch := [e, it]) (fun b ob hb q => (sb.2 b (fun z => hb (by simp [z]))).trans (hk b ob (fun z => hb (by simp [z])) (fun z => hb (by simp [z])) q)) hf (Nat.le_refl _) new
    refine ⟨.ref s.heap.objs.size, _, I1, rfl, ⟨_, x, rfl, I.hok.fresh (Nat.le_refl _), rfl, fun ys hy => by rw [I.tuple_inj hy hq]; exact hx⟩, ⟨⟨x', ?_⟩, st'.1.at fun o q => (sb.2 it (Ne.symm hne)).trans q, hne⟩, fun b hb => ?_⟩
    · have e1 : ((i + 1 : Nat) : Int) = (i : Int) + 1 := by omega
      rw [e1]; exact he'
    · have hb' : b < s.heap.objs.size := by
        have e' : b = e ∨ b = it := by simpa using hb
        rcases e' with z | z
        · rw [z]; exact hel
        · rw [z]; exact hil
      rw [upd_ne (Nat.ne_of_lt hb')]
      exact (hf b hb).1
  done := by
    intro X hP hw hK hc i pins s σ H E I hf st hg
    subst hP hw hK
    obtain ⟨⟨old, he⟩, hit, hne⟩ := st
    obtain ⟨xs, hq, hx⟩ := hg
    obtain ⟨its, rv, p, hz⟩ := I.tuple hq
    obtain ⟨f0, f1, f2, f3, f4, f5⟩ := hf it (by simp)
    have hl := rv.length
    have D : Draws X.prog X.w X.A.in1 it [it, a] i (fun _ _ => False) (fun j h => j = i ∧ h.IsTupleIter it a i ∧ h.IsTuple a its.toArray) :=
      { live := fun _ _ st => let ⟨o, ho, _⟩ := st.2.1; ⟨o, ho⟩
        frame := fun _ h h' st hk => ⟨st.1, st.2.1.at fun o e => hk it (by simp) o e, st.2.2.at fun o e => hk a (by simp) o e⟩
        item := fun j s Q E hi st hQ => by omega
        done := fun s Q E st hE => wpAny_nextOf_tuple_end (show X.A.in1.handled = none from I.ok.hd hc) st.2.1 st.2.2 (by simp; omega) hE }
    exact wpAny_pyNext_enum_endD D he ⟨rfl, hit, show s.heap.IsTuple a its.toArray from p⟩ fun h' eb => ⟨rfl, I.turned (t' := s.toks) (fun b o hb q => eb b o hb q) f0 f1 f3 f4 f5⟩
  self := fun A i s Q E st h => let ⟨⟨_, he⟩, _⟩ := st; wpAny_pyIter_enum he h
def iEnumA (K : PySem.W.Frag) (ta : TA) : TI := fun σ H R => ta σ H fun vs H1 => ∃ a xs, vs = [.ref a] ∧ ((SqL K H1 a xs ∧ R (Ite K a) H1) ∨ (SqT K H1 a xs ∧ R (IteT K a) H1))
theorem pi_enumA {X : Cx} {e : Expr} {ta : TA} {p pos tpos : Pos} {elts : List Expr} {kk : Nat} (hg : Gl X "enumerate") (hm : X.mg "enumerate" = none) (ha : PA X [e] ta) (hs : starEach [e] X.env = [(false, eval e X.env)] := by rfl) :
    PI X (.Tuple elts kk tpos) (.Call (.Name "enumerate" p) [e] [] pos) (iEnumA X.K ta) := by
  refine ⟨fun pins s σ H R I h => ?_⟩
  refine Call_ (ld_blt I hg hm boot_enumerate (PyProof.Rows.callWith_type1 (thn (ha.run pos pins s σ H _ I h) fun us s1 ⟨vs, H1, I1, r1, q1⟩ => ?_) hs rfl))
  obtain ⟨a, xs, ex, q1⟩ := q1
  subst ex
  cases r1 with
  | cons r rr =>
    cases rr
    cases r
    have fresh2 : ∀ b, b ∈ [s1.heap.objs.size + 1, s1.heap.objs.size] → FpOk X pins H1 b := fun b hb => by
      have e' : b = s1.heap.objs.size + 1 ∨ b = s1.heap.objs.size := by simpa using hb
      have hle : s1.heap.objs.size ≤ b := by
        rcases e' with z | z
        · rw [z]; exact Nat.le_add_right _ _
        · rw [z]; exact Nat.le_refl _
      exact I1.fpOk hle (I1.hok.fresh hle)
    rcases q1 with ⟨hq, q⟩ | ⟨hq, q⟩
    · obtain ⟨its, rv, p', hz⟩ := I1.list hq
      refine call_enumerate_list p'.isList fun h' he hit hsz hk => wpAny_pyIter_enum he ?_
      have I2 : Inv X pins σ H1 { s1 with heap := h' } := I1.kept (t' := s1.toks) hk
      exact ⟨s1.heap.objs.size + 1, [s1.heap.objs.size + 1, s1.heap.objs.size], _, _, H1, rfl, I2, turn_enum a (s1.heap.objs.size + 1) s1.heap.objs.size, ⟨⟨.none, he⟩, hit, Nat.succ_ne_self _⟩, fresh2, q⟩
    · obtain ⟨its, rv, p', hz⟩ := I1.tuple hq
      obtain ⟨o1, ho1, _⟩ := id p'
      have hlt := Heap.lt_size ho1
      refine enumT_begins (begins_tuple a its.toArray) (show s1.heap.IsTuple a its.toArray from p') fun h' he hit hsz hk => wpAny_pyIter_enum he ?_
      have I2 : Inv X pins σ H1 { s1 with heap := h' } := I1.kept (t' := s1.toks) hk
      exact ⟨s1.heap.objs.size + 1, [s1.heap.objs.size + 1, s1.heap.objs.size], _, _, H1, rfl, I2, turn_enumT a (s1.heap.objs.size + 1) s1.heap.objs.size (Nat.ne_of_lt hlt) (Nat.ne_of_gt (Nat.lt_succ_of_lt hlt)), ⟨⟨.none, he⟩, ⟨_, hit, rfl, rfl⟩, Nat.succ_ne_self _⟩, fresh2, q⟩
theorem for_enumT {K : PySem.W.Frag} {a : Addr} {xs : List V} {g : TG} {tb : TS} {D : Ends} {σ : L2.St} {H : Hp} (Pv : Nat → L2.St → Hp → Prop) (h0 : Pv 0 σ H) (hq : ∀ i σ H, Pv i σ H → SqT K H a xs)
    (hs : ∀ (i : Nat) (x : V) (T : Addr) (σ : L2.St) (H : Hp), xs[i]? = some x → Pv i σ H → H T = none → g (.ref T) σ (upd H T (.tup [.int (i : Nat), x])) fun σ2 H2 => tb { D with nx := Pv (i + 1), ct := Pv (i + 1), bk := D.nx } σ2 H2) (hd : ∀ σ H, Pv xs.length σ H → D.nx σ H) :
    ∃ W : Nat → Nat → L2.St → Hp → Prop, (∃ m, W 0 m σ H) ∧ ∀ i m σ H, W i m σ H →
      ((IteT K a).stop i H ∧ D.nx σ H) ∨ ((IteT K a).go i H ∧ ∃ N : L2.St → Hp → Prop, (∀ σ' H', N σ' H' → ∃ m', m' < m ∧ W (i + 1) m' σ' H') ∧ ∀ v H', (IteT K a).yld i H v H' → g v σ H' fun σ2 H2 => tb { D with nx := N, ct := N, bk := D.nx } σ2 H2) := by
  refine ⟨fun i m σ H => m = xs.length - i ∧ i ≤ xs.length ∧ Pv i σ H, ⟨xs.length, rfl, Nat.zero_le _, h0⟩, ?_⟩
  rintro i m σ H ⟨rfl, hi, p⟩
  have qx := hq i σ H p
  by_cases hlt : i < xs.length
  · have hx : xs[i]? = some xs[i] := List.getElem?_eq_getElem hlt
    refine .inr ⟨⟨xs, xs[i], qx, hx⟩, Pv (i + 1), fun σ' H' q => ⟨xs.length - (i + 1), by omega, rfl, by omega, q⟩, ?_⟩
    rintro v H' ⟨T, x, rfl, hT, rfl, hx'⟩
    exact hs i x T σ H (hx' xs qx) p hT
  · have e : i = xs.length := by omega
    subst e
    exact .inl ⟨⟨xs, qx, Nat.le_refl _⟩, hd _ _ p⟩
theorem for_enumL {K : PySem.W.Frag} {a : Addr} {xs : List V} {g : TG} {tb : TS} {D : Ends} {σ : L2.St} {H : Hp} (Pv : Nat → L2.St → Hp → Prop) (h0 : Pv 0 σ H) (hq : ∀ i σ H, Pv i σ H → SqL K H a xs)
    (hs : ∀ (i : Nat) (x : V) (T : Addr) (σ : L2.St) (H : Hp), xs[i]? = some x → Pv i σ H → H T = none → g (.ref T) σ (upd H T (.tup [.int (i : Nat), x])) fun σ2 H2 => tb { D with nx := Pv (i + 1), ct := Pv (i + 1), bk := D.nx } σ2 H2) (hd : ∀ σ H, Pv xs.length σ H → D.nx σ H) :
    ∃ W : Nat → Nat → L2.St → Hp → Prop, (∃ m, W 0 m σ H) ∧ ∀ i m σ H, W i m σ H →
      ((Ite K a).stop i H ∧ D.nx σ H) ∨ ((Ite K a).go i H ∧ ∃ N : L2.St → Hp → Prop, (∀ σ' H', N σ' H' → ∃ m', m' < m ∧ W (i + 1) m' σ' H') ∧ ∀ v H', (Ite K a).yld i H v H' → g v σ H' fun σ2 H2 => tb { D with nx := N, ct := N, bk := D.nx } σ2 H2) := by
  refine ⟨fun i m σ H => m = xs.length - i ∧ i ≤ xs.length ∧ Pv i σ H, ⟨xs.length, rfl, Nat.zero_le _, h0⟩, ?_⟩
  rintro i m σ H ⟨rfl, hi, p⟩
  have qx := hq i σ H p
  by_cases hlt : i < xs.length
  · have hx : xs[i]? = some xs[i] := List.getElem?_eq_getElem hlt
    refine .inr ⟨⟨xs, xs[i], qx, hx⟩, Pv (i + 1), fun σ' H' q => ⟨xs.length - (i + 1), by omega, rfl, by omega, q⟩, ?_⟩
    rintro v H' ⟨T, x, rfl, hT, rfl, hx'⟩
    exact hs i x T σ H (hx' xs qx) p hT
  · have e : i = xs.length := by omega
    subst e
    exact .inl ⟨⟨xs, qx, Nat.le_refl _⟩, hd _ _ p⟩
end L2
namespace Dt
open PySem PySem.Spec L2
section
variable {X : Cx} {T : WX} {δ δ' : Slots} {μ μ1 : Store} {a : Expr} {body : List Stmt} {o : Out} {p pos : Pos} {dv : DV} {k : Nat}
/-- the pairs of enumerate -/
def enD (ds : List D) (m : Nat := 0) : List DV := ds.mapIdx fun i d => .dat (.tup [.int ((m + i : Nat) : Int), d])
theorem enD_at {ds : List D} {i : Nat} {d : D} (h : ds[i]? = some d) : (enD ds)[i]? = some (.dat (.tup [.int (i : Int), d])) := by
  unfold enD
  rw [List.getElem?_mapIdx, h, Option.map_some, Nat.zero_add]
theorem enD_len (ds : List D) : (enD ds).length = ds.length := List.length_mapIdx
/-- for i, x in enumerate(xs), xs a tuple -/
theorem Xs.forE {ds : List D} {x y : Str} {p' zp tp pi pj : Pos} {kk : Nat} (hc : X.calm = true) (nd : X.N.Nodup) (hp : PassesOwn (model X.prog X.w) X.A X.env X.xe) (hm : X.mg "enumerate" = none) (i j : Nat)
    (h : Ev X a δ μ (.dat (.tup ds)) μ1) (it : It1 (Body2 X T i j body) (enD ds) δ μ1 o)
    (hi : X.N[i]? = some x := by rfl) (hx : Loc X.env.scope x := by first | exact Or.inl rfl | exact Or.inr rfl) (hf : X.fn x = true ∨ X.env.scope.names.lookup x = some .local := by first | exact .inl rfl | exact .inr rfl)
    (hj : X.N[j]? = some y := by rfl) (hy : Loc X.env.scope y := by first | exact Or.inl rfl | exact Or.inr rfl) (hfy : X.fn y = true ∨ X.env.scope.names.lookup y = some .local := by first | exact .inl rfl | exact .inr rfl)
    (hgl : Gl X "enumerate" := by rfl) (hst : starEach [a] X.env = [(false, eval a X.env)] := by rfl)
    (hs1 : (assignEach [.Name x pi, .Name y pj] X.env).map (·.2) = assign (.Name x pi) X.env :: (assignEach [.Name y pj] X.env).map (·.2) := by rfl) (hs2 : (assignEach [.Name y pj] X.env).map (·.2) = assign (.Name y pj) X.env :: (assignEach [] X.env).map (·.2) := by rfl)
    (hn : (assignEach [.Name x pi, .Name y pj] X.env).length = 2 := by rfl) (hst2 : (assignEach [.Name x pi, .Name y pj] X.env).findIdx? (·.1) = none := by rfl)
    (hs : ∀ z, foldedSetIterable (.Call (.Name "enumerate" p') [a] [] zp) X.env z = pure z := by intro _; rfl) :
    Xs X T (.For (.Tuple [.Name x pi, .Name y pj] kk tp) (.Call (.Name "enumerate" p') [a] [] zp) body [] pos) δ μ o := fun W H σ D A P => by
  refine semS_of (ps_for hp hc (pi_enumA hgl hm (pa_cons semE_pe pa_nil hst) hst) (pg_tup hc (pgs_cons (pg_name nd hi hx hf) (pgs_cons (pg_name nd hj hy hfy) pgs_nil hs2) hs1) hn hst2) semB_ps hs) ?_
  unfold tFor iEnumA
  refine h W H σ _ A fun W1 H1 v1 g1 A1 ra => ?_
  cases (show Dq X.K W1.G v1 (.tup ds) from ra) with
  | tup hq1 t1 =>
    rename_i q1 us
    have P1 := P.from g1
    have l1 : us.length = ds.length := by rw [← (DqA.rels t1).len, List.length_map]
    refine ⟨q1, us, rfl, .inr ⟨Same.tseq A1.st.ex hq1, for_enumT (xs := us) (ItAt X.K W1 H1 μ1 (Body2 X T i j body) (enD ds) o) ⟨W1, δ, μ1, .refl, A1, it⟩ ?_ ?_ ?_⟩⟩
    · rintro m σ' H' ⟨W', _, _, g', A', _⟩
      exact Same.tseq A'.st.ex (Same.tseq g'.le.G hq1)
    · rintro m u1 Tn σ' H' hu1 ⟨W', δ', μ', g', A', it'⟩ hT
      obtain ⟨z1, hz1, rz1⟩ := Rels.atL t1 hu1
      obtain ⟨gn, sn⟩ := go_newG (o := .tup [.int (m : Nat), u1]) A'.st hT
      rw [List.getElem?_map] at hz1
      obtain ⟨w1, e1, e1'⟩ := Option.map_eq_some_iff.mp hz1
      cases e1'
      exact it_turnW P1 body2_R (enD_at e1) (g'.trans gn) (A'.le gn sn) it' (Dq.tup (SqT.of upd_same) (.cons (.int _) (.cons (rz1.mono (g'.le.trans gn.le)) .nil)))
    · intro σ' H' hI
      have el : us.length = (enD ds).length := by rw [enD_len, l1]
      rw [el] at hI
      exact it_done P1 hI
/-- for i, x in enumerate(xs), xs a frozen list -/
theorem Xs.forEL {ds : List D} {x y : Str} {p' zp tp pi pj : Pos} {kk : Nat} (hc : X.calm = true) (nd : X.N.Nodup) (hp : PassesOwn (model X.prog X.w) X.A X.env X.xe) (hm : X.mg "enumerate" = none) (i j : Nat)
    (h : Ev X a δ μ (.dat (.lst ds)) μ1) (it : It1 (Body2 X T i j body) (enD ds) δ μ1 o)
    (hi : X.N[i]? = some x := by rfl) (hx : Loc X.env.scope x := by first | exact Or.inl rfl | exact Or.inr rfl) (hf : X.fn x = true ∨ X.env.scope.names.lookup x = some .local := by first | exact .inl rfl | exact .inr rfl)
    (hj : X.N[j]? = some y := by rfl) (hy : Loc X.env.scope y := by first | exact Or.inl rfl | exact Or.inr rfl) (hfy : X.fn y = true ∨ X.env.scope.names.lookup y = some .local := by first | exact .inl rfl | exact .inr rfl)
    (hgl : Gl X "enumerate" := by rfl) (hst : starEach [a] X.env = [(false, eval a X.env)] := by rfl)
    (hs1 : (assignEach [.Name x pi, .Name y pj] X.env).map (·.2) = assign (.Name x pi) X.env :: (assignEach [.Name y pj] X.env).map (·.2) := by rfl) (hs2 : (assignEach [.Name y pj] X.env).map (·.2) = assign (.Name y pj) X.env :: (assignEach [] X.env).map (·.2) := by rfl)
    (hn : (assignEach [.Name x pi, .Name y pj] X.env).length = 2 := by rfl) (hst2 : (assignEach [.Name x pi, .Name y pj] X.env).findIdx? (·.1) = none := by rfl)
    (hs : ∀ z, foldedSetIterable (.Call (.Name "enumerate" p') [a] [] zp) X.env z = pure z := by intro _; rfl) :
    Xs X T (.For (.Tuple [.Name x pi, .Name y pj] kk tp) (.Call (.Name "enumerate" p') [a] [] zp) body [] pos) δ μ o := fun W H σ D A P => by
  refine semS_of (ps_for hp hc (pi_enumA hgl hm (pa_cons semE_pe pa_nil hst) hst) (pg_tup hc (pgs_cons (pg_name nd hi hx hf) (pgs_cons (pg_name nd hj hy hfy) pgs_nil hs2) hs1) hn hst2) semB_ps hs) ?_
  unfold tFor iEnumA
  refine h W H σ _ A fun W1 H1 v1 g1 A1 ra => ?_
  cases (show Dq X.K W1.G v1 (.lst ds) from ra) with
  | lst hq1 t1 =>
    rename_i q1 us
    have P1 := P.from g1
    have l1 : us.length = ds.length := by rw [← (DqA.rels t1).len, List.length_map]
    refine ⟨q1, us, rfl, .inl ⟨SqL.of (A1.st.ex _ _ hq1), for_enumL (xs := us) (ItAt X.K W1 H1 μ1 (Body2 X T i j body) (enD ds) o) ⟨W1, δ, μ1, .refl, A1, it⟩ ?_ ?_ ?_⟩⟩
    · rintro m σ' H' ⟨W', _, _, g', A', _⟩
      exact SqL.of (A'.st.ex _ _ (g'.le.G _ _ hq1))
    · rintro m u1 Tn σ' H' hu1 ⟨W', δ', μ', g', A', it'⟩ hT
      obtain ⟨z1, hz1, rz1⟩ := Rels.atL t1 hu1
      obtain ⟨gn, sn⟩ := go_newG (o := .tup [.int (m : Nat), u1]) A'.st hT
      rw [List.getElem?_map] at hz1
      obtain ⟨w1, e1, e1'⟩ := Option.map_eq_some_iff.mp hz1
      cases e1'
      exact it_turnW P1 body2_R (enD_at e1) (g'.trans gn) (A'.le gn sn) it' (Dq.tup (SqT.of upd_same) (.cons (.int _) (.cons (rz1.mono (g'.le.trans gn.le)) .nil)))
    · intro σ' H' hI
      have el : us.length = (enD ds).length := by rw [enD_len, l1]
      rw [el] at hI
      exact it_done P1 hI
/-- .. xs an own list that the body leaves alone -/
def Body2L (X : Cx) (T : WX) (i j : Nat) (body : List Stmt) (k : Nat) (xs : List D) : DV → Slots → Store → Out → Prop := fun d δ μ o => μ[k]? = some (.lst (xs.map DV.dat)) ∧ Body2 X T i j body d δ μ o
theorem it_ls2 {i j : Nat} {ys : List D} {xs : List DV} {μ : Store} {δ : Slots} (h : It1 (Body2L X T i j body k ys) xs δ μ o) (hf : ∀ δ' μf, o = .nx δ' μf → μf[k]? = some (.lst (ys.map DV.dat))) : μ[k]? = some (.lst (ys.map DV.dat)) := by
  cases h with
  | nil => exact hf _ _ rfl
  | next h1 _ => exact h1.1
  | cont h1 _ => exact h1.1
  | brk h1 => exact h1.1
  | ret h1 => exact h1.1
  | exc h1 => exact h1.1
theorem Xs.forEO {ds : List D} {x y : Str} {p' zp tp pi pj : Pos} {kk : Nat} (hc : X.calm = true) (nd : X.N.Nodup) (hp : PassesOwn (model X.prog X.w) X.A X.env X.xe) (hm : X.mg "enumerate" = none) (i j : Nat)
    (h : Ev X a δ μ (.own k) μ1) (it : It1 (Body2L X T i j body k ds) (enD ds) δ μ1 o) (hf : ∀ δ' μf, o = .nx δ' μf → μf[k]? = some (.lst (ds.map DV.dat)))
    (hi : X.N[i]? = some x := by rfl) (hx : Loc X.env.scope x := by first | exact Or.inl rfl | exact Or.inr rfl) (hfx : X.fn x = true ∨ X.env.scope.names.lookup x = some .local := by first | exact .inl rfl | exact .inr rfl)
    (hj : X.N[j]? = some y := by rfl) (hy : Loc X.env.scope y := by first | exact Or.inl rfl | exact Or.inr rfl) (hfy : X.fn y = true ∨ X.env.scope.names.lookup y = some .local := by first | exact .inl rfl | exact .inr rfl)
    (hgl : Gl X "enumerate" := by rfl) (hst : starEach [a] X.env = [(false, eval a X.env)] := by rfl)
    (hs1 : (assignEach [.Name x pi, .Name y pj] X.env).map (·.2) = assign (.Name x pi) X.env :: (assignEach [.Name y pj] X.env).map (·.2) := by rfl) (hs2 : (assignEach [.Name y pj] X.env).map (·.2) = assign (.Name y pj) X.env :: (assignEach [] X.env).map (·.2) := by rfl)
    (hn : (assignEach [.Name x pi, .Name y pj] X.env).length = 2 := by rfl) (hst2 : (assignEach [.Name x pi, .Name y pj] X.env).findIdx? (·.1) = none := by rfl)
    (hs : ∀ z, foldedSetIterable (.Call (.Name "enumerate" p') [a] [] zp) X.env z = pure z := by intro _; rfl) :
    Xs X T (.For (.Tuple [.Name x pi, .Name y pj] kk tp) (.Call (.Name "enumerate" p') [a] [] zp) body [] pos) δ μ o := fun W H σ D A P => by
  refine semS_of (ps_for hp hc (pi_enumA hgl hm (pa_cons semE_pe pa_nil hst) hst) (pg_tup hc (pgs_cons (pg_name nd hi hx hfx) (pgs_cons (pg_name nd hj hy hfy) pgs_nil hs2) hs1) hn hst2) semB_ps hs) ?_
  unfold tFor iEnumA
  refine h W H σ _ A fun W1 H1 v1 g1 A1 ra => ?_
  have hk1 := it_ls2 it hf
  obtain ⟨_, vs, hv, rl⟩ := A1.st.cell k _ hk1
  have hkn : k < W1.n := A1.st.lt hk1
  have ev := ra.2
  subst ev
  have P1 := P.from g1
  have ll : (enD ds).length = ds.length := enD_len ds
  refine ⟨W1.A k, vs, rfl, .inl ⟨SqL.of hv, fun i' m σ' H' => m = ds.length - i' ∧ i' ≤ ds.length ∧ ItAt X.K W1 H1 μ1 (Body2L X T i j body k ds) (enD ds) o i' σ' H', ⟨_, rfl, Nat.zero_le _, W1, δ, μ1, .refl, A1, it⟩, ?_⟩⟩
  rintro i' m σ' H' ⟨rfl, hi', W', δ', μ', g', A', it'⟩
  have hk' := it_ls2 it' hf
  obtain ⟨_, us, hu, ru⟩ := A'.st.cell k _ hk'
  rw [g'.le.A k hkn] at hu
  have elu : us.length = ds.length := by rw [← Paired.length ru, List.length_map]
  by_cases hlt : i' < ds.length
  · have hui : us[i']? = some us[i'] := List.getElem?_eq_getElem (by omega)
    refine .inr ⟨⟨us, us[i'], SqL.of hu, hui⟩, fun σ2 H2 => ItAt X.K W1 H1 μ1 (Body2L X T i j body k ds) (enD ds) o (i' + 1) σ2 H2, fun σ2 H2 h2 => ⟨_, by omega, rfl, hlt, h2⟩, fun u H2 hy => ?_⟩
    obtain ⟨Tn, x', rfl, hT, rfl, hyy⟩ := hy
    have e := hyy us (SqL.of hu)
    obtain ⟨dx, hdx, rdx⟩ := Paired.getR ru e
    rw [List.getElem?_map] at hdx
    obtain ⟨w1, e1, e1'⟩ := Option.map_eq_some_iff.mp hdx
    cases e1'
    obtain ⟨gn, sn⟩ := go_newG (o := .tup [.int (i' : Nat), x']) A'.st hT
    exact it_turnW P1 (fun W H σ δ μ o' A r h D' P => body2_R W H σ δ μ o' A r h.2 D' P) (enD_at e1) (g'.trans gn) (A'.le gn sn) it' (Dq.tup (SqT.of upd_same) (.cons (.int _) (.cons (Rel.mono gn.le rdx) .nil)))
  · have e : i' = ds.length := by omega
    subst e
    refine .inl ⟨⟨us, SqL.of hu, by omega⟩, it_done (R := Body2L X T i j body k ds) (xs := enD ds) P1 ?_⟩
    rw [ll]
    exact ⟨W', δ', μ', g', A', it'⟩
end
end Dt
set_option maxHeartbeats 4000000
/-! Rules that HandS lacks: tuple * 1, d.get(None), setdefault at a tuple, len by an own def. -/
namespace L2
open PySem PySem.Spec PyProof.Rows
open AutoSeq1 (wpAny_loadPart')
theorem tuple_mul1 (l : Addr) (items : Array Value) (n : Nat) (dd : Option Addr) (sl : Array (Option Value)) (u : Tok) :
    Meets (Builtin.«tuple.__mul__» ⟨[.ref l, .int 1 u], []⟩) (fun _ R s => s.heap.get? l = some { cls := .type "tuple", dict := dd, data := .seq items n, slots := sl } ∧ R (.ok (.ret (Value.ref l))) s) :=
  .of_wp fun prog w A R s h => by
    obtain ⟨hp, g, d, tk, os⟩ := s
    obtain ⟨hl, h⟩ := h
    have f1 := AutoSeq1.idx_int
    wp_walk using wpAny_loadPart' hl
    repeat (first
      | (refine wpAny_ite_false (decide_eq_false (by decide)) ?_; wp_walk using wpAny_loadPart' hl)
      | (refine wpAny_ite_true (decide_eq_true (by simp)) ?_; wp_walk using wpAny_loadPart' hl))
    exact ⟨_, rfl, h⟩
def rRep1 (K : PySem.W.Frag) : R2 := fun x y H Q => ∃ l xs, x = .ref l ∧ y = .int 1 ∧ SqT K H l xs ∧ Q (.ref l) H
section
variable {X : Cx}
theorem op_rep1 : OpR X (binaryOp .Mult) (rRep1 X.K) := by
  intro pins s σ H x y v u Q I rx ry h
  obtain ⟨l, xs, rfl, rfl, hT, q⟩ := h
  cases rx
  obtain ⟨t, rfl⟩ := ry
  obtain ⟨its, r, ⟨⟨cls, dd, data, sl⟩, ho, hc, n, hd⟩, hs⟩ := I.tuple hT
  simp only at hc hd
  subst hc hd
  refine wpAny_binaryOp_repeat_ref (T := "tuple") (U := "int") (by decide) ⟨_, ho, rfl⟩ (fun s' => typeIs_int s' 1 t) noFill_tuple_mul F.fills_int_mul F.slot_int_rmul repeat_tuple F.slot_int_index.lookup
    (call_meets F.slot_int_rmul (typeIs_int s 1 t) F.entry_int_rmul (F.args_int_rmul_2 _ _) (int_rmul_tuple 1 t l its.toArray n dd sl)
      ⟨ho, rfl, ⟨_, ho, rfl⟩, call_meets F.slot_tuple_mul ⟨_, ho, rfl⟩ F.entry_tuple_mul (F.args_tuple_mul_2 _ _) (tuple_mul1 l its.toArray n dd sl t) ⟨ho, ?_⟩⟩)
  exact ⟨.ref l, H, I, rfl, q⟩
end
section
variable {X : Cx} {pins : List (Addr × Obj)} {σ : St} {H : Hp} {s : Shared} {a : Addr} {kvs : List (Key × V)} {A : Around} {E : Value → Shared → Prop} {d : V} {r : Value}
theorem d_getN1 {Q : Value → Shared → Prop} (I : Inv X pins σ H s) (e : Rd H a (.dK kvs)) (h : ∀ s', Inv X pins σ H s' → Q .none s') : wpAny (model X.prog X.w) A (call (.builtin "dict.get") [.ref a, .none]) Q E s := by
  obtain ⟨_, hd, vs, _, dd⟩ := dk_rd I.hok e
  obtain ⟨f, hm, hf⟩ := none_map dd
  refine call_meetsIn PySem.F.slot_dict_get dd.typeIs PySem.F.entry_dict_get (PySem.F.args_dict_get_2 _ _) (meets_dict_get (noneKind X.prog X.w) a (show (noneKind X.prog X.w).is none .none = true from rfl) hd) ⟨f, hm, ?_⟩
  rw [hf]
  exact h _ (I.tok _)
theorem d_getN2 {Q : Value → Shared → Prop} (I : Inv X pins σ H s) (e : Rd H a (.dK kvs)) (h : ∀ s', Inv X pins σ H s' → Q r s') : wpAny (model X.prog X.w) A (call (.builtin "dict.get") [.ref a, .none, r]) Q E s := by
  obtain ⟨_, hd, vs, _, dd⟩ := dk_rd I.hok e
  obtain ⟨f, hm, hf⟩ := none_map dd
  refine call_meetsIn PySem.F.slot_dict_get dd.typeIs PySem.F.entry_dict_get (PySem.F.args_dict_get_3 _ _ _) (meets_dict_get_default (noneKind X.prog X.w) a (show (noneKind X.prog X.w).is none .none = true from rfl) hd r) ⟨f, hm, ?_⟩
  rw [hf]
  exact h _ (I.tok _)
end
def tDGetN1 (td ty : TE) : TE := fun σ H Q => td σ H fun x H1 => ∃ a, x = .ref a ∧ IsD H1 a ∧ ty σ H1 fun y H2 => (∃ o, DGet H2 a y o ∧ Q (o.getD .non) H2) ∨ ∃ kvs, Rd H2 a (.dK kvs) ∧ y = .non ∧ Q .non H2
def tDGetN2 (td ty tx : TE) : TE := fun σ H Q => td σ H fun x H1 => ∃ a, x = .ref a ∧ IsD H1 a ∧ ty σ H1 fun y H2 => tx σ H2 fun z H3 => (∃ o, DGet H3 a y o ∧ Q (o.getD z) H3) ∨ ∃ kvs, Rd H3 a (.dK kvs) ∧ y = .non ∧ Q z H3
section
variable {X : Cx} {o e f : Expr} {apos cpos : Pos} {td ty tx : TE}
theorem pe_dgetN1 (hu : X.A.units + 1 < cLine) (ho : PE X o td) (he : PE X e ty) (m : M1 X o "get" apos e cpos) : PE X (.Call (.Attribute o "get" apos) [e] [] cpos) (tDGetN1 td ty) := by
  refine ⟨fun pins s σ H Q I h => ?_⟩
  refine wpAny_Call_method m.base m.few m.line PySem.F.plainAttrs_dict PySem.F.slot_dict_get PySem.F.type_dict_get (thn (ho.run pins s σ H _ I h) fun u s1 ⟨x, H1, I1, rx, a, ex, d, q1⟩ => ?_)
  subst ex
  obtain rfl : u = Value.ref a := rx
  obtain ⟨t1, t2, _⟩ := isD_at I1 d
  refine ⟨t1, t2, ?_⟩
  rw [m.trees]
  refine Calls.callWith_builtin rfl (Calls.evalArgs_plain (Calls.spliced_cons (thn (he.run pins s1 σ H1 _ I1 q1) fun iv s2 ⟨y, H2, I2, ry, q2⟩ => Calls.spliced_nil ?_)))
  rcases q2 with ⟨ov, g, q2⟩ | ⟨kvs, g, ey, q2⟩
  · exact d_get1 hu I2 g ry fun w' s3 I3 rw' => ⟨_, H2, I3, rw', q2⟩
  · subst ey
    obtain rfl : iv = Value.none := ry
    exact d_getN1 I2 g fun s3 I3 => ⟨.non, H2, I3, rfl, q2⟩
theorem pe_dgetN2 (hu : X.A.units + 1 < cLine) (ho : PE X o td) (he : PE X e ty) (hf : PE X f tx) (m : M2 X o "get" apos e f cpos) : PE X (.Call (.Attribute o "get" apos) [e, f] [] cpos) (tDGetN2 td ty tx) := by
  refine ⟨fun pins s σ H Q I h => ?_⟩
  refine wpAny_Call_method m.base m.few m.line PySem.F.plainAttrs_dict PySem.F.slot_dict_get PySem.F.type_dict_get (thn (ho.run pins s σ H _ I h) fun u s1 ⟨x, H1, I1, rx, a, ex, d, q1⟩ => ?_)
  subst ex
  obtain rfl : u = Value.ref a := rx
  obtain ⟨t1, t2, _⟩ := isD_at I1 d
  refine ⟨t1, t2, ?_⟩
  rw [m.trees]
  refine Calls.callWith_builtin rfl (Calls.evalArgs_plain (Calls.spliced_cons (thn (he.run pins s1 σ H1 _ I1 q1) fun iv s2 ⟨y, H2, I2, ry, q2⟩ =>
    Calls.spliced_cons (thn (hf.run pins s2 σ H2 _ I2 q2) fun fv s3 ⟨z, H3, I3, rz, q3⟩ => Calls.spliced_nil ?_))))
  rcases q3 with ⟨ov, g, q3⟩ | ⟨kvs, g, ey, q3⟩
  · exact d_get2 hu I3 g ry rz fun w' s4 I4 rw' => ⟨_, H3, I4, rw', q3⟩
  · subst ey
    obtain rfl : iv = Value.none := ry
    exact d_getN2 I3 g fun s4 I4 => ⟨z, H3, I4, rz, q3⟩
end
section
variable {X : Cx} {pins : List (Addr × Obj)} {σ : St} {H : Hp} {s : Shared} {a b : Addr} {d : V} {r : Value} {ks : List Key} {A : Around} {E : Value → Shared → Prop}
theorem d_setdT {kvs : List (List Key × V)} {Q : Value → Shared → Prop} (hu : A.units + 1 < cLine) (I : Inv X pins σ H s) (e : H a = some (.dT kvs)) (eb : H b = some (.tup (ks.map kV))) (rd : RelV d r) (hl : kvs.length < sizeLine)
    (h1 : ∀ v, valV kvs ks = some v → ∀ (w' : Value) (s' : Shared), Inv X pins σ H s' → RelV v w' → Q w' s') (h2 : valV kvs ks = none → ∀ (w' : Value) (s' : Shared), Inv X pins σ (upd H a (.dT (putK kvs ks d))) s' → RelV d w' → Q w' s') :
    wpAny (model X.prog X.w) A (call (.builtin "dict.setdefault") [.ref a, .ref b, r]) Q E s := by
  obtain ⟨z, hd, xs, rel, dd⟩ := dt_of I.hok e
  have hz : xs.length ≤ sizeLine := by rw [← Paired.length rel]; exact z
  have hl2 : (putK kvs ks d).length ≤ sizeLine := by have := length_putK kvs ks d; omega
  refine call_setdefault_heap (hsz := hz) (tupleKind_room_in1 hu) (key_of I.hok eb) hd dd (fun p hp => ?_) (fun hn h' dd' hs => ?_)
  · have q := rel.val ks
    rw [hp] at q
    cases q0 : valV kvs ks with
    | none =>
      rw [q0] at q
      exact (show False from q).elim
    | some v0 =>
      rw [q0] at q
      exact h1 v0 q0 _ _ (I.tok _) q
  · have q := rel.val ks
    rw [hn] at q
    cases q0 : valV kvs ks with
    | some v0 =>
      rw [q0] at q
      exact (show False from q).elim
    | none =>
      obtain ⟨q, es, ep, hq, h2', h3, h4, _, h5⟩ := dd'
      refine h2 q0 _ _ (d_write (t' := s.toks + _) I (by rw [e]; exact True.intro) hs ⟨q, hq⟩ ⟨hl2, hd, _, (rel.put ks eb rd).keeps fun c ys ec => ?_, q, es, ep, hq, h2', h3, h4, h5⟩) rd
      rw [upd_ne (ne_of ec e (fun z => nomatch z))]
      exact ec
end
def tDSetdT (td ty tx : TE) : TE := fun σ H Q => td σ H fun x H1 => ∃ a, x = .ref a ∧ IsD H1 a ∧ ty σ H1 fun y H2 => tx σ H2 fun z H3 => ∃ (kvs : List (List Key × V)) (k : List Key) (b : Addr), H3 a = some (.dT kvs) ∧ y = .ref b ∧ H3 b = some (.tup (k.map kV)) ∧ kvs.length < sizeLine ∧
  (∀ v, valV kvs k = some v → Q v H3) ∧ (valV kvs k = none → Q z (upd H3 a (.dT (putK kvs k z))))
section
variable {X : Cx} {o e f : Expr} {td ty tx : TE} {apos cpos : Pos}
theorem pe_dsetdT (hu : X.A.units + 1 < cLine) (ho : PE X o td) (he : PE X e ty) (hf : PE X f tx) (m : M2 X o "setdefault" apos e f cpos) : PE X (.Call (.Attribute o "setdefault" apos) [e, f] [] cpos) (tDSetdT td ty tx) := by
  refine ⟨fun pins s σ H Q I h => ?_⟩
  refine wpAny_Call_method m.base m.few m.line PySem.F.plainAttrs_dict PySem.F.slot_dict_setdefault PySem.F.type_dict_setdefault (thn (ho.run pins s σ H _ I h) fun u s1 ⟨x, H1, I1, rx, a, ex, d, q1⟩ => ?_)
  subst ex
  obtain rfl : u = Value.ref a := rx
  obtain ⟨t1, t2, _⟩ := isD_at I1 d
  refine ⟨t1, t2, ?_⟩
  rw [m.trees]
  refine Calls.callWith_builtin rfl (Calls.evalArgs_plain (Calls.spliced_cons (thn (he.run pins s1 σ H1 _ I1 q1) fun iv s2 ⟨y, H2, I2, ry, q2⟩ =>
    Calls.spliced_cons (thn (hf.run pins s2 σ H2 _ I2 q2) fun fv s3 ⟨z, H3, I3, rz, kvs, k, b, ea, ey, eb, hl, q3, q4⟩ => Calls.spliced_nil ?_))))
  subst ey
  obtain rfl : iv = Value.ref b := ry
  exact d_setdT hu I3 ea eb rz hl (fun v hv w' s4 I4 rw' => ⟨v, _, I4, rw', q3 v hv⟩) fun hn w' s4 I4 rw' => ⟨z, _, I4, rw', q4 hn⟩
end
/-! ### len(x), x of a class with an own __len__ -/
theorem len_own {prog : Program} {w : World} {A : Around} {E : Value → Shared → Prop} {s : Shared} {K : PySem.W.Frag} {x C f : Addr} {ox : Obj} {od : Option Obj} {Q : Value → Shared → Prop} (X : K.In s.heap) (I : PySem.W.InstAt s.heap x ox C od) (hs : PySem.W.findIn K (.ref C) "__len__" = some (some (.ref f))) (hf : PySem.W.isFn K (.ref f) = true)
    (h : wpAny (model prog w) A.in1 (call (.ref f) [.ref x]) (PySem.W.LenBack Q) E s) : wpAny (model prog w) A (call (.builtin "len") [.ref x]) Q E s := by
  refine Calls.call_function_entry PySem.kind_len PySem.plain_len PySem.entry_len (PySem.args_len1 _) ?_
  unfold Builtin.«len»
  refine wpAny_bind (m := oneArg "len" _) (wpAny_pure ?_)
  refine wpAny_bind (m := callSpecial? (.ref x) (Str.ofString "__len__")) (PySem.W.special_fn X I hs (beq_iff_eq.mp hf) (wpAny_mono h (fun r s' hr => ?_) fun _ _ y => y))
  cases r <;> first | exact hr.elim | skip
  rename_i n u
  obtain ⟨⟨h0, h1⟩, hq⟩ := hr
  refine wpAny_bind (wpAny_holding (wpAny_pure ?_))
  refine wpAny_bind (wpAny_letGo ?_)
  show wpAny _ _ (if n < 0 then _ else _) _ _ _
  rw [if_neg (by omega)]
  show wpAny _ _ (if n ≥ 2 ^ 63 then _ else _) _ _ _
  rw [if_neg (by omega)]
  exact wpAny_bind (wpAny_mkInt (wpAny_pure ⟨_, rfl, hq⟩))
theorem call_lenOwn {X : Cx} {CX : CXT} {k : Nat} {C f : Addr} {fd : FuncData} {ps : List Str} {sp : Sp} {E : XK} (F : FnOk X.prog X.w X.K X.mg X.base CX k f fd ps sp) (hr : Room (k + 1) X.A) (hm : Meth X.K C "__len__" f) (hb : Binds X.K fd ps []) (hx : Passes CX X E) :
    CallR X (.builtin "len") (fun xs H Q => ∃ (a dx : Addr) (fs : List (Str × V)), xs = [.ref a] ∧ H a = some (.ins C dx fs) ∧ sp [.ref a] H (fun v H' => ∃ n : Int, v = .int n ∧ 0 ≤ n ∧ n < 2 ^ 63 ∧ Q (.int n) H') E) := by
  intro pins s σ H xs us Q I r h
  obtain ⟨a, dx, fs, rfl, ha, q⟩ := h
  obtain ⟨u, rfl, ru⟩ := vals1 r
  obtain rfl : u = Value.ref a := ru
  obtain ⟨mA, O, _, _, _, _⟩ := ins_get I.hok ha
  obtain ⟨od, J, _⟩ := O.look
  refine len_own I.kIn J hm.at_ hm.fn ?_
  have hl : [Value.ref a].length = ps.length := by
    rw [← F.len _ _ _ _ q]
    rfl
  have b := hb s [Value.ref a] I.kIn (by rw [List.append_nil]; exact hl)
  rw [List.append_nil] at b
  refine wpAny_call (codeAny_mono (F.run X.A.in1 X.stack s H ⟨[.ref a], []⟩ [.ref a] [.ref a] _ E hr.in1 I.env0.in1 b (.cons rfl .nil) q) fun r s' hq => ?_)
  cases r with
  | error e => exact hx pins σ H s e s' I hq
  | ok fl =>
    cases fl with
    | ret u =>
      obtain ⟨v, H', I', rv, n, ev, h0, h1, q'⟩ := I.after hq
      subst ev
      obtain ⟨t, rfl⟩ := (show ∃ t, u = Value.int n t from rv)
      exact ⟨⟨h0, h1⟩, .int n, H', I'.tok _, ⟨_, rfl⟩, q'⟩
    | next => exact False.elim hq
    | brk => exact False.elim hq
    | cont => exact False.elim hq
end L2
set_option maxHeartbeats 4000000
/-! Comprehensions over own dicts (lists made), dict comprehensions over lists and over enumerate of a tuple, with tests. -/
namespace Dt
open PySem PySem.Spec L2
def LkAt (K : PySem.W.Frag) (W0 : Wd) (H0 : Hp) (μ0 : Store) (ys : List DV) (σ : L2.St) (δ : Slots) (q : Addr) (m : Nat) (H : Hp) : Prop :=
  ∃ W acc, Go W0 H0 μ0 W H μ0 ∧ At K W H σ δ μ0 ∧ H q = some (.lst acc) ∧ W.G q = none ∧ Off W μ0 q ∧ Rels K W (ys.take m) acc
section
variable {X : Cx} {T : WX} {δ δ' δ1 δ2 : Slots} {μ μ' μ1 μ2 μ3 : Store} {e a b c elt : Expr} {es ifs : List Expr} {dv dv1 dv2 : DV} {pos p p' : Pos} {i j k n : Nat} {x y : Str} {scope : Scope}
/-- [elt for x in d], d an own dict -/
theorem Ev.lcKd {tg : Expr} {kvs : List (Key × DV)} (g : Key → D) (hc : X.calm = true) (nd : X.N.Nodup) (h : ∀ o, Ev X e δ (μ.set k (.lk o kvs)) (.own k) (μ.set k (.lk o kvs))) (hk : μ[k]? = some (.dK kvs)) (hz : kvs.length ≤ 100000)
    (he : ∀ o, ∀ q ∈ kvs.map (·.1), ∀ s H0 cl C fp, Ev (bk X s H0 scope cl C fp) elt (δ.set j (some (.dat (keyD q)))) (μ.set k (.lk o kvs)) (.dat (g q)) (μ.set k (.lk o kvs))) (ok : BlkOk X.N X.env.scope scope [(x, j)]) (hg : TgOk X scope tg (gName j)) (hs : ∀ z, foldedSetIterable e X.env z = pure z := by intro _; rfl) :
    Ev X (.ListComp elt [⟨tg, e, [], 0⟩] scope pos) δ μ (.dat (.lst ((kvs.map (·.1)).map g))) μ := fun W H σ Q A kk => by
  refine semE_of (pe_lock (pe_lc hc nd (pi_keys semE_pe) ok hg (fun _ _ _ _ _ => pts_nil) (semK_pe (e := elt)) hs)) ?_
  obtain ⟨g0, ws, hw, rl⟩ := A.st.cell k _ hk
  refine ⟨W.A k, .dK ws, hw, trivial, fun ob => ?_⟩
  have hkn := A.st.lt hk
  have hl : k < μ.length := (List.getElem?_eq_some_iff.mp hk).1
  obtain ⟨gl, A1⟩ := lockGo (ob := ob) A hk g0 rl
  refine h _ W _ σ _ A1 fun W1 H1 v g1 A2 r1 => ?_
  obtain ⟨e1, _, _⟩ := openGo A2 (List.getElem?_set_self hl)
  have he := he (.frz ob (.dK ws))
  generalize hμ1 : μ.set k (.lk (.frz ob (.dK ws)) kvs) = μ1 at *
  have hk1 : μ1[k]? = some (.lk (.frz ob (.dK ws)) kvs) := by rw [← hμ1]; exact List.getElem?_set_self hl
  have g01 := gl.trans g1
  have el : kvs.length = ws.length := Paired.length rl
  refine ⟨W1.A k, ob, r1.2, .inl ⟨ws, e1, fun q h0 => ?_⟩⟩
  have at_ : ∀ {W' : Wd} {H' : Hp}, Go W1 H1 μ1 W' H' μ1 → At X.K W' H' σ δ μ1 → H' (W1.A k) = some (.frz ob (.dK ws)) := fun {W' H'} g' A' => by
    obtain ⟨e2, _, _⟩ := openGo A' hk1
    rw [← g'.le.A k (Nat.lt_of_lt_of_le hkn g01.le.n)]
    exact e2
  have gq : W1.G q = none := A2.st.ex.free h0
  have of := Off.fresh A2.st h0
  generalize hys : ((kvs.map (·.1)).map fun q => DV.dat (g q)) = ys
  have yl : ys.length = kvs.length := by rw [← hys, List.length_map, List.length_map]
  have start : LkAt X.K W1 H1 μ1 ys σ δ q 0 (upd H1 q (.lst [])) := ⟨W1, [], ⟨Wd.le.rfl', fun w o e z f => ⟨by rw [upd_ne (ne_of_none e h0)]; exact e, z, f⟩⟩, ⟨A2.st.beside gq of, A2.sl⟩, upd_same, gq, of, .nil⟩
  refine ⟨fun m z H' => z = kvs.length - m ∧ m ≤ kvs.length ∧ LkAt X.K W1 H1 μ1 ys σ δ q m H', ⟨_, rfl, Nat.zero_le _, start⟩, ?_⟩
  rintro m z H' ⟨rfl, hm', hI⟩
  obtain ⟨W', acc, g', A', hacc, gq', of', rlq⟩ := hI
  have lkd := at_ g' A'
  by_cases hlt : m < kvs.length
  · refine .inr ⟨⟨lkd, by rw [← el]; exact hlt⟩, fun H' => LkAt X.K W1 H1 μ1 ys σ δ q (m + 1) H', fun H2 h2 => ⟨_, by omega, rfl, hlt, h2⟩, ?_⟩
    rintro xv H2 ⟨rfl, kq, vq, hkq, rfl⟩
    obtain ⟨zz, hzz, rz⟩ := Paired.getR rl hkq
    have ekq : zz.1 = kq := rz.1
    have hkm : (kvs.map (·.1))[m]? = some kq := by rw [List.getElem?_map, hzz, ← ekq]; rfl
    have hym : ys[m]? = some (.dat (g kq)) := by rw [← hys, List.getElem?_map, hkm]; rfl
    have A3 : At X.K W' _ ((L2.wipe σ [j]).set j (some (kV kq))) (δ.set j (some (.dat (keyD kq)))) μ1 := ⟨A'.st, A'.sl.wipe1 (keyD_rel kq) j⟩
    refine ⟨wipe_back σ j _, ?_⟩
    have t1 : Ek X scope elt (δ.set j (some (.dat (keyD kq)))) μ1 (.dat (g kq)) μ1 := Ek.of fun s H0 cl C fp => he kq (List.mem_of_getElem? hkm) s H0 cl C fp
    refine t1 W' _ _ _ A3 fun W4 H4 yv g4 A4 r4 => ?_
    obtain ⟨hq4, gq4, of4⟩ := g4.fr q _ hacc gq' of'
    refine ⟨acc, hq4, ?_, W4, _, ⟨(g'.trans g4).le, fun w o e z f => ?_⟩, ⟨A4.st.beside gq4 of4, A'.sl.mono g4.le⟩, upd_same, gq4, of4, ?_⟩
    · rw [← rlq.len, List.length_take, sizeLine_eq]
      omega
    · obtain ⟨w1, w2, w3⟩ := (g'.trans g4).fr w o e z f
      exact ⟨by rw [upd_ne (ne_of_none e h0)]; exact w1, w2, w3⟩
    · rw [take_succ_of hym]
      exact Paired.app (Rels.mono g4.le rlq) (.cons r4 .nil)
  · have em : m = kvs.length := by omega
    subst em
    refine .inl ⟨⟨lkd, by rw [el]; exact Nat.le_refl _⟩, ?_⟩
    rw [← yl, List.take_length] at rlq
    obtain ⟨g2, le2, s2⟩ := adoptG (g01.trans g') A'.st ((Nq.none h0).back g01) hacc gq' of'
    have A6 : At X.K { W' with G := upd W'.G q (.lst acc) } H' σ δ μ1 := ⟨s2, A'.sl.mono le2⟩
    obtain ⟨e6, g6, A7⟩ := openGo A6 hk1
    have eA : W'.A k = W.A k := (g01.trans g').le.A k hkn
    rw [show ({ W' with G := upd W'.G q (.lst acc) } : Wd).A k = W.A k from eA] at e6 g6 A7
    have eμ : μ1.set k (.dK kvs) = μ := by rw [← hμ1, set_back hk]
    rw [eμ] at g6 A7
    refine ⟨e6, kk _ _ _ (g2.trans g6) A7 (Dq.lst upd_same (DqA.of ?_))⟩
    have ey : ((kvs.map (·.1)).map g).map DV.dat = ys := by rw [List.map_map, ← hys]; rfl
    rw [ey]
    exact rlq.mono le2
/-! ### dict comprehensions with tests -/
inductive DcTurn (X : Cx) (scope : Scope) (ifs : List Expr) (kx vx : Expr) (δ' : Slots) (μ : Store) : Option (Key × DV) → Prop
  | no : Ei X scope ifs δ' μ false μ → DcTurn X scope ifs kx vx δ' μ none
  | yes {q : Key} {dv : DV} : Ei X scope ifs δ' μ true μ → Ek X scope kx δ' μ (.dat (keyD q)) μ → Ek X scope vx δ' μ dv μ → DcTurn X scope ifs kx vx δ' μ (some (q, dv))
def outK (out : List (Option (Key × DV))) : List (Key × DV) := out.filterMap id
def DcOt (K : PySem.W.Frag) (W0 : Wd) (H0 : Hp) (μ0 : Store) (out : List (Option (Key × DV))) (σ : L2.St) (δ : Slots) (q : Addr) (m : Nat) (H : Hp) : Prop :=
  ∃ W ws, Go W0 H0 μ0 W H μ0 ∧ At K W H σ δ μ0 ∧ H q = some (.dK ws) ∧ W.G q = none ∧ Off W μ0 q ∧ RelK K W (putsD (outK (out.take m))) ws
theorem dco_step {W0 W' : Wd} {H0 H' H2 : Hp} {σ σ' : L2.St} {q : Addr} {m : Nat} {out : List (Option (Key × DV))} {ws : List (Key × V)} {o : Option (Key × DV)} {kx vx : Expr} (h0 : H0 q = none) (g' : Go W0 H0 μ W' H' μ) (A' : At X.K W' H' σ δ μ) (hws : H' q = some (.dK ws)) (gq' : W'.G q = none) (of' : Off W' μ q)
    (rl : RelK X.K W' (putsD (outK (out.take m))) ws) (sm : Same H' H2) (A3 : At X.K W' H2 σ' δ' μ) (hm : out[m]? = some o) (hl : out.length ≤ 100000) (t : DcTurn X scope ifs kx vx δ' μ o) :
    semI X scope ifs σ' H2 fun b H3 => if b = true then semK X scope kx σ' H3 fun y H4 => semK X scope vx σ' H4 fun z H5 => ∃ kvs k, y = kV k ∧ H5 q = some (.dK kvs) ∧ kvs.length < sizeLine ∧ DcOt X.K W0 H0 μ out σ δ q (m + 1) (upd H5 q (.dK (putK kvs k z)))
      else DcOt X.K W0 H0 μ out σ δ q (m + 1) H3 := by
  have et := take_succ_of hm
  have gs := Go.sides (W := W') (μ := μ) sm
  cases t with
  | no hi =>
    refine hi W' H2 _ _ A3 fun W4 H4 g4 A4 => iteF ?_
    have gg := gs.trans g4
    obtain ⟨hq5, gq5, of5⟩ := gg.fr q _ hws gq' of'
    refine ⟨W4, ws, g'.trans gg, ⟨A4.st, A'.sl.mono gg.le⟩, hq5, gq5, of5, ?_⟩
    have e2 : outK (out.take (m + 1)) = outK (out.take m) := by
      unfold outK
      rw [et, List.filterMap_append]
      simp
    rw [e2]
    exact RelK.mono gg.le rl
  | @yes kq dv hi t1 t2 =>
    refine hi W' H2 _ _ A3 fun W3 H3 g3 A3' => iteT (t1 W3 H3 _ _ A3' fun W4 H4 kv g4 A4 r4 => t2 W4 H4 _ _ A4 fun W5 H5 vv g5 A5 r5 => ?_)
    have gg := gs.trans (g3.trans (g4.trans g5))
    obtain ⟨hq5, gq5, of5⟩ := gg.fr q _ hws gq' of'
    refine ⟨ws, kq, key_rel r4, hq5, ?_, W5, _, ⟨(g'.trans gg).le, fun w o e z f => ?_⟩, ⟨A5.st.beside gq5 of5, A'.sl.mono gg.le⟩, upd_same, gq5, of5, ?_⟩
    · rw [← Paired.length rl]
      have h1 := puts_len (outK (out.take m)) []
      have h2 : (outK (out.take m)).length ≤ (out.take m).length := List.length_filterMap_le _ _
      have h4 : (out.take m).length ≤ m := by rw [List.length_take]; omega
      have h5 : m < out.length := (List.getElem?_eq_some_iff.mp hm).1
      have h3 : (putsD (outK (out.take m))).length ≤ m := by
        unfold putsD
        simp only [List.length_nil] at h1
        omega
      rw [sizeLine_eq]
      omega
    · obtain ⟨w1, w2, w3⟩ := (g'.trans gg).fr w o e z f
      exact ⟨by rw [upd_ne (ne_of_none e h0)]; exact w1, w2, w3⟩
    · have e2 : putsD (outK (out.take (m + 1))) = putD (putsD (outK (out.take m))) kq dv := by
        unfold putsD outK
        rw [et, List.filterMap_append, List.foldl_append]
        rfl
      rw [e2]
      exact putD_rel r5 (RelK.mono gg.le rl)
theorem dco_start {W0 : Wd} {H0 : Hp} {σ : L2.St} {q : Addr} {out : List (Option (Key × DV))} (A : At X.K W0 H0 σ δ μ) (h0 : H0 q = none) : DcOt X.K W0 H0 μ out σ δ q 0 (upd H0 q (.dK [])) :=
  ⟨W0, [], ⟨Wd.le.rfl', fun w o e z f => ⟨by rw [upd_ne (ne_of_none e h0)]; exact e, z, f⟩⟩, ⟨A.st.beside (A.st.ex.free h0) (Off.fresh A.st h0), A.sl⟩, upd_same, A.st.ex.free h0, Off.fresh A.st h0, .nil⟩
theorem dco_fin {W00 W0 : Wd} {H00 H0 H : Hp} {μ0 : Store} {σ : L2.St} {q : Addr} {out : List (Option (Key × DV))} {Q : VK} (g1 : Go W00 H00 μ0 W0 H0 μ) (h0 : H0 q = none) (hI : DcOt X.K W0 H0 μ out σ δ q out.length H)
    (k : ∀ W' H' v, Go W00 H00 μ0 W' H' (μ ++ [.dK (putsD (outK out))]) → At X.K W' H' σ δ (μ ++ [.dK (putsD (outK out))]) → Rel X.K W' (.own μ.length) v → Q v H') : Q (.ref q) H := by
  obtain ⟨W', ws, g', A', hws, gq', of', rl⟩ := hI
  rw [List.take_length] at rl
  obtain ⟨g2, s⟩ := adoptC (cl := .dK (putsD (outK out))) (g1.trans g') A'.st ((Nq.none h0).back g1) of' ⟨by rw [Wd.push_at]; exact gq', ws, by rw [Wd.push_at]; exact hws, RelK.mono (W'.push_le q) rl⟩
  refine k _ _ _ g2 ⟨s, A'.sl.mono (W'.push_le q)⟩ ⟨by rw [← A'.st.n]; exact Nat.lt_succ_self _, ?_⟩
  rw [← A'.st.n, Wd.push_at]
theorem dcL_go {kx vx : Expr} {ds : List D} {out : List (Option (Key × DV))} {W : Wd} {H : Hp} {σ : L2.St} {Q : VK} (A : At X.K W H σ δ μ) (h : Ev X e δ μ (.dat (.lst ds)) μ1) (hl : ds.length ≤ 100000) (hlen : out.length = ds.length)
    (t : ∀ (m : Nat) (d : D) (o : Option (Key × DV)), ds[m]? = some d → out[m]? = some o → DcTurn X scope ifs kx vx (δ.set j (some (.dat d))) μ1 o)
    (k : ∀ W' H' v, Go W H μ W' H' (μ1 ++ [.dK (putsD (outK out))]) → At X.K W' H' σ δ (μ1 ++ [.dK (putsD (outK out))]) → Rel X.K W' (.own μ1.length) v → Q v H') :
    tDc (iList X.K (semE X e)) (gName j) (semI X scope ifs) (semK X scope kx) (semK X scope vx) [j] σ H Q := by
  refine h W H σ _ A fun W1 H1 v g1 A1 r1 => ?_
  cases (show Dq X.K W1.G v (.lst ds) from r1) with
  | lst hq hd =>
    rename_i al vs
    refine ⟨al, rfl, ⟨vs, SqL.of (A1.st.ex _ _ hq)⟩, fun q h0 => ?_⟩
    have ev : vs.length = ds.length := by rw [← (DqA.rels hd).len, List.length_map]
    have stays : ∀ {m : Nat} {H' : Hp}, DcOt X.K W1 H1 μ1 out σ δ q m H' → H' al = some (.lst vs) := fun ⟨W', _, g', A', _⟩ => A'.st.ex _ _ (g'.le.G _ _ hq)
    refine ⟨fun m z H' => z = ds.length - m ∧ m ≤ ds.length ∧ DcOt X.K W1 H1 μ1 out σ δ q m H', ⟨_, rfl, Nat.zero_le _, dco_start A1 h0⟩, ?_⟩
    rintro m z H' ⟨rfl, hm', hI⟩
    by_cases hlt : m < ds.length
    · refine .inr ⟨⟨vs, vs[m], SqL.of (stays hI), by simp [ev, hlt]⟩, fun H' => DcOt X.K W1 H1 μ1 out σ δ q (m + 1) H', fun H2 h2 => ⟨_, by omega, rfl, hlt, h2⟩, ?_⟩
      rintro xv H2 ⟨rfl, hu⟩
      have hu' := hu vs (SqL.of (stays hI))
      obtain ⟨W', ws, g', A', hws, gq', of', rl⟩ := hI
      obtain ⟨d, hd', rd⟩ := Rels.atL hd hu'
      have hdm : ds[m]? = some d := by
        rw [List.getElem?_map] at hd'
        obtain ⟨d0, e0, e1⟩ := Option.map_eq_some_iff.mp hd'
        cases e1
        exact e0
      have hkl : m < out.length := by rw [hlen]; exact hlt
      have ho := List.getElem?_eq_getElem hkl
      exact ⟨wipe_back σ j xv, dco_step h0 g' A' hws gq' of' rl (Same.refl _) ⟨A'.st, A'.sl.wipe1 (rd.mono g'.le) j⟩ ho (by omega) (t m d _ hdm ho)⟩
    · have em : m = out.length := by omega
      subst em
      exact .inl ⟨⟨vs, SqL.of (stays hI), by omega⟩, dco_fin g1 h0 hI k⟩
theorem Xs.dcL (i : Nat) {kx vx tg : Expr} {ds : List D} {out : List (Option (Key × DV))} {py : Pos} (hc : X.calm = true) (nd : X.N.Nodup) (h : Ev X e δ μ (.dat (.lst ds)) μ1) (hl : ds.length ≤ 100000) (hlen : out.length = ds.length)
    (t : ∀ (m : Nat) (d : D) (o : Option (Key × DV)), ds[m]? = some d → out[m]? = some o → DcTurn X scope ifs kx vx (δ.set j (some (.dat d))) μ1 o) (h1 : ifs.length ≤ 1) (ok : BlkOk X.N X.env.scope scope [(x, j)]) (hg : TgOk X scope tg (gName j)) (hy : X.N[i]? = some y := by rfl) (hyl : X.env.scope.names.lookup y = some .local := by rfl)
    (hsw : swapsWith (.DictComp kx vx [⟨tg, e, ifs, 0⟩] scope p) (some (.Name y py)) pos.line X.env = pure true := by exact sw_trueD rfl rfl rfl (by decide +kernel)) (hs : ∀ z, foldedSetIterable e X.env z = pure z := by intro _; rfl) :
    Xs X T (.Assign [.Name y py] (.DictComp kx vx [⟨tg, e, ifs, 0⟩] scope p) pos) δ μ (.nx (δ.set i (some (.own μ1.length))) (μ1 ++ [.dK (putsD (outK out))])) := fun W H σ D A P => by
  refine semS_of (ps_setDc hc nd hy hyl hsw (pi_list semE_pe) ok hg (fun s H C cl fp => semI_pts h1 s H C cl fp) (semK_pe (e := kx)) (semK_pe (e := vx)) hs) ?_
  exact dcL_go (Q := fun v H' => D.nx (σ.set i (some v)) H') A h hl hlen t fun W' H' v g' A' r => P W' H' _ g' ⟨A'.st, A'.sl.set r i⟩
theorem dcE_go {kx vx : Expr} {ds : List D} {out : List (Option (Key × DV))} {W : Wd} {H : Hp} {σ : L2.St} {Q : VK} (hij : i ≠ j) (A : At X.K W H σ δ μ) (h : Ev X e δ μ (.dat (.tup ds)) μ1) (hl : ds.length ≤ 100000) (hlen : out.length = ds.length)
    (t : ∀ (m : Nat) (d : D) (o : Option (Key × DV)), ds[m]? = some d → out[m]? = some o → DcTurn X scope ifs kx vx (enSl i j δ m (.dat d)) μ1 o)
    (k : ∀ W' H' v, Go W H μ W' H' (μ1 ++ [.dK (putsD (outK out))]) → At X.K W' H' σ δ (μ1 ++ [.dK (putsD (outK out))]) → Rel X.K W' (.own μ1.length) v → Q v H') :
    tDc (iEnumA X.K (tCons (semE X e) tNil)) (gTup X.K 2 (gCons (gName i) (gCons (gName j) gNil))) (semI X scope ifs) (semK X scope kx) (semK X scope vx) [i, j] σ H Q := by
  refine h W H σ _ A fun W1 H1 v g1 A1 r1 => ?_
  cases (show Dq X.K W1.G v (.tup ds) from r1) with
  | tup hq hd =>
    rename_i al vs
    refine ⟨al, vs, rfl, .inr ⟨Same.tseq A1.st.ex hq, fun q h0 => ?_⟩⟩
    have ev : vs.length = ds.length := by rw [← (DqA.rels hd).len, List.length_map]
    have stays : ∀ {m : Nat} {H' : Hp}, DcOt X.K W1 H1 μ1 out σ δ q m H' → SqT X.K H' al vs := fun ⟨W', _, g', A', _⟩ => Same.tseq A'.st.ex (Same.tseq g'.le.G hq)
    refine ⟨fun m z H' => z = ds.length - m ∧ m ≤ ds.length ∧ DcOt X.K W1 H1 μ1 out σ δ q m H', ⟨_, rfl, Nat.zero_le _, dco_start A1 h0⟩, ?_⟩
    rintro m z H' ⟨rfl, hm', hI⟩
    by_cases hlt : m < ds.length
    · refine .inr ⟨⟨vs, vs[m], stays hI, by simp [ev, hlt]⟩, fun H' => DcOt X.K W1 H1 μ1 out σ δ q (m + 1) H', fun H2 h2 => ⟨_, by omega, rfl, hlt, h2⟩, ?_⟩
      rintro xv H2 ⟨Tn, u, rfl, hT, rfl, hu⟩
      have hu' := hu vs (stays hI)
      obtain ⟨W', ws, g', A', hws, gq', of', rl⟩ := hI
      have sm : Same H' (upd H' Tn (.tup [.int (m : Nat), u])) := same_upd hT
      obtain ⟨d, hd', rd⟩ := Rels.atL hd hu'
      have hdm : ds[m]? = some d := by
        rw [List.getElem?_map] at hd'
        obtain ⟨d0, e0, e1⟩ := Option.map_eq_some_iff.mp hd'
        cases e1
        exact e0
      have hkl : m < out.length := by rw [hlen]; exact hlt
      have ho := List.getElem?_eq_getElem hkl
      refine ⟨Tn, _, rfl, SqT.of upd_same, rfl, _, _, rfl, _, _, rfl, rfl, wipe_two hij _ _, ?_⟩
      have A3 : At X.K W' (upd H' Tn (.tup [.int (m : Nat), u])) (((L2.wipe σ [i, j]).set i (some (.int (m : Nat)))).set j (some u)) (enSl i j δ m (.dat d)) μ1 :=
        ⟨A'.st.grow sm, ((A'.sl.wipeS [i, j]).set (dv := .i (m : Int)) (Dq.int _) i).set (rd.mono g'.le) j⟩
      exact dco_step h0 g' A' hws gq' of' rl sm A3 ho (by omega) (t m d _ hdm ho)
    · have em : m = out.length := by omega
      subst em
      exact .inl ⟨⟨vs, stays hI, by omega⟩, dco_fin g1 h0 hI k⟩
theorem Xs.dcE (i' : Nat) {kx vx : Expr} {z : Str} {ds : List D} {out : List (Option (Key × DV))} {py ep tp pi pj : Pos} {kk : Nat} (hc : X.calm = true) (nd : X.N.Nodup) (hm : X.mg "enumerate" = none) (hij : i ≠ j) (h : Ev X e δ μ (.dat (.tup ds)) μ1) (hl : ds.length ≤ 100000) (hlen : out.length = ds.length)
    (t : ∀ (m : Nat) (d : D) (o : Option (Key × DV)), ds[m]? = some d → out[m]? = some o → DcTurn X scope ifs kx vx (enSl i j δ m (.dat d)) μ1 o) (h1 : ifs.length ≤ 1) (ok : BlkOk X.N X.env.scope scope [(x, i), (y, j)])
    (hti : ∀ (s : Shared) (H : Hp) (C : Addr) (cl : List (Str × Addr)) (fp : List Addr), PG (X.blk s H scope (compEnvC scope cl C X.env) fp) (.Tuple [.Name x pi, .Name y pj] kk tp) (gTup X.K 2 (gCons (gName i) (gCons (gName j) gNil))))
    (hz : X.N[i']? = some z := by rfl) (hzl : X.env.scope.names.lookup z = some .local := by rfl)
    (hg : Gl X "enumerate" := by rfl) (hst : starEach [e] X.env = [(false, eval e X.env)] := by rfl)
    (hsw : swapsWith (.DictComp kx vx [⟨.Tuple [.Name x pi, .Name y pj] kk tp, .Call (.Name "enumerate" p') [e] [] ep, ifs, 0⟩] scope p) (some (.Name z py)) pos.line X.env = pure true := by exact sw_trueD rfl rfl rfl (by decide +kernel))
    (hs : ∀ z, foldedSetIterable (.Call (.Name "enumerate" p') [e] [] ep) X.env z = pure z := by intro _; rfl) :
    Xs X T (.Assign [.Name z py] (.DictComp kx vx [⟨.Tuple [.Name x pi, .Name y pj] kk tp, .Call (.Name "enumerate" p') [e] [] ep, ifs, 0⟩] scope p) pos) δ μ (.nx (δ.set i' (some (.own μ1.length))) (μ1 ++ [.dK (putsD (outK out))])) := fun W H σ D A P => by
  refine semS_of (ps_setDc hc nd hz hzl hsw (pi_enumA hg hm (pa_cons semE_pe pa_nil hst) hst) ok hti (fun s H C cl fp => semI_pts h1 s H C cl fp) (semK_pe (e := kx)) (semK_pe (e := vx)) hs) ?_
  exact dcE_go (Q := fun v H' => D.nx (σ.set i' (some v)) H') hij A h hl hlen t fun W' H' v g' A' r => P W' H' _ g' ⟨A'.st, A'.sl.set r i'⟩
end
end Dt
set_option maxHeartbeats 4000000
/-! More rules: len by an own def, isinstance of a tuple of types, chains, constants, get, setdefault, extend, repeated tuples, unpacking, list(dict), sorted(dict), max, is, repr of plain values. -/
namespace Dt
open PySem PySem.Spec L2
section
variable {X : Cx} {T : WX} {δ δ' δ1 δ2 : Slots} {μ μ' μ1 μ2 μ3 μ4 : Store} {e a b c elt f : Expr} {es ifs : List Expr} {dv dv1 dv2 : DV} {pos p p' tp : Pos} {i j k n : Nat} {x y : Str} {scope : Scope} {C : Addr} {fs : Flds} {Pm : Pr} {d : D} {ds : List D}
theorem Ev.lenI {m : Int} (D : Dm X.prog X.w X.K X.mg X.base C "__len__" k 1 Pm) (hr : Room (k + 1) X.A) (hm : X.mg "len" = none) (ha : Ev X e δ μ dv μ1) (hi : InsV μ1 dv C fs) (hp : Pm [dv] μ1 (.ret (.i m) μ2)) (h0 : 0 ≤ m) (h1 : m < 2 ^ 63) (hg : Gl X "len" := by rfl)
    (he : starEach [e] X.env = (false, eval e X.env) :: starEach [] X.env := by rfl) : Ev X (.Call (.Name "len" p) [e] [] pos) δ μ (.i m) μ2 := fun W H σ Q A q => by
  obtain ⟨g, fd, ps, F, hme, hb⟩ := D.ex
  refine semE_of (pe_callB (call_lenOwn F hr hme hb passN) hg hm (by first | rfl | decide +kernel) (pa_cons semE_pe pa_nil he) (by decide) (by decide) he (by rfl)) (ha W H σ _ A fun W1 H1 v g1 A1 r1 => ?_)
  obtain ⟨al, dx, ws, ev, ho, rl⟩ := hi.at A1.st r1
  refine ⟨al, dx, ws, by rw [ev], ho, ?_⟩
  exact ⟨W1, μ1, [dv], _, rfl, A1.st, .cons (ev ▸ r1) .nil, hp, fun W' H' v' g s r => ⟨m, r.iv, h0, h1, q W' H' _ (g1.trans g) (A1.le g s) (Dq.int _)⟩⟩
theorem Ev.isiT {us : List String} {t : String} {r : Bool} {x1} (hm : X.mg "isinstance" = none) (ha : Ev X e δ μ (.dat d) μ1) (hb : Ea X es δ μ1 (us.map fun u => .dat (.ty u)) μ2) (ht : tyOf d = some t) (hk : kitsB t us = some r) (hl : us.length ≤ 1000 := by exact Nat.le_of_ble_eq_true rfl) (hg : Gl X "isinstance" := by rfl)
    (he : starEach [e, .Tuple es x1 tp] X.env = (false, eval e X.env) :: starEach [.Tuple es x1 tp] X.env := by rfl) (he2 : starEach [.Tuple es x1 tp] X.env = (false, eval (.Tuple es x1 tp) X.env) :: starEach [] X.env := by rfl) (hpl : (backTo pos (starEach [.Tuple es x1 tp] X.env)).any (·.1) = false := by rfl) :
    Ev X (.Call (.Name "isinstance" p) [e, .Tuple es x1 tp] [] pos) δ μ (.b r) μ2 := fun W H σ Q A q => by
  refine semE_of (pe_callB call_isiT hg hm (by first | rfl | decide +kernel) (pa_cons semE_pe (pa_cons (pe_tup hb.pa) pa_nil he2) he) (by decide) (by decide) he hpl) (ha W H σ _ A fun W1 H1 v g1 A1 r1 => hb.ev W1 H1 σ _ A1 fun W2 H2 vs g2 A2 r2 => ⟨by rw [← r2.len, List.length_map, sizeLine_eq]; omega, fun q' hq' => ?_⟩)
  obtain ⟨g, s⟩ := go_newG (o := .tup vs) A2.st hq'
  have e1 : (us.map fun u => DV.dat (.ty u)) = (us.map D.ty).map DV.dat := by rw [List.map_map]; rfl
  rw [e1] at r2
  have r1' := r1.mono (g2.trans g).le
  exact ⟨v, q', vs, _, _, r, rfl, upd_same, DqA.tys (DqA.of r2), tyx_of s.ex r1' ht, kits_ok hk, q _ _ _ ((g1.trans g2).trans g) (A2.le g s) (Dq.bl r)⟩
theorem Ev.chain {op op' : CmpOp} {u v : Bool} (ha : Ev X a δ μ dv μ1) (hb : Ev X b δ μ1 dv1 μ1) (hc : Ev X c δ μ1 dv2 μ1) (ho : OpS X (compareOp op) dv dv1 μ1 (.b u) μ1) (ho' : OpS X (compareOp op') dv1 dv2 μ1 (.b v) μ1)
    (hm : lastMarks [op, op'] [b, c] = false := by with_unfolding_all rfl) : Ev X (.Compare a [op, op'] [b, c] pos) δ μ (.b (u && v)) μ1 := by
  obtain ⟨r, h1, q1⟩ := ho
  obtain ⟨r', h2, q2⟩ := ho'
  intro W H σ Q A k
  refine semE_of (pe_chain h1 h2 semE_pe semE_pe semE_pe hm) ?_
  refine ha W H σ _ A fun W1 H1 x g1 A1 rx => hb W1 H1 σ _ A1 fun W2 H2 y g2 A2 ry => q1 W2 H2 σ δ x y _ A2 (rx.mono g2.le) ry fun W3 H3 z g3 A3 rz => ⟨u, rz.bv, ?_⟩
  have gg := (g1.trans g2).trans g3
  cases u with
  | false => exact iteF (k W3 H3 _ gg A3 (Dq.bl _))
  | true => exact iteT (hc W3 H3 σ _ A3 fun W4 H4 w' g4 A4 rw' => q2 W4 H4 σ δ y w' _ A4 (ry.mono (g3.trans g4).le) rw' fun W5 H5 z' g5 A5 rz' => k W5 H5 z' (gg.trans (g4.trans g5)) A5 rz')
theorem Et.chain {op op' : CmpOp} {u v : Bool} (ha : Ev X a δ μ dv μ1) (hb : Ev X b δ μ1 dv1 μ1) (hc : Ev X c δ μ1 dv2 μ1) (ho : OpS X (compareOp op) dv dv1 μ1 (.b u) μ1) (ho' : OpS X (compareOp op') dv1 dv2 μ1 (.b v) μ1)
    (hm : lastMarks [op, op'] [b, c] = false := by with_unfolding_all rfl) : Et X (.Compare a [op, op'] [b, c] pos) δ μ (u && v) μ1 := by
  obtain ⟨r, h1, q1⟩ := ho
  obtain ⟨r', h2, q2⟩ := ho'
  intro W H σ Q A k
  refine semT_of (pt_chain h1 h2 semE_pe semE_pe semE_pe hm) ?_
  refine ha W H σ _ A fun W1 H1 x g1 A1 rx => hb W1 H1 σ _ A1 fun W2 H2 y g2 A2 ry => q1 W2 H2 σ δ x y _ A2 (rx.mono g2.le) ry fun W3 H3 z g3 A3 rz => ⟨u, rz.bv, ?_⟩
  have gg := (g1.trans g2).trans g3
  cases u with
  | false => exact iteF ⟨_, rfl, k W3 H3 gg A3⟩
  | true => exact iteT (hc W3 H3 σ _ A3 fun W4 H4 w' g4 A4 rw' => q2 W4 H4 σ δ y w' _ A4 (ry.mono (g3.trans g4).le) rw' fun W5 H5 z' g5 A5 rz' => ⟨v, rz'.bv, k W5 H5 (gg.trans (g4.trans g5)) A5⟩)
theorem Ev.glI {m : Int} {t : Tok} (hm : X.mg x = some (.int m t)) (hg : Gl X x := by rfl) (hd : (x == ("__debug__" : Str)) = false := by decide) : Ev X (.Name x p) δ μ (.i m) μ :=
  .now (pe_glob (v := .int m) hg hm ⟨t, rfl⟩ hd) fun _ _ _ _ _ k => k _ (Dq.int m)
/-- d.get(y), d.get(y, z): y a key or None -/
def optK : Option Key → D
  | none => .non
  | some q => keyD q
def getK (kvs : List (Key × DV)) (q : Option Key) : Option DV := q.bind (lookK kvs)
theorem Ev.get1 {kvs : List (Key × DV)} {q : Option Key} (hu : X.A.units + 1 < cLine) (ho : Ev X a δ μ (.own k) μ1) (he : Ev X e δ μ1 (.dat (optK q)) μ2) (hk1 : ∃ kv, μ1[k]? = some (.dK kv)) (hk : μ2[k]? = some (.dK kvs)) (hm : M1 X a "get" p e pos := by exact ⟨rfl, rfl, rfl, rfl⟩) :
    Ev X (.Call (.Attribute a "get" p) [e] [] pos) δ μ ((getK kvs q).getD .n) μ2 := fun W H σ Q A kk => by
  refine semE_of (pe_dgetN1 hu semE_pe semE_pe hm) (ho W H σ _ A fun W1 H1 v g1 A1 r1 => ?_)
  obtain ⟨kv, hkv⟩ := hk1
  obtain ⟨us, ex, hus, _⟩ := dget_of A1.st hkv r1
  refine ⟨_, ex, .inl ⟨us, .inl hus⟩, he W1 H1 σ _ A1 fun W2 H2 y g2 A2 r2 => ?_⟩
  obtain ⟨ws, ex2, hw, rl⟩ := dget_of A2.st hk (r1.mono g2.le)
  have eA : W2.A k = W1.A k := g2.le.A k r1.1
  rw [eA] at hw
  cases q with
  | none => exact .inr ⟨ws, .inl hw, r2.nv, kk W2 H2 .non (g1.trans g2) A2 Dq.non⟩
  | some q =>
    refine .inl ⟨valV ws q, by rw [key_rel r2]; exact DGet.k hw, ?_⟩
    show Q _ H2
    have eg : getK kvs (some q) = lookK kvs q := rfl
    rw [eg] at kk
    rcases lookK_rel (q := q) rl with ⟨e1, e2⟩ | ⟨d, v', e1, e2, rv⟩
    · rw [e1] at kk
      rw [e2]
      exact kk W2 H2 .non (g1.trans g2) A2 Dq.non
    · rw [e1] at kk
      rw [e2]
      exact kk W2 H2 v' (g1.trans g2) A2 rv
theorem Ev.get2 {kvs : List (Key × DV)} {q : Option Key} (hu : X.A.units + 1 < cLine) (ho : Ev X a δ μ (.own k) μ1) (he : Ev X e δ μ1 (.dat (optK q)) μ2) (hf : Ev X f δ μ2 dv μ3) (hk1 : ∃ kv, μ1[k]? = some (.dK kv)) (hk : μ3[k]? = some (.dK kvs)) (hm : M2 X a "get" p e f pos := by exact ⟨rfl, rfl, rfl, rfl⟩) :
    Ev X (.Call (.Attribute a "get" p) [e, f] [] pos) δ μ ((getK kvs q).getD dv) μ3 := fun W H σ Q A kk => by
  refine semE_of (pe_dgetN2 hu semE_pe semE_pe semE_pe hm) (ho W H σ _ A fun W1 H1 v g1 A1 r1 => ?_)
  obtain ⟨kv, hkv⟩ := hk1
  obtain ⟨us, ex, hus, _⟩ := dget_of A1.st hkv r1
  refine ⟨_, ex, .inl ⟨us, .inl hus⟩, he W1 H1 σ _ A1 fun W2 H2 y g2 A2 r2 => hf W2 H2 σ _ A2 fun W3 H3 z g3 A3 r3 => ?_⟩
  obtain ⟨ws, ex2, hw, rl⟩ := dget_of A3.st hk (r1.mono (g2.trans g3).le)
  have eA : W3.A k = W1.A k := (g2.trans g3).le.A k r1.1
  rw [eA] at hw
  have gg := (g1.trans g2).trans g3
  cases q with
  | none => exact .inr ⟨ws, .inl hw, (Rel.nv r2), kk W3 H3 z gg A3 r3⟩
  | some q =>
    refine .inl ⟨valV ws q, by rw [key_rel r2]; exact DGet.k hw, ?_⟩
    show Q _ H3
    have eg : getK kvs (some q) = lookK kvs q := rfl
    rw [eg] at kk
    rcases lookK_rel (q := q) rl with ⟨e1, e2⟩ | ⟨d, v', e1, e2, rv⟩
    · rw [e1] at kk
      rw [e2]
      exact kk W3 H3 z gg A3 r3
    · rw [e1] at kk
      rw [e2]
      exact kk W3 H3 v' gg A3 rv
/-- d.setdefault(y, z) -/
theorem Ev.setd {kvs : List (Key × DV)} {q : Key} (ho : Ev X a δ μ (.own k) μ1) (he : Ev X e δ μ1 (.dat (keyD q)) μ2) (hf : Ev X f δ μ2 dv μ3) (hk1 : ∃ kv, μ1[k]? = some (.dK kv)) (hk : μ3[k]? = some (.dK kvs)) (hl : kvs.length < 1000000) (hm : M2 X a "setdefault" p e f pos := by exact ⟨rfl, rfl, rfl, rfl⟩) :
    Ev X (.Call (.Attribute a "setdefault" p) [e, f] [] pos) δ μ ((lookK kvs q).getD dv) (if (lookK kvs q).isSome then μ3 else μ3.set k (.dK (putD kvs q dv))) := fun W H σ Q A kk => by
  refine semE_of (pe_dsetd semE_pe semE_pe semE_pe hm) (ho W H σ _ A fun W1 H1 v g1 A1 r1 => ?_)
  obtain ⟨kv, hkv⟩ := hk1
  obtain ⟨us, ex, hus, _⟩ := dget_of A1.st hkv r1
  refine ⟨_, ex, .inl ⟨us, .inl hus⟩, he W1 H1 σ _ A1 fun W2 H2 y g2 A2 r2 => hf W2 H2 σ _ A2 fun W3 H3 z g3 A3 r3 => ?_⟩
  obtain ⟨ws, ex2, hw, rl⟩ := dget_of A3.st hk (r1.mono (g2.trans g3).le)
  have eA : W3.A k = W1.A k := (g2.trans g3).le.A k r1.1
  have hw' := hw
  rw [eA] at hw'
  have gg := (g1.trans g2).trans g3
  refine ⟨ws, q, hw', key_rel r2, by rw [← Paired.length rl, sizeLine_eq]; omega, fun v' hv' => ?_, fun hn => ?_⟩
  · rcases lookK_rel (q := q) rl with ⟨e1, e2⟩ | ⟨d, v2, e1, e2, rv⟩
    · rw [hv'] at e2; cases e2
    · rw [hv'] at e2
      cases e2
      rw [e1] at kk
      exact kk W3 H3 _ gg A3 rv
  · rcases lookK_rel (q := q) rl with ⟨e1, e2⟩ | ⟨d, v2, e1, e2, rv⟩
    · have g0 : W3.G (W3.A k) = none := (A3.st.cell k _ hk).1
      obtain ⟨g, s⟩ := go_setC (o := .dK (putK ws q z)) (c' := .dK (putD kvs q dv)) A3.st hk (by intro z; cases z) ⟨g0, _, upd_same, putD_rel r3 rl⟩
      rw [e1] at kk
      rw [eA] at g s
      exact kk W3 _ _ (gg.trans g) (A3.le g s) r3
    · rw [hn] at e2; cases e2
/-- .. at a tuple -/
theorem Ev.setdT {kvs : List (List Key × DV)} {q : List Key} (hu : X.A.units + 1 < cLine) (ho : Ev X a δ μ (.own k) μ1) (he : Ev X e δ μ1 (.own j) μ2) (hf : Ev X f δ μ2 dv μ3) (hk1 : ∃ kv, μ1[k]? = some (.dT kv)) (hj : μ3[j]? = some (.tp q)) (hj2 : j < μ2.length) (hk : μ3[k]? = some (.dT kvs)) (hl : kvs.length < 1000000) (hm : M2 X a "setdefault" p e f pos := by exact ⟨rfl, rfl, rfl, rfl⟩) :
    Ev X (.Call (.Attribute a "setdefault" p) [e, f] [] pos) δ μ ((lookK kvs q).getD dv) (if (lookK kvs q).isSome then μ3 else μ3.set k (.dT (putD kvs q dv))) := fun W H σ Q A kk => by
  refine semE_of (pe_dsetdT hu semE_pe semE_pe semE_pe hm) (ho W H σ _ A fun W1 H1 v g1 A1 r1 => ?_)
  obtain ⟨kv, hkv⟩ := hk1
  obtain ⟨_, us, hus, _⟩ := A1.st.cell k _ hkv
  have ex := r1.2
  subst ex
  refine ⟨_, rfl, .inr ⟨us, .inl hus⟩, he W1 H1 σ _ A1 fun W2 H2 y g2 A2 r2 => hf W2 H2 σ _ A2 fun W3 H3 z g3 A3 r3 => ?_⟩
  obtain ⟨g0, ws, hw, rl⟩ := A3.st.cell k _ hk
  have eA : W3.A k = W1.A k := (g2.trans g3).le.A k r1.1
  obtain ⟨_, hjt⟩ := A3.st.cell j _ hj
  have eJ : y = .ref (W3.A j) := by rw [r2.2, g3.le.A j r2.1]
  have hw' := hw
  rw [eA] at hw'
  have gg := (g1.trans g2).trans g3
  refine ⟨ws, q, _, hw', eJ, hjt, by rw [← Paired.length rl, sizeLine_eq]; omega, fun v' hv' => ?_, fun hn => ?_⟩
  · rcases lookK_rel (q := q) rl with ⟨e1, e2⟩ | ⟨d, v2, e1, e2, rv⟩
    · rw [hv'] at e2; cases e2
    · rw [hv'] at e2
      cases e2
      rw [e1] at kk
      exact kk W3 H3 _ gg A3 rv
  · rcases lookK_rel (q := q) rl with ⟨e1, e2⟩ | ⟨d, v2, e1, e2, rv⟩
    · obtain ⟨g, s⟩ := go_setC (o := .dT (putK ws q z)) (c' := .dT (putD kvs q dv)) A3.st hk (by intro z; cases z) ⟨g0, _, upd_same, putD_rel r3 rl⟩
      rw [e1] at kk
      rw [eA] at g s
      exact kk W3 _ _ (gg.trans g) (A3.le g s) r3
    · rw [hn] at e2; cases e2
theorem Ev.dnewT : Ev X (.Dict [] [] pos) δ μ (.own μ.length) (μ ++ [.dT []]) := fun W H σ Q A q => by
  refine semE_of pe_dnewT fun l hl => ?_
  have gp : W.G l = none := A.st.ex.free hl
  obtain ⟨g, s⟩ := go_newC (o := .dT []) (c := .dT []) A.st hl ⟨by rw [Wd.push_at]; exact gp, [], by rw [Wd.push_at]; exact upd_same, .nil⟩
  refine q _ _ _ g (A.le g s) ⟨by rw [← A.st.n]; exact Nat.lt_succ_self _, ?_⟩
  rw [← A.st.n, Wd.push_at]
/-- t + u, a tuple of keys as an own cell -/
theorem keys_v {K : PySem.W.Frag} {G : Hp} : ∀ {ks : List Key} {vs : List V}, DqA K G vs (ks.map keyD) → vs = ks.map kV
  | [], _, h => by cases h; rfl
  | q :: ks, _, h => by
    cases h with
    | cons h t =>
      rw [keys_v t]
      have : _ = kV q := key_rel (W := ⟨fun _ => 0, G, 0⟩) (K := K) h
      rw [this]
      rfl
theorem Ev.catK {ks ls : List Key} (ha : Ev X a δ μ (.dat (.tup (ks.map keyD))) μ1) (hb : Ev X b δ μ1 (.dat (.tup (ls.map keyD))) μ2) (hk : ks ≠ []) (hl : ls ≠ []) (hz : ks.length + ls.length ≤ 1000000) : Ev X (.BinOp a .Add b pos) δ μ (.own μ2.length) (μ2 ++ [.tp (ks ++ ls)]) :=
  .two (te := fun ta tb => tOp _ ta tb) (fun _ _ => rfl) (pe_op op_catA semE_pe semE_pe) ha hb fun W H σ δ x y Q A rx ry k => by
    obtain ⟨al, vs, rfl, h1, ta⟩ := tv_sq A.st rx
    obtain ⟨bl, us, rfl, h2, tb⟩ := tv_sq A.st ry
    have e1 := keys_v ta
    have e2 := keys_v tb
    subst e1 e2
    refine ⟨al, bl, _, _, rfl, rfl, h1, h2, by rw [List.length_map, List.length_map, sizeLine_eq]; omega, fun z => absurd (List.map_eq_nil_iff.mp z) hk, fun _ z => absurd (List.map_eq_nil_iff.mp z) hl, fun _ _ q hq => ?_⟩
    have gp : W.G q = none := A.st.ex.free hq
    have ek : ks.map kV ++ ls.map kV = (ks ++ ls).map kV := List.map_append.symm
    rw [ek]
    obtain ⟨g, s⟩ := go_newC (o := .tup ((ks ++ ls).map kV)) (c := .tp (ks ++ ls)) A.st hq ⟨by rw [Wd.push_at]; exact gp, by rw [Wd.push_at]; exact upd_same⟩
    refine k _ _ _ g (A.le g s) ⟨by rw [← A.st.n]; exact Nat.lt_succ_self _, ?_⟩
    rw [← A.st.n, Wd.push_at]
theorem CallS.lenT' {kvs : List (List Key × DV)} (h : μ[k]? = some (.dT kvs)) : CallS X (.builtin "len") [.own k] μ (.i kvs.length) μ :=
  ⟨_, call_len_dT, fun W H σ δ vs Q A rv q => by
    obtain ⟨v, rfl, r⟩ := Rels.one rv
    obtain ⟨_, ws, hw, rl⟩ := A.st.cell k _ h
    have ev : v = .ref (W.A k) := r.2
    subst ev
    refine ⟨_, ws, rfl, hw, ?_⟩
    rw [← Paired.length rl]
    exact q W H _ .refl A (Dq.int _)⟩
/-- xs.extend(ys) -/
theorem Ev.extend {xs ys : List DV} {ap : Pos} (ho : Ev X a δ μ (.own k) μ1) (he : Ev X e δ μ1 dv μ2) (hk : μ2[k]? = some (.lst xs)) (hy : LV μ2 dv ys) (hz : xs.length + ys.length ≤ 1000000) (hk1 : ∃ ys, μ1[k]? = some (.lst ys))
    (hbase : attributeBase a "extend" X.env (eval a X.env) = eval a X.env := by rfl)
    (hfew : ((backTo pos (starEach [e] X.env)).all (fun x => !x.1) && (backToKw pos (keywordEach [] X.env)).all (fun x => x.1.isSome)
      && decide ([e].length + ([] : List Keyword).length + (if ([] : List Keyword).isEmpty then 0 else 1) < 30)) = true := by rfl)
    (hline : (ap.endLine == pos.line) = true := by rfl) (hs : starEach [e] X.env = (false, eval e X.env) :: starEach [] X.env := by rfl) :
    Ev X (.Call (.Attribute a "extend" ap) [e] [] pos) δ μ .n (μ2.set k (.lst (xs ++ ys))) := fun W H σ Q A q => by
  refine semE_of (pe_bm PySem.F.plainAttrs_list PySem.F.slot_list_extend PySem.F.type_list_extend mt_extend semE_pe (pa_cons semE_pe pa_nil hs) hbase hfew hline hs) ?_
  refine ho W H σ _ A fun W1 H1 x g1 A1 r1 => ?_
  obtain ⟨ys', hy'⟩ := hk1
  obtain ⟨_, us, hu, _⟩ := A1.st.cell k _ hy'
  obtain ⟨lt, ex⟩ := r1
  subst ex
  refine ⟨.inl ⟨rfl, _, SqL.of hu⟩, he W1 H1 σ _ A1 fun W2 H2 y g2 A2 r2 => ?_⟩
  obtain ⟨g0, vs, hv, rl⟩ := A2.st.cell k _ hk
  have eA : W2.A k = W1.A k := g2.le.A k lt
  obtain ⟨b', ws, rfl, hb, rb⟩ := hy.sq A2.st r2
  refine ⟨W2.A k, b', vs, ws, by rw [eA], rfl, hv, hb, by rw [← rl.len, ← rb.len, sizeLine_eq]; omega, ?_⟩
  obtain ⟨g, s⟩ := go_setC (o := .lst (vs ++ ws)) (c' := .lst (xs ++ ys)) A2.st hk (by intro q; cases q) ⟨g0, _, upd_same, Paired.app rl rb⟩
  exact q _ _ _ ((g1.trans g2).trans g) (A2.le g s) Dq.non
/-- t * n -/
theorem OpS.repT {xs : List D} {m : Int} (hx : xs ≠ []) (h0 : 1 ≤ m) (hl : xs.length ≤ 1000) (hm : m ≤ 1000) : OpS X (binaryOp .Mult) (.dat (.tup xs)) (.i m) μ (.dat (.tup (List.replicate m.toNat xs).flatten)) μ := by
  by_cases h1 : m = 1
  · subst h1
    have e : (List.replicate (1 : Int).toNat xs).flatten = xs := by
      show (List.replicate 1 xs).flatten = xs
      rw [List.replicate_one, List.flatten_singleton]
    rw [e]
    refine ⟨_, op_rep1, fun W H σ δ x y Q A rx ry k => ?_⟩
    obtain ⟨al, vs, rfl, ha, ta⟩ := tv_sq A.st rx
    exact ⟨al, vs, rfl, ry.iv, ha, k W H _ .refl A rx⟩
  · refine ⟨_, op_repT, fun W H σ δ x y Q A rx ry k => ?_⟩
    obtain ⟨al, vs, rfl, ha, ta⟩ := tv_sq A.st rx
    have el : vs.length = xs.length := by rw [← (DqA.rels ta).len, List.length_map]
    exact ⟨al, m, vs, rfl, ry.iv, ha, fun z => hx (List.eq_nil_of_length_eq_zero (by rw [← el, z]; rfl)), by omega, hm, by rw [el]; exact hl, fun q hq => newTup A hq (DqA.rep ta _) k⟩
/-- x, y, z = e (a tuple); x, y = e (a list) -/
theorem Xs.unp3 {x1 x2 x3 : Str} {i1 i2 i3 : Nat} {d1 d2 d3 : D} {p1 p2 p3 : Pos} {kk : Nat} (hc : X.calm = true) (nd : X.N.Nodup) (h : Ev X e δ μ (.dat (.tup [d1, d2, d3])) μ1)
    (hi : X.N[i1]? = some x1 := by rfl) (hx : Loc X.env.scope x1 := by first | exact Or.inl rfl | exact Or.inr rfl) (hfx : X.fn x1 = true ∨ X.env.scope.names.lookup x1 = some .local := by first | exact .inl rfl | exact .inr rfl)
    (hi2 : X.N[i2]? = some x2 := by rfl) (hx2 : Loc X.env.scope x2 := by first | exact Or.inl rfl | exact Or.inr rfl) (hfx2 : X.fn x2 = true ∨ X.env.scope.names.lookup x2 = some .local := by first | exact .inl rfl | exact .inr rfl)
    (hi3 : X.N[i3]? = some x3 := by rfl) (hx3 : Loc X.env.scope x3 := by first | exact Or.inl rfl | exact Or.inr rfl) (hfx3 : X.fn x3 = true ∨ X.env.scope.names.lookup x3 = some .local := by first | exact .inl rfl | exact .inr rfl)
    (hs1 : (assignEach [.Name x1 p1, .Name x2 p2, .Name x3 p3] X.env).map (·.2) = assign (.Name x1 p1) X.env :: (assignEach [.Name x2 p2, .Name x3 p3] X.env).map (·.2) := by rfl) (hs2 : (assignEach [.Name x2 p2, .Name x3 p3] X.env).map (·.2) = assign (.Name x2 p2) X.env :: (assignEach [.Name x3 p3] X.env).map (·.2) := by rfl)
    (hs3 : (assignEach [.Name x3 p3] X.env).map (·.2) = assign (.Name x3 p3) X.env :: (assignEach [] X.env).map (·.2) := by rfl)
    (hn : (assignEach [.Name x1 p1, .Name x2 p2, .Name x3 p3] X.env).length = 3 := by rfl) (hst2 : (assignEach [.Name x1 p1, .Name x2 p2, .Name x3 p3] X.env).findIdx? (·.1) = none := by rfl)
    (hss : swapsWithSole [.Tuple [.Name x1 p1, .Name x2 p2, .Name x3 p3] kk tp] e pos.line X.env = pure false := by rfl) (hw : swappedStores [.Tuple [.Name x1 p1, .Name x2 p2, .Name x3 p3] kk tp] e X.env = pure none := by rfl) :
    Xs X T (.Assign [.Tuple [.Name x1 p1, .Name x2 p2, .Name x3 p3] kk tp] e pos) δ μ (.nx (((δ.set i1 (some (.dat d1))).set i2 (some (.dat d2))).set i3 (some (.dat d3))) μ1) := fun W H σ D A P => by
  refine semS_of (ps_asg semE_pe (pg_tup hc (pgs_cons (pg_name nd hi hx hfx) (pgs_cons (pg_name nd hi2 hx2 hfx2) (pgs_cons (pg_name nd hi3 hx3 hfx3) pgs_nil hs3) hs2) hs1) hn hst2) hss hw) (h W H σ _ A fun W1 H1 v g1 A1 r1 => ?_)
  obtain ⟨q, vs, rfl, hs, t⟩ := tv_sq A1.st r1
  cases t with
  | cons r1 t => cases t with
    | cons r2 t => cases t with
      | cons r3 t =>
        cases t
        exact ⟨q, _, rfl, hs, rfl, _, _, rfl, _, _, rfl, _, _, rfl, rfl, P W1 H1 _ g1 ⟨A1.st, ((A1.sl.set (dv := .dat d1) r1 i1).set (dv := .dat d2) r2 i2).set (dv := .dat d3) r3 i3⟩⟩
theorem Xs.unpL {x1 x2 : Str} {i1 i2 : Nat} {d1 d2 : D} {p1 p2 : Pos} {kk : Nat} (hc : X.calm = true) (nd : X.N.Nodup) (h : Ev X e δ μ (.dat (.lst [d1, d2])) μ1)
    (hi : X.N[i1]? = some x1 := by rfl) (hx : Loc X.env.scope x1 := by first | exact Or.inl rfl | exact Or.inr rfl) (hfx : X.fn x1 = true ∨ X.env.scope.names.lookup x1 = some .local := by first | exact .inl rfl | exact .inr rfl)
    (hi2 : X.N[i2]? = some x2 := by rfl) (hx2 : Loc X.env.scope x2 := by first | exact Or.inl rfl | exact Or.inr rfl) (hfx2 : X.fn x2 = true ∨ X.env.scope.names.lookup x2 = some .local := by first | exact .inl rfl | exact .inr rfl)
    (hs1 : (assignEach [.Name x1 p1, .Name x2 p2] X.env).map (·.2) = assign (.Name x1 p1) X.env :: (assignEach [.Name x2 p2] X.env).map (·.2) := by rfl) (hs2 : (assignEach [.Name x2 p2] X.env).map (·.2) = assign (.Name x2 p2) X.env :: (assignEach [] X.env).map (·.2) := by rfl)
    (hn : (assignEach [.Name x1 p1, .Name x2 p2] X.env).length = 2 := by rfl) (hst2 : (assignEach [.Name x1 p1, .Name x2 p2] X.env).findIdx? (·.1) = none := by rfl)
    (hss : swapsWithSole [.Tuple [.Name x1 p1, .Name x2 p2] kk tp] e pos.line X.env = pure false := by rfl) (hw : swappedStores [.Tuple [.Name x1 p1, .Name x2 p2] kk tp] e X.env = pure none := by rfl) :
    Xs X T (.Assign [.Tuple [.Name x1 p1, .Name x2 p2] kk tp] e pos) δ μ (.nx ((δ.set i1 (some (.dat d1))).set i2 (some (.dat d2))) μ1) := fun W H σ D A P => by
  refine semS_of (ps_asg semE_pe (pg_unl hc (pgs_cons (pg_name nd hi hx hfx) (pgs_cons (pg_name nd hi2 hx2 hfx2) pgs_nil hs2) hs1) hn hst2) hss hw) (h W H σ _ A fun W1 H1 v g1 A1 r1 => ?_)
  obtain ⟨q, vs, rfl, hs, t⟩ := LV.dt.sq A1.st r1
  have t := DqA.of t
  cases t with
  | cons r1 t => cases t with
    | cons r2 t =>
      cases t
      exact ⟨q, _, rfl, SqL.of hs, rfl, _, _, rfl, _, _, rfl, rfl, P W1 H1 _ g1 ⟨A1.st, (A1.sl.set (dv := .dat d1) r1 i1).set (dv := .dat d2) r2 i2⟩⟩
/-- list(d), sorted(d), the keys -/
theorem CallS.listK {kvs : List (Key × DV)} (hc : X.calm = true) (h : μ[k]? = some (.dK kvs)) : CallS X (.type "list") [.own k] μ (.own μ.length) (μ ++ [.lst (kvs.map fun kv => .dat (keyD kv.1))]) :=
  ⟨_, call_list_dK hc, fun W H σ δ vs Q A rv q => by
    obtain ⟨v, rfl, r⟩ := Rels.one rv
    obtain ⟨_, ws, hw, rl⟩ := A.st.cell k _ h
    have ev : v = .ref (W.A k) := r.2
    subst ev
    refine ⟨_, ws, rfl, hw, fun l hl => newOwn A hl ?_ q⟩
    have : ∀ {kvs : List (Key × DV)} {ws : List (Key × V)}, RelK X.K W kvs ws → Rels X.K W (kvs.map fun kv => .dat (keyD kv.1)) (ws.map fun kv => kV kv.1) := by
      intro kvs ws rl
      induction rl with
      | nil => exact .nil
      | @cons p q ps qs r t ih =>
        refine .cons ?_ ih
        have e : p.1 = q.1 := r.1
        show Rel X.K W (.dat (keyD p.1)) (kV q.1)
        rw [e]
        exact keyD_rel _
    exact this rl⟩
theorem CallS.sortedK {kvs : List (Key × DV)} {ks ms : List Int} (hc : X.calm = true) (h : μ[k]? = some (.dK kvs)) (hk : kvs.map (·.1) = ks.map Sum.inl) (hl : ks.length < 64) (hp : ms.Perm ks) (ho : ms.Pairwise (· ≤ ·)) : CallS X (.builtin "sorted") [.own k] μ (.dat (.lst (ms.map D.int))) μ :=
  ⟨_, call_sortedDI hc, fun W H σ δ vs Q A rv q => by
    obtain ⟨v, rfl, r⟩ := Rels.one rv
    obtain ⟨_, ws, hw, rl⟩ := A.st.cell k _ h
    have ev : v = .ref (W.A k) := r.2
    subst ev
    have ek : ws.map (·.1) = ks.map Sum.inl := by
      rw [← hk]
      have : ∀ {kvs : List (Key × DV)} {ws : List (Key × V)}, RelK X.K W kvs ws → ws.map (·.1) = kvs.map (·.1) := by
        intro kvs ws rl
        induction rl with
        | nil => rfl
        | @cons p q ps qs r t ih => rw [List.map_cons, List.map_cons, ih, show p.1 = q.1 from r.1]
      exact this rl
    refine ⟨_, ws, ks, rfl, .inl hw, ek, hl, fun ys l p1 p2 hn => ?_⟩
    have e2 : ys = ms := asc_unique (p1.trans hp.symm) p2 ho
    rw [e2]
    exact newLst A hn (ints_dq ms) q⟩
theorem CallS.maxL {ns : List Int} {m : Int} (hc : X.calm = true) (hm : m ∈ ns) (hle : ∀ y ∈ ns, y ≤ m) : CallS X (.builtin "max") [.dat (.lst (ns.map D.int))] μ (.i m) μ :=
  ⟨_, cr_max hc, fun W H σ δ vs Q A rv q => by
    obtain ⟨v, rfl, r⟩ := Rels.one rv
    obtain ⟨al, us, rfl, hs, rl⟩ := LV.dt.sq A.st r
    have e := DqA.ints (DqA.of rl)
    subst e
    refine ⟨al, ns, rfl, SqL.of hs, List.length_pos_of_mem hm, fun m' hm' hle' => ?_⟩
    have e2 : m' = m := Int.le_antisymm (hle m' hm') (hle' m hm)
    subst e2
    exact q W H _ .refl A (Dq.int _)⟩
theorem OpS.isB {u v : Bool} : OpS X (compareOp .Is) (.b u) (.b v) μ (.b (decide (u = v))) μ :=
  ⟨_, op_isBl, fun W H σ δ x y Q A rx ry k => ⟨u, v, rx.bv, ry.bv, k W H _ .refl A (Dq.bl _)⟩⟩
/-- repr of what is no display -/
def txF : D → Str
  | .str x => reprText x
  | .int i => toString i
  | .bl b => if b then "True" else "False"
  | _ => "None"
theorem call_reprF (hd : flatD d = true) (hs : ∀ x, d = .str x → (reprText x).length ≤ sizeLine) (hi : ∀ i, d = .int i → i.natAbs.log2 < 1920) : CallR X (.builtin "repr") (fun vs H Q => vs = [toV d] ∧ Q (.str (txF d)) H) := by
  intro pins s σ H xs us Q I r hh
  obtain ⟨rfl, q⟩ := hh
  obtain ⟨u, rfl, ru⟩ := vals1 r
  cases d with
  | str x =>
    obtain ⟨t, rfl⟩ := (show ∃ t, u = Value.str x t from ru)
    exact PySem.P.repr_of_str ⟨.str _, H, I.tok _, ⟨_, rfl⟩, q⟩ (hs x rfl)
  | int i =>
    obtain ⟨t, rfl⟩ := (show ∃ t, u = Value.int i t from ru)
    exact PySem.P.repr_of_int (hi i rfl) ⟨.str _, H, I.tok _, ⟨_, rfl⟩, q⟩
  | bl b =>
    obtain rfl : u = Value.bool b := ru
    cases b with
    | true => exact PySem.P.repr_of_bool (b := true) ⟨.str _, H, I.tok _, ⟨_, rfl⟩, q⟩
    | false => exact PySem.P.repr_of_bool (b := false) ⟨.str _, H, I.tok _, ⟨_, rfl⟩, q⟩
  | non =>
    obtain rfl : u = Value.none := ru
    exact PySem.P.repr_of_none ⟨.str _, H, I.tok _, ⟨_, rfl⟩, q⟩
  | _ => cases hd
theorem CallS.reprF (hd : flatD d = true) (hs : ∀ x, d = .str x → (reprText x).length ≤ sizeLine) (hi : ∀ i, d = .int i → i.natAbs.log2 < 1920) : CallS X (.builtin "repr") [.dat d] μ (.s (txF d)) μ :=
  ⟨_, call_reprF hd hs hi, fun W H σ δ vs Q A rv q => by
    obtain ⟨v, rfl, r⟩ := Rels.one rv
    have e := (dq_flat (show Dq X.K W.G v d from r) hd).1
    subst e
    exact ⟨rfl, q W H _ .refl A (Dq.str _)⟩⟩
end
end Dt
set_option maxHeartbeats 4000000
/-! range with two ends: comprehension, loop; a copy of a list as data; a slice of a list. -/
namespace Dt
open PySem PySem.Spec L2
open PyProof.Rows (envOfC)
section
variable {X : Cx} {T : WX} {e e' : Expr} {δ : Slots} {μ μ1 μ2 : Store} {scope : Scope} {ifs : List Expr} {j : Nat} {o : Out} {pos p p' : Pos}
theorem lcR2 {elt : Expr} {m1 m2 : Int} {ys : List DV} {μf : Store} (h : Ev X e δ μ (.i m1) μ1) (h' : Ev X e' δ μ1 (.i m2) μ2) (b1 : m1 < 1000000) (b2 : -1000000 < m1) (b3 : m2 < 1000000) (b4 : -1000000 < m2) (it : Lc (El X scope ifs elt j δ) (upto m1 (m2 - m1).toNat) μ2 ys μf) (hys : ys.length ≤ 1000000) :
    FreshL X (tLc (iRng2 (tCons (semE X e) (tCons (semE X e') tNil))) (gName j) (semI X scope ifs) (semK X scope elt) [j]) δ μ ys μf := fun W H σ Q A k => by
  refine h W H σ _ A fun W1 H1 v g1 A1 r1 => h' W1 H1 σ _ A1 fun W2 H2 v2 g2 A2 r2 => ?_
  refine ⟨m1, m2, by rw [r1.iv, r2.iv], ⟨by omega, by omega, by omega, by omega⟩, fun q h0 => lc_range (lo := m1) (n := (m2 - m1).toNat) (LcAt X.K W2 H2 μ2 (El X scope ifs elt j δ) (upto m1 (m2 - m1).toNat) ys μf σ δ q) (lc_start A2 h0 it) ?_ ?_⟩
  · intro i H' hi hI
    exact lc_step hys h0 (upto_at hi) (Dq.int _) hI
  · intro H' hI
    exact lc_fin h0 (xs := upto m1 (m2 - m1).toNat) (by rw [upto_len]; exact hI) fun W' H' q acc g A' hq h0 gq of r => k W' H' q acc ((g1.trans g2).trans g) A' hq ((h0.back g2).back g1) gq of r
theorem Xs.forR2 {x : Str} {m1 m2 : Int} {body : List Stmt} {rp : Pos} (hc : X.calm = true) (nd : X.N.Nodup) (hp : PassesOwn (model X.prog X.w) X.A X.env X.xe) (hm : X.mg "range" = none) (j : Nat) (h : Ev X e δ μ (.i m1) μ1) (h' : Ev X e' δ μ1 (.i m2) μ2) (b1 : m1 < 1000000) (b2 : -1000000 < m1) (b3 : m2 < 1000000) (b4 : -1000000 < m2) (it : It1 (Body X T j body) (upto m1 (m2 - m1).toNat) δ μ2 o)
    (hg : Gl X "range" := by rfl) (hi : X.N[j]? = some x := by rfl) (hx : Loc X.env.scope x := by first | exact Or.inl rfl | exact Or.inr rfl) (hf : X.fn x = true ∨ X.env.scope.names.lookup x = some .local := by first | exact .inl rfl | exact .inr rfl)
    (hst : starEach [e, e'] X.env = [(false, eval e X.env), (false, eval e' X.env)] := by rfl) (hst2 : starEach [e'] X.env = [(false, eval e' X.env)] := by rfl)
    (hs : ∀ x, foldedSetIterable (.Call (.Name "range" p') [e, e'] [] rp) X.env x = pure x := by intro _; rfl) : Xs X T (.For (.Name x p) (.Call (.Name "range" p') [e, e'] [] rp) body [] pos) δ μ o := fun W H σ D A P => by
  refine semS_of (ps_for hp hc (pi_range2 hg hm (pa_cons semE_pe (pa_cons semE_pe pa_nil hst2) (by rw [hst, hst2])) hst hst2) (pg_name nd hi hx hf) semB_ps hs) ?_
  refine h W H σ _ A fun W1 H1 v g1 A1 r1 => h' W1 H1 σ _ A1 fun W2 H2 v2 g2 A2 r2 => ?_
  have P1 := P.from (g1.trans g2)
  refine ⟨m1, m2, by rw [r1.iv, r2.iv], ⟨by omega, by omega, by omega, by omega⟩, for_range (lo := m1) (n := (m2 - m1).toNat) (ItAt X.K W2 H2 μ2 (Body X T j body) (upto m1 (m2 - m1).toNat) o) ⟨W2, δ, μ2, .refl, A2, it⟩ ?_ ?_⟩
  · intro i σ' H' hi hI
    exact it_turn P1 body_R (upto_at hi) (Dq.int _) hI
  · intro σ' H' hI
    exact it_done P1 (by rw [upto_len]; exact hI)
end
end Dt
set_option maxHeartbeats 4000000
/-! k84, plain: machines, what they count. -/
namespace Dt
/-- more of what isinstance asks: own lists, too -/
def TyS (μ : Store) (dv : DV) (t : String) : Prop := (∃ d, dv = .dat d ∧ tyOf d = some t) ∨ (∃ k xs, dv = .own k ∧ μ[k]? = some (.lst xs) ∧ t = "list")
open PySem PySem.Spec L2 in
theorem TyS.tyx {K : PySem.W.Frag} {W : Wd} {H : Hp} {μ : Store} {dv : DV} {t : String} {v : V} (h : TyS μ dv t) (S : StOk K W H μ) (r : Rel K W dv v) : TyX K H v (.type t) := by
  rcases h with ⟨d, rfl, ht⟩ | ⟨k, xs, rfl, hk, rfl⟩
  · exact tyx_of S.ex r ht
  · obtain ⟨_, vs, hv, _⟩ := S.cell k _ hk
    have e := r.2
    subst e
    exact .base (.lst hv)
namespace K84
open PySem (Str Addr)
/-- a machine: letters, rows of targets, ends -/
structure Mc where
  L : Nat
  rows : List (List (Option Nat))
  ends : List Nat
def optD : Option Nat → D
  | none => .non
  | some n => .int (n : Int)
def rowD (r : List (Option Nat)) : D := .tup (r.map optD)
def natD (n : Nat) : D := .int (n : Int)
def mcF (m : Mc) : List (Str × D) := [("letters", .int (m.L : Int)), ("table", .tup (m.rows.map rowD)), ("ends", .tup (m.ends.map natD))]
def mcD (C : Addr) (m : Mc) : D := .ins C (mcF m)
structure VM (m : Mc) : Prop where
  L1 : 1 ≤ m.L
  L48 : m.L ≤ 48
  n1 : 1 ≤ m.rows.length
  n63 : m.rows.length < 64
  len : ∀ r ∈ m.rows, r.length = m.L
  tg : ∀ r ∈ m.rows, ∀ t, some t ∈ r → t < m.rows.length
  el : m.ends.length = m.rows.length
  e1 : ∀ e ∈ m.ends, e ≤ 1
abbrev Mc.row (m : Mc) (s : Nat) : List (Option Nat) := m.rows.getD s []
abbrev Mc.ed (m : Mc) (s : Nat) : Nat := m.ends.getD s 0
theorem VM.row_mem {m : Mc} (h : VM m) {s : Nat} (hs : s < m.rows.length) : m.row s ∈ m.rows := by
  unfold Mc.row
  rw [List.getD_eq_getElem?_getD, List.getElem?_eq_getElem hs]
  exact List.getElem_mem hs
theorem VM.row_len {m : Mc} (h : VM m) {s : Nat} (hs : s < m.rows.length) : (m.row s).length = m.L := h.len _ (h.row_mem hs)
theorem Mc.row_tg {m : Mc} (h : VM m) {s t : Nat} (ht : some t ∈ m.row s) : t < m.rows.length := by
  by_cases hs : s < m.rows.length
  · exact h.tg _ (h.row_mem hs) t ht
  · unfold Mc.row at ht
    rw [List.getD_eq_getElem?_getD, List.getElem?_eq_none (by omega)] at ht
    cases ht
theorem VM.ed_le {m : Mc} (h : VM m) (s : Nat) : m.ed s ≤ 1 := by
  unfold Mc.ed
  rw [List.getD_eq_getElem?_getD]
  by_cases hs : s < m.ends.length
  · rw [List.getElem?_eq_getElem hs]
    exact h.e1 _ (List.getElem_mem hs)
  · rw [List.getElem?_eq_none (by omega)]
    exact Nat.zero_le _
theorem VM.row_at {m : Mc} (h : VM m) {s : Nat} (hs : s < m.rows.length) : m.rows[s]? = some (m.row s) := by
  unfold Mc.row
  rw [List.getD_eq_getElem?_getD, List.getElem?_eq_getElem hs]
  rfl
theorem VM.ed_at {m : Mc} (h : VM m) {s : Nat} (hs : s < m.rows.length) : m.ends[s]? = some (m.ed s) := by
  unfold Mc.ed
  rw [List.getD_eq_getElem?_getD, List.getElem?_eq_getElem (by rw [h.el]; exact hs)]
  rfl
/-- the sum over the targets that are there -/
def osum (f : Nat → Nat) : List (Option Nat) → Nat
  | [] => 0
  | none :: r => osum f r
  | some t :: r => f t + osum f r
/-- how many words of n letters lead from s to an end -/
def cnt (m : Mc) : Nat → Nat → Nat
  | 0, s => m.ed s
  | n + 1, s => osum (cnt m n) (m.row s)
theorem osum_congr {f g : Nat → Nat} : ∀ {r : List (Option Nat)}, (∀ t, some t ∈ r → f t = g t) → osum f r = osum g r
  | [], _ => rfl
  | none :: r, h => osum_congr (r := r) fun t ht => h t (List.mem_cons_of_mem _ ht)
  | some t :: r, h => by
    show f t + osum f r = g t + osum g r
    rw [h t List.mem_cons_self, osum_congr (r := r) fun t ht => h t (List.mem_cons_of_mem _ ht)]
theorem osum_append (f : Nat → Nat) : ∀ (a b : List (Option Nat)), osum f (a ++ b) = osum f a + osum f b
  | [], b => (Nat.zero_add _).symm
  | none :: a, b => osum_append f a b
  | some t :: a, b => by
    show f t + osum f (a ++ b) = f t + osum f a + osum f b
    rw [osum_append f a b, Nat.add_assoc]
/-- steps until stop, at most n -/
def runF {S : Type} (g : S → S) (stop : S → Bool) : Nat → S → S
  | 0, s => s
  | n + 1, s => if stop s = true then s else runF g stop n (g s)
theorem runF_inv {S : Type} {g : S → S} {stop : S → Bool} {I : S → Prop} {meas : S → Nat} (h : ∀ s, I s → stop s = false → I (g s) ∧ meas (g s) < meas s) : ∀ (n : Nat) (s : S), meas s ≤ n → I s → I (runF g stop n s) ∧ stop (runF g stop n s) = true ∨ (I (runF g stop n s) ∧ n = 0 ∧ meas s = 0)
  | 0, s, hm, hi => .inr ⟨hi, rfl, by omega⟩
  | n + 1, s, hm, hi => by
    unfold runF
    by_cases hs : stop s = true
    · rw [if_pos hs]
      exact .inl ⟨hi, hs⟩
    · rw [if_neg hs]
      obtain ⟨h1, h2⟩ := h s hi (by simpa using hs)
      rcases runF_inv h n (g s) (by omega) h1 with q | ⟨q1, q2, q3⟩
      · exact .inl q
      · by_cases hs2 : stop (g s) = true
        · subst q2
          exact .inl ⟨q1, hs2⟩
        · have := (h (g s) h1 (by simpa using hs2)).2
          omega
/-- .. with one step in hand -/
theorem runF_end {S : Type} {g : S → S} {stop : S → Bool} {I : S → Prop} {meas : S → Nat} (h : ∀ s, I s → stop s = false → I (g s) ∧ meas (g s) < meas s) {n : Nat} {s : S} (hm : meas s < n) (hi : I s) : I (runF g stop n s) ∧ stop (runF g stop n s) = true := by
  rcases runF_inv h n s (by omega) hi with q | ⟨_, q, _⟩
  · exact q
  · omega
end K84
open PySem PySem.Spec L2 in
theorem Wh.run {S : Type} {X : Cx} {T : WX} {c : Expr} {body : List Stmt} (δ : S → Slots) (μ : S → Store) (g : S → S) (stop : S → Bool) (I : S → Prop) (meas : S → Nat)
    (h1 : ∀ s, I s → stop s = true → Et X c (δ s) (μ s) false (μ s)) (h2 : ∀ s, I s → stop s = false → Et X c (δ s) (μ s) true (μ s) ∧ Xb X T body (δ s) (μ s) (.nx (δ (g s)) (μ (g s)))) (h3 : ∀ s, I s → stop s = false → I (g s) ∧ meas (g s) < meas s) :
    ∀ (n : Nat) (s : S), meas s < n → I s → Wh X T c body (δ s) (μ s) (.nx (δ (K84.runF g stop n s)) (μ (K84.runF g stop n s))) n := by
  intro n
  induction n with
  | zero => intro s hm; omega
  | succ n ih =>
    intro s hm hi
    unfold K84.runF
    by_cases hs : stop s = true
    · rw [if_pos hs]
      exact .no (h1 s hi hs)
    · rw [if_neg hs]
      have hs' : stop s = false := by simpa using hs
      obtain ⟨a, b⟩ := h2 s hi hs'
      obtain ⟨c, d⟩ := h3 s hi hs'
      exact .next a b (ih (g s) (by omega) c)
end Dt
set_option maxHeartbeats 4000000
/-! k84: the program's own defs, first part. -/
namespace Dt.K84
open PySem PySem.Spec L2 Dt
abbrev top (i : Nat) : Stmt := PySem.Challenge.pw_normalrealm_k84_ranks.main.body.getD i (.Pass ⟨0, 0, 0, 0⟩)
/-- what is known of the built-ins' names -/
structure Md (mg : Str → Option Value) : Prop where
  isi : mg "isinstance" = none
  int : mg "int" = none
  bool : mg "bool" = none
  tuple : mg "tuple" = none
  list : mg "list" = none
  all : mg "all" = none
  len : mg "len" = none
  range : mg "range" = none
  sorted : mg "sorted" = none
  enumerate : mg "enumerate" = none
  abs : mg "abs" = none
  max : mg "max" = none
  repr : mg "repr" = none
  verr : mg "ValueError" = none
  sum : mg "sum" = none
  any : mg "any" = none
  min : mg "min" = none
section
variable {P : Program} {w : World} {K : PySem.W.Frag} {mg : Str → Option Value} {base : Heap} {f : Addr} {fd : FuncData}
def isIntD : D → Bool
  | .int _ => true
  | _ => false
def P_is_integer : Pr := fun dvs μ o => ∃ d t, dvs = [.dat d] ∧ tyOf d = some t ∧ o = .ret (.b (isIntD d)) μ
theorem w_is_integer (M : Md mg) (F : Fun K "is_integer" "is_integer" (top 6) f fd) : FnOk P w K mg base (L2N.CX P w) 1 f fd ["value"] (spD K 1 P_is_integer) :=
  fn_D (N := ["value"]) (ps := ["value"]) F ⟨rfl, rfl, rfl, by decide, rfl, by decide, by decide⟩ fun cdv A outer s H E hr tk hp dvs μ o hl hP => by
    obtain ⟨d, t, rfl, ht, rfl⟩ := hP
    have body : ∀ (b1 b2 : Bool), kitB t "int" = some b1 → (b1 = true → kitB t "bool" = some b2) → isIntD d = (b1 && !b2) →
      Bd (cxOf (L2N.CX P w) P w K mg base ["value"] "is_integer" (defScope (top 6)) f cdv A outer s H E) (fun cls d _ H => E cls d H) (defBody (top 6)) (startD 1 [.dat d]) μ (.ret (.b (isIntD d)) μ) := by
      intro b1 b2 h1 h2 h3
      rw [h3]
      exact .ret (.one (.ret (.and (.blt M.isi (.cons (.var 0 rfl) (.cons (.ty M.int) .nil)) (CallS.isi ht h1)) fun h => .last (.not (.blt M.isi (.cons (.var 0 rfl) (.cons (.ty M.bool) .nil)) (CallS.isi ht (h2 h)))))))
    cases d <;> cases ht <;> first
      | exact body true false rfl (fun _ => rfl) rfl
      | exact body true true rfl (fun _ => rfl) rfl
      | exact body false true rfl (fun h => nomatch h) rfl
def isNumD : D → Bool
  | .int i => decide (0 ≤ i)
  | _ => false
def P_is_number : Pr := fun dvs μ o => ∃ d t, dvs = [.dat d] ∧ tyOf d = some t ∧ o = .ret (.b (isNumD d)) μ
theorem w_is_number (d1 : Df P w K mg base "is_integer" 1 1 P_is_integer) (F : Fun K "is_number" "is_number" (top 7) f fd) : FnOk P w K mg base (L2N.CX P w) 2 f fd ["value"] (spD K 1 P_is_number) :=
  fn_D (N := ["value"]) (ps := ["value"]) F ⟨rfl, rfl, rfl, by decide, rfl, by decide, by decide⟩ fun cdv A outer s H E hr tk hp dvs μ o hl hP => by
    obtain ⟨d, t, rfl, ht, rfl⟩ := hP
    by_cases hi : isIntD d = true
    · obtain ⟨i, rfl⟩ : ∃ i, d = .int i := by cases d <;> first | exact ⟨_, rfl⟩ | cases hi
      exact Bd.ret (.one (.ret (.andT (.call d1 hr (.cons (.var 0 rfl) .nil) ⟨_, t, rfl, ht, rfl⟩) (.last (.cmp (.var 0 rfl) .int .ge)))))
    · have e1 : isIntD d = false := by simpa using hi
      have e2 : isNumD d = false := by cases d <;> first | rfl | exact absurd rfl hi
      rw [e2]
      exact Bd.ret (.one (.ret (.andF (.call d1 hr (.cons (.var 0 rfl) .nil) ⟨_, t, rfl, ht, by rw [e1]⟩))))
/-- items that may be asked after their type -/
def okT (d : D) : Bool := (tyOf d).isSome
theorem okT_at {d : D} (h : okT d = true) : ∃ t, tyOf d = some t := Option.isSome_iff_exists.mp h
def ltD (n : Int) : D → Bool
  | .int i => decide (i < n)
  | _ => false
def isWordD (n : Int) : D → Bool
  | .tup ds => ds.all fun x => isNumD x && ltD n x
  | _ => false
def okW : D → Bool
  | .tup ds => ds.all okT && decide (ds.length < 64)
  | d => okT d
def P_is_word : Pr := fun dvs μ o => ∃ d n, dvs = [.dat d, .i n] ∧ okW d = true ∧ o = .ret (.b (isWordD n d)) μ
theorem w_is_word (M : Md mg) (d1 : Df P w K mg base "is_number" 2 1 P_is_number) (F : Fun K "is_word" "is_word" (top 9) f fd) : FnOk P w K mg base (L2N.CX P w) 3 f fd ["value", "letters"] (spD K 2 P_is_word) :=
  fn_D (N := ["value", "letters", "letter"]) (ps := ["value", "letters"]) F ⟨rfl, rfl, rfl, by decide, rfl, by decide, by decide⟩ fun cdv A outer s H E hr tk hp dvs μ o hl hP => by
    obtain ⟨d, n, rfl, hw, rfl⟩ := hP
    obtain ⟨t, ht⟩ : ∃ t, tyOf d = some t := by cases d <;> first | exact okT_at hw | exact ⟨_, rfl⟩
    by_cases htu : ∃ ds, d = .tup ds
    · obtain ⟨ds, rfl⟩ := htu
      have hw' := Bool.and_eq_true_iff.mp (show (ds.all okT && decide (ds.length < 64)) = true from hw)
      have hlen : ds.length < 64 := of_decide_eq_true hw'.2
      refine Bd.ret (.cons (.ifF (.notF (.val (.blt M.isi (.cons (.var 0 rfl) (.cons (.ty M.tuple) .nil)) (CallS.isi ht (by cases ht; rfl))))) .nil) ?_)
      have e : (ds.map fun x => D.bl (isNumD x && ltD n x)) = (ds.map fun x => isNumD x && ltD n x).map D.bl := by rw [List.map_map]; rfl
      have ea : isWordD n (.tup ds) = (ds.map fun x => isNumD x && ltD n x).all id := by rw [List.all_map]; rfl
      rw [ea]
      refine .one (.ret (.blt M.all (.cons (.lcTm 2 (fun x => D.bl (isNumD x && ltD n x)) (.var 0 rfl) (fun x hx s H0 cl C fp => ?_) (by omega)) .nil) (by rw [e]; exact CallS.all rfl)))
      obtain ⟨t', ht'⟩ := okT_at (List.all_eq_true.mp hw'.1 x hx)
      by_cases hn : isNumD x = true
      · obtain ⟨i, rfl⟩ : ∃ i, x = .int i := by cases x <;> first | exact ⟨_, rfl⟩ | cases hn
        show Ev _ _ _ _ (.b (isNumD (.int i) && ltD n (.int i))) _
        rw [hn]
        exact .andT (.call d1 hr (.cons (.var 2 rfl) .nil) ⟨_, t', rfl, ht', by rw [hn]⟩) (.last (.cmp (.var 2 rfl) (.var 1 rfl) .lt))
      · have e1 : isNumD x = false := by simpa using hn
        show Ev _ _ _ _ (.b (isNumD x && ltD n x)) _
        rw [e1]
        exact .andF (.call d1 hr (.cons (.var 2 rfl) .nil) ⟨_, t', rfl, ht', by rw [e1]⟩)
    · have e : isWordD n d = false := by cases d <;> first | rfl | exact absurd ⟨_, rfl⟩ htu
      have k : kitB t "tuple" = some false := by cases d <;> cases ht <;> first | rfl | exact absurd ⟨_, rfl⟩ htu
      rw [e]
      exact Bd.ret (.stop (.ifT (.notT (.val (.blt M.isi (.cons (.var 0 rfl) (.cons (.ty M.tuple) .nil)) (CallS.isi ht k)))) (.one (.ret .bl))))
theorem okW_ty {d : D} (h : okW d = true) : ∃ t, tyOf d = some t := by cases d <;> first | exact okT_at h | exact ⟨_, rfl⟩
/-- the exception classes -/
structure Xc (P : Program) (w : World) (K : PySem.W.Frag) (mg : Str → Option Value) (base : Heap) (cNum cWord : Addr) : Prop where
  num : ExC P w K mg base "InvalidNumber" cNum "value"
  word : ExC P w K mg base "InvalidWord" cWord "value"
variable {cNum cWord cM : Addr}
def P_check_word (c : Addr) : Pr := fun dvs μ o => ∃ d n, dvs = [.dat d, .i n] ∧ okW d = true ∧ o = if isWordD n d = true then .ret .n μ else .exc c [("value", .dat d)] μ
theorem w_check_word (E0 : Xc P w K mg base cNum cWord) (d1 : Df P w K mg base "is_word" 3 2 P_is_word) (F : Fun K "check_word" "check_word" (top 10) f fd) : FnOk P w K mg base (L2N.CX P w) 4 f fd ["word", "letters"] (spD K 2 (P_check_word cWord)) :=
  fn_D (N := ["word", "letters"]) (ps := ["word", "letters"]) F ⟨rfl, rfl, rfl, by decide, rfl, by decide, by decide⟩ fun cdv A outer s H E hr tk hp dvs μ o hl hP => by
    obtain ⟨d, n, rfl, hw, rfl⟩ := hP
    by_cases h : isWordD n d = true
    · rw [if_pos h]
      exact Bd.non (.one (.ifF (.notF (.val (.call d1 hr (.cons (.var 0 rfl) (.cons (.var 1 rfl) .nil)) ⟨_, _, rfl, hw, by rw [h]⟩))) .nil))
    · rw [if_neg h]
      have h' : isWordD n d = false := by simpa using h
      exact Bd.exc (.one (.ifT (.notT (.val (.call d1 hr (.cons (.var 0 rfl) (.cons (.var 1 rfl) .nil)) ⟨_, _, rfl, hw, by rw [h']⟩))) (.one (.raise tk rfl E0.word (hr.mono (by decide)) (.var 0 rfl)))))
/-! ### machines -/
def P_is_sequence : Pr := fun dvs μ o => ∃ dv t r, dvs = [dv] ∧ TyS μ dv t ∧ kitsB t ["list", "tuple"] = some r ∧ o = .ret (.b r) μ
theorem isiS {X : Cx} {δ : Slots} {μ μ1 μ2 : Store} {e : Expr} {es : List Expr} {dv : DV} {p pos tp : Pos} {us : List String} {t : String} {r : Bool} {x1} (hm : X.mg "isinstance" = none) (ha : Ev X e δ μ dv μ1) (hb : Ea X es δ μ1 (us.map fun u => .dat (.ty u)) μ2) (ht : TyS μ2 dv t) (hk : kitsB t us = some r) (hl : us.length ≤ 1000 := by exact Nat.le_of_ble_eq_true rfl) (hg : Gl X "isinstance" := by rfl)
    (he : starEach [e, .Tuple es x1 tp] X.env = (false, eval e X.env) :: starEach [.Tuple es x1 tp] X.env := by rfl) (he2 : starEach [.Tuple es x1 tp] X.env = (false, eval (.Tuple es x1 tp) X.env) :: starEach [] X.env := by rfl) (hpl : (backTo pos (starEach [.Tuple es x1 tp] X.env)).any (·.1) = false := by rfl) :
    Ev X (.Call (.Name "isinstance" p) [e, .Tuple es x1 tp] [] pos) δ μ (.b r) μ2 := fun W H σ Q A q => by
  refine semE_of (pe_callB call_isiT hg hm (by first | rfl | decide +kernel) (pa_cons semE_pe (pa_cons (pe_tup hb.pa) pa_nil he2) he) (by decide) (by decide) he hpl) (ha W H σ _ A fun W1 H1 v g1 A1 r1 => hb.ev W1 H1 σ _ A1 fun W2 H2 vs g2 A2 r2 => ⟨by rw [← r2.len, List.length_map, sizeLine_eq]; omega, fun q' hq' => ?_⟩)
  obtain ⟨g, s⟩ := go_newG (o := .tup vs) A2.st hq'
  have e1 : (us.map fun u => DV.dat (.ty u)) = (us.map D.ty).map DV.dat := by rw [List.map_map]; rfl
  rw [e1] at r2
  have r1' := r1.mono (g2.trans g).le
  exact ⟨v, q', vs, _, _, r, rfl, upd_same, DqA.tys (DqA.of r2), ht.tyx s r1', kits_ok hk, q _ _ _ ((g1.trans g2).trans g) (A2.le g s) (Dq.bl r)⟩
theorem w_is_sequence (M : Md mg) (F : Fun K "is_sequence" "is_sequence" (top 8) f fd) : FnOk P w K mg base (L2N.CX P w) 1 f fd ["value"] (spD K 1 P_is_sequence) :=
  fn_D (N := ["value"]) (ps := ["value"]) F ⟨rfl, rfl, rfl, by decide, rfl, by decide, by decide⟩ fun cdv A outer s H E hr tk hp dvs μ o hl hP => by
    obtain ⟨dv, t, r, rfl, ht, hk, rfl⟩ := hP
    exact .ret (.one (.ret (isiS (us := ["list", "tuple"]) M.isi (.var 0 rfl) (.cons (.ty M.list) (.cons (.ty M.tuple) .nil)) ht hk)))
def P_is_row : Pr := fun dvs μ o => ∃ (r : List (Option Nat)) (L n : Nat), dvs = [.dat (rowD r), .i (L : Int), .i (n : Int)] ∧ r.length = L ∧ L ≤ 1000 ∧ (∀ t, some t ∈ r → t < n) ∧ o = .ret (.b true) μ
theorem isNon_opt (o : Option Nat) : isNon (.dat (optD o)) = o.isNone := by cases o <;> rfl
theorem w_is_row (M : Md mg) (d1 : Df P w K mg base "is_word" 3 2 P_is_word) (F : Fun K "is_row" "is_row" (top 13) f fd) : FnOk P w K mg base (L2N.CX P w) 4 f fd ["row", "letters", "states"] (spD K 3 P_is_row) :=
  fn_D (N := ["row", "letters", "states", "entry"]) (ps := ["row", "letters", "states"]) F ⟨rfl, rfl, rfl, by decide, rfl, by decide, by decide⟩ fun cdv A outer s H E hr tk hp dvs μ o hl hP => by
    obtain ⟨r, L, n, rfl, hL, hL9, ht, rfl⟩ := hP
    refine .ret (.cons (.ifF (.w (.orF (.notF (.val (.blt M.isi (.cons (.var 0 rfl) (.cons (.ty M.tuple) .nil)) (CallS.isi rfl rfl)))) (.or1 (.to (.cmp (.blt M.len (.cons (.var 0 rfl) .nil) CallS.lenT) (.var 1 rfl) .neI) ?_)))) .nil) ?_)
    · rw [List.length_map, hL]
      simp
    · have e : (r.map fun _ => D.bl true) = (r.map fun _ => true).map D.bl := by rw [List.map_map]; rfl
      have ea : (r.map fun _ => true).all id = true := by simp
      refine .one (.ret (.to (.blt M.all (.cons (.lcTa 3 r optD (fun _ => .bl true) (.var 0 rfl) (fun x hx s H0 cl C fp => ?_) (by omega)) .nil) (by rw [e]; exact CallS.all rfl)) (by rw [ea])))
      cases x with
      | none => exact .orT (.cmp (.var 3 rfl) .non .isN)
      | some t =>
        refine .orF (.cmp (.var 3 rfl) .non .isN) (.last (.call d1 hr (.cons (.tup (ds := [.int (t : Int)]) (.cons (.var 3 rfl) .nil)) (.cons (.var 2 rfl) .nil)) ⟨_, _, rfl, rfl, ?_⟩))
        have h1 := ht t hx
        have h2 : isWordD (n : Int) (.tup [.int (t : Int)]) = true := by
          show (([D.int (t : Int)]).all fun x => isNumD x && ltD n x) = true
          simp only [List.all_cons, List.all_nil, Bool.and_true, Bool.and_eq_true]
          exact ⟨show decide ((0 : Int) ≤ (t : Int)) = true from decide_eq_true (by omega), show decide ((t : Int) < (n : Int)) = true from decide_eq_true (by omega)⟩
        rw [h2]
def P_is_bit : Pr := fun dvs μ o => ∃ n : Nat, dvs = [.i (n : Int)] ∧ n ≤ 1 ∧ o = .ret (.b true) μ
theorem w_is_bit (d1 : Df P w K mg base "is_integer" 1 1 P_is_integer) (F : Fun K "is_bit" "is_bit" (top 14) f fd) : FnOk P w K mg base (L2N.CX P w) 2 f fd ["value"] (spD K 1 P_is_bit) :=
  fn_D (N := ["value"]) (ps := ["value"]) F ⟨rfl, rfl, rfl, by decide, rfl, by decide, by decide⟩ fun cdv A outer s H E hr tk hp dvs μ o hl hP => by
    obtain ⟨n, rfl, hn, rfl⟩ := hP
    refine .ret (.one (.ret (.andT (.call d1 hr (.cons (.var 0 rfl) .nil) ⟨_, _, rfl, rfl, rfl⟩) (.last (.to (.chain .int (.var 0 rfl) .int .le .le) ?_)))))
    have h1 : decide ((0 : Int) ≤ (n : Int)) = true := decide_eq_true (by omega)
    have h2 : decide ((n : Int) ≤ 1) = true := decide_eq_true (by omega)
    rw [h1, h2]
    rfl
def rowsV (m : Mc) : List D := m.rows.map rowD
def endsV (m : Mc) : List D := m.ends.map natD
def P_check_machine : Pr := fun dvs μ o => ∃ (m : Mc) (kt ke : Nat), VM m ∧ dvs = [.i (m.L : Int), .own kt, .own ke] ∧ μ[kt]? = some (.lst ((rowsV m).map DV.dat)) ∧ μ[ke]? = some (.lst ((endsV m).map DV.dat)) ∧ o = .ret .n μ
theorem enD_mem {ds : List D} {x : DV} (h : x ∈ enD ds) : ∃ (i : Nat) (d : D), ds[i]? = some d ∧ x = .dat (.tup [.int (i : Int), d]) := by
  obtain ⟨i, hi⟩ := List.getElem?_of_mem h
  unfold enD at hi
  rw [List.getElem?_mapIdx] at hi
  obtain ⟨d, h1, h2⟩ := Option.map_eq_some_iff.mp hi
  rw [Nat.zero_add] at h2
  exact ⟨i, d, h1, h2.symm⟩
/-- a loop whose turns leave all as it is, the loop's names forgotten before each -/
theorem It1.stay {R : DV → Slots → Store → Out → Prop} {δ : Slots} {μ : Store} : ∀ {xs : List DV}, (∀ x ∈ xs, R x δ μ (.nx δ μ)) → It1 R xs δ μ (.nx δ μ)
  | [], _ => .nil
  | x :: xs, h => .next (h x List.mem_cons_self) (It1.stay fun y hy => h y (List.mem_cons_of_mem _ hy))
theorem w_check_machine (M : Md mg) {tk48 : Tok} (hM : mg "MOST_LETTERS" = some (.int 48 tk48)) (d1 : Df P w K mg base "is_integer" 1 1 P_is_integer) (d2 : Df P w K mg base "is_sequence" 1 1 P_is_sequence) (d3 : Df P w K mg base "is_row" 4 3 P_is_row) (d4 : Df P w K mg base "is_bit" 2 1 P_is_bit)
    (F : Fun K "check_machine" "check_machine" (top 15) f fd) : FnOk P w K mg base (L2N.CX P w) 5 f fd ["letters", "table", "ends"] (spD K 3 P_check_machine) :=
  fn_D (N := ["letters", "table", "ends", "state", "row", "bit"]) (ps := ["letters", "table", "ends"]) F ⟨rfl, rfl, rfl, by decide, rfl, by decide, by decide⟩ fun cdv A outer s H E hr tk hp dvs μ o hl hP => by
    obtain ⟨m, kt, ke, V, rfl, ht, he, rfl⟩ := hP
    have lt : ((rowsV m).map DV.dat).length = m.rows.length := by rw [List.length_map]; unfold rowsV; rw [List.length_map]
    have le : ((endsV m).map DV.dat).length = m.rows.length := by rw [List.length_map]; unfold endsV; rw [List.length_map, V.el]
    refine Bd.non (μ' := μ) (δ' := [some (.i (m.L : Int)), some (.own kt), some (.own ke), none, none, none]) ?_
    refine .cons (.ifF (.w (.orF (.notF (.val (.call d1 (hr.mono (by decide)) (.cons (.var 0 rfl) .nil) ⟨_, _, rfl, rfl, rfl⟩))) (.or1 (.notF (.to (.chain .int (.var 0 rfl) (.glI hM) .le .le) ?_))))) .nil) ?_
    · have h1 : decide ((1 : Int) ≤ (m.L : Int)) = true := decide_eq_true (by have := V.L1; omega)
      have h2 : decide ((m.L : Int) ≤ 48) = true := decide_eq_true (by have := V.L48; omega)
      rw [h1, h2]
      rfl
    refine .cons (.ifF (.w (.orF (.notF (.val (.call d2 (hr.mono (by decide)) (.cons (.var 1 rfl) .nil) ⟨_, _, _, rfl, .inr ⟨_, _, rfl, ht, rfl⟩, rfl, rfl⟩))) (.or1 (.to (.cmp (.blt M.len (.cons (.var 1 rfl) .nil) (CallS.lenL (.ow ht))) .int .eqI) (decide_eq_false (by rw [lt]; have := V.n1; omega)))))) .nil) ?_
    refine .cons (δ1 := [some (.i (m.L : Int)), some (.own kt), some (.own ke), none, none, none]) (μ1 := μ) (.forEO (ds := rowsV m) rfl (nod_of rfl) hp M.enumerate 3 4 (.var 1 rfl) (It1.stay fun x hx => ?_) (fun δ' μf e => by cases e; exact ht)) ?_
    · obtain ⟨i, d, hd, rfl⟩ := enD_mem hx
      unfold rowsV at hd
      rw [List.getElem?_map] at hd
      obtain ⟨r, hr', rfl⟩ := Option.map_eq_some_iff.mp hd
      have hmem := List.mem_of_getElem? hr'
      refine ⟨ht, _, _, rfl, .wk (δ1 := [some (.i (m.L : Int)), some (.own kt), some (.own ke), some (.i (i : Int)), some (.dat (rowD r)), none]) (.one (.ifF (.notF (.val (.call d3 hr (.cons (.var 4 rfl) (.cons (.var 0 rfl) (.cons (.blt M.len (.cons (.var 1 rfl) .nil) (CallS.lenL (.ow ht))) .nil))) ⟨r, m.L, m.rows.length, by rw [lt], V.len r hmem, by have := V.L48; omega, V.tg r hmem, rfl⟩))) .nil))⟩
    refine .cons (.ifF (.notF (.val (.call d2 (hr.mono (by decide)) (.cons (.var 2 rfl) .nil) ⟨_, _, _, rfl, .inr ⟨_, _, rfl, he, rfl⟩, rfl, rfl⟩))) .nil) ?_
    refine .cons (δ1 := [some (.i (m.L : Int)), some (.own kt), some (.own ke), none, none, none]) (μ1 := μ) (.forEO (ds := endsV m) rfl (nod_of rfl) hp M.enumerate 3 5 (.var 2 rfl) (It1.stay fun x hx => ?_) (fun δ' μf e => by cases e; exact he)) ?_
    · obtain ⟨i, d, hd, rfl⟩ := enD_mem hx
      unfold endsV at hd
      rw [List.getElem?_map] at hd
      obtain ⟨b, hb, rfl⟩ := Option.map_eq_some_iff.mp hd
      have hlt : i < m.ends.length := (List.getElem?_eq_some_iff.mp hb).1
      refine ⟨he, _, _, rfl, .wk (δ1 := [some (.i (m.L : Int)), some (.own kt), some (.own ke), some (.i (i : Int)), none, some (.dat (natD b))]) (.one (.ifF (.w (.orF (.to (.cmp (.var 3 rfl) (.blt M.len (.cons (.var 1 rfl) .nil) (CallS.lenL (.ow ht))) .ge) (decide_eq_false (by rw [lt]; have := V.el; omega))) (.or1 (.notF (.val (.call d4 (hr.mono (by decide)) (.cons (.var 5 rfl) .nil) ⟨b, rfl, V.e1 b (List.mem_of_getElem? hb), rfl⟩)))))) .nil))⟩
    exact .one (.ifF (.to (.cmp (.blt M.len (.cons (.var 2 rfl) .nil) (CallS.lenL (.ow he))) (.blt M.len (.cons (.var 1 rfl) .nil) (CallS.lenL (.ow ht))) .lt) (decide_eq_false (by rw [lt, le]; omega))) .nil)
end
end Dt.K84
set_option maxHeartbeats 4000000
/-! k84, plain: what is reached; live states. -/
namespace Dt.K84
def addT (s : List Nat × List Nat) (o : Option Nat) : List Nat × List Nat := match o with
  | none => s
  | some t => if t ∈ s.1 then s else (s.1 ++ [t], s.2 ++ [t])
def clG (succ : Nat → List (Option Nat)) (s : List Nat × List Nat) : List Nat × List Nat := (succ (s.2.getLast?.getD 0)).foldl addT (s.1, s.2.dropLast)
def clStop (s : List Nat × List Nat) : Bool := s.2.isEmpty
def clOf (succ : Nat → List (Option Nat)) (N : Nat) (init : List Nat) : List Nat × List Nat := runF (clG succ) clStop (2 * N + 2) (init, init)
/-- nodup lists of numbers below N -/
theorem nodup_le : ∀ {N : Nat} {l : List Nat}, l.Nodup → (∀ x ∈ l, x < N) → l.length ≤ N
  | 0, l, _, h => by
    cases l with
    | nil => exact Nat.le_refl _
    | cons x l => exact absurd (h x List.mem_cons_self) (Nat.not_lt_zero _)
  | N + 1, l, hn, h => by
    by_cases hm : N ∈ l
    · have h1 := nodup_le (N := N) (hn.erase N) fun x hx => by
        have h2 := h x (List.mem_of_mem_erase hx)
        have h3 : x ≠ N := fun e => by
          subst e
          exact (List.Nodup.not_mem_erase hn) hx
        omega
      have := List.length_erase_of_mem hm
      omega
    · have := nodup_le (N := N) hn fun x hx => by
        have h2 := h x hx
        have h3 : x ≠ N := fun e => hm (e ▸ hx)
        omega
      omega
structure ClI (N : Nat) (s : List Nat × List Nat) : Prop where
  nd : s.1.Nodup
  lt : ∀ x ∈ s.1, x < N
  wl : ∀ x ∈ s.2, x ∈ s.1
  wle : s.2.length ≤ s.1.length
def clM (N : Nat) (s : List Nat × List Nat) : Nat := 2 * (N - s.1.length) + s.2.length
theorem addT_step {N : Nat} {s : List Nat × List Nat} {o : Option Nat} (h : ClI N s) (ho : ∀ t, o = some t → t < N) : ClI N (addT s o) ∧ clM N (addT s o) ≤ clM N s := by
  cases o with
  | none => exact ⟨h, Nat.le_refl _⟩
  | some t =>
    unfold addT
    by_cases ht : t ∈ s.1
    · simp only [if_pos ht]
      exact ⟨h, Nat.le_refl _⟩
    · simp only [if_neg ht]
      have hI : ClI N (s.1 ++ [t], s.2 ++ [t]) := by
        refine ⟨?_, fun x hx => ?_, fun x hx => ?_, ?_⟩
        · show (s.1 ++ [t]).Nodup
          rw [List.nodup_append]
          exact ⟨h.nd, by simp, fun a ha b hb e => by
            have : b = t := by simpa using hb
            subst this
            subst e
            exact ht ha⟩
        · rcases List.mem_append.mp hx with hx | hx
          · exact h.lt x hx
          · have : x = t := by simpa using hx
            subst this
            exact ho _ rfl
        · rcases List.mem_append.mp hx with hx | hx
          · exact List.mem_append_left _ (h.wl x hx)
          · exact List.mem_append_right _ hx
        · show (s.2 ++ [t]).length ≤ (s.1 ++ [t]).length
          have := h.wle
          simp only [List.length_append, List.length_singleton]
          omega
      refine ⟨hI, ?_⟩
      have h1 := nodup_le hI.nd hI.lt
      unfold clM
      simp only [List.length_append, List.length_singleton] at *
      omega
theorem fold_step {N : Nat} : ∀ {os : List (Option Nat)} {s : List Nat × List Nat}, ClI N s → (∀ t, some t ∈ os → t < N) → ClI N (os.foldl addT s) ∧ clM N (os.foldl addT s) ≤ clM N s
  | [], s, h, _ => ⟨h, Nat.le_refl _⟩
  | o :: os, s, h, ho => by
    obtain ⟨h1, h2⟩ := addT_step h (o := o) fun t e => ho t (by rw [e]; exact List.mem_cons_self)
    obtain ⟨h3, h4⟩ := fold_step (os := os) h1 fun t ht => ho t (List.mem_cons_of_mem _ ht)
    exact ⟨h3, Nat.le_trans h4 h2⟩
theorem last_mem {l : List Nat} (h : l ≠ []) : l.getLast?.getD 0 ∈ l := by
  rw [List.getLast?_eq_some_getLast h]
  exact List.getLast_mem h
theorem cl_step {N : Nat} {succ : Nat → List (Option Nat)} (hs : ∀ s t, some t ∈ succ s → t < N) {s : List Nat × List Nat} (h : ClI N s) (hn : clStop s = false) : ClI N (clG succ s) ∧ clM N (clG succ s) < clM N s := by
  have hne : s.2 ≠ [] := fun e => by
    unfold clStop at hn
    rw [e] at hn
    cases hn
  have h0 : ClI N (s.1, s.2.dropLast) := ⟨h.nd, h.lt, fun x hx => h.wl x (List.dropLast_subset _ hx), by have := h.wle; show s.2.dropLast.length ≤ s.1.length; rw [List.length_dropLast]; omega⟩
  obtain ⟨h1, h2⟩ := fold_step (os := succ (s.2.getLast?.getD 0)) h0 fun t ht => hs _ t ht
  refine ⟨h1, Nat.lt_of_le_of_lt h2 ?_⟩
  unfold clM
  have : 0 < s.2.length := List.length_pos_iff.mpr hne
  simp only [List.length_dropLast]
  omega
section
variable {N : Nat} {succ : Nat → List (Option Nat)} {init : List Nat}
theorem cl_end (hs : ∀ s t, some t ∈ succ s → t < N) (hn : init.Nodup) (hi : ∀ x ∈ init, x < N) : ClI N (clOf succ N init) ∧ clStop (clOf succ N init) = true := by
  refine runF_end (meas := clM N) (fun s h q => cl_step hs h q) ?_ ⟨hn, hi, fun x hx => hx, Nat.le_refl _⟩
  have := nodup_le hn hi
  unfold clM
  show 2 * (N - init.length) + init.length < 2 * N + 2
  omega
/-- E: one step -/
def Stp (succ : Nat → List (Option Nat)) (s t : Nat) : Prop := some t ∈ succ s
inductive Rch (succ : Nat → List (Option Nat)) : Nat → Nat → Prop
  | refl (s : Nat) : Rch succ s s
  | tail {s t u : Nat} : Rch succ s t → some u ∈ succ t → Rch succ s u
structure ClJ (succ : Nat → List (Option Nat)) (init : List Nat) (s : List Nat × List Nat) : Prop where
  ini : ∀ x ∈ init, x ∈ s.1
  rch : ∀ x ∈ s.1, ∃ i ∈ init, Rch succ i x
  cl : ∀ x ∈ s.1, x ∈ s.2 ∨ ∀ t, some t ∈ succ x → t ∈ s.1
theorem addT_mem {s : List Nat × List Nat} {o : Option Nat} {x : Nat} : x ∈ (addT s o).1 ↔ x ∈ s.1 ∨ o = some x := by
  cases o with
  | none => simp [addT]
  | some t =>
    unfold addT
    by_cases ht : t ∈ s.1
    · simp only [if_pos ht]
      constructor
      · exact .inl
      · rintro (h | h)
        · exact h
        · cases h; exact ht
    · simp only [if_neg ht]
      rw [List.mem_append]
      constructor
      · rintro (h | h)
        · exact .inl h
        · have : x = t := by simpa using h
          exact .inr (by rw [this])
      · rintro (h | h)
        · exact .inl h
        · cases h; exact .inr (by simp)
theorem addT_w {s : List Nat × List Nat} {o : Option Nat} {x : Nat} : x ∈ (addT s o).2 ↔ x ∈ s.2 ∨ (o = some x ∧ x ∉ s.1) := by
  cases o with
  | none => simp [addT]
  | some t =>
    unfold addT
    by_cases ht : t ∈ s.1
    · simp only [if_pos ht]
      constructor
      · exact .inl
      · rintro (h | ⟨h, h'⟩)
        · exact h
        · cases h; exact absurd ht h'
    · simp only [if_neg ht]
      rw [List.mem_append]
      constructor
      · rintro (h | h)
        · exact .inl h
        · have : x = t := by simpa using h
          subst this
          exact .inr ⟨rfl, ht⟩
      · rintro (h | ⟨h, _⟩)
        · exact .inl h
        · cases h; exact .inr (by simp)
theorem foldT_mem : ∀ {os : List (Option Nat)} {s : List Nat × List Nat} {x : Nat}, x ∈ (os.foldl addT s).1 ↔ x ∈ s.1 ∨ some x ∈ os
  | [], s, x => by simp
  | o :: os, s, x => by
    rw [List.foldl_cons, foldT_mem, addT_mem, List.mem_cons]
    constructor
    · rintro ((h | h) | h)
      · exact .inl h
      · exact .inr (.inl h.symm)
      · exact .inr (.inr h)
    · rintro (h | h | h)
      · exact .inl (.inl h)
      · exact .inl (.inr h.symm)
      · exact .inr h
theorem foldT_w : ∀ {os : List (Option Nat)} {s : List Nat × List Nat} {x : Nat}, x ∈ (os.foldl addT s).1 → x ∈ s.1 ∨ x ∈ (os.foldl addT s).2
  | [], s, x => fun h => .inl h
  | o :: os, s, x => fun h => by
    rw [List.foldl_cons] at h ⊢
    rcases foldT_w h with h1 | h1
    · rcases addT_mem.mp h1 with h2 | h2
      · exact .inl h2
      · by_cases hx : x ∈ s.1
        · exact .inl hx
        · right
          have : ∀ {os : List (Option Nat)} {s : List Nat × List Nat}, x ∈ s.2 → x ∈ (os.foldl addT s).2 := by
            intro os
            induction os with
            | nil => intro s h; exact h
            | cons o os ih => intro s h; exact ih (addT_w.mpr (.inl h))
          exact this (addT_w.mpr (.inr ⟨h2, hx⟩))
    · exact .inr h1
theorem foldT_keep {x : Nat} : ∀ {os : List (Option Nat)} {s : List Nat × List Nat}, x ∈ s.2 → x ∈ (os.foldl addT s).2
  | [], s, h => h
  | o :: os, s, h => foldT_keep (os := os) (addT_w.mpr (.inl h))
theorem mem_drop_last {l : List Nat} {x : Nat} (h : x ∈ l) : x ∈ l.dropLast ∨ x = l.getLast?.getD 0 := by
  have hne : l ≠ [] := fun e => by rw [e] at h; cases h
  have e := List.dropLast_concat_getLast hne
  rw [← e, List.mem_append] at h
  rcases h with h | h
  · exact .inl h
  · right
    rw [List.getLast?_eq_some_getLast hne]
    simpa using h
theorem clJ_step {s : List Nat × List Nat} (hI : ∀ x ∈ s.2, x ∈ s.1) (h : ClJ succ init s) (hn : clStop s = false) : ClJ succ init (clG succ s) := by
  have hne : s.2 ≠ [] := fun e => by
    unfold clStop at hn
    rw [e] at hn
    cases hn
  unfold clG
  refine ⟨fun x hx => foldT_mem.mpr (.inl (h.ini x hx)), fun x hx => ?_, fun x hx => ?_⟩
  · rcases foldT_mem.mp hx with h1 | h1
    · exact h.rch x h1
    · obtain ⟨i, hi, r⟩ := h.rch _ (hI _ (last_mem hne))
      exact ⟨i, hi, .tail r h1⟩
  · rcases foldT_w hx with h1 | h1
    · rcases h.cl x h1 with h2 | h2
      · rcases mem_drop_last h2 with h3 | h3
        · exact .inl (foldT_keep h3)
        · right
          intro t ht
          rw [h3] at ht
          exact foldT_mem.mpr (.inr ht)
      · exact .inr fun t ht => foldT_mem.mpr (.inl (h2 t ht))
    · exact .inl h1
theorem cl_J (hs : ∀ s t, some t ∈ succ s → t < N) (hn : init.Nodup) (hi : ∀ x ∈ init, x < N) : ClJ succ init (clOf succ N init) := by
  have h := runF_end (I := fun s => ClI N s ∧ ClJ succ init s) (meas := clM N) (g := clG succ) (stop := clStop) (n := 2 * N + 2) (s := (init, init)) (fun s h q => ⟨⟨(cl_step hs h.1 q).1, clJ_step h.1.wl h.2 q⟩, (cl_step hs h.1 q).2⟩)
    (by have := nodup_le hn hi; unfold clM; show 2 * (N - init.length) + init.length < 2 * N + 2; omega)
    ⟨⟨hn, hi, fun x hx => hx, Nat.le_refl _⟩, ⟨fun x hx => hx, fun x hx => ⟨x, hx, .refl x⟩, fun x hx => .inl hx⟩⟩
  exact h.1.2
/-- what is found: what is reached -/
theorem cl_iff (hs : ∀ s t, some t ∈ succ s → t < N) (hn : init.Nodup) (hi : ∀ x ∈ init, x < N) {x : Nat} : x ∈ (clOf succ N init).1 ↔ ∃ i ∈ init, Rch succ i x := by
  have J := cl_J hs hn hi
  have hstop := (cl_end hs hn hi).2
  have e2 : (clOf succ N init).2 = [] := by
    unfold clStop at hstop
    simpa using hstop
  constructor
  · exact J.rch x
  · rintro ⟨i, h, r⟩
    induction r with
    | refl => exact J.ini _ h
    | tail _ hu ih =>
      rcases J.cl _ ih with q | q
      · rw [e2] at q; cases q
      · exact q _ hu
end
def metOf (m : Mc) : List Nat := (clOf m.row m.rows.length [0]).1
/-- who leads to each state -/
def addS (src : List (List Nat)) (s : Nat) (o : Option Nat) : List (List Nat) := match o with
  | none => src
  | some t => src.set t (src.getD t [] ++ [s])
def srcRow (src : List (List Nat)) (q : Nat × List (Option Nat)) : List (List Nat) := q.2.foldl (fun a o => addS a q.1 o) src
def srcOf (m : Mc) : List (List Nat) := (m.rows.mapIdx fun i r => (i, r)).foldl srcRow (List.replicate m.rows.length [])
def srcS (m : Mc) (t : Nat) : List (Option Nat) := ((srcOf m).getD t []).map some
def ini1 (m : Mc) : List Nat := (List.range m.rows.length).filter fun s => m.ed s == 1
def endOf (m : Mc) : List Nat := (clOf (srcS m) m.rows.length (ini1 m)).1
def liveOf (m : Mc) : List Nat := (List.range m.rows.length).filter fun s => decide (s ∈ metOf m) && decide (s ∈ endOf m)
theorem addS_len (src : List (List Nat)) (s : Nat) (o : Option Nat) : (addS src s o).length = src.length := by
  cases o with
  | none => rfl
  | some t => exact List.length_set
theorem getD_set {α : Type} {l : List α} {t i : Nat} {x d : α} (h : t < l.length) : (l.set t x).getD i d = if i = t then x else l.getD i d := by
  rw [List.getD_eq_getElem?_getD, List.getD_eq_getElem?_getD]
  by_cases e : i = t
  · subst e
    rw [List.getElem?_set_self h, if_pos rfl]
    rfl
  · rw [List.getElem?_set_ne (fun q => e q.symm), if_neg e]
theorem addS_mem {src : List (List Nat)} {s i x : Nat} {o : Option Nat} (ho : ∀ t, o = some t → t < src.length) : x ∈ (addS src s o).getD i [] ↔ x ∈ src.getD i [] ∨ (o = some i ∧ x = s) := by
  cases o with
  | none => simp [addS]
  | some t =>
    unfold addS
    simp only
    rw [getD_set (ho t rfl)]
    by_cases e : i = t
    · subst e
      rw [if_pos rfl, List.mem_append]
      simp
    · rw [if_neg e]
      constructor
      · exact .inl
      · rintro (h | ⟨h, _⟩)
        · exact h
        · cases h; exact absurd rfl e
theorem foldS_len {s : Nat} : ∀ {os : List (Option Nat)} {src : List (List Nat)}, (os.foldl (fun a o => addS a s o) src).length = src.length
  | [], src => rfl
  | o :: os, src => by rw [List.foldl_cons, foldS_len, addS_len]
theorem foldS_mem {s i x : Nat} : ∀ {os : List (Option Nat)} {src : List (List Nat)}, (∀ t, some t ∈ os → t < src.length) → (x ∈ (os.foldl (fun a o => addS a s o) src).getD i [] ↔ x ∈ src.getD i [] ∨ (some i ∈ os ∧ x = s))
  | [], src, _ => by simp
  | o :: os, src, h => by
    rw [List.foldl_cons, foldS_mem (os := os) (fun t ht => by rw [addS_len]; exact h t (List.mem_cons_of_mem _ ht)), addS_mem (fun t e => h t (by rw [e]; exact List.mem_cons_self)), List.mem_cons]
    constructor
    · rintro ((h | ⟨h1, h2⟩) | ⟨h1, h2⟩)
      · exact .inl h
      · exact .inr ⟨.inl h1.symm, h2⟩
      · exact .inr ⟨.inr h1, h2⟩
    · rintro (h | ⟨h1 | h1, h2⟩)
      · exact .inl (.inl h)
      · exact .inl (.inr ⟨h1.symm, h2⟩)
      · exact .inr ⟨h1, h2⟩
theorem srcAll_len : ∀ {qs : List (Nat × List (Option Nat))} {src : List (List Nat)}, (qs.foldl srcRow src).length = src.length
  | [], src => rfl
  | q :: qs, src => by
    rw [List.foldl_cons, srcAll_len]
    exact foldS_len
theorem srcAll_mem {i x : Nat} : ∀ {qs : List (Nat × List (Option Nat))} {src : List (List Nat)}, (∀ q ∈ qs, ∀ t, some t ∈ q.2 → t < src.length) → (x ∈ (qs.foldl srcRow src).getD i [] ↔ x ∈ src.getD i [] ∨ ∃ q ∈ qs, some i ∈ q.2 ∧ x = q.1)
  | [], src, _ => by simp
  | q :: qs, src, h => by
    rw [List.foldl_cons, srcAll_mem (qs := qs) (fun q' hq' t ht => by
      show t < (q.2.foldl (fun a o => addS a q.1 o) src).length
      rw [foldS_len]
      exact h q' (List.mem_cons_of_mem _ hq') t ht)]
    show x ∈ (q.2.foldl (fun a o => addS a q.1 o) src).getD i [] ∨ _ ↔ _
    rw [foldS_mem (h q List.mem_cons_self)]
    constructor
    · rintro ((h1 | h1) | ⟨q', h1, h2⟩)
      · exact .inl h1
      · exact .inr ⟨q, List.mem_cons_self, h1⟩
      · exact .inr ⟨q', List.mem_cons_of_mem _ h1, h2⟩
    · rintro (h1 | ⟨q', h1, h2⟩)
      · exact .inl (.inl h1)
      · rcases List.mem_cons.mp h1 with e | e
        · subst e
          exact .inl (.inr h2)
        · exact .inr ⟨q', e, h2⟩
theorem srcOf_len (m : Mc) : (srcOf m).length = m.rows.length := by
  unfold srcOf
  rw [srcAll_len, List.length_replicate]
theorem srcOf_mem {m : Mc} (h : VM m) {s t : Nat} : s ∈ (srcOf m).getD t [] ↔ some t ∈ m.row s := by
  unfold srcOf
  rw [srcAll_mem]
  · constructor
    · rintro (h1 | ⟨q, hq, h1, h2⟩)
      · rw [List.getD_eq_getElem?_getD, List.getElem?_replicate] at h1
        split at h1 <;> cases h1
      · obtain ⟨i, hi⟩ := List.getElem?_of_mem hq
        rw [List.getElem?_mapIdx] at hi
        obtain ⟨r, hr, e⟩ := Option.map_eq_some_iff.mp hi
        subst e
        have h2' : s = i := h2
        subst h2'
        unfold Mc.row
        rw [List.getD_eq_getElem?_getD, hr]
        exact h1
    · intro h1
      right
      by_cases hs : s < m.rows.length
      · refine ⟨(s, m.row s), ?_, h1, rfl⟩
        refine List.mem_of_getElem? (i := s) ?_
        rw [List.getElem?_mapIdx, h.row_at hs]
        rfl
      · unfold Mc.row at h1
        rw [List.getD_eq_getElem?_getD, List.getElem?_eq_none (by omega)] at h1
        cases h1
  · intro q hq t ht
    rw [List.length_replicate]
    obtain ⟨i, hi⟩ := List.getElem?_of_mem hq
    rw [List.getElem?_mapIdx] at hi
    obtain ⟨r, hr, e⟩ := Option.map_eq_some_iff.mp hi
    subst e
    exact h.tg r (List.mem_of_getElem? hr) t ht
theorem srcS_mem {m : Mc} (h : VM m) {s t : Nat} : some s ∈ srcS m t ↔ some t ∈ m.row s := by
  unfold srcS
  rw [← srcOf_mem h]
  simp
theorem srcS_lt {m : Mc} (h : VM m) (s t : Nat) (ht : some t ∈ srcS m s) : t < m.rows.length := by
  have h1 := (srcS_mem h).mp ht
  by_cases hs : t < m.rows.length
  · exact hs
  · unfold Mc.row at h1
    rw [List.getD_eq_getElem?_getD, List.getElem?_eq_none (by omega)] at h1
    cases h1
theorem row_lt {m : Mc} (h : VM m) (s t : Nat) (ht : some t ∈ m.row s) : t < m.rows.length := Mc.row_tg h ht
theorem met_iff {m : Mc} (h : VM m) {x : Nat} : x ∈ metOf m ↔ Rch m.row 0 x := by
  unfold metOf
  rw [cl_iff (row_lt h) (by simp) (by simpa using Nat.lt_of_lt_of_le Nat.zero_lt_one h.n1)]
  simp
theorem ini1_nd (m : Mc) : (ini1 m).Nodup := List.Pairwise.filter _ List.nodup_range
theorem ini1_lt (m : Mc) : ∀ x ∈ ini1 m, x < m.rows.length := fun x hx => by
  have := (List.mem_filter.mp hx).1
  exact List.mem_range.mp this
theorem ini1_mem {m : Mc} {x : Nat} : x ∈ ini1 m ↔ x < m.rows.length ∧ m.ed x = 1 := by
  unfold ini1
  rw [List.mem_filter, List.mem_range]
  simp
theorem rch_trans {succ : Nat → List (Option Nat)} {a b c : Nat} (h : Rch succ a b) (h' : Rch succ b c) : Rch succ a c := by
  induction h' with
  | refl => exact h
  | tail _ q ih => exact .tail ih q
theorem rch_head {succ : Nat → List (Option Nat)} {a b c : Nat} (h : some b ∈ succ a) (h' : Rch succ b c) : Rch succ a c := rch_trans (.tail (.refl a) h) h'
theorem rch_back {m : Mc} (h : VM m) {a b : Nat} (r : Rch (srcS m) a b) : Rch m.row b a := by
  induction r with
  | refl => exact .refl _
  | tail _ q ih => exact rch_head ((srcS_mem h).mp q) ih
theorem rch_forth {m : Mc} (h : VM m) {a b : Nat} (r : Rch m.row b a) : Rch (srcS m) a b := by
  induction r with
  | refl => exact .refl _
  | tail _ q ih => exact rch_head ((srcS_mem h).mpr q) ih
theorem end_iff {m : Mc} (h : VM m) {x : Nat} : x ∈ endOf m ↔ ∃ i, i < m.rows.length ∧ m.ed i = 1 ∧ Rch m.row x i := by
  unfold endOf
  rw [cl_iff (srcS_lt h) (ini1_nd m) (ini1_lt m)]
  constructor
  · rintro ⟨i, hi, r⟩
    obtain ⟨h1, h2⟩ := ini1_mem.mp hi
    exact ⟨i, h1, h2, rch_back h r⟩
  · rintro ⟨i, h1, h2, r⟩
    exact ⟨i, ini1_mem.mpr ⟨h1, h2⟩, rch_forth h r⟩
theorem live_iff {m : Mc} {x : Nat} : x ∈ liveOf m ↔ x < m.rows.length ∧ x ∈ metOf m ∧ x ∈ endOf m := by
  unfold liveOf
  rw [List.mem_filter, List.mem_range]
  simp
theorem live_nd (m : Mc) : (liveOf m).Nodup := List.Pairwise.filter _ List.nodup_range
theorem live_len (m : Mc) : (liveOf m).length ≤ m.rows.length := by
  have := List.length_filter_le (fun s => decide (s ∈ metOf m) && decide (s ∈ endOf m)) (List.range m.rows.length)
  rw [List.length_range] at this
  exact this
end Dt.K84
set_option maxHeartbeats 4000000
/-! k84: the class Machine, walked; what is met, what ends, what lives. -/
namespace Dt.K84
open PySem PySem.Spec L2 Dt
def after (m : Mc) : List Nat → Nat → Option Nat
  | [], s => some s
  | x :: w, s => match (m.row s).getD x none with
    | none => none
    | some t => after m w t
def wordD (w : List Nat) : D := .tup (w.map natD)
def takesB (m : Mc) (w : List Nat) : Bool := match after m w 0 with
  | none => false
  | some t => m.ed t == 1
theorem after_lt {m : Mc} (h : VM m) : ∀ {w : List Nat} {s t : Nat}, s < m.rows.length → after m w s = some t → t < m.rows.length
  | [], s, t, hs, e => by cases e; exact hs
  | x :: w, s, t, hs, e => by
    unfold after at e
    split at e
    · cases e
    · rename_i u hu
      refine after_lt h (w := w) ?_ e
      have : some u ∈ m.row s := by
        rw [List.getD_eq_getElem?_getD] at hu
        by_cases hx : x < (m.row s).length
        · rw [List.getElem?_eq_getElem hx] at hu
          exact hu ▸ List.getElem_mem hx
        · rw [List.getElem?_eq_none (by omega)] at hu
          cases hu
      exact row_lt h s u this
theorem set_ne {α : Type} {l : List α} {i j : Nat} {x y : α} (h : l[j]? = some y) (n : i ≠ j) : (l.set i x)[j]? = some y := by
  rw [List.getElem?_set_ne n]; exact h
theorem ne_cells {l : List Cell} {i j : Nat} {x y : Cell} (h : l[i]? = some x) (h' : l[j]? = some y) (n : x ≠ y) : i ≠ j := fun e => by
  subst e
  rw [h] at h'
  exact n (Option.some.inj h')
theorem set_at {α : Type} {l : List α} {i : Nat} {x y : α} (h : l[i]? = some y) : (l.set i x)[i]? = some x := List.getElem?_set_self (List.getElem?_eq_some_iff.mp h).1
abbrev mcNames : List Str := ["letters", "table", "ends"]
section
variable {P : Program} {w : World} {K : PySem.W.Frag} {mg : Str → Option Value} {base : Heap} {f : Addr} {fd : FuncData} {cNum cWord cM : Addr}
def P_minit (cM : Addr) : Pr := fun dvs μ o => ∃ (m : Mc) (k kt ke : Nat), VM m ∧ dvs = [.own k, .i (m.L : Int), .own kt, .own ke] ∧ μ[k]? = some (.ins cM []) ∧ μ[kt]? = some (.lst ((rowsV m).map DV.dat)) ∧ μ[ke]? = some (.lst ((endsV m).map DV.dat)) ∧ o = .ret .n (μ.set k (.ins cM (datF (mcF m))))
theorem w_minit (M : Md mg) (c : ClsK K cM mcNames) (d1 : Df P w K mg base "check_machine" 5 3 P_check_machine) (F : Fun K "__init__" "Machine.__init__" (inClass (top 16) 0) f fd) : FnOk P w K mg base (L2N.CX P w) 6 f fd ["self", "letters", "table", "ends"] (spD K 4 (P_minit cM)) :=
  fn_D (N := ["self", "letters", "table", "ends"]) (ps := ["self", "letters", "table", "ends"]) F ⟨rfl, rfl, rfl, by decide, rfl, by decide, by decide⟩ fun cdv A outer s H E hr tk hp dvs μ o hl hP => by
    obtain ⟨m, k, kt, ke, V, rfl, hk, ht, he, rfl⟩ := hP
    have n1 : k ≠ kt := ne_cells hk ht (by intro z; cases z)
    have n2 : k ≠ ke := ne_cells hk he (by intro z; cases z)
    refine Bd.non (δ' := [some (.own k), some (.i (m.L : Int)), some (.own kt), some (.own ke)]) ?_ (Keep.set rfl)
    refine .cons (.expr (.call d1 hr (.cons (.var 1 rfl) (.cons (.var 2 rfl) (.cons (.var 3 rfl) .nil))) ⟨m, kt, ke, V, rfl, ht, he, rfl⟩)) ?_
    refine .cons (.fld c (.var 1 rfl) (.var 0 rfl) hk) ?_
    refine .cons (.tos (.fld c (.tyc M.tuple (.cons (.var 2 rfl) .nil) (CallS.tupL (.ow (set_ne ht n1)))) (.var 0 rfl) (set_at hk)) (List.set_set _)) ?_
    refine .one (.tos (.fld c (.tyc M.tuple (.cons (.var 3 rfl) .nil) (CallS.tupL (.ow (set_ne he n2)))) (.var 0 rfl) (set_at hk)) (List.set_set _))
def P_mlen (cM : Addr) : Pr := fun dvs μ o => ∃ m : Mc, dvs = [.dat (mcD cM m)] ∧ o = .ret (.i (m.rows.length : Int)) μ
theorem w_mlen (M : Md mg) (c : ClsK K cM mcNames) (F : Fun K "__len__" "Machine.__len__" (inClass (top 16) 2) f fd) : FnOk P w K mg base (L2N.CX P w) 1 f fd ["self"] (spD K 1 (P_mlen cM)) :=
  fn_D (N := ["self"]) (ps := ["self"]) F ⟨rfl, rfl, rfl, by decide, rfl, by decide, by decide⟩ fun cdv A outer s H E hr tk hp dvs μ o hl hP => by
    obtain ⟨m, rfl, rfl⟩ := hP
    exact .ret (.one (.ret (.to (.blt M.len (.cons (.fld c (.var 0 rfl) .dat rfl) .nil) CallS.lenT) (by rw [List.length_map]))))
def P_after (cM : Addr) : Pr := fun dvs μ o => ∃ (m : Mc) (ws : List Nat), VM m ∧ dvs = [.dat (mcD cM m), .dat (wordD ws)] ∧ (∀ x ∈ ws, x < m.L) ∧ ws.length < 64 ∧ o = .ret (.dat (optD (after m ws 0))) μ
theorem word_okW {ws : List Nat} (h : ws.length < 64) : okW (wordD ws) = true := by
  show ((ws.map natD).all okT && decide ((ws.map natD).length < 64)) = true
  rw [List.length_map, Bool.and_eq_true]
  exact ⟨List.all_eq_true.mpr fun d hd => by obtain ⟨x, _, rfl⟩ := List.mem_map.mp hd; rfl, decide_eq_true h⟩
theorem word_is {ws : List Nat} {n : Nat} (h : ∀ x ∈ ws, x < n) : isWordD (n : Int) (wordD ws) = true := by
  show ((ws.map natD).all fun x => isNumD x && ltD (n : Int) x) = true
  refine List.all_eq_true.mpr fun d hd => ?_
  obtain ⟨x, hx, rfl⟩ := List.mem_map.mp hd
  rw [Bool.and_eq_true]
  exact ⟨show decide ((0 : Int) ≤ (x : Int)) = true from decide_eq_true (by omega), show decide ((x : Int) < (n : Int)) = true from decide_eq_true (by have := h x hx; omega)⟩
theorem row_ix {m : Mc} (h : VM m) {s : Nat} (hs : s < m.rows.length) : atI (m.rows.map rowD) (s : Int) = some (rowD (m.row s)) := atI_nat (by rw [List.getElem?_map, h.row_at hs]; rfl)
theorem opt_ix {r : List (Option Nat)} {x : Nat} (hx : x < r.length) : atI (r.map optD) (x : Int) = some (optD (r.getD x none)) := atI_nat (by rw [List.getElem?_map, List.getElem?_eq_getElem hx, List.getD_eq_getElem?_getD, List.getElem?_eq_getElem hx]; rfl)
theorem ed_ix {m : Mc} (h : VM m) {s : Nat} (hs : s < m.rows.length) : atI (m.ends.map natD) (s : Int) = some (natD (m.ed s)) := atI_nat (by rw [List.getElem?_map, h.ed_at hs]; rfl)
/-- where the word's loop ends -/
def afD (m : Mc) (cM : Addr) (ws0 : List Nat) (s : Nat) : Slots := [some (.dat (mcD cM m)), some (.dat (wordD ws0)), some (.i (s : Int)), none]
def afOut (m : Mc) (cM : Addr) (ws0 : List Nat) (μ : Store) : Option Nat → Out
  | none => .rt .n μ
  | some t => .nx (afD m cM ws0 t) μ
theorem getD_mem {r : List (Option Nat)} {x t : Nat} (h : r.getD x none = some t) : some t ∈ r := by
  rw [List.getD_eq_getElem?_getD] at h
  by_cases hx : x < r.length
  · rw [List.getElem?_eq_getElem hx] at h
    exact h ▸ List.getElem_mem hx
  · rw [List.getElem?_eq_none (by omega)] at h
    cases h
theorem af_it {R : DV → Slots → Store → Out → Prop} {m : Mc} {cM : Addr} {ws0 : List Nat} {μ : Store} (V : VM m) (hR : ∀ s x, s < m.rows.length → x < m.L → R (.dat (natD x)) (afD m cM ws0 s) μ (afOut m cM ws0 μ ((m.row s).getD x none))) :
    ∀ (xs : List Nat) (s : Nat) (o : Option Nat), s < m.rows.length → (∀ x ∈ xs, x < m.L) → after m xs s = o → It1 R ((xs.map natD).map DV.dat) (afD m cM ws0 s) μ (afOut m cM ws0 μ o)
  | [], s, o, hs, hx, e => by
    subst e
    exact .nil
  | x :: xs, s, o, hs, hx, e => by
    have h1 := hR s x hs (hx x List.mem_cons_self)
    unfold after at e
    cases ho : (m.row s).getD x none with
    | none =>
      rw [ho] at h1 e
      subst e
      exact .ret h1
    | some t =>
      rw [ho] at h1 e
      exact .next h1 (af_it V hR xs t o (row_lt V s t (getD_mem ho)) (fun y hy => hx y (List.mem_cons_of_mem _ hy)) e)
theorem w_after (c : ClsK K cM mcNames) (d1 : Df P w K mg base "check_word" 4 2 (P_check_word cWord)) (F : Fun K "state_after" "Machine.state_after" (inClass (top 16) 3) f fd) : FnOk P w K mg base (L2N.CX P w) 5 f fd ["self", "word"] (spD K 2 (P_after cM)) :=
  fn_D (N := ["self", "word", "state", "letter"]) (ps := ["self", "word"]) F ⟨rfl, rfl, rfl, by decide, rfl, by decide, by decide⟩ fun cdv A outer s H E hr tk hp dvs μ o hl hP => by
    obtain ⟨m, ws, V, rfl, hw, hl64, rfl⟩ := hP
    have hR : ∀ o, after m ws 0 = o → ∃ o1, Xb (cxOf (L2N.CX P w) P w K mg base ["self", "word", "state", "letter"] "Machine.state_after" (defScope (inClass (top 16) 3)) f cdv A outer s H E) (fun cls d _ H => E cls d H) (defBody (inClass (top 16) 3)) (startD 4 [.dat (mcD cM m), .dat (wordD ws)]) μ o1 ∧ o1 = .rt (.dat (optD o)) μ := by
      intro o ho
      refine ⟨_, ?_, rfl⟩
      refine .cons (δ1 := [some (.dat (mcD cM m)), some (.dat (wordD ws)), none, none]) (.expr (.call d1 hr (.cons (.var 1 rfl) (.cons (.fld c (.var 0 rfl) .dat rfl) .nil)) ⟨_, _, rfl, word_okW hl64, by rw [if_pos (word_is hw)]⟩)) ?_
      refine .cons (δ1 := afD m cM ws 0) (.set 2 .int (nod_of rfl)) ?_
      cases o with
      | none =>
        refine .stop (.forT rfl (nod_of rfl) hp 3 (.var 1 rfl) (af_it V (fun s x hs hx => ?_) ws 0 none (Nat.lt_of_lt_of_le Nat.zero_lt_one V.n1) hw ho))
        refine .cons (.set 2 (.ixT (ds := (m.row s).map optD) (.ixT (.fld c (.var 0 rfl) .dat rfl) (.var 2 rfl) (row_ix V hs)) (.var 3 rfl) (opt_ix (by rw [V.row_len hs]; exact hx))) (nod_of rfl)) ?_
        cases (m.row s).getD x none with
        | none => exact .stop (.ifT (.cmp (.var 2 rfl) .non .isN) (.one (.ret .non)))
        | some t => exact .wk (.one (.ifF (.cmp (.var 2 rfl) .non .isN) .nil))
      | some t =>
        refine .cons (.forT rfl (nod_of rfl) hp 3 (.var 1 rfl) (af_it V (fun s x hs hx => ?_) ws 0 (some t) (Nat.lt_of_lt_of_le Nat.zero_lt_one V.n1) hw ho)) (.one (.ret (.var 2 rfl)))
        refine .cons (.set 2 (.ixT (ds := (m.row s).map optD) (.ixT (.fld c (.var 0 rfl) .dat rfl) (.var 2 rfl) (row_ix V hs)) (.var 3 rfl) (opt_ix (by rw [V.row_len hs]; exact hx))) (nod_of rfl)) ?_
        cases (m.row s).getD x none with
        | none => exact .stop (.ifT (.cmp (.var 2 rfl) .non .isN) (.one (.ret .non)))
        | some t => exact .wk (.one (.ifF (.cmp (.var 2 rfl) .non .isN) .nil))
    obtain ⟨o1, h1, rfl⟩ := hR _ rfl
    exact .ret h1
def P_takes (cM : Addr) : Pr := fun dvs μ o => ∃ (m : Mc) (ws : List Nat), VM m ∧ dvs = [.dat (mcD cM m), .dat (wordD ws)] ∧ (∀ x ∈ ws, x < m.L) ∧ ws.length < 64 ∧ o = .ret (.b (takesB m ws)) μ
theorem w_takes (c : ClsK K cM mcNames) (d1 : Dm P w K mg base cM "state_after" 5 2 (P_after cM)) (F : Fun K "takes" "Machine.takes" (inClass (top 16) 4) f fd) : FnOk P w K mg base (L2N.CX P w) 6 f fd ["self", "word"] (spD K 2 (P_takes cM)) :=
  fn_D (N := ["self", "word", "state"]) (ps := ["self", "word"]) F ⟨rfl, rfl, rfl, by decide, rfl, by decide, by decide⟩ fun cdv A outer s H E hr tk hp dvs μ o hl hP => by
    obtain ⟨m, ws, V, rfl, hw, hl64, rfl⟩ := hP
    refine .ret (.cons (.set 2 (.meth c d1 hr (.var 0 rfl) .dat rfl (.cons (.var 1 rfl) .nil) ⟨m, ws, V, rfl, hw, hl64, rfl⟩) (nod_of rfl)) ?_)
    unfold takesB
    cases ho : after m ws 0 with
    | none => exact .one (.ret (.andF (.cmp (.var 2 rfl) .non .notN)))
    | some t =>
      have ht := after_lt V (Nat.lt_of_lt_of_le Nat.zero_lt_one V.n1) ho
      refine .one (.ret (.andT (.cmp (.var 2 rfl) .non .notN) (.last (.to (.cmp (.ixT (.fld c (.var 0 rfl) .dat rfl) (.var 2 rfl) (ed_ix V ht)) .int .eqI) ?_))))
      show DV.b (decide (((m.ed t : Nat) : Int) = 1)) = DV.b (m.ed t == 1)
      have e : decide (((m.ed t : Nat) : Int) = 1) = (m.ed t == 1) := by
        by_cases h : m.ed t = 1
        · rw [decide_eq_true (by omega), h]
          rfl
        · rw [decide_eq_false (by omega)]
          exact (beq_eq_false_iff_ne.mpr h).symm
      rw [e]
end
end Dt.K84
set_option maxHeartbeats 4000000
/-! k84: dicts with whole numbers as keys; met_states, ending_states, live_states, walked. -/
namespace Dt.K84
open PySem PySem.Spec L2 Dt
open PyProof.Rows (envOfC)
def kN (l : List (Nat × DV)) : List (Key × DV) := l.map fun p => (.inl (p.1 : Int), p.2)
theorem kN_len (l : List (Nat × DV)) : (kN l).length = l.length := List.length_map _
theorem kN_keys (l : List (Nat × DV)) : (kN l).map (·.1) = (l.map (·.1)).map fun (n : Nat) => (Sum.inl (n : Int) : Key) := by
  unfold kN
  rw [List.map_map, List.map_map]
  rfl
theorem inl_eq {a b : Nat} : ((Sum.inl (a : Int) : Key) = Sum.inl (b : Int)) ↔ a = b := ⟨fun h => by have := Sum.inl.inj h; omega, fun h => by rw [h]⟩
theorem look_kN : ∀ (l : List (Nat × DV)) (t : Nat), lookK (kN l) (.inl (t : Int)) = l.lookup t
  | [], t => rfl
  | (a, v) :: l, t => by
    have ih := look_kN l t
    unfold lookK kN at ih ⊢
    rw [List.map_cons, List.find?_cons, List.lookup_cons]
    by_cases h : a = t
    · rw [decide_eq_true (inl_eq.mpr h)]
      subst h
      simp
    · rw [decide_eq_false fun z => h (inl_eq.mp z)]
      have : (t == a) = false := beq_eq_false_iff_ne.mpr fun z => h z.symm
      rw [this]
      exact ih
theorem any_kN (l : List (Nat × DV)) (t : Nat) : ((kN l).any fun kv => decide (kv.1 = (Sum.inl (t : Int) : Key))) = (l.lookup t).isSome := by
  induction l with
  | nil => rfl
  | cons p l ih =>
    obtain ⟨a, v⟩ := p
    unfold kN at ih ⊢
    rw [List.map_cons, List.any_cons, ih, List.lookup_cons]
    by_cases h : a = t
    · rw [decide_eq_true (inl_eq.mpr h)]
      subst h
      simp
    · rw [decide_eq_false fun z => h (inl_eq.mp z)]
      have : (t == a) = false := beq_eq_false_iff_ne.mpr fun z => h z.symm
      rw [this]
      rfl
theorem put_new {l : List (Nat × DV)} {t : Nat} {v : DV} (h : l.lookup t = none) : putD (kN l) (.inl (t : Int)) v = kN (l ++ [(t, v)]) := by
  unfold putD
  rw [any_kN, h]
  show (if false = true then _ else _) = _
  rw [if_neg Bool.false_ne_true]
  unfold kN
  rw [List.map_append]
  rfl
def trK (l : List Nat) : List (Nat × DV) := l.map fun s => (s, .b true)
theorem trK_look : ∀ (l : List Nat) (t : Nat), (trK l).lookup t = if t ∈ l then some (.b true) else none
  | [], t => rfl
  | a :: l, t => by
    have ih := trK_look l t
    unfold trK at ih ⊢
    rw [List.map_cons, List.lookup_cons, ih]
    by_cases h : t = a
    · subst h
      simp
    · have : (t == a) = false := beq_eq_false_iff_ne.mpr h
      rw [this]
      simp [h]
theorem trK_some (l : List Nat) (t : Nat) : ((trK l).lookup t).isSome = decide (t ∈ l) := by
  rw [trK_look]
  by_cases h : t ∈ l
  · rw [if_pos h, decide_eq_true h]; rfl
  · rw [if_neg h, decide_eq_false h]; rfl
theorem trK_app (l : List Nat) (t : Nat) : trK l ++ [(t, .b true)] = trK (l ++ [t]) := by
  unfold trK
  rw [List.map_append]
  rfl
theorem trK_len (l : List Nat) : (trK l).length = l.length := List.length_map _
def lC (L : List Nat) : List DV := L.map fun (k : Nat) => DV.i (k : Int)
theorem lC_len (L : List Nat) : (lC L).length = L.length := List.length_map _
theorem lC_app (L : List Nat) (x : Nat) : lC L ++ [.i (x : Int)] = lC (L ++ [x]) := by unfold lC; rw [List.map_append]; rfl
theorem lC_last {L : List Nat} (h : L ≠ []) : (lC L)[(lC L).length - 1]? = some (.i ((L.getLast?.getD 0 : Nat) : Int)) := by
  have hl : 0 < L.length := List.length_pos_iff.mpr h
  rw [lC_len]
  unfold lC
  rw [List.getElem?_map, ← List.getLast?_eq_getElem?, List.getLast?_eq_some_getLast h]
  rfl
theorem lC_drop (L : List Nat) : (lC L).dropLast = lC L.dropLast := by unfold lC; rw [List.map_dropLast]
theorem Keep.push (μ L : Store) (h : (L.all fun c => c.under (μ.length + L.length)) = true) : Keep μ (μ ++ L) := by
  refine ⟨by rw [List.length_append]; exact Nat.le_add_right _ _, fun k c e => ?_⟩
  by_cases hk : k < μ.length
  · rw [List.getElem?_append_left hk] at e
    exact .inl e
  · rw [List.getElem?_append_right (by omega)] at e
    right
    rw [List.length_append]
    exact List.all_eq_true.mp h _ (List.mem_of_getElem? e)
theorem under_kN {n : Nat} {l : List (Nat × DV)} (h : ∀ p ∈ l, p.2.under n = true) : (Cell.dK (kN l)).under n = true := by
  show ((kN l).all fun p => p.2.under n) = true
  unfold kN
  rw [List.all_map]
  exact List.all_eq_true.mpr fun p hp => h p hp
theorem under_trK {n : Nat} (l : List Nat) : (Cell.dK (kN (trK l))).under n = true := under_kN fun p hp => by
  obtain ⟨x, _, rfl⟩ := List.mem_map.mp hp
  rfl
section
variable {P : Program} {w : World} {K : PySem.W.Frag} {mg : Str → Option Value} {base : Heap} {f : Addr} {fd : FuncData} {cNum cWord cM : Addr}
def P_met (cM : Addr) : Pr := fun dvs μ o => ∃ m : Mc, VM m ∧ dvs = [.dat (mcD cM m)] ∧ o = .ret (.own μ.length) (μ ++ [.dK (kN (trK (metOf m)))])
theorem w_met (M : Md mg) (c : ClsK K cM mcNames) (F : Fun K "met_states" "met_states" (top 17) f fd) : FnOk P w K mg base (L2N.CX P w) 1 f fd ["machine"] (spD K 1 (P_met cM)) :=
  fn_D (N := ["machine", "met", "waiting", "target"]) (ps := ["machine"]) F ⟨rfl, rfl, rfl, by decide, rfl, by decide, by decide⟩ fun cdv A outer s H E hr tk hp dvs μ o hl hP => by
    obtain ⟨m, V, rfl, rfl⟩ := hP
    have hu : (A.deeper (envOfC "met_states" (defScope (top 17)) s.heap.objs.size f cdv)).units + 1 < cLine := by have := hr.units; omega
    let δ0 : Slots := [some (.dat (mcD cM m)), some (.own μ.length), some (.own (μ.length + 1)), none]
    let st : List Nat × List Nat → Store := fun q => μ ++ [.dK (kN (trK q.1)), .lst (lC q.2)]
    have h0 : ClI m.rows.length ([0], [0]) := ⟨by simp, fun x hx => by have := V.n1; simp at hx; omega, fun x hx => hx, Nat.le_refl _⟩
    have hz : clM m.rows.length ([0], [0]) < 2 * m.rows.length + 2 := by unfold clM; simp; omega
    refine .retJ (J := [.lst (lC (clOf m.row m.rows.length [0]).2)]) ?_ (Keep.push _ _ (by rw [List.all_cons, under_trK]; rfl)) (by rw [List.length_append]; exact decide_eq_true (by simp))
    refine .cons (.set 1 (.d1 (q := .inl ((0 : Nat) : Int)) .int .bl) (nod_of rfl)) ?_
    refine .cons (δ1 := δ0) (μ1 := st ([0], [0])) (.tos (.set 2 (.to (.lstO (.cons .int .nil)) (by rw [List.length_append]; rfl)) (nod_of rfl)) (by rw [List.append_assoc]; rfl)) ?_
    refine .cons (.while hp (Wh.run (δ := fun _ => δ0) (μ := st) (clG m.row) clStop (ClI m.rows.length) (clM m.rows.length) (fun q hq hs => ?_) (fun q hq hs => ?_) (fun q hq hs => cl_step (row_lt V) hq hs) (2 * m.rows.length + 2) ([0], [0]) hz h0)) ?_
    · refine .to (.cmp (.blt M.len (.cons (.var 2 rfl) .nil) (CallS.lenL (.ow gL1))) .int .gt) (decide_eq_false ?_)
      have e : q.2 = [] := by unfold clStop at hs; simpa using hs
      rw [e]
      decide
    · have hne : q.2 ≠ [] := fun e => by unfold clStop at hs; rw [e] at hs; cases hs
      refine ⟨.to (.cmp (.blt M.len (.cons (.var 2 rfl) .nil) (CallS.lenL (.ow gL1))) .int .gt) (decide_eq_true ?_), .one ?_⟩
      · rw [lC_len]
        have := List.length_pos_iff.mpr hne
        omega
      · have hl := hq.lt _ (hq.wl _ (last_mem hne))
        refine .forT (ds := (m.row (q.2.getLast?.getD 0)).map optD) (μ1 := st (q.1, q.2.dropLast)) rfl (nod_of rfl) hp 3 (.ixT (.fld c (.var 0 rfl) .dat rfl) (.tos (.pop0 (.var 2 rfl) gL1 (lC_last hne)) (by rw [lC_drop]; exact sL1)) (row_ix V hl)) ?_
        refine It1.foldD (f := optD) (δ := fun _ => δ0) (μ := st) addT (ClI m.rows.length) (fun o => ∀ t, o = some t → t < m.rows.length) (fun s o hs ho => ⟨(addT_step hs ho).1, ?_⟩) _ _ ⟨hq.nd, hq.lt, fun x hx => hq.wl x (List.dropLast_subset _ hx), by have := hq.wle; show q.2.dropLast.length ≤ q.1.length; rw [List.length_dropLast]; omega⟩ (fun o ho t e => row_lt V _ t (e ▸ ho))
        cases o with
        | none => exact .wk (.one (.ifF (.w (.andF (.to (.cmp (.var 3 rfl) .non .notN) rfl))) .nil))
        | some t =>
          unfold addT
          by_cases ht : t ∈ s.1
          · simp only [if_pos ht]
            exact .wk (.one (.ifF (.w (.andT (.cmp (.var 3 rfl) .non .notN) (.and1 (.to (.dnin (q := .inl (t : Int)) hu (.var 3 rfl) (.var 1 rfl) gL0) (by rw [look_kN, trK_some, decide_eq_true ht]; rfl))))) .nil))
          · simp only [if_neg ht]
            refine .wk (δ1 := [some (.dat (mcD cM m)), some (.own μ.length), some (.own (μ.length + 1)), some (.dat (optD (some t)))]) (.one (.ifT (.w (.andT (.cmp (.var 3 rfl) .non .notN) (.and1 (.to (.dnin (q := .inl (t : Int)) hu (.var 3 rfl) (.var 1 rfl) gL0) (by rw [look_kN, trK_some, decide_eq_false ht]; rfl))))) ?_))
            refine .cons (.tos (μ2 := μ ++ [.dK (kN (trK (s.1 ++ [t]))), .lst (lC s.2)]) (.dput (q := .inl (t : Int)) hu .bl (.var 1 rfl) (.var 3 rfl) gL0 (by rw [kN_len, trK_len]; have := nodup_le hs.nd hs.lt; have := V.n63; omega)) (by rw [put_new (by rw [trK_look, if_neg ht]), trK_app]; exact sL0)) ?_
            exact .one (.expr (.tos (.append (.var 2 rfl) (.var 3 rfl) gL1 (by rw [lC_len]; have := hs.wle; have := nodup_le hs.nd hs.lt; have := V.n63; omega) ⟨_, gL1⟩) (by rw [show lC s.2 ++ [DV.dat (optD (some t))] = lC (s.2 ++ [t]) from lC_app s.2 t]; exact sL1)))
    · exact .one (.to (.ret (.var 1 rfl)) (by show Out.rt _ (μ ++ [_, _]) = Out.rt _ ((μ ++ [_]) ++ [_]); rw [List.append_assoc]; rfl))
end
end Dt.K84
set_option maxHeartbeats 4000000
/-! k84: ending_states, live_states, walked. -/
namespace Dt.K84
open PySem PySem.Spec L2 Dt
open PyProof.Rows (envOfC)
theorem puts_kN : ∀ (l acc : List (Nat × DV)), ((acc ++ l).map (·.1)).Nodup → (kN l).foldl (fun a q => putD a q.1 q.2) (kN acc) = kN (acc ++ l)
  | [], acc, _ => by rw [List.append_nil]; rfl
  | p :: l, acc, h => by
    show (kN l).foldl (fun a q => putD a q.1 q.2) (putD (kN acc) (.inl (p.1 : Int)) p.2) = _
    have hn : acc.lookup p.1 = none := by
      rw [List.lookup_eq_none_iff]
      intro q hq
      rw [List.map_append, List.nodup_append] at h
      have := h.2.2 q.1 (List.mem_map_of_mem hq) p.1 (by rw [List.map_cons]; exact List.mem_cons_self)
      exact bne_iff_ne.mpr fun e => this e.symm
    rw [put_new hn, puts_kN l (acc ++ [(p.1, p.2)]) (by rw [List.append_assoc]; exact h), List.append_assoc]
    rfl
theorem putsD_kN {l : List (Nat × DV)} (h : (l.map (·.1)).Nodup) : putsD (kN l) = kN l := puts_kN l [] h
theorem trK_keys (l : List Nat) : (trK l).map (·.1) = l := by
  unfold trK
  rw [List.map_map]
  exact List.map_id l
theorem filterMap_ite {α β : Type} (p : α → Bool) (g : α → β) : ∀ l : List α, (l.map fun x => if p x = true then some (g x) else none).filterMap id = (l.filter p).map g
  | [] => rfl
  | x :: l => by
    rw [List.map_cons, List.filter_cons]
    by_cases h : p x = true
    · rw [if_pos h, if_pos h, List.map_cons, ← filterMap_ite p g l]
      rfl
    · rw [if_neg h, if_neg h, ← filterMap_ite p g l]
      rfl
theorem keys_lC (l : List Nat) : (kN (trK l)).map (fun kv => DV.dat (keyD kv.1)) = lC l := by
  unfold kN trK lC
  rw [List.map_map, List.map_map]
  rfl
theorem lc_news {R : DV → Store → Option DV → Store → Prop} (hR : ∀ x μ, R x μ (some (.own μ.length)) (μ ++ [.lst []])) : ∀ (xs : List DV) (μ : Store), Lc R xs μ ((List.range xs.length).map fun i => DV.own (μ.length + i)) (μ ++ List.replicate xs.length (.lst []))
  | [], μ => by
    show Lc R [] μ [] (μ ++ [])
    rw [List.append_nil]
    exact .nil
  | x :: xs, μ => by
    have h := lc_news hR xs (μ ++ [.lst []])
    rw [List.length_append, List.length_singleton, List.append_assoc] at h
    rw [List.length_cons, List.range_succ_eq_map, List.map_cons, List.map_map, List.replicate_succ]
    refine .keep (hR x μ) ?_
    have e : ((fun i => DV.own (μ.length + i)) ∘ Nat.succ) = fun i => DV.own (μ.length + 1 + i) := by
      funext i
      show DV.own (μ.length + (i + 1)) = _
      congr 1
      omega
    rw [e]
    exact h
section
variable {P : Program} {w : World} {K : PySem.W.Frag} {mg : Str → Option Value} {base : Heap} {f : Addr} {fd : FuncData} {cNum cWord cM : Addr}
def srcC (src : List (List Nat)) : Store := src.map fun l => .lst (lC l)
def outC (n N : Nat) : Cell := .lst ((List.range N).map fun i => DV.own (n + i))
theorem srcC_at {μ R : Store} {src : List (List Nat)} {t : Nat} (h : t < src.length) : (μ ++ (srcC src ++ R))[μ.length + t]? = some (.lst (lC (src.getD t []))) := by
  rw [gL]
  unfold srcC
  rw [List.getElem?_append_left (by rw [List.length_map]; exact h), List.getElem?_map, List.getElem?_eq_getElem h, List.getD_eq_getElem?_getD, List.getElem?_eq_getElem h]
  rfl
theorem srcC_out {μ R : Store} {src : List (List Nat)} {N : Nat} {c : Cell} (i : Nat) (h : src.length = N) (hc : R[i]? = some c) : (μ ++ (srcC src ++ R))[μ.length + (N + i)]? = some c := by
  rw [gL]
  unfold srcC
  rw [List.getElem?_append_right (by rw [List.length_map]; omega), List.length_map, show N + i - src.length = i by omega]
  exact hc
theorem srcC_set {μ R : Store} {src : List (List Nat)} {t : Nat} {l : List Nat} (h : t < src.length) : (μ ++ (srcC src ++ R)).set (μ.length + t) (.lst (lC l)) = μ ++ (srcC (src.set t l) ++ R) := by
  rw [sL]
  unfold srcC
  rw [List.set_append_left _ _ (by rw [List.length_map]; exact h), ← List.map_set]
theorem srcC_put {μ R : Store} {src : List (List Nat)} {N : Nat} {c : Cell} (i : Nat) (h : src.length = N) : (μ ++ (srcC src ++ R)).set (μ.length + (N + i)) c = μ ++ (srcC src ++ R.set i c) := by
  rw [sL]
  unfold srcC
  rw [List.set_append_right _ _ (by rw [List.length_map]; omega), List.length_map, show N + i - src.length = i by omega]
theorem outC_at {n N t : Nat} (h : t < N) : atI ((List.range N).map fun i => DV.own (n + i)) (t : Int) = some (.own (n + t)) := atI_nat (by rw [List.getElem?_map, List.getElem?_range h]; rfl)
theorem enD_rows (rs : List (List (Option Nat))) : enD (rs.map rowD) = ((rs.mapIdx fun i r => (i, r)).map fun q => D.tup [.int (q.1 : Int), rowD q.2]).map DV.dat := by
  refine List.ext_getElem? fun i => ?_
  unfold enD
  rw [List.getElem?_mapIdx, List.getElem?_map, List.getElem?_map, List.getElem?_map, List.getElem?_mapIdx]
  cases rs[i]? with
  | none => rfl
  | some r =>
    show some (DV.dat (.tup [.int ((0 + i : Nat) : Int), rowD r])) = some (DV.dat (.tup [.int (i : Int), rowD r]))
    rw [Nat.zero_add]
theorem addS_gl (src : List (List Nat)) (s i : Nat) (o : Option Nat) : ((addS src s o).getD i []).length ≤ (src.getD i []).length + 1 := by
  cases o with
  | none => exact Nat.le_succ _
  | some t =>
    unfold addS
    simp only
    by_cases ht : t < src.length
    · rw [getD_set ht]
      by_cases e : i = t
      · subst e
        rw [if_pos rfl, List.length_append]
        exact Nat.le_refl _
      · rw [if_neg e]
        exact Nat.le_succ _
    · rw [List.set_eq_of_length_le (by omega)]
      exact Nat.le_succ _
theorem foldS_gl (s i : Nat) : ∀ (os : List (Option Nat)) (src : List (List Nat)), ((os.foldl (fun a o => addS a s o) src).getD i []).length ≤ (src.getD i []).length + os.length
  | [], src => Nat.le_refl _
  | o :: os, src => by
    have h1 := foldS_gl s i os (addS src s o)
    have h2 := addS_gl src s i o
    rw [List.foldl_cons, List.length_cons]
    omega
def P_end (cM : Addr) : Pr := fun dvs μ o => ∃ m : Mc, VM m ∧ dvs = [.dat (mcD cM m)] ∧ o = .ret (.own (μ.length + (m.rows.length + 1))) (μ ++ (srcC (srcOf m) ++ [outC μ.length m.rows.length, .dK (kN (trK (endOf m)))]))
theorem w_end (M : Md mg) (c : ClsK K cM mcNames) (F : Fun K "ending_states" "ending_states" (top 18) f fd) : FnOk P w K mg base (L2N.CX P w) 1 f fd ["machine"] (spD K 1 (P_end cM)) :=
  fn_D (N := ["machine", "sources", "_", "state", "row", "target", "met", "bit", "waiting", "source"]) (ps := ["machine"]) F ⟨rfl, rfl, rfl, by decide, rfl, by decide, by decide⟩ fun cdv A outer s H E hr tk hp dvs μ o hl hP => by
    obtain ⟨m, V, rfl, rfl⟩ := hP
    have hu : (A.deeper (envOfC "ending_states" (defScope (top 18)) s.heap.objs.size f cdv)).units + 1 < cLine := by have := hr.units; omega
    have sl := srcOf_len m
    let N := m.rows.length
    let δ1 : Slots := [some (.dat (mcD cM m)), some (.own (μ.length + (N + 0))), none, none, none, none, none, none, none, none]
    let δ2 : Slots := [some (.dat (mcD cM m)), some (.own (μ.length + (N + 0))), none, none, none, none, some (.own (μ.length + (N + 1))), none, some (.own (μ.length + (N + 2))), none]
    let st1 : List (List Nat) → Store := fun src => μ ++ (srcC src ++ [outC μ.length N])
    let st2 : List Nat × List Nat → Store := fun q => μ ++ (srcC (srcOf m) ++ [outC μ.length N, .dK (kN (trK q.1)), .lst (lC q.2)])
    have hlen : (μ ++ (srcC (srcOf m) ++ [outC μ.length N])).length = μ.length + (N + 1) := by
      rw [List.length_append, List.length_append]
      unfold srcC
      rw [List.length_map, sl]
      rfl
    have h0 : ClI N (ini1 m, ini1 m) := ⟨ini1_nd m, ini1_lt m, fun x hx => hx, Nat.le_refl _⟩
    have hz : clM N (ini1 m, ini1 m) < 2 * N + 2 := by have := nodup_le (ini1_nd m) (ini1_lt m); unfold clM; show 2 * (m.rows.length - (ini1 m).length) + (ini1 m).length < 2 * m.rows.length + 2; omega
    have hkeep : ((srcC (srcOf m) ++ [outC μ.length m.rows.length, .dK (kN (trK (endOf m)))]).all fun cc => cc.under (μ.length + (srcC (srcOf m) ++ [outC μ.length m.rows.length, .dK (kN (trK (endOf m)))]).length)) = true := by
      have hz2 : μ.length + (srcC (srcOf m) ++ [outC μ.length N, .dK (kN (trK (endOf m)))]).length = μ.length + N + 2 := by
        rw [List.length_append]
        unfold srcC
        rw [List.length_map, sl]
        rfl
      rw [List.all_append, List.all_cons, List.all_cons, under_trK]
      refine Bool.and_eq_true_iff.mpr ⟨List.all_eq_true.mpr fun cc hc => ?_, Bool.and_eq_true_iff.mpr ⟨?_, rfl⟩⟩
      · obtain ⟨l, _, rfl⟩ := List.mem_map.mp hc
        exact List.all_eq_true.mpr fun d hd => by obtain ⟨x, _, rfl⟩ := List.mem_map.mp hd; rfl
      · refine List.all_eq_true.mpr fun d hd => ?_
        obtain ⟨x, hx, rfl⟩ := List.mem_map.mp hd
        have := List.mem_range.mp hx
        show decide (μ.length + x < _) = true
        rw [hz2]
        exact decide_eq_true (by omega)
    refine .retJ (J := [.lst (lC (clOf (srcS m) N (ini1 m)).2)]) ?_ (Keep.push _ _ hkeep) (by rw [List.length_append, List.length_append]; unfold srcC; rw [List.length_map, sl]; exact decide_eq_true (by simp))
    refine .cons (δ1 := δ1) (μ1 := st1 (List.replicate N [])) ?_ ?_
    · refine .to (.lcOwn (x := "_") (j := 2) 1 rfl (nod_of rfl) (pi_tup semE_pe) (blk_of rfl) (fun _ _ _ _ _ => pg_name (nod_of rfl) rfl (by first | exact .inl rfl | exact .inr rfl)) (by decide) (lcT (.fld c (.var 0 rfl) .dat rfl) (lc_news (fun x μ' => El.go (Ek.of fun s1 H1 cl C fp => .lstO .nil)) _ μ) (by simp; have := V.n63; omega))) ?_
      have e1 : ((m.rows.map rowD).map DV.dat).length = N := by rw [List.length_map, List.length_map]
      have e2 : srcC (List.replicate N []) = List.replicate N (.lst []) := by unfold srcC; rw [List.map_replicate]; rfl
      rw [e1]
      show Out.nx _ _ = Out.nx δ1 (μ ++ (srcC (List.replicate N []) ++ [outC μ.length N]))
      rw [e2, List.length_append, List.length_replicate, List.append_assoc]
      rfl
    refine .cons (δ1 := δ1) (μ1 := st1 (srcOf m)) (.forE (ds := m.rows.map rowD) rfl (nod_of rfl) hp M.enumerate 3 4 (.fld c (.var 0 rfl) .dat rfl) ?_) ?_
    · rw [enD_rows]
      refine It1.foldI (N := N) (f := fun (q : Nat × List (Option Nat)) => D.tup [.int (q.1 : Int), rowD q.2]) (δ := fun _ => δ1) (μ := st1) srcRow (fun k src => src.length = N ∧ ∀ i, (src.getD i []).length ≤ 48 * k) (m.rows.mapIdx fun i r => (i, r)) (fun src k q hk hq hs => ?_) 0 (List.replicate N []) (by rw [Nat.zero_add, List.length_mapIdx]; exact Nat.le_refl m.rows.length) ⟨List.length_replicate, fun i => by rw [List.getD_eq_getElem?_getD, List.getElem?_replicate]; split <;> exact Nat.le_refl 0⟩
      obtain ⟨i, hi⟩ := List.getElem?_of_mem hq
      rw [List.getElem?_mapIdx] at hi
      obtain ⟨r, hr', e⟩ := Option.map_eq_some_iff.mp hi
      have hmem := List.mem_of_getElem? hr'
      have hq2 : q.2 = r := by rw [← e]
      have htg : ∀ t, some t ∈ q.2 → t < N := fun t ht => V.tg r hmem t (hq2 ▸ ht)
      have hql : q.2.length ≤ 48 := by rw [hq2, V.len r hmem]; exact V.L48
      refine ⟨⟨by rw [← hs.1]; exact foldS_len, fun i => ?_⟩, _, _, rfl, ?_⟩
      · have := foldS_gl q.1 i q.2 src
        have h2 := hs.2 i
        show ((q.2.foldl (fun a o => addS a q.1 o) src).getD i []).length ≤ _
        omega
      · refine .wk (δ1 := [some (.dat (mcD cM m)), some (.own (μ.length + (N + 0))), none, some (.i (q.1 : Int)), some (.dat (rowD q.2)), none, none, none, none, none]) (.one (.forT (ds := q.2.map optD) rfl (nod_of rfl) hp 5 (.var 4 rfl) ?_))
        refine It1.foldI (N := 48) (f := optD) (δ := fun _ => [some (.dat (mcD cM m)), some (.own (μ.length + (N + 0))), none, some (.i (q.1 : Int)), some (.dat (rowD q.2)), none, none, none, none, none]) (μ := st1) (fun a o => addS a q.1 o) (fun j src => src.length = N ∧ ∀ i, (src.getD i []).length ≤ 48 * k + j) _ (fun src j o hj ho hs => ⟨⟨by rw [addS_len]; exact hs.1, fun i => ?_⟩, ?_⟩) 0 _ (by rw [Nat.zero_add]; exact hql) ⟨hs.1, fun i => hs.2 i⟩
        · have h1 := addS_gl src q.1 i o
          have h2 := hs.2 i
          omega
        · cases o with
          | none => exact .wk (.one (.ifF (.to (.cmp (.var 5 rfl) .non .notN) rfl) .nil))
          | some t =>
            have ht : t < src.length := by rw [hs.1]; exact htg t ho
            refine .wk (δ1 := [some (.dat (mcD cM m)), some (.own (μ.length + (N + 0))), none, some (.i (q.1 : Int)), some (.dat (rowD q.2)), some (.dat (optD (some t))), none, none, none, none]) (.one (.ifT (.to (.cmp (.var 5 rfl) .non .notN) rfl) (.one (.expr (.tos (.append (.ixO (.var 1 rfl) (.var 5 rfl) (srcC_out 0 hs.1 rfl) (outC_at (htg t ho))) (.var 3 rfl) (srcC_at ht) ?_ ⟨_, srcC_at ht⟩) ?_)))))
            · rw [lC_len]
              have h2 := hs.2 t
              have := V.n63
              have : k < 64 := by omega
              omega
            · rw [show lC (src.getD t []) ++ [DV.i (q.1 : Int)] = lC (src.getD t [] ++ [q.1]) from lC_app _ _]
              exact srcC_set ht
    have hgm : ∀ (q : List Nat × List Nat), (st2 q)[μ.length + (N + 1)]? = some (.dK (kN (trK q.1))) := fun q => srcC_out 1 sl rfl
    have hgw : ∀ (q : List Nat × List Nat), (st2 q)[μ.length + (N + 2)]? = some (.lst (lC q.2)) := fun q => srcC_out 2 sl rfl
    refine .cons (δ1 := δ1.set 6 (some (.own (μ.length + (N + 1))))) (μ1 := μ ++ (srcC (srcOf m) ++ [outC μ.length N, .dK (kN (trK (ini1 m)))])) ?_ ?_
    · refine .to (.dcE (i := 3) (j := 7) 6 (ds := m.ends.map natD) (out := (List.range N).map fun i => if (m.ed i == 1) = true then some (.inl (i : Int), .b true) else none) rfl (nod_of rfl) M.enumerate (by decide) (.fld c (.var 0 rfl) .dat rfl) (by rw [List.length_map, V.el]; have := V.n63; omega) (by rw [List.length_map, List.length_map, List.length_range, V.el]) (fun i d o hd ho => ?_) (by decide) (blk_of rfl) ?_) ?_
      · have hiN : i < N := by
          have := (List.getElem?_eq_some_iff.mp hd).1
          rw [List.length_map, V.el] at this
          exact this
        rw [List.getElem?_map, V.ed_at hiN] at hd
        cases hd
        rw [List.getElem?_map, List.getElem?_range hiN] at ho
        cases ho
        show DcTurn _ _ _ _ _ _ _ (if (m.ed i == 1) = true then some (.inl (i : Int), .b true) else none)
        by_cases h : m.ed i = 1
        · rw [if_pos (beq_iff_eq.mpr h)]
          refine .yes (.one fun s1 H1 cl C fp => .to (.cmp (.var 7 rfl) .int .eqI) (decide_eq_true (by rw [h]; rfl))) (.of fun s1 H1 cl C fp => .var 3 rfl) (.of fun s1 H1 cl C fp => .bl)
        · rw [if_neg fun z => h (beq_iff_eq.mp z)]
          exact .no (.one fun s1 H1 cl C fp => .to (.cmp (.var 7 rfl) .int .eqI) (decide_eq_false (by omega)))
      · exact fun _ _ _ _ _ => pg_tup rfl (pgs_cons (pg_name (nod_of rfl) rfl (by first | exact .inl rfl | exact .inr rfl)) (pgs_cons (pg_name (nod_of rfl) rfl (by first | exact .inl rfl | exact .inr rfl)) pgs_nil))
      · have e1 : outK ((List.range N).map fun (i : Nat) => if (m.ed i == 1) = true then some ((Sum.inl (i : Int) : Key), DV.b true) else none) = kN (trK (ini1 m)) := by
          unfold outK
          rw [filterMap_ite (fun i => m.ed i == 1) (fun (i : Nat) => ((Sum.inl (i : Int) : Key), DV.b true))]
          unfold kN trK
          rw [List.map_map]
          rfl
        rw [e1, putsD_kN (by rw [trK_keys]; exact ini1_nd m), hlen, List.append_assoc, List.append_assoc]
        rfl
    refine .cons (δ1 := δ2) (μ1 := st2 (ini1 m, ini1 m)) (.to (.set 8 (.tyc M.list (.cons (.var 6 rfl) .nil) (CallS.listK rfl (srcC_out 1 sl rfl))) (nod_of rfl)) ?_) ?_
    · have e2 : (μ ++ (srcC (srcOf m) ++ [outC μ.length N, .dK (kN (trK (ini1 m)))])).length = μ.length + (N + 2) := by
        rw [List.length_append, List.length_append]
        unfold srcC
        rw [List.length_map, sl]
        rfl
      rw [e2, keys_lC, List.append_assoc, List.append_assoc]
      rfl
    refine .cons (.while hp (Wh.run (δ := fun _ => δ2) (μ := st2) (clG (srcS m)) clStop (ClI N) (clM N) (fun q hq hs => ?_) (fun q hq hs => ?_) (fun q hq hs => cl_step (srcS_lt V) hq hs) (2 * N + 2) (ini1 m, ini1 m) hz h0)) ?_
    · refine .to (.cmp (.blt M.len (.cons (.var 8 rfl) .nil) (CallS.lenL (.ow (hgw q)))) .int .gt) (decide_eq_false ?_)
      have e : q.2 = [] := by unfold clStop at hs; simpa using hs
      rw [e]
      decide
    · have hne : q.2 ≠ [] := fun e => by unfold clStop at hs; rw [e] at hs; cases hs
      refine ⟨.to (.cmp (.blt M.len (.cons (.var 8 rfl) .nil) (CallS.lenL (.ow (hgw q)))) .int .gt) (decide_eq_true ?_), .one ?_⟩
      · rw [lC_len]
        have := List.length_pos_iff.mpr hne
        omega
      · have hl := hq.lt _ (hq.wl _ (last_mem hne))
        have hsq : ∀ q', (st2 q')[μ.length + q.2.getLast?.getD 0]? = some (.lst (lC ((srcOf m).getD (q.2.getLast?.getD 0) []))) := fun q' => srcC_at (by rw [sl]; exact hl)
        refine .forO (xs := lC ((srcOf m).getD (q.2.getLast?.getD 0) [])) (μ1 := st2 (q.1, q.2.dropLast)) rfl (nod_of rfl) hp 9 (.ixO (.var 1 rfl) (.tos (.pop0 (.var 8 rfl) (hgw q) (lC_last hne)) (by rw [lC_drop]; exact srcC_put 2 sl)) (srcC_out 0 sl rfl) (outC_at hl)) ?_ (fun δ' μf e => by cases e; exact hsq _)
        have e3 : clG (srcS m) q = ((srcOf m).getD (q.2.getLast?.getD 0) []).foldl (fun a x => addT a (some x)) (q.1, q.2.dropLast) := by
          unfold clG srcS
          rw [List.foldl_map]
        rw [e3]
        refine It1.foldL (f := fun (k : Nat) => DV.i (k : Int)) (δ := fun _ => δ2) (μ := st2) (fun a x => addT a (some x)) (ClI N) (fun x => x < N) (fun s t hs ht => ⟨(addT_step hs fun t' e => by cases e; exact ht).1, hsq s, ?_⟩) _ _ ⟨hq.nd, hq.lt, fun x hx => hq.wl x (List.dropLast_subset _ hx), by have := hq.wle; show q.2.dropLast.length ≤ q.1.length; rw [List.length_dropLast]; omega⟩ (fun x hx => srcS_lt V (q.2.getLast?.getD 0) x (List.mem_map_of_mem hx))
        unfold addT
        by_cases ht' : t ∈ s.1
        · simp only [if_pos ht']
          exact .wk (δ1 := δ2.set 9 (some (.i (t : Int)))) (.one (.ifF (.to (.dnin (q := .inl (t : Int)) hu (.var 9 rfl) (.var 6 rfl) (hgm s)) (by rw [look_kN, trK_some, decide_eq_true ht']; rfl)) .nil))
        · simp only [if_neg ht']
          refine .wk (δ1 := δ2.set 9 (some (.i (t : Int)))) (.one (.ifT (.to (.dnin (q := .inl (t : Int)) hu (.var 9 rfl) (.var 6 rfl) (hgm s)) (by rw [look_kN, trK_some, decide_eq_false ht']; rfl)) ?_))
          refine .cons (.tos (μ2 := st2 (s.1 ++ [t], s.2)) (.dput (q := .inl (t : Int)) hu .bl (.var 6 rfl) (.var 9 rfl) (hgm s) (by rw [kN_len, trK_len]; have := nodup_le hs.nd hs.lt; have := V.n63; omega)) (by rw [put_new (by rw [trK_look, if_neg ht']), trK_app]; exact srcC_put 1 sl)) ?_
          exact .one (.expr (.tos (.append (.var 8 rfl) (.var 9 rfl) (hgw (s.1 ++ [t], s.2)) (by rw [lC_len]; have := hs.wle; have := nodup_le hs.nd hs.lt; have := V.n63; show s.2.length < 1000000; omega) ⟨_, hgw (s.1 ++ [t], s.2)⟩) (by rw [show lC (s.1 ++ [t], s.2).2 ++ [DV.i (t : Int)] = lC (s.2 ++ [t]) from lC_app s.2 t]; exact srcC_put 2 sl)))
    · exact .one (.to (.ret (.var 6 rfl)) (by
        show Out.rt _ (μ ++ (srcC (srcOf m) ++ [_, _, _])) = Out.rt _ ((μ ++ (srcC (srcOf m) ++ [_, _])) ++ [_])
        rw [List.append_assoc, List.append_assoc]
        rfl))
end
end Dt.K84
set_option maxHeartbeats 4000000
/-! k84: live_states, walked. -/
namespace Dt.K84
open PySem PySem.Spec L2 Dt
open PyProof.Rows (envOfC)
def lI (l : List Nat) : D := .lst (l.map natD)
theorem lI_dv (l : List Nat) : (l.map natD).map DV.dat = lC l := by unfold lC; rw [List.map_map]; rfl
theorem Lc.filt {α : Type} {R : DV → Store → Option DV → Store → Prop} {μ : Store} (p : α → Bool) (f : α → DV) : ∀ {xs : List α}, (∀ x ∈ xs, p x = true → R (f x) μ (some (f x)) μ) → (∀ x ∈ xs, p x = false → R (f x) μ none μ) → Lc R (xs.map f) μ ((xs.filter p).map f) μ
  | [], _, _ => .nil
  | x :: xs, h1, h2 => by
    have ih := Lc.filt p f (xs := xs) (fun y hy => h1 y (List.mem_cons_of_mem _ hy)) (fun y hy => h2 y (List.mem_cons_of_mem _ hy))
    rw [List.filter_cons]
    by_cases h : p x = true
    · rw [if_pos h]
      exact .keep (h1 x List.mem_cons_self h) ih
    · rw [if_neg h]
      exact .skip (h2 x List.mem_cons_self (by simpa using h)) ih
theorem range_filter_perm {N : Nat} {l : List Nat} (hn : l.Nodup) (hl : ∀ x ∈ l, x < N) : ((List.range N).filter fun x => decide (x ∈ l)).Perm l := by
  rw [List.perm_ext_iff_of_nodup (List.Pairwise.filter _ List.nodup_range) hn]
  intro a
  rw [List.mem_filter, List.mem_range]
  constructor
  · rintro ⟨_, h⟩; exact of_decide_eq_true h
  · intro h; exact ⟨hl a h, decide_eq_true h⟩
theorem range_filter_asc (N : Nat) (p : Nat → Bool) : (((List.range N).filter p).map fun (n : Nat) => (n : Int)).Pairwise (· ≤ ·) := by
  rw [List.pairwise_map]
  refine List.Pairwise.imp ?_ (List.Pairwise.filter _ List.pairwise_lt_range)
  intro a b h
  omega
theorem metI {m : Mc} (V : VM m) : ClI m.rows.length (clOf m.row m.rows.length [0]) := (cl_end (row_lt V) (by simp) (by simpa using Nat.lt_of_lt_of_le Nat.zero_lt_one V.n1)).1
theorem endI {m : Mc} (V : VM m) : ClI m.rows.length (clOf (srcS m) m.rows.length (ini1 m)) := (cl_end (srcS_lt V) (ini1_nd m) (ini1_lt m)).1
section
variable {P : Program} {w : World} {K : PySem.W.Frag} {mg : Str → Option Value} {base : Heap} {f : Addr} {fd : FuncData} {cNum cWord cM : Addr}
def P_live (cM : Addr) : Pr := fun dvs μ o => ∃ m : Mc, VM m ∧ dvs = [.dat (mcD cM m)] ∧ o = .ret (.dat (lI (liveOf m))) μ
theorem w_live (M : Md mg) (d1 : Df P w K mg base "met_states" 1 1 (P_met cM)) (d2 : Df P w K mg base "ending_states" 1 1 (P_end cM)) (F : Fun K "live_states" "live_states" (top 19) f fd) : FnOk P w K mg base (L2N.CX P w) 2 f fd ["machine"] (spD K 1 (P_live cM)) :=
  fn_D (N := ["machine", "ending", "state"]) (ps := ["machine"]) F ⟨rfl, rfl, rfl, by decide, rfl, by decide, by decide⟩ fun cdv A outer s H E hr tk hp dvs μ o hl hP => by
    obtain ⟨m, V, rfl, rfl⟩ := hP
    have hu : (A.deeper (envOfC "live_states" (defScope (top 19)) s.heap.objs.size f cdv)).units + 1 < cLine := by have := hr.units; omega
    have sl := srcOf_len m
    have MI := metI V
    refine .retJ (J := srcC (srcOf m) ++ [outC μ.length m.rows.length, .dK (kN (trK (endOf m))), .dK (kN (trK (metOf m)))]) ?_
    refine .cons (.set 1 (.call d2 hr (.cons (.var 0 rfl) .nil) ⟨m, V, rfl, rfl⟩) (nod_of rfl)) (.one (.ret ?_))
    have hmet := metI V
    have hk : (kN (trK (metOf m))).map (·.1) = ((metOf m).map fun (n : Nat) => (n : Int)).map Sum.inl := by
      rw [kN_keys, trK_keys, List.map_map]
      rfl
    obtain ⟨ms, hms⟩ : ∃ ms, ms = ((List.range m.rows.length).filter fun x => decide (x ∈ metOf m)) := ⟨_, rfl⟩
    have eli : liveOf m = ms.filter fun x => decide (x ∈ endOf m) := by
      rw [hms, List.filter_filter]
      unfold liveOf
      congr 1
      funext x
      exact Bool.and_comm _ _
    have hlen : ms.length ≤ m.rows.length := by
      rw [hms]
      have := List.length_filter_le (fun x => decide (x ∈ metOf m)) (List.range m.rows.length)
      rw [List.length_range] at this
      exact this
    have V63 := V.n63
    refine .to (.lcOf (x := "state") (j := 2) (ds := (liveOf m).map natD) (μf := μ ++ (srcC (srcOf m) ++ [outC μ.length m.rows.length, .dK (kN (trK (endOf m))), .dK (kN (trK (metOf m)))])) rfl (nod_of rfl) (pi_list semE_pe) (blk_of rfl) (fun _ _ _ _ _ => pg_name (nod_of rfl) rfl (by first | exact .inl rfl | exact .inr rfl)) (by decide) (lcL (μ1 := μ ++ (srcC (srcOf m) ++ [outC μ.length m.rows.length, .dK (kN (trK (endOf m))), .dK (kN (trK (metOf m)))])) (ds := ms.map natD) (.to (.tos (.blt M.sorted (.cons (.call d1 (hr.mono (by decide)) (.cons (.var 0 rfl) .nil) ⟨m, V, rfl, rfl⟩) .nil) (CallS.sortedK (ks := (metOf m).map fun (n : Nat) => (n : Int)) (ms := ms.map fun (n : Nat) => (n : Int)) rfl gL0 hk ?_ ?_ ?_)) ?_) ?_) ?_ ?_)) rfl
    · rw [List.length_map]
      have := nodup_le hmet.nd hmet.lt
      show (clOf m.row m.rows.length [0]).1.length < 64
      omega
    · rw [hms]
      exact (range_filter_perm hmet.nd hmet.lt).map _
    · rw [hms]
      exact range_filter_asc _ _
    · rw [List.append_assoc, List.append_assoc]
      rfl
    · rw [List.map_map]
      rfl
    · rw [lI_dv, lI_dv, eli]
      refine Lc.filt (fun x => decide (x ∈ endOf m)) (fun (k : Nat) => DV.i (k : Int)) (fun x hx hpx => ?_) (fun x hx hpx => ?_)
      · exact .yes (.one fun s1 H1 cl C fp => .to (.din (q := .inl (x : Int)) hu (.var 2 rfl) (.var 1 rfl) (srcC_out 1 sl rfl)) (by rw [look_kN, trK_some]; exact hpx)) (.of fun s1 H1 cl C fp => .var 2 rfl)
      · exact .no (.one fun s1 H1 cl C fp => .to (.din (q := .inl (x : Int)) hu (.var 2 rfl) (.var 1 rfl) (srcC_out 1 sl rfl)) (by rw [look_kN, trK_some]; exact hpx))
    · rw [List.length_map, List.length_map]
      have := live_len m
      omega
end
end Dt.K84
set_option maxHeartbeats 4000000
/-! k84, plain: parted. -/
namespace Dt.K84
/-- the lot of a state that lives -/
def lkL (live : List Nat) (lf : Nat → Nat) (t : Nat) : Option Nat := if t ∈ live then some (lf t) else none
def tgL (live : List Nat) (lf : Nat → Nat) (o : Option Nat) : Option Nat := o.bind (lkL live lf)
def ngI : Option Nat → Int
  | none => -1
  | some l => (l : Int)
def mark (m : Mc) (live : List Nat) (lf : Nat → Nat) (s : Nat) : List Int := (lf s : Int) :: (m.row s).map fun o => ngI (tgL live lf o)
def mkAdd (a : List (List Int)) (x : List Int) : List (List Int) := if x ∈ a then a else a ++ [x]
def marksOf (m : Mc) (live : List Nat) (lf : Nat → Nat) : List (List Int) := live.foldl (fun a s => mkAdd a (mark m live lf s)) []
def rnd (m : Mc) (live : List Nat) (lf : Nat → Nat) (s : Nat) : Nat := (marksOf m live lf).idxOf (mark m live lf s)
structure MkI (mk : Nat → List Int) (pre : List Nat) (a : List (List Int)) : Prop where
  nd : a.Nodup
  mem : ∀ s ∈ pre, mk s ∈ a
  len : a.length ≤ pre.length
theorem mkAdd_sub {a : List (List Int)} {x y : List Int} (h : y ∈ a) : y ∈ mkAdd a x := by
  unfold mkAdd
  split
  · exact h
  · exact List.mem_append_left _ h
theorem mkAdd_self (a : List (List Int)) (x : List Int) : x ∈ mkAdd a x := by
  unfold mkAdd
  split
  · assumption
  · exact List.mem_append_right _ (by simp)
theorem mkAdd_idx {a : List (List Int)} {x y : List Int} (h : y ∈ a) : (mkAdd a x).idxOf y = a.idxOf y := by
  unfold mkAdd
  split
  · rfl
  · rw [List.idxOf_append, if_pos h]
theorem MkI.step {mk : Nat → List Int} {pre : List Nat} {a : List (List Int)} (h : MkI mk pre a) (s : Nat) : MkI mk (pre ++ [s]) (mkAdd a (mk s)) := by
  refine ⟨?_, fun t ht => ?_, ?_⟩
  · unfold mkAdd
    split
    · exact h.nd
    · rename_i hn
      rw [List.nodup_append]
      exact ⟨h.nd, by simp, fun x hx y hy e => by
        have : y = mk s := by simpa using hy
        subst this
        subst e
        exact hn hx⟩
  · rcases List.mem_append.mp ht with ht | ht
    · exact mkAdd_sub (h.mem t ht)
    · have : t = s := by simpa using ht
      subst this
      exact mkAdd_self _ _
  · unfold mkAdd
    have := h.len
    split
    · rw [List.length_append]; omega
    · rw [List.length_append, List.length_append]
      simp
      omega
theorem mk_fold {mk : Nat → List Int} : ∀ (l pre : List Nat) (a : List (List Int)), MkI mk pre a → MkI mk (pre ++ l) (l.foldl (fun a s => mkAdd a (mk s)) a)
  | [], pre, a, h => by rw [List.append_nil]; exact h
  | s :: l, pre, a, h => by
    have := mk_fold l (pre ++ [s]) _ (h.step s)
    rw [List.append_assoc] at this
    exact this
theorem marksOf_I (m : Mc) (live : List Nat) (lf : Nat → Nat) : MkI (mark m live lf) live (marksOf m live lf) := mk_fold live [] [] ⟨List.nodup_nil, fun s hs => (nomatch hs), Nat.le_refl _⟩
theorem nodup_full {k : Nat} {l : List Nat} (hn : l.Nodup) (hl : ∀ x ∈ l, x < k) (hk : k ≤ l.length) {x : Nat} (hx : x < k) : x ∈ l := by
  by_cases h : x ∈ l
  · exact h
  · have := nodup_le (N := k) (l := x :: l) (List.nodup_cons.mpr ⟨h, hn⟩) fun y hy => by
      rcases List.mem_cons.mp hy with e | e
      · subst e; exact hx
      · exact hl y e
    rw [List.length_cons] at this
    omega
theorem rnd_lt {m : Mc} {live : List Nat} {lf : Nat → Nat} {s : Nat} (hs : s ∈ live) : rnd m live lf s < (marksOf m live lf).length := List.idxOf_lt_length_of_mem ((marksOf_I m live lf).mem s hs)
theorem rnd_eq {m : Mc} {live : List Nat} {lf : Nat → Nat} {s t : Nat} (hs : s ∈ live) (ht : t ∈ live) (h : rnd m live lf s = rnd m live lf t) : mark m live lf s = mark m live lf t := by
  have I := marksOf_I m live lf
  have h1 := List.getElem_idxOf (rnd_lt (m := m) (lf := lf) hs)
  have h2 := List.getElem_idxOf (rnd_lt (m := m) (lf := lf) ht)
  rw [← h1, ← h2]
  congr 1
theorem mark_head {m : Mc} {live : List Nat} {lf : Nat → Nat} {s t : Nat} (h : mark m live lf s = mark m live lf t) : lf s = lf t := by
  have := (List.cons.inj h).1
  omega
theorem ngI_inj {a b : Option Nat} (h : ngI a = ngI b) : a = b := by
  cases a with
  | none => cases b with
    | none => rfl
    | some y => have : (-1 : Int) = (y : Int) := h; omega
  | some x => cases b with
    | none => have : (x : Int) = -1 := h; omega
    | some y => have : (x : Int) = (y : Int) := h; rw [show x = y by omega]
theorem getD_map' {α β : Type} (F : α → β) (d : α) (r : List α) (x : Nat) : (r.map F).getD x (F d) = F (r.getD x d) := by
  rw [List.getD_eq_getElem?_getD, List.getD_eq_getElem?_getD, List.getElem?_map]
  cases r[x]? <;> rfl
theorem mark_tail {m : Mc} {live : List Nat} {lf : Nat → Nat} {s t : Nat} (h : mark m live lf s = mark m live lf t) (x : Nat) : tgL live lf ((m.row s).getD x none) = tgL live lf ((m.row t).getD x none) := by
  have e := (List.cons.inj h).2
  apply ngI_inj
  rw [← getD_map' (fun o => ngI (tgL live lf o)) none, ← getD_map' (fun o => ngI (tgL live lf o)) none, e]
/-- how many values a function has on a list -/
def distF (lf : Nat → Nat) (live : List Nat) : List Nat := live.foldl (fun a s => if lf s ∈ a then a else a ++ [lf s]) []
structure DsI (lf : Nat → Nat) (pre : List Nat) (a : List Nat) : Prop where
  nd : a.Nodup
  mem : ∀ s ∈ pre, lf s ∈ a
  from_ : ∀ v ∈ a, ∃ s ∈ pre, lf s = v
  len : a.length ≤ pre.length
theorem ds_fold {lf : Nat → Nat} : ∀ (l pre : List Nat) (a : List Nat), DsI lf pre a → DsI lf (pre ++ l) (l.foldl (fun a s => if lf s ∈ a then a else a ++ [lf s]) a)
  | [], pre, a, h => by rw [List.append_nil]; exact h
  | s :: l, pre, a, h => by
    have st : DsI lf (pre ++ [s]) (if lf s ∈ a then a else a ++ [lf s]) := by
      refine ⟨?_, fun t ht => ?_, fun v hv => ?_, ?_⟩
      · split
        · exact h.nd
        · rename_i hn
          rw [List.nodup_append]
          exact ⟨h.nd, by simp, fun x hx y hy e => by
            have : y = lf s := by simpa using hy
            subst this
            subst e
            exact hn hx⟩
      · rcases List.mem_append.mp ht with ht | ht
        · split
          · exact h.mem t ht
          · exact List.mem_append_left _ (h.mem t ht)
        · have : t = s := by simpa using ht
          subst this
          split
          · assumption
          · exact List.mem_append_right _ (by simp)
      · split at hv
        · obtain ⟨t, ht, e⟩ := h.from_ v hv
          exact ⟨t, List.mem_append_left _ ht, e⟩
        · rcases List.mem_append.mp hv with hv | hv
          · obtain ⟨t, ht, e⟩ := h.from_ v hv
            exact ⟨t, List.mem_append_left _ ht, e⟩
          · have : v = lf s := by simpa using hv
            exact ⟨s, List.mem_append_right _ (by simp), this.symm⟩
      · have := h.len
        split
        · rw [List.length_append]; omega
        · rw [List.length_append, List.length_append]
          simp
          omega
    have := ds_fold l (pre ++ [s]) _ st
    rw [List.append_assoc] at this
    exact this
theorem distF_I (lf : Nat → Nat) (live : List Nat) : DsI lf live (distF lf live) := ds_fold live [] [] ⟨List.nodup_nil, fun s hs => (nomatch hs), fun v hv => (nomatch hv), Nat.le_refl _⟩
theorem rnd_dist {m : Mc} {live : List Nat} {lf : Nat → Nat} : (distF (rnd m live lf) live).length = (marksOf m live lf).length := by
  have D := distF_I (rnd m live lf) live
  have I := marksOf_I m live lf
  have h1 : (distF (rnd m live lf) live).length ≤ (marksOf m live lf).length := nodup_le D.nd fun v hv => by
    obtain ⟨s, hs, e⟩ := D.from_ v hv
    rw [← e]
    exact rnd_lt hs
  have fromM : ∀ (l pre : List Nat) (a : List (List Int)), (∀ x ∈ a, ∃ s ∈ pre, mark m live lf s = x) → ∀ x ∈ l.foldl (fun a s => mkAdd a (mark m live lf s)) a, ∃ s ∈ pre ++ l, mark m live lf s = x := by
    intro l
    induction l with
    | nil => intro pre a h x hx; rw [List.append_nil]; exact h x hx
    | cons s l ih =>
      intro pre a h x hx
      have := ih (pre ++ [s]) (mkAdd a (mark m live lf s)) (fun y hy => by
        unfold mkAdd at hy
        split at hy
        · obtain ⟨t, ht, e⟩ := h y hy
          exact ⟨t, List.mem_append_left _ ht, e⟩
        · rcases List.mem_append.mp hy with hy | hy
          · obtain ⟨t, ht, e⟩ := h y hy
            exact ⟨t, List.mem_append_left _ ht, e⟩
          · have : y = mark m live lf s := by simpa using hy
            exact ⟨s, List.mem_append_right _ (by simp), this.symm⟩) x hx
      rw [List.append_assoc] at this
      exact this
  have h2 : (marksOf m live lf).length ≤ (distF (rnd m live lf) live).length := by
    have := nodup_le (N := (distF (rnd m live lf) live).length) (l := (List.range (marksOf m live lf).length).map fun i => (distF (rnd m live lf) live).idxOf i) ?_ ?_
    · rw [List.length_map, List.length_range] at this
      exact this
    · have mem : ∀ i, i < (marksOf m live lf).length → i ∈ distF (rnd m live lf) live := fun i hi => by
        obtain ⟨s, hs, e⟩ := fromM live [] [] (fun x hx => nomatch hx) _ (List.getElem_mem hi)
        rw [List.nil_append] at hs
        have e2 : rnd m live lf s = i := by
          unfold rnd
          rw [e]
          exact List.Nodup.idxOf_getElem I.nd i hi
        rw [← e2]
        exact D.mem s hs
      rw [List.nodup_iff_pairwise_ne, List.pairwise_map]
      refine List.Pairwise.imp_of_mem ?_ (List.nodup_iff_pairwise_ne.mp List.nodup_range)
      intro a b ha hb hab e
      have ma := mem a (List.mem_range.mp ha)
      have mb := mem b (List.mem_range.mp hb)
      have g1 := List.getElem_idxOf (List.idxOf_lt_length_of_mem ma)
      have g2 := List.getElem_idxOf (List.idxOf_lt_length_of_mem mb)
      apply hab
      rw [← g1, ← g2]
      congr 1
    · intro x hx
      obtain ⟨i, hi, e⟩ := List.mem_map.mp hx
      subst e
      obtain ⟨s, hs, e⟩ := fromM live [] [] (fun x hx => nomatch hx) _ (List.getElem_mem (List.mem_range.mp hi))
      rw [List.nil_append] at hs
      refine List.idxOf_lt_length_of_mem ?_
      have e2 : rnd m live lf s = i := by
        unfold rnd
        rw [e]
        exact List.Nodup.idxOf_getElem I.nd i (List.mem_range.mp hi)
      rw [← e2]
      exact D.mem s hs
  omega
/-- as many lots as before: the same lots -/
theorem rnd_same {m : Mc} {live : List Nat} {lf : Nat → Nat} (h : (marksOf m live lf).length ≤ (distF lf live).length) {s t : Nat} (hs : s ∈ live) (ht : t ∈ live) (e : lf s = lf t) : rnd m live lf s = rnd m live lf t := by
  have D := distF_I lf live
  -- a state of each lot
  have rep : ∀ v, ∃ r, v ∈ distF lf live → r ∈ live ∧ lf r = v := fun v => by
    by_cases hv : v ∈ distF lf live
    · obtain ⟨r, hr, er⟩ := D.from_ v hv
      exact ⟨r, fun _ => ⟨hr, er⟩⟩
    · exact ⟨0, fun z => absurd z hv⟩
  obtain ⟨r, hr⟩ := Classical.axiomOfChoice rep
  have nd : ((distF lf live).map fun v => rnd m live lf (r v)).Nodup := by
    rw [List.nodup_iff_pairwise_ne, List.pairwise_map]
    refine List.Pairwise.imp_of_mem ?_ (List.nodup_iff_pairwise_ne.mp D.nd)
    intro a b ha hb hab q
    have q2 := mark_head (rnd_eq (hr a ha).1 (hr b hb).1 q)
    rw [(hr a ha).2, (hr b hb).2] at q2
    exact hab q2
  have all : ∀ x, x < (marksOf m live lf).length → x ∈ (distF lf live).map fun v => rnd m live lf (r v) := fun x hx => nodup_full nd (fun y hy => by
    obtain ⟨v, hv, rfl⟩ := List.mem_map.mp hy
    exact rnd_lt (hr v hv).1) (by rw [List.length_map]; exact h) hx
  have key : ∀ u, u ∈ live → rnd m live lf u = rnd m live lf (r (lf u)) := fun u hu => by
    obtain ⟨v, hv, ev⟩ := List.mem_map.mp (all _ (rnd_lt hu))
    have q2 := mark_head (rnd_eq (hr v hv).1 hu ev)
    rw [(hr v hv).2] at q2
    rw [← ev, q2]
  rw [key s hs, key t ht, e]
/-- a partition that steps keep -/
structure Part (m : Mc) (live : List Nat) (lf : Nat → Nat) : Prop where
  ends : ∀ s ∈ live, ∀ t ∈ live, lf s = lf t → m.ed s = m.ed t
  step : ∀ s ∈ live, ∀ t ∈ live, lf s = lf t → ∀ x, tgL live lf ((m.row s).getD x none) = tgL live lf ((m.row t).getD x none)
  lt : ∀ s ∈ live, lf s < live.length
theorem part_rnd {m : Mc} {live : List Nat} {lf : Nat → Nat} (he : ∀ s ∈ live, ∀ t ∈ live, lf s = lf t → m.ed s = m.ed t) (h : (marksOf m live lf).length ≤ (distF lf live).length) : Part m live (rnd m live lf) := by
  refine ⟨fun s hs t ht e => he s hs t ht (mark_head (rnd_eq hs ht e)), fun s hs t ht e x => ?_, fun s hs => Nat.lt_of_lt_of_le (rnd_lt hs) (marksOf_I m live lf).len⟩
  have q := mark_tail (rnd_eq hs ht e) x
  have look : ∀ o : Option Nat, tgL live (rnd m live lf) o = o.bind fun u => if u ∈ live then some (rnd m live lf u) else none := fun o => rfl
  have look0 : ∀ o : Option Nat, tgL live lf o = o.bind fun u => if u ∈ live then some (lf u) else none := fun o => rfl
  rw [look, look]
  rw [look0, look0] at q
  cases h1 : (m.row s).getD x none with
  | none =>
    rw [h1] at q
    cases h2 : (m.row t).getD x none with
    | none => rfl
    | some b =>
      rw [h2] at q
      simp only [Option.bind_none, Option.bind_some] at q ⊢
      by_cases hb : b ∈ live
      · rw [if_pos hb] at q; cases q
      · rw [if_neg hb]
  | some a =>
    rw [h1] at q
    cases h2 : (m.row t).getD x none with
    | none =>
      rw [h2] at q
      simp only [Option.bind_none, Option.bind_some] at q ⊢
      by_cases ha : a ∈ live
      · rw [if_pos ha] at q; cases q
      · rw [if_neg ha]
    | some b =>
      rw [h2] at q
      simp only [Option.bind_some] at q ⊢
      by_cases ha : a ∈ live
      · by_cases hb : b ∈ live
        · rw [if_pos ha, if_pos hb] at q ⊢
          rw [rnd_same h ha hb (Option.some.inj q)]
        · rw [if_pos ha, if_neg hb] at q; cases q
      · by_cases hb : b ∈ live
        · rw [if_neg ha, if_pos hb] at q; cases q
        · rw [if_neg ha, if_neg hb]
end Dt.K84
set_option maxHeartbeats 4000000
/-! k84, plain: the least machine counts alike. -/
namespace Dt.K84
def val (f : Nat → Nat) : Option Nat → Nat
  | none => 0
  | some t => f t
theorem osum_zip (f g : Nat → Nat) : ∀ {r r' : List (Option Nat)}, r.length = r'.length → (∀ x, x < r.length → val f (r.getD x none) = val g (r'.getD x none)) → osum f r = osum g r'
  | [], [], _, _ => rfl
  | [], _ :: _, h, _ => by simp at h
  | _ :: _, [], h, _ => by simp at h
  | a :: r, b :: r', h, hx => by
    have h0 := hx 0 (by simp)
    have ih := osum_zip f g (r := r) (r' := r') (by simpa using h) fun x hx' => hx (x + 1) (by simpa using hx')
    have e1 : ∀ (f : Nat → Nat) (a : Option Nat) (r : List (Option Nat)), osum f (a :: r) = val f a + osum f r := fun f a r => by
      cases a with
      | none => exact (Nat.zero_add _).symm
      | some t => rfl
    rw [e1, e1, ih]
    have : val f a = val g b := h0
    rw [this]
theorem osum_pos {f : Nat → Nat} : ∀ {r : List (Option Nat)}, osum f r ≠ 0 → ∃ t, some t ∈ r ∧ f t ≠ 0
  | [], h => absurd rfl h
  | none :: r, h => by
    obtain ⟨t, ht, hf⟩ := osum_pos (r := r) h
    exact ⟨t, List.mem_cons_of_mem _ ht, hf⟩
  | some t :: r, h => by
    by_cases hz : f t = 0
    · obtain ⟨u, hu, hf⟩ := osum_pos (f := f) (r := r) (by intro e; apply h; show f t + osum f r = 0; omega)
      exact ⟨u, List.mem_cons_of_mem _ hu, hf⟩
    · exact ⟨t, List.mem_cons_self, hz⟩
theorem cnt_pos {m : Mc} (V : VM m) : ∀ (n s : Nat), s < m.rows.length → cnt m n s ≠ 0 → ∃ i, i < m.rows.length ∧ m.ed i = 1 ∧ Rch m.row s i
  | 0, s, hs, h => ⟨s, hs, by have := V.ed_le s; have : m.ed s ≠ 0 := h; omega, .refl s⟩
  | n + 1, s, hs, h => by
    obtain ⟨t, ht, hf⟩ := osum_pos (show osum (cnt m n) (m.row s) ≠ 0 from h)
    obtain ⟨i, h1, h2, h3⟩ := cnt_pos V n t (row_lt V s t ht) hf
    exact ⟨i, h1, h2, rch_head ht h3⟩
theorem dead_zero {m : Mc} (V : VM m) {t : Nat} (hm : t ∈ metOf m) (hl : t ∉ liveOf m) (n : Nat) : cnt m n t = 0 := by
  by_cases h : cnt m n t = 0
  · exact h
  · have ht : t < m.rows.length := (metI V).lt t hm
    exact absurd (live_iff.mpr ⟨ht, hm, (end_iff V).mpr (cnt_pos V n t ht h)⟩) hl
theorem met_step {m : Mc} (V : VM m) {s t : Nat} (hs : s ∈ metOf m) (ht : some t ∈ m.row s) : t ∈ metOf m := (met_iff V).mpr (.tail ((met_iff V).mp hs) ht)
theorem part_cnt {m : Mc} (V : VM m) {lf : Nat → Nat} (P : Part m (liveOf m) lf) : ∀ (n s t : Nat), s ∈ liveOf m → t ∈ liveOf m → lf s = lf t → cnt m n s = cnt m n t
  | 0, s, t, hs, ht, e => P.ends s hs t ht e
  | n + 1, s, t, hs, ht, e => by
    have ls := live_iff.mp hs
    have lt := live_iff.mp ht
    refine osum_zip _ _ (by rw [V.row_len ls.1, V.row_len lt.1]) fun x _ => ?_
    have q := P.step s hs t ht e x
    have zero : ∀ (s : Nat) (o : Option Nat), s ∈ liveOf m → (m.row s).getD x none = o → tgL (liveOf m) lf o = none → val (cnt m n) o = 0 := fun s o hs ho hq => by
      cases o with
      | none => rfl
      | some u =>
        have hu := getD_mem ho
        have hm := met_step V (live_iff.mp hs).2.1 hu
        refine dead_zero V hm (fun hl => ?_) n
        have : tgL (liveOf m) lf (some u) = some (lf u) := if_pos hl
        rw [this] at hq
        cases hq
    cases hq : tgL (liveOf m) lf ((m.row s).getD x none) with
    | none =>
      rw [zero s _ hs rfl hq, zero t _ ht rfl (q ▸ hq)]
    | some l =>
      have liv : ∀ (o : Option Nat), tgL (liveOf m) lf o = some l → ∃ u, o = some u ∧ u ∈ liveOf m ∧ lf u = l := fun o ho => by
        cases o with
        | none => cases ho
        | some u =>
          have ho' : (if u ∈ liveOf m then some (lf u) else none) = some l := ho
          by_cases hu : u ∈ liveOf m
          · rw [if_pos hu] at ho'
            exact ⟨u, rfl, hu, Option.some.inj ho'⟩
          · rw [if_neg hu] at ho'; cases ho'
      obtain ⟨u, eu, hu, lu⟩ := liv _ hq
      obtain ⟨v, ev, hv, lv⟩ := liv _ (q ▸ hq)
      rw [eu, ev]
      exact part_cnt V P n u v hu hv (lu.trans lv.symm)
/-! ### growing -/
structure GS where
  known : List Nat
  rows : List (List (Option Nat))
  ends : List Nat
def numAdd (kn : List Nat) : Option Nat → List Nat
  | none => kn
  | some k => if k ∈ kn then kn else kn ++ [k]
def numIx (kn : List Nat) (o : Option Nat) : Option Nat := o.map fun k => (numAdd kn o).idxOf k
def numStep (a : List Nat × List (Option Nat)) (o : Option Nat) : List Nat × List (Option Nat) := (numAdd a.1 o, a.2 ++ [numIx a.1 o])
def fsAdd (lf : Nat → Nat) (a : List (Nat × Nat)) (s : Nat) : List (Nat × Nat) := if (a.lookup (lf s)).isSome then a else a ++ [(lf s, s)]
def fsOf (live : List Nat) (lf : Nat → Nat) : List (Nat × Nat) := live.foldl (fsAdd lf) []
def rep (live : List Nat) (lf : Nat → Nat) (k : Nat) : Nat := (live.find? fun s => lf s == k).getD 0
theorem rep_ok {live : List Nat} {lf : Nat → Nat} {k : Nat} (h : ∃ s ∈ live, lf s = k) : rep live lf k ∈ live ∧ lf (rep live lf k) = k ∧ live.find? (fun s => lf s == k) = some (rep live lf k) := by
  obtain ⟨s, hs, e⟩ := h
  have : (live.find? fun s => lf s == k).isSome := by
    rw [List.find?_isSome]
    exact ⟨s, hs, beq_iff_eq.mpr e⟩
  obtain ⟨r, hr⟩ := Option.isSome_iff_exists.mp this
  have e2 : rep live lf k = r := by unfold rep; rw [hr]; rfl
  rw [e2]
  exact ⟨List.mem_of_find?_eq_some hr, by have := List.find?_some hr; exact beq_iff_eq.mp this, hr⟩
theorem fs_look (lf : Nat → Nat) (k : Nat) : ∀ (l : List Nat) (a : List (Nat × Nat)), (l.foldl (fsAdd lf) a).lookup k = (a.lookup k).or (l.find? fun s => lf s == k)
  | [], a => by rw [List.foldl_nil, List.find?_nil, Option.or_none]
  | s :: l, a => by
    rw [List.foldl_cons, fs_look lf k l, List.find?_cons]
    unfold fsAdd
    by_cases h : (a.lookup (lf s)).isSome = true
    · rw [if_pos h]
      by_cases e : lf s = k
      · rw [beq_iff_eq.mpr e]
        rw [e] at h
        obtain ⟨v, hv⟩ := Option.isSome_iff_exists.mp h
        rw [hv]
        rfl
      · rw [beq_eq_false_iff_ne.mpr e]
    · rw [if_neg h]
      have hn : a.lookup (lf s) = none := by
        cases hq : a.lookup (lf s) with
        | none => rfl
        | some v => rw [hq] at h; exact absurd rfl h
      rw [List.lookup_append]
      by_cases e : lf s = k
      · rw [beq_iff_eq.mpr e]
        rw [e] at hn
        rw [hn, e]
        simp
      · rw [beq_eq_false_iff_ne.mpr e]
        have : ([(lf s, s)] : List (Nat × Nat)).lookup k = none := by
          rw [List.lookup_cons]
          rw [beq_eq_false_iff_ne.mpr fun z => e z.symm]
          rfl
        rw [this, Option.or_none]
theorem fsOf_look (live : List Nat) (lf : Nat → Nat) (k : Nat) : (fsOf live lf).lookup k = live.find? fun s => lf s == k := by
  unfold fsOf
  rw [fs_look]
  rfl
def gKeys (m : Mc) (live : List Nat) (lf : Nat → Nat) (k : Nat) : List (Option Nat) := (m.row (rep live lf k)).map (tgL live lf)
def gStep (m : Mc) (live : List Nat) (lf : Nat → Nat) (a : GS) : GS :=
  let k := a.known.getD a.rows.length 0
  let b := (gKeys m live lf k).foldl numStep (a.known, [])
  ⟨b.1, a.rows ++ [b.2], a.ends ++ [if m.ed (rep live lf k) = 1 then 1 else 0]⟩
def gStop (a : GS) : Bool := !decide (a.rows.length < a.known.length)
def gStart (lf : Nat → Nat) : GS := ⟨[lf 0], [], []⟩
def gOf (m : Mc) (live : List Nat) (lf : Nat → Nat) : GS := runF (gStep m live lf) gStop (live.length + 1) (gStart lf)
/-- what is known of the numbers -/
structure KnI (live : List Nat) (lf : Nat → Nat) (kn : List Nat) : Prop where
  nd : kn.Nodup
  from_ : ∀ k ∈ kn, ∃ s ∈ live, lf s = k
theorem tgL_some {live : List Nat} {lf : Nat → Nat} {o : Option Nat} {k : Nat} (h : tgL live lf o = some k) : ∃ u, o = some u ∧ u ∈ live ∧ lf u = k := by
  cases o with
  | none => cases h
  | some u =>
    have ho' : (if u ∈ live then some (lf u) else none) = some k := h
    by_cases hu : u ∈ live
    · rw [if_pos hu] at ho'
      exact ⟨u, rfl, hu, Option.some.inj ho'⟩
    · rw [if_neg hu] at ho'; cases ho'
theorem numAdd_sub {kn : List Nat} {o : Option Nat} {x : Nat} (h : x ∈ kn) : x ∈ numAdd kn o := by
  cases o with
  | none => exact h
  | some k =>
    unfold numAdd
    simp only
    split
    · exact h
    · exact List.mem_append_left _ h
theorem numAdd_self (kn : List Nat) (k : Nat) : k ∈ numAdd kn (some k) := by
  unfold numAdd
  simp only
  split
  · assumption
  · exact List.mem_append_right _ (by simp)
theorem numAdd_idx {kn : List Nat} {o : Option Nat} {x : Nat} (h : x ∈ kn) : (numAdd kn o).idxOf x = kn.idxOf x := by
  cases o with
  | none => rfl
  | some k =>
    unfold numAdd
    simp only
    split
    · rfl
    · rw [List.idxOf_append, if_pos h]
theorem numAdd_pre (kn : List Nat) (o : Option Nat) : ∃ e, numAdd kn o = kn ++ e := by
  cases o with
  | none => exact ⟨[], (List.append_nil _).symm⟩
  | some k =>
    unfold numAdd
    simp only
    split
    · exact ⟨[], (List.append_nil _).symm⟩
    · exact ⟨[k], rfl⟩
theorem numAdd_I {live : List Nat} {lf : Nat → Nat} {kn : List Nat} {o : Option Nat} (h : KnI live lf kn) (ho : ∀ k, o = some k → ∃ s ∈ live, lf s = k) : KnI live lf (numAdd kn o) := by
  cases o with
  | none => exact h
  | some k =>
    unfold numAdd
    simp only
    split
    · exact h
    · rename_i hn
      refine ⟨?_, fun x hx => ?_⟩
      · rw [List.nodup_append]
        exact ⟨h.nd, by simp, fun x hx y hy e => by
          have : y = k := by simpa using hy
          subst this
          subst e
          exact hn hx⟩
      · rcases List.mem_append.mp hx with hx | hx
        · exact h.from_ x hx
        · have : x = k := by simpa using hx
          subst this
          exact ho _ rfl
/-- what a row becomes -/
structure NmI (live : List Nat) (lf : Nat → Nat) (kn0 : List Nat) (pre : List (Option Nat)) (a : List Nat × List (Option Nat)) : Prop where
  kn : KnI live lf a.1
  ext : ∃ e, a.1 = kn0 ++ e
  row : a.2 = pre.map fun o => o.map fun k => a.1.idxOf k
  mem : ∀ k, some k ∈ pre → k ∈ a.1
theorem idx_ext {kn e : List Nat} {k : Nat} (h : k ∈ kn) : (kn ++ e).idxOf k = kn.idxOf k := by rw [List.idxOf_append, if_pos h]
theorem NmI.step {live : List Nat} {lf : Nat → Nat} {kn0 : List Nat} {pre : List (Option Nat)} {a : List Nat × List (Option Nat)} {o : Option Nat} (h : NmI live lf kn0 pre a) (ho : ∀ k, o = some k → ∃ s ∈ live, lf s = k) : NmI live lf kn0 (pre ++ [o]) (numStep a o) := by
  refine ⟨numAdd_I h.kn ho, ?_, ?_, fun k hk => ?_⟩
  · obtain ⟨e, he⟩ := h.ext
    obtain ⟨e', he'⟩ := numAdd_pre a.1 o
    exact ⟨e ++ e', by show numAdd a.1 o = _; rw [he', he, List.append_assoc]⟩
  · show a.2 ++ [numIx a.1 o] = _
    rw [List.map_append, h.row]
    congr 1
    refine List.map_congr_left fun q hq => ?_
    cases q with
    | none => rfl
    | some k =>
      show some _ = some _
      congr 1
      exact (numAdd_idx (h.mem k hq)).symm
  · rcases List.mem_append.mp hk with hk | hk
    · exact numAdd_sub (h.mem k hk)
    · have : o = some k := (List.mem_singleton.mp hk).symm
      subst this
      exact numAdd_self _ _
theorem nm_fold {live : List Nat} {lf : Nat → Nat} {kn0 : List Nat} : ∀ (os pre : List (Option Nat)) (a : List Nat × List (Option Nat)), NmI live lf kn0 pre a → (∀ k, some k ∈ os → ∃ s ∈ live, lf s = k) → NmI live lf kn0 (pre ++ os) (os.foldl numStep a)
  | [], pre, a, h, _ => by rw [List.append_nil]; exact h
  | o :: os, pre, a, h, ho => by
    have := nm_fold os (pre ++ [o]) _ (h.step fun k e => ho k (by rw [e]; exact List.mem_cons_self)) fun k hk => ho k (List.mem_cons_of_mem _ hk)
    rw [List.append_assoc] at this
    exact this
structure GI (m : Mc) (live : List Nat) (lf : Nat → Nat) (a : GS) : Prop where
  kn : KnI live lf a.known
  hd : a.known.head? = some (lf 0)
  le : a.rows.length ≤ a.known.length
  el : a.ends.length = a.rows.length
  row : ∀ i, i < a.rows.length → a.rows[i]? = some ((gKeys m live lf (a.known.getD i 0)).map fun o => o.map fun k => a.known.idxOf k) ∧ (∀ k, some k ∈ gKeys m live lf (a.known.getD i 0) → k ∈ a.known) ∧ a.ends[i]? = some (if m.ed (rep live lf (a.known.getD i 0)) = 1 then 1 else 0)
theorem KnI.len {live : List Nat} {lf : Nat → Nat} {kn : List Nat} (h : KnI live lf kn) (hl : ∀ s ∈ live, lf s < live.length) : kn.length ≤ live.length := nodup_le h.nd fun k hk => by
  obtain ⟨s, hs, e⟩ := h.from_ k hk
  rw [← e]
  exact hl s hs
theorem getD_app {l e : List Nat} {i : Nat} (h : i < l.length) : (l ++ e).getD i 0 = l.getD i 0 := by
  rw [List.getD_eq_getElem?_getD, List.getD_eq_getElem?_getD, List.getElem?_append_left h]
theorem gKeys_from {m : Mc} {live : List Nat} {lf : Nat → Nat} {k0 k : Nat} (h : some k ∈ gKeys m live lf k0) : ∃ s ∈ live, lf s = k := by
  obtain ⟨o, _, ho⟩ := List.mem_map.mp h
  obtain ⟨u, _, hu, e⟩ := tgL_some ho
  exact ⟨u, hu, e⟩
theorem g_step {m : Mc} {live : List Nat} {lf : Nat → Nat} {a : GS} (hl : ∀ s ∈ live, lf s < live.length) (h : GI m live lf a) (hs : gStop a = false) : GI m live lf (gStep m live lf a) ∧ live.length - (gStep m live lf a).rows.length < live.length - a.rows.length := by
  have hlt : a.rows.length < a.known.length := by
    unfold gStop at hs
    have : decide (a.rows.length < a.known.length) = true := by simpa using hs
    exact of_decide_eq_true this
  have N0 : NmI live lf a.known [] (a.known, []) := ⟨h.kn, ⟨[], (List.append_nil _).symm⟩, rfl, fun k hk => (nomatch hk)⟩
  have N := nm_fold (gKeys m live lf (a.known.getD a.rows.length 0)) [] _ N0 fun k hk => gKeys_from hk
  rw [List.nil_append] at N
  have eg : gStep m live lf a = ⟨((gKeys m live lf (a.known.getD a.rows.length 0)).foldl numStep (a.known, [])).1, a.rows ++ [((gKeys m live lf (a.known.getD a.rows.length 0)).foldl numStep (a.known, [])).2], a.ends ++ [if m.ed (rep live lf (a.known.getD a.rows.length 0)) = 1 then 1 else 0]⟩ := rfl
  rw [eg]
  generalize (gKeys m live lf (a.known.getD a.rows.length 0)).foldl numStep (a.known, []) = b at N
  obtain ⟨e, he⟩ := N.ext
  refine ⟨⟨N.kn, ?_, ?_, ?_, fun i hi => ?_⟩, ?_⟩
  · show b.1.head? = _
    rw [he]
    have hd := h.hd
    cases hk : a.known with
    | nil => rw [hk] at hd; cases hd
    | cons x xs => rw [hk] at hd; exact hd
  · show (a.rows ++ [b.2]).length ≤ b.1.length
    rw [he, List.length_append, List.length_append]
    simp
    omega
  · show (a.ends ++ [_]).length = (a.rows ++ [b.2]).length
    rw [List.length_append, List.length_append, h.el]
    rfl
  · have hi' : i < (a.rows ++ [b.2]).length := hi
    rw [List.length_append, List.length_singleton] at hi'
    show (a.rows ++ [b.2])[i]? = some ((gKeys m live lf (b.1.getD i 0)).map fun o => o.map fun k => b.1.idxOf k) ∧ (∀ k, some k ∈ gKeys m live lf (b.1.getD i 0) → k ∈ b.1) ∧ (a.ends ++ [if m.ed (rep live lf (a.known.getD a.rows.length 0)) = 1 then 1 else 0])[i]? = some (if m.ed (rep live lf (b.1.getD i 0)) = 1 then 1 else 0)
    have ek : b.1.getD i 0 = a.known.getD i 0 := by rw [he]; exact getD_app (by omega)
    rw [ek]
    by_cases hir : i < a.rows.length
    · obtain ⟨r1, r2, r3⟩ := h.row i hir
      refine ⟨?_, fun k hk => ?_, ?_⟩
      · rw [List.getElem?_append_left hir, r1]
        congr 1
        refine List.map_congr_left fun q hq => ?_
        cases q with
        | none => rfl
        | some k =>
          show some _ = some _
          congr 1
          rw [he]
          exact (idx_ext (r2 k hq)).symm
      · rw [he]
        exact List.mem_append_left _ (r2 k hk)
      · rw [List.getElem?_append_left (by rw [h.el]; exact hir), r3]
    · have ei : i = a.rows.length := by omega
      subst ei
      refine ⟨?_, fun k hk => N.mem k hk, ?_⟩
      · rw [List.getElem?_append_right (Nat.le_refl _), Nat.sub_self]
        show some b.2 = _
        rw [N.row]
      · rw [List.getElem?_append_right (by rw [h.el]; exact Nat.le_refl _), h.el, Nat.sub_self]
        rfl
  · show live.length - (a.rows ++ [b.2]).length < _
    rw [List.length_append, List.length_singleton]
    have := h.kn.len hl
    omega
theorem g_start {m : Mc} {live : List Nat} {lf : Nat → Nat} (h0 : 0 ∈ live) : GI m live lf (gStart lf) :=
  ⟨⟨by simp [gStart], fun k hk => ⟨0, h0, (List.mem_singleton.mp hk).symm⟩⟩, rfl, Nat.zero_le _, rfl, fun i hi => absurd hi (Nat.not_lt_zero _)⟩
theorem g_end {m : Mc} {live : List Nat} {lf : Nat → Nat} (hl : ∀ s ∈ live, lf s < live.length) (h0 : 0 ∈ live) : GI m live lf (gOf m live lf) ∧ (gOf m live lf).rows.length = (gOf m live lf).known.length := by
  have h := runF_end (I := GI m live lf) (meas := fun a => live.length - a.rows.length) (g := gStep m live lf) (stop := gStop) (n := live.length + 1) (s := gStart lf) (fun a hi hs => g_step hl hi hs) (by show live.length - 0 < _; omega) (g_start h0)
  refine ⟨h.1, ?_⟩
  have h2 : gStop (gOf m live lf) = true := h.2
  unfold gStop at h2
  have : ¬ (gOf m live lf).rows.length < (gOf m live lf).known.length := by
    intro q
    rw [decide_eq_true q] at h2
    cases h2
  have := h.1.le
  show (gOf m live lf).rows.length = (gOf m live lf).known.length
  have h3 : (runF (gStep m live lf) gStop (live.length + 1) (gStart lf)) = gOf m live lf := rfl
  rw [h3] at this
  omega
def gMc (m : Mc) (a : GS) : Mc := ⟨m.L, a.rows, a.ends⟩
theorem gMc_ok {m : Mc} (V : VM m) {lf : Nat → Nat} (P : Part m (liveOf m) lf) (h0 : 0 ∈ liveOf m) : VM (gMc m (gOf m (liveOf m) lf)) ∧ (gOf m (liveOf m) lf).rows.length ≤ m.rows.length := by
  obtain ⟨G, ek⟩ := g_end (m := m) P.lt h0
  have hk := G.kn.len P.lt
  have hlv := live_len m
  have V63 := V.n63
  have hn : 1 ≤ (gOf m (liveOf m) lf).known.length := by
    have := G.hd
    cases hq : (gOf m (liveOf m) lf).known with
    | nil => rw [hq] at this; cases this
    | cons x xs => simp
  refine ⟨⟨V.L1, V.L48, ?_, ?_, fun r hr => ?_, fun r hr t ht => ?_, G.el, fun e he => ?_⟩, ?_⟩
  · show 1 ≤ (gOf m (liveOf m) lf).rows.length
    omega
  · show (gOf m (liveOf m) lf).rows.length < 64
    omega
  · obtain ⟨i, hi⟩ := List.getElem?_of_mem hr
    have hil : i < (gOf m (liveOf m) lf).rows.length := (List.getElem?_eq_some_iff.mp hi).1
    obtain ⟨r1, _, _⟩ := G.row i hil
    rw [show (gMc m (gOf m (liveOf m) lf)).rows[i]? = _ from r1] at hi
    cases hi
    rw [List.length_map]
    unfold gKeys
    rw [List.length_map]
    have hf := G.kn.from_ ((gOf m (liveOf m) lf).known.getD i 0) (by
      rw [List.getD_eq_getElem?_getD, List.getElem?_eq_getElem (by omega)]
      exact List.getElem_mem _)
    exact V.row_len (live_iff.mp (rep_ok hf).1).1
  · obtain ⟨i, hi⟩ := List.getElem?_of_mem hr
    have hil := (List.getElem?_eq_some_iff.mp hi).1
    obtain ⟨r1, r2, _⟩ := G.row i hil
    rw [show (gMc m (gOf m (liveOf m) lf)).rows[i]? = _ from r1] at hi
    cases hi
    obtain ⟨o, ho, eo⟩ := List.mem_map.mp ht
    cases o with
    | none => cases eo
    | some k =>
      cases eo
      show List.idxOf k _ < (gOf m (liveOf m) lf).rows.length
      rw [ek]
      exact List.idxOf_lt_length_of_mem (r2 k ho)
  · obtain ⟨i, hi⟩ := List.getElem?_of_mem he
    have hil := (List.getElem?_eq_some_iff.mp hi).1
    obtain ⟨_, _, r3⟩ := G.row i (by have : i < (gOf m (liveOf m) lf).ends.length := hil; rw [G.el] at this; exact this)
    rw [show (gMc m (gOf m (liveOf m) lf)).ends[i]? = _ from r3] at hi
    cases hi
    split <;> omega
  · omega
theorem g_cnt {m : Mc} (V : VM m) {lf : Nat → Nat} (P : Part m (liveOf m) lf) (h0 : 0 ∈ liveOf m) : ∀ (n i : Nat), i < (gOf m (liveOf m) lf).rows.length → cnt (gMc m (gOf m (liveOf m) lf)) n i = cnt m n (rep (liveOf m) lf ((gOf m (liveOf m) lf).known.getD i 0)) := by
  obtain ⟨G, ek⟩ := g_end (m := m) P.lt h0
  have mem : ∀ i, i < (gOf m (liveOf m) lf).rows.length → (gOf m (liveOf m) lf).known.getD i 0 ∈ (gOf m (liveOf m) lf).known := fun i hi => by
    rw [List.getD_eq_getElem?_getD, List.getElem?_eq_getElem (by omega)]
    exact List.getElem_mem _
  intro n
  induction n with
  | zero =>
    intro i hi
    obtain ⟨_, _, r3⟩ := G.row i hi
    show (gOf m (liveOf m) lf).ends.getD i 0 = m.ed _
    rw [List.getD_eq_getElem?_getD, r3]
    show (if m.ed _ = 1 then 1 else 0) = m.ed _
    have := V.ed_le (rep (liveOf m) lf ((gOf m (liveOf m) lf).known.getD i 0))
    split <;> omega
  | succ n ih =>
    intro i hi
    obtain ⟨r1, r2, _⟩ := G.row i hi
    obtain ⟨q1, q2, _⟩ := rep_ok (G.kn.from_ _ (mem i hi))
    have q1' := live_iff.mp q1
    show osum _ ((gOf m (liveOf m) lf).rows.getD i []) = osum _ (m.row _)
    rw [List.getD_eq_getElem?_getD, r1]
    show osum _ ((gKeys m (liveOf m) lf _).map _) = _
    unfold gKeys at r2 ⊢
    rw [List.map_map]
    refine osum_zip _ _ (List.length_map _) fun x hx => ?_
    rw [List.length_map] at hx
    have hv : ∀ o : Option Nat, (m.row (rep (liveOf m) lf ((gOf m (liveOf m) lf).known.getD i 0))).getD x none = o → val (cnt (gMc m (gOf m (liveOf m) lf)) n) ((tgL (liveOf m) lf o).map fun k => (gOf m (liveOf m) lf).known.idxOf k) = val (cnt m n) o := fun o ho => by
      cases o with
      | none => rfl
      | some u =>
        have hu := getD_mem ho
        by_cases hl : u ∈ liveOf m
        · have e1 : tgL (liveOf m) lf (some u) = some (lf u) := if_pos hl
          rw [e1]
          have hk : lf u ∈ (gOf m (liveOf m) lf).known := r2 (lf u) (List.mem_map.mpr ⟨some u, hu, e1⟩)
          have hix := List.idxOf_lt_length_of_mem hk
          show cnt _ n ((gOf m (liveOf m) lf).known.idxOf (lf u)) = cnt m n u
          rw [ih _ (by omega)]
          have eg : (gOf m (liveOf m) lf).known.getD ((gOf m (liveOf m) lf).known.idxOf (lf u)) 0 = lf u := by
            rw [List.getD_eq_getElem?_getD, List.getElem?_eq_getElem hix]
            exact List.getElem_idxOf hix
          rw [eg]
          obtain ⟨s1, s2, _⟩ := rep_ok (live := liveOf m) (lf := lf) (k := lf u) ⟨u, hl, rfl⟩
          exact part_cnt V P n _ _ s1 hl s2
        · have e1 : tgL (liveOf m) lf (some u) = none := if_neg hl
          rw [e1]
          exact (dead_zero V (met_step V q1'.2.1 hu) hl n).symm
    rw [show ((m.row (rep (liveOf m) lf ((gOf m (liveOf m) lf).known.getD i 0))).map ((fun o => o.map fun k => (gOf m (liveOf m) lf).known.idxOf k) ∘ tgL (liveOf m) lf)).getD x none = ((fun o => Option.map (fun k => (gOf m (liveOf m) lf).known.idxOf k) o) ∘ tgL (liveOf m) lf) ((m.row (rep (liveOf m) lf ((gOf m (liveOf m) lf).known.getD i 0))).getD x none) from getD_map' _ none _ x]
    exact hv _ rfl
theorem live_zero {m : Mc} (V : VM m) (h : liveOf m ≠ []) : 0 ∈ liveOf m := by
  cases hl : liveOf m with
  | nil => exact absurd hl h
  | cons s r =>
    have hs : s ∈ liveOf m := by rw [hl]; exact List.mem_cons_self
    obtain ⟨h1, h2, h3⟩ := live_iff.mp hs
    obtain ⟨i, i1, i2, i3⟩ := (end_iff V).mp h3
    rw [← hl]
    exact live_iff.mpr ⟨Nat.lt_of_lt_of_le Nat.zero_lt_one V.n1, (met_iff V).mpr (.refl 0), (end_iff V).mpr ⟨i, i1, i2, rch_trans ((met_iff V).mp h2) i3⟩⟩
theorem g_cnt0 {m : Mc} (V : VM m) {lf : Nat → Nat} (P : Part m (liveOf m) lf) (h0 : 0 ∈ liveOf m) (n : Nat) : cnt (gMc m (gOf m (liveOf m) lf)) n 0 = cnt m n 0 := by
  obtain ⟨G, ek⟩ := g_end (m := m) P.lt h0
  have hd := G.hd
  have hn : 0 < (gOf m (liveOf m) lf).rows.length := Nat.lt_of_lt_of_le Nat.zero_lt_one (gMc_ok V P h0).1.n1
  rw [g_cnt V P h0 n 0 hn]
  have e0 : (gOf m (liveOf m) lf).known.getD 0 0 = lf 0 := by
    cases hq : (gOf m (liveOf m) lf).known with
    | nil => rw [hq] at hd; cases hd
    | cons x xs => rw [hq] at hd; cases hd; rfl
  rw [e0]
  obtain ⟨s1, s2, _⟩ := rep_ok (live := liveOf m) (lf := lf) (k := lf 0) ⟨0, h0, rfl⟩
  exact part_cnt V P n _ _ s1 h0 s2
end Dt.K84
set_option maxHeartbeats 4000000
/-! k84: parted, walked. -/
namespace Dt.K84
open PySem PySem.Spec L2 Dt
open PyProof.Rows (envOfC)
theorem It1.foldP {α : Type} {R : DV → Slots → Store → Out → Prop} {f : α → DV} (δ : List α → Slots) (μ : List α → Store) (as : List α) (h : ∀ pre s rest, pre ++ s :: rest = as → R (f s) (δ pre) (μ pre) (.nx (δ (pre ++ [s])) (μ (pre ++ [s])))) : It1 R (as.map f) (δ []) (μ []) (.nx (δ as) (μ as)) := by
  have key : ∀ rest pre, pre ++ rest = as → It1 R (rest.map f) (δ pre) (μ pre) (.nx (δ as) (μ as)) := by
    intro rest
    induction rest with
    | nil =>
      intro pre e
      rw [List.append_nil] at e
      subst e
      exact .nil
    | cons s rest ih =>
      intro pre e
      exact .next (h pre s rest e) (ih (pre ++ [s]) (by rw [List.append_assoc]; exact e))
  exact key as [] rfl
def lotsK (live : List Nat) (lf : Nat → Nat) : List (Nat × DV) := live.map fun s => (s, .i (lf s : Int))
theorem lotsK_look (lf : Nat → Nat) (t : Nat) : ∀ live : List Nat, (lotsK live lf).lookup t = (lkL live lf t).map fun l => DV.i (l : Int)
  | [] => rfl
  | a :: live => by
    have ih := lotsK_look lf t live
    unfold lotsK lkL at ih ⊢
    rw [List.map_cons, List.lookup_cons, ih]
    by_cases h : t = a
    · subst h
      simp
    · have : (t == a) = false := beq_eq_false_iff_ne.mpr h
      rw [this]
      simp only [List.mem_cons, h, false_or]
theorem lotsK_keys (live : List Nat) (lf : Nat → Nat) : (lotsK live lf).map (·.1) = live := by
  unfold lotsK
  rw [List.map_map]
  exact List.map_id live
/-- the marks' dict -/
def mkF : Nat → List (List Int) → List (List Key × DV)
  | _, [] => []
  | i, x :: xs => (x.map Sum.inl, .i (i : Int)) :: mkF (i + 1) xs
theorem mkF_len : ∀ (i : Nat) (a : List (List Int)), (mkF i a).length = a.length
  | _, [] => rfl
  | i, x :: xs => by unfold mkF; rw [List.length_cons, List.length_cons, mkF_len]
theorem inls_inj {x y : List Int} : (x.map (Sum.inl : Int → Key)) = y.map Sum.inl ↔ x = y := by
  constructor
  · intro h
    induction x generalizing y with
    | nil => cases y with
      | nil => rfl
      | cons b y => cases h
    | cons a x ih => cases y with
      | nil => cases h
      | cons b y =>
        rw [List.map_cons, List.map_cons] at h
        obtain ⟨h1, h2⟩ := List.cons.inj h
        rw [Sum.inl.inj h1, ih h2]
  · intro h; rw [h]
theorem mkF_look (x : List Int) : ∀ (i : Nat) (a : List (List Int)), lookK (mkF i a) (x.map Sum.inl) = if x ∈ a then some (.i ((i + a.idxOf x : Nat) : Int)) else none
  | _, [] => rfl
  | i, y :: a => by
    have ih := mkF_look x (i + 1) a
    unfold lookK at ih ⊢
    unfold mkF
    rw [List.find?_cons]
    by_cases h : y = x
    · subst h
      rw [decide_eq_true rfl]
      simp
    · rw [decide_eq_false fun z => h (inls_inj.mp z)]
      rw [ih]
      have h' : ¬ x = y := fun z => h z.symm
      simp only [List.mem_cons, h', false_or]
      split
      · rw [List.idxOf_cons]
        have : (y == x) = false := beq_eq_false_iff_ne.mpr h
        rw [this]
        simp only [cond_false]
        congr 2
        omega
      · rfl
theorem mkF_app (x : List Int) : ∀ (i : Nat) (a : List (List Int)), mkF i (a ++ [x]) = mkF i a ++ [(x.map Sum.inl, .i ((i + a.length : Nat) : Int))]
  | _, [] => rfl
  | i, y :: a => by
    show (y.map Sum.inl, _) :: mkF (i + 1) (a ++ [x]) = (y.map Sum.inl, _) :: (mkF (i + 1) a ++ _)
    rw [mkF_app x (i + 1) a, List.length_cons, show i + 1 + a.length = i + (a.length + 1) by omega]
theorem any_look {κ : Type} [DecidableEq κ] (l : List (κ × DV)) (q : κ) : (l.any fun kv => decide (kv.1 = q)) = (lookK l q).isSome := by
  unfold lookK
  induction l with
  | nil => rfl
  | cons p l ih =>
    rw [List.any_cons, List.find?_cons]
    cases h : decide (p.1 = q) with
    | true => rfl
    | false => rw [ih]; rfl
theorem mkF_put {x : List Int} {a : List (List Int)} (h : x ∉ a) : putD (mkF 0 a) (x.map Sum.inl) (.i (a.length : Int)) = mkF 0 (a ++ [x]) := by
  unfold putD
  rw [any_look, mkF_look, if_neg h]
  show (if false = true then _ else _) = _
  rw [if_neg Bool.false_ne_true, mkF_app, Nat.zero_add]
def mkP (m : Mc) (live : List Nat) (lf : Nat → Nat) (pre : List Nat) : List (List Int) := pre.foldl (fun a s => mkAdd a (mark m live lf s)) []
theorem mkP_snoc (m : Mc) (live : List Nat) (lf : Nat → Nat) (pre : List Nat) (s : Nat) : mkP m live lf (pre ++ [s]) = mkAdd (mkP m live lf pre) (mark m live lf s) := by
  unfold mkP
  rw [List.foldl_append]
  rfl
theorem mkP_I (m : Mc) (live : List Nat) (lf : Nat → Nat) (pre : List Nat) : MkI (mark m live lf) pre (mkP m live lf pre) := mk_fold pre [] [] ⟨List.nodup_nil, fun s hs => (nomatch hs), Nat.le_refl _⟩
/-- the finer lots so far -/
def finP (m : Mc) (live : List Nat) (lf : Nat → Nat) (pre : List Nat) : List (Nat × DV) := lotsK pre fun s => (mkP m live lf pre).idxOf (mark m live lf s)
theorem finP_snoc (m : Mc) (live : List Nat) (lf : Nat → Nat) (pre : List Nat) (s : Nat) : finP m live lf (pre ++ [s]) = finP m live lf pre ++ [(s, .i (((mkAdd (mkP m live lf pre) (mark m live lf s)).idxOf (mark m live lf s) : Nat) : Int))] := by
  unfold finP lotsK
  rw [List.map_append, mkP_snoc]
  congr 1
  refine List.map_congr_left fun t ht => ?_
  show (t, DV.i (((mkAdd (mkP m live lf pre) (mark m live lf s)).idxOf (mark m live lf t) : Nat) : Int)) = _
  rw [mkAdd_idx ((mkP_I m live lf pre).mem t ht)]
theorem Keep2 {B : Store} {c d c' d' : Cell} (h : c'.under (B.length + 2) = true) (h' : d'.under (B.length + 2) = true) : Keep (B ++ [c, d]) (B ++ [c', d']) := by
  refine ⟨by rw [List.length_append, List.length_append]; exact Nat.le_refl _, fun k cc e => ?_⟩
  by_cases hk : k < B.length
  · rw [List.getElem?_append_left hk] at e ⊢
    exact .inl e
  · rw [List.getElem?_append_right (by omega)] at e
    have hl : (B ++ [c', d']).length = B.length + 2 := by rw [List.length_append]; rfl
    rw [hl]
    match hq : k - B.length with
    | 0 => rw [hq] at e; cases e; exact .inr h
    | 1 => rw [hq] at e; cases e; exact .inr h'
    | n + 2 => rw [hq] at e; cases e
theorem under_lots (live : List Nat) (lf : Nat → Nat) (n : Nat) : (Cell.dK (kN (lotsK live lf))).under n = true := under_kN fun p hp => by
  obtain ⟨x, _, rfl⟩ := List.mem_map.mp hp
  rfl
theorem under_mk (n : Nat) : ∀ (i : Nat) (a : List (List Int)), (Cell.dT (mkF i a)).under n = true
  | _, [] => rfl
  | i, x :: a => by
    have ih := under_mk n (i + 1) a
    show ((mkF i (x :: a)).all fun p => p.2.under n) = true
    unfold mkF
    rw [List.all_cons]
    exact Bool.and_eq_true_iff.mpr ⟨rfl, ih⟩
structure PS where
  L : Store
  li : Nat
  ki : Nat
  many : Int
  kl : Nat
  lf : Nat → Nat
  prev : Nat → Nat
def psG (n0 : Nat) (m : Mc) (live : List Nat) (S : PS) : PS :=
  { L := S.L ++ [.dT (mkF 0 (marksOf m live S.lf)), .dK (kN (lotsK live (rnd m live S.lf)))], li := n0 + S.L.length + 1, ki := n0 + S.L.length, many := S.kl, kl := (marksOf m live S.lf).length, lf := rnd m live S.lf, prev := S.lf }
def psStop (S : PS) : Bool := !decide (S.many < (S.kl : Int))
def ps0 (n0 : Nat) (m : Mc) (live : List Nat) : PS := { L := [.dK (kN (lotsK live m.ed)), .dK (kN (trK (distF m.ed live)))], li := n0, ki := n0 + 1, many := -1, kl := (distF m.ed live).length, lf := m.ed, prev := m.ed }
def psF (n0 : Nat) (m : Mc) (live : List Nat) : PS := runF (psG n0 m live) psStop (live.length + 3) (ps0 n0 m live)
structure PI (μ : Store) (m : Mc) (live : List Nat) (S : PS) : Prop where
  lots : (μ ++ S.L)[S.li]? = some (.dK (kN (lotsK live S.lf)))
  kinds : (∃ kvs, (μ ++ S.L)[S.ki]? = some (.dK kvs) ∧ kvs.length = S.kl) ∨ ∃ kvs, (μ ++ S.L)[S.ki]? = some (.dT kvs) ∧ kvs.length = S.kl
  un : ∀ c ∈ S.L, c.under 0 = true
  kle : S.kl ≤ live.length
  kd : S.kl = (distF S.lf live).length
  ends : ∀ s ∈ live, ∀ t ∈ live, S.lf s = S.lf t → m.ed s = m.ed t
  hist : S.many = -1 ∨ (S.lf = rnd m live S.prev ∧ S.many = ((distF S.prev live).length : Int) ∧ ∀ s ∈ live, ∀ t ∈ live, S.prev s = S.prev t → m.ed s = m.ed t)
theorem ps_step {μ : Store} {m : Mc} {live : List Nat} {S : PS} (h : PI μ m live S) (hs : psStop S = false) : PI μ m live (psG μ.length m live S) ∧ ((live.length : Int) + 1 - (psG μ.length m live S).many).toNat < ((live.length : Int) + 1 - S.many).toNat := by
  have hlt : S.many < (S.kl : Int) := by
    unfold psStop at hs
    have : decide (S.many < (S.kl : Int)) = true := by simpa using hs
    exact of_decide_eq_true this
  have I := marksOf_I m live S.lf
  have ea : μ ++ (S.L ++ [Cell.dT (mkF 0 (marksOf m live S.lf)), .dK (kN (lotsK live (rnd m live S.lf)))]) = (μ ++ S.L) ++ [Cell.dT (mkF 0 (marksOf m live S.lf)), .dK (kN (lotsK live (rnd m live S.lf)))] := (List.append_assoc _ _ _).symm
  have el : (μ ++ S.L).length = μ.length + S.L.length := List.length_append
  refine ⟨⟨?_, .inr ⟨mkF 0 (marksOf m live S.lf), ?_, mkF_len _ _⟩, fun c hc => ?_, I.len, rnd_dist.symm, fun s hs t ht e => h.ends s hs t ht (mark_head (rnd_eq hs ht e)), .inr ⟨rfl, ?_, h.ends⟩⟩, ?_⟩
  · show (μ ++ (S.L ++ _))[μ.length + S.L.length + 1]? = _
    rw [ea, ← el]
    exact gL1
  · show (μ ++ (S.L ++ _))[μ.length + S.L.length]? = _
    rw [ea, ← el]
    exact gL0
  · rcases List.mem_append.mp hc with hc | hc
    · exact h.un c hc
    · rcases List.mem_cons.mp hc with e | hc
      · subst e; exact under_mk 0 0 _
      · have e := List.mem_singleton.mp hc
        subst e
        exact under_lots _ _ _
  · show ((S.kl : Nat) : Int) = _
    rw [h.kd]
    rfl
  · show ((live.length : Int) + 1 - ((S.kl : Nat) : Int)).toNat < _
    have := h.kle
    omega
theorem ps_start {μ : Store} {m : Mc} {live : List Nat} : PI μ m live (ps0 μ.length m live) := by
  refine ⟨?_, .inl ⟨kN (trK (distF m.ed live)), ?_, by rw [kN_len, trK_len]; rfl⟩, fun c hc => ?_, (distF_I m.ed live).len, rfl, fun s _ t _ e => e, .inl rfl⟩
  · exact gL0
  · exact gL1
  · rcases List.mem_cons.mp hc with e | hc
    · subst e; exact under_lots _ _ _
    · have e := List.mem_singleton.mp hc
      subst e
      exact under_trK _
theorem ps_end {μ : Store} {m : Mc} {live : List Nat} (hne : live ≠ []) : PI μ m live (psF μ.length m live) ∧ Part m live (psF μ.length m live).lf := by
  have h := runF_end (I := PI μ m live) (meas := fun S => ((live.length : Int) + 1 - S.many).toNat) (g := psG μ.length m live) (stop := psStop) (n := live.length + 3) (s := ps0 μ.length m live) (fun S hi hs => ps_step hi hs) (by show ((live.length : Int) + 1 - (-1)).toNat < live.length + 3; omega) ps_start
  refine ⟨h.1, ?_⟩
  have h2 : psStop (psF μ.length m live) = true := h.2
  have h1 : PI μ m live (psF μ.length m live) := h.1
  generalize psF μ.length m live = S at h1 h2
  have hge : (S.kl : Int) ≤ S.many := by
    unfold psStop at h2
    have : ¬ S.many < (S.kl : Int) := fun q => by rw [decide_eq_true q] at h2; cases h2
    omega
  rcases h1.hist with e | ⟨e1, e2, e3⟩
  · omega
  · rw [e1]
    refine part_rnd e3 ?_
    have hk := h1.kd
    rw [e1, rnd_dist] at hk
    omega
end Dt.K84
set_option maxHeartbeats 4000000
/-! k84: parted, the walk. -/
namespace Dt.K84
open PySem PySem.Spec L2 Dt
open PyProof.Rows (envOfC)
theorem put_tr (a : List Nat) (v : Nat) : putD (kN (trK a)) (.inl (v : Int)) (.b true) = kN (trK (if v ∈ a then a else a ++ [v])) := by
  by_cases h : v ∈ a
  · rw [if_pos h]
    unfold putD
    rw [any_kN, trK_some, decide_eq_true h, if_pos rfl]
    unfold kN trK
    rw [List.map_map, List.map_map, List.map_map]
    refine List.map_congr_left fun x hx => ?_
    show (if (Sum.inl (x : Int) : Key) = Sum.inl (v : Int) then _ else _) = _
    split <;> rfl
  · rw [if_neg h, put_new (by rw [trK_look, if_neg h]), trK_app]
theorem puts_tr (lf : Nat → Nat) : ∀ (l : List Nat) (a : List Nat), (l.map fun s => ((Sum.inl (lf s : Int) : Key), DV.b true)).foldl (fun a q => putD a q.1 q.2) (kN (trK a)) = kN (trK (l.foldl (fun a s => if lf s ∈ a then a else a ++ [lf s]) a))
  | [], a => rfl
  | s :: l, a => by
    rw [List.map_cons, List.foldl_cons, List.foldl_cons, put_tr, puts_tr lf l]
theorem outK_some {α : Type} (g : α → Key × DV) (l : List α) : outK (l.map fun x => some (g x)) = l.map g := by
  unfold outK
  rw [List.filterMap_map]
  exact congrFun (List.filterMap_eq_map (f := g)) l
theorem _root_.Dt.Ev.dcLe {X : Cx} {δ : Slots} {μ μ1 : Store} {e : Expr} {ifs : List Expr} {pos : Pos} {j : Nat} {x : Str} {scope : Scope} {kx vx tg : Expr} {ds : List D} {out : List (Option (Key × DV))} (hc : X.calm = true) (nd : X.N.Nodup) (h : Ev X e δ μ (.dat (.lst ds)) μ1) (hl : ds.length ≤ 100000) (hlen : out.length = ds.length)
    (t : ∀ (m : Nat) (d : D) (o : Option (Key × DV)), ds[m]? = some d → out[m]? = some o → DcTurn X scope ifs kx vx (δ.set j (some (.dat d))) μ1 o) (h1 : ifs.length ≤ 1) (ok : BlkOk X.N X.env.scope scope [(x, j)]) (hg : TgOk X scope tg (gName j)) (hs : ∀ z, foldedSetIterable e X.env z = pure z := by intro _; rfl) :
    Ev X (.DictComp kx vx [⟨tg, e, ifs, 0⟩] scope pos) δ μ (.own μ1.length) (μ1 ++ [.dK (putsD (outK out))]) := fun W H σ Q A kk => by
  refine semE_of (pe_dc hc nd (pi_list semE_pe) ok hg (fun s H C cl fp => semI_pts h1 s H C cl fp) (semK_pe (e := kx)) (semK_pe (e := vx)) hs) ?_
  exact dcL_go A h hl hlen t kk
theorem set3 {B : Store} {c d t x : Cell} : ((B ++ [c, d]) ++ [t]).set B.length x = (B ++ [x, d]) ++ [t] := by rw [List.append_assoc, List.append_assoc]; exact sL0
theorem set3' {B : Store} {c d t x : Cell} : ((B ++ [c, d]) ++ [t]).set (B.length + 1) x = (B ++ [c, x]) ++ [t] := by rw [List.append_assoc, List.append_assoc]; exact sL1
theorem get3 {B : Store} {c d t : Cell} : ((B ++ [c, d]) ++ [t])[B.length + 2]? = some t := by
  rw [List.append_assoc]
  exact gL (μ := B) (L := [c, d, t]) 2
section
variable {P : Program} {w : World} {K : PySem.W.Frag} {mg : Str → Option Value} {base : Heap} {f : Addr} {fd : FuncData} {cNum cWord cM : Addr}
def P_parted (cM : Addr) : Pr := fun dvs μ o => ∃ (m : Mc) (live : List Nat), VM m ∧ live.Nodup ∧ (∀ s ∈ live, s < m.rows.length) ∧ live ≠ [] ∧ dvs = [.dat (mcD cM m), .dat (lI live)] ∧ o = .ret (.own (psF μ.length m live).li) (μ ++ (psF μ.length m live).L)
theorem under_all {μ L : Store} (h : ∀ c ∈ L, c.under 0 = true) : (L.all fun c => c.under (μ.length + L.length)) = true := List.all_eq_true.mpr fun c hc => Cell.under_mono (Nat.zero_le _) (h c hc)
theorem w_parted (M : Md mg) (c : ClsK K cM mcNames) (F : Fun K "parted" "parted" (top 22) f fd) : FnOk P w K mg base (L2N.CX P w) 1 f fd ["machine", "live"] (spD K 2 (P_parted cM)) :=
  fn_D (N := ["machine", "live", "lots", "state", "many", "kinds", "marks", "finer", "mark", "target"]) (ps := ["machine", "live"]) F ⟨rfl, rfl, rfl, by decide, rfl, by decide, by decide⟩ fun cdv A outer s H E hr tk hp dvs μ o hl hP => by
    obtain ⟨m, live, V, hnd, hlt, hne, rfl, rfl⟩ := hP
    have hu : (A.deeper (envOfC "parted" (defScope (top 22)) s.heap.objs.size f cdv)).units + 1 < cLine := by have := hr.units; omega
    have hl64 : live.length < 64 := Nat.lt_of_le_of_lt (nodup_le hnd hlt) V.n63
    obtain ⟨PE, _⟩ := ps_end (μ := μ) (m := m) hne
    have hli : (psF μ.length m live).li < (μ ++ (psF μ.length m live).L).length := (List.getElem?_eq_some_iff.mp PE.lots).1
    let δS : PS → Slots := fun S => [some (.dat (mcD cM m)), some (.dat (lI live)), some (.own S.li), none, some (.i S.many), some (.own S.ki), none, none, none, none]
    refine .ret ?_ (Keep.push _ _ (under_all PE.un)) (decide_eq_true hli)
    refine .cons (δ1 := [some (.dat (mcD cM m)), some (.dat (lI live)), some (.own μ.length), none, none, none, none, none, none, none]) (μ1 := μ ++ [.dK (kN (lotsK live m.ed))]) (.to (.set 2 (.dcLe (x := "state") (j := 3) (ds := live.map natD) (out := live.map fun (s : Nat) => some (.inl (s : Int), .i (m.ed s : Int))) rfl (nod_of rfl) (.var 1 rfl) (by rw [List.length_map]; omega) (by rw [List.length_map, List.length_map]) (fun i d o hd ho => ?_) (by decide) (blk_of rfl) (fun _ _ _ _ _ => pg_name (nod_of rfl) rfl (by first | exact .inl rfl | exact .inr rfl))) (nod_of rfl)) ?_) ?_
    · rw [List.getElem?_map] at hd ho
      obtain ⟨s1, e1, e2⟩ := Option.map_eq_some_iff.mp hd
      rw [e1] at ho
      cases e2
      cases ho
      exact .yes .nil (.of fun s1 H1 cl C fp => .var 3 rfl) (.of fun s1 H1 cl C fp => .ixT (.fld c (.var 0 rfl) .dat rfl) (.var 3 rfl) (ed_ix V (hlt _ (List.mem_of_getElem? e1))))
    · rw [outK_some]
      have e : (live.map fun (s : Nat) => ((Sum.inl (s : Int) : Key), DV.i (m.ed s : Int))) = kN (lotsK live m.ed) := by
        unfold kN lotsK
        rw [List.map_map]
        rfl
      rw [e, putsD_kN (by rw [lotsK_keys]; exact hnd)]
      rfl
    refine .cons (.set 4 (.neg .int) (nod_of rfl)) ?_
    refine .cons (δ1 := δS (ps0 μ.length m live)) (μ1 := μ ++ (ps0 μ.length m live).L) (.to (.dcL (x := "state") (j := 3) 5 (ds := live.map natD) (out := live.map fun (s : Nat) => some (.inl (m.ed s : Int), .b true)) rfl (nod_of rfl) (.var 1 rfl) (by rw [List.length_map]; omega) (by rw [List.length_map, List.length_map]) (fun i d o hd ho => ?_) (by decide) (blk_of rfl) (fun _ _ _ _ _ => pg_name (nod_of rfl) rfl (by first | exact .inl rfl | exact .inr rfl))) ?_) ?_
    · rw [List.getElem?_map] at hd ho
      obtain ⟨s1, e1, e2⟩ := Option.map_eq_some_iff.mp hd
      rw [e1] at ho
      cases e2
      cases ho
      exact .yes .nil (.of fun s1 H1 cl C fp => .dget (q := .inl (_ : Int)) hu (.var 2 rfl) (.var 3 rfl) gL0 (by rw [look_kN, lotsK_look]; unfold lkL; rw [if_pos (List.mem_of_getElem? e1)]; rfl)) (.of fun s1 H1 cl C fp => .bl)
    · rw [outK_some]
      have e : putsD (live.map fun (s : Nat) => ((Sum.inl (m.ed s : Int) : Key), DV.b true)) = kN (trK (distF m.ed live)) := puts_tr m.ed live []
      rw [e, List.append_assoc, List.length_append]
      rfl
    refine .cons (.while hp (Wh.run (δ := δS) (μ := fun S => μ ++ S.L) (psG μ.length m live) psStop (PI μ m live) (fun S => ((live.length : Int) + 1 - S.many).toNat) (fun S hS hs => ?_) (fun S hS hs => ?_) (fun S hS hs => ps_step hS hs) (live.length + 3) (ps0 μ.length m live) (by show ((live.length : Int) + 1 - (-1)).toNat < live.length + 3; omega) ps_start)) (.one (.ret (.var 2 rfl)))
    · have hc : decide (S.many < (S.kl : Int)) = false := by
        unfold psStop at hs
        simpa using hs
      rcases hS.kinds with ⟨kvs, hk, e⟩ | ⟨kvs, hk, e⟩
      · exact .to (.cmp (.var 4 rfl) (.blt M.len (.cons (.var 5 rfl) .nil) (CallS.lenK hk)) .lt) (by rw [e]; exact hc)
      · exact .to (.cmp (.var 4 rfl) (.blt M.len (.cons (.var 5 rfl) .nil) (CallS.lenT' hk)) .lt) (by rw [e]; exact hc)
    · have hc : decide (S.many < (S.kl : Int)) = true := by
        unfold psStop at hs
        simpa using hs
      have hlen : ∀ {δ : Slots} {p0 p1 p2 p3 p4 : Pos} {x : Str} {X : Cx}, True := trivial
      have hB : (μ ++ S.L).length = μ.length + S.L.length := List.length_append
      let n := μ.length + S.L.length
      let δA : Slots := [some (.dat (mcD cM m)), some (.dat (lI live)), some (.own S.li), none, some (.i (S.kl : Int)), some (.own S.ki), none, none, none, none]
      let δL : Slots := [some (.dat (mcD cM m)), some (.dat (lI live)), some (.own S.li), none, some (.i (S.kl : Int)), some (.own S.ki), some (.own n), some (.own (n + 1)), none, none]
      let st : List Nat → Store := fun pre => (μ ++ S.L) ++ [.dT (mkF 0 (mkP m live S.lf pre)), .dK (kN (finP m live S.lf pre))]
      refine ⟨?_, ?_⟩
      · rcases hS.kinds with ⟨kvs, hk, e⟩ | ⟨kvs, hk, e⟩
        · exact .to (.cmp (.var 4 rfl) (.blt M.len (.cons (.var 5 rfl) .nil) (CallS.lenK hk)) .lt) (by rw [e]; exact hc)
        · exact .to (.cmp (.var 4 rfl) (.blt M.len (.cons (.var 5 rfl) .nil) (CallS.lenT' hk)) .lt) (by rw [e]; exact hc)
      refine .cons (δ1 := δA) (μ1 := μ ++ S.L) ?_ ?_
      · rcases hS.kinds with ⟨kvs, hk, e⟩ | ⟨kvs, hk, e⟩
        · exact .set 4 (.to (.blt M.len (.cons (.var 5 rfl) .nil) (CallS.lenK hk)) (by rw [e])) (nod_of rfl)
        · exact .set 4 (.to (.blt M.len (.cons (.var 5 rfl) .nil) (CallS.lenT' hk)) (by rw [e])) (nod_of rfl)
      refine .cons (δ1 := δA.set 6 (some (.own n))) (.set 6 (.to .dnewT (by rw [hB])) (nod_of rfl)) ?_
      refine .cons (δ1 := δL) (μ1 := st []) (.tos (.set 7 (.to .dnew (by rw [List.length_append, hB]; rfl)) (nod_of rfl)) (by rw [List.append_assoc]; rfl)) ?_
      have hlook : ∀ pre, (st pre)[S.li]? = some (.dK (kN (lotsK live S.lf))) := fun pre => by
        rw [List.getElem?_append_left (List.getElem?_eq_some_iff.mp hS.lots).1]
        exact hS.lots
      have hT : ∀ pre, (st pre)[n]? = some (.dT (mkF 0 (mkP m live S.lf pre))) := fun pre => by
        show ((μ ++ S.L) ++ _)[μ.length + S.L.length]? = _
        rw [← hB]
        exact gL0
      have hF : ∀ pre, (st pre)[n + 1]? = some (.dK (kN (finP m live S.lf pre))) := fun pre => by
        show ((μ ++ S.L) ++ _)[μ.length + S.L.length + 1]? = _
        rw [← hB]
        exact gL1
      refine .cons (δ1 := δL) (μ1 := st live) (.forL (ds := live.map natD) rfl (nod_of rfl) hp 3 (.var 1 rfl) ?_) ?_
      · rw [List.map_map]
        refine It1.foldP (f := DV.dat ∘ natD) (δ := fun _ => δL) (μ := st) live fun pre s rest e => ?_
        have hs : s ∈ live := by rw [← e]; exact List.mem_append_right _ List.mem_cons_self
        have hpre : s ∉ pre := fun h => by
          rw [← e, List.nodup_append] at hnd
          exact hnd.2.2 s h s List.mem_cons_self rfl
        have hpl : pre.length < 64 := by
          have : live.length = pre.length + (s :: rest).length := by rw [← e, List.length_append]
          omega
        have hsN := hlt s hs
        let x := mark m live S.lf s
        let a := mkP m live S.lf pre
        have hx : ([(Sum.inl (S.lf s : Int) : Key)] ++ (m.row s).map fun o => (Sum.inl (ngI (tgL live S.lf o)) : Key)) = x.map Sum.inl := by
          show _ = ((S.lf s : Int) :: _).map Sum.inl
          rw [List.map_cons, List.map_map]
          rfl
        have stl : (st pre).length = n + 2 := by
          show ((μ ++ S.L) ++ _).length = _
          rw [List.length_append, hB]
          rfl
        have up : ∀ {k : Nat} {cc : Cell}, (st pre)[k]? = some cc → ((st pre) ++ [Cell.tp (x.map Sum.inl)])[k]? = some cc := fun {k cc} h => by
          rw [List.getElem?_append_left (List.getElem?_eq_some_iff.mp h).1]
          exact h
        refine Xb.cut (junk := [.tp (x.map Sum.inl)]) (.wk (δ1 := [some (.dat (mcD cM m)), some (.dat (lI live)), some (.own S.li), some (.i (s : Int)), some (.i (S.kl : Int)), some (.own S.ki), some (.own n), some (.own (n + 1)), some (.own (n + 2)), none]) (δ2 := δL) (.cons (δ1 := [some (.dat (mcD cM m)), some (.dat (lI live)), some (.own S.li), some (.i (s : Int)), some (.i (S.kl : Int)), some (.own S.ki), some (.own n), some (.own (n + 1)), some (.own (n + 2)), none]) (μ1 := st pre ++ [.tp (x.map Sum.inl)]) (.to (.set 8 (.catK (ks := [.inl (S.lf s : Int)]) (ls := (m.row s).map fun o => .inl (ngI (tgL live S.lf o))) (μ1 := st pre) (μ2 := st pre) ?_ ?_ (by simp) ?_ ?_) (nod_of rfl)) ?_) (.one ?_))) ?_ ?_
        · exact .tup (ds := [.int (S.lf s : Int)]) (.cons (.dget (q := .inl (s : Int)) hu (.var 2 rfl) (.var 3 rfl) (hlook pre) (by rw [look_kN, lotsK_look]; unfold lkL; rw [if_pos hs]; rfl)) .nil)
        · refine .to (.tyc M.tuple (.cons (.lcTa 9 (m.row s) optD (fun o => .int (ngI (tgL live S.lf o))) (.ixT (.fld c (.var 0 rfl) .dat rfl) (.var 3 rfl) (row_ix V hsN)) (fun o ho s1 H1 cl C fp => ?_) (by rw [V.row_len hsN]; have := V.L48; omega)) .nil) (CallS.tupL .dt)) (by rw [List.map_map]; rfl)
          refine .to (.get2 (q := o.map fun (t : Nat) => .inl (t : Int)) hu (.var 2 rfl) (.to (.var 9 rfl) (by cases o <;> rfl)) (.neg .int) ⟨_, hlook pre⟩ (hlook pre)) ?_
          cases o with
          | none => rfl
          | some t =>
            show ((lookK (kN (lotsK live S.lf)) (.inl (t : Int))).getD _) = _
            rw [look_kN, lotsK_look]
            show _ = DV.i (ngI (lkL live S.lf t))
            cases lkL live S.lf t <;> rfl
        · intro z
          have h1 := congrArg List.length z
          rw [List.length_map, V.row_len hsN] at h1
          have := V.L1
          simp at h1
          omega
        · rw [List.length_map, V.row_len hsN]
          have := V.L48
          show 1 + m.L ≤ 1000000
          omega
        · rw [stl, hx]
          rfl
        · have hal : a.length < 64 := Nat.lt_of_le_of_lt (mkP_I m live S.lf pre).len hpl
          refine .to (.dput (q := .inl (s : Int)) (dv := .i (((mkAdd a x).idxOf x : Nat) : Int)) (kvs := kN (finP m live S.lf pre)) (μ1 := ((μ ++ S.L) ++ [.dT (mkF 0 (mkAdd a x)), .dK (kN (finP m live S.lf pre))]) ++ [.tp (x.map Sum.inl)]) (μ2 := ((μ ++ S.L) ++ [.dT (mkF 0 (mkAdd a x)), .dK (kN (finP m live S.lf pre))]) ++ [.tp (x.map Sum.inl)]) (μ3 := ((μ ++ S.L) ++ [.dT (mkF 0 (mkAdd a x)), .dK (kN (finP m live S.lf pre))]) ++ [.tp (x.map Sum.inl)]) hu ?_ (.var 7 rfl) (.var 3 rfl) ?_ ?_) ?_
          · refine .to (.tos (.setdT (kvs := mkF 0 a) (q := x.map Sum.inl) (dv := .i (a.length : Int)) (μ3 := st pre ++ [.tp (x.map Sum.inl)]) hu (.var 6 rfl) (.var 8 rfl) (.to (.blt M.len (.cons (.var 6 rfl) .nil) (CallS.lenT' (up (hT pre)))) (by rw [mkF_len])) ⟨_, up (hT pre)⟩ ?_ ?_ (up (hT pre)) (by rw [mkF_len]; omega)) ?_) ?_
            · show (((μ ++ S.L) ++ _) ++ _)[μ.length + S.L.length + 2]? = _
              rw [← hB]
              exact get3
            · rw [List.length_append, stl]
              simp
            · by_cases hxa : x ∈ a
              · rw [mkF_look, if_pos hxa, show mkAdd a x = a from if_pos hxa]
                rfl
              · rw [mkF_look, if_neg hxa, show mkAdd a x = a ++ [x] from if_neg hxa, mkF_put hxa]
                show (((μ ++ S.L) ++ _) ++ _).set (μ.length + S.L.length) _ = _
                rw [← hB]
                exact set3
            · by_cases hxa : x ∈ a
              · rw [mkF_look, if_pos hxa, show mkAdd a x = a from if_pos hxa]
                show DV.i ((0 + a.idxOf x : Nat) : Int) = _
                rw [Nat.zero_add]
              · rw [mkF_look, if_neg hxa, show mkAdd a x = a ++ [x] from if_neg hxa, List.idxOf_append, if_neg hxa]
                show DV.i (a.length : Int) = _
                congr 3
                simp
          · show (((μ ++ S.L) ++ _) ++ _)[μ.length + S.L.length + 1]? = _
            rw [← hB, List.append_assoc]
            exact gL1
          · rw [kN_len]
            unfold finP lotsK
            rw [List.length_map]
            omega
          · have hn : (finP m live S.lf pre).lookup s = none := by
              unfold finP
              rw [lotsK_look]
              unfold lkL
              rw [if_neg hpre]
              rfl
            rw [put_new hn]
            show Out.nx _ (((μ ++ S.L) ++ _ ++ _).set (μ.length + S.L.length + 1) _) = Out.nx _ ((μ ++ S.L) ++ [.dT (mkF 0 (mkP m live S.lf (pre ++ [s]))), .dK (kN (finP m live S.lf (pre ++ [s])))] ++ [.tp (x.map Sum.inl)])
            rw [← hB, set3', mkP_snoc, finP_snoc]
        · exact Keep2 (under_mk _ _ _) (under_lots _ _ _)
        · have hki : S.ki < (μ ++ S.L).length := by
            rcases hS.kinds with ⟨kvs, hk, e⟩ | ⟨kvs, hk, e⟩
            · exact (List.getElem?_eq_some_iff.mp hk).1
            · exact (List.getElem?_eq_some_iff.mp hk).1
          have hli2 : S.li < (μ ++ S.L).length := (List.getElem?_eq_some_iff.mp hS.lots).1
          have stl2 : (st (pre ++ [s])).length = n + 2 := by
            show ((μ ++ S.L) ++ _).length = _
            rw [List.length_append, hB]
            rfl
          rw [stl2]
          have en : n = (μ ++ S.L).length := hB.symm
          exact OwnB.of ⟨by omega, by omega, by omega, by omega, trivial⟩
      · refine .wk (δ1 := [some (.dat (mcD cM m)), some (.dat (lI live)), some (.own (n + 1)), none, some (.i (S.kl : Int)), some (.own n), some (.own n), some (.own (n + 1)), none, none]) (.to (.cons (.set 2 (.var 7 rfl) (nod_of rfl)) (.one (.set 5 (.var 6 rfl) (nod_of rfl)))) ?_)
        have e1 : mkP m live S.lf live = marksOf m live S.lf := rfl
        show Out.nx _ ((μ ++ S.L) ++ _) = Out.nx _ (μ ++ (S.L ++ _))
        rw [List.append_assoc]
        rfl
end
end Dt.K84
set_option maxHeartbeats 4000000
/-! k84: the class Growing, walked. -/
namespace Dt.K84
open PySem PySem.Spec L2 Dt
open PyProof.Rows (envOfC)
def numKF : Nat → List Nat → List (Nat × DV)
  | _, [] => []
  | i, k :: ks => (k, .i (i : Int)) :: numKF (i + 1) ks
theorem numKF_len : ∀ (i : Nat) (a : List Nat), (numKF i a).length = a.length
  | _, [] => rfl
  | i, x :: xs => by unfold numKF; rw [List.length_cons, List.length_cons, numKF_len]
theorem numKF_look (k : Nat) : ∀ (i : Nat) (a : List Nat), (numKF i a).lookup k = if k ∈ a then some (.i ((i + a.idxOf k : Nat) : Int)) else none
  | _, [] => rfl
  | i, y :: a => by
    have ih := numKF_look k (i + 1) a
    unfold numKF
    rw [List.lookup_cons, ih]
    by_cases h : k = y
    · subst h
      simp
    · have h' : (k == y) = false := beq_eq_false_iff_ne.mpr h
      rw [h']
      simp only [List.mem_cons, h, false_or]
      split
      · rw [List.idxOf_cons]
        have : (y == k) = false := beq_eq_false_iff_ne.mpr fun z => h z.symm
        rw [this]
        simp only [cond_false]
        congr 2
        omega
      · rfl
theorem numKF_app (k : Nat) : ∀ (i : Nat) (a : List Nat), numKF i (a ++ [k]) = numKF i a ++ [(k, .i ((i + a.length : Nat) : Int))]
  | _, [] => rfl
  | i, y :: a => by
    show (y, _) :: numKF (i + 1) (a ++ [k]) = (y, _) :: (numKF (i + 1) a ++ _)
    rw [numKF_app k (i + 1) a, List.length_cons, show i + 1 + a.length = i + (a.length + 1) by omega]
abbrev gNames : List Str := ["letters", "numbers", "known", "table", "ends"]
def gFs (n L : Nat) : Flds := [("letters", .i (L : Int)), ("numbers", .own (n + 1)), ("known", .own (n + 2)), ("table", .own (n + 3)), ("ends", .own (n + 4))]
def gCells (cG : Addr) (n L : Nat) (a : GS) : Store := [.ins cG (gFs n L), .dK (kN (numKF 0 a.known)), .lst (lC a.known), .lst ((a.rows.map rowD).map DV.dat), .lst ((a.ends.map natD).map DV.dat)]
def rowOf : List Nat → List (Option Nat) → List (Option Nat)
  | _, [] => []
  | kn, o :: os => numIx kn o :: rowOf (numAdd kn o) os
theorem numStep_fold : ∀ (os : List (Option Nat)) (kn : List Nat) (acc : List (Option Nat)), os.foldl numStep (kn, acc) = (os.foldl numAdd kn, acc ++ rowOf kn os)
  | [], kn, acc => by rw [List.foldl_nil, List.foldl_nil]; unfold rowOf; rw [List.append_nil]
  | o :: os, kn, acc => by
    rw [List.foldl_cons, List.foldl_cons]
    show os.foldl numStep (numAdd kn o, acc ++ [numIx kn o]) = _
    rw [numStep_fold os, List.append_assoc]
    rfl
section
variable {μ0 R : Store} {cG : Addr} {L : Nat} {a : GS} {x : Cell}
theorem gc (i : Nat) {c : Cell} (h : (gCells cG μ0.length L a ++ R)[i]? = some c) : (μ0 ++ (gCells cG μ0.length L a ++ R))[μ0.length + i]? = some c := (gL i).trans h
theorem gs (i : Nat) {M : Store} (h : (gCells cG μ0.length L a ++ R).set i x = M) : (μ0 ++ (gCells cG μ0.length L a ++ R)).set (μ0.length + i) x = μ0 ++ M := (sL i).trans (by rw [h])
end
theorem under_num (n : Nat) : ∀ (i : Nat) (a : List Nat), (Cell.dK (kN (numKF i a))).under n = true := fun i a => under_kN fun p hp => by
  have key : ∀ (a : List Nat) (i : Nat), p ∈ numKF i a → p.2.under n = true := by
    intro a
    induction a with
    | nil => intro i h; cases h
    | cons y a ih =>
      intro i h
      rcases List.mem_cons.mp h with e | h
      · subst e; rfl
      · exact ih (i + 1) h
  exact key a i hp
theorem under_lC (n : Nat) (l : List Nat) : (Cell.lst (lC l)).under n = true := List.all_eq_true.mpr fun d hd => by obtain ⟨x, _, rfl⟩ := List.mem_map.mp hd; rfl
theorem under_dat (n : Nat) (l : List D) : (Cell.lst (l.map DV.dat)).under n = true := List.all_eq_true.mpr fun d hd => by obtain ⟨x, _, rfl⟩ := List.mem_map.mp hd; rfl
theorem under_g {cG : Addr} {n L : Nat} {a : GS} {k : Nat} (h : n + 5 ≤ k) : ((gCells cG n L a).all fun c => c.under k) = true := by
  show (Cell.under k (.ins cG (gFs n L)) && (Cell.under k (.dK (kN (numKF 0 a.known))) && (Cell.under k (.lst (lC a.known)) && (Cell.under k (.lst ((a.rows.map rowD).map DV.dat)) && (Cell.under k (.lst ((a.ends.map natD).map DV.dat)) && true))))) = true
  rw [under_num, under_lC, under_dat, under_dat]
  have h1 : decide (n + 1 < k) = true := decide_eq_true (by omega)
  have h2 : decide (n + 2 < k) = true := decide_eq_true (by omega)
  have h3 : decide (n + 3 < k) = true := decide_eq_true (by omega)
  have h4 : decide (n + 4 < k) = true := decide_eq_true (by omega)
  show (true && (decide (n + 1 < k) && (decide (n + 2 < k) && (decide (n + 3 < k) && (decide (n + 4 < k) && true)))) && _) = true
  rw [h1, h2, h3, h4]
  rfl
/-- a store whose middle changes -/
theorem Keep.mid {μ0 A B R : Store} (hl : A.length = B.length) (h : (B.all fun c => c.under (μ0.length + B.length)) = true) : Keep (μ0 ++ (A ++ R)) (μ0 ++ (B ++ R)) := by
  refine ⟨by simp only [List.length_append, hl]; exact Nat.le_refl _, fun k c e => ?_⟩
  by_cases h1 : k < μ0.length
  · rw [List.getElem?_append_left h1] at e ⊢
    exact .inl e
  · rw [List.getElem?_append_right (by omega)] at e
    by_cases h2 : k - μ0.length < B.length
    · rw [List.getElem?_append_left h2] at e
      refine .inr (Cell.under_mono ?_ (List.all_eq_true.mp h c (List.mem_of_getElem? e)))
      simp only [List.length_append]
      omega
    · rw [List.getElem?_append_right (by omega)] at e
      left
      rw [List.getElem?_append_right (by omega), List.getElem?_append_right (by omega), hl]
      exact e
theorem Keep.ext {μ0 A B : Store} (hl : A.length ≤ B.length) (h : (B.all fun c => c.under (μ0.length + B.length)) = true) : Keep (μ0 ++ A) (μ0 ++ B) := by
  refine ⟨by simp only [List.length_append]; omega, fun k c e => ?_⟩
  by_cases h1 : k < μ0.length
  · rw [List.getElem?_append_left h1] at e ⊢
    exact .inl e
  · rw [List.getElem?_append_right (by omega)] at e
    rw [List.length_append]
    exact .inr (List.all_eq_true.mp h c (List.mem_of_getElem? e))
section
variable {P : Program} {w : World} {K : PySem.W.Frag} {mg : Str → Option Value} {base : Heap} {f : Addr} {fd : FuncData} {cNum cWord cM cG : Addr}
def P_ginit (cG : Addr) : Pr := fun dvs μ o => ∃ (μ0 : Store) (L k : Nat), dvs = [.own μ0.length, .i (L : Int), .i (k : Int)] ∧ μ = μ0 ++ [.ins cG []] ∧ o = .ret .n (μ0 ++ gCells cG μ0.length L ⟨[k], [], []⟩)
theorem w_ginit (c : ClsK K cG gNames) (F : Fun K "__init__" "Growing.__init__" (inClass (top 21) 0) f fd) : FnOk P w K mg base (L2N.CX P w) 1 f fd ["self", "letters", "first"] (spD K 3 (P_ginit cG)) :=
  fn_D (N := ["self", "letters", "first"]) (ps := ["self", "letters", "first"]) F ⟨rfl, rfl, rfl, by decide, rfl, by decide, by decide⟩ fun cdv A outer s H E hr tk hp dvs μ o hl hP => by
    obtain ⟨μ0, L, k, rfl, rfl, rfl⟩ := hP
    refine Bd.non (δ' := [some (.own μ0.length), some (.i (L : Int)), some (.i (k : Int))]) ?_ ?_
    · refine .cons (.tos (μ2 := μ0 ++ [.ins cG [("letters", .i (L : Int))]]) (.fld c (.var 1 rfl) (.var 0 rfl) gL0) sL0) ?_
      refine .cons (.tos (μ2 := μ0 ++ [.ins cG [("letters", .i (L : Int)), ("numbers", .own (μ0.length + 1))], .dK [(.inl (k : Int), .i 0)]]) (.fld c (.to (.tos (μ'' := μ0 ++ [.ins cG [("letters", .i (L : Int))], .dK [(.inl (k : Int), .i 0)]]) (.d1 (q := .inl (k : Int)) (.var 2 rfl) .int) (by rw [List.append_assoc]; rfl)) (dv' := .own (μ0.length + 1)) (by rw [List.length_append]; rfl)) (.var 0 rfl) gL0) sL0) ?_
      refine .cons (.tos (μ2 := μ0 ++ [.ins cG [("letters", .i (L : Int)), ("numbers", .own (μ0.length + 1)), ("known", .own (μ0.length + 2))], .dK [(.inl (k : Int), .i 0)], .lst [.i (k : Int)]]) (.fld c (.to (.tos (μ'' := μ0 ++ [.ins cG [("letters", .i (L : Int)), ("numbers", .own (μ0.length + 1))], .dK [(.inl (k : Int), .i 0)], .lst [.i (k : Int)]]) (.lstO (.cons (.var 2 rfl) .nil)) (by rw [List.append_assoc]; rfl)) (dv' := .own (μ0.length + 2)) (by rw [List.length_append]; rfl)) (.var 0 rfl) gL0) sL0) ?_
      refine .cons (.tos (μ2 := μ0 ++ [.ins cG [("letters", .i (L : Int)), ("numbers", .own (μ0.length + 1)), ("known", .own (μ0.length + 2)), ("table", .own (μ0.length + 3))], .dK [(.inl (k : Int), .i 0)], .lst [.i (k : Int)], .lst []]) (.fld c (.to (.tos (μ'' := μ0 ++ [.ins cG [("letters", .i (L : Int)), ("numbers", .own (μ0.length + 1)), ("known", .own (μ0.length + 2))], .dK [(.inl (k : Int), .i 0)], .lst [.i (k : Int)], .lst []]) (.lstO .nil) (by rw [List.append_assoc]; rfl)) (dv' := .own (μ0.length + 3)) (by rw [List.length_append]; rfl)) (.var 0 rfl) gL0) sL0) ?_
      exact .one (.tos (.fld c (.to (.tos (μ'' := μ0 ++ [.ins cG [("letters", .i (L : Int)), ("numbers", .own (μ0.length + 1)), ("known", .own (μ0.length + 2)), ("table", .own (μ0.length + 3))], .dK [(.inl (k : Int), .i 0)], .lst [.i (k : Int)], .lst [], .lst []]) (.lstO .nil) (by rw [List.append_assoc]; rfl)) (dv' := .own (μ0.length + 4)) (by rw [List.length_append]; rfl)) (.var 0 rfl) gL0) sL0)
    · exact Keep.ext (by show 1 ≤ 5; decide) (under_g (Nat.le_refl _))
def P_gopen (cG : Addr) : Pr := fun dvs μ o => ∃ (μ0 R : Store) (L : Nat) (a : GS), dvs = [.own μ0.length] ∧ μ = μ0 ++ (gCells cG μ0.length L a ++ R) ∧ o = .ret (.b (decide (a.rows.length < a.known.length))) μ
theorem w_gopen (M : Md mg) (c : ClsK K cG gNames) (F : Fun K "is_open" "Growing.is_open" (inClass (top 21) 1) f fd) : FnOk P w K mg base (L2N.CX P w) 1 f fd ["self"] (spD K 1 (P_gopen cG)) :=
  fn_D (N := ["self"]) (ps := ["self"]) F ⟨rfl, rfl, rfl, by decide, rfl, by decide, by decide⟩ fun cdv A outer s H E hr tk hp dvs μ o hl hP => by
    obtain ⟨μ0, R, L, a, rfl, rfl, rfl⟩ := hP
    refine .ret (.one (.ret (.to (.cmp (.blt M.len (.cons (.fld c (.var 0 rfl) (.own (gc 0 rfl)) rfl) .nil) (CallS.lenL (.ow (gc 3 rfl)))) (.blt M.len (.cons (.fld c (.var 0 rfl) (.own (gc 0 rfl)) rfl) .nil) (CallS.lenL (.ow (gc 2 rfl)))) .lt) ?_)))
    rw [List.length_map, List.length_map, lC_len]
    exact congrArg DV.b (decide_eq_decide.mpr Int.ofNat_lt)
def P_gnext (cG : Addr) : Pr := fun dvs μ o => ∃ (μ0 R : Store) (L : Nat) (a : GS), dvs = [.own μ0.length] ∧ μ = μ0 ++ (gCells cG μ0.length L a ++ R) ∧ a.rows.length < a.known.length ∧ o = .ret (.i (a.known.getD a.rows.length 0 : Nat)) μ
theorem lC_get {L : List Nat} {k : Nat} (h : k < L.length) : (lC L)[k]? = some (.i ((L.getD k 0 : Nat) : Int)) := by
  unfold lC
  rw [List.getElem?_map, List.getElem?_eq_getElem h, List.getD_eq_getElem?_getD, List.getElem?_eq_getElem h]
  rfl
theorem w_gnext (M : Md mg) (c : ClsK K cG gNames) (F : Fun K "next_key" "Growing.next_key" (inClass (top 21) 2) f fd) : FnOk P w K mg base (L2N.CX P w) 1 f fd ["self"] (spD K 1 (P_gnext cG)) :=
  fn_D (N := ["self"]) (ps := ["self"]) F ⟨rfl, rfl, rfl, by decide, rfl, by decide, by decide⟩ fun cdv A outer s H E hr tk hp dvs μ o hl hP => by
    obtain ⟨μ0, R, L, a, rfl, rfl, hlt, rfl⟩ := hP
    refine .ret (.one (.ret (.ixO (.fld c (.var 0 rfl) (.own (gc 0 rfl)) rfl) (.to (.blt M.len (.cons (.fld c (.var 0 rfl) (.own (gc 0 rfl)) rfl) .nil) (CallS.lenL (.ow (gc 3 rfl)))) (dv' := .i (a.rows.length : Int)) ?_) (gc 2 rfl) (atI_nat (lC_get hlt)))))
    rw [List.length_map, List.length_map]
def P_gnum (cG : Addr) : Pr := fun dvs μ o => ∃ (μ0 R : Store) (L : Nat) (a : GS) (key : Option Nat), dvs = [.own μ0.length, .dat (optD key)] ∧ μ = μ0 ++ (gCells cG μ0.length L a ++ R) ∧ a.known.length < 1000 ∧ o = .ret (.dat (optD (numIx a.known key))) (μ0 ++ (gCells cG μ0.length L ⟨numAdd a.known key, a.rows, a.ends⟩ ++ R))
theorem w_gnum (M : Md mg) (c : ClsK K cG gNames) (F : Fun K "number" "Growing.number" (inClass (top 21) 3) f fd) : FnOk P w K mg base (L2N.CX P w) 1 f fd ["self", "key"] (spD K 2 (P_gnum cG)) :=
  fn_D (N := ["self", "key"]) (ps := ["self", "key"]) F ⟨rfl, rfl, rfl, by decide, rfl, by decide, by decide⟩ fun cdv A outer s H E hr tk hp dvs μ o hl hP => by
    obtain ⟨μ0, R, L, a, key, rfl, rfl, hal, rfl⟩ := hP
    have hu : (A.deeper (envOfC "Growing.number" (defScope (inClass (top 21) 3)) s.heap.objs.size f cdv)).units + 1 < cLine := by have := hr.units; omega
    cases key with
    | none => exact .ret (.stop (.ifT (.cmp (.var 1 rfl) .non .isN) (.one (.ret .non))))
    | some k =>
      refine .ret (.cons (δ1 := [some (.own μ0.length), some (.i (k : Int))]) (.ifF (.cmp (.var 1 rfl) .non .isN) .nil) ?_) (Keep.mid rfl (under_g (Nat.le_refl _)))
      by_cases hk : k ∈ a.known
      · have e : numAdd a.known (some k) = a.known := if_pos hk
        rw [e]
        refine .cons (.ifF (.to (.dnin (q := .inl (k : Int)) hu (.var 1 rfl) (.fld c (.var 0 rfl) (.own (gc 0 rfl)) rfl) (gc 1 rfl)) (by rw [look_kN, numKF_look, if_pos hk]; rfl)) .nil) (.one (.ret (.dget (q := .inl (k : Int)) hu (.fld c (.var 0 rfl) (.own (gc 0 rfl)) rfl) (.var 1 rfl) (gc 1 rfl) ?_)))
        rw [look_kN, numKF_look, if_pos hk]
        show some (DV.i ((0 + a.known.idxOf k : Nat) : Int)) = some (.dat (optD (some ((numAdd a.known (some k)).idxOf k))))
        rw [e, Nat.zero_add]
        rfl
      · have e : numAdd a.known (some k) = a.known ++ [k] := if_neg hk
        rw [e]
        refine .cons (δ1 := [some (.own μ0.length), some (.i (k : Int))]) (μ1 := μ0 ++ (gCells cG μ0.length L ⟨a.known ++ [k], a.rows, a.ends⟩ ++ R)) (.ifT (.to (.dnin (q := .inl (k : Int)) hu (.var 1 rfl) (.fld c (.var 0 rfl) (.own (gc 0 rfl)) rfl) (gc 1 rfl)) (by rw [look_kN, numKF_look, if_neg hk]; rfl)) ?_) (.one (.ret (.dget (q := .inl (k : Int)) hu (.fld c (.var 0 rfl) (.own (gc 0 rfl)) rfl) (.var 1 rfl) (gc 1 rfl) ?_)))
        · refine .cons (μ1 := μ0 ++ ([.ins cG (gFs μ0.length L), .dK (kN (numKF 0 (a.known ++ [k]))), .lst (lC a.known), .lst ((a.rows.map rowD).map DV.dat), .lst ((a.ends.map natD).map DV.dat)] ++ R)) (.tos (.dput (q := .inl (k : Int)) (dv := .i (a.known.length : Int)) hu (.to (.blt M.len (.cons (.fld c (.var 0 rfl) (.own (gc 0 rfl)) rfl) .nil) (CallS.lenL (.ow (gc 2 rfl)))) (by rw [lC_len])) (.fld c (.var 0 rfl) (.own (gc 0 rfl)) rfl) (.var 1 rfl) (gc 1 rfl) (by rw [kN_len, numKF_len]; omega)) ?_) ?_
          · rw [put_new (by rw [numKF_look, if_neg hk]), show numKF 0 a.known ++ [(k, DV.i (a.known.length : Int))] = numKF 0 (a.known ++ [k]) from by rw [numKF_app, Nat.zero_add]]
            exact gs 1 rfl
          · refine .one (.expr (.tos (.append (xs := lC a.known) (.fld c (.var 0 rfl) (.own ((gL 0).trans rfl)) rfl) (.var 1 rfl) ((gL 2).trans rfl) (by rw [lC_len]; omega) ⟨_, (gL 2).trans rfl⟩) ?_))
            rw [show lC a.known ++ [DV.i (k : Int)] = lC (a.known ++ [k]) from lC_app _ _]
            exact (sL 2).trans rfl
        · rw [look_kN, numKF_look, if_pos (List.mem_append_right _ (by simp))]
          show some (DV.i ((0 + (a.known ++ [k]).idxOf k : Nat) : Int)) = some (.dat (optD (some ((numAdd a.known (some k)).idxOf k))))
          rw [e, Nat.zero_add]
          rfl
def P_gput (cG : Addr) : Pr := fun dvs μ o => ∃ (μ0 R : Store) (L : Nat) (a : GS) (keys : List (Option Nat)) (e : Bool), dvs = [.own μ0.length, .dat (.lst (keys.map optD)), .b e] ∧ μ = μ0 ++ (gCells cG μ0.length L a ++ R) ∧ a.known.length + keys.length < 1000 ∧ a.rows.length < 1000 ∧ a.ends.length < 1000 ∧
  o = .ret .n (μ0 ++ (gCells cG μ0.length L ⟨(keys.foldl numStep (a.known, [])).1, a.rows ++ [(keys.foldl numStep (a.known, [])).2], a.ends ++ [if e = true then 1 else 0]⟩ ++ R))
theorem lc_num {Rr : DV → Store → Option DV → Store → Prop} {st : List Nat → Store} {N : Nat} (h : ∀ kn o, kn.length < N → Rr (.dat (optD o)) (st kn) (some (.dat (optD (numIx kn o)))) (st (numAdd kn o))) : ∀ (os : List (Option Nat)) (kn : List Nat), kn.length + os.length ≤ N → Lc Rr ((os.map optD).map DV.dat) (st kn) (((rowOf kn os).map optD).map DV.dat) (st (os.foldl numAdd kn))
  | [], kn, _ => .nil
  | o :: os, kn, hl => by
    rw [List.length_cons] at hl
    refine .keep (h kn o (by omega)) (lc_num h os (numAdd kn o) ?_)
    have : (numAdd kn o).length ≤ kn.length + 1 := by
      cases o with
      | none => exact Nat.le_succ _
      | some k =>
        unfold numAdd
        simp only
        split
        · exact Nat.le_succ _
        · rw [List.length_append]; exact Nat.le_refl _
    omega
theorem rowOf_len : ∀ (os : List (Option Nat)) (kn : List Nat), (rowOf kn os).length = os.length
  | [], _ => rfl
  | o :: os, kn => by unfold rowOf; rw [List.length_cons, List.length_cons, rowOf_len os]
theorem w_gput (M : Md mg) (c : ClsK K cG gNames) (d1 : Dm P w K mg base cG "number" 1 2 (P_gnum cG)) (F : Fun K "put" "Growing.put" (inClass (top 21) 4) f fd) : FnOk P w K mg base (L2N.CX P w) 2 f fd ["self", "keys", "is_end"] (spD K 3 (P_gput cG)) :=
  fn_D (N := ["self", "keys", "is_end", "key"]) (ps := ["self", "keys", "is_end"]) F ⟨rfl, rfl, rfl, by decide, rfl, by decide, by decide⟩ fun cdv A outer s H E hr tk hp dvs μ o hl hP => by
    obtain ⟨μ0, R, L, a, keys, e, rfl, rfl, h1, h2, h3, rfl⟩ := hP
    rw [numStep_fold]
    show Bd _ _ _ _ _ (.ret .n (μ0 ++ (gCells cG μ0.length L ⟨keys.foldl numAdd a.known, a.rows ++ [[] ++ rowOf a.known keys], a.ends ++ [if e = true then 1 else 0]⟩ ++ R)))
    rw [List.nil_append]
    refine Bd.non (δ' := [some (.own μ0.length), some (.dat (.lst (keys.map optD))), some (.b e), none]) ?_ (Keep.mid rfl (under_g (Nat.le_refl _)))
    refine .cons (μ1 := μ0 ++ (gCells cG μ0.length L ⟨keys.foldl numAdd a.known, a.rows ++ [rowOf a.known keys], a.ends⟩ ++ R)) (.expr (.tos (.append (xs := (a.rows.map rowD).map DV.dat) (dv := .dat (rowD (rowOf a.known keys))) (μ2 := μ0 ++ (gCells cG μ0.length L ⟨keys.foldl numAdd a.known, a.rows, a.ends⟩ ++ R)) (.fld c (.var 0 rfl) (.own (gc 0 rfl)) rfl) (.tyc M.tuple (.cons (.lcOf (x := "key") (j := 3) rfl (nod_of rfl) (pi_list semE_pe) (blk_of rfl) (fun _ _ _ _ _ => pg_name (nod_of rfl) rfl (by first | exact .inl rfl | exact .inr rfl)) (by decide) (lcL (ds := keys.map optD) (.var 1 rfl) (lc_num (N := 1000) (st := fun kn => μ0 ++ (gCells cG μ0.length L ⟨kn, a.rows, a.ends⟩ ++ R)) (fun kn o hk => El.go (Ek.of fun s1 H1 cl C fp => .meth c d1 hr (.var 0 rfl) (.own (gc (a := ⟨kn, a.rows, a.ends⟩) 0 rfl)) rfl (.cons (.var 3 rfl) .nil) ⟨μ0, R, L, ⟨kn, a.rows, a.ends⟩, o, rfl, rfl, hk, rfl⟩)) keys a.known (by omega)) (by rw [List.length_map, List.length_map, rowOf_len]; omega))) .nil) (CallS.tupL .dt)) (gc (a := ⟨keys.foldl numAdd a.known, a.rows, a.ends⟩) 3 rfl) (by rw [List.length_map, List.length_map]; omega) ⟨_, gc 3 rfl⟩) ?_)) ?_
    · refine (gs (a := ⟨keys.foldl numAdd a.known, a.rows, a.ends⟩) (M := gCells cG μ0.length L ⟨keys.foldl numAdd a.known, a.rows ++ [rowOf a.known keys], a.ends⟩ ++ R) 3 ?_)
      show _ = [_, _, _, Cell.lst (((a.rows ++ [rowOf a.known keys]).map rowD).map DV.dat), _] ++ R
      rw [List.map_append, List.map_append]
      rfl
    · refine .one (.expr (.tos (.append (xs := (a.ends.map natD).map DV.dat) (dv := .dat (natD (if e = true then 1 else 0))) (.fld c (.var 0 rfl) (.own (gc (a := ⟨keys.foldl numAdd a.known, a.rows ++ [rowOf a.known keys], a.ends⟩) 0 rfl)) rfl) (.to (.tyc M.int (.cons (.var 2 rfl) .nil) CallS.intB) ?_) (gc (a := ⟨keys.foldl numAdd a.known, a.rows ++ [rowOf a.known keys], a.ends⟩) 4 rfl) (by rw [List.length_map, List.length_map]; omega) ⟨_, gc (a := ⟨keys.foldl numAdd a.known, a.rows ++ [rowOf a.known keys], a.ends⟩) 4 rfl⟩) ?_))
      · cases e <;> rfl
      · refine (gs (a := ⟨keys.foldl numAdd a.known, a.rows ++ [rowOf a.known keys], a.ends⟩) (M := gCells cG μ0.length L ⟨keys.foldl numAdd a.known, a.rows ++ [rowOf a.known keys], a.ends ++ [if e = true then 1 else 0]⟩ ++ R) 4 ?_)
        have ee : ((a.ends ++ [if e = true then 1 else 0]).map natD).map DV.dat = (a.ends.map natD).map DV.dat ++ [.dat (natD (if e = true then 1 else 0))] := by rw [List.map_append, List.map_append]; rfl
        show _ = [_, _, _, _, Cell.lst (((a.ends ++ [if e = true then 1 else 0]).map natD).map DV.dat)] ++ R
        rw [ee]
        rfl
def P_gmach (cG cM : Addr) : Pr := fun dvs μ o => ∃ (μ0 R : Store) (L : Nat) (a : GS), dvs = [.own μ0.length] ∧ μ = μ0 ++ (gCells cG μ0.length L a ++ R) ∧ VM ⟨L, a.rows, a.ends⟩ ∧ o = .ret (.dat (mcD cM ⟨L, a.rows, a.ends⟩)) μ
theorem app_at {μ R : Store} {k : Nat} {x : Cell} (h : μ[k]? = some x) : (μ ++ R)[k]? = some x := by
  rw [List.getElem?_append_left (List.getElem?_eq_some_iff.mp h).1]
  exact h
theorem w_gmach (c : ClsK K cG gNames) (d1 : Di P w K mg base "Machine" cM 6 4 (P_minit cM)) (F : Fun K "machine" "Growing.machine" (inClass (top 21) 5) f fd) : FnOk P w K mg base (L2N.CX P w) 8 f fd ["self"] (spD K 1 (P_gmach cG cM)) :=
  fn_D (N := ["self"]) (ps := ["self"]) F ⟨rfl, rfl, rfl, by decide, rfl, by decide, by decide⟩ fun cdv A outer s H E hr tk hp dvs μ o hl hP => by
    obtain ⟨μ0, R, L, a, rfl, rfl, V, rfl⟩ := hP
    refine .ret (.one (.ret (.makeF (fs := mcF ⟨L, a.rows, a.ends⟩) d1 hr (.cons (.fld c (.var 0 rfl) (.own (gc 0 rfl)) rfl) (.cons (.fld c (.var 0 rfl) (.own (gc 0 rfl)) rfl) (.cons (.fld c (.var 0 rfl) (.own (gc 0 rfl)) rfl) .nil))) ⟨⟨L, a.rows, a.ends⟩, _, μ0.length + 3, μ0.length + 4, V, rfl, gL0, app_at (gc 3 rfl), app_at (gc 4 rfl), ?_⟩)))
    rw [sL0]
end
end Dt.K84
set_option maxHeartbeats 4000000
/-! k84: least_machine, walked. -/
namespace Dt.K84
open PySem PySem.Spec L2 Dt
open PyProof.Rows (envOfC)
structure Sim (S S' : PS) : Prop where
  many : S.many = S'.many
  kl : S.kl = S'.kl
  lf : S.lf = S'.lf
theorem sim_run {n n' : Nat} {m : Mc} {live : List Nat} : ∀ (k : Nat) {S S' : PS}, Sim S S' → Sim (runF (psG n m live) psStop k S) (runF (psG n' m live) psStop k S')
  | 0, S, S', h => h
  | k + 1, S, S', h => by
    unfold runF
    have e : psStop S = psStop S' := by unfold psStop; rw [h.many, h.kl]
    rw [e]
    by_cases hs : psStop S' = true
    · rw [if_pos hs, if_pos hs]
      exact h
    · rw [if_neg hs, if_neg hs]
      refine sim_run k ⟨?_, ?_, ?_⟩
      · show ((S.kl : Nat) : Int) = ((S'.kl : Nat) : Int)
        rw [h.kl]
      · show (marksOf m live S.lf).length = (marksOf m live S'.lf).length
        rw [h.lf]
      · show rnd m live S.lf = rnd m live S'.lf
        rw [h.lf]
def lfOf (m : Mc) : Nat → Nat := (psF 0 m (liveOf m)).lf
theorem lfOf_eq (n : Nat) (m : Mc) : (psF n m (liveOf m)).lf = lfOf m := (sim_run _ (S := ps0 n m (liveOf m)) (S' := ps0 0 m (liveOf m)) ⟨rfl, rfl, rfl⟩).lf
theorem lfOf_part {m : Mc} (h : liveOf m ≠ []) : Part m (liveOf m) (lfOf m) := (ps_end (μ := []) h).2
def leastOf (m : Mc) : Mc := if liveOf m = [] then ⟨m.L, [List.replicate m.L none], [0]⟩ else gMc m (gOf m (liveOf m) (lfOf m))
theorem least0_ok {m : Mc} (V : VM m) : VM ⟨m.L, [List.replicate m.L none], [0]⟩ := by
  refine ⟨V.L1, V.L48, Nat.le_refl _, by show 1 < 64; decide, fun r hr => ?_, fun r hr t ht => ?_, rfl, fun e he => ?_⟩
  · have := List.mem_singleton.mp hr
    subst this
    exact List.length_replicate
  · have := List.mem_singleton.mp hr
    subst this
    have := List.eq_of_mem_replicate ht
    cases this
  · have := List.mem_singleton.mp he
    subst this
    exact Nat.zero_le _
theorem leastOf_ok {m : Mc} (V : VM m) : VM (leastOf m) ∧ (leastOf m).rows.length ≤ m.rows.length := by
  unfold leastOf
  split
  · exact ⟨least0_ok V, V.n1⟩
  · rename_i h
    exact gMc_ok V (lfOf_part h) (live_zero V h)
theorem leastOf_cnt {m : Mc} (V : VM m) (n : Nat) : cnt (leastOf m) n 0 = cnt m n 0 := by
  unfold leastOf
  split
  · rename_i h
    have hz : cnt m n 0 = 0 := dead_zero V ((met_iff V).mpr (.refl 0)) (by rw [h]; exact List.not_mem_nil) n
    rw [hz]
    by_cases h0 : cnt ⟨m.L, [List.replicate m.L none], [0]⟩ n 0 = 0
    · exact h0
    · obtain ⟨i, i1, i2, _⟩ := cnt_pos (least0_ok V) n 0 (by show 0 < 1; decide) h0
      have : i = 0 := by have : i < 1 := i1; omega
      subst this
      cases i2
  · rename_i h
    exact g_cnt0 V (lfOf_part h) (live_zero V h) n
def fsK (a : List (Nat × Nat)) : List (Nat × DV) := a.map fun p => (p.1, .i (p.2 : Int))
theorem fsK_look (k : Nat) : ∀ a : List (Nat × Nat), (fsK a).lookup k = (a.lookup k).map fun (s : Nat) => DV.i (s : Int)
  | [] => rfl
  | (x, y) :: a => by
    have ih := fsK_look k a
    unfold fsK at ih ⊢
    rw [List.map_cons, List.lookup_cons, List.lookup_cons, ih]
    cases k == x <;> rfl
theorem fs_put (lf : Nat → Nat) (a : List (Nat × Nat)) (s : Nat) : (if (lookK (kN (fsK a)) (.inl (lf s : Int))).isSome = true then kN (fsK a) else putD (kN (fsK a)) (.inl (lf s : Int)) (.i (s : Int))) = kN (fsK (fsAdd lf a s)) := by
  rw [look_kN, fsK_look, Option.isSome_map]
  unfold fsAdd
  by_cases h : (a.lookup (lf s)).isSome = true
  · rw [if_pos h, if_pos h]
  · rw [if_neg h, if_neg h]
    have hn : a.lookup (lf s) = none := by
      cases hq : a.lookup (lf s) with
      | none => rfl
      | some v => rw [hq] at h; exact absurd rfl h
    rw [put_new (by rw [fsK_look, hn]; rfl)]
    unfold fsK
    rw [List.map_append]
    rfl
theorem fs_len (lf : Nat → Nat) : ∀ (l : List Nat) (a : List (Nat × Nat)), (l.foldl (fsAdd lf) a).length ≤ a.length + l.length
  | [], a => Nat.le_refl _
  | s :: l, a => by
    rw [List.foldl_cons, List.length_cons]
    have h1 := fs_len lf l (fsAdd lf a s)
    have h2 : (fsAdd lf a s).length ≤ a.length + 1 := by
      unfold fsAdd
      split
      · exact Nat.le_succ _
      · rw [List.length_append]; exact Nat.le_refl _
    omega
theorem rep_non (n : Nat) : (List.replicate n [D.non]).flatten = (List.replicate n (none : Option Nat)).map optD := by
  induction n with
  | zero => rfl
  | succ n ih => rw [List.replicate_succ, List.replicate_succ, List.flatten_cons, ih]; rfl
section
variable {P : Program} {w : World} {K : PySem.W.Frag} {mg : Str → Option Value} {base : Heap} {f : Addr} {fd : FuncData} {cNum cWord cM cG : Addr}
def P_least (cM : Addr) : Pr := fun dvs μ o => ∃ m : Mc, VM m ∧ dvs = [.dat (mcD cM m)] ∧ o = .ret (.dat (mcD cM (leastOf m))) μ
theorem w_least (M : Md mg) (c : ClsK K cM mcNames) (cg : ClsK K cG gNames) (d1 : Df P w K mg base "live_states" 2 1 (P_live cM)) (d2 : Di P w K mg base "Machine" cM 6 4 (P_minit cM)) (d3 : Df P w K mg base "parted" 1 2 (P_parted cM)) (d4 : Di P w K mg base "Growing" cG 1 3 (P_ginit cG))
    (d5 : Dm P w K mg base cG "is_open" 1 1 (P_gopen cG)) (d6 : Dm P w K mg base cG "next_key" 1 1 (P_gnext cG)) (d7 : Dm P w K mg base cG "put" 2 3 (P_gput cG)) (d8 : Dm P w K mg base cG "machine" 8 1 (P_gmach cG cM)) (F : Fun K "least_machine" "least_machine" (top 23) f fd) : FnOk P w K mg base (L2N.CX P w) 9 f fd ["machine"] (spD K 1 (P_least cM)) :=
  fn_D (N := ["machine", "live", "lots", "firsts", "state", "growing", "target"]) (ps := ["machine"]) F ⟨rfl, rfl, rfl, by decide, rfl, by decide, by decide⟩ fun cdv A outer s H E hr tk hp dvs μ o hl hP => by
    obtain ⟨m, V, rfl, rfl⟩ := hP
    have hu : (A.deeper (envOfC "least_machine" (defScope (top 23)) s.heap.objs.size f cdv)).units + 1 < cLine := by have := hr.units; omega
    have start : ∀ {o : FO}, (∃ o' junk, Xb (cxOf (L2N.CX P w) P w K mg base ["machine", "live", "lots", "firsts", "state", "growing", "target"] "least_machine" (defScope (top 23)) f cdv A outer s H E) (fun cls d _ H => E cls d H) (defBody (top 23)).tail [some (.dat (mcD cM m)), some (.dat (lI (liveOf m))), none, none, none, none, none] μ o' ∧ Ends' o' o μ junk) → Bd (cxOf (L2N.CX P w) P w K mg base ["machine", "live", "lots", "firsts", "state", "growing", "target"] "least_machine" (defScope (top 23)) f cdv A outer s H E) (fun cls d _ H => E cls d H) (defBody (top 23)) (startD 7 [.dat (mcD cM m)]) μ o := fun ⟨o', junk, hx, he⟩ => ⟨o', junk, .cons (.set 1 (.call d1 (hr.mono (by decide)) (.cons (.var 0 rfl) .nil) ⟨m, V, rfl, rfl⟩) (nod_of rfl)) hx, he⟩
    by_cases hL : liveOf m = []
    · have e0 : leastOf m = ⟨m.L, [List.replicate m.L none], [0]⟩ := if_pos hL
      rw [e0]
      refine start ?_
      refine Bd.retJ (J := [.lst [.dat (rowD (List.replicate m.L none))], .lst [.i 0]]) ?_
      refine .stop (.ifT (.to (.cmp (.blt M.len (.cons (.var 1 rfl) .nil) (CallS.lenL .dt)) .int .eqI) (by rw [hL]; rfl)) (.one (.ret ?_)))
      refine .makeF (fs := mcF ⟨m.L, [List.replicate m.L none], [0]⟩) d2 (hr.mono (by decide)) (.cons (.fld c (.var 0 rfl) .dat rfl) (.cons (μ1 := μ ++ [.lst [.dat (rowD (List.replicate m.L none))]]) (.tos (.lstO (dvs := [.dat (rowD (List.replicate m.L none))]) (.cons (.to (.bin (.tup (ds := [.non]) (.cons .non .nil)) (.fld c (.var 0 rfl) .dat rfl) (.repT (by simp) (by have := V.L1; omega) (by decide) (by have := V.L48; omega))) ?_) .nil)) rfl) (.cons (.tos (.lstO (.cons .int .nil)) (by rw [List.append_assoc]; rfl)) .nil))) ⟨⟨m.L, [List.replicate m.L none], [0]⟩, _, μ.length, μ.length + 1, least0_ok V, ?_, gL0, app_at gL0, app_at gL1, by rw [sL0]⟩ (Keep.push _ _ rfl)
      · rw [Int.toNat_natCast, rep_non]
        rfl
      · have e : (μ ++ [Cell.lst [.dat (rowD (List.replicate m.L none))]]).length = μ.length + 1 := List.length_append
        rw [e]
    · have e0 : leastOf m = gMc m (gOf m (liveOf m) (lfOf m)) := if_neg hL
      rw [e0]
      refine start ?_
      have hlt : ∀ t ∈ liveOf m, t < m.rows.length := fun t ht => (live_iff.mp ht).1
      have hl64 : (liveOf m).length < 64 := Nat.lt_of_le_of_lt (live_len m) V.n63
      obtain ⟨PE, _⟩ := ps_end (μ := μ) (m := m) hL
      have PT := lfOf_part hL
      have h0 := live_zero V hL
      have elf := lfOf_eq μ.length m
      have plots := PE.lots
      rw [elf] at plots
      generalize hPS : psF μ.length m (liveOf m) = S at plots
      let B := μ ++ S.L
      let μ0 : Store := B ++ [.dK (kN (fsK (fsOf (liveOf m) (lfOf m))))]
      let st1 : List Nat → Store := fun pre => B ++ [.dK (kN (fsK (pre.foldl (fsAdd (lfOf m)) [])))]
      let δ1 : Slots := [some (.dat (mcD cM m)), some (.dat (lI (liveOf m))), some (.own S.li), some (.own B.length), none, none, none]
      let δ2 : Slots := [some (.dat (mcD cM m)), some (.dat (lI (liveOf m))), some (.own S.li), some (.own B.length), none, some (.own μ0.length), none]
      let stG : GS → Store := fun a => μ0 ++ (gCells cG μ0.length m.L a ++ [])
      have hlots : ∀ R : Store, (B ++ R)[S.li]? = some (.dK (kN (lotsK (liveOf m) (lfOf m)))) := fun R => app_at plots
      obtain ⟨GE, gek⟩ := g_end (m := m) PT.lt h0
      refine Bd.retJ (J := S.L ++ ([.dK (kN (fsK (fsOf (liveOf m) (lfOf m))))] ++ (gCells cG μ0.length m.L (gOf m (liveOf m) (lfOf m)) ++ []))) ?_
      refine .cons (.ifF (.to (.cmp (.blt M.len (.cons (.var 1 rfl) .nil) (CallS.lenL .dt)) .int .eqI) (decide_eq_false (by
        rw [List.length_map, List.length_map]
        have := List.length_pos_iff.mpr hL
        omega))) .nil) ?_
      refine .cons (δ1 := [some (.dat (mcD cM m)), some (.dat (lI (liveOf m))), some (.own S.li), none, none, none, none]) (μ1 := B) (.set 2 (.to (.tos (.call d3 (hr.mono (by decide)) (.cons (.var 0 rfl) (.cons (.var 1 rfl) .nil)) ⟨m, liveOf m, V, live_nd m, hlt, hL, rfl, rfl⟩) (by rw [hPS])) (by rw [hPS])) (nod_of rfl)) ?_
      refine .cons (δ1 := δ1) (μ1 := st1 []) (.set 3 .dnew (nod_of rfl)) ?_
      refine .cons (δ1 := δ1) (μ1 := st1 (liveOf m)) (.forL (ds := (liveOf m).map natD) rfl (nod_of rfl) hp 4 (.var 1 rfl) ?_) ?_
      · rw [List.map_map]
        refine It1.foldP (f := DV.dat ∘ natD) (δ := fun _ => δ1) (μ := st1) (liveOf m) fun pre t rest e => ?_
        have ht : t ∈ liveOf m := by rw [← e]; exact List.mem_append_right _ List.mem_cons_self
        have hfl := fs_len (lfOf m) pre []
        have hpl : pre.length ≤ (liveOf m).length := by rw [← e, List.length_append]; omega
        refine .wk (δ1 := [some (.dat (mcD cM m)), some (.dat (lI (liveOf m))), some (.own S.li), some (.own B.length), some (.i (t : Int)), none, none]) (.one (.expr (.tos (.setd (kvs := kN (fsK (pre.foldl (fsAdd (lfOf m)) []))) (q := .inl (lfOf m t : Int)) (dv := .i (t : Int)) (.var 3 rfl) (.dget (q := .inl (t : Int)) hu (.var 2 rfl) (.var 4 rfl) (hlots _) (by rw [look_kN, lotsK_look]; unfold lkL; rw [if_pos ht]; rfl)) (.var 4 rfl) ⟨_, gL0⟩ gL0 ?_) ?_)))
        · rw [kN_len]
          unfold fsK
          rw [List.length_map]
          simp only [List.length_nil] at hfl
          omega
        · have q := fs_put (lfOf m) (pre.foldl (fsAdd (lfOf m)) []) t
          show (if _ then B ++ [_] else (B ++ [_]).set B.length _) = B ++ [.dK (kN (fsK ((pre ++ [t]).foldl (fsAdd (lfOf m)) [])))]
          rw [List.foldl_append]
          show _ = B ++ [.dK (kN (fsK (fsAdd (lfOf m) (pre.foldl (fsAdd (lfOf m)) []) t)))]
          rw [← q, sL0]
          split <;> rfl
      have bnd : ∀ a, GI m (liveOf m) (lfOf m) a → a.known.length < 64 ∧ a.rows.length < 65 ∧ a.ends.length < 65 := fun a hG => by
        have h1 := hG.kn.len PT.lt
        have h2 := hG.le
        have h3 := hG.el
        exact ⟨by omega, by omega, by omega⟩
      refine .cons (δ1 := δ2) (μ1 := stG (gStart (lfOf m))) (.tos (.set 5 (.make d4 (hr.mono (by decide)) (.cons (.fld c (.var 0 rfl) .dat rfl) (.cons (.dget (q := .inl ((0 : Nat) : Int)) hu (.var 2 rfl) .int (hlots _) (by rw [look_kN, lotsK_look]; unfold lkL; rw [if_pos h0]; rfl)) .nil)) ⟨μ0, m.L, lfOf m 0, rfl, rfl, rfl⟩) (nod_of rfl)) (by show μ0 ++ gCells cG μ0.length m.L (gStart (lfOf m)) = μ0 ++ (gCells cG μ0.length m.L (gStart (lfOf m)) ++ []); rw [List.append_nil])) ?_
      refine .cons (.while hp (Wh.run (δ := fun _ => δ2) (μ := stG) (gStep m (liveOf m) (lfOf m)) gStop (GI m (liveOf m) (lfOf m)) (fun a => (liveOf m).length - a.rows.length) (fun a hG hs => ?_) (fun a hG hs => ?_) (fun a hG hs => g_step PT.lt hG hs) ((liveOf m).length + 1) (gStart (lfOf m)) (by show (liveOf m).length - 0 < _; omega) (g_start h0))) ?_
      · refine .to (.val (.meth0 cg d5 (hr.mono (by decide)) (.var 5 rfl) (.own (gc 0 rfl)) rfl ⟨μ0, [], m.L, a, rfl, rfl, rfl⟩)) ?_
        unfold gStop at hs
        simpa using hs
      · have hlt2 : a.rows.length < a.known.length := by
          unfold gStop at hs
          have : decide (a.rows.length < a.known.length) = true := by simpa using hs
          exact of_decide_eq_true this
        have hkm : a.known.getD a.rows.length 0 ∈ a.known := by
          rw [List.getD_eq_getElem?_getD, List.getElem?_eq_getElem hlt2]
          exact List.getElem_mem hlt2
        obtain ⟨r1, r2, r3⟩ := rep_ok (hG.kn.from_ _ hkm)
        have hrN := hlt _ r1
        obtain ⟨b1, b2, b3⟩ := bnd a hG
        refine ⟨.to (.val (.meth0 cg d5 (hr.mono (by decide)) (.var 5 rfl) (.own (gc 0 rfl)) rfl ⟨μ0, [], m.L, a, rfl, rfl, rfl⟩)) (decide_eq_true hlt2), ?_⟩
        refine .wk (δ1 := [some (.dat (mcD cM m)), some (.dat (lI (liveOf m))), some (.own S.li), some (.own B.length), some (.i (rep (liveOf m) (lfOf m) (a.known.getD a.rows.length 0) : Nat)), some (.own μ0.length), none]) (.cons (.set 4 (.dget (q := .inl ((a.known.getD a.rows.length 0 : Nat) : Int)) hu (.var 3 rfl) (.meth0 cg d6 (hr.mono (by decide)) (.var 5 rfl) (.own (gc 0 rfl)) rfl ⟨μ0, [], m.L, a, rfl, rfl, hlt2, rfl⟩) (app_at gL0) ?_) (nod_of rfl)) (.one (.expr (.meth (dv1 := .n) cg d7 (hr.mono (by decide)) (.var 5 rfl) (.own (gc 0 rfl)) rfl (.cons (.to (.lcTa 6 (m.row (rep (liveOf m) (lfOf m) (a.known.getD a.rows.length 0))) optD (fun o => optD (tgL (liveOf m) (lfOf m) o)) (.ixT (.fld c (.var 0 rfl) .dat rfl) (.var 4 rfl) (row_ix V hrN)) (fun o ho s1 H1 cl C fp => ?_) ?_) (dv' := .dat (.lst ((gKeys m (liveOf m) (lfOf m) (a.known.getD a.rows.length 0)).map optD))) ?_) (.cons (.cmp (.ixT (.fld c (.var 0 rfl) .dat rfl) (.var 4 rfl) (ed_ix V hrN)) .int .eqI) .nil)) ⟨μ0, [], m.L, a, gKeys m (liveOf m) (lfOf m) (a.known.getD a.rows.length 0), _, rfl, rfl, ?_, by omega, by omega, ?_⟩))))
        · rw [look_kN, fsK_look, fsOf_look, r3]
          rfl
        · refine .to (.get1 (q := o.map fun (t : Nat) => .inl (t : Int)) hu (.var 2 rfl) (.to (.var 6 rfl) (by cases o <;> rfl)) ⟨_, app_at (hlots _)⟩ (app_at (hlots _))) ?_
          cases o with
          | none => rfl
          | some t =>
            show ((lookK (kN (lotsK (liveOf m) (lfOf m))) (.inl (t : Int))).getD _) = _
            rw [look_kN, lotsK_look]
            show _ = DV.dat (optD (lkL (liveOf m) (lfOf m) t))
            cases lkL (liveOf m) (lfOf m) t <;> rfl
        · rw [V.row_len hrN]
          have := V.L48
          omega
        · unfold gKeys
          rw [List.map_map]
          rfl
        · unfold gKeys
          rw [List.length_map, V.row_len hrN]
          have := V.L48
          omega
        · show FO.ret .n (stG (gStep m (liveOf m) (lfOf m) a)) = FO.ret .n (μ0 ++ (gCells cG μ0.length m.L ⟨_, _, a.ends ++ [if decide (((m.ed (rep (liveOf m) (lfOf m) (a.known.getD a.rows.length 0)) : Nat) : Int) = 1) = true then 1 else 0]⟩ ++ []))
          have e2 : (if decide (((m.ed (rep (liveOf m) (lfOf m) (a.known.getD a.rows.length 0)) : Nat) : Int) = 1) = true then 1 else 0) = (if m.ed (rep (liveOf m) (lfOf m) (a.known.getD a.rows.length 0)) = 1 then 1 else 0) := by
            by_cases h : m.ed (rep (liveOf m) (lfOf m) (a.known.getD a.rows.length 0)) = 1
            · rw [if_pos h, if_pos (decide_eq_true (by omega))]
            · rw [if_neg h, if_neg (by rw [decide_eq_false (by omega)]; exact Bool.false_ne_true)]
          rw [e2]
          rfl
      · refine .one (.to (.ret (.meth0 cg d8 (hr.mono (by decide)) (.var 5 rfl) (.own (gc 0 rfl)) rfl ⟨μ0, [], m.L, gOf m (liveOf m) (lfOf m), rfl, rfl, (gMc_ok V PT h0).1, rfl⟩)) ?_)
        show Out.rt _ (((μ ++ S.L) ++ [_]) ++ _) = Out.rt _ (μ ++ (S.L ++ ([_] ++ _)))
        rw [List.append_assoc, List.append_assoc]
        rfl
end
end Dt.K84
set_option maxHeartbeats 4000000
/-! k84, plain: counting forwards, ways, total. -/
namespace Dt.K84
/-! ### counting forwards -/
def addC : List (Nat × Nat) → Nat → Nat → List (Nat × Nat)
  | [], t, c => [(t, c)]
  | (k, v) :: r, t, c => if k = t then (k, v + c) :: r else (k, v) :: addC r t c
def vl (f : Nat → Nat) : List (Nat × Nat) → Nat
  | [] => 0
  | p :: r => p.2 * f p.1 + vl f r
theorem vl_add (f : Nat → Nat) (t c : Nat) : ∀ l : List (Nat × Nat), vl f (addC l t c) = vl f l + c * f t
  | [] => by show c * f t + 0 = 0 + c * f t; omega
  | (k, v) :: r => by
    unfold addC
    by_cases h : k = t
    · rw [if_pos h]
      subst h
      show (v + c) * f k + vl f r = v * f k + vl f r + c * f k
      rw [Nat.add_mul]
      omega
    · rw [if_neg h]
      show v * f k + vl f (addC r t c) = v * f k + vl f r + c * f t
      rw [vl_add f t c r]
      omega
def rowAdd (c : Nat) (a : List (Nat × Nat)) (o : Option Nat) : List (Nat × Nat) := match o with
  | none => a
  | some t => addC a t c
theorem vl_row (f : Nat → Nat) (c : Nat) : ∀ (os : List (Option Nat)) (a : List (Nat × Nat)), vl f (os.foldl (rowAdd c) a) = vl f a + c * osum f os
  | [], a => rfl
  | none :: os, a => vl_row f c os a
  | some t :: os, a => by
    rw [List.foldl_cons, vl_row f c os]
    show vl f (addC a t c) + _ = vl f a + c * (f t + osum f os)
    rw [vl_add, Nat.mul_add]
    omega
def fwStep (m : Mc) (l : List (Nat × Nat)) : List (Nat × Nat) := l.foldl (fun a p => (m.row p.1).foldl (rowAdd p.2) a) []
theorem vl_step (m : Mc) (f : Nat → Nat) : ∀ (l a : List (Nat × Nat)), vl f (l.foldl (fun a p => (m.row p.1).foldl (rowAdd p.2) a) a) = vl f a + vl (fun s => osum f (m.row s)) l
  | [], a => rfl
  | p :: l, a => by
    rw [List.foldl_cons, vl_step m f l, vl_row]
    exact Nat.add_assoc _ _ _
def fwN (m : Mc) (n : Nat) : List (Nat × Nat) := (List.range n).foldl (fun l _ => fwStep m l) [(0, 1)]
theorem fwN_succ (m : Mc) (n : Nat) : fwN m (n + 1) = fwStep m (fwN m n) := by
  unfold fwN
  rw [List.range_succ, List.foldl_append]
  rfl
theorem vl_fwN (m : Mc) : ∀ (n k : Nat), vl (cnt m k) (fwN m n) = cnt m (k + n) 0
  | 0, k => by
    show 1 * cnt m k 0 + 0 = cnt m k 0
    omega
  | n + 1, k => by
    rw [fwN_succ]
    unfold fwStep
    rw [vl_step]
    have h := vl_fwN m n (k + 1)
    show 0 + vl (cnt m (k + 1)) (fwN m n) = _
    rw [h, Nat.zero_add]
    congr 1
    omega
/-- keys: each once, all states -/
structure CkI (N : Nat) (l : List (Nat × Nat)) : Prop where
  nd : (l.map (·.1)).Nodup
  lt : ∀ p ∈ l, p.1 < N
theorem addC_keys : ∀ (l : List (Nat × Nat)) (t c : Nat), (addC l t c).map (·.1) = if t ∈ l.map (·.1) then l.map (·.1) else l.map (·.1) ++ [t]
  | [], t, c => rfl
  | (k, v) :: r, t, c => by
    unfold addC
    by_cases h : k = t
    · rw [if_pos h]
      subst h
      rw [if_pos (by simp)]
      rfl
    · rw [if_neg h, List.map_cons, addC_keys r t c]
      have h' : ¬ t = k := fun z => h z.symm
      simp only [List.map_cons, List.mem_cons, h', false_or]
      split <;> rfl
theorem CkI.add {N : Nat} {l : List (Nat × Nat)} {t : Nat} (h : CkI N l) (ht : t < N) (c : Nat) : CkI N (addC l t c) := by
  refine ⟨?_, fun p hp => ?_⟩
  · rw [addC_keys]
    split
    · exact h.nd
    · rename_i hn
      rw [List.nodup_append]
      exact ⟨h.nd, by simp, fun x hx y hy e => by
        have : y = t := by simpa using hy
        subst this
        subst e
        exact hn hx⟩
  · have hp' : p.1 ∈ (addC l t c).map (·.1) := List.mem_map_of_mem hp
    rw [addC_keys] at hp'
    split at hp'
    · obtain ⟨q, hq, e⟩ := List.mem_map.mp hp'
      rw [← e]
      exact h.lt q hq
    · rcases List.mem_append.mp hp' with h1 | h1
      · obtain ⟨q, hq, e⟩ := List.mem_map.mp h1
        rw [← e]
        exact h.lt q hq
      · have : p.1 = t := by simpa using h1
        rw [this]
        exact ht
theorem CkI.len {N : Nat} {l : List (Nat × Nat)} (h : CkI N l) : l.length ≤ N := by
  have := nodup_le h.nd fun x hx => by
    obtain ⟨q, hq, e⟩ := List.mem_map.mp hx
    rw [← e]
    exact h.lt q hq
  rw [List.length_map] at this
  exact this
theorem CkI.row {N : Nat} {c : Nat} : ∀ {os : List (Option Nat)} {a : List (Nat × Nat)}, CkI N a → (∀ t, some t ∈ os → t < N) → CkI N (os.foldl (rowAdd c) a)
  | [], a, h, _ => h
  | none :: os, a, h, ho => CkI.row (os := os) h fun t ht => ho t (List.mem_cons_of_mem _ ht)
  | some t :: os, a, h, ho => CkI.row (os := os) (h.add (ho t List.mem_cons_self) c) fun t ht => ho t (List.mem_cons_of_mem _ ht)
theorem CkI.step {m : Mc} (V : VM m) : ∀ {l a : List (Nat × Nat)}, CkI m.rows.length a → CkI m.rows.length (l.foldl (fun a p => (m.row p.1).foldl (rowAdd p.2) a) a)
  | [], a, h => h
  | p :: l, a, h => CkI.step V (l := l) (h.row fun t ht => row_lt V p.1 t ht)
theorem fwN_I {m : Mc} (V : VM m) : ∀ n, CkI m.rows.length (fwN m n)
  | 0 => ⟨by simp [fwN], fun p hp => by
    have : p = (0, 1) := by simpa [fwN] using hp
    rw [this]
    exact Nat.lt_of_lt_of_le Nat.zero_lt_one V.n1⟩
  | n + 1 => by
    rw [fwN_succ]
    exact CkI.step V ⟨List.nodup_nil, fun p hp => (nomatch hp)⟩
/-! ### ways -/
inductive Pth (m : Mc) : Nat → Nat → Nat → Prop
  | nil (s : Nat) : Pth m 0 s s
  | cons {n s t u : Nat} : some t ∈ m.row s → Pth m n t u → Pth m (n + 1) s u
theorem Pth.app {m : Mc} {a b : Nat} {s t u : Nat} (h : Pth m a s t) (h' : Pth m b t u) : Pth m (a + b) s u := by
  induction h with
  | nil => rw [Nat.zero_add]; exact h'
  | cons q _ ih =>
    rw [Nat.add_right_comm]
    exact .cons q (ih h')
theorem Pth.rch {m : Mc} {n s t : Nat} (h : Pth m n s t) : Rch m.row s t := by
  induction h with
  | nil => exact .refl _
  | cons q _ ih => exact rch_head q ih
theorem rch_pth {m : Mc} {s t : Nat} (h : Rch m.row s t) : ∃ n, Pth m n s t := by
  induction h with
  | refl => exact ⟨0, .nil _⟩
  | tail _ q ih =>
    obtain ⟨n, hn⟩ := ih
    exact ⟨n + 1, hn.app (.cons q (.nil _))⟩
theorem Pth.lt {m : Mc} (V : VM m) {n s t : Nat} (h : Pth m n s t) (hs : s < m.rows.length) : t < m.rows.length := by
  induction h with
  | nil => exact hs
  | cons q _ ih => exact ih (row_lt V _ _ q)
theorem osum_ne {f : Nat → Nat} {t : Nat} : ∀ {r : List (Option Nat)}, some t ∈ r → f t ≠ 0 → osum f r ≠ 0
  | none :: r, h, hf => osum_ne (r := r) (by simpa using h) hf
  | some u :: r, h, hf => by
    rcases List.mem_cons.mp h with e | e
    · cases e
      show f t + osum f r ≠ 0
      omega
    · have := osum_ne (r := r) e hf
      show f u + osum f r ≠ 0
      omega
theorem pth_cnt {m : Mc} {n s t : Nat} (h : Pth m n s t) (he : m.ed t ≠ 0) : cnt m n s ≠ 0 := by
  induction h with
  | nil => exact he
  | cons q _ ih => exact osum_ne q (ih he)
theorem cnt_pth {m : Mc} : ∀ {n s : Nat}, cnt m n s ≠ 0 → ∃ t, Pth m n s t ∧ m.ed t ≠ 0
  | 0, s, h => ⟨s, .nil s, h⟩
  | n + 1, s, h => by
    obtain ⟨t, ht, hf⟩ := osum_pos (show osum (cnt m n) (m.row s) ≠ 0 from h)
    obtain ⟨u, hu, he⟩ := cnt_pth hf
    exact ⟨u, .cons ht hu, he⟩
/-- a long way goes through a state twice -/
theorem pth_loop {m : Mc} (V : VM m) {s0 t : Nat} : ∀ (n s : Nat) (vis : List Nat), Pth m n s t → s < m.rows.length → vis.Nodup → (∀ v ∈ vis, v < m.rows.length ∧ ∃ i p, 1 ≤ p ∧ i + p = vis.length ∧ Pth m i s0 v ∧ Pth m p v s) →
    Pth m vis.length s0 s → (∃ u i p k, 1 ≤ p ∧ i + p ≤ m.rows.length ∧ i + p + k = vis.length + n ∧ Pth m i s0 u ∧ Pth m p u u ∧ Pth m k u t) ∨ vis.length + n + 1 ≤ m.rows.length := by
  intro n
  induction n with
  | zero =>
    intro s vis h hs hn hv h0
    have hc := nodup_le hn fun v q => (hv v q).1
    by_cases hm : s ∈ vis
    · obtain ⟨_, i, p, h1, h2, h3, h4⟩ := hv s hm
      exact .inl ⟨s, i, p, 0, h1, by omega, by omega, h3, h4, h⟩
    · right
      have := nodup_le (N := m.rows.length) (l := s :: vis) (List.nodup_cons.mpr ⟨hm, hn⟩) fun v q => by
        rcases List.mem_cons.mp q with e | e
        · subst e; exact hs
        · exact (hv v e).1
      rw [List.length_cons] at this
      omega
  | succ n ih =>
    intro s vis h hs hn hv h0
    have hc := nodup_le hn fun v q => (hv v q).1
    by_cases hm : s ∈ vis
    · obtain ⟨_, i, p, h1, h2, h3, h4⟩ := hv s hm
      exact .inl ⟨s, i, p, n + 1, h1, by omega, by omega, h3, h4, h⟩
    · cases h with
      | cons q hr =>
        rename_i s'
        have := ih s' (s :: vis) hr (row_lt V _ _ q) (List.nodup_cons.mpr ⟨hm, hn⟩) (fun v hvv => ?_) ?_
        · rw [List.length_cons] at this
          rcases this with ⟨u, i, p, k, a1, a2, a3, a4, a5, a6⟩ | this
          · exact .inl ⟨u, i, p, k, a1, a2, by omega, a4, a5, a6⟩
          · right; omega
        · rcases List.mem_cons.mp hvv with e | e
          · subst e
            exact ⟨hs, vis.length, 1, Nat.le_refl _, by rw [List.length_cons], h0, .cons q (.nil _)⟩
          · obtain ⟨g1, i, p, g2, g3, g4, g5⟩ := hv v e
            exact ⟨g1, i, p + 1, by omega, by rw [List.length_cons]; omega, g4, g5.app (.cons q (.nil _))⟩
        · rw [List.length_cons]
          exact h0.app (.cons q (.nil _))
theorem long_loop {m : Mc} (V : VM m) {n t : Nat} (h : Pth m n 0 t) (hn : m.rows.length ≤ n) : ∃ u i p k, 1 ≤ p ∧ i + p ≤ m.rows.length ∧ i + p + k = n ∧ Pth m i 0 u ∧ Pth m p u u ∧ Pth m k u t := by
  rcases pth_loop V n 0 [] h (Nat.lt_of_lt_of_le Nat.zero_lt_one V.n1) List.nodup_nil (fun v hv => (nomatch hv)) (.nil 0) with ⟨u, i, p, k, a1, a2, a3, a4⟩ | q
  · exact ⟨u, i, p, k, a1, a2, by simpa using a3, a4⟩
  · simp at q
    omega
/-- a long word: one of N to 2 N letters -/
theorem pump {m : Mc} (V : VM m) : ∀ (n : Nat), m.rows.length ≤ n → cnt m n 0 ≠ 0 → ∃ k, m.rows.length ≤ k ∧ k < 2 * m.rows.length ∧ cnt m k 0 ≠ 0 := by
  intro n
  induction n using Nat.strongRecOn with
  | _ n ih =>
    intro hn hc
    by_cases hk : n < 2 * m.rows.length
    · exact ⟨n, hn, hk, hc⟩
    · obtain ⟨t, ht, he⟩ := cnt_pth hc
      obtain ⟨u, i, p, k, a1, a2, a3, a4, a5, a6⟩ := long_loop V ht hn
      exact ih (i + k) (by omega) (by omega) (pth_cnt (a4.app a6) he)
/-! ### what is reached by live edges -/
def eds (m : Mc) (s : Nat) : List Nat := (m.row s).filterMap fun o => o.bind fun t => if t ∈ liveOf m then some t else none
def edS (m : Mc) (s : Nat) : List (Option Nat) := (eds m s).map some
theorem eds_mem {m : Mc} {s t : Nat} : t ∈ eds m s ↔ some t ∈ m.row s ∧ t ∈ liveOf m := by
  unfold eds
  rw [List.mem_filterMap]
  constructor
  · rintro ⟨o, ho, h⟩
    cases o with
    | none => cases h
    | some u =>
      have h' : (if u ∈ liveOf m then some u else none) = some t := h
      split at h'
      · rename_i hu
        cases h'
        exact ⟨ho, hu⟩
      · cases h'
  · rintro ⟨h1, h2⟩
    exact ⟨some t, h1, if_pos h2⟩
theorem edS_mem {m : Mc} {s t : Nat} : some t ∈ edS m s ↔ some t ∈ m.row s ∧ t ∈ liveOf m := by
  unfold edS
  rw [← eds_mem]
  simp
/-- reached by one live edge or more -/
def Lp (m : Mc) (s x : Nat) : Prop := ∃ y ∈ eds m s, Rch (edS m) y x
theorem live_of {m : Mc} (V : VM m) {s t : Nat} (h0 : Rch m.row 0 s) (h1 : Rch m.row s t) (ht : t ∈ liveOf m) : s ∈ liveOf m := by
  have l := live_iff.mp ht
  obtain ⟨i, i1, i2, i3⟩ := (end_iff V).mp l.2.2
  have hm := (met_iff V).mpr h0
  exact live_iff.mpr ⟨(metI V).lt s hm, hm, (end_iff V).mpr ⟨i, i1, i2, rch_trans h1 i3⟩⟩
theorem pth_eds {m : Mc} (V : VM m) {n x y : Nat} (h : Pth m n x y) (h0 : Rch m.row 0 x) (hy : y ∈ liveOf m) : Rch (edS m) x y := by
  induction h with
  | nil => exact .refl _
  | cons q hr ih =>
    have h1 := Rch.tail h0 q
    exact rch_head (edS_mem.mpr ⟨q, live_of V h1 hr.rch hy⟩) (ih h1 hy)
theorem pth_lp {m : Mc} (V : VM m) {n x y : Nat} (h : Pth m n x y) (hn : 1 ≤ n) (h0 : Rch m.row 0 x) (hy : y ∈ liveOf m) : Lp m x y := by
  cases h with
  | nil => omega
  | cons q hr =>
    rename_i t
    have h1 := Rch.tail h0 q
    exact ⟨t, eds_mem.mpr ⟨q, live_of V h1 hr.rch hy⟩, pth_eds V hr h1 hy⟩
theorem rch_eds {m : Mc} {x y : Nat} (h : Rch (edS m) x y) : Rch m.row x y := by
  induction h with
  | refl => exact .refl _
  | tail _ q ih => exact .tail ih (edS_mem.mp q).1
/-- no state comes back: no long words -/
theorem acyclic {m : Mc} (V : VM m) (h : ∀ s ∈ liveOf m, ¬ Lp m s s) {n : Nat} (hn : m.rows.length ≤ n) : cnt m n 0 = 0 := by
  by_cases hc : cnt m n 0 = 0
  · exact hc
  · obtain ⟨t, ht, he⟩ := cnt_pth hc
    obtain ⟨u, i, p, k, a1, a2, a3, a4, a5, a6⟩ := long_loop V ht hn
    have ht1 := a6.lt V (a4.lt V (Nat.lt_of_lt_of_le Nat.zero_lt_one V.n1))
    have hte : m.ed t = 1 := by have := V.ed_le t; omega
    have hm := (met_iff V).mpr a4.rch
    have hu : u ∈ liveOf m := live_iff.mpr ⟨(metI V).lt u hm, hm, (end_iff V).mpr ⟨t, ht1, hte, a6.rch⟩⟩
    exact absurd (pth_lp V a5 a1 a4.rch hu) (h u hu)
/-- a state comes back: words as long as one likes -/
theorem cyclic {m : Mc} (V : VM m) {s : Nat} (hs : s ∈ liveOf m) (h : Lp m s s) (k : Nat) : ∃ n, k ≤ n ∧ cnt m n 0 ≠ 0 := by
  obtain ⟨y, hy, r⟩ := h
  obtain ⟨q, hq⟩ := rch_pth (rch_eds r)
  have loop : Pth m (q + 1) s s := .cons (eds_mem.mp hy).1 hq
  obtain ⟨_, l2, l3⟩ := live_iff.mp hs
  obtain ⟨a, ha⟩ := rch_pth ((met_iff V).mp l2)
  obtain ⟨i, i1, i2, i3⟩ := (end_iff V).mp l3
  obtain ⟨b, hb⟩ := rch_pth i3
  have many : ∀ j, Pth m (j * (q + 1)) s s := by
    intro j
    induction j with
    | zero => rw [Nat.zero_mul]; exact .nil s
    | succ j ih => rw [Nat.succ_mul]; exact ih.app loop
  refine ⟨a + k * (q + 1) + b, ?_, pth_cnt ((ha.app (many k)).app hb) (by omega)⟩
  have : k ≤ k * (q + 1) := Nat.le_mul_of_pos_right k (Nat.succ_pos q)
  omega
end Dt.K84
set_option maxHeartbeats 4000000
/-! k84: check_length, count, walked. -/
namespace Dt.K84
open PySem PySem.Spec L2 Dt
open PyProof.Rows (envOfC)
def cK (l : List (Nat × Nat)) : List (Nat × DV) := l.map fun p => (p.1, .i (p.2 : Int))
theorem cK_look (t : Nat) : ∀ l : List (Nat × Nat), (cK l).lookup t = (l.lookup t).map fun (v : Nat) => DV.i (v : Int)
  | [] => rfl
  | (k, v) :: l => by
    have ih := cK_look t l
    unfold cK at ih ⊢
    rw [List.map_cons, List.lookup_cons, List.lookup_cons, ih]
    cases t == k <;> rfl
theorem look_mem : ∀ {l : List (Nat × Nat)} {p : Nat × Nat}, (l.map (·.1)).Nodup → p ∈ l → l.lookup p.1 = some p.2
  | (k, v) :: l, p, hn, hp => by
    rw [List.map_cons, List.nodup_cons] at hn
    rw [List.lookup_cons]
    rcases List.mem_cons.mp hp with e | e
    · subst e
      rw [beq_self_eq_true]
    · have : (p.1 == k) = false := beq_eq_false_iff_ne.mpr fun z => hn.1 (by rw [← z]; exact List.mem_map.mpr ⟨p, e, rfl⟩)
      rw [this]
      exact look_mem hn.2 e
theorem addC_none : ∀ {l : List (Nat × Nat)} {t c : Nat}, l.lookup t = none → addC l t c = l ++ [(t, c)]
  | [], _, _, _ => rfl
  | (k, v) :: l, t, c, h => by
    rw [List.lookup_cons] at h
    unfold addC
    by_cases e : k = t
    · subst e
      rw [beq_self_eq_true] at h
      cases h
    · have : (t == k) = false := beq_eq_false_iff_ne.mpr fun z => e z.symm
      rw [this] at h
      rw [if_neg e, addC_none h]
      rfl
theorem map_same : ∀ {l : List (Nat × Nat)} {t : Nat} (v : DV), t ∉ l.map (·.1) → ((kN (cK l)).map fun kv => if kv.1 = (Sum.inl (t : Int) : Key) then (kv.1, v) else kv) = kN (cK l)
  | [], _, _, _ => rfl
  | (k, u) :: l, t, v, h => by
    rw [List.map_cons, List.mem_cons] at h
    have ih := map_same (l := l) v fun z => h (.inr z)
    have hk : ¬ (Sum.inl (k : Int) : Key) = Sum.inl (t : Int) := fun z => h (.inl (inl_eq.mp z).symm)
    show (if (Sum.inl (k : Int) : Key) = Sum.inl (t : Int) then _ else _) :: _ = _
    rw [if_neg hk]
    exact congrArg _ ih
theorem addC_some : ∀ {l : List (Nat × Nat)} {t c v : Nat}, (l.map (·.1)).Nodup → l.lookup t = some v → ((kN (cK l)).map fun kv => if kv.1 = (Sum.inl (t : Int) : Key) then (kv.1, DV.i ((v + c : Nat) : Int)) else kv) = kN (cK (addC l t c))
  | [], _, _, _, _, h => by cases h
  | (k, u) :: l, t, c, v, hn, h => by
    rw [List.map_cons, List.nodup_cons] at hn
    rw [List.lookup_cons] at h
    unfold addC
    by_cases e : k = t
    · subst e
      rw [beq_self_eq_true] at h
      cases h
      rw [if_pos rfl]
      show (if (Sum.inl (k : Int) : Key) = Sum.inl (k : Int) then _ else _) :: _ = _
      rw [if_pos rfl]
      exact congrArg _ (map_same _ hn.1)
    · have hb : (t == k) = false := beq_eq_false_iff_ne.mpr fun z => e z.symm
      rw [hb] at h
      rw [if_neg e]
      have hk : ¬ (Sum.inl (k : Int) : Key) = Sum.inl (t : Int) := fun z => e (inl_eq.mp z)
      show (if (Sum.inl (k : Int) : Key) = Sum.inl (t : Int) then _ else _) :: _ = _
      rw [if_neg hk]
      exact congrArg _ (addC_some hn.2 h)
theorem cK_put {l : List (Nat × Nat)} (hn : (l.map (·.1)).Nodup) (t c : Nat) : putD (kN (cK l)) (.inl (t : Int)) (.i (((l.lookup t).getD 0 + c : Nat) : Int)) = kN (cK (addC l t c)) := by
  cases h : l.lookup t with
  | none =>
    rw [put_new (by rw [cK_look, h]; rfl), addC_none h]
    unfold cK
    rw [List.map_append, Option.getD_none, Nat.zero_add]
    rfl
  | some v =>
    unfold putD
    rw [any_kN, cK_look, h]
    show (if true = true then _ else _) = _
    rw [if_pos rfl]
    exact addC_some hn h
theorem cK_len (l : List (Nat × Nat)) : (cK l).length = l.length := List.length_map _
theorem upto_len' (n : Nat) : (upto 0 n).length = n := upto_len 0 n
theorem It1.cnt {R : DV → Slots → Store → Out → Prop} {n : Nat} (δ : Nat → Slots) (μ : Nat → Store) (h : ∀ i, i < n → R (.i (i : Int)) (δ i) (μ i) (.nx (δ (i + 1)) (μ (i + 1)))) : It1 R (upto 0 n) (δ 0) (μ 0) (.nx (δ n) (μ n)) := by
  have := It1.fold δ μ (upto 0 n) 0 (R := R) fun i x hx => by
    have hi : i < n := by
      have := (List.getElem?_eq_some_iff.mp hx).1
      rw [upto_len] at this
      exact this
    rw [upto_at hi] at hx
    cases hx
    rw [Nat.zero_add, Int.zero_add]
    exact h i hi
  rw [upto_len, Nat.zero_add] at this
  exact this
section
variable {P : Program} {w : World} {K : PySem.W.Frag} {mg : Str → Option Value} {base : Heap} {f : Addr} {fd : FuncData} {cNum cWord cM cG : Addr}
def P_check_num (c : Addr) : Pr := fun dvs μ o => ∃ d t, dvs = [.dat d] ∧ tyOf d = some t ∧ o = if isNumD d = true then .ret .n μ else .exc c [("value", .dat d)] μ
theorem w_check_num (E0 : Xc P w K mg base cNum cWord) (d1 : Df P w K mg base "is_number" 2 1 P_is_number) (F : Fun K "check_length" "check_length" (top 24) f fd) : FnOk P w K mg base (L2N.CX P w) 3 f fd ["length"] (spD K 1 (P_check_num cNum)) :=
  fn_D (N := ["length"]) (ps := ["length"]) F ⟨rfl, rfl, rfl, by decide, rfl, by decide, by decide⟩ fun cdv A outer s H E hr tk hp dvs μ o hl hP => by
    obtain ⟨d, t, rfl, ht, rfl⟩ := hP
    by_cases h : isNumD d = true
    · rw [if_pos h]
      exact Bd.non (.one (.ifF (.notF (.val (.call d1 hr (.cons (.var 0 rfl) .nil) ⟨_, _, rfl, ht, by rw [h]⟩))) .nil))
    · rw [if_neg h]
      have h' : isNumD d = false := by simpa using h
      exact Bd.exc (.one (.ifT (.notT (.val (.call d1 hr (.cons (.var 0 rfl) .nil) ⟨_, _, rfl, ht, by rw [h']⟩))) (.one (.raise tk rfl E0.num (hr.mono (by decide)) (.var 0 rfl)))))
theorem w_check_rank (E0 : Xc P w K mg base cNum cWord) (d1 : Df P w K mg base "is_number" 2 1 P_is_number) (F : Fun K "check_rank" "check_rank" (top 33) f fd) : FnOk P w K mg base (L2N.CX P w) 3 f fd ["number"] (spD K 1 (P_check_num cNum)) :=
  fn_D (N := ["number"]) (ps := ["number"]) F ⟨rfl, rfl, rfl, by decide, rfl, by decide, by decide⟩ fun cdv A outer s H E hr tk hp dvs μ o hl hP => by
    obtain ⟨d, t, rfl, ht, rfl⟩ := hP
    by_cases h : isNumD d = true
    · rw [if_pos h]
      exact Bd.non (.one (.ifF (.notF (.val (.call d1 hr (.cons (.var 0 rfl) .nil) ⟨_, _, rfl, ht, by rw [h]⟩))) .nil))
    · rw [if_neg h]
      have h' : isNumD d = false := by simpa using h
      exact Bd.exc (.one (.ifT (.notT (.val (.call d1 hr (.cons (.var 0 rfl) .nil) ⟨_, _, rfl, ht, by rw [h']⟩))) (.one (.raise tk rfl E0.num (hr.mono (by decide)) (.var 0 rfl)))))
def fwC (m : Mc) (i : Nat) : Cell := .dK (kN (cK (fwN m i)))
def fwCs (m : Mc) (i : Nat) : Store := (List.range i).map (fwC m)
theorem fwCs_succ (m : Mc) (i : Nat) : fwCs m (i + 1) = fwCs m i ++ [fwC m i] := by unfold fwCs; rw [List.range_succ, List.map_append]; rfl
theorem fwCs_len (m : Mc) (i : Nat) : (fwCs m i).length = i := by unfold fwCs; rw [List.length_map, List.length_range]
def P_count (cM : Addr) : Pr := fun dvs μ o => ∃ (m : Mc) (n : Nat), VM m ∧ dvs = [.dat (mcD cM m), .i (n : Int)] ∧ n < 1000 ∧ o = .ret (.i (cnt m n 0 : Nat)) μ
theorem sum_vl (m : Mc) : ∀ l : List (Nat × Nat), (l.map fun p => ((p.2 : Int) * ((m.ed p.1 : Nat) : Int))).sum = ((vl m.ed l : Nat) : Int)
  | [] => rfl
  | p :: l => by
    rw [List.map_cons, List.sum_cons, sum_vl m l]
    show _ = ((p.2 * m.ed p.1 + vl m.ed l : Nat) : Int)
    rw [Int.natCast_add, Int.natCast_mul]
theorem w_count (M : Md mg) (c : ClsK K cM mcNames) (d1 : Df P w K mg base "check_length" 3 1 (P_check_num cNum)) (F : Fun K "count" "count" (top 26) f fd) : FnOk P w K mg base (L2N.CX P w) 4 f fd ["machine", "length"] (spD K 2 (P_count cM)) :=
  fn_D (N := ["machine", "length", "many", "_", "longer", "state", "target"]) (ps := ["machine", "length"]) F ⟨rfl, rfl, rfl, by decide, rfl, by decide, by decide⟩ fun cdv A outer s H E hr tk hp dvs μ o hl hP => by
    obtain ⟨m, n, V, rfl, hn, rfl⟩ := hP
    have hu : (A.deeper (envOfC "count" (defScope (top 26)) s.heap.objs.size f cdv)).units + 1 < cLine := by have := hr.units; omega
    have V63 := V.n63
    have hnum : isNumD (.int (n : Int)) = true := (decide_eq_true (by omega) : decide ((0 : Int) ≤ (n : Int)) = true)
    let st : Nat → Store := fun i => (μ ++ fwCs m i) ++ [fwC m i]
    let δ : Nat → Slots := fun i => [some (.dat (mcD cM m)), some (.i (n : Int)), some (.own (μ.length + i)), none, none, none, none]
    have hB : ∀ i, (μ ++ fwCs m i).length = μ.length + i := fun i => by rw [List.length_append, fwCs_len]
    refine .retJ (J := fwCs m n ++ [fwC m n]) ?_
    refine .cons (.expr (.call (dv := .n) d1 hr (.cons (.var 1 rfl) .nil) ⟨_, _, rfl, rfl, by rw [if_pos hnum]⟩)) ?_
    refine .cons (δ1 := δ 0) (μ1 := st 0) (.to (.set 2 (.d1 (q := .inl ((0 : Nat) : Int)) .int .int) (nod_of rfl)) (by show Out.nx _ (μ ++ _) = Out.nx _ ((μ ++ []) ++ _); rw [List.append_nil]; rfl)) ?_
    refine .cons (δ1 := δ n) (μ1 := st n) (.forR1 (n := (n : Int)) rfl (nod_of rfl) hp M.range 3 (.var 1 rfl) (by omega) (by omega) ?_) (.one (.to (.ret (dv := .i (cnt m n 0 : Nat)) (μ' := st n) (.to (.blt M.sum (.cons (μ1 := st n) ?_ .nil) (CallS.sum (ns := (fwN m n).map fun p => ((p.2 : Int) * ((m.ed p.1 : Nat) : Int))) rfl)) ?_)) ?_))
    · rw [Int.toNat_natCast]
      refine It1.cnt δ st fun i hi => ?_
      have I := fwN_I V i
      let B := μ ++ fwCs m i
      let st2 : List (Nat × Nat) → Store := fun a => B ++ [fwC m i, .dK (kN (cK a))]
      let δ2 : Slots := [some (.dat (mcD cM m)), some (.i (n : Int)), some (.own (μ.length + i)), some (.i (i : Int)), some (.own (μ.length + i + 1)), none, none]
      refine .wk (δ1 := [some (.dat (mcD cM m)), some (.i (n : Int)), some (.own (μ.length + i + 1)), some (.i (i : Int)), some (.own (μ.length + i + 1)), none, none]) (.cons (δ1 := δ2) (μ1 := st2 []) (.to (.set 4 .dnew (nod_of rfl)) ?_) (.cons (δ1 := δ2) (μ1 := st2 (fwN m (i + 1))) (.forD (k := μ.length + i) (kvs := kN (cK (fwN m i))) rfl (nod_of rfl) hp 5 (fun o => .var 2 rfl) (by rw [← hB i]; exact gL0) (by rw [← hB i]; exact gL0) (fun oo => ?_)) (.one (.to (.set 2 (.var 4 rfl) (nod_of rfl)) ?_))))
      · show Out.nx _ (((μ ++ fwCs m i) ++ [_]) ++ [_]) = Out.nx _ ((μ ++ fwCs m i) ++ [_, _])
        rw [List.append_assoc]
        have e : ((μ ++ fwCs m i) ++ [fwC m i]).length = μ.length + i + 1 := by rw [List.length_append, hB]; rfl
        show Out.nx (List.set _ 4 (some (.own ((μ ++ fwCs m i) ++ [fwC m i]).length))) _ = _
        rw [e]
        rfl
      · have eL : ∀ a, (st2 a).set (μ.length + i) (.lk oo (kN (cK (fwN m i)))) = B ++ [.lk oo (kN (cK (fwN m i))), .dK (kN (cK a))] := fun a => by rw [← hB i]; exact sL0
        rw [eL, eL]
        have em : ((kN (cK (fwN m i))).map fun q => DV.dat (keyD q.1)) = (fwN m i).map fun p => DV.i (p.1 : Int) := by
          unfold kN cK
          rw [List.map_map, List.map_map]
          rfl
        rw [em]
        rw [show fwN m (i + 1) = (fwN m i).foldl (fun a p => (m.row p.1).foldl (rowAdd p.2) a) [] from fwN_succ m i]
        let st3 : List (Nat × Nat) → Store := fun a => B ++ [.lk oo (kN (cK (fwN m i))), .dK (kN (cK a))]
        have hlk : ∀ a, (st3 a)[μ.length + i]? = some (.lk oo (kN (cK (fwN m i)))) := fun a => by rw [← hB i]; exact gL0
        have hlg : ∀ a, (st3 a)[μ.length + i + 1]? = some (.dK (kN (cK a))) := fun a => by rw [← hB i]; exact gL1
        refine It1.foldL (f := fun (p : Nat × Nat) => DV.i (p.1 : Int)) (δ := fun _ => δ2) (μ := st3) (fun a p => (m.row p.1).foldl (rowAdd p.2) a) (CkI m.rows.length) (fun p => p ∈ fwN m i) (fun a p ha hpm => ⟨ha.row fun t ht => row_lt V p.1 t ht, hlk a, ?_⟩) _ _ ⟨List.nodup_nil, fun p hp => (nomatch hp)⟩ (fun p hp => hp)
        let δ3 : Slots := [some (.dat (mcD cM m)), some (.i (n : Int)), some (.own (μ.length + i)), some (.i (i : Int)), some (.own (μ.length + i + 1)), some (.i (p.1 : Int)), none]
        refine .wk (δ1 := δ3) (.one (.forT (ds := (m.row p.1).map optD) rfl (nod_of rfl) hp 6 (.ixT (.fld c (.var 0 rfl) .dat rfl) (.var 5 rfl) (row_ix V (I.lt p hpm))) ?_))
        refine It1.foldD (f := optD) (δ := fun _ => δ3) (μ := st3) (rowAdd p.2) (CkI m.rows.length) (fun o => ∀ t, o = some t → t < m.rows.length) (fun a o ha ho => ?_) _ _ ha (fun o ho t e => row_lt V p.1 t (e ▸ ho))
        cases o with
        | none => exact ⟨ha, .wk (.one (.ifF (.to (.cmp (.var 6 rfl) .non .notN) rfl) .nil))⟩
        | some t =>
          refine ⟨ha.add (ho t rfl) p.2, ?_⟩
          refine .wk (δ1 := [some (.dat (mcD cM m)), some (.i (n : Int)), some (.own (μ.length + i)), some (.i (i : Int)), some (.own (μ.length + i + 1)), some (.i (p.1 : Int)), some (.dat (optD (some t)))]) (.one (.ifT (.to (.cmp (.var 6 rfl) .non .notN) rfl) (.one (.tos (.dput (q := .inl (t : Int)) (dv := .i (((a.lookup t).getD 0 + p.2 : Nat) : Int)) hu (.to (.bin (.to (.get2 (q := some (.inl (t : Int))) hu (.var 4 rfl) (.var 6 rfl) .int ⟨_, hlg a⟩ (hlg a)) (dv' := .i (((a.lookup t).getD 0 : Nat) : Int)) ?_) (.dgetK (q := .inl (p.1 : Int)) (dv := .i (p.2 : Int)) hu (.var 2 rfl) (.var 5 rfl) (.inr ⟨oo, hlk a⟩) ?_) .add) ?_) (.var 4 rfl) (.var 6 rfl) (hlg a) (by rw [kN_len, cK_len]; have := ha.len; omega)) ?_))))
          · show ((lookK (kN (cK a)) (.inl (t : Int))).getD _) = _
            rw [look_kN, cK_look]
            cases a.lookup t <;> rfl
          · rw [look_kN, cK_look, look_mem I.nd hpm]
            rfl
          · show DV.i _ = _
            rw [Int.natCast_add]
          · rw [cK_put ha.nd, ← hB i]
            exact sL1
      · show Out.nx _ ((μ ++ fwCs m i) ++ [fwC m i, _]) = Out.nx _ ((μ ++ fwCs m (i + 1)) ++ [fwC m (i + 1)])
        rw [fwCs_succ]
        congr 1
        rw [List.append_assoc, List.append_assoc, List.append_assoc]
        rfl
    · let g : Key → D := fun q => match q with
        | .inl x => .int (((((fwN m n).lookup x.toNat).getD 0 : Nat) : Int) * ((m.ed x.toNat : Nat) : Int))
        | .inr _ => .non
      have I := fwN_I V n
      have hk : (st n)[μ.length + n]? = some (.dK (kN (cK (fwN m n)))) := by rw [← hB n]; exact gL0
      refine .to (.lcKd (x := "state") (j := 5) (k := μ.length + n) (kvs := kN (cK (fwN m n))) g rfl (nod_of rfl) (fun o => .var 2 rfl) hk (by rw [kN_len, cK_len]; have := I.len; omega) (fun o q hq s1 H1 cl C fp => ?_) (blk_of rfl) (fun _ _ _ _ _ => pg_name (nod_of rfl) rfl (by first | exact .inl rfl | exact .inr rfl))) (dv' := .dat (.lst (((fwN m n).map fun p => ((p.2 : Int) * ((m.ed p.1 : Nat) : Int))).map D.int))) ?_
      · rw [kN_keys] at hq
        obtain ⟨x, hx, rfl⟩ := List.mem_map.mp hq
        unfold cK at hx
        rw [List.map_map] at hx
        obtain ⟨p, hp', rfl⟩ := List.mem_map.mp hx
        have hlk : ((st n).set (μ.length + n) (.lk o (kN (cK (fwN m n)))))[μ.length + n]? = some (.lk o (kN (cK (fwN m n)))) := List.getElem?_set_self (List.getElem?_eq_some_iff.mp hk).1
        have hg : g (.inl (p.1 : Int)) = .int (((p.2 : Nat) : Int) * ((m.ed p.1 : Nat) : Int)) := by
          show D.int (((((fwN m n).lookup ((p.1 : Int)).toNat).getD 0 : Nat) : Int) * ((m.ed ((p.1 : Int)).toNat : Nat) : Int)) = _
          rw [Int.toNat_natCast, look_mem I.nd hp']
          rfl
        show Ev _ _ _ _ (.dat (g (.inl (p.1 : Int)))) _
        rw [hg]
        exact .bin (.dgetK (q := .inl (p.1 : Int)) (dv := .i (p.2 : Int)) hu (.var 2 rfl) (.var 5 rfl) (.inr ⟨o, hlk⟩) (by rw [look_kN, cK_look, look_mem I.nd hp']; rfl)) (.ixT (.fld c (.var 0 rfl) .dat rfl) (.var 5 rfl) (ed_ix V (I.lt p hp'))) (.mul (.inr ⟨Int.lt_of_lt_of_le (by decide) (Int.natCast_nonneg _), Int.lt_of_le_of_lt (Int.ofNat_le.mpr (V.ed_le p.1)) (by decide)⟩))
      · rw [kN_keys]
        unfold cK
        rw [List.map_map, List.map_map, List.map_map, List.map_map]
        congr 2
        refine List.map_congr_left fun p hp' => ?_
        show D.int (((((fwN m n).lookup ((p.1 : Int)).toNat).getD 0 : Nat) : Int) * ((m.ed ((p.1 : Int)).toNat : Nat) : Int)) = _
        rw [Int.toNat_natCast, look_mem I.nd hp']
        rfl
    · rw [sum_vl, show vl m.ed (fwN m n) = vl (cnt m 0) (fwN m n) from rfl, vl_fwN, Nat.zero_add]
    · show Out.rt _ ((μ ++ fwCs m n) ++ [fwC m n]) = Out.rt _ (μ ++ (fwCs m n ++ [fwC m n]))
      rw [List.append_assoc]
end
end Dt.K84
set_option maxHeartbeats 4000000
/-! k84: edges_of, reached: plain and walked. -/
namespace Dt
open PySem PySem.Spec L2
/-- y in d, y a key or None, d an own dict, locked or not -/
theorem Et.dinN {X : Cx} {δ : Slots} {μ μ1 μ2 : Store} {a b : Expr} {pos : Pos} {k : Nat} {kvs : List (Key × DV)} {q : Option Key} (hu : X.A.units + 1 < cLine) (ha : Ev X a δ μ (.dat (optK q)) μ1) (hb : Ev X b δ μ1 (.own k) μ2) (hk : DKat μ2 k kvs) (hm : behindInMarks .In b = false := by rfl) :
    Et X (.Compare a [.In] [b] pos) δ μ (getK kvs q).isSome μ2 := fun W H σ Q A kk => by
  refine semT_of (pt_cmp (pc_dinN hu semE_pe semE_pe) hm) ?_
  refine ha W H σ _ A fun W1 H1 y g1 A1 r1 => hb W1 H1 σ _ A1 fun W2 H2 x g2 A2 r2 => ?_
  obtain ⟨ws, ev, rl, dg⟩ := hk.sq A2.st r2
  cases q with
  | none =>
    right
    have hrd : ∃ us, Rd H2 (W2.A k) (.dK us) := by
      rcases hk with h | ⟨o, h⟩
      · obtain ⟨_, us, hus, _⟩ := A2.st.cell k _ h
        exact ⟨us, .inl hus⟩
      · obtain ⟨_, ho, ob, us, e, _⟩ := A2.st.cell k _ h
        subst e
        exact ⟨us, .inr ⟨ob, ho⟩⟩
    obtain ⟨us, hrd⟩ := hrd
    exact ⟨_, us, ev, Rel.nv (r1.mono g2.le), hrd, false, rfl, kk W2 H2 (g1.trans g2) A2⟩
  | some q =>
    left
    refine ⟨_, valV ws q, ev, by rw [key_rel r1]; exact dg q, (valV ws q).isSome, rfl, ?_⟩
    have eg : getK kvs (some q) = lookK kvs q := rfl
    rw [eg] at kk
    have e : (valV ws q).isSome = (lookK kvs q).isSome := by
      rcases lookK_rel (q := q) rl with ⟨e1, e2⟩ | ⟨d, v', e1, e2, _⟩
      · rw [e1, e2]; rfl
      · rw [e1, e2]; rfl
    rw [e]
    exact kk W2 H2 (g1.trans g2) A2
end Dt
namespace Dt.K84
open PySem PySem.Spec L2 Dt
open PyProof.Rows (envOfC)
def edK (m : Mc) : List (Nat × DV) := (liveOf m).map fun s => (s, .dat (lI (eds m s)))
def lvB (m : Mc) (o : Option Nat) : Bool := (o.bind fun t => if t ∈ liveOf m then some t else none).isSome
theorem eds_filt (m : Mc) (s : Nat) : ((m.row s).filter (lvB m)).map (fun o => DV.dat (optD o)) = ((eds m s).map natD).map DV.dat := by
  unfold eds
  induction m.row s with
  | nil => rfl
  | cons o r ih =>
    rw [List.filter_cons, List.filterMap_cons]
    cases o with
    | none => exact ih
    | some t =>
      by_cases h : t ∈ liveOf m
      · have e1 : lvB m (some t) = true := by unfold lvB; rw [Option.bind_some, if_pos h]; rfl
        rw [e1, if_pos rfl, Option.bind_some, if_pos h, List.map_cons, ih]
        rfl
      · have e1 : lvB m (some t) = false := by unfold lvB; rw [Option.bind_some, if_neg h]; rfl
        rw [e1, Option.bind_some, if_neg h]
        exact ih
theorem eds_len {m : Mc} (V : VM m) {s : Nat} (hs : s < m.rows.length) : (eds m s).length ≤ 48 := by
  have h1 : (eds m s).length ≤ (m.row s).length := List.length_filterMap_le _ _
  rw [V.row_len hs] at h1
  have := V.L48
  omega
theorem edK_keys (m : Mc) : (edK m).map (·.1) = liveOf m := by
  unfold edK
  rw [List.map_map]
  exact List.map_id _
theorem edK_look {m : Mc} {s : Nat} (h : s ∈ liveOf m) : (edK m).lookup s = some (.dat (lI (eds m s))) := by
  have key : ∀ l : List Nat, s ∈ l → (l.map fun s => (s, DV.dat (lI (eds m s)))).lookup s = some (.dat (lI (eds m s))) := by
    intro l
    induction l with
    | nil => intro h; cases h
    | cons a l ih =>
      intro h
      rw [List.map_cons, List.lookup_cons]
      by_cases e : s = a
      · subst e
        rw [beq_self_eq_true]
      · have : (s == a) = false := beq_eq_false_iff_ne.mpr e
        rw [this]
        rcases List.mem_cons.mp h with z | z
        · exact absurd z e
        · exact ih z
  exact key _ h
/-! ### what reached does, plain -/
def rG (m : Mc) (q : List Nat × List Nat) : List Nat × List Nat :=
  let x := q.2.getLast?.getD 0
  if x ∈ q.1 then (q.1, q.2.dropLast) else (q.1 ++ [x], q.2.dropLast ++ eds m x)
def rchF (m : Mc) (s : Nat) : List Nat × List Nat := runF (rG m) clStop (49 * m.rows.length + 49) ([], eds m s)
structure RI (m : Mc) (s : Nat) (q : List Nat × List Nat) : Prop where
  nd : q.1.Nodup
  lm : ∀ x ∈ q.1, x ∈ liveOf m
  lw : ∀ x ∈ q.2, x ∈ liveOf m
  wl : q.2.length ≤ 48 * (q.1.length + 1)
  rm : ∀ x ∈ q.1, Lp m s x
  rw_ : ∀ x ∈ q.2, Lp m s x
  ini : ∀ x ∈ eds m s, x ∈ q.1 ∨ x ∈ q.2
  cl : ∀ x ∈ q.1, ∀ y ∈ eds m x, y ∈ q.1 ∨ y ∈ q.2
def rM (m : Mc) (q : List Nat × List Nat) : Nat := 49 * (m.rows.length - q.1.length) + q.2.length
theorem eds_live {m : Mc} {s x : Nat} (h : x ∈ eds m s) : x ∈ liveOf m := (eds_mem.mp h).2
theorem live_lt {m : Mc} {s : Nat} (h : s ∈ liveOf m) : s < m.rows.length := (live_iff.mp h).1
theorem r_step {m : Mc} (V : VM m) {s : Nat} {q : List Nat × List Nat} (h : RI m s q) (hs : clStop q = false) : RI m s (rG m q) ∧ rM m (rG m q) < rM m q := by
  have hne : q.2 ≠ [] := fun e => by unfold clStop at hs; rw [e] at hs; cases hs
  have hlast := last_mem hne
  have hdl : q.2.dropLast.length = q.2.length - 1 := List.length_dropLast
  have hpos : 0 < q.2.length := List.length_pos_iff.mpr hne
  have hmN := nodup_le h.nd fun x hx => live_lt (h.lm x hx)
  unfold rG
  simp only
  by_cases hx : q.2.getLast?.getD 0 ∈ q.1
  · rw [if_pos hx]
    refine ⟨⟨h.nd, h.lm, fun x hxx => h.lw x (List.dropLast_subset _ hxx), ?_, h.rm, fun x hxx => h.rw_ x (List.dropLast_subset _ hxx), fun x hxx => ?_, fun x hxx y hy => ?_⟩, ?_⟩
    · show q.2.dropLast.length ≤ 48 * (q.1.length + 1)
      have := h.wl
      omega
    · rcases h.ini x hxx with e | e
      · exact .inl e
      · rcases mem_drop_last e with e | e
        · exact .inr e
        · exact .inl (e ▸ hx)
    · rcases h.cl x hxx y hy with e | e
      · exact .inl e
      · rcases mem_drop_last e with e | e
        · exact .inr e
        · exact .inl (e ▸ hx)
    · unfold rM
      show 49 * (m.rows.length - q.1.length) + q.2.dropLast.length < 49 * (m.rows.length - q.1.length) + q.2.length
      omega
  · rw [if_neg hx]
    have hxl := h.lw _ hlast
    have hel := eds_len V (live_lt hxl)
    have hnd : (q.1 ++ [q.2.getLast?.getD 0]).Nodup := by
      rw [List.nodup_append]
      exact ⟨h.nd, by simp, fun a ha b hb e => by
        have : b = q.2.getLast?.getD 0 := by simpa using hb
        subst this
        subst e
        exact hx ha⟩
    have hlm : ∀ x ∈ q.1 ++ [q.2.getLast?.getD 0], x ∈ liveOf m := fun x hxx => by
      rcases List.mem_append.mp hxx with e | e
      · exact h.lm x e
      · have : x = q.2.getLast?.getD 0 := by simpa using e
        rw [this]; exact hxl
    have hlN := nodup_le hnd fun x hx => live_lt (hlm x hx)
    rw [List.length_append, List.length_singleton] at hlN
    have hlp := h.rw_ _ hlast
    refine ⟨⟨hnd, hlm, fun x hxx => ?_, ?_, fun x hxx => ?_, fun x hxx => ?_, fun x hxx => ?_, fun x hxx y hy => ?_⟩, ?_⟩
    · rcases List.mem_append.mp hxx with e | e
      · exact h.lw x (List.dropLast_subset _ e)
      · exact eds_live e
    · show (q.2.dropLast ++ eds m _).length ≤ 48 * ((q.1 ++ [_]).length + 1)
      rw [List.length_append, List.length_append, List.length_singleton]
      have := h.wl
      omega
    · rcases List.mem_append.mp hxx with e | e
      · exact h.rm x e
      · have : x = q.2.getLast?.getD 0 := by simpa using e
        rw [this]; exact hlp
    · rcases List.mem_append.mp hxx with e | e
      · exact h.rw_ x (List.dropLast_subset _ e)
      · obtain ⟨y, hy, r⟩ := hlp
        exact ⟨y, hy, .tail r (edS_mem.mpr (eds_mem.mp e))⟩
    · rcases h.ini x hxx with e | e
      · exact .inl (List.mem_append_left _ e)
      · rcases mem_drop_last e with e | e
        · exact .inr (List.mem_append_left _ e)
        · exact .inl (List.mem_append_right _ (by simp [e]))
    · rcases List.mem_append.mp hxx with e | e
      · rcases h.cl x e y hy with e2 | e2
        · exact .inl (List.mem_append_left _ e2)
        · rcases mem_drop_last e2 with e2 | e2
          · exact .inr (List.mem_append_left _ e2)
          · exact .inl (List.mem_append_right _ (by simp [e2]))
      · have : x = q.2.getLast?.getD 0 := by simpa using e
        rw [this] at hy
        exact .inr (List.mem_append_right _ hy)
    · unfold rM
      show 49 * (m.rows.length - (q.1 ++ [_]).length) + (q.2.dropLast ++ eds m _).length < _
      rw [List.length_append, List.length_append, List.length_singleton]
      omega
theorem r_start {m : Mc} (V : VM m) {s : Nat} (hs : s ∈ liveOf m) : RI m s ([], eds m s) ∧ rM m ([], eds m s) < 49 * m.rows.length + 49 := by
  have hel := eds_len V (live_lt hs)
  refine ⟨⟨List.nodup_nil, fun x hx => (nomatch hx), fun x hx => eds_live hx, by show (eds m s).length ≤ 48 * (0 + 1); omega, fun x hx => (nomatch hx), fun x hx => ⟨x, hx, .refl x⟩, fun x hx => .inr hx, fun x hx => (nomatch hx)⟩, ?_⟩
  unfold rM
  show 49 * (m.rows.length - 0) + (eds m s).length < _
  omega
theorem r_end {m : Mc} (V : VM m) {s : Nat} (hs : s ∈ liveOf m) : RI m s (rchF m s) ∧ (rchF m s).2 = [] := by
  have h := runF_end (meas := rM m) (g := rG m) (stop := clStop) (fun q hq hs => r_step V hq hs) (r_start V hs).2 (r_start V hs).1
  refine ⟨h.1, ?_⟩
  have h2 : clStop (rchF m s) = true := h.2
  unfold clStop at h2
  simpa using h2
theorem r_iff {m : Mc} (V : VM m) {s x : Nat} (hs : s ∈ liveOf m) : x ∈ (rchF m s).1 ↔ Lp m s x := by
  obtain ⟨R, e2⟩ := r_end V hs
  constructor
  · exact R.rm x
  · rintro ⟨y, hy, r⟩
    induction r with
    | refl =>
      rcases R.ini y hy with e | e
      · exact e
      · rw [e2] at e; cases e
    | tail _ q ih =>
      rcases R.cl _ ih _ (eds_mem.mpr (edS_mem.mp q)) with e | e
      · exact e
      · rw [e2] at e; cases e
section
variable {P : Program} {w : World} {K : PySem.W.Frag} {mg : Str → Option Value} {base : Heap} {f : Addr} {fd : FuncData} {cNum cWord cM cG : Addr}
theorem under_dK {n : Nat} {l : List (Nat × DV)} (h : ∀ p ∈ l, ∃ d, p.2 = .dat d) : (Cell.dK (kN l)).under n = true := under_kN fun p hp => by
  obtain ⟨d, e⟩ := h p hp
  rw [e]
  rfl
def P_edges (cM : Addr) : Pr := fun dvs μ o => ∃ m : Mc, VM m ∧ dvs = [.dat (mcD cM m)] ∧ o = .ret (.own (μ.length + 1)) (μ ++ [.dK (kN (trK (liveOf m))), .dK (kN (edK m))])
theorem w_edges (c : ClsK K cM mcNames) (d1 : Df P w K mg base "live_states" 2 1 (P_live cM)) (F : Fun K "edges_of" "edges_of" (top 27) f fd) : FnOk P w K mg base (L2N.CX P w) 3 f fd ["machine"] (spD K 1 (P_edges cM)) :=
  fn_D (N := ["machine", "live", "state", "target"]) (ps := ["machine"]) F ⟨rfl, rfl, rfl, by decide, rfl, by decide, by decide⟩ fun cdv A outer s H E hr tk hp dvs μ o hl hP => by
    obtain ⟨m, V, rfl, rfl⟩ := hP
    have hu : (A.deeper (envOfC "edges_of" (defScope (top 27)) s.heap.objs.size f cdv)).units + 1 < cLine := by have := hr.units; omega
    have V63 := V.n63
    have hll := live_len m
    refine .ret ?_ (Keep.push _ _ (by rw [List.all_cons, under_trK, List.all_cons, under_dK (fun p hp => by obtain ⟨x, _, e⟩ := List.mem_map.mp hp; exact ⟨_, by rw [← e]⟩)]; rfl)) (by rw [List.length_append]; exact decide_eq_true (by simp))
    refine .cons (δ1 := [some (.dat (mcD cM m)), some (.own μ.length), none, none]) (μ1 := μ ++ [.dK (kN (trK (liveOf m)))]) (.to (.set 1 (.dcLe (x := "state") (j := 2) (ds := (liveOf m).map natD) (out := (liveOf m).map fun (s : Nat) => some (.inl (s : Int), .b true)) rfl (nod_of rfl) (.call d1 hr (.cons (.var 0 rfl) .nil) ⟨m, V, rfl, rfl⟩) (by rw [List.length_map]; omega) (by rw [List.length_map, List.length_map]) (fun i d o hd ho => ?_) (by decide) (blk_of rfl) (fun _ _ _ _ _ => pg_name (nod_of rfl) rfl (by first | exact .inl rfl | exact .inr rfl))) (nod_of rfl)) ?_) ?_
    · rw [List.getElem?_map] at hd ho
      obtain ⟨s1, e1, e2⟩ := Option.map_eq_some_iff.mp hd
      rw [e1] at ho
      cases e2
      cases ho
      exact .yes .nil (.of fun s1 H1 cl C fp => .var 2 rfl) (.of fun s1 H1 cl C fp => .bl)
    · rw [outK_some]
      have e : ((liveOf m).map fun (s : Nat) => ((Sum.inl (s : Int) : Key), DV.b true)) = kN (trK (liveOf m)) := by
        unfold kN trK
        rw [List.map_map]
        rfl
      rw [e, putsD_kN (by rw [trK_keys]; exact live_nd m)]
      rfl
    · have hkeys : (kN (trK (liveOf m))).map (·.1) = (liveOf m).map fun (n : Nat) => (Sum.inl (n : Int) : Key) := by rw [kN_keys, trK_keys]
      refine .one (.to (.ret (.dcK (k := μ.length) (kvs := kN (trK (liveOf m))) (out := (liveOf m).map fun (s : Nat) => (.inl (s : Int), .dat (lI (eds m s)))) (x := "state") (j := 2) rfl (nod_of rfl) (fun o => .var 1 rfl) gL0 (by rw [kN_len, trK_len]; omega) (fun o => ⟨by rw [hkeys, List.length_map, List.length_map], fun i q r hq hr' => ?_⟩) (blk_of rfl) (fun _ _ _ _ _ => pg_name (nod_of rfl) rfl (by first | exact .inl rfl | exact .inr rfl)))) ?_)
      · rw [hkeys, List.getElem?_map] at hq
        rw [List.getElem?_map] at hr'
        obtain ⟨s1, e1, e2⟩ := Option.map_eq_some_iff.mp hq
        rw [e1] at hr'
        cases e2
        cases hr'
        have hs1 := List.mem_of_getElem? e1
        have hlt := live_lt hs1
        refine ⟨.of fun s1 H1 cl C fp => .var 2 rfl, .of fun s2 H2 cl2 C2 fp2 => ?_⟩
        have hlk : ((μ ++ [Cell.dK (kN (trK (liveOf m)))]).set μ.length (.lk o (kN (trK (liveOf m)))))[μ.length]? = some (.lk o (kN (trK (liveOf m)))) := by rw [sL0]; exact gL0
        refine .lcOf (x := "target") (j := 3) (ds := (eds m s1).map natD) rfl (nod_of rfl) (pi_tup semE_pe) (blk_of rfl) (fun _ _ _ _ _ => pg_name (nod_of rfl) rfl (by first | exact .inl rfl | exact .inr rfl)) (by decide) (lcT (ds := (m.row s1).map optD) (.ixT (.fld c (.var 0 rfl) .dat rfl) (.var 2 rfl) (row_ix V hlt)) ?_ (by rw [List.length_map, List.length_map]; have := eds_len V hlt; omega))
        rw [← eds_filt, List.map_map]
        have test : ∀ (oo : Option Nat), (getK (kN (trK (liveOf m))) (oo.map fun (t : Nat) => .inl (t : Int))).isSome = lvB m oo := fun oo => by
          cases oo with
          | none => rfl
          | some t =>
            show (lookK (kN (trK (liveOf m))) (.inl (t : Int))).isSome = _
            rw [look_kN, trK_some]
            unfold lvB
            rw [Option.bind_some]
            by_cases h : t ∈ liveOf m
            · rw [if_pos h, decide_eq_true h]; rfl
            · rw [if_neg h, decide_eq_false h]; rfl
        refine Lc.filt (lvB m) (fun o => DV.dat (optD o)) (fun oo ho hp' => ?_) (fun oo ho hp' => ?_)
        · exact .yes (.one fun s1 H1 cl C fp => .to (.dinN (q := oo.map fun (t : Nat) => .inl (t : Int)) hu (.to (.var 3 rfl) (by cases oo <;> rfl)) (.var 1 rfl) (.inr ⟨o, hlk⟩)) ((test oo).trans hp')) (.of fun s1 H1 cl C fp => .var 3 rfl)
        · exact .no (.one fun s1 H1 cl C fp => .to (.dinN (q := oo.map fun (t : Nat) => .inl (t : Int)) hu (.to (.var 3 rfl) (by cases oo <;> rfl)) (.var 1 rfl) (.inr ⟨o, hlk⟩)) ((test oo).trans hp'))
      · have e : ((liveOf m).map fun (s : Nat) => ((Sum.inl (s : Int) : Key), DV.dat (lI (eds m s)))) = kN (edK m) := by
          unfold kN edK
          rw [List.map_map]
          rfl
        rw [e, putsD_kN (by rw [edK_keys]; exact live_nd m), List.length_append, List.append_assoc]
        rfl
end
end Dt.K84
set_option maxHeartbeats 4000000
/-! k84: reached, walked. -/
namespace Dt.K84
open PySem PySem.Spec L2 Dt
open PyProof.Rows (envOfC)
def fdF (n0 : Nat) : Nat → List Nat → List (Nat × DV)
  | _, [] => []
  | i, s :: ss => (s, .own (n0 + 1 + 2 * i)) :: fdF n0 (i + 1) ss
theorem fdF_len (n0 : Nat) : ∀ (i : Nat) (a : List Nat), (fdF n0 i a).length = a.length
  | _, [] => rfl
  | i, x :: xs => by unfold fdF; rw [List.length_cons, List.length_cons, fdF_len]
theorem fdF_app (n0 k : Nat) : ∀ (i : Nat) (a : List Nat), fdF n0 i (a ++ [k]) = fdF n0 i a ++ [(k, .own (n0 + 1 + 2 * (i + a.length)))]
  | _, [] => rfl
  | i, y :: a => by
    show (y, _) :: fdF n0 (i + 1) (a ++ [k]) = (y, _) :: (fdF n0 (i + 1) a ++ _)
    rw [fdF_app n0 k (i + 1) a, List.length_cons, show i + 1 + a.length = i + (a.length + 1) by omega]
theorem fdF_keys (n0 : Nat) : ∀ (i : Nat) (a : List Nat), (fdF n0 i a).map (·.1) = a
  | _, [] => rfl
  | i, y :: a => by unfold fdF; rw [List.map_cons, fdF_keys n0 (i + 1) a]
theorem fdF_look (n0 k : Nat) : ∀ (i : Nat) (a : List Nat), (fdF n0 i a).lookup k = if k ∈ a then some (.own (n0 + 1 + 2 * (i + a.idxOf k))) else none
  | _, [] => rfl
  | i, y :: a => by
    have ih := fdF_look n0 k (i + 1) a
    unfold fdF
    rw [List.lookup_cons, ih]
    by_cases h : k = y
    · subst h
      simp
    · have h' : (k == y) = false := beq_eq_false_iff_ne.mpr h
      rw [h']
      simp only [List.mem_cons, h, false_or]
      split
      · rw [List.idxOf_cons]
        have : (y == k) = false := beq_eq_false_iff_ne.mpr fun z => h z.symm
        rw [this]
        simp only [cond_false]
        congr 2
        omega
      · rfl
theorem under_fd {n0 k : Nat} : ∀ (i : Nat) (a : List Nat), n0 + 1 + 2 * (i + a.length) ≤ k + 1 → (Cell.dK (kN (fdF n0 i a))).under k = true := by
  intro i a h
  refine under_kN fun p hp => ?_
  have key : ∀ (a : List Nat) (i : Nat), n0 + 1 + 2 * (i + a.length) ≤ k + 1 → p ∈ fdF n0 i a → p.2.under k = true := by
    intro a
    induction a with
    | nil => intro i _ h; cases h
    | cons y a ih =>
      intro i hk hm
      rw [List.length_cons] at hk
      rcases List.mem_cons.mp hm with e | e
      · subst e
        exact decide_eq_true (by omega)
      · exact ih (i + 1) (by omega) e
  exact key a i h hp
def rcC (m : Mc) (pre : List Nat) : Store := (pre.map fun s => [Cell.dK (kN (trK (rchF m s).1)), .lst []]).flatten
theorem rcC_snoc (m : Mc) (pre : List Nat) (s : Nat) : rcC m (pre ++ [s]) = rcC m pre ++ [.dK (kN (trK (rchF m s).1)), .lst []] := by
  unfold rcC
  rw [List.map_append, List.flatten_append]
  rfl
theorem rcC_len (m : Mc) : ∀ pre : List Nat, (rcC m pre).length = 2 * pre.length
  | [] => rfl
  | s :: pre => by
    have ih := rcC_len m pre
    unfold rcC at ih ⊢
    rw [List.map_cons, List.flatten_cons, List.length_append, ih]
    show 2 + 2 * pre.length = 2 * (pre.length + 1)
    omega
theorem rcC_at (m : Mc) {s : Nat} : ∀ {pre : List Nat}, s ∈ pre → (rcC m pre)[2 * pre.idxOf s]? = some (.dK (kN (trK (rchF m s).1)))
  | a :: pre, h => by
    unfold rcC
    rw [List.map_cons, List.flatten_cons]
    by_cases e : a = s
    · subst e
      rw [List.idxOf_cons_self]
      rfl
    · have hs : s ∈ pre := by
        rcases List.mem_cons.mp h with z | z
        · exact absurd z.symm e
        · exact z
      have ih := rcC_at m hs
      rw [List.idxOf_cons]
      have : (a == s) = false := beq_eq_false_iff_ne.mpr e
      rw [this]
      simp only [cond_false]
      rw [show 2 * (pre.idxOf s + 1) = 2 * pre.idxOf s + 2 by omega]
      exact ih
theorem rcC_under (m : Mc) (n : Nat) (pre : List Nat) : ∀ c ∈ rcC m pre, c.under n = true := fun c hc => by
  unfold rcC at hc
  obtain ⟨l, hl, hc⟩ := List.mem_flatten.mp hc
  obtain ⟨s, _, e⟩ := List.mem_map.mp hl
  subst e
  rcases List.mem_cons.mp hc with z | z
  · subst z; exact under_trK _
  · have := List.mem_singleton.mp z
    subst this
    rfl
section
variable {P : Program} {w : World} {K : PySem.W.Frag} {mg : Str → Option Value} {base : Heap} {f : Addr} {fd : FuncData} {cNum cWord cM cG : Addr}
def P_reached : Pr := fun dvs μ o => ∃ (m : Mc) (k : Nat), VM m ∧ dvs = [.own k] ∧ μ[k]? = some (.dK (kN (edK m))) ∧ o = .ret (.own μ.length) (μ ++ ([.dK (kN (fdF μ.length 0 (liveOf m)))] ++ rcC m (liveOf m)))
theorem w_reached (M : Md mg) (F : Fun K "reached" "reached" (top 28) f fd) : FnOk P w K mg base (L2N.CX P w) 1 f fd ["edges"] (spD K 1 P_reached) :=
  fn_D (N := ["edges", "found", "state", "met", "waiting", "one"]) (ps := ["edges"]) F ⟨rfl, rfl, rfl, by decide, rfl, by decide, by decide⟩ fun cdv A outer s H E hr tk hp dvs μ o hl hP => by
    obtain ⟨m, k, V, rfl, hk, rfl⟩ := hP
    have hu : (A.deeper (envOfC "reached" (defScope (top 28)) s.heap.objs.size f cdv)).units + 1 < cLine := by have := hr.units; omega
    have V63 := V.n63
    have hll := live_len m
    have hkl : k < μ.length := (List.getElem?_eq_some_iff.mp hk).1
    let st : List Nat → Store := fun pre => μ ++ ([.dK (kN (fdF μ.length 0 pre))] ++ rcC m pre)
    let δ1 : Slots := [some (.own k), some (.own μ.length), none, none, none, none]
    have hku : ∀ R : Store, (μ ++ R)[k]? = some (.dK (kN (edK m))) := fun R => app_at hk
    have hkeep : (([Cell.dK (kN (fdF μ.length 0 (liveOf m)))] ++ rcC m (liveOf m)).all fun c => c.under (μ.length + ([Cell.dK (kN (fdF μ.length 0 (liveOf m)))] ++ rcC m (liveOf m)).length)) = true := by
      have hlen : ([Cell.dK (kN (fdF μ.length 0 (liveOf m)))] ++ rcC m (liveOf m)).length = 1 + 2 * (liveOf m).length := by rw [List.length_append, rcC_len]; rfl
      rw [hlen, List.all_append, Bool.and_eq_true]
      refine ⟨?_, List.all_eq_true.mpr fun c hc => rcC_under m _ _ c hc⟩
      rw [List.all_cons, under_fd 0 (liveOf m) (by omega)]
      rfl
    refine .ret ?_ (Keep.push _ _ hkeep) (by rw [List.length_append]; exact decide_eq_true (by rw [List.length_append]; simp; omega))
    refine .cons (δ1 := δ1) (μ1 := st []) (.set 1 .dnew (nod_of rfl)) ?_
    refine .cons (δ1 := δ1) (μ1 := st (liveOf m)) (.forD (k := k) (kvs := kN (edK m)) rfl (nod_of rfl) hp 2 (fun o => .var 0 rfl) (hku _) (hku _) (fun oo => ?_)) (.one (.ret (.var 1 rfl)))
    let μL := μ.set k (.lk oo (kN (edK m)))
    have hLl : μL.length = μ.length := List.length_set
    have hLk : μL[k]? = some (.lk oo (kN (edK m))) := List.getElem?_set_self hkl
    have eS : ∀ R : Store, (μ ++ R).set k (.lk oo (kN (edK m))) = μL ++ R := fun R => List.set_append_left _ _ hkl
    rw [eS, eS]
    have em : ((kN (edK m)).map fun q => DV.dat (keyD q.1)) = (liveOf m).map fun (s : Nat) => DV.i (s : Int) := by
      unfold kN edK
      rw [List.map_map, List.map_map]
      rfl
    rw [em]
    let stL : List Nat → Store := fun pre => μL ++ ([.dK (kN (fdF μ.length 0 pre))] ++ rcC m pre)
    refine It1.foldP (f := fun (s : Nat) => DV.i (s : Int)) (δ := fun _ => δ1) (μ := stL) (liveOf m) fun pre t rest e => ⟨app_at hLk, ?_⟩
    have ht : t ∈ liveOf m := by rw [← e]; exact List.mem_append_right _ List.mem_cons_self
    have hpre : t ∉ pre := fun h => by
      have hnd := live_nd m
      rw [← e, List.nodup_append] at hnd
      exact hnd.2.2 t h t List.mem_cons_self rfl
    have hpl : pre.length < 64 := by
      have : (liveOf m).length = pre.length + (t :: rest).length := by rw [← e, List.length_append]
      omega
    have hsl : (stL pre).length = μ.length + 1 + 2 * pre.length := by
      show (μL ++ _).length = _
      rw [List.length_append, List.length_append, rcC_len, hLl]
      show μ.length + (1 + _) = _
      omega
    let n1 := μ.length + 1 + 2 * pre.length
    let δ2 : Slots := [some (.own k), some (.own μ.length), some (.i (t : Int)), some (.own n1), some (.own (n1 + 1)), none]
    let st2 : List Nat × List Nat → Store := fun q => stL pre ++ [.dK (kN (trK q.1)), .lst (lC q.2)]
    have hm : ∀ q, (st2 q)[n1]? = some (.dK (kN (trK q.1))) := fun q => by
      show (stL pre ++ _)[μ.length + 1 + 2 * pre.length]? = _
      rw [← hsl]; exact gL0
    have hw : ∀ q, (st2 q)[n1 + 1]? = some (.lst (lC q.2)) := fun q => by
      show (stL pre ++ _)[μ.length + 1 + 2 * pre.length + 1]? = _
      rw [← hsl]; exact gL1
    have hlk : ∀ R, (stL pre ++ R)[k]? = some (.lk oo (kN (edK m))) := fun R => app_at (app_at hLk)
    obtain ⟨r0, r1⟩ := r_start V ht
    have hn2 : DV.own (stL pre ++ [Cell.dK []]).length = .own (n1 + 1) := by rw [List.length_append, hsl]; rfl
    refine .wk (δ1 := δ2) (.cons (δ1 := [some (.own k), some (.own μ.length), some (.i (t : Int)), some (.own n1), none, none]) (.set 3 (.to .dnew (by rw [hsl])) (nod_of rfl)) (.cons (δ1 := δ2) (μ1 := st2 ([], eds m t)) (.tos (.set 4 (.to (.tyc M.list (.cons (.dgetK (q := .inl (t : Int)) hu (.var 0 rfl) (.var 2 rfl) (.inr ⟨oo, hlk _⟩) (by rw [look_kN, edK_look ht]; rfl)) .nil) (CallS.listO (LV.dt (ds := (eds m t).map natD)))) (dv' := .own (n1 + 1)) hn2) (nod_of rfl)) ?_) (.cons (δ1 := δ2) (μ1 := st2 (rchF m t)) (.while hp (Wh.run (δ := fun _ => δ2) (μ := st2) (rG m) clStop (RI m t) (rM m) (fun q hq hs => ?_) (fun q hq hs => ?_) (fun q hq hs => r_step V hq hs) (49 * m.rows.length + 49) ([], eds m t) r1 r0)) (.one ?_))))
    · rw [lI_dv, List.append_assoc]
      rfl
    · refine .to (.cmp (.blt M.len (.cons (.var 4 rfl) .nil) (CallS.lenL (.ow (hw q)))) .int .gt) (decide_eq_false ?_)
      have e : q.2 = [] := by unfold clStop at hs; simpa using hs
      rw [e]
      decide
    · have hne : q.2 ≠ [] := fun e => by unfold clStop at hs; rw [e] at hs; cases hs
      refine ⟨.to (.cmp (.blt M.len (.cons (.var 4 rfl) .nil) (CallS.lenL (.ow (hw q)))) .int .gt) (decide_eq_true ?_), ?_⟩
      · rw [lC_len]
        have := List.length_pos_iff.mpr hne
        omega
      have hxl := hq.lw _ (last_mem hne)
      have hmN := nodup_le hq.nd fun x hx => live_lt (hq.lm x hx)
      have hwl := hq.wl
      let x := q.2.getLast?.getD 0
      refine .wk (δ1 := δ2.set 5 (some (.i (x : Int)))) (.cons (δ1 := δ2.set 5 (some (.i (x : Int)))) (μ1 := st2 (q.1, q.2.dropLast)) (.tos (.set 5 (.pop0 (.var 4 rfl) (hw q) (lC_last hne)) (nod_of rfl)) ?_) (.one ?_))
      · rw [lC_drop]
        show (stL pre ++ _).set (μ.length + 1 + 2 * pre.length + 1) _ = _
        rw [← hsl]
        exact sL1
      · unfold rG
        simp only
        by_cases hx : x ∈ q.1
        · rw [if_pos hx]
          exact .ifF (.to (.dnin (q := .inl (x : Int)) hu (.var 5 rfl) (.var 3 rfl) (hm (q.1, q.2.dropLast))) (by rw [look_kN, trK_some, decide_eq_true hx]; rfl)) .nil
        · rw [if_neg hx]
          refine .ifT (.to (.dnin (q := .inl (x : Int)) hu (.var 5 rfl) (.var 3 rfl) (hm (q.1, q.2.dropLast))) (by rw [look_kN, trK_some, decide_eq_false hx]; rfl)) (.cons (μ1 := st2 (q.1 ++ [x], q.2.dropLast)) (.tos (.dput (q := .inl (x : Int)) hu .bl (.var 3 rfl) (.var 5 rfl) (hm (q.1, q.2.dropLast)) (by rw [kN_len, trK_len]; show q.1.length < 1000000; omega)) ?_) (.one (.expr (.tos (.extend (xs := lC q.2.dropLast) (ys := (eds m x).map fun (s : Nat) => DV.i (s : Int)) (.var 4 rfl) (.dgetK (q := .inl (x : Int)) hu (.var 0 rfl) (.var 5 rfl) (.inr ⟨oo, hlk _⟩) (by rw [look_kN, edK_look hxl])) (hw (q.1 ++ [x], q.2.dropLast)) ?_ ?_ ⟨_, hw (q.1 ++ [x], q.2.dropLast)⟩) ?_))))
          · rw [put_new (by rw [trK_look, if_neg hx]), trK_app]
            show (stL pre ++ _).set (μ.length + 1 + 2 * pre.length) _ = _
            rw [← hsl]
            exact sL0
          · have : ((eds m x).map fun (s : Nat) => DV.i (s : Int)) = ((eds m x).map natD).map DV.dat := by rw [List.map_map]; rfl
            rw [this]
            exact .dt
          · rw [lC_len, List.length_map, List.length_dropLast]
            have := eds_len V (live_lt hxl)
            have : (eds m x).length ≤ 48 := eds_len V (live_lt hxl)
            omega
          · have e1 : lC q.2.dropLast ++ ((eds m x).map fun (s : Nat) => DV.i (s : Int)) = lC (q.2.dropLast ++ eds m x) := by unfold lC; rw [List.map_append]
            rw [e1]
            show (stL pre ++ _).set (μ.length + 1 + 2 * pre.length + 1) _ = _
            rw [← hsl]
            exact sL1
    · have e2 := (r_end V ht).2
      refine .to (.dput (q := .inl (t : Int)) (dv := .own n1) (kvs := kN (fdF μ.length 0 pre)) hu (.var 3 rfl) (.var 1 rfl) (.var 2 rfl) ?_ (by rw [kN_len, fdF_len]; omega)) ?_
      · show ((μL ++ _) ++ _)[μ.length]? = _
        rw [← hLl, List.append_assoc, List.append_assoc]
        exact gL0
      · rw [put_new (by rw [fdF_look, if_neg hpre])]
        have e3 : fdF μ.length 0 pre ++ [(t, DV.own n1)] = fdF μ.length 0 (pre ++ [t]) := by
          rw [fdF_app, Nat.zero_add]
        rw [e3]
        show Out.nx _ (((μL ++ ([_] ++ rcC m pre)) ++ [_, Cell.lst (lC (rchF m t).2)]).set μ.length _) = Out.nx _ (μL ++ ([_] ++ rcC m (pre ++ [t])))
        rw [e2, rcC_snoc, ← hLl, List.append_assoc, List.append_assoc]
        congr 1
        exact sL0
end
end Dt.K84
set_option maxHeartbeats 4000000
/-! k84: total, walked; what it tells. -/
namespace Dt.K84
open PySem PySem.Spec L2 Dt
open PyProof.Rows (envOfC)
def loopB (l : Mc) (s : Nat) : Bool := decide (s ∈ (rchF l s).1)
def totL (l : Mc) : Option Nat := if (liveOf l).any (loopB l) = true then none else some ((List.range l.rows.length).map fun n => cnt l n 0).sum
def totOf (m : Mc) : Option Nat := totL (leastOf m)
theorem sum_cast (f : Nat → Nat) : ∀ l : List Nat, (l.map fun n => ((f n : Nat) : Int)).sum = (((l.map f).sum : Nat) : Int)
  | [] => rfl
  | a :: l => by rw [List.map_cons, List.sum_cons, sum_cast f l, List.map_cons, List.sum_cons, Int.natCast_add]
section
variable {P : Program} {w : World} {K : PySem.W.Frag} {mg : Str → Option Value} {base : Heap} {f : Addr} {fd : FuncData} {cNum cWord cM cG : Addr}
def P_total (cM : Addr) : Pr := fun dvs μ o => ∃ m : Mc, VM m ∧ dvs = [.dat (mcD cM m)] ∧ o = .ret (.dat (optD (totOf m))) μ
theorem w_total (M : Md mg) (d1 : Df P w K mg base "least_machine" 9 1 (P_least cM)) (d2 : Df P w K mg base "edges_of" 3 1 (P_edges cM)) (d3 : Df P w K mg base "reached" 1 1 P_reached) (d4 : Df P w K mg base "count" 4 2 (P_count cM)) (d5 : Dm P w K mg base cM "__len__" 1 1 (P_mlen cM)) (F : Fun K "total" "total" (top 29) f fd) : FnOk P w K mg base (L2N.CX P w) 10 f fd ["machine"] (spD K 1 (P_total cM)) :=
  fn_D (N := ["machine", "least", "behind", "state", "length"]) (ps := ["machine"]) F ⟨rfl, rfl, rfl, by decide, rfl, by decide, by decide⟩ fun cdv A outer s H E hr tk hp dvs μ o hl hP => by
    obtain ⟨m, V, rfl, rfl⟩ := hP
    have hu : (A.deeper (envOfC "total" (defScope (top 29)) s.heap.objs.size f cdv)).units + 1 < cLine := by have := hr.units; omega
    obtain ⟨VL, hLN⟩ := leastOf_ok V
    have hcall : P_least cM [.dat (mcD cM m)] μ (.ret (.dat (mcD cM (leastOf m))) μ) := ⟨m, V, rfl, rfl⟩
    show Bd _ _ _ _ _ (.ret (.dat (optD (totL (leastOf m)))) μ)
    generalize leastOf m = l at VL hLN hcall
    have V63 := VL.n63
    have hll := live_len l
    let μ2 : Store := μ ++ [.dK (kN (trK (liveOf l))), .dK (kN (edK l))]
    let st : Store := μ2 ++ ([.dK (kN (fdF μ2.length 0 (liveOf l)))] ++ rcC l (liveOf l))
    let δ1 : Slots := [some (.dat (mcD cM m)), some (.dat (mcD cM l)), some (.own μ2.length), none, none]
    refine .retJ (J := [.dK (kN (trK (liveOf l))), .dK (kN (edK l))] ++ ([.dK (kN (fdF μ2.length 0 (liveOf l)))] ++ rcC l (liveOf l))) (Xb.to (o := .rt (.dat (optD (totL l))) st) ?_ ?_)
    · refine .cons (δ1 := [some (.dat (mcD cM m)), some (.dat (mcD cM l)), none, none, none]) (.set 1 (.call d1 hr (.cons (.var 0 rfl) .nil) hcall) (nod_of rfl)) ?_
      refine .cons (δ1 := δ1) (μ1 := st) (.set 2 (.call d3 (hr.mono (by decide)) (.cons (.call d2 (hr.mono (by decide)) (.cons (.var 1 rfl) .nil) ⟨l, VL, rfl, rfl⟩) .nil) ⟨l, μ.length + 1, VL, rfl, gL1, rfl⟩) (nod_of rfl)) ?_
      have hfd : st[μ2.length]? = some (.dK (kN (fdF μ2.length 0 (liveOf l)))) := gL0
      let g : Key → D := fun q => match q with
        | .inl x => .bl (loopB l x.toNat)
        | .inr _ => .non
      have hg : ∀ x : Nat, g (.inl (x : Int)) = .bl (loopB l x) := fun x => by
        show D.bl (loopB l ((x : Int)).toNat) = _
        rw [Int.toNat_natCast]
      have hkeys : (kN (fdF μ2.length 0 (liveOf l))).map (·.1) = (liveOf l).map fun (n : Nat) => (Sum.inl (n : Int) : Key) := by rw [kN_keys, fdF_keys]
      have hbs : ((kN (fdF μ2.length 0 (liveOf l))).map (·.1)).map g = ((liveOf l).map (loopB l)).map D.bl := by
        rw [hkeys, List.map_map, List.map_map]
        exact List.map_congr_left fun x _ => hg x
      have hany : ((liveOf l).map (loopB l)).any id = (liveOf l).any (loopB l) := by rw [List.any_map]; rfl
      have hcell : ∀ x, x ∈ liveOf l → ∀ o : HO, (st.set μ2.length (.lk o (kN (fdF μ2.length 0 (liveOf l)))))[μ2.length + 1 + 2 * (0 + (liveOf l).idxOf x)]? = some (.dK (kN (trK (rchF l x).1))) := fun x hx o => by
        rw [List.getElem?_set_ne (by omega), Nat.zero_add, show μ2.length + 1 + 2 * (liveOf l).idxOf x = μ2.length + (1 + 2 * (liveOf l).idxOf x) by omega]
        refine (gL _).trans ?_
        rw [List.getElem?_append_right (by show 1 ≤ _; omega)]
        show (rcC l (liveOf l))[1 + 2 * (liveOf l).idxOf x - 1]? = _
        rw [Nat.add_sub_cancel_left]
        exact rcC_at l hx
      by_cases hb : (liveOf l).any (loopB l) = true
      · have e0 : totL l = none := if_pos hb
        rw [e0]
        refine .stop (.ifT (.to (.val (.blt M.any (.cons (μ1 := st) (.to (.lcKd (x := "state") (j := 3) (k := μ2.length) (kvs := kN (fdF μ2.length 0 (liveOf l))) g rfl (nod_of rfl) (fun o => .var 2 rfl) hfd (by rw [kN_len, fdF_len]; omega) (fun o q hq s1 H1 cl C fp => ?_) (blk_of rfl) (fun _ _ _ _ _ => pg_name (nod_of rfl) rfl (by first | exact .inl rfl | exact .inr rfl))) (congrArg (fun z => DV.dat (.lst z)) hbs)) .nil) (CallS.any (bs := (liveOf l).map (loopB l)) rfl))) (hany.trans hb)) (.one (.ret .non)))
        · rw [hkeys] at hq
          obtain ⟨x, hx, rfl⟩ := List.mem_map.mp hq
          rw [hg x]
          refine .to (OpE.din (q := .inl (x : Int)) hu (.var 3 rfl) (.dgetK (q := .inl (x : Int)) hu (.var 2 rfl) (.var 3 rfl) (.inr ⟨o, List.getElem?_set_self (List.getElem?_eq_some_iff.mp hfd).1⟩) (by rw [look_kN, fdF_look, if_pos hx])) (hcell x hx o)) (by rw [look_kN, trK_some]; rfl)
      · have hb' : (liveOf l).any (loopB l) = false := by simpa using hb
        have e0 : totL l = some ((List.range l.rows.length).map fun n => cnt l n 0).sum := if_neg hb
        rw [e0]
        refine .cons (.ifF (.to (.val (.blt M.any (.cons (μ1 := st) (.to (.lcKd (x := "state") (j := 3) (k := μ2.length) (kvs := kN (fdF μ2.length 0 (liveOf l))) g rfl (nod_of rfl) (fun o => .var 2 rfl) hfd (by rw [kN_len, fdF_len]; omega) (fun o q hq s1 H1 cl C fp => ?_) (blk_of rfl) (fun _ _ _ _ _ => pg_name (nod_of rfl) rfl (by first | exact .inl rfl | exact .inr rfl))) (congrArg (fun z => DV.dat (.lst z)) hbs)) .nil) (CallS.any (bs := (liveOf l).map (loopB l)) rfl))) (hany.trans hb')) .nil) (.one (.ret (.to (.blt M.sum (.cons (μ1 := st) (.to (.lcRa (m := l.rows.length) (g := fun i => .int (cnt l i 0 : Nat)) 4 M.range (.lenI d5 (hr.mono (by decide)) M.len (.var 1 rfl) .dat ⟨l, rfl, rfl⟩ (by omega) (by omega)) (by omega) (fun i hi s1 H1 cl C fp => .call d4 (hr.mono (by decide)) (.cons (.var 1 rfl) (.cons (.var 4 rfl) .nil)) ⟨l, i, VL, rfl, by omega, rfl⟩)) (dv' := .dat (.lst (((List.range l.rows.length).map fun n => ((cnt l n 0 : Nat) : Int)).map D.int))) (by rw [List.map_map]; rfl)) .nil) (CallS.sum rfl)) (by rw [sum_cast]; rfl))))
        · rw [hkeys] at hq
          obtain ⟨x, hx, rfl⟩ := List.mem_map.mp hq
          rw [hg x]
          refine .to (OpE.din (q := .inl (x : Int)) hu (.var 3 rfl) (.dgetK (q := .inl (x : Int)) hu (.var 2 rfl) (.var 3 rfl) (.inr ⟨o, List.getElem?_set_self (List.getElem?_eq_some_iff.mp hfd).1⟩) (by rw [look_kN, fdF_look, if_pos hx])) (hcell x hx o)) (by rw [look_kN, trK_some]; rfl)
    · show Out.rt _ ((μ ++ _) ++ _) = Out.rt _ (μ ++ (_ ++ _))
      rw [List.append_assoc]
end
/-- no total: words of any length -/
theorem tot_none {m : Mc} (V : VM m) (h : totOf m = none) (k : Nat) : ∃ n, k ≤ n ∧ cnt m n 0 ≠ 0 := by
  obtain ⟨VL, _⟩ := leastOf_ok V
  unfold totOf totL at h
  split at h
  · rename_i hb
    obtain ⟨s, hs, hl⟩ := List.any_eq_true.mp hb
    obtain ⟨n, hn, hc⟩ := cyclic VL hs ((r_iff VL hs).mp (of_decide_eq_true hl)) k
    exact ⟨n, hn, by rw [← leastOf_cnt V]; exact hc⟩
  · cases h
/-- a total: that of all words, all of them short -/
theorem tot_some {m : Mc} (V : VM m) {v : Nat} (h : totOf m = some v) : (∀ n, (leastOf m).rows.length ≤ n → cnt m n 0 = 0) ∧ v = ((List.range (leastOf m).rows.length).map fun n => cnt m n 0).sum := by
  obtain ⟨VL, _⟩ := leastOf_ok V
  unfold totOf totL at h
  split at h
  · cases h
  · rename_i hb
    cases h
    refine ⟨fun n hn => ?_, ?_⟩
    · rw [← leastOf_cnt V]
      refine acyclic VL (fun s hs hl => hb (List.any_eq_true.mpr ⟨s, hs, decide_eq_true ((r_iff VL hs).mpr hl)⟩)) hn
    · congr 1
      exact List.map_congr_left fun n _ => leastOf_cnt V n
end Dt.K84
set_option maxHeartbeats 4000000
/-! k84: the class Ranks, walked: first part. -/
namespace Dt.K84
open PySem PySem.Spec L2 Dt
open PyProof.Rows (envOfC)
def rowC (m : Mc) (j : Nat) : D := .lst ((List.range m.rows.length).map fun s => natD (cnt m j s))
def rkRows (m : Mc) (k : Nat) : List DV := (List.range (k + 1)).map fun j => DV.dat (rowC m j)
abbrev rkNames : List Str := ["machine", "many"]
def rkFs (cM : Addr) (n : Nat) (m : Mc) : Flds := [("machine", .dat (mcD cM m)), ("many", .own (n + 1))]
def rkC (cR cM : Addr) (n : Nat) (m : Mc) (k : Nat) : Store := [.ins cR (rkFs cM n m), .lst (rkRows m k)]
theorem rkRows_len (m : Mc) (k : Nat) : (rkRows m k).length = k + 1 := by unfold rkRows; rw [List.length_map, List.length_range]
theorem rkRows_at {m : Mc} {k j : Nat} (h : j ≤ k) : (rkRows m k)[j]? = some (.dat (rowC m j)) := by
  unfold rkRows
  rw [List.getElem?_map, List.getElem?_range (by omega)]
  rfl
theorem rkRows_succ (m : Mc) (k : Nat) : rkRows m (k + 1) = rkRows m k ++ [.dat (rowC m (k + 1))] := by
  unfold rkRows
  rw [List.range_succ, List.map_append]
  rfl
theorem rows_map {α : Type} (m : Mc) (F : List (Option Nat) → α) : m.rows.map F = (List.range m.rows.length).map fun s => F (m.row s) := by
  refine List.ext_getElem? fun i => ?_
  rw [List.getElem?_map, List.getElem?_map]
  by_cases h : i < m.rows.length
  · rw [List.getElem?_range h, List.getElem?_eq_getElem h]
    show some _ = some (F (m.rows.getD i []))
    rw [List.getD_eq_getElem?_getD, List.getElem?_eq_getElem h]
    rfl
  · rw [List.getElem?_eq_none (by omega), List.getElem?_eq_none (by rw [List.length_range]; omega)]
    rfl
theorem rowC_succ (m : Mc) (k : Nat) : (m.rows.map fun r => natD (osum (cnt m k) r)) = (List.range m.rows.length).map fun s => natD (cnt m (k + 1) s) := rows_map m fun r => natD (osum (cnt m k) r)
theorem rowC_zero {m : Mc} (V : VM m) : m.ends.map natD = (List.range m.rows.length).map fun s => natD (cnt m 0 s) := by
  refine List.ext_getElem? fun i => ?_
  rw [List.getElem?_map, List.getElem?_map]
  by_cases h : i < m.rows.length
  · rw [List.getElem?_range h, V.ed_at h]
    rfl
  · rw [List.getElem?_eq_none (by rw [V.el]; omega), List.getElem?_eq_none (by rw [List.length_range]; omega)]
    rfl
theorem rowC_at {m : Mc} {j s : Nat} (h : s < m.rows.length) : atI ((List.range m.rows.length).map fun s => natD (cnt m j s)) (s : Int) = some (natD (cnt m j s)) := atI_nat (by rw [List.getElem?_map, List.getElem?_range h]; rfl)
theorem atI_last {α : Type} {xs : List α} {k : Nat} {v : α} (h : xs.length = k + 1) (hv : xs[k]? = some v) : atI xs (-1) = some v := by
  unfold atI ixN
  rw [h, if_neg (by decide), if_pos (by omega)]
  show xs[(-1 + ((k + 1 : Nat) : Int)).toNat]? = some v
  rw [show (-1 + ((k + 1 : Nat) : Int)).toNat = k by omega]
  exact hv
theorem Lc.filt2 {α : Type} {R : DV → Store → Option DV → Store → Prop} {μ : Store} (p : α → Bool) (f g : α → DV) : ∀ {xs : List α}, (∀ x ∈ xs, p x = true → R (f x) μ (some (g x)) μ) → (∀ x ∈ xs, p x = false → R (f x) μ none μ) → Lc R (xs.map f) μ ((xs.filter p).map g) μ
  | [], _, _ => .nil
  | x :: xs, h1, h2 => by
    have ih := Lc.filt2 p f g (xs := xs) (fun y hy => h1 y (List.mem_cons_of_mem _ hy)) (fun y hy => h2 y (List.mem_cons_of_mem _ hy))
    rw [List.filter_cons]
    by_cases h : p x = true
    · rw [if_pos h]
      exact .keep (h1 x List.mem_cons_self h) ih
    · rw [if_neg h]
      exact .skip (h2 x List.mem_cons_self (by simpa using h)) ih
theorem osum_filt (f : Nat → Nat) : ∀ r : List (Option Nat), ((r.filter Option.isSome).map fun o => ((val f o : Nat) : Int)).sum = ((osum f r : Nat) : Int)
  | [] => rfl
  | none :: r => osum_filt f r
  | some t :: r => by
    rw [List.filter_cons]
    show (((f t : Nat) : Int) :: _).sum = ((f t + osum f r : Nat) : Int)
    rw [List.sum_cons, osum_filt f r, Int.natCast_add]
section
variable {μ0 R : Store} {cR cM : Addr} {m : Mc} {k : Nat} {x : Cell}
theorem rc (i : Nat) {c : Cell} (h : (rkC cR cM μ0.length m k ++ R)[i]? = some c) : (μ0 ++ (rkC cR cM μ0.length m k ++ R))[μ0.length + i]? = some c := (gL i).trans h
theorem under_rk {n j : Nat} (h : n + 2 ≤ j) : ((rkC cR cM n m k).all fun c => c.under j) = true := by
  show (Cell.under j (.ins cR (rkFs cM n m)) && (Cell.under j (.lst (rkRows m k)) && true)) = true
  have h1 : decide (n + 1 < j) = true := decide_eq_true (by omega)
  have h2 : Cell.under j (.lst (rkRows m k)) = true := List.all_eq_true.mpr fun d hd => by obtain ⟨i, _, rfl⟩ := List.mem_map.mp hd; rfl
  rw [h2]
  show ((true && (decide (n + 1 < j) && true)) && (true && true)) = true
  rw [h1]
  rfl
end
section
variable {P : Program} {w : World} {K : PySem.W.Frag} {mg : Str → Option Value} {base : Heap} {f : Addr} {fd : FuncData} {cNum cWord cM cR : Addr}
def P_rinit (cR cM : Addr) : Pr := fun dvs μ o => ∃ (μ0 : Store) (m : Mc), VM m ∧ dvs = [.own μ0.length, .dat (mcD cM m)] ∧ μ = μ0 ++ [.ins cR []] ∧ o = .ret .n (μ0 ++ rkC cR cM μ0.length m 0)
theorem w_rinit (M : Md mg) (c : ClsK K cM mcNames) (cr : ClsK K cR rkNames) (F : Fun K "__init__" "Ranks.__init__" (inClass (top 31) 0) f fd) : FnOk P w K mg base (L2N.CX P w) 1 f fd ["self", "machine"] (spD K 2 (P_rinit cR cM)) :=
  fn_D (N := ["self", "machine"]) (ps := ["self", "machine"]) F ⟨rfl, rfl, rfl, by decide, rfl, by decide, by decide⟩ fun cdv A outer s H E hr tk hp dvs μ o hl hP => by
    obtain ⟨μ0, m, V, rfl, rfl, rfl⟩ := hP
    refine Bd.non (δ' := [some (.own μ0.length), some (.dat (mcD cM m))]) ?_ (Keep.ext (by show 1 ≤ 2; decide) (under_rk (Nat.le_refl _)))
    refine .cons (.tos (μ2 := μ0 ++ [.ins cR [("machine", .dat (mcD cM m))]]) (.fld cr (.var 1 rfl) (.var 0 rfl) gL0) sL0) ?_
    refine .one (.tos (.fld cr (.to (.tos (μ'' := μ0 ++ [.ins cR [("machine", .dat (mcD cM m))], .lst (rkRows m 0)]) (.lstO (dvs := [.dat (.lst (m.ends.map natD))]) (.cons (.tyc M.list (.cons (.fld c (.var 1 rfl) .dat rfl) .nil) CallS.listT) .nil)) ?_) (dv' := .own (μ0.length + 1)) (by rw [List.length_append]; rfl)) (.var 0 rfl) gL0) sL0)
    rw [List.append_assoc, rowC_zero V]
    rfl
def P_rlen (cR cM : Addr) : Pr := fun dvs μ o => ∃ (μ0 R : Store) (m : Mc) (k : Nat), VM m ∧ k < 1000 ∧ dvs = [.own μ0.length] ∧ μ = μ0 ++ (rkC cR cM μ0.length m k ++ R) ∧ o = .ret .n (μ0 ++ (rkC cR cM μ0.length m (k + 1) ++ R))
theorem w_rlen (M : Md mg) (c : ClsK K cM mcNames) (cr : ClsK K cR rkNames) (F : Fun K "lengthen" "Ranks.lengthen" (inClass (top 31) 1) f fd) : FnOk P w K mg base (L2N.CX P w) 1 f fd ["self"] (spD K 1 (P_rlen cR cM)) :=
  fn_D (N := ["self", "last", "row", "targets", "target"]) (ps := ["self"]) F ⟨rfl, rfl, rfl, by decide, rfl, by decide, by decide⟩ fun cdv A outer s H E hr tk hp dvs μ o hl hP => by
    obtain ⟨μ0, R, m, k, V, hk, rfl, rfl, rfl⟩ := hP
    have V63 := V.n63
    let B := μ0 ++ (rkC cR cM μ0.length m k ++ R)
    let st : List (List (Option Nat)) → Store := fun pre => B ++ [.lst ((pre.map fun r => natD (osum (cnt m k) r)).map DV.dat)]
    let δ1 : Slots := [some (.own μ0.length), some (.dat (rowC m k)), some (.own B.length), none, none]
    have hmany : ∀ Q : Store, (B ++ Q)[μ0.length + 1]? = some (.lst (rkRows m k)) := fun Q => app_at (rc 1 rfl)
    have hins : ∀ Q : Store, (B ++ Q)[μ0.length + 0]? = some (.ins cR (rkFs cM μ0.length m)) := fun Q => app_at (rc 0 rfl)
    have hx : Xb (cxOf (L2N.CX P w) P w K mg base ["self", "last", "row", "targets", "target"] "Ranks.lengthen" (defScope (inClass (top 31) 1)) f cdv A outer s H E) (fun cls d _ H => E cls d H) (defBody (inClass (top 31) 1)) (startD 5 [.own μ0.length]) B (.nx δ1 ((μ0 ++ (rkC cR cM μ0.length m (k + 1) ++ R)) ++ [.gone])) := by
      refine .cons (δ1 := [some (.own μ0.length), some (.dat (rowC m k)), none, none, none]) (.set 1 (.ixO (.fld cr (.var 0 rfl) (.own (rc 0 rfl)) rfl) (.neg .int) (rc 1 rfl) (atI_last (rkRows_len m k) (rkRows_at (Nat.le_refl k)))) (nod_of rfl)) ?_
      refine .cons (δ1 := δ1) (μ1 := st []) (.set 2 (.lstO .nil) (nod_of rfl)) ?_
      refine .cons (δ1 := δ1) (μ1 := st m.rows) (.forT (ds := m.rows.map rowD) rfl (nod_of rfl) hp 3 (.fld c (.fld cr (.var 0 rfl) (.own (hins _)) rfl) .dat rfl) ?_) ?_
      · rw [List.map_map]
        refine It1.foldP (f := DV.dat ∘ rowD) (δ := fun _ => δ1) (μ := st) m.rows fun pre r rest e => ?_
        have hr' : r ∈ m.rows := by rw [← e]; exact List.mem_append_right _ List.mem_cons_self
        have hpl : pre.length < 64 := by
          have : m.rows.length = pre.length + (r :: rest).length := by rw [← e, List.length_append]
          rw [List.length_cons] at this
          omega
        refine .wk (δ1 := δ1.set 3 (some (.dat (rowD r)))) (.one (.expr (.tos (.append (xs := (pre.map fun r => natD (osum (cnt m k) r)).map DV.dat) (dv := .dat (natD (osum (cnt m k) r))) (μ2 := st pre) (.var 2 rfl) (.to (.blt M.sum (.cons (μ1 := st pre) (.lcOf (x := "target") (j := 4) (ds := ((r.filter Option.isSome).map fun o => ((val (cnt m k) o : Nat) : Int)).map D.int) rfl (nod_of rfl) (pi_tup semE_pe) (blk_of rfl) (fun _ _ _ _ _ => pg_name (nod_of rfl) rfl (by first | exact .inl rfl | exact .inr rfl)) (by decide) (lcT (ds := r.map optD) (.var 3 rfl) ?_ ?_)) .nil) (CallS.sum rfl)) (by rw [osum_filt]; rfl)) gL0 ?_ ⟨_, gL0⟩) ?_)))
        · rw [List.map_map, List.map_map, List.map_map]
          refine Lc.filt2 Option.isSome _ _ (fun o ho hp' => ?_) (fun o ho hp' => ?_)
          · cases o with
            | none => cases hp'
            | some t =>
              exact .yes (.one fun s1 H1 cl C fp => .to (.cmp (.var 4 rfl) .non .notN) rfl) (.of fun s1 H1 cl C fp => .ixD (ds := (List.range m.rows.length).map fun s => natD (cnt m k s)) (.var 1 rfl) (.var 4 rfl) (rowC_at (V.tg r hr' t ho)))
          · cases o with
            | none => exact .no (.one fun s1 H1 cl C fp => .to (.cmp (.var 4 rfl) .non .notN) rfl)
            | some t => cases hp'
        · rw [List.length_map, List.length_map, List.length_map]
          have h1 := List.length_filter_le Option.isSome r
          have h2 := V.len r hr'
          have := V.L48
          omega
        · rw [List.length_map, List.length_map]
          omega
        · have e2 : (((pre ++ [r]).map fun r => natD (osum (cnt m k) r)).map DV.dat) = ((pre.map fun r => natD (osum (cnt m k) r)).map DV.dat) ++ [.dat (natD (osum (cnt m k) r))] := by rw [List.map_append, List.map_append]; rfl
          show (B ++ [_]).set B.length _ = B ++ [.lst (((pre ++ [r]).map fun r => natD (osum (cnt m k) r)).map DV.dat)]
          rw [e2]
          exact sL0
      · refine .one (.expr (.tos (.append (xs := rkRows m k) (dv := .dat (rowC m (k + 1))) (μ2 := B ++ [.gone]) (.fld cr (.var 0 rfl) (.own (hins _)) rfl) (.tos (.to (.frz (ds := m.rows.map fun r => natD (osum (cnt m k) r)) (.var 2 rfl) gL0) ?_) sL0) (hmany _) (by rw [rkRows_len]; omega) ⟨_, hmany _⟩) ?_))
        · rw [rowC_succ]
          rfl
        · rw [← rkRows_succ]
          show ((μ0 ++ (rkC cR cM μ0.length m k ++ R)) ++ [Cell.gone]).set (μ0.length + 1) _ = _
          rw [List.append_assoc, List.append_assoc]
          exact (sL 1).trans (by rw [List.append_assoc, List.append_assoc]; rfl)
    exact ⟨_, [.gone], hx, .nx (Keep.mid rfl (under_rk (Nat.le_refl _)))⟩
end
end Dt.K84
set_option maxHeartbeats 4000000
/-! k84: Ranks, walked: many_from, shorter, lesser. -/
namespace Dt.K84
open PySem PySem.Spec L2 Dt
open PyProof.Rows (envOfC)
def mfK (k j : Nat) : Option Nat → Nat
  | none => k
  | some _ => max k j
theorem runF_max (j : Nat) : ∀ (n k : Nat), j - k < n → runF (fun k => k + 1) (fun k => decide (j ≤ k)) n k = max k j
  | 0, k, h => by omega
  | n + 1, k, h => by
    unfold runF
    by_cases hk : j ≤ k
    · rw [if_pos (decide_eq_true hk)]
      omega
    · rw [if_neg (by rw [decide_eq_false hk]; exact Bool.false_ne_true), runF_max j n (k + 1) (by omega)]
      omega
theorem Lc.foldS {α S : Type} {R : DV → Store → Option DV → Store → Prop} {f y : α → DV} (st : S → Store) (g : S → α → S) (I : S → Prop) (J : α → Prop) (h : ∀ s a, I s → J a → I (g s a) ∧ R (f a) (st s) (some (y a)) (st (g s a))) : ∀ (as : List α) (s : S), I s → (∀ a ∈ as, J a) → Lc R (as.map f) (st s) (as.map y) (st (as.foldl g s)) ∧ I (as.foldl g s)
  | [], s, hs, _ => ⟨.nil, hs⟩
  | a :: as, s, hs, ha => by
    obtain ⟨h1, h2⟩ := h s a hs (ha a List.mem_cons_self)
    obtain ⟨h3, h4⟩ := Lc.foldS st g I J h as (g s a) h1 fun b hb => ha b (List.mem_cons_of_mem _ hb)
    exact ⟨.keep h2 h3, h4⟩
theorem sum_val (f : Nat → Nat) : ∀ r : List (Option Nat), (r.map fun o => ((val f o : Nat) : Int)).sum = ((osum f r : Nat) : Int)
  | [] => rfl
  | none :: r => by
    rw [List.map_cons, List.sum_cons, sum_val f r]
    show (0 : Int) + _ = ((osum f r : Nat) : Int)
    rw [Int.zero_add]
  | some t :: r => by
    rw [List.map_cons, List.sum_cons, sum_val f r]
    show ((f t : Nat) : Int) + _ = ((f t + osum f r : Nat) : Int)
    rw [Int.natCast_add]
section
variable {P : Program} {w : World} {K : PySem.W.Frag} {mg : Str → Option Value} {base : Heap} {f : Addr} {fd : FuncData} {cNum cWord cM cR : Addr}
def P_from (cR cM : Addr) : Pr := fun dvs μ o => ∃ (μ0 R : Store) (m : Mc) (k : Nat) (s : Option Nat) (j : Nat), VM m ∧ k < 1000 ∧ j < 900 ∧ (∀ t, s = some t → t < m.rows.length) ∧ dvs = [.own μ0.length, .dat (optD s), .i (j : Int)] ∧ μ = μ0 ++ (rkC cR cM μ0.length m k ++ R) ∧ o = .ret (.i (val (cnt m j) s : Nat)) (μ0 ++ (rkC cR cM μ0.length m (mfK k j s) ++ R))
theorem w_from (M : Md mg) (cr : ClsK K cR rkNames) (d1 : Dm P w K mg base cR "lengthen" 1 1 (P_rlen cR cM)) (F : Fun K "many_from" "Ranks.many_from" (inClass (top 31) 2) f fd) : FnOk P w K mg base (L2N.CX P w) 2 f fd ["self", "state", "length"] (spD K 3 (P_from cR cM)) :=
  fn_D (N := ["self", "state", "length"]) (ps := ["self", "state", "length"]) F ⟨rfl, rfl, rfl, by decide, rfl, by decide, by decide⟩ fun cdv A outer s H E hr tk hp dvs μ o hl hP => by
    obtain ⟨μ0, R, m, k, st, j, V, hk, hj, hst, rfl, rfl, rfl⟩ := hP
    cases st with
    | none => exact .ret (.stop (.ifT (.cmp (.var 1 rfl) .non .isN) (.one (.ret .int))))
    | some t =>
      let sto : Nat → Store := fun k => μ0 ++ (rkC cR cM μ0.length m k ++ R)
      let δ1 : Slots := [some (.own μ0.length), some (.i (t : Int)), some (.i (j : Int))]
      have hmany : ∀ k, (sto k)[μ0.length + 1]? = some (.lst (rkRows m k)) := fun k => rc 1 rfl
      have hrun := runF_max j (j + 1) k (by omega)
      refine .ret (.cons (δ1 := δ1) (.ifF (.cmp (.var 1 rfl) .non .isN) .nil) (.cons (δ1 := δ1) (μ1 := sto (mfK k j (some t))) (.to (.while hp (Wh.run (δ := fun _ => δ1) (μ := sto) (fun k => k + 1) (fun k => decide (j ≤ k)) (fun k => k < 1000) (fun k => j - k) (fun k hk hs => ?_) (fun k hk hs => ?_) (fun k hk hs => ?_) (j + 1) k (by omega) hk)) (by rw [hrun]; rfl)) (.one (.ret (.ixD (ds := (List.range m.rows.length).map fun s => natD (cnt m j s)) (.ixO (.fld cr (.var 0 rfl) (.own (rc 0 rfl)) rfl) (.var 2 rfl) (hmany _) (atI_nat (rkRows_at (by show j ≤ max k j; omega)))) (.var 1 rfl) (rowC_at (hst t rfl))))))) (Keep.mid rfl (under_rk (Nat.le_refl _)))
      · have h := of_decide_eq_true hs
        exact .to (.cmp (.blt M.len (.cons (.fld cr (.var 0 rfl) (.own (rc 0 rfl)) rfl) .nil) (CallS.lenL (.ow (hmany k)))) (.var 2 rfl) .le) (decide_eq_false (by rw [rkRows_len]; omega))
      · have h : ¬ j ≤ k := fun z => by rw [decide_eq_true z] at hs; cases hs
        exact ⟨.to (.cmp (.blt M.len (.cons (.fld cr (.var 0 rfl) (.own (rc 0 rfl)) rfl) .nil) (CallS.lenL (.ow (hmany k)))) (.var 2 rfl) .le) (decide_eq_true (by rw [rkRows_len]; omega)), .one (.expr (.meth0 (dv1 := .n) cr d1 hr (.var 0 rfl) (.own (rc 0 rfl)) rfl ⟨μ0, R, m, k, V, hk, rfl, rfl, rfl⟩))⟩
      · have h : ¬ j ≤ k := fun z => by rw [decide_eq_true z] at hs; cases hs
        exact ⟨by omega, by omega⟩
def shK (k n : Nat) : Nat := (List.range n).foldl (fun k j => max k j) k
def P_short (cR cM : Addr) : Pr := fun dvs μ o => ∃ (μ0 R : Store) (m : Mc) (k n : Nat), VM m ∧ k < 1000 ∧ n < 900 ∧ dvs = [.own μ0.length, .i (n : Int)] ∧ μ = μ0 ++ (rkC cR cM μ0.length m k ++ R) ∧ o = .ret (.i (((List.range n).map fun j => cnt m j 0).sum : Nat)) (μ0 ++ (rkC cR cM μ0.length m (shK k n) ++ R))
theorem upto_map (n : Nat) : upto 0 n = (List.range n).map fun (j : Nat) => DV.i (j : Int) := by
  unfold upto
  exact List.map_congr_left fun x _ => by rw [Int.zero_add]
theorem shK_lt {k : Nat} (hk : k < 1000) : ∀ n, n < 900 → shK k n < 1000
  | 0, _ => hk
  | n + 1, h => by
    unfold shK
    rw [List.range_succ, List.foldl_append]
    have := shK_lt hk n (by omega)
    show max (shK k n) n < 1000
    omega
theorem w_short (M : Md mg) (cr : ClsK K cR rkNames) (d1 : Dm P w K mg base cR "many_from" 2 3 (P_from cR cM)) (F : Fun K "shorter" "Ranks.shorter" (inClass (top 31) 3) f fd) : FnOk P w K mg base (L2N.CX P w) 3 f fd ["self", "length"] (spD K 2 (P_short cR cM)) :=
  fn_D (N := ["self", "length", "fewer"]) (ps := ["self", "length"]) F ⟨rfl, rfl, rfl, by decide, rfl, by decide, by decide⟩ fun cdv A outer s H E hr tk hp dvs μ o hl hP => by
    obtain ⟨μ0, R, m, k, n, V, hk, hn, rfl, rfl, rfl⟩ := hP
    let sto : Nat → Store := fun k => μ0 ++ (rkC cR cM μ0.length m k ++ R)
    have hN := V.n1
    refine .ret (.one (.ret (.to (.blt M.sum (.cons (μ1 := sto (shK k n)) (.lcOf (x := "fewer") (j := 2) (ds := ((List.range n).map fun j => ((cnt m j 0 : Nat) : Int)).map D.int) rfl (nod_of rfl) (pi_range1 (by rfl) M.range (pa_cons semE_pe pa_nil (by rfl)) (by rfl)) (blk_of rfl) (fun _ _ _ _ _ => pg_name (nod_of rfl) rfl (by first | exact .inl rfl | exact .inr rfl)) (by decide) (lcR (m := (n : Int)) (.var 1 rfl) (by omega) (by omega) ?_ ?_)) .nil) (CallS.sum rfl)) (by rw [sum_cast])))) (Keep.mid rfl (under_rk (Nat.le_refl _)))
    · rw [Int.toNat_natCast, upto_map, List.map_map, List.map_map]
      exact (Lc.foldS (f := fun (j : Nat) => DV.i (j : Int)) (y := DV.dat ∘ D.int ∘ fun j => ((cnt m j 0 : Nat) : Int)) sto (fun k j => max k j) (fun k => k < 1000) (fun j => j < 900) (fun k j hk hj => ⟨by omega, El.go (Ek.of fun s1 H1 cl C fp => .meth cr d1 hr (.var 0 rfl) (.own (rc 0 rfl)) rfl (.cons .int (.cons (.var 2 rfl) .nil)) ⟨μ0, R, m, k, some 0, j, V, hk, hj, fun t e => by cases e; omega, rfl, rfl, rfl⟩)⟩) (List.range n) k hk (fun j hj => by have := List.mem_range.mp hj; omega)).1
    · rw [List.length_map, List.length_map, List.length_map, List.length_range]
      omega
/-! ### lesser -/
def lsF (m : Mc) : List Nat → Option Nat → Nat → Nat
  | [], _, f => f
  | _ :: _, none, f => f
  | x :: w, some s, f => lsF m w ((m.row s).getD x none) (f + osum (cnt m w.length) ((m.row s).take x))
def lsK (m : Mc) : List Nat → Option Nat → Nat → Nat
  | [], _, k => k
  | _ :: _, none, k => k
  | x :: w, some s, k => lsK m w ((m.row s).getD x none) (((m.row s).take x).foldl (fun k o => mfK k w.length o) k)
theorem mfK_fold {b : Nat} (hb : b < 900) : ∀ (os : List (Option Nat)) (k : Nat), k < 1000 → os.foldl (fun k o => mfK k b o) k < 1000
  | [], k, h => h
  | none :: os, k, h => mfK_fold hb os k h
  | some t :: os, k, h => mfK_fold hb os (max k b) (by omega)
theorem lsK_lt (m : Mc) : ∀ (ws : List Nat) (st : Option Nat) (k : Nat), ws.length < 900 → k < 1000 → lsK m ws st k < 1000
  | [], _, k, _, h => h
  | _ :: _, none, k, _, h => h
  | x :: w, some s, k, hw, h => by
    rw [List.length_cons] at hw
    exact lsK_lt m w _ _ (by omega) (mfK_fold (by omega) _ _ h)
theorem cut_take {α : Type} (xs : List α) (a : Nat) : cutD xs none (some (a : Int)) = xs.take a := by
  unfold cutD
  rw [HT.sIx_nat]
  show (xs.drop 0).take (min a xs.length - 0) = _
  rw [List.drop_zero, Nat.sub_zero, Nat.min_def]
  split
  · rfl
  · rw [List.take_of_length_le (Nat.le_refl _), List.take_of_length_le (by omega)]
def P_less (cR cM : Addr) : Pr := fun dvs μ o => ∃ (μ0 R : Store) (m : Mc) (k : Nat) (ws : List Nat), VM m ∧ k < 1000 ∧ ws.length < 900 ∧ (∀ x ∈ ws, x < m.L) ∧ dvs = [.own μ0.length, .dat (wordD ws)] ∧ μ = μ0 ++ (rkC cR cM μ0.length m k ++ R) ∧ o = .ret (.i (lsF m ws (some 0) 0 : Nat)) (μ0 ++ (rkC cR cM μ0.length m (lsK m ws (some 0) k) ++ R))
theorem enD_cons (d : D) (ds : List D) (n : Nat) : enD (d :: ds) n = .dat (.tup [.int (n : Int), d]) :: enD ds (n + 1) := by
  unfold enD
  rw [List.mapIdx_cons, Nat.add_zero]
  congr 2
  funext i d
  rw [show n + (i + 1) = n + 1 + i by omega]
theorem ls_it {Rr : DV → Slots → Store → Out → Prop} {sto : Nat → Store} {δ : Nat → Option Nat → Slots} {m : Mc} (V : VM m) {ws : List Nat} (hws : ws.length < 900)
    (hR : ∀ pre x w s f k, pre ++ x :: w = ws → s < m.rows.length → x < m.L → k < 1000 → Rr (.dat (.tup [.int (pre.length : Int), natD x])) (δ f (some s)) (sto k) (.nx (δ (f + osum (cnt m w.length) ((m.row s).take x)) ((m.row s).getD x none)) (sto (((m.row s).take x).foldl (fun k o => mfK k w.length o) k))))
    (hN : ∀ pre x w f k, pre ++ x :: w = ws → Rr (.dat (.tup [.int (pre.length : Int), natD x])) (δ f none) (sto k) (.rt (.i (f : Int)) (sto k))) :
    ∀ (w pre : List Nat) (st : Option Nat) (f k : Nat), pre ++ w = ws → (∀ x ∈ w, x < m.L) → (∀ s, st = some s → s < m.rows.length) → k < 1000 →
      ∃ o, It1 Rr (enD (w.map natD) pre.length) (δ f st) (sto k) o ∧ ((∃ st', o = .nx (δ (lsF m w st f) st') (sto (lsK m w st k))) ∨ o = .rt (.i (lsF m w st f : Nat)) (sto (lsK m w st k)))
  | [], pre, st, f, k, _, _, _, _ => ⟨_, .nil, .inl ⟨st, rfl⟩⟩
  | x :: w, pre, none, f, k, e, _, _, _ => by
    rw [List.map_cons, enD_cons]
    exact ⟨_, .ret (hN pre x w f k e), .inr rfl⟩
  | x :: w, pre, some s, f, k, e, hx, hs, hk => by
    have hwl : w.length < 900 := by
      have : ws.length = pre.length + (x :: w).length := by rw [← e, List.length_append]
      rw [List.length_cons] at this
      omega
    obtain ⟨o, h1, h2⟩ := ls_it V hws hR hN w (pre ++ [x]) ((m.row s).getD x none) (f + osum (cnt m w.length) ((m.row s).take x)) (((m.row s).take x).foldl (fun k o => mfK k w.length o) k) (by rw [List.append_assoc]; exact e) (fun y hy => hx y (List.mem_cons_of_mem _ hy)) (fun t ht => row_lt V s t (getD_mem ht)) (mfK_fold hwl _ _ hk)
    rw [List.length_append, List.length_singleton] at h1
    rw [List.map_cons, enD_cons]
    exact ⟨o, .next (hR pre x w s f k e (hs s rfl) (hx x List.mem_cons_self) hk) h1, h2⟩
theorem w_less (M : Md mg) (c : ClsK K cM mcNames) (cr : ClsK K cR rkNames) (d1 : Dm P w K mg base cR "many_from" 2 3 (P_from cR cM)) (F : Fun K "lesser" "Ranks.lesser" (inClass (top 31) 4) f fd) : FnOk P w K mg base (L2N.CX P w) 3 f fd ["self", "word"] (spD K 2 (P_less cR cM)) :=
  fn_D (N := ["self", "word", "found", "state", "place", "letter", "behind", "targets", "target"]) (ps := ["self", "word"]) F ⟨rfl, rfl, rfl, by decide, rfl, by decide, by decide⟩ fun cdv A outer s H E hr tk hp dvs μ o hl hP => by
    obtain ⟨μ0, R, m, k, ws, V, hk, hwl, hws, rfl, rfl, rfl⟩ := hP
    let sto : Nat → Store := fun k => μ0 ++ (rkC cR cM μ0.length m k ++ R)
    let δ : Nat → Option Nat → Slots := fun f st => [some (.own μ0.length), some (.dat (wordD ws)), some (.i (f : Int)), some (.dat (optD st)), none, none, none, none, none]
    have hx : ∃ o1, Xb (cxOf (L2N.CX P w) P w K mg base ["self", "word", "found", "state", "place", "letter", "behind", "targets", "target"] "Ranks.lesser" (defScope (inClass (top 31) 4)) f cdv A outer s H E) (fun cls d _ H => E cls d H) (defBody (inClass (top 31) 4)) (startD 9 [.own μ0.length, .dat (wordD ws)]) (sto k) o1 ∧ o1 = .rt (.i (lsF m ws (some 0) 0 : Nat)) (sto (lsK m ws (some 0) k)) := by
      have loop : ∃ ol, Xs (cxOf (L2N.CX P w) P w K mg base ["self", "word", "found", "state", "place", "letter", "behind", "targets", "target"] "Ranks.lesser" (defScope (inClass (top 31) 4)) f cdv A outer s H E) (fun cls d _ H => E cls d H) ((defBody (inClass (top 31) 4)).getD 2 (.Pass ⟨0, 0, 0, 0⟩)) (δ 0 (some 0)) (sto k) ol ∧ ((∃ st', ol = .nx (δ (lsF m ws (some 0) 0) st') (sto (lsK m ws (some 0) k))) ∨ ol = .rt (.i (lsF m ws (some 0) 0 : Nat)) (sto (lsK m ws (some 0) k))) := by
        refine Exists.elim (ls_it (Rr := Body2 (cxOf (L2N.CX P w) P w K mg base ["self", "word", "found", "state", "place", "letter", "behind", "targets", "target"] "Ranks.lesser" (defScope (inClass (top 31) 4)) f cdv A outer s H E) (fun cls d _ H => E cls d H) 4 5 _) (sto := sto) (δ := δ) V hwl (fun pre x w s f k e hs hx hk => ?_) (fun pre x w f k e => ?_) ws [] (some 0) 0 k rfl hws (fun t ht => by cases ht; have := V.n1; omega) hk) fun ol ⟨h1, h2⟩ => ⟨ol, .forE (ds := ws.map natD) rfl (nod_of rfl) hp M.enumerate 4 5 (.var 1 rfl) h1, h2⟩
        · have hlen : ws.length = pre.length + w.length + 1 := by rw [← e, List.length_append, List.length_cons]; omega
          have hxl : x < (m.row s).length := by rw [V.row_len hs]; exact hx
          refine ⟨_, _, rfl, ?_⟩
          refine .wk (δ1 := [some (.own μ0.length), some (.dat (wordD ws)), some (.i ((f + osum (cnt m w.length) ((m.row s).take x) : Nat) : Int)), some (.dat (optD ((m.row s).getD x none))), some (.i (pre.length : Int)), some (.i (x : Int)), some (.i (w.length : Int)), some (.dat (rowD (m.row s))), none]) (.cons (.ifF (.cmp (.var 3 rfl) .non .isN) .nil) (.cons (.set 6 (.to (.bin (.bin (.blt M.len (.cons (.var 1 rfl) .nil) CallS.lenT) (.var 4 rfl) .sub) .int .sub) ?_) (nod_of rfl)) (.cons (.set 7 (.ixT (.fld c (.fld cr (.var 0 rfl) (.own (rc 0 rfl)) rfl) .dat rfl) (.var 3 rfl) (row_ix V hs)) (nod_of rfl)) (.cons (.set 2 (.to (.bin (.var 2 rfl) (.blt M.sum (.cons (μ1 := sto (((m.row s).take x).foldl (fun k o => mfK k w.length o) k)) (.lcOf (x := "target") (j := 8) (ds := (((m.row s).take x).map fun o => ((val (cnt m w.length) o : Nat) : Int)).map D.int) rfl (nod_of rfl) (pi_tup semE_pe) (blk_of rfl) (fun _ _ _ _ _ => pg_name (nod_of rfl) rfl (by first | exact .inl rfl | exact .inr rfl)) (by decide) (lcT (ds := ((m.row s).take x).map optD) (.to (.sliceT (.var 7 rfl) .no (.at (.var 5 rfl))) ?_) ?_ ?_)) .nil) (CallS.sum rfl)) .add) ?_) (nod_of rfl)) (.one (.set 3 (.ixT (.var 7 rfl) (.var 5 rfl) (opt_ix hxl)) (nod_of rfl)))))))
          · rw [List.length_map]
            show DV.i ((ws.length : Int) - (pre.length : Int) - 1) = .i (w.length : Int)
            rw [hlen]
            congr 2
            omega
          · rw [cut_take, ← List.map_take]
          · rw [List.map_map, List.map_map, List.map_map]
            exact (Lc.foldS (f := DV.dat ∘ optD) (y := DV.dat ∘ D.int ∘ fun o => ((val (cnt m w.length) o : Nat) : Int)) sto (fun k o => mfK k w.length o) (fun k => k < 1000) (fun o => ∀ t, o = some t → t < m.rows.length) (fun k o hk ho => ⟨mfK_fold (b := w.length) (by omega) [o] k hk, El.go (Ek.of fun s1 H1 cl C fp => .meth cr d1 hr (.var 0 rfl) (.own (rc 0 rfl)) rfl (.cons (.var 8 rfl) (.cons (.var 6 rfl) .nil)) ⟨μ0, R, m, k, o, w.length, V, hk, by omega, ho, rfl, rfl, rfl⟩)⟩) ((m.row s).take x) k hk (fun o ho t e => row_lt V s t (e ▸ List.mem_of_mem_take ho))).1
          · rw [List.length_map, List.length_map, List.length_map]
            have := List.length_take_le x (m.row s)
            have := V.L48
            omega
          · rw [sum_val]
            show DV.i ((f : Int) + _) = _
            rw [Int.natCast_add]
        · exact ⟨_, _, rfl, .stop (.ifT (.cmp (.var 3 rfl) .non .isN) (.one (.ret (.var 2 rfl))))⟩
      obtain ⟨ol, hloop, ho⟩ := loop
      rcases ho with ⟨st', rfl⟩ | rfl
      · exact ⟨_, .cons (.set 2 .int (nod_of rfl)) (.cons (.set 3 .int (nod_of rfl)) (.cons hloop (.one (.ret (.var 2 rfl))))), rfl⟩
      · exact ⟨_, .cons (.set 2 .int (nod_of rfl)) (.cons (.set 3 .int (nod_of rfl)) (.stop hloop)), rfl⟩
    obtain ⟨o1, h1, rfl⟩ := hx
    exact .ret h1 (Keep.mid rfl (under_rk (Nat.le_refl _)))
end
end Dt.K84
set_option maxHeartbeats 4000000
/-! k84: Ranks, walked: next_letter, word_of; many_ahead. -/
namespace Dt.K84
open PySem PySem.Spec L2 Dt
open PyProof.Rows (envOfC)
/-- the next letter: its place, its target, what is left -/
def nx (f : Nat → Nat) : Nat → List (Option Nat) → Nat → Option (Nat × Option Nat × Nat)
  | _, [], _ => none
  | i, o :: os, left => if left < val f o then some (i, o, left) else nx f (i + 1) os (left - val f o)
def nxK (f : Nat → Nat) (b : Nat) : List (Option Nat) → Nat → Nat → Nat
  | [], _, k => k
  | o :: os, left, k => if left < val f o then mfK k b o else nxK f b os (left - val f o) (mfK k b o)
theorem mfK_lt {k b : Nat} (hb : b < 900) (hk : k < 1000) (o : Option Nat) : mfK k b o < 1000 := mfK_fold hb [o] k hk
theorem nxK_lt (f : Nat → Nat) {b : Nat} (hb : b < 900) : ∀ (os : List (Option Nat)) (left k : Nat), k < 1000 → nxK f b os left k < 1000
  | [], _, k, h => h
  | o :: os, left, k, h => by
    unfold nxK
    split
    · exact mfK_lt hb h o
    · exact nxK_lt f hb os _ _ (mfK_lt hb h o)
theorem nx_some (f : Nat → Nat) : ∀ (os : List (Option Nat)) (i left : Nat), left < osum f os → ∃ x t l', nx f i os left = some (x, some t, l') ∧ some t ∈ os ∧ l' < f t ∧ i ≤ x ∧ x < i + os.length ∧ os[x - i]? = some (some t) ∧ left = osum f (os.take (x - i)) + l'
  | [], i, left, h => absurd h (Nat.not_lt_zero _)
  | o :: os, i, left, h => by
    unfold nx
    by_cases hl : left < val f o
    · rw [if_pos hl]
      cases o with
      | none => exact absurd hl (Nat.not_lt_zero _)
      | some t => exact ⟨i, t, left, rfl, List.mem_cons_self, hl, Nat.le_refl _, by rw [List.length_cons]; omega, by rw [Nat.sub_self]; rfl, by rw [Nat.sub_self]; exact (Nat.zero_add _).symm⟩
    · rw [if_neg hl]
      have e1 : osum f (o :: os) = val f o + osum f os := by
        cases o with
        | none => exact (Nat.zero_add _).symm
        | some t => rfl
      rw [e1] at h
      obtain ⟨x, t, l', h1, h2, h3, h4, h5, h6, h7⟩ := nx_some f os (i + 1) (left - val f o) (by omega)
      refine ⟨x, t, l', h1, List.mem_cons_of_mem _ h2, h3, by omega, by rw [List.length_cons]; omega, ?_, ?_⟩
      · rw [show x - i = (x - (i + 1)) + 1 by omega, List.getElem?_cons_succ]
        exact h6
      · rw [show x - i = (x - (i + 1)) + 1 by omega, List.take_succ_cons]
        have e2 : osum f (o :: os.take (x - (i + 1))) = val f o + osum f (os.take (x - (i + 1))) := by
          cases o with
          | none => exact (Nat.zero_add _).symm
          | some t => rfl
        rw [e2]
        omega
/-- the word of n letters from s at a place -/
def wo (m : Mc) : Nat → Nat → Nat → List Nat
  | 0, _, _ => []
  | n + 1, s, left => match nx (cnt m n) 0 (m.row s) left with
    | some (x, some t, l') => x :: wo m n t l'
    | _ => []
theorem wo_succ {m : Mc} {n s left x t l' : Nat} (h : nx (cnt m n) 0 (m.row s) left = some (x, some t, l')) : wo m (n + 1) s left = x :: wo m n t l' := by
  show (match nx (cnt m n) 0 (m.row s) left with | some (x, some t, l') => x :: wo m n t l' | _ => []) = _
  rw [h]
structure WS where
  word : List Nat
  s : Nat
  left : Nat
  k : Nat
def wsG (m : Mc) (len : Nat) (S : WS) : WS := match nx (cnt m (len - S.word.length - 1)) 0 (m.row S.s) S.left with
  | some (x, some t, l') => ⟨S.word ++ [x], t, l', nxK (cnt m (len - S.word.length - 1)) (len - S.word.length - 1) (m.row S.s) S.left S.k⟩
  | _ => S
def wsStop (len : Nat) (S : WS) : Bool := decide (len ≤ S.word.length)
structure WI (m : Mc) (len s0 n0 : Nat) (S : WS) : Prop where
  wl : S.word.length ≤ len
  s : S.s < m.rows.length
  lt : S.left < cnt m (len - S.word.length) S.s
  k : S.k < 1000
  eq : S.word ++ wo m (len - S.word.length) S.s S.left = wo m len s0 n0
  lets : ∀ x ∈ S.word, x < m.L
theorem ws_step {m : Mc} (V : VM m) {len s0 n0 : Nat} (hlen : len < 900) {S : WS} (h : WI m len s0 n0 S) (hs : wsStop len S = false) : WI m len s0 n0 (wsG m len S) ∧ len - (wsG m len S).word.length < len - S.word.length ∧
    ∃ x t l', nx (cnt m (len - S.word.length - 1)) 0 (m.row S.s) S.left = some (x, some t, l') ∧ wsG m len S = ⟨S.word ++ [x], t, l', nxK (cnt m (len - S.word.length - 1)) (len - S.word.length - 1) (m.row S.s) S.left S.k⟩ := by
  have hlt : S.word.length < len := by
    unfold wsStop at hs
    have : ¬ len ≤ S.word.length := fun z => by rw [decide_eq_true z] at hs; cases hs
    omega
  have e1 : len - S.word.length = (len - S.word.length - 1) + 1 := by omega
  have hl := h.lt
  rw [e1] at hl
  obtain ⟨x, t, l', h1, h2, h3, h4, h5, _, _⟩ := nx_some _ _ 0 _ (show S.left < osum (cnt m (len - S.word.length - 1)) (m.row S.s) from hl)
  have eg : wsG m len S = ⟨S.word ++ [x], t, l', nxK (cnt m (len - S.word.length - 1)) (len - S.word.length - 1) (m.row S.s) S.left S.k⟩ := by
    unfold wsG
    rw [h1]
  rw [eg]
  have e2 : len - (S.word ++ [x]).length = len - S.word.length - 1 := by rw [List.length_append, List.length_singleton]; omega
  refine ⟨⟨?_, row_lt V S.s t h2, ?_, nxK_lt _ (by omega) _ _ _ h.k, ?_, fun y hy => ?_⟩, ?_, x, t, l', h1, rfl⟩
  · rw [List.length_append, List.length_singleton]; omega
  · rw [e2]; exact h3
  · have ew := wo_succ (l' := l') h1
    rw [← e1] at ew
    show (S.word ++ [x]) ++ wo m (len - (S.word ++ [x]).length) t l' = _
    rw [e2, ← h.eq, ew, List.append_assoc]
    rfl
  · rcases List.mem_append.mp hy with hy | hy
    · exact h.lets y hy
    · have : y = x := by simpa using hy
      subst this
      rw [V.row_len h.s] at h5
      omega
  · rw [e2]; omega
section
variable {P : Program} {w : World} {K : PySem.W.Frag} {mg : Str → Option Value} {base : Heap} {f : Addr} {fd : FuncData} {cNum cWord cM cR : Addr}
def P_next (cR cM : Addr) : Pr := fun dvs μ o => ∃ (μ0 R : Store) (m : Mc) (k s b left x l' : Nat) (t : Option Nat), VM m ∧ k < 1000 ∧ b < 900 ∧ s < m.rows.length ∧ nx (cnt m b) 0 (m.row s) left = some (x, t, l') ∧ dvs = [.own μ0.length, .i (s : Int), .i (b : Int), .i (left : Int)] ∧ μ = μ0 ++ (rkC cR cM μ0.length m k ++ R) ∧
  o = .ret (.dat (.tup [natD x, optD t, natD l'])) (μ0 ++ (rkC cR cM μ0.length m (nxK (cnt m b) b (m.row s) left k) ++ R))
theorem nx_it {Rr : DV → Slots → Store → Out → Prop} {sto : Nat → Store} {δ : Nat → Slots} {fc : Nat → Nat} {b N : Nat} (hb : b < 900) {os0 : List (Option Nat)}
    (hR : ∀ pre o os left k, pre ++ o :: os = os0 → k < 1000 → ¬ left < val fc o → Rr (.dat (.tup [.int (pre.length : Int), optD o])) (δ left) (sto k) (.nx (δ (left - val fc o)) (sto (mfK k b o))))
    (hN : ∀ pre o os left k, pre ++ o :: os = os0 → k < 1000 → left < val fc o → Rr (.dat (.tup [.int (pre.length : Int), optD o])) (δ left) (sto k) (.rt (.dat (.tup [natD pre.length, optD o, natD left])) (sto (mfK k b o)))) :
    ∀ (os pre : List (Option Nat)) (left k x l' : Nat) (t : Option Nat), pre ++ os = os0 → k < 1000 → nx fc pre.length os left = some (x, t, l') →
      It1 Rr (enD (os.map optD) pre.length) (δ left) (sto k) (.rt (.dat (.tup [natD x, optD t, natD l'])) (sto (nxK fc b os left k)))
  | [], pre, left, k, x, l', t, _, _, h => by cases h
  | o :: os, pre, left, k, x, l', t, e, hk, h => by
    rw [List.map_cons, enD_cons]
    unfold nx at h
    unfold nxK
    by_cases hl : left < val fc o
    · rw [if_pos hl] at h ⊢
      cases h
      exact .ret (hN pre o os left k e hk hl)
    · rw [if_neg hl] at h ⊢
      have := nx_it (N := N) hb hR hN os (pre ++ [o]) (left - val fc o) (mfK k b o) x l' t (by rw [List.append_assoc]; exact e) (mfK_lt hb hk o) (by rw [List.length_append, List.length_singleton]; exact h)
      rw [List.length_append, List.length_singleton] at this
      exact .next (hR pre o os left k e hk hl) this
theorem w_next (M : Md mg) (c : ClsK K cM mcNames) (cr : ClsK K cR rkNames) (d1 : Dm P w K mg base cR "many_from" 2 3 (P_from cR cM)) (F : Fun K "next_letter" "Ranks.next_letter" (inClass (top 31) 5) f fd) : FnOk P w K mg base (L2N.CX P w) 3 f fd ["self", "state", "behind", "number"] (spD K 4 (P_next cR cM)) :=
  fn_D (N := ["self", "state", "behind", "number", "left", "letter", "target", "many"]) (ps := ["self", "state", "behind", "number"]) F ⟨rfl, rfl, rfl, by decide, rfl, by decide, by decide⟩ fun cdv A outer s H E hr tk hp dvs μ o hl hP => by
    obtain ⟨μ0, R, m, k, st, b, left, x, l', t, V, hk, hb, hs, hnx, rfl, rfl, rfl⟩ := hP
    let sto : Nat → Store := fun k => μ0 ++ (rkC cR cM μ0.length m k ++ R)
    let δ : Nat → Slots := fun l => [some (.own μ0.length), some (.i (st : Int)), some (.i (b : Int)), some (.i (left : Int)), some (.i (l : Int)), none, none, none]
    refine .ret (.cons (δ1 := δ left) (μ1 := sto k) (.set 4 (.var 3 rfl) (nod_of rfl)) (.stop (.forE (ds := (m.row st).map optD) rfl (nod_of rfl) hp M.enumerate 5 6 (.ixT (.fld c (.fld cr (.var 0 rfl) (.own (rc 0 rfl)) rfl) .dat rfl) (.var 1 rfl) (row_ix V hs)) (nx_it (N := 0) (sto := sto) (δ := δ) (fc := cnt m b) (b := b) hb (os0 := m.row st) (fun pre oo os l k e hk hl => ⟨_, _, rfl, ?_⟩) (fun pre oo os l k e hk hl => ⟨_, _, rfl, ?_⟩) (m.row st) [] left k x l' t rfl hk hnx)))) (Keep.mid rfl (under_rk (Nat.le_refl _)))
    · have ho : ∀ t, oo = some t → t < m.rows.length := fun t et => row_lt V st t (by rw [← e, et]; exact List.mem_append_right _ List.mem_cons_self)
      refine .wk (δ1 := [some (.own μ0.length), some (.i (st : Int)), some (.i (b : Int)), some (.i (left : Int)), some (.i ((l - val (cnt m b) oo : Nat) : Int)), some (.i (pre.length : Int)), some (.dat (optD oo)), some (.i (val (cnt m b) oo : Nat))]) (.cons (.set 7 (.meth cr d1 hr (.var 0 rfl) (.own (rc 0 rfl)) rfl (.cons (.var 6 rfl) (.cons (.var 2 rfl) .nil)) ⟨μ0, R, m, k, oo, b, V, hk, hb, ho, rfl, rfl, rfl⟩) (nod_of rfl)) (.cons (.ifF (.to (.cmp (.var 4 rfl) (.var 7 rfl) .lt) (decide_eq_false (by omega))) .nil) (.one (.set 4 (.to (.bin (.var 4 rfl) (.var 7 rfl) .sub) ?_) (nod_of rfl)))))
      rw [Int.natCast_sub (by omega)]
    · have ho : ∀ t, oo = some t → t < m.rows.length := fun t et => row_lt V st t (by rw [← e, et]; exact List.mem_append_right _ List.mem_cons_self)
      exact .cons (.set 7 (.meth cr d1 hr (.var 0 rfl) (.own (rc 0 rfl)) rfl (.cons (.var 6 rfl) (.cons (.var 2 rfl) .nil)) ⟨μ0, R, m, k, oo, b, V, hk, hb, ho, rfl, rfl, rfl⟩) (nod_of rfl)) (.stop (.ifT (.to (.cmp (.var 4 rfl) (.var 7 rfl) .lt) (decide_eq_true (by omega))) (.one (.ret (.tup (ds := [natD pre.length, optD oo, natD l]) (.cons (.var 5 rfl) (.cons (.var 6 rfl) (.cons (.var 4 rfl) .nil))))))))
def wsF (m : Mc) (len n k : Nat) : WS := runF (wsG m len) (wsStop len) (len + 1) ⟨[], 0, n, k⟩
theorem ws_end {m : Mc} (V : VM m) {len n k : Nat} (hlen : len < 900) (hn : n < cnt m len 0) (hk : k < 1000) : (wsF m len n k).word = wo m len 0 n ∧ WI m len 0 n (wsF m len n k) := by
  have h := runF_end (I := WI m len 0 n) (meas := fun S => len - S.word.length) (g := wsG m len) (stop := wsStop len) (n := len + 1) (s := ⟨[], 0, n, k⟩) (fun S hS hs => ⟨(ws_step V hlen hS hs).1, (ws_step V hlen hS hs).2.1⟩) (by show len - 0 < len + 1; omega) ⟨Nat.zero_le _, V.n1, hn, hk, rfl, fun x hx => (nomatch hx)⟩
  have h1 : WI m len 0 n (wsF m len n k) := h.1
  have h2 : wsStop len (wsF m len n k) = true := h.2
  refine ⟨?_, h1⟩
  have hl := of_decide_eq_true h2
  have e := h1.eq
  rw [show len - (wsF m len n k).word.length = 0 by omega] at e
  rw [← e]
  exact (List.append_nil _).symm
def P_word_of (cR cM : Addr) : Pr := fun dvs μ o => ∃ (μ0 R : Store) (m : Mc) (k len n : Nat), VM m ∧ k < 1000 ∧ len < 900 ∧ n < cnt m len 0 ∧ dvs = [.own μ0.length, .i (len : Int), .i (n : Int)] ∧ μ = μ0 ++ (rkC cR cM μ0.length m k ++ R) ∧ o = .ret (.dat (wordD (wo m len 0 n))) (μ0 ++ (rkC cR cM μ0.length m (wsF m len n k).k ++ R))
theorem w_word_of (M : Md mg) (cr : ClsK K cR rkNames) (d1 : Dm P w K mg base cR "next_letter" 3 4 (P_next cR cM)) (F : Fun K "word_of" "Ranks.word_of" (inClass (top 31) 6) f fd) : FnOk P w K mg base (L2N.CX P w) 4 f fd ["self", "length", "number"] (spD K 3 (P_word_of cR cM)) :=
  fn_D (N := ["self", "length", "number", "word", "state", "left", "letter"]) (ps := ["self", "length", "number"]) F ⟨rfl, rfl, rfl, by decide, rfl, by decide, by decide⟩ fun cdv A outer s H E hr tk hp dvs μ o hl hP => by
    obtain ⟨μ0, R, m, k, len, n, V, hk, hlen, hn, rfl, rfl, rfl⟩ := hP
    obtain ⟨ew, WE⟩ := ws_end V hlen hn hk
    let nw := (μ0 ++ (rkC cR cM μ0.length m k ++ R)).length
    let sto : WS → Store := fun S => (μ0 ++ (rkC cR cM μ0.length m S.k ++ R)) ++ [.lst (lC S.word)]
    have hnl : ∀ k', (μ0 ++ (rkC cR cM μ0.length m k' ++ R)).length = nw := fun k' => by
      show _ = (μ0 ++ (rkC cR cM μ0.length m k ++ R)).length
      simp only [List.length_append]
      rfl
    let δ : WS → Slots := fun S => [some (.own μ0.length), some (.i (len : Int)), some (.i (n : Int)), some (.own nw), some (.i (S.s : Int)), some (.i (S.left : Int)), none]
    have hw : ∀ S, (sto S)[nw]? = some (.lst (lC S.word)) := fun S => by rw [← hnl S.k]; exact gL0
    have hrk : ∀ S, (sto S)[μ0.length + 0]? = some (.ins cR (rkFs cM μ0.length m)) := fun S => app_at (rc 0 rfl)
    refine .retJ (J := [.lst (lC (wsF m len n k).word)]) ?_ (Keep.mid rfl (under_rk (Nat.le_refl _)))
    refine .cons (.set 3 (.lstO .nil) (nod_of rfl)) (.cons (.set 4 .int (nod_of rfl)) (.cons (δ1 := δ ⟨[], 0, n, k⟩) (μ1 := sto ⟨[], 0, n, k⟩) (.set 5 (.var 2 rfl) (nod_of rfl)) (.cons (δ1 := δ (wsF m len n k)) (μ1 := sto (wsF m len n k)) (.while hp (Wh.run (δ := δ) (μ := sto) (wsG m len) (wsStop len) (WI m len 0 n) (fun S => len - S.word.length) (fun S hS hs => ?_) (fun S hS hs => ?_) (fun S hS hs => ⟨(ws_step V hlen hS hs).1, (ws_step V hlen hS hs).2.1⟩) (len + 1) ⟨[], 0, n, k⟩ (by show len - 0 < len + 1; omega) ⟨Nat.zero_le _, V.n1, hn, hk, rfl, fun x hx => (nomatch hx)⟩)) (.one (.ret (.to (.tyc M.tuple (.cons (.var 3 rfl) .nil) (CallS.tupL (ds := (wsF m len n k).word.map natD) (.ow (by rw [lI_dv]; exact hw _)))) (by rw [ew]; rfl)))))))
    · have h := of_decide_eq_true hs
      exact .to (.cmp (.blt M.len (.cons (.var 3 rfl) .nil) (CallS.lenL (.ow (hw S)))) (.var 1 rfl) .lt) (decide_eq_false (by rw [lC_len]; omega))
    · have h : ¬ len ≤ S.word.length := fun z => by unfold wsStop at hs; rw [decide_eq_true z] at hs; cases hs
      refine ⟨.to (.cmp (.blt M.len (.cons (.var 3 rfl) .nil) (CallS.lenL (.ow (hw S)))) (.var 1 rfl) .lt) (decide_eq_true (by rw [lC_len]; omega)), ?_⟩
      obtain ⟨_, _, x, t, l', e1, e2⟩ := ws_step V hlen hS hs
      rw [e2]
      refine .wk (δ1 := [some (.own μ0.length), some (.i (len : Int)), some (.i (n : Int)), some (.own nw), some (.i (t : Int)), some (.i (l' : Int)), some (.i (x : Int))]) (.cons (μ1 := sto ⟨S.word, t, l', nxK (cnt m (len - S.word.length - 1)) (len - S.word.length - 1) (m.row S.s) S.left S.k⟩) (.unp3 (i1 := 6) (i2 := 4) (i3 := 5) (d1 := natD x) (d2 := optD (some t)) (d3 := natD l') rfl (nod_of rfl) (.tos (.meth cr d1 hr (.var 0 rfl) (.own (hrk S)) rfl (.cons (.var 4 rfl) (.cons (.to (.bin (.bin (.var 1 rfl) (.blt M.len (.cons (.var 3 rfl) .nil) (CallS.lenL (.ow (hw S)))) .sub) .int .sub) ?_) (.cons (.var 5 rfl) .nil))) ⟨μ0, R ++ [.lst (lC S.word)], m, S.k, S.s, len - S.word.length - 1, S.left, x, l', some t, V, hS.k, by omega, hS.s, e1, rfl, ?_, rfl⟩) ?_)) (.one (.expr (.tos (.append (.var 3 rfl) (.var 6 rfl) (hw ⟨S.word, t, l', _⟩) ?_ ⟨_, hw ⟨S.word, t, l', _⟩⟩) ?_))))
      · show DV.i ((len : Int) - ((lC S.word).length : Int) - 1) = .i ((len - S.word.length - 1 : Nat) : Int)
        rw [lC_len]
        congr 2
        omega
      · show (μ0 ++ (_ ++ R)) ++ [_] = _
        rw [List.append_assoc, List.append_assoc]
      · show _ = (μ0 ++ (_ ++ R)) ++ [_]
        rw [List.append_assoc, List.append_assoc]
      · rw [lC_len]
        have := hS.wl
        show S.word.length < 1000000
        omega
      · show ((μ0 ++ (rkC cR cM μ0.length m (nxK (cnt m (len - S.word.length - 1)) (len - S.word.length - 1) (m.row S.s) S.left S.k) ++ R)) ++ [Cell.lst (lC S.word)]).set nw (.lst (lC S.word ++ [.i (x : Int)])) = _
        rw [lC_app, ← hnl (nxK (cnt m (len - S.word.length - 1)) (len - S.word.length - 1) (m.row S.s) S.left S.k)]
        exact sL0
end
end Dt.K84
set_option maxHeartbeats 4000000
/-! k84: many_ahead, word_at: walked. -/
namespace Dt.K84
open PySem PySem.Spec L2 Dt
open PyProof.Rows (envOfC)
def rankF (m : Mc) (ws : List Nat) : Nat := ((List.range ws.length).map fun j => cnt m j 0).sum + lsF m ws (some 0) 0
def fl (m : Mc) : Nat → Nat → Nat → Option (Nat × Nat)
  | 0, _, _ => none
  | n + 1, j, left => if left < cnt m j 0 then some (j, left) else fl m n (j + 1) (left - cnt m j 0)
theorem fl_lt (m : Mc) : ∀ (n j left len l : Nat), fl m n j left = some (len, l) → len < j + n ∧ l < cnt m len 0
  | 0, _, _, _, _, h => nomatch h
  | n + 1, j, left, len, l, h => by
    unfold fl at h
    by_cases hl : left < cnt m j 0
    · rw [if_pos hl] at h
      cases h
      exact ⟨by omega, hl⟩
    · rw [if_neg hl] at h
      have := fl_lt m n _ _ _ _ h
      exact ⟨by omega, this.2⟩
section
variable {P : Program} {w : World} {K : PySem.W.Frag} {mg : Str → Option Value} {base : Heap} {f : Addr} {fd : FuncData} {cNum cWord cM cR : Addr}
def P_ahead (cM cWord : Addr) : Pr := fun dvs μ o => ∃ (m : Mc) (d : D), VM m ∧ okW d = true ∧ dvs = [.dat (mcD cM m), .dat d] ∧
  ((isWordD (m.L : Int) d = false ∧ o = .exc cWord [("value", .dat d)] μ) ∨ (∃ ws, d = wordD ws ∧ (∀ x ∈ ws, x < m.L) ∧ ws.length < 64 ∧ o = .ret (.i (rankF m ws : Nat)) μ))
theorem w_ahead (M : Md mg) (c : ClsK K cM mcNames) (cr : ClsK K cR rkNames) (d1 : Df P w K mg base "check_word" 4 2 (P_check_word cWord)) (d2 : Di P w K mg base "Ranks" cR 1 2 (P_rinit cR cM)) (d3 : Dm P w K mg base cR "shorter" 3 2 (P_short cR cM)) (d4 : Dm P w K mg base cR "lesser" 3 2 (P_less cR cM)) (F : Fun K "many_ahead" "many_ahead" (top 32) f fd) : FnOk P w K mg base (L2N.CX P w) 5 f fd ["machine", "word"] (spD K 2 (P_ahead cM cWord)) :=
  fn_D (N := ["machine", "word", "ranks"]) (ps := ["machine", "word"]) F ⟨rfl, rfl, rfl, by decide, rfl, by decide, by decide⟩ fun cdv A outer s H E hr tk hp dvs μ o hl hP => by
    obtain ⟨m, d, V, hd, rfl, hP⟩ := hP
    rcases hP with ⟨h1, rfl⟩ | ⟨ws, rfl, hw, hwl, rfl⟩
    · exact Bd.exc (.stop (.exprE (.call tk d1 hr (.cons (.var 1 rfl) (.cons (.fld c (.var 0 rfl) .dat rfl) .nil)) ⟨_, _, rfl, hd, by rw [h1]; rfl⟩)))
    · let sto : Nat → Store := fun k => μ ++ (rkC cR cM μ.length m k ++ [])
      have hk1 := shK_lt (k := 0) (by decide) ws.length (by omega)
      refine .retJ (J := rkC cR cM μ.length m (lsK m ws (some 0) (shK 0 ws.length)) ++ []) ?_
      refine .cons (.expr (.call d1 hr (.cons (.var 1 rfl) (.cons (.fld c (.var 0 rfl) .dat rfl) .nil)) ⟨_, _, rfl, hd, by rw [word_is hw]; rfl⟩)) ?_
      refine .cons (δ1 := [some (.dat (mcD cM m)), some (.dat (wordD ws)), some (.own μ.length)]) (μ1 := sto 0) (.tos (.set 2 (.make d2 (hr.mono (by decide)) (.cons (.var 0 rfl) .nil) ⟨μ, m, V, rfl, rfl, rfl⟩) (nod_of rfl)) (by show μ ++ rkC cR cM μ.length m 0 = μ ++ (rkC cR cM μ.length m 0 ++ []); rw [List.append_nil])) ?_
      refine .one (.ret (.to (.bin (.meth cr d3 (hr.mono (by decide)) (.var 2 rfl) (.own (rc 0 rfl)) rfl (.cons (.blt M.len (.cons (.var 1 rfl) .nil) CallS.lenT) .nil) ⟨μ, [], m, 0, ws.length, V, by decide, by omega, by rw [List.length_map], rfl, rfl⟩) (.meth cr d4 (hr.mono (by decide)) (.var 2 rfl) (.own (rc 0 rfl)) rfl (.cons (.var 1 rfl) .nil) ⟨μ, [], m, shK 0 ws.length, ws, V, hk1, by omega, hw, rfl, rfl, rfl⟩) .add) ?_))
      rw [← Int.natCast_add]
      rfl
def P_word_at (cM cNum : Addr) : Pr := fun dvs μ o => ∃ (m : Mc) (d : D) (t : String), VM m ∧ tyOf d = some t ∧ dvs = [.dat (mcD cM m), .dat d] ∧
  ((isNumD d = false ∧ o = .exc cNum [("value", .dat d)] μ) ∨ (∃ n v : Nat, d = natD n ∧ totOf m = some v ∧ v ≤ n ∧ o = .ret .n μ) ∨
   (∃ n fuel len left : Nat, d = natD n ∧ (∀ v, totOf m = some v → n < v) ∧ fuel < 900 ∧ fl m fuel 0 n = some (len, left) ∧ o = .ret (.dat (wordD (wo m len 0 left))) μ))
theorem w_word_at (M : Md mg) (cr : ClsK K cR rkNames) (d1 : Df P w K mg base "check_rank" 3 1 (P_check_num cNum)) (d2 : Df P w K mg base "total" 10 1 (P_total cM)) (d3 : Di P w K mg base "Ranks" cR 1 2 (P_rinit cR cM)) (d4 : Dm P w K mg base cR "many_from" 2 3 (P_from cR cM)) (d5 : Dm P w K mg base cR "word_of" 4 3 (P_word_of cR cM)) (F : Fun K "word_at" "word_at" (top 34) f fd) : FnOk P w K mg base (L2N.CX P w) 11 f fd ["machine", "number"] (spD K 2 (P_word_at cM cNum)) :=
  fn_D (N := ["machine", "number", "many", "ranks", "length", "left"]) (ps := ["machine", "number"]) F ⟨rfl, rfl, rfl, by decide, rfl, by decide, by decide⟩ fun cdv A outer s H E hr tk hp dvs μ o hl hP => by
    obtain ⟨m, d, t, V, ht, rfl, hP⟩ := hP
    rcases hP with ⟨h1, rfl⟩ | ⟨n, v, rfl, hv, hvn, rfl⟩ | ⟨n, fuel, len, left, rfl, hv, hfu, hfl, rfl⟩
    · exact Bd.exc (.stop (.exprE (.call tk d1 (hr.mono (by decide)) (.cons (.var 1 rfl) .nil) ⟨_, _, rfl, ht, by rw [h1]; rfl⟩)))
    · have hn : isNumD (natD n) = true := decide_eq_true (Int.natCast_nonneg n)
      refine .ret (.cons (.expr (.call d1 (hr.mono (by decide)) (.cons (.var 1 rfl) .nil) ⟨_, _, rfl, ht, by rw [hn]; rfl⟩)) (.cons (δ1 := [some (.dat (mcD cM m)), some (.i (n : Int)), some (.i (v : Int)), none, none, none]) (.set 2 (.call d2 hr (.cons (.var 0 rfl) .nil) ⟨m, V, rfl, by rw [hv]; rfl⟩) (nod_of rfl)) (.stop (.ifT (.w (.andT (.cmp (.var 2 rfl) .non .notN) (.and1 (.to (.cmp (.var 2 rfl) (.var 1 rfl) .le) (decide_eq_true (by omega)))))) (.one (.ret .non))))))
    · have hn : isNumD (natD n) = true := decide_eq_true (Int.natCast_nonneg n)
      let sto : Nat → Store := fun k => μ ++ (rkC cR cM μ.length m k ++ [])
      let δ : Nat → Nat → Slots := fun j l => [some (.dat (mcD cM m)), some (.i (n : Int)), some (.dat (optD (totOf m))), some (.own μ.length), some (.i (j : Int)), some (.i (l : Int))]
      have hlen := fl_lt m _ _ _ _ _ hfl
      have hN := V.n1
      let whBody : List Stmt := match (defBody (top 34)).drop 6 with
        | .While _ b _ _ :: _ => b
        | _ => []
      let whCond : Expr := match (defBody (top 34)).drop 6 with
        | .While c _ _ _ :: _ => c
        | _ => .Constant .none 0 ⟨0, 0, 0, 0⟩
      have loop : ∀ (fu j l k : Nat), j + fu < 900 → k < 1000 → fl m fu j l = some (len, left) → ∃ k', k' < 1000 ∧
          Wh (cxOf (L2N.CX P w) P w K mg base ["machine", "number", "many", "ranks", "length", "left"] "word_at" (defScope (top 34)) f cdv A outer s H E) (fun cls d _ H => E cls d H) whCond whBody (δ j l) (sto k) (.nx (δ len left) (sto k')) fu := by
        intro fu
        induction fu with
        | zero => intro j l k _ _ h; cases h
        | succ fu ih =>
          intro j l k hj hk h
          unfold fl at h
          have hk2 : max k j < 1000 := by omega
          have call : ∀ k, k < 1000 → P_from cR cM [.own μ.length, .i ((0 : Nat) : Int), .i (j : Int)] (sto k) (.ret (.i (cnt m j 0 : Nat)) (sto (max k j))) := fun k hk => ⟨μ, [], m, k, some 0, j, V, hk, by omega, fun t e => by cases e; omega, rfl, rfl, rfl⟩
          by_cases hl : l < cnt m j 0
          · rw [if_pos hl] at h
            cases h
            exact ⟨max k len, hk2, .no (.to (.cmp (.meth cr d4 (hr.mono (by decide)) (.var 3 rfl) (.own (rc 0 rfl)) rfl (.cons .int (.cons (.var 4 rfl) .nil)) (call k hk)) (.var 5 rfl) .le) (decide_eq_false (by omega)))⟩
          · rw [if_neg hl] at h
            obtain ⟨k', hk', hw⟩ := ih (j + 1) (l - cnt m j 0) (max (max k j) j) (by omega) (by omega) h
            refine ⟨k', hk', .next (.to (.cmp (.meth cr d4 (hr.mono (by decide)) (.var 3 rfl) (.own (rc 0 rfl)) rfl (.cons .int (.cons (.var 4 rfl) .nil)) (call k hk)) (.var 5 rfl) .le) (decide_eq_true (by omega))) (.cons (.set 5 (.to (.bin (.var 5 rfl) (.meth cr d4 (hr.mono (by decide)) (.var 3 rfl) (.own (rc 0 rfl)) rfl (.cons .int (.cons (.var 4 rfl) .nil)) (call _ hk2)) .sub) ?_) (nod_of rfl)) (.one (.set 4 (.to (.bin (.var 4 rfl) .int .add) ?_) (nod_of rfl)))) hw⟩
            · exact congrArg DV.i (Int.natCast_sub (by omega)).symm
            · rfl
      obtain ⟨k', hk', hw⟩ := loop fuel 0 n 0 (by omega) (by decide) hfl
      refine .retJ (J := rkC cR cM μ.length m (wsF m len left k').k ++ []) ?_
      refine .cons (.expr (.call d1 (hr.mono (by decide)) (.cons (.var 1 rfl) .nil) ⟨_, _, rfl, ht, by rw [hn]; rfl⟩)) ?_
      refine .cons (δ1 := [some (.dat (mcD cM m)), some (.i (n : Int)), some (.dat (optD (totOf m))), none, none, none]) (.set 2 (.call d2 hr (.cons (.var 0 rfl) .nil) ⟨m, V, rfl, rfl⟩) (nod_of rfl)) ?_
      refine .cons (δ1 := [some (.dat (mcD cM m)), some (.i (n : Int)), some (.dat (optD (totOf m))), none, none, none]) (μ1 := μ) ?_ ?_
      · cases hto : totOf m with
        | none => exact .ifF (.w (.andF (.cmp (.var 2 rfl) .non .notN))) .nil
        | some v => exact .ifF (.w (.andT (.cmp (.var 2 rfl) .non .notN) (.and1 (.to (.cmp (.var 2 rfl) (.var 1 rfl) .le) (decide_eq_false (by have := hv v hto; omega)))))) .nil
      refine .cons (μ1 := sto 0) (.tos (.set 3 (.make d3 (hr.mono (by decide)) (.cons (.var 0 rfl) .nil) ⟨μ, m, V, rfl, rfl, rfl⟩) (nod_of rfl)) (by show μ ++ rkC cR cM μ.length m 0 = μ ++ (rkC cR cM μ.length m 0 ++ []); rw [List.append_nil])) ?_
      refine .cons (.set 4 .int (nod_of rfl)) (.cons (δ1 := δ 0 n) (.set 5 (.var 1 rfl) (nod_of rfl)) (.cons (.while hp hw) (.one (.ret (.meth cr d5 (hr.mono (by decide)) (.var 3 rfl) (.own (rc 0 rfl)) rfl (.cons (.var 4 rfl) (.cons (.var 5 rfl) .nil)) ⟨μ, [], m, k', len, left, V, hk', by omega, hlen.2, rfl, rfl, rfl⟩)))))
end
end Dt.K84
set_option maxHeartbeats 4000000
/-! k84: the law's own defs, first part: the source of draws. -/
namespace Dt.K84
open PySem PySem.Spec L2 Dt
structure Sr where
  cs : List Int
  at_ : Nat
  big : Int
  mix : Int
def srC (S : Sr) : Cell := .lst [.dat (.lst (S.cs.map D.int)), .i (S.at_ : Int), .i S.big, .i S.mix]
def absI (c : Int) : Int := if c < 0 then -c else c
def eat (S : Sr) : Sr := if S.big = 0 ∧ S.at_ < S.cs.length then
    { cs := S.cs, at_ := S.at_ + 1, big := if 10 ^ 18 ≤ S.cs.getD S.at_ 0 then S.cs.getD S.at_ 0 % (10 ^ 60 * 10 ^ 60) else S.big,
      mix := (S.mix * 48271 + absI (S.cs.getD S.at_ 0) % 2147483629 * 2 + (if decide (S.cs.getD S.at_ 0 < 0) = true then 1 else 0) + 1) % 2147483647 } else S
def pick (S : Sr) (m : Int) : Int × Sr := if m < 2 then (0, S) else if 0 < (eat S).big then ((eat S).big % m, { eat S with big := (eat S).big / m })
  else ((((eat S).mix * 40692 + 3791) % 2147483399 * 69621 + ((eat S).at_ : Int)) % 2147483563 / 7 % m, { eat S with mix := ((eat S).mix * 40692 + 3791) % 2147483399 })
theorem pick_lt (S : Sr) {m : Int} (h : 0 < m) : 0 ≤ (pick S m).1 ∧ (pick S m).1 < m := by
  unfold pick
  split
  · exact ⟨Int.le_refl _, h⟩
  · split
    · exact ⟨Int.emod_nonneg _ (by omega), Int.emod_lt_of_pos _ h⟩
    · exact ⟨Int.emod_nonneg _ (by omega), Int.emod_lt_of_pos _ h⟩
def inIf (s : Stmt) : List Stmt := match s with
  | .If _ b _ _ => b
  | _ => []
abbrev mixStmt : Stmt := (inIf ((defBody (top 37)).getD 1 (.Pass ⟨0, 0, 0, 0⟩))).getD 2 (.Pass ⟨0, 0, 0, 0⟩)
abbrev bigStmt : Stmt := (inIf ((defBody (top 37)).getD 1 (.Pass ⟨0, 0, 0, 0⟩))).getD 3 (.Pass ⟨0, 0, 0, 0⟩)
section
variable {P : Program} {w : World} {K : PySem.W.Frag} {mg : Str → Option Value} {base : Heap} {f : Addr} {fd : FuncData} {cNum cWord cM : Addr}
def cut63 (ns : List Int) : List Int := cutD ns none (some 63)
def P_deck : Pr := fun dvs μ o => ∃ ns : List Int, dvs = [.dat (.scr (ns.map D.int))] ∧ ns.length ≤ 1000 ∧ o = .ret (.own μ.length) (μ ++ [srC ⟨cut63 ns, 0, 0, 17⟩])
theorem cutD_len {α : Type} (xs : List α) (a b : Option Int) : (cutD xs a b).length ≤ xs.length := by
  unfold cutD
  rw [List.length_take, List.length_drop]
  omega
theorem w_deck (M : Md mg) (F : Fun K "_law_deck" "_law_deck" (top 36) f fd) : FnOk P w K mg base (L2N.CX P w) 1 f fd ["script"] (spD K 1 P_deck) :=
  fn_D (N := ["script", "cell"]) (ps := ["script"]) F ⟨rfl, rfl, rfl, by decide, rfl, by decide, by decide⟩ fun cdv A outer s H E hr tk hp dvs μ o hl hP => by
    obtain ⟨ns, rfl, hn, rfl⟩ := hP
    have e : cutD (ns.map D.int) none (some 63) = (cut63 ns).map D.int := cutD_map D.int ns _ _
    have hl2 : (cut63 ns).length ≤ ns.length := cutD_len ns _ _
    have hs : ∀ {a : Expr} {p1 p2 pos : Pos} {k : Nat} {δ : Slots}, Ev (cxOf (L2N.CX P w) P w K mg base ["script", "cell"] "_law_deck" (defScope (top 36)) f cdv A outer s H E) a δ μ (.dat (.scr (ns.map D.int))) μ →
        Ev (cxOf (L2N.CX P w) P w K mg base ["script", "cell"] "_law_deck" (defScope (top 36)) f cdv A outer s H E) (.Subscript a (.Slice none (some (.Constant (.int 63) k p1)) none p2) pos) δ μ (.dat (.lst ((cut63 ns).map D.int))) μ := fun h => by
      exact .to (.sliceS h .no (.at .int)) (congrArg (fun x => DV.dat (.lst x)) e)
    exact Bd.ret (.one (.ret (.lstO (.cons (.lcLa 1 (cut63 ns) D.int D.int (hs (.var 0 rfl)) (fun i hi s1 H1 cl C fp => .tyc M.int (.cons (.var 1 rfl) .nil) CallS.intI) (by omega)) (.cons .int (.cons .int (.cons .int .nil))))))) (Keep.push _ _ rfl) (by show decide (_ < _) = true; rw [List.length_append]; exact decide_eq_true (Nat.lt_succ_self _))
def P_draw : Pr := fun dvs μ o => ∃ S J m, dvs = [.own 0, .i m] ∧ μ = srC S :: J ∧ m < 1073741824 ∧ o = .ret (.i (pick S m).1) (srC (pick S m).2 :: J)
theorem w_draw (M : Md mg) (F : Fun K "_law_draw" "_law_draw" (top 37) f fd) : FnOk P w K mg base (L2N.CX P w) 1 f fd ["deck", "many"] (spD K 2 P_draw) :=
  fn_D (N := ["deck", "many", "cell", "digit", "mixed"]) (ps := ["deck", "many"]) F ⟨rfl, rfl, rfl, by decide, rfl, by decide, by decide⟩ fun cdv A outer s H E hr tk hp dvs μ o hl hP => by
    obtain ⟨S, J, m, rfl, rfl, h9, rfl⟩ := hP
    by_cases h2 : m < 2
    · have e : pick S m = (0, S) := if_pos h2
      rw [e]
      exact .ret (.stop (.ifT (.to (.cmp (.var 1 rfl) .int .lt) (decide_eq_true h2)) (.one (.ret .int))))
    have h0 : 0 < m := by omega
    have e0 : pick S m = (if 0 < (eat S).big then ((eat S).big % m, { eat S with big := (eat S).big / m })
  else ((((eat S).mix * 40692 + 3791) % 2147483399 * 69621 + ((eat S).at_ : Int)) % 2147483563 / 7 % m, { eat S with mix := ((eat S).mix * 40692 + 3791) % 2147483399 })) := if_neg h2
    have tail : ∀ (S' : Sr) (δ : Slots), δ[0]? = some (some (.own 0)) → δ[1]? = some (some (.i m)) → δ.length = 5 →
        Xb (cxOf (L2N.CX P w) P w K mg base ["deck", "many", "cell", "digit", "mixed"] "_law_draw" (defScope (top 37)) f cdv A outer s H E) (fun cls d _ H => E cls d H) (defBody (top 37)).tail.tail δ (srC S' :: J)
          (.rt (.i (if 0 < S'.big then S'.big % m else (((S'.mix * 40692 + 3791) % 2147483399 * 69621 + (S'.at_ : Int)) % 2147483563 / 7 % m))) (srC (if 0 < S'.big then { S' with big := S'.big / m } else { S' with mix := (S'.mix * 40692 + 3791) % 2147483399 }) :: J)) := by
      intro S' δ h0' h1' hl4
      by_cases hb : 0 < S'.big
      · rw [if_pos hb, if_pos hb]
        refine .stop (.ifT (.to (.cmp (.ixO (.var 0 h0') .int rfl rfl) .int .gt) (decide_eq_true hb)) ?_)
        refine .cons (.set 3 (.bin (.tyc M.int (.cons (.ixO (.var 0 h0') .int rfl rfl) .nil) CallS.intI) (.var 1 h1') (.modP h0)) (nod_of rfl)) ?_
        have g0 : (δ.set 3 (some (.i (S'.big % m))))[0]? = some (some (.own 0)) := by rw [List.getElem?_set_ne (by decide)]; exact h0'
        have g1 : (δ.set 3 (some (.i (S'.big % m))))[1]? = some (some (.i m)) := by rw [List.getElem?_set_ne (by decide)]; exact h1'
        have g3 : (δ.set 3 (some (.i (S'.big % m))))[3]? = some (some (.i (S'.big % m))) := List.getElem?_set_self (by omega)
        exact .cons (.setItem (.bin (.ixO (.var 0 g0) .int rfl rfl) (.var 1 g1) (.fdiv ⟨h0, h9⟩)) (.var 0 g0) .int rfl rfl) (.one (.ret (.var 3 g3)))
      · rw [if_neg hb, if_neg hb]
        refine .cons (.ifF (.to (.cmp (.ixO (.var 0 h0') .int rfl rfl) .int .gt) (decide_eq_false hb)) .nil) ?_
        refine .cons (.setItem (.bin (.tyc M.int (.cons (.bin (.bin (.ixO (.var 0 h0') .int rfl rfl) .int (.mul (.inr ⟨by decide, by decide⟩))) .int .add) .nil) CallS.intI) .int (.modP (by decide))) (.var 0 h0') .int rfl rfl) ?_
        refine .cons (.set 4 (.bin (.tyc M.int (.cons (.bin (.bin (.ixO (.var 0 h0') .int rfl rfl) .int (.mul (.inr ⟨by decide, by decide⟩))) (.ixO (.var 0 h0') .int rfl rfl) .add) .nil) CallS.intI) .int (.modP (by decide))) (nod_of rfl)) ?_
        have g1 : ∀ q, (δ.set 4 q)[1]? = some (some (.i m)) := fun q => by rw [List.getElem?_set_ne (by decide)]; exact h1'
        have g4 : ∀ q, (δ.set 4 q)[4]? = some q := fun q => List.getElem?_set_self (by omega)
        exact .one (.ret (.bin (.tyc M.int (.cons (.bin (.var 4 (g4 _)) .int (.fdiv ⟨by decide, by decide⟩)) .nil) CallS.intI) (.var 1 (g1 _)) (.modP h0)))
    have ep1 : (pick S m).1 = (if 0 < (eat S).big then (eat S).big % m else (((eat S).mix * 40692 + 3791) % 2147483399 * 69621 + ((eat S).at_ : Int)) % 2147483563 / 7 % m) := by rw [e0]; split <;> rfl
    have ep2 : (pick S m).2 = (if 0 < (eat S).big then { eat S with big := (eat S).big / m } else { eat S with mix := ((eat S).mix * 40692 + 3791) % 2147483399 }) := by rw [e0]; split <;> rfl
    rw [ep1, ep2]
    have pre : ∀ {o1 : Out}, Xb (cxOf (L2N.CX P w) P w K mg base ["deck", "many", "cell", "digit", "mixed"] "_law_draw" (defScope (top 37)) f cdv A outer s H E) (fun cls d _ H => E cls d H) (defBody (top 37)).tail [some (.own 0), some (.i m), none, none, none] (srC S :: J) o1 → Xb (cxOf (L2N.CX P w) P w K mg base ["deck", "many", "cell", "digit", "mixed"] "_law_draw" (defScope (top 37)) f cdv A outer s H E) (fun cls d _ H => E cls d H) (defBody (top 37)) [some (.own 0), some (.i m), none, none, none] (srC S :: J) o1 := fun h => .cons (.ifF (.to (.cmp (.var 1 rfl) .int .lt) (decide_eq_false h2)) .nil) h
    by_cases hc : S.big = 0 ∧ S.at_ < S.cs.length
    · obtain ⟨hb, ha⟩ := hc
      have ec : atI (S.cs.map D.int) (S.at_ : Int) = some (.int (S.cs.getD S.at_ 0)) := by
        refine atI_nat ?_
        rw [List.getElem?_map, List.getElem?_eq_getElem ha, List.getD_eq_getElem?_getD, List.getElem?_eq_getElem ha]
        rfl
      have ee : eat S = Sr.mk S.cs (S.at_ + 1) (if 10 ^ 18 ≤ S.cs.getD S.at_ 0 then S.cs.getD S.at_ 0 % (10 ^ 60 * 10 ^ 60) else S.big) ((S.mix * 48271 + absI (S.cs.getD S.at_ 0) % 2147483629 * 2 + (if decide (S.cs.getD S.at_ 0 < 0) = true then 1 else 0) + 1) % 2147483647) := if_pos ⟨hb, ha⟩
      generalize S.cs.getD S.at_ 0 = c at ec ee
      refine Bd.ret (pre (.cons (δ1 := [some (.own 0), some (.i m), some (.i c), none, none]) (μ1 := srC (eat S) :: J) (.ifT (.w (.andT (.to (.cmp (.ixO (.var 0 rfl) .int rfl rfl) .int .eqI) (decide_eq_true hb)) (.and1 (.to (.cmp (.ixO (.var 0 rfl) .int rfl rfl) (.blt M.len (.cons (.ixO (.var 0 rfl) .int rfl rfl) .nil) (CallS.lenL .dt)) .lt) (decide_eq_true (by rw [List.length_map, List.length_map]; exact Int.ofNat_lt.mpr ha)))))) ?_) (tail (eat S) _ rfl rfl rfl))) (Keep.set (μ := srC S :: J) (k := 0) (c := srC _) rfl)
      rw [ee]
      have mixS : ∀ b : Int, Xs (cxOf (L2N.CX P w) P w K mg base ["deck", "many", "cell", "digit", "mixed"] "_law_draw" (defScope (top 37)) f cdv A outer s H E) (fun cls d _ H => E cls d H) mixStmt [some (.own 0), some (.i m), some (.i c), none, none] (srC ⟨S.cs, S.at_ + 1, b, S.mix⟩ :: J) (.nx [some (.own 0), some (.i m), some (.i c), none, none] (srC ⟨S.cs, S.at_ + 1, b, (S.mix * 48271 + absI c % 2147483629 * 2 + (if decide (c < 0) = true then 1 else 0) + 1) % 2147483647⟩ :: J)) := fun b =>
        (.tos (.setItem (.bin (.tyc M.int (.cons (.bin (.bin (.bin (.bin (.ixO (.var 0 rfl) .int rfl rfl) .int (.mul (.inr ⟨by decide, by decide⟩))) (.bin (.bin (.tyc M.int (.cons (.blt M.abs (.cons (.var 2 rfl) .nil) CallS.abs) .nil) CallS.intI) .int (.modP (by decide))) .int (.mul (.inr ⟨by decide, by decide⟩))) .add) (.tyc M.int (.cons (.cmp (.var 2 rfl) .int .lt) .nil) CallS.intB) .add) .int .add) .nil) CallS.intI) .int (.modP (by decide))) (.var 0 rfl) .int rfl rfl) rfl)
      have bigS : Xs (cxOf (L2N.CX P w) P w K mg base ["deck", "many", "cell", "digit", "mixed"] "_law_draw" (defScope (top 37)) f cdv A outer s H E) (fun cls d _ H => E cls d H) bigStmt [some (.own 0), some (.i m), some (.i c), none, none] (srC ⟨S.cs, S.at_ + 1, S.big, (S.mix * 48271 + absI c % 2147483629 * 2 + (if decide (c < 0) = true then 1 else 0) + 1) % 2147483647⟩ :: J) (.nx [some (.own 0), some (.i m), some (.i c), none, none] (srC ⟨S.cs, S.at_ + 1, if 10 ^ 18 ≤ c then c % (10 ^ 60 * 10 ^ 60) else S.big, (S.mix * 48271 + absI c % 2147483629 * 2 + (if decide (c < 0) = true then 1 else 0) + 1) % 2147483647⟩ :: J)) := by
        by_cases h18 : (10 : Int) ^ 18 ≤ c
        · rw [if_pos h18]
          exact .ifT (.to (.cmp (.var 2 rfl) (.bin .int .int (.pow ⟨by decide, by decide, by decide⟩)) .ge) (decide_eq_true h18)) (.one (.tos (.setItem (.bin (.tyc M.int (.cons (.var 2 rfl) .nil) CallS.intI) (.bin (.bin .int .int (.pow ⟨by decide, by decide, by decide⟩)) (.bin .int .int (.pow ⟨by decide, by decide, by decide⟩)) (.mulW (a := 200) (b := 200) (by decide +kernel) (by decide +kernel) (by decide) (by decide) (by decide))) (.modP (by decide +kernel))) (.var 0 rfl) .int rfl rfl) rfl))
        · rw [if_neg h18]
          exact .ifF (.to (.cmp (.var 2 rfl) (.bin .int .int (.pow ⟨by decide, by decide, by decide⟩)) .ge) (decide_eq_false h18)) .nil
      exact .cons (.set 2 (.ixD (.ixO (.var 0 rfl) .int rfl rfl) (.ixO (.var 0 rfl) .int rfl rfl) ec) (nod_of rfl)) (.cons (.setItem (.bin (.ixO (.var 0 rfl) .int rfl rfl) .int .add) (.var 0 rfl) .int rfl rfl) (.cons (mixS S.big) (.one bigS)))
    · have ee : eat S = S := if_neg hc
      rw [ee]
      refine Bd.ret (pre (.cons (δ1 := [some (.own 0), some (.i m), none, none, none]) (μ1 := srC S :: J) ?_ (tail S _ rfl rfl rfl))) (Keep.set (μ := srC S :: J) (k := 0) (c := srC _) rfl)
      by_cases hb : S.big = 0
      · have ha : ¬ S.at_ < S.cs.length := fun h => hc ⟨hb, h⟩
        exact .ifF (.w (.andT (.to (.cmp (.ixO (.var 0 rfl) .int rfl rfl) .int .eqI) (decide_eq_true hb)) (.and1 (.to (.cmp (.ixO (.var 0 rfl) .int rfl rfl) (.blt M.len (.cons (.ixO (.var 0 rfl) .int rfl rfl) .nil) (CallS.lenL .dt)) .lt) (decide_eq_false (by rw [List.length_map, List.length_map]; omega)))))) .nil
      · exact .ifF (.w (.andF (.to (.cmp (.ixO (.var 0 rfl) .int rfl rfl) .int .eqI) (decide_eq_false hb)))) .nil
end
end Dt.K84
set_option maxHeartbeats 4000000
/-! k84: the law's own defs: _law_same. -/
namespace Dt.K84
open PySem PySem.Spec L2 Dt
open PyProof.Rows (envOfC)
def plD : D → Bool
  | .non => true
  | .int _ => true
  | _ => false
/-- plain data of so many levels -/
def lvD : Nat → D → Bool
  | 0, d => plD d
  | n + 1, d => match d with
    | .tup ds => decide (ds.length < 1000) && ds.all (lvD n)
    | d => plD d
def P_same (n : Nat) : Pr := fun dvs μ o => ∃ d, lvD n d = true ∧ dvs = [.dat d, .dat d] ∧ o = .ret (.b true) μ
theorem inD_tf : ∀ l : List Nat, inD (.bl false) (l.map fun _ => D.bl true) = false
  | [] => rfl
  | _ :: l => inD_tf l
section
variable {P : Program} {w : World} {K : PySem.W.Frag} {mg : Str → Option Value} {base : Heap} {f : Addr} {fd : FuncData} {cNum cWord cM : Addr}
structure Ms (mg : Str → Option Value) : Prop where
  str : mg "str" = none
theorem same_pl {d : D} (hd : plD d = true) (M : Md mg) (F : Fun K "_law_same" "_law_same" (top 39) f fd) {k : Nat} {cdv : Value} {A : Around} {outer : List Env} {s : Shared} {H : Hp} {E : XK} {μ : Store} :
    Bd (cxOf (L2N.CX P w) P w K mg base ["told", "due", "k"] "_law_same" (defScope (top 39)) f cdv A outer s H E) (fun cls d _ H => E cls d H) (defBody (top 39)) (startD 3 [.dat d, .dat d]) μ (.ret (.b true) μ) := by
  cases d with
  | non => exact .ret (.stop (.ifT (.cmp (.var 1 rfl) .non .isN) (.one (.ret (.cmp (.var 0 rfl) .non .isN)))))
  | int i =>
    exact .ret (.cons (.ifF (.cmp (.var 1 rfl) .non .isN) .nil) (.cons (.ifF (.val (.blt M.isi (.cons (.var 1 rfl) (.cons (.ty M.bool) .nil)) (CallS.isi (t := "int") rfl rfl))) .nil) (.stop (.ifT (.val (.blt M.isi (.cons (.var 1 rfl) (.cons (.ty M.int) .nil)) (CallS.isi (t := "int") rfl rfl))) (.one (.ret (.andT (.blt M.isi (.cons (.var 0 rfl) (.cons (.ty M.int) .nil)) (CallS.isi (t := "int") rfl rfl)) (.andT (.to (.not (.blt M.isi (.cons (.var 0 rfl) (.cons (.ty M.bool) .nil)) (CallS.isi (t := "int") rfl rfl))) rfl) (.last (.to (.cmp (.var 0 rfl) (.var 1 rfl) .eqI) (congrArg DV.b (decide_eq_true rfl)))))))))))) 
  | _ => cases hd
theorem w_same0 (M : Md mg) (F : Fun K "_law_same" "_law_same" (top 39) f fd) : FnOk P w K mg base (L2N.CX P w) 1 f fd ["told", "due"] (spD K 2 (P_same 0)) :=
  fn_D (N := ["told", "due", "k"]) (ps := ["told", "due"]) F ⟨rfl, rfl, rfl, by decide, rfl, by decide, by decide⟩ fun cdv A outer s H E hr tk hp dvs μ o hl hP => by
    obtain ⟨d, hd, rfl, rfl⟩ := hP
    exact same_pl hd M F (k := 0)
theorem w_sameS {n : Nat} (M : Md mg) (Ms : Ms mg) (d1 : Df P w K mg base "_law_same" (n + 1) 2 (P_same n)) (F : Fun K "_law_same" "_law_same" (top 39) f fd) : FnOk P w K mg base (L2N.CX P w) (n + 2) f fd ["told", "due"] (spD K 2 (P_same (n + 1))) :=
  fn_D (N := ["told", "due", "k"]) (ps := ["told", "due"]) F ⟨rfl, rfl, rfl, by decide, rfl, by decide, by decide⟩ fun cdv A outer s H E hr tk hp dvs μ o hl hP => by
    obtain ⟨d, hd, rfl, rfl⟩ := hP
    by_cases hpl : plD d = true
    · exact same_pl hpl M F (k := 0)
    cases d with
    | tup ds =>
      have hd2 : decide (ds.length < 1000) = true ∧ ds.all (lvD n) = true := Bool.and_eq_true_iff.mp hd
      have hlen := of_decide_eq_true hd2.1
      refine .ret (.cons (.ifF (.cmp (.var 1 rfl) .non .isN) .nil) (.cons (.ifF (.val (.blt M.isi (.cons (.var 1 rfl) (.cons (.ty M.bool) .nil)) (CallS.isi (t := "tuple") rfl rfl))) .nil) (.cons (.ifF (.val (.blt M.isi (.cons (.var 1 rfl) (.cons (.ty M.int) .nil)) (CallS.isi (t := "tuple") rfl rfl))) .nil) (.cons (.ifF (.val (.blt M.isi (.cons (.var 1 rfl) (.cons (.ty Ms.str) .nil)) (CallS.isi (t := "tuple") rfl rfl))) .nil) (.cons (.ifF (.w (.orF (.notF (.val (.blt M.isi (.cons (.var 0 rfl) (.cons (.ty M.tuple) .nil)) (CallS.isi (t := "tuple") rfl rfl)))) (.or1 (.to (.cmp (.blt M.len (.cons (.var 0 rfl) .nil) CallS.lenT) (.blt M.len (.cons (.var 1 rfl) .nil) CallS.lenT) .neI) (by rw [decide_eq_true rfl]; rfl))))) .nil) (.one (.ret (.to (.cmp .bl (.lcRa (m := ds.length) (g := fun _ => D.bl true) 2 M.range (.blt M.len (.cons (.var 1 rfl) .nil) CallS.lenT) (by omega) (fun i hi s1 H1 cl C fp => ?_)) (OpS.inGen (neg := true) op_notIn_seq rfl ?_ (.inl .dt))) ?_))))))))
      · obtain ⟨d, ed⟩ : ∃ d, ds[i]? = some d := ⟨ds[i], List.getElem?_eq_getElem hi⟩
        have hdl : lvD n d = true := List.all_eq_true.mp hd2.2 d (List.mem_of_getElem? ed)
        exact .call d1 hr (.cons (.ixT (.var 0 rfl) (.var 2 rfl) (atI_nat ed)) (.cons (.ixT (.var 1 rfl) (.var 2 rfl) (atI_nat ed)) .nil)) ⟨d, hdl, rfl, rfl⟩
      · exact List.all_eq_true.mpr fun x hx => by obtain ⟨i, _, rfl⟩ := List.mem_map.mp hx; rfl
      · rw [inD_tf]; rfl
    | _ => exact absurd hd hpl
end
end Dt.K84
set_option maxHeartbeats 4000000
/-! k84: the law's own defs: counts, many. -/
namespace Dt.K84
open PySem PySem.Spec L2 Dt
open PyProof.Rows (envOfC)
def oI : Option Nat → Int
  | none => -1
  | some t => (t : Int)
def rwD (r : List (Option Nat)) : D := .lst (r.map fun o => .int (oI o))
def rwsD (m : Mc) : D := .lst (m.rows.map rwD)
def enLD (m : Mc) : D := .lst (m.ends.map natD)
def cntsD (m : Mc) (k : Nat) : D := .lst ((List.range (k + 1)).map (rowC m))
def cnL (m : Mc) (k : Nat) : List DV := ((List.range (k + 1)).map (rowC m)).map DV.dat
theorem cnL_at {m : Mc} {k j : Nat} (h : j ≤ k) : (cnL m k)[j]? = some (.dat (rowC m j)) := by
  unfold cnL
  rw [List.getElem?_map, List.getElem?_map, List.getElem?_range (by omega)]
  rfl
theorem cnL_succ (m : Mc) (k : Nat) : cnL m (k + 1) = cnL m k ++ [.dat (rowC m (k + 1))] := by
  unfold cnL
  rw [List.range_succ, List.map_append, List.map_append]
  rfl
theorem cnL_len (m : Mc) (k : Nat) : (cnL m k).length = k + 1 := by unfold cnL; rw [List.length_map, List.length_map, List.length_range]
section
variable {P : Program} {w : World} {K : PySem.W.Frag} {mg : Str → Option Value} {base : Heap} {f : Addr} {fd : FuncData} {cNum cWord cM : Addr}
theorem some_ge {t : Nat} : decide ((0 : Int) ≤ oI (some t)) = true := decide_eq_true (Int.natCast_nonneg t)
theorem none_ge : decide ((0 : Int) ≤ oI none) = false := rfl
def P_counts : Pr := fun dvs μ o => ∃ (m : Mc) (k : Nat), VM m ∧ k < 100 ∧ dvs = [.dat (rwsD m), .dat (enLD m), .i (k : Int)] ∧ o = .ret (.dat (cntsD m k)) μ
theorem w_counts (M : Md mg) (F : Fun K "_law_counts" "_law_counts" (top 40) f fd) : FnOk P w K mg base (L2N.CX P w) 1 f fd ["rows", "ends", "most"] (spD K 3 P_counts) :=
  fn_D (N := ["rows", "ends", "most", "counts", "n", "row", "to"]) (ps := ["rows", "ends", "most"]) F ⟨rfl, rfl, rfl, by decide, rfl, by decide, by decide⟩ fun cdv A outer s H E hr tk hp dvs μ o hl hP => by
    obtain ⟨m, k, V, hk, rfl, rfl⟩ := hP
    have V63 := V.n63
    let st : Nat → Store := fun i => (μ ++ [.gone]) ++ [.lst (cnL m i)]
    let nw := (μ ++ [Cell.gone]).length
    let δ : Slots := [some (.dat (rwsD m)), some (.dat (enLD m)), some (.i (k : Int)), some (.own nw), none, none, none]
    refine .retJ (J := [.gone, .gone]) ?_
    refine .cons (δ1 := δ) (μ1 := st 0) (.set 3 (.tos (.lstO (dvs := [.dat (enLD m)]) (.cons (.tos (.frz (ds := m.ends.map natD) (.tyc M.list (.cons (.var 1 rfl) .nil) (CallS.listO .dt)) gL0) (μ'' := μ ++ [.gone]) sL0) .nil)) ?_) (nod_of rfl)) ?_
    · show _ ++ [Cell.lst [.dat (.lst (m.ends.map natD))]] = _
      rw [rowC_zero V]
      rfl
    have fe : (List.range k).foldl (fun i _ => i + 1) 0 = k := by
      have : ∀ l : List Nat, l.foldl (fun i _ => i + 1) 0 = l.length := fun l => by
        have : ∀ (l : List Nat) (a : Nat), l.foldl (fun i _ => i + 1) a = a + l.length := fun l => by
          induction l with
          | nil => intro a; rfl
          | cons x l ih => intro a; rw [List.foldl_cons, ih, List.length_cons]; omega
        rw [this l 0, Nat.zero_add]
      rw [this, List.length_range]
    have loop : ∀ R : DV → Slots → Store → Out → Prop, (∀ (s n : Nat), n < k → s = n → s + 1 = n + 1 ∧ R (.i (n : Int)) δ (st s) (.nx δ (st (s + 1)))) → It1 R (upto 0 k) δ (st 0) (.nx δ (st k)) := fun R h => by
      have q := (It1.foldU (S := Nat) (R := R) (n := k) (fun _ => δ) st (fun i _ => i + 1) (fun i s => s = i) h 0 rfl).1
      rw [fe] at q
      exact q
    refine .cons (δ1 := δ) (μ1 := st k) (.forR1 rfl (nod_of rfl) hp M.range 4 (.var 2 rfl) (by omega) (by omega) (loop _ ?_)) (.one (.ret (.tos (.frz (ds := (List.range (k + 1)).map (rowC m)) (.var 3 rfl) gL0) (by rw [sL0, List.append_assoc]; rfl))))
    intro i n hn hi
    subst hi
    have ge : m.rows.map (fun r => natD (osum (cnt m i) r)) = (List.range m.rows.length).map fun s => natD (cnt m (i + 1) s) := rowC_succ m i
    refine ⟨rfl, .wk (δ1 := δ.set 4 (some (.i (i : Int)))) (.one (.expr (.tos (.append (xs := cnL m i) (dv := .dat (rowC m (i + 1))) (μ2 := st i) (.var 3 rfl) (.to (.lcLa 5 m.rows rwD (fun r => natD (osum (cnt m i) r)) (.var 0 rfl) (fun r hr' s1 H1 cl C fp => ?_) (by omega)) (by rw [ge]; rfl)) gL0 (by rw [cnL_len]; omega) ⟨_, gL0⟩) ?_)))⟩
    · refine .to (.blt M.sum (.cons (μ1 := st i) (.lcOf (x := "to") (j := 6) (ds := ((r.filter Option.isSome).map fun o => ((val (cnt m i) o : Nat) : Int)).map D.int) rfl (nod_of rfl) (pi_list semE_pe) (blk_of rfl) (fun _ _ _ _ _ => pg_name (nod_of rfl) rfl (by first | exact .inl rfl | exact .inr rfl)) (by decide) (lcL (ds := r.map fun o => D.int (oI o)) (.var 5 rfl) ?_ ?_)) .nil) (CallS.sum rfl)) (by rw [osum_filt]; rfl)
      · rw [List.map_map, List.map_map, List.map_map]
        refine Lc.filt2 Option.isSome _ _ (fun o ho hp' => ?_) (fun o ho hp' => ?_)
        · cases o with
          | none => cases hp'
          | some t =>
            exact .yes (.one fun s1 H1 cl C fp => .to (.cmp (.var 6 rfl) .int .ge) some_ge) (.of fun s1 H1 cl C fp => .ixD (ds := (List.range m.rows.length).map fun s => natD (cnt m i s)) (.ixO (.var 3 rfl) (.var 4 rfl) gL0 (atI_nat (cnL_at (Nat.le_refl i)))) (.var 6 rfl) (rowC_at (V.tg r hr' t ho)))
        · cases o with
          | none => exact .no (.one fun s1 H1 cl C fp => .to (.cmp (.var 6 rfl) .int .ge) none_ge)
          | some t => cases hp'
      · rw [List.length_map, List.length_map, List.length_map]
        have h1 := List.length_filter_le Option.isSome r
        have h2 := V.len r hr'
        have := V.L48
        omega
    · rw [← cnL_succ]
      exact sL0
end
end Dt.K84
set_option maxHeartbeats 4000000
/-! k84: the law's own defs: rank. -/
namespace Dt
open PySem PySem.Spec L2
theorem Ev.sliceL {X : Cx} {a : Expr} {δ : Slots} {μ μ1 μ2 μ3 : Store} {pos : Pos} {dv : DV} {ds : List D} {lo hi : Option Expr} {m1 m2 : Option Int} {p2 : Pos} (ha : Ev X a δ μ dv μ1) (hl : Eo X lo δ μ1 m1 μ2) (hh : Eo X hi δ μ2 m2 μ3) (hv : LV μ3 dv (ds.map DV.dat)) : Ev X (.Subscript a (.Slice lo hi none p2) pos) δ μ (.dat (.lst (cutD ds m1 m2))) μ3 :=
  .slice sl_list ha hl hh fun W H σ v Q A r k => by
    obtain ⟨al, us, rfl, hs, rl⟩ := hv.sq A.st r
    refine ⟨_, _, rfl, SqL.of hs, fun q hq => newLst A hq ?_ k⟩
    have z := Paired.cutD m1 m2 rl
    rw [cutD_map] at z
    exact DqA.of z
end Dt
namespace Dt.K84
open PySem PySem.Spec L2 Dt
open PyProof.Rows (envOfC)
theorem lsF_add (m : Mc) : ∀ (ws : List Nat) (st : Option Nat) (a f : Nat), lsF m ws st (a + f) = a + lsF m ws st f
  | [], _, _, _ => rfl
  | _ :: _, none, _, _ => rfl
  | x :: w, some s, a, f => by
    show lsF m w _ (a + f + _) = a + lsF m w _ (f + _)
    rw [Nat.add_assoc]
    exact lsF_add m w _ a _
theorem lsF_none (m : Mc) : ∀ (ws : List Nat) (f : Nat), lsF m ws none f = f
  | [], _ => rfl
  | _ :: _, _ => rfl
structure RkS where
  f : Nat
  st : Option Nat
def rkS (m : Mc) (ws : List Nat) (s : RkS) (k : Nat) : RkS := match s.st with
  | none => s
  | some t => ⟨s.f + osum (cnt m (ws.length - k - 1)) ((m.row t).take (ws.getD k 0)), (m.row t).getD (ws.getD k 0) none⟩
structure RkI (m : Mc) (ws : List Nat) (k : Nat) (s : RkS) : Prop where
  lt : ∀ t, s.st = some t → t < m.rows.length
  eq : lsF m (ws.drop k) s.st s.f = rankF m ws
theorem RkI.start {m : Mc} (V : VM m) (ws : List Nat) : RkI m ws 0 ⟨((List.range ws.length).map fun j => cnt m j 0).sum, some 0⟩ := ⟨fun t e => by cases e; exact V.n1, by
  show lsF m ws (some 0) (_ + 0) = _
  rw [lsF_add]
  rfl⟩
theorem RkI.step {m : Mc} (V : VM m) {ws : List Nat} {k : Nat} {s : RkS} (h : RkI m ws k s) (hk : k < ws.length) : RkI m ws (k + 1) (rkS m ws s k) := by
  have e := h.eq
  rw [List.drop_eq_getElem_cons hk] at e
  have eg : ws.getD k 0 = ws[k] := by rw [List.getD_eq_getElem?_getD, List.getElem?_eq_getElem hk]; rfl
  unfold rkS
  cases hs : s.st with
  | none =>
    rw [hs] at e
    refine ⟨fun t et => (by rw [hs] at et; cases et), ?_⟩
    show lsF m (ws.drop (k + 1)) s.st s.f = _
    rw [hs, lsF_none]
    exact e
  | some t =>
    rw [hs] at e
    rw [eg]
    refine ⟨fun u eu => row_lt V t u (getD_mem eu), ?_⟩
    have e2 : lsF m (ws[k] :: ws.drop (k + 1)) (some t) s.f = lsF m (ws.drop (k + 1)) ((m.row t).getD ws[k] none) (s.f + osum (cnt m (ws.drop (k + 1)).length) ((m.row t).take ws[k])) := rfl
    rw [e2, List.length_drop] at e
    rw [show ws.length - k - 1 = ws.length - (k + 1) by omega]
    exact e
theorem RkI.fin {m : Mc} (V : VM m) (ws : List Nat) : RkI m ws ws.length ((List.range ws.length).foldl (rkS m ws) ⟨((List.range ws.length).map fun j => cnt m j 0).sum, some 0⟩) := by
  have key : ∀ k, k ≤ ws.length → RkI m ws k ((List.range k).foldl (rkS m ws) ⟨((List.range ws.length).map fun j => cnt m j 0).sum, some 0⟩) := fun k => by
    induction k with
    | zero => intro _; exact .start V ws
    | succ k ih =>
      intro hk
      rw [List.range_succ, List.foldl_append]
      exact (ih (by omega)).step V (by omega)
  exact key _ (Nat.le_refl _)
theorem RkI.val {m : Mc} {ws : List Nat} {s : RkS} (h : RkI m ws ws.length s) : s.f = rankF m ws := by
  have e := h.eq
  rw [List.drop_length] at e
  exact e
section
variable {P : Program} {w : World} {K : PySem.W.Frag} {mg : Str → Option Value} {base : Heap} {f : Addr} {fd : FuncData} {cNum cWord cM : Addr}
theorem rws_at {m : Mc} (V : VM m) {s : Nat} (hs : s < m.rows.length) : atI (m.rows.map rwD) (s : Int) = some (rwD (m.row s)) := atI_nat (by rw [List.getElem?_map, V.row_at hs]; rfl)
theorem oI_ix {r : List (Option Nat)} {x : Nat} (hx : x < r.length) : atI (r.map fun o => D.int (oI o)) (x : Int) = some (.int (oI (r.getD x none))) := atI_nat (by rw [List.getElem?_map, List.getElem?_eq_getElem hx, List.getD_eq_getElem?_getD, List.getElem?_eq_getElem hx]; rfl)
theorem cnt_ix {m : Mc} {K j : Nat} (h : j ≤ K) : atI ((List.range (K + 1)).map (rowC m)) (j : Int) = some (rowC m j) := atI_nat (by rw [List.getElem?_map, List.getElem?_range (by omega)]; rfl)
theorem wd_ix {ws : List Nat} {k : Nat} (h : k < ws.length) : atI (ws.map natD) (k : Int) = some (natD (ws.getD k 0)) := atI_nat (by rw [List.getElem?_map, List.getElem?_eq_getElem h, List.getD_eq_getElem?_getD, List.getElem?_eq_getElem h]; rfl)
def P_rank : Pr := fun dvs μ o => ∃ (m : Mc) (k : Nat) (ws : List Nat), VM m ∧ k < 100 ∧ ws.length ≤ k ∧ (∀ x ∈ ws, x < m.L) ∧ dvs = [.dat (rwsD m), .dat (cntsD m k), .dat (wordD ws)] ∧ o = .ret (.i (rankF m ws : Nat)) μ
theorem w_rank (M : Md mg) (F : Fun K "_law_rank" "_law_rank" (top 41) f fd) : FnOk P w K mg base (L2N.CX P w) 1 f fd ["rows", "counts", "word"] (spD K 3 P_rank) :=
  fn_D (N := ["rows", "counts", "word", "many", "state", "k", "left", "n", "to"]) (ps := ["rows", "counts", "word"]) F ⟨rfl, rfl, rfl, by decide, rfl, by decide, by decide⟩ fun cdv A outer s H E hr tk hp dvs μ o hl hP => by
    obtain ⟨m, K, ws, V, hK, hw, hws, rfl, rfl⟩ := hP
    have V63 := V.n63
    let δ : RkS → Slots := fun S => [some (.dat (rwsD m)), some (.dat (cntsD m K)), some (.dat (wordD ws)), some (.i (S.f : Int)), some (.i (oI S.st)), none, none, none, none]
    have hwm : (ws.map natD).length = ws.length := List.length_map ..
    let s0 : RkS := ⟨((List.range ws.length).map fun j => cnt m j 0).sum, some 0⟩
    have loop : ∀ R : DV → Slots → Store → Out → Prop, (∀ (S : RkS) (n : Nat), n < ws.length → RkI m ws n S → RkI m ws (n + 1) (rkS m ws S n) ∧ R (.i (n : Int)) (δ S) μ (.nx (δ (rkS m ws S n)) μ)) → It1 R (upto 0 ws.length) (δ s0) μ (.nx (δ ((List.range ws.length).foldl (rkS m ws) s0)) μ) ∧ RkI m ws ws.length ((List.range ws.length).foldl (rkS m ws) s0) := fun R h => It1.foldU (S := RkS) (R := R) (n := ws.length) δ (fun _ => μ) (rkS m ws) (RkI m ws) h s0 (RkI.start V ws)
    refine .ret (.cons (.set 3 (.to (.blt M.sum (.cons (.to (.lcRa (m := ws.length) (g := fun i => natD (cnt m i 0)) 7 M.range (.to (.blt M.len (.cons (.var 2 rfl) .nil) CallS.lenT) (by rw [hwm])) (by omega) (fun i hi s1 H1 cl C fp => .ixD (ds := (List.range m.rows.length).map fun s => natD (cnt m i s)) (.ixD (.var 1 rfl) (.var 7 rfl) (cnt_ix (by omega))) .int (rowC_at V.n1))) (dv' := .dat (.lst (((List.range ws.length).map fun n => ((cnt m n 0 : Nat) : Int)).map D.int))) (by rw [List.map_map]; rfl)) .nil) (CallS.sum rfl)) (by rw [sum_cast])) (nod_of rfl)) (.cons (δ1 := δ s0) (.set 4 .int (nod_of rfl)) ?_))
    refine .cons (δ1 := δ ((List.range ws.length).foldl (rkS m ws) s0)) (.forR1 rfl (nod_of rfl) hp M.range 5 (.to (.blt M.len (.cons (.var 2 rfl) .nil) CallS.lenT) (by rw [hwm])) (by omega) (by omega) (loop _ ?_).1) (.one (.ret (.to (.var 3 rfl) ?_)))
    · intro S n hn h
      refine ⟨h.step V hn, ?_⟩
      have hx : ws.getD n 0 < m.L := by
        rw [List.getD_eq_getElem?_getD, List.getElem?_eq_getElem hn]
        exact hws _ (List.getElem_mem hn)
      unfold rkS
      cases hs : S.st with
      | none =>
        have ed : δ S = [some (.dat (rwsD m)), some (.dat (cntsD m K)), some (.dat (wordD ws)), some (.i (S.f : Int)), some (.i (-1)), none, none, none, none] := by
          show [_, _, _, _, some (DV.i (oI S.st)), _, _, _, _] = _
          rw [hs]
          rfl
        show Body _ _ _ _ _ _ _ (.nx (δ S) μ)
        rw [ed]
        exact .wk (.one (.ifF (.to (.cmp (.var 4 rfl) .int .ge) rfl) .nil))
      | some t =>
        have ht := h.lt t hs
        have ed : δ S = [some (.dat (rwsD m)), some (.dat (cntsD m K)), some (.dat (wordD ws)), some (.i (S.f : Int)), some (.i (t : Int)), none, none, none, none] := by
          show [_, _, _, _, some (DV.i (oI S.st)), _, _, _, _] = _
          rw [hs]
          rfl
        rw [ed]
        refine .wk (δ1 := [some (.dat (rwsD m)), some (.dat (cntsD m K)), some (.dat (wordD ws)), some (.i ((S.f + osum (cnt m (ws.length - n - 1)) ((m.row t).take (ws.getD n 0)) : Nat) : Int)), some (.i (oI ((m.row t).getD (ws.getD n 0) none))), some (.i (n : Int)), some (.i ((ws.length - n - 1 : Nat) : Int)), none, none]) (.one (.ifT (.to (.cmp (.var 4 rfl) .int .ge) (decide_eq_true (Int.natCast_nonneg t))) (.cons (.set 6 (.to (.bin (.bin (.blt M.len (.cons (.var 2 rfl) .nil) CallS.lenT) (.var 5 rfl) .sub) .int .sub) ?_) (nod_of rfl)) (.cons (.set 3 (.to (.bin (.var 3 rfl) (.blt M.sum (.cons (μ1 := μ) (.lcOf (x := "to") (j := 8) (ds := ((((m.row t).take (ws.getD n 0)).filter Option.isSome).map fun o => ((val (cnt m (ws.length - n - 1)) o : Nat) : Int)).map D.int) rfl (nod_of rfl) (pi_list semE_pe) (blk_of rfl) (fun _ _ _ _ _ => pg_name (nod_of rfl) rfl (by first | exact .inl rfl | exact .inr rfl)) (by decide) (lcL (ds := ((m.row t).take (ws.getD n 0)).map fun o => D.int (oI o)) (.to (.sliceL (.ixD (.var 0 rfl) (.var 4 rfl) (rws_at V ht)) .no (.at (.ixT (.var 2 rfl) (.var 5 rfl) (wd_ix hn))) .dt) ?_) ?_ ?_)) .nil) (CallS.sum rfl)) .add) ?_) (nod_of rfl)) (.one (.set 4 (.ixD (.ixD (.var 0 rfl) (.var 4 rfl) (rws_at V ht)) (.ixT (.var 2 rfl) (.var 5 rfl) (wd_ix hn)) (oI_ix (by rw [V.row_len ht]; exact hx))) (nod_of rfl)))))))
        · rw [hwm]
          exact congrArg DV.i (by omega)
        · rw [cut_take, ← List.map_take]
        · rw [List.map_map, List.map_map, List.map_map]
          refine Lc.filt2 Option.isSome _ _ (fun o ho hp' => ?_) (fun o ho hp' => ?_)
          · cases o with
            | none => cases hp'
            | some u =>
              exact .yes (.one fun s1 H1 cl C fp => .to (.cmp (.var 8 rfl) .int .ge) some_ge) (.of fun s1 H1 cl C fp => .ixD (ds := (List.range m.rows.length).map fun s => natD (cnt m (ws.length - n - 1) s)) (.ixD (.var 1 rfl) (.var 6 rfl) (cnt_ix (by omega))) (.var 8 rfl) (rowC_at (row_lt V t u (List.mem_of_mem_take ho))))
          · cases o with
            | none => exact .no (.one fun s1 H1 cl C fp => .to (.cmp (.var 8 rfl) .int .ge) none_ge)
            | some t => cases hp'
        · rw [List.length_map, List.length_map, List.length_map]
          have h1 := List.length_filter_le Option.isSome ((m.row t).take (ws.getD n 0))
          have h2 := V.row_len ht
          have h3 := List.length_take_le (ws.getD n 0) (m.row t)
          have := V.L48
          omega
        · rw [osum_filt, ← Int.natCast_add]
    · rw [(RkI.fin V ws).val]
end
end Dt.K84
set_option maxHeartbeats 4000000
/-! k84: the law's own defs: unranked. -/
namespace Dt.K84
open PySem PySem.Spec L2 Dt
open PyProof.Rows (envOfC)
/-- one letter looked at -/
def yS (f : Nat → Nat) (row : List (Option Nat)) (s : Int × Nat) (y : Nat) : Int × Nat := if s.1 < 0 then
    match row.getD y none with
    | none => s
    | some t => if s.2 < f t then ((y : Int), s.2) else (s.1, s.2 - f t)
  else s
theorem yS_keep (f : Nat → Nat) (row : List (Option Nat)) : ∀ (l : List Nat) (s : Int × Nat), 0 ≤ s.1 → l.foldl (yS f row) s = s
  | [], _, _ => rfl
  | y :: l, s, h => by
    have e : yS f row s y = s := if_neg (by omega)
    rw [List.foldl_cons, e]
    exact yS_keep f row l s h
theorem yS_nx (f : Nat → Nat) (row : List (Option Nat)) {x t l' : Nat} : ∀ (os pre : List (Option Nat)) (left : Nat), pre ++ os = row → nx f pre.length os left = some (x, some t, l') → (List.range' pre.length os.length).foldl (yS f row) (-1, left) = ((x : Int), l')
  | [], _, _, _, h => nomatch h
  | o :: os, pre, left, e, h => by
    have eo : row.getD pre.length none = o := by rw [← e, List.getD_eq_getElem?_getD, List.getElem?_append_right (Nat.le_refl _), Nat.sub_self]; rfl
    have ih := yS_nx f row (x := x) (t := t) (l' := l') os (pre ++ [o])
    rw [List.length_append, List.length_singleton] at ih
    rw [List.length_cons, List.range'_succ, List.foldl_cons]
    unfold nx at h
    by_cases hl : left < val f o
    · rw [if_pos hl] at h
      cases h
      have e1 : yS f row (-1, l') pre.length = ((pre.length : Int), l') := by
        unfold yS
        rw [if_pos (by show (-1 : Int) < 0; decide), eo]
        exact if_pos hl
      rw [e1]
      exact yS_keep f row _ _ (Int.natCast_nonneg _)
    · rw [if_neg hl] at h
      have e1 : yS f row (-1, left) pre.length = (-1, left - val f o) := by
        unfold yS
        rw [if_pos (by show (-1 : Int) < 0; decide), eo]
        cases o with
        | none => rfl
        | some u => exact if_neg hl
      rw [e1]
      exact ih (left - val f o) (by rw [List.append_assoc]; exact e) h
theorem yS_all (f : Nat → Nat) {row : List (Option Nat)} {left x t l' : Nat} (h : nx f 0 row left = some (x, some t, l')) : (List.range row.length).foldl (yS f row) (-1, left) = ((x : Int), l') := by
  rw [List.range_eq_range']
  exact yS_nx f row row [] left rfl h
theorem ws_pre {m : Mc} (V : VM m) {len n0 : Nat} (hlen : len < 900) (hn : n0 < cnt m len 0) : ∀ k, k ≤ len → ((List.range k).foldl (fun S _ => wsG m len S) ⟨[], 0, n0, 0⟩).word.length = k ∧ WI m len 0 n0 ((List.range k).foldl (fun S _ => wsG m len S) ⟨[], 0, n0, 0⟩)
  | 0, _ => ⟨rfl, Nat.zero_le _, V.n1, hn, (show 0 < 1000 by decide), rfl, fun x hx => (nomatch hx)⟩
  | k + 1, hk => by
    obtain ⟨h1, h2⟩ := ws_pre V hlen hn k (by omega)
    rw [List.range_succ, List.foldl_append, List.foldl_cons, List.foldl_nil]
    obtain ⟨g1, _, x, t, l', _, e⟩ := ws_step V hlen h2 (decide_eq_false (by omega))
    refine ⟨?_, g1⟩
    rw [e]
    show (_ ++ [x]).length = k + 1
    rw [List.length_append, List.length_singleton, h1]
theorem ws_fin {m : Mc} {len n0 : Nat} {S : WS} (h1 : S.word.length = len) (h2 : WI m len 0 n0 S) : S.word = wo m len 0 n0 := by
  have e := h2.eq
  rw [h1, Nat.sub_self] at e
  rw [← e]
  exact (List.append_nil _).symm
/-- the word of a rank -/
def unrF (m : Mc) (K n : Nat) : D := match fl m (K + 1) 0 n with
  | some (len, left) => wordD (wo m len 0 left)
  | none => .non
def forB : List Stmt → List Stmt
  | .For _ _ b _ _ :: _ => b
  | _ => []
section
variable {P : Program} {w : World} {K : PySem.W.Frag} {mg : Str → Option Value} {base : Heap} {f : Addr} {fd : FuncData} {cNum cWord cM : Addr}
def P_unr : Pr := fun dvs μ o => ∃ (m : Mc) (k n : Nat), VM m ∧ k < 100 ∧ dvs = [.dat (rwsD m), .dat (cntsD m k), .i (n : Int)] ∧ o = .ret (.dat (unrF m k n)) μ
theorem w_unr (M : Md mg) (F : Fun K "_law_unranked" "_law_unranked" (top 42) f fd) : FnOk P w K mg base (L2N.CX P w) 1 f fd ["rows", "counts", "number"] (spD K 3 P_unr) :=
  fn_D (N := ["rows", "counts", "number", "n", "word", "state", "k", "x", "y", "to"]) (ps := ["rows", "counts", "number"]) F ⟨rfl, rfl, rfl, by decide, rfl, by decide, by decide⟩ fun cdv A outer s H E hr tk hp dvs μ o hl hP => by
    obtain ⟨m, kk, n, V, hK, rfl, rfl⟩ := hP
    have V63 := V.n63
    have V48 := V.L48
    have hN : 0 < m.rows.length := V.n1
    have r0 : ∀ j, atI ((List.range m.rows.length).map fun s => natD (cnt m j s)) ((0 : Nat) : Int) = some (natD (cnt m j 0)) := fun j => rowC_at hN
    have hcm : ((List.range (kk + 1)).map (rowC m)).length = kk + 1 := by rw [List.length_map, List.length_range]
    let δ0 : Nat → Slots := fun l => [some (.dat (rwsD m)), some (.dat (cntsD m kk)), some (.i (l : Int)), none, none, none, none, none, none, none]
    let δ1 : Nat → WS → Slots := fun len S => [some (.dat (rwsD m)), some (.dat (cntsD m kk)), some (.i (S.left : Int)), some (.i (len : Int)), some (.dat (wordD S.word)), some (.i (S.s : Int)), none, none, none, none]
    let δ2 : Nat → WS → Nat → Int × Nat → Slots := fun len S k q => [some (.dat (rwsD m)), some (.dat (cntsD m kk)), some (.i (q.2 : Int)), some (.i (len : Int)), some (.dat (wordD S.word)), some (.i (S.s : Int)), some (.i (k : Int)), some (.i q.1), none, none]
    have outerL : ∀ R : DV → Slots → Store → Out → Prop,
        (∀ j l : Nat, j ≤ kk → ¬ l < cnt m j 0 → R (.i (j : Int)) (δ0 l) μ (.nx (δ0 (l - cnt m j 0)) μ)) →
        (∀ j l : Nat, j ≤ kk → l < cnt m j 0 → R (.i (j : Int)) (δ0 l) μ (.rt (.dat (wordD (wo m j 0 l))) μ)) →
        ∀ fu j l, j + fu = kk + 1 → ∃ o, It1 R ((List.range' j fu).map fun (j : Nat) => DV.i (j : Int)) (δ0 l) μ o ∧ ((∃ len left, fl m fu j l = some (len, left) ∧ o = .rt (.dat (wordD (wo m len 0 left))) μ) ∨ (fl m fu j l = none ∧ ∃ l', o = .nx (δ0 l') μ)) := by
      intro R h1 h2 fu
      induction fu with
      | zero => intro j l _; exact ⟨_, .nil, .inr ⟨rfl, l, rfl⟩⟩
      | succ fu ih =>
        intro j l hj
        rw [List.range'_succ, List.map_cons]
        unfold fl
        by_cases hl : l < cnt m j 0
        · rw [if_pos hl]
          exact ⟨_, .ret (h2 j l (by omega) hl), .inl ⟨j, l, rfl, rfl⟩⟩
        · rw [if_neg hl]
          obtain ⟨o, a, b⟩ := ih (j + 1) (l - cnt m j 0) (by omega)
          exact ⟨o, .next (h1 j l (by omega) hl) a, b⟩
    have fin : ∃ o, Xb (cxOf (L2N.CX P w) P w K mg base ["rows", "counts", "number", "n", "word", "state", "k", "x", "y", "to"] "_law_unranked" (defScope (top 42)) f cdv A outer s H E) (fun cls d _ H => E cls d H) (defBody (top 42)) (startD 10 [.dat (rwsD m), .dat (cntsD m kk), .i (n : Int)]) μ o ∧ o = .rt (.dat (unrF m kk n)) μ := by
      have loop : ∃ ol, Xs (cxOf (L2N.CX P w) P w K mg base ["rows", "counts", "number", "n", "word", "state", "k", "x", "y", "to"] "_law_unranked" (defScope (top 42)) f cdv A outer s H E) (fun cls d _ H => E cls d H) ((defBody (top 42)).getD 0 (.Pass ⟨0, 0, 0, 0⟩)) (δ0 n) μ ol ∧ ((∃ len left, fl m (kk + 1) 0 n = some (len, left) ∧ ol = .rt (.dat (wordD (wo m len 0 left))) μ) ∨ (fl m (kk + 1) 0 n = none ∧ ∃ l', ol = .nx (δ0 l') μ)) := by
        refine Exists.elim (outerL (Body (cxOf (L2N.CX P w) P w K mg base ["rows", "counts", "number", "n", "word", "state", "k", "x", "y", "to"] "_law_unranked" (defScope (top 42)) f cdv A outer s H E) (fun cls d _ H => E cls d H) 3 (forB (defBody (top 42)))) (fun j l hj hl => ?_) (fun j l hj hl => ?_) (kk + 1) 0 n (by omega)) fun ol ⟨h1, h2⟩ => ⟨ol, .forR1 rfl (nod_of rfl) hp M.range 3 (n := ((kk + 1 : Nat) : Int)) (.to (.blt M.len (.cons (.var 1 rfl) .nil) (CallS.lenL .dt)) (by rw [List.length_map, hcm])) (by omega) (by omega) (by rw [Int.toNat_natCast, upto_map, List.range_eq_range']; exact h1), h2⟩
        · refine .wk (δ1 := [some (.dat (rwsD m)), some (.dat (cntsD m kk)), some (.i ((l - cnt m j 0 : Nat) : Int)), some (.i (j : Int)), none, none, none, none, none, none]) (.cons (.ifF (.to (.cmp (.var 2 rfl) (.ixD (ds := (List.range m.rows.length).map fun s => natD (cnt m j s)) (.ixD (.var 1 rfl) (.var 3 rfl) (cnt_ix hj)) .int (r0 j)) .lt) (decide_eq_false (by omega))) .nil) (.one (.set 2 (.to (.bin (.var 2 rfl) (.ixD (ds := (List.range m.rows.length).map fun s => natD (cnt m j s)) (.ixD (.var 1 rfl) (.var 3 rfl) (cnt_ix hj)) .int (r0 j)) .sub) ?_) (nod_of rfl))))
          exact congrArg DV.i (Int.natCast_sub (by omega)).symm
        · refine .stop (.ifT (.to (.cmp (.var 2 rfl) (.ixD (ds := (List.range m.rows.length).map fun s => natD (cnt m j s)) (.ixD (.var 1 rfl) (.var 3 rfl) (cnt_ix hj)) .int (r0 j)) .lt) (decide_eq_true (by omega))) ?_)
          obtain ⟨hw1, hw2⟩ := (ws_pre V (show j < 900 by omega) hl) j (Nat.le_refl j)
          have ew : ((List.range j).foldl (fun S _ => wsG m j S) ⟨[], 0, l, 0⟩).word = wo m j 0 l := ws_fin hw1 hw2
          refine .cons (.set 4 (.tup .nil) (nod_of rfl)) (.cons (δ1 := δ1 j ⟨[], 0, l, 0⟩) (.set 5 .int (nod_of rfl)) (.cons (δ1 := δ1 j ((List.range j).foldl (fun S _ => wsG m j S) ⟨[], 0, l, 0⟩)) (.forR1 rfl (nod_of rfl) hp M.range 6 (.var 3 rfl) (by omega) (by omega) (It1.foldU (S := WS) (n := j) (δ1 j) (fun _ => μ) (fun S _ => wsG m j S) (fun k S => S.word.length = k ∧ WI m j 0 l S) (fun S k hk hI => ?_) ⟨[], 0, l, 0⟩ ⟨rfl, Nat.zero_le _, hN, hl, (show 0 < 1000 by decide), rfl, fun x hx => (nomatch hx)⟩).1) (.one (.ret (.to (.var 4 rfl) (by rw [ew]))))))
          obtain ⟨hk1, hI⟩ := hI
          have hst : wsStop j S = false := decide_eq_false (by omega)
          obtain ⟨g1, _, x, t, l', e1, e2⟩ := ws_step V (show j < 900 by omega) hI hst
          have hlt : S.left < osum (cnt m (j - S.word.length - 1)) (m.row S.s) := by
            have h := hI.lt
            rw [show j - S.word.length = (j - S.word.length - 1) + 1 by omega] at h
            exact h
          obtain ⟨x', t', l'', e3, h2, h3, _, h5, h6, _⟩ := nx_some _ (m.row S.s) 0 S.left hlt
          rw [e1] at e3
          cases e3
          have hxl : x < (m.row S.s).length := by omega
          have hxt : (m.row S.s).getD x none = some t := by rw [List.getD_eq_getElem?_getD, show x = x - 0 by omega, h6]; rfl
          refine ⟨⟨by rw [e2, List.length_append, List.length_singleton, hk1], g1⟩, ?_⟩
          show Body _ _ _ _ _ _ _ (.nx (δ1 j (wsG m j S)) μ)
          rw [e2]
          have yloop : ∀ R : DV → Slots → Store → Out → Prop, (∀ (q : Int × Nat) (y : Nat), y < (m.row S.s).length → R (.i (y : Int)) (δ2 j S k q) μ (.nx (δ2 j S k (yS (cnt m (j - S.word.length - 1)) (m.row S.s) q y)) μ)) → It1 R (upto 0 (m.row S.s).length) (δ2 j S k (-1, S.left)) μ (.nx (δ2 j S k ((x : Int), l')) μ) := fun R h => by
            have q := (It1.foldU (S := Int × Nat) (R := R) (n := (m.row S.s).length) (δ2 j S k) (fun _ => μ) (yS (cnt m (j - S.word.length - 1)) (m.row S.s)) (fun _ _ => True) (fun s n hn _ => ⟨trivial, h s n hn⟩) (-1, S.left) trivial).1
            rw [yS_all _ e1] at q
            exact q
          have hrl : ((m.row S.s).map fun o => D.int (oI o)).length = (m.row S.s).length := List.length_map ..
          have hr48 := V.row_len hI.s
          refine .wk (δ1 := [some (.dat (rwsD m)), some (.dat (cntsD m kk)), some (.i (l' : Int)), some (.i (j : Int)), some (.dat (wordD (S.word ++ [x]))), some (.i (t : Int)), some (.i (k : Int)), some (.i (x : Int)), none, none]) (.cons (δ1 := δ2 j S k (-1, S.left)) (.set 7 (.neg .int) (nod_of rfl)) (.cons (δ1 := δ2 j S k ((x : Int), l')) (.forR1 rfl (nod_of rfl) hp M.range 8 (n := ((m.row S.s).length : Int)) (.to (.blt M.len (.cons (.ixD (.var 0 rfl) (.var 5 rfl) (rws_at V hI.s)) .nil) (CallS.lenL .dt)) (by rw [List.length_map, hrl])) (by omega) (by omega) (yloop _ fun q y hy => ?_)) (.cons (.set 4 (.to (.bin (.var 4 rfl) (.tup (ds := [natD x]) (.cons (.var 7 rfl) .nil)) (.catT ?_)) ?_) (nod_of rfl)) (.one (.set 5 (.to (.ixD (.ixD (.var 0 rfl) (.var 5 rfl) (rws_at V hI.s)) (.var 7 rfl) (oI_ix hxl)) (by rw [hxt]; rfl)) (nod_of rfl))))))
          · unfold yS
            by_cases hq : q.1 < 0
            · rw [if_pos hq]
              cases ho : (m.row S.s).getD y none with
              | none =>
                exact .wk (δ1 := (δ2 j S k q).set 8 (some (.i (y : Int))) |>.set 9 (some (.i (-1)))) (.cons (.set 9 (.to (.ixD (.ixD (.var 0 rfl) (.var 5 rfl) (rws_at V hI.s)) (.var 8 rfl) (oI_ix hy)) (by rw [ho]; rfl)) (nod_of rfl)) (.one (.ifF (.w (.andT (.to (.cmp (.var 7 rfl) .int .lt) (decide_eq_true hq)) (.and1 (.to (.cmp (.var 9 rfl) .int .ge) rfl)))) .nil)))
              | some u =>
                have hu : u < m.rows.length := row_lt V S.s u (getD_mem ho)
                have hidx : DV.i ((j : Int) - (k : Int) - 1) = .i ((j - S.word.length - 1 : Nat) : Int) := congrArg DV.i (by omega)
                by_cases hl2 : q.2 < cnt m (j - S.word.length - 1) u
                · show Body _ _ _ _ _ _ _ (.nx (δ2 j S k (if q.2 < cnt m (j - S.word.length - 1) u then ((y : Int), q.2) else (q.1, q.2 - cnt m (j - S.word.length - 1) u))) μ)
                  rw [if_pos hl2]
                  exact .wk (δ1 := (δ2 j S k ((y : Int), q.2)).set 8 (some (.i (y : Int))) |>.set 9 (some (.i (u : Int)))) (.cons (.set 9 (.to (.ixD (.ixD (.var 0 rfl) (.var 5 rfl) (rws_at V hI.s)) (.var 8 rfl) (oI_ix hy)) (by rw [ho]; rfl)) (nod_of rfl)) (.one (.ifT (.w (.andT (.to (.cmp (.var 7 rfl) .int .lt) (decide_eq_true hq)) (.and1 (.to (.cmp (.var 9 rfl) .int .ge) (decide_eq_true (Int.natCast_nonneg u)))))) (.one (.ifT (.to (.cmp (.var 2 rfl) (.ixD (ds := (List.range m.rows.length).map fun s => natD (cnt m (j - S.word.length - 1) s)) (.ixD (.var 1 rfl) (.to (.bin (.bin (.var 3 rfl) (.var 6 rfl) .sub) .int .sub) hidx) (cnt_ix (by omega))) (.var 9 rfl) (rowC_at hu)) .lt) (decide_eq_true (by omega))) (.one (.set 7 (.var 8 rfl) (nod_of rfl))))))))
                · show Body _ _ _ _ _ _ _ (.nx (δ2 j S k (if q.2 < cnt m (j - S.word.length - 1) u then ((y : Int), q.2) else (q.1, q.2 - cnt m (j - S.word.length - 1) u))) μ)
                  rw [if_neg hl2]
                  exact .wk (δ1 := (δ2 j S k (q.1, q.2 - cnt m (j - S.word.length - 1) u)).set 8 (some (.i (y : Int))) |>.set 9 (some (.i (u : Int)))) (.cons (.set 9 (.to (.ixD (.ixD (.var 0 rfl) (.var 5 rfl) (rws_at V hI.s)) (.var 8 rfl) (oI_ix hy)) (by rw [ho]; rfl)) (nod_of rfl)) (.one (.ifT (.w (.andT (.to (.cmp (.var 7 rfl) .int .lt) (decide_eq_true hq)) (.and1 (.to (.cmp (.var 9 rfl) .int .ge) (decide_eq_true (Int.natCast_nonneg u)))))) (.one (.ifF (.to (.cmp (.var 2 rfl) (.ixD (ds := (List.range m.rows.length).map fun s => natD (cnt m (j - S.word.length - 1) s)) (.ixD (.var 1 rfl) (.to (.bin (.bin (.var 3 rfl) (.var 6 rfl) .sub) .int .sub) hidx) (cnt_ix (by omega))) (.var 9 rfl) (rowC_at hu)) .lt) (decide_eq_false (by omega))) (.one (.set 2 (.to (.bin (.var 2 rfl) (.ixD (ds := (List.range m.rows.length).map fun s => natD (cnt m (j - S.word.length - 1) s)) (.ixD (.var 1 rfl) (.to (.bin (.bin (.var 3 rfl) (.var 6 rfl) .sub) .int .sub) hidx) (cnt_ix (by omega))) (.var 9 rfl) (rowC_at hu)) .sub) (congrArg DV.i (Int.natCast_sub (by omega)).symm)) (nod_of rfl))))))))
            · rw [if_neg hq]
              exact .wk (δ1 := (δ2 j S k q).set 8 (some (.i (y : Int))) |>.set 9 (some (.i (oI ((m.row S.s).getD y none))))) (.cons (.set 9 (.ixD (.ixD (.var 0 rfl) (.var 5 rfl) (rws_at V hI.s)) (.var 8 rfl) (oI_ix hy)) (nod_of rfl)) (.one (.ifF (.w (.andF (.to (.cmp (.var 7 rfl) .int .lt) (decide_eq_false hq)))) .nil)))
          · rw [List.length_map, List.length_singleton]
            omega
          · show DV.dat (.tup (S.word.map natD ++ [natD x])) = .dat (.tup ((S.word ++ [x]).map natD))
            rw [List.map_append]
            rfl
      obtain ⟨ol, h1, h2⟩ := loop
      unfold unrF
      rcases h2 with ⟨len, left, e, rfl⟩ | ⟨e, l', rfl⟩
      · rw [e]
        exact ⟨_, .stop h1, rfl⟩
      · rw [e]
        exact ⟨_, .cons h1 (.one (.ret .non)), rfl⟩
    obtain ⟨o, h1, rfl⟩ := fin
    exact .ret h1
end
end Dt.K84
set_option maxHeartbeats 4000000
/-! k84: the law's own defs: many. -/
namespace Dt.K84
open PySem PySem.Spec L2 Dt
open PyProof.Rows (envOfC)
theorem has_max : ∀ {ns : List Int}, ns ≠ [] → ∃ m ∈ ns, ∀ y ∈ ns, y ≤ m
  | [], h => absurd rfl h
  | [x], _ => ⟨x, List.mem_singleton.mpr rfl, fun y hy => by rw [List.mem_singleton.mp hy]; exact Int.le_refl _⟩
  | x :: z :: ns, _ => by
    obtain ⟨m, h1, h2⟩ := has_max (ns := z :: ns) (by simp)
    by_cases h : m ≤ x
    · exact ⟨x, List.mem_cons_self, fun y hy => by
        rcases List.mem_cons.mp hy with rfl | hy
        · exact Int.le_refl _
        · exact Int.le_trans (h2 y hy) h⟩
    · exact ⟨m, List.mem_cons_of_mem _ h1, fun y hy => by
        rcases List.mem_cons.mp hy with rfl | hy
        · omega
        · exact h2 y hy⟩
def manyO (m : Mc) (k : Nat) : Option Nat := if (List.range (k + 1 - m.rows.length)).any (fun i => decide (0 < cnt m (m.rows.length + i) 0)) = true then none else some ((List.range (k + 1)).map fun n => cnt m n 0).sum
section
variable {P : Program} {w : World} {K : PySem.W.Frag} {mg : Str → Option Value} {base : Heap} {f : Addr} {fd : FuncData} {cNum cWord cM : Addr}
def P_many : Pr := fun dvs μ o => ∃ (m : Mc) (k : Nat), VM m ∧ k < 100 ∧ m.rows.length ≤ k ∧ dvs = [.dat (rwsD m), .dat (cntsD m k)] ∧ o = .ret (.dat (optD (manyO m k))) μ
theorem w_many (M : Md mg) (F : Fun K "_law_many" "_law_many" (top 44) f fd) : FnOk P w K mg base (L2N.CX P w) 1 f fd ["rows", "counts"] (spD K 2 P_many) :=
  fn_D (N := ["rows", "counts", "long", "n", "row"]) (ps := ["rows", "counts"]) F ⟨rfl, rfl, rfl, by decide, rfl, by decide, by decide⟩ fun cdv A outer s H E hr tk hp dvs μ o hl hP => by
    obtain ⟨m, k, V, hk, hmk, rfl, rfl⟩ := hP
    have hN : 0 < m.rows.length := V.n1
    have r0 : ∀ j, atI ((List.range m.rows.length).map fun s => natD (cnt m j s)) ((0 : Nat) : Int) = some (natD (cnt m j 0)) := fun j => rowC_at hN
    have hcm : ((List.range (k + 1)).map (rowC m)).length = k + 1 := by rw [List.length_map, List.length_range]
    have hrm : (m.rows.map rwD).length = m.rows.length := List.length_map ..
    let ns : List Int := (List.range (k + 1 - m.rows.length)).map fun i => ((cnt m (m.rows.length + i) 0 : Nat) : Int)
    obtain ⟨mx, h1, h2⟩ := has_max (ns := ns) (by
      intro h
      have h' := congrArg List.length h
      rw [List.length_map, List.length_range] at h'
      rw [List.length_nil] at h'
      omega)
    have hmx : decide (0 < mx) = (List.range (k + 1 - m.rows.length)).any (fun i => decide (0 < cnt m (m.rows.length + i) 0)) := by
      by_cases h : 0 < mx
      · rw [decide_eq_true h]
        obtain ⟨i, hi, e⟩ := List.mem_map.mp h1
        exact (List.any_eq_true.mpr ⟨i, hi, decide_eq_true (by omega)⟩).symm
      · rw [decide_eq_false h]
        refine (Bool.eq_false_iff.mpr fun hh => ?_).symm
        obtain ⟨i, hi, e⟩ := List.any_eq_true.mp hh
        have := h2 _ (List.mem_map_of_mem hi)
        have := of_decide_eq_true e
        omega
    refine .ret (.cons (δ1 := [some (.dat (rwsD m)), some (.dat (cntsD m k)), some (.dat (.lst (ns.map D.int))), none, none]) (μ1 := μ) (.lcOf 2 (x := "n") (j := 3) rfl (nod_of rfl) (pi_range2 (by rfl) M.range (pa_cons semE_pe (pa_cons semE_pe pa_nil (by rfl)) (by rfl)) (by rfl) (by rfl)) (blk_of rfl) (fun _ _ _ _ _ => pg_name (nod_of rfl) rfl (by first | exact .inl rfl | exact .inr rfl)) (by decide) (lcR2 (m1 := (m.rows.length : Int)) (m2 := ((k + 1 : Nat) : Int)) (.to (.blt M.len (.cons (.var 0 rfl) .nil) (CallS.lenL .dt)) (by rw [List.length_map, hrm])) (.to (.blt M.len (.cons (.var 1 rfl) .nil) (CallS.lenL .dt)) (by rw [List.length_map, hcm])) (by have := V.n63; omega) (by omega) (by omega) (by omega) ?_ ?_)) (.one (.ret ?_)))
    · have e1 : (((k + 1 : Nat) : Int) - (m.rows.length : Int)).toNat = k + 1 - m.rows.length := by omega
      rw [e1]
      unfold upto
      rw [List.map_map, List.map_map]
      refine Lc.mapD fun i hi => El.go (Ek.of fun s H0 cl C fp => ?_)
      have hi' := List.mem_range.mp hi
      exact .ixD (ds := (List.range m.rows.length).map fun s => natD (cnt m (m.rows.length + i) s)) (.ixD (.var 1 rfl) (.to (.var 3 rfl) (dv' := .i ((m.rows.length + i : Nat) : Int)) (congrArg DV.i (by omega))) (cnt_ix (by omega))) .int (r0 _)
    · rw [List.length_map, List.length_map, List.length_map, List.length_range]
      omega
    · unfold manyO
      rw [← hmx]
      by_cases h : 0 < mx
      · rw [decide_eq_true h]
        exact .ifT (.to (.cmp (.blt M.max (.cons (.var 2 rfl) .nil) (CallS.maxL rfl h1 h2)) .int .gt) (decide_eq_true h)) .non
      · rw [decide_eq_false h]
        exact .ifF (.to (.cmp (.blt M.max (.cons (.var 2 rfl) .nil) (CallS.maxL rfl h1 h2)) .int .gt) (decide_eq_false h)) (.to (.blt M.sum (.cons (.to (.lcLa 4 (List.range (k + 1)) (rowC m) (fun n => natD (cnt m n 0)) (.var 1 rfl) (fun i hi s1 H1 cl C fp => .ixD (ds := (List.range m.rows.length).map fun s => natD (cnt m i s)) (.var 4 rfl) .int (r0 i)) (by rw [List.length_range]; omega)) (dv' := .dat (.lst (((List.range (k + 1)).map fun n => ((cnt m n 0 : Nat) : Int)).map D.int))) (by rw [List.map_map]; rfl)) .nil) (CallS.sum rfl)) (by rw [sum_cast]; rfl))
end
end Dt.K84
set_option maxHeartbeats 4000000
/-! k84: the law's own defs: table. -/
namespace Dt.K84
open PySem PySem.Spec L2 Dt
open PyProof.Rows (envOfC)
def drawN (S : Sr) (m : Nat) : Nat × Sr := ((pick S (m : Int)).1.toNat, (pick S (m : Int)).2)
theorem pick_nn (S : Sr) (m : Nat) : 0 ≤ (pick S (m : Int)).1 := by
  by_cases h : 0 < m
  · exact (pick_lt S (m := (m : Int)) (by omega)).1
  · have e : pick S (m : Int) = (0, S) := if_pos (by omega)
    rw [e]
    exact Int.le_refl _
theorem drawN_lt (S : Sr) {m : Nat} (h : 0 < m) : (drawN S m).1 < m := by
  have := pick_lt S (m := (m : Int)) (by omega)
  show (pick S (m : Int)).1.toNat < m
  omega
theorem P_drawN (S : Sr) (J : Store) {m : Nat} (h : m < 1073741824) : P_draw [.own 0, .i (m : Int)] (srC S :: J) (.ret (.i ((drawN S m).1 : Nat)) (srC (drawN S m).2 :: J)) := by
  refine ⟨S, J, m, rfl, rfl, by omega, ?_⟩
  show FO.ret (.i (((pick S (m : Int)).1.toNat : Nat) : Int)) _ = _
  rw [Int.toNat_of_nonneg (pick_nn S m)]
  rfl
def tbTo (many kind s x : Nat) (S : Sr) : Nat × Sr := if kind = 3 ∧ s + 1 = many ∧ x = 0 then drawN (drawN S many).2 many else (if kind < 2 then (drawN S many).1 else s + 1 + (drawN S many).1, (drawN S many).2)
def tbX (many kind s x : Nat) (S : Sr) : Option Nat × Sr := if (tbTo many kind s x S).1 < many then (if kind % 2 < (drawN (tbTo many kind s x S).2 4).1 then some (tbTo many kind s x S).1 else none, (drawN (tbTo many kind s x S).2 4).2) else (none, (tbTo many kind s x S).2)
theorem tbX_lt {many kind s x : Nat} {S : Sr} {t : Nat} (h : (tbX many kind s x S).1 = some t) : t < many := by
  unfold tbX at h
  split at h
  · rename_i h1
    dsimp only at h
    split at h
    · cases h
      exact h1
    · cases h
  · cases h
structure TR where
  S : Sr
  row : List (Option Nat)
def trS (many kind s : Nat) (t : TR) (x : Nat) : TR := ⟨(tbX many kind s x t.S).2, t.row ++ [(tbX many kind s x t.S).1]⟩
def tRow (many kind letters s : Nat) (S : Sr) : TR := (List.range letters).foldl (trS many kind s) ⟨S, []⟩
structure TT2 where
  S : Sr
  rows : List (List (Option Nat))
def ttS (many kind letters : Nat) (t : TT2) (s : Nat) : TT2 := ⟨(tRow many kind letters s t.S).S, t.rows ++ [(tRow many kind letters s t.S).row]⟩
def tRows (many kind letters : Nat) (S : Sr) : TT2 := (List.range many).foldl (ttS many kind letters) ⟨S, []⟩
def tEnd (kind : Nat) (S : Sr) : Nat × Sr := if 0 < (drawN S 3).1 then drawN (drawN S 3).2 2 else (if kind = 1 then 0 else 1, (drawN S 3).2)
def tEnds (kind : Nat) : Nat → Sr → List Nat × Sr
  | 0, S => ([], S)
  | n + 1, S => ((tEnd kind S).1 :: (tEnds kind n (tEnd kind S).2).1, (tEnds kind n (tEnd kind S).2).2)
theorem tEnd_lt (kind : Nat) (S : Sr) : (tEnd kind S).1 < 2 := by
  unfold tEnd
  split
  · exact drawN_lt _ (by decide)
  · show (if kind = 1 then 0 else 1) < 2
    split <;> omega
theorem tEnds_len (kind : Nat) : ∀ (n : Nat) (S : Sr), (tEnds kind n S).1.length = n
  | 0, _ => rfl
  | n + 1, S => congrArg (· + 1) (tEnds_len kind n _)
theorem tEnds_lt (kind : Nat) : ∀ (n : Nat) (S : Sr), ∀ e ∈ (tEnds kind n S).1, e < 2
  | 0, _, _, h => nomatch h
  | n + 1, S, e, h => by
    rcases List.mem_cons.mp h with rfl | h
    · exact tEnd_lt kind S
    · exact tEnds_lt kind n _ e h
theorem trS_len (many kind s : Nat) : ∀ (l : List Nat) (t : TR), (l.foldl (trS many kind s) t).row.length = t.row.length + l.length
  | [], t => rfl
  | x :: l, t => by
    rw [List.foldl_cons, trS_len many kind s l]
    show (t.row ++ [_]).length + _ = _
    rw [List.length_append, List.length_singleton, List.length_cons]
    omega
theorem trS_lt (many kind s : Nat) : ∀ (l : List Nat) (t : TR), (∀ u, some u ∈ t.row → u < many) → ∀ u, some u ∈ (l.foldl (trS many kind s) t).row → u < many
  | [], t, h => h
  | x :: l, t, h => trS_lt many kind s l _ fun u hu => by
    rcases List.mem_append.mp hu with hu | hu
    · exact h u hu
    · exact tbX_lt (List.mem_singleton.mp hu).symm
theorem tRow_len (many kind letters s : Nat) (S : Sr) : (tRow many kind letters s S).row.length = letters := by
  unfold tRow
  rw [trS_len, List.length_range]
  exact Nat.zero_add _
theorem tRow_lt (many kind letters s : Nat) (S : Sr) : ∀ u, some u ∈ (tRow many kind letters s S).row → u < many := trS_lt many kind s _ _ fun u hu => (nomatch hu)
theorem ttS_ok (many kind letters : Nat) : ∀ (l : List Nat) (t : TT2), (∀ r ∈ t.rows, r.length = letters ∧ ∀ u, some u ∈ r → u < many) → (l.foldl (ttS many kind letters) t).rows.length = t.rows.length + l.length ∧ ∀ r ∈ (l.foldl (ttS many kind letters) t).rows, r.length = letters ∧ ∀ u, some u ∈ r → u < many
  | [], t, h => ⟨rfl, h⟩
  | x :: l, t, h => by
    obtain ⟨h1, h2⟩ := ttS_ok many kind letters l (ttS many kind letters t x) fun r hr => by
      rcases List.mem_append.mp hr with hr | hr
      · exact h r hr
      · rw [List.mem_singleton.mp hr]
        exact ⟨tRow_len .., tRow_lt _ _ _ _ _⟩
    refine ⟨?_, h2⟩
    rw [List.foldl_cons, h1]
    show (t.rows ++ [_]).length + _ = _
    rw [List.length_append, List.length_singleton, List.length_cons]
    omega
/-- the table drawn -/
def tabM (S : Sr) : Nat × Sr := drawN (drawN S 3).2 ([3, 6, 12].getD (drawN S 3).1 0)
def tabMany (S : Sr) : Nat := 1 + (tabM S).1
def tabK (S : Sr) : Nat × Sr := drawN (tabM S).2 4
def tabR (letters : Nat) (S : Sr) : TT2 := tRows (tabMany S) (tabK S).1 letters (tabK S).2
def tabE (letters : Nat) (S : Sr) : List Nat × Sr := tEnds (tabK S).1 (tabMany S) (tabR letters S).S
def tabMc (letters : Nat) (S : Sr) : Mc := ⟨letters, (tabR letters S).rows, (tabE letters S).1⟩
theorem tabMany_le (S : Sr) : 1 ≤ tabMany S ∧ tabMany S ≤ 12 := by
  unfold tabMany tabM
  have h := drawN_lt S (m := 3) (by decide)
  have h2 : ∀ k : Nat, k < 3 → 0 < [3, 6, 12].getD k 0 ∧ [3, 6, 12].getD k 0 ≤ 12 := by decide
  obtain ⟨a, b⟩ := h2 _ h
  have := drawN_lt (drawN S 3).2 a
  omega
theorem tab_ok {letters : Nat} (h1 : 1 ≤ letters) (h4 : letters ≤ 4) (S : Sr) : VM (tabMc letters S) ∧ (tabMc letters S).rows.length = tabMany S := by
  obtain ⟨m1, m12⟩ := tabMany_le S
  obtain ⟨a, b⟩ := ttS_ok (tabMany S) (tabK S).1 letters (List.range (tabMany S)) ⟨(tabK S).2, []⟩ fun r hr => (nomatch hr)
  have hl : (tabMc letters S).rows.length = tabMany S := by
    refine a.trans ?_
    rw [List.length_range]
    exact Nat.zero_add _
  refine ⟨⟨h1, Nat.le_trans h4 (by decide), by rw [hl]; exact m1, by rw [hl]; omega, fun r hr => (b r hr).1, fun r hr t ht => by rw [hl]; exact (b r hr).2 t ht, ?_, fun e he => Nat.le_of_lt_succ (tEnds_lt _ _ _ e he)⟩, hl⟩
  rw [hl]
  exact tEnds_len ..
theorem en_lc {R : DV → Store → Option DV → Store → Prop} (JJ : Store) (kind : Nat) (h : ∀ (S : Sr) (i : Nat), R (.i (i : Int)) (srC S :: JJ) (some (.dat (natD (tEnd kind S).1))) (srC (tEnd kind S).2 :: JJ)) : ∀ (n : Nat) (S : Sr) (i : Nat), Lc R ((List.range' i n).map fun (j : Nat) => DV.i (j : Int)) (srC S :: JJ) (((tEnds kind n S).1.map natD).map DV.dat) (srC (tEnds kind n S).2 :: JJ)
  | 0, _, _ => .nil
  | n + 1, S, i => by
    rw [List.range'_succ]
    exact .keep (h S i) (en_lc JJ kind h n _ (i + 1))
section
variable {P : Program} {w : World} {K : PySem.W.Frag} {mg : Str → Option Value} {base : Heap} {f : Addr} {fd : FuncData} {cNum cWord cM : Addr}
def rwC (r : List (Option Nat)) : List DV := (r.map fun o => D.int (oI o)).map DV.dat
def rwsC (rs : List (List (Option Nat))) : List DV := (rs.map rwD).map DV.dat
def P_table : Pr := fun dvs μ o => ∃ (S : Sr) (J : Store) (l : Nat), 1 ≤ l ∧ l ≤ 4 ∧ dvs = [.own 0, .i (l : Int)] ∧ μ = srC S :: J ∧ o = .ret (.dat (.lst [rwsD (tabMc l S), enLD (tabMc l S)])) (srC (tabE l S).2 :: J)
theorem w_table (M : Md mg) (d1 : Df P w K mg base "_law_draw" 1 2 P_draw) (F : Fun K "_law_table" "_law_table" (top 43) f fd) : FnOk P w K mg base (L2N.CX P w) 2 f fd ["deck", "letters"] (spD K 2 P_table) :=
  fn_D (N := ["deck", "letters", "many", "kind", "rows", "s", "row", "x", "to", "ends"]) (ps := ["deck", "letters"]) F ⟨rfl, rfl, rfl, by decide, rfl, by decide, by decide⟩ fun cdv A outer s H E hr tk hp dvs μ o hl hP => by
    obtain ⟨S, J, l, h1, h4, rfl, rfl, rfl⟩ := hP
    obtain ⟨V, hN⟩ := tab_ok h1 h4 S
    obtain ⟨m1, m12⟩ := tabMany_le S
    let many := tabMany S
    let kind := (tabK S).1
    let st : TT2 → Store := fun t => srC t.S :: (J ++ (.lst (rwsC t.rows) :: List.replicate t.rows.length .gone))
    let δ : Slots := [some (.own 0), some (.i (l : Int)), some (.i (many : Int)), some (.i (kind : Int)), some (.own (J.length + 1)), none, none, none, none, none]
    have h36 : ∀ k : Nat, k < 3 → atI ([3, 6, 12].map D.int) (k : Int) = some (.int (([3, 6, 12].getD k 0 : Nat) : Int)) := fun k hk => by
      match k, hk with
      | 0, _ => rfl
      | 1, _ => rfl
      | 2, _ => rfl
    have hb : ∀ k : Nat, k < 3 → [3, 6, 12].getD k 0 < 1073741824 := by decide
    have h3 := drawN_lt S (m := 3) (by decide)
    refine .retJ (J := .gone :: List.replicate (tabR l S).rows.length .gone) ?_ (Keep.set (μ := srC S :: J) (k := 0) (c := srC _) rfl)
    refine .cons (δ1 := [some (.own 0), some (.i (l : Int)), some (.i (many : Int)), none, none, none, none, none, none, none]) (μ1 := srC (tabM S).2 :: J) (.set 2 (.to (.bin .int (.call d1 hr (.cons (.var 0 rfl) (.cons (.ixT (.tup (ds := [3, 6, 12].map D.int) (.cons .int (.cons .int (.cons .int .nil)))) (.call d1 hr (.cons (.var 0 rfl) (.cons .int .nil)) (P_drawN S J (m := 3) (by decide))) (h36 _ h3)) .nil)) (P_drawN (drawN S 3).2 J (hb _ h3))) .add) ?_) (nod_of rfl)) ?_
    · show DV.i ((1 : Int) + ((tabM S).1 : Int)) = .i ((1 + (tabM S).1 : Nat) : Int)
      rw [Int.natCast_add]
      rfl
    refine .cons (δ1 := [some (.own 0), some (.i (l : Int)), some (.i (many : Int)), some (.i (kind : Int)), none, none, none, none, none, none]) (μ1 := srC (tabK S).2 :: J) (.set 3 (.call d1 hr (.cons (.var 0 rfl) (.cons .int .nil)) (P_drawN (tabM S).2 J (m := 4) (by decide))) (nod_of rfl)) ?_
    refine .cons (δ1 := δ) (μ1 := st ⟨(tabK S).2, []⟩) (.set 4 (.lstO .nil) (nod_of rfl)) ?_
    refine .cons (δ1 := δ) (μ1 := st (tabR l S)) (.forR1 rfl (nod_of rfl) hp M.range 5 (.var 2 rfl) (by omega) (by omega) (It1.foldU (S := TT2) (n := many) (fun _ => δ) st (ttS many kind l) (fun k t => t.rows.length = k) (fun t k hk ht => ?_) ⟨(tabK S).2, []⟩ rfl).1) ?_
    · subst ht
      have hk' : t.rows.length < many := hk
      refine ⟨by show (t.rows ++ [_]).length = _; rw [List.length_append, List.length_singleton], ?_⟩
      let J' : Store := J ++ (.lst (rwsC t.rows) :: List.replicate t.rows.length .gone)
      let δ3 : Slots := [some (.own 0), some (.i (l : Int)), some (.i (many : Int)), some (.i (kind : Int)), some (.own (J.length + 1)), some (.i (t.rows.length : Int)), some (.own (J'.length + 1)), none, none, none]
      let su : TR → Store := fun u => srC u.S :: (J' ++ [.lst (rwC u.row)])
      let u1 : TR := tRow many kind l t.rows.length t.S
      have hrows : (su u1)[J.length + 1]? = some (.lst (rwsC t.rows)) := by
        show (srC u1.S :: ((J ++ (.lst (rwsC t.rows) :: List.replicate t.rows.length .gone)) ++ [_]))[J.length + 1]? = _
        rw [List.append_assoc]
        exact hL0
      refine .wk (δ1 := δ3) (.cons (δ1 := δ3) (μ1 := su ⟨t.S, []⟩) (.set 6 (.lstO .nil) (nod_of rfl)) (.cons (δ1 := δ3) (μ1 := su u1) (.forR1 rfl (nod_of rfl) hp M.range 7 (.var 1 rfl) (by omega) (by omega) (It1.foldU (S := TR) (n := l) (fun _ => δ3) su (trS many kind t.rows.length) (fun k u => u.row.length = k) (fun u x hx hu => ?_) ⟨t.S, []⟩ rfl).1) (.one (.expr (.tos (.append (xs := rwsC t.rows) (dv := .dat (rwD u1.row)) (μ2 := srC u1.S :: (J ++ (.lst (rwsC t.rows) :: (List.replicate t.rows.length .gone ++ [.gone])))) (.var 4 rfl) (.tos (.frz (ds := u1.row.map fun o => D.int (oI o)) (.var 6 rfl) hL0) ?_) hL0 ?_ ⟨_, hrows⟩) ?_)))))
      · let s := t.rows.length
        let JJ : Store := J' ++ [.lst (rwC u.row)]
        let δ4 : Nat → Slots := fun v => [some (.own 0), some (.i (l : Int)), some (.i (many : Int)), some (.i (kind : Int)), some (.own (J.length + 1)), some (.i (s : Int)), some (.own (J'.length + 1)), some (.i (x : Int)), some (.i (v : Int)), none]
        let a := drawN u.S many
        let toA : Nat := if kind < 2 then a.1 else s + 1 + a.1
        let b := tbTo many kind s x u.S
        refine ⟨by show (u.row ++ [_]).length = _; rw [List.length_append, List.length_singleton, hu], .wk (δ1 := δ4 b.1) (.cons (δ1 := δ4 toA) (μ1 := srC a.2 :: JJ) ?_ (.cons (δ1 := δ4 b.1) (μ1 := srC b.2 :: JJ) ?_ (.one ?_)))⟩
        · by_cases hk2 : kind < 2
          · have e : toA = a.1 := if_pos hk2
            rw [e]
            exact .set 8 (.ifT (.to (.cmp (.var 3 rfl) .int .lt) (decide_eq_true (by omega))) (.call d1 hr (.cons (.var 0 rfl) (.cons (.var 2 rfl) .nil)) (P_drawN u.S JJ (m := many) (by omega)))) (nod_of rfl)
          · have e : toA = s + 1 + a.1 := if_neg hk2
            rw [e]
            exact .set 8 (.ifF (.to (.cmp (.var 3 rfl) .int .lt) (decide_eq_false (by omega))) (.to (.bin (.bin (.var 5 rfl) .int .add) (.call d1 hr (.cons (.var 0 rfl) (.cons (.var 2 rfl) .nil)) (P_drawN u.S JJ (m := many) (by omega))) .add) (congrArg DV.i (by show (s : Int) + 1 + ((drawN u.S many).1 : Int) = ((s + 1 + (drawN u.S many).1 : Nat) : Int); omega)))) (nod_of rfl)
        · by_cases hB : kind = 3 ∧ s + 1 = many ∧ x = 0
          · have e : b = drawN a.2 many := if_pos hB
            rw [e]
            obtain ⟨k3, sm, x0⟩ := hB
            exact .ifT (.w (.andT (.to (.cmp (.var 3 rfl) .int .eqI) (decide_eq_true (by omega))) (.andT (.to (.cmp (.var 5 rfl) (.bin (.var 2 rfl) .int .sub) .eqI) (decide_eq_true (by omega))) (.and1 (.to (.cmp (.var 7 rfl) .int .eqI) (decide_eq_true (by omega))))))) (.one (.set 8 (.call d1 hr (.cons (.var 0 rfl) (.cons (.var 2 rfl) .nil)) (P_drawN a.2 JJ (m := many) (by omega))) (nod_of rfl)))
          · have e : b = (toA, a.2) := if_neg hB
            rw [e]
            by_cases k3 : kind = 3
            · by_cases sm : s + 1 = many
              · have x0 : ¬ x = 0 := fun z => hB ⟨k3, sm, z⟩
                exact .ifF (.w (.andT (.to (.cmp (.var 3 rfl) .int .eqI) (decide_eq_true (by omega))) (.andT (.to (.cmp (.var 5 rfl) (.bin (.var 2 rfl) .int .sub) .eqI) (decide_eq_true (by omega))) (.and1 (.to (.cmp (.var 7 rfl) .int .eqI) (decide_eq_false (by omega))))))) .nil
              · exact .ifF (.w (.andT (.to (.cmp (.var 3 rfl) .int .eqI) (decide_eq_true (by omega))) (.andF (.to (.cmp (.var 5 rfl) (.bin (.var 2 rfl) .int .sub) .eqI) (decide_eq_false (by omega)))))) .nil
            · exact .ifF (.w (.andF (.to (.cmp (.var 3 rfl) .int .eqI) (decide_eq_false (by omega))))) .nil
        · have hrw : ∀ S' : Sr, (srC S' :: JJ)[J'.length + 1]? = some (.lst (rwC u.row)) := fun S' => hL0
          have hfin : ∀ (S' : Sr) (o : Option Nat), (srC S' :: JJ).set (J'.length + 1) (.lst (rwC u.row ++ [.i (oI o)])) = srC S' :: (J' ++ [.lst (rwC (u.row ++ [o]))]) := fun S' o => by
            have e : rwC (u.row ++ [o]) = rwC u.row ++ [.i (oI o)] := by
              unfold rwC
              rw [List.map_append, List.map_append]
              rfl
            rw [e]
            exact kL0
          have hlen : (rwC u.row).length < 1000000 := by
            unfold rwC
            rw [List.length_map, List.length_map]
            omega
          show Xs _ _ _ _ _ (.nx _ (srC (tbX many kind s x u.S).2 :: (J' ++ [.lst (rwC (u.row ++ [(tbX many kind s x u.S).1]))])))
          by_cases hb1 : b.1 < many
          · by_cases hk4 : kind % 2 < (drawN b.2 4).1
            · have e : tbX many kind s x u.S = (some b.1, (drawN b.2 4).2) := by
                show (if b.1 < many then (if kind % 2 < (drawN b.2 4).1 then some b.1 else none, (drawN b.2 4).2) else (none, b.2)) = _
                rw [if_pos hb1, if_pos hk4]
              rw [e]
              exact .expr (.tos (.append (.var 6 rfl) (.ifT (.w (.andT (.to (.cmp (.var 8 rfl) (.var 2 rfl) .lt) (decide_eq_true (by omega))) (.and1 (.to (.cmp (.call d1 hr (.cons (.var 0 rfl) (.cons .int .nil)) (P_drawN b.2 JJ (m := 4) (by decide))) (.bin (.var 3 rfl) .int (.modP (by decide))) .gt) (decide_eq_true (by omega)))))) (.var 8 rfl)) (hrw _) hlen ⟨_, hrw _⟩) (hfin _ (some b.1)))
            · have e : tbX many kind s x u.S = (none, (drawN b.2 4).2) := by
                show (if b.1 < many then (if kind % 2 < (drawN b.2 4).1 then some b.1 else none, (drawN b.2 4).2) else (none, b.2)) = _
                rw [if_pos hb1, if_neg hk4]
              rw [e]
              exact .expr (.tos (.append (.var 6 rfl) (.ifF (.w (.andT (.to (.cmp (.var 8 rfl) (.var 2 rfl) .lt) (decide_eq_true (by omega))) (.and1 (.to (.cmp (.call d1 hr (.cons (.var 0 rfl) (.cons .int .nil)) (P_drawN b.2 JJ (m := 4) (by decide))) (.bin (.var 3 rfl) .int (.modP (by decide))) .gt) (decide_eq_false (by omega)))))) (.neg .int)) (hrw _) hlen ⟨_, hrw _⟩) (hfin _ none))
          · have e : tbX many kind s x u.S = (none, b.2) := by
              show (if b.1 < many then (if kind % 2 < (drawN b.2 4).1 then some b.1 else none, (drawN b.2 4).2) else (none, b.2)) = _
              rw [if_neg hb1]
            rw [e]
            exact .expr (.tos (.append (.var 6 rfl) (.ifF (.w (.andF (.to (.cmp (.var 8 rfl) (.var 2 rfl) .lt) (decide_eq_false (by omega))))) (.neg .int)) (hrw _) hlen ⟨_, hrw _⟩) (hfin _ none))
      · show (srC u1.S :: (J' ++ [Cell.lst (rwC u1.row)])).set (J'.length + 1) .gone = _
        rw [kL0]
        show srC u1.S :: ((J ++ (.lst (rwsC t.rows) :: List.replicate t.rows.length .gone)) ++ [.gone]) = _
        rw [List.append_assoc]
        rfl
      · unfold rwsC
        rw [List.length_map, List.length_map]
        omega
      · rw [kL0]
        show _ = srC u1.S :: (J ++ (.lst (rwsC (t.rows ++ [u1.row])) :: List.replicate (t.rows ++ [u1.row]).length .gone))
        rw [List.length_append, List.length_singleton, List.replicate_succ']
        unfold rwsC
        rw [List.map_append, List.map_append]
        rfl
    · refine .cons (δ1 := [some (.own 0), some (.i (l : Int)), some (.i (many : Int)), some (.i (kind : Int)), some (.own (J.length + 1)), none, none, none, none, some (.dat (enLD (tabMc l S)))]) (μ1 := srC (tabE l S).2 :: (J ++ (.lst (rwsC (tabR l S).rows) :: List.replicate (tabR l S).rows.length .gone))) ?_ (.one (.ret (.to (.tos (.lst (ds := [rwsD (tabMc l S), enLD (tabMc l S)]) (.cons (.frz (ds := (tabR l S).rows.map rwD) (.var 4 rfl) hL0) (.cons (.var 9 rfl) .nil))) ?_) rfl)))
      · let JJ : Store := J ++ (.lst (rwsC (tabR l S).rows) :: List.replicate (tabR l S).rows.length .gone)
        refine .lcOf 9 (x := "s") (j := 5) (ds := (tabE l S).1.map natD) rfl (nod_of rfl) (pi_range1 (by rfl) M.range (pa_cons semE_pe pa_nil (by rfl)) (by rfl)) (blk_of rfl) (fun _ _ _ _ _ => pg_name (nod_of rfl) rfl (by first | exact .inl rfl | exact .inr rfl)) (by decide) (lcR (m := (many : Int)) (.var 2 rfl) (by omega) (by omega) ?_ ?_)
        · rw [Int.toNat_natCast, upto_map, List.range_eq_range']
          refine en_lc (R := _) JJ kind (fun S' i => El.go (Ek.of fun s1 H1 cl C fp => ?_)) many (tabR l S).S 0
          unfold tEnd
          by_cases h0 : 0 < (drawN S' 3).1
          · rw [if_pos h0]
            exact .ifT (.to (.cmp (.call d1 hr (.cons (.var 0 rfl) (.cons .int .nil)) (P_drawN S' JJ (m := 3) (by decide))) .int .gt) (decide_eq_true (by omega))) (.call d1 hr (.cons (.var 0 rfl) (.cons .int .nil)) (P_drawN (drawN S' 3).2 JJ (m := 2) (by decide)))
          · rw [if_neg h0]
            refine .ifF (.to (.cmp (.call d1 hr (.cons (.var 0 rfl) (.cons .int .nil)) (P_drawN S' JJ (m := 3) (by decide))) .int .gt) (decide_eq_false (by omega))) (.to (.tyc M.int (.cons (.cmp (.var 3 rfl) .int .neI) .nil) CallS.intB) ?_)
            by_cases h1 : kind = 1
            · rw [decide_eq_true (show (kind : Int) = 1 by omega)]
              show DV.i 0 = .i ((if kind = 1 then 0 else 1 : Nat) : Int)
              rw [if_pos h1]
              rfl
            · rw [decide_eq_false (show ¬ (kind : Int) = 1 by omega)]
              show DV.i 1 = .i ((if kind = 1 then 0 else 1 : Nat) : Int)
              rw [if_neg h1]
              rfl
        · rw [List.length_map, List.length_map]
          show (tEnds _ _ _).1.length ≤ _
          rw [tEnds_len]
          omega
      · rw [kL0]
        rfl
end
end Dt.K84
set_option maxHeartbeats 4000000
/-! k84, plain: numbers and words, there and back; how many. -/
namespace Dt.K84
open PySem PySem.Spec L2 Dt
def sumC (m : Mc) (k : Nat) : Nat := ((List.range k).map fun n => cnt m n 0).sum
theorem sumC_succ (m : Mc) (k : Nat) : sumC m (k + 1) = sumC m k + cnt m k 0 := by
  unfold sumC
  rw [List.range_succ, List.map_append, List.sum_append]
  simp
theorem sumC_mono (m : Mc) {a : Nat} : ∀ {b : Nat}, a ≤ b → sumC m a ≤ sumC m b
  | 0, h => by
    have : a = 0 := by omega
    subst this
    exact Nat.le_refl _
  | b + 1, h => by
    by_cases e : a = b + 1
    · subst e
      exact Nat.le_refl _
    · have := sumC_mono m (show a ≤ b by omega)
      rw [sumC_succ]
      omega
theorem sumC_ext {m : Mc} {a : Nat} (h : ∀ n, a ≤ n → cnt m n 0 = 0) : ∀ {b : Nat}, a ≤ b → sumC m b = sumC m a
  | 0, hb => by
    have : a = 0 := by omega
    subst this
    rfl
  | b + 1, hb => by
    by_cases e : a = b + 1
    · subst e
      rfl
    · rw [sumC_succ, h b (by omega), sumC_ext h (show a ≤ b by omega)]
      rfl
theorem sumC_tot {m : Mc} (V : VM m) {v : Nat} (h : totOf m = some v) (k : Nat) : sumC m k ≤ v := by
  obtain ⟨h1, h2⟩ := tot_some V h
  have e : v = sumC m (leastOf m).rows.length := h2
  by_cases hk : k ≤ (leastOf m).rows.length
  · rw [e]
    exact sumC_mono m hk
  · rw [e, sumC_ext h1 (show (leastOf m).rows.length ≤ k by omega)]
    exact Nat.le_refl _
theorem many_tot {m : Mc} (V : VM m) {k : Nat} (hk : 2 * m.rows.length ≤ k + 1) : manyO m k = totOf m := by
  obtain ⟨_, hL⟩ := leastOf_ok V
  have hN := V.n1
  unfold manyO
  cases h : totOf m with
  | none =>
    obtain ⟨n, hn, hc⟩ := tot_none V h m.rows.length
    obtain ⟨j, j1, j2, j3⟩ := pump V n hn hc
    rw [if_pos]
    refine List.any_eq_true.mpr ⟨j - m.rows.length, List.mem_range.mpr (by omega), decide_eq_true ?_⟩
    rw [show m.rows.length + (j - m.rows.length) = j by omega]
    omega
  | some v =>
    obtain ⟨h1, h2⟩ := tot_some V h
    rw [if_neg]
    · refine congrArg some ?_
      have e : v = sumC m (leastOf m).rows.length := h2
      rw [e]
      exact sumC_ext h1 (by omega)
    · intro hh
      obtain ⟨i, _, e⟩ := List.any_eq_true.mp hh
      have := of_decide_eq_true e
      rw [h1 _ (by omega)] at this
      omega
theorem fl_some {m : Mc} : ∀ {fu j l len left : Nat}, fl m fu j l = some (len, left) → j ≤ len ∧ l + sumC m j = sumC m len + left ∧ left < cnt m len 0 ∧ len < j + fu
  | 0, _, _, _, _, h => nomatch h
  | fu + 1, j, l, len, left, h => by
    unfold fl at h
    by_cases hl : l < cnt m j 0
    · rw [if_pos hl] at h
      cases h
      exact ⟨Nat.le_refl _, by omega, hl, by omega⟩
    · rw [if_neg hl] at h
      obtain ⟨a, b, c, d⟩ := fl_some h
      rw [sumC_succ] at b
      exact ⟨by omega, by omega, c, by omega⟩
theorem fl_none {m : Mc} : ∀ {fu j l : Nat}, fl m fu j l = none → sumC m (j + fu) ≤ l + sumC m j
  | 0, j, l, _ => by
    rw [Nat.add_zero]
    omega
  | fu + 1, j, l, h => by
    unfold fl at h
    by_cases hl : l < cnt m j 0
    · rw [if_pos hl] at h
      cases h
    · rw [if_neg hl] at h
      have b := fl_none h
      rw [sumC_succ, show j + 1 + fu = j + (fu + 1) by omega] at b
      omega
theorem wo_cons {m : Mc} {n s left : Nat} (h : left < cnt m (n + 1) s) : ∃ x t l', wo m (n + 1) s left = x :: wo m n t l' ∧ some t ∈ m.row s ∧ l' < cnt m n t ∧ x < (m.row s).length ∧ (m.row s).getD x none = some t ∧ left = osum (cnt m n) ((m.row s).take x) + l' := by
  obtain ⟨x, t, l', h1, h2, h3, _, h5, h6, h7⟩ := nx_some (cnt m n) (m.row s) 0 left h
  rw [Nat.sub_zero] at h6 h7
  exact ⟨x, t, l', wo_succ h1, h2, h3, by omega, by rw [List.getD_eq_getElem?_getD, h6]; rfl, h7⟩
theorem wo_len {m : Mc} : ∀ {n s left : Nat}, left < cnt m n s → (wo m n s left).length = n
  | 0, _, _, _ => rfl
  | n + 1, s, left, h => by
    obtain ⟨x, t, l', e, _, h3, _⟩ := wo_cons h
    rw [e, List.length_cons, wo_len h3]
theorem ed_le {m : Mc} (V : VM m) (s : Nat) : m.ed s ≤ 1 := by
  unfold Mc.ed
  rw [List.getD_eq_getElem?_getD]
  by_cases h : s < m.ends.length
  · rw [List.getElem?_eq_getElem h]
    exact V.e1 _ (List.getElem_mem h)
  · rw [List.getElem?_eq_none (by omega)]
    exact Nat.zero_le _
theorem wo_ls {m : Mc} (V : VM m) : ∀ {n s left : Nat} (f : Nat), left < cnt m n s → lsF m (wo m n s left) (some s) f = f + left
  | 0, s, left, f, h => by
    have h1 : left < m.ed s := h
    have := ed_le V s
    have : left = 0 := by omega
    subst this
    rfl
  | n + 1, s, left, f, h => by
    obtain ⟨x, t, l', e, h2, h3, h4, h5, h6⟩ := wo_cons h
    rw [e]
    show lsF m (wo m n t l') ((m.row s).getD x none) (f + osum (cnt m (wo m n t l').length) ((m.row s).take x)) = _
    rw [h5, wo_len h3, wo_ls V _ h3]
    omega
theorem rank_wo {m : Mc} (V : VM m) {len left : Nat} (h : left < cnt m len 0) : rankF m (wo m len 0 left) = sumC m len + left := by
  unfold rankF
  rw [wo_ls V 0 h, wo_len h, Nat.zero_add]
  rfl
theorem rank_fl {m : Mc} (V : VM m) {fu n len left : Nat} (h : fl m fu 0 n = some (len, left)) : rankF m (wo m len 0 left) = n := by
  obtain ⟨_, b, c, _⟩ := fl_some h
  rw [rank_wo V c, ← b]
  exact Nat.add_zero n
theorem wo_takes {m : Mc} (V : VM m) : ∀ {n s left : Nat}, left < cnt m n s → ∃ t, after m (wo m n s left) s = some t ∧ m.ed t = 1
  | 0, s, left, h => by
    have h1 : left < m.ed s := h
    have := ed_le V s
    exact ⟨s, rfl, by omega⟩
  | n + 1, s, left, h => by
    obtain ⟨x, t, l', e, h2, h3, h4, h5, h6⟩ := wo_cons h
    obtain ⟨u, a, b⟩ := wo_takes V h3
    refine ⟨u, ?_, b⟩
    rw [e]
    unfold after
    rw [h5]
    exact a
theorem takes_wo {m : Mc} (V : VM m) {n left : Nat} (h : left < cnt m n 0) : takesB m (wo m n 0 left) = true := by
  obtain ⟨t, a, b⟩ := wo_takes V h
  unfold takesB
  rw [a]
  show (m.ed t == 1) = true
  rw [b]
  rfl
theorem wo_lets {m : Mc} (V : VM m) {n left : Nat} : ∀ {s : Nat}, s < m.rows.length → left < cnt m n s → ∀ x ∈ wo m n s left, x < m.L := by
  induction n generalizing left with
  | zero => intro s _ _ x hx; cases hx
  | succ n ih =>
    intro s hs h x hx
    obtain ⟨y, t, l', e, h2, h3, h4, _, _⟩ := wo_cons h
    rw [e] at hx
    rcases List.mem_cons.mp hx with rfl | hx
    · rw [V.row_len hs] at h4
      exact h4
    · exact ih (row_lt V s t h2) h3 x hx
/-- below the sum of the counts there is a word -/
theorem fl_ex {m : Mc} {k n : Nat} (h : n < sumC m (k + 1)) : ∃ len left, fl m (k + 1) 0 n = some (len, left) := by
  cases hf : fl m (k + 1) 0 n with
  | some p => exact ⟨p.1, p.2, rfl⟩
  | none =>
    have h2 := fl_none hf
    rw [Nat.zero_add] at h2
    have : sumC m 0 = 0 := rfl
    omega
theorem fl_tot {m : Mc} (V : VM m) {fu n len left : Nat} (h : fl m fu 0 n = some (len, left)) {v : Nat} (hv : totOf m = some v) : n < v := by
  obtain ⟨_, b, c, _⟩ := fl_some h
  have h2 := sumC_tot V hv (len + 1)
  rw [sumC_succ] at h2
  have : sumC m 0 = 0 := rfl
  omega
end Dt.K84
set_option maxHeartbeats 4000000
/-! k84: words alike or not; ways drawn: the word asked for. -/
namespace Dt
open PySem PySem.Spec L2
theorem OpS.neP {X : Cx} {μ : Store} {d d' : D} {m n m' n' : Nat} (hu : X.A.units + 64 < cLine) (h : Sho m n d) (h' : Sho m' n' d') (hm : m ≤ 60) (hm' : m' ≤ 60) : OpS X (compareOp .NotEq) (.dat d) (.dat d') μ (.b (!PyData.eqv (toPy d) (toPy d'))) μ :=
  ⟨_, op_neD hu, fun W H σ δ x y Q A rx ry q => ⟨_, _, Dq.dp A.st.ex (show Dq X.K W.G x d from rx) h.ok, Dq.dp A.st.ex (show Dq X.K W.G y d' from ry) h'.ok, h.shaped hm, h'.shaped hm', q W H _ .refl A (Dq.bl _)⟩⟩
theorem sho_ints {ks : List Int} (hk : ∀ n ∈ ks, n.natAbs < 10 ^ 39) : Sho 1 (((ks.map D.int).length) * (0 + 1)) (.lst (ks.map D.int)) := .lst (.all fun d hd => by
  obtain ⟨n, hn, rfl⟩ := List.mem_map.mp hd
  exact .int (hk n hn))
theorem sho_intT {ks : List Int} (hk : ∀ n ∈ ks, n.natAbs < 10 ^ 39) : Sho 1 (((ks.map D.int).length) * (0 + 1)) (.tup (ks.map D.int)) := .tup (.all fun d hd => by
  obtain ⟨n, hn, rfl⟩ := List.mem_map.mp hd
  exact .int (hk n hn))
theorem OpS.neLs {X : Cx} {μ : Store} {ns ms : List Int} (hu : X.A.units + 64 < cLine) (h1 : ∀ n ∈ ns, n.natAbs < 10 ^ 39) (h2 : ∀ n ∈ ms, n.natAbs < 10 ^ 39) : OpS X (compareOp .NotEq) (.dat (.lst (ns.map D.int))) (.dat (.lst (ms.map D.int))) μ (.b (!decide (ns = ms))) μ := by
  have h := OpS.neP (X := X) (μ := μ) hu (sho_ints h1) (sho_ints h2) (by decide) (by decide)
  have e : PyData.eqv (toPy (.lst (ns.map D.int))) (toPy (.lst (ms.map D.int))) = decide (ns = ms) := by
    show PyData.eqv (.list _) (.list _) = _
    rw [PyData.eqv]
    exact eqv_ints ns ms
  rw [e] at h
  exact h
theorem OpS.eqTs {X : Cx} {μ : Store} {ns ms : List Int} (hu : X.A.units + 64 < cLine) (h1 : ∀ n ∈ ns, n.natAbs < 10 ^ 39) (h2 : ∀ n ∈ ms, n.natAbs < 10 ^ 39) : OpS X (compareOp .Eq) (.dat (.tup (ns.map D.int))) (.dat (.tup (ms.map D.int))) μ (.b (decide (ns = ms))) μ := by
  have h := OpS.eqP (X := X) (μ := μ) hu (sho_intT h1) (sho_intT h2) (by decide) (by decide)
  have e : PyData.eqv (toPy (.tup (ns.map D.int))) (toPy (.tup (ms.map D.int))) = decide (ns = ms) := by
    show PyData.eqv (.tuple _) (.tuple _) = _
    rw [PyData.eqv]
    exact eqv_ints ns ms
  rw [e] at h
  exact h
theorem OpS.eqNT {X : Cx} {μ : Store} {ms : List Int} (hu : X.A.units + 64 < cLine) (h2 : ∀ n ∈ ms, n.natAbs < 10 ^ 39) : OpS X (compareOp .Eq) .n (.dat (.tup (ms.map D.int))) μ (.b false) μ := by
  have h := OpS.eqP (X := X) (μ := μ) hu (Sho.non : Sho 0 0 .non) (sho_intT h2) (by decide) (by decide)
  have e : PyData.eqv (toPy .non) (toPy (.tup (ms.map D.int))) = false := by
    show PyData.eqv .none (.tuple _) = _
    rw [PyData.eqv]
    all_goals simp
  rw [e] at h
  exact h
end Dt
set_option maxHeartbeats 4000000
/-! k84: the law's own defs: the word asked for. -/
namespace Dt.K84
open PySem PySem.Spec L2 Dt
open PyProof.Rows (envOfC)
def wayB (m : Mc) (st : Option Nat) (x : Nat) : Bool := match st with
  | none => false
  | some t => ((m.row t).getD x none).isSome
theorem wayB_some {m : Mc} {u x : Nat} : wayB m (some u) x = ((m.row u).getD x none).isSome := rfl
def ways (m : Mc) (st : Option Nat) : List Nat := (List.range m.L).filter (wayB m st)
def awX (m : Mc) (st : Option Nat) (S : Sr) : Nat × Sr := if (ways m st) = [] then drawN S m.L
  else if 0 < (drawN (drawN S m.L).2 8).1 then ((ways m st).getD (drawN (drawN (drawN S m.L).2 8).2 (ways m st).length).1 0, (drawN (drawN (drawN S m.L).2 8).2 (ways m st).length).2)
  else ((drawN S m.L).1, (drawN (drawN S m.L).2 8).2)
structure AW where
  S : Sr
  word : List Nat
  st : Option Nat
def awS (m : Mc) (a : AW) (_ : Nat) : AW := ⟨(awX m a.st a.S).2, a.word ++ [(awX m a.st a.S).1], match a.st with
  | none => none
  | some t => (m.row t).getD (awX m a.st a.S).1 none⟩
def awN (S : Sr) : Nat × Sr := drawN (drawN S 3).2 ([4, 9, 41].getD (drawN S 3).1 0)
def aw (m : Mc) (S : Sr) : AW := (List.range (awN S).1).foldl (awS m) ⟨(awN S).2, [], some 0⟩
structure AwI (m : Mc) (k : Nat) (a : AW) : Prop where
  len : a.word.length = k
  lets : ∀ x ∈ a.word, x < m.L
  st : ∀ t, a.st = some t → t < m.rows.length
theorem ways_lt {m : Mc} {st : Option Nat} : ∀ x ∈ ways m st, x < m.L := fun x hx => List.mem_range.mp (List.mem_filter.mp hx).1
theorem awX_lt {m : Mc} (V : VM m) (st : Option Nat) (S : Sr) : (awX m st S).1 < m.L := by
  have hL := V.L1
  unfold awX
  split
  · exact drawN_lt S hL
  · rename_i h
    split
    · have h2 : 0 < (ways m st).length := List.length_pos_iff.mpr h
      have h3 := drawN_lt (drawN (drawN S m.L).2 8).2 h2
      refine ways_lt (st := st) _ ?_
      rw [List.getD_eq_getElem?_getD, List.getElem?_eq_getElem h3]
      exact List.getElem_mem h3
    · exact drawN_lt S hL
theorem AwI.start {m : Mc} (V : VM m) (S : Sr) : AwI m 0 ⟨S, [], some 0⟩ := ⟨rfl, fun x hx => (nomatch hx), fun t e => by cases e; exact V.n1⟩
theorem AwI.step {m : Mc} (V : VM m) {k : Nat} {a : AW} (h : AwI m k a) : AwI m (k + 1) (awS m a k) := by
  refine ⟨?_, fun x hx => ?_, fun t e => ?_⟩
  · show (a.word ++ [_]).length = _
    rw [List.length_append, List.length_singleton, h.len]
  · rcases List.mem_append.mp hx with hx | hx
    · exact h.lets x hx
    · rw [List.mem_singleton.mp hx]
      exact awX_lt V _ _
  · unfold awS at e
    cases hs : a.st with
    | none => rw [hs] at e; cases e
    | some u =>
      rw [hs] at e
      exact row_lt V u t (getD_mem e)
theorem aw_ok {m : Mc} (V : VM m) (S : Sr) : AwI m (awN S).1 (aw m S) := by
  have key : ∀ k, AwI m k ((List.range k).foldl (awS m) ⟨(awN S).2, [], some 0⟩) := fun k => by
    induction k with
    | zero => exact .start V _
    | succ k ih =>
      rw [List.range_succ, List.foldl_append]
      exact ih.step V
  exact key _
def wsI (ws : List Nat) : List Int := ws.map fun (n : Nat) => (n : Int)
theorem word_lv {ws : List Nat} (h : ws.length < 1000) : lvD 1 (wordD ws) = true := by
  show (decide ((ws.map natD).length < 1000) && (ws.map natD).all (lvD 0)) = true
  rw [List.length_map, decide_eq_true h, Bool.true_and]
  exact List.all_eq_true.mpr fun d hd => by obtain ⟨x, _, rfl⟩ := List.mem_map.mp hd; rfl
theorem wordI (ws : List Nat) : wordD ws = .tup ((wsI ws).map D.int) := by
  unfold wordD wsI
  rw [List.map_map]
  rfl
theorem wsI_inj {a b : List Nat} : wsI a = wsI b ↔ a = b := ⟨fun h => (List.map_inj_right (f := fun (n : Nat) => (n : Int)) (fun x y e => Int.ofNat.inj e)).mp h, fun h => by rw [h]⟩
theorem wsI_small {ws : List Nat} {L : Nat} (h : ∀ x ∈ ws, x < L) (hL : L ≤ 48) : ∀ n ∈ wsI ws, n.natAbs < 10 ^ 39 := fun n hn => by
  obtain ⟨x, hx, rfl⟩ := List.mem_map.mp hn
  have := h x hx
  rw [Int.natAbs_natCast]
  exact Nat.lt_of_lt_of_le (show x < 48 by omega) (by decide)
theorem awN_le (S : Sr) : (awN S).1 ≤ 40 := by
  unfold awN
  have h := drawN_lt S (m := 3) (by decide)
  have h2 : ∀ k : Nat, k < 3 → 0 < [4, 9, 41].getD k 0 ∧ [4, 9, 41].getD k 0 ≤ 41 := by decide
  obtain ⟨a, b⟩ := h2 _ h
  have := drawN_lt (drawN S 3).2 a
  omega
section
variable {P : Program} {w : World} {K : PySem.W.Frag} {mg : Str → Option Value} {base : Heap} {f : Addr} {fd : FuncData} {cNum cWord cM : Addr}
def P_askw (cM : Addr) : Pr := fun dvs μ o => ∃ (S : Sr) (J : Store) (m : Mc), VM m ∧ dvs = [.own 0, .dat (mcD cM m), .dat (rwsD m), .dat (cntsD m 40), .i (m.L : Int)] ∧ μ = srC S :: J ∧ o = .ret (.b true) (srC (drawN (aw m S).S 2).2 :: J)
theorem w_askw (M : Md mg) (c : ClsK K cM mcNames) (d1 : Df P w K mg base "_law_draw" 1 2 P_draw) (d2 : Df P w K mg base "_law_rank" 1 3 P_rank) (d3 : Df P w K mg base "_law_unranked" 1 3 P_unr) (s0 : Df P w K mg base "_law_same" 1 2 (P_same 0)) (s1 : Df P w K mg base "_law_same" 2 2 (P_same 1)) (dA : Df P w K mg base "many_ahead" 5 2 (P_ahead cM cWord)) (rA : DfR P w K mg base "many_ahead" 5 2 ["word", "machine"] (P_ahead cM cWord)) (dW : Df P w K mg base "word_at" 11 2 (P_word_at cM cNum)) (dT : Dm P w K mg base cM "takes" 6 2 (P_takes cM)) (F : Fun K "_law_asked_word" "_law_asked_word" (top 45) f fd) : FnOk P w K mg base (L2N.CX P w) 12 f fd ["deck", "made", "rows", "counts", "letters"] (spD K 5 (P_askw cM)) :=
  fn_D (N := ["deck", "made", "rows", "counts", "letters", "word", "state", "k", "ways", "x", "due", "told"]) (ps := ["deck", "made", "rows", "counts", "letters"]) F ⟨rfl, rfl, rfl, by decide, rfl, by decide, by decide⟩ fun cdv A outer s H E hr tk hp dvs μ o hl hP => by
    obtain ⟨S, J, m, V, rfl, rfl, rfl⟩ := hP
    have hu : (A.deeper (envOfC "_law_asked_word" (defScope (top 45)) s.heap.objs.size f cdv)).units + 64 < cLine := by have := hr.un; omega
    have AI := aw_ok V S
    have hn := awN_le S
    let δ : AW → Slots := fun a => [some (.own 0), some (.dat (mcD cM m)), some (.dat (rwsD m)), some (.dat (cntsD m 40)), some (.i (m.L : Int)), some (.dat (wordD a.word)), some (.i (oI a.st)), none, none, none, none, none]
    have h49 : ∀ k : Nat, k < 3 → atI ([4, 9, 41].map D.int) (k : Int) = some (.int (([4, 9, 41].getD k 0 : Nat) : Int)) := fun k hk => by
      match k, hk with
      | 0, _ => rfl
      | 1, _ => rfl
      | 2, _ => rfl
    have hb : ∀ k : Nat, k < 3 → [4, 9, 41].getD k 0 < 1073741824 := by decide
    have h3 := drawN_lt S (m := 3) (by decide)
    refine Bd.ret ?_ (Keep.set (μ := srC S :: J) (k := 0) (c := srC _) rfl)
    refine .cons (.set 5 (.tup .nil) (nod_of rfl)) (.cons (δ1 := δ ⟨(awN S).2, [], some 0⟩) (.set 6 .int (nod_of rfl)) (.cons (δ1 := δ (aw m S)) (μ1 := srC (aw m S).S :: J) (.forR1 (n := ((awN S).1 : Int)) rfl (nod_of rfl) hp M.range 7 (.call d1 (hr.mono (by decide)) (.cons (.var 0 rfl) (.cons (.ixT (.tup (ds := [4, 9, 41].map D.int) (.cons .int (.cons .int (.cons .int .nil)))) (.call d1 (hr.mono (by decide)) (.cons (.var 0 rfl) (.cons .int .nil)) (P_drawN S J (m := 3) (by decide))) (h49 _ h3)) .nil)) (P_drawN (drawN S 3).2 J (hb _ h3))) (by omega) (by omega) (It1.foldU (S := AW) (n := (awN S).1) δ (fun a => srC a.S :: J) (awS m) (AwI m) (fun a k hk ha => ?_) ⟨(awN S).2, [], some 0⟩ (.start V _)).1) ?_))
    · let wI : List Int := wsI (ways m a.st)
      let r := drawN a.S m.L
      let cX := awX m a.st a.S
      have hL := V.L1
      have h48 := V.L48
      have hk40 : a.word.length < 1000 := by have := ha.len; omega
      have hcx := awX_lt V a.st a.S
      let D2 : Nat → Slots := fun x => [some (.own 0), some (.dat (mcD cM m)), some (.dat (rwsD m)), some (.dat (cntsD m 40)), some (.i (m.L : Int)), some (.dat (wordD a.word)), some (.i (oI a.st)), some (.i (k : Int)), some (.dat (.lst (wI.map D.int))), some (.i (x : Int)), none, none]
      refine ⟨ha.step V, .wk (δ1 := [some (.own 0), some (.dat (mcD cM m)), some (.dat (rwsD m)), some (.dat (cntsD m 40)), some (.i (m.L : Int)), some (.dat (wordD (a.word ++ [cX.1]))), some (.i (oI (awS m a k).st)), some (.i (k : Int)), some (.dat (.lst (wI.map D.int))), some (.i (cX.1 : Int)), none, none]) (.cons (δ1 := [some (.own 0), some (.dat (mcD cM m)), some (.dat (rwsD m)), some (.dat (cntsD m 40)), some (.i (m.L : Int)), some (.dat (wordD a.word)), some (.i (oI a.st)), some (.i (k : Int)), some (.dat (.lst (wI.map D.int))), none, none, none]) (μ1 := srC a.S :: J) (.lcOf 8 (x := "x") (j := 9) (ds := wI.map D.int) rfl (nod_of rfl) (pi_range1 (by rfl) M.range (pa_cons semE_pe pa_nil (by rfl)) (by rfl)) (blk_of rfl) (fun _ _ _ _ _ => pg_name (nod_of rfl) rfl (by first | exact .inl rfl | exact .inr rfl)) (by decide) (lcR (m := (m.L : Int)) (.var 4 rfl) (by omega) (by omega) ?_ ?_)) (.cons (δ1 := D2 r.1) (μ1 := srC r.2 :: J) (.set 9 (.call d1 (hr.mono (by decide)) (.cons (.var 0 rfl) (.cons (.var 4 rfl) .nil)) (P_drawN a.S J (m := m.L) (by omega))) (nod_of rfl)) (.cons (δ1 := D2 cX.1) (μ1 := srC cX.2 :: J) ?_ (.cons (.set 5 (.to (.bin (.var 5 rfl) (.tup (ds := [natD cX.1]) (.cons (.var 9 rfl) .nil)) (.catT ?_)) ?_) (nod_of rfl)) (.one (.set 6 ?_ (nod_of rfl)))))))⟩
      · rw [Int.toNat_natCast, upto_map]
        show Lc _ _ _ (((wsI ((List.range m.L).filter (wayB m a.st))).map D.int).map DV.dat) _
        unfold wsI
        rw [List.map_map, List.map_map]
        refine Lc.filt2 (wayB m a.st) _ _ (fun x hx hp' => ?_) (fun x hx hp' => ?_)
        · have hx' := List.mem_range.mp hx
          cases hs : a.st with
          | none => rw [hs] at hp'; cases hp'
          | some u =>
            rw [hs] at hp'
            have hul := ha.st u hs
            cases ho : (m.row u).getD x none with
            | none => rw [wayB_some, ho] at hp'; cases hp'
            | some v => exact .yes (.one fun s1 H1 cl C fp => .w (.andT (.to (.cmp (.to (.var 6 rfl) (dv' := .i (u : Int)) (by rw [hs]; rfl)) .int .ge) (decide_eq_true (Int.natCast_nonneg u))) (.and1 (.to (.cmp (.ixD (.ixD (.var 2 rfl) (.to (.var 6 rfl) (dv' := .i (u : Int)) (by rw [hs]; rfl)) (rws_at V hul)) (.var 9 rfl) (oI_ix (by rw [V.row_len hul]; exact hx'))) .int .ge) (by rw [ho]; exact some_ge))))) (.of fun s1 H1 cl C fp => .var 9 rfl)
        · have hx' := List.mem_range.mp hx
          cases hs : a.st with
          | none => exact .no (.one fun s1 H1 cl C fp => .w (.andF (.to (.cmp (.to (.var 6 rfl) (dv' := .i (-1)) (by rw [hs]; rfl)) .int .ge) rfl)))
          | some u =>
            rw [hs] at hp'
            have hul := ha.st u hs
            cases ho : (m.row u).getD x none with
            | none => exact .no (.one fun s1 H1 cl C fp => .w (.andT (.to (.cmp (.to (.var 6 rfl) (dv' := .i (u : Int)) (by rw [hs]; rfl)) .int .ge) (decide_eq_true (Int.natCast_nonneg u))) (.and1 (.to (.cmp (.ixD (.ixD (.var 2 rfl) (.to (.var 6 rfl) (dv' := .i (u : Int)) (by rw [hs]; rfl)) (rws_at V hul)) (.var 9 rfl) (oI_ix (by rw [V.row_len hul]; exact hx'))) .int .ge) (by rw [ho]; exact none_ge)))))
            | some v => rw [wayB_some, ho] at hp'; cases hp'
      · rw [List.length_map, List.length_map]
        show (wsI ((List.range m.L).filter (wayB m a.st))).length ≤ _
        unfold wsI
        rw [List.length_map]
        have h1 := List.length_filter_le (wayB m a.st) (List.range m.L)
        rw [List.length_range] at h1
        omega
      · have hwi : ∀ n ∈ wI, n.natAbs < 10 ^ 39 := wsI_small ways_lt h48
        by_cases hw : ways m a.st = []
        · have e : cX = r := if_pos hw
          rw [e]
          exact .ifF (.w (.andF (.to (.cmp (.var 8 rfl) (.lst (ds := ([] : List Int).map D.int) .nil) (.neLs hu hwi (fun n hn => nomatch hn))) (by show (!decide (wsI (ways m a.st) = [])) = false; rw [hw]; rfl)))) .nil
        · have hne : ¬ wI = [] := fun z => hw (List.map_eq_nil_iff.mp z)
          have hwl : 0 < (ways m a.st).length := List.length_pos_iff.mpr hw
          have hl48 : (ways m a.st).length ≤ 48 := by
            have h1 := List.length_filter_le (wayB m a.st) (List.range m.L)
            rw [List.length_range] at h1
            exact Nat.le_trans h1 h48
          by_cases h8 : 0 < (drawN r.2 8).1
          · have e : cX = ((ways m a.st).getD (drawN (drawN r.2 8).2 (ways m a.st).length).1 0, (drawN (drawN r.2 8).2 (ways m a.st).length).2) := by
              show (if (ways m a.st) = [] then _ else if 0 < (drawN (drawN a.S m.L).2 8).1 then _ else _) = _
              rw [if_neg hw, if_pos h8]
            rw [e]
            have h3 := drawN_lt (drawN r.2 8).2 hwl
            exact .ifT (.w (.andT (.to (.cmp (.var 8 rfl) (.lst (ds := ([] : List Int).map D.int) .nil) (.neLs hu hwi (fun n hn => nomatch hn))) (by rw [decide_eq_false hne]; rfl)) (.and1 (.to (.cmp (.call d1 (hr.mono (by decide)) (.cons (.var 0 rfl) (.cons .int .nil)) (P_drawN r.2 J (m := 8) (by decide))) .int .gt) (decide_eq_true (by omega)))))) (.one (.set 9 (.ixD (.var 8 rfl) (.call d1 (hr.mono (by decide)) (.cons (.var 0 rfl) (.cons (.to (.blt M.len (.cons (.var 8 rfl) .nil) (CallS.lenL .dt)) (dv' := .i (((ways m a.st).length : Nat) : Int)) (by rw [List.length_map, List.length_map]; exact congrArg DV.i (congrArg Int.ofNat (List.length_map ..)))) .nil)) (P_drawN (drawN r.2 8).2 J (by omega))) (by
              refine atI_nat ?_
              show ((wsI (ways m a.st)).map D.int)[_]? = _
              unfold wsI
              rw [List.getElem?_map, List.getElem?_map, List.getElem?_eq_getElem h3, List.getD_eq_getElem?_getD, List.getElem?_eq_getElem h3]
              rfl)) (nod_of rfl)))
          · have e : cX = (r.1, (drawN r.2 8).2) := by
              show (if (ways m a.st) = [] then _ else if 0 < (drawN (drawN a.S m.L).2 8).1 then _ else _) = _
              rw [if_neg hw, if_neg h8]
            rw [e]
            exact .ifF (.w (.andT (.to (.cmp (.var 8 rfl) (.lst (ds := ([] : List Int).map D.int) .nil) (.neLs hu hwi (fun n hn => nomatch hn))) (by rw [decide_eq_false hne]; rfl)) (.and1 (.to (.cmp (.call d1 (hr.mono (by decide)) (.cons (.var 0 rfl) (.cons .int .nil)) (P_drawN r.2 J (m := 8) (by decide))) .int .gt) (decide_eq_false (by omega)))))) .nil
      · rw [List.length_map, List.length_singleton]
        omega
      · show DV.dat (.tup (a.word.map natD ++ [natD cX.1])) = .dat (.tup ((a.word ++ [cX.1]).map natD))
        rw [List.map_append]
        rfl
      · show Ev _ _ _ _ (.i (oI (match a.st with | none => none | some t => (m.row t).getD cX.1 none))) _
        cases hs : a.st with
        | none => exact .ifF (.to (.cmp (.to (.var 6 rfl) (dv' := .i (-1)) (by rw [hs]; rfl)) .int .ge) rfl) (.neg .int)
        | some u =>
          have hul := ha.st u hs
          exact .ifT (.to (.cmp (.to (.var 6 rfl) (dv' := .i (u : Int)) (by rw [hs]; rfl)) .int .ge) (decide_eq_true (Int.natCast_nonneg u))) (.ixD (.ixD (.var 2 rfl) (.to (.var 6 rfl) (dv' := .i (u : Int)) (by rw [hs]; rfl)) (rws_at V hul)) (.var 9 rfl) (oI_ix (by rw [V.row_len hul]; exact hcx)))
    · have hlen : (aw m S).word.length ≤ 40 := by rw [AI.len]; exact hn
      have hlets := AI.lets
      generalize aw m S = a at hlen hlets
      let r := rankF m a.word
      let S2 := (drawN a.S 2).2
      have okr : lvD 0 (.int (r : Int)) = true := rfl
      have hw1 : lvD 1 (wordD a.word) = true := word_lv (by omega)
      refine .cons (δ1 := (δ a).set 10 (some (.i (r : Int)))) (μ1 := srC a.S :: J) (.set 10 (.call d2 (hr.mono (by decide)) (.cons (.var 2 rfl) (.cons (.var 3 rfl) (.cons (.var 5 rfl) .nil))) ⟨m, 40, a.word, V, by decide, hlen, hlets, rfl, rfl⟩) (nod_of rfl)) ?_
      refine .cons (δ1 := ((δ a).set 10 (some (.i (r : Int)))).set 11 (some (.i (r : Int)))) (μ1 := srC S2 :: J) (.set 11 ?_ (nod_of rfl)) ?_
      · by_cases h0 : (drawN a.S 2).1 = 0
        · exact .ifT (.to (.cmp (.call d1 (hr.mono (by decide)) (.cons (.var 0 rfl) (.cons .int .nil)) (P_drawN a.S J (m := 2) (by decide))) .int .eqI) (decide_eq_true (by omega))) (.call dA (hr.mono (by decide)) (.cons (.var 1 rfl) (.cons (.var 5 rfl) .nil)) ⟨m, wordD a.word, V, word_okW (by omega), rfl, .inr ⟨a.word, rfl, hlets, by omega, rfl⟩⟩)
        · exact .ifF (.to (.cmp (.call d1 (hr.mono (by decide)) (.cons (.var 0 rfl) (.cons .int .nil)) (P_drawN a.S J (m := 2) (by decide))) .int .eqI) (decide_eq_false (by omega))) (.callR tk rA (hr.mono (by decide)) (.cons (.var 5 rfl) (.cons (.var 1 rfl) .nil)) ⟨m, wordD a.word, V, word_okW (by omega), rfl, .inr ⟨a.word, rfl, hlets, by omega, rfl⟩⟩)
      refine .cons (.ifF (.notF (.val (.call s0 (hr.mono (by decide)) (.cons (.var 11 rfl) (.cons (.var 10 rfl) .nil)) ⟨.int (r : Int), rfl, rfl, rfl⟩))) .nil) ?_
      have ew := wordI a.word
      have hs1 := wsI_small hlets (by have := V.L48; exact this)
      by_cases h12 : (r : Int) < 10 ^ 12
      · cases hf : fl m 41 0 r with
        | none =>
          refine .cons (.ifF (.w (.andT (.to (.cmp (.var 10 rfl) (.bin .int .int (.pow ⟨by decide, by decide, by decide⟩)) .lt) (decide_eq_true h12)) (.and1 (.cmp (.call d3 (hr.mono (by decide)) (.cons (.var 2 rfl) (.cons (.var 3 rfl) (.cons (.var 10 rfl) .nil))) ⟨m, 40, r, V, by decide, rfl, ?_⟩) (.to (.var 5 rfl) (congrArg DV.dat ew)) (.eqNT hu hs1))))) .nil) (.one (.ret .bl))
          unfold unrF
          rw [hf]
        | some p =>
          obtain ⟨len, left⟩ := p
          obtain ⟨_, _, c1, c2⟩ := fl_some hf
          have hs2 := wsI_small (wo_lets V V.n1 c1) (by have := V.L48; exact this)
          have eu : P_unr [.dat (rwsD m), .dat (cntsD m 40), .i (r : Int)] (srC S2 :: J) (.ret (.dat (.tup ((wsI (wo m len 0 left)).map D.int))) (srC S2 :: J)) := by
            refine ⟨m, 40, r, V, by decide, rfl, ?_⟩
            unfold unrF
            rw [hf, ← wordI]
          by_cases he : wo m len 0 left = a.word
          · refine .stop (.ifT (.w (.andT (.to (.cmp (.var 10 rfl) (.bin .int .int (.pow ⟨by decide, by decide, by decide⟩)) .lt) (decide_eq_true h12)) (.and1 (.to (.cmp (.call d3 (hr.mono (by decide)) (.cons (.var 2 rfl) (.cons (.var 3 rfl) (.cons (.var 10 rfl) .nil))) eu) (.to (.var 5 rfl) (congrArg DV.dat ew)) (.eqTs hu hs2 hs1)) (decide_eq_true (wsI_inj.mpr he)))))) (.one (.ret (.andT (.call s1 (hr.mono (by decide)) (.cons (.call dW hr (.cons (.var 1 rfl) (.cons (.var 10 rfl) .nil)) ⟨m, natD r, "int", V, rfl, rfl, .inr (.inr ⟨r, 41, len, left, rfl, fun v hv => fl_tot V hf hv, by decide, hf, rfl⟩)⟩) (.cons (.var 5 rfl) .nil)) ⟨wordD a.word, hw1, by rw [he], rfl⟩) (.last (.to (.cmp (.meth c dT (hr.mono (by decide)) (.var 1 rfl) .dat rfl (.cons (.var 5 rfl) .nil) ⟨m, a.word, V, rfl, hlets, by omega, rfl⟩) .bl .isB) ?_))))))
            rw [← he, takes_wo V c1]
            rfl
          · exact .cons (.ifF (.w (.andT (.to (.cmp (.var 10 rfl) (.bin .int .int (.pow ⟨by decide, by decide, by decide⟩)) .lt) (decide_eq_true h12)) (.and1 (.to (.cmp (.call d3 (hr.mono (by decide)) (.cons (.var 2 rfl) (.cons (.var 3 rfl) (.cons (.var 10 rfl) .nil))) eu) (.to (.var 5 rfl) (congrArg DV.dat ew)) (.eqTs hu hs2 hs1)) (decide_eq_false (fun z => he (wsI_inj.mp z))))))) .nil) (.one (.ret .bl))
      · exact .cons (.ifF (.w (.andF (.to (.cmp (.var 10 rfl) (.bin .int .int (.pow ⟨by decide, by decide, by decide⟩)) .lt) (decide_eq_false h12)))) .nil) (.one (.ret .bl))
end
end Dt.K84
set_option maxHeartbeats 4000000
/-! k84: the law's own defs: the number asked for. -/
namespace Dt.K84
open PySem PySem.Spec L2 Dt
open PyProof.Rows (envOfC)
theorem osum_le {f : Nat → Nat} {b : Nat} (h : ∀ t, f t ≤ b) : ∀ r : List (Option Nat), osum f r ≤ r.length * b
  | [] => Nat.zero_le _
  | none :: r => by
    have := osum_le h r
    show osum f r ≤ (r.length + 1) * b
    rw [Nat.add_mul]
    omega
  | some t :: r => by
    have := osum_le h r
    have := h t
    show f t + osum f r ≤ (r.length + 1) * b
    rw [Nat.add_mul]
    omega
theorem row_len4 {m : Mc} (V : VM m) (h4 : m.L ≤ 4) (s : Nat) : (m.row s).length ≤ 4 := by
  by_cases h : s < m.rows.length
  · rw [V.row_len h]
    exact h4
  · unfold Mc.row
    rw [List.getD_eq_getElem?_getD, List.getElem?_eq_none (by omega)]
    exact Nat.zero_le _
theorem cnt_le {m : Mc} (V : VM m) (h4 : m.L ≤ 4) : ∀ n s, cnt m n s ≤ 4 ^ n
  | 0, s => ed_le V s
  | n + 1, s => by
    have h1 := osum_le (f := cnt m n) (cnt_le V h4 n) (m.row s)
    have h2 := Nat.mul_le_mul_right (4 ^ n) (row_len4 V h4 s)
    show osum (cnt m n) (m.row s) ≤ 4 ^ (n + 1)
    rw [Nat.pow_succ, Nat.mul_comm (4 ^ n) 4]
    omega
theorem sumC_le {m : Mc} (V : VM m) (h4 : m.L ≤ 4) : ∀ k, sumC m k ≤ 4 ^ k
  | 0 => Nat.zero_le _
  | k + 1 => by
    have h1 := sumC_le V h4 k
    have h2 := cnt_le V h4 k 0
    rw [sumC_succ, Nat.pow_succ]
    omega
theorem tot_le {m : Mc} (V : VM m) (h4 : m.L ≤ 4) (h12 : m.rows.length ≤ 12) {v : Nat} (h : totOf m = some v) : v ≤ 16777216 := by
  obtain ⟨_, hL⟩ := leastOf_ok V
  obtain ⟨_, h2⟩ := tot_some V h
  have e : v = sumC m (leastOf m).rows.length := h2
  rw [e]
  have h3 := sumC_mono m (show (leastOf m).rows.length ≤ 12 by omega)
  have h5 := sumC_le V h4 12
  have : (4 : Nat) ^ 12 = 16777216 := by decide
  omega
/-- the number asked for -/
def anB (m : Mc) (S : Sr) : Nat := if [5, 50, 1000000, 1000000000000].getD (drawN S 4).1 0 < sumC m 41 then [5, 50, 1000000, 1000000000000].getD (drawN S 4).1 0 else sumC m 41
def anS2 (S : Sr) : Sr := (drawN (drawN (drawN S 4).2 1000000).2 1000000).2
def anN (m : Mc) (S : Sr) : Nat := ((drawN (drawN S 4).2 1000000).1 * 1000000 + (drawN (drawN (drawN S 4).2 1000000).2 1000000).1) % anB m S
def anS (m : Mc) (S : Sr) : Sr := if 0 < anB m S then (drawN (anS2 S) 2).2 else (drawN S 4).2
def anF (m : Mc) (S : Sr) : Sr := match totOf m with
  | none => anS m S
  | some _ => (drawN (anS m S) 9).2
theorem anN_lt {m : Mc} {S : Sr} (h : 0 < anB m S) : anN m S < sumC m 41 := by
  have h1 : anN m S < anB m S := Nat.mod_lt _ h
  have h2 : anB m S ≤ sumC m 41 := by
    unfold anB
    split <;> omega
  omega
end Dt.K84
set_option maxHeartbeats 4000000
/-! k84: the law's own defs: the number asked for. -/
namespace Dt.K84
open PySem PySem.Spec L2 Dt
open PyProof.Rows (envOfC)
theorem cast_num (a b c k : Nat) : ((a : Int) * (k : Int) + (b : Int)) % (c : Int) = (((a * k + b) % c : Nat) : Int) := by rw [Int.natCast_emod, Int.natCast_add, Int.natCast_mul]
def far (m : Mc) (S : Sr) : Sr := match totOf m with
  | none => S
  | some _ => (drawN S 9).2
theorem anF_far (m : Mc) (S : Sr) : anF m S = far m (anS m S) := rfl
section
variable {P : Program} {w : World} {K : PySem.W.Frag} {mg : Str → Option Value} {base : Heap} {f : Addr} {fd : FuncData} {cNum cWord cM : Addr}
def P_askn (cM : Addr) : Pr := fun dvs μ o => ∃ (S : Sr) (J : Store) (m : Mc), VM m ∧ m.L ≤ 4 ∧ m.rows.length ≤ 12 ∧ dvs = [.own 0, .dat (mcD cM m), .dat (rwsD m), .dat (cntsD m 40), .dat (optD (totOf m))] ∧ μ = srC S :: J ∧ o = .ret (.b true) (srC (anF m S) :: J)
theorem w_askn (M : Md mg) (d1 : Df P w K mg base "_law_draw" 1 2 P_draw) (d3 : Df P w K mg base "_law_unranked" 1 3 P_unr) (s0 : Df P w K mg base "_law_same" 1 2 (P_same 0)) (s1 : Df P w K mg base "_law_same" 2 2 (P_same 1)) (dA : Df P w K mg base "many_ahead" 5 2 (P_ahead cM cWord)) (dW : Df P w K mg base "word_at" 11 2 (P_word_at cM cNum)) (rW : DfR P w K mg base "word_at" 11 2 ["number", "machine"] (P_word_at cM cNum)) (F : Fun K "_law_asked_number" "_law_asked_number" (top 46) f fd) : FnOk P w K mg base (L2N.CX P w) 12 f fd ["deck", "made", "rows", "counts", "many"] (spD K 5 (P_askn cM)) :=
  fn_D (N := ["deck", "made", "rows", "counts", "many", "together", "bound", "number", "due", "told", "far", "row"]) (ps := ["deck", "made", "rows", "counts", "many"]) F ⟨rfl, rfl, rfl, by decide, rfl, by decide, by decide⟩ fun cdv A outer s H E hr tk hp dvs μ o hl hP => by
    obtain ⟨S, J, m, V, h4, h12, rfl, rfl, rfl⟩ := hP
    have hN : 0 < m.rows.length := V.n1
    have r0 : ∀ j, atI ((List.range m.rows.length).map fun s => natD (cnt m j s)) ((0 : Nat) : Int) = some (natD (cnt m j 0)) := fun j => rowC_at hN
    let T : Nat → Nat := fun k => [5, 50, 1000000, 1000000000000].getD k 0
    have hT : ∀ k : Nat, k < 4 → atI ([5, 50, 10 ^ 6, 10 ^ 12].map D.int) (k : Int) = some (.int ((T k : Nat) : Int)) := fun k hk => by
      match k, hk with
      | 0, _ => rfl
      | 1, _ => rfl
      | 2, _ => rfl
      | 3, _ => rfl
    have h3 := drawN_lt S (m := 4) (by decide)
    let δ0 : Slots := [some (.own 0), some (.dat (mcD cM m)), some (.dat (rwsD m)), some (.dat (cntsD m 40)), some (.dat (optD (totOf m))), some (.i (sumC m 41 : Nat)), some (.i (anB m S : Nat)), none, none, none, none, none]
    rw [anF_far]
    refine Bd.ret ?_ (Keep.set (μ := srC S :: J) (k := 0) (c := srC _) rfl)
    refine .cons (δ1 := [some (.own 0), some (.dat (mcD cM m)), some (.dat (rwsD m)), some (.dat (cntsD m 40)), some (.dat (optD (totOf m))), some (.i (sumC m 41 : Nat)), none, none, none, none, none, none]) (μ1 := srC S :: J) (.set 5 (.to (.blt M.sum (.cons (.to (.lcLa 11 (List.range 41) (rowC m) (fun n => natD (cnt m n 0)) (.var 3 rfl) (fun i hi s1 H1 cl C fp => .ixD (ds := (List.range m.rows.length).map fun s => natD (cnt m i s)) (.var 11 rfl) .int (r0 i)) (by rw [List.length_range]; decide)) (dv' := .dat (.lst (((List.range 41).map fun n => ((cnt m n 0 : Nat) : Int)).map D.int))) (by rw [List.map_map]; rfl)) .nil) (CallS.sum rfl)) (by rw [sum_cast]; rfl)) (nod_of rfl)) ?_
    refine .cons (δ1 := δ0) (μ1 := srC (drawN S 4).2 :: J) (.set 6 (.to (.blt M.min (.cons (.var 5 rfl) (.cons (.ixT (.tup (ds := [5, 50, 10 ^ 6, 10 ^ 12].map D.int) (.cons .int (.cons .int (.cons (.bin .int .int (.pow ⟨by decide, by decide, by decide⟩)) (.cons (.bin .int .int (.pow ⟨by decide, by decide, by decide⟩)) .nil))))) (.call d1 (hr.mono (by decide)) (.cons (.var 0 rfl) (.cons .int .nil)) (P_drawN S J (m := 4) (by decide))) (hT _ h3)) .nil)) (CallS.min2 rfl)) ?_) (nod_of rfl)) ?_
    · show DV.i (if ((T (drawN S 4).1 : Nat) : Int) < ((sumC m 41 : Nat) : Int) then _ else _) = .i ((if T (drawN S 4).1 < sumC m 41 then T (drawN S 4).1 else sumC m 41 : Nat) : Int)
      generalize T (drawN S 4).1 = x
      generalize sumC m 41 = y
      by_cases h : x < y
      · rw [if_pos (Int.ofNat_lt.mpr h), if_pos h]
      · rw [if_neg (fun z => h (Int.ofNat_lt.mp z)), if_neg h]
    refine .cons (δ1 := δ0) (μ1 := srC (anS m S) :: J) ?_ ?_
    · by_cases hb : 0 < anB m S
      · have e : anS m S = (drawN (anS2 S) 2).2 := if_pos hb
        rw [e]
        have hn := anN_lt hb
        obtain ⟨len, left, hf⟩ := fl_ex (k := 40) hn
        obtain ⟨_, _, c1, c2⟩ := fl_some hf
        refine .ifT (.to (.cmp (.var 6 rfl) .int .gt) (decide_eq_true (by omega))) ?_
        have hre := rank_fl V hf
        have hlets := wo_lets V V.n1 c1
        have hlen := wo_len c1
        obtain ⟨num, hnum⟩ : ∃ n, n = anN m S := ⟨_, rfl⟩
        rw [← hnum] at hf hre
        obtain ⟨wd, hwd⟩ : ∃ w, w = wo m len 0 left := ⟨_, rfl⟩
        rw [← hwd] at hre hlets hlen
        have hl40 : wd.length ≤ 40 := by rw [hlen]; omega
        have hu : unrF m 40 num = wordD wd := by unfold unrF; rw [hf, hwd]
        have p6 : DV.i ((10 : Int) ^ (6 : Int).toNat) = .i ((1000000 : Nat) : Int) := rfl
        have hPW : ∀ {μ : Store}, P_word_at cM cNum [.dat (mcD cM m), .dat (natD num)] μ (.ret (.dat (wordD wd)) μ) := fun {μ} => ⟨m, natD num, "int", V, rfl, rfl, .inr (.inr ⟨num, 41, len, left, rfl, fun v hv => fl_tot V hf hv, by decide, hf, by rw [hwd]⟩)⟩
        have hPA : ∀ {μ : Store}, P_ahead cM cWord [.dat (mcD cM m), .dat (wordD wd)] μ (.ret (.dat (natD num)) μ) := fun {μ} => ⟨m, wordD wd, V, word_okW (by omega), rfl, .inr ⟨wd, rfl, hlets, by omega, by rw [hre]; rfl⟩⟩
        refine .wk (δ1 := ((δ0.set 7 (some (.dat (natD num)))).set 8 (some (.dat (wordD wd)))).set 9 (some (.dat (wordD wd)))) (.cons (δ1 := δ0.set 7 (some (.dat (natD num)))) (μ1 := srC (anS2 S) :: J) (.set 7 (.to (.bin (.tyc M.int (.cons (.bin (.bin (.call d1 (hr.mono (by decide)) (.cons (.var 0 rfl) (.cons (.to (.bin .int .int (.pow ⟨by decide, by decide, by decide⟩)) p6) .nil)) (P_drawN (drawN S 4).2 J (m := 1000000) (by decide))) (.to (.bin .int .int (.pow ⟨by decide, by decide, by decide⟩)) p6) (.mul (.inr ⟨by decide, by decide⟩))) (.call d1 (hr.mono (by decide)) (.cons (.var 0 rfl) (.cons (.to (.bin .int .int (.pow ⟨by decide, by decide, by decide⟩)) p6) .nil)) (P_drawN (drawN (drawN S 4).2 1000000).2 J (m := 1000000) (by decide))) .add) .nil) CallS.intI) (.var 6 rfl) (.modP (by omega))) ?_) (nod_of rfl)) (.cons (δ1 := (δ0.set 7 (some (.dat (natD num)))).set 8 (some (.dat (wordD wd)))) (μ1 := srC (anS2 S) :: J) (.set 8 (.call d3 (hr.mono (by decide)) (.cons (.var 2 rfl) (.cons (.var 3 rfl) (.cons (.var 7 rfl) .nil))) ⟨m, 40, num, V, by decide, rfl, by rw [hu]⟩) (nod_of rfl)) ?_))
        · rw [hnum]
          exact congrArg DV.i (cast_num _ _ _ _)
        · generalize anS2 S = S2
          refine .cons (δ1 := ((δ0.set 7 (some (.dat (natD num)))).set 8 (some (.dat (wordD wd)))).set 9 (some (.dat (wordD wd)))) (μ1 := srC (drawN S2 2).2 :: J) (.set 9 ?_ (nod_of rfl)) ?_
          · by_cases h0 : (drawN S2 2).1 = 0
            · exact .ifT (.to (.cmp (.call d1 (hr.mono (by decide)) (.cons (.var 0 rfl) (.cons .int .nil)) (P_drawN S2 J (m := 2) (by decide))) .int .eqI) (decide_eq_true (by omega))) (.call dW hr (.cons (.var 1 rfl) (.cons (.var 7 rfl) .nil)) hPW)
            · exact .ifF (.to (.cmp (.call d1 (hr.mono (by decide)) (.cons (.var 0 rfl) (.cons .int .nil)) (P_drawN S2 J (m := 2) (by decide))) .int .eqI) (decide_eq_false (by omega))) (.callR tk rW hr (.cons (.var 7 rfl) (.cons (.var 1 rfl) .nil)) hPW)
          · exact .one (.ifF (.w (.orF (.notF (.val (.call s1 (hr.mono (by decide)) (.cons (.var 9 rfl) (.cons (.var 8 rfl) .nil)) ⟨wordD wd, word_lv (by omega), rfl, rfl⟩))) (.or1 (.notF (.val (.call s0 (hr.mono (by decide)) (.cons (.call dA (hr.mono (by decide)) (.cons (.var 1 rfl) (.cons (.var 8 rfl) .nil)) hPA) (.cons (.var 7 rfl) .nil)) ⟨natD num, rfl, rfl, rfl⟩)))))) .nil)
      · have e : anS m S = (drawN S 4).2 := if_neg hb
        rw [e]
        exact .ifF (.to (.cmp (.var 6 rfl) .int .gt) (decide_eq_false (by omega))) .nil
    generalize anS m S = S1
    have eF : ∀ v, totOf m = some v → far m S1 = (drawN S1 9).2 := fun v hv => by unfold far; rw [hv]
    have eN : totOf m = none → far m S1 = S1 := fun hv => by unfold far; rw [hv]
    rcases hv : totOf m with _ | v
    · rw [eN hv]
      exact .cons (.ifF (.to (.cmp (.to (.var 4 rfl) (dv' := .n) (by rw [hv]; rfl)) .non .notN) rfl) .nil) (.one (.ret .bl))
    · rw [eF v hv]
      have hv2 := tot_le V h4 h12 hv
      have hw : ∀ n : Nat, v ≤ n → ∀ μ, P_word_at cM cNum [.dat (mcD cM m), .dat (natD n)] μ (.ret .n μ) := fun n hn μ => ⟨m, natD n, "int", V, rfl, rfl, .inr (.inl ⟨n, v, rfl, hv, hn, rfl⟩)⟩
      have p12 : DV.i ((10 : Int) ^ (12 : Int).toNat - 1) = .dat (natD 999999999999) := rfl
      have hvv : DV.dat (optD (totOf m)) = .dat (natD v) := by rw [hv]; rfl
      refine .cons (δ1 := δ0) (.ifT (.to (.cmp (.to (.var 4 rfl) hvv) .non .notN) rfl) (.one (.forL (ds := [natD v, natD (v + 1 + (drawN S1 9).1), natD 999999999999]) rfl (nod_of rfl) hp 10 (.lst (.cons (.to (.var 4 rfl) hvv) (.cons (.to (.bin (.bin (.to (.var 4 rfl) hvv) .int .add) (.call d1 (hr.mono (by decide)) (.cons (.var 0 rfl) (.cons .int .nil)) (P_drawN S1 J (m := 9) (by decide))) .add) ?_) (.cons (.to (.bin (.bin .int .int (.pow ⟨by decide, by decide, by decide⟩)) .int .sub) p12) .nil)))) (It1.stay fun x hx => ?_)))) (.one (.ret .bl))
      · exact congrArg DV.i (by rw [Int.natCast_add, Int.natCast_add]; rfl)
      · have hx' : ∃ n, v ≤ n ∧ x = .dat (natD n) := by
          simp only [List.map_cons, List.map_nil, List.mem_cons, List.not_mem_nil, or_false] at hx
          rcases hx with e | e | e
          · exact ⟨_, Nat.le_refl _, e⟩
          · exact ⟨_, by omega, e⟩
          · exact ⟨_, by omega, e⟩
        obtain ⟨n, hn, rfl⟩ := hx'
        exact Xb.wk (δ1 := δ0.set 10 (some (.dat (natD n)))) (.one (.ifF (.to (.cmp (.call dW hr (.cons (.var 1 rfl) (.cons (.var 10 rfl) .nil)) (hw n hn _)) .non .notN) rfl) .nil))
end
end Dt.K84
set_option maxHeartbeats 4000000
/-! k84: the law's own defs: what is refused. -/
namespace Dt.K84
open PySem PySem.Spec L2 Dt
open PyProof.Rows (envOfC)
structure Em (K : PySem.W.Frag) (cNum cWord : Addr) : Prop where
  nn : PySem.W.exmOne K (.ref cNum) (.ref cNum) = some true
  ww : PySem.W.exmOne K (.ref cWord) (.ref cWord) = some true
  xN : XfC K cNum
  xW : XfC K cWord
  fN : PySem.W.findIn K (.ref cNum) "value" = some none
  fW : PySem.W.findIn K (.ref cWord) "value" = some none
def RpOk (d : D) : Prop := (dispD d = true ∧ Sho 3 200 d) ∨ (flatD d = true ∧ (∀ x, d = .str x → (reprText x).length ≤ sizeLine) ∧ ∀ i, d = .int i → i.natAbs.log2 < 1920)
theorem rp_call {d : D} (h : RpOk d) : ∃ t : Str, ∀ (Y : Cx) (μ : Store), Y.A.guards = some [] → Y.A.units + 64 < cLine → CallS Y (.builtin "repr") [.dat d] μ (.s t) μ := by
  rcases h with ⟨a, b⟩ | ⟨a, b, c⟩
  · exact ⟨_, fun Y μ hg hu => CallS.repr hg hu b (by decide) (by decide) a⟩
  · exact ⟨_, fun Y μ _ _ => CallS.reprF a b c⟩
theorem neq_sameS {X : Cx} {δ : Slots} {μ μ1 μ2 : Store} {a b : Expr} {t : Str} {pos : Pos} (h1 : Ev X a δ μ (.s t) μ1) (h2 : Ev X b δ μ1 (.s t) μ2) : Et X (.Compare a [.NotEq] [b] pos) δ μ false μ2 :=
  .to (.cmp h1 h2 .neS) (by simp)
def values1 (L : Nat) : List D := [.lst [], .tup [.int (L : Int)], .tup [.int 0, .int (-1)], .str "", .non, .tup [.bl true], .tup [.tup []], .int 1]
def values2 : List D := [.int (-1), .bl false, .non, .str "1", .tup [], .lst [.int 1]]
theorem rp_i {i : Int} (h : i.natAbs.log2 < 1920) : RpOk (.int i) := .inr ⟨rfl, fun _ e => (nomatch e), fun _ e => by cases e; exact h⟩
theorem rp_n : RpOk .non := .inr ⟨rfl, fun _ e => (nomatch e), fun _ e => (nomatch e)⟩
theorem rp_b {b : Bool} : RpOk (.bl b) := .inr ⟨rfl, fun _ e => (nomatch e), fun _ e => (nomatch e)⟩
theorem rp_s {x : Str} (h : (reprText x).length ≤ sizeLine) : RpOk (.str x) := .inr ⟨rfl, fun _ e => by cases e; exact h, fun _ e => (nomatch e)⟩
theorem vals1 {L : Nat} (h : L ≤ 4) : ∀ d ∈ values1 L, okW d = true ∧ isWordD (L : Int) d = false ∧ RpOk d := by
  intro d hd
  have hs : Sho 0 0 (.int (L : Int)) := Sho.int (by rw [Int.natAbs_natCast]; exact Nat.lt_of_lt_of_le (show L < 5 by omega) (by decide))
  simp only [values1, List.mem_cons, List.not_mem_nil, or_false] at hd
  rcases hd with e | e | e | e | e | e | e | e <;> subst e
  · exact ⟨rfl, rfl, .inl ⟨rfl, rfl, by decide, by decide⟩⟩
  · refine ⟨rfl, ?_, .inl ⟨rfl, (Sho.tup (Shos.cons hs (Shos.nil (n := 0)))).mono (by decide) (by decide)⟩⟩
    show ((isNumD _ && decide ((L : Int) < (L : Int))) && true) = false
    rw [decide_eq_false (by omega)]
    simp
  · exact ⟨rfl, by simp [isWordD, isNumD], .inl ⟨rfl, by decide, by decide, by decide⟩⟩
  · exact ⟨rfl, rfl, rp_s (by decide +kernel)⟩
  · exact ⟨rfl, rfl, rp_n⟩
  · exact ⟨rfl, by simp [isWordD, isNumD], .inl ⟨rfl, rfl, by decide, by decide⟩⟩
  · exact ⟨rfl, by simp [isWordD, isNumD], .inl ⟨rfl, rfl, by decide, by decide⟩⟩
  · exact ⟨rfl, rfl, rp_i (by decide +kernel)⟩
theorem vals2 : ∀ d ∈ values2, (∃ t, tyOf d = some t) ∧ isNumD d = false ∧ RpOk d := by
  intro d hd
  simp only [values2, List.mem_cons, List.not_mem_nil, or_false] at hd
  rcases hd with e | e | e | e | e | e <;> subst e
  · exact ⟨⟨_, rfl⟩, rfl, rp_i (by decide +kernel)⟩
  · exact ⟨⟨_, rfl⟩, rfl, rp_b⟩
  · exact ⟨⟨_, rfl⟩, rfl, rp_n⟩
  · exact ⟨⟨_, rfl⟩, rfl, rp_s (by decide +kernel)⟩
  · exact ⟨⟨_, rfl⟩, rfl, .inl ⟨rfl, rfl, by decide, by decide⟩⟩
  · exact ⟨⟨_, rfl⟩, rfl, .inl ⟨rfl, by decide, by decide, by decide⟩⟩
section
variable {P : Program} {w : World} {K : PySem.W.Frag} {mg : Str → Option Value} {base : Heap} {f : Addr} {fd : FuncData} {cNum cWord cM : Addr}
def P_refused (cM : Addr) : Pr := fun dvs μ o => ∃ m : Mc, VM m ∧ m.L ≤ 4 ∧ dvs = [.dat (mcD cM m), .i (m.L : Int)] ∧ o = .ret (.b true) μ
theorem w_refused (M : Md mg) (N1 : mg "InvalidWord" = some (.ref cWord)) (N2 : mg "InvalidNumber" = some (.ref cNum)) (E0 : Em K cNum cWord) (dA : Df P w K mg base "many_ahead" 5 2 (P_ahead cM cWord)) (dW : Df P w K mg base "word_at" 11 2 (P_word_at cM cNum)) (F : Fun K "_law_refused" "_law_refused" (top 47) f fd) : FnA P w K mg base (L2N.CX P w) 12 f fd ["made", "letters"] (spD K 2 (P_refused cM)) :=
  fn_DA (N := ["made", "letters", "value", "e"]) (ps := ["made", "letters"]) F ⟨rfl, rfl, rfl, by decide, rfl, by decide, by decide⟩ fun cdv A outer s H E hr hga tk hp dvs μ o hl hP => by
    obtain ⟨m, V, h4, rfl, rfl⟩ := hP
    have hu := hr.units
    let X := cxOf (L2N.CX P w) P w K mg base ["made", "letters", "value", "e"] "_law_refused" (defScope (top 47)) f cdv A outer s H E
    have suite : ∀ {C dd a : Addr} {oe : Obj} {pn : List (Addr × Obj)} {x : D} {y : List Stmt} {p1 p2 p3 p4 p5 p6 p7 p8 p9 : Pos}, XfC K C → PySem.W.findIn K (.ref C) "value" = some none → L2N.Zn (.ref C) (some dd) oe → (∃ vs, oe.data = .fields vs) → RpOk x →
        attributeBase (.Name "e" p2) "value" (X.suite a ((a, oe) :: pn)).env (eval (.Name "e" p2) (X.suite a ((a, oe) :: pn)).env) = eval (.Name "e" p2) (X.suite a ((a, oe) :: pn)).env →
        ∃ o', Xb (X.suite a ((a, oe) :: pn)) noT [.If (.Compare (.Call (.Name "repr" p1) [.Attribute (.Name "e" p2) "value" p3] [] p4) [.NotEq] [.Call (.Name "repr" p5) [.Name "value" p6] [] p7] p8) y [] p9]
          ([some (.dat (mcD cM m)), some (.i (m.L : Int)), some (.dat x), none].set 3 (some (.dat (.ref a)))) (μ ++ [.xd dd [("value", .dat x)]]) o' ∧ Aft 3 μ o' (.nx [some (.dat (mcD cM m)), some (.i (m.L : Int)), some (.dat x), none] μ) := by
      intro C dd a oe pn x y p1 p2 p3 p4 p5 p6 p7 p8 p9 xf hno hz hf hx hb
      obtain ⟨t, ht⟩ := rp_call hx
      have hl : List.lookup ("value" : Str) [(("value" : Str), DV.dat x)] = some (.dat x) := by simp [List.lookup]
      have hc : ∀ μ', CallS (X.suite a ((a, oe) :: pn)) (.builtin "repr") [.dat x] μ' (.s t) μ' := fun μ' => ht _ μ' hga hu
      refine ⟨_, .one (.ifF (neq_sameS (.blt M.repr (.cons (.xf xf hno hz hf (.var 3 rfl) gL0 hl hb) .nil) (hc _)) (.blt M.repr (.cons (.var 2 rfl) .nil) (hc _))) .nil), ?_⟩
      exact Aft.nx (i := 3) (δ := [some (.dat (mcD cM m)), some (.i (m.L : Int)), some (.dat x), some (.dat (.ref a))]) (Keep.refl _) (OwnB.of trivial)
    have nW : Names X "InvalidWord" (.ref cWord) := ⟨rfl, by decide, .inl N1⟩
    have nN : Names X "InvalidNumber" (.ref cNum) := ⟨rfl, by decide, .inl N2⟩
    have h1 := vals1 h4
    have h2 := vals2
    let δ0 : Slots := [some (.dat (mcD cM m)), some (.i (m.L : Int)), none, none]
    refine Bd.ret (.cons (δ1 := δ0) (μ1 := μ) (.forL (ds := values1 m.L) rfl (nod_of rfl) hp 2 (.lst (.cons (.lst (ds := []) .nil) (.cons (.tup (ds := [.int (m.L : Int)]) (.cons (.var 1 rfl) .nil)) (.cons (.tup (ds := [.int 0, .int (-1)]) (.cons .int (.cons (.neg .int) .nil))) (.cons .str (.cons .non (.cons (.tup (ds := [.bl true]) (.cons .bl .nil)) (.cons (.tup (ds := [.tup []]) (.cons (.tup (ds := []) .nil) .nil)) (.cons .int .nil))))))))) (It1.stay fun x hx => ?_))
      (.cons (δ1 := δ0) (μ1 := μ) (.forL (ds := values2) rfl (nod_of rfl) hp 2 (.lst (.cons (.neg .int) (.cons .bl (.cons .non (.cons .str (.cons (.tup (ds := []) .nil) (.cons (.lst (ds := [.int 1]) (.cons .int .nil)) .nil))))))) (It1.stay fun x hx => ?_)) (.one (.ret .bl))))
    · obtain ⟨d, hd, rfl⟩ := List.mem_map.mp hx
      obtain ⟨ha, hb, hc⟩ := h1 d hd
      have hPA : P_ahead cM cWord [.dat (mcD cM m), .dat d] μ (.exc cWord [("value", .dat d)] μ) := ⟨m, d, V, ha, rfl, .inl ⟨hb, rfl⟩⟩
      exact Xb.wk (δ1 := [some (.dat (mcD cM m)), some (.i (m.L : Int)), some (.dat d), none]) (.one (.tryE (δ1 := [some (.dat (mcD cM m)), some (.i (m.L : Int)), some (.dat d), none]) (μ1 := μ) rfl rfl (nod_of rfl) tk (Dt.HdsAs.add 3 .nil nW) (fun pn xe W tkW hpW => .stop (.exprE (.call tkW dA (hr.mono (by decide)) (.cons (.var 0 rfl) (.cons (.var 2 rfl) .nil)) hPA))) (.hit E0.ww fun a oe dd pn hz hf => suite E0.xW E0.fW hz hf hc rfl)))
    · obtain ⟨d, hd, rfl⟩ := List.mem_map.mp hx
      obtain ⟨⟨t, ha⟩, hb, hc⟩ := h2 d hd
      have hPW : P_word_at cM cNum [.dat (mcD cM m), .dat d] μ (.exc cNum [("value", .dat d)] μ) := ⟨m, d, t, V, ha, rfl, .inl ⟨hb, rfl⟩⟩
      exact Xb.wk (δ1 := [some (.dat (mcD cM m)), some (.i (m.L : Int)), some (.dat d), none]) (.one (.tryE (δ1 := [some (.dat (mcD cM m)), some (.i (m.L : Int)), some (.dat d), none]) (μ1 := μ) rfl rfl (nod_of rfl) tk (Dt.HdsAs.add 3 .nil nN) (fun pn xe W tkW hpW => .stop (.exprE (.call tkW dW hr (.cons (.var 0 rfl) (.cons (.var 2 rfl) .nil)) hPW))) (.hit E0.nn fun a oe dd pn hz hf => suite E0.xN E0.fN hz hf hc rfl)))
end
end Dt.K84
set_option maxHeartbeats 4000000
/-! k84: the law's own defs: all together; law. -/
namespace Dt.K84
open PySem PySem.Spec L2 Dt
open PyProof.Rows (envOfC)
theorem lv_tup {n : Nat} {ds : List D} (h : ds.length < 1000) (ha : ∀ d ∈ ds, lvD n d = true) : lvD (n + 1) (.tup ds) = true := by
  show (decide (ds.length < 1000) && ds.all (lvD n)) = true
  rw [decide_eq_true h, Bool.true_and]
  exact List.all_eq_true.mpr ha
theorem lv_mc {m : Mc} (V : VM m) : lvD 3 (.tup [.int (m.L : Int), .tup (m.rows.map rowD), .tup (m.ends.map natD)]) = true := by
  have h1 := V.n63
  have h2 := V.el
  refine lv_tup (by show 3 < 1000; decide) fun d hd => ?_
  simp only [List.mem_cons, List.not_mem_nil, or_false] at hd
  rcases hd with e | e | e <;> subst e
  · rfl
  · refine lv_tup (by rw [List.length_map]; omega) fun d hd => ?_
    obtain ⟨r, hr, rfl⟩ := List.mem_map.mp hd
    have h3 := V.len r hr
    have h4 := V.L48
    refine lv_tup (by rw [List.length_map]; omega) fun d hd => ?_
    obtain ⟨o, _, rfl⟩ := List.mem_map.mp hd
    cases o <;> rfl
  · refine lv_tup (by rw [List.length_map]; omega) fun d hd => ?_
    obtain ⟨n, _, rfl⟩ := List.mem_map.mp hd
    rfl
section
variable {P : Program} {w : World} {K : PySem.W.Frag} {mg : Str → Option Value} {base : Heap} {f cE : Addr} {fd : FuncData} {cNum cWord cM : Addr}
def P_all : Pr := fun dvs μ o => ∃ ns : List Int, dvs = [.dat (.scr (ns.map D.int))] ∧ ns.length ≤ 1000 ∧ μ = [] ∧ o = .ret (.b true) []
def turnS (m : Mc) (S : Sr) (_ : Nat) : Sr := anF m (drawN (aw m S).S 2).2
theorem w_all (M : Md mg) (c : ClsK K cM mcNames) (dk : Df P w K mg base "_law_deck" 1 1 P_deck) (d1 : Df P w K mg base "_law_draw" 1 2 P_draw) (dt : Df P w K mg base "_law_table" 2 2 P_table) (di : Di P w K mg base "Machine" cM 6 4 (P_minit cM)) (dc : Df P w K mg base "_law_counts" 1 3 P_counts) (dm : Df P w K mg base "_law_many" 1 2 P_many) (s1 : Df P w K mg base "_law_same" 2 2 (P_same 1)) (s3 : Df P w K mg base "_law_same" 4 2 (P_same 3))
    (dW : Df P w K mg base "word_at" 11 2 (P_word_at cM cNum)) (d3 : Df P w K mg base "_law_unranked" 1 3 P_unr) (aW : Df P w K mg base "_law_asked_word" 12 5 (P_askw cM)) (aN : Df P w K mg base "_law_asked_number" 12 5 (P_askn cM)) (rf : DfA P w K mg base "_law_refused" 12 2 (P_refused cM)) (F : Fun K "_law_all" "_law_all" (top 48) f fd) : FnA P w K mg base (L2N.CX P w) 13 f fd ["script"] (spD K 1 P_all) :=
  fn_DA (N := ["script", "deck", "letters", "rows", "ends", "table", "kept", "bits", "made", "counts", "many", "first", "number", "turn", "to", "row"]) (ps := ["script"]) F ⟨rfl, rfl, rfl, by decide, rfl, by decide, by decide⟩ fun cdv A outer s H E hr hga tk hp dvs μ o hl hP => by
    obtain ⟨ns, rfl, hn, rfl, rfl⟩ := hP
    have hu := hr.units
    obtain ⟨S0, hS0⟩ : ∃ S : Sr, S = ⟨cut63 ns, 0, 0, 17⟩ := ⟨_, rfl⟩
    obtain ⟨l, hl'⟩ : ∃ l, l = 1 + (drawN S0 4).1 := ⟨_, rfl⟩
    have h4' := drawN_lt S0 (m := 4) (by decide)
    have hl1 : 1 ≤ l := by omega
    have hl4 : l ≤ 4 := by omega
    obtain ⟨S1, hS1⟩ : ∃ S, S = (drawN S0 4).2 := ⟨_, rfl⟩
    obtain ⟨V, hN⟩ := tab_ok hl1 hl4 S1
    obtain ⟨m1, m12⟩ := tabMany_le S1
    have pT : P_table [.own 0, .i (l : Int)] [srC S1] (.ret (.dat (.lst [rwsD (tabMc l S1), enLD (tabMc l S1)])) [srC (tabE l S1).2]) := ⟨S1, [], l, hl1, hl4, rfl, rfl, rfl⟩
    have hL : (tabMc l S1).L = l := rfl
    obtain ⟨m, hm⟩ : ∃ m, m = tabMc l S1 := ⟨_, rfl⟩
    obtain ⟨S2, hS2⟩ : ∃ S, S = (tabE l S1).2 := ⟨_, rfl⟩
    rw [← hm] at V hN pT hL
    rw [← hS2] at pT
    have h12 : m.rows.length ≤ 12 := by omega
    have h4 : m.L ≤ 4 := by omega
    have hN0 : 0 < m.rows.length := V.n1
    let R : List DV := (rowsV m).map DV.dat
    let B : List DV := (endsV m).map DV.dat
    have hRl : R.length = m.rows.length := by show ((m.rows.map rowD).map DV.dat).length = _; rw [List.length_map, List.length_map]
    have hBl : B.length = m.rows.length := by show ((m.ends.map natD).map DV.dat).length = _; rw [List.length_map, List.length_map, V.el]
    have hB0 : atI B 0 = some (.i (m.ed 0 : Nat)) := atI_map DV.dat (ed_ix V (s := 0) hN0)
    have hix : ixN B.length 0 = some 0 := by
      unfold ixN
      rw [if_pos (by decide), if_pos (by omega)]
      rfl
    let z : DV := .dat (.tup (List.replicate (l : Int).toNat [D.int 0]).flatten)
    let J : Store := [.lst (R ++ [z]), .lst R, .lst (B.set 0 (.i (1 - ((m.ed 0 : Nat) : Int))))]
    have hmany : manyO m 40 = totOf m := many_tot V (by omega)
    let S3 := (drawN S2 4).2
    let S4 := (List.range 4).foldl (turnS m) S3
    let δ1 : Slots := [some (.dat (.scr (ns.map D.int))), some (.own 0), some (.i (l : Int)), some (.dat (rwsD m)), some (.dat (enLD m)), some (.own 1), some (.own 2), some (.own 3), some (.dat (mcD cM m)), none, none, none, none, none, none, none]
    let δ2 : Slots := [some (.dat (.scr (ns.map D.int))), some (.own 0), some (.i (l : Int)), some (.dat (rwsD m)), some (.dat (enLD m)), some (.own 1), some (.own 2), some (.own 3), some (.dat (mcD cM m)), some (.dat (cntsD m 40)), some (.dat (optD (totOf m))), some (.i ((drawN S2 4).1 : Nat)), none, none, none, none]
    have r0 : ∀ j, atI ((List.range m.rows.length).map fun s => natD (cnt m j s)) ((0 : Nat) : Int) = some (natD (cnt m j 0)) := fun j => rowC_at hN0
    refine Bd.retJ (μ' := []) (J := srC S4 :: J) ?_
    refine .cons (δ1 := [some (.dat (.scr (ns.map D.int))), some (.own 0), none, none, none, none, none, none, none, none, none, none, none, none, none, none]) (μ1 := [srC S0]) (.set 1 (.call dk (hr.mono (by decide)) (.cons (.var 0 rfl) .nil) ⟨ns, rfl, hn, by rw [hS0]; rfl⟩) (nod_of rfl)) ?_
    refine .cons (δ1 := [some (.dat (.scr (ns.map D.int))), some (.own 0), some (.i (l : Int)), none, none, none, none, none, none, none, none, none, none, none, none, none]) (μ1 := [srC S1]) (.set 2 (.to (.bin .int (.call d1 (hr.mono (by decide)) (.cons (.var 1 rfl) (.cons .int .nil)) (by rw [hS1]; exact P_drawN S0 [] (m := 4) (by decide))) .add) (congrArg DV.i (by rw [hl', Int.natCast_add]; rfl))) (nod_of rfl)) ?_
    refine .cons (δ1 := [some (.dat (.scr (ns.map D.int))), some (.own 0), some (.i (l : Int)), some (.dat (rwsD m)), some (.dat (enLD m)), none, none, none, none, none, none, none, none, none, none, none]) (μ1 := [srC S2]) (.unpL rfl (nod_of rfl) (.call dt (hr.mono (by decide)) (.cons (.var 1 rfl) (.cons (.var 2 rfl) .nil)) pT) (i1 := 3) (i2 := 4)) ?_
    refine .cons (δ1 := [some (.dat (.scr (ns.map D.int))), some (.own 0), some (.i (l : Int)), some (.dat (rwsD m)), some (.dat (enLD m)), some (.own 1), none, none, none, none, none, none, none, none, none, none]) (μ1 := [srC S2, .lst R]) (.lcOwn 5 (x := "row") (j := 15) (ys := (m.rows.map rowD).map DV.dat) (μf := [srC S2]) rfl (nod_of rfl) (pi_list semE_pe) (blk_of rfl) (fun _ _ _ _ _ => pg_name (nod_of rfl) rfl (by first | exact .inl rfl | exact .inr rfl)) (by decide) (lcL (ds := m.rows.map rwD) (.var 3 rfl) ?_ (by rw [List.length_map, List.length_map]; omega))) ?_
    · rw [List.map_map, List.map_map]
      refine Lc.mapD fun r hr' => El.go (Ek.of fun s1 H1 cl C fp => .tyc M.tuple (.cons (.lcLa 14 r (fun o => D.int (oI o)) optD (.var 15 rfl) (fun o ho s2 H2 cl2 C2 fp2 => ?_) ?_) .nil) (CallS.tupL .dt))
      · cases o with
        | none => exact .ifF (.to (.cmp (.var 14 rfl) .int .ge) none_ge) .non
        | some t => exact .ifT (.to (.cmp (.var 14 rfl) .int .ge) some_ge) (.var 14 rfl)
      · have h2 := V.len r hr'
        omega
    refine .cons (δ1 := [some (.dat (.scr (ns.map D.int))), some (.own 0), some (.i (l : Int)), some (.dat (rwsD m)), some (.dat (enLD m)), some (.own 1), some (.own 2), none, none, none, none, none, none, none, none, none]) (μ1 := [srC S2, .lst R, .lst R]) (.set 6 (.tyc M.list (.cons (.var 5 rfl) .nil) (CallS.listO (.ow rfl))) (nod_of rfl)) ?_
    refine .cons (δ1 := [some (.dat (.scr (ns.map D.int))), some (.own 0), some (.i (l : Int)), some (.dat (rwsD m)), some (.dat (enLD m)), some (.own 1), some (.own 2), some (.own 3), none, none, none, none, none, none, none, none]) (μ1 := [srC S2, .lst R, .lst R, .lst B]) (.set 7 (.tyc M.list (.cons (.var 4 rfl) .nil) (CallS.listO .dt)) (nod_of rfl)) ?_
    refine .cons (δ1 := δ1) (μ1 := [srC S2, .lst R, .lst R, .lst B]) (.set 8 (.makeF (fs := mcF m) di (hr.mono (by decide)) (.cons (.var 2 rfl) (.cons (.var 5 rfl) (.cons (.var 7 rfl) .nil))) ⟨m, 4, 1, 3, V, by rw [hL]; rfl, rfl, rfl, rfl, rfl⟩) (nod_of rfl)) ?_
    refine .cons (δ1 := δ1) (μ1 := [srC S2, .lst (R ++ [z]), .lst R, .lst B]) (.expr (dv := .n) (.tos (.append (k := 1) (xs := R) (dv := z) (μ1 := [srC S2, .lst R, .lst R, .lst B]) (μ2 := [srC S2, .lst R, .lst R, .lst B]) (.var 5 rfl) (.bin (.tup (ds := [.int 0]) (.cons .int .nil)) (.var 2 rfl) (.repT (xs := [.int 0]) (m := (l : Int)) (by simp) (by omega) (by decide) (by omega))) rfl (by omega) ⟨R, rfl⟩) rfl)) ?_
    refine .cons (δ1 := δ1) (μ1 := srC S2 :: J) (.tos (.setItem (k := 3) (xs := B) (.bin .int (.ixO (.var 7 rfl) .int rfl hB0) .sub) (.var 7 rfl) .int rfl hix) rfl) ?_
    refine .cons (δ1 := δ1.set 9 (some (.dat (cntsD m 40)))) (μ1 := srC S2 :: J) (.set 9 (.call dc (hr.mono (by decide)) (.cons (.var 3 rfl) (.cons (.var 4 rfl) (.cons .int .nil))) ⟨m, 40, V, by decide, rfl, rfl⟩) (nod_of rfl)) ?_
    refine .cons (δ1 := (δ1.set 9 (some (.dat (cntsD m 40)))).set 10 (some (.dat (optD (totOf m))))) (μ1 := srC S2 :: J) (.set 10 (.call dm (hr.mono (by decide)) (.cons (.var 3 rfl) (.cons (.var 9 rfl) .nil)) ⟨m, 40, V, by decide, by omega, rfl, by rw [hmany]⟩) (nod_of rfl)) ?_
    refine .cons (δ1 := δ2) (μ1 := srC S3 :: J) (.set 11 (.call d1 (hr.mono (by decide)) (.cons (.var 1 rfl) (.cons .int .nil)) (P_drawN S2 J (m := 4) (by decide))) (nod_of rfl)) ?_
    have hf4 := drawN_lt S2 (m := 4) (by decide)
    refine .cons (δ1 := δ2) (μ1 := srC S3 :: J) (.forR2 (m1 := ((drawN S2 4).1 : Int)) (m2 := ((drawN S2 4).1 : Int) + 4) rfl (nod_of rfl) hp M.range 12 (.var 11 rfl) (.bin (.var 11 rfl) .int .add) (by omega) (by omega) (by omega) (by omega) (It1.stay fun x hx => ?_)) ?_
    · have hx' : ∃ n : Nat, x = .i (n : Int) := by
        unfold upto at hx
        obtain ⟨k, _, rfl⟩ := List.mem_map.mp hx
        exact ⟨(drawN S2 4).1 + k, by rw [Int.natCast_add]⟩
      obtain ⟨n, rfl⟩ := hx'
      refine Xb.wk (δ1 := δ2.set 12 (some (.i (n : Int)))) ?_
      by_cases hlt : n < sumC m 41
      · obtain ⟨len, left, hf⟩ := fl_ex (k := 40) hlt
        obtain ⟨_, _, c1, c2⟩ := fl_some hf
        have hlen := wo_len c1
        have hu : unrF m 40 n = wordD (wo m len 0 left) := by unfold unrF; rw [hf]
        have hPW : ∀ {μ : Store}, P_word_at cM cNum [.dat (mcD cM m), .dat (natD n)] μ (.ret (.dat (wordD (wo m len 0 left))) μ) := fun {μ} => ⟨m, natD n, "int", V, rfl, rfl, .inr (.inr ⟨n, 41, len, left, rfl, fun v hv => fl_tot V hf hv, by decide, hf, rfl⟩)⟩
        exact .one (.ifT (.to (.cmp (.var 12 rfl) (.to (.blt M.sum (.cons (.to (.lcLa 15 (List.range 41) (rowC m) (fun n => natD (cnt m n 0)) (.var 9 rfl) (fun i hi s1 H1 cl C fp => .ixD (ds := (List.range m.rows.length).map fun s => natD (cnt m i s)) (.var 15 rfl) .int (r0 i)) (by rw [List.length_range]; decide)) (dv' := .dat (.lst (((List.range 41).map fun n => ((cnt m n 0 : Nat) : Int)).map D.int))) (by rw [List.map_map]; rfl)) .nil) (CallS.sum rfl)) (dv' := .i (sumC m 41 : Nat)) (by rw [sum_cast]; rfl)) .lt) (decide_eq_true (by omega)))
          (.one (.ifF (.notF (.val (.call s1 (hr.mono (by decide)) (.cons (.call dW (hr.mono (by decide)) (.cons (.var 8 rfl) (.cons (.var 12 rfl) .nil)) hPW) (.cons (.call d3 (hr.mono (by decide)) (.cons (.var 3 rfl) (.cons (.var 9 rfl) (.cons (.var 12 rfl) .nil))) ⟨m, 40, n, V, by decide, rfl, by rw [hu]⟩) .nil)) ⟨_, word_lv (by omega), rfl, rfl⟩))) .nil)))
      · exact .one (.ifF (.to (.cmp (.var 12 rfl) (.to (.blt M.sum (.cons (.to (.lcLa 15 (List.range 41) (rowC m) (fun n => natD (cnt m n 0)) (.var 9 rfl) (fun i hi s1 H1 cl C fp => .ixD (ds := (List.range m.rows.length).map fun s => natD (cnt m i s)) (.var 15 rfl) .int (r0 i)) (by rw [List.length_range]; decide)) (dv' := .dat (.lst (((List.range 41).map fun n => ((cnt m n 0 : Nat) : Int)).map D.int))) (by rw [List.map_map]; rfl)) .nil) (CallS.sum rfl)) (dv' := .i (sumC m 41 : Nat)) (by rw [sum_cast]; rfl)) .lt) (decide_eq_false (by omega))) .nil)
    have loop := fun R h => (It1.foldU (S := Sr) (R := R) (n := 4) (fun _ => δ2) (fun s => srC s :: J) (turnS m) (fun _ _ => True) h S3 trivial).1
    refine .cons (δ1 := δ2) (μ1 := srC S4 :: J) (.forR1 rfl (nod_of rfl) hp M.range 13 .int (by decide) (by decide) (loop _ ?_)) ?_
    · rintro S k hk -
      refine ⟨trivial, .wk (δ1 := δ2.set 13 (some (.i (k : Int)))) ?_⟩
      exact .cons (δ1 := δ2.set 13 (some (.i (k : Int)))) (μ1 := srC (drawN (aw m S).S 2).2 :: J) (.ifF (.notF (.val (.call aW hr (.cons (.var 1 rfl) (.cons (.var 8 rfl) (.cons (.var 3 rfl) (.cons (.var 9 rfl) (.cons (.var 2 rfl) .nil))))) ⟨S, J, m, V, by rw [hL], rfl, rfl⟩))) .nil)
        (.one (.ifF (.notF (.val (.call aN hr (.cons (.var 1 rfl) (.cons (.var 8 rfl) (.cons (.var 3 rfl) (.cons (.var 9 rfl) (.cons (.var 10 rfl) .nil))))) ⟨_, J, m, V, h4, h12, rfl, rfl, rfl⟩))) .nil))
    · have hlv := lv_mc V
      refine .cons (δ1 := δ2) (μ1 := srC S4 :: J) (.ifF (.notF (.val (.call s3 (hr.mono (by decide)) (.cons (.tup (ds := [.int (m.L : Int), .tup (m.rows.map rowD), .tup (m.ends.map natD)]) (.cons (.fld c (.var 8 rfl) .dat rfl) (.cons (.fld c (.var 8 rfl) .dat rfl) (.cons (.fld c (.var 8 rfl) .dat rfl) .nil)))) (.cons (.tup (ds := [.int (m.L : Int), .tup (m.rows.map rowD), .tup (m.ends.map natD)]) (.cons (.to (.var 2 rfl) (by rw [hL])) (.cons (.tyc M.tuple (.cons (.var 6 rfl) .nil) (CallS.tupL (.ow rfl))) (.cons (.tyc M.tuple (.cons (.var 4 rfl) .nil) (CallS.tupL .dt)) .nil)))) .nil)) ⟨_, hlv, rfl, rfl⟩))) .nil) ?_
      exact .one (.ret (.callA rf hr hga tk (.cons (.var 8 rfl) (.cons (.var 2 rfl) .nil)) ⟨m, V, h4, by rw [hL], rfl⟩))
theorem w_law (hE : mg "NormalError" = some (.ref cE)) (dA : DfA P w K mg base "_law_all" 13 1 P_all) (F : Fun K "law" "law" (top 49) f fd) : FnA P w K mg base (L2N.CX P w) 14 f fd ["script"] (spD K 1 P_all) :=
  fn_DA (N := ["script"]) (ps := ["script"]) F ⟨rfl, rfl, rfl, by decide, rfl, by decide, by decide⟩ fun cdv A outer s H E hr hga tk hp dvs μ o hl hP => by
    obtain ⟨ns, rfl, hn, rfl, rfl⟩ := hP
    refine Bd.ret (.one (.tryN rfl rfl tk (.cons (ts := semSu _ _) (c := .ref cE) ⟨rfl, by decide, .inl hE⟩ (fun _ oe _ _ pn hz hf => ⟨fun pins s σ H D I h => (h oe pn hz hf).run pins s I⟩) .nil) (fun pn xe W tkW hpW => ?_) (by intro _ _ _ _ h; cases h)))
    exact .one (.ret (.callA dA hr hga tkW (.cons (.var 0 rfl) .nil) ⟨ns, rfl, hn, rfl, rfl⟩))
theorem sp_law {H : Hp} {a : Addr} {ns : List Int} (hn : ns.length ≤ 63) (hs : SqL K H a (ns.map V.int)) : spD K 1 P_all [.ref a] H (fun v _ => v = .bl true) fun _ _ _ => False :=
  ⟨⟨fun _ => 0, H, 0⟩, [], [.dat (.scr (ns.map D.int))], _, rfl, ⟨rfl, Same.refl _, fun k c h => by simp at h, fun i j ci cj h => by simp at h⟩, .cons (Dq.scr hs (ints_dq ns)) .nil, ⟨ns, rfl, by omega, rfl, rfl⟩, fun W' H' v g s r => Rel.bv r⟩
end
end Dt.K84
set_option maxHeartbeats 8000000
/-! k84: what the top has left, joined (printed by genlaw.py). -/
namespace Dt.K84
open PySem PySem.Spec L2 Dt
open PyProof.Rows (envOfC)
theorem all_mk {P : Program} {w : World} {K : PySem.W.Frag} {h : Heap} {mg : Str → Option Value} {fa : Addr} {c_num c_word c_E c_M c_G c_R : Addr}
    {tk_most : Tok}
    {nm_num q_num : Str} {N_num : Addr} {bs_num bm_num : List Value} {sn_num : List Str} {sub_num : List Value} {ab_num : Bool} {col_num : Option Bool} {dd_num : Option Addr} {m0_num m1_num m2_num m3_num m5_num : Option Value}
    {fI_num : Addr} {oc_Inum kV_Inum dc_Inum pm_Inum cd_Inum ct_Inum : Value} {od_Inum an_Inum : Option Addr} {sl_Inum : Array (Option Value)}
    {nm_word q_word : Str} {N_word : Addr} {bs_word bm_word : List Value} {sn_word : List Str} {sub_word : List Value} {ab_word : Bool} {col_word : Option Bool} {dd_word : Option Addr} {m0_word m1_word m2_word m3_word m5_word : Option Value}
    {fI_word : Addr} {oc_Iword kV_Iword dc_Iword pm_Iword cd_Iword ct_Iword : Value} {od_Iword an_Iword : Option Addr} {sl_Iword : Array (Option Value)}
    {f_is_integer : Addr} {oc_is_integer kV_is_integer dc_is_integer pm_is_integer cd_is_integer ct_is_integer : Value} {od_is_integer an_is_integer : Option Addr} {sl_is_integer : Array (Option Value)}
    {f_is_number : Addr} {oc_is_number kV_is_number dc_is_number pm_is_number cd_is_number ct_is_number : Value} {od_is_number an_is_number : Option Addr} {sl_is_number : Array (Option Value)}
    {f_is_sequence : Addr} {oc_is_sequence kV_is_sequence dc_is_sequence pm_is_sequence cd_is_sequence ct_is_sequence : Value} {od_is_sequence an_is_sequence : Option Addr} {sl_is_sequence : Array (Option Value)}
    {f_is_word : Addr} {oc_is_word kV_is_word dc_is_word pm_is_word cd_is_word ct_is_word : Value} {od_is_word an_is_word : Option Addr} {sl_is_word : Array (Option Value)}
    {f_check_word : Addr} {oc_check_word kV_check_word dc_check_word pm_check_word cd_check_word ct_check_word : Value} {od_check_word an_check_word : Option Addr} {sl_check_word : Array (Option Value)}
    {f_is_row : Addr} {oc_is_row kV_is_row dc_is_row pm_is_row cd_is_row ct_is_row : Value} {od_is_row an_is_row : Option Addr} {sl_is_row : Array (Option Value)}
    {f_is_bit : Addr} {oc_is_bit kV_is_bit dc_is_bit pm_is_bit cd_is_bit ct_is_bit : Value} {od_is_bit an_is_bit : Option Addr} {sl_is_bit : Array (Option Value)}
    {f_check_machine : Addr} {oc_check_machine kV_check_machine dc_check_machine pm_check_machine cd_check_machine ct_check_machine : Value} {od_check_machine an_check_machine : Option Addr} {sl_check_machine : Array (Option Value)}
    {f_minit : Addr} {oc_minit kV_minit dc_minit pm_minit cd_minit ct_minit : Value} {od_minit an_minit : Option Addr} {sl_minit : Array (Option Value)}
    {f_mlen : Addr} {oc_mlen kV_mlen dc_mlen pm_mlen cd_mlen ct_mlen : Value} {od_mlen an_mlen : Option Addr} {sl_mlen : Array (Option Value)}
    {f_mafter : Addr} {oc_mafter kV_mafter dc_mafter pm_mafter cd_mafter ct_mafter : Value} {od_mafter an_mafter : Option Addr} {sl_mafter : Array (Option Value)}
    {f_mtakes : Addr} {oc_mtakes kV_mtakes dc_mtakes pm_mtakes cd_mtakes ct_mtakes : Value} {od_mtakes an_mtakes : Option Addr} {sl_mtakes : Array (Option Value)}
    {f_met_states : Addr} {oc_met_states kV_met_states dc_met_states pm_met_states cd_met_states ct_met_states : Value} {od_met_states an_met_states : Option Addr} {sl_met_states : Array (Option Value)}
    {f_ending_states : Addr} {oc_ending_states kV_ending_states dc_ending_states pm_ending_states cd_ending_states ct_ending_states : Value} {od_ending_states an_ending_states : Option Addr} {sl_ending_states : Array (Option Value)}
    {f_live_states : Addr} {oc_live_states kV_live_states dc_live_states pm_live_states cd_live_states ct_live_states : Value} {od_live_states an_live_states : Option Addr} {sl_live_states : Array (Option Value)}
    {f_ginit : Addr} {oc_ginit kV_ginit dc_ginit pm_ginit cd_ginit ct_ginit : Value} {od_ginit an_ginit : Option Addr} {sl_ginit : Array (Option Value)}
    {f_gopen : Addr} {oc_gopen kV_gopen dc_gopen pm_gopen cd_gopen ct_gopen : Value} {od_gopen an_gopen : Option Addr} {sl_gopen : Array (Option Value)}
    {f_gnext : Addr} {oc_gnext kV_gnext dc_gnext pm_gnext cd_gnext ct_gnext : Value} {od_gnext an_gnext : Option Addr} {sl_gnext : Array (Option Value)}
    {f_gnum : Addr} {oc_gnum kV_gnum dc_gnum pm_gnum cd_gnum ct_gnum : Value} {od_gnum an_gnum : Option Addr} {sl_gnum : Array (Option Value)}
    {f_gput : Addr} {oc_gput kV_gput dc_gput pm_gput cd_gput ct_gput : Value} {od_gput an_gput : Option Addr} {sl_gput : Array (Option Value)}
    {f_gmach : Addr} {oc_gmach kV_gmach dc_gmach pm_gmach cd_gmach ct_gmach : Value} {od_gmach an_gmach : Option Addr} {sl_gmach : Array (Option Value)}
    {f_parted : Addr} {oc_parted kV_parted dc_parted pm_parted cd_parted ct_parted : Value} {od_parted an_parted : Option Addr} {sl_parted : Array (Option Value)}
    {f_least_machine : Addr} {oc_least_machine kV_least_machine dc_least_machine pm_least_machine cd_least_machine ct_least_machine : Value} {od_least_machine an_least_machine : Option Addr} {sl_least_machine : Array (Option Value)}
    {f_check_length : Addr} {oc_check_length kV_check_length dc_check_length pm_check_length cd_check_length ct_check_length : Value} {od_check_length an_check_length : Option Addr} {sl_check_length : Array (Option Value)}
    {f_count : Addr} {oc_count kV_count dc_count pm_count cd_count ct_count : Value} {od_count an_count : Option Addr} {sl_count : Array (Option Value)}
    {f_edges_of : Addr} {oc_edges_of kV_edges_of dc_edges_of pm_edges_of cd_edges_of ct_edges_of : Value} {od_edges_of an_edges_of : Option Addr} {sl_edges_of : Array (Option Value)}
    {f_reached : Addr} {oc_reached kV_reached dc_reached pm_reached cd_reached ct_reached : Value} {od_reached an_reached : Option Addr} {sl_reached : Array (Option Value)}
    {f_total : Addr} {oc_total kV_total dc_total pm_total cd_total ct_total : Value} {od_total an_total : Option Addr} {sl_total : Array (Option Value)}
    {f_rinit : Addr} {oc_rinit kV_rinit dc_rinit pm_rinit cd_rinit ct_rinit : Value} {od_rinit an_rinit : Option Addr} {sl_rinit : Array (Option Value)}
    {f_rlen : Addr} {oc_rlen kV_rlen dc_rlen pm_rlen cd_rlen ct_rlen : Value} {od_rlen an_rlen : Option Addr} {sl_rlen : Array (Option Value)}
    {f_rfrom : Addr} {oc_rfrom kV_rfrom dc_rfrom pm_rfrom cd_rfrom ct_rfrom : Value} {od_rfrom an_rfrom : Option Addr} {sl_rfrom : Array (Option Value)}
    {f_rshort : Addr} {oc_rshort kV_rshort dc_rshort pm_rshort cd_rshort ct_rshort : Value} {od_rshort an_rshort : Option Addr} {sl_rshort : Array (Option Value)}
    {f_rless : Addr} {oc_rless kV_rless dc_rless pm_rless cd_rless ct_rless : Value} {od_rless an_rless : Option Addr} {sl_rless : Array (Option Value)}
    {f_rnext : Addr} {oc_rnext kV_rnext dc_rnext pm_rnext cd_rnext ct_rnext : Value} {od_rnext an_rnext : Option Addr} {sl_rnext : Array (Option Value)}
    {f_rword : Addr} {oc_rword kV_rword dc_rword pm_rword cd_rword ct_rword : Value} {od_rword an_rword : Option Addr} {sl_rword : Array (Option Value)}
    {f_many_ahead : Addr} {oc_many_ahead kV_many_ahead dc_many_ahead pm_many_ahead cd_many_ahead ct_many_ahead : Value} {od_many_ahead an_many_ahead : Option Addr} {sl_many_ahead : Array (Option Value)}
    {f_check_rank : Addr} {oc_check_rank kV_check_rank dc_check_rank pm_check_rank cd_check_rank ct_check_rank : Value} {od_check_rank an_check_rank : Option Addr} {sl_check_rank : Array (Option Value)}
    {f_word_at : Addr} {oc_word_at kV_word_at dc_word_at pm_word_at cd_word_at ct_word_at : Value} {od_word_at an_word_at : Option Addr} {sl_word_at : Array (Option Value)}
    {f__law_deck : Addr} {oc__law_deck kV__law_deck dc__law_deck pm__law_deck cd__law_deck ct__law_deck : Value} {od__law_deck an__law_deck : Option Addr} {sl__law_deck : Array (Option Value)}
    {f__law_draw : Addr} {oc__law_draw kV__law_draw dc__law_draw pm__law_draw cd__law_draw ct__law_draw : Value} {od__law_draw an__law_draw : Option Addr} {sl__law_draw : Array (Option Value)}
    {f__law_same : Addr} {oc__law_same kV__law_same dc__law_same pm__law_same cd__law_same ct__law_same : Value} {od__law_same an__law_same : Option Addr} {sl__law_same : Array (Option Value)}
    {f__law_counts : Addr} {oc__law_counts kV__law_counts dc__law_counts pm__law_counts cd__law_counts ct__law_counts : Value} {od__law_counts an__law_counts : Option Addr} {sl__law_counts : Array (Option Value)}
    {f__law_rank : Addr} {oc__law_rank kV__law_rank dc__law_rank pm__law_rank cd__law_rank ct__law_rank : Value} {od__law_rank an__law_rank : Option Addr} {sl__law_rank : Array (Option Value)}
    {f__law_unranked : Addr} {oc__law_unranked kV__law_unranked dc__law_unranked pm__law_unranked cd__law_unranked ct__law_unranked : Value} {od__law_unranked an__law_unranked : Option Addr} {sl__law_unranked : Array (Option Value)}
    {f__law_table : Addr} {oc__law_table kV__law_table dc__law_table pm__law_table cd__law_table ct__law_table : Value} {od__law_table an__law_table : Option Addr} {sl__law_table : Array (Option Value)}
    {f__law_many : Addr} {oc__law_many kV__law_many dc__law_many pm__law_many cd__law_many ct__law_many : Value} {od__law_many an__law_many : Option Addr} {sl__law_many : Array (Option Value)}
    {f__law_asked_word : Addr} {oc__law_asked_word kV__law_asked_word dc__law_asked_word pm__law_asked_word cd__law_asked_word ct__law_asked_word : Value} {od__law_asked_word an__law_asked_word : Option Addr} {sl__law_asked_word : Array (Option Value)}
    {f__law_asked_number : Addr} {oc__law_asked_number kV__law_asked_number dc__law_asked_number pm__law_asked_number cd__law_asked_number ct__law_asked_number : Value} {od__law_asked_number an__law_asked_number : Option Addr} {sl__law_asked_number : Array (Option Value)}
    {f__law_refused : Addr} {oc__law_refused kV__law_refused dc__law_refused pm__law_refused cd__law_refused ct__law_refused : Value} {od__law_refused an__law_refused : Option Addr} {sl__law_refused : Array (Option Value)}
    {f__law_all : Addr} {oc__law_all kV__law_all dc__law_all pm__law_all cd__law_all ct__law_all : Value} {od__law_all an__law_all : Option Addr} {sl__law_all : Array (Option Value)}
    {f_law : Addr} {oc_law kV_law dc_law pm_law cd_law ct_law : Value} {od_law an_law : Option Addr} {sl_law : Array (Option Value)}
    (X : K.In h) (G : h.Ns mainGlobals mg) (hfa : mg "law" = some (.ref fa))
    (z_isi : PySem.W.nsIn K mainGlobals "isinstance" = some none)
    (z_int : PySem.W.nsIn K mainGlobals "int" = some none)
    (z_bool : PySem.W.nsIn K mainGlobals "bool" = some none)
    (z_tuple : PySem.W.nsIn K mainGlobals "tuple" = some none)
    (z_list : PySem.W.nsIn K mainGlobals "list" = some none)
    (z_all : PySem.W.nsIn K mainGlobals "all" = some none)
    (z_len : PySem.W.nsIn K mainGlobals "len" = some none)
    (z_range : PySem.W.nsIn K mainGlobals "range" = some none)
    (z_sorted : PySem.W.nsIn K mainGlobals "sorted" = some none)
    (z_enumerate : PySem.W.nsIn K mainGlobals "enumerate" = some none)
    (z_abs : PySem.W.nsIn K mainGlobals "abs" = some none)
    (z_max : PySem.W.nsIn K mainGlobals "max" = some none)
    (z_repr : PySem.W.nsIn K mainGlobals "repr" = some none)
    (z_verr : PySem.W.nsIn K mainGlobals "ValueError" = some none)
    (z_sum : PySem.W.nsIn K mainGlobals "sum" = some none)
    (z_any : PySem.W.nsIn K mainGlobals "any" = some none)
    (z_min : PySem.W.nsIn K mainGlobals "min" = some none)
    (z_str : PySem.W.nsIn K mainGlobals "str" = some none)
    (a_num : PySem.W.nsIn K mainGlobals "InvalidNumber" = some (some (.ref c_num)))
    (a_word : PySem.W.nsIn K mainGlobals "InvalidWord" = some (some (.ref c_word)))
    (a_E : PySem.W.nsIn K mainGlobals "NormalError" = some (some (.ref c_E)))
    (g_most : PySem.W.nsIn K mainGlobals "MOST_LETTERS" = some (some (.int 48 tk_most)))
    (xL_num : K.lookup c_num = some (PySem.excClassObj nm_num q_num c_num N_num bs_num bm_num true sn_num sub_num ab_num col_num dd_num m0_num m1_num m2_num m3_num m5_num "ValueError.__new__"))
    (xM_num : PySem.HandSPX.refsVE bm_num = true)
    (sa_num : PySem.W.findIn K (.ref c_num) "__setattr__" = some (some (.builtin "object.__setattr__")))
    (ga_num : PySem.W.findIn K (.ref c_num) "__getattribute__" = some (some (.builtin "BaseException.__getattribute__")))
    (gg_num : PySem.W.findIn K (.ref c_num) "__getattr__" = some none)
    (ex_num : PySem.W.subIn K (.ref c_num) (.type "BaseException") = some true)
    (ty_num : PySem.W.typeIn K (.ref c_num) = some (.type "type"))
    (hd_num : PySem.W.hasDictIn K c_num = true)
    (kC_num : PySem.W.keepIn K (.ref c_num) = true)
    (nf_num : PySem.W.findIn K (.ref c_num) "value" = some none)
    (aI_num : PySem.W.findIn K (.ref c_num) "__init__" = some (some (.ref fI_num)))
    (tI_num : PySem.W.typeIn K (.ref fI_num) = some (.type "function"))
    (lI_num : K.lookup fI_num = some ⟨oc_Inum, od_Inum, .func (PySem.W.fnOf "__init__" "InvalidNumber.__init__" (defArgs (inClass (top 2) 0)) (defBody (inClass (top 2) 0)) (defScope (inClass (top 2) 0)) .none kV_Inum dc_Inum pm_Inum an_Inum cd_Inum ct_Inum), sl_Inum⟩)
    (cI_num : PySem.W.codeIn K cd_Inum "InvalidNumber.__init__" = true)
    (kI_num : PySem.W.keepIn K (.ref fI_num) = true)
    (xL_word : K.lookup c_word = some (PySem.excClassObj nm_word q_word c_word N_word bs_word bm_word true sn_word sub_word ab_word col_word dd_word m0_word m1_word m2_word m3_word m5_word "ValueError.__new__"))
    (xM_word : PySem.HandSPX.refsVE bm_word = true)
    (sa_word : PySem.W.findIn K (.ref c_word) "__setattr__" = some (some (.builtin "object.__setattr__")))
    (ga_word : PySem.W.findIn K (.ref c_word) "__getattribute__" = some (some (.builtin "BaseException.__getattribute__")))
    (gg_word : PySem.W.findIn K (.ref c_word) "__getattr__" = some none)
    (ex_word : PySem.W.subIn K (.ref c_word) (.type "BaseException") = some true)
    (ty_word : PySem.W.typeIn K (.ref c_word) = some (.type "type"))
    (hd_word : PySem.W.hasDictIn K c_word = true)
    (kC_word : PySem.W.keepIn K (.ref c_word) = true)
    (nf_word : PySem.W.findIn K (.ref c_word) "value" = some none)
    (aI_word : PySem.W.findIn K (.ref c_word) "__init__" = some (some (.ref fI_word)))
    (tI_word : PySem.W.typeIn K (.ref fI_word) = some (.type "function"))
    (lI_word : K.lookup fI_word = some ⟨oc_Iword, od_Iword, .func (PySem.W.fnOf "__init__" "InvalidWord.__init__" (defArgs (inClass (top 3) 0)) (defBody (inClass (top 3) 0)) (defScope (inClass (top 3) 0)) .none kV_Iword dc_Iword pm_Iword an_Iword cd_Iword ct_Iword), sl_Iword⟩)
    (cI_word : PySem.W.codeIn K cd_Iword "InvalidWord.__init__" = true)
    (kI_word : PySem.W.keepIn K (.ref fI_word) = true)
    (a_M : PySem.W.nsIn K mainGlobals "Machine" = some (some (.ref c_M)))
    (pg_M : PySem.W.plainGet K c_M Str.empty = true)
    (hd_M : PySem.W.hasDictIn K c_M = true)
    (po_M : PySem.W.plainOver K c_M = true)
    (sa_M : PySem.W.findIn K (.ref c_M) "__setattr__" = some (some (.builtin "object.__setattr__")))
    (mk_M : PySem.W.makesIn K c_M = true)
    (kC_M : PySem.W.keepIn K (.ref c_M) = true)
    (no0_M : PySem.W.findIn K (.ref c_M) "letters" = some none)
    (no1_M : PySem.W.findIn K (.ref c_M) "table" = some none)
    (no2_M : PySem.W.findIn K (.ref c_M) "ends" = some none)
    (a_G : PySem.W.nsIn K mainGlobals "Growing" = some (some (.ref c_G)))
    (pg_G : PySem.W.plainGet K c_G Str.empty = true)
    (hd_G : PySem.W.hasDictIn K c_G = true)
    (po_G : PySem.W.plainOver K c_G = true)
    (sa_G : PySem.W.findIn K (.ref c_G) "__setattr__" = some (some (.builtin "object.__setattr__")))
    (mk_G : PySem.W.makesIn K c_G = true)
    (kC_G : PySem.W.keepIn K (.ref c_G) = true)
    (no0_G : PySem.W.findIn K (.ref c_G) "letters" = some none)
    (no1_G : PySem.W.findIn K (.ref c_G) "numbers" = some none)
    (no2_G : PySem.W.findIn K (.ref c_G) "known" = some none)
    (no3_G : PySem.W.findIn K (.ref c_G) "table" = some none)
    (no4_G : PySem.W.findIn K (.ref c_G) "ends" = some none)
    (a_R : PySem.W.nsIn K mainGlobals "Ranks" = some (some (.ref c_R)))
    (pg_R : PySem.W.plainGet K c_R Str.empty = true)
    (hd_R : PySem.W.hasDictIn K c_R = true)
    (po_R : PySem.W.plainOver K c_R = true)
    (sa_R : PySem.W.findIn K (.ref c_R) "__setattr__" = some (some (.builtin "object.__setattr__")))
    (mk_R : PySem.W.makesIn K c_R = true)
    (kC_R : PySem.W.keepIn K (.ref c_R) = true)
    (no0_R : PySem.W.findIn K (.ref c_R) "machine" = some none)
    (no1_R : PySem.W.findIn K (.ref c_R) "many" = some none)
    (em_n : PySem.W.exmOne K (.ref c_num) (.ref c_num) = some true)
    (em_w : PySem.W.exmOne K (.ref c_word) (.ref c_word) = some true)
    (a_is_integer : PySem.W.nsIn K mainGlobals "is_integer" = some (some (.ref f_is_integer)))
    (l_is_integer : K.lookup f_is_integer = some ⟨oc_is_integer, od_is_integer, .func (PySem.W.fnOf "is_integer" "is_integer" (defArgs (top 6)) (defBody (top 6)) (defScope (top 6)) .none kV_is_integer dc_is_integer pm_is_integer an_is_integer cd_is_integer ct_is_integer), sl_is_integer⟩)
    (c_is_integer : PySem.W.codeIn K cd_is_integer "is_integer" = true)
    (k_is_integer : PySem.W.keepIn K (.ref f_is_integer) = true)
    (a_is_number : PySem.W.nsIn K mainGlobals "is_number" = some (some (.ref f_is_number)))
    (l_is_number : K.lookup f_is_number = some ⟨oc_is_number, od_is_number, .func (PySem.W.fnOf "is_number" "is_number" (defArgs (top 7)) (defBody (top 7)) (defScope (top 7)) .none kV_is_number dc_is_number pm_is_number an_is_number cd_is_number ct_is_number), sl_is_number⟩)
    (c_is_number : PySem.W.codeIn K cd_is_number "is_number" = true)
    (k_is_number : PySem.W.keepIn K (.ref f_is_number) = true)
    (a_is_sequence : PySem.W.nsIn K mainGlobals "is_sequence" = some (some (.ref f_is_sequence)))
    (l_is_sequence : K.lookup f_is_sequence = some ⟨oc_is_sequence, od_is_sequence, .func (PySem.W.fnOf "is_sequence" "is_sequence" (defArgs (top 8)) (defBody (top 8)) (defScope (top 8)) .none kV_is_sequence dc_is_sequence pm_is_sequence an_is_sequence cd_is_sequence ct_is_sequence), sl_is_sequence⟩)
    (c_is_sequence : PySem.W.codeIn K cd_is_sequence "is_sequence" = true)
    (k_is_sequence : PySem.W.keepIn K (.ref f_is_sequence) = true)
    (a_is_word : PySem.W.nsIn K mainGlobals "is_word" = some (some (.ref f_is_word)))
    (l_is_word : K.lookup f_is_word = some ⟨oc_is_word, od_is_word, .func (PySem.W.fnOf "is_word" "is_word" (defArgs (top 9)) (defBody (top 9)) (defScope (top 9)) .none kV_is_word dc_is_word pm_is_word an_is_word cd_is_word ct_is_word), sl_is_word⟩)
    (c_is_word : PySem.W.codeIn K cd_is_word "is_word" = true)
    (k_is_word : PySem.W.keepIn K (.ref f_is_word) = true)
    (a_check_word : PySem.W.nsIn K mainGlobals "check_word" = some (some (.ref f_check_word)))
    (l_check_word : K.lookup f_check_word = some ⟨oc_check_word, od_check_word, .func (PySem.W.fnOf "check_word" "check_word" (defArgs (top 10)) (defBody (top 10)) (defScope (top 10)) .none kV_check_word dc_check_word pm_check_word an_check_word cd_check_word ct_check_word), sl_check_word⟩)
    (c_check_word : PySem.W.codeIn K cd_check_word "check_word" = true)
    (k_check_word : PySem.W.keepIn K (.ref f_check_word) = true)
    (a_is_row : PySem.W.nsIn K mainGlobals "is_row" = some (some (.ref f_is_row)))
    (l_is_row : K.lookup f_is_row = some ⟨oc_is_row, od_is_row, .func (PySem.W.fnOf "is_row" "is_row" (defArgs (top 13)) (defBody (top 13)) (defScope (top 13)) .none kV_is_row dc_is_row pm_is_row an_is_row cd_is_row ct_is_row), sl_is_row⟩)
    (c_is_row : PySem.W.codeIn K cd_is_row "is_row" = true)
    (k_is_row : PySem.W.keepIn K (.ref f_is_row) = true)
    (a_is_bit : PySem.W.nsIn K mainGlobals "is_bit" = some (some (.ref f_is_bit)))
    (l_is_bit : K.lookup f_is_bit = some ⟨oc_is_bit, od_is_bit, .func (PySem.W.fnOf "is_bit" "is_bit" (defArgs (top 14)) (defBody (top 14)) (defScope (top 14)) .none kV_is_bit dc_is_bit pm_is_bit an_is_bit cd_is_bit ct_is_bit), sl_is_bit⟩)
    (c_is_bit : PySem.W.codeIn K cd_is_bit "is_bit" = true)
    (k_is_bit : PySem.W.keepIn K (.ref f_is_bit) = true)
    (a_check_machine : PySem.W.nsIn K mainGlobals "check_machine" = some (some (.ref f_check_machine)))
    (l_check_machine : K.lookup f_check_machine = some ⟨oc_check_machine, od_check_machine, .func (PySem.W.fnOf "check_machine" "check_machine" (defArgs (top 15)) (defBody (top 15)) (defScope (top 15)) .none kV_check_machine dc_check_machine pm_check_machine an_check_machine cd_check_machine ct_check_machine), sl_check_machine⟩)
    (c_check_machine : PySem.W.codeIn K cd_check_machine "check_machine" = true)
    (k_check_machine : PySem.W.keepIn K (.ref f_check_machine) = true)
    (a_minit : PySem.W.findIn K (.ref c_M) "__init__" = some (some (.ref f_minit)))
    (i_minit : PySem.W.isFn K (.ref f_minit) = true)
    (l_minit : K.lookup f_minit = some ⟨oc_minit, od_minit, .func (PySem.W.fnOf "__init__" "Machine.__init__" (defArgs (inClass (top 16) 0)) (defBody (inClass (top 16) 0)) (defScope (inClass (top 16) 0)) .none kV_minit dc_minit pm_minit an_minit cd_minit ct_minit), sl_minit⟩)
    (c_minit : PySem.W.codeIn K cd_minit "Machine.__init__" = true)
    (k_minit : PySem.W.keepIn K (.ref f_minit) = true)
    (a_mlen : PySem.W.findIn K (.ref c_M) "__len__" = some (some (.ref f_mlen)))
    (i_mlen : PySem.W.isFn K (.ref f_mlen) = true)
    (l_mlen : K.lookup f_mlen = some ⟨oc_mlen, od_mlen, .func (PySem.W.fnOf "__len__" "Machine.__len__" (defArgs (inClass (top 16) 2)) (defBody (inClass (top 16) 2)) (defScope (inClass (top 16) 2)) .none kV_mlen dc_mlen pm_mlen an_mlen cd_mlen ct_mlen), sl_mlen⟩)
    (c_mlen : PySem.W.codeIn K cd_mlen "Machine.__len__" = true)
    (k_mlen : PySem.W.keepIn K (.ref f_mlen) = true)
    (a_mafter : PySem.W.findIn K (.ref c_M) "state_after" = some (some (.ref f_mafter)))
    (i_mafter : PySem.W.isFn K (.ref f_mafter) = true)
    (l_mafter : K.lookup f_mafter = some ⟨oc_mafter, od_mafter, .func (PySem.W.fnOf "state_after" "Machine.state_after" (defArgs (inClass (top 16) 3)) (defBody (inClass (top 16) 3)) (defScope (inClass (top 16) 3)) .none kV_mafter dc_mafter pm_mafter an_mafter cd_mafter ct_mafter), sl_mafter⟩)
    (c_mafter : PySem.W.codeIn K cd_mafter "Machine.state_after" = true)
    (k_mafter : PySem.W.keepIn K (.ref f_mafter) = true)
    (a_mtakes : PySem.W.findIn K (.ref c_M) "takes" = some (some (.ref f_mtakes)))
    (i_mtakes : PySem.W.isFn K (.ref f_mtakes) = true)
    (l_mtakes : K.lookup f_mtakes = some ⟨oc_mtakes, od_mtakes, .func (PySem.W.fnOf "takes" "Machine.takes" (defArgs (inClass (top 16) 4)) (defBody (inClass (top 16) 4)) (defScope (inClass (top 16) 4)) .none kV_mtakes dc_mtakes pm_mtakes an_mtakes cd_mtakes ct_mtakes), sl_mtakes⟩)
    (c_mtakes : PySem.W.codeIn K cd_mtakes "Machine.takes" = true)
    (k_mtakes : PySem.W.keepIn K (.ref f_mtakes) = true)
    (a_met_states : PySem.W.nsIn K mainGlobals "met_states" = some (some (.ref f_met_states)))
    (l_met_states : K.lookup f_met_states = some ⟨oc_met_states, od_met_states, .func (PySem.W.fnOf "met_states" "met_states" (defArgs (top 17)) (defBody (top 17)) (defScope (top 17)) .none kV_met_states dc_met_states pm_met_states an_met_states cd_met_states ct_met_states), sl_met_states⟩)
    (c_met_states : PySem.W.codeIn K cd_met_states "met_states" = true)
    (k_met_states : PySem.W.keepIn K (.ref f_met_states) = true)
    (a_ending_states : PySem.W.nsIn K mainGlobals "ending_states" = some (some (.ref f_ending_states)))
    (l_ending_states : K.lookup f_ending_states = some ⟨oc_ending_states, od_ending_states, .func (PySem.W.fnOf "ending_states" "ending_states" (defArgs (top 18)) (defBody (top 18)) (defScope (top 18)) .none kV_ending_states dc_ending_states pm_ending_states an_ending_states cd_ending_states ct_ending_states), sl_ending_states⟩)
    (c_ending_states : PySem.W.codeIn K cd_ending_states "ending_states" = true)
    (k_ending_states : PySem.W.keepIn K (.ref f_ending_states) = true)
    (a_live_states : PySem.W.nsIn K mainGlobals "live_states" = some (some (.ref f_live_states)))
    (l_live_states : K.lookup f_live_states = some ⟨oc_live_states, od_live_states, .func (PySem.W.fnOf "live_states" "live_states" (defArgs (top 19)) (defBody (top 19)) (defScope (top 19)) .none kV_live_states dc_live_states pm_live_states an_live_states cd_live_states ct_live_states), sl_live_states⟩)
    (c_live_states : PySem.W.codeIn K cd_live_states "live_states" = true)
    (k_live_states : PySem.W.keepIn K (.ref f_live_states) = true)
    (a_ginit : PySem.W.findIn K (.ref c_G) "__init__" = some (some (.ref f_ginit)))
    (i_ginit : PySem.W.isFn K (.ref f_ginit) = true)
    (l_ginit : K.lookup f_ginit = some ⟨oc_ginit, od_ginit, .func (PySem.W.fnOf "__init__" "Growing.__init__" (defArgs (inClass (top 21) 0)) (defBody (inClass (top 21) 0)) (defScope (inClass (top 21) 0)) .none kV_ginit dc_ginit pm_ginit an_ginit cd_ginit ct_ginit), sl_ginit⟩)
    (c_ginit : PySem.W.codeIn K cd_ginit "Growing.__init__" = true)
    (k_ginit : PySem.W.keepIn K (.ref f_ginit) = true)
    (a_gopen : PySem.W.findIn K (.ref c_G) "is_open" = some (some (.ref f_gopen)))
    (i_gopen : PySem.W.isFn K (.ref f_gopen) = true)
    (l_gopen : K.lookup f_gopen = some ⟨oc_gopen, od_gopen, .func (PySem.W.fnOf "is_open" "Growing.is_open" (defArgs (inClass (top 21) 1)) (defBody (inClass (top 21) 1)) (defScope (inClass (top 21) 1)) .none kV_gopen dc_gopen pm_gopen an_gopen cd_gopen ct_gopen), sl_gopen⟩)
    (c_gopen : PySem.W.codeIn K cd_gopen "Growing.is_open" = true)
    (k_gopen : PySem.W.keepIn K (.ref f_gopen) = true)
    (a_gnext : PySem.W.findIn K (.ref c_G) "next_key" = some (some (.ref f_gnext)))
    (i_gnext : PySem.W.isFn K (.ref f_gnext) = true)
    (l_gnext : K.lookup f_gnext = some ⟨oc_gnext, od_gnext, .func (PySem.W.fnOf "next_key" "Growing.next_key" (defArgs (inClass (top 21) 2)) (defBody (inClass (top 21) 2)) (defScope (inClass (top 21) 2)) .none kV_gnext dc_gnext pm_gnext an_gnext cd_gnext ct_gnext), sl_gnext⟩)
    (c_gnext : PySem.W.codeIn K cd_gnext "Growing.next_key" = true)
    (k_gnext : PySem.W.keepIn K (.ref f_gnext) = true)
    (a_gnum : PySem.W.findIn K (.ref c_G) "number" = some (some (.ref f_gnum)))
    (i_gnum : PySem.W.isFn K (.ref f_gnum) = true)
    (l_gnum : K.lookup f_gnum = some ⟨oc_gnum, od_gnum, .func (PySem.W.fnOf "number" "Growing.number" (defArgs (inClass (top 21) 3)) (defBody (inClass (top 21) 3)) (defScope (inClass (top 21) 3)) .none kV_gnum dc_gnum pm_gnum an_gnum cd_gnum ct_gnum), sl_gnum⟩)
    (c_gnum : PySem.W.codeIn K cd_gnum "Growing.number" = true)
    (k_gnum : PySem.W.keepIn K (.ref f_gnum) = true)
    (a_gput : PySem.W.findIn K (.ref c_G) "put" = some (some (.ref f_gput)))
    (i_gput : PySem.W.isFn K (.ref f_gput) = true)
    (l_gput : K.lookup f_gput = some ⟨oc_gput, od_gput, .func (PySem.W.fnOf "put" "Growing.put" (defArgs (inClass (top 21) 4)) (defBody (inClass (top 21) 4)) (defScope (inClass (top 21) 4)) .none kV_gput dc_gput pm_gput an_gput cd_gput ct_gput), sl_gput⟩)
    (c_gput : PySem.W.codeIn K cd_gput "Growing.put" = true)
    (k_gput : PySem.W.keepIn K (.ref f_gput) = true)
    (a_gmach : PySem.W.findIn K (.ref c_G) "machine" = some (some (.ref f_gmach)))
    (i_gmach : PySem.W.isFn K (.ref f_gmach) = true)
    (l_gmach : K.lookup f_gmach = some ⟨oc_gmach, od_gmach, .func (PySem.W.fnOf "machine" "Growing.machine" (defArgs (inClass (top 21) 5)) (defBody (inClass (top 21) 5)) (defScope (inClass (top 21) 5)) .none kV_gmach dc_gmach pm_gmach an_gmach cd_gmach ct_gmach), sl_gmach⟩)
    (c_gmach : PySem.W.codeIn K cd_gmach "Growing.machine" = true)
    (k_gmach : PySem.W.keepIn K (.ref f_gmach) = true)
    (a_parted : PySem.W.nsIn K mainGlobals "parted" = some (some (.ref f_parted)))
    (l_parted : K.lookup f_parted = some ⟨oc_parted, od_parted, .func (PySem.W.fnOf "parted" "parted" (defArgs (top 22)) (defBody (top 22)) (defScope (top 22)) .none kV_parted dc_parted pm_parted an_parted cd_parted ct_parted), sl_parted⟩)
    (c_parted : PySem.W.codeIn K cd_parted "parted" = true)
    (k_parted : PySem.W.keepIn K (.ref f_parted) = true)
    (a_least_machine : PySem.W.nsIn K mainGlobals "least_machine" = some (some (.ref f_least_machine)))
    (l_least_machine : K.lookup f_least_machine = some ⟨oc_least_machine, od_least_machine, .func (PySem.W.fnOf "least_machine" "least_machine" (defArgs (top 23)) (defBody (top 23)) (defScope (top 23)) .none kV_least_machine dc_least_machine pm_least_machine an_least_machine cd_least_machine ct_least_machine), sl_least_machine⟩)
    (c_least_machine : PySem.W.codeIn K cd_least_machine "least_machine" = true)
    (k_least_machine : PySem.W.keepIn K (.ref f_least_machine) = true)
    (a_check_length : PySem.W.nsIn K mainGlobals "check_length" = some (some (.ref f_check_length)))
    (l_check_length : K.lookup f_check_length = some ⟨oc_check_length, od_check_length, .func (PySem.W.fnOf "check_length" "check_length" (defArgs (top 24)) (defBody (top 24)) (defScope (top 24)) .none kV_check_length dc_check_length pm_check_length an_check_length cd_check_length ct_check_length), sl_check_length⟩)
    (c_check_length : PySem.W.codeIn K cd_check_length "check_length" = true)
    (k_check_length : PySem.W.keepIn K (.ref f_check_length) = true)
    (a_count : PySem.W.nsIn K mainGlobals "count" = some (some (.ref f_count)))
    (l_count : K.lookup f_count = some ⟨oc_count, od_count, .func (PySem.W.fnOf "count" "count" (defArgs (top 26)) (defBody (top 26)) (defScope (top 26)) .none kV_count dc_count pm_count an_count cd_count ct_count), sl_count⟩)
    (c_count : PySem.W.codeIn K cd_count "count" = true)
    (k_count : PySem.W.keepIn K (.ref f_count) = true)
    (a_edges_of : PySem.W.nsIn K mainGlobals "edges_of" = some (some (.ref f_edges_of)))
    (l_edges_of : K.lookup f_edges_of = some ⟨oc_edges_of, od_edges_of, .func (PySem.W.fnOf "edges_of" "edges_of" (defArgs (top 27)) (defBody (top 27)) (defScope (top 27)) .none kV_edges_of dc_edges_of pm_edges_of an_edges_of cd_edges_of ct_edges_of), sl_edges_of⟩)
    (c_edges_of : PySem.W.codeIn K cd_edges_of "edges_of" = true)
    (k_edges_of : PySem.W.keepIn K (.ref f_edges_of) = true)
    (a_reached : PySem.W.nsIn K mainGlobals "reached" = some (some (.ref f_reached)))
    (l_reached : K.lookup f_reached = some ⟨oc_reached, od_reached, .func (PySem.W.fnOf "reached" "reached" (defArgs (top 28)) (defBody (top 28)) (defScope (top 28)) .none kV_reached dc_reached pm_reached an_reached cd_reached ct_reached), sl_reached⟩)
    (c_reached : PySem.W.codeIn K cd_reached "reached" = true)
    (k_reached : PySem.W.keepIn K (.ref f_reached) = true)
    (a_total : PySem.W.nsIn K mainGlobals "total" = some (some (.ref f_total)))
    (l_total : K.lookup f_total = some ⟨oc_total, od_total, .func (PySem.W.fnOf "total" "total" (defArgs (top 29)) (defBody (top 29)) (defScope (top 29)) .none kV_total dc_total pm_total an_total cd_total ct_total), sl_total⟩)
    (c_total : PySem.W.codeIn K cd_total "total" = true)
    (k_total : PySem.W.keepIn K (.ref f_total) = true)
    (a_rinit : PySem.W.findIn K (.ref c_R) "__init__" = some (some (.ref f_rinit)))
    (i_rinit : PySem.W.isFn K (.ref f_rinit) = true)
    (l_rinit : K.lookup f_rinit = some ⟨oc_rinit, od_rinit, .func (PySem.W.fnOf "__init__" "Ranks.__init__" (defArgs (inClass (top 31) 0)) (defBody (inClass (top 31) 0)) (defScope (inClass (top 31) 0)) .none kV_rinit dc_rinit pm_rinit an_rinit cd_rinit ct_rinit), sl_rinit⟩)
    (c_rinit : PySem.W.codeIn K cd_rinit "Ranks.__init__" = true)
    (k_rinit : PySem.W.keepIn K (.ref f_rinit) = true)
    (a_rlen : PySem.W.findIn K (.ref c_R) "lengthen" = some (some (.ref f_rlen)))
    (i_rlen : PySem.W.isFn K (.ref f_rlen) = true)
    (l_rlen : K.lookup f_rlen = some ⟨oc_rlen, od_rlen, .func (PySem.W.fnOf "lengthen" "Ranks.lengthen" (defArgs (inClass (top 31) 1)) (defBody (inClass (top 31) 1)) (defScope (inClass (top 31) 1)) .none kV_rlen dc_rlen pm_rlen an_rlen cd_rlen ct_rlen), sl_rlen⟩)
    (c_rlen : PySem.W.codeIn K cd_rlen "Ranks.lengthen" = true)
    (k_rlen : PySem.W.keepIn K (.ref f_rlen) = true)
    (a_rfrom : PySem.W.findIn K (.ref c_R) "many_from" = some (some (.ref f_rfrom)))
    (i_rfrom : PySem.W.isFn K (.ref f_rfrom) = true)
    (l_rfrom : K.lookup f_rfrom = some ⟨oc_rfrom, od_rfrom, .func (PySem.W.fnOf "many_from" "Ranks.many_from" (defArgs (inClass (top 31) 2)) (defBody (inClass (top 31) 2)) (defScope (inClass (top 31) 2)) .none kV_rfrom dc_rfrom pm_rfrom an_rfrom cd_rfrom ct_rfrom), sl_rfrom⟩)
    (c_rfrom : PySem.W.codeIn K cd_rfrom "Ranks.many_from" = true)
    (k_rfrom : PySem.W.keepIn K (.ref f_rfrom) = true)
    (a_rshort : PySem.W.findIn K (.ref c_R) "shorter" = some (some (.ref f_rshort)))
    (i_rshort : PySem.W.isFn K (.ref f_rshort) = true)
    (l_rshort : K.lookup f_rshort = some ⟨oc_rshort, od_rshort, .func (PySem.W.fnOf "shorter" "Ranks.shorter" (defArgs (inClass (top 31) 3)) (defBody (inClass (top 31) 3)) (defScope (inClass (top 31) 3)) .none kV_rshort dc_rshort pm_rshort an_rshort cd_rshort ct_rshort), sl_rshort⟩)
    (c_rshort : PySem.W.codeIn K cd_rshort "Ranks.shorter" = true)
    (k_rshort : PySem.W.keepIn K (.ref f_rshort) = true)
    (a_rless : PySem.W.findIn K (.ref c_R) "lesser" = some (some (.ref f_rless)))
    (i_rless : PySem.W.isFn K (.ref f_rless) = true)
    (l_rless : K.lookup f_rless = some ⟨oc_rless, od_rless, .func (PySem.W.fnOf "lesser" "Ranks.lesser" (defArgs (inClass (top 31) 4)) (defBody (inClass (top 31) 4)) (defScope (inClass (top 31) 4)) .none kV_rless dc_rless pm_rless an_rless cd_rless ct_rless), sl_rless⟩)
    (c_rless : PySem.W.codeIn K cd_rless "Ranks.lesser" = true)
    (k_rless : PySem.W.keepIn K (.ref f_rless) = true)
    (a_rnext : PySem.W.findIn K (.ref c_R) "next_letter" = some (some (.ref f_rnext)))
    (i_rnext : PySem.W.isFn K (.ref f_rnext) = true)
    (l_rnext : K.lookup f_rnext = some ⟨oc_rnext, od_rnext, .func (PySem.W.fnOf "next_letter" "Ranks.next_letter" (defArgs (inClass (top 31) 5)) (defBody (inClass (top 31) 5)) (defScope (inClass (top 31) 5)) .none kV_rnext dc_rnext pm_rnext an_rnext cd_rnext ct_rnext), sl_rnext⟩)
    (c_rnext : PySem.W.codeIn K cd_rnext "Ranks.next_letter" = true)
    (k_rnext : PySem.W.keepIn K (.ref f_rnext) = true)
    (a_rword : PySem.W.findIn K (.ref c_R) "word_of" = some (some (.ref f_rword)))
    (i_rword : PySem.W.isFn K (.ref f_rword) = true)
    (l_rword : K.lookup f_rword = some ⟨oc_rword, od_rword, .func (PySem.W.fnOf "word_of" "Ranks.word_of" (defArgs (inClass (top 31) 6)) (defBody (inClass (top 31) 6)) (defScope (inClass (top 31) 6)) .none kV_rword dc_rword pm_rword an_rword cd_rword ct_rword), sl_rword⟩)
    (c_rword : PySem.W.codeIn K cd_rword "Ranks.word_of" = true)
    (k_rword : PySem.W.keepIn K (.ref f_rword) = true)
    (a_many_ahead : PySem.W.nsIn K mainGlobals "many_ahead" = some (some (.ref f_many_ahead)))
    (l_many_ahead : K.lookup f_many_ahead = some ⟨oc_many_ahead, od_many_ahead, .func (PySem.W.fnOf "many_ahead" "many_ahead" (defArgs (top 32)) (defBody (top 32)) (defScope (top 32)) .none kV_many_ahead dc_many_ahead pm_many_ahead an_many_ahead cd_many_ahead ct_many_ahead), sl_many_ahead⟩)
    (c_many_ahead : PySem.W.codeIn K cd_many_ahead "many_ahead" = true)
    (k_many_ahead : PySem.W.keepIn K (.ref f_many_ahead) = true)
    (a_check_rank : PySem.W.nsIn K mainGlobals "check_rank" = some (some (.ref f_check_rank)))
    (l_check_rank : K.lookup f_check_rank = some ⟨oc_check_rank, od_check_rank, .func (PySem.W.fnOf "check_rank" "check_rank" (defArgs (top 33)) (defBody (top 33)) (defScope (top 33)) .none kV_check_rank dc_check_rank pm_check_rank an_check_rank cd_check_rank ct_check_rank), sl_check_rank⟩)
    (c_check_rank : PySem.W.codeIn K cd_check_rank "check_rank" = true)
    (k_check_rank : PySem.W.keepIn K (.ref f_check_rank) = true)
    (a_word_at : PySem.W.nsIn K mainGlobals "word_at" = some (some (.ref f_word_at)))
    (l_word_at : K.lookup f_word_at = some ⟨oc_word_at, od_word_at, .func (PySem.W.fnOf "word_at" "word_at" (defArgs (top 34)) (defBody (top 34)) (defScope (top 34)) .none kV_word_at dc_word_at pm_word_at an_word_at cd_word_at ct_word_at), sl_word_at⟩)
    (c_word_at : PySem.W.codeIn K cd_word_at "word_at" = true)
    (k_word_at : PySem.W.keepIn K (.ref f_word_at) = true)
    (a__law_deck : PySem.W.nsIn K mainGlobals "_law_deck" = some (some (.ref f__law_deck)))
    (l__law_deck : K.lookup f__law_deck = some ⟨oc__law_deck, od__law_deck, .func (PySem.W.fnOf "_law_deck" "_law_deck" (defArgs (top 36)) (defBody (top 36)) (defScope (top 36)) .none kV__law_deck dc__law_deck pm__law_deck an__law_deck cd__law_deck ct__law_deck), sl__law_deck⟩)
    (c__law_deck : PySem.W.codeIn K cd__law_deck "_law_deck" = true)
    (k__law_deck : PySem.W.keepIn K (.ref f__law_deck) = true)
    (a__law_draw : PySem.W.nsIn K mainGlobals "_law_draw" = some (some (.ref f__law_draw)))
    (l__law_draw : K.lookup f__law_draw = some ⟨oc__law_draw, od__law_draw, .func (PySem.W.fnOf "_law_draw" "_law_draw" (defArgs (top 37)) (defBody (top 37)) (defScope (top 37)) .none kV__law_draw dc__law_draw pm__law_draw an__law_draw cd__law_draw ct__law_draw), sl__law_draw⟩)
    (c__law_draw : PySem.W.codeIn K cd__law_draw "_law_draw" = true)
    (k__law_draw : PySem.W.keepIn K (.ref f__law_draw) = true)
    (a__law_same : PySem.W.nsIn K mainGlobals "_law_same" = some (some (.ref f__law_same)))
    (l__law_same : K.lookup f__law_same = some ⟨oc__law_same, od__law_same, .func (PySem.W.fnOf "_law_same" "_law_same" (defArgs (top 39)) (defBody (top 39)) (defScope (top 39)) .none kV__law_same dc__law_same pm__law_same an__law_same cd__law_same ct__law_same), sl__law_same⟩)
    (c__law_same : PySem.W.codeIn K cd__law_same "_law_same" = true)
    (k__law_same : PySem.W.keepIn K (.ref f__law_same) = true)
    (a__law_counts : PySem.W.nsIn K mainGlobals "_law_counts" = some (some (.ref f__law_counts)))
    (l__law_counts : K.lookup f__law_counts = some ⟨oc__law_counts, od__law_counts, .func (PySem.W.fnOf "_law_counts" "_law_counts" (defArgs (top 40)) (defBody (top 40)) (defScope (top 40)) .none kV__law_counts dc__law_counts pm__law_counts an__law_counts cd__law_counts ct__law_counts), sl__law_counts⟩)
    (c__law_counts : PySem.W.codeIn K cd__law_counts "_law_counts" = true)
    (k__law_counts : PySem.W.keepIn K (.ref f__law_counts) = true)
    (a__law_rank : PySem.W.nsIn K mainGlobals "_law_rank" = some (some (.ref f__law_rank)))
    (l__law_rank : K.lookup f__law_rank = some ⟨oc__law_rank, od__law_rank, .func (PySem.W.fnOf "_law_rank" "_law_rank" (defArgs (top 41)) (defBody (top 41)) (defScope (top 41)) .none kV__law_rank dc__law_rank pm__law_rank an__law_rank cd__law_rank ct__law_rank), sl__law_rank⟩)
    (c__law_rank : PySem.W.codeIn K cd__law_rank "_law_rank" = true)
    (k__law_rank : PySem.W.keepIn K (.ref f__law_rank) = true)
    (a__law_unranked : PySem.W.nsIn K mainGlobals "_law_unranked" = some (some (.ref f__law_unranked)))
    (l__law_unranked : K.lookup f__law_unranked = some ⟨oc__law_unranked, od__law_unranked, .func (PySem.W.fnOf "_law_unranked" "_law_unranked" (defArgs (top 42)) (defBody (top 42)) (defScope (top 42)) .none kV__law_unranked dc__law_unranked pm__law_unranked an__law_unranked cd__law_unranked ct__law_unranked), sl__law_unranked⟩)
    (c__law_unranked : PySem.W.codeIn K cd__law_unranked "_law_unranked" = true)
    (k__law_unranked : PySem.W.keepIn K (.ref f__law_unranked) = true)
    (a__law_table : PySem.W.nsIn K mainGlobals "_law_table" = some (some (.ref f__law_table)))
    (l__law_table : K.lookup f__law_table = some ⟨oc__law_table, od__law_table, .func (PySem.W.fnOf "_law_table" "_law_table" (defArgs (top 43)) (defBody (top 43)) (defScope (top 43)) .none kV__law_table dc__law_table pm__law_table an__law_table cd__law_table ct__law_table), sl__law_table⟩)
    (c__law_table : PySem.W.codeIn K cd__law_table "_law_table" = true)
    (k__law_table : PySem.W.keepIn K (.ref f__law_table) = true)
    (a__law_many : PySem.W.nsIn K mainGlobals "_law_many" = some (some (.ref f__law_many)))
    (l__law_many : K.lookup f__law_many = some ⟨oc__law_many, od__law_many, .func (PySem.W.fnOf "_law_many" "_law_many" (defArgs (top 44)) (defBody (top 44)) (defScope (top 44)) .none kV__law_many dc__law_many pm__law_many an__law_many cd__law_many ct__law_many), sl__law_many⟩)
    (c__law_many : PySem.W.codeIn K cd__law_many "_law_many" = true)
    (k__law_many : PySem.W.keepIn K (.ref f__law_many) = true)
    (a__law_asked_word : PySem.W.nsIn K mainGlobals "_law_asked_word" = some (some (.ref f__law_asked_word)))
    (l__law_asked_word : K.lookup f__law_asked_word = some ⟨oc__law_asked_word, od__law_asked_word, .func (PySem.W.fnOf "_law_asked_word" "_law_asked_word" (defArgs (top 45)) (defBody (top 45)) (defScope (top 45)) .none kV__law_asked_word dc__law_asked_word pm__law_asked_word an__law_asked_word cd__law_asked_word ct__law_asked_word), sl__law_asked_word⟩)
    (c__law_asked_word : PySem.W.codeIn K cd__law_asked_word "_law_asked_word" = true)
    (k__law_asked_word : PySem.W.keepIn K (.ref f__law_asked_word) = true)
    (a__law_asked_number : PySem.W.nsIn K mainGlobals "_law_asked_number" = some (some (.ref f__law_asked_number)))
    (l__law_asked_number : K.lookup f__law_asked_number = some ⟨oc__law_asked_number, od__law_asked_number, .func (PySem.W.fnOf "_law_asked_number" "_law_asked_number" (defArgs (top 46)) (defBody (top 46)) (defScope (top 46)) .none kV__law_asked_number dc__law_asked_number pm__law_asked_number an__law_asked_number cd__law_asked_number ct__law_asked_number), sl__law_asked_number⟩)
    (c__law_asked_number : PySem.W.codeIn K cd__law_asked_number "_law_asked_number" = true)
    (k__law_asked_number : PySem.W.keepIn K (.ref f__law_asked_number) = true)
    (a__law_refused : PySem.W.nsIn K mainGlobals "_law_refused" = some (some (.ref f__law_refused)))
    (l__law_refused : K.lookup f__law_refused = some ⟨oc__law_refused, od__law_refused, .func (PySem.W.fnOf "_law_refused" "_law_refused" (defArgs (top 47)) (defBody (top 47)) (defScope (top 47)) .none kV__law_refused dc__law_refused pm__law_refused an__law_refused cd__law_refused ct__law_refused), sl__law_refused⟩)
    (c__law_refused : PySem.W.codeIn K cd__law_refused "_law_refused" = true)
    (k__law_refused : PySem.W.keepIn K (.ref f__law_refused) = true)
    (a__law_all : PySem.W.nsIn K mainGlobals "_law_all" = some (some (.ref f__law_all)))
    (l__law_all : K.lookup f__law_all = some ⟨oc__law_all, od__law_all, .func (PySem.W.fnOf "_law_all" "_law_all" (defArgs (top 48)) (defBody (top 48)) (defScope (top 48)) .none kV__law_all dc__law_all pm__law_all an__law_all cd__law_all ct__law_all), sl__law_all⟩)
    (c__law_all : PySem.W.codeIn K cd__law_all "_law_all" = true)
    (k__law_all : PySem.W.keepIn K (.ref f__law_all) = true)
    (a_law : PySem.W.nsIn K mainGlobals "law" = some (some (.ref f_law)))
    (l_law : K.lookup f_law = some ⟨oc_law, od_law, .func (PySem.W.fnOf "law" "law" (defArgs (top 49)) (defBody (top 49)) (defScope (top 49)) .none kV_law dc_law pm_law an_law cd_law ct_law), sl_law⟩)
    (c_law : PySem.W.codeIn K cd_law "law" = true)
    (k_law : PySem.W.keepIn K (.ref f_law) = true)
    : ∃ fd : FuncData, (∀ (s : Shared) (v : Value), BindsTo s fd ⟨[v], []⟩ [("script", v)]) ∧ ∀ base : Heap, K.In base → base.Ns mainGlobals mg → FnA P w K mg base (L2N.CX P w) 14 fa fd ["script"] (spD K 1 P_all) := by
  have e := hfa.symm.trans (PySem.W.mg_of X G a_law)
  cases e
  have M : Md mg := ⟨PySem.W.mg_none_of X G z_isi, PySem.W.mg_none_of X G z_int, PySem.W.mg_none_of X G z_bool, PySem.W.mg_none_of X G z_tuple, PySem.W.mg_none_of X G z_list, PySem.W.mg_none_of X G z_all, PySem.W.mg_none_of X G z_len, PySem.W.mg_none_of X G z_range, PySem.W.mg_none_of X G z_sorted, PySem.W.mg_none_of X G z_enumerate, PySem.W.mg_none_of X G z_abs, PySem.W.mg_none_of X G z_max, PySem.W.mg_none_of X G z_repr, PySem.W.mg_none_of X G z_verr, PySem.W.mg_none_of X G z_sum, PySem.W.mg_none_of X G z_any, PySem.W.mg_none_of X G z_min⟩
  have oex_num : OexC K c_num := ⟨⟨nm_num, q_num, N_num, bs_num, bm_num, sn_num, sub_num, ab_num, col_num, dd_num, m0_num, m1_num, m2_num, m3_num, m5_num, xL_num, xM_num⟩, sa_num, ex_num, ty_num, kC_num⟩
  have xf_num : XfC K c_num := ⟨ga_num, gg_num, ex_num, hd_num⟩
  have FI_num := fun_mk (st := inClass (top 2) 0) lI_num cI_num kI_num
  have bI_num := FI_num.binds (ps := ["self", "value"]) fun _ _ _ _ _ _ us hl => match us, hl with | [_, _], _ => rfl
  have oex_word : OexC K c_word := ⟨⟨nm_word, q_word, N_word, bs_word, bm_word, sn_word, sub_word, ab_word, col_word, dd_word, m0_word, m1_word, m2_word, m3_word, m5_word, xL_word, xM_word⟩, sa_word, ex_word, ty_word, kC_word⟩
  have xf_word : XfC K c_word := ⟨ga_word, gg_word, ex_word, hd_word⟩
  have FI_word := fun_mk (st := inClass (top 3) 0) lI_word cI_word kI_word
  have bI_word := FI_word.binds (ps := ["self", "value"]) fun _ _ _ _ _ _ us hl => match us, hl with | [_, _], _ => rfl
  have cls_M : ClsK K c_M ["letters", "table", "ends"] := ⟨⟨pg_M, hd_M, po_M, sa_M⟩, fun f hf => by
    have hf' : f = ("letters" : Str) ∨ f = ("table" : Str) ∨ f = ("ends" : Str) := by simpa using hf
    rcases hf' with e | e | e <;> subst e
    · exact no0_M
    · exact no1_M
    · exact no2_M⟩
  have cls_G : ClsK K c_G ["letters", "numbers", "known", "table", "ends"] := ⟨⟨pg_G, hd_G, po_G, sa_G⟩, fun f hf => by
    have hf' : f = ("letters" : Str) ∨ f = ("numbers" : Str) ∨ f = ("known" : Str) ∨ f = ("table" : Str) ∨ f = ("ends" : Str) := by simpa using hf
    rcases hf' with e | e | e | e | e <;> subst e
    · exact no0_G
    · exact no1_G
    · exact no2_G
    · exact no3_G
    · exact no4_G⟩
  have cls_R : ClsK K c_R ["machine", "many"] := ⟨⟨pg_R, hd_R, po_R, sa_R⟩, fun f hf => by
    have hf' : f = ("machine" : Str) ∨ f = ("many" : Str) := by simpa using hf
    rcases hf' with e | e <;> subst e
    · exact no0_R
    · exact no1_R⟩
  have Ms : Ms mg := ⟨PySem.W.mg_none_of X G z_str⟩
  have Em : Em K c_num c_word := ⟨em_n, em_w, xf_num, xf_word, nf_num, nf_word⟩
  have F_is_integer := fun_mk (st := (top 6)) l_is_integer c_is_integer k_is_integer
  have b_is_integer := F_is_integer.binds (ps := ["value"]) fun _ _ _ _ _ _ us hl => match us, hl with | [_], _ => rfl
  have F_is_number := fun_mk (st := (top 7)) l_is_number c_is_number k_is_number
  have b_is_number := F_is_number.binds (ps := ["value"]) fun _ _ _ _ _ _ us hl => match us, hl with | [_], _ => rfl
  have F_is_sequence := fun_mk (st := (top 8)) l_is_sequence c_is_sequence k_is_sequence
  have b_is_sequence := F_is_sequence.binds (ps := ["value"]) fun _ _ _ _ _ _ us hl => match us, hl with | [_], _ => rfl
  have F_is_word := fun_mk (st := (top 9)) l_is_word c_is_word k_is_word
  have b_is_word := F_is_word.binds (ps := ["value", "letters"]) fun _ _ _ _ _ _ us hl => match us, hl with | [_, _], _ => rfl
  have F_check_word := fun_mk (st := (top 10)) l_check_word c_check_word k_check_word
  have b_check_word := F_check_word.binds (ps := ["word", "letters"]) fun _ _ _ _ _ _ us hl => match us, hl with | [_, _], _ => rfl
  have F_is_row := fun_mk (st := (top 13)) l_is_row c_is_row k_is_row
  have b_is_row := F_is_row.binds (ps := ["row", "letters", "states"]) fun _ _ _ _ _ _ us hl => match us, hl with | [_, _, _], _ => rfl
  have F_is_bit := fun_mk (st := (top 14)) l_is_bit c_is_bit k_is_bit
  have b_is_bit := F_is_bit.binds (ps := ["value"]) fun _ _ _ _ _ _ us hl => match us, hl with | [_], _ => rfl
  have F_check_machine := fun_mk (st := (top 15)) l_check_machine c_check_machine k_check_machine
  have b_check_machine := F_check_machine.binds (ps := ["letters", "table", "ends"]) fun _ _ _ _ _ _ us hl => match us, hl with | [_, _, _], _ => rfl
  have F_minit := fun_mk (st := (inClass (top 16) 0)) l_minit c_minit k_minit
  have b_minit := F_minit.binds (ps := ["self", "letters", "table", "ends"]) fun _ _ _ _ _ _ us hl => match us, hl with | [_, _, _, _], _ => rfl
  have F_mlen := fun_mk (st := (inClass (top 16) 2)) l_mlen c_mlen k_mlen
  have b_mlen := F_mlen.binds (ps := ["self"]) fun _ _ _ _ _ _ us hl => match us, hl with | [_], _ => rfl
  have F_mafter := fun_mk (st := (inClass (top 16) 3)) l_mafter c_mafter k_mafter
  have b_mafter := F_mafter.binds (ps := ["self", "word"]) fun _ _ _ _ _ _ us hl => match us, hl with | [_, _], _ => rfl
  have F_mtakes := fun_mk (st := (inClass (top 16) 4)) l_mtakes c_mtakes k_mtakes
  have b_mtakes := F_mtakes.binds (ps := ["self", "word"]) fun _ _ _ _ _ _ us hl => match us, hl with | [_, _], _ => rfl
  have F_met_states := fun_mk (st := (top 17)) l_met_states c_met_states k_met_states
  have b_met_states := F_met_states.binds (ps := ["machine"]) fun _ _ _ _ _ _ us hl => match us, hl with | [_], _ => rfl
  have F_ending_states := fun_mk (st := (top 18)) l_ending_states c_ending_states k_ending_states
  have b_ending_states := F_ending_states.binds (ps := ["machine"]) fun _ _ _ _ _ _ us hl => match us, hl with | [_], _ => rfl
  have F_live_states := fun_mk (st := (top 19)) l_live_states c_live_states k_live_states
  have b_live_states := F_live_states.binds (ps := ["machine"]) fun _ _ _ _ _ _ us hl => match us, hl with | [_], _ => rfl
  have F_ginit := fun_mk (st := (inClass (top 21) 0)) l_ginit c_ginit k_ginit
  have b_ginit := F_ginit.binds (ps := ["self", "letters", "first"]) fun _ _ _ _ _ _ us hl => match us, hl with | [_, _, _], _ => rfl
  have F_gopen := fun_mk (st := (inClass (top 21) 1)) l_gopen c_gopen k_gopen
  have b_gopen := F_gopen.binds (ps := ["self"]) fun _ _ _ _ _ _ us hl => match us, hl with | [_], _ => rfl
  have F_gnext := fun_mk (st := (inClass (top 21) 2)) l_gnext c_gnext k_gnext
  have b_gnext := F_gnext.binds (ps := ["self"]) fun _ _ _ _ _ _ us hl => match us, hl with | [_], _ => rfl
  have F_gnum := fun_mk (st := (inClass (top 21) 3)) l_gnum c_gnum k_gnum
  have b_gnum := F_gnum.binds (ps := ["self", "key"]) fun _ _ _ _ _ _ us hl => match us, hl with | [_, _], _ => rfl
  have F_gput := fun_mk (st := (inClass (top 21) 4)) l_gput c_gput k_gput
  have b_gput := F_gput.binds (ps := ["self", "keys", "is_end"]) fun _ _ _ _ _ _ us hl => match us, hl with | [_, _, _], _ => rfl
  have F_gmach := fun_mk (st := (inClass (top 21) 5)) l_gmach c_gmach k_gmach
  have b_gmach := F_gmach.binds (ps := ["self"]) fun _ _ _ _ _ _ us hl => match us, hl with | [_], _ => rfl
  have F_parted := fun_mk (st := (top 22)) l_parted c_parted k_parted
  have b_parted := F_parted.binds (ps := ["machine", "live"]) fun _ _ _ _ _ _ us hl => match us, hl with | [_, _], _ => rfl
  have F_least_machine := fun_mk (st := (top 23)) l_least_machine c_least_machine k_least_machine
  have b_least_machine := F_least_machine.binds (ps := ["machine"]) fun _ _ _ _ _ _ us hl => match us, hl with | [_], _ => rfl
  have F_check_length := fun_mk (st := (top 24)) l_check_length c_check_length k_check_length
  have b_check_length := F_check_length.binds (ps := ["length"]) fun _ _ _ _ _ _ us hl => match us, hl with | [_], _ => rfl
  have F_count := fun_mk (st := (top 26)) l_count c_count k_count
  have b_count := F_count.binds (ps := ["machine", "length"]) fun _ _ _ _ _ _ us hl => match us, hl with | [_, _], _ => rfl
  have F_edges_of := fun_mk (st := (top 27)) l_edges_of c_edges_of k_edges_of
  have b_edges_of := F_edges_of.binds (ps := ["machine"]) fun _ _ _ _ _ _ us hl => match us, hl with | [_], _ => rfl
  have F_reached := fun_mk (st := (top 28)) l_reached c_reached k_reached
  have b_reached := F_reached.binds (ps := ["edges"]) fun _ _ _ _ _ _ us hl => match us, hl with | [_], _ => rfl
  have F_total := fun_mk (st := (top 29)) l_total c_total k_total
  have b_total := F_total.binds (ps := ["machine"]) fun _ _ _ _ _ _ us hl => match us, hl with | [_], _ => rfl
  have F_rinit := fun_mk (st := (inClass (top 31) 0)) l_rinit c_rinit k_rinit
  have b_rinit := F_rinit.binds (ps := ["self", "machine"]) fun _ _ _ _ _ _ us hl => match us, hl with | [_, _], _ => rfl
  have F_rlen := fun_mk (st := (inClass (top 31) 1)) l_rlen c_rlen k_rlen
  have b_rlen := F_rlen.binds (ps := ["self"]) fun _ _ _ _ _ _ us hl => match us, hl with | [_], _ => rfl
  have F_rfrom := fun_mk (st := (inClass (top 31) 2)) l_rfrom c_rfrom k_rfrom
  have b_rfrom := F_rfrom.binds (ps := ["self", "state", "length"]) fun _ _ _ _ _ _ us hl => match us, hl with | [_, _, _], _ => rfl
  have F_rshort := fun_mk (st := (inClass (top 31) 3)) l_rshort c_rshort k_rshort
  have b_rshort := F_rshort.binds (ps := ["self", "length"]) fun _ _ _ _ _ _ us hl => match us, hl with | [_, _], _ => rfl
  have F_rless := fun_mk (st := (inClass (top 31) 4)) l_rless c_rless k_rless
  have b_rless := F_rless.binds (ps := ["self", "word"]) fun _ _ _ _ _ _ us hl => match us, hl with | [_, _], _ => rfl
  have F_rnext := fun_mk (st := (inClass (top 31) 5)) l_rnext c_rnext k_rnext
  have b_rnext := F_rnext.binds (ps := ["self", "state", "behind", "number"]) fun _ _ _ _ _ _ us hl => match us, hl with | [_, _, _, _], _ => rfl
  have F_rword := fun_mk (st := (inClass (top 31) 6)) l_rword c_rword k_rword
  have b_rword := F_rword.binds (ps := ["self", "length", "number"]) fun _ _ _ _ _ _ us hl => match us, hl with | [_, _, _], _ => rfl
  have F_many_ahead := fun_mk (st := (top 32)) l_many_ahead c_many_ahead k_many_ahead
  have b_many_ahead := F_many_ahead.binds (ps := ["machine", "word"]) fun _ _ _ _ _ _ us hl => match us, hl with | [_, _], _ => rfl
  have rb_many_ahead : RBinds K (PySem.W.fnOf "many_ahead" "many_ahead" (defArgs (top 32)) (defBody (top 32)) (defScope (top 32)) .none kV_many_ahead dc_many_ahead pm_many_ahead an_many_ahead cd_many_ahead ct_many_ahead) ["machine", "word"] ["word", "machine"] := ⟨fun s ws _ hl => match ws, hl with | [_, _], _ => .of_eq rfl⟩
  have F_check_rank := fun_mk (st := (top 33)) l_check_rank c_check_rank k_check_rank
  have b_check_rank := F_check_rank.binds (ps := ["number"]) fun _ _ _ _ _ _ us hl => match us, hl with | [_], _ => rfl
  have F_word_at := fun_mk (st := (top 34)) l_word_at c_word_at k_word_at
  have b_word_at := F_word_at.binds (ps := ["machine", "number"]) fun _ _ _ _ _ _ us hl => match us, hl with | [_, _], _ => rfl
  have rb_word_at : RBinds K (PySem.W.fnOf "word_at" "word_at" (defArgs (top 34)) (defBody (top 34)) (defScope (top 34)) .none kV_word_at dc_word_at pm_word_at an_word_at cd_word_at ct_word_at) ["machine", "number"] ["number", "machine"] := ⟨fun s ws _ hl => match ws, hl with | [_, _], _ => .of_eq rfl⟩
  have F__law_deck := fun_mk (st := (top 36)) l__law_deck c__law_deck k__law_deck
  have b__law_deck := F__law_deck.binds (ps := ["script"]) fun _ _ _ _ _ _ us hl => match us, hl with | [_], _ => rfl
  have F__law_draw := fun_mk (st := (top 37)) l__law_draw c__law_draw k__law_draw
  have b__law_draw := F__law_draw.binds (ps := ["deck", "many"]) fun _ _ _ _ _ _ us hl => match us, hl with | [_, _], _ => rfl
  have F__law_same := fun_mk (st := (top 39)) l__law_same c__law_same k__law_same
  have b__law_same := F__law_same.binds (ps := ["told", "due"]) fun _ _ _ _ _ _ us hl => match us, hl with | [_, _], _ => rfl
  have F__law_counts := fun_mk (st := (top 40)) l__law_counts c__law_counts k__law_counts
  have b__law_counts := F__law_counts.binds (ps := ["rows", "ends", "most"]) fun _ _ _ _ _ _ us hl => match us, hl with | [_, _, _], _ => rfl
  have F__law_rank := fun_mk (st := (top 41)) l__law_rank c__law_rank k__law_rank
  have b__law_rank := F__law_rank.binds (ps := ["rows", "counts", "word"]) fun _ _ _ _ _ _ us hl => match us, hl with | [_, _, _], _ => rfl
  have F__law_unranked := fun_mk (st := (top 42)) l__law_unranked c__law_unranked k__law_unranked
  have b__law_unranked := F__law_unranked.binds (ps := ["rows", "counts", "number"]) fun _ _ _ _ _ _ us hl => match us, hl with | [_, _, _], _ => rfl
  have F__law_table := fun_mk (st := (top 43)) l__law_table c__law_table k__law_table
  have b__law_table := F__law_table.binds (ps := ["deck", "letters"]) fun _ _ _ _ _ _ us hl => match us, hl with | [_, _], _ => rfl
  have F__law_many := fun_mk (st := (top 44)) l__law_many c__law_many k__law_many
  have b__law_many := F__law_many.binds (ps := ["rows", "counts"]) fun _ _ _ _ _ _ us hl => match us, hl with | [_, _], _ => rfl
  have F__law_asked_word := fun_mk (st := (top 45)) l__law_asked_word c__law_asked_word k__law_asked_word
  have b__law_asked_word := F__law_asked_word.binds (ps := ["deck", "made", "rows", "counts", "letters"]) fun _ _ _ _ _ _ us hl => match us, hl with | [_, _, _, _, _], _ => rfl
  have F__law_asked_number := fun_mk (st := (top 46)) l__law_asked_number c__law_asked_number k__law_asked_number
  have b__law_asked_number := F__law_asked_number.binds (ps := ["deck", "made", "rows", "counts", "many"]) fun _ _ _ _ _ _ us hl => match us, hl with | [_, _, _, _, _], _ => rfl
  have F__law_refused := fun_mk (st := (top 47)) l__law_refused c__law_refused k__law_refused
  have b__law_refused := F__law_refused.binds (ps := ["made", "letters"]) fun _ _ _ _ _ _ us hl => match us, hl with | [_, _], _ => rfl
  have F__law_all := fun_mk (st := (top 48)) l__law_all c__law_all k__law_all
  have b__law_all := F__law_all.binds (ps := ["script"]) fun _ _ _ _ _ _ us hl => match us, hl with | [_], _ => rfl
  have F_law := fun_mk (st := (top 49)) l_law c_law k_law
  refine ⟨PySem.W.fnOf "law" "law" (defArgs (top 49)) (defBody (top 49)) (defScope (top 49)) .none kV_law dc_law pm_law an_law cd_law ct_law, fun s v => .of_eq rfl, fun base _ _ => ?_⟩
  have xx_num : ExC P w K mg base "InvalidNumber" c_num "value" := ⟨oex_num, PySem.W.mg_of X G a_num, _, _, aI_num, tI_num, ok_xinit FI_num ⟨rfl, rfl, rfl, by decide, rfl, by decide, by decide⟩ rfl (by decide) (by decide) (by first | exact Or.inl rfl | exact Or.inr (Or.inl rfl)) (by first | exact Or.inl rfl | exact Or.inr (Or.inl rfl)) oex_num nf_num, bI_num⟩
  have xx_word : ExC P w K mg base "InvalidWord" c_word "value" := ⟨oex_word, PySem.W.mg_of X G a_word, _, _, aI_word, tI_word, ok_xinit FI_word ⟨rfl, rfl, rfl, by decide, rfl, by decide, by decide⟩ rfl (by decide) (by decide) (by first | exact Or.inl rfl | exact Or.inr (Or.inl rfl)) (by first | exact Or.inl rfl | exact Or.inr (Or.inl rfl)) oex_word nf_word, bI_word⟩
  have E0 : Xc P w K mg base c_num c_word := ⟨xx_num, xx_word⟩
  have d_is_integer : Df P w K mg base "is_integer" 1 1 P_is_integer := ⟨_, _, ["value"], w_is_integer M F_is_integer, PySem.W.mg_of X G a_is_integer, F_is_integer.kp, b_is_integer⟩
  have d_is_number : Df P w K mg base "is_number" 2 1 P_is_number := ⟨_, _, ["value"], w_is_number d_is_integer F_is_number, PySem.W.mg_of X G a_is_number, F_is_number.kp, b_is_number⟩
  have d_is_sequence : Df P w K mg base "is_sequence" 1 1 P_is_sequence := ⟨_, _, ["value"], w_is_sequence M F_is_sequence, PySem.W.mg_of X G a_is_sequence, F_is_sequence.kp, b_is_sequence⟩
  have d_is_word : Df P w K mg base "is_word" 3 2 P_is_word := ⟨_, _, ["value", "letters"], w_is_word M d_is_number F_is_word, PySem.W.mg_of X G a_is_word, F_is_word.kp, b_is_word⟩
  have d_check_word : Df P w K mg base "check_word" 4 2 (P_check_word c_word) := ⟨_, _, ["word", "letters"], w_check_word E0 d_is_word F_check_word, PySem.W.mg_of X G a_check_word, F_check_word.kp, b_check_word⟩
  have d_is_row : Df P w K mg base "is_row" 4 3 P_is_row := ⟨_, _, ["row", "letters", "states"], w_is_row M d_is_word F_is_row, PySem.W.mg_of X G a_is_row, F_is_row.kp, b_is_row⟩
  have d_is_bit : Df P w K mg base "is_bit" 2 1 P_is_bit := ⟨_, _, ["value"], w_is_bit d_is_integer F_is_bit, PySem.W.mg_of X G a_is_bit, F_is_bit.kp, b_is_bit⟩
  have d_check_machine : Df P w K mg base "check_machine" 5 3 P_check_machine := ⟨_, _, ["letters", "table", "ends"], w_check_machine M (PySem.W.mg_of X G g_most) d_is_integer d_is_sequence d_is_row d_is_bit F_check_machine, PySem.W.mg_of X G a_check_machine, F_check_machine.kp, b_check_machine⟩
  have d_minit : Di P w K mg base "Machine" c_M 6 4 (P_minit c_M) := ⟨⟨_, _, ["self", "letters", "table", "ends"], w_minit M cls_M d_check_machine F_minit, ⟨mk_M, a_minit, i_minit, kC_M⟩, b_minit⟩, PySem.W.mg_of X G a_M⟩
  have d_mlen : Dm P w K mg base c_M "__len__" 1 1 (P_mlen c_M) := ⟨_, _, ["self"], w_mlen M cls_M F_mlen, ⟨a_mlen, i_mlen, k_mlen⟩, b_mlen⟩
  have d_mafter : Dm P w K mg base c_M "state_after" 5 2 (P_after c_M) := ⟨_, _, ["self", "word"], w_after cls_M d_check_word F_mafter, ⟨a_mafter, i_mafter, k_mafter⟩, b_mafter⟩
  have d_mtakes : Dm P w K mg base c_M "takes" 6 2 (P_takes c_M) := ⟨_, _, ["self", "word"], w_takes cls_M d_mafter F_mtakes, ⟨a_mtakes, i_mtakes, k_mtakes⟩, b_mtakes⟩
  have d_met_states : Df P w K mg base "met_states" 1 1 (P_met c_M) := ⟨_, _, ["machine"], w_met M cls_M F_met_states, PySem.W.mg_of X G a_met_states, F_met_states.kp, b_met_states⟩
  have d_ending_states : Df P w K mg base "ending_states" 1 1 (P_end c_M) := ⟨_, _, ["machine"], w_end M cls_M F_ending_states, PySem.W.mg_of X G a_ending_states, F_ending_states.kp, b_ending_states⟩
  have d_live_states : Df P w K mg base "live_states" 2 1 (P_live c_M) := ⟨_, _, ["machine"], w_live M d_met_states d_ending_states F_live_states, PySem.W.mg_of X G a_live_states, F_live_states.kp, b_live_states⟩
  have d_ginit : Di P w K mg base "Growing" c_G 1 3 (P_ginit c_G) := ⟨⟨_, _, ["self", "letters", "first"], w_ginit cls_G F_ginit, ⟨mk_G, a_ginit, i_ginit, kC_G⟩, b_ginit⟩, PySem.W.mg_of X G a_G⟩
  have d_gopen : Dm P w K mg base c_G "is_open" 1 1 (P_gopen c_G) := ⟨_, _, ["self"], w_gopen M cls_G F_gopen, ⟨a_gopen, i_gopen, k_gopen⟩, b_gopen⟩
  have d_gnext : Dm P w K mg base c_G "next_key" 1 1 (P_gnext c_G) := ⟨_, _, ["self"], w_gnext M cls_G F_gnext, ⟨a_gnext, i_gnext, k_gnext⟩, b_gnext⟩
  have d_gnum : Dm P w K mg base c_G "number" 1 2 (P_gnum c_G) := ⟨_, _, ["self", "key"], w_gnum M cls_G F_gnum, ⟨a_gnum, i_gnum, k_gnum⟩, b_gnum⟩
  have d_gput : Dm P w K mg base c_G "put" 2 3 (P_gput c_G) := ⟨_, _, ["self", "keys", "is_end"], w_gput M cls_G d_gnum F_gput, ⟨a_gput, i_gput, k_gput⟩, b_gput⟩
  have d_gmach : Dm P w K mg base c_G "machine" 8 1 (P_gmach c_G c_M) := ⟨_, _, ["self"], w_gmach cls_G d_minit F_gmach, ⟨a_gmach, i_gmach, k_gmach⟩, b_gmach⟩
  have d_parted : Df P w K mg base "parted" 1 2 (P_parted c_M) := ⟨_, _, ["machine", "live"], w_parted M cls_M F_parted, PySem.W.mg_of X G a_parted, F_parted.kp, b_parted⟩
  have d_least_machine : Df P w K mg base "least_machine" 9 1 (P_least c_M) := ⟨_, _, ["machine"], w_least M cls_M cls_G d_live_states d_minit d_parted d_ginit d_gopen d_gnext d_gput d_gmach F_least_machine, PySem.W.mg_of X G a_least_machine, F_least_machine.kp, b_least_machine⟩
  have d_check_length : Df P w K mg base "check_length" 3 1 (P_check_num c_num) := ⟨_, _, ["length"], w_check_num E0 d_is_number F_check_length, PySem.W.mg_of X G a_check_length, F_check_length.kp, b_check_length⟩
  have d_count : Df P w K mg base "count" 4 2 (P_count c_M) := ⟨_, _, ["machine", "length"], w_count M cls_M d_check_length F_count, PySem.W.mg_of X G a_count, F_count.kp, b_count⟩
  have d_edges_of : Df P w K mg base "edges_of" 3 1 (P_edges c_M) := ⟨_, _, ["machine"], w_edges cls_M d_live_states F_edges_of, PySem.W.mg_of X G a_edges_of, F_edges_of.kp, b_edges_of⟩
  have d_reached : Df P w K mg base "reached" 1 1 P_reached := ⟨_, _, ["edges"], w_reached M F_reached, PySem.W.mg_of X G a_reached, F_reached.kp, b_reached⟩
  have d_total : Df P w K mg base "total" 10 1 (P_total c_M) := ⟨_, _, ["machine"], w_total M d_least_machine d_edges_of d_reached d_count d_mlen F_total, PySem.W.mg_of X G a_total, F_total.kp, b_total⟩
  have d_rinit : Di P w K mg base "Ranks" c_R 1 2 (P_rinit c_R c_M) := ⟨⟨_, _, ["self", "machine"], w_rinit M cls_M cls_R F_rinit, ⟨mk_R, a_rinit, i_rinit, kC_R⟩, b_rinit⟩, PySem.W.mg_of X G a_R⟩
  have d_rlen : Dm P w K mg base c_R "lengthen" 1 1 (P_rlen c_R c_M) := ⟨_, _, ["self"], w_rlen M cls_M cls_R F_rlen, ⟨a_rlen, i_rlen, k_rlen⟩, b_rlen⟩
  have d_rfrom : Dm P w K mg base c_R "many_from" 2 3 (P_from c_R c_M) := ⟨_, _, ["self", "state", "length"], w_from M cls_R d_rlen F_rfrom, ⟨a_rfrom, i_rfrom, k_rfrom⟩, b_rfrom⟩
  have d_rshort : Dm P w K mg base c_R "shorter" 3 2 (P_short c_R c_M) := ⟨_, _, ["self", "length"], w_short M cls_R d_rfrom F_rshort, ⟨a_rshort, i_rshort, k_rshort⟩, b_rshort⟩
  have d_rless : Dm P w K mg base c_R "lesser" 3 2 (P_less c_R c_M) := ⟨_, _, ["self", "word"], w_less M cls_M cls_R d_rfrom F_rless, ⟨a_rless, i_rless, k_rless⟩, b_rless⟩
  have d_rnext : Dm P w K mg base c_R "next_letter" 3 4 (P_next c_R c_M) := ⟨_, _, ["self", "state", "behind", "number"], w_next M cls_M cls_R d_rfrom F_rnext, ⟨a_rnext, i_rnext, k_rnext⟩, b_rnext⟩
  have d_rword : Dm P w K mg base c_R "word_of" 4 3 (P_word_of c_R c_M) := ⟨_, _, ["self", "length", "number"], w_word_of M cls_R d_rnext F_rword, ⟨a_rword, i_rword, k_rword⟩, b_rword⟩
  have d_many_ahead : Df P w K mg base "many_ahead" 5 2 (P_ahead c_M c_word) := ⟨_, _, ["machine", "word"], w_ahead M cls_M cls_R d_check_word d_rinit d_rshort d_rless F_many_ahead, PySem.W.mg_of X G a_many_ahead, F_many_ahead.kp, b_many_ahead⟩
  have r_many_ahead : DfR P w K mg base "many_ahead" 5 2 ["word", "machine"] (P_ahead c_M c_word) := ⟨_, _, ["machine", "word"], w_ahead M cls_M cls_R d_check_word d_rinit d_rshort d_rless F_many_ahead, PySem.W.mg_of X G a_many_ahead, F_many_ahead.kp, rb_many_ahead⟩
  have d_check_rank : Df P w K mg base "check_rank" 3 1 (P_check_num c_num) := ⟨_, _, ["number"], w_check_rank E0 d_is_number F_check_rank, PySem.W.mg_of X G a_check_rank, F_check_rank.kp, b_check_rank⟩
  have d_word_at : Df P w K mg base "word_at" 11 2 (P_word_at c_M c_num) := ⟨_, _, ["machine", "number"], w_word_at M cls_R d_check_rank d_total d_rinit d_rfrom d_rword F_word_at, PySem.W.mg_of X G a_word_at, F_word_at.kp, b_word_at⟩
  have r_word_at : DfR P w K mg base "word_at" 11 2 ["number", "machine"] (P_word_at c_M c_num) := ⟨_, _, ["machine", "number"], w_word_at M cls_R d_check_rank d_total d_rinit d_rfrom d_rword F_word_at, PySem.W.mg_of X G a_word_at, F_word_at.kp, rb_word_at⟩
  have d__law_deck : Df P w K mg base "_law_deck" 1 1 P_deck := ⟨_, _, ["script"], w_deck M F__law_deck, PySem.W.mg_of X G a__law_deck, F__law_deck.kp, b__law_deck⟩
  have d__law_draw : Df P w K mg base "_law_draw" 1 2 P_draw := ⟨_, _, ["deck", "many"], w_draw M F__law_draw, PySem.W.mg_of X G a__law_draw, F__law_draw.kp, b__law_draw⟩
  have d__law_same : Df P w K mg base "_law_same" 1 2 (P_same 0) := ⟨_, _, ["told", "due"], w_same0 M F__law_same, PySem.W.mg_of X G a__law_same, F__law_same.kp, b__law_same⟩
  have d_same1 : Df P w K mg base "_law_same" 2 2 (P_same 1) := ⟨_, _, ["told", "due"], w_sameS M Ms d__law_same F__law_same, PySem.W.mg_of X G a__law_same, F__law_same.kp, b__law_same⟩
  have d_same2 : Df P w K mg base "_law_same" 3 2 (P_same 2) := ⟨_, _, ["told", "due"], w_sameS M Ms d_same1 F__law_same, PySem.W.mg_of X G a__law_same, F__law_same.kp, b__law_same⟩
  have d_same3 : Df P w K mg base "_law_same" 4 2 (P_same 3) := ⟨_, _, ["told", "due"], w_sameS M Ms d_same2 F__law_same, PySem.W.mg_of X G a__law_same, F__law_same.kp, b__law_same⟩
  have d__law_counts : Df P w K mg base "_law_counts" 1 3 P_counts := ⟨_, _, ["rows", "ends", "most"], w_counts M F__law_counts, PySem.W.mg_of X G a__law_counts, F__law_counts.kp, b__law_counts⟩
  have d__law_rank : Df P w K mg base "_law_rank" 1 3 P_rank := ⟨_, _, ["rows", "counts", "word"], w_rank M F__law_rank, PySem.W.mg_of X G a__law_rank, F__law_rank.kp, b__law_rank⟩
  have d__law_unranked : Df P w K mg base "_law_unranked" 1 3 P_unr := ⟨_, _, ["rows", "counts", "number"], w_unr M F__law_unranked, PySem.W.mg_of X G a__law_unranked, F__law_unranked.kp, b__law_unranked⟩
  have d__law_table : Df P w K mg base "_law_table" 2 2 P_table := ⟨_, _, ["deck", "letters"], w_table M d__law_draw F__law_table, PySem.W.mg_of X G a__law_table, F__law_table.kp, b__law_table⟩
  have d__law_many : Df P w K mg base "_law_many" 1 2 P_many := ⟨_, _, ["rows", "counts"], w_many M F__law_many, PySem.W.mg_of X G a__law_many, F__law_many.kp, b__law_many⟩
  have d__law_asked_word : Df P w K mg base "_law_asked_word" 12 5 (P_askw c_M) := ⟨_, _, ["deck", "made", "rows", "counts", "letters"], w_askw M cls_M d__law_draw d__law_rank d__law_unranked d__law_same d_same1 d_many_ahead r_many_ahead d_word_at d_mtakes F__law_asked_word, PySem.W.mg_of X G a__law_asked_word, F__law_asked_word.kp, b__law_asked_word⟩
  have d__law_asked_number : Df P w K mg base "_law_asked_number" 12 5 (P_askn c_M) := ⟨_, _, ["deck", "made", "rows", "counts", "many"], w_askn M d__law_draw d__law_unranked d__law_same d_same1 d_many_ahead d_word_at r_word_at F__law_asked_number, PySem.W.mg_of X G a__law_asked_number, F__law_asked_number.kp, b__law_asked_number⟩
  have d__law_refused : DfA P w K mg base "_law_refused" 12 2 (P_refused c_M) := ⟨_, _, ["made", "letters"], w_refused M (PySem.W.mg_of X G a_word) (PySem.W.mg_of X G a_num) Em d_many_ahead d_word_at F__law_refused, PySem.W.mg_of X G a__law_refused, F__law_refused.kp, b__law_refused⟩
  have d__law_all : DfA P w K mg base "_law_all" 13 1 P_all := ⟨_, _, ["script"], w_all M cls_M d__law_deck d__law_draw d__law_table d_minit d__law_counts d__law_many d_same1 d_same3 d_word_at d__law_unranked d__law_asked_word d__law_asked_number d__law_refused F__law_all, PySem.W.mg_of X G a__law_all, F__law_all.kp, b__law_all⟩
  exact w_law (PySem.W.mg_of X G a_E) d__law_all F_law
end Dt.K84
open PySem PySem.W PyProof.Rows
set_option maxRecDepth 100000 in
set_option maxHeartbeats 0 in
theorem PySem.Challenge.cw_normalrealm_k84_ranks_holds : PySem.Challenge.rw_normalrealm_k84_ranks.Holds := by
  w_on; o_law; k_head; (case hw => w_witness2)
  k_fill
  refine L2.walk_ofA (n := 63) (k := 14) (x := "script") (l := PySem.Challenge.rw_normalrealm_k84_ranks) (sp := fun w => Dt.spD _ 1 Dt.K84.P_all) rfl (by decide) rfl ⟨rfl, by decide, by decide⟩ (fun w h Y => PySem.W.kIn_of Y) ?F (fun _ _ a ns hl _ hS => Dt.K84.sp_law hl hS)
  case F =>
    intro w mg fa h KX G hmg
    refine' Dt.K84.all_mk KX G hmg ?z_isi ?z_int ?z_bool ?z_tuple ?z_list ?z_all ?z_len ?z_range ?z_sorted ?z_enumerate ?z_abs ?z_max ?z_repr ?z_verr ?z_sum ?z_any ?z_min ?z_str ?a_num ?a_word ?a_E ?g_most ?xL_num ?xM_num ?sa_num ?ga_num ?gg_num ?ex_num ?ty_num ?hd_num ?kC_num ?nf_num ?aI_num ?tI_num ?lI_num ?cI_num ?kI_num ?xL_word ?xM_word ?sa_word ?ga_word ?gg_word ?ex_word ?ty_word ?hd_word ?kC_word ?nf_word ?aI_word ?tI_word ?lI_word ?cI_word ?kI_word ?a_M ?pg_M ?hd_M ?po_M ?sa_M ?mk_M ?kC_M ?no0_M ?no1_M ?no2_M ?a_G ?pg_G ?hd_G ?po_G ?sa_G ?mk_G ?kC_G ?no0_G ?no1_G ?no2_G ?no3_G ?no4_G ?a_R ?pg_R ?hd_R ?po_R ?sa_R ?mk_R ?kC_R ?no0_R ?no1_R ?em_n ?em_w ?a_is_integer ?l_is_integer ?c_is_integer ?k_is_integer ?a_is_number ?l_is_number ?c_is_number ?k_is_number ?a_is_sequence ?l_is_sequence ?c_is_sequence ?k_is_sequence ?a_is_word ?l_is_word ?c_is_word ?k_is_word ?a_check_word ?l_check_word ?c_check_word ?k_check_word ?a_is_row ?l_is_row ?c_is_row ?k_is_row ?a_is_bit ?l_is_bit ?c_is_bit ?k_is_bit ?a_check_machine ?l_check_machine ?c_check_machine ?k_check_machine ?a_minit ?i_minit ?l_minit ?c_minit ?k_minit ?a_mlen ?i_mlen ?l_mlen ?c_mlen ?k_mlen ?a_mafter ?i_mafter ?l_mafter ?c_mafter ?k_mafter ?a_mtakes ?i_mtakes ?l_mtakes ?c_mtakes ?k_mtakes ?a_met_states ?l_met_states ?c_met_states ?k_met_states ?a_ending_states ?l_ending_states ?c_ending_states ?k_ending_states ?a_live_states ?l_live_states ?c_live_states ?k_live_states ?a_ginit ?i_ginit ?l_ginit ?c_ginit ?k_ginit ?a_gopen ?i_gopen ?l_gopen ?c_gopen ?k_gopen ?a_gnext ?i_gnext ?l_gnext ?c_gnext ?k_gnext ?a_gnum ?i_gnum ?l_gnum ?c_gnum ?k_gnum ?a_gput ?i_gput ?l_gput ?c_gput ?k_gput ?a_gmach ?i_gmach ?l_gmach ?c_gmach ?k_gmach ?a_parted ?l_parted ?c_parted ?k_parted ?a_least_machine ?l_least_machine ?c_least_machine ?k_least_machine ?a_check_length ?l_check_length ?c_check_length ?k_check_length ?a_count ?l_count ?c_count ?k_count ?a_edges_of ?l_edges_of ?c_edges_of ?k_edges_of ?a_reached ?l_reached ?c_reached ?k_reached ?a_total ?l_total ?c_total ?k_total ?a_rinit ?i_rinit ?l_rinit ?c_rinit ?k_rinit ?a_rlen ?i_rlen ?l_rlen ?c_rlen ?k_rlen ?a_rfrom ?i_rfrom ?l_rfrom ?c_rfrom ?k_rfrom ?a_rshort ?i_rshort ?l_rshort ?c_rshort ?k_rshort ?a_rless ?i_rless ?l_rless ?c_rless ?k_rless ?a_rnext ?i_rnext ?l_rnext ?c_rnext ?k_rnext ?a_rword ?i_rword ?l_rword ?c_rword ?k_rword ?a_many_ahead ?l_many_ahead ?c_many_ahead ?k_many_ahead ?a_check_rank ?l_check_rank ?c_check_rank ?k_check_rank ?a_word_at ?l_word_at ?c_word_at ?k_word_at ?a__law_deck ?l__law_deck ?c__law_deck ?k__law_deck ?a__law_draw ?l__law_draw ?c__law_draw ?k__law_draw ?a__law_same ?l__law_same ?c__law_same ?k__law_same ?a__law_counts ?l__law_counts ?c__law_counts ?k__law_counts ?a__law_rank ?l__law_rank ?c__law_rank ?k__law_rank ?a__law_unranked ?l__law_unranked ?c__law_unranked ?k__law_unranked ?a__law_table ?l__law_table ?c__law_table ?k__law_table ?a__law_many ?l__law_many ?c__law_many ?k__law_many ?a__law_asked_word ?l__law_asked_word ?c__law_asked_word ?k__law_asked_word ?a__law_asked_number ?l__law_asked_number ?c__law_asked_number ?k__law_asked_number ?a__law_refused ?l__law_refused ?c__law_refused ?k__law_refused ?a__law_all ?l__law_all ?c__law_all ?k__law_all ?a_law ?l_law ?c_law ?k_law
    (case z_isi => k_is)
    (case z_int => k_is)
    (case z_bool => k_is)
    (case z_tuple => k_is)
    (case z_list => k_is)
    (case z_all => k_is)
    (case z_len => k_is)
    (case z_range => k_is)
    (case z_sorted => k_is)
    (case z_enumerate => k_is)
    (case z_abs => k_is)
    (case z_max => k_is)
    (case z_repr => k_is)
    (case z_verr => k_is)
    (case z_sum => k_is)
    (case z_any => k_is)
    (case z_min => k_is)
    (case z_str => k_is)
    (case a_num => k_is)
    (case a_word => k_is)
    (case a_E => k_is)
    (case g_most => k_is)
    (case xL_num => k_is)
    (case xM_num => rfl)
    (case sa_num => k_is)
    (case ga_num => k_is)
    (case gg_num => k_is)
    (case ex_num => k_is)
    (case ty_num => k_is)
    (case hd_num => k_is)
    (case kC_num => k_is)
    (case nf_num => k_is)
    (case aI_num => k_is)
    (case tI_num => k_is)
    (case lI_num => k_is)
    (case cI_num => k_is)
    (case kI_num => k_is)
    (case xL_word => k_is)
    (case xM_word => rfl)
    (case sa_word => k_is)
    (case ga_word => k_is)
    (case gg_word => k_is)
    (case ex_word => k_is)
    (case ty_word => k_is)
    (case hd_word => k_is)
    (case kC_word => k_is)
    (case nf_word => k_is)
    (case aI_word => k_is)
    (case tI_word => k_is)
    (case lI_word => k_is)
    (case cI_word => k_is)
    (case kI_word => k_is)
    (case a_M => k_is)
    (case pg_M => k_is)
    (case hd_M => k_is)
    (case po_M => k_is)
    (case sa_M => k_is)
    (case mk_M => k_is)
    (case kC_M => k_is)
    (case no0_M => k_is)
    (case no1_M => k_is)
    (case no2_M => k_is)
    (case a_G => k_is)
    (case pg_G => k_is)
    (case hd_G => k_is)
    (case po_G => k_is)
    (case sa_G => k_is)
    (case mk_G => k_is)
    (case kC_G => k_is)
    (case no0_G => k_is)
    (case no1_G => k_is)
    (case no2_G => k_is)
    (case no3_G => k_is)
    (case no4_G => k_is)
    (case a_R => k_is)
    (case pg_R => k_is)
    (case hd_R => k_is)
    (case po_R => k_is)
    (case sa_R => k_is)
    (case mk_R => k_is)
    (case kC_R => k_is)
    (case no0_R => k_is)
    (case no1_R => k_is)
    (case em_n => kernel_rfl)
    (case em_w => kernel_rfl)
    (case a_is_integer => k_is)
    (case l_is_integer => k_is)
    (case c_is_integer => k_is)
    (case k_is_integer => k_is)
    (case a_is_number => k_is)
    (case l_is_number => k_is)
    (case c_is_number => k_is)
    (case k_is_number => k_is)
    (case a_is_sequence => k_is)
    (case l_is_sequence => k_is)
    (case c_is_sequence => k_is)
    (case k_is_sequence => k_is)
    (case a_is_word => k_is)
    (case l_is_word => k_is)
    (case c_is_word => k_is)
    (case k_is_word => k_is)
    (case a_check_word => k_is)
    (case l_check_word => k_is)
    (case c_check_word => k_is)
    (case k_check_word => k_is)
    (case a_is_row => k_is)
    (case l_is_row => k_is)
    (case c_is_row => k_is)
    (case k_is_row => k_is)
    (case a_is_bit => k_is)
    (case l_is_bit => k_is)
    (case c_is_bit => k_is)
    (case k_is_bit => k_is)
    (case a_check_machine => k_is)
    (case l_check_machine => k_is)
    (case c_check_machine => k_is)
    (case k_check_machine => k_is)
    (case a_minit => k_is)
    (case i_minit => k_is)
    (case l_minit => k_is)
    (case c_minit => k_is)
    (case k_minit => k_is)
    (case a_mlen => k_is)
    (case i_mlen => k_is)
    (case l_mlen => k_is)
    (case c_mlen => k_is)
    (case k_mlen => k_is)
    (case a_mafter => k_is)
    (case i_mafter => k_is)
    (case l_mafter => k_is)
    (case c_mafter => k_is)
    (case k_mafter => k_is)
    (case a_mtakes => k_is)
    (case i_mtakes => k_is)
    (case l_mtakes => k_is)
    (case c_mtakes => k_is)
    (case k_mtakes => k_is)
    (case a_met_states => k_is)
    (case l_met_states => k_is)
    (case c_met_states => k_is)
    (case k_met_states => k_is)
    (case a_ending_states => k_is)
    (case l_ending_states => k_is)
    (case c_ending_states => k_is)
    (case k_ending_states => k_is)
    (case a_live_states => k_is)
    (case l_live_states => k_is)
    (case c_live_states => k_is)
    (case k_live_states => k_is)
    (case a_ginit => k_is)
    (case i_ginit => k_is)
    (case l_ginit => k_is)
    (case c_ginit => k_is)
    (case k_ginit => k_is)
    (case a_gopen => k_is)
    (case i_gopen => k_is)
    (case l_gopen => k_is)
    (case c_gopen => k_is)
    (case k_gopen => k_is)
    (case a_gnext => k_is)
    (case i_gnext => k_is)
    (case l_gnext => k_is)
    (case c_gnext => k_is)
    (case k_gnext => k_is)
    (case a_gnum => k_is)
    (case i_gnum => k_is)
    (case l_gnum => k_is)
    (case c_gnum => k_is)
    (case k_gnum => k_is)
    (case a_gput => k_is)
    (case i_gput => k_is)
    (case l_gput => k_is)
    (case c_gput => k_is)
    (case k_gput => k_is)
    (case a_gmach => k_is)
    (case i_gmach => k_is)
    (case l_gmach => k_is)
    (case c_gmach => k_is)
    (case k_gmach => k_is)
    (case a_parted => k_is)
    (case l_parted => k_is)
    (case c_parted => k_is)
    (case k_parted => k_is)
    (case a_least_machine => k_is)
    (case l_least_machine => k_is)
    (case c_least_machine => k_is)
    (case k_least_machine => k_is)
    (case a_check_length => k_is)
    (case l_check_length => k_is)
    (case c_check_length => k_is)
    (case k_check_length => k_is)
    (case a_count => k_is)
    (case l_count => k_is)
    (case c_count => k_is)
    (case k_count => k_is)
    (case a_edges_of => k_is)
    (case l_edges_of => k_is)
    (case c_edges_of => k_is)
    (case k_edges_of => k_is)
    (case a_reached => k_is)
    (case l_reached => k_is)
    (case c_reached => k_is)
    (case k_reached => k_is)
    (case a_total => k_is)
    (case l_total => k_is)
    (case c_total => k_is)
    (case k_total => k_is)
    (case a_rinit => k_is)
    (case i_rinit => k_is)
    (case l_rinit => k_is)
    (case c_rinit => k_is)
    (case k_rinit => k_is)
    (case a_rlen => k_is)
    (case i_rlen => k_is)
    (case l_rlen => k_is)
    (case c_rlen => k_is)
    (case k_rlen => k_is)
    (case a_rfrom => k_is)
    (case i_rfrom => k_is)
    (case l_rfrom => k_is)
    (case c_rfrom => k_is)
    (case k_rfrom => k_is)
    (case a_rshort => k_is)
    (case i_rshort => k_is)
    (case l_rshort => k_is)
    (case c_rshort => k_is)
    (case k_rshort => k_is)
    (case a_rless => k_is)
    (case i_rless => k_is)
    (case l_rless => k_is)
    (case c_rless => k_is)
    (case k_rless => k_is)
    (case a_rnext => k_is)
    (case i_rnext => k_is)
    (case l_rnext => k_is)
    (case c_rnext => k_is)
    (case k_rnext => k_is)
    (case a_rword => k_is)
    (case i_rword => k_is)
    (case l_rword => k_is)
    (case c_rword => k_is)
    (case k_rword => k_is)
    (case a_many_ahead => k_is)
    (case l_many_ahead => k_is)
    (case c_many_ahead => k_is)
    (case k_many_ahead => k_is)
    (case a_check_rank => k_is)
    (case l_check_rank => k_is)
    (case c_check_rank => k_is)
    (case k_check_rank => k_is)
    (case a_word_at => k_is)
    (case l_word_at => k_is)
    (case c_word_at => k_is)
    (case k_word_at => k_is)
    (case a__law_deck => k_is)
    (case l__law_deck => k_is)
    (case c__law_deck => k_is)
    (case k__law_deck => k_is)
    (case a__law_draw => k_is)
    (case l__law_draw => k_is)
    (case c__law_draw => k_is)
    (case k__law_draw => k_is)
    (case a__law_same => k_is)
    (case l__law_same => k_is)
    (case c__law_same => k_is)
    (case k__law_same => k_is)
    (case a__law_counts => k_is)
    (case l__law_counts => k_is)
    (case c__law_counts => k_is)
    (case k__law_counts => k_is)
    (case a__law_rank => k_is)
    (case l__law_rank => k_is)
    (case c__law_rank => k_is)
    (case k__law_rank => k_is)
    (case a__law_unranked => k_is)
    (case l__law_unranked => k_is)
    (case c__law_unranked => k_is)
    (case k__law_unranked => k_is)
    (case a__law_table => k_is)
    (case l__law_table => k_is)
    (case c__law_table => k_is)
    (case k__law_table => k_is)
    (case a__law_many => k_is)
    (case l__law_many => k_is)
    (case c__law_many => k_is)
    (case k__law_many => k_is)
    (case a__law_asked_word => k_is)
    (case l__law_asked_word => k_is)
    (case c__law_asked_word => k_is)
    (case k__law_asked_word => k_is)
    (case a__law_asked_number => k_is)
    (case l__law_asked_number => k_is)
    (case c__law_asked_number => k_is)
    (case k__law_asked_number => k_is)
    (case a__law_refused => k_is)
    (case l__law_refused => k_is)
    (case c__law_refused => k_is)
    (case k__law_refused => k_is)
    (case a__law_all => k_is)
    (case l__law_all => k_is)
    (case c__law_all => k_is)
    (case k__law_all => k_is)
    (case a_law => k_is)
    (case l_law => k_is)
    (case c_law => k_is)
    (case k_law => k_is)
